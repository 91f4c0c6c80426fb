import PyProof.Rows.All
import Wide.All
import OpenK.AllK
import Wide.FinOn
import HandS.Base
import HandS.Call
import HandS.List
import HandS.Comp
import HandS.Iter
import HandS.Text
import HandS.Dict
import HandS.Words
import HandS.Deep
import HandS.IsInst
import HandS.TupAny
import HandS.TupMul
import HandS.TupLe
import HandS.Style
import PyProof.ReprRoads
import HandS.Ends
import HandS.More
import HandS.Small
import OpenK.KMore
import HandS.Property
import HandS.MakeKw
import HandS.Strs
import HandS.Star
import HandS.SortRule
import KE.KSortTup
import KE.KSortTupAny
import KE.LtData
import HandS.DictTup
import HandS.ListItems
import PyProof.ReprBulk
import PyProof.Rows.ReprOcc
import PySem.Challenge.RW_turnedlooks_k04_facts_judged
set_option Elab.async false
set_option linter.all false
set_option maxRecDepth 100000
namespace Sh
open PySem PySem.Spec PyProof.Rows L2

/-- pure values; ref l: the l-th object of the store -/
inductive D where
  | non | bl (b : Bool) | int (i : Int) | str (s : Str)
  | lst (xs : List D) | tup (xs : List D) | dic (kvs : List (D × D))
  | obj (c : String) (fs : List (Str × D))
  /-- a dict whose keys are tuples -/
  | dit (kvs : List (D × D))
  | ref (l : Nat)
  /-- a list that is read alone (the script) -/
  | frl (xs : List D)
  deriving Inhabited

abbrev Sto := List D
inductive Res (α : Type) where
  | ok (a : α) (st : Sto)
  | exc (e : D) (st : Sto)
  | bad
def M (α : Type) := Sto → Res α
def M.pure {α : Type} (a : α) : M α := fun st => .ok a st
def M.bind {α β : Type} (m : M α) (f : α → M β) : M β := fun st => match m st with
  | .ok a st' => f a st'
  | .exc e st' => .exc e st'
  | .bad => .bad
instance : Monad M where
  pure := M.pure
  bind := M.bind
def M.bad {α : Type} : M α := fun _ => .bad
/-- what m gives is so -/
def M.gives {α : Type} (m : M α) (st : Sto) (P : α → Sto → Prop) : Prop := match m st with
  | .ok a st' => P a st'
  | _ => False
theorem M.gives_pure {α : Type} {a : α} {st : Sto} {P : α → Sto → Prop} : (Pure.pure a : M α).gives st P = P a st := rfl
theorem M.gives_bind {α β : Type} {m : M α} {f : α → M β} {st : Sto} {P : β → Sto → Prop} : (m >>= f).gives st P = m.gives st fun a st' => (f a).gives st' P := by
  show M.gives (M.bind m f) st P = _
  unfold M.gives M.bind
  cases m st <;> rfl
theorem M.gives_bad {α : Type} {st : Sto} {P : α → Sto → Prop} : (M.bad : M α).gives st P = False := rfl
theorem M.gives_mono {α : Type} {m : M α} {st : Sto} {P Q : α → Sto → Prop} (h : m.gives st P) (hq : ∀ a st', P a st' → Q a st') : m.gives st Q := by
  unfold M.gives at h ⊢
  cases e : m st with
  | ok a st' => rw [e] at h; exact hq _ _ h
  | exc _ _ => rw [e] at h; exact h
  | bad => rw [e] at h; exact h

/-- what is fixed: the written part, the classes by name -/
structure Gs where
  K : PySem.W.Frag
  cl : String → Option Addr

def Sub (F H : Hp) : Prop := ∀ a o, F a = some o → H a = some o
theorem Sub.refl (F : Hp) : Sub F F := fun _ _ h => h
theorem Sub.trans {A B C : Hp} (x : Sub A B) (y : Sub B C) : Sub A C := fun a o h => y a o (x a o h)
theorem Sub.free {F H : Hp} (x : Sub F H) {a : Addr} (h : H a = none) : F a = none := by
  cases e : F a with
  | none => rfl
  | some o => rw [x a o e] at h; cases h
theorem Sub.both {F H : Hp} {a : Addr} {o : HO} (x : Sub F H) : Sub (upd F a o) (upd H a o) := fun b u h => by
  by_cases e : b = a
  · subst e; rw [upd_same] at h ⊢; exact h
  · rw [upd_ne e] at h ⊢; exact x b u h
theorem Sub.addR {F H : Hp} {a : Addr} {o : HO} (x : Sub F H) (n : F a = none) : Sub F (upd H a o) := fun b u h => by
  by_cases e : b = a
  · subst e; rw [n] at h; cases h
  · rw [upd_ne e]; exact x b u h
theorem Sub.addL {F H : Hp} {a : Addr} {o : HO} (x : Sub F H) (n : H a = some o) : Sub (upd F a o) H := fun b u h => by
  by_cases e : b = a
  · subst e; rw [upd_same] at h; cases h; exact n
  · rw [upd_ne e] at h; exact x b u h
theorem Sub.seqL {K : PySem.W.Frag} {F H : Hp} {a : Addr} {xs : List V} (e : Sub F H) (h : SqL K F a xs) : SqL K H a xs := by
  rcases h with (h | ⟨o, h⟩) | h
  · exact .inl (.inl (e _ _ h))
  · exact .inl (.inr ⟨o, e _ _ h⟩)
  · exact .inr h
theorem Sub.seqT {K : PySem.W.Frag} {F H : Hp} {a : Addr} {xs : List V} (e : Sub F H) (h : SqT K F a xs) : SqT K H a xs := by
  rcases h with (h | ⟨o, h⟩) | h
  · exact .inl (.inl (e _ _ h))
  · exact .inl (.inr ⟨o, e _ _ h⟩)
  · exact .inr h

/-- the addresses of the store only grow -/
def Ext (μ μ' : List Addr) : Prop := ∃ m, μ' = μ ++ m
theorem Ext.refl (μ : List Addr) : Ext μ μ := ⟨[], by simp⟩
theorem Ext.trans {a b c : List Addr} : Ext a b → Ext b c → Ext a c := fun ⟨m, e⟩ ⟨n, e'⟩ => ⟨m ++ n, by rw [e', e, List.append_assoc]⟩
theorem Ext.get {μ μ' : List Addr} (h : Ext μ μ') {l : Nat} {a : Addr} (e : μ[l]? = some a) : μ'[l]? = some a := by
  obtain ⟨m, rfl⟩ := h
  rw [List.getElem?_append_left (List.getElem?_eq_some_iff.mp e).1]; exact e

/-- a dict with tuple keys: its entries are L (concrete) -/
def tHO (a : Addr) (L : List DictEntry) : HO := .ext fun h => ∃ o es ep, h.get? a = some o ∧ o.ExactDict ∧ o.data = .dict es ep ∧ es.toList = L ∧ L.length ≤ sizeLine ∧ (a == sysModules) = false

/-- texts as they come about here -/
def okS (s : Str) : Bool := decide (s.length ≤ 16777216) && PyData.strOk s
variable (G : Gs)

/-- a key of a flat dict -/
def D.key? : D → Option Key
  | .int i => some (.inl i)
  | .str s => some (.inr s)
  | _ => none

mutual
def Rp (μ : List Addr) (F : Hp) : D → V → Prop
  | .non, v => v = .non
  | .bl b, v => v = .bl b
  | .int i, v => v = .int i
  | .str s, v => v = .str s ∧ okS s = true
  | .lst ds, v => ds.length ≤ sizeLine ∧ ∃ a vs, v = .ref a ∧ F a = some (.lst vs) ∧ RpL μ F ds vs
  | .frl ds, v => ds.length ≤ sizeLine ∧ ∃ a vs, v = .ref a ∧ SqL G.K F a vs ∧ RpL μ F ds vs
  | .tup ds, v => ds.length ≤ sizeLine ∧ ∃ a vs, v = .ref a ∧ SqT G.K F a vs ∧ RpL μ F ds vs
  | .dic kvs, v => kvs.length ≤ sizeLine ∧ ∃ a L, v = .ref a ∧ F a = some (.dK L) ∧ RpK μ F kvs L
  | .dit kvs, v => kvs.length ≤ sizeLine ∧ ∃ a L, v = .ref a ∧ F a = some (tHO a L) ∧ RpE μ F kvs L
  | .obj c fs, v => ∃ a C dx fv, v = .ref a ∧ F a = some (.ins C dx fv) ∧ F dx = some (.own a) ∧ G.cl c = some C ∧ RpF μ F fs fv
  | .ref l, v => ∃ a, v = .ref a ∧ μ[l]? = some a
def RpL (μ : List Addr) (F : Hp) : List D → List V → Prop
  | [], vs => vs = []
  | d :: ds, vs => ∃ v r, vs = v :: r ∧ Rp μ F d v ∧ RpL μ F ds r
/-- flat keys -/
def RpK (μ : List Addr) (F : Hp) : List (D × D) → List (Key × V) → Prop
  | [], L => L = []
  | (k, d) :: r, L => ∃ q v L', L = (q, v) :: L' ∧ k.key? = some q ∧ (∀ s, q = .inr s → okS s = true) ∧ Rp μ F d v ∧ RpK μ F r L'
/-- tuple keys -/
def RpE (μ : List Addr) (F : Hp) : List (D × D) → List DictEntry → Prop
  | [], L => L = []
  | (k, d) :: r, L => ∃ e L', L = e :: L' ∧ (∃ kv, RelV kv e.key ∧ Rp μ F k kv) ∧ (∃ vv, RelV vv e.val ∧ Rp μ F d vv) ∧ RpE μ F r L'
def RpF (μ : List Addr) (F : Hp) : List (Str × D) → List (Str × V) → Prop
  | [], fv => fv = []
  | (n, d) :: r, fv => ∃ v r', fv = (n, v) :: r' ∧ Rp μ F d v ∧ RpF μ F r r'
end

section
variable {G} {μ μ' : List Addr} {F F' : Hp}
mutual
theorem Rp.mono (hm : Ext μ μ') (hs : Sub F F') : ∀ (d : D) (v : V), Rp G μ F d v → Rp G μ' F' d v
  | .non, v, h => h
  | .bl b, v, h => h
  | .int i, v, h => h
  | .str s, v, h => h
  | .lst ds, v, h => by
    obtain ⟨z, a, vs, e, q, r⟩ := h
    exact ⟨z, a, vs, e, hs _ _ q, RpL.mono hm hs ds vs r⟩
  | .frl ds, v, h => by
    obtain ⟨z, a, vs, e, q, r⟩ := h
    exact ⟨z, a, vs, e, hs.seqL q, RpL.mono hm hs ds vs r⟩
  | .tup ds, v, h => by
    obtain ⟨z, a, vs, e, q, r⟩ := h
    exact ⟨z, a, vs, e, hs.seqT q, RpL.mono hm hs ds vs r⟩
  | .dic kvs, v, h => by
    obtain ⟨z, a, L, e, q, r⟩ := h
    exact ⟨z, a, L, e, hs _ _ q, RpK.mono hm hs kvs L r⟩
  | .dit kvs, v, h => by
    obtain ⟨z, a, L, e, q, r⟩ := h
    exact ⟨z, a, L, e, hs _ _ q, RpE.mono hm hs kvs L r⟩
  | .obj c fs, v, h => by
    obtain ⟨a, C, dx, fv, e, q1, q2, q3, r⟩ := h
    exact ⟨a, C, dx, fv, e, hs _ _ q1, hs _ _ q2, q3, RpF.mono hm hs fs fv r⟩
  | .ref l, v, h => by
    obtain ⟨a, e, q⟩ := h
    exact ⟨a, e, hm.get q⟩
theorem RpL.mono (hm : Ext μ μ') (hs : Sub F F') : ∀ (ds : List D) (vs : List V), RpL G μ F ds vs → RpL G μ' F' ds vs
  | [], vs, h => h
  | d :: ds, vs, h => by
    obtain ⟨v, r, e, h1, h2⟩ := h
    exact ⟨v, r, e, Rp.mono hm hs d v h1, RpL.mono hm hs ds r h2⟩
theorem RpK.mono (hm : Ext μ μ') (hs : Sub F F') : ∀ (kvs : List (D × D)) (L : List (Key × V)), RpK G μ F kvs L → RpK G μ' F' kvs L
  | [], L, h => h
  | (k, d) :: r, L, h => by
    obtain ⟨q, v, L', e, h1, h2, h3, h4⟩ := h
    exact ⟨q, v, L', e, h1, h2, Rp.mono hm hs d v h3, RpK.mono hm hs r L' h4⟩
theorem RpE.mono (hm : Ext μ μ') (hs : Sub F F') : ∀ (kvs : List (D × D)) (L : List DictEntry), RpE G μ F kvs L → RpE G μ' F' kvs L
  | [], L, h => h
  | (k, d) :: r, L, h => by
    obtain ⟨e, L', e1, ⟨kv, h1, h2⟩, ⟨vv, h3, h4⟩, h5⟩ := h
    exact ⟨e, L', e1, ⟨kv, h1, Rp.mono hm hs k kv h2⟩, ⟨vv, h3, Rp.mono hm hs d vv h4⟩, RpE.mono hm hs r L' h5⟩
theorem RpF.mono (hm : Ext μ μ') (hs : Sub F F') : ∀ (fs : List (Str × D)) (fv : List (Str × V)), RpF G μ F fs fv → RpF G μ' F' fs fv
  | [], fv, h => h
  | (n, d) :: r, fv, h => by
    obtain ⟨v, r', e, h1, h2⟩ := h
    exact ⟨v, r', e, Rp.mono hm hs d v h1, RpF.mono hm hs r r' h2⟩
end
end

/-- a container at a that may be changed: d is what it holds -/
def ObjAt (μ : List Addr) (F H : Hp) (a : Addr) : D → Prop
  | .lst ds => F a = none ∧ ds.length ≤ sizeLine ∧ ∃ vs, H a = some (.lst vs) ∧ RpL G μ F ds vs
  | .dic kvs => F a = none ∧ kvs.length ≤ sizeLine ∧ ∃ L, H a = some (.dK L) ∧ RpK G μ F kvs L
  | .dit kvs => F a = none ∧ kvs.length ≤ sizeLine ∧ ∃ L, H a = some (tHO a L) ∧ RpE G μ F kvs L
  | .obj c fs => F a = none ∧ ∃ C dx fv, H a = some (.ins C dx fv) ∧ H dx = some (.own a) ∧ dx ∉ μ ∧ F dx = none ∧ G.cl c = some C ∧ RpF G μ F fs fv
  | _ => False
theorem ObjAt.frz {G : Gs} {μ : List Addr} {F H : Hp} {a : Addr} {d : D} (h : ObjAt G μ F H a d) : F a = none := by
  cases d <;> first | exact h.elim | exact h.1
theorem ObjAt.ex {G : Gs} {μ : List Addr} {F H : Hp} {a : Addr} {d : D} (h : ObjAt G μ F H a d) : ∃ o, H a = some o := by
  cases d <;> try exact h.elim
  · obtain ⟨_, _, vs, e, _⟩ := h; exact ⟨_, e⟩
  · obtain ⟨_, _, L, e, _⟩ := h; exact ⟨_, e⟩
  · obtain ⟨_, C, dx, fv, e, _⟩ := h; exact ⟨_, e⟩
  · obtain ⟨_, _, L, e, _⟩ := h; exact ⟨_, e⟩
/-- what an evaluation may do: more is frozen (new things alone), what stood and is none of the store stays, the store may have grown -/
structure Post (μ : List Addr) (F H : Hp) (μ' : List Addr) (F' H' : Hp) : Prop where
  subF : Sub F F'
  new : ∀ a o, F' a = some o → F a = some o ∨ H a = none
  keep : ∀ a o, H a = some o → a ∉ μ → H' a = some o
  ext : ∃ m, μ' = μ ++ m ∧ ∀ a ∈ m, H a = none
  there : ∀ a o, H a = some o → ∃ o', H' a = some o'
section
variable {G} {μ μ1 μ' : List Addr} {F F1 F' H H1 H' : Hp} {a : Addr} {d : D}
theorem Post.refl : Post μ F H μ F H := ⟨Sub.refl _, fun _ _ h => .inl h, fun _ _ h _ => h, ⟨[], by simp, by simp⟩, fun _ o h => ⟨o, h⟩⟩
theorem Post.mu (p : Post μ F H μ' F' H') : Ext μ μ' := let ⟨m, e, _⟩ := p.ext; ⟨m, e⟩
theorem Post.notin (p : Post μ F H μ' F' H') {o : HO} (h : H a = some o) (n : a ∉ μ) : a ∉ μ' := by
  obtain ⟨m, e, hm⟩ := p.ext
  subst e
  intro q
  rcases List.mem_append.mp q with q | q
  · exact n q
  · rw [hm a q] at h; cases h
theorem Post.unfrz (p : Post μ F H μ' F' H') {o : HO} (h : H a = some o) (n : F a = none) : F' a = none := by
  cases e : F' a with
  | none => rfl
  | some u =>
    rcases p.new a u e with q | q
    · rw [n] at q; cases q
    · rw [h] at q; cases q
theorem Post.free (p : Post μ F H μ' F' H') (h : H' a = none) : H a = none := by
  cases e : H a with
  | none => rfl
  | some o =>
    obtain ⟨o', e'⟩ := p.there a o e
    rw [h] at e'; cases e'
theorem Post.trans (p : Post μ F H μ1 F1 H1) (q : Post μ1 F1 H1 μ' F' H') : Post μ F H μ' F' H' where
  subF := p.subF.trans q.subF
  new := fun a o h => by
    rcases q.new a o h with h | h
    · exact p.new a o h
    · exact .inr (p.free h)
  keep := fun a o h n => q.keep a o (p.keep a o h n) (p.notin h n)
  ext := by
    obtain ⟨m, e, hm⟩ := p.ext
    obtain ⟨m', e', hm'⟩ := q.ext
    refine ⟨m ++ m', by rw [e', e, List.append_assoc], fun a ha => ?_⟩
    rcases List.mem_append.mp ha with ha | ha
    · exact hm a ha
    · exact p.free (hm' a ha)
  there := fun a o h => by
    obtain ⟨o1, h1⟩ := p.there a o h
    exact q.there a o1 h1
theorem Rp.post (p : Post μ F H μ' F' H') {v : V} (h : Rp G μ F d v) : Rp G μ' F' d v := Rp.mono p.mu p.subF d v h
theorem RpL.post (p : Post μ F H μ' F' H') {ds : List D} {vs : List V} (h : RpL G μ F ds vs) : RpL G μ' F' ds vs := RpL.mono p.mu p.subF ds vs h
/-- an unshared container stays -/
theorem ObjAt.post (p : Post μ F H μ' F' H') (h : ObjAt G μ F H a d) (n : a ∉ μ) : ObjAt G μ' F' H' a d := by
  cases d <;> try exact h.elim
  · obtain ⟨f, z, vs, e, r⟩ := h
    exact ⟨p.unfrz e f, z, vs, p.keep _ _ e n, RpL.mono p.mu p.subF _ _ r⟩
  · obtain ⟨f, z, L, e, r⟩ := h
    exact ⟨p.unfrz e f, z, L, p.keep _ _ e n, RpK.mono p.mu p.subF _ _ r⟩
  · obtain ⟨f, C, dx, fv, e1, e2, n2, f2, c, r⟩ := h
    exact ⟨p.unfrz e1 f, C, dx, fv, p.keep _ _ e1 n, p.keep _ _ e2 n2, p.notin e2 n2, p.unfrz e2 f2, c, RpF.mono p.mu p.subF _ _ r⟩
  · obtain ⟨f, z, L, e, r⟩ := h
    exact ⟨p.unfrz e f, z, L, p.keep _ _ e n, RpE.mono p.mu p.subF _ _ r⟩
end

/-- the store st lies at μ -/
structure StOk (μ : List Addr) (F H : Hp) (st : Sto) : Prop where
  sub : Sub F H
  len : μ.length = st.length
  nd : μ.Nodup
  obj : ∀ (l : Nat) (a : Addr) (d : D), μ[l]? = some a → st[l]? = some d → ObjAt G μ F H a d

/-- a slot's kind: a value; a container borrowed of the caller; a container of one's own -/
inductive Md where
  | val | bor | own
  deriving DecidableEq

abbrev Env := List (Option D)
def OwnAt (μ : List Addr) (F H : Hp) (a : Addr) (d : D) : Prop := a ∉ μ ∧ ObjAt G μ F H a d

structure EnvOk (md : List Md) (μ : List Addr) (F H : Hp) (ρ : Env) (σ : L2.St) : Prop where
  len : ρ.length = σ.length
  mdl : md.length = ρ.length
  ex : ∃ α : Nat → Option Addr, (∀ i m d, md[i]? = some m → ρ[i]? = some (some d) → ∃ v, σ[i]? = some (some v) ∧ match α i with
      | some a => v = .ref a ∧ m ≠ .val ∧ OwnAt G μ F H a d
      | none => m ≠ .own ∧ Rp G μ F d v) ∧
    (∀ i j a, α i = some a → α j = some a → i ≠ j → md[i]? ≠ some .own) ∧ ∀ i, (∀ d, ρ[i]? ≠ some (some d)) → α i = none
section
variable {G} {md : List Md} {μ μ' : List Addr} {F F' H H' : Hp} {ρ : Env} {σ : L2.St} {st : Sto}
theorem EnvOk.post (p : Post μ F H μ' F' H') (h : EnvOk G md μ F H ρ σ) : EnvOk G md μ' F' H' ρ σ := by
  obtain ⟨h0, h1, α, h2, h3, h4⟩ := h
  refine ⟨h0, h1, α, fun i m d e1 e2 => ?_, h3, h4⟩
  obtain ⟨v, e, q⟩ := h2 i m d e1 e2
  refine ⟨v, e, ?_⟩
  cases ha : α i with
  | none => rw [ha] at q; exact ⟨q.1, q.2.post p⟩
  | some a =>
    rw [ha] at q
    obtain ⟨q1, q2, q3, q4⟩ := q
    obtain ⟨o, ho⟩ := q4.ex
    exact ⟨q1, q2, p.notin ho q3, q4.post p q3⟩
end
end Sh
namespace Sh
open PySem PySem.Spec PyProof.Rows L2

/-- how a result lies: a value; a value or a container of one's own (borrowed); a new container of one's own -/
inductive Kd where
  | val | bor | fre
  deriving DecidableEq
def RK (G : Gs) : Kd → Hp → List Addr → Hp → Hp → D → V → Prop
  | .val, _, μ, F, _, d, v => Rp G μ F d v
  | .bor, _, μ, F, H, d, v => Rp G μ F d v ∨ ∃ a, v = .ref a ∧ OwnAt G μ F H a d
  | .fre, H0, μ, F, H, d, v => ∃ a, v = .ref a ∧ H0 a = none ∧ (∀ C dx fv, H a = some (.ins C dx fv) → H0 dx = none) ∧ OwnAt G μ F H a d
section
variable {G : Gs} {k : Kd} {H0 H0' : Hp} {μ μ' : List Addr} {F F' H H' : Hp} {d : D} {v : V}
theorem OwnAt.post {a : Addr} (p : Post μ F H μ' F' H') (h : OwnAt G μ F H a d) : OwnAt G μ' F' H' a d := by
  obtain ⟨o, ho⟩ := h.2.ex
  exact ⟨p.notin ho h.1, h.2.post p h.1⟩
theorem RK.post (p : Post μ F H μ' F' H') (h : RK G k H0 μ F H d v) : RK G k H0 μ' F' H' d v := by
  cases k with
  | val => exact Rp.post p h
  | bor =>
    rcases h with h | ⟨a, e, h⟩
    · exact .inl (Rp.post p h)
    · exact .inr ⟨a, e, h.post p⟩
  | fre =>
    obtain ⟨a, e, n, z, h⟩ := h
    obtain ⟨o, ho⟩ := h.2.ex
    refine ⟨a, e, n, fun C dx fv q => ?_, h.post p⟩
    have := p.keep a o ho h.1
    rw [q] at this; cases this
    exact z C dx fv ho
theorem RK.base (n : ∀ a, H0 a = none → H0' a = none) (h : RK G k H0 μ F H d v) : RK G k H0' μ F H d v := by
  cases k with
  | val => exact h
  | bor => exact h
  | fre =>
    obtain ⟨a, e, m, z, h⟩ := h
    exact ⟨a, e, n a m, fun C dx fv q => n dx (z C dx fv q), h⟩
end

/-- what is wanted of a result -/
def Want (G : Gs) (k : Kd) (μ : List Addr) (F H : Hp) (Q : VK) : D → Sto → Prop :=
  fun d st' => ∀ v μ' F' H', Post μ F H μ' F' H' → StOk G μ' F' H' st' → RK G k H μ' F' H' d v → Q v H'
theorem Want.after {G : Gs} {k : Kd} {μ μ1 : List Addr} {F F1 H H1 : Hp} {Q : VK} {d : D} {st : Sto} (p : Post μ F H μ1 F1 H1) (w : Want G k μ F H Q d st) : Want G k μ1 F1 H1 Q d st :=
  fun v μ' F' H' q s r => w v μ' F' H' (p.trans q) s (r.base fun _ n => p.free n)
/-- the reading of m -/
def tK (G : Gs) (md : List Md) (k : Kd) (m : Env → M D) : TE := fun σ H Q => ∃ ρ μ F st, EnvOk G md μ F H ρ σ ∧ StOk G μ F H st ∧ (m ρ).gives st (Want G k μ F H Q)
def WantL (G : Gs) (ks : List Kd) (μ : List Addr) (F H : Hp) (Q : List V → Hp → Prop) : List D → Sto → Prop :=
  fun ds st' => ∀ vs μ' F' H', Post μ F H μ' F' H' → StOk G μ' F' H' st' → (ds.length = ks.length ∧ vs.length = ks.length ∧ ∀ (i : Nat) (k : Kd) (d : D) (v : V), ks[i]? = some k → ds[i]? = some d → vs[i]? = some v → RK G k H μ' F' H' d v) → Q vs H'
def tKL (G : Gs) (md : List Md) (ks : List Kd) (m : Env → M (List D)) : TA := fun σ H Q => ∃ ρ μ F st, EnvOk G md μ F H ρ σ ∧ StOk G μ F H st ∧ (m ρ).gives st (WantL G ks μ F H Q)
/-- a test -/
def WantB (G : Gs) (μ : List Addr) (F H : Hp) (Q : Bool → Hp → Prop) : Bool → Sto → Prop :=
  fun b st' => ∀ μ' F' H', Post μ F H μ' F' H' → StOk G μ' F' H' st' → Q b H'
def tKB (G : Gs) (md : List Md) (m : Env → M Bool) : TT := fun σ H Q => ∃ ρ μ F st, EnvOk G md μ F H ρ σ ∧ StOk G μ F H st ∧ (m ρ).gives st (WantB G μ F H Q)

abbrev gs (X : Cx) (cl : String → Option Addr) : Gs := ⟨X.K, cl⟩
/-- THE JUDGEMENTS -/
def SK (cl : String → Option Addr) (md : List Md) (X : Cx) (k : Kd) (x : Expr) (m : Env → M D) : Prop := PE X x (tK (gs X cl) md k m)
def SA (cl : String → Option Addr) (md : List Md) (X : Cx) (ks : List Kd) (xs : List Expr) (m : Env → M (List D)) : Prop := PA X xs (tKL (gs X cl) md ks m)
def ST (cl : String → Option Addr) (md : List Md) (X : Cx) (x : Expr) (m : Env → M Bool) : Prop := PT X x (tKB (gs X cl) md m)

theorem PE.mono {X : Cx} {e : Expr} {t t' : TE} (h : PE X e t) (i : ∀ σ H Q, t' σ H Q → t σ H Q) : PE X e t' := ⟨fun pins s σ H Q I q => h.run pins s σ H Q I (i σ H Q q)⟩
theorem PT.mono {X : Cx} {e : Expr} {t t' : TT} (h : PT X e t) (i : ∀ σ H Q, t' σ H Q → t σ H Q) : PT X e t' := ⟨fun pins s σ H Q I q => h.run pins s σ H Q I (i σ H Q q)⟩
theorem PA.mono {X : Cx} {e : List Expr} {t t' : TA} (h : PA X e t) (i : ∀ σ H Q, t' σ H Q → t σ H Q) : PA X e t' := ⟨fun pos pins s σ H Q I q => h.run pos pins s σ H Q I (i σ H Q q)⟩
theorem PW.mono {X : Cx} {e : Expr} {t t' : TT} (h : PW X e t) (i : ∀ σ H Q, t' σ H Q → t σ H Q) : PW X e t' := ⟨fun wh pins s σ H Q I q => h.run wh pins s σ H Q I (i σ H Q q)⟩

section
variable {cl : String → Option Addr} {md : List Md} {X : Cx}

/-! ### weakening a result's kind -/
theorem sk_bor {x : Expr} {m : Env → M D} (h : SK cl md X .val x m) : SK cl md X .bor x m := PE.mono h fun σ H Q ⟨ρ, μ, F, st, hE, hS, g⟩ =>
  ⟨ρ, μ, F, st, hE, hS, M.gives_mono g fun d st' w v μ' F' H' p s r => w v μ' F' H' p s (.inl r)⟩
/-- freezing -/
theorem StOk.frz1 {G : Gs} {μ : List Addr} {F H : Hp} {st : Sto} {a : Addr} {u : HO} (s : StOk G μ F H st) (na : a ∉ μ) (hu : H a = some u) (no : ∀ x, u = .own x → x ∉ μ) : StOk G μ (upd F a u) H st := by
  have sF : ∀ b w, F b = some w → H b = some w := s.sub
  have sF2 : Sub F (upd F a u) := fun b w h => by
    by_cases e : b = a
    · subst e; rw [upd_same]; rw [s.sub _ _ h] at hu; exact hu.symm ▸ rfl
    · rw [upd_ne e]; exact h
  refine ⟨s.sub.addL hu, s.len, s.nd, fun l b e hl he => ?_⟩
  have q := s.obj l b e hl he
  have hb : b ∈ μ := List.mem_of_getElem? hl
  have frz : (upd F a u) b = F b := upd_ne fun e => na (e ▸ hb)
  cases e <;> try exact q.elim
  · obtain ⟨f, z, vs, e1, r⟩ := q
    exact ⟨by rw [frz]; exact f, z, vs, e1, RpL.mono (Ext.refl _) sF2 _ _ r⟩
  · obtain ⟨f, z, L, e1, r⟩ := q
    exact ⟨by rw [frz]; exact f, z, L, e1, RpK.mono (Ext.refl _) sF2 _ _ r⟩
  · obtain ⟨f, C, dx, fv, e1, e2, n2, f2, c, r⟩ := q
    refine ⟨by rw [frz]; exact f, C, dx, fv, e1, e2, n2, ?_, c, RpF.mono (Ext.refl _) sF2 _ _ r⟩
    rw [upd_ne (show dx ≠ a from fun e => ?_)]
    · exact f2
    · subst e
      rw [hu] at e2
      exact no b (Option.some.inj e2) hb
  · obtain ⟨f, z, L, e1, r⟩ := q
    exact ⟨by rw [frz]; exact f, z, L, e1, RpE.mono (Ext.refl _) sF2 _ _ r⟩
theorem Post.frz1 {μ μ' : List Addr} {F F' H H' : Hp} {a : Addr} {u : HO} (p : Post μ F H μ' F' H') (fa : F' a = none) (n : H a = none) : Post μ F H μ' (upd F' a u) H' :=
  ⟨p.subF.trans (Sub.addR (Sub.refl _) fa), fun b w h => by
    by_cases e : b = a
    · subst e; exact .inr n
    · rw [upd_ne e] at h; exact p.new b w h, p.keep, p.ext, p.there⟩
theorem freeze {G : Gs} {μ μ' : List Addr} {F F' H H' : Hp} {st : Sto} {d : D} {v : V} (p : Post μ F H μ' F' H') (s : StOk G μ' F' H' st) (o : RK G .fre H μ' F' H' d v) :
    ∃ F2, Post μ F H μ' F2 H' ∧ StOk G μ' F2 H' st ∧ Rp G μ' F2 d v := by
  obtain ⟨a, rfl, n, z, na, oa⟩ := o
  cases d <;> try exact oa.elim
  · obtain ⟨f, zz, vs, e1, r⟩ := oa
    exact ⟨upd F' a _, p.frz1 f n, s.frz1 na e1 (fun x h => by cases h), zz, a, vs, rfl, upd_same, RpL.mono (Ext.refl _) (Sub.addR (Sub.refl _) f) _ _ r⟩
  · obtain ⟨f, zz, L, e1, r⟩ := oa
    exact ⟨upd F' a _, p.frz1 f n, s.frz1 na e1 (fun x h => by cases h), zz, a, L, rfl, upd_same, RpK.mono (Ext.refl _) (Sub.addR (Sub.refl _) f) _ _ r⟩
  · obtain ⟨f, C, dx, fv, e1, e2, n2, f2, c, r⟩ := oa
    have ne : dx ≠ a := fun e => by subst e; rw [e1] at e2; cases e2
    have s1 : StOk G μ' (upd F' a _) H' st := s.frz1 na e1 (fun x h => by cases h)
    have f2' : (upd F' a (.ins C dx fv)) dx = none := by rw [upd_ne ne]; exact f2
    exact ⟨upd (upd F' a _) dx _, (p.frz1 f n).frz1 f2' (z C dx fv e1), s1.frz1 n2 e2 (fun x h => by cases h; exact na), a, C, dx, fv, rfl, by rw [upd_ne ne.symm, upd_same], upd_same, c,
      RpF.mono (Ext.refl _) ((Sub.addR (Sub.refl _) f).trans (Sub.addR (Sub.refl _) f2')) _ _ r⟩
  · obtain ⟨f, zz, L, e1, r⟩ := oa
    exact ⟨upd F' a _, p.frz1 f n, s.frz1 na e1 (fun x h => by cases h), zz, a, L, rfl, upd_same, RpE.mono (Ext.refl _) (Sub.addR (Sub.refl _) f) _ _ r⟩
theorem sk_frz {x : Expr} {m : Env → M D} (h : SK cl md X .fre x m) : SK cl md X .val x m := PE.mono h fun σ H Q ⟨ρ, μ, F, st, hE, hS, g⟩ =>
  ⟨ρ, μ, F, st, hE, hS, M.gives_mono g fun d st' w v μ' F' H' p s r => by
    obtain ⟨F2, p2, s2, r2⟩ := freeze p s r
    exact w v μ' F2 H' p2 s2 r2⟩
theorem sk_frzB {x : Expr} {m : Env → M D} (h : SK cl md X .fre x m) : SK cl md X .bor x m := sk_bor (sk_frz h)

/-! ### names and constants -/
def getV (ρ : Env) (i : Nat) : M D := match ρ[i]? with
  | some (some d) => pure d
  | _ => M.bad
theorem getV_gives {ρ : Env} {i : Nat} {st : Sto} {P : D → Sto → Prop} (h : (getV ρ i).gives st P) : ∃ d, ρ[i]? = some (some d) ∧ P d st := by
  unfold getV at h
  cases e : ρ[i]? with
  | none => rw [e] at h; exact h.elim
  | some o =>
    cases o with
    | none => rw [e] at h; exact h.elim
    | some d => rw [e] at h; exact ⟨d, rfl, h⟩
theorem sk_var (i : Nat) {x : Str} {pos : Pos} (hm : md[i]? = some .val := by rfl) (hN : X.N[i]? = some x := by rfl) (hv : Vis X.env.scope x := by first | exact Or.inl rfl | exact Or.inr (Or.inl rfl) | exact Or.inr (Or.inr rfl)) (hd : (x == ("__debug__" : Str)) = false := by decide)
    (hcd : (x == ("__classdict__" : Str)) = false := by decide) : SK cl md X .val (.Name x pos) (fun ρ => getV ρ i) := PE.mono (pe_var hN hv hd hcd) fun σ H Q ⟨ρ, μ, F, st, hE, hS, g⟩ => by
  obtain ⟨d, e, w⟩ := getV_gives g
  obtain ⟨_, _, α, h2, _⟩ := hE
  obtain ⟨v, ev, q⟩ := h2 i .val d hm e
  refine ⟨v, ev, ?_⟩
  cases ha : α i with
  | none => rw [ha] at q; exact w v μ F H .refl hS q.2
  | some a => rw [ha] at q; exact absurd rfl q.2.1
theorem sk_own (i : Nat) {x : Str} {pos : Pos} (hm : (md[i]?).isSome = true := by rfl) (hN : X.N[i]? = some x := by rfl) (hv : Vis X.env.scope x := by first | exact Or.inl rfl | exact Or.inr (Or.inl rfl) | exact Or.inr (Or.inr rfl)) (hd : (x == ("__debug__" : Str)) = false := by decide)
    (hcd : (x == ("__classdict__" : Str)) = false := by decide) : SK cl md X .bor (.Name x pos) (fun ρ => getV ρ i) := PE.mono (pe_var hN hv hd hcd) fun σ H Q ⟨ρ, μ, F, st, hE, hS, g⟩ => by
  obtain ⟨d, e, w⟩ := getV_gives g
  obtain ⟨_, _, α, h2, _⟩ := hE
  obtain ⟨m, hm'⟩ := Option.isSome_iff_exists.mp hm
  obtain ⟨v, ev, q⟩ := h2 i m d hm' e
  refine ⟨v, ev, ?_⟩
  cases ha : α i with
  | none => rw [ha] at q; exact w v μ F H .refl hS (.inl q.2)
  | some a => rw [ha] at q; exact w v μ F H .refl hS (.inr ⟨a, q.1, q.2.2⟩)
/-- a constant's reading -/
theorem sk_con {x : Expr} {d : D} {v : V} (h : PE X x (tC v)) (r : ∀ μ F, Rp (gs X cl) μ F d v) : SK cl md X .val x (fun _ => pure d) := PE.mono h fun σ H Q ⟨ρ, μ, F, st, hE, hS, g⟩ => g v μ F H .refl hS (r μ F)
theorem sk_int {i j pos} : SK cl md X .val (.Constant (.int i) j pos) (fun _ => pure (.int i)) := sk_con pe_int fun _ _ => rfl
theorem sk_bl {b j pos} : SK cl md X .val (.Constant (.bool b) j pos) (fun _ => pure (.bl b)) := sk_con pe_bl fun _ _ => rfl
theorem sk_non {j pos} : SK cl md X .val (.Constant .none j pos) (fun _ => pure .non) := sk_con pe_non fun _ _ => rfl
theorem sk_str {x : Str} {j pos} (h : okS x = true := by decide +kernel) : SK cl md X .val (.Constant (.str x) j pos) (fun _ => pure (.str x)) := sk_con pe_str fun _ _ => ⟨rfl, h⟩

/-! ### operators, by values -/
/-- what the operator's rule asks is had where g gives something -/
def Op2 (G : Gs) (ka kb k : Kd) (r : R2) (g : D → D → M D) : Prop := ∀ (μ : List Addr) (F H H1 H2 : Hp) (st : Sto) (d e : D) (v u : V) (Q : VK), StOk G μ F H st → RK G ka H1 μ F H d v → RK G kb H2 μ F H e u → (g d e).gives st (Want G k μ F H Q) → r v u H Q
theorem seq2 {ka kb k : Kd} {ma mb : Env → M D} {g : D → D → M D} {r : R2} (hg : Op2 (gs X cl) ka kb k r g) {σ : L2.St} {H : Hp} {Q : VK}
    (h : tK (gs X cl) md k (fun ρ => do let x ← ma ρ; let y ← mb ρ; g x y) σ H Q) : tOp r (tK (gs X cl) md ka ma) (tK (gs X cl) md kb mb) σ H Q := by
  obtain ⟨ρ, μ, F, st, hE, hS, w⟩ := h
  refine ⟨ρ, μ, F, st, hE, hS, ?_⟩
  rw [M.gives_bind] at w
  refine M.gives_mono w fun d st1 w1 v μ1 F1 H1 p1 s1 r1 => ⟨ρ, μ1, F1, st1, hE.post p1, s1, ?_⟩
  rw [M.gives_bind] at w1
  refine M.gives_mono w1 fun e st2 w2 u μ2 F2 H2 p2 s2 r2 => hg μ2 F2 H2 H H1 st2 d e v u Q s2 (r1.post p2) r2 (M.gives_mono w2 fun x st' wx => (wx.after p1).after p2)
theorem sk_op {ka kb k : Kd} {a b : Expr} {ma mb : Env → M D} {op : Operator} {pos : Pos} {g : D → D → M D} {r : R2} (ho : OpR X (binaryOp op) r) (hg : Op2 (gs X cl) ka kb k r g) (ha : SK cl md X ka a ma) (hb : SK cl md X kb b mb) :
    SK cl md X k (.BinOp a op b pos) (fun ρ => do let x ← ma ρ; let y ← mb ρ; g x y) := PE.mono (pe_op ho ha hb) fun σ H Q h => seq2 hg h
theorem sk_cmp {ka kb k : Kd} {a b : Expr} {ma mb : Env → M D} {op : CmpOp} {pos : Pos} {g : D → D → M D} {r : R2} (ho : OpR X (compareOp op) r) (hg : Op2 (gs X cl) ka kb k r g) (ha : SK cl md X ka a ma) (hb : SK cl md X kb b mb) (hm : behindInMarks op b = false) :
    SK cl md X k (.Compare a [op] [b] pos) (fun ρ => do let x ← ma ρ; let y ← mb ρ; g x y) := PE.mono (pe_cmpR ho ha hb hm) fun σ H Q h => seq2 hg h
/-- a test by a comparison -/
def asB : D → M Bool
  | .bl b => pure b
  | _ => M.bad
theorem asB_gives {d : D} {st : Sto} {P : Bool → Sto → Prop} (h : (asB d).gives st P) : ∃ b, d = .bl b ∧ P b st := by
  cases d <;> first | exact h.elim | exact ⟨_, rfl, h⟩
theorem test_of {m : Env → M D} {σ : L2.St} {H : Hp} {Q : Bool → Hp → Prop} {P : TE} (hp : ∀ Q, tK (gs X cl) md .val m σ H Q → P σ H Q) (h : tKB (gs X cl) md (fun ρ => do let x ← m ρ; asB x) σ H Q) : P σ H fun x H' => ∃ k, x = .bl k ∧ Q k H' := by
  obtain ⟨ρ, μ, F, st, hE, hS, w⟩ := h
  refine hp _ ⟨ρ, μ, F, st, hE, hS, ?_⟩
  rw [M.gives_bind] at w
  refine M.gives_mono w fun d st1 w1 v μ1 F1 H1 p1 s1 r1 => ?_
  obtain ⟨b, rfl, w2⟩ := asB_gives w1
  exact ⟨b, r1, w2 μ1 F1 H1 p1 s1⟩
theorem st_cmp {ka kb : Kd} {a b : Expr} {ma mb : Env → M D} {op : CmpOp} {pos : Pos} {g : D → D → M D} {r : R2} (ho : OpR X (compareOp op) r) (hg : Op2 (gs X cl) ka kb .val r g) (ha : SK cl md X ka a ma) (hb : SK cl md X kb b mb) (hm : behindInMarks op b = false) :
    ST cl md X (.Compare a [op] [b] pos) (fun ρ => do let x ← (do let x ← ma ρ; let y ← mb ρ; g x y); asB x) := PT.mono (pt_cmpR ho ha hb hm) fun σ H Q h => test_of (P := tOp r _ _) (fun Q q => seq2 hg q) h
theorem st_val {x : Expr} {m : Env → M D} (h : SK cl md X .val x m) (he : ∀ whole, isTrue x X.env whole = (do let v ← whole; standAt x.pos; holding [v] (truthy v)) := by intro _; rfl) : ST cl md X x (fun ρ => do let x ← m ρ; asB x) :=
  PT.mono (pt_val h he) fun σ H Q h => test_of (P := tK (gs X cl) md .val m) (fun Q q => q) h

/-! ### not, and, or, if .. else -/
theorem st_not {x : Expr} {pos : Pos} {m : Env → M Bool} (h : ST cl md X x m) : ST cl md X (.UnaryOp .Not x pos) (fun ρ => do let b ← m ρ; pure (!b)) := PT.mono (pt_not h) fun σ H Q ⟨ρ, μ, F, st, hE, hS, w⟩ => by
  refine ⟨ρ, μ, F, st, hE, hS, ?_⟩
  rw [M.gives_bind] at w
  exact w

theorem tkb_bind {m : Env → M Bool} {f : Bool → Env → M Bool} {σ : L2.St} {H : Hp} {Q : Bool → Hp → Prop} {P : Bool → TT}
    (h : tKB (gs X cl) md (fun ρ => do let b ← m ρ; f b ρ) σ H Q) (hp : ∀ b H1, tKB (gs X cl) md (fun ρ => f b ρ) σ H1 Q → P b σ H1 Q) : tKB (gs X cl) md m σ H fun b H1 => P b σ H1 Q := by
  obtain ⟨ρ, μ, F, st, hE, hS, w⟩ := h
  refine ⟨ρ, μ, F, st, hE, hS, ?_⟩
  rw [M.gives_bind] at w
  exact M.gives_mono w fun b st1 w1 μ1 F1 H1 p1 s1 => hp b H1 ⟨ρ, μ1, F1, st1, hE.post p1, s1, M.gives_mono w1 fun c st2 w2 μ2 F2 H2 p2 s2 => w2 μ2 F2 H2 (p1.trans p2) s2⟩
theorem tkb_pure {b : Bool} {σ : L2.St} {H : Hp} {Q : Bool → Hp → Prop} (h : tKB (gs X cl) md (fun _ => pure b) σ H Q) : Q b H := by
  obtain ⟨ρ, μ, F, st, hE, hS, w⟩ := h
  exact w μ F H .refl hS
/-- a chain of and, or as a test -/
def SW (cl : String → Option Addr) (md : List Md) (X : Cx) (x : Expr) (m : Env → M Bool) : Prop := PW X x (tKB (gs X cl) md m)
theorem sw_t {x : Expr} {m : Env → M Bool} (h : SW cl md X x m) : ST cl md X x m := h.pt
theorem sw_and1 {a : Expr} {pos : Pos} {m : Env → M Bool} (h : ST cl md X a m) : SW cl md X (.BoolOp .And [a] pos) m := pw_and1 h
theorem sw_or1 {a : Expr} {pos : Pos} {m : Env → M Bool} (h : ST cl md X a m) : SW cl md X (.BoolOp .Or [a] pos) m := pw_or1 h
def andB (m n : Env → M Bool) : Env → M Bool := fun ρ => do
  let b ← m ρ
  if b = true then n ρ else pure false
def orB (m n : Env → M Bool) : Env → M Bool := fun ρ => do
  let b ← m ρ
  if b = true then pure true else n ρ
theorem sw_and {a b : Expr} {rest : List Expr} {pos : Pos} {m n : Env → M Bool} (ha : ST cl md X a m) (hb : SW cl md X (.BoolOp .And (b :: rest) pos) n) : SW cl md X (.BoolOp .And (a :: b :: rest) pos) (andB m n) :=
  PW.mono (pw_and ha hb) fun σ H Q h => tkb_bind (P := fun c σ H1 Q => if c = true then tKB (gs X cl) md n σ H1 Q else Q false H1) h fun c H1 q => by
    cases c
    · rw [if_neg Bool.false_ne_true]
      exact tkb_pure (by simpa using q)
    · rw [if_pos rfl]
      simpa using q
theorem sw_or {a b : Expr} {rest : List Expr} {pos : Pos} {m n : Env → M Bool} (ha : ST cl md X a m) (hb : SW cl md X (.BoolOp .Or (b :: rest) pos) n) : SW cl md X (.BoolOp .Or (a :: b :: rest) pos) (orB m n) :=
  PW.mono (pw_or ha hb) fun σ H Q h => tkb_bind (P := fun c σ H1 Q => if c = true then Q true H1 else tKB (gs X cl) md n σ H1 Q) h fun c H1 q => by
    cases c
    · rw [if_neg Bool.false_ne_true]
      simpa using q
    · rw [if_pos rfl]
      exact tkb_pure (by simpa using q)

theorem tk_bind {k : Kd} {m : Env → M D} {f : D → Env → M D} {σ : L2.St} {H : Hp} {Q : VK} {P : D → V → L2.St → Hp → Prop}
    (h : tK (gs X cl) md k (fun ρ => do let b ← m ρ; f b ρ) σ H Q) (hp : ∀ d v H1, (∃ μ F H0, RK (gs X cl) .val H0 μ F H1 d v) → tK (gs X cl) md k (fun ρ => f d ρ) σ H1 Q → P d v σ H1) : tK (gs X cl) md .val m σ H fun v H1 => ∃ d, P d v σ H1 := by
  obtain ⟨ρ, μ, F, st, hE, hS, w⟩ := h
  refine ⟨ρ, μ, F, st, hE, hS, ?_⟩
  rw [M.gives_bind] at w
  exact M.gives_mono w fun d st1 w1 v μ1 F1 H1 p1 s1 r1 => ⟨d, hp d v H1 ⟨μ1, F1, H, r1⟩ ⟨ρ, μ1, F1, st1, hE.post p1, s1, M.gives_mono w1 fun e st2 w2 => w2.after p1⟩⟩
theorem tk_bindB {k : Kd} {m : Env → M Bool} {f : Bool → Env → M D} {σ : L2.St} {H : Hp} {Q : VK} {P : Bool → L2.St → Hp → Prop}
    (h : tK (gs X cl) md k (fun ρ => do let b ← m ρ; f b ρ) σ H Q) (hp : ∀ b H1, tK (gs X cl) md k (fun ρ => f b ρ) σ H1 Q → P b σ H1) : tKB (gs X cl) md m σ H fun b H1 => P b σ H1 := by
  obtain ⟨ρ, μ, F, st, hE, hS, w⟩ := h
  refine ⟨ρ, μ, F, st, hE, hS, ?_⟩
  rw [M.gives_bind] at w
  exact M.gives_mono w fun d st1 w1 μ1 F1 H1 p1 s1 => hp d H1 ⟨ρ, μ1, F1, st1, hE.post p1, s1, M.gives_mono w1 fun e st2 w2 => w2.after p1⟩
theorem tk_pure {d : D} {v : V} {σ : L2.St} {H : Hp} {Q : VK} (h : tK (gs X cl) md .val (fun _ => pure d) σ H Q) (r : ∀ μ F, Rp (gs X cl) μ F d v) : Q v H := by
  obtain ⟨ρ, μ, F, st, hE, hS, w⟩ := h
  exact w v μ F H .refl hS (r μ F)
theorem sk_if {k : Kd} {c a b : Expr} {pos : Pos} {mc : Env → M Bool} {ma mb : Env → M D} (hc : ST cl md X c mc) (ha : SK cl md X k a ma) (hb : SK cl md X k b mb) :
    SK cl md X k (.IfExp c a b pos) (fun ρ => do let t ← mc ρ; if t = true then ma ρ else mb ρ) := PE.mono (pe_ifExp hc ha hb) fun σ H Q h =>
  tk_bindB (P := fun c σ H1 => if c = true then tK (gs X cl) md k ma σ H1 Q else tK (gs X cl) md k mb σ H1 Q) h fun c H1 q => by
    cases c
    · rw [if_neg Bool.false_ne_true]; simpa using q
    · rw [if_pos rfl]; simpa using q
theorem sk_not {a : Expr} {pos : Pos} {m : Env → M D} (h : SK cl md X .val a m) : SK cl md X .val (.UnaryOp .Not a pos) (fun ρ => do let x ← m ρ; let b ← asB x; pure (.bl (!b))) := PE.mono (pe_not h) fun σ H Q ⟨ρ, μ, F, st, hE, hS, w⟩ => by
  refine ⟨ρ, μ, F, st, hE, hS, ?_⟩
  rw [M.gives_bind] at w
  refine M.gives_mono w fun d st1 w1 v μ1 F1 H1 p1 s1 r1 => ?_
  rw [M.gives_bind] at w1
  obtain ⟨b, rfl, w2⟩ := asB_gives w1
  exact ⟨b, r1, w2 _ μ1 F1 H1 p1 s1 rfl⟩
def andD (m n : Env → M D) : Env → M D := fun ρ => do
  let x ← m ρ
  let b ← asB x
  if b = true then n ρ else pure (.bl false)
def orD (m n : Env → M D) : Env → M D := fun ρ => do
  let x ← m ρ
  let b ← asB x
  if b = true then pure (.bl true) else n ρ
theorem sk_one {op} {a : Expr} {pos : Pos} {m : Env → M D} (h : SK cl md X .val a m) : SK cl md X .val (.BoolOp op [a] pos) m := pe_one h
theorem sk_and {a b : Expr} {rest : List Expr} {pos : Pos} {m n : Env → M D} (ha : SK cl md X .val a m) (hb : SK cl md X .val (.BoolOp .And (b :: rest) pos) n) : SK cl md X .val (.BoolOp .And (a :: b :: rest) pos) (andD m n) :=
  PE.mono (pe_and ha hb) fun σ H Q ⟨ρ, μ, F, st, hE, hS, w⟩ => by
    refine ⟨ρ, μ, F, st, hE, hS, ?_⟩
    unfold andD at w
    rw [M.gives_bind] at w
    refine M.gives_mono w fun d st1 w1 v μ1 F1 H1 p1 s1 r1 => ?_
    rw [M.gives_bind] at w1
    obtain ⟨b, rfl, w2⟩ := asB_gives w1
    refine ⟨b, r1, ?_⟩
    cases b
    · rw [if_neg Bool.false_ne_true] at w2 ⊢
      exact w2 _ μ1 F1 H1 p1 s1 rfl
    · rw [if_pos rfl] at w2 ⊢
      exact ⟨ρ, μ1, F1, st1, hE.post p1, s1, M.gives_mono w2 fun e st2 w3 => w3.after p1⟩
theorem sk_or {a b : Expr} {rest : List Expr} {pos : Pos} {m n : Env → M D} (ha : SK cl md X .val a m) (hb : SK cl md X .val (.BoolOp .Or (b :: rest) pos) n) : SK cl md X .val (.BoolOp .Or (a :: b :: rest) pos) (orD m n) :=
  PE.mono (pe_or ha hb) fun σ H Q ⟨ρ, μ, F, st, hE, hS, w⟩ => by
    refine ⟨ρ, μ, F, st, hE, hS, ?_⟩
    unfold orD at w
    rw [M.gives_bind] at w
    refine M.gives_mono w fun d st1 w1 v μ1 F1 H1 p1 s1 r1 => ?_
    rw [M.gives_bind] at w1
    obtain ⟨b, rfl, w2⟩ := asB_gives w1
    refine ⟨b, r1, ?_⟩
    cases b
    · rw [if_neg Bool.false_ne_true] at w2 ⊢
      exact ⟨ρ, μ1, F1, st1, hE.post p1, s1, M.gives_mono w2 fun e st2 w3 => w3.after p1⟩
    · rw [if_pos rfl] at w2 ⊢
      exact w2 _ μ1 F1 H1 p1 s1 rfl

/-! ### lists of expressions -/
theorem sa_nil : SA cl md X [] [] (fun _ => pure []) := PA.mono pa_nil fun σ H Q ⟨ρ, μ, F, st, hE, hS, w⟩ => w [] μ F H .refl hS ⟨rfl, rfl, fun i k d v h => by simp at h⟩
theorem sa_cons {k : Kd} {ks : List Kd} {e : Expr} {es : List Expr} {m : Env → M D} {n : Env → M (List D)} (h : SK cl md X k e m) (hr : SA cl md X ks es n) (hs : starEach (e :: es) X.env = (false, eval e X.env) :: starEach es X.env := by rfl) :
    SA cl md X (k :: ks) (e :: es) (fun ρ => do let x ← m ρ; let r ← n ρ; pure (x :: r)) := PA.mono (pa_cons h hr hs) fun σ H Q ⟨ρ, μ, F, st, hE, hS, w⟩ => by
  refine ⟨ρ, μ, F, st, hE, hS, ?_⟩
  rw [M.gives_bind] at w
  refine M.gives_mono w fun d st1 w1 v μ1 F1 H1 p1 s1 r1 => ⟨ρ, μ1, F1, st1, hE.post p1, s1, ?_⟩
  rw [M.gives_bind] at w1
  refine M.gives_mono w1 fun ds st2 w2 vs μ2 F2 H2 p2 s2 r2 => ?_
  refine w2 (v :: vs) μ2 F2 H2 (p1.trans p2) s2 ⟨by simp [r2.1], by simp [r2.2.1], fun i k' d' v' h1 h2 h3 => ?_⟩
  cases i with
  | zero =>
    simp only [List.getElem?_cons_zero, Option.some.injEq] at h1 h2 h3
    subst h1 h2 h3
    exact r1.post p2
  | succ i =>
    simp only [List.getElem?_cons_succ] at h1 h2 h3
    exact (r2.2.2 i k' d' v' h1 h2 h3).base fun _ n => p1.free n
theorem rpl_of {G : Gs} {μ : List Addr} {F H H0 : Hp} : ∀ {n : Nat} {ds : List D} {vs : List V}, ds.length = n → vs.length = n → (∀ (i : Nat) (k : Kd) (d : D) (v : V), (List.replicate n Kd.val)[i]? = some k → ds[i]? = some d → vs[i]? = some v → RK G k H0 μ F H d v) → RpL G μ F ds vs
  | 0, [], [], _, _, _ => rfl
  | n + 1, d :: ds, v :: vs, h1, h2, h => ⟨v, vs, rfl, h 0 .val d v rfl rfl rfl, rpl_of (n := n) (by simpa using h1) (by simpa using h2) fun i k d' v' e1 e2 e3 => h (i + 1) k d' v' (by rw [List.replicate_succ]; simpa using e1) (by simpa using e2) (by simpa using e3)⟩
theorem rpl_len {G : Gs} {μ : List Addr} {F : Hp} : ∀ {ds : List D} {vs : List V}, RpL G μ F ds vs → vs.length = ds.length
  | [], _, h => by have h : _ = _ := h; subst h; rfl
  | d :: ds, _, h => by
    obtain ⟨v, r, e, _, h2⟩ := h
    subst e
    simp [rpl_len h2]
/-! ### a new thing is laid -/
theorem Post.alloc {μ μ' : List Addr} {F F' H H' : Hp} {a : Addr} {o : HO} (p : Post μ F H μ' F' H') (n : H' a = none) : Post μ F H μ' F' (upd H' a o) :=
  ⟨p.subF, p.new, fun b u h nb => by rw [upd_ne (ne_of_none (p.keep b u h nb) n)]; exact p.keep b u h nb, p.ext, fun b u h => by
    obtain ⟨u', h'⟩ := p.there b u h
    exact ⟨u', by rw [upd_ne (ne_of_none h' n)]; exact h'⟩⟩
theorem ObjAt.alloc {G : Gs} {μ : List Addr} {F H : Hp} {a b : Addr} {o : HO} {d : D} (h : ObjAt G μ F H b d) (n : H a = none) : ObjAt G μ F (upd H a o) b d := by
  cases d <;> try exact h.elim
  · obtain ⟨f, z, vs, e, r⟩ := h
    exact ⟨f, z, vs, by rw [upd_ne (ne_of_none e n)]; exact e, r⟩
  · obtain ⟨f, z, L, e, r⟩ := h
    exact ⟨f, z, L, by rw [upd_ne (ne_of_none e n)]; exact e, r⟩
  · obtain ⟨f, C, dx, fv, e1, e2, n2, f2, c, r⟩ := h
    exact ⟨f, C, dx, fv, by rw [upd_ne (ne_of_none e1 n)]; exact e1, by rw [upd_ne (ne_of_none e2 n)]; exact e2, n2, f2, c, r⟩
  · obtain ⟨f, z, L, e, r⟩ := h
    exact ⟨f, z, L, by rw [upd_ne (ne_of_none e n)]; exact e, r⟩
theorem StOk.alloc {G : Gs} {μ : List Addr} {F H : Hp} {st : Sto} {a : Addr} {o : HO} (s : StOk G μ F H st) (n : H a = none) : StOk G μ F (upd H a o) st :=
  ⟨s.sub.addR (s.sub.free n), s.len, s.nd, fun l b d hl hd => (s.obj l b d hl hd).alloc n⟩
theorem StOk.notin {G : Gs} {μ : List Addr} {F H : Hp} {st : Sto} {a : Addr} (s : StOk G μ F H st) (n : H a = none) : a ∉ μ := fun h => by
  obtain ⟨l, hl, e⟩ := List.mem_iff_getElem.mp h
  have e' : μ[l]? = some a := by rw [List.getElem?_eq_getElem hl, e]
  have hl2 : l < st.length := by rw [← s.len]; exact hl
  obtain ⟨o, q⟩ := (s.obj l a _ e' (List.getElem?_eq_getElem hl2)).ex
  rw [n] at q; cases q
/-- .. a tuple, a list, frozen at once -/
theorem new_tup {G : Gs} {μ μ' : List Addr} {F F' H H' : Hp} {st : Sto} {a : Addr} {ds : List D} {vs : List V} (p : Post μ F H μ' F' H') (s : StOk G μ' F' H' st) (r : RpL G μ' F' ds vs) (n : H' a = none) (zl : ds.length ≤ sizeLine) :
    Post μ F H μ' (upd F' a (.tup vs)) (upd H' a (.tup vs)) ∧ StOk G μ' (upd F' a (.tup vs)) (upd H' a (.tup vs)) st ∧ Rp G μ' (upd F' a (.tup vs)) (.tup ds) (.ref a) :=
  have fa : F' a = none := s.sub.free n
  ⟨(p.alloc n).frz1 fa (p.free n), (s.alloc n).frz1 (s.notin n) upd_same (fun x h => by cases h), zl, a, vs, rfl, .inl (.inl upd_same), RpL.mono (Ext.refl _) (Sub.addR (Sub.refl _) fa) _ _ r⟩
/-- .. a list of one's own -/
theorem new_lst {G : Gs} {μ μ' : List Addr} {F F' H H' : Hp} {st : Sto} {a : Addr} {ds : List D} {vs : List V} (p : Post μ F H μ' F' H') (s : StOk G μ' F' H' st) (r : RpL G μ' F' ds vs) (n : H' a = none) (zl : ds.length ≤ sizeLine) :
    Post μ F H μ' F' (upd H' a (.lst vs)) ∧ StOk G μ' F' (upd H' a (.lst vs)) st ∧ RK G .fre H μ' F' (upd H' a (.lst vs)) (.lst ds) (.ref a) :=
  ⟨p.alloc n, s.alloc n, a, rfl, p.free n, (fun C dx fv h => by rw [upd_same] at h; cases h), s.notin n, s.sub.free n, zl, vs, upd_same, r⟩
theorem line_of {n : Nat} (h : n ≤ 1000) : n ≤ sizeLine := by rw [sizeLine_eq]; omega
theorem sk_tup {n : Nat} {es : List Expr} {k} {pos : Pos} {m : Env → M (List D)} (h : SA cl md X (List.replicate n .val) es m) (hn : n ≤ 1000 := by decide) : SK cl md X .val (.Tuple es k pos) (fun ρ => do let ds ← m ρ; pure (.tup ds)) :=
  PE.mono (pe_tup h) fun σ H Q ⟨ρ, μ, F, st, hE, hS, w⟩ => by
    refine ⟨ρ, μ, F, st, hE, hS, ?_⟩
    rw [M.gives_bind] at w
    refine M.gives_mono w fun ds st1 w1 vs μ1 F1 H1 p1 s1 ⟨l1, l2, r1⟩ => ?_
    rw [List.length_replicate] at l1 l2
    refine ⟨by rw [l2]; exact line_of hn, fun a na => ?_⟩
    obtain ⟨p2, s2, r2⟩ := new_tup p1 s1 (rpl_of l1 l2 r1) na (by rw [l1]; exact line_of hn)
    exact w1 _ μ1 _ _ p2 s2 r2
theorem sk_lst {n : Nat} {es : List Expr} {pos : Pos} {m : Env → M (List D)} (h : SA cl md X (List.replicate n .val) es m) (hn : n ≤ 1000 := by decide) : SK cl md X .fre (.List es pos) (fun ρ => do let ds ← m ρ; pure (.lst ds)) :=
  PE.mono (pe_lst h) fun σ H Q ⟨ρ, μ, F, st, hE, hS, w⟩ => by
    refine ⟨ρ, μ, F, st, hE, hS, ?_⟩
    rw [M.gives_bind] at w
    refine M.gives_mono w fun ds st1 w1 vs μ1 F1 H1 p1 s1 ⟨l1, l2, r1⟩ => ?_
    rw [List.length_replicate] at l1 l2
    refine ⟨by rw [l2]; exact line_of hn, fun a na => ?_⟩
    obtain ⟨p2, s2, r2⟩ := new_lst p1 s1 (rpl_of l1 l2 r1) na (by rw [l1]; exact line_of hn)
    exact w1 _ μ1 _ _ p2 s2 r2
end
end Sh
namespace Sh
open PySem PySem.Spec PyProof.Rows L2

/-! ### what is walked: a list or a tuple -/
theorem pi_seq {X : Cx} {tg l : Expr} {tl : TE} (hl : PE X l tl) : PI X tg l (fun σ H R => tl σ H fun x H1 => ∃ a, x = .ref a ∧ (((∃ xs, SqL X.K H1 a xs) ∧ R (Itl X.K a) H1) ∨ ((∃ xs, SqT X.K H1 a xs) ∧ R (Itt X.K a) H1))) := by
  refine ⟨fun pins s σ H R I h => ?_⟩
  refine thn (hl.run pins s σ H _ I h) fun v s1 ⟨x, H1, I1, r1, q1⟩ => ?_
  obtain ⟨a, e, q⟩ := q1
  subst e
  cases r1
  rcases q with ⟨⟨xs, hq⟩, q⟩ | ⟨⟨xs, hq⟩, q⟩
  · obtain ⟨its, rv, p, hz⟩ := I1.list hq
    refine wpAny_pyIter_list p.isList ?_
    refine ⟨s1.heap.objs.size, [s1.heap.objs.size], _, _, H1, rfl, I1.kept (t' := s1.toks) fun b o e => Heap.get?_push_of_some _ e, turn_list a _, ⟨_, Heap.get?_push_size _ rfl, rfl, rfl⟩, fun b hb => ?_, q⟩
    have e : b = s1.heap.objs.size := by simpa using hb
    subst e
    exact I1.fpOk (Nat.le_refl _) (I1.hok.fresh (Nat.le_refl _))
  · obtain ⟨its, rv, p, hz⟩ := I1.tuple hq
    refine wpAny_pyIter_tuple (show s1.heap.IsTuple a its.toArray from p) ?_
    refine ⟨s1.heap.objs.size, [s1.heap.objs.size], _, _, H1, rfl, I1.kept (t' := s1.toks) fun b o e => Heap.get?_push_of_some _ e, turn_tuple a _, ⟨_, Heap.get?_push_size _ rfl, rfl, rfl⟩, fun b hb => ?_, q⟩
    have e : b = s1.heap.objs.size := by simpa using hb
    subst e
    exact I1.fpOk (Nat.le_refl _) (I1.hok.fresh (Nat.le_refl _))
theorem PI.mono {X : Cx} {tg e : Expr} {t t' : TI} (h : PI X tg e t) (i : ∀ σ H Q, t' σ H Q → t σ H Q) : PI X tg e t' := ⟨fun pins s σ H Q I q => h.run pins s σ H Q I (i σ H Q q)⟩

/-- an iterator that gives the items ds one by one; st: what must stay true of the heap while it is walked -/
structure ItOk (G : Gs) (J : It) (st : List Addr → Hp → Hp → Prop) (ds : List D) : Prop where
  keep : ∀ μ F H μ' F' H', st μ F H → Post μ F H μ' F' H' → st μ' F' H'
  go : ∀ i μ F H, st μ F H → Sub F H → i < ds.length → J.go i H
  yld : ∀ i μ F H x H' d s, st μ F H → StOk G μ F H s → ds[i]? = some d → J.yld i H x H' → ∃ F', Post μ F H μ F' H' ∧ StOk G μ F' H' s ∧ Rp G μ F' d x
  len : ds.length ≤ sizeLine
  stop : ∀ i μ F H, st μ F H → Sub F H → ds.length ≤ i → J.stop i H
def WantI (G : Gs) (μ : List Addr) (F H : Hp) (R : It → Hp → Prop) : List D → Sto → Prop :=
  fun ds st' => ∀ J K μ' F' H', Post μ F H μ' F' H' → StOk G μ' F' H' st' → ItOk G J K ds → K μ' F' H' → R J H'
def tKI (G : Gs) (md : List Md) (m : Env → M (List D)) : TI := fun σ H R => ∃ ρ μ F st, EnvOk G md μ F H ρ σ ∧ StOk G μ F H st ∧ (m ρ).gives st (WantI G μ F H R)
def SI (cl : String → Option Addr) (md : List Md) (X : Cx) (tg x : Expr) (m : Env → M (List D)) : Prop := PI X tg x (tKI (gs X cl) md m)

def itemsD : D → M (List D)
  | .lst ds => pure ds
  | .frl ds => pure ds
  | .tup ds => pure ds
  | _ => M.bad
theorem rpl_get {G : Gs} {μ : List Addr} {F : Hp} : ∀ {ds : List D} {vs : List V} {i : Nat} {d : D} {v : V}, RpL G μ F ds vs → ds[i]? = some d → vs[i]? = some v → Rp G μ F d v
  | [], _, i, _, _, _, h, _ => by simp at h
  | d :: ds, _, 0, _, _, h, h1, h2 => by
    obtain ⟨v, r, e, h3, h4⟩ := h
    subst e
    simp only [List.getElem?_cons_zero, Option.some.injEq] at h1 h2
    subst h1 h2
    exact h3
  | d :: ds, _, i + 1, _, _, h, h1, h2 => by
    obtain ⟨v, r, e, h3, h4⟩ := h
    subst e
    simp only [List.getElem?_cons_succ] at h1 h2
    exact rpl_get h4 h1 h2
theorem sql_fun {K : PySem.W.Frag} {H : Hp} {a : Addr} {xs : List V} (h : SqL K H a xs) : (∀ {i : Nat} {x : V}, xs[i]? = some x → (Itl K a).go i H) ∧ (∀ {i : Nat}, xs.length ≤ i → (Itl K a).stop i H) :=
  ⟨fun e => ⟨xs, _, h, e⟩, fun e => ⟨xs, h, e⟩⟩
theorem it_list {G : Gs} {a : Addr} {ds : List D} {vs : List V} (zl : ds.length ≤ sizeLine) : ItOk G (Itl G.K a) (fun μ F H => SqL G.K F a vs ∧ RpL G μ F ds vs) ds where
  keep := fun μ F H μ' F' H' ⟨h, r⟩ p => ⟨p.subF.seqL h, RpL.mono p.mu p.subF _ _ r⟩
  go := fun i μ F H ⟨h, r⟩ s hi => by
    have hv : i < vs.length := by rw [rpl_len r]; exact hi
    exact ⟨vs, vs[i], s.seqL h, List.getElem?_eq_getElem hv⟩
  yld := fun i μ F H x H' d st ⟨h, r⟩ s hd ⟨e, hx⟩ => by
    subst e
    exact ⟨F, .refl, s, rpl_get r hd (hx vs (s.sub.seqL h))⟩
  len := zl
  stop := fun i μ F H ⟨h, r⟩ s hi => ⟨vs, s.seqL h, by rw [rpl_len r]; exact hi⟩
theorem it_tup {G : Gs} {a : Addr} {ds : List D} {vs : List V} (zl : ds.length ≤ sizeLine) : ItOk G (Itt G.K a) (fun μ F H => SqT G.K F a vs ∧ RpL G μ F ds vs) ds where
  keep := fun μ F H μ' F' H' ⟨h, r⟩ p => ⟨p.subF.seqT h, RpL.mono p.mu p.subF _ _ r⟩
  go := fun i μ F H ⟨h, r⟩ s hi => by
    have hv : i < vs.length := by rw [rpl_len r]; exact hi
    exact ⟨vs, vs[i], s.seqT h, List.getElem?_eq_getElem hv⟩
  yld := fun i μ F H x H' d st ⟨h, r⟩ s hd ⟨e, hx⟩ => by
    subst e
    exact ⟨F, .refl, s, rpl_get r hd (hx vs (s.sub.seqT h))⟩
  len := zl
  stop := fun i μ F H ⟨h, r⟩ s hi => ⟨vs, s.seqT h, by rw [rpl_len r]; exact hi⟩
/-- .. a list of one's own that stays as it is -/
theorem it_own {G : Gs} {a : Addr} {ds : List D} {vs : List V} (zl : ds.length ≤ sizeLine) : ItOk G (Itl G.K a) (fun μ F H => a ∉ μ ∧ H a = some (.lst vs) ∧ RpL G μ F ds vs) ds where
  keep := fun μ F H μ' F' H' ⟨n, h, r⟩ p => ⟨p.notin h n, p.keep _ _ h n, RpL.mono p.mu p.subF _ _ r⟩
  go := fun i μ F H ⟨n, h, r⟩ s hi => by
    have hv : i < vs.length := by rw [rpl_len r]; exact hi
    exact ⟨vs, vs[i], .inl (.inl h), List.getElem?_eq_getElem hv⟩
  yld := fun i μ F H x H' d st ⟨n, h, r⟩ s hd ⟨e, hx⟩ => by
    subst e
    exact ⟨F, .refl, s, rpl_get r hd (hx vs (.inl (.inl h)))⟩
  len := zl
  stop := fun i μ F H ⟨n, h, r⟩ s hi => ⟨vs, .inl (.inl h), by rw [rpl_len r]; exact hi⟩
section
variable {cl : String → Option Addr} {md : List Md} {X : Cx}
/-- a walk over a list or a tuple (in an expression: a comprehension's, where one's own lists stand still) -/
theorem si_seq {tg x : Expr} {m : Env → M D} (h : SK cl md X .bor x m) : SI cl md X tg x (fun ρ => do let d ← m ρ; itemsD d) := PI.mono (pi_seq h) fun σ H R ⟨ρ, μ, F, st, hE, hS, w⟩ => by
  refine ⟨ρ, μ, F, st, hE, hS, ?_⟩
  rw [M.gives_bind] at w
  refine M.gives_mono w fun d st1 w1 v μ1 F1 H1 p1 s1 r1 => ?_
  cases d <;> try exact w1.elim
  · rcases r1 with ⟨z, a, vs, e, hq, r⟩ | ⟨a, e, n, f, z, vs, hq, r⟩
    · exact ⟨a, e, .inl ⟨⟨vs, .inl (.inl (s1.sub _ _ hq))⟩, w1 _ _ μ1 F1 H1 p1 s1 (it_list z) ⟨.inl (.inl hq), r⟩⟩⟩
    · exact ⟨a, e, .inl ⟨⟨vs, .inl (.inl hq)⟩, w1 _ _ μ1 F1 H1 p1 s1 (it_own z) ⟨n, hq, r⟩⟩⟩
  · rcases r1 with ⟨z, a, vs, e, hq, r⟩ | ⟨a, e, n, f⟩
    · exact ⟨a, e, .inr ⟨⟨vs, s1.sub.seqT hq⟩, w1 _ _ μ1 F1 H1 p1 s1 (it_tup z) ⟨hq, r⟩⟩⟩
    · exact f.elim
  · rcases r1 with ⟨z, a, vs, e, hq, r⟩ | ⟨a, e, n, f⟩
    · exact ⟨a, e, .inl ⟨⟨vs, s1.sub.seqL hq⟩, w1 _ _ μ1 F1 H1 p1 s1 (it_list z) ⟨hq, r⟩⟩⟩
    · exact f.elim
/-- range(n) -/
def rangeD (lo n : Int) : List D := (List.range (n - lo).toNat).map fun (i : Nat) => D.int (lo + i)
theorem it_range {G : Gs} {lo n : Int} (hz : n - lo ≤ 16777216) : ItOk G (Itr lo (n - lo).toNat) (fun _ _ _ => True) (rangeD lo n) where
  keep := fun _ _ _ _ _ _ _ _ => trivial
  go := fun i μ F H _ _ hi => by simpa [rangeD, Itr] using hi
  yld := fun i μ F H x H' d s _ hs hd ⟨e, hx⟩ => by
    subst e hx
    refine ⟨F, .refl, hs, ?_⟩
    have hi : i < (n - lo).toNat := by
      have := (List.getElem?_eq_some_iff.mp hd).1
      simpa [rangeD] using this
    simp only [rangeD, List.getElem?_map, List.getElem?_range hi, Option.map_some, Option.some.injEq] at hd
    subst hd
    exact rfl
  len := by simp only [rangeD, List.length_map, List.length_range]; rw [sizeLine_eq]; omega
  stop := fun i μ F H _ _ hi => by simpa [rangeD, Itr] using hi
def rng1 (d : D) : M (List D) := match d with
  | .int n => if -(2 ^ 62) ≤ n ∧ n ≤ 16777216 then pure (rangeD 0 n) else M.bad
  | _ => M.bad
theorem rng1_gives {d : D} {st : Sto} {P : List D → Sto → Prop} (h : (rng1 d).gives st P) : ∃ n : Int, d = .int n ∧ (-(2 ^ 62) ≤ n ∧ n ≤ 16777216) ∧ P (rangeD 0 n) st := by
  unfold rng1 at h
  cases d <;> try exact h.elim
  rename_i n
  simp only at h
  split at h
  · rename_i q; exact ⟨n, rfl, q, h⟩
  · exact h.elim
theorem si_range1 {tg a : Expr} {p pos : Pos} {m : Env → M D} (hg : Gl X "range") (hm : X.mg "range" = none) (h : SK cl md X .val a m) (hs : starEach [a] X.env = [(false, eval a X.env)] := by rfl) : SI cl md X tg (.Call (.Name "range" p) [a] [] pos) (fun ρ => do let d ← m ρ; rng1 d) :=
  PI.mono (pi_range1 hg hm (sa_cons h sa_nil (by rw [hs]; rfl)) hs) fun σ H R ⟨ρ, μ, F, st, hE, hS, w⟩ => by
    refine ⟨ρ, μ, F, st, hE, hS, ?_⟩
    rw [M.gives_bind] at w ⊢
    refine M.gives_mono w fun d st1 w1 => ?_
    show WantL _ _ _ _ _ _ [d] st1
    intro vs μ1 F1 H1 p1 s1 ⟨l1, l2, r1⟩
    obtain ⟨n, rfl, hn, w2⟩ := rng1_gives w1
    match vs, l2 with
    | [v], _ =>
      have rv := r1 0 .val (.int n) v rfl rfl rfl
      have ev : v = .int n := rv
      subst ev
      refine ⟨n, rfl, hn.1, by omega, ?_⟩
      have := w2 (Itr 0 (n - 0).toNat) _ μ1 F1 H1 p1 s1 (it_range (by omega)) trivial
      rw [Int.sub_zero] at this
      exact this
end
end Sh
namespace Sh
open PySem PySem.Spec PyProof.Rows L2

section
variable {G : Gs} {md : List Md} {μ μ1 : List Addr} {F F1 H H1 : Hp} {ρ : Env} {σ : L2.St} {st : Sto}
/-- a slot gets a value -/
theorem EnvOk.setV {i : Nat} {d : D} {v : V} (h : EnvOk G md μ F H ρ σ) (hm : md[i]? = some .val) (r : Rp G μ F d v) : EnvOk G md μ F H (ρ.set i (some d)) (σ.set i (some v)) := by
  obtain ⟨h0, h1, α, h2, h3, h4⟩ := h
  have hi : i < md.length := (List.getElem?_eq_some_iff.mp hm).1
  have hr : i < ρ.length := by rw [← h1]; exact hi
  have hs : i < σ.length := by rw [← h0]; exact hr
  refine ⟨by simp [h0], by simp [h1], α, fun j m e e1 e2 => ?_, h3, fun j e2 => ?_⟩
  · by_cases hj : i = j
    · subst hj
      rw [List.getElem?_set_self hr] at e2
      cases e2
      rw [hm] at e1; cases e1
      refine ⟨v, List.getElem?_set_self hs, ?_⟩
      cases ha : α i with
      | none => exact ⟨by decide, r⟩
      | some a =>
        exfalso
        by_cases q : ∃ e, ρ[i]? = some (some e)
        · obtain ⟨e, q⟩ := q
          obtain ⟨v', _, z⟩ := h2 i .val e hm q
          rw [ha] at z
          exact z.2.1 rfl
        · have := h4 i fun d z => q ⟨d, z⟩
          rw [ha] at this; cases this
    · rw [List.getElem?_set_ne hj] at e2 ⊢
      exact h2 j m e e1 e2
  · by_cases hj : i = j
    · subst hj
      cases ha : α i with
      | none => rfl
      | some a =>
        exfalso
        by_cases q : ∃ e, ρ[i]? = some (some e)
        · obtain ⟨e', q⟩ := q
          obtain ⟨v', _, z⟩ := h2 i .val e' hm q
          rw [ha] at z
          exact z.2.1 rfl
        · have := h4 i fun d z => q ⟨d, z⟩
          rw [ha] at this; cases this
    · exact h4 j fun d z => e2 d (by rw [List.getElem?_set_ne hj]; exact z)
/-- a slot is forgotten -/
theorem EnvOk.setN {i : Nat} (h : EnvOk G md μ F H ρ σ) : EnvOk G md μ F H (ρ.set i none) (σ.set i none) := by
  obtain ⟨h0, h1, α, h2, h3, h4⟩ := h
  refine ⟨by simp [h0], by simp [h1], fun j => if j = i then none else α j, fun j m e e1 e2 => ?_, fun j k a e1 e2 ne => ?_, fun j e2 => ?_⟩
  · have hj : i ≠ j := fun q => by
      subst q
      by_cases hl : i < ρ.length
      · rw [List.getElem?_set_self hl] at e2; cases e2
      · rw [List.getElem?_eq_none (by simpa using hl)] at e2; cases e2
    rw [List.getElem?_set_ne hj] at e2 ⊢
    obtain ⟨v, e3, z⟩ := h2 j m e e1 e2
    refine ⟨v, e3, ?_⟩
    simp only [if_neg (Ne.symm hj)]
    exact z
  · simp only at e1 e2
    split at e1
    · cases e1
    · split at e2
      · cases e2
      · exact h3 j k a e1 e2 ne
  · simp only
    split
    · rfl
    · rename_i hj
      exact h4 j fun d z => e2 d (by rw [List.getElem?_set_ne (fun q => hj q.symm)]; exact z)
def wipeE (ρ : Env) : List Nat → Env
  | [] => ρ
  | v :: vs => (wipeE ρ vs).set v none
theorem EnvOk.wipe (h : EnvOk G md μ F H ρ σ) : ∀ vs : List Nat, EnvOk G md μ F H (wipeE ρ vs) (L2.wipe σ vs)
  | [] => h
  | v :: vs => (EnvOk.wipe h vs).setN
theorem wipe_same {σ σ' : L2.St} (hl : σ'.length = σ.length) : ∀ {vs : List Nat}, (∀ i, i ∉ vs → σ'[i]? = σ[i]?) → L2.wipe σ' vs = L2.wipe σ vs := by
  intro vs h
  apply List.ext_getElem?
  intro i
  by_cases hi : i ∈ vs
  · have none_at : ∀ (τ : L2.St) (ws : List Nat), i ∈ ws → (L2.wipe τ ws)[i]? = if i < τ.length then some none else none := by
      intro τ ws
      induction ws with
      | nil => intro q; simp at q
      | cons w ws ih =>
        intro q
        show ((L2.wipe τ ws).set w none)[i]? = _
        by_cases hw : w = i
        · subst hw
          by_cases hl : w < τ.length
          · rw [List.getElem?_set_self (by rw [wipe_length]; exact hl), if_pos hl]
          · rw [List.getElem?_eq_none (by rw [List.length_set, wipe_length]; omega), if_neg hl]
        · rw [List.getElem?_set_ne hw]
          exact ih (by simpa [Ne.symm hw] using q)
    rw [none_at σ' vs hi, none_at σ vs hi, hl]
  · rw [wipe_out hi, wipe_out hi]
    exact h i hi
end

/-! ### targets -/
def tG (G : Gs) (md : List Md) (ns : List Nat) (g : D → Env → Option Env) : TG := fun v σ H Q => ∃ ρ μ F d ρ', EnvOk G md μ F H ρ σ ∧ Sub F H ∧ Rp G μ F d v ∧ g d ρ = some ρ' ∧
  ∀ σ', EnvOk G md μ F H ρ' σ' → σ'.length = σ.length → (∀ i, i ∉ ns → σ'[i]? = σ[i]? ∧ ρ'[i]? = ρ[i]?) → Q σ' H
def SG (cl : String → Option Addr) (md : List Md) (X : Cx) (ns : List Nat) (t : Expr) (g : D → Env → Option Env) : Prop := PG X t (tG (gs X cl) md ns g)
theorem PG.mono {X : Cx} {e : Expr} {t t' : TG} (h : PG X e t) (i : ∀ v σ H Q, t' v σ H Q → t v σ H Q) : PG X e t' := ⟨fun pins s σ H v u Q I r q => h.run pins s σ H v u Q I r (i v σ H Q q)⟩
theorem PGs.mono {X : Cx} {e : List Expr} {t t' : TGs} (h : PGs X e t) (i : ∀ v σ H Q, t' v σ H Q → t v σ H Q) : PGs X e t' := ⟨fun pins s σ H v u Q I r q => h.run pins s σ H v u Q I r (i v σ H Q q)⟩
def setV (i : Nat) (d : D) (ρ : Env) : Option Env := some (ρ.set i (some d))
def tGs (G : Gs) (md : List Md) (ns : List Nat) (g : List D → Env → Option Env) : TGs := fun vs σ H Q => ∃ ρ μ F ds ρ', EnvOk G md μ F H ρ σ ∧ Sub F H ∧ RpL G μ F ds vs ∧ g ds ρ = some ρ' ∧
  ∀ σ', EnvOk G md μ F H ρ' σ' → σ'.length = σ.length → (∀ i, i ∉ ns → σ'[i]? = σ[i]? ∧ ρ'[i]? = ρ[i]?) → Q σ' H
def SGs (cl : String → Option Addr) (md : List Md) (X : Cx) (ns : List Nat) (t : List Expr) (g : List D → Env → Option Env) : Prop := PGs X t (tGs (gs X cl) md ns g)
section
variable {cl : String → Option Addr} {md : List Md} {X : Cx}
theorem sg_name (i : Nat) {x : Str} {pos : Pos} (hN : X.N.Nodup) (hm : md[i]? = some .val := by rfl) (hi : X.N[i]? = some x := by rfl) (hx : Loc X.env.scope x := by first | exact Or.inl rfl | exact Or.inr rfl) (hf : X.fn x = true ∨ X.env.scope.names.lookup x = some .local := by first | exact .inl rfl | exact .inr rfl | assumption) :
    SG cl md X [i] (.Name x pos) (setV i) := PG.mono (pg_name hN hi hx hf) fun v σ H Q ⟨ρ, μ, F, d, ρ', hE, hS, r, e, w⟩ => by
  cases e
  refine w _ (hE.setV hm r) (by simp) fun j hj => ?_
  have nj : i ≠ j := fun q => hj (by simp [q])
  exact ⟨List.getElem?_set_ne nj, List.getElem?_set_ne nj⟩
def gNilD : List D → Env → Option Env
  | [], ρ => some ρ
  | _ :: _, _ => none
def gConsD (g : D → Env → Option Env) (h : List D → Env → Option Env) : List D → Env → Option Env
  | [], _ => none
  | d :: ds, ρ => (g d ρ).bind fun ρ' => h ds ρ'
theorem sgs_nil : SGs cl md X [] [] gNilD := PGs.mono pgs_nil fun vs σ H Q ⟨ρ, μ, F, ds, ρ', hE, hS, r, e, w⟩ => by
  cases ds with
  | cons d ds => cases e
  | nil => cases e; exact ⟨r, w σ hE rfl fun _ _ => ⟨rfl, rfl⟩⟩
theorem sgs_cons {n1 n2 : List Nat} {e : Expr} {es : List Expr} {g : D → Env → Option Env} {h : List D → Env → Option Env} (h1 : SG cl md X n1 e g) (h2 : SGs cl md X n2 es h)
    (hs : (assignEach (e :: es) X.env).map (·.2) = assign e X.env :: (assignEach es X.env).map (·.2) := by rfl) : SGs cl md X (n1 ++ n2) (e :: es) (gConsD g h) := PGs.mono (pgs_cons h1 h2 hs) fun vs σ H Q ⟨ρ, μ, F, ds, ρ', hE, hS, r, e, w⟩ => by
  cases ds with
  | nil => cases e
  | cons d ds =>
    obtain ⟨v, vr, ev, r1, r2⟩ := r
    obtain ⟨ρ1, e1, e2⟩ := Option.bind_eq_some_iff.mp e
    exact ⟨v, vr, ev, ρ, μ, F, d, ρ1, hE, hS, r1, e1, fun σ1 hE1 hl1 hσ1 => ⟨ρ1, μ, F, ds, ρ', hE1, hS, r2, e2, fun σ2 hE2 hl2 hσ2 => w σ2 hE2 (hl2.trans hl1) fun i hi => by
      have a1 := hσ2 i fun q => hi (List.mem_append_right _ q)
      have a2 := hσ1 i fun q => hi (List.mem_append_left _ q)
      exact ⟨a1.1.trans a2.1, a1.2.trans a2.2⟩⟩⟩
def gTupD (h : List D → Env → Option Env) : D → Env → Option Env
  | .tup ds, ρ => h ds ρ
  | _, _ => none
def LenD (h : List D → Env → Option Env) (n : Nat) : Prop := ∀ ds ρ ρ', h ds ρ = some ρ' → ds.length = n
theorem gl_nil : LenD gNilD 0 := fun ds ρ ρ' h => by cases ds <;> first | rfl | cases h
theorem gl_cons {g : D → Env → Option Env} {h : List D → Env → Option Env} {n : Nat} (q : LenD h n) : LenD (gConsD g h) (n + 1) := fun ds ρ ρ' e => by
  cases ds with
  | nil => cases e
  | cons d ds =>
    obtain ⟨ρ1, _, e2⟩ := Option.bind_eq_some_iff.mp e
    simp [q _ _ _ e2]
theorem sg_tup {ns : List Nat} {es : List Expr} {k n : Nat} {pos : Pos} {h : List D → Env → Option Env} (hc : X.calm = true) (h1 : SGs cl md X ns es h) (hlen : LenD h n)
    (hn : (assignEach es X.env).length = n := by rfl) (hst : (assignEach es X.env).findIdx? (·.1) = none := by rfl) : SG cl md X ns (.Tuple es k pos) (gTupD h) := PG.mono (pg_tup hc h1 hn hst) fun v σ H Q ⟨ρ, μ, F, d, ρ', hE, hS, r, e, w⟩ => by
  obtain ⟨ds, rfl⟩ : ∃ ds, d = .tup ds := by
    cases d <;> first | exact ⟨_, rfl⟩ | cases e
  have e : h ds ρ = some ρ' := e
  obtain ⟨_, a, vs, ev, hq, r⟩ := r
  exact ⟨a, vs, ev, hS.seqT hq, by rw [rpl_len r]; exact hlen _ _ _ e, ρ, μ, F, ds, ρ', hE, hS, r, e, w⟩

/-! ### [e for x in it if t] -/
def compD (g : D → Env → Option Env) (t : Env → M Bool) (e : Env → M D) (ρ : Env) : List D → M (List D)
  | [] => pure []
  | x :: xs => match g x ρ with
    | none => M.bad
    | some ρ1 => do
      let b ← t ρ1
      if b = true then do
        let y ← e ρ1
        let r ← compD g t e ρ xs
        pure (y :: r)
      else compD g t e ρ xs
theorem rpl_snoc {G : Gs} {μ : List Addr} {F : Hp} : ∀ {ds : List D} {vs : List V} {d : D} {v : V}, RpL G μ F ds vs → Rp G μ F d v → RpL G μ F (ds ++ [d]) (vs ++ [v])
  | [], _, d, v, h, r => by have h : _ = _ := h; subst h; exact ⟨v, [], rfl, r, rfl⟩
  | c :: ds, _, d, v, h, r => by
    obtain ⟨u, vr, e, h1, h2⟩ := h
    subst e
    exact ⟨u, vr ++ [v], rfl, h1, rpl_snoc h2 r⟩
/-- where a block's judgements are had: at every block that starts here -/
def Blk (X : Cx) (scope : Scope) (P : Cx → Prop) : Prop := ∀ (s : Shared) (H : Hp) (C : Addr) (cc : List (Str × Addr)) (fp : List Addr), P (X.blk s H scope (compEnvC scope cc C X.env) fp)
theorem Post.lstmut {μ0 μ : List Addr} {F0 F H0 H : Hp} {a : Addr} {o : HO} (p : Post μ0 F0 H0 μ F H) (n : H0 a = none) : Post μ0 F0 H0 μ F (upd H a o) :=
  ⟨p.subF, p.new, fun b u h nb => by rw [upd_ne (ne_of_none h n)]; exact p.keep b u h nb, p.ext, fun b u h => by
    obtain ⟨u', h'⟩ := p.there b u h
    exact ⟨u', by rw [upd_ne (ne_of_none h n)]; exact h'⟩⟩
/-- the state at a comprehension's turn i -/
def CompW (G : Gs) (g : D → Env → Option Env) (t : Env → M Bool) (e : Env → M D) (ρ : Env) (ds : List D) (μ : List Addr) (F H : Hp) (A : Addr) (Q : VK) (i : Nat) (H1 : Hp) : Prop :=
  i ≤ ds.length ∧ ∃ μ1 F1 st1 as vas, Post μ F H μ1 F1 H1 ∧ StOk G μ1 F1 H1 st1 ∧ A ∉ μ1 ∧ F1 A = none ∧ H1 A = some (.lst vas) ∧ RpL G μ1 F1 as vas ∧ as.length ≤ i ∧
    (compD g t e ρ (ds.drop i)).gives st1 fun rs st' => ∀ μ' F' H', Post μ F H μ' F' H' → StOk G μ' F' H' st' → RK G .fre H μ' F' H' (.lst (as ++ rs)) (.ref A) → Q (.ref A) H'
theorem ObjAt.lstmut {G : Gs} {μ : List Addr} {F H : Hp} {a b : Addr} {xs : List V} {o : HO} {d : D} (h : ObjAt G μ F H b d) (ha : H a = some (.lst xs)) (ne : b ≠ a) : ObjAt G μ F (upd H a o) b d := by
  cases d <;> try exact h.elim
  · obtain ⟨f, z, vs, e, r⟩ := h
    exact ⟨f, z, vs, by rw [upd_ne ne]; exact e, r⟩
  · obtain ⟨f, z, L, e, r⟩ := h
    exact ⟨f, z, L, by rw [upd_ne ne]; exact e, r⟩
  · obtain ⟨f, C, dx, fv, e1, e2, n2, f2, c, r⟩ := h
    exact ⟨f, C, dx, fv, by rw [upd_ne ne]; exact e1, by rw [upd_ne (show dx ≠ a from fun q => by subst q; rw [ha] at e2; cases e2)]; exact e2, n2, f2, c, r⟩
  · obtain ⟨f, z, L, e, r⟩ := h
    exact ⟨f, z, L, by rw [upd_ne ne]; exact e, r⟩
theorem StOk.lstmut {G : Gs} {μ : List Addr} {F H : Hp} {st : Sto} {a : Addr} {xs : List V} {o : HO} (s : StOk G μ F H st) (ha : H a = some (.lst xs)) (na : a ∉ μ) (fa : F a = none) : StOk G μ F (upd H a o) st :=
  ⟨s.sub.addR fa, s.len, s.nd, fun l b d hl hd => (s.obj l b d hl hd).lstmut ha fun q => na (q ▸ List.mem_of_getElem? hl)⟩
theorem comp_run {g : D → Env → Option Env} {t : Env → M Bool} {e : Env → M D} {gt : TG} {tt : TT} {te : TE} {ns vs : List Nat} (hv : ∀ i ∈ ns, i ∈ vs)
    (hg : ∀ v σ H Q, tG (gs X cl) md ns g v σ H Q → gt v σ H Q) (ht : ∀ σ H Q, tKB (gs X cl) md t σ H Q → tt σ H Q) (he : ∀ σ H Q, tK (gs X cl) md .val e σ H Q → te σ H Q)
    {J : It} {K : List Addr → Hp → Hp → Prop} {ds : List D} (hJ : ItOk (gs X cl) J K ds) {σ : L2.St} {ρ : Env} {μ : List Addr} {F H : Hp} {st : Sto} {A : Addr} {Q : VK}
    (hE : EnvOk (gs X cl) md μ F H ρ σ) (hS : StOk (gs X cl) μ F H st) (hK : K μ F H) (nA : H A = none)
    (w : (compD g t e (wipeE ρ vs) ds).gives st fun rs st' => ∀ μ' F' H', Post μ F H μ' F' H' → StOk (gs X cl) μ' F' H' st' → RK (gs X cl) .fre H μ' F' H' (.lst rs) (.ref A) → Q (.ref A) H') :
    ∃ W : Nat → Nat → Hp → Prop, (∃ m, W 0 m (upd H A (.lst []))) ∧ ∀ i m H, W i m H →
      (J.stop i H ∧ Q (.ref A) H) ∨ (J.go i H ∧ ∃ Nx : Hp → Prop, (∀ H', Nx H' → ∃ m', m' < m ∧ W (i + 1) m' H') ∧ ∀ x H', J.yld i H x H' → gt x (wipe σ vs) H' fun σ2 H2 => wipe σ2 vs = wipe σ vs ∧ tt σ2 H2 fun b H3 =>
        if b = true then te σ2 H3 fun y H4 => ∃ acc, H4 A = some (.lst acc) ∧ acc.length < sizeLine ∧ Nx (upd H4 A (.lst (acc ++ [y]))) else Nx H3) := by
  refine ⟨fun i m H1 => m = ds.length - i ∧ CompW (gs X cl) g t e (wipeE ρ vs) ds μ F H A Q i H1,
    ⟨ds.length, by simp, Nat.zero_le _, μ, F, st, [], [], Post.refl.alloc nA, hS.alloc nA, hS.notin nA, hS.sub.free nA, upd_same, rfl, Nat.le_refl _, by simpa using w⟩, ?_⟩
  rintro i m H1 ⟨rfl, hi, μ1, F1, st1, as, vas, p1, s1, nμ, fA, hA, rA, hl, w1⟩
  have k1 := hJ.keep _ _ _ _ _ _ hK p1
  by_cases hlt : i < ds.length
  · refine .inr ⟨hJ.go i _ _ _ k1 s1.sub hlt, CompW (gs X cl) g t e (wipeE ρ vs) ds μ F H A Q (i + 1), fun H' q => ⟨ds.length - (i + 1), by omega, rfl, q⟩, fun x H2 hy => ?_⟩
    have hd : ds[i]? = some ds[i] := List.getElem?_eq_getElem hlt
    obtain ⟨F2, p2, s2, r2⟩ := hJ.yld i _ _ _ x H2 ds[i] st1 k1 s1 hd hy
    rw [List.drop_eq_getElem_cons hlt] at w1
    unfold compD at w1
    cases eg : g ds[i] (wipeE ρ vs) with
    | none => rw [eg] at w1; exact w1.elim
    | some ρ1 =>
      rw [eg] at w1
      simp only at w1
      refine hg x _ H2 _ ⟨wipeE ρ vs, μ1, F2, ds[i], ρ1, (hE.post (p1.trans p2)).wipe vs, s2.sub, r2, eg, fun σ2 hE2 hl2 hσ2 => ?_⟩
      have ws : wipe σ2 vs = wipe (wipe σ vs) vs := wipe_same hl2 fun j hj => (hσ2 j fun q => hj (hv j q)).1
      have ww : wipe (wipe σ vs) vs = wipe σ vs := wipe_same (wipe_length σ vs) fun j hj => wipe_out hj
      refine ⟨ws.trans ww, ht σ2 H2 _ ⟨ρ1, μ1, F2, st1, hE2, s2, ?_⟩⟩
      rw [M.gives_bind] at w1
      have hA2 : H2 A = some (.lst vas) := p2.keep _ _ hA nμ
      have fA2 : F2 A = none := p2.unfrz hA fA
      refine M.gives_mono w1 fun b st2 w2 μ3 F3 H3 p3 s3 => ?_
      have hA3 : H3 A = some (.lst vas) := p3.keep _ _ hA2 nμ
      have n3 : A ∉ μ3 := p3.notin hA2 nμ
      have fA3 : F3 A = none := p3.unfrz hA2 fA2
      cases b with
      | false =>
        dsimp only at w2 ⊢
        rw [if_neg Bool.false_ne_true] at w2 ⊢
        exact ⟨hlt, μ3, F3, st2, as, vas, p1.trans (p2.trans p3), s3, n3, fA3, hA3, RpL.post (p2.trans p3) rA, by omega, w2⟩
      | true =>
        dsimp only at w2 ⊢
        rw [if_pos rfl] at w2 ⊢
        refine he σ2 H3 _ ⟨ρ1, μ3, F3, st2, hE2.post p3, s3, ?_⟩
        rw [M.gives_bind] at w2
        refine M.gives_mono w2 fun y st3 w3 v μ4 F4 H4 p4 s4 r4 => ?_
        have hA4 : H4 A = some (.lst vas) := p4.keep _ _ hA3 n3
        have n4 : A ∉ μ4 := p4.notin hA3 n3
        have fA4 : F4 A = none := p4.unfrz hA3 fA3
        have pall := p1.trans (p2.trans (p3.trans p4))
        rw [M.gives_bind] at w3
        have hz := hJ.len
        refine ⟨vas, hA4, by rw [rpl_len rA]; omega, hlt, μ4, F4, st3, as ++ [y], vas ++ [v], pall.lstmut nA, s4.lstmut hA4 n4 fA4, n4, fA4, upd_same, rpl_snoc (RpL.post (p2.trans (p3.trans p4)) rA) r4, by simp; omega, ?_⟩
        refine M.gives_mono w3 fun rs st5 w5 μ5 F5 H5 p5 s5 r5 => ?_
        exact w5 μ5 F5 H5 p5 s5 (by simpa using r5)
  · have ei : i = ds.length := by omega
    subst ei
    refine .inl ⟨hJ.stop _ _ _ _ k1 s1.sub (Nat.le_refl _), ?_⟩
    rw [List.drop_length] at w1
    have hz := hJ.len
    exact w1 μ1 F1 H1 p1 s1 ⟨A, rfl, nA, (fun C dx fv h => by rw [hA] at h; cases h), nμ, fA, by simp; omega, vas, hA, by simpa using rA⟩
theorem sk_comp {elt tg iter : Expr} {ifs : List Expr} {scope : Scope} {pos : Pos} {own : List (Str × Nat)} {ns : List Nat} {mi : Env → M (List D)} {g : D → Env → Option Env} {t : Env → M Bool} {e : Env → M D} (hc : X.calm = true) (hN : X.N.Nodup)
    (ok : blkC X.N X.env.scope scope own = true) (hv : ∀ i ∈ ns, i ∈ own.map (·.2)) (hi : SI cl md X tg iter mi) (hg : Blk X scope fun Y => SG cl md Y ns tg g) (ht : Blk X scope fun Y => PTs Y ifs (tKB (gs X cl) md t)) (he : Blk X scope fun Y => SK cl md Y .val elt e)
    (hs : ∀ x, foldedSetIterable iter X.env x = pure x := by intro _; rfl) : SK cl md X .fre (.ListComp elt [⟨tg, iter, ifs, 0⟩] scope pos) (fun ρ => do let ds ← mi ρ; let rs ← compD g t e (wipeE ρ (own.map (·.2))) ds; pure (.lst rs)) :=
  PE.mono (pe_lc (g := tG (gs X cl) md ns g) (tt := tKB (gs X cl) md t) (te := tK (gs X cl) md .val e) hc hN hi (blkOk_by ok) (fun s H C cc fp => hg s H C cc fp) (fun s H C cc fp => ht s H C cc fp) (fun s H C cc fp => he s H C cc fp) hs) fun σ H Q ⟨ρ, μ, F, st, hE, hS, w⟩ => by
    refine ⟨ρ, μ, F, st, hE, hS, ?_⟩
    rw [M.gives_bind] at w
    refine M.gives_mono w fun ds st1 w1 J K μ1 F1 H1 p1 s1 hJ hK A nA => ?_
    refine comp_run hv (fun _ _ _ _ q => q) (fun _ _ _ q => q) (fun _ _ _ q => q) hJ (hE.post p1) s1 hK nA ?_
    rw [M.gives_bind] at w1
    exact M.gives_mono w1 fun rs st2 w2 μ' F' H' p2 s2 r2 => w2 _ μ' F' H' (p1.trans p2) s2 (r2.base fun _ n => p1.free n)
end
end Sh
namespace Sh
open PySem PySem.Spec PyProof.Rows L2

inductive Fl where
  | nx | bk | ct
  | rt (d : D)
/-- the state at a def's entry; how its result is to lie -/
structure Bs where
  μ : List Addr
  F : Hp
  H : Hp
  rk : Kd
/-- the state within a def's body -/
structure Sit (G : Gs) (md : List Md) (B : Bs) (ρ : Env) (σ : L2.St) (μ : List Addr) (F H : Hp) (st : Sto) : Prop where
  env : EnvOk G md μ F H ρ σ
  sto : StOk G μ F H st
  post : Post B.μ B.F B.H μ F H
  fre : ∀ (i : Nat) (d : D) (a : Addr), md[i]? = some .own → ρ[i]? = some (some d) → σ[i]? = some (some (.ref a)) → B.H a = none ∧ ∀ C dx fv, H a = some (.ins C dx fv) → B.H dx = none
theorem Sit.step {G : Gs} {md : List Md} {B : Bs} {ρ : Env} {σ : L2.St} {μ μ' : List Addr} {F F' H H' : Hp} {st st' : Sto} (s : Sit G md B ρ σ μ F H st) (p : Post μ F H μ' F' H') (q : StOk G μ' F' H' st') : Sit G md B ρ σ μ' F' H' st' := by
  refine ⟨s.env.post p, q, s.post.trans p, fun i d a e1 e2 e3 => ?_⟩
  obtain ⟨f1, f2⟩ := s.fre i d a e1 e2 e3
  refine ⟨f1, fun C dx fv h => ?_⟩
  obtain ⟨_, _, α, h2, h3, h4⟩ := s.env
  obtain ⟨v, ev, z⟩ := h2 i .own d e1 e2
  rw [e3] at ev; cases ev
  cases hα : α i with
  | none => rw [hα] at z; exact absurd rfl z.1
  | some b =>
    rw [hα] at z
    obtain ⟨z1, _, z2⟩ := z
    cases z1
    obtain ⟨o, ho⟩ := z2.2.ex
    have := p.keep a o ho z2.1
    rw [h] at this; cases this
    exact f2 C dx fv ho
def WantS (G : Gs) (md : List Md) (B : Bs) (μ : List Addr) (F : Hp) (D : Ends) : Fl × Env → Sto → Prop := fun r st' => match r.1 with
  | .nx => ∀ σ' μ' F' H', Sit G md B r.2 σ' μ' F' H' st' → Sub F F' → Ext μ μ' → D.nx σ' H'
  | .bk => ∀ σ' μ' F' H', Sit G md B r.2 σ' μ' F' H' st' → Sub F F' → Ext μ μ' → D.bk σ' H'
  | .ct => ∀ σ' μ' F' H', Sit G md B r.2 σ' μ' F' H' st' → Sub F F' → Ext μ μ' → D.ct σ' H'
  | .rt d => ∀ v μ' F' H', Post B.μ B.F B.H μ' F' H' → StOk G μ' F' H' st' → RK G B.rk B.H μ' F' H' d v → D.rt v H'
theorem WantS.after {G : Gs} {md : List Md} {B : Bs} {μ μ1 : List Addr} {F F1 : Hp} {D : Ends} {r : Fl × Env} {st : Sto} (h1 : Sub F F1) (h2 : Ext μ μ1) (w : WantS G md B μ F D r st) : WantS G md B μ1 F1 D r st := by
  obtain ⟨f, ρ⟩ := r
  cases f
  · exact fun σ' μ' F' H' s a b => w σ' μ' F' H' s (h1.trans a) (h2.trans b)
  · exact fun σ' μ' F' H' s a b => w σ' μ' F' H' s (h1.trans a) (h2.trans b)
  · exact fun σ' μ' F' H' s a b => w σ' μ' F' H' s (h1.trans a) (h2.trans b)
  · exact w
abbrev MS := Env → M (Fl × Env)
def tS (G : Gs) (md : List Md) (B : Bs) (m : MS) : TS := fun D σ H => ∃ ρ μ F st, Sit G md B ρ σ μ F H st ∧ (m ρ).gives st (WantS G md B μ F D)
def SS (cl : String → Option Addr) (md : List Md) (B : Bs) (X : Cx) (s : Stmt) (m : MS) : Prop := PS X s (tS (gs X cl) md B m)
def SSs (cl : String → Option Addr) (md : List Md) (B : Bs) (X : Cx) (s : List Stmt) (m : MS) : Prop := PSs X s (tS (gs X cl) md B m)
theorem PS.mono {X : Cx} {e : Stmt} {t t' : TS} (h : PS X e t) (i : ∀ D σ H, t' D σ H → t D σ H) : PS X e t' := ⟨fun pins s σ H D I q => h.run pins s σ H D I (i D σ H q)⟩
theorem PSs.mono {X : Cx} {e : List Stmt} {t t' : TS} (h : PSs X e t) (i : ∀ D σ H, t' D σ H → t D σ H) : PSs X e t' := ⟨fun pins s σ H D I q => h.run pins s σ H D I (i D σ H q)⟩

section
variable {cl : String → Option Addr} {md : List Md} {B : Bs} {X : Cx}
def skipS : MS := fun ρ => pure (.nx, ρ)
def seqS (m n : MS) : MS := fun ρ => do
  let r ← m ρ
  match r.1 with
  | .nx => n r.2
  | _ => pure r
theorem ss_nil : SSs cl md B X [] skipS := PSs.mono pss_nil fun D σ H ⟨ρ, μ, F, st, s, w⟩ => w σ μ F H s (Sub.refl _) (Ext.refl _)
theorem ss_cons {s : Stmt} {r : List Stmt} {m n : MS} (h : SS cl md B X s m) (hr : SSs cl md B X r n) : SSs cl md B X (s :: r) (seqS m n) := PSs.mono (pss_cons h hr) fun D σ H ⟨ρ, μ, F, st, s, w⟩ => by
  refine ⟨ρ, μ, F, st, s, ?_⟩
  unfold seqS at w
  rw [M.gives_bind] at w
  refine M.gives_mono w fun r st1 w1 => ?_
  obtain ⟨f, ρ1⟩ := r
  cases f
  · exact fun σ' μ' F' H' s' a b => ⟨ρ1, μ', F', st1, s', M.gives_mono w1 fun r2 st2 w2 => w2.after a b⟩
  · exact w1
  · exact w1
  · exact w1
theorem ss_one {s : Stmt} {m : MS} (h : SS cl md B X s m) : SSs cl md B X [s] m := PSs.mono (pss_one h) fun _ _ _ q => q
theorem ss_pass {pos : Pos} : SS cl md B X (.Pass pos) skipS := PS.mono ps_pass fun D σ H ⟨ρ, μ, F, st, s, w⟩ => w σ μ F H s (Sub.refl _) (Ext.refl _)
theorem ss_break {pos : Pos} : SS cl md B X (.Break pos) (fun ρ => pure (.bk, ρ)) := PS.mono ps_break fun D σ H ⟨ρ, μ, F, st, s, w⟩ => w σ μ F H s (Sub.refl _) (Ext.refl _)
theorem ss_continue {pos : Pos} : SS cl md B X (.Continue pos) (fun ρ => pure (.ct, ρ)) := PS.mono ps_continue fun D σ H ⟨ρ, μ, F, st, s, w⟩ => w σ μ F H s (Sub.refl _) (Ext.refl _)
/-- what is never reached -/
theorem ss_never {s : Stmt} : SS cl md B X s (fun _ => M.bad) := PS.mono ps_never fun D σ H ⟨ρ, μ, F, st, s, w⟩ => w
def exprS (m : Env → M D) : MS := fun ρ => do let _ ← m ρ; pure (.nx, ρ)
theorem ss_expr {k : Kd} {e : Expr} {pos : Pos} {m : Env → M D} (h : SK cl md X k e m) (hs : swapsWith e none pos.line X.env = pure false := by rfl) : SS cl md B X (.Expr e pos) (exprS m) := PS.mono (ps_expr h hs) fun D σ H ⟨ρ, μ, F, st, s, w⟩ => by
  refine ⟨ρ, μ, F, st, s.env, s.sto, ?_⟩
  unfold exprS at w
  rw [M.gives_bind] at w
  exact M.gives_mono w fun d st1 w1 v μ1 F1 H1 p1 s1 r1 => w1 σ μ1 F1 H1 (s.step p1 s1) p1.subF p1.mu
theorem ss_doc {x : Str} {j : Nat} {pos pos' : Pos} : SS cl md B X (.Expr (.Constant (.str x) j pos) pos') skipS := PS.mono ps_doc fun D σ H ⟨ρ, μ, F, st, s, w⟩ => w σ μ F H s (Sub.refl _) (Ext.refl _)
def ifS (c : Env → M Bool) (a b : MS) : MS := fun ρ => do
  let t ← c ρ
  if t = true then a ρ else b ρ
theorem ss_if {c : Expr} {a b : List Stmt} {pos : Pos} {mc : Env → M Bool} {ma mb : MS} (hc : ST cl md X c mc) (ha : SSs cl md B X a ma) (hb : SSs cl md B X b mb) : SS cl md B X (.If c a b pos) (ifS mc ma mb) := PS.mono (ps_if hc ha hb) fun D σ H ⟨ρ, μ, F, st, s, w⟩ => by
  refine ⟨ρ, μ, F, st, s.env, s.sto, ?_⟩
  unfold ifS at w
  rw [M.gives_bind] at w
  refine M.gives_mono w fun t st1 w1 μ1 F1 H1 p1 s1 => ?_
  cases t
  · rw [if_neg Bool.false_ne_true] at w1 ⊢
    exact ⟨ρ, μ1, F1, st1, s.step p1 s1, M.gives_mono w1 fun r st2 w2 => w2.after p1.subF p1.mu⟩
  · rw [if_pos rfl] at w1 ⊢
    exact ⟨ρ, μ1, F1, st1, s.step p1 s1, M.gives_mono w1 fun r st2 w2 => w2.after p1.subF p1.mu⟩
/-- return -/
def retS (m : Env → M D) : MS := fun ρ => do let d ← m ρ; pure (.rt d, ρ)
theorem ss_ret {e : Expr} {pos : Pos} {m : Env → M D} (h : SK cl md X B.rk e m) : SS cl md B X (.Return (some e) pos) (retS m) := PS.mono (ps_ret h) fun D σ H ⟨ρ, μ, F, st, s, w⟩ => by
  refine ⟨ρ, μ, F, st, s.env, s.sto, ?_⟩
  unfold retS at w
  rw [M.gives_bind] at w
  exact M.gives_mono w fun d st1 w1 v μ1 F1 H1 p1 s1 r1 => w1 v μ1 F1 H1 (s.post.trans p1) s1 (r1.base fun _ n => s.post.free n)
/-- return x, x a container of one's own: it is handed over -/
theorem ss_retOwn (i : Nat) {x : Str} {p pos : Pos} (hk : B.rk = .fre) (hm : md[i]? = some .own := by rfl) (hN : X.N[i]? = some x := by rfl) (hv : Vis X.env.scope x := by first | exact Or.inl rfl | exact Or.inr (Or.inl rfl) | exact Or.inr (Or.inr rfl)) (hd : (x == ("__debug__" : Str)) = false := by decide)
    (hcd : (x == ("__classdict__" : Str)) = false := by decide) : SS cl md B X (.Return (some (.Name x p)) pos) (retS fun ρ => getV ρ i) := PS.mono (ps_ret (pe_var hN hv hd hcd)) fun D σ H ⟨ρ, μ, F, st, s, w⟩ => by
  unfold retS at w
  rw [M.gives_bind] at w
  obtain ⟨d, e, w⟩ := getV_gives w
  obtain ⟨h0, h1, α, h2, h3, h4⟩ := s.env
  obtain ⟨v, ev, q⟩ := h2 i .own d hm e
  refine ⟨v, ev, ?_⟩
  cases ha : α i with
  | none => rw [ha] at q; exact absurd rfl q.1
  | some a =>
    rw [ha] at q
    obtain ⟨q1, _, q2⟩ := q
    subst q1
    obtain ⟨f1, f2⟩ := s.fre i d a hm e ev
    exact w (.ref a) μ F H s.post s.sto (by rw [hk]; exact ⟨a, rfl, f1, f2, q2⟩)
/-- .. it is frozen -/
theorem ss_retFrz (i : Nat) {x : Str} {p pos : Pos} (hk : B.rk = .val) (hm : md[i]? = some .own := by rfl) (hN : X.N[i]? = some x := by rfl) (hv : Vis X.env.scope x := by first | exact Or.inl rfl | exact Or.inr (Or.inl rfl) | exact Or.inr (Or.inr rfl)) (hd : (x == ("__debug__" : Str)) = false := by decide)
    (hcd : (x == ("__classdict__" : Str)) = false := by decide) : SS cl md B X (.Return (some (.Name x p)) pos) (retS fun ρ => getV ρ i) := PS.mono (ps_ret (pe_var hN hv hd hcd)) fun D σ H ⟨ρ, μ, F, st, s, w⟩ => by
  unfold retS at w
  rw [M.gives_bind] at w
  obtain ⟨d, e, w⟩ := getV_gives w
  obtain ⟨h0, h1, α, h2, h3, h4⟩ := s.env
  obtain ⟨v, ev, q⟩ := h2 i .own d hm e
  refine ⟨v, ev, ?_⟩
  cases ha : α i with
  | none => rw [ha] at q; exact absurd rfl q.1
  | some a =>
    rw [ha] at q
    obtain ⟨q1, _, q2⟩ := q
    subst q1
    obtain ⟨f1, f2⟩ := s.fre i d a hm e ev
    obtain ⟨F2, p2, s2, r2⟩ := freeze s.post s.sto ⟨a, rfl, f1, f2, q2⟩
    exact w (.ref a) μ F2 H p2 s2 (by rw [hk]; exact r2)
theorem ss_retN {pos : Pos} (hk : B.rk = .val) : SS cl md B X (.Return none pos) (fun ρ => pure (.rt .non, ρ)) := PS.mono ps_retN fun D σ H ⟨ρ, μ, F, st, s, w⟩ => w .non μ F H s.post s.sto (by rw [hk]; exact rfl)
/-- x = e, x a value -/
def setS (i : Nat) (m : Env → M D) : MS := fun ρ => do let d ← m ρ; pure (.nx, ρ.set i (some d))
theorem Sit.setV {G : Gs} {ρ : Env} {σ : L2.St} {μ : List Addr} {F H : Hp} {st : Sto} {i : Nat} {d : D} {v : V} (s : Sit G md B ρ σ μ F H st) (hm : md[i]? = some .val) (r : Rp G μ F d v) : Sit G md B (ρ.set i (some d)) (σ.set i (some v)) μ F H st :=
  ⟨s.env.setV hm r, s.sto, s.post, fun j e a e1 e2 e3 => by
    have hj : i ≠ j := fun q => by subst q; rw [hm] at e1; cases e1
    rw [List.getElem?_set_ne hj] at e2 e3
    exact s.fre j e a e1 e2 e3⟩
theorem ss_set (i : Nat) {x : Str} {e : Expr} {pos' pos : Pos} {m : Env → M D} (hN : X.N.Nodup) (h : SK cl md X .val e m) (hm : md[i]? = some .val := by rfl) (hi : X.N[i]? = some x := by rfl) (hx : Loc X.env.scope x := by first | exact Or.inl rfl | exact Or.inr rfl)
    (hs : swapsWith e (some (.Name x pos')) pos.line X.env = pure false := by rfl) (hf : X.fn x = true ∨ X.env.scope.names.lookup x = some .local := by first | exact .inl rfl | exact .inr rfl | assumption) : SS cl md B X (.Assign [.Name x pos'] e pos) (setS i m) :=
  PS.mono (ps_set hN hi hx h hs hf) fun D σ H ⟨ρ, μ, F, st, s, w⟩ => by
    refine ⟨ρ, μ, F, st, s.env, s.sto, ?_⟩
    unfold setS at w
    rw [M.gives_bind] at w
    exact M.gives_mono w fun d st1 w1 v μ1 F1 H1 p1 s1 r1 => w1 _ μ1 F1 H1 ((s.step p1 s1).setV hm r1) p1.subF p1.mu
theorem EnvOk.setO {G : Gs} {ρ : Env} {σ : L2.St} {μ μ1 : List Addr} {F F1 H H1 : Hp} {i : Nat} {d : D} {a : Addr} (h : EnvOk G md μ1 F1 H1 ρ σ) (p : Post μ1 F1 H1 μ F H) (n : H1 a = none) (hm : md[i]? = some .own) (o : OwnAt G μ F H a d) :
    EnvOk G md μ F H (ρ.set i (some d)) (σ.set i (some (.ref a))) := by
  obtain ⟨h0, h1, α, h2, h3, h4⟩ := id h
  obtain ⟨_, _, α', h2', h3', h4'⟩ := h.post p
  have hi : i < md.length := (List.getElem?_eq_some_iff.mp hm).1
  have hr : i < ρ.length := by rw [← h1]; exact hi
  have hs : i < σ.length := by rw [← h0]; exact hr
  refine ⟨by simp [h0], by simp [h1], fun j => if j = i then some a else α j, fun j m e e1 e2 => ?_, fun j k b e1 e2 ne => ?_, fun j e2 => ?_⟩
  · by_cases hj : i = j
    · subst hj
      rw [List.getElem?_set_self hr] at e2; cases e2
      rw [hm] at e1; cases e1
      exact ⟨.ref a, List.getElem?_set_self hs, by simp only [if_pos rfl]; exact ⟨rfl, by decide, o⟩⟩
    · rw [List.getElem?_set_ne hj] at e2 ⊢
      obtain ⟨v, e3, z⟩ := h2 j m e e1 e2
      refine ⟨v, e3, ?_⟩
      simp only [if_neg (Ne.symm hj)]
      cases hα : α j with
      | none => rw [hα] at z; exact ⟨z.1, z.2.post p⟩
      | some b =>
        rw [hα] at z
        exact ⟨z.1, z.2.1, z.2.2.post p⟩
  · simp only at e1 e2
    have fresh : ∀ l c, α l = some c → c ≠ a := fun l c q z => by
      subst z
      cases hq : md[l]? with
      | none =>
        have : l < ρ.length ∨ ¬ l < ρ.length := Classical.em _
        have hl : ¬ l < md.length := fun q => by rw [List.getElem?_eq_getElem q] at hq; cases hq
        have := h4 l (fun d z => by
          have := (List.getElem?_eq_some_iff.mp z).1
          omega)
        rw [q] at this; cases this
      | some m =>
        by_cases qe : ∃ e, ρ[l]? = some (some e)
        · obtain ⟨e, qe⟩ := qe
          obtain ⟨v, _, z⟩ := h2 l m e hq qe
          rw [q] at z
          obtain ⟨ob, hob⟩ := z.2.2.2.ex
          rw [n] at hob; cases hob
        · have := h4 l fun d z => qe ⟨_, z⟩
          rw [q] at this; cases this
    split at e1
    · cases e1
      split at e2
      · omega
      · exact absurd rfl (fresh k a e2)
    · split at e2
      · cases e2
        exact absurd rfl (fresh j a e1)
      · exact h3 j k b e1 e2 ne
  · simp only
    split
    · rename_i hj
      subst hj
      exact absurd (List.getElem?_set_self hr) (e2 d)
    · rename_i hj
      exact h4 j fun d z => e2 d (by rw [List.getElem?_set_ne (fun q => hj q.symm)]; exact z)
end
end Sh
namespace Sh
open PySem PySem.Spec PyProof.Rows L2

section
variable {cl : String → Option Addr} {md : List Md} {B : Bs} {X : Cx}
/-! ### x = e, x a container of one's own -/
theorem ss_setOwn (i : Nat) {x : Str} {e : Expr} {pos' pos : Pos} {m : Env → M D} (hN : X.N.Nodup) (h : SK cl md X .fre e m) (hm : md[i]? = some .own := by rfl) (hi : X.N[i]? = some x := by rfl) (hx : Loc X.env.scope x := by first | exact Or.inl rfl | exact Or.inr rfl)
    (hs : swapsWith e (some (.Name x pos')) pos.line X.env = pure false := by rfl) (hf : X.fn x = true ∨ X.env.scope.names.lookup x = some .local := by first | exact .inl rfl | exact .inr rfl | assumption) : SS cl md B X (.Assign [.Name x pos'] e pos) (setS i m) :=
  PS.mono (ps_set hN hi hx h hs hf) fun D σ H ⟨ρ, μ, F, st, s, w⟩ => by
    refine ⟨ρ, μ, F, st, s.env, s.sto, ?_⟩
    unfold setS at w
    rw [M.gives_bind] at w
    refine M.gives_mono w fun d st1 w1 v μ1 F1 H1 p1 s1 r1 => ?_
    obtain ⟨a, rfl, n, z, o⟩ := r1
    have s' := s.step p1 s1
    have hr : i < ρ.length := by rw [← s.env.mdl]; exact (List.getElem?_eq_some_iff.mp hm).1
    have hs : i < σ.length := by rw [← s.env.len]; exact hr
    refine w1 _ μ1 F1 H1 ⟨s.env.setO p1 n hm o, s1, s'.post, fun j e b e1 e2 e3 => ?_⟩ p1.subF p1.mu
    by_cases hj : i = j
    · subst hj
      rw [List.getElem?_set_self hs] at e3; cases e3
      exact ⟨s.post.free n, fun C dx fv q => s.post.free (z C dx fv q)⟩
    · rw [List.getElem?_set_ne hj] at e2 e3
      exact s'.fre j e b e1 e2 e3

/-! ### a container of one's own is changed -/
/-- two things of unlike kinds, or one with other content, may stand at a: what leans on the object at a alone is changed -/
theorem ObjAt.mut {G : Gs} {μ : List Addr} {F H : Hp} {a b : Addr} {u o : HO} {d : D} (h : ObjAt G μ F H b d) (ha : H a = some u) (no : ∀ x, u ≠ .own x) (ne : b ≠ a) : ObjAt G μ F (upd H a o) b d := by
  cases d <;> try exact h.elim
  · obtain ⟨f, z, vs, e, r⟩ := h
    exact ⟨f, z, vs, by rw [upd_ne ne]; exact e, r⟩
  · obtain ⟨f, z, L, e, r⟩ := h
    exact ⟨f, z, L, by rw [upd_ne ne]; exact e, r⟩
  · obtain ⟨f, C, dx, fv, e1, e2, n2, f2, c, r⟩ := h
    exact ⟨f, C, dx, fv, by rw [upd_ne ne]; exact e1, by rw [upd_ne (show dx ≠ a from fun q => by subst q; rw [ha] at e2; exact no _ (Option.some.inj e2))]; exact e2, n2, f2, c, r⟩
  · obtain ⟨f, z, L, e, r⟩ := h
    exact ⟨f, z, L, by rw [upd_ne ne]; exact e, r⟩
theorem Sit.mut {G : Gs} {ρ : Env} {σ : L2.St} {μ : List Addr} {F H : Hp} {st : Sto} {i : Nat} {a : Addr} {d d' : D} {u o : HO} (s : Sit G md B ρ σ μ F H st) (hm : md[i]? = some .own) (hd : ρ[i]? = some (some d)) (hv : σ[i]? = some (some (.ref a)))
    (hu : H a = some u) (nu : ∀ x, u ≠ .own x) (new : ObjAt G μ F (upd H a o) a d') (kd : ∀ C dx fv, o = .ins C dx fv → ∃ fv', u = .ins C dx fv') : Sit G md B (ρ.set i (some d')) σ μ F (upd H a o) st := by
  obtain ⟨h0, h1, α, h2, h3, h4⟩ := id s.env
  obtain ⟨v, ev, q⟩ := h2 i .own d hm hd
  rw [hv] at ev; cases ev
  obtain ⟨f1, f2⟩ := s.fre i d a hm hd hv
  have hr : i < ρ.length := (List.getElem?_eq_some_iff.mp hd).1
  cases hα : α i with
  | none => rw [hα] at q; exact absurd rfl q.1
  | some b =>
    rw [hα] at q
    obtain ⟨q1, _, na, oa⟩ := q
    cases q1
    have fa : F a = none := new.frz
    refine ⟨⟨by simp [h0], by simp [h1], α, fun j m e e1 e2 => ?_, h3, fun j e2 => ?_⟩, ⟨s.sto.sub.addR fa, s.sto.len, s.sto.nd, fun l c e hl he => (s.sto.obj l c e hl he).mut hu nu fun q => na (q ▸ List.mem_of_getElem? hl)⟩, s.post.lstmut f1, fun j e c e1 e2 e3 => ?_⟩
    · by_cases hj : i = j
      · subst hj
        rw [List.getElem?_set_self hr] at e2; cases e2
        rw [hm] at e1; cases e1
        exact ⟨.ref a, hv, by rw [hα]; exact ⟨rfl, by decide, na, new⟩⟩
      · rw [List.getElem?_set_ne hj] at e2
        obtain ⟨v, e3, z⟩ := h2 j m e e1 e2
        refine ⟨v, e3, ?_⟩
        cases hβ : α j with
        | none => rw [hβ] at z; exact z
        | some c =>
          rw [hβ] at z
          have nc : c ≠ a := fun q => by subst q; exact h3 i j c hα hβ hj hm
          exact ⟨z.1, z.2.1, z.2.2.1, z.2.2.2.mut hu nu nc⟩
    · by_cases hj : i = j
      · subst hj
        exact absurd (List.getElem?_set_self hr) (e2 d')
      · exact h4 j fun e z => e2 e (by rw [List.getElem?_set_ne hj]; exact z)
    · by_cases hj : i = j
      · subst hj
        rw [hv] at e3; cases e3
        refine ⟨f1, fun C dx fv q => ?_⟩
        rw [upd_same] at q
        obtain ⟨fv', e⟩ := kd C dx fv (Option.some.inj q)
        exact f2 C dx fv' (by rw [hu, e])
      · rw [List.getElem?_set_ne hj] at e2
        obtain ⟨g1, g2⟩ := s.fre j e c e1 e2 e3
        refine ⟨g1, fun C dx fv q => ?_⟩
        obtain ⟨v, ev, z⟩ := h2 j .own e e1 e2
        rw [e3] at ev; cases ev
        cases hβ : α j with
        | none => rw [hβ] at z; exact absurd rfl z.1
        | some c' =>
          rw [hβ] at z
          cases z.1
          have nc : c ≠ a := fun q => by subst q; exact h3 i j c hα hβ hj hm
          rw [upd_ne nc] at q
          exact g2 C dx fv q
/-- x.append(e) -/
def lstOf : D → M (List D)
  | .lst ds => pure ds
  | _ => M.bad
def appendS (i : Nat) (m : Env → M D) : MS := fun ρ => do
  let x ← getV ρ i
  let xs ← lstOf x
  let d ← m ρ
  if xs.length < 16777216 then pure (.nx, ρ.set i (some (.lst (xs ++ [d])))) else M.bad
theorem lstOf_gives {d : D} {st : Sto} {P : List D → Sto → Prop} (h : (lstOf d).gives st P) : ∃ ds, d = .lst ds ∧ P ds st := by
  cases d <;> first | exact h.elim | exact ⟨_, rfl, h⟩
theorem own_at {G : Gs} {ρ : Env} {σ : L2.St} {μ : List Addr} {F H : Hp} {st : Sto} {i : Nat} {d : D} (s : Sit G md B ρ σ μ F H st) (hm : md[i]? = some .own) (hd : ρ[i]? = some (some d)) : ∃ a, σ[i]? = some (some (.ref a)) ∧ OwnAt G μ F H a d := by
  obtain ⟨h0, h1, α, h2, h3, h4⟩ := s.env
  obtain ⟨v, ev, q⟩ := h2 i .own d hm hd
  cases hα : α i with
  | none => rw [hα] at q; exact absurd rfl q.1
  | some a =>
    rw [hα] at q
    exact ⟨a, by rw [ev, q.1], q.2.2⟩
theorem line_eq {n : Nat} (h : n < 16777216) : n < sizeLine := by rw [sizeLine_eq]; exact h
theorem ite_gives {α : Type} {c : Prop} [Decidable c] {m : M α} {st : Sto} {P : α → Sto → Prop} (h : (if c then m else M.bad).gives st P) : c ∧ m.gives st P := by
  by_cases q : c
  · rw [if_pos q] at h; exact ⟨q, h⟩
  · rw [if_neg q] at h; exact h.elim
/-- a built-in's method with one argument, none -/
def Bm1 (X : Cx) (T : String) (r : V → List V → Hp → VK → Prop) (o : Expr) (n : Str) (apos : Pos) (e : Expr) (cpos : Pos) : Prop := ∀ to t, PE X o to → PA X [e] t → PE X (.Call (.Attribute o n apos) [e] [] cpos) (tBM X.K T r to t)
def Bm0 (X : Cx) (T : String) (r : V → List V → Hp → VK → Prop) (o : Expr) (n : Str) (apos : Pos) (cpos : Pos) : Prop := ∀ to, PE X o to → PE X (.Call (.Attribute o n apos) [] [] cpos) (tBM0 X.K T r to)
theorem sa_one {k : Kd} {e : Expr} {m : Env → M D} (h : SK cl md X k e m) (hst : starEach [e] X.env = [(false, eval e X.env)]) : SA cl md X [k] [e] (fun ρ => do let x ← m ρ; pure [x]) := sa_cons h sa_nil (by rw [hst]; rfl)
theorem tkl_one {k : Kd} {m : Env → M D} {σ : L2.St} {H : Hp} {Q : List V → Hp → Prop} {ρ : Env} {μ : List Addr} {F : Hp} {st : Sto} (hE : EnvOk (gs X cl) md μ F H ρ σ) (hS : StOk (gs X cl) μ F H st)
    (w : (m ρ).gives st fun d st' => ∀ v μ' F' H', Post μ F H μ' F' H' → StOk (gs X cl) μ' F' H' st' → RK (gs X cl) k H μ' F' H' d v → Q [v] H') : tKL (gs X cl) md [k] (fun ρ => do let x ← m ρ; pure [x]) σ H Q := by
  refine ⟨ρ, μ, F, st, hE, hS, ?_⟩
  show M.gives (m ρ >>= fun x => pure [x]) st _
  rw [M.gives_bind]
  refine M.gives_mono w fun d st1 w1 => ?_
  show WantL _ _ _ _ _ _ [d] st1
  intro us μ1 F1 H1 p1 s1 ⟨l1, l2, r1⟩
  match us, l2 with
  | [u], _ => exact w1 u μ1 F1 H1 p1 s1 (r1 0 k d u rfl rfl rfl)
/-- x.append(e) -/
theorem ss_append (i : Nat) {x : Str} {e : Expr} {p apos cpos pos : Pos} {m : Env → M D} (h : SK cl md X .val e m) (hm : md[i]? = some .own := by rfl) (hN : X.N[i]? = some x := by rfl) (hv : Vis X.env.scope x := by first | exact Or.inl rfl | exact Or.inr (Or.inl rfl) | exact Or.inr (Or.inr rfl)) (hd : (x == ("__debug__" : Str)) = false := by decide)
    (hcd : (x == ("__classdict__" : Str)) = false := by decide) (hst : starEach [e] X.env = [(false, eval e X.env)] := by rfl)
    (hb : Bm1 X "list" rAppend (.Name x p) "append" apos e cpos := by intro _ _ ho ha; exact pe_bm PySem.F.plainAttrs_list PySem.F.slot_list_append PySem.F.type_list_append mt_append ho ha)
    (hsw : swapsWith (.Call (.Attribute (.Name x p) "append" apos) [e] [] cpos) none pos.line X.env = pure false := by rfl) : SS cl md B X (.Expr (.Call (.Attribute (.Name x p) "append" apos) [e] [] cpos) pos) (appendS i m) :=
  PS.mono (ps_expr (hb _ _ (pe_var hN hv hd hcd) (sa_one h hst)) hsw) fun D σ H ⟨ρ, μ, F, st, s, w⟩ => by
  unfold appendS at w
  rw [M.gives_bind] at w
  obtain ⟨d0, e0, w⟩ := getV_gives w
  rw [M.gives_bind] at w
  obtain ⟨ds, ed, w2⟩ := lstOf_gives w
  subst ed
  rw [M.gives_bind] at w2
  obtain ⟨a, ea, na, oa⟩ := own_at s hm e0
  obtain ⟨f, z, vs, e1, r⟩ := oa
  refine ⟨.ref a, ea, .inl ⟨rfl, _, .inl (.inl e1)⟩, tkl_one s.env s.sto (M.gives_mono w2 fun d st1 w1 u μ1 F1 H1 p1 s1 ru => ?_)⟩
  obtain ⟨hz, w2⟩ := ite_gives w1
  have e2 : H1 a = some (.lst vs) := p1.keep _ _ e1 na
  refine ⟨a, vs, u, rfl, rfl, e2, by rw [rpl_len r]; exact line_eq hz, ?_⟩
  refine w2 σ μ1 F1 _ ((s.step p1 s1).mut hm e0 ea e2 (fun x q => by cases q) ⟨p1.unfrz e1 f, ?_, _, upd_same, rpl_snoc (RpL.post p1 r) ru⟩ (fun _ _ _ q => by cases q)) p1.subF p1.mu
  rw [List.length_append, sizeLine_eq]
  exact hz

/-! ### while -/
def whileN (c : Env → M Bool) (b : MS) : Nat → MS
  | 0, _ => M.bad
  | n + 1, ρ => do
    let t ← c ρ
    if t = true then do
      let r ← b ρ
      match r.1 with
      | .nx => whileN c b n r.2
      | .ct => whileN c b n r.2
      | .bk => pure (.nx, r.2)
      | .rt d => pure (.rt d, r.2)
    else pure (.nx, ρ)
open Classical in
/-- the loop: as many turns as it takes -/
noncomputable def whileS (c : Env → M Bool) (b : MS) : MS := fun ρ st => if h : ∃ n P, (whileN c b n ρ).gives st P then whileN c b h.choose ρ st else .bad
theorem M.gives_det {α : Type} {m : M α} {st : Sto} {P : α → Sto → Prop} (h : m.gives st P) : ∃ a st', m st = .ok a st' ∧ P a st' := by
  unfold M.gives at h
  cases e : m st with
  | ok a st' => rw [e] at h; exact ⟨a, st', rfl, h⟩
  | exc _ _ => rw [e] at h; exact h.elim
  | bad => rw [e] at h; exact h.elim
theorem M.gives_ok {α : Type} {m : M α} {st st' : Sto} {a : α} {P : α → Sto → Prop} (e : m st = .ok a st') : m.gives st P = P a st' := by
  unfold M.gives; rw [e]
theorem whileS_gives {c : Env → M Bool} {b : MS} {ρ : Env} {st : Sto} {P : Fl × Env → Sto → Prop} (h : (whileS c b ρ).gives st P) : ∃ n, (whileN c b n ρ).gives st P := by
  by_cases q : ∃ n P, (whileN c b n ρ).gives st P
  · have e : whileS c b ρ st = whileN c b q.choose ρ st := by unfold whileS; rw [dif_pos q]
    refine ⟨q.choose, ?_⟩
    unfold M.gives at h ⊢
    rw [e] at h
    exact h
  · have e : whileS c b ρ st = .bad := by unfold whileS; rw [dif_neg q]
    unfold M.gives at h
    rw [e] at h
    exact h.elim
theorem whileN_more {c : Env → M Bool} {b : MS} : ∀ {n m : Nat} {ρ : Env} {st st' : Sto} {r : Fl × Env}, n ≤ m → whileN c b n ρ st = .ok r st' → whileN c b m ρ st = .ok r st'
  | 0, _, _, _, _, _, _, h => by cases h
  | n + 1, 0, _, _, _, _, hl, _ => by omega
  | n + 1, m + 1, ρ, st, st', r, hl, h => by
    have h : M.bind (c ρ) _ st = _ := h
    show M.bind (c ρ) _ st = _
    unfold M.bind at h ⊢
    cases ec : c ρ st with
    | ok t st1 =>
      rw [ec] at h
      simp only at h ⊢
      cases t
      · exact h
      · simp only [if_true] at h ⊢
        have h : M.bind (b ρ) _ st1 = _ := h
        show M.bind (b ρ) _ st1 = _
        unfold M.bind at h ⊢
        cases eb : b ρ st1 with
        | ok r1 st2 =>
          rw [eb] at h
          obtain ⟨f, ρ1⟩ := r1
          cases f
          · exact whileN_more (by omega) h
          · exact h
          · exact whileN_more (by omega) h
          · exact h
        | exc _ _ => rw [eb] at h; exact h
        | bad => rw [eb] at h; exact h
    | exc _ _ => rw [ec] at h; exact h
    | bad => rw [ec] at h; exact h
/-- what n turns give is what the loop gives -/
theorem whileS_eq {c : Env → M Bool} {b : MS} {n : Nat} {ρ : Env} {st st' : Sto} {r : Fl × Env} (h : whileN c b n ρ st = .ok r st') : whileS c b ρ st = .ok r st' := by
  have q : ∃ n P, (whileN c b n ρ).gives st P := ⟨n, fun _ _ => True, by rw [M.gives_ok h]; trivial⟩
  unfold whileS
  rw [dif_pos q]
  obtain ⟨P, hp⟩ := q.choose_spec
  obtain ⟨a, st2, e, _⟩ := M.gives_det hp
  rcases Nat.le_total n q.choose with l | l
  · exact whileN_more l h
  · have := whileN_more l e
    rw [h] at this
    cases this
    exact e
theorem ss_while {c : Expr} {body : List Stmt} {pos : Pos} {mc : Env → M Bool} {mb : MS} (hp : PassesOwn (model X.prog X.w) X.A X.env X.xe) (hc : ST cl md X c mc) (hb : SSs cl md B X body mb) : SS cl md B X (.While c body [] pos) (whileS mc mb) :=
  PS.mono (ps_while hp hc hb) fun D σ H ⟨ρ, μ, F, st, s, w⟩ => by
  obtain ⟨n, w⟩ := whileS_gives w
  refine ⟨fun n σ H => ∃ ρ μ F st, Sit (gs X cl) md B ρ σ μ F H st ∧ (whileN mc mb n ρ).gives st (WantS (gs X cl) md B μ F D), ⟨n, ρ, μ, F, st, s, w⟩, ?_⟩
  rintro n σ H ⟨ρ, μ, F, st, s, w⟩
  cases n with
  | zero => exact w.elim
  | succ n =>
    refine ⟨ρ, μ, F, st, s.env, s.sto, ?_⟩
    unfold whileN at w
    rw [M.gives_bind] at w
    refine M.gives_mono w fun t st1 w1 μ1 F1 H1 p1 s1 => ?_
    cases t
    · simp only [Bool.false_eq_true, if_false] at w1 ⊢
      exact w1 σ μ1 F1 H1 (s.step p1 s1) p1.subF p1.mu
    · simp only [if_true] at w1 ⊢
      refine ⟨_, fun σ' H' q => ⟨n, Nat.lt_succ_self n, q⟩, ρ, μ1, F1, st1, s.step p1 s1, ?_⟩
      rw [M.gives_bind] at w1
      refine M.gives_mono w1 fun r st2 w2 => ?_
      obtain ⟨f, ρ2⟩ := r
      cases f
      · exact fun σ' μ' F' H' s' a b => ⟨ρ2, μ', F', st2, s', M.gives_mono w2 fun r3 st3 w3 => w3.after (p1.subF.trans a) (p1.mu.trans b)⟩
      · exact fun σ' μ' F' H' s' a b => w2 σ' μ' F' H' s' (p1.subF.trans a) (p1.mu.trans b)
      · exact fun σ' μ' F' H' s' a b => ⟨ρ2, μ', F', st2, s', M.gives_mono w2 fun r3 st3 w3 => w3.after (p1.subF.trans a) (p1.mu.trans b)⟩
      · exact w2

/-! ### for -/
def forS (g : D → Env → Option Env) (b : MS) : List D → MS
  | [], ρ => pure (.nx, ρ)
  | x :: xs, ρ => match g x ρ with
    | none => M.bad
    | some ρ1 => do
      let r ← b ρ1
      match r.1 with
      | .nx => forS g b xs r.2
      | .ct => forS g b xs r.2
      | .bk => pure (.nx, r.2)
      | .rt d => pure (.rt d, r.2)
/-- what is walked in a loop must stand still while the loop's body changes one's own containers -/
def Stab (B : Bs) (K : List Addr → Hp → Hp → Prop) : Prop := ∀ μ F H μ' F' H', K μ F H → Post B.μ B.F B.H μ F H → Post B.μ B.F B.H μ' F' H' → Sub F F' → Ext μ μ' → K μ' F' H'
def WantIS (G : Gs) (B : Bs) (μ : List Addr) (F H : Hp) (R : It → Hp → Prop) : List D → Sto → Prop :=
  fun ds st' => ∀ J K μ' F' H', Post μ F H μ' F' H' → StOk G μ' F' H' st' → ItOk G J K ds → Stab B K → K μ' F' H' → R J H'
def tKIS (G : Gs) (md : List Md) (B : Bs) (m : Env → M (List D)) : TI := fun σ H R => ∃ ρ μ F st, EnvOk G md μ F H ρ σ ∧ StOk G μ F H st ∧ (m ρ).gives st (WantIS G B μ F H R)
def SIS (cl : String → Option Addr) (md : List Md) (B : Bs) (X : Cx) (tg x : Expr) (m : Env → M (List D)) : Prop := PI X tg x (tKIS (gs X cl) md B m)
theorem sis_seq {tg x : Expr} {m : Env → M D} (h : SK cl md X .val x m) : SIS cl md B X tg x (fun ρ => do let d ← m ρ; itemsD d) := PI.mono (pi_seq h) fun σ H R ⟨ρ, μ, F, st, hE, hS, w⟩ => by
  refine ⟨ρ, μ, F, st, hE, hS, ?_⟩
  rw [M.gives_bind] at w
  refine M.gives_mono w fun d st1 w1 v μ1 F1 H1 p1 s1 r1 => ?_
  cases d <;> try exact w1.elim
  · obtain ⟨z, a, vs, e, hq, r⟩ := r1
    exact ⟨a, e, .inl ⟨⟨vs, .inl (.inl (s1.sub _ _ hq))⟩, w1 _ _ μ1 F1 H1 p1 s1 (it_list z) (fun _ _ _ _ _ _ ⟨k1, k2⟩ _ _ a b => ⟨a.seqL k1, RpL.mono b a _ _ k2⟩) ⟨.inl (.inl hq), r⟩⟩⟩
  · obtain ⟨z, a, vs, e, hq, r⟩ := r1
    exact ⟨a, e, .inr ⟨⟨vs, s1.sub.seqT hq⟩, w1 _ _ μ1 F1 H1 p1 s1 (it_tup z) (fun _ _ _ _ _ _ ⟨k1, k2⟩ _ _ a b => ⟨a.seqT k1, RpL.mono b a _ _ k2⟩) ⟨hq, r⟩⟩⟩
  · obtain ⟨z, a, vs, e, hq, r⟩ := r1
    exact ⟨a, e, .inl ⟨⟨vs, s1.sub.seqL hq⟩, w1 _ _ μ1 F1 H1 p1 s1 (it_list z) (fun _ _ _ _ _ _ ⟨k1, k2⟩ _ _ a b => ⟨a.seqL k1, RpL.mono b a _ _ k2⟩) ⟨hq, r⟩⟩⟩
theorem sis_range1 {tg a : Expr} {p pos : Pos} {m : Env → M D} (hg : Gl X "range") (hm : X.mg "range" = none) (h : SK cl md X .val a m) (hs : starEach [a] X.env = [(false, eval a X.env)] := by rfl) : SIS cl md B X tg (.Call (.Name "range" p) [a] [] pos) (fun ρ => do let d ← m ρ; rng1 d) :=
  PI.mono (pi_range1 hg hm (sa_one h hs) hs) fun σ H R ⟨ρ, μ, F, st, hE, hS, w⟩ => by
    rw [M.gives_bind] at w
    refine tkl_one hE hS (M.gives_mono w fun d st1 w1 v μ1 F1 H1 p1 s1 r1 => ?_)
    obtain ⟨n, rfl, hn, w2⟩ := rng1_gives w1
    have ev : v = .int n := r1
    subst ev
    refine ⟨n, rfl, hn.1, by omega, ?_⟩
    have := w2 (Itr 0 (n - 0).toNat) _ μ1 F1 H1 p1 s1 (it_range (by omega)) (fun _ _ _ _ _ _ _ _ _ _ _ => trivial) trivial
    rw [Int.sub_zero] at this
    exact this
theorem ss_for {tg iter : Expr} {body : List Stmt} {pos : Pos} {ns : List Nat} {mi : Env → M (List D)} {g : D → Env → Option Env} {mb : MS} (hp : PassesOwn (model X.prog X.w) X.A X.env X.xe) (hc : X.calm = true) (hi : SIS cl md B X tg iter mi) (hg : SG cl md X ns tg g)
    (hb : SSs cl md B X body mb) (hv : ∀ i ∈ ns, md[i]? = some .val) (hs : ∀ x, foldedSetIterable iter X.env x = pure x := by intro _; rfl) : SS cl md B X (.For tg iter body [] pos) (fun ρ => do let ds ← mi ρ; forS g mb ds ρ) :=
  PS.mono (ps_for hp hc hi hg hb hs) fun D σ H ⟨ρ, μ, F, st, s, w⟩ => by
    refine ⟨ρ, μ, F, st, s.env, s.sto, ?_⟩
    rw [M.gives_bind] at w
    refine M.gives_mono w fun ds st1 w1 J K μ1 F1 H1 p1 s1 hJ hK k1 => ?_
    have s' := s.step p1 s1
    refine ⟨fun i m σ H2 => m = ds.length - i ∧ i ≤ ds.length ∧ ∃ ρ2 μ2 F2 st2, Sit (gs X cl) md B ρ2 σ μ2 F2 H2 st2 ∧ K μ2 F2 H2 ∧ Sub F F2 ∧ Ext μ μ2 ∧ (forS g mb (ds.drop i) ρ2).gives st2 (WantS (gs X cl) md B μ2 F2 D),
      ⟨ds.length, by simp, Nat.zero_le _, ρ, μ1, F1, st1, s', k1, p1.subF, p1.mu, M.gives_mono (show (forS g mb (ds.drop 0) ρ).gives st1 (WantS (gs X cl) md B μ F D) by simpa using w1) fun r st w => WantS.after p1.subF p1.mu w⟩, ?_⟩
    rintro i m σ2 H2 ⟨rfl, hi, ρ2, μ2, F2, st2, s2, k2, f2, x2, w2⟩
    by_cases hlt : i < ds.length
    · refine .inr ⟨hJ.go i _ _ _ k2 s2.sto.sub hlt, _, fun σ' H' q => ⟨ds.length - (i + 1), by omega, rfl, q⟩, fun x H3 hy => ?_⟩
      have hd : ds[i]? = some ds[i] := List.getElem?_eq_getElem hlt
      obtain ⟨F3, p3, s3, r3⟩ := hJ.yld i _ _ _ x H3 ds[i] st2 k2 s2.sto hd hy
      have k3 := hJ.keep _ _ _ _ _ _ k2 p3
      rw [List.drop_eq_getElem_cons hlt] at w2
      unfold forS at w2
      cases eg : g ds[i] ρ2 with
      | none => rw [eg] at w2; exact w2.elim
      | some ρ3 =>
        rw [eg] at w2
        simp only at w2
        have t2 := s2.step p3 s3
        refine ⟨ρ2, μ2, F3, ds[i], ρ3, t2.env, s3.sub, r3, eg, fun σ3 hE3 hl3 hσ3 => ?_⟩
        have t3 : Sit (gs X cl) md B ρ3 σ3 μ2 F3 H3 st2 := ⟨hE3, s3, t2.post, fun j e a e1 e2 e3 => by
          have nj : j ∉ ns := fun q => by rw [hv j q] at e1; cases e1
          obtain ⟨z1, z2⟩ := hσ3 j nj
          rw [z1] at e3
          rw [z2] at e2
          exact t2.fre j e a e1 e2 e3⟩
        refine ⟨ρ3, μ2, F3, st2, t3, ?_⟩
        rw [M.gives_bind] at w2
        refine M.gives_mono w2 fun r st4 w4 => ?_
        obtain ⟨f, ρ4⟩ := r
        cases f
        · exact fun σ' μ' F' H' s4 a b => ⟨hlt, ρ4, μ', F', st4, s4, hK _ _ _ _ _ _ k3 t3.post s4.post a b, f2.trans (p3.subF.trans a), x2.trans b, M.gives_mono w4 fun r st w => w.after (p3.subF.trans a) b⟩
        · exact fun σ' μ' F' H' s4 a b => w4 σ' μ' F' H' s4 (p3.subF.trans a) b
        · exact fun σ' μ' F' H' s4 a b => ⟨hlt, ρ4, μ', F', st4, s4, hK _ _ _ _ _ _ k3 t3.post s4.post a b, f2.trans (p3.subF.trans a), x2.trans b, M.gives_mono w4 fun r st w => w.after (p3.subF.trans a) b⟩
        · exact w4
    · have ei : i = ds.length := by omega
      subst ei
      refine .inl ⟨hJ.stop _ _ _ _ k2 s2.sto.sub (Nat.le_refl _), ?_⟩
      rw [List.drop_length] at w2
      exact w2 σ2 μ2 F2 H2 s2 (Sub.refl _) (Ext.refl _)

/-! ### defs and their calls -/
/-- the promise of a def whose shallow function is f -/
def spF (G : Gs) (pk : List Kd) (rk : Kd) (f : List D → M D) : Sp := fun vs H Q _ => ∃ μ F ds st, StOk G μ F H st ∧ ds.length = pk.length ∧ vs.length = pk.length ∧
  (∀ (i : Nat) (k : Kd) (d : D) (v : V), pk[i]? = some k → ds[i]? = some d → vs[i]? = some v → RK G k H μ F H d v) ∧ (f ds).gives st (Want G rk μ F H Q)
/-- f(e, ..), every parameter given -/
theorem sk_call {pk : List Kd} {rk : Kd} {f : List D → M D} {k : Nat} {a : Addr} {fd : FuncData} {ps : List Str} {x : Str} {p pos : Pos} {e : Expr} {es : List Expr} {m : Env → M (List D)}
    (F : FnOk X.prog X.w X.K X.mg X.base CX0 k a fd ps (spF (gs X cl) pk rk f)) (hr : Room k X.A) (hg : Gl X x) (hm : X.mg x = some (.ref a)) (hk : PySem.W.keepIn X.K (.ref a) = true) (hb : Binds X.K fd ps [])
    (ha : SA cl md X pk (e :: es) m) (hfr : ∀ k ∈ pk, k ≠ .fre) (hdb : (x == ("__debug__" : Str)) = false := by decide) (he : starEach (e :: es) X.env = (false, eval e X.env) :: starEach es X.env := by rfl) (hpl : (backTo pos (starEach es X.env)).any (·.1) = false := by rfl) :
    SK cl md X rk (.Call (.Name x p) (e :: es) [] pos) (fun ρ => do let ds ← m ρ; f ds) := PE.mono (pe_call (E := E0) F hr hg hm hk hb .nil pass0 ha hdb he hpl) fun σ H Q ⟨ρ, μ, F, st, hE, hS, w⟩ => by
  refine ⟨ρ, μ, F, st, hE, hS, ?_⟩
  rw [M.gives_bind] at w
  refine M.gives_mono w fun ds st1 w1 vs μ1 F1 H1 p1 s1 ⟨l1, l2, r1⟩ => ?_
  refine ⟨μ1, F1, ds, st1, s1, l1, by simpa using l2, fun i k d v e1 e2 e3 => ?_, M.gives_mono w1 fun d st2 w2 => w2.after p1⟩
  have e3 : vs[i]? = some v := by simpa using e3
  have q := r1 i k d v e1 e2 e3
  cases k with
  | val => exact q
  | bor => exact q
  | fre => exact absurd rfl (hfr _ (List.mem_of_getElem? e1))
/-- the slots at a body's start -/
def envOf (n : Nat) (ds : List D) : Env := ds.map some ++ List.replicate (n - ds.length) none
def runB (n : Nat) (rk : Kd) (m : MS) (ds : List D) : M D := do
  let r ← m (envOf n ds)
  match r.1, rk with
  | .rt d, _ => pure d
  | .nx, .val => pure .non
  | _, _ => M.bad
def mdOk (md : List Md) (pk : List Kd) (n : Nat) : Bool := md.length == n && pk.length ≤ n && (List.range pk.length).all fun i => match pk[i]?, md[i]? with
  | some .val, some .val => true
  | some .bor, some .bor => true
  | _, _ => false
theorem mdOk_at {md : List Md} {pk : List Kd} {n : Nat} (h : mdOk md pk n = true) : md.length = n ∧ pk.length ≤ n ∧ ∀ (i : Nat) (k : Kd), pk[i]? = some k → (k = .val ∧ md[i]? = some .val) ∨ (k = .bor ∧ md[i]? = some .bor) := by
  unfold mdOk at h
  simp only [Bool.and_eq_true, beq_iff_eq, decide_eq_true_eq, List.all_eq_true, List.mem_range] at h
  obtain ⟨⟨h1, h2⟩, h3⟩ := h
  refine ⟨h1, h2, fun i k hk => ?_⟩
  have q := h3 i (List.getElem?_eq_some_iff.mp hk).1
  rw [hk] at q
  split at q
  · rename_i e1 e2; cases e1; exact .inl ⟨rfl, e2⟩
  · rename_i e1 e2; cases e1; exact .inr ⟨rfl, e2⟩
  · cases q
theorem sit_start {G : Gs} {pk : List Kd} {rk : Kd} {N : List Str} {vs : List V} {ds : List D} {μ : List Addr} {F H : Hp} {st : Sto} (hm : mdOk md pk N.length = true) (hS : StOk G μ F H st) (l1 : ds.length = pk.length) (l2 : vs.length = pk.length)
    (r : ∀ (i : Nat) (k : Kd) (d : D) (v : V), pk[i]? = some k → ds[i]? = some d → vs[i]? = some v → RK G k H μ F H d v) : Sit G md ⟨μ, F, H, rk⟩ (envOf N.length ds) (L2.start N vs) μ F H st := by
  obtain ⟨m1, m2, m3⟩ := mdOk_at hm
  have at_ : ∀ i d, (envOf N.length ds)[i]? = some (some d) → ∃ v k, ds[i]? = some d ∧ vs[i]? = some v ∧ pk[i]? = some k ∧ (L2.start N vs)[i]? = some (some v) := fun i d h => by
    have hi : i < ds.length := by
      by_cases hi : i < ds.length
      · exact hi
      · unfold envOf at h
        rw [List.getElem?_append_right (by simpa using hi), List.getElem?_replicate] at h
        split at h <;> cases h
    have hv : i < vs.length := by omega
    have hk : i < pk.length := by omega
    refine ⟨vs[i], pk[i], ?_, List.getElem?_eq_getElem hv, List.getElem?_eq_getElem hk, ?_⟩
    · unfold envOf at h
      rw [List.getElem?_append_left (by simpa using hi), List.getElem?_map] at h
      cases e : ds[i]? with
      | none => rw [e] at h; cases h
      | some x => rw [e] at h; cases h; rfl
    · unfold L2.start
      rw [List.getElem?_append_left (by simpa using hv), List.getElem?_map, List.getElem?_eq_getElem hv]
      rfl
  refine ⟨⟨?_, ?_, ?_⟩, hS, .refl, fun i d a e1 e2 e3 => ?_⟩
  · simp [envOf, L2.start, l1, l2]
  · rw [m1]
    simp [envOf, l1]
    omega
  · -- which of the borrowed lie as containers
    have choose : ∀ i : Nat, ∃ o : Option Addr, (∀ d, (envOf N.length ds)[i]? = some (some d) → ∃ v m, md[i]? = some m ∧ (L2.start N vs)[i]? = some (some v) ∧ m ≠ .own ∧ match o with
        | some a => v = .ref a ∧ m ≠ .val ∧ OwnAt G μ F H a d
        | none => Rp G μ F d v) ∧ ((∀ d, (envOf N.length ds)[i]? ≠ some (some d)) → o = none) := fun i => by
      by_cases q : ∃ d, (envOf N.length ds)[i]? = some (some d)
      · obtain ⟨d, q⟩ := q
        obtain ⟨v, k, e1, e2, e3, e4⟩ := at_ i d q
        have rr := r i k d v e3 e1 e2
        rcases m3 i k e3 with ⟨rfl, em⟩ | ⟨rfl, em⟩
        · exact ⟨none, fun d' q' => by rw [q] at q'; cases q'; exact ⟨v, .val, em, e4, by decide, rr⟩, fun _ => rfl⟩
        · rcases rr with rr | ⟨a, rfl, o⟩
          · exact ⟨none, fun d' q' => by rw [q] at q'; cases q'; exact ⟨v, .bor, em, e4, by decide, rr⟩, fun _ => rfl⟩
          · exact ⟨some a, fun d' q' => by rw [q] at q'; cases q'; exact ⟨.ref a, .bor, em, e4, by decide, rfl, by decide, o⟩, fun z => absurd q (z d)⟩
      · exact ⟨none, fun d q' => absurd ⟨d, q'⟩ q, fun _ => rfl⟩
    refine ⟨fun i => (choose i).choose, fun i m d e1 e2 => ?_, fun i j a e1 e2 ne em => ?_, fun i h => (choose i).choose_spec.2 h⟩
    · obtain ⟨v, m', f1, f2, f3, f4⟩ := (choose i).choose_spec.1 d e2
      rw [e1] at f1; cases f1
      refine ⟨v, f2, ?_⟩
      simp only
      cases e : (choose i).choose with
      | none => rw [e] at f4; exact ⟨f3, f4⟩
      | some a => rw [e] at f4; exact f4
    · simp only at e1
      by_cases q : ∃ d, (envOf N.length ds)[i]? = some (some d)
      · obtain ⟨d, q⟩ := q
        obtain ⟨v, m', f1, f2, f3, f4⟩ := (choose i).choose_spec.1 d q
        rw [em] at f1; cases f1
        exact f3 rfl
      · have := (choose i).choose_spec.2 fun d z => q ⟨d, z⟩
        rw [this] at e1; cases e1
  · obtain ⟨v, k, f1, f2, f3, f4⟩ := at_ i d e2
    rcases m3 i k f3 with ⟨_, em⟩ | ⟨_, em⟩ <;> (rw [em] at e1; cases e1)
/-- THE RULE for a def: its body's judgement -/
theorem fn_ok {P : Program} {w : World} {K : PySem.W.Frag} {mg : Str → Option Value} {base : Heap} {x qual : Str} {s : Stmt} {f : Addr} {fd : FuncData} {N ps : List Str} {k : Nat} {pk : List Kd} {rk : Kd} {m : MS}
    (F : Fun K x qual s f fd) (S : FnScope N ps (defScope s)) (hl : pk.length = ps.length) (hm : mdOk md pk N.length = true)
    (hbody : ∀ (cdv : Value) (A : Around) (outer : List PySem.Env) (s0 : Shared) (H : Hp) (E : XK) (B : Bs), B.rk = rk → Room k (A.deeper (envOfC qual (defScope s) s0.heap.objs.size f cdv)) →
      SSs cl md B (cxOf CX0 P w K mg base N qual (defScope s) f cdv A outer s0 H E).nox (defBody s) m) : FnOk P w K mg base CX0 (k + 1) f fd ps (spF ⟨K, cl⟩ pk rk (runB N.length rk m)) := by
  refine F.ok S (fun vs H Q E h => ?_) (fun cdv A outer s0 H vs Q E hr h => ?_)
  · obtain ⟨_, _, _, _, _, _, l2, _⟩ := h
    exact l2.trans hl
  · obtain ⟨μ, F, ds, st, hS, l1, l2, r, w⟩ := h
    refine ⟨_, hbody cdv A outer s0 H E ⟨μ, F, H, rk⟩ rfl hr, envOf N.length ds, μ, F, st, sit_start hm hS l1 l2 r, ?_⟩
    unfold runB at w
    rw [M.gives_bind] at w
    refine M.gives_mono w fun rr st1 w1 => ?_
    obtain ⟨fl, ρ⟩ := rr
    cases fl
    · cases rk
      · exact fun σ' μ' F' H' s' _ _ => w1 .non μ' F' H' s'.post s'.sto rfl
      · exact w1.elim
      · exact w1.elim
    · exact w1.elim
    · exact w1.elim
    · exact fun v μ' F' H' p s r => w1 v μ' F' H' p s r
end
end Sh
namespace Sh
open PySem PySem.Spec PyProof.Rows L2

theorem okS_len {s : Str} (h : okS s = true) : s.length ≤ sizeLine := by
  unfold okS at h
  simp only [Bool.and_eq_true, decide_eq_true_eq] at h
  rw [sizeLine_eq]
  exact h.1
theorem okS_ok {s : Str} (h : okS s = true) : PyData.strOk s = true := by
  unfold okS at h
  simp only [Bool.and_eq_true, decide_eq_true_eq] at h
  exact h.2
theorem okS_mk {s : Str} (h : s.length ≤ 16777216) (h2 : PyData.strOk s = true) : okS s = true := by
  unfold okS
  simp [h, h2]

/-! ### data without dicts, objects -/
mutual
def D.py : D → Option PyData
  | .non => some .none
  | .bl b => some (.bool b)
  | .int i => some (.int i)
  | .str s => some (.str s)
  | .lst ds => match pyL ds with
    | some ps => some (.list ps)
    | none => none
  | .tup ds => match pyL ds with
    | some ps => some (.tuple ps)
    | none => none
  | .dic _ => none
  | .obj _ _ => none
  | .dit _ => none
  | .ref _ => none
  | .frl _ => none
def pyL : List D → Option (List PyData)
  | [] => some []
  | d :: ds => match d.py, pyL ds with
    | some p, some ps => some (p :: ps)
    | _, _ => none
end
section
variable {G : Gs} {μ : List Addr} {F H : Hp}
mutual
theorem rp_dp (hs : Sub F H) : ∀ (d : D) (p : PyData) (v : V), d.py = some p → Rp G μ F d v → Dp G.K H v p ∧ p.canLay0 = true
  | .non, p, v, e, r => by cases e; cases r; exact ⟨.non, rfl⟩
  | .bl b, p, v, e, r => by cases e; cases r; exact ⟨.bl b, rfl⟩
  | .int i, p, v, e, r => by cases e; cases r; exact ⟨.int i, rfl⟩
  | .str s, p, v, e, r => by
    cases e
    obtain ⟨rfl, ok⟩ := r
    exact ⟨.str s, by simpa [PyData.canLay0] using okS_ok ok⟩
  | .lst ds, p, v, e, r => by
    unfold D.py at e
    obtain ⟨z, a, vs, rfl, hq, rl⟩ := r
    cases ep : pyL ds with
    | none => rw [ep] at e; cases e
    | some ps =>
      rw [ep] at e; cases e
      obtain ⟨h1, h2⟩ := rpl_dp hs ds ps vs ep rl
      exact ⟨.lst (.inl (.inl (hs _ _ hq))) h1, by simpa [PyData.canLay0] using h2⟩
  | .tup ds, p, v, e, r => by
    unfold D.py at e
    obtain ⟨z, a, vs, rfl, hq, rl⟩ := r
    cases ep : pyL ds with
    | none => rw [ep] at e; cases e
    | some ps =>
      rw [ep] at e; cases e
      obtain ⟨h1, h2⟩ := rpl_dp hs ds ps vs ep rl
      exact ⟨.tup (hs.seqT hq) h1, by simpa [PyData.canLay0] using h2⟩
  | .dic _, p, v, e, r => by cases e
  | .obj _ _, p, v, e, r => by cases e
  | .dit _, p, v, e, r => by cases e
  | .ref _, p, v, e, r => by cases e
  | .frl _, p, v, e, r => by cases e
theorem rpl_dp (hs : Sub F H) : ∀ (ds : List D) (ps : List PyData) (vs : List V), pyL ds = some ps → RpL G μ F ds vs → DpAll G.K H vs ps ∧ PyData.canLayAll0 ps = true
  | [], ps, vs, e, r => by
    cases e
    have r : vs = [] := r
    subst r
    exact ⟨.nil, rfl⟩
  | d :: ds, ps, vs, e, r => by
    unfold pyL at e
    obtain ⟨v, vr, rfl, r1, r2⟩ := r
    cases e1 : d.py with
    | none => rw [e1] at e; cases e
    | some p =>
      cases e2 : pyL ds with
      | none => rw [e1, e2] at e; cases e
      | some ps' =>
        rw [e1, e2] at e; cases e
        obtain ⟨h1, c1⟩ := rp_dp hs d p v e1 r1
        obtain ⟨h2, c2⟩ := rpl_dp hs ds ps' vr e2 r2
        exact ⟨.cons h1 h2, by simp [PyData.canLayAll0, c1, c2]⟩
end
/-- how a value, or a container that stands now, lies -/
def VR (G : Gs) (μ : List Addr) (F H : Hp) (d : D) (v : V) : Prop := Rp G μ F d v ∨ ∃ a, v = .ref a ∧ ObjAt G μ F H a d
theorem rk_vr {k : Kd} {H0 : Hp} {d : D} {v : V} (r : RK G k H0 μ F H d v) : VR G μ F H d v := by
  cases k with
  | val => exact .inl r
  | bor =>
    rcases r with r | ⟨a, e, o⟩
    · exact .inl r
    · exact .inr ⟨a, e, o.2⟩
  | fre =>
    obtain ⟨a, e, _, _, o⟩ := r
    exact .inr ⟨a, e, o.2⟩
/-- what a reference shows now -/
def view (d : D) : M D := fun st => match d with
  | .ref l => match st[l]? with
    | some o => .ok o st
    | none => .bad
  | d => .ok d st
theorem view_gives {st : Sto} {k : Kd} {H0 : Hp} {d : D} {v : V} {P : D → Sto → Prop} (s : StOk G μ F H st) (r : RK G k H0 μ F H d v) (h : (view d).gives st P) : ∃ d', VR G μ F H d' v ∧ P d' st := by
  unfold view M.gives at h
  cases d <;> try exact ⟨_, rk_vr r, h⟩
  rename_i l
  simp only at h
  cases e : st[l]? with
  | none => rw [e] at h; exact h.elim
  | some o =>
    rw [e] at h
    refine ⟨o, ?_, h⟩
    have key : ∀ a, v = .ref a → μ[l]? = some a → VR G μ F H o v := fun a ev em => .inr ⟨a, ev, s.obj l a o em e⟩
    cases k with
    | val => obtain ⟨a, ev, em⟩ := r; exact key a ev em
    | bor =>
      rcases r with ⟨a, ev, em⟩ | ⟨a, _, o⟩
      · exact key a ev em
      · exact o.2.elim
    | fre => obtain ⟨a, _, _, _, o⟩ := r; exact o.2.elim
theorem vr_dp {d : D} {p : PyData} {v : V} (hs : Sub F H) (e : d.py = some p) (r : VR G μ F H d v) : Dp G.K H v p ∧ p.canLay0 = true := by
  rcases r with r | ⟨a, ev, o⟩
  · exact rp_dp hs d p v e r
  · subst ev
    cases d <;> try exact o.elim
    · rename_i ds
      obtain ⟨f, z, vs, hq, rl⟩ := o
      unfold D.py at e
      cases ep : pyL ds with
      | none => rw [ep] at e; cases e
      | some ps =>
        rw [ep] at e; cases e
        obtain ⟨h1, h2⟩ := rpl_dp hs ds ps vs ep rl
        exact ⟨.lst (.inl (.inl hq)) h1, by simpa [PyData.canLay0] using h2⟩
    · cases e
    · cases e
    · cases e
theorem vr_lst {ds : List D} {v : V} (hs : Sub F H) (r : VR G μ F H (.lst ds) v) : ∃ a vs, v = .ref a ∧ H a = some (.lst vs) ∧ RpL G μ F ds vs ∧ ds.length ≤ sizeLine := by
  rcases r with ⟨z, a, vs, rfl, hq, rl⟩ | ⟨a, rfl, f, z, vs, hq, rl⟩
  · exact ⟨a, vs, rfl, hs _ _ hq, rl, z⟩
  · exact ⟨a, vs, rfl, hq, rl, z⟩
theorem vr_tup {ds : List D} {v : V} (r : VR G μ F H (.tup ds) v) : Rp G μ F (.tup ds) v := by
  rcases r with r | ⟨a, _, o⟩
  · exact r
  · exact o.elim
theorem vr_frl {ds : List D} {v : V} (r : VR G μ F H (.frl ds) v) : Rp G μ F (.frl ds) v := by
  rcases r with r | ⟨a, _, o⟩
  · exact r
  · exact o.elim
theorem vr_str {x : Str} {v : V} (r : VR G μ F H (.str x) v) : v = .str x ∧ okS x = true := by
  rcases r with r | ⟨a, _, o⟩
  · exact r
  · exact o.elim
/-- a flat dict -/
theorem vr_dic {kvs : List (D × D)} {v : V} (hs : Sub F H) (r : VR G μ F H (.dic kvs) v) : kvs.length ≤ sizeLine ∧ ∃ a L, v = .ref a ∧ H a = some (.dK L) ∧ RpK G μ F kvs L := by
  rcases r with ⟨z, a, L, rfl, q, r⟩ | ⟨a, rfl, f, z, L, q, r⟩
  · exact ⟨z, a, L, rfl, hs _ _ q, r⟩
  · exact ⟨z, a, L, rfl, q, r⟩
end

/-! ### == and != -/
/-- by the two's data -/
def rEqP (K : PySem.W.Frag) (neg : Bool) : R2 := fun x y H Q => ∃ p q, Dp K H x p ∧ Dp K H y q ∧ p.canLay0 = true ∧ q.canLay0 = true ∧ min p.depth q.depth ≤ 64 ∧ Q (.bl (if neg then !PyData.eqv p q else PyData.eqv p q)) H
section
variable {cl : String → Option Addr} {md : List Md} {X : Cx}
theorem op_eqP (hu : X.A.units + 64 < cLine) : OpR X (compareOp .Eq) (rEqP X.K false) := by
  intro pins s σ H x y v u Q I rx ry h
  obtain ⟨p, q, hp, hq, c1, c2, hd, k⟩ := h
  obtain ⟨as, r1⟩ := Dp.reads I p x v hp rx
  obtain ⟨bs, r2⟩ := Dp.reads I q y u hq ry
  exact SeqAt.compareEq_reads r1 r2 c1 c2 (by omega) ⟨.bl _, H, I, rfl, k⟩
theorem op_neP (hu : X.A.units + 64 < cLine) : OpR X (compareOp .NotEq) (rEqP X.K true) := by
  intro pins s σ H x y v u Q I rx ry h
  obtain ⟨p, q, hp, hq, c1, c2, hd, k⟩ := h
  obtain ⟨as, r1⟩ := Dp.reads I p x v hp rx
  obtain ⟨bs, r2⟩ := Dp.reads I q y u hq ry
  exact SeqAt.compareNe_reads r1 r2 c1 c2 (by omega) ⟨.bl _, H, I, rfl, k⟩
/-- the equality of two values; none where it is not told here -/
def eqB (a b : D) : Option Bool := match a.py, b.py with
  | some p, some q => if min p.depth q.depth ≤ 64 then some (PyData.eqv p q) else none
  | _, _ => none
def optB (f : Bool → Bool) : Option Bool → M D
  | some k => pure (.bl (f k))
  | none => M.bad
def eqD (a b : D) : M D := do
  let x ← view a
  let y ← view b
  optB id (eqB x y)
def neD (a b : D) : M D := do
  let x ← view a
  let y ← view b
  optB not (eqB x y)
theorem optB_gives {f : Bool → Bool} {o : Option Bool} {st : Sto} {P : D → Sto → Prop} (h : (optB f o).gives st P) : ∃ k, o = some k ∧ P (.bl (f k)) st := by
  cases o with
  | none => exact h.elim
  | some k => exact ⟨k, rfl, h⟩
theorem eqB_some {a b : D} {k : Bool} (h : eqB a b = some k) : ∃ p q, a.py = some p ∧ b.py = some q ∧ min p.depth q.depth ≤ 64 ∧ PyData.eqv p q = k := by
  unfold eqB at h
  cases e1 : a.py with
  | none => rw [e1] at h; cases h
  | some p =>
    cases e2 : b.py with
    | none => rw [e1, e2] at h; cases h
    | some q =>
      rw [e1, e2] at h
      simp only at h
      split at h
      · cases h; exact ⟨p, q, rfl, rfl, by assumption, rfl⟩
      · cases h
theorem o2_eq {ka kb : Kd} : Op2 (gs X cl) ka kb .val (rEqP X.K false) eqD := fun μ F H H1 H2 st d e v u Q s r1 r2 w => by
  unfold eqD at w
  rw [M.gives_bind] at w
  obtain ⟨d', v1, w⟩ := view_gives s r1 w
  rw [M.gives_bind] at w
  obtain ⟨e', v2, w⟩ := view_gives s r2 w
  obtain ⟨k, h, w⟩ := optB_gives w
  obtain ⟨p, q, e1, e2, hd, ek⟩ := eqB_some h
  obtain ⟨d1, c1⟩ := vr_dp s.sub e1 v1
  obtain ⟨d2, c2⟩ := vr_dp s.sub e2 v2
  exact ⟨p, q, d1, d2, c1, c2, hd, by rw [if_neg Bool.false_ne_true, ek]; exact w _ μ F H .refl s rfl⟩
theorem o2_ne {ka kb : Kd} : Op2 (gs X cl) ka kb .val (rEqP X.K true) neD := fun μ F H H1 H2 st d e v u Q s r1 r2 w => by
  unfold neD at w
  rw [M.gives_bind] at w
  obtain ⟨d', v1, w⟩ := view_gives s r1 w
  rw [M.gives_bind] at w
  obtain ⟨e', v2, w⟩ := view_gives s r2 w
  obtain ⟨k, h, w⟩ := optB_gives w
  obtain ⟨p, q, e1, e2, hd, ek⟩ := eqB_some h
  obtain ⟨d1, c1⟩ := vr_dp s.sub e1 v1
  obtain ⟨d2, c2⟩ := vr_dp s.sub e2 v2
  exact ⟨p, q, d1, d2, c1, c2, hd, by rw [if_pos rfl, ek]; exact w _ μ F H .refl s rfl⟩

/-! ### the order of ints and texts -/
def rLt2 (fi : Int → Int → Bool) (fs : Str → Str → Bool) : R2 := fun x y H Q => (∃ i j, x = .int i ∧ y = .int j ∧ Q (.bl (fi i j)) H) ∨ ∃ i j, x = .str i ∧ y = .str j ∧ Q (.bl (fs i j)) H
def ltI (i j : Int) : Bool := decide (i < j)
def leI (i j : Int) : Bool := decide (i ≤ j)
def gtI (i j : Int) : Bool := decide (j < i)
def geI (i j : Int) : Bool := decide (j ≤ i)
def ltS (i j : Str) : Bool := decide (i.cps.toList < j.cps.toList)
def cmpI (f : Int → Int → Bool) (a b : D) : M D := match a, b with
  | .int i, .int j => pure (.bl (f i j))
  | _, _ => M.bad
def ltD (a b : D) : M D := match a, b with
  | .int i, .int j => pure (.bl (ltI i j))
  | .str i, .str j => pure (.bl (ltS i j))
  | _, _ => M.bad
theorem rk_int {G : Gs} {k : Kd} {H0 : Hp} {μ : List Addr} {F H : Hp} {i : Int} {v : V} (r : RK G k H0 μ F H (.int i) v) : v = .int i := by
  cases k with
  | val => exact r
  | bor =>
    rcases r with r | ⟨a, _, o⟩
    · exact r
    · exact o.2.elim
  | fre => obtain ⟨a, _, _, _, o⟩ := r; exact o.2.elim
theorem rk_str {G : Gs} {k : Kd} {H0 : Hp} {μ : List Addr} {F H : Hp} {s : Str} {v : V} (r : RK G k H0 μ F H (.str s) v) : v = .str s ∧ okS s = true := by
  cases k with
  | val => exact r
  | bor =>
    rcases r with r | ⟨a, _, o⟩
    · exact r
    · exact o.2.elim
  | fre => obtain ⟨a, _, _, _, o⟩ := r; exact o.2.elim
theorem rk_bl {G : Gs} {k : Kd} {H0 : Hp} {μ : List Addr} {F H : Hp} {b : Bool} {v : V} (r : RK G k H0 μ F H (.bl b) v) : v = .bl b := by
  cases k with
  | val => exact r
  | bor =>
    rcases r with r | ⟨a, _, o⟩
    · exact r
    · exact o.2.elim
  | fre => obtain ⟨a, _, _, _, o⟩ := r; exact o.2.elim
theorem o2_cmpI {ka kb : Kd} {f : Int → Int → Bool} : Op2 (gs X cl) ka kb .val (rI0 fun i j => .bl (f i j)) (cmpI f) := fun μ F H H1 H2 st d e v u Q s r1 r2 w => by
  unfold cmpI at w
  cases d <;> try exact w.elim
  cases e <;> try exact w.elim
  exact ⟨_, _, rk_int r1, rk_int r2, w _ μ F H .refl s rfl⟩
theorem op_lt2 : OpR X (compareOp .Lt) (rLt2 ltI ltS) := OpR.or op_lt op_lt_str
theorem o2_lt {ka kb : Kd} : Op2 (gs X cl) ka kb .val (rLt2 ltI ltS) ltD := fun μ F H H1 H2 st d e v u Q s r1 r2 w => by
  unfold ltD at w
  cases d <;> try exact w.elim
  · cases e <;> try exact w.elim
    exact .inl ⟨_, _, rk_int r1, rk_int r2, w _ μ F H .refl s rfl⟩
  · cases e <;> try exact w.elim
    exact .inr ⟨_, _, (rk_str r1).1, (rk_str r2).1, w _ μ F H .refl s rfl⟩

/-! ### arithmetic, concatenation -/
def arI (C : Int → Int → Bool) (f : Int → Int → Int) (a b : D) : M D := match a, b with
  | .int i, .int j => if C i j = true then pure (.int (f i j)) else M.bad
  | _, _ => M.bad
theorem o2_arI {ka kb : Kd} {C : Int → Int → Bool} {C' : Int → Int → Prop} {f : Int → Int → Int} (h : ∀ i j, C i j = true → C' i j) : Op2 (gs X cl) ka kb .val (rI C' fun i j => .int (f i j)) (arI C f) := fun μ F H H1 H2 st d e v u Q s r1 r2 w => by
  unfold arI at w
  cases d <;> try exact w.elim
  cases e <;> try exact w.elim
  obtain ⟨c, w⟩ := ite_gives w
  exact ⟨_, _, rk_int r1, rk_int r2, h _ _ c, w _ μ F H .refl s rfl⟩
def subD (a b : D) : M D := arI (fun _ _ => true) (fun i j => i - j) a b
theorem o2_sub {ka kb : Kd} : Op2 (gs X cl) ka kb .val (rI0 fun i j => .int (i - j)) subD := fun μ F H H1 H2 st d e v u Q s r1 r2 w => by
  obtain ⟨i, j, a, b, _, q⟩ := (o2_arI (C := fun _ _ => true) (C' := fun _ _ => True) (fun _ _ _ => trivial)) μ F H H1 H2 st d e v u Q s r1 r2 w
  exact ⟨i, j, a, b, q⟩
def mulC (i j : Int) : Bool := decide ((-(2 ^ 64) < i ∧ i < 2 ^ 64) ∨ (-(2 ^ 64) < j ∧ j < 2 ^ 64))
def modC (_ j : Int) : Bool := decide (0 < j)
def divC (_ j : Int) : Bool := decide (0 < j ∧ j < 1073741824)
def powC (i j : Int) : Bool := decide (0 ≤ j ∧ j ≤ 1000000 ∧ i.natAbs < 2 ^ 64)
def modD (a b : D) : M D := arI modC (fun i j => i % j) a b
def divD (a b : D) : M D := arI divC (fun i j => i / j) a b
def powD (a b : D) : M D := arI powC (fun i j => i ^ j.toNat) a b
theorem o2_mod {ka kb : Kd} : Op2 (gs X cl) ka kb .val (rI (fun _ j => 0 < j) fun i j => .int (i % j)) modD := o2_arI fun i j h => of_decide_eq_true h
theorem o2_div {ka kb : Kd} : Op2 (gs X cl) ka kb .val (rI CDiv fun i j => .int (i / j)) divD := o2_arI fun i j h => of_decide_eq_true (p := 0 < j ∧ j < 1073741824) h
theorem o2_pow {ka kb : Kd} : Op2 (gs X cl) ka kb .val (rI CPow fun i j => .int (i ^ j.toNat)) powD := o2_arI fun i j h => of_decide_eq_true (p := 0 ≤ j ∧ j ≤ 1000000 ∧ i.natAbs < 2 ^ 64) h

/-- a list or tuple, frozen or one's own, as the rules take it -/
theorem rk_lst {k : Kd} {H0 : Hp} {μ : List Addr} {F H : Hp} {ds : List D} {v : V} {G : Gs} (hs : Sub F H) (r : RK G k H0 μ F H (.lst ds) v) : ∃ a vs, v = .ref a ∧ H a = some (.lst vs) ∧ RpL G μ F ds vs ∧ ds.length ≤ sizeLine := by
  cases k with
  | val =>
    obtain ⟨z, a, vs, rfl, hq, rl⟩ := r
    exact ⟨a, vs, rfl, hs _ _ hq, rl, z⟩
  | bor =>
    rcases r with ⟨z, a, vs, rfl, hq, rl⟩ | ⟨a, rfl, _, f, z, vs, hq, rl⟩
    · exact ⟨a, vs, rfl, hs _ _ hq, rl, z⟩
    · exact ⟨a, vs, rfl, hq, rl, z⟩
  | fre =>
    obtain ⟨a, rfl, _, _, _, f, z, vs, hq, rl⟩ := r
    exact ⟨a, vs, rfl, hq, rl, z⟩
theorem rk_tup {k : Kd} {H0 : Hp} {μ : List Addr} {F H : Hp} {ds : List D} {v : V} {G : Gs} (hs : Sub F H) (r : RK G k H0 μ F H (.tup ds) v) : Rp G μ F (.tup ds) v := by
  cases k with
  | val => exact r
  | bor =>
    rcases r with r | ⟨a, _, o⟩
    · exact r
    · exact o.2.elim
  | fre => obtain ⟨a, _, _, _, o⟩ := r; exact o.2.elim
theorem rk_frl {k : Kd} {H0 : Hp} {μ : List Addr} {F H : Hp} {ds : List D} {v : V} {G : Gs} (hs : Sub F H) (r : RK G k H0 μ F H (.frl ds) v) : Rp G μ F (.frl ds) v := by
  cases k with
  | val => exact r
  | bor =>
    rcases r with r | ⟨a, _, o⟩
    · exact r
    · exact o.2.elim
  | fre => obtain ⟨a, _, _, _, o⟩ := r; exact o.2.elim
theorem rpl_app {G : Gs} {μ : List Addr} {F : Hp} : ∀ {ds es : List D} {vs us : List V}, RpL G μ F ds vs → RpL G μ F es us → RpL G μ F (ds ++ es) (vs ++ us)
  | [], _, _, _, h, r => by have h : _ = _ := h; subst h; exact r
  | d :: ds, es, _, us, h, r => by
    obtain ⟨v, vr, e, h1, h2⟩ := h
    subst e
    exact ⟨v, vr ++ us, rfl, h1, rpl_app h2 r⟩
theorem rpl_rep {G : Gs} {μ : List Addr} {F : Hp} {ds : List D} {vs : List V} (r : RpL G μ F ds vs) : ∀ n : Nat, RpL G μ F (List.replicate n ds).flatten (List.replicate n vs).flatten
  | 0 => rfl
  | n + 1 => by
    rw [List.replicate_succ, List.replicate_succ, List.flatten_cons, List.flatten_cons]
    exact rpl_app r (rpl_rep r n)
theorem rpl_get' {G : Gs} {μ : List Addr} {F : Hp} : ∀ {ds : List D} {vs : List V} {i : Nat} {d : D}, RpL G μ F ds vs → ds[i]? = some d → ∃ v, vs[i]? = some v ∧ Rp G μ F d v
  | [], _, i, _, _, h => by simp at h
  | d :: ds, _, 0, _, h, h1 => by
    obtain ⟨v, r, e, h3, h4⟩ := h
    subst e
    simp only [List.getElem?_cons_zero, Option.some.injEq] at h1
    subst h1
    exact ⟨v, rfl, h3⟩
  | d :: ds, _, i + 1, _, h, h1 => by
    obtain ⟨v, r, e, h3, h4⟩ := h
    subst e
    simp only [List.getElem?_cons_succ] at h1
    obtain ⟨v', e', h'⟩ := rpl_get' h4 h1
    exact ⟨v', by simpa using e', h'⟩
theorem rpl_drop {G : Gs} {μ : List Addr} {F : Hp} : ∀ {ds : List D} {vs : List V} (n : Nat), RpL G μ F ds vs → RpL G μ F (ds.drop n) (vs.drop n)
  | _, _, 0, h => h
  | [], _, n + 1, h => by have h : _ = _ := h; subst h; exact rfl
  | d :: ds, _, n + 1, h => by
    obtain ⟨v, r, e, h3, h4⟩ := h
    subst e
    exact rpl_drop n h4
theorem rpl_take {G : Gs} {μ : List Addr} {F : Hp} : ∀ {ds : List D} {vs : List V} (n : Nat), RpL G μ F ds vs → RpL G μ F (ds.take n) (vs.take n)
  | _, _, 0, h => rfl
  | [], _, n + 1, h => by have h : _ = _ := h; subst h; exact rfl
  | d :: ds, _, n + 1, h => by
    obtain ⟨v, r, e, h3, h4⟩ := h
    subst e
    exact ⟨v, r.take n, rfl, h3, rpl_take n h4⟩
theorem rpl_set {G : Gs} {μ : List Addr} {F : Hp} {d : D} {v : V} (q : Rp G μ F d v) : ∀ {ds : List D} {vs : List V} (n : Nat), RpL G μ F ds vs → RpL G μ F (ds.set n d) (vs.set n v)
  | [], _, n, h => by have h : _ = _ := h; subst h; exact rfl
  | c :: ds, _, 0, h => by
    obtain ⟨u, r, e, h3, h4⟩ := h
    subst e
    exact ⟨v, r, rfl, q, h4⟩
  | c :: ds, _, n + 1, h => by
    obtain ⟨u, r, e, h3, h4⟩ := h
    subst e
    exact ⟨u, r.set n v, rfl, h3, rpl_set q n h4⟩
theorem rpl_erase {G : Gs} {μ : List Addr} {F : Hp} : ∀ {ds : List D} {vs : List V} (n : Nat), RpL G μ F ds vs → RpL G μ F (ds.eraseIdx n) (vs.eraseIdx n)
  | [], _, n, h => by have h : _ = _ := h; subst h; exact rfl
  | c :: ds, _, 0, h => by
    obtain ⟨u, r, e, h3, h4⟩ := h
    subst e
    exact h4
  | c :: ds, _, n + 1, h => by
    obtain ⟨u, r, e, h3, h4⟩ := h
    subst e
    exact ⟨u, r.eraseIdx n, rfl, h3, rpl_erase n h4⟩

/-! ### + of ints, texts, tuples (values); of lists (new ones) -/
def rAdd (K : PySem.W.Frag) : R2 := fun x y H Q => (rI0 (fun i j => .int (i + j)) x y H Q ∨ ∃ i j, x = .str i ∧ y = .str j ∧ i.length + j.length ≤ sizeLine ∧ Q (.str (i ++ j)) H) ∨ rCatA K x y H Q
theorem op_addA : OpR X (binaryOp .Add) (rAdd X.K) := OpR.or (OpR.or op_add op_add_str) op_catA
def addD (a b : D) : M D := match a, b with
  | .int i, .int j => pure (.int (i + j))
  | .str i, .str j => if i.length + j.length ≤ 16777216 then pure (.str (i ++ j)) else M.bad
  | .tup xs, .tup ys => if xs.length + ys.length ≤ 16777216 then pure (.tup (xs ++ ys)) else M.bad
  | _, _ => M.bad
theorem strOk_app {a b : Str} (h1 : PyData.strOk a = true) (h2 : PyData.strOk b = true) : PyData.strOk (a ++ b) = true := by
  unfold PyData.strOk at *
  show (a.cps ++ b.cps).all _ = true
  rw [Array.all_append, h1, h2]
  rfl
theorem len_app (a b : Str) : (a ++ b).length = a.length + b.length := by
  show (a.cps ++ b.cps).size = _
  rw [Array.size_append]
  rfl
theorem o2_add {ka kb : Kd} : Op2 (gs X cl) ka kb .val (rAdd X.K) addD := fun μ F H H1 H2 st d e v u Q s r1 r2 w => by
  unfold addD at w
  cases d <;> try exact w.elim
  · cases e <;> try exact w.elim
    exact .inl (.inl ⟨_, _, rk_int r1, rk_int r2, w _ μ F H .refl s rfl⟩)
  · cases e <;> try exact w.elim
    obtain ⟨hz, w⟩ := ite_gives w
    obtain ⟨rfl, o1⟩ := rk_str r1
    obtain ⟨rfl, o2⟩ := rk_str r2
    exact .inl (.inr ⟨_, _, rfl, rfl, by rw [sizeLine_eq]; exact hz, w _ μ F H .refl s ⟨rfl, okS_mk (by rw [len_app]; exact hz) (strOk_app (okS_ok o1) (okS_ok o2))⟩⟩)
  · cases e <;> try exact w.elim
    rename_i xs ys
    obtain ⟨hz, w⟩ := ite_gives w
    obtain ⟨z1, a, vs, rfl, q1, l1⟩ := rk_tup s.sub r1
    obtain ⟨z2, b, us, rfl, q2, l2⟩ := rk_tup s.sub r2
    have e1 := rpl_len l1
    have e2 := rpl_len l2
    refine .inr ⟨a, b, vs, us, rfl, rfl, s.sub.seqT q1, s.sub.seqT q2, by rw [e1, e2, sizeLine_eq]; exact hz, fun h0 => ?_, fun h0 h1 => ?_, fun h0 h1 p np => ?_⟩
    · subst h0
      have : xs = [] := List.eq_nil_of_length_eq_zero (by simpa using e1.symm)
      subst this
      exact w _ μ F H .refl s ⟨z2, b, us, rfl, q2, l2⟩
    · subst h1
      have : ys = [] := List.eq_nil_of_length_eq_zero (by simpa using e2.symm)
      subst this
      rw [List.append_nil] at w
      exact w _ μ F H .refl s ⟨z1, a, vs, rfl, q1, l1⟩
    · obtain ⟨p2, s2, rr⟩ := new_tup .refl s (rpl_app l1 l2) np (by rw [List.length_append, sizeLine_eq]; exact hz)
      exact w _ μ _ _ p2 s2 rr
def catD (a b : D) : M D := match a, b with
  | .lst xs, .lst ys => if xs.length + ys.length ≤ 16777216 then pure (.lst (xs ++ ys)) else M.bad
  | _, _ => M.bad
theorem o2_cat {ka kb : Kd} : Op2 (gs X cl) ka kb .fre rCat catD := fun μ F H H1 H2 st d e v u Q s r1 r2 w => by
  unfold catD at w
  cases d <;> try exact w.elim
  cases e <;> try exact w.elim
  obtain ⟨hz, w⟩ := ite_gives w
  obtain ⟨a, vs, rfl, q1, l1, z1⟩ := rk_lst s.sub r1
  obtain ⟨b, us, rfl, q2, l2, z2⟩ := rk_lst s.sub r2
  refine ⟨a, b, vs, us, rfl, rfl, q1, q2, by rw [rpl_len l1, rpl_len l2, sizeLine_eq]; exact hz, fun p np => ?_⟩
  obtain ⟨p2, s2, rr⟩ := new_lst .refl s (rpl_app l1 l2) np (by rw [List.length_append, sizeLine_eq]; exact hz)
  exact w _ μ _ _ p2 s2 rr
/-- a list times a small number -/
def repD (a b : D) : M D := match a, b with
  | .lst xs, .int k => if 0 ≤ k ∧ k ≤ 1000 ∧ xs.length ≤ 1000 then pure (.lst (List.replicate k.toNat xs).flatten) else M.bad
  | _, _ => M.bad
theorem o2_rep {ka kb : Kd} : Op2 (gs X cl) ka kb .fre rRep repD := fun μ F H H1 H2 st d e v u Q s r1 r2 w => by
  unfold repD at w
  cases d <;> try exact w.elim
  cases e <;> try exact w.elim
  rename_i xs k
  obtain ⟨⟨h0, h1, h2⟩, w⟩ := ite_gives w
  obtain ⟨a, vs, rfl, q1, l1, z1⟩ := rk_lst s.sub r1
  have ev := rpl_len l1
  have hb : xs.length * k.toNat ≤ 1000 * 1000 := Nat.mul_le_mul h2 (by omega)
  refine ⟨a, k, vs, rfl, rk_int r2, q1, by omega, by omega, by rw [ev, sizeLine_eq]; omega, fun p np => ?_⟩
  obtain ⟨p2, s2, rr⟩ := new_lst .refl s (rpl_rep l1 k.toNat) np (by rw [List.length_flatten, List.map_replicate, List.sum_replicate_nat, sizeLine_eq, Nat.mul_comm]; omega)
  exact w _ μ _ _ p2 s2 rr
def mulD (a b : D) : M D := arI mulC (fun i j => i * j) a b
theorem o2_mul {ka kb : Kd} : Op2 (gs X cl) ka kb .val (rI CMul fun i j => .int (i * j)) mulD := o2_arI fun i j h => of_decide_eq_true (p := (-(2 ^ 64) < i ∧ i < 2 ^ 64) ∨ (-(2 ^ 64) < j ∧ j < 2 ^ 64)) h
end
end Sh
namespace Sh
open PySem PySem.Spec PyProof.Rows L2
section
variable {cl : String → Option Addr} {md : List Md} {X : Cx}

/-! ### flat dicts: keys are ints and texts -/
def dgetK (kvs : List (D × D)) (q : Key) : Option D := (kvs.find? fun p => decide (p.1.key? = some q)).map (·.2)
theorem rpk_get {G : Gs} {μ : List Addr} {F : Hp} {q : Key} : ∀ {kvs : List (D × D)} {L : List (Key × V)}, RpK G μ F kvs L → match dgetK kvs q with
    | some d => ∃ v, valV L q = some v ∧ Rp G μ F d v
    | none => valV L q = none
  | [], _, h => by have h : _ = _ := h; subst h; rfl
  | (k, d) :: r, _, h => by
    obtain ⟨q', v, L', rfl, hk, _, hv, hr⟩ := h
    unfold dgetK
    rw [List.find?_cons]
    by_cases e : q' = q
    · subst e
      rw [hk]
      simp only [decide_true, Option.map_some]
      exact ⟨v, valV_pos rfl, hv⟩
    · have : decide ((k, d).1.key? = some q) = false := by rw [hk]; exact decide_eq_false fun z => e (Option.some.inj z)
      rw [this]
      have ih := rpk_get (q := q) hr
      unfold dgetK at ih
      rw [valV_neg (p := (q', v)) e]
      exact ih
theorem rpk_len {G : Gs} {μ : List Addr} {F : Hp} : ∀ {kvs : List (D × D)} {L : List (Key × V)}, RpK G μ F kvs L → L.length = kvs.length
  | [], _, h => by have h : _ = _ := h; subst h; rfl
  | (k, d) :: r, _, h => by
    obtain ⟨q', v, L', rfl, hk, _, hv, hr⟩ := h
    simp [rpk_len hr]
theorem key_v {G : Gs} {μ : List Addr} {F H : Hp} {d : D} {v : V} {q : Key} (e : d.key? = some q) (r : VR G μ F H d v) : v = kV q := by
  cases d <;> try cases e
  · rcases r with r | ⟨a, _, o⟩
    · exact r
    · exact o.elim
  · exact (vr_str r).1
/-! ### in -/
def rInP (K : PySem.W.Frag) (neg : Bool) : R2 := fun x y H Q => (∃ p ps, Dp K H x p ∧ (Dp K H y (.list ps) ∨ Dp K H y (.tuple ps)) ∧ p.canLay0 = true ∧ PyData.canLayAll0 ps = true ∧ min (PyData.depthAll ps) p.depth ≤ 64 ∧
    Q (.bl (if neg then !ps.any fun z => PyData.eqv z p else ps.any fun z => PyData.eqv z p)) H) ∨
  (∃ (c : Nat) (z : Str), x = .str ⟨#[c]⟩ ∧ y = .str z ∧ Q (.bl (if neg then !decide (c ∈ z.cps.toList) else decide (c ∈ z.cps.toList))) H) ∨
  ∃ a o, y = .ref a ∧ DGet H a x o ∧ Q (.bl (if neg then !o.isSome else o.isSome)) H
theorem op_inP (hu : X.A.units + 70 < cLine) : OpR X (compareOp .In) (rInP X.K false) := by
  intro pins s σ H x y v u Q I rx ry h
  rcases h with ⟨p, ps, hp, hq, c1, c2, hd, k⟩ | ⟨c, z, e1, e2, k⟩ | ⟨a, o, e, g, k⟩
  · obtain ⟨as, r1⟩ := Dp.reads I p x v hp rx
    rcases hq with hq | hq
    · obtain ⟨bs, r2⟩ := Dp.reads I _ y u hq ry
      exact SeqAt.in_list_reads r2 r1 c2 c1 (by omega) ⟨.bl _, H, I, rfl, k⟩
    · obtain ⟨bs, r2⟩ := Dp.reads I _ y u hq ry
      exact SeqAt.in_tuple_reads r2 r1 c2 c1 (by omega) ⟨.bl _, H, I, rfl, k⟩
  · exact op_in_sign pins s σ H x y v u Q I rx ry ⟨c, z, e1, e2, k⟩
  · subst e
    obtain rfl : u = Value.ref a := ry
    exact d_in (by omega) I g rx fun s' I' => ⟨.bl _, H, I', rfl, k⟩
theorem op_notInP (hu : X.A.units + 70 < cLine) : OpR X (compareOp .NotIn) (rInP X.K true) := by
  intro pins s σ H x y v u Q I rx ry h
  rcases h with ⟨p, ps, hp, hq, c1, c2, hd, k⟩ | ⟨c, z, e1, e2, k⟩ | ⟨a, o, e, g, k⟩
  · obtain ⟨as, r1⟩ := Dp.reads I p x v hp rx
    rcases hq with hq | hq
    · obtain ⟨bs, r2⟩ := Dp.reads I _ y u hq ry
      exact SeqAt.notIn_list_reads r2 r1 c2 c1 (by omega) ⟨.bl _, H, I, rfl, k⟩
    · obtain ⟨bs, r2⟩ := Dp.reads I _ y u hq ry
      exact SeqAt.notIn_tuple_reads r2 r1 c2 c1 (by omega) ⟨.bl _, H, I, rfl, k⟩
  · exact op_notIn_sign pins s σ H x y v u Q I rx ry ⟨c, z, e1, e2, k⟩
  · subst e
    obtain rfl : u = Value.ref a := ry
    exact d_notIn (by omega) I g rx fun s' I' => ⟨.bl _, H, I', rfl, k⟩
/-- membership; none where it is not told here -/
def inSeq (x : D) (ds : List D) : Option Bool := match x.py, pyL ds with
  | some p, some ps => if min (PyData.depthAll ps) p.depth ≤ 64 then some (ps.any fun z => PyData.eqv z p) else none
  | _, _ => none
def inB (x y : D) : Option Bool := match y with
  | .lst ds => inSeq x ds
  | .tup ds => inSeq x ds
  | .str z => match x with
    | .str ⟨⟨[c]⟩⟩ => some (decide (c ∈ z.cps.toList))
    | _ => none
  | .dic kvs => match x.key? with
    | some q => some (dgetK kvs q).isSome
    | none => none
  | _ => none
def inD (x y : D) : M D := do
  let y ← view y
  optB id (inB x y)
def notInD (x y : D) : M D := do
  let y ← view y
  optB not (inB x y)
theorem inSeq_some {x : D} {ds : List D} {k : Bool} (h : inSeq x ds = some k) : ∃ p ps, x.py = some p ∧ pyL ds = some ps ∧ min (PyData.depthAll ps) p.depth ≤ 64 ∧ (ps.any fun z => PyData.eqv z p) = k := by
  unfold inSeq at h
  cases e1 : x.py with
  | none => rw [e1] at h; cases h
  | some p =>
    cases e2 : pyL ds with
    | none => rw [e1, e2] at h; cases h
    | some ps =>
      rw [e1, e2] at h
      simp only at h
      split at h
      · cases h; exact ⟨p, ps, rfl, rfl, by assumption, rfl⟩
      · cases h
theorem seq_dp {G : Gs} {μ : List Addr} {F H : Hp} {ds : List D} {ps : List PyData} {v : V} {y : D} (hs : Sub F H) (ey : y = .lst ds ∨ y = .tup ds) (e : pyL ds = some ps) (r : VR G μ F H y v) : (Dp G.K H v (.list ps) ∨ Dp G.K H v (.tuple ps)) ∧ PyData.canLayAll0 ps = true := by
  rcases ey with rfl | rfl
  · have ep : (D.lst ds).py = some (.list ps) := by unfold D.py; rw [e]
    obtain ⟨h1, h2⟩ := vr_dp hs ep r
    exact ⟨.inl h1, by simpa [PyData.canLay0] using h2⟩
  · have ep : (D.tup ds).py = some (.tuple ps) := by unfold D.py; rw [e]
    obtain ⟨h1, h2⟩ := vr_dp hs ep r
    exact ⟨.inr h1, by simpa [PyData.canLay0] using h2⟩
theorem in_link {neg : Bool} {G : Gs} {μ : List Addr} {F H : Hp} {x y : D} {v u : V} {k : Bool} {Q : VK} (hs : Sub F H) (r1 : VR G μ F H x v) (r2 : VR G μ F H y u) (h : inB x y = some k) (q : Q (.bl (if neg then !k else k)) H) : rInP G.K neg v u H Q := by
  unfold inB at h
  cases y <;> try cases h
  · -- a text
    rename_i z
    cases x <;> try cases h
    rename_i t
    obtain ⟨⟨l⟩⟩ := t
    match l, h with
    | [c], h =>
      cases h
      exact .inr (.inl ⟨c, z, (vr_str r1).1, (vr_str r2).1, q⟩)
  · rename_i ds
    obtain ⟨p, ps, e1, e2, hd, ek⟩ := inSeq_some h
    obtain ⟨d1, c1⟩ := vr_dp hs e1 r1
    obtain ⟨d2, c2⟩ := seq_dp hs (.inl rfl) e2 r2
    exact .inl ⟨p, ps, d1, d2, c1, c2, hd, by rw [ek]; exact q⟩
  · rename_i ds
    obtain ⟨p, ps, e1, e2, hd, ek⟩ := inSeq_some h
    obtain ⟨d1, c1⟩ := vr_dp hs e1 r1
    obtain ⟨d2, c2⟩ := seq_dp hs (.inr rfl) e2 r2
    exact .inl ⟨p, ps, d1, d2, c1, c2, hd, by rw [ek]; exact q⟩
  · rename_i kvs
    cases ek : x.key? with
    | none => rw [ek] at h; cases h
    | some key =>
      rw [ek] at h
      simp only [Option.some.injEq] at h
      obtain ⟨z, a, L, rfl, hL, rk⟩ := vr_dic hs r2
      have ev := key_v ek r1
      subst ev
      refine .inr (.inr ⟨a, _, rfl, .k hL, ?_⟩)
      have g := rpk_get (q := key) rk
      cases e2 : dgetK kvs key with
      | none => rw [e2] at g h; rw [g]; subst h; exact q
      | some d => rw [e2] at g h; obtain ⟨v', e3, _⟩ := g; rw [e3]; subst h; exact q
theorem o2_in {ka kb : Kd} : Op2 (gs X cl) ka kb .val (rInP X.K false) inD := fun μ F H H1 H2 st d e v u Q s r1 r2 w => by
  unfold inD at w
  rw [M.gives_bind] at w
  obtain ⟨e', v2, w⟩ := view_gives s r2 w
  obtain ⟨k, h, w⟩ := optB_gives w
  exact in_link (neg := false) (G := gs X cl) s.sub (rk_vr r1) v2 h (by rw [if_neg Bool.false_ne_true]; exact w _ μ F H .refl s rfl)
theorem o2_notIn {ka kb : Kd} : Op2 (gs X cl) ka kb .val (rInP X.K true) notInD := fun μ F H H1 H2 st d e v u Q s r1 r2 w => by
  unfold notInD at w
  rw [M.gives_bind] at w
  obtain ⟨e', v2, w⟩ := view_gives s r2 w
  obtain ⟨k, h, w⟩ := optB_gives w
  exact in_link (neg := true) (G := gs X cl) s.sub (rk_vr r1) v2 h (by rw [if_pos rfl]; exact w _ μ F H .refl s rfl)
end
end Sh
namespace Sh
open PySem PySem.Spec PyProof.Rows L2
/-- two data, or two lists of unlike lengths -/
def rEqL (K : PySem.W.Frag) : R2 := fun x y H Q => rEqP K false x y H Q ∨ ∃ a b xs ys, x = .ref a ∧ y = .ref b ∧ SqL K H a xs ∧ SqL K H b ys ∧ xs.length ≠ ys.length ∧ Q (.bl false) H
section
variable {cl : String → Option Addr} {md : List Md} {X : Cx}
theorem op_eqL (hu : X.A.units + 64 < cLine) : OpR X (compareOp .Eq) (rEqL X.K) := by
  intro pins s σ H x y v u Q I rx ry h
  rcases h with h | ⟨a, b, xs, ys, rfl, rfl, ha, hb, hne, q⟩
  · exact op_eqP hu pins s σ H x y v u Q I rx ry h
  · cases rx
    cases ry
    obtain ⟨i1, r1, p1, _⟩ := I.list ha
    obtain ⟨i2, r2, p2, _⟩ := I.list hb
    refine SeqAt.RcAt.lists_lengths p1.isList p2.isList ?_ (by omega) X.prog X.w X.xe _ ⟨.bl false, H, I, rfl, q⟩
    have h1 := r1.length
    have h2 := r2.length
    simp only [List.size_toArray, bne_iff_ne, ne_eq]
    omega
/-- == against a list: by the length, where it tells -/
def eqLB (a b : D) : Option Bool := match a, b with
  | .lst xs, .lst ys => if xs.length = ys.length then eqB a b else some false
  | _, _ => eqB a b
def eqLD (a b : D) : M D := do
  let x ← view a
  let y ← view b
  optB id (eqLB x y)
theorem o2_eqL {ka kb : Kd} : Op2 (gs X cl) ka kb .val (rEqL X.K) eqLD := fun μ F H H1 H2 st d e v u Q s r1 r2 w => by
  unfold eqLD at w
  rw [M.gives_bind] at w
  obtain ⟨d', v1, w⟩ := view_gives s r1 w
  rw [M.gives_bind] at w
  obtain ⟨e', v2, w⟩ := view_gives s r2 w
  obtain ⟨k, h, w⟩ := optB_gives w
  have old : eqB d' e' = some k → rEqL X.K v u H Q := fun h => by
    obtain ⟨p, q, e1, e2, hd, ek⟩ := eqB_some h
    obtain ⟨d1, c1⟩ := vr_dp s.sub e1 v1
    obtain ⟨d2, c2⟩ := vr_dp s.sub e2 v2
    exact .inl ⟨p, q, d1, d2, c1, c2, hd, by rw [if_neg Bool.false_ne_true, ek]; exact w _ μ F H .refl s rfl⟩
  unfold eqLB at h
  split at h
  · split at h
    · exact old h
    · rename_i xs ys hne
      cases h
      obtain ⟨a, vs, rfl, hq, rl, _⟩ := vr_lst s.sub v1
      obtain ⟨b, us, rfl, hq2, rl2, _⟩ := vr_lst s.sub v2
      exact .inr ⟨a, b, vs, us, rfl, rfl, .inl (.inl hq), .inl (.inl hq2), by rw [rpl_len rl, rpl_len rl2]; exact hne, w _ μ F H .refl s rfl⟩
  · exact old h
end
end Sh
namespace Sh
open PySem PySem.Spec PyProof.Rows L2

/-! ### defs whose callers stand in no repr -/
/-- the promise of a def, kept wherever no container is being shown -/
structure FnG (P : Program) (w : World) (K : PySem.W.Frag) (mg : Str → Option Value) (base : Heap) (CX : CXT) (k : Nat) (f : Addr) (fd : FuncData) (ps : List Str) (sp : Sp) : Prop where
  glen : ∀ vs H Q E, sp vs H Q E → vs.length = ps.length
  grun : ∀ (A : Around) (outer : List PySem.Env) (s : Shared) (H : Hp) (args : Args) (us : List Value) (vs : List V) (Q : VK) (E : XK), A.guards = some [] → Room k A → Env0 P w K mg base A outer s H →
    BindsTo s fd args (ps.zip us) → Vals vs us → sp vs H Q E → codeAny (model P w) A (.call (.ref f) args) (CR CX outer P w H s Q E) s
theorem FnG.of {P : Program} {w : World} {K : PySem.W.Frag} {mg : Str → Option Value} {base : Heap} {CX : CXT} {k : Nat} {f : Addr} {fd : FuncData} {ps : List Str} {sp : Sp} (F : FnOk P w K mg base CX k f fd ps sp) : FnG P w K mg base CX k f fd ps sp :=
  ⟨F.len, fun A o s H ar us vs Q E _ => F.run A o s H ar us vs Q E⟩
theorem FnG.up {P : Program} {w : World} {K : PySem.W.Frag} {mg : Str → Option Value} {base : Heap} {CX : CXT} {j k : Nat} {f : Addr} {fd : FuncData} {ps : List Str} {sp : Sp} (F : FnG P w K mg base CX j f fd ps sp) (h : j ≤ k) : FnG P w K mg base CX k f fd ps sp :=
  ⟨F.glen, fun A o s H ar us vs Q E hg hr => F.grun A o s H ar us vs Q E hg (hr.mono h)⟩

/-- a def as it stands, whatever its defaults -/
structure FunA (K : PySem.W.Frag) (x qual : Str) (st : Stmt) (f : Addr) (fd : FuncData) : Prop where
  ex : ∃ (oc : Value) (od : Option Addr) (dV kV doc pm : Value) (an : Option Addr) (cdv ct : Value) (osl : Array (Option Value)),
    fd = PySem.W.fnOf x qual (defArgs st) (defBody st) (defScope st) dV kV doc pm an cdv ct ∧ K.lookup f = some ⟨oc, od, .func fd, osl⟩ ∧ PySem.W.codeIn K cdv qual = true
theorem _root_.L2.Fun.a {K : PySem.W.Frag} {x qual : Str} {st : Stmt} {f : Addr} {fd : FuncData} (F : Fun K x qual st f fd) : FunA K x qual st f fd :=
  let ⟨oc, od, kV, doc, pm, an, cdv, ct, osl, e, l, c⟩ := F.ex; ⟨⟨oc, od, .none, kV, doc, pm, an, cdv, ct, osl, e, l, c⟩⟩
section
variable {P : Program} {w : World} {K : PySem.W.Frag} {mg : Str → Option Value} {base : Heap} {CX : CXT} {k : Nat} {sp : Sp}
/-- the body's walk gives the promise -/
theorem fnG_body {x qual : Str} {st : Stmt} {f : Addr} {fd : FuncData} {N ps : List Str} (F : FunA K x qual st f fd) (S : FnScope N ps (defScope st)) (len : ∀ vs H Q E, sp vs H Q E → vs.length = ps.length)
    (hbody : ∀ (cdv : Value) (A : Around) (outer : List PySem.Env) (s0 : Shared) (H : Hp) (vs : List V) (Q : VK) (E : XK), A.guards = some [] → Room k (A.deeper (envOfC qual (defScope st) s0.heap.objs.size f cdv)) → sp vs H Q E →
      ∃ t, PSs (cxOf CX P w K mg base N qual (defScope st) f cdv A outer s0 H E) (defBody st) t ∧ t { nx := fun _ H' => Q .non H', rt := Q } (L2.start N vs) H) : FnG P w K mg base CX (k + 1) f fd ps sp := by
  obtain ⟨oc, od, dV, kV, doc, pm, an, cdv, ct, osl, rfl, lk, hcd⟩ := F.ex
  refine ⟨len, fun A outer s H args us vs Q E hg hr e0 hb r hsp => ?_⟩
  have stay : ∀ (b : Addr) (o : Obj), base.get? b = some o → s.heap.get? b = some o := fun b o e => (e0.bs b o e).1
  have hlen := len _ _ _ _ hsp
  have hin : K.In s.heap := e0.mod.kin.keeps stay
  have par : ∀ y ∈ ps.zip us, (defScope st).names.lookup y.1 = some .local ∨ ((defScope st).names.lookup y.1 = some .cell ∧ ((cellsFrom (s.heap.objs.size + 1) (defScope st).names []).lookup y.1).isSome = true) := by
    rintro ⟨n, v⟩ hy
    exact (S.par n (List.of_mem_zip hy).1).imp id fun q => ⟨q, PySem.W.cellsFrom_some _ _ _ (.inl q)⟩
  refine codeAny_call_function hr.depth (hin _ _ lk) rfl S.co S.gen rfl (PySem.W.codeRec_of hin hcd) (hb _ _ _ _ (wpAny_newFunctionEnv_cells S.kind par fun env he s1 x => ?_))
  subst he
  refine ⟨(e0.mod.nolimit.keeps stay).keeps x.toInCall.keep, codeAny_func ?_⟩
  obtain ⟨t, ht, hq⟩ := hbody cdv A outer s H vs Q E hg (hr.deeper _) hsp
  refine wpAny_mono (ht.run [] s1 (L2.start N vs) H _ (inv_start S hr.hd e0 hlen r x) hq) (fun fl s' hs => ?_) fun _ _ hs => hs
  cases fl with
  | next => obtain ⟨_, H', J, q⟩ := hs; exact ⟨.non, H', J.os, J.bare, J.base, J.hok, rfl, q⟩
  | ret u => obtain ⟨v, _, H', J, rv, q⟩ := hs; exact ⟨v, H', J.os, J.bare, J.base, J.hok, rv, q⟩
  | brk => exact hs.elim fun _ z => z.elim fun _ z => z.2.elim
  | cont => exact hs.elim fun _ z => z.elim fun _ z => z.2.elim
end

section
variable {X : Cx} {CX : CXT} {k : Nat} {f : Addr} {fd : FuncData} {ps : List Str} {sp : Sp} {ds : List Value} {dvs : List V} {E : XK}
theorem runG {pins : List (Addr × Obj)} {σ : L2.St} {H : Hp} {s : Shared} {Q : VK} {us : List Value} {vs : List V} (F : FnG X.prog X.w X.K X.mg X.base CX k f fd ps sp) (hgu : X.A.guards = some []) (hr : Room k X.A) (hb : Binds X.K fd ps ds) (hd : Vals dvs ds) (hx : Passes CX X E)
    (I : Inv X pins σ H s) (r : Vals vs us) (h : sp (vs ++ dvs) H Q E) : wpAny (model X.prog X.w) X.A (call (.ref f) us) (EP X pins σ Q) X.xe s := by
  have rr := r.append hd
  refine wpAny_call (codeAny_mono (F.grun X.A X.stack s H ⟨us, []⟩ (us ++ ds) (vs ++ dvs) Q E hgu hr I.env0 (hb s us I.kIn (by rw [← rr.length]; exact F.glen _ _ _ _ h)) rr h) fun res s' hq => ?_)
  match res, hq with
  | .error e, hq => exact hx pins σ H s e s' I hq
  | .ok (.ret u), hq => exact I.after hq
theorem pe_callG {x : Str} {p pos : Pos} {e : Expr} {es : List Expr} {t : TA} (F : FnG X.prog X.w X.K X.mg X.base CX k f fd ps sp) (hgu : X.A.guards = some []) (hr : Room k X.A) (hg : Gl X x) (hm : X.mg x = some (.ref f)) (hk : PySem.W.keepIn X.K (.ref f) = true) (hb : Binds X.K fd ps ds) (hd : Vals dvs ds) (hx : Passes CX X E)
    (ha : PA X (e :: es) t) (hdb : (x == ("__debug__" : Str)) = false := by decide) (he : starEach (e :: es) X.env = (false, eval e X.env) :: starEach es X.env := by rfl) (hpl : (backTo pos (starEach es X.env)).any (·.1) = false := by rfl) :
    PE X (.Call (.Name x p) (e :: es) [] pos) (tCall sp dvs E t) :=
  ⟨fun pins s σ H Q I h => wpAny_Call_Name_kw (ld_glob I hg hm (PySem.W.callWith_K (h₀ := X.base) I.ok.mod.kin hk (thn (ha.run pos pins s σ H _ I h) fun us s1 ⟨vs, H1, I1, r, q⟩ => ⟨I1.kIn, runG F hgu hr hb hd hx I1 r q⟩) he hpl) hdb)⟩
end

section
variable {cl : String → Option Addr} {md : List Md} {X : Cx}
theorem sk_callG {pk : List Kd} {rk : Kd} {f : List D → M D} {k : Nat} {a : Addr} {fd : FuncData} {ps : List Str} {x : Str} {p pos : Pos} {e : Expr} {es : List Expr} {m : Env → M (List D)}
    (F : FnG X.prog X.w X.K X.mg X.base CX0 k a fd ps (spF (gs X cl) pk rk f)) (hgu : X.A.guards = some []) (hr : Room k X.A) (hg : Gl X x) (hm : X.mg x = some (.ref a)) (hk : PySem.W.keepIn X.K (.ref a) = true) (hb : Binds X.K fd ps [])
    (ha : SA cl md X pk (e :: es) m) (hfr : ∀ k ∈ pk, k ≠ .fre) (hdb : (x == ("__debug__" : Str)) = false := by decide) (he : starEach (e :: es) X.env = (false, eval e X.env) :: starEach es X.env := by rfl) (hpl : (backTo pos (starEach es X.env)).any (·.1) = false := by rfl) :
    SK cl md X rk (.Call (.Name x p) (e :: es) [] pos) (fun ρ => do let ds ← m ρ; f ds) := PE.mono (pe_callG (E := E0) F hgu hr hg hm hk hb .nil pass0 ha hdb he hpl) fun σ H Q ⟨ρ, μ, F, st, hE, hS, w⟩ => by
  refine ⟨ρ, μ, F, st, hE, hS, ?_⟩
  rw [M.gives_bind] at w
  refine M.gives_mono w fun ds st1 w1 vs μ1 F1 H1 p1 s1 ⟨l1, l2, r1⟩ => ?_
  refine ⟨μ1, F1, ds, st1, s1, l1, by simpa using l2, fun i k d v e1 e2 e3 => ?_, M.gives_mono w1 fun d st2 w2 => w2.after p1⟩
  have q := r1 i k d v e1 e2 (by simpa using e3)
  cases k with
  | val => exact q
  | bor => exact q
  | fre => exact absurd rfl (hfr _ (List.mem_of_getElem? e1))
/-- THE RULE for a def that shows things: its body's judgement -/
theorem fn_okG {P : Program} {w : World} {K : PySem.W.Frag} {mg : Str → Option Value} {base : Heap} {x qual : Str} {s : Stmt} {f : Addr} {fd : FuncData} {N ps : List Str} {k : Nat} {pk : List Kd} {rk : Kd} {m : MS}
    (F : FunA K x qual s f fd) (S : FnScope N ps (defScope s)) (hl : pk.length = ps.length) (hm : mdOk md pk N.length = true)
    (hbody : ∀ (cdv : Value) (A : Around) (outer : List PySem.Env) (s0 : Shared) (H : Hp) (E : XK) (B : Bs), B.rk = rk → A.guards = some [] → Room k (A.deeper (envOfC qual (defScope s) s0.heap.objs.size f cdv)) →
      SSs cl md B (cxOf CX0 P w K mg base N qual (defScope s) f cdv A outer s0 H E).nox (defBody s) m) : FnG P w K mg base CX0 (k + 1) f fd ps (spF ⟨K, cl⟩ pk rk (runB N.length rk m)) := by
  refine fnG_body F S (fun vs H Q E h => ?_) (fun cdv A outer s0 H vs Q E hgu hr h => ?_)
  · obtain ⟨_, _, _, _, _, _, l2, _⟩ := h
    exact l2.trans hl
  · obtain ⟨μ, F, ds, st, hS, l1, l2, r, w⟩ := h
    refine ⟨_, (hbody cdv A outer s0 H E ⟨μ, F, H, rk⟩ rfl hgu hr).nox, envOf N.length ds, μ, F, st, sit_start hm hS l1 l2 r, ?_⟩
    unfold runB at w
    rw [M.gives_bind] at w
    refine M.gives_mono w fun rr st1 w1 => ?_
    obtain ⟨fl, ρ⟩ := rr
    cases fl
    · cases rk
      · exact fun σ' μ' F' H' s' _ _ => w1 .non μ' F' H' s'.post s'.sto rfl
      · exact w1.elim
      · exact w1.elim
    · exact w1.elim
    · exact w1.elim
    · exact fun v μ' F' H' p s r => w1 v μ' F' H' p s r
end
end Sh
namespace Sh
open PySem PySem.Spec PyProof.Rows L2

/-- the table of modules stands -/
def HasSys (h : Heap) : Prop := ∃ m, h.Ns sysModules m
/-- what a law's call gives -/
abbrev LawEnd (s₁ : Shared) : Result → Shared → Prop := fun r s' => r = .ok (.ret (.bool true)) ∧ OldK s₁.heap s'.heap ∧ s'.os = s₁.os ∧ AllBare s'.gens
section
variable {P : Program} {w : World} {K : PySem.W.Frag} {mg mb : Str → Option Value} {k : Nat} {fa a : Addr} {fd : FuncData} {x : Str} {sp : Sp} {s₁ : Shared} {vs : List Value} {ns : List Int}
/-- a law's def is called where at most the script is tracked (H) -/
theorem lawG_core (KX : K.In s₁.heap) (hns : s₁.heap.Ns mainGlobals mg) (hb : s₁.heap.Ns builtinsNs mb) (hbb : ∀ x : Str, x ≠ "__name__" → mb x = bootBuiltins x) (hlim : s₁.heap.NoLimit) (hg : s₁.gens = #[])
    (ha : s₁.heap.get? a = some { cls := .type "list", data := .seq vs.toArray }) (hr : Room k callerA)
    (hsys : HasSys s₁.heap) (F : ∀ base : Heap, K.In base → base.Ns mainGlobals mg → HasSys base → FnG P w K mg base CX0 k fa fd [x] sp) (hbind : ∀ (s : Shared) (u : Value), BindsTo s fd ⟨[u], []⟩ [(x, u)])
    {H : Hp} (hO : L2.Only H) (hok : HOk P w H s₁.heap) (hA : ∀ b, H b ≠ none → b = a) (hK : H a ≠ none → K.lookup a = none) (q : sp [.ref a] H (fun v _ => v = .bl true) fun _ _ _ => False) :
    codeAny (model P w) callerA (.call (.ref fa) ⟨[.ref a], []⟩) (LawEnd s₁) s₁ := by
  -- no tracked thing is a dict, none is of the written part
  have out : ∀ {b : Addr} {o : Obj}, s₁.heap.get? b = some o → (b = a → H a = none) → (hidT s₁.heap H).get? b = some o := fun {b o} e n => hidT_get e (by
    apply Classical.byContradiction
    intro z
    have eb := hA b z
    subst eb
    exact z (n rfl))
  have names : ∀ {b : Addr} {m : Str → Option Value}, s₁.heap.Ns b m → (hidT s₁.heap H).Ns b m := fun {b m} ⟨o, es, ep, e, d, r⟩ => ⟨o, es, ep, out e (fun eb => by
    subst eb
    rw [ha] at e
    cases e
    have z : Data.seq vs.toArray _ = Data.dict es ep := d
    cases z), d, r⟩
  have kin : K.In (hidT s₁.heap H) := fun b o e => out (KX b o e) fun eb => by
    subst eb
    apply Classical.byContradiction
    intro z
    rw [hK z] at e
    cases e
  have mod : Mod K mg (hidT s₁.heap H) := ⟨kin, names hns, ⟨mb, names hb, hbb⟩, hlim.elim fun mc h => ⟨mc, names h.1, h.2⟩⟩
  refine codeAny_mono ((F _ kin (names hns) (hsys.elim fun m h => ⟨m, names h⟩)).grun callerA [] s₁ H ⟨[.ref a], []⟩ [.ref a] [.ref a] _ _ rfl hr ⟨rfl, mod, fun b o e => of_hidT e, Nat.le_of_eq (hidT_size _ _), trivial, (fun b hb => absurd (show b ∈ ([] : List Addr) from hb) (by simp)), hok, .of_eq hg⟩ (hbind s₁ (.ref a)) (.cons rfl .nil) q) fun r s' h => ?_
  match r, h with
  | .ok (.ret u), ⟨v, H', os, bare, un, hok', r', q'⟩ =>
    have q' : v = .bl true := q'
    subst q'
    obtain rfl : u = Value.bool true := r'
    refine ⟨rfl, OldK.of_keep fun b o e => ?_, os, bare⟩
    rcases hO b with z | ⟨ob, xs, z⟩
    · exact un.keep b o e z (fun y => absurd (show b ∈ ([] : List Addr) from y) (by simp)) (by simp)
    · have e1 := (hok b _ z).1
      have e2 := (hok' b _ (un.frzs b ob _ z)).1
      rw [e] at e1
      cases e1
      exact e2
theorem lawG_call (KX : K.In s₁.heap) (hns : s₁.heap.Ns mainGlobals mg) (hb : s₁.heap.Ns builtinsNs mb) (hbb : ∀ x : Str, x ≠ "__name__" → mb x = bootBuiltins x) (hlim : s₁.heap.NoLimit) (hg : s₁.gens = #[])
    (ha : s₁.heap.get? a = some { cls := .type "list", data := .seq vs.toArray }) (hi : IntsAre vs ns) (hl : ns.length ≤ sizeLine) (hr : Room k callerA)
    (hsys : HasSys s₁.heap) (F : ∀ base : Heap, K.In base → base.Ns mainGlobals mg → HasSys base → FnG P w K mg base CX0 k fa fd [x] sp) (hbind : ∀ (s : Shared) (u : Value), BindsTo s fd ⟨[u], []⟩ [(x, u)])
    (hsp : ∀ H : Hp, L2.Only H → SqL K H a (ns.map V.int) → sp [.ref a] H (fun v _ => v = .bl true) fun _ _ _ => False) :
    codeAny (model P w) callerA (.call (.ref fa) ⟨[.ref a], []⟩) (LawEnd s₁) s₁ := by
  have rv := vals_ints hi
  cases hk : K.lookup a with
  | some o =>
    have e := KX a o hk
    rw [ha] at e
    cases e
    have hO : L2.Only (fun _ => none) := fun _ => .inl rfl
    exact lawG_core KX hns hb hbb hlim hg ha hr hsys F hbind hO (fun b u z => nomatch z) (fun b z => absurd rfl z) (fun z => absurd rfl z)
      (hsp _ hO (.inr ⟨_, vs.toArray, _, hk, rfl, rfl, rfl, by rw [List.size_toArray, hi.length]; exact hl, by simpa using rv⟩))
  | none =>
    let H : Hp := fun b => if b = a then some (.frz { cls := .type "list", data := .seq vs.toArray } (.lst (ns.map V.int))) else none
    have at_ : H a = some (.frz { cls := .type "list", data := .seq vs.toArray } (.lst (ns.map V.int))) := if_pos rfl
    have off : ∀ b, b ≠ a → H b = none := fun b n => if_neg n
    have hO : L2.Only H := fun b => (Classical.em (b = a)).elim (fun e => .inr ⟨_, _, e ▸ at_⟩) fun n => .inl (off b n)
    have hA : ∀ b, H b ≠ none → b = a := fun b z => Classical.byContradiction fun n => z (off b n)
    refine lawG_core KX hns hb hbb hlim hg ha hr hsys F hbind hO (fun b u z => ?_) hA (fun _ => hk) (hsp H hO (.inl (.inr ⟨_, at_⟩)))
    have eb := hA b (by rw [z]; simp)
    subst eb
    rw [at_] at z
    cases z
    exact ⟨ha, by rw [List.length_map]; exact hl, vs, _, rv, ha⟩
end
theorem sys_of {h : Heap} (x : h.NoSeer) : HasSys h := by
  obtain ⟨_, ⟨m, hm, _⟩⟩ := x
  exact ⟨m, hm⟩
/-- the goal that k_head leaves (case hc), from the promise of the law's def -/
theorem walkG {l : PySem.W.OpenLaw} {n k : Nat} {q : Program} {loose : List Str} {XP : (Str → Option Value) → Heap → Prop} {YP : World → Heap → Prop} {d : DefRec} {K : Params → PySem.W.Frag} {sp : World → Sp} {x : Str}
    (hn : l.most = some n) (hn2 : n ≤ sizeLine) (hdf : d.params.defaults = []) (hr : Room k callerA) (hq : importsNone q = true) (hY : ∀ (w : World) (h : Heap), YP w h → (K w.params).In h)
    (F : ∀ (w : World) (mg : Str → Option Value) (fa : Addr) (h : Heap), (K w.params).In h → h.Ns mainGlobals mg → mg d.name = some (.ref fa) →
      ∃ fd : FuncData, (∀ (s : Shared) (u : Value), BindsTo s fd ⟨[u], []⟩ [(x, u)]) ∧ ∀ base : Heap, (K w.params).In base → base.Ns mainGlobals mg → HasSys base → FnG l.prog w (K w.params) mg base CX0 k fa fd [x] (sp w))
    (hsp : ∀ (w : World) (H : Hp) (a : Addr) (ns : List Int), ns.length ≤ n → L2.Only H → SqL (K w.params) H a (ns.map V.int) → sp w [.ref a] H (fun v _ => v = .bl true) fun _ _ _ => False) :
    PySem.W.WalkO q loose XP YP l.row.toRowW d [] (fun f vs => PySem.call f vs) := by
  refine Att.attach_call hn hdf fun w s₀ s₁ mg mb fa o pm cd doc a vs ns G Y ho hd hcd hmg hobj hints hlen hg => ?_
  obtain ⟨fd, hb, hF⟩ := F w mg fa _ (hY w _ Y) G.T.g hmg
  exact lawG_call (hY w _ Y) G.T.g G.T.b G.T.builtins G.T.nolimit hg hobj hints (Nat.le_trans hlen hn2) hr (sys_of (G.T.seer hq)) hF hb fun H hO hS => hsp w H a ns hlen hO hS
/-- the script as the law's parameter -/
theorem law_start {K : PySem.W.Frag} {cl : String → Option Addr} {m : List D → M D} {a : Addr} {ns : List Int} {H : Hp} (hl : ns.length ≤ 63) (hO : L2.Only H) (hS : SqL K H a (ns.map V.int)) (h : (m [.frl (ns.map .int)]).gives [] fun d _ => d = .bl true) :
    spF ⟨K, cl⟩ [.val] .val m [.ref a] H (fun v _ => v = .bl true) fun _ _ _ => False := by
  have hlen : ([.frl (ns.map .int)] : List D).length = 1 := rfl
  refine ⟨[], H, [.frl (ns.map .int)], [], ⟨Sub.refl _, rfl, List.nodup_nil, fun l a d e => by simp at e⟩, rfl, rfl, fun i k d v e1 e2 e3 => ?_, M.gives_mono h fun d st e => ?_⟩
  · cases i with
    | succ i => simp at e1
    | zero =>
      simp only [List.getElem?_cons_zero, Option.some.injEq] at e1 e2 e3
      subst e1 e2 e3
      refine ⟨by rw [List.length_map, sizeLine_eq]; omega, a, ns.map V.int, rfl, hS, ?_⟩
      have all : ∀ ns : List Int, RpL ⟨K, cl⟩ [] H (ns.map .int) (ns.map V.int) := fun ns => by
        induction ns with
        | nil => exact rfl
        | cons n r ih => exact ⟨.int n, r.map V.int, rfl, rfl, ih⟩
      exact all ns
  · subst e
    exact fun v μ' F' H' p s r => r
end Sh
namespace Sh
open PySem PySem.Spec PyProof.Rows L2

/-! ### what is shown: data with flat dicts -/
def keyPy : D → Option PyData
  | .int i => some (.int i)
  | .str s => some (.str s)
  | _ => none
mutual
def D.pyR : D → Option PyData
  | .non => some .none
  | .bl b => some (.bool b)
  | .int i => some (.int i)
  | .str s => some (.str s)
  | .lst ds => match pyRL ds with
    | some ps => some (.list ps)
    | none => none
  | .tup ds => match pyRL ds with
    | some ps => some (.tuple ps)
    | none => none
  | .dic kvs => match pyRK kvs with
    | some ps => some (.dict ps)
    | none => none
  | .obj _ _ => none
  | .dit _ => none
  | .ref _ => none
  | .frl _ => none
def pyRL : List D → Option (List PyData)
  | [] => some []
  | d :: ds => match d.pyR, pyRL ds with
    | some p, some ps => some (p :: ps)
    | _, _ => none
def pyRK : List (D × D) → Option (List (PyData × PyData))
  | [] => some []
  | (k, d) :: r => match keyPy k, d.pyR, pyRK r with
    | some q, some p, some ps => some ((q, p) :: ps)
    | _, _, _ => none
end
theorem all_cons {h : Heap} {v : Value} {vs : List Value} {d : PyData} {ds : List PyData} {as bs : List Addr} {z : Addr} (h1 : Reads h v d as) (n1 : z ∉ as) (h2 : ReadsAll h vs ds bs) (n2 : z ∉ bs) : ∃ cs, ReadsAll h (v :: vs) (d :: ds) cs ∧ z ∉ cs :=
  ⟨_, .cons h1 h2, fun q => (List.mem_append.mp q).elim n1 n2⟩
section
variable {G : Gs} {μ : List Addr} {F H : Hp} {X : Cx} {pins : List (Addr × Obj)} {σ : L2.St} {s : Shared}
theorem not_sys (I : Inv X pins σ H s) (hb : HasSys X.base) {a : Addr} {o : HO} (h : H a = some o) : a ≠ sysModules := fun e => by
  subst e
  obtain ⟨m, ob, _, _, q, _⟩ := hb
  have := (I.bs _ _ q).2
  rw [h] at this; cases this
theorem key_reads {k : D} {q : Key} {p : PyData} {u : Value} (e : k.key? = some q) (ep : keyPy k = some p) (h : keyIs q u = true) : Reads s.heap u p [] := by
  cases k <;> try (cases e; done)
  · cases e; cases ep
    rcases keyIs_shape h with ⟨i, t, e1, rfl⟩ | ⟨x, t, e1, _⟩
    · cases e1; exact .int _ t
    · cases e1
  · cases e; cases ep
    rcases keyIs_shape h with ⟨i, t, e1, _⟩ | ⟨x, t, e1, rfl⟩
    · cases e1
    · cases e1; exact .str _ t
mutual
theorem rp_reads (I : Inv X pins σ H s) (hG : G.K = X.K) (hb : HasSys X.base) (hs : Sub F H) : ∀ (d : D) (p : PyData) (v : V) (u : Value), d.pyR = some p → Rp G μ F d v → RelV v u → ∃ as, Reads s.heap u p as ∧ sysModules ∉ as
  | .non, p, v, u, e, r, ru => by cases e; cases r; cases ru; exact ⟨_, .none, by simp⟩
  | .bl b, p, v, u, e, r, ru => by cases e; cases r; cases ru; exact ⟨_, .bool b, by simp⟩
  | .int i, p, v, u, e, r, ru => by cases e; cases r; obtain ⟨t, rfl⟩ := ru; exact ⟨_, .int i t, by simp⟩
  | .str x, p, v, u, e, r, ru => by cases e; obtain ⟨rfl, _⟩ := r; obtain ⟨t, rfl⟩ := ru; exact ⟨_, .str x t, by simp⟩
  | .lst ds, p, v, u, e, r, ru => by
    unfold D.pyR at e
    obtain ⟨z, a, vs, rfl, hq, rl⟩ := r
    cases ru
    cases ep : pyRL ds with
    | none => rw [ep] at e; cases e
    | some ps =>
      rw [ep] at e; cases e
      have ha := hs _ _ hq
      obtain ⟨its, rv, ⟨o, n, ho, hc, _, hd⟩, _⟩ := I.list (.inl (.inl ha))
      obtain ⟨as, h1, h2⟩ := rpl_reads I hG hb hs ds ps vs its ep rl rv
      exact ⟨_, .list ho hc hd h1, fun q => (List.mem_cons.mp q).elim (fun q => not_sys I hb ha q.symm) h2⟩
  | .tup ds, p, v, u, e, r, ru => by
    unfold D.pyR at e
    obtain ⟨z, a, vs, rfl, hq, rl⟩ := r
    cases ru
    cases ep : pyRL ds with
    | none => rw [ep] at e; cases e
    | some ps =>
      rw [ep] at e; cases e
      rw [hG] at hq
      obtain ⟨its, rv, ⟨o, ho, hc, n, hd⟩, _⟩ := I.tuple (hs.seqT hq)
      obtain ⟨as, h1, h2⟩ := rpl_reads I hG hb hs ds ps vs its ep rl rv
      exact ⟨_, .tuple ho hc hd h1, h2⟩
  | .dic kvs, p, v, u, e, r, ru => by
    unfold D.pyR at e
    obtain ⟨z, a, L, rfl, hq, rl⟩ := r
    cases ru
    cases ep : pyRK kvs with
    | none => rw [ep] at e; cases e
    | some ps =>
      rw [ep] at e; cases e
      have ha := hs _ _ hq
      obtain ⟨_, _, vs, rel, o, es, n, h1, h2, h3, _, h5, _⟩ := dk_of I.hok ha
      obtain ⟨as, bs, r1, n1, r2, n2⟩ := rpk_reads I hG hb hs kvs ps L vs es.toList ep rl rel h5
      exact ⟨_, .dict h1 h2.1 h3 r1 r2, fun q => (List.mem_append.mp q).elim (fun q => (List.mem_cons.mp q).elim (fun q => not_sys I hb ha q.symm) n1) n2⟩
  | .obj _ _, p, v, u, e, r, ru => by cases e
  | .dit _, p, v, u, e, r, ru => by cases e
  | .ref _, p, v, u, e, r, ru => by cases e
  | .frl _, p, v, u, e, r, ru => by cases e
theorem rpl_reads (I : Inv X pins σ H s) (hG : G.K = X.K) (hb : HasSys X.base) (hs : Sub F H) : ∀ (ds : List D) (ps : List PyData) (vs : List V) (us : List Value), pyRL ds = some ps → RpL G μ F ds vs → Vals vs us → ∃ as, ReadsAll s.heap us ps as ∧ sysModules ∉ as
  | [], ps, vs, us, e, r, ru => by
    cases e
    have r : vs = [] := r
    subst r
    cases ru
    exact ⟨_, .nil, by simp⟩
  | d :: ds, ps, vs, us, e, r, ru => by
    unfold pyRL at e
    obtain ⟨v, vr, rfl, r1, r2⟩ := r
    cases e1 : d.pyR with
    | none => rw [e1] at e; cases e
    | some p =>
      cases e2 : pyRL ds with
      | none => rw [e1, e2] at e; cases e
      | some ps' =>
        rw [e1, e2] at e; cases e
        cases ru with
        | cons q1 q2 =>
          obtain ⟨as, a1, a2⟩ := rp_reads I hG hb hs d p v _ e1 r1 q1
          obtain ⟨bs, b1, b2⟩ := rpl_reads I hG hb hs ds ps' vr _ e2 r2 q2
          exact all_cons a1 a2 b1 b2
theorem rpk_reads (I : Inv X pins σ H s) (hG : G.K = X.K) (hb : HasSys X.base) (hs : Sub F H) : ∀ (kvs : List (D × D)) (ps : List (PyData × PyData)) (L : List (Key × V)) (vs : List (Key × Value)) (es : List DictEntry), pyRK kvs = some ps → RpK G μ F kvs L → KV L vs → Pairs (mixKind X.prog X.w) es vs →
    ∃ as bs, ReadsAll s.heap (es.map (·.key)) (ps.map (·.1)) as ∧ sysModules ∉ as ∧ ReadsAll s.heap (es.map (·.val)) (ps.map (·.2)) bs ∧ sysModules ∉ bs
  | [], ps, L, vs, es, e, r, rv, rp => by
    cases e
    have r : L = [] := r
    subst r
    cases rv
    cases rp
    exact ⟨_, _, .nil, by simp, .nil, by simp⟩
  | (k, d) :: kr, ps, L, vs, es, e, r, rv, rp => by
    unfold pyRK at e
    obtain ⟨q, v, L', rfl, hk, _, r1, r2⟩ := r
    cases e0 : keyPy k with
    | none => rw [e0] at e; cases e
    | some kp =>
      cases e1 : d.pyR with
      | none => rw [e0, e1] at e; cases e
      | some p =>
        cases e2 : pyRK kr with
        | none => rw [e0, e1, e2] at e; cases e
        | some ps' =>
          rw [e0, e1, e2] at e; cases e
          cases rv with
          | cons q1 q2 =>
            rename_i kv vr
            obtain ⟨k1, v1⟩ := kv
            obtain ⟨z1, z2⟩ := q1
            cases rp with
            | cons p1 p2 p3 =>
              rename_i en er
              have z1 : q = k1 := z1
              subst z1
              obtain ⟨as, a1, a2⟩ := rp_reads I hG hb hs d p v en.val e1 r1 (by rw [p2]; exact z2)
              obtain ⟨cs, bs, c1, c2, b1, b2⟩ := rpk_reads I hG hb hs kr ps' L' vr er e2 r2 q2 p3
              obtain ⟨x1, x2, x3⟩ := all_cons (key_reads hk e0 p1) (z := sysModules) (by simp) c1 c2
              obtain ⟨y1, y2, y3⟩ := all_cons a1 a2 b1 b2
              exact ⟨x1, y1, x2, x3, y2, y3⟩
end
end
/-! ### repr -/
def reprB (p : PyData) : Bool := p.showable && decide (p.shown.length ≤ 16777216) && decide (p.depth ≤ 150) && PyData.strOk p.shown
def reprD (d : D) : M D := do
  let x ← view d
  match x.pyR with
  | some p => if reprB p = true then pure (.str p.shown) else M.bad
  | none => M.bad
def rRepr (K : PySem.W.Frag) : List V → Hp → VK → Prop := fun xs H Q => ∃ (G : Gs) (μ : List Addr) (F : Hp) (d : D) (v : V) (p : PyData), G.K = K ∧ xs = [v] ∧ Sub F H ∧ VR G μ F H d v ∧ d.pyR = some p ∧ reprB p = true ∧ Q (.str p.shown) H
theorem vr_reads {G : Gs} {μ : List Addr} {F H : Hp} {X : Cx} {pins : List (Addr × Obj)} {σ : L2.St} {s : Shared} (I : Inv X pins σ H s) (hG : G.K = X.K) (hb : HasSys X.base) (hs : Sub F H) {d : D} {p : PyData} {v : V} {u : Value} (e : d.pyR = some p) (r : VR G μ F H d v) (ru : RelV v u) : ∃ as, Reads s.heap u p as ∧ sysModules ∉ as := by
  rcases r with r | ⟨a, rfl, o⟩
  · exact rp_reads I hG hb hs d p v u e r ru
  · cases ru
    cases d <;> try exact o.elim
    · rename_i ds
      obtain ⟨f, z, vs, ha, rl⟩ := o
      unfold D.pyR at e
      cases ep : pyRL ds with
      | none => rw [ep] at e; cases e
      | some ps =>
        rw [ep] at e; cases e
        obtain ⟨its, rv, ⟨o, n, ho, hc, _, hd⟩, _⟩ := I.list (.inl (.inl ha))
        obtain ⟨as, h1, h2⟩ := rpl_reads I hG hb hs ds ps vs its ep rl rv
        exact ⟨_, .list ho hc hd h1, fun q => (List.mem_cons.mp q).elim (fun q => not_sys I hb ha q.symm) h2⟩
    · rename_i kvs
      obtain ⟨f, z, L, ha, rl⟩ := o
      unfold D.pyR at e
      cases ep : pyRK kvs with
      | none => rw [ep] at e; cases e
      | some ps =>
        rw [ep] at e; cases e
        obtain ⟨_, _, vs, rel, o, es, n, h1, h2, h3, _, h5, _⟩ := dk_of I.hok ha
        obtain ⟨as, bs, r1, n1, r2, n2⟩ := rpk_reads I hG hb hs kvs ps L vs es.toList ep rl rel h5
        exact ⟨_, .dict h1 h2.1 h3 r1 r2, fun q => (List.mem_append.mp q).elim (fun q => (List.mem_cons.mp q).elim (fun q => not_sys I hb ha q.symm) n1) n2⟩
    · cases e
    · cases e
theorem call_reprR {X : Cx} (hsy : HasSys X.base) (hg : X.A.guards = some []) (hu : X.A.units + 151 < cLine) : CallR X (.builtin "repr") (rRepr X.K) := by
  intro pins s σ H xs us Q I r h
  obtain ⟨G, μ, F, d, v, p, hG, rfl, hs, vr, e, hb, q⟩ := h
  obtain ⟨u, rfl, ru⟩ := vals1 r
  obtain ⟨as, rd, ns⟩ := vr_reads I hG hsy hs e vr ru
  unfold reprB at hb
  simp only [Bool.and_eq_true, decide_eq_true_eq] at hb
  obtain ⟨⟨⟨h1, h2⟩, h3⟩, _⟩ := hb
  have h2' : p.shown.length ≤ sizeLine := by rw [sizeLine_eq]; exact h2
  have fin : ∀ h' u tk, (∀ b o, s.heap.get? b = some o → h'.get? b = some o) → EP X pins σ Q (.str p.shown u) { s with heap := h', toks := tk } := fun h' u tk k => ⟨.str p.shown, H, I.kept k, ⟨u, rfl⟩, q⟩
  cases rd with
  | none => exact PySem.P.repr_of_none (fin _ _ _ fun _ _ e => e)
  | bool b => exact PySem.P.repr_of_bool (fin _ _ _ fun _ _ e => e)
  | int i t => exact PySem.P.repr_of_int (by simpa [PyData.showable] using h1) (fin _ _ _ fun _ _ e => e)
  | str x t => exact PySem.P.repr_of_str (fin _ _ _ fun _ _ e => e) (by simpa only [PyData.shown] using h2')
  | list a1 a2 a3 a4 => exact repr_of_reads' (.list a1 a2 a3 a4) h1 (fun _ => ns) hg (by omega) (fun _ _ e => e) fin h2'
  | tuple a1 a2 a3 a4 => exact repr_of_reads' (.tuple a1 a2 a3 a4) h1 (fun _ => ns) hg (by omega) (fun _ _ e => e) fin h2'
  | dict a1 a2 a3 a4 a5 => exact repr_of_reads' (.dict a1 a2 a3 a4 a5) h1 (fun _ => ns) hg (by omega) (fun _ _ e => e) fin h2'

/-! ### a built-in with one argument, two -/
def Op1 (G : Gs) (ka kr : Kd) (r : List V → Hp → VK → Prop) (g : D → M D) : Prop :=
  ∀ (μ : List Addr) (F H H0 : Hp) (st : Sto) (d : D) (v : V) (Q : VK), StOk G μ F H st → RK G ka H0 μ F H d v → (g d).gives st (Want G kr μ F H Q) → r [v] H Q
section
variable {cl : String → Option Addr} {md : List Md} {X : Cx} {ka kb kr : Kd} {r : List V → Hp → VK → Prop} {g : D → M D} {x : Str} {p pos : Pos} {a b : Expr} {m n : Env → M D} {id T : String}
theorem op1_run (ho : Op1 (gs X cl) ka kr r g) {σ : L2.St} {H : Hp} {Q : VK} (h : tK (gs X cl) md kr (fun ρ => do let d ← m ρ; g d) σ H Q) : tCB r (tKL (gs X cl) md [ka] (fun ρ => do let x ← m ρ; pure [x])) σ H Q := by
  obtain ⟨ρ, μ, F, st, hE, hS, w⟩ := h
  rw [M.gives_bind] at w
  exact tkl_one hE hS (M.gives_mono w fun d st1 w1 v μ1 F1 H1 p1 s1 r1 => ho μ1 F1 H1 H st1 d v Q s1 r1 (M.gives_mono w1 fun e st2 w2 => w2.after p1))
theorem sk_b1 (hc : CallR X (.builtin id) r) (ho : Op1 (gs X cl) ka kr r g) (hg : Gl X x) (hm : X.mg x = none) (ha : SK cl md X ka a m) (hv : bootBuiltins x = some (.builtin id) := by rfl) (hn : x ≠ "__name__" := by decide) (hdb : (x == ("__debug__" : Str)) = false := by decide)
    (he : starEach [a] X.env = (false, eval a X.env) :: starEach [] X.env := by rfl) (hpl : (backTo pos (starEach ([] : List Expr) X.env)).any (·.1) = false := by rfl) : SK cl md X kr (.Call (.Name x p) [a] [] pos) (fun ρ => do let d ← m ρ; g d) :=
  PE.mono (pe_callB hc hg hm hv (sa_one ha he) hn hdb he hpl) fun _ _ _ h => op1_run ho h
theorem sk_t1 (hc : CallR X (.type T) r) (ho : Op1 (gs X cl) ka kr r g) (hg : Gl X x) (hm : X.mg x = none) (ha : SK cl md X ka a m) (hv : bootBuiltins x = some (.type T) := by rfl) (hn : x ≠ "__name__" := by decide) (hdb : (x == ("__debug__" : Str)) = false := by decide)
    (he : starEach [a] X.env = (false, eval a X.env) :: starEach [] X.env := by rfl) (hpl : (backTo pos (starEach ([] : List Expr) X.env)).any (·.1) = false := by rfl) : SK cl md X kr (.Call (.Name x p) [a] [] pos) (fun ρ => do let d ← m ρ; g d) :=
  PE.mono (pe_callTy hc hg hm hv (sa_one ha he) hn hdb he hpl) fun _ _ _ h => op1_run ho h
theorem sk_b2 {g2 : D → D → M D} (hc : CallR X (.builtin id) r) (ho : Op2 (gs X cl) ka kb kr (fun x y => r [x, y]) g2) (hg : Gl X x) (hm : X.mg x = none) (ha : SK cl md X ka a m) (hb : SK cl md X kb b n) (hv : bootBuiltins x = some (.builtin id) := by rfl) (hn : x ≠ "__name__" := by decide) (hdb : (x == ("__debug__" : Str)) = false := by decide)
    (h1 : starEach [a, b] X.env = (false, eval a X.env) :: starEach [b] X.env := by rfl) (h2 : starEach [b] X.env = [(false, eval b X.env)] := by rfl) (hpl : (backTo pos (starEach [b] X.env)).any (·.1) = false := by rfl) : SK cl md X kr (.Call (.Name x p) [a, b] [] pos) (fun ρ => do let d ← m ρ; let e ← n ρ; g2 d e) :=
  PE.mono (pe_callB hc hg hm hv (sa_cons ha (sa_one hb h2) h1) hn hdb h1 hpl) fun σ H Q ⟨ρ, μ, F, st, hE, hS, w⟩ => by
  refine ⟨ρ, μ, F, st, hE, hS, ?_⟩
  rw [M.gives_bind] at w ⊢
  refine M.gives_mono w fun d st1 w1 => ?_
  rw [M.gives_bind] at w1 ⊢
  show M.gives (n ρ >>= fun x => pure [x]) st1 _
  rw [M.gives_bind]
  refine M.gives_mono w1 fun e st2 w2 => ?_
  show WantL _ _ _ _ _ _ [d, e] st2
  intro us μ1 F1 H1 p1 s1 ⟨l1, l2, r1⟩
  match us, l2 with
  | [u, v], _ => exact ho μ1 F1 H1 H H st2 d e u v Q s1 (r1 0 ka d u rfl rfl rfl) (r1 1 kb e v rfl rfl rfl) (M.gives_mono w2 fun f st3 w3 => w3.after p1)
theorem o1_repr : Op1 (gs X cl) ka .val (rRepr X.K) reprD := fun μ F H H0 st d v Q s r w => by
  unfold reprD at w
  rw [M.gives_bind] at w
  obtain ⟨d', v1, w⟩ := view_gives s r w
  cases e : d'.pyR with
  | none => rw [e] at w; exact w.elim
  | some p =>
    rw [e] at w
    obtain ⟨hb, w⟩ := ite_gives w
    refine ⟨gs X cl, μ, F, d', v, p, rfl, rfl, s.sub, v1, e, hb, w _ μ F H .refl s ⟨rfl, ?_⟩⟩
    unfold reprB at hb
    simp only [Bool.and_eq_true, decide_eq_true_eq] at hb
    exact okS_mk hb.1.1.2 hb.2
end
end Sh
namespace Sh
open PySem PySem.Spec PyProof.Rows L2

section
variable {cl : String → Option Addr} {md : List Md} {X : Cx} {ka kb : Kd}
/-! ### len, abs, int, min -/
def lenD (d : D) : M D := do
  let x ← view d
  match x with
  | .lst ds => pure (.int ds.length)
  | .tup ds => pure (.int ds.length)
  | .frl ds => pure (.int ds.length)
  | .str s => pure (.int s.length)
  | _ => M.bad
theorem o1_len : Op1 (gs X cl) ka .val (fun xs H Q => ∃ x n, xs = [x] ∧ LenV X.K x H n ∧ Q (.int n) H) lenD := fun μ F H H0 st d v Q s r w => by
  unfold lenD at w
  rw [M.gives_bind] at w
  obtain ⟨d', vr, w⟩ := view_gives s r w
  cases d' <;> try exact w.elim
  · obtain ⟨rfl, ok⟩ := vr_str vr
    exact ⟨_, _, rfl, ⟨okS_len ok, rfl⟩, w _ μ F H .refl s rfl⟩
  · obtain ⟨a, vs, rfl, hq, rl, _⟩ := vr_lst s.sub vr
    exact ⟨_, vs.length, rfl, .inl ⟨vs, .inl (.inl hq), rfl⟩, by rw [rpl_len rl]; exact w _ μ F H .refl s rfl⟩
  · obtain ⟨_, a, vs, rfl, hq, rl⟩ := vr_tup vr
    exact ⟨_, vs.length, rfl, .inr ⟨vs, s.sub.seqT hq, rfl⟩, by rw [rpl_len rl]; exact w _ μ F H .refl s rfl⟩
  · obtain ⟨_, a, vs, rfl, hq, rl⟩ := vr_frl vr
    exact ⟨_, vs.length, rfl, .inl ⟨vs, s.sub.seqL hq, rfl⟩, by rw [rpl_len rl]; exact w _ μ F H .refl s rfl⟩
def absD : D → M D
  | .int i => pure (.int (if i < 0 then -i else i))
  | _ => M.bad
theorem o1_abs : Op1 (gs X cl) ka .val (fun xs H Q => ∃ i, xs = [.int i] ∧ Q (.int (if i < 0 then -i else i)) H) absD := fun μ F H H0 st d v Q s r w => by
  cases d <;> try exact w.elim
  have e := rk_int r
  subst e
  exact ⟨_, rfl, w _ μ F H .refl s rfl⟩
def intD : D → M D
  | .int i => pure (.int i)
  | .bl k => pure (.int (if k then 1 else 0))
  | _ => M.bad
theorem o1_int : Op1 (gs X cl) ka .val (fun xs H Q => (∃ i, xs = [.int i] ∧ Q (.int i) H) ∨ ∃ k, xs = [.bl k] ∧ Q (.int (if k then 1 else 0)) H) intD := fun μ F H H0 st d v Q s r w => by
  cases d <;> try exact w.elim
  · have e := rk_bl r
    subst e
    exact .inr ⟨_, rfl, w _ μ F H .refl s rfl⟩
  · have e := rk_int r
    subst e
    exact .inl ⟨_, rfl, w _ μ F H .refl s rfl⟩
def minD : D → D → M D
  | .int i, .int j => pure (.int (if j < i then j else i))
  | _, _ => M.bad
theorem o2_min : Op2 (gs X cl) ka kb .val (fun x y H Q => ∃ i j, [x, y] = [.int i, .int j] ∧ Q (.int (if j < i then j else i)) H) minD := fun μ F H H1 H2 st d e v u Q s r1 r2 w => by
  unfold minD at w
  cases d <;> try exact w.elim
  cases e <;> try exact w.elim
  have e1 := rk_int r1
  have e2 := rk_int r2
  subst e1 e2
  exact ⟨_, _, rfl, w _ μ F H .refl s rfl⟩
def negD : D → M D
  | .int i => pure (.int (-i))
  | _ => M.bad
theorem sk_neg {e : Expr} {pos : Pos} {m : Env → M D} (h : SK cl md X ka e m) : SK cl md X .val (.UnaryOp .USub e pos) (fun ρ => do let x ← m ρ; negD x) := PE.mono (pe_un un_neg h) fun σ H Q ⟨ρ, μ, F, st, hE, hS, w⟩ => by
  refine ⟨ρ, μ, F, st, hE, hS, ?_⟩
  rw [M.gives_bind] at w
  refine M.gives_mono w fun d st1 w1 v μ1 F1 H1 p1 s1 r1 => ?_
  cases d <;> try exact w1.elim
  exact ⟨_, rk_int r1, w1 _ μ1 F1 H1 p1 s1 rfl⟩

/-! ### list(x), tuple(x) -/
def listD (d : D) : M D := do
  let x ← view d
  match x with
  | .lst ds => pure (.lst ds)
  | .tup ds => pure (.lst ds)
  | .frl ds => pure (.lst ds)
  | _ => M.bad
theorem o1_list : Op1 (gs X cl) ka .fre (fun xs H Q => ∃ p ys, xs = [.ref p] ∧ (SqL X.K H p ys ∨ SqT X.K H p ys) ∧ ∀ l, H l = none → Q (.ref l) (upd H l (.lst ys))) listD := fun μ F H H0 st d v Q s r w => by
  unfold listD at w
  rw [M.gives_bind] at w
  obtain ⟨d', vr, w⟩ := view_gives s r w
  cases d' <;> try exact w.elim
  · obtain ⟨a, vs, rfl, hq, rl, z⟩ := vr_lst s.sub vr
    refine ⟨a, vs, rfl, .inl (.inl (.inl hq)), fun l hl => ?_⟩
    obtain ⟨p2, s2, r2⟩ := new_lst .refl s rl hl z
    exact w _ _ _ _ p2 s2 r2
  · obtain ⟨z, a, vs, rfl, hq, rl⟩ := vr_tup vr
    refine ⟨a, vs, rfl, .inr (s.sub.seqT hq), fun l hl => ?_⟩
    obtain ⟨p2, s2, r2⟩ := new_lst .refl s rl hl z
    exact w _ _ _ _ p2 s2 r2
  · obtain ⟨z, a, vs, rfl, hq, rl⟩ := vr_frl vr
    refine ⟨a, vs, rfl, .inl (s.sub.seqL hq), fun l hl => ?_⟩
    obtain ⟨p2, s2, r2⟩ := new_lst .refl s rl hl z
    exact w _ _ _ _ p2 s2 r2
def tupleD (d : D) : M D := do
  let x ← view d
  match x with
  | .lst ds => pure (.tup ds)
  | .tup ds => pure (.tup ds)
  | _ => M.bad
theorem o1_tuple : Op1 (gs X cl) ka .val (fun xs H Q => ∃ p ys, xs = [.ref p] ∧ ((SqL X.K H p ys ∧ ∀ l, H l = none → Q (.ref l) (upd H l (.tup ys))) ∨ (SqT X.K H p ys ∧ Q (.ref p) H))) tupleD := fun μ F H H0 st d v Q s r w => by
  unfold tupleD at w
  rw [M.gives_bind] at w
  obtain ⟨d', vr, w⟩ := view_gives s r w
  cases d' <;> try exact w.elim
  · obtain ⟨a, vs, rfl, hq, rl, z⟩ := vr_lst s.sub vr
    refine ⟨a, vs, rfl, .inl ⟨.inl (.inl hq), fun l hl => ?_⟩⟩
    obtain ⟨p2, s2, r2⟩ := new_tup .refl s rl hl z
    exact w _ _ _ _ p2 s2 r2
  · obtain ⟨z, a, vs, rfl, hq, rl⟩ := vr_tup vr
    exact ⟨a, vs, rfl, .inr ⟨s.sub.seqT hq, w _ μ F H .refl s ⟨z, a, vs, rfl, hq, rl⟩⟩⟩

/-! ### all, any of a list of bools -/
def blsOf : List D → Option (List Bool)
  | [] => some []
  | .bl b :: r => match blsOf r with
    | some bs => some (b :: bs)
    | none => none
  | _ :: _ => none
theorem rpl_bls {G : Gs} {μ : List Addr} {F : Hp} : ∀ {ds : List D} {bs : List Bool} {vs : List V}, blsOf ds = some bs → RpL G μ F ds vs → vs = bs.map V.bl
  | [], bs, vs, e, r => by
    cases e
    exact r
  | d :: ds, bs, vs, e, r => by
    cases d <;> try (cases e; done)
    unfold blsOf at e
    obtain ⟨v, vr, rfl, r1, r2⟩ := r
    cases e1 : blsOf ds with
    | none => rw [e1] at e; cases e
    | some bs' =>
      rw [e1] at e; cases e
      have r1 : v = _ := r1
      rw [r1, rpl_bls e1 r2]
      rfl
def quantD (f : List Bool → Bool) (d : D) : M D := do
  let x ← view d
  match x with
  | .lst ds => match blsOf ds with
    | some bs => pure (.bl (f bs))
    | none => M.bad
  | _ => M.bad
theorem quant_gives {f : List Bool → Bool} {G : Gs} {μ : List Addr} {F H H0 : Hp} {st : Sto} {d : D} {v : V} {P : D → Sto → Prop} (s : StOk G μ F H st) (r : RK G ka H0 μ F H d v) (w : (quantD f d).gives st P) : ∃ a bs, v = .ref a ∧ SqL G.K H a (bs.map V.bl) ∧ P (.bl (f bs)) st := by
  unfold quantD at w
  rw [M.gives_bind] at w
  obtain ⟨d', vr, w⟩ := view_gives s r w
  cases d' <;> try exact w.elim
  rename_i ds
  obtain ⟨a, vs, rfl, hq, rl, z⟩ := vr_lst s.sub vr
  cases e : blsOf ds with
  | none => simp only [e] at w; exact w.elim
  | some bs =>
    simp only [e] at w
    have ev := rpl_bls e rl
    subst ev
    exact ⟨a, bs, rfl, .inl (.inl hq), w⟩
def allB (bs : List Bool) : Bool := bs.all id
def anyB (bs : List Bool) : Bool := bs.any id
theorem o1_all : Op1 (gs X cl) ka .val (rAll X.K) (quantD allB) := fun μ F H H0 st d v Q s r w => by
  obtain ⟨a, bs, rfl, h, w⟩ := quant_gives s r w
  exact ⟨a, bs, rfl, h, w _ μ F H .refl s rfl⟩
theorem o1_any : Op1 (gs X cl) ka .val (rAny X.K) (quantD anyB) := fun μ F H H0 st d v Q s r w => by
  obtain ⟨a, bs, rfl, h, w⟩ := quant_gives s r w
  exact ⟨a, bs, rfl, h, w _ μ F H .refl s rfl⟩

/-! ### isinstance -/
def D.tyN : D → Option String
  | .non => some "NoneType"
  | .bl _ => some "bool"
  | .int _ => some "int"
  | .str _ => some "str"
  | .lst _ => some "list"
  | .frl _ => some "list"
  | .tup _ => some "tuple"
  | .dic _ => some "dict"
  | _ => none
theorem vr_ty {G : Gs} {μ : List Addr} {F H : Hp} (hs : Sub F H) {d : D} {v : V} {T : String} (e : d.tyN = some T) (r : VR G μ F H d v) : TyX G.K H v (.type T) := by
  cases d <;> try (cases e; done)
  all_goals cases e
  · rcases r with r | ⟨a, _, o⟩
    · cases r; exact .base .non
    · exact o.elim
  · rcases r with r | ⟨a, _, o⟩
    · cases r; exact .base (.bl _)
    · exact o.elim
  · rcases r with r | ⟨a, _, o⟩
    · cases r; exact .base (.int _)
    · exact o.elim
  · obtain ⟨rfl, _⟩ := vr_str r
    exact .base (.str _)
  · obtain ⟨a, vs, rfl, hq, _⟩ := vr_lst hs r
    exact .base (.lst hq)
  · obtain ⟨_, a, vs, rfl, hq, _⟩ := vr_tup r
    rcases hs.seqT hq with (h | ⟨o, h⟩) | ⟨o, its, n, h, h2, _⟩
    · exact .base (.tup h)
    · exact .fTuple h
    · exact .kTuple h h2
  · obtain ⟨_, a, L, rfl, hq, _⟩ := vr_dic hs r
    exact .base (.dK hq)
  · obtain ⟨_, a, vs, rfl, hq, _⟩ := vr_frl r
    rcases hs.seqL hq with (h | ⟨o, h⟩) | ⟨o, its, n, h, h2, _⟩
    · exact .base (.lst h)
    · exact .base (.frz h)
    · exact .kList h h2
def isT (a b : String) : Bool := a == b || (a == "bool" && b == "int")
/-- the types that are asked for -/
def askT (T : String) : Bool := T == "str" || T == "list" || T == "tuple" || T == "dict" || T == "bool" || T == "int"
theorem kit_all : ∀ a ∈ ["NoneType", "bool", "int", "str", "list", "tuple", "dict"], ∀ b ∈ ["str", "list", "tuple", "dict", "bool", "int"], kitB a b = some (isT a b) := by decide +kernel
theorem kit_ask {d : D} {a b : String} (h : d.tyN = some a) (hb : askT b = true) : kitB a b = some (isT a b) := by
  refine kit_all a ?_ b ?_
  · cases d <;> simp only [D.tyN, Option.some.injEq, reduceCtorEq] at h <;> subst h <;> simp
  · unfold askT at hb
    simp only [Bool.or_eq_true, beq_iff_eq] at hb
    rcases hb with ((((h | h) | h) | h) | h) | h <;> subst h <;> simp
def isiD (T : String) (d : D) : M D := do
  let x ← view d
  match x.tyN with
  | some a => pure (.bl (isT a T))
  | none => M.bad
def isi2D (T U : String) (d : D) : M D := do
  let x ← view d
  match x.tyN with
  | some a => pure (.bl (isT a T || isT a U))
  | none => M.bad
theorem sk_isi (T : String) {tx : Str} {e : Expr} {p p2 pos : Pos} {m : Env → M D} (h : SK cl md X ka e m) (hg : Gl X "isinstance") (hm : X.mg "isinstance" = none) (hgT : Gl X tx) (hmT : X.mg tx = none) (hT : askT T = true := by decide) (hvT : bootBuiltins tx = some (.type T) := by rfl) (hn : tx ≠ "__name__" := by decide) (hdb : (tx == ("__debug__" : Str)) = false := by decide)
    (h1 : starEach [e, .Name tx p2] X.env = (false, eval e X.env) :: starEach [.Name tx p2] X.env := by rfl) (h2 : starEach [.Name tx p2] X.env = (false, eval (.Name tx p2) X.env) :: starEach [] X.env := by rfl) (hpl : (backTo pos (starEach [.Name tx p2] X.env)).any (·.1) = false := by rfl) :
    SK cl md X .val (.Call (.Name "isinstance" p) [e, .Name tx p2] [] pos) (fun ρ => do let d ← m ρ; isiD T d) :=
  PE.mono (pe_callB call_isi hg hm (by rfl) (pa_cons h (pa_cons (pe_bltn (v := .ty T) hgT hmT hvT rfl hn hdb) pa_nil h2) h1) (by decide) (by decide) h1 hpl) fun σ H Q ⟨ρ, μ, F, st, hE, hS, w⟩ => by
  refine ⟨ρ, μ, F, st, hE, hS, ?_⟩
  rw [M.gives_bind] at w
  refine M.gives_mono w fun d st1 w1 v μ1 F1 H1 p1 s1 r1 => ?_
  unfold isiD at w1
  rw [M.gives_bind] at w1
  obtain ⟨d', vr, w1⟩ := view_gives s1 r1 w1
  cases et : d'.tyN with
  | none => rw [et] at w1; exact w1.elim
  | some a =>
    rw [et] at w1
    exact ⟨v, .ty T, .type a, .type T, isT a T, rfl, .ty T, vr_ty s1.sub et vr, kit_ty (kit_ask et hT), w1 _ μ1 F1 H1 p1 s1 rfl⟩
theorem sk_isi2 (T U : String) {tx ux : Str} {e : Expr} {p p2 p3 p4 pos : Pos} {k} {m : Env → M D} (h : SK cl md X ka e m) (hg : Gl X "isinstance") (hm : X.mg "isinstance" = none) (hgT : Gl X tx) (hmT : X.mg tx = none) (hgU : Gl X ux) (hmU : X.mg ux = none) (hT : askT T = true := by decide) (hU : askT U = true := by decide)
    (hvT : bootBuiltins tx = some (.type T) := by rfl) (hvU : bootBuiltins ux = some (.type U) := by rfl) (hn : tx ≠ "__name__" := by decide) (hdb : (tx == ("__debug__" : Str)) = false := by decide) (hn2 : ux ≠ "__name__" := by decide) (hdb2 : (ux == ("__debug__" : Str)) = false := by decide)
    (h1 : starEach [e, .Tuple [.Name tx p2, .Name ux p3] k p4] X.env = (false, eval e X.env) :: starEach [.Tuple [.Name tx p2, .Name ux p3] k p4] X.env := by rfl) (h2 : starEach [.Tuple [.Name tx p2, .Name ux p3] k p4] X.env = (false, eval (.Tuple [.Name tx p2, .Name ux p3] k p4) X.env) :: starEach [] X.env := by rfl) (hpl : (backTo pos (starEach [.Tuple [.Name tx p2, .Name ux p3] k p4] X.env)).any (·.1) = false := by rfl)
    (h3 : starEach [.Name tx p2, .Name ux p3] X.env = (false, eval (.Name tx p2) X.env) :: starEach [.Name ux p3] X.env := by rfl) (h4 : starEach [.Name ux p3] X.env = (false, eval (.Name ux p3) X.env) :: starEach [] X.env := by rfl) :
    SK cl md X .val (.Call (.Name "isinstance" p) [e, .Tuple [.Name tx p2, .Name ux p3] k p4] [] pos) (fun ρ => do let d ← m ρ; isi2D T U d) :=
  PE.mono (pe_callB call_isiT hg hm (by rfl) (pa_cons h (pa_cons (pe_tup (pa_cons (pe_bltn (v := .ty T) hgT hmT hvT rfl hn hdb) (pa_cons (pe_bltn (v := .ty U) hgU hmU hvU rfl hn2 hdb2) pa_nil h4) h3)) pa_nil h2) h1) (by decide) (by decide) h1 hpl) fun σ H Q ⟨ρ, μ, F, st, hE, hS, w⟩ => by
  refine ⟨ρ, μ, F, st, hE, hS, ?_⟩
  rw [M.gives_bind] at w
  refine M.gives_mono w fun d st1 w1 v μ1 F1 H1 p1 s1 r1 => ?_
  unfold isi2D at w1
  rw [M.gives_bind] at w1
  obtain ⟨d', vr, w1⟩ := view_gives s1 r1 w1
  cases et : d'.tyN with
  | none => rw [et] at w1; exact w1.elim
  | some a =>
    rw [et] at w1
    refine ⟨by simpa using line_of (show 2 ≤ 1000 by decide), fun tp ntp => ?_⟩
    have vr' : VR (gs X cl) μ1 F1 (upd H1 tp (.tup [.ty T, .ty U])) d' v := by
      rcases vr with vr | ⟨b, eb, o⟩
      · exact .inl vr
      · exact .inr ⟨b, eb, o.alloc ntp⟩
    have s2 := s1.alloc (o := .tup [.ty T, .ty U]) ntp
    refine ⟨v, tp, _, .type a, [.type T, .type U], isT a T || isT a U, rfl, upd_same, .cons (.ty T) (.cons (.ty U) .nil), vr_ty s2.sub et vr', ?_, w1 _ μ1 F1 _ (p1.alloc ntp) s2 rfl⟩
    refine kitAny_cons (kit_ty (kit_ask et hT)) (fun e1 => ?_) (fun e1 => by rw [e1]; rfl)
    refine kitAny_cons (kit_ty (kit_ask et hU)) (fun e2 => ?_) (fun e2 => by rw [e2, Bool.or_true])
    rw [e1, e2]
    rfl

/-! ### a[b] -/
theorem ix_dic (hu : X.A.units + 1 < cLine) : IxR X (fun x y H Q => ∃ a v, x = .ref a ∧ DGet H a y (some v) ∧ (∃ kvs, Rd H a (.dK kvs)) ∧ Q v H) := by
  intro value slice pins s σ H x y v u Q I rx ry h hs
  obtain ⟨a, w, rfl, g, ⟨kvs, d⟩, q⟩ := h
  cases rx
  exact tail_any (isD_at I (.inl ⟨kvs, d⟩)).1 slot_dict_getitem.lookup (d_getItem hu I g ry fun w' s' I' rw' => ⟨w, H, I', rw', q⟩) hs
def rIxA (K : PySem.W.Frag) : R2 := fun x y H Q => rIx K x y H Q ∨ ∃ a v, x = .ref a ∧ DGet H a y (some v) ∧ (∃ kvs, Rd H a (.dK kvs)) ∧ Q v H
theorem ix_any (hu : X.A.units + 1 < cLine) : IxR X (rIxA X.K) := IxR.or (IxR.or ix_list (IxR.or ix_tup ix_str)) (ix_dic hu)
def ofO : Option D → M D
  | some d => pure d
  | none => M.bad
theorem ofO_gives {o : Option D} {st : Sto} {P : D → Sto → Prop} (h : (ofO o).gives st P) : ∃ d, o = some d ∧ P d st := by
  cases o with
  | none => exact h.elim
  | some d => exact ⟨d, rfl, h⟩
def charAt (s : Str) (i : Int) : Option D := (atI s.cps.toList i).map fun c => .str ⟨#[c]⟩
def ixD (a b : D) : M D := do
  let x ← view a
  match x, b with
  | .lst ds, .int i => ofO (atI ds i)
  | .tup ds, .int i => ofO (atI ds i)
  | .frl ds, .int i => ofO (atI ds i)
  | .str s, .int i => ofO (charAt s i)
  | .dic kvs, k => match k.key? with
    | some q => ofO (dgetK kvs q)
    | none => M.bad
  | _, _ => M.bad
theorem rpl_atI {G : Gs} {μ : List Addr} {F : Hp} {ds : List D} {vs : List V} {i : Int} {d : D} (r : RpL G μ F ds vs) (h : atI ds i = some d) : ∃ v, atI vs i = some v ∧ Rp G μ F d v := by
  unfold atI at h ⊢
  rw [rpl_len r]
  cases e : ixN ds.length i with
  | none => rw [e] at h; cases h
  | some j =>
    rw [e] at h
    exact rpl_get' r h
end
end Sh
namespace Sh
open PySem PySem.Spec PyProof.Rows L2

section
variable {cl : String → Option Addr} {md : List Md} {X : Cx} {ka kb kr : Kd}
theorem charAt_ok {s : Str} {i : Int} {d : D} (ok : okS s = true) (h : charAt s i = some d) : ∃ c, atI s.cps.toList i = some c ∧ d = .str ⟨#[c]⟩ ∧ okS ⟨#[c]⟩ = true := by
  unfold charAt at h
  cases e : atI s.cps.toList i with
  | none => rw [e] at h; cases h
  | some c =>
    rw [e] at h
    cases h
    refine ⟨c, rfl, rfl, okS_mk (by show (1 : Nat) ≤ 16777216; decide) ?_⟩
    have mem : c ∈ s.cps.toList := by
      unfold atI at e
      obtain ⟨j, _, e⟩ := Option.bind_eq_some_iff.mp e
      exact List.mem_of_getElem? e
    have := okS_ok ok
    unfold PyData.strOk at this ⊢
    rw [Array.all_eq_true_iff_forall_mem] at this
    simpa using this c (Array.mem_toList_iff.mp mem)
theorem dic_get {G : Gs} {μ : List Addr} {F H : Hp} {kvs : List (D × D)} {v : V} {k : D} {q : Key} {y : D} {H0 : Hp} {u : V} (hs : Sub F H) (vr : VR G μ F H (.dic kvs) v) (hq : k.key? = some q) (hy : dgetK kvs q = some y) (rk : RK G kb H0 μ F H k u) :
    ∃ a z, v = .ref a ∧ DGet H a u (some z) ∧ (∃ L, Rd H a (.dK L)) ∧ Rp G μ F y z := by
  obtain ⟨_, a, L, rfl, hl, r⟩ := vr_dic hs vr
  have g := rpk_get (q := q) r
  rw [hy] at g
  obtain ⟨z, e, rz⟩ := g
  exact ⟨a, z, rfl, .inl ⟨L, q, .inl hl, key_v hq (rk_vr rk), e.symm⟩, ⟨L, .inl hl⟩, rz⟩
theorem o2_ix : Op2 (gs X cl) ka kb .val (rIxA X.K) ixD := fun μ F H H1 H2 st d e v u Q s r1 r2 w => by
  unfold ixD at w
  rw [M.gives_bind] at w
  obtain ⟨d', vr, w⟩ := view_gives s r1 w
  have seqc : ∀ {ds : List D} {i : Int}, e = .int i → (ofO (atI ds i)).gives st (Want (gs X cl) .val μ F H Q) → ∃ y, atI ds i = some y ∧ Want (gs X cl) .val μ F H Q y st := fun _ w => ofO_gives w
  cases d' <;> try exact w.elim
  · cases e <;> try exact w.elim
    obtain ⟨y, hy, w⟩ := ofO_gives w
    obtain ⟨rfl, ok⟩ := vr_str vr
    obtain ⟨c, hc, rfl, okc⟩ := charAt_ok ok hy
    exact .inl (.inr (.inr ⟨_, _, c, rfl, rk_int r2, okS_len ok, hc, w _ μ F H .refl s ⟨rfl, okc⟩⟩))
  · cases e <;> try exact w.elim
    obtain ⟨y, hy, w⟩ := ofO_gives w
    obtain ⟨a, vs, rfl, hq, rl, _⟩ := vr_lst s.sub vr
    obtain ⟨z, hz, rz⟩ := rpl_atI rl hy
    exact .inl (.inl ⟨a, vs, _, z, rfl, rk_int r2, .inl (.inl hq), hz, w _ μ F H .refl s rz⟩)
  · cases e <;> try exact w.elim
    obtain ⟨y, hy, w⟩ := ofO_gives w
    obtain ⟨_, a, vs, rfl, hq, rl⟩ := vr_tup vr
    obtain ⟨z, hz, rz⟩ := rpl_atI rl hy
    exact .inl (.inr (.inl ⟨a, vs, _, z, rfl, rk_int r2, s.sub.seqT hq, hz, w _ μ F H .refl s rz⟩))
  · rename_i kvs
    have w' : (match e.key? with | some q => ofO (dgetK kvs q) | none => M.bad).gives st (Want (gs X cl) .val μ F H Q) := by
      cases e <;> exact w
    cases hq : e.key? with
    | none => rw [hq] at w'; exact w'.elim
    | some q =>
      rw [hq] at w'
      obtain ⟨y, hy, w⟩ := ofO_gives w'
      obtain ⟨a, z, ev, g, hd, rz⟩ := dic_get s.sub vr hq hy r2
      exact .inr ⟨a, z, ev, g, hd, w _ μ F H .refl s rz⟩
  · cases e <;> try exact w.elim
    obtain ⟨y, hy, w⟩ := ofO_gives w
    obtain ⟨_, a, vs, rfl, hq, rl⟩ := vr_frl vr
    obtain ⟨z, hz, rz⟩ := rpl_atI rl hy
    exact .inl (.inl ⟨a, vs, _, z, rfl, rk_int r2, s.sub.seqL hq, hz, w _ μ F H .refl s rz⟩)
theorem sk_ix {a b : Expr} {pos : Pos} {m n : Env → M D} (hu : X.A.units + 1 < cLine) (ha : SK cl md X ka a m) (hb : SK cl md X kb b n) (hs : PlainIx b := by intro _ _; rfl) : SK cl md X .val (.Subscript a b pos) (fun ρ => do let x ← m ρ; let y ← n ρ; ixD x y) :=
  PE.mono (pe_ix (ix_any hu) ha hb hs) fun σ H Q q => seq2 o2_ix q

/-! ### slices -/
def tKO (G : Gs) (md : List Md) (m : Env → M (Option Int)) : TO := fun σ H Q => ∃ ρ μ F st, EnvOk G md μ F H ρ σ ∧ StOk G μ F H st ∧ (m ρ).gives st fun o st' => ∀ μ' F' H', Post μ F H μ' F' H' → StOk G μ' F' H' st' → Q o H'
def SO (cl : String → Option Addr) (md : List Md) (X : Cx) (e : Option Expr) (m : Env → M (Option Int)) : Prop := PO X e (tKO (gs X cl) md m)
theorem PO.mono {e : Option Expr} {t t' : TO} (h : PO X e t) (i : ∀ σ H Q, t' σ H Q → t σ H Q) : PO X e t' := ⟨fun pins s σ H Q I q => h.run pins s σ H Q I (i σ H Q q)⟩
theorem so_none : SO cl md X none (fun _ => pure none) := PO.mono po_none fun σ H Q ⟨ρ, μ, F, st, hE, hS, w⟩ => w μ F H .refl hS
def asI : D → M Int
  | .int i => pure i
  | _ => M.bad
theorem so_some {e : Expr} {m : Env → M D} (h : SK cl md X .val e m) : SO cl md X (some e) (fun ρ => do let x ← m ρ; let i ← asI x; pure (some i)) := PO.mono (po_some h) fun σ H Q ⟨ρ, μ, F, st, hE, hS, w⟩ => by
  refine ⟨ρ, μ, F, st, hE, hS, ?_⟩
  rw [M.gives_bind] at w
  refine M.gives_mono w fun d st1 w1 v μ1 F1 H1 p1 s1 r1 => ?_
  rw [M.gives_bind] at w1
  cases d <;> try exact w1.elim
  exact ⟨_, r1, w1 μ1 F1 H1 p1 s1⟩
def cutD (xs : List D) (lo hi : Option Int) : List D := (xs.drop (HT.sIx xs.length 0 lo)).take (HT.sIx xs.length xs.length hi - HT.sIx xs.length 0 lo)
theorem cutD_len (xs : List D) (lo hi : Option Int) : (cutD xs lo hi).length ≤ xs.length := by
  unfold cutD
  rw [List.length_take, List.length_drop]
  omega
theorem rpl_cut {G : Gs} {μ : List Addr} {F : Hp} {ds : List D} {vs : List V} (r : RpL G μ F ds vs) (lo hi : Option Int) : RpL G μ F (cutD ds lo hi) (cutV vs lo hi) := by
  unfold cutD cutV
  rw [rpl_len r]
  exact rpl_take _ (rpl_drop _ r)
def slL (x : D) (lo hi : Option Int) : M D := do
  let y ← view x
  match y with
  | .lst ds => pure (.lst (cutD ds lo hi))
  | _ => M.bad
def slV (x : D) (lo hi : Option Int) : M D := do
  let y ← view x
  match y with
  | .tup ds => pure (.tup (cutD ds lo hi))
  | .str s => if okS (cutS s lo hi) = true then pure (.str (cutS s lo hi)) else M.bad
  | _ => M.bad
def OpSl (G : Gs) (ka kr : Kd) (r : V → Option Int → Option Int → Hp → VK → Prop) (g : D → Option Int → Option Int → M D) : Prop :=
  ∀ (μ : List Addr) (F H H1 : Hp) (st : Sto) (d : D) (v : V) (lo hi : Option Int) (Q : VK), StOk G μ F H st → RK G ka H1 μ F H d v → (g d lo hi).gives st (Want G kr μ F H Q) → r v lo hi H Q
theorem os_lst : OpSl (gs X cl) ka .fre (rSlL X.K) slL := fun μ F H H1 st d v lo hi Q s r w => by
  unfold slL at w
  rw [M.gives_bind] at w
  obtain ⟨d', vr, w⟩ := view_gives s r w
  cases d' <;> try exact w.elim
  rename_i ds
  obtain ⟨a, vs, rfl, hq, rl, z⟩ := vr_lst s.sub vr
  refine ⟨a, vs, rfl, .inl (.inl hq), fun p hp => ?_⟩
  obtain ⟨p2, s2, r2⟩ := new_lst .refl s (rpl_cut rl lo hi) hp (Nat.le_trans (cutD_len _ _ _) z)
  exact w _ _ _ _ p2 s2 r2
def rSlTS (K : PySem.W.Frag) : V → Option Int → Option Int → Hp → VK → Prop := fun x lo hi H Q => rSlA K x lo hi H Q ∨ rSlS x lo hi H Q
theorem sl_ts : SlR X (rSlTS X.K) := by
  intro pins s σ H x v vl vu lo hi sl Q I rx hs pl pu h
  rcases h with h | h
  · exact sl_tupA pins s σ H x v vl vu lo hi sl Q I rx hs pl pu h
  · exact sl_str pins s σ H x v vl vu lo hi sl Q I rx hs pl pu h
theorem cutD_all {xs : List D} {lo hi : Option Int} (h : HT.sIx xs.length 0 lo = 0 ∧ HT.sIx xs.length xs.length hi = xs.length) : cutD xs lo hi = xs := by
  unfold cutD
  rw [h.1, h.2]
  simp
theorem os_val : OpSl (gs X cl) ka .val (rSlTS X.K) slV := fun μ F H H1 st d v lo hi Q s r w => by
  unfold slV at w
  rw [M.gives_bind] at w
  obtain ⟨d', vr, w⟩ := view_gives s r w
  cases d' <;> try exact w.elim
  · obtain ⟨rfl, ok⟩ := vr_str vr
    obtain ⟨c, w⟩ := ite_gives w
    exact .inr ⟨_, rfl, okS_len ok, w _ μ F H .refl s ⟨rfl, c⟩⟩
  · rename_i ds
    obtain ⟨z, a, vs, rfl, hq, rl⟩ := vr_tup vr
    refine .inl ⟨a, vs, rfl, s.sub.seqT hq, fun h => ?_, fun _ p hp => ?_⟩
    · rw [rpl_len rl] at h
      exact w _ μ F H .refl s (by rw [cutD_all h]; exact ⟨z, a, vs, rfl, hq, rl⟩)
    · obtain ⟨p2, s2, r2⟩ := new_tup .refl s (rpl_cut rl lo hi) hp (Nat.le_trans (cutD_len _ _ _) z)
      exact w _ _ _ _ p2 s2 r2
theorem sl_run {r : V → Option Int → Option Int → Hp → VK → Prop} {g : D → Option Int → Option Int → M D} {m : Env → M D} {l h : Env → M (Option Int)} (ho : OpSl (gs X cl) ka kr r g) {σ : L2.St} {H : Hp} {Q : VK}
    (q : tK (gs X cl) md kr (fun ρ => do let x ← m ρ; let i ← l ρ; let j ← h ρ; g x i j) σ H Q) : tSl r (tK (gs X cl) md ka m) (tKO (gs X cl) md l) (tKO (gs X cl) md h) σ H Q := by
  obtain ⟨ρ, μ, F, st, hE, hS, w⟩ := q
  refine ⟨ρ, μ, F, st, hE, hS, ?_⟩
  rw [M.gives_bind] at w
  refine M.gives_mono w fun d st1 w1 v μ1 F1 H1 p1 s1 r1 => ⟨ρ, μ1, F1, st1, hE.post p1, s1, ?_⟩
  rw [M.gives_bind] at w1
  refine M.gives_mono w1 fun i st2 w2 μ2 F2 H2 p2 s2 => ⟨ρ, μ2, F2, st2, (hE.post p1).post p2, s2, ?_⟩
  rw [M.gives_bind] at w2
  refine M.gives_mono w2 fun j st3 w3 μ3 F3 H3 p3 s3 => ?_
  exact ho μ3 F3 H3 H st3 d v i j Q s3 ((r1.post p2).post p3) (M.gives_mono w3 fun e st4 w4 => w4.after ((p1.trans p2).trans p3))
theorem sk_slL {e : Expr} {lo hi : Option Expr} {p2 pos : Pos} {m : Env → M D} {l h : Env → M (Option Int)} (he : SK cl md X ka e m) (hl : SO cl md X lo l) (hh : SO cl md X hi h) : SK cl md X .fre (.Subscript e (.Slice lo hi none p2) pos) (fun ρ => do let x ← m ρ; let i ← l ρ; let j ← h ρ; slL x i j) :=
  PE.mono (pe_slice sl_list he hl hh) fun _ _ _ q => sl_run os_lst q
theorem sk_slV {e : Expr} {lo hi : Option Expr} {p2 pos : Pos} {m : Env → M D} {l h : Env → M (Option Int)} (he : SK cl md X ka e m) (hl : SO cl md X lo l) (hh : SO cl md X hi h) : SK cl md X .val (.Subscript e (.Slice lo hi none p2) pos) (fun ρ => do let x ← m ρ; let i ← l ρ; let j ← h ρ; slV x i j) :=
  PE.mono (pe_slice sl_ts he hl hh) fun _ _ _ q => sl_run os_val q
theorem rpl_rev {G : Gs} {μ : List Addr} {F : Hp} : ∀ {ds : List D} {vs : List V}, RpL G μ F ds vs → RpL G μ F ds.reverse vs.reverse
  | [], _, h => by have h : _ = _ := h; subst h; exact rfl
  | d :: ds, _, h => by
    obtain ⟨v, r, e, h1, h2⟩ := h
    subst e
    rw [List.reverse_cons, List.reverse_cons]
    exact rpl_app (rpl_rev h2) ⟨v, [], rfl, h1, rfl⟩
def revD (x : D) : M D := do
  let y ← view x
  match y with
  | .lst ds => pure (.lst ds.reverse)
  | _ => M.bad
theorem sk_rev {e : Expr} {k : Nat} {p1 p2 p3 pos : Pos} {m : Env → M D} (he : SK cl md X ka e m) : SK cl md X .fre (.Subscript e (.Slice none none (some (.UnaryOp .USub (.Constant (.int 1) k p1) p2)) p3) pos) (fun ρ => do let x ← m ρ; revD x) :=
  PE.mono (pe_revL he) fun σ H Q ⟨ρ, μ, F, st, hE, hS, w⟩ => by
  refine ⟨ρ, μ, F, st, hE, hS, ?_⟩
  rw [M.gives_bind] at w
  refine M.gives_mono w fun d st1 w1 v μ1 F1 H1 p1 s1 r1 => ?_
  unfold revD at w1
  rw [M.gives_bind] at w1
  obtain ⟨d', vr, w1⟩ := view_gives s1 r1 w1
  cases d' <;> try exact w1.elim
  obtain ⟨a, vs, rfl, hq, rl, z⟩ := vr_lst s1.sub vr
  refine ⟨a, vs, rfl, .inl (.inl hq), fun p hp => ?_⟩
  obtain ⟨p2, s2, r2⟩ := new_lst p1 s1 (rpl_rev rl) hp (by rw [List.length_reverse]; exact z)
  exact w1 _ _ _ _ p2 s2 r2

/-! ### a op b op c -/
def chainD (g g2 : D → D → M D) (ma mb mc : Env → M D) : Env → M D := fun ρ => do
  let x ← ma ρ
  let y ← mb ρ
  let t ← g x y
  let k ← asB t
  if k = true then do
    let z ← mc ρ
    g2 y z
  else pure (.bl false)
theorem chain_run {r r' : R2} {g g2 : D → D → M D} {ma mb mc : Env → M D} (hg : Op2 (gs X cl) .val .val .val r g) (hg2 : Op2 (gs X cl) .val .val .val r' g2) {σ : L2.St} {H : Hp} {Q : VK} (q : tK (gs X cl) md .val (chainD g g2 ma mb mc) σ H Q) :
    tChain r r' (tK (gs X cl) md .val ma) (tK (gs X cl) md .val mb) (tK (gs X cl) md .val mc) σ H Q := by
  obtain ⟨ρ, μ, F, st, hE, hS, w⟩ := q
  refine ⟨ρ, μ, F, st, hE, hS, ?_⟩
  unfold chainD at w
  rw [M.gives_bind] at w
  refine M.gives_mono w fun x st1 w1 v μ1 F1 H1 p1 s1 r1 => ⟨ρ, μ1, F1, st1, hE.post p1, s1, ?_⟩
  rw [M.gives_bind] at w1
  refine M.gives_mono w1 fun y st2 w2 u μ2 F2 H2 p2 s2 r2 => ?_
  rw [M.gives_bind] at w2
  refine hg μ2 F2 H2 H H st2 x y v u _ s2 (r1.post p2) r2 (M.gives_mono w2 fun t st3 w3 z μ3 F3 H3 p3 s3 r3 => ?_)
  rw [M.gives_bind] at w3
  obtain ⟨k, rfl, w5⟩ := asB_gives w3
  refine ⟨k, r3, ?_⟩
  cases k
  · rw [if_neg Bool.false_ne_true] at w5 ⊢
    exact w5 _ μ3 F3 H3 ((p1.trans p2).trans p3) s3 rfl
  · rw [if_pos rfl] at w5 ⊢
    rw [M.gives_bind] at w5
    refine ⟨ρ, μ3, F3, st3, ((hE.post p1).post p2).post p3, s3, M.gives_mono w5 fun z st4 w4 z' μ4 F4 H4 p4 s4 r4 => ?_⟩
    exact hg2 μ4 F4 H4 H H st4 y z u z' Q s4 ((r2.post p3).post p4) r4 (M.gives_mono w4 fun e st5 w5 => w5.after (((p1.trans p2).trans p3).trans p4))
theorem sk_chain {a b c : Expr} {op op' : CmpOp} {pos : Pos} {r r' : R2} {g g2 : D → D → M D} {ma mb mc : Env → M D} (ho : OpR X (compareOp op) r) (ho' : OpR X (compareOp op') r') (hg : Op2 (gs X cl) .val .val .val r g) (hg2 : Op2 (gs X cl) .val .val .val r' g2)
    (ha : SK cl md X .val a ma) (hb : SK cl md X .val b mb) (hc : SK cl md X .val c mc) (hm : lastMarks [op, op'] [b, c] = false := by with_unfolding_all rfl) : SK cl md X .val (.Compare a [op, op'] [b, c] pos) (chainD g g2 ma mb mc) :=
  PE.mono (pe_chain ho ho' ha hb hc hm) fun _ _ _ q => chain_run hg hg2 q
theorem st_chain {a b c : Expr} {op op' : CmpOp} {pos : Pos} {r r' : R2} {g g2 : D → D → M D} {ma mb mc : Env → M D} (ho : OpR X (compareOp op) r) (ho' : OpR X (compareOp op') r') (hg : Op2 (gs X cl) .val .val .val r g) (hg2 : Op2 (gs X cl) .val .val .val r' g2)
    (ha : SK cl md X .val a ma) (hb : SK cl md X .val b mb) (hc : SK cl md X .val c mc) (hm : lastMarks [op, op'] [b, c] = false := by with_unfolding_all rfl) : ST cl md X (.Compare a [op, op'] [b, c] pos) (fun ρ => do let x ← chainD g g2 ma mb mc ρ; asB x) :=
  PT.mono (pt_chain ho ho' ha hb hc hm) fun σ H Q h => test_of (P := tChain r r' _ _ _) (fun Q q => chain_run hg hg2 q) h

/-! ### is -/
def isBD (f : Bool → Bool) : D → D → M D
  | .bl a, .bl b => pure (.bl (f (decide (a = b))))
  | _, _ => M.bad
theorem o2_isB : Op2 (gs X cl) ka kb .val (fun x y H Q => ∃ a b, x = .bl a ∧ y = .bl b ∧ Q (.bl (decide (a = b))) H) (isBD id) := fun μ F H H1 H2 st d e v u Q s r1 r2 w => by
  unfold isBD at w
  cases d <;> try exact w.elim
  cases e <;> try exact w.elim
  exact ⟨_, _, rk_bl r1, rk_bl r2, w _ μ F H .refl s rfl⟩
theorem o2_notB : Op2 (gs X cl) ka kb .val (fun x y H Q => ∃ a b, x = .bl a ∧ y = .bl b ∧ Q (.bl (!decide (a = b))) H) (isBD not) := fun μ F H H1 H2 st d e v u Q s r1 r2 w => by
  unfold isBD at w
  cases d <;> try exact w.elim
  cases e <;> try exact w.elim
  exact ⟨_, _, rk_bl r1, rk_bl r2, w _ μ F H .refl s rfl⟩

/-! ### sorted, of texts; of a dict with texts for keys -/
def leS (a b : Str) : Bool := !ltCps b.cps.toList a.cps.toList
def sortS (xs : List Str) : List Str := xs.mergeSort leS
theorem leS_iff {a b : Str} : leS a b = true ↔ a.cps.toList ≤ b.cps.toList := by
  unfold leS
  rw [ltCps_eq]
  simp [List.not_lt]
theorem risingS_pw : ∀ {p : Str} {l : List Str}, risingS p l = true → (p :: l).Pairwise fun a b => leS a b = true
  | p, [], _ => by simp
  | p, x :: r, h => by
    unfold risingS at h
    simp only [Bool.and_eq_true] at h
    have ih := risingS_pw h.2
    refine List.pairwise_cons.mpr ⟨fun y hy => ?_, ih⟩
    have hpx : leS p x = true := h.1
    rcases List.mem_cons.mp hy with e | hy
    · subst e; exact hpx
    · exact leS_iff.mpr (List.le_trans (leS_iff.mp hpx) (leS_iff.mp ((List.pairwise_cons.mp ih).1 y hy)))
theorem sortedS_pw {l : List Str} (h : sortedS l = true) : l.Pairwise fun a b => leS a b = true := by
  cases l with
  | nil => exact .nil
  | cons x r => exact risingS_pw h
theorem sortS_pw (xs : List Str) : (sortS xs).Pairwise fun a b => leS a b = true :=
  List.pairwise_mergeSort (le := leS) (fun a b c h1 h2 => leS_iff.mpr (List.le_trans (leS_iff.mp h1) (leS_iff.mp h2))) (fun a b => by
    rcases List.le_total a.cps.toList b.cps.toList with h | h
    · rw [leS_iff.mpr h]; rfl
    · rw [leS_iff.mpr h, Bool.or_true]) xs
theorem str_ext {a b : Str} (h : a.cps.toList = b.cps.toList) : a = b := by
  cases a; cases b
  simp only at h
  rw [Array.toList_inj.mp h]
theorem sortS_eq {xs ys : List Str} (hp : ys.Perm xs) (hs : sortedS ys = true) : ys = sortS xs :=
  List.Perm.eq_of_pairwise (le := fun a b => leS a b = true) (fun a b _ _ h1 h2 => str_ext (List.le_antisymm (leS_iff.mp h1) (leS_iff.mp h2))) (sortedS_pw hs) (sortS_pw xs) (hp.trans (List.mergeSort_perm xs leS).symm)
def strsOf : List D → Option (List Str)
  | [] => some []
  | .str b :: r => match strsOf r with
    | some bs => some (b :: bs)
    | none => none
  | _ :: _ => none
theorem rpl_strs {G : Gs} {μ : List Addr} {F : Hp} : ∀ {ds : List D} {bs : List Str} {vs : List V}, strsOf ds = some bs → RpL G μ F ds vs → vs = bs.map V.str ∧ (∀ s ∈ bs, okS s = true) ∧ ds.length = bs.length
  | [], bs, vs, e, r => by
    cases e
    exact ⟨r, by simp, rfl⟩
  | d :: ds, bs, vs, e, r => by
    cases d <;> try (cases e; done)
    unfold strsOf at e
    obtain ⟨v, vr, rfl, r1, r2⟩ := r
    cases e1 : strsOf ds with
    | none => rw [e1] at e; cases e
    | some bs' =>
      rw [e1] at e; cases e
      obtain ⟨r1, ok⟩ := r1
      obtain ⟨q1, q2, q3⟩ := rpl_strs e1 r2
      subst r1 q1
      exact ⟨rfl, fun s hs => (List.mem_cons.mp hs).elim (fun e => by rw [e]; exact ok) (q2 s), by simp [q3]⟩
theorem rpl_ofS {G : Gs} {μ : List Addr} {F : Hp} : ∀ {bs : List Str}, (∀ s ∈ bs, okS s = true) → RpL G μ F (bs.map .str) (bs.map V.str)
  | [], _ => rfl
  | b :: bs, h => ⟨.str b, _, rfl, ⟨rfl, h b List.mem_cons_self⟩, rpl_ofS fun s hs => h s (List.mem_cons_of_mem _ hs)⟩
def keysOf (kvs : List (D × D)) : List D := kvs.map (·.1)
theorem rpk_strs {G : Gs} {μ : List Addr} {F : Hp} : ∀ {kvs : List (D × D)} {bs : List Str} {L : List (Key × V)}, strsOf (keysOf kvs) = some bs → RpK G μ F kvs L → L.map (·.1) = bs.map Sum.inr ∧ (∀ s ∈ bs, okS s = true)
  | [], bs, L, e, r => by
    cases e
    have r : L = [] := r
    subst r
    exact ⟨rfl, by simp⟩
  | (k, d) :: kr, bs, L, e, r => by
    have e : strsOf (k :: keysOf kr) = some bs := e
    cases k <;> try (cases e; done)
    unfold strsOf at e
    obtain ⟨q, v, L', rfl, hk, ok, r1, r2⟩ := r
    cases e1 : strsOf (keysOf kr) with
    | none => rw [e1] at e; cases e
    | some bs' =>
      rw [e1] at e; cases e
      cases hk
      obtain ⟨q1, q2⟩ := rpk_strs e1 r2
      exact ⟨by simp [q1], fun s hs => (List.mem_cons.mp hs).elim (fun e => by rw [e]; exact ok _ rfl) (q2 s)⟩
def sortedD (x : D) : M D := do
  let y ← view x
  match y with
  | .lst ds => match strsOf ds with
    | some bs => if bs.length < 64 then pure (.lst ((sortS bs).map .str)) else M.bad
    | none => M.bad
  | .dic kvs => match strsOf (keysOf kvs) with
    | some bs => if bs.length < 64 then pure (.lst ((sortS bs).map .str)) else M.bad
    | none => M.bad
  | _ => M.bad
def rSortA (K : PySem.W.Frag) : List V → Hp → VK → Prop := fun xs H Q => rSortedS K xs H Q ∨ ∃ (a : Addr) (kvs : List (Key × V)) (ks : List Str), xs = [.ref a] ∧ Rd H a (.dK kvs) ∧ kvs.map (·.1) = ks.map Sum.inr ∧ ks.length < 64 ∧
    ∀ ys p, ys.Perm ks → sortedS ys = true → H p = none → Q (.ref p) (upd H p (.lst (ys.map V.str)))
theorem cr_sortA (hc : X.calm = true) : CallR X (.builtin "sorted") (rSortA X.K) := fun pins s σ H xs us Q I r h => by
  rcases h with h | h
  · exact cr_sortedS pins s σ H xs us Q I r h
  · exact call_sortedD hc pins s σ H xs us Q I r h
theorem o1_sorted : Op1 (gs X cl) ka .fre (rSortA X.K) sortedD := fun μ F H H0 st d v Q s r w => by
  unfold sortedD at w
  rw [M.gives_bind] at w
  obtain ⟨d', vr, w⟩ := view_gives s r w
  have fin : ∀ {bs : List Str} {p : Addr}, bs.length < 64 → (∀ s ∈ bs, okS s = true) → H p = none → Want (gs X cl) .fre μ F H Q (.lst ((sortS bs).map .str)) st → Q (.ref p) (upd H p (.lst ((sortS bs).map V.str))) := fun {bs p} h64 ok hp w => by
    obtain ⟨p2, s2, r2⟩ := new_lst .refl s (rpl_ofS (bs := sortS bs) fun s hs => ok s (List.mem_mergeSort.mp hs)) hp (by rw [List.length_map]; unfold sortS; rw [List.length_mergeSort]; exact small64 h64)
    exact w _ _ _ _ p2 s2 r2
  cases d' <;> try exact w.elim
  · rename_i ds
    obtain ⟨a, vs, rfl, hq, rl, z⟩ := vr_lst s.sub vr
    cases e : strsOf ds with
    | none => simp only [e] at w; exact w.elim
    | some bs =>
      simp only [e] at w
      obtain ⟨h64, w⟩ := ite_gives w
      obtain ⟨ev, ok, _⟩ := rpl_strs e rl
      subst ev
      exact .inl ⟨a, bs, rfl, .inl (.inl hq), h64, fun ys p hp hs hn => by rw [sortS_eq hp hs]; exact fin h64 ok hn w⟩
  · rename_i kvs
    obtain ⟨z, a, L, rfl, hq, rl⟩ := vr_dic s.sub vr
    cases e : strsOf (keysOf kvs) with
    | none => simp only [e] at w; exact w.elim
    | some bs =>
      simp only [e] at w
      obtain ⟨h64, w⟩ := ite_gives w
      obtain ⟨ev, ok⟩ := rpk_strs e rl
      exact .inr ⟨a, L, bs, rfl, .inl hq, ev, h64, fun ys p hp hs hn => by rw [sortS_eq hp hs]; exact fin h64 ok hn w⟩
end
end Sh
namespace Sh
open PySem PySem.Spec PyProof.Rows L2

/-! ### a thing of the store is changed, a new one is laid -/
section
variable {G : Gs} {μ μ' μ0 : List Addr} {F F0 F' H H0 H' : Hp} {st : Sto} {a : Addr} {d d' : D} {u o : HO} {l : Nat}
theorem StOk.putAt (s : StOk G μ F H st) (hl : μ[l]? = some a) (hu : H a = some u) (nu : ∀ x, u ≠ .own x) (new : ObjAt G μ F (upd H a o) a d') : StOk G μ F (upd H a o) (st.set l d') := by
  have fa : F a = none := new.frz
  refine ⟨s.sub.addR fa, by rw [List.length_set]; exact s.len, s.nd, fun j b e hj he => ?_⟩
  by_cases q : l = j
  · subst q
    rw [hl] at hj; cases hj
    have : l < st.length := by rw [← s.len]; exact (List.getElem?_eq_some_iff.mp hl).1
    rw [List.getElem?_set_self this] at he; cases he
    exact new
  · rw [List.getElem?_set_ne q] at he
    refine (s.obj j b e hj he).mut hu nu fun z => q ?_
    subst z
    have h1 := List.getElem?_eq_some_iff.mp hl
    have h2 := List.getElem?_eq_some_iff.mp hj
    obtain ⟨i1, e1⟩ := h1
    obtain ⟨i2, e2⟩ := h2
    exact (List.getElem_inj s.nd).mp (e1.trans e2.symm)
theorem Post.putAt (p : Post μ0 F0 H0 μ F H) (hl : μ[l]? = some a) (ho : ∃ u, H a = some u) : Post μ0 F0 H0 μ F (upd H a o) := by
  have mem : a ∈ μ := List.mem_of_getElem? hl
  refine ⟨p.subF, p.new, fun b w hb nb => ?_, p.ext, fun b w hb => ?_⟩
  · have : b ≠ a := fun z => by subst z; exact p.notin hb nb mem
    rw [upd_ne this]
    exact p.keep b w hb nb
  · by_cases z : b = a
    · subst z; exact ⟨_, upd_same⟩
    · rw [upd_ne z]; exact p.there b w hb
theorem ObjAt.more {m : List Addr} (h : ObjAt G μ F H a d) (n : ∀ b ∈ m, ∀ x, H b ≠ some (.own x)) : ObjAt G (μ ++ m) F H a d := by
  have x : Ext μ (μ ++ m) := ⟨m, rfl⟩
  cases d <;> try exact h.elim
  · obtain ⟨f, z, vs, e, r⟩ := h
    exact ⟨f, z, vs, e, RpL.mono x (Sub.refl _) _ _ r⟩
  · obtain ⟨f, z, L, e, r⟩ := h
    exact ⟨f, z, L, e, RpK.mono x (Sub.refl _) _ _ r⟩
  · obtain ⟨f, C, dx, fv, e1, e2, n2, f2, c, r⟩ := h
    refine ⟨f, C, dx, fv, e1, e2, fun q => ?_, f2, c, RpF.mono x (Sub.refl _) _ _ r⟩
    rcases List.mem_append.mp q with q | q
    · exact n2 q
    · exact n dx q a e2
  · obtain ⟨f, z, L, e, r⟩ := h
    exact ⟨f, z, L, e, RpE.mono x (Sub.refl _) _ _ r⟩
theorem ObjAt.noown {x : Addr} (h : ObjAt G μ F H a d) : H a ≠ some (.own x) := fun q => by
  cases d <;> try exact h.elim
  · obtain ⟨_, _, vs, e, _⟩ := h; rw [q] at e; cases e
  · obtain ⟨_, _, L, e, _⟩ := h; rw [q] at e; cases e
  · obtain ⟨_, C, dx, fv, e, _⟩ := h; rw [q] at e; cases e
  · obtain ⟨_, _, L, e, _⟩ := h; rw [q] at e; cases e
/-- a new container goes to the store -/
theorem to_store {v : V} (p : Post μ0 F0 H0 μ F H) (s : StOk G μ F H st) (r : RK G .fre H0 μ F H d v) : ∃ a, v = .ref a ∧ Post μ0 F0 H0 (μ ++ [a]) F H ∧ StOk G (μ ++ [a]) F H (st ++ [d]) ∧ Rp G (μ ++ [a]) F (.ref st.length) v := by
  obtain ⟨a, rfl, n, _, na, oa⟩ := r
  have no : ∀ b ∈ [a], ∀ x, H b ≠ some (.own x) := fun b hb x => by
    have e : b = a := by simpa using hb
    subst e
    exact oa.noown
  refine ⟨a, rfl, ?_, ?_, ⟨a, rfl, ?_⟩⟩
  · obtain ⟨m, e, hm⟩ := p.ext
    refine ⟨p.subF, p.new, p.keep, ⟨m ++ [a], by rw [e, List.append_assoc], fun b hb => ?_⟩, p.there⟩
    rcases List.mem_append.mp hb with hb | hb
    · exact hm b hb
    · have e : b = a := by simpa using hb
      subst e; exact n
  · refine ⟨s.sub, by simp [s.len], List.nodup_append.mpr ⟨s.nd, by simp, fun x hx y hy z => ?_⟩, fun j b e hj he => ?_⟩
    · have e : y = a := by simpa using hy
      subst e; subst z
      exact na hx
    · by_cases q : j < μ.length
      · rw [List.getElem?_append_left q] at hj
        rw [List.getElem?_append_left (by rw [← s.len]; exact q)] at he
        exact (s.obj j b e hj he).more no
      · rw [List.getElem?_append_right (by omega)] at hj
        rw [List.getElem?_append_right (by rw [← s.len]; omega)] at he
        rw [s.len] at hj
        cases j' : j - st.length with
        | zero =>
          rw [j'] at hj he
          simp only [List.getElem?_cons_zero, Option.some.injEq] at hj he
          subst hj he
          exact oa.more no
        | succ k => rw [j'] at hj; simp at hj
  · rw [← s.len, List.getElem?_append_right (Nat.le_refl _)]
    simp
end
def allocD (d : D) : M D := fun st => .ok (.ref st.length) (st ++ [d])
section
variable {cl : String → Option Addr} {md : List Md} {X : Cx} {B : Bs} {ka kb kr : Kd}
/-- the new container is one of the store -/
theorem sk_sto {x : Expr} {m : Env → M D} (h : SK cl md X .fre x m) : SK cl md X .val x (fun ρ => do let d ← m ρ; allocD d) := PE.mono h fun σ H Q ⟨ρ, μ, F, st, hE, hS, w⟩ => by
  refine ⟨ρ, μ, F, st, hE, hS, ?_⟩
  rw [M.gives_bind] at w
  refine M.gives_mono w fun d st1 w1 v μ1 F1 H1 p1 s1 r1 => ?_
  obtain ⟨a, rfl, p2, s2, r2⟩ := to_store p1 s1 r1
  exact w1 _ _ _ _ p2 s2 r2
/-- {} -/
theorem sk_dnew {pos : Pos} : SK cl md X .fre (.Dict [] [] pos) (fun _ => pure (.dic [])) := PE.mono pe_dnewK fun σ H Q ⟨ρ, μ, F, st, hE, hS, w⟩ a na => by
  refine w _ μ F _ (Post.refl.alloc na) (hS.alloc na) ⟨a, rfl, na, (fun C dx fv h => by rw [upd_same] at h; cases h), hS.notin na, hS.sub.free na, by simp, [], upd_same, rfl⟩

/-! ### {k: v, ..} -/
def RpP (G : Gs) (μ : List Addr) (F : Hp) : List (D × D) → List (V × V) → Prop
  | [], us => us = []
  | (k, d) :: r, us => ∃ x y us', us = (x, y) :: us' ∧ Rp G μ F k x ∧ Rp G μ F d y ∧ RpP G μ F r us'
def tKP (G : Gs) (md : List Md) (m : Env → M (List (D × D))) : L2.St → Hp → (List (V × V) → Hp → Prop) → Prop := fun σ H Q => ∃ ρ μ F st, EnvOk G md μ F H ρ σ ∧ StOk G μ F H st ∧ (m ρ).gives st fun ps st' => ∀ us μ' F' H', Post μ F H μ' F' H' → StOk G μ' F' H' st' → RpP G μ' F' ps us → Q us H'
structure SPs (cl : String → Option Addr) (md : List Md) (X : Cx) (pos : Pos) (keys : List (Option Expr)) (values : List Expr) (m : Env → M (List (D × D))) : Prop where
  ex : ∃ trs, PPs X pos keys values trs ∧ ∀ σ H Q, tKP (gs X cl) md m σ H Q → tPairs trs σ H Q
theorem sps_nil {pos : Pos} : SPs cl md X pos [] [] (fun _ => pure []) := ⟨[], pps_nil, fun σ H Q ⟨ρ, μ, F, st, hE, hS, w⟩ => w [] μ F H .refl hS rfl⟩
theorem RpP.post {G : Gs} {μ μ' : List Addr} {F F' H H' : Hp} (p : Post μ F H μ' F' H') : ∀ {ps : List (D × D)} {us : List (V × V)}, RpP G μ F ps us → RpP G μ' F' ps us
  | [], us, h => h
  | (k, d) :: r, us, ⟨x, y, us', e, h1, h2, h3⟩ => ⟨x, y, us', e, Rp.post p h1, Rp.post p h2, RpP.post p h3⟩
theorem sps_cons {pos : Pos} {k v : Expr} {ks : List (Option Expr)} {vs : List Expr} {mk mv : Env → M D} {m : Env → M (List (D × D))} (hk : SK cl md X .val k mk) (hv : SK cl md X .val v mv) (hr : SPs cl md X pos ks vs m) :
    SPs cl md X pos (some k :: ks) (v :: vs) (fun ρ => do let x ← mk ρ; let y ← mv ρ; let r ← m ρ; pure ((x, y) :: r)) := by
  obtain ⟨trs, h1, h2⟩ := hr.ex
  refine ⟨_, pps_cons hk hv h1, fun σ H Q ⟨ρ, μ, F, st, hE, hS, w⟩ => ⟨ρ, μ, F, st, hE, hS, ?_⟩⟩
  rw [M.gives_bind] at w
  refine M.gives_mono w fun x st1 w1 xv μ1 F1 H1 p1 s1 r1 => ⟨ρ, μ1, F1, st1, hE.post p1, s1, ?_⟩
  rw [M.gives_bind] at w1
  refine M.gives_mono w1 fun y st2 w2 yv μ2 F2 H2 p2 s2 r2 => h2 _ _ _ ⟨ρ, μ2, F2, st2, (hE.post p1).post p2, s2, ?_⟩
  rw [M.gives_bind] at w2
  refine M.gives_mono w2 fun r st3 w3 us μ3 F3 H3 p3 s3 r3 => ?_
  exact w3 ((xv, yv) :: us) μ3 F3 H3 ((p1.trans p2).trans p3) s3 ⟨xv, yv, us, rfl, Rp.post p3 (Rp.post p2 r1), Rp.post p3 r2, r3⟩
/-- the keys are told apart -/
def keysOk : List (D × D) → Bool
  | [] => true
  | (k, _) :: r => k.key?.isSome && (r.all fun p => decide (p.1.key? ≠ k.key?)) && keysOk r
def dispD (ps : List (D × D)) : M D := if (keysOk ps && decide (ps.length ≤ 15)) = true then pure (.dic ps) else M.bad
theorem rpp_key {G : Gs} {μ : List Addr} {F : Hp} : ∀ {ps : List (D × D)} {us : List (V × V)}, keysOk ps = true → RpP G μ F ps us → ∃ L, us = L.map (fun kv => (kV kv.1, kv.2)) ∧ RpK G μ F ps L ∧ L.length = ps.length ∧ L.Pairwise fun p q => p.1 ≠ q.1
  | [], us, _, h => ⟨[], h, rfl, rfl, .nil⟩
  | (k, d) :: r, us, hk, ⟨x, y, us', e, h1, h2, h3⟩ => by
    unfold keysOk at hk
    simp only [Bool.and_eq_true] at hk
    obtain ⟨⟨k1, k2⟩, k3⟩ := hk
    obtain ⟨L, e1, r1, l1, w1⟩ := rpp_key k3 h3
    obtain ⟨q, hq⟩ := Option.isSome_iff_exists.mp k1
    refine ⟨(q, y) :: L, ?_, ⟨q, y, L, rfl, hq, fun s es => ?_, h2, r1⟩, by simp [l1], List.pairwise_cons.mpr ⟨fun p hp => ?_, w1⟩⟩
    · rw [e, e1]
      have hx : x = kV q := key_v (H := F) hq (.inl h1)
      rw [hx]
      rfl
    · subst es
      cases k <;> try (cases hq; done)
      cases hq
      exact h1.2
    · show q ≠ p.1
      intro z
      subst z
      rw [List.all_eq_true] at k2
      have mem : ∀ {ps : List (D × D)} {L : List (Key × V)}, RpK G μ F ps L → ∀ p ∈ L, ∃ c ∈ ps, c.1.key? = some p.1 := by
        intro ps
        induction ps with
        | nil => intro L h p hp; have h : L = [] := h; subst h; simp at hp
        | cons c cs ih =>
          intro L h p hp
          obtain ⟨q', v, L', rfl, hk, _, _, hr⟩ := h
          rcases List.mem_cons.mp hp with e | hp
          · subst e; exact ⟨c, List.mem_cons_self, hk⟩
          · obtain ⟨c', m', e'⟩ := ih hr p hp
            exact ⟨c', List.mem_cons_of_mem _ m', e'⟩
      obtain ⟨c, hc, ec⟩ := mem r1 p hp
      have := k2 c hc
      simp only [decide_eq_true_eq] at this
      exact this (ec.trans hq.symm)
theorem merge_id : ∀ (L K : List (Key × V)), (K ++ L).Pairwise (fun p q => p.1 ≠ q.1) → mergeK K L = K ++ L
  | [], K, _ => by simp [mergeK]
  | p :: L, K, h => by
    have e : putK K p.1 p.2 = K ++ [p] := by
      unfold putK
      rw [if_neg]
      simp only [List.any_eq_true, decide_eq_true_eq, not_exists, not_and]
      intro x hx
      exact (List.pairwise_append.mp h).2.2 x hx p List.mem_cons_self
    show mergeK (putK K p.1 p.2) L = _
    rw [e, merge_id L (K ++ [p]) (by simpa using h)]
    simp
theorem sk_disp {pos : Pos} {keys : List (Option Expr)} {values : List Expr} {m : Env → M (List (D × D))} (h : SPs cl md X pos keys values m) (hall : keys.all (·.isSome) = true := by rfl) (hl : keys.length = values.length := by rfl) (h0 : keys ≠ [] := by simp) (h15 : keys.length ≤ 15 := by decide) :
    SK cl md X .fre (.Dict keys values pos) (fun ρ => do let ps ← m ρ; dispD ps) := by
  obtain ⟨trs, h1, h2⟩ := h.ex
  refine PE.mono (pe_disp h1 hall hl h0 h15) fun σ H Q ⟨ρ, μ, F, st, hE, hS, w⟩ a na => h2 _ _ _ ⟨ρ, μ, F, st, hE.post (Post.refl.alloc na), hS.alloc na, ?_⟩
  rw [M.gives_bind] at w
  refine M.gives_mono w fun ps st1 w1 us μ1 F1 H1 p1 s1 r1 => ?_
  obtain ⟨hk, w2⟩ := ite_gives w1
  simp only [Bool.and_eq_true, decide_eq_true_eq] at hk
  obtain ⟨L, rfl, r2, hL, pw⟩ := rpp_key hk.1 r1
  have na' : a ∉ μ := hS.notin na
  have ea : H1 a = some (.dK []) := p1.keep a _ upd_same na'
  have fa : F1 a = none := p1.unfrz upd_same (hS.sub.free na)
  refine ⟨ea, L, rfl, by rw [hL]; exact hk.2, ?_⟩
  rw [merge_id L [] (by simpa using pw), List.nil_append]
  have n1 : a ∉ μ1 := p1.notin upd_same na'
  refine w2 _ μ1 F1 _ ⟨p1.subF, fun b o hb => ?_, fun b o hb nb => ?_, ?_, fun b o hb => ?_⟩ ⟨s1.sub.addR fa, s1.len, s1.nd, fun l b e hl he => (s1.obj l b e hl he).mut ea (fun x q => by cases q) fun q => n1 (q ▸ List.mem_of_getElem? hl)⟩
    ⟨a, rfl, na, (fun C dx fv h => by rw [upd_same] at h; cases h), n1, fa, by rw [sizeLine_eq]; omega, L, upd_same, r2⟩
  · rcases p1.new b o hb with q | q
    · exact .inl q
    · by_cases z : b = a
      · subst z; rw [upd_same] at q; cases q
      · rw [upd_ne z] at q; exact .inr q
  · have z : b ≠ a := fun z => by subst z; rw [na] at hb; cases hb
    rw [upd_ne z]
    exact p1.keep b o (by rw [upd_ne z]; exact hb) nb
  · obtain ⟨m', e, hm⟩ := p1.ext
    refine ⟨m', e, fun b hb => ?_⟩
    have := hm b hb
    by_cases z : b = a
    · subst z; exact na
    · rw [upd_ne z] at this; exact this
  · have z : b ≠ a := fun z => by subst z; rw [na] at hb; cases hb
    obtain ⟨o', q⟩ := p1.there b o (by rw [upd_ne z]; exact hb)
    exact ⟨o', by rw [upd_ne z]; exact q⟩
end
end Sh
namespace Sh
open PySem PySem.Spec PyProof.Rows L2
section
variable {cl : String → Option Addr} {md : List Md} {X : Cx} {B : Bs} {ka kb kr : Kd}
/-! ### d.get(k, x) -/
def needDic (d : D) : M Unit := do
  let x ← view d
  match x with
  | .dic _ => pure ()
  | _ => M.bad
def dget2D (x y z : D) : M D := do
  let v ← view x
  match v with
  | .dic kvs => match y.key? with
    | some q => pure ((dgetK kvs q).getD z)
    | none => M.bad
  | _ => M.bad
def dget2M (mo mk mz : Env → M D) : Env → M D := fun ρ => do
  let x ← mo ρ
  let _ ← needDic x
  let y ← mk ρ
  let z ← mz ρ
  dget2D x y z
theorem sk_dget2 {o e f : Expr} {apos cpos : Pos} {mo mk mz : Env → M D} (hu : X.A.units + 1 < cLine) (hkr : kr ≠ .fre) (ho : SK cl md X .val o mo) (he : SK cl md X .val e mk) (hf : SK cl md X kr f mz) (m : M2 X o "get" apos e f cpos := by exact ⟨rfl, rfl, rfl, rfl⟩) :
    SK cl md X kr (.Call (.Attribute o "get" apos) [e, f] [] cpos) (dget2M mo mk mz) := PE.mono (pe_dget2 hu ho he hf m) fun σ H Q ⟨ρ, μ, F, st, hE, hS, w⟩ => by
  refine ⟨ρ, μ, F, st, hE, hS, ?_⟩
  unfold dget2M at w
  rw [M.gives_bind] at w
  refine M.gives_mono w fun x st1 w1 xv μ1 F1 H1 p1 s1 r1 => ?_
  rw [M.gives_bind] at w1
  unfold needDic at w1
  rw [M.gives_bind] at w1
  have r1' : RK (gs X cl) .val H μ1 F1 H1 x xv := r1
  obtain ⟨x', vx, w1⟩ := view_gives s1 r1' w1
  cases x' <;> try exact w1.elim
  obtain ⟨_, a, L, rfl, hq, _⟩ := vr_dic s1.sub vx
  refine ⟨a, rfl, .inl ⟨L, .inl hq⟩, ρ, μ1, F1, st1, hE.post p1, s1, ?_⟩
  have w1 : (do let y ← mk ρ; let z ← mz ρ; dget2D x y z).gives st1 (Want (gs X cl) kr μ F H Q) := w1
  rw [M.gives_bind] at w1
  refine M.gives_mono w1 fun y st2 w2 yv μ2 F2 H2 p2 s2 r2 => ⟨ρ, μ2, F2, st2, (hE.post p1).post p2, s2, ?_⟩
  rw [M.gives_bind] at w2
  refine M.gives_mono w2 fun z st3 w3 zv μ3 F3 H3 p3 s3 r3 => ?_
  have rx : RK (gs X cl) .val H μ3 F3 H3 x (.ref a) := Rp.post p3 (Rp.post p2 r1)
  have ry : RK (gs X cl) .val H1 μ3 F3 H3 y yv := RK.post p3 r2
  unfold dget2D at w3
  rw [M.gives_bind] at w3
  obtain ⟨x2, vx2, w3⟩ := view_gives s3 rx w3
  cases x2 <;> try exact w3.elim
  rename_i kvs
  simp only at w3
  cases hk : y.key? with
  | none => simp only [hk] at w3; exact w3.elim
  | some q =>
    simp only [hk] at w3
    obtain ⟨_, a', L', ea, hq', rk⟩ := vr_dic s3.sub vx2
    cases ea
    have g := rpk_get (q := q) rk
    refine ⟨valV L' q, .inl ⟨L', q, .inl hq', key_v hk (rk_vr ry), rfl⟩, ?_⟩
    refine w3 _ μ3 F3 H3 ((p1.trans p2).trans p3) s3 ?_
    cases hg : dgetK kvs q with
    | some d =>
      rw [hg] at g
      obtain ⟨v, ev, rv⟩ := g
      rw [ev]
      cases kr with
      | val => exact rv
      | bor => exact .inl rv
      | fre => exact absurd rfl hkr
    | none =>
      rw [hg] at g
      rw [show valV L' q = none from g]
      exact r3.base fun b n => p1.free (p2.free n)

/-! ### o[k] = v -/
def dputK (kvs : List (D × D)) (q : Key) (k v : D) : List (D × D) :=
  if (kvs.any fun p => decide (p.1.key? = some q)) = true then kvs.map (fun p => if p.1.key? = some q then (p.1, v) else p) else kvs ++ [(k, v)]
theorem rpk_any {G : Gs} {μ : List Addr} {F : Hp} {q : Key} : ∀ {kvs : List (D × D)} {L : List (Key × V)}, RpK G μ F kvs L → (kvs.any fun p => decide (p.1.key? = some q)) = L.any fun kv => decide (kv.1 = q)
  | [], _, h => by have h : _ = _ := h; subst h; rfl
  | (k, d) :: r, _, h => by
    obtain ⟨q', v, L', rfl, hk, _, hv, hr⟩ := h
    simp only [List.any_cons, hk, rpk_any hr, Option.some.injEq]
theorem rpk_snoc {G : Gs} {μ : List Addr} {F : Hp} {k d : D} {q : Key} {v : V} (hk : k.key? = some q) (ok : ∀ s, q = .inr s → okS s = true) (rv : Rp G μ F d v) : ∀ {kvs : List (D × D)} {L : List (Key × V)}, RpK G μ F kvs L → RpK G μ F (kvs ++ [(k, d)]) (L ++ [(q, v)])
  | [], _, h => by have h : _ = _ := h; subst h; exact ⟨q, v, [], rfl, hk, ok, rv, rfl⟩
  | (k', d') :: r, _, h => by
    obtain ⟨q', v', L', rfl, h1, h2, h3, h4⟩ := h
    exact ⟨q', v', L' ++ [(q, v)], rfl, h1, h2, h3, rpk_snoc hk ok rv h4⟩
theorem rpk_map {G : Gs} {μ : List Addr} {F : Hp} {d : D} {q : Key} {v : V} (rv : Rp G μ F d v) : ∀ {kvs : List (D × D)} {L : List (Key × V)}, RpK G μ F kvs L → RpK G μ F (kvs.map fun p => if p.1.key? = some q then (p.1, d) else p) (L.map fun kv => if kv.1 = q then (kv.1, v) else kv)
  | [], _, h => by have h : _ = _ := h; subst h; exact rfl
  | (k', d') :: r, _, h => by
    obtain ⟨q', v', L', rfl, h1, h2, h3, h4⟩ := h
    rw [List.map_cons, List.map_cons]
    by_cases e : q' = q
    · subst e
      rw [if_pos h1, if_pos rfl]
      exact ⟨q', v, _, rfl, h1, h2, rv, rpk_map rv h4⟩
    · rw [if_neg (show ¬ (k', d').1.key? = some q by rw [h1]; exact fun z => e (Option.some.inj z)), if_neg e]
      exact ⟨q', v', _, rfl, h1, h2, h3, rpk_map rv h4⟩
theorem rpk_put {G : Gs} {μ : List Addr} {F : Hp} {k d : D} {q : Key} {v : V} (hk : k.key? = some q) (ok : ∀ s, q = .inr s → okS s = true) (rv : Rp G μ F d v) {kvs : List (D × D)} {L : List (Key × V)} (r : RpK G μ F kvs L) : RpK G μ F (dputK kvs q k d) (putK L q v) := by
  unfold dputK putK
  rw [rpk_any r]
  split
  · exact rpk_map rv r
  · exact rpk_snoc hk ok rv r
theorem key_ok {G : Gs} {μ : List Addr} {F H : Hp} {d : D} {v : V} {q : Key} (e : d.key? = some q) (r : VR G μ F H d v) : ∀ s, q = .inr s → okS s = true := fun s es => by
  subst es
  cases d <;> try cases e
  exact (vr_str r).2
/-- the container behind c[i] = v -/
def setIt (c i v : D) : Option D := match c with
  | .lst ds => match i with
    | .int k => (ixN ds.length k).map fun j => .lst (ds.set j v)
    | _ => none
  | .dic kvs => match i.key? with
    | some q => if kvs.length < 16777216 then some (.dic (dputK kvs q i v)) else none
    | none => none
  | _ => none
def rSetA : TSet := fun o i v H Q => rSetL o i v H Q ∨ rSetD o i v H Q
theorem set_any (hu : X.A.units + 1 < cLine) : PSet X rSetA := fun pins s σ H o i v ov iv u Q I ro ri rv h => by
  rcases h with h | h
  · exact set_list pins s σ H o i v ov iv u Q I ro ri rv h
  · exact set_dict hu pins s σ H o i v ov iv u Q I ro ri rv h
/-- a container that stands at a is changed -/
theorem setIt_obj {G : Gs} {μ : List Addr} {F H H1 : Hp} {a : Addr} {c i v c' : D} {iv vv : V} (e : setIt c i v = some c') (o : ObjAt G μ F H a c) (ri : RK G ka H1 μ F H i iv) (rv : Rp G μ F v vv) :
    ∃ u n, H a = some u ∧ (∀ x, u ≠ .own x) ∧ ObjAt G μ F (upd H a n) a c' ∧ (∀ C dx fv, n = .ins C dx fv → ∃ fv', u = .ins C dx fv') ∧ ∀ Q : Hp → Prop, Q (upd H a n) → rSetA (.ref a) iv vv H Q := by
  unfold setIt at e
  cases c <;> try (cases e; done)
  · rename_i ds
    obtain ⟨f, z, vs, hq, rl⟩ := o
    cases i <;> try (cases e; done)
    rename_i k
    simp only [Option.map_eq_some_iff] at e
    obtain ⟨j, hj, rfl⟩ := e
    refine ⟨_, .lst (vs.set j vv), hq, (fun x q => by cases q), ⟨f, by rw [List.length_set]; exact z, _, upd_same, rpl_set rv j rl⟩, (fun _ _ _ q => by cases q), fun Q q => .inl ⟨a, vs, k, j, rfl, rk_int ri, hq, by rw [rpl_len rl]; exact hj, q⟩⟩
  · rename_i kvs
    obtain ⟨f, z, L, hq, rk⟩ := o
    simp only at e
    cases hk : i.key? with
    | none => rw [hk] at e; cases e
    | some q =>
      rw [hk] at e
      simp only at e
      split at e
      · rename_i hz
        cases e
        have vi := rk_vr ri
        refine ⟨_, .dK (putK L q vv), hq, (fun x q => by cases q), ⟨f, ?_, _, upd_same, rpk_put hk (key_ok hk vi) rv rk⟩, (fun _ _ _ q => by cases q), fun Q w => .inr ⟨a, _, rfl, .inl ⟨L, q, hq, key_v hk vi, by rw [rpk_len rk]; exact line_eq hz, rfl⟩, w⟩⟩
        have h1 := rpk_len (rpk_put hk (key_ok hk vi) rv rk)
        have h2 := length_putK L q vv
        have h3 := rpk_len rk
        rw [← h1, sizeLine_eq]
        omega
      · cases e
def ofE (o : Option D) : M D := ofO o
def setOwnIt (i : Nat) (mk mv : Env → M D) : MS := fun ρ => do
  let v ← mv ρ
  let c ← getV ρ i
  let k ← mk ρ
  let c' ← ofO (setIt c k v)
  pure (.nx, ρ.set i (some c'))
/-- x[k] = v, x a container of one's own -/
theorem ss_setIt (i : Nat) {x : Str} {e v : Expr} {p spos pos : Pos} {mk mv : Env → M D} (hu : X.A.units + 1 < cLine) (hv : SK cl md X .val v mv) (hk : SK cl md X .val e mk) (hm : md[i]? = some .own := by rfl) (hN : X.N[i]? = some x := by rfl) (hvis : Vis X.env.scope x := by first | exact Or.inl rfl | exact Or.inr (Or.inl rfl) | exact Or.inr (Or.inr rfl)) (hd : (x == ("__debug__" : Str)) = false := by decide)
    (hcd : (x == ("__classdict__" : Str)) = false := by decide)
    (ha : ∀ v, assign (.Subscript (.Name x p) e spos) X.env v = (do
      let ov ← holding [v] (eval (.Name x p) X.env)
      let iv ← holding [v, ov] (eval e X.env)
      standAt spos
      holding [v, ov, iv] (setItem ov iv v)
      release [v, ov, iv] []) := by intro _; rfl)
    (hs : swapsWithSole [.Subscript (.Name x p) e spos] v pos.line X.env = pure false := by rfl) (hw : swappedStores [.Subscript (.Name x p) e spos] v X.env = pure none := by rfl)
    (h1 : (assignEach [.Subscript (.Name x p) e spos] X.env).map (·.2) = [assign (.Subscript (.Name x p) e spos) X.env] := by rfl) : SS cl md B X (.Assign [.Subscript (.Name x p) e spos] v pos) (setOwnIt i mk mv) :=
  PS.mono (ps_asg hv (pg_sub (pe_var hN hvis hd hcd) hk (set_any hu) ha) hs hw h1) fun D σ H ⟨ρ, μ, F, st, s, w⟩ => by
  refine ⟨ρ, μ, F, st, s.env, s.sto, ?_⟩
  unfold setOwnIt at w
  rw [M.gives_bind] at w
  refine M.gives_mono w fun dv st1 w1 vv μ1 F1 H1 p1 s1 r1 => ?_
  rw [M.gives_bind] at w1
  obtain ⟨c, ec, w1⟩ := getV_gives w1
  have t1 := s.step p1 s1
  obtain ⟨a, ea, na, oa⟩ := own_at t1 hm ec
  refine ⟨.ref a, ea, ρ, μ1, F1, st1, t1.env, s1, ?_⟩
  rw [M.gives_bind] at w1
  refine M.gives_mono w1 fun dk st2 w2 kv μ2 F2 H2 p2 s2 r2 => ?_
  rw [M.gives_bind] at w2
  obtain ⟨c', e', w2⟩ := ofO_gives w2
  have t2 := t1.step p2 s2
  have oa2 := oa.post p2 na
  have r2' : RK (gs X cl) .val H1 μ2 F2 H2 dk kv := r2
  obtain ⟨u, n, hu', nu, new, kd, fin⟩ := setIt_obj e' oa2 r2' (Rp.post p2 r1)
  exact fin _ (w2 σ μ2 F2 _ (t2.mut hm ec ea hu' nu new kd) (p1.subF.trans p2.subF) (p1.mu.trans p2.mu))
/-- o[k] = v, o a thing of the store -/
def putRef (o k v : D) : M Unit := fun st => match o with
  | .ref l => match st[l]? with
    | some c => match setIt c k v with
      | some c' => .ok () (st.set l c')
      | none => .bad
    | none => .bad
  | _ => .bad
def setRefIt (mo mk mv : Env → M D) : MS := fun ρ => do
  let v ← mv ρ
  let o ← mo ρ
  let k ← mk ρ
  let _ ← putRef o k v
  pure (.nx, ρ)
theorem putRef_gives {o k v : D} {st : Sto} {P : Unit → Sto → Prop} (h : (putRef o k v).gives st P) : ∃ l c c', o = .ref l ∧ st[l]? = some c ∧ setIt c k v = some c' ∧ P () (st.set l c') := by
  unfold putRef M.gives at h
  cases o <;> try exact h.elim
  rename_i l
  simp only at h
  cases e : st[l]? with
  | none => rw [e] at h; exact h.elim
  | some c =>
    rw [e] at h
    simp only at h
    cases e2 : setIt c k v with
    | none => rw [e2] at h; exact h.elim
    | some c' => rw [e2] at h; exact ⟨l, c, c', rfl, e, e2, h⟩
theorem ss_setRef {o e v : Expr} {spos pos : Pos} {mo mk mv : Env → M D} (hu : X.A.units + 1 < cLine) (hv : SK cl md X .val v mv) (ho : SK cl md X .val o mo) (hk : SK cl md X .val e mk)
    (ha : ∀ v, assign (.Subscript o e spos) X.env v = (do
      let ov ← holding [v] (eval o X.env)
      let iv ← holding [v, ov] (eval e X.env)
      standAt spos
      holding [v, ov, iv] (setItem ov iv v)
      release [v, ov, iv] []) := by intro _; rfl)
    (hs : swapsWithSole [.Subscript o e spos] v pos.line X.env = pure false := by rfl) (hw : swappedStores [.Subscript o e spos] v X.env = pure none := by rfl)
    (h1 : (assignEach [.Subscript o e spos] X.env).map (·.2) = [assign (.Subscript o e spos) X.env] := by rfl) : SS cl md B X (.Assign [.Subscript o e spos] v pos) (setRefIt mo mk mv) :=
  PS.mono (ps_asg hv (pg_sub ho hk (set_any hu) ha) hs hw h1) fun D σ H ⟨ρ, μ, F, st, s, w⟩ => by
  refine ⟨ρ, μ, F, st, s.env, s.sto, ?_⟩
  unfold setRefIt at w
  rw [M.gives_bind] at w
  refine M.gives_mono w fun dv st1 w1 vv μ1 F1 H1 p1 s1 r1 => ⟨ρ, μ1, F1, st1, s.env.post p1, s1, ?_⟩
  rw [M.gives_bind] at w1
  refine M.gives_mono w1 fun dob st2 w2 ov μ2 F2 H2 p2 s2 r2 => ⟨ρ, μ2, F2, st2, (s.env.post p1).post p2, s2, ?_⟩
  rw [M.gives_bind] at w2
  refine M.gives_mono w2 fun dk st3 w3 kv μ3 F3 H3 p3 s3 r3 => ?_
  rw [M.gives_bind] at w3
  obtain ⟨l, c, c', rfl, ec, e', w4⟩ := putRef_gives w3
  obtain ⟨a, rfl, hl⟩ := (show Rp (gs X cl) μ3 F3 (.ref l) ov from Rp.post p3 r2)
  have oa := s3.obj l a c hl ec
  have r3' : RK (gs X cl) .val H2 μ3 F3 H3 dk kv := r3
  obtain ⟨u, n, hu', nu, new, _, fin⟩ := setIt_obj e' oa r3' (Rp.post p3 (Rp.post p2 r1))
  have p := (p1.trans p2).trans p3
  exact fin _ (w4 σ μ3 F3 _ (s.step (p.putAt hl ⟨u, hu'⟩) (s3.putAt hl hu' nu new)) p.subF p.mu)
end
end Sh
namespace Sh
open PySem PySem.Spec PyProof.Rows L2
section
variable {cl : String → Option Addr} {md : List Md} {X : Cx} {B : Bs} {ka kb kr : Kd}
/-! ### .pop(i), .insert(i, e) -/
def popAt (c : D) (i : D) : Option (D × D) := match c, i with
  | .lst ds, .int k => match seqIndex? k ds.length with
    | some j => (ds[j]?).map fun y => (y, .lst (ds.eraseIdx j))
    | none => none
  | _, _ => none
theorem seqIx_bd {k : Int} {n j : Nat} (h : seqIndex? k n = some j) : -(n : Int) ≤ k ∧ k < n := by
  unfold seqIndex? at h
  by_cases h0 : k < 0
  · simp only [if_pos h0] at h
    split at h
    · rename_i q
      simp only [Bool.and_eq_true, decide_eq_true_eq] at q
      omega
    · cases h
  · simp only [if_neg h0] at h
    split at h
    · rename_i q
      simp only [Bool.and_eq_true, decide_eq_true_eq] at q
      omega
    · cases h
theorem popAt_obj {G : Gs} {μ : List Addr} {F H H1 : Hp} {a : Addr} {c i y c' : D} {iv : V} (e : popAt c i = some (y, c')) (o : ObjAt G μ F H a c) (ri : RK G ka H1 μ F H i iv) :
    ∃ vs yv n, H a = some (.lst vs) ∧ Rp G μ F y yv ∧ ObjAt G μ F (upd H a (.lst n)) a c' ∧ ∀ Q : VK, Q yv (upd H a (.lst n)) → rPopAt (.ref a) [iv] H Q := by
  unfold popAt at e
  cases c <;> try (cases e; done)
  cases i <;> try (cases e; done)
  rename_i ds k
  simp only at e
  obtain ⟨f, z, vs, hq, rl⟩ := o
  cases ej : seqIndex? k ds.length with
  | none => rw [ej] at e; cases e
  | some j =>
    rw [ej] at e
    simp only [Option.map_eq_some_iff] at e
    obtain ⟨y', hy, e⟩ := e
    cases e
    obtain ⟨yv, hyv, ry⟩ := rpl_get' rl hy
    refine ⟨vs, yv, vs.eraseIdx j, hq, ry, ⟨f, ?_, _, upd_same, rpl_erase j rl⟩, fun Q q => ⟨a, vs, k, j, yv, rfl, by rw [rk_int ri], hq, ?_, ?_, by rw [rpl_len rl]; exact ej, hyv, q⟩⟩
    · exact Nat.le_trans (List.length_eraseIdx_le _ _) z
    · have := (seqIx_bd ej).1
      rw [sizeLine_eq] at z
      omega
    · have := (seqIx_bd ej).2
      rw [sizeLine_eq] at z
      omega
def ofOP (o : Option (D × D)) : M (D × D) := match o with
  | some p => pure p
  | none => M.bad
theorem ofOP_gives {o : Option (D × D)} {st : Sto} {P : D × D → Sto → Prop} (h : (ofOP o).gives st P) : ∃ y c, o = some (y, c) ∧ P (y, c) st := by
  cases o with
  | none => exact h.elim
  | some d => exact ⟨d.1, d.2, rfl, h⟩
def popOwnS (i : Nat) (m : Env → M D) : MS := fun ρ => do
  let c ← getV ρ i
  let d ← m ρ
  let p ← ofOP (popAt c d)
  pure (.nx, ρ.set i (some p.2))
/-- x.pop(e), as a statement -/
theorem ss_popAt (i : Nat) {x : Str} {e : Expr} {p apos cpos pos : Pos} {m : Env → M D} (h : SK cl md X .val e m) (hm : md[i]? = some .own := by rfl) (hN : X.N[i]? = some x := by rfl) (hv : Vis X.env.scope x := by first | exact Or.inl rfl | exact Or.inr (Or.inl rfl) | exact Or.inr (Or.inr rfl)) (hd : (x == ("__debug__" : Str)) = false := by decide)
    (hcd : (x == ("__classdict__" : Str)) = false := by decide) (hst : starEach [e] X.env = [(false, eval e X.env)] := by rfl)
    (hb : Bm1 X "list" rPopAt (.Name x p) "pop" apos e cpos := by intro _ _ ho ha; exact pe_bm PySem.F.plainAttrs_list PySem.F.slot_list_pop PySem.F.type_list_pop mt_popAt ho ha)
    (hsw : swapsWith (.Call (.Attribute (.Name x p) "pop" apos) [e] [] cpos) none pos.line X.env = pure false := by rfl) : SS cl md B X (.Expr (.Call (.Attribute (.Name x p) "pop" apos) [e] [] cpos) pos) (popOwnS i m) :=
  PS.mono (ps_expr (hb _ _ (pe_var hN hv hd hcd) (sa_one h hst)) hsw) fun D σ H ⟨ρ, μ, F, st, s, w⟩ => by
  unfold popOwnS at w
  rw [M.gives_bind] at w
  obtain ⟨c, ec, w⟩ := getV_gives w
  rw [M.gives_bind] at w
  obtain ⟨a, ea, na, oa⟩ := own_at s hm ec
  cases c with
  | lst ds =>
    obtain ⟨f, z, vs, e1, r⟩ := id oa
    refine ⟨.ref a, ea, .inl ⟨rfl, _, .inl (.inl e1)⟩, tkl_one s.env s.sto (M.gives_mono w fun d st1 w1 u μ1 F1 H1 p1 s1 ru => ?_)⟩
    rw [M.gives_bind] at w1
    obtain ⟨y, c', ep, w2⟩ := ofOP_gives w1
    have ru' : RK (gs X cl) .val H μ1 F1 H1 d u := ru
    obtain ⟨vs', yv, n, hq, ry, new, fin⟩ := popAt_obj ep (oa.post p1 na) ru'
    exact fin _ (w2 σ μ1 F1 _ ((s.step p1 s1).mut hm ec ea hq (fun x q => by cases q) new (fun _ _ _ q => by cases q)) p1.subF p1.mu)
  | _ =>
    exfalso
    refine M.gives_det w |>.elim fun d h => h.elim fun st1 h => ?_
    have h := h.2
    rw [M.gives_bind] at h
    obtain ⟨y, c', ep, _⟩ := ofOP_gives h
    cases d <;> cases ep
/-- o.pop(e), o a list of the store -/
def popRef (o k : D) : M D := fun st => match o with
  | .ref l => match st[l]? with
    | some c => match popAt c k with
      | some (y, c') => .ok y (st.set l c')
      | none => .bad
    | none => .bad
  | _ => .bad
theorem popRef_gives {o k : D} {st : Sto} {P : D → Sto → Prop} (h : (popRef o k).gives st P) : ∃ l c y c', o = .ref l ∧ st[l]? = some c ∧ popAt c k = some (y, c') ∧ P y (st.set l c') := by
  unfold popRef M.gives at h
  cases o <;> try exact h.elim
  rename_i l
  simp only at h
  cases e : st[l]? with
  | none => rw [e] at h; exact h.elim
  | some c =>
    rw [e] at h
    simp only at h
    cases e2 : popAt c k with
    | none => rw [e2] at h; exact h.elim
    | some p => rw [e2] at h; exact ⟨l, c, p.1, p.2, rfl, e, e2, h⟩
def needLst (d : D) : M Unit := do
  let x ← view d
  match x with
  | .lst _ => pure ()
  | _ => M.bad
def popRefM (mo mk : Env → M D) : Env → M D := fun ρ => do
  let o ← mo ρ
  let _ ← needLst o
  let k ← mk ρ
  popRef o k
theorem sk_popRef {o e : Expr} {apos cpos : Pos} {mo mk : Env → M D} (ho : SK cl md X .val o mo) (he : SK cl md X .val e mk) (hst : starEach [e] X.env = [(false, eval e X.env)] := by rfl)
    (hb : Bm1 X "list" rPopAt o "pop" apos e cpos := by intro _ _ ho ha; exact pe_bm PySem.F.plainAttrs_list PySem.F.slot_list_pop PySem.F.type_list_pop mt_popAt ho ha) : SK cl md X .val (.Call (.Attribute o "pop" apos) [e] [] cpos) (popRefM mo mk) :=
  PE.mono (hb _ _ ho (sa_one he hst)) fun σ H Q ⟨ρ, μ, F, st, hE, hS, w⟩ => by
  refine ⟨ρ, μ, F, st, hE, hS, ?_⟩
  unfold popRefM at w
  rw [M.gives_bind] at w
  refine M.gives_mono w fun x st1 w1 xv μ1 F1 H1 p1 s1 r1 => ?_
  rw [M.gives_bind] at w1
  unfold needLst at w1
  rw [M.gives_bind] at w1
  have r1' : RK (gs X cl) .val H μ1 F1 H1 x xv := r1
  obtain ⟨x', vx, w1⟩ := view_gives s1 r1' w1
  cases x' <;> try exact w1.elim
  obtain ⟨a, vs, rfl, hq, rl, _⟩ := vr_lst s1.sub vx
  have w1 : (do let k ← mk ρ; popRef x k).gives st1 (Want (gs X cl) .val μ F H Q) := w1
  rw [M.gives_bind] at w1
  refine ⟨.inl ⟨rfl, _, .inl (.inl hq)⟩, tkl_one (hE.post p1) s1 (M.gives_mono w1 fun k st2 w2 kv μ2 F2 H2 p2 s2 r2 => ?_)⟩
  obtain ⟨l, c, y, c', rfl, ec, ep, w3⟩ := popRef_gives w2
  obtain ⟨a', ea, hl⟩ := (show Rp (gs X cl) μ2 F2 (.ref l) (.ref a) from Rp.post p2 r1)
  cases ea
  have r2' : RK (gs X cl) .val H1 μ2 F2 H2 k kv := r2
  obtain ⟨vs', yv, n, hq', ry, new, fin⟩ := popAt_obj ep (s2.obj l a c hl ec) r2'
  exact fin _ (w3 yv μ2 F2 _ ((p1.trans p2).putAt hl ⟨_, hq'⟩) (s2.putAt hl hq' (fun x q => by cases q) new) ry)

def insAt (c i d : D) : Option D := match c, i with
  | .lst ds, .int k => if 0 ≤ k ∧ k < 16777216 ∧ ds.length < 16777216 then some (.lst (ds.take k.toNat ++ [d] ++ ds.drop k.toNat)) else none
  | _, _ => none
def insOwnS (i : Nat) (m n : Env → M D) : MS := fun ρ => do
  let c ← getV ρ i
  let k ← m ρ
  let d ← n ρ
  let c' ← ofO (insAt c k d)
  pure (.nx, ρ.set i (some c'))
def rIns : V → List V → Hp → VK → Prop := fun x vs H Q => ∃ (l : Addr) (xs : List V) (i : Int) (y : V), x = .ref l ∧ vs = [.int i, y] ∧ H l = some (.lst xs) ∧ xs.length < sizeLine ∧ 0 ≤ i ∧ i < 2 ^ 63 ∧ Q .non (upd H l (.lst (xs.take i.toNat ++ [y] ++ xs.drop i.toNat)))
def Bm2 (X : Cx) (T : String) (r : V → List V → Hp → VK → Prop) (o : Expr) (n : Str) (apos : Pos) (e f : Expr) (cpos : Pos) : Prop := ∀ to t, PE X o to → PA X [e, f] t → PE X (.Call (.Attribute o n apos) [e, f] [] cpos) (tBM X.K T r to t)
/-- x.insert(e, f) -/
theorem ss_insert (i : Nat) {x : Str} {e f : Expr} {p apos cpos pos : Pos} {m n : Env → M D} (h : SK cl md X .val e m) (h2 : SK cl md X .val f n) (hm : md[i]? = some .own := by rfl) (hN : X.N[i]? = some x := by rfl) (hv : Vis X.env.scope x := by first | exact Or.inl rfl | exact Or.inr (Or.inl rfl) | exact Or.inr (Or.inr rfl)) (hd : (x == ("__debug__" : Str)) = false := by decide)
    (hcd : (x == ("__classdict__" : Str)) = false := by decide) (hst : starEach [e, f] X.env = (false, eval e X.env) :: starEach [f] X.env := by rfl) (hst2 : starEach [f] X.env = [(false, eval f X.env)] := by rfl)
    (hb : Bm2 X "list" rIns (.Name x p) "insert" apos e f cpos := by intro _ _ ho ha; exact pe_bm PySem.F.plainAttrs_list PySem.F.slot_list_insert PySem.F.type_list_insert mt_insert ho ha)
    (hsw : swapsWith (.Call (.Attribute (.Name x p) "insert" apos) [e, f] [] cpos) none pos.line X.env = pure false := by rfl) : SS cl md B X (.Expr (.Call (.Attribute (.Name x p) "insert" apos) [e, f] [] cpos) pos) (insOwnS i m n) :=
  PS.mono (ps_expr (hb _ _ (pe_var hN hv hd hcd) (sa_cons h (sa_one h2 hst2) hst)) hsw) fun D σ H ⟨ρ, μ, F, st, s, w⟩ => by
  unfold insOwnS at w
  rw [M.gives_bind] at w
  obtain ⟨c, ec, w⟩ := getV_gives w
  rw [M.gives_bind] at w
  obtain ⟨a, ea, na, oa⟩ := own_at s hm ec
  have isl : ∃ ds, c = .lst ds := by
    obtain ⟨d, st1, _, h⟩ := M.gives_det w
    rw [M.gives_bind] at h
    obtain ⟨d2, st2, _, h⟩ := M.gives_det h
    rw [M.gives_bind] at h
    obtain ⟨c', ep, _⟩ := ofO_gives h
    cases c <;> first | exact ⟨_, rfl⟩ | (cases d <;> cases ep)
  obtain ⟨ds, rfl⟩ := isl
  obtain ⟨ff, z, vs, e1, r⟩ := id oa
  refine ⟨.ref a, ea, .inl ⟨rfl, _, .inl (.inl e1)⟩, ρ, μ, F, st, s.env, s.sto, ?_⟩
  rw [M.gives_bind]
  refine M.gives_mono w fun d st1 w1 => ?_
  rw [M.gives_bind] at w1 ⊢
  show M.gives (n ρ >>= fun x => pure [x]) st1 _
  rw [M.gives_bind]
  refine M.gives_mono w1 fun d2 st2 w2 => ?_
  show WantL _ _ _ _ _ _ [d, d2] st2
  intro us μ1 F1 H1 p1 s1 ⟨l1, l2, r1⟩
  match us, l2 with
  | [u, v], _ =>
    have ru := r1 0 .val d u rfl rfl rfl
    have rv := r1 1 .val d2 v rfl rfl rfl
    rw [M.gives_bind] at w2
    obtain ⟨c', ep, w2⟩ := ofO_gives w2
    unfold insAt at ep
    cases d <;> try (cases ep; done)
    rename_i k
    simp only at ep
    split at ep
    · rename_i hk
      cases ep
      have e2 : H1 a = some (.lst vs) := p1.keep _ _ e1 na
      have r' := RpL.post p1 r
      have rv' : Rp (gs X cl) μ1 F1 d2 v := rv
      refine ⟨a, vs, k, v, rfl, by rw [rk_int ru], e2, by rw [rpl_len r]; exact line_eq hk.2.2, hk.1, by omega, ?_⟩
      refine w2 σ μ1 F1 _ ((s.step p1 s1).mut hm ec ea e2 (fun x q => by cases q) ⟨p1.unfrz e1 ff, ?_, _, upd_same, rpl_app (rpl_app (rpl_take _ r') ⟨v, [], rfl, rv', rfl⟩) (rpl_drop _ r')⟩ (fun _ _ _ q => by cases q)) p1.subF p1.mu
      simp only [List.length_append, List.length_take, List.length_drop, List.length_cons, List.length_nil]
      rw [sizeLine_eq]
      omega
    · cases ep

/-! ### a, b = x, y -/
def kdOf : Md → Kd
  | .val => .val
  | .bor => .bor
  | .own => .fre
theorem Sit.setO {G : Gs} {ρ : Env} {σ : L2.St} {μ μ1 : List Addr} {F F1 H H1 : Hp} {st st1 : Sto} {i : Nat} {d : D} {v : V} (s : Sit G md B ρ σ μ F H st) (p1 : Post μ F H μ1 F1 H1) (s1 : StOk G μ1 F1 H1 st1) (hm : md[i]? = some .own) (r : RK G .fre H μ1 F1 H1 d v) :
    Sit G md B (ρ.set i (some d)) (σ.set i (some v)) μ1 F1 H1 st1 := by
  obtain ⟨a, rfl, n, z, o⟩ := r
  have s' := s.step p1 s1
  have hr : i < ρ.length := by rw [← s.env.mdl]; exact (List.getElem?_eq_some_iff.mp hm).1
  have hs : i < σ.length := by rw [← s.env.len]; exact hr
  refine ⟨s.env.setO p1 n hm o, s1, s'.post, fun j e b e1 e2 e3 => ?_⟩
  by_cases hj : i = j
  · subst hj
    rw [List.getElem?_set_self hs] at e3; cases e3
    exact ⟨s.post.free n, fun C dx fv q => s.post.free (z C dx fv q)⟩
  · rw [List.getElem?_set_ne hj] at e2 e3
    exact s'.fre j e b e1 e2 e3
section
variable {G : Gs} {ρ : Env} {σ : L2.St} {μ μ1 : List Addr} {F F1 H H1 : Hp} {st st1 : Sto} {i j l : Nat} {d e f : D} {v u w : V} {mi mj ml : Md}
theorem Sit.fill (s : Sit G md B ρ σ μ F H st) (p1 : Post μ F H μ1 F1 H1) (s1 : StOk G μ1 F1 H1 st1) (hm : md[i]? = some mi) (hb : mi ≠ .bor) (r : RK G (kdOf mi) H μ1 F1 H1 d v) : Sit G md B (ρ.set i (some d)) (σ.set i (some v)) μ1 F1 H1 st1 := by
  cases mi with
  | val => exact (s.step p1 s1).setV hm r
  | bor => exact absurd rfl hb
  | own => exact s.setO p1 s1 hm r
theorem Sit.two (s : Sit G md B ρ σ μ F H st) (p1 : Post μ F H μ1 F1 H1) (s1 : StOk G μ1 F1 H1 st1) (hi : md[i]? = some mi) (hj : md[j]? = some mj) (ne : i ≠ j) (bi : mi ≠ .bor) (bj : mj ≠ .bor) (one : mi = .val ∨ mj = .val) (ri : RK G (kdOf mi) H μ1 F1 H1 d v) (rj : RK G (kdOf mj) H μ1 F1 H1 e u) :
    Sit G md B ((ρ.set i (some d)).set j (some e)) ((σ.set i (some v)).set j (some u)) μ1 F1 H1 st1 := by
  rcases one with h | h
  · subst h
    rw [List.set_comm _ _ ne, List.set_comm _ _ ne]
    exact (s.fill p1 s1 hj bj rj).setV hi ri
  · subst h
    exact (s.fill p1 s1 hi bi ri).setV hj rj
theorem Sit.three (s : Sit G md B ρ σ μ F H st) (p1 : Post μ F H μ1 F1 H1) (s1 : StOk G μ1 F1 H1 st1) (hi : md[i]? = some mi) (hj : md[j]? = some mj) (hl : md[l]? = some ml) (nij : i ≠ j) (nil : i ≠ l) (njl : j ≠ l) (bi : mi ≠ .bor) (bj : mj ≠ .bor) (bl : ml ≠ .bor)
    (one : (mi = .val ∧ mj = .val) ∨ (mi = .val ∧ ml = .val) ∨ (mj = .val ∧ ml = .val)) (ri : RK G (kdOf mi) H μ1 F1 H1 d v) (rj : RK G (kdOf mj) H μ1 F1 H1 e u) (rl : RK G (kdOf ml) H μ1 F1 H1 f w) :
    Sit G md B (((ρ.set i (some d)).set j (some e)).set l (some f)) (((σ.set i (some v)).set j (some u)).set l (some w)) μ1 F1 H1 st1 := by
  rcases one with ⟨h1, h2⟩ | ⟨h1, h2⟩ | ⟨h1, h2⟩
  · subst h1 h2
    rw [List.set_comm (i := j) (j := l) _ _ njl, List.set_comm (i := i) (j := l) _ _ nil, List.set_comm (i := j) (j := l) _ _ njl, List.set_comm (i := i) (j := l) _ _ nil]
    exact ((s.fill p1 s1 hl bl rl).setV hi ri).setV hj rj
  · subst h1 h2
    exact (s.two p1 s1 hi hj nij (by decide) bj (.inl rfl) ri rj).setV hl rl
  · subst h1 h2
    exact (s.two p1 s1 hi hj nij bi (by decide) (.inr rfl) ri rj).setV hl rl
end
def par2S (i j : Nat) (m : Env → M (List D)) : MS := fun ρ => do
  let ds ← m ρ
  match ds with
  | [d, e] => pure (.nx, (ρ.set i (some d)).set j (some e))
  | _ => M.bad
def par3S (i j l : Nat) (m : Env → M (List D)) : MS := fun ρ => do
  let ds ← m ρ
  match ds with
  | [d, e, f] => pure (.nx, ((ρ.set i (some d)).set j (some e)).set l (some f))
  | _ => M.bad
theorem ss_par2 (i j : Nat) (mi mj : Md) {x y : Str} {a b : Expr} {px py pt pos : Pos} {kt k2 pt2} {m : Env → M (List D)} (hc : X.calm = true) (hN : X.N.Nodup) (ha : SA cl md X [kdOf mi, kdOf mj] [a, b] m) (hmi : md[i]? = some mi := by rfl) (hmj : md[j]? = some mj := by rfl)
    (hi : X.N[i]? = some x := by rfl) (hj : X.N[j]? = some y := by rfl) (hij : i ≠ j := by decide) (bi : mi ≠ .bor := by decide) (bj : mj ≠ .bor := by decide) (one : mi = .val ∨ mj = .val := by decide)
    (hx : X.env.scope.names.lookup x = some .local := by rfl) (hy : X.env.scope.names.lookup y = some .local := by rfl)
    (hw : swappedStores [.Tuple [.Name x px, .Name y py] kt pt] (.Tuple [a, b] k2 pt2) X.env = pure (some [x, y]) := by rfl)
    (hs : swapsWithSole [.Tuple [.Name x px, .Name y py] kt pt] (.Tuple [a, b] k2 pt2) pos.line X.env = pure false := by rfl) :
    SS cl md B X (.Assign [.Tuple [.Name x px, .Name y py] kt pt] (.Tuple [a, b] k2 pt2) pos) (par2S i j m) :=
  PS.mono (ps_par hc hN hi hj hij hx hy ha hw hs) fun D σ H ⟨ρ, μ, F, st, s, w⟩ => by
  refine ⟨ρ, μ, F, st, s.env, s.sto, ?_⟩
  unfold par2S at w
  rw [M.gives_bind] at w
  refine M.gives_mono w fun ds st1 w1 us μ1 F1 H1 p1 s1 ⟨l1, l2, r1⟩ => ?_
  match ds, us, l1, l2 with
  | [d, e], [v, u], _, _ => exact ⟨v, u, rfl, w1 _ μ1 F1 H1 (s.two p1 s1 hmi hmj hij bi bj one (r1 0 _ d v rfl rfl rfl) (r1 1 _ e u rfl rfl rfl)) p1.subF p1.mu⟩
theorem ss_par3 (i j l : Nat) (mi mj ml : Md) {x y z : Str} {a b c : Expr} {px py pz pt pos : Pos} {kt k2 pt2} {m : Env → M (List D)} (hc : X.calm = true) (hN : X.N.Nodup) (ha : SA cl md X [kdOf mi, kdOf mj, kdOf ml] [a, b, c] m) (hmi : md[i]? = some mi := by rfl) (hmj : md[j]? = some mj := by rfl) (hml : md[l]? = some ml := by rfl)
    (hi : X.N[i]? = some x := by rfl) (hj : X.N[j]? = some y := by rfl) (hl : X.N[l]? = some z := by rfl) (hij : i ≠ j := by decide) (hil : i ≠ l := by decide) (hjl : j ≠ l := by decide) (bi : mi ≠ .bor := by decide) (bj : mj ≠ .bor := by decide) (bl : ml ≠ .bor := by decide)
    (one : (mi = .val ∧ mj = .val) ∨ (mi = .val ∧ ml = .val) ∨ (mj = .val ∧ ml = .val) := by decide)
    (hx : X.env.scope.names.lookup x = some .local := by rfl) (hy : X.env.scope.names.lookup y = some .local := by rfl) (hz : X.env.scope.names.lookup z = some .local := by rfl)
    (hw : swappedStores [.Tuple [.Name x px, .Name y py, .Name z pz] kt pt] (.Tuple [a, b, c] k2 pt2) X.env = pure (some [x, y, z]) := by rfl)
    (hs : swapsWithSole [.Tuple [.Name x px, .Name y py, .Name z pz] kt pt] (.Tuple [a, b, c] k2 pt2) pos.line X.env = pure false := by rfl) :
    SS cl md B X (.Assign [.Tuple [.Name x px, .Name y py, .Name z pz] kt pt] (.Tuple [a, b, c] k2 pt2) pos) (par3S i j l m) :=
  PS.mono (ps_par3 hc hN hi hj hl hij hil hjl hx hy hz ha hw hs) fun D σ H ⟨ρ, μ, F, st, s, w⟩ => by
  refine ⟨ρ, μ, F, st, s.env, s.sto, ?_⟩
  unfold par3S at w
  rw [M.gives_bind] at w
  refine M.gives_mono w fun ds st1 w1 us μ1 F1 H1 p1 s1 ⟨l1, l2, r1⟩ => ?_
  match ds, us, l1, l2 with
  | [d, e, f], [v, u, q], _, _ => exact ⟨v, u, q, rfl, w1 _ μ1 F1 H1 (s.three p1 s1 hmi hmj hml hij hil hjl bi bj bl one (r1 0 _ d v rfl rfl rfl) (r1 1 _ e u rfl rfl rfl) (r1 2 _ f q rfl rfl rfl)) p1.subF p1.mu⟩

/-! ### a, b = e -/
def unpS (m : Env → M D) (g : D → Env → Option Env) : MS := fun ρ => do
  let d ← m ρ
  match g d ρ with
  | some ρ1 => pure (.nx, ρ1)
  | none => M.bad
theorem ss_unp {t e : Expr} {pos : Pos} {ns : List Nat} {m : Env → M D} {g : D → Env → Option Env} (h : SK cl md X .val e m) (hg : SG cl md X ns t g) (hv : ∀ i ∈ ns, md[i]? = some .val)
    (hs : swapsWithSole [t] e pos.line X.env = pure false := by rfl) (hw : swappedStores [t] e X.env = pure none := by rfl)
    (h1 : (assignEach [t] X.env).map (·.2) = [assign t X.env] := by rfl) : SS cl md B X (.Assign [t] e pos) (unpS m g) :=
  PS.mono (ps_asg h hg hs hw h1) fun D σ H ⟨ρ, μ, F, st, s, w⟩ => by
  refine ⟨ρ, μ, F, st, s.env, s.sto, ?_⟩
  unfold unpS at w
  rw [M.gives_bind] at w
  refine M.gives_mono w fun d st1 w1 v μ1 F1 H1 p1 s1 r1 => ?_
  cases eg : g d ρ with
  | none => rw [eg] at w1; exact w1.elim
  | some ρ1 =>
    rw [eg] at w1
    have t1 := s.step p1 s1
    refine ⟨ρ, μ1, F1, d, ρ1, t1.env, s1.sub, r1, eg, fun σ3 hE3 hl3 hσ3 => w1 σ3 μ1 F1 H1 ⟨hE3, s1, t1.post, fun j e a e1 e2 e3 => ?_⟩ p1.subF p1.mu⟩
    have nj : j ∉ ns := fun q => by rw [hv j q] at e1; cases e1
    obtain ⟨z1, z2⟩ := hσ3 j nj
    rw [z1] at e3
    rw [z2] at e2
    exact t1.fre j e a e1 e2 e3
end
end Sh
namespace Sh
open PySem PySem.Spec PyProof.Rows L2
section
variable {cl : String → Option Addr} {md : List Md} {X : Cx} {B : Bs} {ka kb kr : Kd}
/-! ### a text is walked sign by sign -/
def strItems (d : D) : M (List D) := match d with
  | .str s => pure (s.cps.toList.map fun c => .str ⟨#[c]⟩)
  | _ => M.bad
theorem it_str {G : Gs} {s : Str} (ok : okS s = true) : ItOk G (Its s) (fun _ _ _ => True) (s.cps.toList.map fun c => .str ⟨#[c]⟩) where
  keep := fun _ _ _ _ _ _ _ _ => trivial
  go := fun i μ F H _ _ hi => by simpa [Its] using hi
  yld := fun i μ F H x H' d st _ hs hd ⟨e, c, hc, hx⟩ => by
    subst e hx
    refine ⟨F, .refl, hs, ?_⟩
    rw [List.getElem?_map, Array.getElem?_toList, hc] at hd
    simp only [Option.map_some, Option.some.injEq] at hd
    subst hd
    refine ⟨rfl, okS_mk (by show (1 : Nat) ≤ 16777216; decide) ?_⟩
    have h2 := okS_ok ok
    unfold PyData.strOk at h2 ⊢
    rw [Array.all_eq_true_iff_forall_mem] at h2
    simpa using h2 c (Array.mem_of_getElem? hc)
  len := by rw [List.length_map, Array.length_toList]; exact okS_len ok
  stop := fun i μ F H _ _ hi => by simpa [Its] using hi
theorem si_str {tg x : Expr} {m : Env → M D} (h : SK cl md X .val x m) : SI cl md X tg x (fun ρ => do let d ← m ρ; strItems d) := PI.mono (pi_str h) fun σ H R ⟨ρ, μ, F, st, hE, hS, w⟩ => by
  refine ⟨ρ, μ, F, st, hE, hS, ?_⟩
  rw [M.gives_bind] at w
  refine M.gives_mono w fun d st1 w1 v μ1 F1 H1 p1 s1 r1 => ?_
  cases d <;> try exact w1.elim
  obtain ⟨rfl, ok⟩ := r1
  exact ⟨_, rfl, w1 _ _ μ1 F1 H1 p1 s1 (it_str ok) trivial⟩
theorem sis_str {tg x : Expr} {m : Env → M D} (h : SK cl md X .val x m) : SIS cl md B X tg x (fun ρ => do let d ← m ρ; strItems d) := PI.mono (pi_str h) fun σ H R ⟨ρ, μ, F, st, hE, hS, w⟩ => by
  refine ⟨ρ, μ, F, st, hE, hS, ?_⟩
  rw [M.gives_bind] at w
  refine M.gives_mono w fun d st1 w1 v μ1 F1 H1 p1 s1 r1 => ?_
  cases d <;> try exact w1.elim
  obtain ⟨rfl, ok⟩ := r1
  exact ⟨_, rfl, w1 _ _ μ1 F1 H1 p1 s1 (it_str ok) (fun _ _ _ _ _ _ _ _ _ _ _ => trivial) trivial⟩
/-! ### the ifs of a comprehension -/
theorem pts_none : PTs X [] (tKB (gs X cl) md fun _ => pure true) := by
  refine ⟨fun pins s σ H Q I ⟨ρ, μ, F, st, hE, hS, w⟩ => pts_nil.run pins s σ H Q I (w μ F H .refl hS)⟩
theorem pts_some {c : Expr} {m : Env → M Bool} (h : ST cl md X c m) : PTs X [c] (tKB (gs X cl) md m) := pts_one h
/-! ### f(k = v) -/
theorem sk_callK0 {pk : List Kd} {rk : Kd} {f : List D → M D} {k : Nat} {a : Addr} {fd : FuncData} {ps ks : List Str} {g : List Value → List Value → List Value} {gV : List V → List V → List V} {x : Str} {nm : Option Str} {p kpos pos : Pos} {e : Expr} {m : Env → M D}
    (F : FnOk X.prog X.w X.K X.mg X.base CX0 k a fd ps (spF (gs X cl) [ka] rk f)) (hr : Room k X.A) (hg : Gl X x) (hm : X.mg x = some (.ref a)) (hk : PySem.W.keepIn X.K (.ref a) = true) (hb : KBinds X.K fd ps ks g gV) (hgV : ∀ v, gV [] [v] = [v])
    (ha : SK cl md X ka e m) (hfr : ka ≠ .fre) (hdb : (x == ("__debug__" : Str)) = false := by decide) (hall : (backToKw pos (keywordEach [⟨nm, e, kpos⟩] X.env)).all (·.1.isSome) = true := by rfl) (hks : (backToKw pos (keywordEach [⟨nm, e, kpos⟩] X.env)).filterMap (·.1) = ks := by rfl)
    (hpl : ((backTo pos (starEach [] X.env)).any (·.1) || (backToKw pos (keywordEach [⟨nm, e, kpos⟩] X.env)).any (·.1.isNone)) = false := by rfl) :
    SK cl md X rk (.Call (.Name x p) [] [⟨nm, e, kpos⟩] pos) (fun ρ => do let d ← m ρ; f [d]) := by
  refine ⟨fun pins s σ H Q I h => wpAny_Call_Name_kw (ld_glob I hg hm ?_ hdb)⟩
  refine PySem.W.callWith_KW0 (h₀ := X.base) I.ok.mod.kin hk hall (thn ((pk_cons ha pk_nil).run pos pins s σ H (fun zs H2 => spF (gs X cl) [ka] rk f (gV [] zs) H2 Q E0) I ?_) fun ws s2 ⟨zs, H2, I2, rz, q2⟩ => ⟨I2.kIn, ?_⟩) hpl
  · obtain ⟨ρ, μ, Fr, st, hE, hS, w⟩ := h
    refine ⟨ρ, μ, Fr, st, hE, hS, ?_⟩
    rw [M.gives_bind] at w
    refine M.gives_mono w fun d st1 w1 v μ1 F1 H1 p1 s1 r1 => ?_
    refine ⟨μ1, F1, [d], st1, s1, rfl, by rw [hgV]; rfl, fun i k' d' v' e1 e2 e3 => ?_, M.gives_mono w1 fun d st2 w2 => w2.after p1⟩
    rw [hgV] at e3
    cases i with
    | succ i => simp at e1
    | zero =>
      simp only [List.getElem?_cons_zero, Option.some.injEq] at e1 e2 e3
      subst e1 e2 e3
      cases ka with
      | val => exact r1
      | bor => exact r1
      | fre => exact absurd rfl hfr
  · rw [hks]
    exact run_fnk (us := []) (vs := []) F hr hb pass0 I2 .nil rz q2
/-! ### is None -/
def isND (f : Bool → Bool) : D → M D
  | .non => pure (.bl (f true))
  | _ => pure (.bl (f false))
theorem rp_non {G : Gs} {μ : List Addr} {F : Hp} : ∀ {d : D}, Rp G μ F d .non → d = .non
  | .non, _ => rfl
  | .bl b, h => nomatch (show V.non = V.bl b from h)
  | .int i, h => nomatch (show V.non = V.int i from h)
  | .str s, h => nomatch h.1
  | .lst ds, ⟨_, _, _, h, _⟩ => nomatch h
  | .frl ds, ⟨_, _, _, h, _⟩ => nomatch h
  | .tup ds, ⟨_, _, _, h, _⟩ => nomatch h
  | .dic ds, ⟨_, _, _, h, _⟩ => nomatch h
  | .dit ds, ⟨_, _, _, h, _⟩ => nomatch h
  | .obj c fs, ⟨_, _, _, _, h, _⟩ => nomatch h
  | .ref l, ⟨_, h, _⟩ => nomatch h
def isNoneD (f : Bool → Bool) (x y : D) : M D := match y with
  | .non => isND f x
  | _ => M.bad
theorem o2_isN : Op2 (gs X cl) ka .val .val (fun x y H Q => y = .non ∧ Q (.bl (decide (x = .non))) H) (isNoneD id) := fun μ F H H1 H2 st d e v u Q s r1 r2 w => by
  cases e <;> try exact w.elim
  have r2 : u = .non := r2
  subst r2
  refine ⟨rfl, ?_⟩
  have vr := rk_vr r1
  by_cases q : v = .non
  · subst q
    have e : d = .non := by
      rcases vr with vr | ⟨a, h, _⟩
      · exact rp_non vr
      · cases h
    subst e
    exact w _ μ F H .refl s rfl
  · rw [decide_eq_false q]
    have nd : d ≠ .non := fun e => by
      subst e
      rcases vr with vr | ⟨a, _, o⟩
      · exact q vr
      · exact o.elim
    cases d <;> first | exact absurd rfl nd | exact w _ μ F H .refl s rfl
/-! ### names of the module -/
theorem sk_gstr {x : Str} {s : Str} {t : Tok} {pos : Pos} (hg : Gl X x) (hm : X.mg x = some (.str s t)) (ok : okS s = true) (hd : (x == ("__debug__" : Str)) = false := by decide) : SK cl md X .val (.Name x pos) (fun _ => pure (.str s)) :=
  PE.mono (pe_glob (v := .str s) hg hm ⟨t, rfl⟩ hd) fun σ H Q ⟨ρ, μ, F, st, hE, hS, w⟩ => w _ μ F H .refl hS ⟨rfl, ok⟩
theorem sk_gint {x : Str} {s : Int} {t : Tok} {pos : Pos} (hg : Gl X x) (hm : X.mg x = some (.int s t)) (hd : (x == ("__debug__" : Str)) = false := by decide) : SK cl md X .val (.Name x pos) (fun _ => pure (.int s)) :=
  PE.mono (pe_glob (v := .int s) hg hm ⟨t, rfl⟩ hd) fun σ H Q ⟨ρ, μ, F, st, hE, hS, w⟩ => w _ μ F H .refl hS rfl
/-- a tuple of texts -/
theorem sk_gtup {x : Str} {ss : List Str} {a : Addr} {pos : Pos} {o : Obj} {its : Array Value} {n : Nat} (hg : Gl X x) (hm : X.mg x = some (.ref a)) (hk : X.K.lookup a = some o) (hc : o.cls = .type "tuple") (hd' : o.data = .seq its n) (hz : its.size ≤ 1000) (hv : Vals (ss.map V.str) its.toList) (ok : ∀ s ∈ ss, okS s = true) (hd : (x == ("__debug__" : Str)) = false := by decide) :
    SK cl md X .val (.Name x pos) (fun _ => pure (.tup (ss.map .str))) :=
  PE.mono (pe_glob (v := .ref a) hg hm rfl hd) fun σ H Q ⟨ρ, μ, F, st, hE, hS, w⟩ => w _ μ F H .refl hS ⟨by
    have := hv.length
    rw [List.length_map] at this ⊢
    rw [this, Array.length_toList]
    exact line_of hz, a, ss.map V.str, rfl, .inr ⟨o, its, n, hk, hc, hd', line_of hz, hv⟩, rpl_ofS ok⟩
/-! ### what is returned -/
/-- an expression behind which the def ends: one's own containers may be handed over -/
def tR (G : Gs) (md : List Md) (B : Bs) (m : Env → M D) : TE := fun σ H Q => ∃ ρ μ F st, Sit G md B ρ σ μ F H st ∧ (m ρ).gives st fun d st' => ∀ v μ' F' H', Post B.μ B.F B.H μ' F' H' → StOk G μ' F' H' st' → RK G B.rk B.H μ' F' H' d v → Q v H'
def SR (cl : String → Option Addr) (md : List Md) (B : Bs) (X : Cx) (e : Expr) (m : Env → M D) : Prop := PE X e (tR (gs X cl) md B m)
theorem sr_of {e : Expr} {m : Env → M D} (h : SK cl md X B.rk e m) : SR cl md B X e m := PE.mono h fun σ H Q ⟨ρ, μ, F, st, s, w⟩ => ⟨ρ, μ, F, st, s.env, s.sto, M.gives_mono w fun d st1 w1 v μ1 F1 H1 p1 s1 r1 => w1 v μ1 F1 H1 (s.post.trans p1) s1 (r1.base fun _ n => s.post.free n)⟩
theorem sr_own (i : Nat) {x : Str} {p : Pos} (hk : B.rk ≠ .bor) (hm : md[i]? = some .own := by rfl) (hN : X.N[i]? = some x := by rfl) (hv : Vis X.env.scope x := by first | exact Or.inl rfl | exact Or.inr (Or.inl rfl) | exact Or.inr (Or.inr rfl)) (hd : (x == ("__debug__" : Str)) = false := by decide)
    (hcd : (x == ("__classdict__" : Str)) = false := by decide) : SR cl md B X (.Name x p) (fun ρ => getV ρ i) := PE.mono (pe_var hN hv hd hcd) fun σ H Q ⟨ρ, μ, F, st, s, w⟩ => by
  obtain ⟨d, e, w⟩ := getV_gives w
  obtain ⟨h0, h1, α, h2, h3, h4⟩ := s.env
  obtain ⟨v, ev, q⟩ := h2 i .own d hm e
  refine ⟨v, ev, ?_⟩
  cases ha : α i with
  | none => rw [ha] at q; exact absurd rfl q.1
  | some a =>
    rw [ha] at q
    obtain ⟨q1, _, q2⟩ := q
    subst q1
    obtain ⟨f1, f2⟩ := s.fre i d a hm e ev
    cases hb : B.rk with
    | val =>
      obtain ⟨F2, p2, s2, r2⟩ := freeze s.post s.sto ⟨a, rfl, f1, f2, q2⟩
      exact w (.ref a) μ F2 H p2 s2 (by rw [hb]; exact r2)
    | bor => exact absurd hb hk
    | fre => exact w (.ref a) μ F H s.post s.sto (by rw [hb]; exact ⟨a, rfl, f1, f2, q2⟩)
theorem sr_if {c a b : Expr} {pos : Pos} {mc : Env → M Bool} {ma mb : Env → M D} (hc : ST cl md X c mc) (ha : SR cl md B X a ma) (hb : SR cl md B X b mb) : SR cl md B X (.IfExp c a b pos) (fun ρ => do let t ← mc ρ; if t = true then ma ρ else mb ρ) := PE.mono (pe_ifExp hc ha hb) fun σ H Q ⟨ρ, μ, F, st, s, w⟩ => by
  refine ⟨ρ, μ, F, st, s.env, s.sto, ?_⟩
  rw [M.gives_bind] at w
  refine M.gives_mono w fun t st1 w1 μ1 F1 H1 p1 s1 => ?_
  cases t
  · rw [if_neg Bool.false_ne_true] at w1 ⊢
    exact ⟨ρ, μ1, F1, st1, s.step p1 s1, w1⟩
  · rw [if_pos rfl] at w1 ⊢
    exact ⟨ρ, μ1, F1, st1, s.step p1 s1, w1⟩
theorem ss_retR {e : Expr} {pos : Pos} {m : Env → M D} (h : SR cl md B X e m) : SS cl md B X (.Return (some e) pos) (retS m) := PS.mono (ps_ret h) fun D σ H ⟨ρ, μ, F, st, s, w⟩ => by
  refine ⟨ρ, μ, F, st, s, ?_⟩
  unfold retS at w
  rw [M.gives_bind] at w
  exact M.gives_mono w fun d st1 w1 => w1
/-! ### o[k] = x, x a container of one's own that is not used any more -/
def isObjD : D → Bool
  | .obj _ _ => true
  | _ => false
theorem Sit.drop {G : Gs} {ρ : Env} {σ : L2.St} {μ : List Addr} {F H : Hp} {st : Sto} {i : Nat} {d : D} (s : Sit G md B ρ σ μ F H st) (hm : md[i]? = some .own) (hd : ρ[i]? = some (some d)) (nob : isObjD d = false) :
    ∃ a F2, σ[i]? = some (some (.ref a)) ∧ Sub F F2 ∧ Sit G md B (ρ.set i none) σ μ F2 H st ∧ Rp G μ F2 d (.ref a) := by
  obtain ⟨h0, h1, α, h2, h3, h4⟩ := id s.env
  obtain ⟨v, ev, q⟩ := h2 i .own d hm hd
  cases ha : α i with
  | none => rw [ha] at q; exact absurd rfl q.1
  | some a =>
    rw [ha] at q
    obtain ⟨q1, _, na, oa⟩ := q
    subst q1
    obtain ⟨f1, f2⟩ := s.fre i d a hm hd ev
    have fa := oa.frz
    -- every other container stands elsewhere
    have key : ∀ (u : HO), H a = some u → (∀ x, u ≠ .own x) → Rp G μ (upd F a u) d (.ref a) → ∃ a' F2, some (some (V.ref a)) = some (some (.ref a')) ∧ Sub F F2 ∧ Sit G md B (ρ.set i none) σ μ F2 H st ∧ Rp G μ F2 d (.ref a') := fun u hu nu r => by
      refine ⟨a, upd F a u, rfl, Sub.addR (Sub.refl _) fa, ⟨⟨by simp [h0], by simp [h1], fun j => if j = i then none else α j, fun j m e e1 e2 => ?_, fun j k b e1 e2 ne => ?_, fun j e2 => ?_⟩, s.sto.frz1 na hu (fun x h => absurd h (nu x)), s.post.frz1 fa f1, fun j e b e1 e2 e3 => ?_⟩, r⟩
      · have hj : i ≠ j := fun q => by
          subst q
          by_cases hl : i < ρ.length
          · rw [List.getElem?_set_self hl] at e2; cases e2
          · rw [List.getElem?_eq_none (by simpa using hl)] at e2; cases e2
        rw [List.getElem?_set_ne hj] at e2
        obtain ⟨v, e3, z⟩ := h2 j m e e1 e2
        refine ⟨v, e3, ?_⟩
        simp only [if_neg (Ne.symm hj)]
        have sF : Sub F (upd F a u) := Sub.addR (Sub.refl _) fa
        cases hβ : α j with
        | none => rw [hβ] at z; exact ⟨z.1, Rp.mono (Ext.refl _) sF _ _ z.2⟩
        | some b =>
          rw [hβ] at z
          have nb : b ≠ a := fun q => by subst q; exact h3 i j b ha hβ hj hm
          refine ⟨z.1, z.2.1, z.2.2.1, ?_⟩
          have oz := z.2.2.2
          have frz : (upd F a u) b = F b := upd_ne nb
          cases e <;> try exact oz.elim
          · obtain ⟨f, z', vs, q1, r'⟩ := oz
            exact ⟨by rw [frz]; exact f, z', vs, q1, RpL.mono (Ext.refl _) sF _ _ r'⟩
          · obtain ⟨f, z', L, q1, r'⟩ := oz
            exact ⟨by rw [frz]; exact f, z', L, q1, RpK.mono (Ext.refl _) sF _ _ r'⟩
          · obtain ⟨f, C, dx, fv, q1, q2, n2, f2', c, r'⟩ := oz
            refine ⟨by rw [frz]; exact f, C, dx, fv, q1, q2, n2, ?_, c, RpF.mono (Ext.refl _) sF _ _ r'⟩
            rw [upd_ne (show dx ≠ a from fun q => by subst q; rw [hu] at q2; exact nu _ (Option.some.inj q2))]
            exact f2'
          · obtain ⟨f, z', L, q1, r'⟩ := oz
            exact ⟨by rw [frz]; exact f, z', L, q1, RpE.mono (Ext.refl _) sF _ _ r'⟩
      · simp only at e1 e2
        split at e1
        · cases e1
        · split at e2
          · cases e2
          · exact h3 j k b e1 e2 ne
      · simp only
        split
        · rfl
        · rename_i hj
          exact h4 j fun d z => e2 d (by rw [List.getElem?_set_ne (fun q => hj q.symm)]; exact z)
      · have hj : i ≠ j := fun q => by
          subst q
          by_cases hl : i < ρ.length
          · rw [List.getElem?_set_self hl] at e2; cases e2
          · rw [List.getElem?_eq_none (by simpa using hl)] at e2; cases e2
        rw [List.getElem?_set_ne hj] at e2
        exact s.fre j e b e1 e2 e3
    rw [ev]
    cases d <;> try exact oa.elim
    · obtain ⟨f, zz, vs, e1, r⟩ := oa
      exact key _ e1 (fun x q => by cases q) ⟨zz, a, vs, rfl, upd_same, RpL.mono (Ext.refl _) (Sub.addR (Sub.refl _) f) _ _ r⟩
    · obtain ⟨f, zz, L, e1, r⟩ := oa
      exact key _ e1 (fun x q => by cases q) ⟨zz, a, L, rfl, upd_same, RpK.mono (Ext.refl _) (Sub.addR (Sub.refl _) f) _ _ r⟩
    · cases nob
    · obtain ⟨f, zz, L, e1, r⟩ := oa
      exact key _ e1 (fun x q => by cases q) ⟨zz, a, L, rfl, upd_same, RpE.mono (Ext.refl _) (Sub.addR (Sub.refl _) f) _ _ r⟩
def getMv (ρ : Env) (i : Nat) : M D := do
  let d ← getV ρ i
  if isObjD d = false then pure d else M.bad
def setRefMv (i : Nat) (mo mk : Env → M D) : MS := fun ρ => do
  let d ← getMv ρ i
  let o ← mo (ρ.set i none)
  let k ← mk (ρ.set i none)
  let _ ← putRef o k d
  pure (.nx, ρ.set i none)
theorem ss_setRefMv (i : Nat) {x : Str} {o e : Expr} {p spos pos : Pos} {mo mk : Env → M D} (hu : X.A.units + 1 < cLine) (ho : SK cl md X .val o mo) (hk : SK cl md X .val e mk) (hm : md[i]? = some .own := by rfl) (hN : X.N[i]? = some x := by rfl) (hvis : Vis X.env.scope x := by first | exact Or.inl rfl | exact Or.inr (Or.inl rfl) | exact Or.inr (Or.inr rfl)) (hd : (x == ("__debug__" : Str)) = false := by decide)
    (hcd : (x == ("__classdict__" : Str)) = false := by decide)
    (ha : ∀ v, assign (.Subscript o e spos) X.env v = (do
      let ov ← holding [v] (eval o X.env)
      let iv ← holding [v, ov] (eval e X.env)
      standAt spos
      holding [v, ov, iv] (setItem ov iv v)
      release [v, ov, iv] []) := by intro _; rfl)
    (hs : swapsWithSole [.Subscript o e spos] (.Name x p) pos.line X.env = pure false := by rfl) (hw : swappedStores [.Subscript o e spos] (.Name x p) X.env = pure none := by rfl)
    (h1 : (assignEach [.Subscript o e spos] X.env).map (·.2) = [assign (.Subscript o e spos) X.env] := by rfl) : SS cl md B X (.Assign [.Subscript o e spos] (.Name x p) pos) (setRefMv i mo mk) :=
  PS.mono (ps_asg (pe_var hN hvis hd hcd) (pg_sub ho hk (set_any hu) ha) hs hw h1) fun D σ H ⟨ρ, μ, F, st, s, w⟩ => by
  unfold setRefMv getMv at w
  rw [M.gives_bind, M.gives_bind] at w
  obtain ⟨d, ed, w⟩ := getV_gives w
  obtain ⟨nob, w⟩ := ite_gives w
  obtain ⟨a, F0, ea, f0, s0, r0⟩ := s.drop hm ed nob
  have w : (do let o ← mo (ρ.set i none); let k ← mk (ρ.set i none); let _ ← putRef o k d; pure (Fl.nx, ρ.set i none)).gives st (WantS (gs X cl) md B μ F D) := w
  refine ⟨.ref a, ea, ρ.set i none, μ, F0, st, s0.env, s0.sto, ?_⟩
  rw [M.gives_bind] at w
  refine M.gives_mono w fun dob st2 w2 ov μ2 F2 H2 p2 s2 r2 => ⟨ρ.set i none, μ2, F2, st2, s0.env.post p2, s2, ?_⟩
  rw [M.gives_bind] at w2
  refine M.gives_mono w2 fun dk st3 w3 kv μ3 F3 H3 p3 s3 r3 => ?_
  rw [M.gives_bind] at w3
  obtain ⟨l, c, c', rfl, ec, e', w4⟩ := putRef_gives w3
  obtain ⟨b, rfl, hl⟩ := (show Rp (gs X cl) μ3 F3 (.ref l) ov from Rp.post p3 r2)
  have oa := s3.obj l b c hl ec
  have r3' : RK (gs X cl) .val H2 μ3 F3 H3 dk kv := r3
  obtain ⟨u, n, hu', nu, new, _, fin⟩ := setIt_obj e' oa r3' (Rp.post p3 (Rp.post p2 r0))
  have p := p2.trans p3
  exact fin _ (w4 σ μ3 F3 _ (s0.step (p.putAt hl ⟨u, hu'⟩) (s3.putAt hl hu' nu new)) (f0.trans p.subF) p.mu)
end
end Sh
namespace Sh
open PySem PySem.Spec PyProof.Rows L2
section
variable {cl : String → Option Addr} {md : List Md} {X : Cx} {B : Bs} {ka kb kr : Kd}
theorem comp_read {elt tg iter : Expr} {ns vs : List Nat} {mi : Env → M (List D)} {g : D → Env → Option Env} {t : Env → M Bool} {e : Env → M D} (hv : ∀ i ∈ ns, i ∈ vs) {σ : L2.St} {H : Hp} {Q : VK}
    (q : tK (gs X cl) md .fre (fun ρ => do let ds ← mi ρ; let rs ← compD g t e (wipeE ρ vs) ds; pure (.lst rs)) σ H Q) : tLc (tKI (gs X cl) md mi) (tG (gs X cl) md ns g) (tKB (gs X cl) md t) (tK (gs X cl) md .val e) vs σ H Q := by
  obtain ⟨ρ, μ, F, st, hE, hS, w⟩ := q
  refine ⟨ρ, μ, F, st, hE, hS, ?_⟩
  rw [M.gives_bind] at w
  refine M.gives_mono w fun ds st1 w1 J K μ1 F1 H1 p1 s1 hJ hK A nA => ?_
  refine comp_run hv (fun _ _ _ _ q => q) (fun _ _ _ q => q) (fun _ _ _ q => q) hJ (hE.post p1) s1 hK nA ?_
  rw [M.gives_bind] at w1
  exact M.gives_mono w1 fun rs st2 w2 μ' F' H' p2 s2 r2 => w2 _ μ' F' H' (p1.trans p2) s2 (r2.base fun _ n => p1.free n)
theorem asg_read (i : Nat) {mi : Md} {m : Env → M D} (hm : md[i]? = some mi) (hb : mi ≠ .bor) {D : Ends} {σ : L2.St} {H : Hp} (q : tS (gs X cl) md B (setS i m) D σ H) : tK (gs X cl) md .fre m σ H fun v H1 => D.nx (σ.set i (some v)) H1 := by
  obtain ⟨ρ, μ, F, st, s, w⟩ := q
  refine ⟨ρ, μ, F, st, s.env, s.sto, ?_⟩
  unfold setS at w
  rw [M.gives_bind] at w
  refine M.gives_mono w fun d st1 w1 v μ1 F1 H1 p1 s1 r1 => ?_
  cases mi with
  | bor => exact absurd rfl hb
  | own => exact w1 _ μ1 F1 H1 (s.setO p1 s1 hm r1) p1.subF p1.mu
  | val =>
    obtain ⟨F2, p2, s2, r2⟩ := freeze p1 s1 r1
    exact w1 _ μ1 F2 H1 ((s.step p2 s2).setV hm r2) p2.subF p2.mu
/-- y = [e for x in xs if t] -/
theorem ss_setLc (i : Nat) {mi : Md} {y : Str} {py : Pos} {elt tg iter : Expr} {ifs : List Expr} {scope : Scope} {pos spos : Pos} {own : List (Str × Nat)} {ns : List Nat} {mw : Env → M (List D)} {g : D → Env → Option Env} {t : Env → M Bool} {e : Env → M D} (hc : X.calm = true) (hN : X.N.Nodup)
    (ok : blkC X.N X.env.scope scope own = true) (hv : ∀ i ∈ ns, i ∈ own.map (·.2)) (hi : SI cl md X tg iter mw) (hg : Blk X scope fun Y => SG cl md Y ns tg g) (ht : Blk X scope fun Y => PTs Y ifs (tKB (gs X cl) md t)) (he : Blk X scope fun Y => SK cl md Y .val elt e)
    (hy : X.N[i]? = some y := by rfl) (hyl : X.env.scope.names.lookup y = some .local := by rfl) (hm : md[i]? = some mi := by rfl) (hb : mi ≠ .bor := by decide)
    (hsw : swapsWith (.ListComp elt [⟨tg, iter, ifs, 0⟩] scope pos) (some (.Name y py)) spos.line X.env = pure true := by exact sw_true rfl rfl rfl (by decide +kernel))
    (hs : ∀ x, foldedSetIterable iter X.env x = pure x := by intro _; rfl) : SS cl md B X (.Assign [.Name y py] (.ListComp elt [⟨tg, iter, ifs, 0⟩] scope pos) spos) (setS i fun ρ => do let ds ← mw ρ; let rs ← compD g t e (wipeE ρ (own.map (·.2))) ds; pure (.lst rs)) :=
  PS.mono (ps_setLc (g := tG (gs X cl) md ns g) (tt := tKB (gs X cl) md t) (te := tK (gs X cl) md .val e) hc hN hy hyl hsw hi (blkOk_by ok) (fun s H C cc fp => hg s H C cc fp) (fun s H C cc fp => ht s H C cc fp) (fun s H C cc fp => he s H C cc fp) hs) fun D σ H q =>
    comp_read (elt := elt) (tg := tg) (iter := iter) hv (asg_read i hm hb q)
end
end Sh
namespace Sh
open PySem PySem.Spec PyProof.Rows L2
/-! ### the mirrors' words -/
abbrev eC (d : D) : Env → M D := fun _ => pure d
abbrev eV (i : Nat) : Env → M D := fun ρ => getV ρ i
abbrev e1 (g : D → M D) (m : Env → M D) : Env → M D := fun ρ => do let d ← m ρ; g d
abbrev e2 (g : D → D → M D) (m n : Env → M D) : Env → M D := fun ρ => do let x ← m ρ; let y ← n ρ; g x y
def eIf (c : Env → M Bool) (a b : Env → M D) : Env → M D := fun ρ => do let t ← c ρ; if t = true then a ρ else b ρ
abbrev tB (m : Env → M D) : Env → M Bool := fun ρ => do let x ← m ρ; asB x
abbrev tNot (m : Env → M Bool) : Env → M Bool := fun ρ => do let b ← m ρ; pure (!b)
abbrev eNot (m : Env → M D) : Env → M D := fun ρ => do let x ← m ρ; let b ← asB x; pure (.bl (!b))
abbrev lNil : Env → M (List D) := fun _ => pure []
abbrev lCons (m : Env → M D) (n : Env → M (List D)) : Env → M (List D) := fun ρ => do let x ← m ρ; let r ← n ρ; pure (x :: r)
abbrev eTup (m : Env → M (List D)) : Env → M D := fun ρ => do let ds ← m ρ; pure (.tup ds)
abbrev eLst (m : Env → M (List D)) : Env → M D := fun ρ => do let ds ← m ρ; pure (.lst ds)
abbrev eCall (f : List D → M D) (m : Env → M (List D)) : Env → M D := fun ρ => do let ds ← m ρ; f ds
abbrev eCallK (f : List D → M D) (m : Env → M D) : Env → M D := fun ρ => do let d ← m ρ; f [d]
abbrev oN : Env → M (Option Int) := fun _ => pure none
abbrev oS (m : Env → M D) : Env → M (Option Int) := fun ρ => do let x ← m ρ; let i ← asI x; pure (some i)
abbrev eSl (g : D → Option Int → Option Int → M D) (m : Env → M D) (l h : Env → M (Option Int)) : Env → M D := fun ρ => do let x ← m ρ; let i ← l ρ; let j ← h ρ; g x i j
abbrev iSeq (m : Env → M D) : Env → M (List D) := fun ρ => do let d ← m ρ; itemsD d
abbrev iStr (m : Env → M D) : Env → M (List D) := fun ρ => do let d ← m ρ; strItems d
abbrev iRng (m : Env → M D) : Env → M (List D) := fun ρ => do let d ← m ρ; rng1 d
abbrev eComp (vs : List Nat) (mi : Env → M (List D)) (g : D → Env → Option Env) (t : Env → M Bool) (e : Env → M D) : Env → M D := fun ρ => do let ds ← mi ρ; let rs ← compD g t e (wipeE ρ vs) ds; pure (.lst rs)
abbrev eSto (m : Env → M D) : Env → M D := fun ρ => do let d ← m ρ; allocD d
abbrev pNil : Env → M (List (D × D)) := fun _ => pure []
abbrev pCons (k v : Env → M D) (m : Env → M (List (D × D))) : Env → M (List (D × D)) := fun ρ => do let x ← k ρ; let y ← v ρ; let r ← m ρ; pure ((x, y) :: r)
abbrev eDisp (m : Env → M (List (D × D))) : Env → M D := fun ρ => do let ps ← m ρ; dispD ps
abbrev tYes : Env → M Bool := fun _ => pure true
abbrev forE (mi : Env → M (List D)) (g : D → Env → Option Env) (b : MS) : MS := fun ρ => do let ds ← mi ρ; forS g b ds ρ

/-! ### what stands in the module -/
structure Has (P : Program) (w : World) (K : PySem.W.Frag) (mg : Str → Option Value) (base : Heap) (x : Str) (k : Nat) (ps : List Str) (sp : Sp) : Prop where
  ex : ∃ (a : Addr) (fd : FuncData), FnG P w K mg base CX0 k a fd ps sp ∧ mg x = some (.ref a) ∧ PySem.W.keepIn K (.ref a) = true ∧ Binds K fd ps []
theorem Has.up {P : Program} {w : World} {K : PySem.W.Frag} {mg : Str → Option Value} {base : Heap} {x : Str} {j k : Nat} {ps : List Str} {sp : Sp} (h : Has P w K mg base x j ps sp) (l : j ≤ k) : Has P w K mg base x k ps sp :=
  let ⟨a, fd, F, r⟩ := h.ex; ⟨a, fd, F.up l, r⟩
section
variable {cl : String → Option Addr} {md : List Md} {X : Cx} {B : Bs}
theorem sk_callH {pk : List Kd} {rk : Kd} {f : List D → M D} {j k : Nat} {ps : List Str} {x : Str} {p pos : Pos} {e : Expr} {es : List Expr} {m : Env → M (List D)}
    (h : Has X.prog X.w X.K X.mg X.base x j ps (spF (gs X cl) pk rk f)) (hle : j ≤ k) (hgu : X.A.guards = some []) (hr : Room k X.A) (hg : Gl X x)
    (ha : SA cl md X pk (e :: es) m) (hfr : ∀ k ∈ pk, k ≠ .fre := by decide) (hdb : (x == ("__debug__" : Str)) = false := by decide) (he : starEach (e :: es) X.env = (false, eval e X.env) :: starEach es X.env := by rfl) (hpl : (backTo pos (starEach es X.env)).any (·.1) = false := by rfl) :
    SK cl md X rk (.Call (.Name x p) (e :: es) [] pos) (eCall f m) := by
  obtain ⟨a, fd, F, hm, hk, hb⟩ := h.ex
  exact sk_callG (F.up hle) hgu hr hg hm hk hb ha hfr hdb he hpl
theorem room_u {k n : Nat} {A : Around} (hr : Room k A) (hn : n ≤ 200) : A.units + n < cLine := by have := hr.un; omega
end
theorem run_fnkG {X : Cx} {k : Nat} {f : Addr} {fd : FuncData} {ps ks : List Str} {sp : Sp} {E : XK} {CX : CXT} {g : List Value → List Value → List Value} {gV : List V → List V → List V} {pins : List (Addr × Obj)} {σ : L2.St} {H : Hp} {s : Shared} {Q : VK} {us ws : List Value} {vs zs : List V}
    (F : FnG X.prog X.w X.K X.mg X.base CX k f fd ps sp) (hgu : X.A.guards = some []) (hr : Room k X.A) (hb : KBinds X.K fd ps ks g gV) (hx : Passes CX X E) (I : Inv X pins σ H s) (r : Vals vs us) (rz : Vals zs ws) (h : sp (gV vs zs) H Q E) :
    wpAny (model X.prog X.w) X.A (call (.ref f) us (ks.zip ws)) (EP X pins σ Q) X.xe s := by
  have rr := hb.rel r rz
  refine wpAny_call (codeAny_mono (F.grun X.A X.stack s H ⟨us, ks.zip ws⟩ (g us ws) (gV vs zs) Q E hgu hr I.env0 (hb.to s us ws I.kIn (by rw [← rr.length]; exact F.glen _ _ _ _ h)) rr h) fun res s' hq => ?_)
  match res, hq with
  | .error e, hq => exact hx pins σ H s e s' I hq
  | .ok (.ret u), hq => exact I.after hq
/-- .. called with its one parameter's name -/
structure HasK (P : Program) (w : World) (K : PySem.W.Frag) (mg : Str → Option Value) (base : Heap) (x : Str) (k : Nat) (p : Str) (sp : Sp) : Prop where
  ex : ∃ (a : Addr) (fd : FuncData), FnG P w K mg base CX0 k a fd [p] sp ∧ mg x = some (.ref a) ∧ PySem.W.keepIn K (.ref a) = true ∧ KBinds K fd [p] [p] (· ++ ·) (· ++ ·)
theorem Fun.kbinds1 {K : PySem.W.Frag} {x qual p : Str} {st : Stmt} {f : Addr} {fd : FuncData} (F : Fun K x qual st f fd)
    (h : ∀ (kV doc pm : Value) (an : Option Addr) (cdv ct : Value) (us ws : List Value), (us ++ ws).length = 1 → bindArgs (PySem.W.fnOf x qual (defArgs st) (defBody st) (defScope st) .none kV doc pm an cdv ct) ⟨us, [p].zip ws⟩ = pure ([p].zip (us ++ ws))) : KBinds K fd [p] [p] (· ++ ·) (· ++ ·) := by
  obtain ⟨oc, od, kV, doc, pm, an, cdv, ct, osl, rfl, lk, hcd⟩ := F.ex
  exact ⟨fun s us ws _ hl => .of_eq (h kV doc pm an cdv ct us ws hl), fun r1 r2 => r1.append r2⟩
section
variable {cl : String → Option Addr} {md : List Md} {X : Cx} {B : Bs} {ka : Kd}
theorem sk_callKH {rk : Kd} {f : List D → M D} {j k : Nat} {pn : Str} {x : Str} {p kpos pos : Pos} {e : Expr} {m : Env → M D}
    (h : HasK X.prog X.w X.K X.mg X.base x j pn (spF (gs X cl) [ka] rk f)) (hle : j ≤ k) (hgu : X.A.guards = some []) (hr : Room k X.A) (hg : Gl X x) (ha : SK cl md X ka e m) (hfr : ka ≠ .fre := by decide) (hdb : (x == ("__debug__" : Str)) = false := by decide)
    (hall : (backToKw pos (keywordEach [⟨some pn, e, kpos⟩] X.env)).all (·.1.isSome) = true := by rfl) (hks : (backToKw pos (keywordEach [⟨some pn, e, kpos⟩] X.env)).filterMap (·.1) = [pn] := by rfl)
    (hpl : ((backTo pos (starEach [] X.env)).any (·.1) || (backToKw pos (keywordEach [⟨some pn, e, kpos⟩] X.env)).any (·.1.isNone)) = false := by rfl) : SK cl md X rk (.Call (.Name x p) [] [⟨some pn, e, kpos⟩] pos) (eCallK f m) := by
  obtain ⟨a, fd, F, hm, hk, hb⟩ := h.ex
  refine ⟨fun pins s σ H Q I h => wpAny_Call_Name_kw (ld_glob I hg hm ?_ hdb)⟩
  refine PySem.W.callWith_KW0 (h₀ := X.base) I.ok.mod.kin hk hall (thn ((pk_cons ha pk_nil).run pos pins s σ H (fun zs H2 => spF (gs X cl) [ka] rk f zs H2 Q E0) I ?_) fun ws s2 ⟨zs, H2, I2, rz, q2⟩ => ⟨I2.kIn, ?_⟩) hpl
  · obtain ⟨ρ, μ, Fr, st, hE, hS, w⟩ := h
    refine ⟨ρ, μ, Fr, st, hE, hS, ?_⟩
    rw [M.gives_bind] at w
    refine M.gives_mono w fun d st1 w1 v μ1 F1 H1 p1 s1 r1 => ?_
    refine ⟨μ1, F1, [d], st1, s1, rfl, rfl, fun i k' d' v' e1 e2 e3 => ?_, M.gives_mono w1 fun d st2 w2 => w2.after p1⟩
    cases i with
    | succ i => simp at e1
    | zero =>
      simp only [List.getElem?_cons_zero, Option.some.injEq] at e1 e2 e3
      subst e1 e2 e3
      cases ka with
      | val => exact r1
      | bor => exact r1
      | fre => exact absurd rfl hfr
  · rw [hks]
    exact run_fnkG (us := []) (vs := []) (F.up hle) hgu hr hb pass0 I2 .nil rz q2
/-- y = [e ..], the list is one of the store -/
theorem ss_setLcSto (i : Nat) {y : Str} {py : Pos} {elt tg iter : Expr} {ifs : List Expr} {scope : Scope} {pos spos : Pos} {own : List (Str × Nat)} {ns : List Nat} {mw : Env → M (List D)} {g : D → Env → Option Env} {t : Env → M Bool} {e : Env → M D} (hc : X.calm = true) (hN : X.N.Nodup)
    (ok : blkC X.N X.env.scope scope own = true) (hv : ∀ i ∈ ns, i ∈ own.map (·.2)) (hi : SI cl md X tg iter mw) (hg : Blk X scope fun Y => SG cl md Y ns tg g) (ht : Blk X scope fun Y => PTs Y ifs (tKB (gs X cl) md t)) (he : Blk X scope fun Y => SK cl md Y .val elt e)
    (hy : X.N[i]? = some y := by rfl) (hyl : X.env.scope.names.lookup y = some .local := by rfl) (hm : md[i]? = some .val := by rfl)
    (hsw : swapsWith (.ListComp elt [⟨tg, iter, ifs, 0⟩] scope pos) (some (.Name y py)) spos.line X.env = pure true := by exact sw_true rfl rfl rfl (by decide +kernel))
    (hs : ∀ x, foldedSetIterable iter X.env x = pure x := by intro _; rfl) : SS cl md B X (.Assign [.Name y py] (.ListComp elt [⟨tg, iter, ifs, 0⟩] scope pos) spos) (setS i (eSto (eComp (own.map (·.2)) mw g t e))) :=
  PS.mono (ps_setLc (g := tG (gs X cl) md ns g) (tt := tKB (gs X cl) md t) (te := tK (gs X cl) md .val e) hc hN hy hyl hsw hi (blkOk_by ok) (fun s H C cc fp => hg s H C cc fp) (fun s H C cc fp => ht s H C cc fp) (fun s H C cc fp => he s H C cc fp) hs) fun D σ H ⟨ρ, μ, F, st, s, w⟩ => by
  refine comp_read (elt := elt) (tg := tg) (iter := iter) hv ⟨ρ, μ, F, st, s.env, s.sto, ?_⟩
  unfold setS at w
  rw [M.gives_bind, M.gives_bind] at w
  refine M.gives_mono w fun d st1 w1 v μ1 F1 H1 p1 s1 r1 => ?_
  obtain ⟨a, rfl, p2, s2, r2⟩ := to_store p1 s1 r1
  exact w1 _ _ _ _ ((s.step p2 s2).setV hm r2) p2.subF p2.mu
end
theorem fnG_bad {P : Program} {w : World} {K : PySem.W.Frag} {mg : Str → Option Value} {base : Heap} {k : Nat} {f : Addr} {fd : FuncData} {ps : List Str} {G : Gs} {pk : List Kd} {rk : Kd} : FnG P w K mg base CX0 k f fd ps (spF G pk rk fun _ => M.bad) :=
  ⟨fun vs H Q E h => (by obtain ⟨_, _, _, _, _, _, _, _, h⟩ := h; exact h.elim), fun A o s H ar us vs Q E _ _ _ _ _ h => (by obtain ⟨_, _, _, _, _, _, _, _, h⟩ := h; exact h.elim)⟩
end Sh
namespace Sh
open PySem PySem.Spec PyProof.Rows L2

/-! ### instances: they stand in the store -/
/-- the classes' names with the attributes that are read and stored -/
abbrev CT := List (String × List String)
def okF (tab : CT) (c f : String) : Bool := tab.any fun p => decide (p.1 = c) && p.2.any fun g => decide (g = f)
structure ClsOk (K : PySem.W.Frag) (cl : String → Option Addr) (tab : CT) : Prop where
  at_ : ∀ c f : String, okF tab c f = true → ∃ C, cl c = some C ∧ Cls K C ∧ NoAttr K C (Str.ofString f)
def putFD (f : Str) (y : D) : List (Str × D) → List (Str × D)
  | [] => [(f, y)]
  | (g, x) :: r => if g = f then (g, y) :: r else (g, x) :: putFD f y r
def fldD (tab : CT) (f : String) (d : D) : M D := do
  let x ← view d
  match x with
  | .obj c fs => if okF tab c f = true then ofO (fs.lookup (Str.ofString f)) else M.bad
  | _ => M.bad
section
variable {G : Gs} {μ : List Addr} {F H : Hp} {v : V}
theorem rpf_lookup {f : Str} : ∀ {fs : List (Str × D)} {fv : List (Str × V)} {d : D}, RpF G μ F fs fv → fs.lookup f = some d → ∃ v, fv.lookup f = some v ∧ Rp G μ F d v
  | [], _, d, _, h => by simp at h
  | (n, x) :: r, fv, d, hr, h => by
    obtain ⟨v, r', rfl, h1, h2⟩ := hr
    rw [List.lookup_cons] at h ⊢
    cases e : f == n with
    | true => rw [e] at h; cases h; exact ⟨v, rfl, h1⟩
    | false => rw [e] at h; exact rpf_lookup h2 h
theorem rpf_none {f : Str} : ∀ {fs : List (Str × D)} {fv : List (Str × V)}, RpF G μ F fs fv → fs.lookup f = none → fv.lookup f = none
  | [], _, hr, _ => by have e : _ = _ := hr; subst e; rfl
  | (n, x) :: r, fv, hr, h => by
    obtain ⟨v, r', rfl, h1, h2⟩ := hr
    rw [List.lookup_cons] at h ⊢
    cases e : f == n with
    | true => rw [e] at h; cases h
    | false => rw [e] at h; exact rpf_none h2 h
theorem rpf_put {f : Str} {y : D} (ry : Rp G μ F y v) : ∀ {fs : List (Str × D)} {fv : List (Str × V)}, RpF G μ F fs fv → RpF G μ F (putFD f y fs) (putF f v fv)
  | [], _, hr => by have e : _ = _ := hr; subst e; exact ⟨v, [], rfl, ry, rfl⟩
  | (n, x) :: r, fv, hr => by
    obtain ⟨u, r', rfl, h1, h2⟩ := hr
    unfold putFD putF
    by_cases e : n = f
    · rw [if_pos e, if_pos e]; exact ⟨v, r', rfl, ry, h2⟩
    · rw [if_neg e, if_neg e]; exact ⟨u, _, rfl, h1, rpf_put ry h2⟩
theorem rpf_len : ∀ {fs : List (Str × D)} {fv : List (Str × V)}, RpF G μ F fs fv → fv.length = fs.length
  | [], _, h => by have h : _ = _ := h; subst h; rfl
  | (n, d) :: fs, _, h => by
    obtain ⟨v, r, rfl, _, h2⟩ := h
    simp [rpf_len h2]
/-- an instance, wherever it stands -/
theorem vr_obj {c : String} {fs : List (Str × D)} (hs : Sub F H) (r : VR G μ F H (.obj c fs) v) : ∃ a C dx fv, v = .ref a ∧ H a = some (.ins C dx fv) ∧ G.cl c = some C ∧ RpF G μ F fs fv := by
  rcases r with ⟨a, C, dx, fv, rfl, e1, e2, e3, r⟩ | ⟨a, rfl, f, C, dx, fv, e1, e2, n2, f2, c, r⟩
  · exact ⟨a, C, dx, fv, rfl, hs _ _ e1, e3, r⟩
  · exact ⟨a, C, dx, fv, rfl, e1, c, r⟩
end
section
variable {cl : String → Option Addr} {md : List Md} {X : Cx} {B : Bs} {ka kb : Kd} {tab : CT}
/-- e.f -/
theorem sk_fld (f : String) {e : Expr} {pos : Pos} {m : Env → M D} (hc : ClsOk X.K cl tab) (h : SK cl md X ka e m) (hb : attributeBase e (Str.ofString f) X.env (eval e X.env) = eval e X.env := by rfl) : SK cl md X .val (.Attribute e (Str.ofString f) pos) (e1 (fldD tab f) m) :=
  PE.mono (pe_fld h hb) fun σ H Q ⟨ρ, μ, F, st, hE, hS, w⟩ => by
  refine ⟨ρ, μ, F, st, hE, hS, ?_⟩
  rw [M.gives_bind] at w
  refine M.gives_mono w fun d st1 w1 v μ1 F1 H1 p1 s1 r1 => ?_
  unfold fldD at w1
  rw [M.gives_bind] at w1
  obtain ⟨d', vr, w1⟩ := view_gives s1 r1 w1
  cases d' <;> try exact w1.elim
  rename_i c fs
  simp only at w1
  obtain ⟨ok, w1⟩ := ite_gives w1
  obtain ⟨x, ex, w1⟩ := ofO_gives w1
  obtain ⟨a, C, dx, fv, rfl, e1, ec, rf⟩ := vr_obj s1.sub vr
  obtain ⟨C', ec', hC, hN⟩ := hc.at_ c f ok
  have : C' = C := Option.some.inj (ec'.symm.trans ec)
  subst this
  obtain ⟨u, hu, ru⟩ := rpf_lookup rf ex
  exact ⟨a, C', dx, fv, u, rfl, e1, hC, hN, hu, w1 u μ1 F1 H1 p1 s1 ru⟩
/-- o.f = e, o an instance of the store -/
def putFldD (tab : CT) (f : String) (o y : D) : M Unit := fun st => match o with
  | .ref l => match st[l]? with
    | some (.obj c fs) => if okF tab c f = true ∧ fs.length < 1000 then .ok () (st.set l (.obj c (putFD (Str.ofString f) y fs))) else .bad
    | _ => .bad
  | _ => .bad
theorem putFldD_gives {f : String} {o y : D} {st : Sto} {P : Unit → Sto → Prop} (h : (putFldD tab f o y).gives st P) : ∃ l c fs, o = .ref l ∧ st[l]? = some (.obj c fs) ∧ okF tab c f = true ∧ fs.length < 1000 ∧ P () (st.set l (.obj c (putFD (Str.ofString f) y fs))) := by
  unfold putFldD M.gives at h
  cases o <;> try exact h.elim
  rename_i l
  simp only at h
  cases e : st[l]? with
  | none => rw [e] at h; exact h.elim
  | some c =>
    rw [e] at h
    cases c <;> try exact h.elim
    rename_i c fs
    simp only at h
    by_cases q : okF tab c f = true ∧ fs.length < 1000
    · rw [if_pos q] at h; exact ⟨l, c, fs, rfl, e, q.1, q.2, h⟩
    · rw [if_neg q] at h; exact h.elim
def setFldS (tab : CT) (f : String) (mo mv : Env → M D) : MS := fun ρ => do
  let v ← mv ρ
  let o ← mo ρ
  let _ ← putFldD tab f o v
  pure (.nx, ρ)
theorem ss_fld (f : String) {o e : Expr} {p' pos : Pos} {mo mv : Env → M D} (hc : ClsOk X.K cl tab) (hv : SK cl md X .val e mv) (ho : SK cl md X .val o mo) (hs : swapsWith e (some (.Attribute o (Str.ofString f) p')) pos.line X.env = pure false := by rfl) :
    SS cl md B X (.Assign [.Attribute o (Str.ofString f) p'] e pos) (setFldS tab f mo mv) := PS.mono (ps_fld ho hv hs) fun D σ H ⟨ρ, μ, F, st, s, w⟩ => by
  refine ⟨ρ, μ, F, st, s.env, s.sto, ?_⟩
  unfold setFldS at w
  rw [M.gives_bind] at w
  refine M.gives_mono w fun dv st1 w1 vv μ1 F1 H1 p1 s1 r1 => ⟨ρ, μ1, F1, st1, s.env.post p1, s1, ?_⟩
  rw [M.gives_bind] at w1
  refine M.gives_mono w1 fun dob st2 w2 ov μ2 F2 H2 p2 s2 r2 => ?_
  rw [M.gives_bind] at w2
  obtain ⟨l, c, fs, rfl, ec, ok, hl, w3⟩ := putFldD_gives w2
  obtain ⟨a, rfl, el⟩ := (show Rp (gs X cl) μ2 F2 (.ref l) ov from r2)
  obtain ⟨fz, C, dx, fv, e1, e2, n2, f2, ecl, rf⟩ := s2.obj l a _ el ec
  obtain ⟨C', ec', hC, hN⟩ := hc.at_ c f ok
  have : C' = C := Option.some.inj (ec'.symm.trans ecl)
  subst this
  refine ⟨a, C', dx, fv, rfl, e1, hC, hN, by rw [rpf_len rf]; exact hl, ?_⟩
  have p := p1.trans p2
  have ne : dx ≠ a := fun z => by subst z; rw [e1] at e2; cases e2
  refine w3 σ μ2 F2 _ (s.step (p.putAt el ⟨_, e1⟩) (s2.putAt el e1 (fun x z => by cases z) ?_)) p.subF p.mu
  exact ⟨fz, C', dx, _, upd_same, by rw [upd_ne ne]; exact e2, n2, f2, ecl, rpf_put (Rp.post p2 r1) rf⟩
end

/-! ### C(..): a new instance of the store, then __init__ -/
theorem FnG.len {P : Program} {w : World} {K : PySem.W.Frag} {mg : Str → Option Value} {base : Heap} {CX : CXT} {k : Nat} {f : Addr} {fd : FuncData} {ps : List Str} {sp : Sp} (F : FnG P w K mg base CX k f fd ps sp) : ∀ vs H Q E, sp vs H Q E → vs.length = ps.length := F.glen
section
variable {X : Cx} {CX : CXT} {k : Nat} {f C : Addr} {fd : FuncData} {ps ks : List Str} {sp : Sp} {ds : List Value} {dvs : List V} {E : XK} {x : Str} {p pos : Pos} {e : Expr} {es : List Expr} {t tk : TA}
theorem run_makeG {pins : List (Addr × Obj)} {σ : L2.St} {H : Hp} {s : Shared} {Q : VK} {us : List Value} {vs : List V} (M : Mk X.K C f) (F : FnG X.prog X.w X.K X.mg X.base CX k f fd ps sp) (hgu : X.A.guards = some []) (hr : Room (k + 1) X.A) (hb : Binds X.K fd ps ds) (hd : Vals dvs ds)
    (hx : Passes CX X E) (I : Inv X pins σ H s) (r : Vals vs us)
    (h : ∀ x dx, H x = none → H dx = none → dx ≠ x → sp (.ref x :: (vs ++ dvs)) (upd (upd H dx (.own x)) x (.ins C dx [])) (fun v H2 => v = .non ∧ Q (.ref x) H2) E) :
    wpAny (model X.prog X.w) X.A (call (.ref C) us) (EP X pins σ Q) X.xe s := by
  have hq := h (s.heap.objs.size + 1) s.heap.objs.size (I.hok.fresh (Nat.le_succ _)) (I.hok.fresh (Nat.le_refl _)) (Nat.ne_of_lt (Nat.lt_succ_self _))
  have I2 := Inv.made (C := C) I
  have r2 : Vals (V.ref (s.heap.objs.size + 1) :: (vs ++ dvs)) (Value.ref (s.heap.objs.size + 1) :: (us ++ ds)) := .cons rfl (r.append hd)
  have hl : (Value.ref (s.heap.objs.size + 1) :: us ++ ds).length = ps.length := by
    have e := r2.length
    rw [← F.glen _ _ _ _ hq]
    exact e.symm
  refine wpAny_call (make_map (f := f) I.kIn M.makes M.init (beq_iff_eq.mp M.fn) (codeAny_mono (F.grun _ X.stack _ _ ⟨Value.ref (s.heap.objs.size + 1) :: us, []⟩ (Value.ref (s.heap.objs.size + 1) :: (us ++ ds)) _ _ E ?_ (hr.make C us [])
    (I2.env0.make C us []) (hb _ (Value.ref (s.heap.objs.size + 1) :: us) I2.kIn hl) r2 hq) fun r s' hq' => ?_))
  · exact hgu
  cases r with
  | error e => exact hx pins σ _ _ e s' I2 hq'
  | ok fl =>
    cases fl with
    | ret u =>
      obtain ⟨v, H', I3, rv, ev, q3⟩ := I2.after hq'
      subst ev
      exact ⟨rv, ⟨V.ref (s.heap.objs.size + 1), H', I3, rfl, q3⟩⟩
    | next => exact False.elim hq'
    | brk => exact False.elim hq'
    | cont => exact False.elim hq'
end
/-- the store's new instance; what __init__ is given -/
theorem obj_new {G : Gs} {μ : List Addr} {F H : Hp} {st : Sto} {c : String} {C x dx : Addr} (s : StOk G μ F H st) (hc : G.cl c = some C) (nx : H x = none) (ndx : H dx = none) (ne : dx ≠ x) :
    Post μ F H (μ ++ [x]) F (upd (upd H dx (.own x)) x (.ins C dx [])) ∧ StOk G (μ ++ [x]) F (upd (upd H dx (.own x)) x (.ins C dx [])) (st ++ [.obj c []]) ∧ Rp G (μ ++ [x]) F (.ref st.length) (.ref x) := by
  have nx2 : (upd H dx (.own x)) x = none := by rw [upd_ne ne.symm]; exact nx
  have p : Post μ F H μ F (upd (upd H dx (.own x)) x (.ins C dx [])) := (Post.refl.alloc ndx).alloc nx2
  have s2 : StOk G μ F (upd (upd H dx (.own x)) x (.ins C dx [])) st := (s.alloc ndx).alloc nx2
  have r : RK G .fre H μ F (upd (upd H dx (.own x)) x (.ins C dx [])) (.obj c []) (.ref x) := by
    refine ⟨x, rfl, nx, fun C' dx' fv q => ?_, s.notin nx, s.sub.free nx, C, dx, [], upd_same, ?_, s.notin ndx, s.sub.free ndx, hc, rfl⟩
    · rw [upd_same] at q; cases q; exact ndx
    · rw [upd_ne ne, upd_same]
  obtain ⟨a, e, p2, s3, r2⟩ := to_store p s2 r
  cases e
  exact ⟨p2, s3, r2⟩
def makeD (c : String) (f : List D → M D) (dds ds : List D) : M D := do
  let o ← allocD (.obj c [])
  let r ← f (o :: (ds ++ dds))
  match r with
  | .non => pure o
  | _ => M.bad
/-- what stands for defaults: data of the written part -/
def RpAny (G : Gs) (dds : List D) (dvs : List V) : Prop := ∀ μ F, RpL G μ F dds dvs
theorem makeD_gives {c : String} {f : List D → M D} {dds ds : List D} {st : Sto} {P : D → Sto → Prop} (h : (makeD c f dds ds).gives st P) : (f (.ref st.length :: (ds ++ dds))).gives (st ++ [.obj c []]) fun r st' => r = .non ∧ P (.ref st.length) st' := by
  unfold makeD at h
  rw [M.gives_bind] at h
  have h : M.gives (f (.ref st.length :: (ds ++ dds)) >>= fun r => match r with | .non => pure (.ref st.length) | _ => M.bad) (st ++ [.obj c []]) P := h
  rw [M.gives_bind] at h
  refine M.gives_mono h fun r st' q => ?_
  cases r <;> first | exact ⟨rfl, q⟩ | exact q.elim
/-- pk for n values -/
abbrev vals (n : Nat) : List Kd := List.replicate n .val
structure HasI (P : Program) (w : World) (K : PySem.W.Frag) (mg : Str → Option Value) (base : Heap) (cl : String → Option Addr) (c : String) (k : Nat) (ps : List Str) (n : Nat) (f : List D → M D) (dds : List D) : Prop where
  ex : ∃ (C a : Addr) (fd : FuncData) (ds : List Value) (dvs : List V), mg (Str.ofString c) = some (.ref C) ∧ cl c = some C ∧ Mk K C a ∧ FnG P w K mg base CX0 k a fd ps (spF ⟨K, cl⟩ (vals (n + 1)) .val f) ∧ Binds K fd ps ds ∧ Vals dvs ds ∧ RpAny ⟨K, cl⟩ dds dvs
theorem rpl_all {G : Gs} {μ : List Addr} {F H H0 : Hp} {n : Nat} : ∀ {ds : List D} {vs : List V}, RpL G μ F ds vs → (∀ (i : Nat) (k : Kd) (d : D) (v : V), (vals n)[i]? = some k → ds[i]? = some d → vs[i]? = some v → RK G k H0 μ F H d v) := fun r i k d v e1 e2 e3 => by
  have hk : k = .val := by
    rw [List.getElem?_replicate] at e1
    split at e1
    · cases e1; rfl
    · cases e1
  subst hk
  exact rpl_get r e2 e3
section
variable {cl : String → Option Addr} {md : List Md} {X : Cx} {ka : Kd} {j k n : Nat} {ps : List Str} {f : List D → M D} {dds : List D} {c : String}
/-- what a new instance's __init__ asks, from the arguments -/
theorem make_sp {C x dx : Addr} {μ : List Addr} {F H : Hp} {st : Sto} {ds : List D} {vs dvs : List V} {Q : VK} {E : XK} (s : StOk (gs X cl) μ F H st) (hcl : cl c = some C) (hl : ds.length + dds.length = n) (r : RpL (gs X cl) μ F ds vs) (rd : RpAny (gs X cl) dds dvs) (nx : H x = none) (ndx : H dx = none) (ne : dx ≠ x)
    (w : (makeD c f dds ds).gives st (Want (gs X cl) .val μ F H Q)) : spF (gs X cl) (vals (n + 1)) .val f (.ref x :: (vs ++ dvs)) (upd (upd H dx (.own x)) x (.ins C dx [])) (fun v H2 => v = .non ∧ Q (.ref x) H2) E := by
  obtain ⟨p, s2, ro⟩ := obj_new (c := c) s hcl nx ndx ne
  have rl : RpL (gs X cl) (μ ++ [x]) F (.ref st.length :: (ds ++ dds)) (.ref x :: (vs ++ dvs)) := ⟨_, _, rfl, ro, rpl_app (RpL.post p r) (rd _ _)⟩
  have l2 := rpl_len (rpl_app (RpL.post p r) (rd (μ ++ [x]) F))
  refine ⟨_, F, _, _, s2, by simp [hl], by simp only [List.length_cons, List.length_replicate]; rw [l2]; simp [hl], rpl_all rl, M.gives_mono (makeD_gives w) fun d st' ⟨e, q⟩ => ?_⟩
  subst e
  intro v μ' F' H' p' s' r'
  have e : v = .non := r'
  exact ⟨e, q _ _ _ _ (p.trans p') s' (Rp.post p' ro)⟩
theorem sk_make {x : Str} {p pos : Pos} {e : Expr} {es : List Expr} {m : Env → M (List D)} (hx : x = Str.ofString c) (h : HasI X.prog X.w X.K X.mg X.base cl c j ps n f dds) (hle : j + 1 ≤ k) (hgu : X.A.guards = some []) (hr : Room k X.A) (hg : Gl X x)
    (ha : SA cl md X (vals (es.length + 1)) (e :: es) m) (hn : es.length + 1 + dds.length = n := by rfl) (hdb : (x == ("__debug__" : Str)) = false := by decide) (he : starEach (e :: es) X.env = (false, eval e X.env) :: starEach es X.env := by rfl) (hpl : (backTo pos (starEach es X.env)).any (·.1) = false := by rfl) :
    SK cl md X .val (.Call (.Name x p) (e :: es) [] pos) (fun ρ => do let ds ← m ρ; makeD c f dds ds) := by
  obtain ⟨C, a, fd, ds0, dvs, hm, hcl, hMk, F, hb, hd, hdd⟩ := h.ex
  subst hx
  refine ⟨fun pins s σ H Q I h => wpAny_Call_Name_kw (ld_glob I hg hm ?_ hdb)⟩
  refine PySem.W.callWith_K (h₀ := X.base) I.ok.mod.kin hMk.kp (thn (ha.run pos pins s σ H (fun us H1 => ∀ x dx, H1 x = none → H1 dx = none → dx ≠ x → spF (gs X cl) (vals (n + 1)) .val f (.ref x :: (us ++ dvs)) (upd (upd H1 dx (.own x)) x (.ins C dx [])) (fun v H2 => v = .non ∧ Q (.ref x) H2) E0) I ?_) fun us s1 ⟨vs, H1, I1, r, q⟩ => ⟨I1.kIn, ?_⟩) he hpl
  · obtain ⟨ρ, μ, Fr, st, hE, hS, w⟩ := h
    refine ⟨ρ, μ, Fr, st, hE, hS, ?_⟩
    rw [M.gives_bind] at w
    refine M.gives_mono w fun ds st1 w1 vs μ1 F1 H1 p1 s1 ⟨l1, l2, r1⟩ x dx nx ndx ne => ?_
    have l1' : ds.length = es.length + 1 := by simpa using l1
    have l2' : vs.length = es.length + 1 := by simpa using l2
    exact make_sp s1 hcl (by omega) (rpl_of l1' l2' r1) hdd nx ndx ne (M.gives_mono w1 fun d st2 w2 => w2.after p1)
  · exact run_makeG hMk F hgu (hr.mono hle) hb hd pass0 I1 r q
theorem sk_make0 {x : Str} {p pos : Pos} (hx : x = Str.ofString c) (h : HasI X.prog X.w X.K X.mg X.base cl c j ps n f dds) (hle : j + 1 ≤ k) (hgu : X.A.guards = some []) (hr : Room k X.A) (hg : Gl X x)
    (hn : dds.length = n := by rfl) (hdb : (x == ("__debug__" : Str)) = false := by decide) : SK cl md X .val (.Call (.Name x p) [] [] pos) (fun _ => makeD c f dds []) := by
  obtain ⟨C, a, fd, ds0, dvs, hm, hcl, hMk, F, hb, hd, hdd⟩ := h.ex
  subst hx
  refine ⟨fun pins s σ H Q I h => wpAny_Call_Name_kw (ld_glob I hg hm ?_ hdb)⟩
  refine PySem.W.callWith_K0 I.kIn hMk.kp (run_makeG (us := []) (vs := []) hMk F hgu (hr.mono hle) hb hd pass0 I .nil fun x dx nx ndx ne => ?_)
  obtain ⟨ρ, μ, Fr, st, hE, hS, w⟩ := h
  exact make_sp (vs := []) (ds := []) hS hcl (by simpa using hn) rfl hdd nx ndx ne w
end

/-! ### o.m(..) -/
def instD (c m : String) (o : D) : M Unit := do
  let x ← view o
  match x with
  | .obj c' fs => if c' = c ∧ fs.lookup (Str.ofString m) = none then pure () else M.bad
  | _ => M.bad
structure HasM (P : Program) (w : World) (K : PySem.W.Frag) (mg : Str → Option Value) (base : Heap) (cl : String → Option Addr) (c m : String) (k : Nat) (ps : List Str) (n : Nat) (rk : Kd) (f : List D → M D) : Prop where
  ex : ∃ (C a : Addr) (fd : FuncData), cl c = some C ∧ Cls K C ∧ Meth K C (Str.ofString m) a ∧ FnG P w K mg base CX0 k a fd ps (spF ⟨K, cl⟩ (vals (n + 1)) rk f) ∧ Binds K fd ps []
section
variable {cl : String → Option Addr} {md : List Md} {X : Cx} {ka rk : Kd} {j k n : Nat} {ps : List Str} {f : List D → M D} {c m : String}
theorem instD_gives {μ : List Addr} {F H H0 : Hp} {st : Sto} {o : D} {v : V} {C : Addr} {P : Unit → Sto → Prop} (s : StOk (gs X cl) μ F H st) (hcl : cl c = some C) (r : RK (gs X cl) ka H0 μ F H o v) (h : (instD c m o).gives st P) :
    ∃ a dx fs, v = .ref a ∧ H a = some (.ins C dx fs) ∧ fs.lookup (Str.ofString m) = none ∧ P () st := by
  unfold instD at h
  rw [M.gives_bind] at h
  obtain ⟨d', vr, h⟩ := view_gives s r h
  cases d' <;> try exact h.elim
  rename_i c' fs
  simp only at h
  obtain ⟨⟨hcc, hn⟩, h2⟩ := ite_gives h
  subst hcc
  obtain ⟨a, C', dx, fv, rfl, e1, ec, rf⟩ := vr_obj s.sub vr
  have : C' = C := Option.some.inj (ec.symm.trans hcl)
  subst this
  exact ⟨a, dx, fv, rfl, e1, rpf_none rf hn, h2⟩
def eMeth (c m : String) (f : List D → M D) (mo : Env → M D) (ma : Env → M (List D)) : Env → M D := fun ρ => do
  let o ← mo ρ
  let _ ← instD c m o
  let ds ← ma ρ
  f (o :: ds)
theorem sk_meth {o : Expr} {mm : Str} {apos pos : Pos} {e : Expr} {es : List Expr} {mo : Env → M D} {ma : Env → M (List D)} {pl : Sem Bool} (hmm : mm = Str.ofString m) (h : HasM X.prog X.w X.K X.mg X.base cl c m j ps n rk f) (hle : j ≤ k) (hgu : X.A.guards = some []) (hr : Room k X.A)
    (ho : SK cl md X .val o mo) (ha : SA cl md X (vals (es.length + 1)) (e :: es) ma) (hn : es.length + 1 = n := by rfl) (hst : starEach (e :: es) X.env = (false, eval e X.env) :: starEach es X.env := by rfl) (hpl : (backTo pos (starEach es X.env)).any (·.1) = false := by rfl)
    (ht : eval (.Call (.Attribute o mm apos) (e :: es) [] pos) X.env = (do
      let ov ← eval o X.env
      standAt apos.atName
      let (f, first) ← holding [ov] (getMethod ov mm pl)
      callWith pos f first (backTo pos (starEach (e :: es) X.env)) (backToKw pos (keywordEach [] X.env))) := by rfl) :
    SK cl md X rk (.Call (.Attribute o mm apos) (e :: es) [] pos) (eMeth c m f mo ma) := by
  obtain ⟨C, a, fd, hcl, hC, hM, F, hb⟩ := h.ex
  subst hmm
  refine ⟨fun pins s σ H Q I ⟨ρ, μ, Fr, st, hE, hS, w⟩ => ?_⟩
  refine PySem.W.methodCall_KW (pl := pl) (thn (ho.run pins s σ H (fun x H1 => ∃ a dx fs, x = .ref a ∧ H1 a = some (.ins C dx fs) ∧ fs.lookup (Str.ofString m) = none ∧ tKL (gs X cl) md (vals (es.length + 1)) ma σ H1 fun vs H2 => spF (gs X cl) (vals (n + 1)) rk f (x :: vs) H2 Q E0) I ?_) fun u s1 ⟨x, H1, I1, rx, a, dx, fs, ex, ea, l, q⟩ => ?_) ht
  · refine ⟨ρ, μ, Fr, st, hE, hS, ?_⟩
    unfold eMeth at w
    rw [M.gives_bind] at w
    refine M.gives_mono w fun d st1 w1 v μ1 F1 H1 p1 s1 r1 => ?_
    rw [M.gives_bind] at w1
    obtain ⟨a, dx, fs, rfl, e1, l, w2⟩ := instD_gives s1 hcl r1 w1
    refine ⟨a, dx, fs, rfl, e1, l, ρ, μ1, F1, st1, hE.post p1, s1, ?_⟩
    rw [M.gives_bind] at w2
    refine M.gives_mono w2 fun ds st2 w3 vs μ2 F2 H2 p2 s2 ⟨l1, l2, r2⟩ => ?_
    have l1' : ds.length = es.length + 1 := by simpa using l1
    have l2' : vs.length = es.length + 1 := by simpa using l2
    refine ⟨μ2, F2, d :: ds, st2, s2, by simp [l1', hn], by simp [l2', hn], rpl_all ⟨_, _, rfl, Rp.post p2 r1, rpl_of l1' l2' r2⟩, M.gives_mono w3 fun x st3 w4 => w4.after (p1.trans p2)⟩
  · subst ex
    obtain rfl : u = Value.ref a := rx
    refine getmeth_ok I1 ea hC hM l ?_
    refine PySem.W.callWith_K (first := [.ref a]) (h₀ := X.base) I.ok.mod.kin hM.kp (thn (ha.run pos pins s1 σ H1 _ I1 q) fun us s2 ⟨vs, H2, I2, r, q2⟩ => ⟨I2.kIn, ?_⟩) hst hpl
    have q2' : spF (gs X cl) (vals (n + 1)) rk f ((V.ref a :: vs) ++ []) H2 Q E0 := by rw [List.append_nil]; exact q2
    exact runG (us := .ref a :: us) (vs := .ref a :: vs) F hgu (hr.mono hle) hb .nil pass0 I2 (.cons rfl r) q2'
theorem sk_meth0 {o : Expr} {mm : Str} {apos pos : Pos} {mo : Env → M D} {pl : Sem Bool} (hmm : mm = Str.ofString m) (h : HasM X.prog X.w X.K X.mg X.base cl c m j ps 0 rk f) (hle : j ≤ k) (hgu : X.A.guards = some []) (hr : Room k X.A) (ho : SK cl md X .val o mo)
    (ht : eval (.Call (.Attribute o mm apos) [] [] pos) X.env = (do
      let ov ← eval o X.env
      standAt apos.atName
      let (f, first) ← holding [ov] (getMethod ov mm pl)
      callWith pos f first (backTo pos (starEach [] X.env)) (backToKw pos (keywordEach [] X.env))) := by rfl) :
    SK cl md X rk (.Call (.Attribute o mm apos) [] [] pos) (eMeth c m f mo lNil) := by
  obtain ⟨C, a, fd, hcl, hC, hM, F, hb⟩ := h.ex
  subst hmm
  refine ⟨fun pins s σ H Q I ⟨ρ, μ, Fr, st, hE, hS, w⟩ => ?_⟩
  refine PySem.W.methodCall_KW (pl := pl) (thn (ho.run pins s σ H (fun x H1 => ∃ a dx fs, x = .ref a ∧ H1 a = some (.ins C dx fs) ∧ fs.lookup (Str.ofString m) = none ∧ spF (gs X cl) (vals (0 + 1)) rk f [x] H1 Q E0) I ?_) fun u s1 ⟨x, H1, I1, rx, a, dx, fs, ex, ea, l, q⟩ => ?_) ht
  · refine ⟨ρ, μ, Fr, st, hE, hS, ?_⟩
    unfold eMeth at w
    rw [M.gives_bind] at w
    refine M.gives_mono w fun d st1 w1 v μ1 F1 H1 p1 s1 r1 => ?_
    rw [M.gives_bind] at w1
    obtain ⟨a, dx, fs, rfl, e1, l, w2⟩ := instD_gives s1 hcl r1 w1
    refine ⟨a, dx, fs, rfl, e1, l, μ1, F1, [d], st1, s1, rfl, rfl, rpl_all ⟨_, _, rfl, r1, rfl⟩, M.gives_mono w2 fun x st3 w4 => w4.after p1⟩
  · subst ex
    obtain rfl : u = Value.ref a := rx
    refine getmeth_ok I1 ea hC hM l ?_
    refine PySem.W.callWith_K0 (first := [.ref a]) I1.kIn hM.kp ?_
    exact runG (us := [.ref a]) (vs := [.ref a]) F hgu (hr.mono hle) hb .nil pass0 I1 (.cons rfl .nil) q
end
end Sh
namespace Sh
open PySem PySem.Spec PyProof.Rows L2
/-! ### e.f, a property -/
structure HasP (P : Program) (w : World) (K : PySem.W.Frag) (mg : Str → Option Value) (base : Heap) (cl : String → Option Addr) (c f : String) (k : Nat) (rk : Kd) (m : List D → M D) : Prop where
  ex : ∃ (C p g : Addr) (fd : FuncData) (ps : List Str), cl c = some C ∧ Cls K C ∧ PropOf K C (Str.ofString f) p g ∧ FnG P w K mg base CX0 k g fd ps (spF ⟨K, cl⟩ (vals 1) rk m) ∧ Binds K fd ps []
def instC (c : String) (o : D) : M Unit := do
  let x ← view o
  match x with
  | .obj c' _ => if c' = c then pure () else M.bad
  | _ => M.bad
def eProp (c : String) (f : List D → M D) (mo : Env → M D) : Env → M D := fun ρ => do
  let o ← mo ρ
  let _ ← instC c o
  f [o]
section
variable {X : Cx} {CX : CXT} {k : Nat} {C p g a dx : Addr} {fs : List (Str × V)} {f : Str} {fd : FuncData} {ps : List Str} {sp : Sp} {dvs : List V} {ds : List Value} {E : XK} {e : Expr} {pos : Pos} {ta : TE}
theorem getprop_okG {pins : List (Addr × Obj)} {σ : L2.St} {H : Hp} {s : Shared} {Q : VK} {b : Bool} {E' : Value → Shared → Prop} (I : Inv X pins σ H s) (ea : H a = some (.ins C dx fs)) (c : Cls X.K C) (hp : PropOf X.K C f p g)
    (F : FnG X.prog X.w X.K X.mg X.base CX k g fd ps sp) (hgu : X.A.guards = some []) (hr : Room (k + 1) X.A) (hb : Binds X.K fd ps ds) (hd : Vals dvs ds) (hx : Passes CX X.nox E) (h : sp (.ref a :: dvs) H Q E) :
    wpAny (model X.prog X.w) X.A (getAttr (.ref a) f b) (EP X pins σ Q) E' s := by
  obtain ⟨mA, O, _, _, _, _⟩ := ins_get I.hok ea
  obtain ⟨od, J, _⟩ := O.look
  obtain ⟨rest, hrec⟩ := hp.rec_
  have I1 := I.tok (s.toks + 1)
  have hl : ([Value.ref a] ++ ds).length = ps.length := by
    rw [← F.glen _ _ _ _ h]
    show ds.length + 1 = dvs.length + 1
    rw [hd.length]
  have hc : (PySem.W.clsIn X.K C).isSome = true := by
    obtain ⟨cd, hc, _⟩ := PySem.W.any_some c.hd
    rw [hc]
    rfl
  refine PySem.W.get_bind I.kIn J (PySem.W.plainGet_of (c.get f)).1 (PySem.W.findObj_data hc hp.at_ hp.get hp.tak) (PySem.W.plainGet_of (c.get f)).2 (wpAny_call (PySem.W.prop_get (s := { s with toks := s.toks + 1 }) I.kIn hrec ?_))
  refine codeAny_mono (F.grun X.A.in1 X.stack { s with toks := s.toks + 1 } H ⟨[.ref a], []⟩ (.ref a :: ds) (.ref a :: dvs) Q E hgu hr.in1 I1.env0.in1 (hb _ [.ref a] I1.kIn hl) (.cons rfl hd) h) fun r s' hq => ?_
  cases r with
  | error er => exact False.elim (hx pins σ H { s with toks := s.toks + 1 } er s' (I1.wish _) hq)
  | ok fl =>
    cases fl with
    | ret u =>
      obtain ⟨v, H', I3, rv, q3⟩ := I1.after hq
      show wpAny _ _ (handedOut u) _ _ _
      rw [PySem.W.handedOut_of (handed_of rv)]
      exact wpAny_pure ⟨v, H', I3, rv, q3⟩
    | next => exact False.elim hq
    | brk => exact False.elim hq
    | cont => exact False.elim hq
end
section
variable {cl : String → Option Addr} {md : List Md} {X : Cx} {ka rk : Kd} {j k n : Nat} {ps : List Str} {f : List D → M D} {c m : String}
theorem sk_prop {o : Expr} {mm : Str} {pos : Pos} {mo : Env → M D} (hmm : mm = Str.ofString m) (h : HasP X.prog X.w X.K X.mg X.base cl c m j rk f) (hle : j + 1 ≤ k) (hgu : X.A.guards = some []) (hr : Room k X.A)
    (ho : SK cl md X .val o mo) (hab : attributeBase o mm X.env (eval o X.env) = eval o X.env := by rfl) : SK cl md X rk (.Attribute o mm pos) (eProp c f mo) := by
  obtain ⟨C, p, g, fd, ps, hcl, hC, hp, F, hb⟩ := h.ex
  subst hmm
  refine ⟨fun pins s σ H Q I ⟨ρ, μ, Fr, st, hE, hS, w⟩ => ?_⟩
  refine attr_of hab (thn (ho.run pins s σ H (fun x H1 => ∃ a dx fs, x = .ref a ∧ H1 a = some (.ins C dx fs) ∧ spF (gs X cl) (vals 1) rk f [x] H1 Q E0) I ?_) fun u s1 ⟨x, H1, I1, rx, a, dx, fs, ex, ea, q⟩ => ?_)
  · refine ⟨ρ, μ, Fr, st, hE, hS, ?_⟩
    unfold eProp at w
    rw [M.gives_bind] at w
    refine M.gives_mono w fun d st1 w1 v μ1 F1 H1 p1 s1 r1 => ?_
    unfold instC at w1
    rw [M.gives_bind, M.gives_bind] at w1
    obtain ⟨d', vr, w1⟩ := view_gives s1 (k := .val) (H0 := H1) r1 w1
    cases d' <;> try exact w1.elim
    rename_i c' fs
    simp only at w1
    obtain ⟨hcc, w2⟩ := ite_gives w1
    subst hcc
    obtain ⟨a, C', dx, fv, rfl, e1, ec, rf⟩ := vr_obj s1.sub vr
    have : C' = C := Option.some.inj (ec.symm.trans hcl)
    subst this
    exact ⟨a, dx, fv, rfl, e1, μ1, F1, [d], st1, s1, rfl, rfl, rpl_all ⟨_, _, rfl, r1, rfl⟩, M.gives_mono w2 fun x st3 w4 => w4.after p1⟩
  · subst ex
    obtain rfl : u = Value.ref a := rx
    exact getprop_okG I1 ea hC hp F hgu (hr.mono hle) hb .nil pass0 q
end

/-! ### keywords -/
/-- the arguments by name, brought into the parameters' order -/
def permL {α : Type} (ix : List Nat) (xs : List α) : List α := ix.filterMap fun i => xs[i]?
theorem permL_vals : ∀ (ix : List Nat) {zs : List V} {ws : List Value}, Vals zs ws → Vals (permL ix zs) (permL ix ws)
  | [], _, _, _ => .nil
  | i :: ix, zs, ws, r => by
    have at_ : ∀ {zs : List V} {ws : List Value} (i : Nat), Vals zs ws → (zs[i]? = none ∧ ws[i]? = none) ∨ ∃ z u, zs[i]? = some z ∧ ws[i]? = some u ∧ RelV z u := fun {zs ws} i r => by
      induction r generalizing i with
      | nil => exact .inl ⟨rfl, rfl⟩
      | cons h hr ih =>
        cases i with
        | zero => exact .inr ⟨_, _, rfl, rfl, h⟩
        | succ i => simpa using ih i
    have ih := permL_vals ix r
    unfold permL at ih ⊢
    rw [List.filterMap_cons, List.filterMap_cons]
    rcases at_ i r with ⟨h1, h2⟩ | ⟨z, u, h1, h2, h3⟩
    · rw [h1, h2]; exact ih
    · rw [h1, h2]; exact .cons h3 ih
theorem rpl_perm {G : Gs} {μ : List Addr} {F : Hp} : ∀ (ix : List Nat) {ds : List D} {vs : List V}, RpL G μ F ds vs → RpL G μ F (permL ix ds) (permL ix vs)
  | [], _, _, _ => rfl
  | i :: ix, ds, vs, r => by
    have ih := rpl_perm ix r
    have hl := rpl_len r
    unfold permL at ih ⊢
    rw [List.filterMap_cons, List.filterMap_cons]
    by_cases hi : i < ds.length
    · have h1 : ds[i]? = some ds[i] := List.getElem?_eq_getElem hi
      have hi2 : i < vs.length := by omega
      have h2 : vs[i]? = some vs[i] := List.getElem?_eq_getElem hi2
      rw [h1, h2]
      exact ⟨_, _, rfl, rpl_get r h1 h2, ih⟩
    · have h1 : ds[i]? = none := List.getElem?_eq_none (by omega)
      have h2 : vs[i]? = none := List.getElem?_eq_none (by omega)
      rw [h1, h2]; exact ih
def SKw (cl : String → Option Addr) (md : List Md) (X : Cx) (kws : List Keyword) (m : Env → M (List D)) : Prop := PK X kws (tKL (gs X cl) md (vals kws.length) m)
theorem PK.mono {X : Cx} {kws : List Keyword} {t t' : TA} (h : PK X kws t) (i : ∀ σ H Q, t' σ H Q → t σ H Q) : PK X kws t' := ⟨fun pos pins s σ H Q I q => h.run pos pins s σ H Q I (i σ H Q q)⟩
section
variable {cl : String → Option Addr} {md : List Md} {X : Cx} {ka rk : Kd} {j k n : Nat} {ps ks : List Str} {f : List D → M D} {dds : List D} {c m : String}
theorem skw_nil : SKw cl md X [] lNil := PK.mono pk_nil fun σ H Q ⟨ρ, μ, F, st, hE, hS, w⟩ => w [] μ F H .refl hS ⟨rfl, rfl, fun i k d v h => by simp at h⟩
theorem skw_cons {nm : Option Str} {kpos : Pos} {e : Expr} {kws : List Keyword} {m : Env → M D} {n : Env → M (List D)} (h : SK cl md X .val e m) (hr : SKw cl md X kws n) : SKw cl md X (⟨nm, e, kpos⟩ :: kws) (lCons m n) := PK.mono (pk_cons h hr) fun σ H Q ⟨ρ, μ, F, st, hE, hS, w⟩ => by
  refine ⟨ρ, μ, F, st, hE, hS, ?_⟩
  rw [M.gives_bind] at w
  refine M.gives_mono w fun d st1 w1 v μ1 F1 H1 p1 s1 r1 => ⟨ρ, μ1, F1, st1, hE.post p1, s1, ?_⟩
  rw [M.gives_bind] at w1
  refine M.gives_mono w1 fun ds st2 w2 vs μ2 F2 H2 p2 s2 r2 => ?_
  refine w2 (v :: vs) μ2 F2 H2 (p1.trans p2) s2 ⟨by simp [r2.1], by simp [r2.2.1], fun i k' d' v' h1 h2 h3 => ?_⟩
  cases i with
  | zero =>
    simp only [List.length_cons, vals, List.replicate_succ, List.getElem?_cons_zero, Option.some.injEq] at h1 h2 h3
    subst h1 h2 h3
    exact r1.post p2
  | succ i =>
    simp only [List.length_cons, vals, List.replicate_succ, List.getElem?_cons_succ] at h1 h2 h3
    exact (r2.2.2 i k' d' v' h1 h2 h3).base fun _ n => p1.free n
theorem run_fnkN {CX : CXT} {f : Addr} {fd : FuncData} {sp : Sp} {E : XK} {g : List Value → List Value → List Value} {gV : List V → List V → List V} {pins : List (Addr × Obj)} {σ : L2.St} {H : Hp} {s : Shared} {Q : VK} {us ws : List Value} {vs zs : List V}
    (F : FnG X.prog X.w X.K X.mg X.base CX k f fd ps sp) (hgu : X.A.guards = some []) (hr : Room k X.A) (hb : KBn X.K fd ps n ks g gV) (hx : Passes CX X E) (I : Inv X pins σ H s) (r : Vals vs us) (rz : Vals zs ws) (l1 : us.length = n) (l2 : zs.length = ks.length) (h : sp (gV vs zs) H Q E) :
    wpAny (model X.prog X.w) X.A (call (.ref f) us (ks.zip ws)) (EP X pins σ Q) X.xe s := by
  refine wpAny_call (codeAny_mono (F.grun X.A X.stack s H ⟨us, ks.zip ws⟩ (g us ws) (gV vs zs) Q E hgu hr I.env0 (hb.to s us ws I.kIn l1 (rz.length.symm.trans l2)) (hb.rel r rz) h) fun res s' hq => ?_)
  match res, hq with
  | .error e, hq => exact hx pins σ H s e s' I hq
  | .ok (.ret u), hq => exact I.after hq
/-- C(k = v, ..) -/
structure HasIK (P : Program) (w : World) (K : PySem.W.Frag) (mg : Str → Option Value) (base : Heap) (cl : String → Option Addr) (c : String) (k : Nat) (ps : List Str) (n : Nat) (f : List D → M D) (ks : List Str) (ix : List Nat) : Prop where
  ex : ∃ (C a : Addr) (fd : FuncData), mg (Str.ofString c) = some (.ref C) ∧ cl c = some C ∧ Mk K C a ∧ FnG P w K mg base CX0 k a fd ps (spF ⟨K, cl⟩ (vals (n + 1)) .val f) ∧ KBn K fd ps 1 ks (fun us ws => us ++ permL ix ws) (fun us ws => us ++ permL ix ws)
theorem run_makeKG {CX : CXT} {a C : Addr} {fd : FuncData} {sp : Sp} {E : XK} {g : List Value → List Value → List Value} {gV : List V → List V → List V} {pins : List (Addr × Obj)} {σ : L2.St} {H : Hp} {s : Shared} {Q : VK} {ws : List Value} {zs : List V} (hMk : Mk X.K C a) (F : FnG X.prog X.w X.K X.mg X.base CX k a fd ps sp) (hgu : X.A.guards = some []) (hr : Room (k + 1) X.A) (hb : KBn X.K fd ps 1 ks g gV)
    (hx : Passes CX X E) (I : Inv X pins σ H s) (rz : Vals zs ws) (hz : zs.length = ks.length)
    (h : ∀ x dx, H x = none → H dx = none → dx ≠ x → sp (gV [.ref x] zs) (upd (upd H dx (.own x)) x (.ins C dx [])) (fun v H2 => v = .non ∧ Q (.ref x) H2) E) :
    wpAny (model X.prog X.w) X.A (call (.ref C) [] (ks.zip ws)) (EP X pins σ Q) X.xe s := by
  have hq := h (s.heap.objs.size + 1) s.heap.objs.size (I.hok.fresh (Nat.le_succ _)) (I.hok.fresh (Nat.le_refl _)) (Nat.ne_of_lt (Nat.lt_succ_self _))
  have I2 := Inv.made (C := C) I
  have r1 : Vals [V.ref (s.heap.objs.size + 1)] [Value.ref (s.heap.objs.size + 1)] := .cons rfl .nil
  have r2 := hb.rel r1 rz
  refine wpAny_call (make_map (f := a) I.kIn hMk.makes hMk.init (beq_iff_eq.mp hMk.fn) (codeAny_mono (F.grun _ X.stack _ _ ⟨[Value.ref (s.heap.objs.size + 1)], ks.zip ws⟩ (g [Value.ref (s.heap.objs.size + 1)] ws) _ _ E ?_ (hr.make C [] (ks.zip ws))
    (I2.env0.make C [] (ks.zip ws)) (hb.to _ [Value.ref (s.heap.objs.size + 1)] ws I2.kIn rfl (rz.length.symm.trans hz)) r2 hq) fun r s' hq' => ?_))
  · exact hgu
  cases r with
  | error e => exact hx pins σ _ _ e s' I2 hq'
  | ok fl =>
    cases fl with
    | ret u =>
      obtain ⟨v, H', I3, rv, ev, q3⟩ := I2.after hq'
      subst ev
      exact ⟨rv, ⟨V.ref (s.heap.objs.size + 1), H', I3, rfl, q3⟩⟩
    | next => exact False.elim hq'
    | brk => exact False.elim hq'
    | cont => exact False.elim hq'
theorem permL_len {α : Type} {ix : List Nat} {xs : List α} (h : ∀ i ∈ ix, i < xs.length) : (permL ix xs).length = ix.length := by
  induction ix with
  | nil => rfl
  | cons i ix ih =>
    unfold permL
    rw [List.filterMap_cons, List.getElem?_eq_getElem (h i List.mem_cons_self)]
    simp only [List.length_cons]
    congr 1
    exact ih fun j hj => h j (List.mem_cons_of_mem _ hj)
theorem sk_makeK {x : Str} {p pos : Pos} {kws : List Keyword} {ix : List Nat} {m : Env → M (List D)} (hx : x = Str.ofString c) (h : HasIK X.prog X.w X.K X.mg X.base cl c j ps n f ks ix) (hle : j + 1 ≤ k) (hgu : X.A.guards = some []) (hr : Room k X.A) (hg : Gl X x)
    (ha : SKw cl md X kws m) (hix : (∀ i ∈ ix, i < kws.length) ∧ ix.length = n := by decide) (hkl : ks.length = kws.length := by rfl) (hdb : (x == ("__debug__" : Str)) = false := by decide)
    (hall : (backToKw pos (keywordEach kws X.env)).all (·.1.isSome) = true := by rfl) (hks : (backToKw pos (keywordEach kws X.env)).filterMap (·.1) = ks := by rfl)
    (hpl : ((backTo pos (starEach [] X.env)).any (·.1) || (backToKw pos (keywordEach kws X.env)).any (·.1.isNone)) = false := by rfl) :
    SK cl md X .val (.Call (.Name x p) [] kws pos) (fun ρ => do let ds ← m ρ; makeD c f [] (permL ix ds)) := by
  obtain ⟨C, a, fd, hm, hcl, hMk, F, hb⟩ := h.ex
  subst hx
  refine ⟨fun pins s σ H Q I h => wpAny_Call_Name_kw (ld_glob I hg hm ?_ hdb)⟩
  refine PySem.W.callWith_KW0 (h₀ := X.base) I.ok.mod.kin hMk.kp hall (thn (ha.run pos pins s σ H (fun us H1 => us.length = kws.length ∧ ∀ x dx, H1 x = none → H1 dx = none → dx ≠ x → spF (gs X cl) (vals (n + 1)) .val f ([.ref x] ++ permL ix us) (upd (upd H1 dx (.own x)) x (.ins C dx [])) (fun v H2 => v = .non ∧ Q (.ref x) H2) E0) I ?_) fun us s1 ⟨vs, H1, I1, r, q0, q⟩ => ⟨I1.kIn, ?_⟩) hpl
  · obtain ⟨ρ, μ, Fr, st, hE, hS, w⟩ := h
    refine ⟨ρ, μ, Fr, st, hE, hS, ?_⟩
    rw [M.gives_bind] at w
    refine M.gives_mono w fun ds st1 w1 vs μ1 F1 H1 p1 s1 ⟨l1, l2, r1⟩ => ⟨by simpa using l2, fun x dx nx ndx ne => ?_⟩
    have l1' : ds.length = kws.length := by simpa using l1
    have l2' : vs.length = kws.length := by simpa using l2
    have := make_sp (E := E0) (dds := []) (dvs := []) s1 hcl (by rw [permL_len (by rw [l1']; exact hix.1), hix.2] <;> rfl) (rpl_perm ix (rpl_of l1' l2' r1)) (fun _ _ => rfl) nx ndx ne (M.gives_mono w1 fun d st2 w2 => w2.after p1)
    rw [List.append_nil] at this
    exact this
  · rw [hks]
    exact run_makeKG hMk F hgu (hr.mono hle) hb pass0 I1 r (q0.trans hkl.symm) q
/-- o.m(k = v, ..) -/
structure HasMK (P : Program) (w : World) (K : PySem.W.Frag) (mg : Str → Option Value) (base : Heap) (cl : String → Option Addr) (c m : String) (k : Nat) (ps : List Str) (n : Nat) (rk : Kd) (f : List D → M D) (ks : List Str) (ix : List Nat) : Prop where
  ex : ∃ (C a : Addr) (fd : FuncData), cl c = some C ∧ Cls K C ∧ Meth K C (Str.ofString m) a ∧ FnG P w K mg base CX0 k a fd ps (spF ⟨K, cl⟩ (vals (n + 1)) rk f) ∧ KBn K fd ps 1 ks (fun us ws => us ++ permL ix ws) (fun us ws => us ++ permL ix ws)
def eMethK (c m : String) (f : List D → M D) (ix : List Nat) (mo : Env → M D) (ma : Env → M (List D)) : Env → M D := fun ρ => do
  let o ← mo ρ
  let _ ← instD c m o
  let ds ← ma ρ
  f (o :: permL ix ds)
theorem sk_methK {o : Expr} {mm : Str} {apos pos : Pos} {kws : List Keyword} {ix : List Nat} {mo : Env → M D} {ma : Env → M (List D)} {pl : Sem Bool} (hmm : mm = Str.ofString m) (h : HasMK X.prog X.w X.K X.mg X.base cl c m j ps n rk f ks ix) (hle : j ≤ k) (hgu : X.A.guards = some []) (hr : Room k X.A)
    (ho : SK cl md X .val o mo) (ha : SKw cl md X kws ma) (hix : (∀ i ∈ ix, i < kws.length) ∧ ix.length = n := by decide) (hkl : ks.length = kws.length := by rfl)
    (hall : (backToKw pos (keywordEach kws X.env)).all (·.1.isSome) = true := by rfl) (hks : (backToKw pos (keywordEach kws X.env)).filterMap (·.1) = ks := by rfl)
    (hpl : ((backTo pos (starEach [] X.env)).any (·.1) || (backToKw pos (keywordEach kws X.env)).any (·.1.isNone)) = false := by rfl)
    (ht : eval (.Call (.Attribute o mm apos) [] kws pos) X.env = (do
      let ov ← eval o X.env
      standAt apos.atName
      let (f, first) ← holding [ov] (getMethod ov mm pl)
      callWith pos f first (backTo pos (starEach [] X.env)) (backToKw pos (keywordEach kws X.env))) := by rfl) :
    SK cl md X rk (.Call (.Attribute o mm apos) [] kws pos) (eMethK c m f ix mo ma) := by
  obtain ⟨C, a, fd, hcl, hC, hM, F, hb⟩ := h.ex
  subst hmm
  refine ⟨fun pins s σ H Q I ⟨ρ, μ, Fr, st, hE, hS, w⟩ => ?_⟩
  refine PySem.W.methodCall_KW (pl := pl) (thn (ho.run pins s σ H (fun x H1 => ∃ a dx fs, x = .ref a ∧ H1 a = some (.ins C dx fs) ∧ fs.lookup (Str.ofString m) = none ∧ tKL (gs X cl) md (vals kws.length) ma σ H1 fun vs H2 => vs.length = kws.length ∧ spF (gs X cl) (vals (n + 1)) rk f ([x] ++ permL ix vs) H2 Q E0) I ?_) fun u s1 ⟨x, H1, I1, rx, a, dx, fs, ex, ea, l, q⟩ => ?_) ht
  · refine ⟨ρ, μ, Fr, st, hE, hS, ?_⟩
    unfold eMethK at w
    rw [M.gives_bind] at w
    refine M.gives_mono w fun d st1 w1 v μ1 F1 H1 p1 s1 r1 => ?_
    rw [M.gives_bind] at w1
    obtain ⟨a, dx, fs, rfl, e1, l, w2⟩ := instD_gives s1 hcl r1 w1
    refine ⟨a, dx, fs, rfl, e1, l, ρ, μ1, F1, st1, hE.post p1, s1, ?_⟩
    rw [M.gives_bind] at w2
    refine M.gives_mono w2 fun ds st2 w3 vs μ2 F2 H2 p2 s2 ⟨l1, l2, r2⟩ => ?_
    have l1' : ds.length = kws.length := by simpa using l1
    have l2' : vs.length = kws.length := by simpa using l2
    have q1 : (permL ix ds).length = n := by rw [permL_len (by rw [l1']; exact hix.1), hix.2]
    have q2 : (permL ix vs).length = n := by rw [permL_len (by rw [l2']; exact hix.1), hix.2]
    refine ⟨l2', μ2, F2, d :: permL ix ds, st2, s2, by simp [q1], by simp [q2], rpl_all ⟨_, _, rfl, Rp.post p2 r1, rpl_perm ix (rpl_of l1' l2' r2)⟩, M.gives_mono w3 fun x st3 w4 => w4.after (p1.trans p2)⟩
  · subst ex
    obtain rfl : u = Value.ref a := rx
    refine getmeth_ok I1 ea hC hM l ?_
    refine PySem.W.callWith_KW0 (first := [.ref a]) (h₀ := X.base) I1.ok.mod.kin hM.kp hall (thn (ha.run pos pins s1 σ H1 _ I1 q) fun us s2 ⟨vs, H2, I2, r, q0, q2⟩ => ⟨I2.kIn, ?_⟩) hpl
    rw [hks]
    exact run_fnkN (us := [.ref a]) (vs := [.ref a]) (F.up hle) hgu hr hb pass0 I2 (.cons rfl .nil) r rfl (q0.trans hkl.symm) q2
/-- f(k = v, ..) -/
structure HasKs (P : Program) (w : World) (K : PySem.W.Frag) (mg : Str → Option Value) (base : Heap) (cl : String → Option Addr) (x : Str) (k : Nat) (ps : List Str) (n : Nat) (rk : Kd) (f : List D → M D) (ks : List Str) (ix : List Nat) : Prop where
  ex : ∃ (a : Addr) (fd : FuncData), mg x = some (.ref a) ∧ PySem.W.keepIn K (.ref a) = true ∧ FnG P w K mg base CX0 k a fd ps (spF ⟨K, cl⟩ (vals n) rk f) ∧ KBn K fd ps 0 ks (fun us ws => us ++ permL ix ws) (fun us ws => us ++ permL ix ws)
def eCallKs (f : List D → M D) (ix : List Nat) (ma : Env → M (List D)) : Env → M D := fun ρ => do
  let ds ← ma ρ
  f (permL ix ds)
theorem sk_callKs {x : Str} {p pos : Pos} {kws : List Keyword} {ix : List Nat} {ma : Env → M (List D)} (h : HasKs X.prog X.w X.K X.mg X.base cl x j ps n rk f ks ix) (hle : j ≤ k) (hgu : X.A.guards = some []) (hr : Room k X.A) (hg : Gl X x)
    (ha : SKw cl md X kws ma) (hix : (∀ i ∈ ix, i < kws.length) ∧ ix.length = n := by decide) (hkl : ks.length = kws.length := by rfl) (hdb : (x == ("__debug__" : Str)) = false := by decide)
    (hall : (backToKw pos (keywordEach kws X.env)).all (·.1.isSome) = true := by rfl) (hks : (backToKw pos (keywordEach kws X.env)).filterMap (·.1) = ks := by rfl)
    (hpl : ((backTo pos (starEach [] X.env)).any (·.1) || (backToKw pos (keywordEach kws X.env)).any (·.1.isNone)) = false := by rfl) :
    SK cl md X rk (.Call (.Name x p) [] kws pos) (eCallKs f ix ma) := by
  obtain ⟨a, fd, hm, hk, F, hb⟩ := h.ex
  refine ⟨fun pins s σ H Q I h => wpAny_Call_Name_kw (ld_glob I hg hm ?_ hdb)⟩
  refine PySem.W.callWith_KW0 (h₀ := X.base) I.ok.mod.kin hk hall (thn (ha.run pos pins s σ H (fun zs H2 => zs.length = kws.length ∧ spF (gs X cl) (vals n) rk f ([] ++ permL ix zs) H2 Q E0) I ?_) fun ws s2 ⟨zs, H2, I2, rz, q0, q2⟩ => ⟨I2.kIn, ?_⟩) hpl
  · obtain ⟨ρ, μ, Fr, st, hE, hS, w⟩ := h
    refine ⟨ρ, μ, Fr, st, hE, hS, ?_⟩
    unfold eCallKs at w
    rw [M.gives_bind] at w
    refine M.gives_mono w fun ds st1 w1 vs μ1 F1 H1 p1 s1 ⟨l1, l2, r1⟩ => ?_
    have l1' : ds.length = kws.length := by simpa using l1
    have l2' : vs.length = kws.length := by simpa using l2
    have q1 : (permL ix ds).length = n := by rw [permL_len (by rw [l1']; exact hix.1), hix.2]
    have q2 : (permL ix vs).length = n := by rw [permL_len (by rw [l2']; exact hix.1), hix.2]
    refine ⟨l2', μ1, F1, permL ix ds, st1, s1, by simp [q1], by simp [q2], rpl_all (rpl_perm ix (rpl_of l1' l2' r1)), M.gives_mono w1 fun d st2 w2 => w2.after p1⟩
  · rw [hks]
    exact run_fnkN (us := []) (vs := []) (F.up hle) hgu hr hb pass0 I2 .nil rz rfl (q0.trans hkl.symm) q2
end

theorem ClsOk.one {K : PySem.W.Frag} {cl : String → Option Addr} {tab : CT} (h : ClsOk K cl tab) {c f : String} (ok : okF tab c f = true) : ClsOk K cl [(c, [f])] := ⟨fun c' f' q => by
  unfold okF at q
  simp only [List.any_cons, List.any_nil, Bool.or_false, Bool.and_eq_true, decide_eq_true_eq] at q
  obtain ⟨rfl, rfl⟩ := q
  exact h.at_ _ _ ok⟩
/-- a def without defaults called by keywords alone (behind us) -/
theorem funKB {K : PySem.W.Frag} {x qual : Str} {st : Stmt} {f : Addr} {fd : FuncData} {ps ks : List Str} {n : Nat} {ix : List Nat} (F : Fun K x qual st f fd)
    (h : ∀ (kV doc pm : Value) (an : Option Addr) (cdv ct : Value) (us ws : List Value), us.length = n → ws.length = ks.length → bindArgs (PySem.W.fnOf x qual (defArgs st) (defBody st) (defScope st) .none kV doc pm an cdv ct) ⟨us, ks.zip ws⟩ = pure (ps.zip (us ++ permL ix ws))) :
    KBn K fd ps n ks (fun us ws => us ++ permL ix ws) (fun us ws => us ++ permL ix ws) := by
  obtain ⟨oc, od, kV, doc, pm, an, cdv, ct, osl, rfl, lk, hcd⟩ := F.ex
  exact ⟨fun s us ws _ l1 l2 => .of_eq (h kV doc pm an cdv ct us ws l1 l2), fun r1 r2 => r1.append (permL_vals ix r2)⟩
/-- a law's def, whatever the classes' places -/
def spA (K : PySem.W.Frag) (pk : List Kd) (rk : Kd) (f : List D → M D) : Sp := fun vs H Q E => vs.length = pk.length ∧ ∀ cl : String → Option Addr, spF ⟨K, cl⟩ pk rk f vs H Q E
theorem fnG_A {P : Program} {w : World} {K : PySem.W.Frag} {mg : Str → Option Value} {base : Heap} {CX : CXT} {k : Nat} {f : Addr} {fd : FuncData} {ps : List Str} {pk : List Kd} {rk : Kd} {m : List D → M D} {cl : String → Option Addr} (F : FnG P w K mg base CX k f fd ps (spF ⟨K, cl⟩ pk rk m)) : FnG P w K mg base CX k f fd ps (spA K pk rk m) :=
  ⟨fun vs H Q E h => F.glen vs H Q E (h.2 cl), fun A o s H ar us vs Q E hg hr e0 hb r h => F.grun A o s H ar us vs Q E hg hr e0 hb r (h.2 cl)⟩
/-- a def with one default, () -/
structure DefT (K : PySem.W.Frag) (T T0 : Addr) : Prop where
  t : ∃ (od : Option Addr) (n : Nat) (sl : Array (Option Value)), K.lookup T = some ⟨.type "tuple", od, .seq #[.ref T0] n, sl⟩
  t0 : ∃ (od : Option Addr) (n : Nat) (sl : Array (Option Value)), K.lookup T0 = some ⟨.type "tuple", od, .seq #[] n, sl⟩
end Sh
namespace Sh
open PySem PySem.Spec PyProof.Rows

/-! ### set(xs), xs a list or tuple of texts, of any length: how many there are -/
/-- what was met, each once, in the order of the first time -/
def metS (acc : List Str) (x : Str) : List Str := if acc.any (· == x) = true then acc else acc ++ [x]
def metL (xs : List Str) (i : Nat) : List Str := (xs.take i).foldl metS []
theorem metL_succ {xs : List Str} {i : Nat} (h : i < xs.length) : metL xs (i + 1) = metS (metL xs i) (xs.getD i Str.empty) := by
  unfold metL
  rw [List.take_succ, List.getElem?_eq_getElem h, List.foldl_append]
  simp [List.getD, List.getElem?_eq_getElem h]
theorem metL_le (xs : List Str) : ∀ i, (metL xs i).length ≤ i
  | 0 => by simp [metL]
  | i + 1 => by
    by_cases h : i < xs.length
    · rw [metL_succ h]
      have := metL_le xs i
      unfold metS
      split
      · omega
      · rw [List.length_append, List.length_singleton]; omega
    · have e : metL xs (i + 1) = metL xs i := by unfold metL; rw [List.take_of_length_le (by omega), List.take_of_length_le (by omega)]
      rw [e]
      have := metL_le xs i
      omega
theorem metS_any (a : List Str) (x k : Str) : (metS a x).any (· == k) = (a.any (· == k) || decide (k = x)) := by
  unfold metS
  by_cases q : k = x
  · subst q
    by_cases h : a.any (· == k) = true
    · simp [h]
    · simp [h]
  · have q2 : (x == k) = false := by simpa using fun e : x = k => q e.symm
    by_cases h : a.any (· == x) = true
    · simp [h, q]
    · rw [if_neg h, List.any_append]; simp [q, q2]
theorem metS_len (a : List Str) (x : Str) : (metS a x).length = if a.any (· == x) = true then a.length else a.length + 1 := by
  unfold metS; split <;> simp
section
variable {prog : Program} {w : World} {A : Around} {I : Addr} {fp wr : List Addr} {G : Array GenState → Array GenState → Prop} {n : Nat} {P : Nat → Value → Prop} {St : Nat → Shared → Prop}
/-- the set's own loop over an iterator of texts -/
theorem set_loopS {R : Result → Shared → Prop} (W : WalksS prog w A.in1 I fp wr G n P St) (S : Addr) (free : S ∉ fp) (xs : List Str) (len : xs.length = n) (room : n + 1 < scanBound) (text : ∀ i v, P i v → ∃ t, v = .str (xs.getD i Str.empty) t) :
    ∀ (left i : Nat) (s : Shared), i + left = n → St i s → s.heap.SetOf (PySem.strKind prog w) S (fun k => (metL xs i).any (· == k)) (metL xs i).length →
      (∀ s', Moved (S :: wr) G s s' → s'.heap.SetOf (PySem.strKind prog w) S (fun k => (metL xs n).any (· == k)) (metL xs n).length → R (.ok (.ret .none)) s') → codeAny (model prog w) A (.builtin "set.update.loop" ⟨[.ref S, .ref I], []⟩) R s
  | 0, i, s, hi, hst, hS, fin => by
    obtain rfl : i = n := by omega
    refine codeAny_builtin PyProof.Rows.F.entry_set_update_loop ?_
    rw [Around.under_plainId PyProof.Rows.F.plain_set_update_loop _]
    refine wpAny_bind (m := pyNext (.ref I)) (W.done s _ _ hst fun s' mv => ?_)
    show wpAny (model prog w) A.in1 (ret .none) _ _ s'
    refine wpAny_pure (fin s' (mv.mono fun b => List.mem_cons_of_mem S) ?_)
    obtain ⟨o, es, ep, t, ho, more⟩ := hS
    exact ⟨o, es, ep, t, mv.heap S _ (fun z => free (W.sub _ z)) ho, more⟩
  | left + 1, i, s, hi, hst, hS, fin => by
    have lt : i < n := by omega
    refine codeAny_builtin PyProof.Rows.F.entry_set_update_loop ?_
    rw [Around.under_plainId PyProof.Rows.F.plain_set_update_loop _]
    refine wpAny_bind (m := pyNext (.ref I)) (W.item i s _ _ lt hst fun v s1 hv hst1 mv => ?_)
    obtain ⟨tk, rfl⟩ := text i v hv
    have hS1 : s1.heap.SetOf (PySem.strKind prog w) S (fun k => (metL xs i).any (· == k)) (metL xs i).length := by
      obtain ⟨o, es, ep, t, ho, more⟩ := hS
      exact ⟨o, es, ep, t, mv.heap S _ (fun z => free (W.sub _ z)) ho, more⟩
    refine wpAny_bind (m := holding [Value.str (xs.getD i Str.empty) tk] (setAdd S (.str (xs.getD i Str.empty) tk))) (wpAny_holding ?_)
    unfold setAdd
    refine wpAny_holding (wpAny_bind ((PySem.strKind prog w).pyHash (k := xs.getD i Str.empty) (strKind_is _ _ _ _) ?_))
    have le := metL_le xs i
    refine wpAny_setAddHashed_of (knd := PySem.strKind prog w) (s := { s1 with toks := s1.toks + 1 }) (strKind_is _ _ _ _) rfl hS1 (by omega) fun h2 sb hS2 => ?_
    have next : h2.SetOf (PySem.strKind prog w) S (fun k => (metL xs (i + 1)).any (· == k)) (metL xs (i + 1)).length := SetOf_congr hS2 (fun k => by rw [metL_succ (by omega), metS_any]) (by rw [metL_succ (by omega), metS_len])
    refine wpAny_pure ⟨plainId_quiet PyProof.Rows.F.plain_set_update_loop _, set_loopS W S free xs len room text left (i + 1) _ (by omega) (W.frame _ s1 _ _ hst1 (Nat.le_succ _) fun b hb o e => ?_) next fun s3 mv3 hS3 => fin s3 (Moved.trans W.gtrans ((mv.mono fun b => List.mem_cons_of_mem S).then_heap (Nat.le_succ _) fun b o hb e => ?_) mv3) hS3⟩
    · exact (sb.2 b fun z : b = S => free (z ▸ hb)).trans e
    · exact (sb.2 b fun z : b = S => hb (by rw [z]; exact List.mem_cons_self)).trans e
end
abbrev newSet (led : Bool) : Obj := { cls := .type "set", dict := none, data := .set #[] 0 (.fresh 0 0 led) }
section
variable {prog : Program} {w : World} {A : Around} {E : Value → Shared → Prop} {s : Shared}
set_option maxHeartbeats 3200000 in
/-- set(l), by what its iterator does; T: l's type -/
theorem call_setS {T : String} {l : Addr} {xs : List Str} {n : Nat} {P : Nat → Value → Prop} {Q : Value → Shared → Prop} (hh : A.handled = none) (hT : ∃ o, s.heap.get? l = some o ∧ o.cls = .type T) (ne : (Value.type T == Value.type "dict") = false)
    (sub1 : isSubtype (.type T) (.type "set") = pure false) (sub2 : isSubtype (.type T) (.type "frozenset") = pure false) (len : xs.length = n) (room : n + 1 < scanBound) (text : ∀ i v, P i v → ∃ t, v = .str (xs.getD i Str.empty) t)
    (walk : ∀ (A' : Around) (E' : Value → Shared → Prop) (led : Bool) (Q' : Value → Shared → Prop), A'.handled = none → (∀ (I : Addr) (h' : Heap) (fp wr : List Addr) (G : Array GenState → Array GenState → Prop) (St : Nat → Shared → Prop), s.heap.objs.size < I → s.heap.objs.size ∉ fp → s.heap.objs.size ∉ wr → (∀ b o, b ≤ s.heap.objs.size → (s.heap.push (newSet led)).get? b = some o → h'.get? b = some o) → (∀ b ∈ wr, s.heap.objs.size < b) → (∀ g g', G g g' → g' = g) →
      (∀ A'' : Around, A''.handled = none → WalksS prog w A'' I fp wr G n P St) → St 0 { s with heap := h' } → Q' (.ref I) { s with heap := h' }) → wpAny (model prog w) A' (pyIter (.ref l)) Q' E' { s with heap := s.heap.push (newSet led) })
    (h : ∀ (h' : Heap) (tk : Nat), h'.SetOf (PySem.strKind prog w) s.heap.objs.size (fun k => (metL xs n).any (· == k)) (metL xs n).length → (∀ b o, b < s.heap.objs.size → s.heap.get? b = some o → h'.get? b = some o) → Q (.ref s.heap.objs.size) { s with heap := h', toks := tk }) :
    wpAny (model prog w) A (call (.type "set") [.ref l]) Q E s := by
  obtain ⟨c, tl, hmro⟩ := PySem.F.called_set.mro
  have hmade := PySem.F.called_set.made
  have hsub := PySem.F.called_set.sub
  refine wpAny_call (codeAny_of_tree ?_)
  show wpAny (model prog w) _ (callAny (.type "set") _) _ _ s
  refine wpAny_pure ⟨Code.quiet_builtin _ (by decide +kernel), codeAny_builtin PySem.F.entry_type_call ?_⟩
  rw [Around.under_plain (weight_type_call_type "set" [.ref l] []) rfl]
  have n1 := PySem.F.called_set.notType
  have n2 := PySem.F.called_set.canCreate
  have n3 := PySem.F.typeCall_set_1 (.ref l)
  repeat (any_goals (first | assumption | wp_step))
  refine codeAny_mono (code_set_new_1 (.ref l) (E := E) (Q₁ := fun obj s1 => ∃ led : Bool, obj = .ref s.heap.objs.size ∧ s1 = { s with heap := s.heap.push (newSet led) }) fun led => ⟨led, rfl, rfl⟩) fun r s1 hr => ?_
  match r, hr with
  | .error e, hr => exact hr
  | .ok .next, hr => exact hr.elim
  | .ok .brk, hr => exact hr.elim
  | .ok .cont, hr => exact hr.elim
  | .ok (.ret obj), hr =>
    obtain ⟨led, rfl, rfl⟩ := hr
    have at_ : (s.heap.push (newSet led)).get? s.heap.objs.size = some (newSet led) := Heap.get?_push_size _ rfl
    have ty : Shared.TypeIs { s with heap := s.heap.push (newSet led) } (.ref s.heap.objs.size) "set" := ⟨_, at_, rfl⟩
    have k1 := PySem.F.called_set.init.lookup
    have k2 := PySem.F.called_set.init.bind (.ref s.heap.objs.size)
    repeat (any_goals (first | assumption | wp_step))
    refine codeAny_mono (codeAny_call_builtin (R := wants (fun r s2 => r = .none ∧ ∃ h' tk, s2 = { s with heap := h', toks := tk } ∧ h'.SetOf (PySem.strKind prog w) s.heap.objs.size (fun k => (metL xs n).any (· == k)) (metL xs n).length ∧
      (∀ b o, b < s.heap.objs.size → s.heap.get? b = some o → h'.get? b = some o)) E) PySem.F.called_set.init.plain PySem.F.entry_set_init (check_set_init_1 ty ?_)) fun r2 s2 hr2 => ?_
    · obtain ⟨ol, hol, hcl⟩ := hT
      obtain ⟨ocls, odict, odata, oslots⟩ := ol
      simp only at hcl
      subst hcl
      have hol1 : (s.heap.push (newSet led)).get? l = some { cls := .type T, dict := odict, data := odata, slots := oslots } := Heap.get?_push_of_some _ hol
      unfold Builtin.«set.__init__» noKeywords Builtin.Frozenset.updateFrom
      generalize hPI : pyIter = PI
      wp_walk
      subst hPI
      refine walk _ _ led _ (by simp [hh]) fun I h1 fp wr G St lI f1 f2 kp nw gg W st => ?_
      refine wpAny_bind (wpAny_runValue ?_)
      refine set_loopS (W _ (by simp [hh])) s.heap.objs.size f1 xs len room text n 0 _ (by omega) st ?_ fun s3 mv hS => ?_
      · exact SetOf_congr ((setObjOf_fresh (knd := PySem.strKind prog w) led).setOf (kp _ _ (Nat.le_refl _) at_) (by unfold scanBound; omega)) (fun _ => rfl) rfl
      · obtain ⟨h3, g3, d3, t3, os3⟩ := s3
        have eg : g3 = s.gens := gg _ _ mv.gens
        have ed : d3 = s.drawn := mv.drawn
        have eo : os3 = s.os := mv.os
        subst eg ed eo
        show wpAny (model prog w) _ _ _ _ _
        refine wpAny_pure ?_
        show wpAny (model prog w) _ (ret .none) _ _ _
        refine wpAny_pure ⟨rfl, h3, t3, rfl, hS, fun b o hb e => ?_⟩
        refine mv.heap b o (fun z => ?_) (kp b o (Nat.le_of_lt hb) (Heap.get?_push_of_some _ e))
        rcases List.mem_cons.mp z with z | z
        · exact Nat.ne_of_lt hb z
        · exact absurd (nw b z) (Nat.not_lt.mpr (Nat.le_of_lt hb))
    · match r2, hr2 with
      | .error e, hr2 => exact hr2
      | .ok .next, hr2 => exact hr2.elim
      | .ok .brk, hr2 => exact hr2.elim
      | .ok .cont, hr2 => exact hr2.elim
      | .ok (.ret r), hr2 =>
        obtain ⟨rfl, h', tk, rfl, hS, kp⟩ := hr2
        repeat (any_goals (first | assumption | wp_step))
        exact h _ _ hS kp
end
section
variable {prog : Program} {w : World} {A : Around} {E : Value → Shared → Prop} {s : Shared}
theorem call_set_strL {l : Addr} {items : Array Value} {xs : List Str} {Q : Value → Shared → Prop} (hh : A.handled = none) (hl : s.heap.IsList l items) (hi : StrsAre items.toList xs) (room : items.size + 1 < scanBound)
    (h : ∀ (h' : Heap) (tk : Nat), h'.SetOf (PySem.strKind prog w) s.heap.objs.size (fun k => (metL xs items.size).any (· == k)) (metL xs items.size).length → (∀ b o, b < s.heap.objs.size → s.heap.get? b = some o → h'.get? b = some o) → Q (.ref s.heap.objs.size) { s with heap := h', toks := tk }) :
    wpAny (model prog w) A (call (.type "set") [.ref l]) Q E s := by
  have hlt : l < s.heap.objs.size := by obtain ⟨o, ho, _⟩ := hl; exact Heap.lt_size ho
  refine call_setS (T := "list") (n := items.size) (P := fun i v => items[i]? = some v) hh (by obtain ⟨o, ho, hc, _⟩ := hl; exact ⟨o, ho, hc⟩) (by decide) PySem.F.sub_list_set PySem.F.sub_list_frozenset (by rw [← StrsAre.len_eq hi, Array.length_toList]) room
    (fun i v hv => SS.strs_at hi i v (by rw [Array.getElem?_toList]; exact hv)) (fun A' E' led Q' hA k => ?_) h
  have hl1 : (s.heap.push (newSet led)).IsList l items := hl.push _
  have sz : (s.heap.push (newSet led)).objs.size = s.heap.objs.size + 1 := Heap.size_push _ _
  refine wpAny_pyIter_list hl1 ?_
  have ne : l ≠ (s.heap.push (newSet led)).objs.size := by rw [sz]; exact Nat.ne_of_lt (Nat.lt_succ_of_lt hlt)
  refine k _ _ _ _ _ _ (by rw [sz]; exact Nat.lt_succ_self _) ?_ ?_ (fun b o hb e => Heap.get?_push_of_some _ e) (fun b hb => ?_) (fun g g' q => q) (fun A2 h2 => (Walks.list h2 _ l ne items).toS) ⟨⟨_, Heap.get?_push_size _ rfl, rfl, rfl⟩, hl1.push _⟩
  · rw [sz]
    intro z
    rcases List.mem_cons.mp z with z | z
    · exact Nat.ne_of_lt (Nat.lt_succ_self _) z
    · exact Nat.ne_of_gt hlt (List.mem_singleton.mp z)
  · rw [sz]
    intro z
    exact Nat.ne_of_lt (Nat.lt_succ_self _) (List.mem_singleton.mp z)
  · rw [sz] at hb
    rw [List.mem_singleton.mp hb]
    exact Nat.lt_succ_self _
theorem call_set_strT {l : Addr} {items : Array Value} {xs : List Str} {Q : Value → Shared → Prop} (hh : A.handled = none) (hl : s.heap.IsTuple l items) (hi : StrsAre items.toList xs) (room : items.size + 1 < scanBound)
    (h : ∀ (h' : Heap) (tk : Nat), h'.SetOf (PySem.strKind prog w) s.heap.objs.size (fun k => (metL xs items.size).any (· == k)) (metL xs items.size).length → (∀ b o, b < s.heap.objs.size → s.heap.get? b = some o → h'.get? b = some o) → Q (.ref s.heap.objs.size) { s with heap := h', toks := tk }) :
    wpAny (model prog w) A (call (.type "set") [.ref l]) Q E s := by
  have hlt : l < s.heap.objs.size := by obtain ⟨o, ho, _⟩ := hl; exact Heap.lt_size ho
  refine call_setS (T := "tuple") (n := items.size) (P := fun i v => items[i]? = some v) hh (by obtain ⟨o, ho, hc, _⟩ := hl; exact ⟨o, ho, hc⟩) (by decide) PySem.F.sub_tuple_set PySem.F.sub_tuple_frozenset (by rw [← StrsAre.len_eq hi, Array.length_toList]) room
    (fun i v hv => SS.strs_at hi i v (by rw [Array.getElem?_toList]; exact hv)) (fun A' E' led Q' hA k => ?_) h
  have hl1 : (s.heap.push (newSet led)).IsTuple l items := hl.push _
  have sz : (s.heap.push (newSet led)).objs.size = s.heap.objs.size + 1 := Heap.size_push _ _
  refine wpAny_pyIter_tuple hl1 ?_
  have ne : l ≠ (s.heap.push (newSet led)).objs.size := by rw [sz]; exact Nat.ne_of_lt (Nat.lt_succ_of_lt hlt)
  refine k _ _ _ _ _ _ (by rw [sz]; exact Nat.lt_succ_self _) ?_ ?_ (fun b o hb e => Heap.get?_push_of_some _ e) (fun b hb => ?_) (fun g g' q => q) (fun A2 h2 => (Walks.tuple h2 _ l ne items).toS) ⟨⟨_, Heap.get?_push_size _ rfl, rfl, rfl⟩, hl1.push _⟩
  · rw [sz]
    intro z
    rcases List.mem_cons.mp z with z | z
    · exact Nat.ne_of_lt (Nat.lt_succ_self _) z
    · exact Nat.ne_of_gt hlt (List.mem_singleton.mp z)
  · rw [sz]
    intro z
    exact Nat.ne_of_lt (Nat.lt_succ_self _) (List.mem_singleton.mp z)
  · rw [sz] at hb
    rw [List.mem_singleton.mp hb]
    exact Nat.lt_succ_self _
end
open L2
def tLenSetG (K : PySem.W.Frag) (ta : TE) : TE := fun σ H Q => ta σ H fun x H1 => ∃ (l : Addr) (xs : List Str), x = .ref l ∧ (SqL K H1 l (xs.map V.str) ∨ SqT K H1 l (xs.map V.str)) ∧ xs.length + 1 < scanBound ∧ Q (.int ((metL xs xs.length).length : Nat)) H1
theorem pe_lenSetG {X : Cx} {a : Expr} {ta : TE} {p p2 q pos : Pos} (hc : X.calm = true) (hg : Gl X "len") (hm : X.mg "len" = none) (hg2 : Gl X "set") (hm2 : X.mg "set" = none) (ha : PE X a ta)
    (na : starEach [a] X.env = (false, eval a X.env) :: starEach [] X.env := by rfl) : PE X (.Call (.Name "len" p) [.Call (.Name "set" p2) [a] [] q] [] pos) (tLenSetG X.K ta) := by
  refine ⟨fun pins s σ H Q I h => ?_⟩
  refine Call_ (ld_blt I hg hm boot_len (PyProof.Rows.callWith_builtin1 (PyProof.Rows.args_cons ?_ rfl) rfl rfl))
  refine Call_ (ld_blt I hg2 hm2 boot_set (PyProof.Rows.callWith_type1 (PyProof.Rows.args_cons (thn (ha.run pins s σ H _ I h) fun v s1 ⟨x, H1, I1, r1, l, xs, ex, hq, hz, q1⟩ => PyProof.Rows.args_nil ?_) na) na rfl))
  subst ex
  obtain rfl : v = Value.ref l := r1
  have fin : ∀ (its : List Value), Vals (xs.map V.str) its → ∀ (h' : Heap) (tk : Nat), h'.SetOf (PySem.strKind X.prog X.w) s1.heap.objs.size (fun k => (metL xs its.toArray.size).any (· == k)) (metL xs its.toArray.size).length →
      (∀ b o, b < s1.heap.objs.size → s1.heap.get? b = some o → h'.get? b = some o) →
      wpAny (model X.prog X.w) X.A (spliced (backTo pos (starEach [] X.env))) (fun vs s2 => wpAny (model X.prog X.w) X.A (call (.builtin "len") (Value.ref s1.heap.objs.size :: vs)) (EP X pins σ Q) X.xe s2) X.xe { s1 with heap := h', toks := tk } := fun its r h' tk hS hk => by
    refine PyProof.Rows.args_nil ?_
    have hl : its.toArray.size = xs.length := by rw [List.size_toArray, ← r.length, List.length_map]
    rw [hl] at hS
    have hle := metL_le xs xs.length
    obtain ⟨o, es, ep, t, ho, hex, hd, _, _, _, hf, hn⟩ := hS
    have I2 : Inv X pins σ H1 { s1 with heap := h', toks := tk } := I1.kept fun b o e => hk b o (Heap.lt_size e) e
    exact call_len_set ho hex hd hf (by rw [hn]; have hb : scanBound = 4096 := rfl; omega) ⟨.int ((metL xs xs.length).length : Nat), H1, I2.tok _, ⟨_, by rw [hn]⟩, q1⟩
  rcases hq with hq | hq
  · obtain ⟨its, r, pl, _⟩ := I1.list hq
    have e : its.length = xs.length := by rw [← r.length, List.length_map]
    exact call_set_strL (I1.ok.hd hc) pl.isList (by simpa using strsAre_of r) (by rw [List.size_toArray, e]; exact hz) fun h' tk hS hk => fin its r h' tk hS hk
  · obtain ⟨its, r, pl, _⟩ := I1.tuple hq
    have e : its.length = xs.length := by rw [← r.length, List.length_map]
    exact call_set_strT (I1.ok.hd hc) pl (by simpa using strsAre_of r) (by rw [List.size_toArray, e]; exact hz) fun h' tk hS hk => fin its r h' tk hS hk
def lenSetD (d : D) : M D := do
  let x ← view d
  match (match x with | .lst ds => strsOf ds | .tup ds => strsOf ds | _ => none : Option (List Str)) with
  | some ss => if ss.length < 1000 then pure (.int ((metL ss ss.length).length : Nat)) else M.bad
  | none => M.bad
section
variable {cl : String → Option Addr} {md : List Md} {X : Cx} {ka : Kd}
theorem sk_lenSet {a : Expr} {p p2 q pos : Pos} {m : Env → M D} (hc : X.calm = true) (hg : Gl X "len") (hm : X.mg "len" = none) (hg2 : Gl X "set") (hm2 : X.mg "set" = none) (h : SK cl md X ka a m)
    (na : starEach [a] X.env = (false, eval a X.env) :: starEach [] X.env := by rfl) : SK cl md X .val (.Call (.Name "len" p) [.Call (.Name "set" p2) [a] [] q] [] pos) (e1 lenSetD m) :=
  PE.mono (pe_lenSetG hc hg hm hg2 hm2 h na) fun σ H Q ⟨ρ, μ, F, st, hE, hS, w⟩ => by
  refine ⟨ρ, μ, F, st, hE, hS, ?_⟩
  rw [M.gives_bind] at w
  refine M.gives_mono w fun d st1 w1 v μ1 F1 H1 p1 s1 r1 => ?_
  unfold lenSetD at w1
  rw [M.gives_bind] at w1
  obtain ⟨d', vr, w1⟩ := view_gives s1 r1 w1
  have room : ∀ n, n < 1000 → n + 1 < scanBound := fun n h => by unfold scanBound; omega
  cases d' <;> try exact w1.elim
  · rename_i ds
    cases e : strsOf ds with
    | none => simp only [e] at w1; exact w1.elim
    | some ss =>
      simp only [e] at w1
      obtain ⟨hl, w1⟩ := ite_gives w1
      obtain ⟨a, vs, rfl, hq, rl, _⟩ := vr_lst s1.sub vr
      have := (rpl_strs e rl).1
      subst this
      exact ⟨a, ss, rfl, .inl (.inl (.inl hq)), room _ hl, w1 _ μ1 F1 H1 p1 s1 rfl⟩
  · rename_i ds
    cases e : strsOf ds with
    | none => simp only [e] at w1; exact w1.elim
    | some ss =>
      simp only [e] at w1
      obtain ⟨hl, w1⟩ := ite_gives w1
      obtain ⟨z, a, vs, rfl, hq, rl⟩ := vr_tup vr
      have := (rpl_strs e rl).1
      subst this
      exact ⟨a, ss, rfl, .inr (s1.sub.seqT hq), room _ hl, w1 _ μ1 F1 H1 p1 s1 rfl⟩
end
end Sh
namespace Sh
open PySem PySem.Spec PyProof.Rows L2
/-! ### displays with stars -/
def WantV (G : Gs) (μ : List Addr) (F H : Hp) (Q : List V → Hp → Prop) : List D → Sto → Prop :=
  fun ds st' => ∀ vs μ' F' H', Post μ F H μ' F' H' → StOk G μ' F' H' st' → RpL G μ' F' ds vs → Q vs H'
def tKV (G : Gs) (md : List Md) (m : Env → M (List D)) : TA := fun σ H Q => ∃ ρ μ F st, EnvOk G md μ F H ρ σ ∧ StOk G μ F H st ∧ (m ρ).gives st (WantV G μ F H Q)
/-- items, some of them many -/
def SV (cl : String → Option Addr) (md : List Md) (X : Cx) (xs : List Expr) (m : Env → M (List D)) : Prop := PA X xs (tKV (gs X cl) md m)
abbrev vStar (m : Env → M D) (n : Env → M (List D)) : Env → M (List D) := fun ρ => do let x ← m ρ; let a ← itemsD x; let r ← n ρ; pure (a ++ r)
section
variable {cl : String → Option Addr} {md : List Md} {X : Cx} {ka : Kd}
theorem sv_nil : SV cl md X [] lNil := PA.mono pa_nil fun σ H Q ⟨ρ, μ, F, st, hE, hS, w⟩ => w [] μ F H .refl hS rfl
theorem sv_cons {e : Expr} {es : List Expr} {m : Env → M D} {n : Env → M (List D)} (h : SK cl md X .val e m) (hr : SV cl md X es n) (hs : starEach (e :: es) X.env = (false, eval e X.env) :: starEach es X.env := by rfl) : SV cl md X (e :: es) (lCons m n) :=
  PA.mono (pa_cons h hr hs) fun σ H Q ⟨ρ, μ, F, st, hE, hS, w⟩ => by
  refine ⟨ρ, μ, F, st, hE, hS, ?_⟩
  rw [M.gives_bind] at w
  refine M.gives_mono w fun d st1 w1 v μ1 F1 H1 p1 s1 r1 => ⟨ρ, μ1, F1, st1, hE.post p1, s1, ?_⟩
  rw [M.gives_bind] at w1
  refine M.gives_mono w1 fun ds st2 w2 vs μ2 F2 H2 p2 s2 r2 => ?_
  exact w2 (v :: vs) μ2 F2 H2 (p1.trans p2) s2 ⟨v, vs, rfl, Rp.post p2 r1, r2⟩
theorem sv_star {e : Expr} {es : List Expr} {p : Pos} {m : Env → M D} {n : Env → M (List D)} (h : SK cl md X .bor e m) (hr : SV cl md X es n) (hs : starEach (.Starred e p :: es) X.env = (true, eval e X.env) :: starEach es X.env := by rfl) : SV cl md X (.Starred e p :: es) (vStar m n) :=
  PA.mono (StX.pa_star h hr hs) fun σ H Q ⟨ρ, μ, F, st, hE, hS, w⟩ => by
  refine ⟨ρ, μ, F, st, hE, hS, ?_⟩
  rw [M.gives_bind] at w
  refine M.gives_mono w fun d st1 w1 v μ1 F1 H1 p1 s1 r1 => ?_
  rw [M.gives_bind] at w1
  have go : ∀ (ds : List D) (a : Addr) (vs : List V), itemsD d = pure ds → v = .ref a → (SqT X.K H1 a vs ∨ SqL X.K H1 a vs) → RpL (gs X cl) μ1 F1 ds vs → ∃ p xs, v = V.ref p ∧ (SqT X.K H1 p xs ∨ SqL X.K H1 p xs) ∧ tKV (gs X cl) md n σ H1 fun ys H2 => Q (xs ++ ys) H2 := fun ds a vs e ev hq rl => by
    rw [e] at w1
    refine ⟨a, vs, ev, hq, ρ, μ1, F1, st1, hE.post p1, s1, ?_⟩
    have w1 : M.gives (n ρ >>= fun r => pure (ds ++ r)) st1 _ := w1
    rw [M.gives_bind] at w1
    refine M.gives_mono w1 fun es st2 w2 us μ2 F2 H2 p2 s2 r2 => ?_
    exact w2 (vs ++ us) μ2 F2 H2 (p1.trans p2) s2 (rpl_app (RpL.post p2 rl) r2)
  cases d <;> try exact w1.elim
  · rename_i ds
    rcases r1 with ⟨z, a, vs, e, hq, r⟩ | ⟨a, e, n, f, z, vs, hq, r⟩
    · exact go ds a vs rfl e (.inr (.inl (.inl (s1.sub _ _ hq)))) r
    · exact go ds a vs rfl e (.inr (.inl (.inl hq))) r
  · rename_i ds
    rcases r1 with ⟨z, a, vs, e, hq, r⟩ | ⟨a, e, n, f⟩
    · exact go ds a vs rfl e (.inl (s1.sub.seqT hq)) r
    · exact f.elim
  · rename_i ds
    rcases r1 with ⟨z, a, vs, e, hq, r⟩ | ⟨a, e, n, f⟩
    · exact go ds a vs rfl e (.inr (s1.sub.seqL hq)) r
    · exact f.elim
abbrev eTupV (m : Env → M (List D)) : Env → M D := fun ρ => do let ds ← m ρ; if ds.length ≤ 16777216 then pure (.tup ds) else M.bad
abbrev eLstV (m : Env → M (List D)) : Env → M D := fun ρ => do let ds ← m ρ; if ds.length ≤ 16777216 then pure (.lst ds) else M.bad
theorem sk_tupV {es : List Expr} {k} {pos : Pos} {m : Env → M (List D)} (h : SV cl md X es m) : SK cl md X .val (.Tuple es k pos) (eTupV m) := PE.mono (pe_tup h) fun σ H Q ⟨ρ, μ, F, st, hE, hS, w⟩ => by
  refine ⟨ρ, μ, F, st, hE, hS, ?_⟩
  rw [M.gives_bind] at w
  refine M.gives_mono w fun ds st1 w1 vs μ1 F1 H1 p1 s1 r1 => ?_
  obtain ⟨hz, w1⟩ := ite_gives w1
  have hz : ds.length ≤ sizeLine := by rw [sizeLine_eq]; exact hz
  refine ⟨by rw [rpl_len r1]; exact hz, fun a na => ?_⟩
  obtain ⟨p2, s2, r2⟩ := new_tup p1 s1 r1 na hz
  exact w1 _ μ1 _ _ p2 s2 r2
theorem sk_lstV {es : List Expr} {pos : Pos} {m : Env → M (List D)} (h : SV cl md X es m) : SK cl md X .fre (.List es pos) (eLstV m) := PE.mono (pe_lst h) fun σ H Q ⟨ρ, μ, F, st, hE, hS, w⟩ => by
  refine ⟨ρ, μ, F, st, hE, hS, ?_⟩
  rw [M.gives_bind] at w
  refine M.gives_mono w fun ds st1 w1 vs μ1 F1 H1 p1 s1 r1 => ?_
  obtain ⟨hz, w1⟩ := ite_gives w1
  have hz : ds.length ≤ sizeLine := by rw [sizeLine_eq]; exact hz
  refine ⟨by rw [rpl_len r1]; exact hz, fun a na => ?_⟩
  obtain ⟨p2, s2, r2⟩ := new_lst p1 s1 r1 na hz
  exact w1 _ μ1 _ _ p2 s2 r2
end

/-! ### enumerate(list) -/
def enumF : Nat → List D → List D
  | _, [] => []
  | i, x :: xs => .tup [.int (i : Nat), x] :: enumF (i + 1) xs
abbrev enumD (xs : List D) : List D := enumF 0 xs
theorem enumF_get : ∀ {xs : List D} {i k : Nat} {x : D}, xs[i]? = some x → (enumF k xs)[i]? = some (.tup [.int ((k + i : Nat) : Int), x])
  | [], i, k, x, h => by simp at h
  | y :: ys, 0, k, x, h => by simp at h; subst h; rfl
  | y :: ys, i + 1, k, x, h => by
    have := enumF_get (xs := ys) (i := i) (k := k + 1) (x := x) (by simpa using h)
    rw [show k + (i + 1) = k + 1 + i by omega]
    exact this
theorem enumF_len : ∀ {xs : List D} {k : Nat}, (enumF k xs).length = xs.length
  | [], _ => rfl
  | x :: xs, k => by show (enumF (k + 1) xs).length + 1 = xs.length + 1; rw [enumF_len]
theorem enumD_get {xs : List D} {i : Nat} {x : D} (h : xs[i]? = some x) : (enumD xs)[i]? = some (.tup [.int (i : Nat), x]) := by
  have := enumF_get (k := 0) h
  rwa [Nat.zero_add] at this
theorem enumD_len {xs : List D} : (enumD xs).length = xs.length := enumF_len
/-- a walk that gives new pairs -/
theorem it_pairs {G : Gs} {a : Addr} {ds : List D} {vs : List V} {P : List Addr → Hp → Hp → Prop} (zl : ds.length ≤ sizeLine) (keep : ∀ μ F H μ' F' H', P μ F H → Post μ F H μ' F' H' → P μ' F' H') (at_ : ∀ μ F H, P μ F H → Sub F H → SqL G.K H a vs ∧ RpL G μ F ds vs) : ItOk G (Ite G.K a) P (enumD ds) where
  keep := keep
  go := fun i μ F H h s hi => by
    rw [enumD_len] at hi
    obtain ⟨h1, r⟩ := at_ μ F H h s
    have hv : i < vs.length := by rw [rpl_len r]; exact hi
    exact ⟨vs, vs[i], h1, List.getElem?_eq_getElem hv⟩
  yld := fun i μ F H x H' d st h s hd ⟨T, y, e, nT, eH, hy⟩ => by
    subst e eH
    obtain ⟨h1, r⟩ := at_ μ F H h s.sub
    have hi : i < ds.length := by
      have := (List.getElem?_eq_some_iff.mp hd).1
      rw [enumD_len] at this; exact this
    have hx : ds[i]? = some ds[i] := List.getElem?_eq_getElem hi
    rw [enumD_get hx] at hd
    cases hd
    have ry := rpl_get r hx (hy vs h1)
    obtain ⟨p2, s2, r2⟩ := new_tup (ds := [.int i, ds[i]]) (vs := [.int i, y]) Post.refl s ⟨_, _, rfl, rfl, _, _, rfl, ry, rfl⟩ nT (by show 2 ≤ sizeLine; decide)
    exact ⟨_, p2, s2, r2⟩
  len := by rw [enumD_len]; exact zl
  stop := fun i μ F H h s hi => by
    rw [enumD_len] at hi
    obtain ⟨h1, r⟩ := at_ μ F H h s
    exact ⟨vs, h1, by rw [rpl_len r]; exact hi⟩
def lstItems : D → M (List D)
  | .lst ds => pure ds
  | .frl ds => pure ds
  | _ => M.bad
section
variable {cl : String → Option Addr} {md : List Md} {X : Cx} {ka : Kd}
abbrev iEnumD (m : Env → M D) : Env → M (List D) := fun ρ => do let d ← m ρ; let ds ← lstItems d; pure (enumD ds)
/-- for i, x in enumerate(xs), xs a list (in an expression: one's own lists stand still) -/
theorem si_enum {elts : List Expr} {kk : Nat} {tpos : Pos} {x : Expr} {p pos : Pos} {m : Env → M D} (hg : Gl X "enumerate") (hm : X.mg "enumerate" = none) (h : SK cl md X .bor x m) (hs : starEach [x] X.env = [(false, eval x X.env)] := by rfl) :
    SI cl md X (.Tuple elts kk tpos) (.Call (.Name "enumerate" p) [x] [] pos) (iEnumD m) := PI.mono (pi_enum hg hm (sa_one h hs) hs) fun σ H R ⟨ρ, μ, F, st, hE, hS, w⟩ => by
  refine tkl_one hE hS ?_
  rw [M.gives_bind] at w
  refine M.gives_mono w fun d st1 w1 v μ1 F1 H1 p1 s1 r1 => ?_
  cases d <;> try exact w1.elim
  · rcases r1 with ⟨z, a, vs, e, hq, r⟩ | ⟨a, e, n, f, z, vs, hq, r⟩
    · exact ⟨a, vs, by rw [e], .inl (.inl (s1.sub _ _ hq)), w1 _ (fun μ F H => SqL X.K F a vs ∧ RpL (gs X cl) μ F _ vs) μ1 F1 H1 p1 s1 (it_pairs z (fun μ F H μ' F' H' ⟨h, r⟩ p => ⟨p.subF.seqL h, RpL.mono p.mu p.subF _ _ r⟩) fun μ F H ⟨h, r⟩ s => ⟨s.seqL h, r⟩) ⟨.inl (.inl hq), r⟩⟩
    · exact ⟨a, vs, by rw [e], .inl (.inl hq), w1 _ (fun μ F H => a ∉ μ ∧ H a = some (.lst vs) ∧ RpL (gs X cl) μ F _ vs) μ1 F1 H1 p1 s1 (it_pairs z (fun μ F H μ' F' H' ⟨n, h, r⟩ p => ⟨p.notin h n, p.keep _ _ h n, RpL.mono p.mu p.subF _ _ r⟩) fun μ F H ⟨n, h, r⟩ s => ⟨.inl (.inl h), r⟩) ⟨n, hq, r⟩⟩
  · rcases r1 with ⟨z, a, vs, e, hq, r⟩ | ⟨a, e, n, f⟩
    · exact ⟨a, vs, by rw [e], s1.sub.seqL hq, w1 _ (fun μ F H => SqL X.K F a vs ∧ RpL (gs X cl) μ F _ vs) μ1 F1 H1 p1 s1 (it_pairs z (fun μ F H μ' F' H' ⟨h, r⟩ p => ⟨p.subF.seqL h, RpL.mono p.mu p.subF _ _ r⟩) fun μ F H ⟨h, r⟩ s => ⟨s.seqL h, r⟩) ⟨hq, r⟩⟩
    · exact f.elim
end
end Sh
namespace Sh
open PySem PySem.Spec PyProof.Rows L2
section
variable {prog : Program} {w : World} {A : Around} {E : Value → Shared → Prop} {s : Shared}
theorem adjust_rev (n : Nat) : Builtin.Slice.sliceAdjust none none (-1) (n : Int) = ((n : Int) - 1, -1) := by
  unfold Builtin.Slice.sliceAdjust
  simp
theorem places_rev (n : Nat) : Builtin.Slice.slicePlaces ((n : Int) - 1) (-1) (-1) = n := by
  unfold Builtin.Slice.slicePlaces
  have h1 : ¬ (-1 : Int) > 0 := by omega
  simp only [h1, if_false]
  split
  · simp
  · omega
theorem applied_rev {sl : Addr} {n : Nat} {vs : Value} {Q : Int × Int × Nat → Shared → Prop} (hs : s.heap.IsSliceOf sl .none .none vs) (ps : IsPart vs (some (-1))) (h : Q ((n : Int) - 1, -1, n) s) : wpAny (model prog w) A (Builtin.Slice.sliceApplied (.ref sl) (pure (n : Int))) Q E s := by
  obtain ⟨os, hos, hcs, hds⟩ := id hs
  unfold Builtin.Slice.sliceApplied Builtin.Slice.sliceFields
  refine wpAny_bind (wpAny_bind (wpAny_field hos hds (x := .none) rfl (wpAny_bind (wpAny_field hos hds (x := .none) rfl (wpAny_bind (wpAny_field hos hds (x := vs) rfl (wpAny_pure ?_)))))))
  refine wpAny_bind (HT.slicePart_ ps ?_)
  show wpAny _ _ (if ((-1 : Int) == 0) = true then _ else _) _ _ s
  rw [if_neg (by decide)]
  refine wpAny_bind (HT.slicePart_ .none (wpAny_bind (HT.slicePart_ .none (wpAny_bind (wpAny_pure ?_)))))
  show wpAny _ _ (match Builtin.Slice.sliceAdjust none none (-1) (n : Int) with | (lo, hi) => pure (lo, (-1 : Int), Builtin.Slice.slicePlaces lo hi (-1))) _ _ s
  rw [adjust_rev n]
  show wpAny _ _ (pure ((n : Int) - 1, (-1 : Int), Builtin.Slice.slicePlaces ((n : Int) - 1) (-1) (-1))) _ _ s
  rw [places_rev]
  exact wpAny_pure h
theorem pick_rev (xs : Array Value) : ((List.range xs.size).filterMap fun (m : Nat) => xs[(((xs.size : Nat) : Int) - 1 + (m : Int) * (-1)).toNat]?).toArray = xs.toList.reverse.toArray := by
  congr 1
  apply List.ext_getElem?
  intro i
  have e : ((List.range xs.size).filterMap fun (m : Nat) => xs[(((xs.size : Nat) : Int) - 1 + (m : Int) * (-1)).toNat]?) = (List.range xs.size).map fun m => xs.getD (xs.size - 1 - m) .none := by
    rw [← List.filterMap_eq_map]
    have all : ∀ l : List Nat, (∀ m ∈ l, m < xs.size) → (l.filterMap fun (m : Nat) => xs[(((xs.size : Nat) : Int) - 1 + (m : Int) * (-1)).toNat]?) = l.filterMap (some ∘ fun m => xs.getD (xs.size - 1 - m) .none) := fun l => by
      induction l with
      | nil => intro _; rfl
      | cons m l ih =>
        intro h
        have hm := h m List.mem_cons_self
        have e1 : (((xs.size : Nat) : Int) - 1 + (m : Int) * (-1)).toNat = xs.size - 1 - m := by omega
        have hl : xs.size - 1 - m < xs.size := by omega
        rw [List.filterMap_cons, List.filterMap_cons, e1, ih fun k hk => h k (List.mem_cons_of_mem _ hk)]
        simp [Array.getD, hl]
    exact all _ fun m hm => List.mem_range.mp hm
  rw [e, List.getElem?_map]
  by_cases hi : i < xs.size
  · rw [List.getElem?_range hi, List.getElem?_reverse (by simpa using hi)]
    have hl : xs.size - 1 - i < xs.size := by omega
    simp [Array.getD, hl]
  · rw [List.getElem?_eq_none (by simp; omega), List.getElem?_eq_none (by simp; omega)]
    rfl
theorem getItem_tuple_rev {t sl : Addr} {items : Array Value} {vs : Value} {Q : Value → Shared → Prop} (ht : IsTup s.heap t items) (hs : s.heap.IsSliceOf sl .none .none vs) (ps : IsPart vs (some (-1)))
    (h : Q (.ref s.heap.objs.size) { s with heap := s.heap.push { cls := .type "tuple", data := .seq items.toList.reverse.toArray } }) (hsz : items.size ≤ sizeLine) : wpAny (model prog w) A (getItem (.ref t) (.ref sl)) Q E s := by
  have room : sizeOk (.seq items.toList.reverse.toArray) := by show items.toList.reverse.toArray.size ≤ sizeLine; simpa using hsz
  obtain ⟨os, hos, hcs, hds⟩ := id hs
  have hTs : s.TypeIs (.ref sl) "slice" := ⟨os, hos, hcs⟩
  unfold getItem
  try with_reducible refine wpAny_holding ?_
  first | refine wpAny_bind (wpAny_pure ?_) | skip
  refine wpAny_bind (wpAny_sequenceKey ht.typeIs (by decide) ?_)
  refine wpAny_bind (wpAny_callSpecial?_slot (name := Str.ofString "__getitem__") ht.typeIs PyProof.Rows.slot_tuple_getitem (wpAny_call_entry PyProof.Rows.slot_tuple_getitem ht.typeIs entry_tuple_getitem ?_ (args_tuple_getitem _ _)))
  refine wpAny_bind (m := Builtin.Tuple.tupleItemsOf (.ref t)) (tupleItemsOf_ ht ?_)
  refine wpAny_bind (wpAny_typeOf hTs ?_)
  rw [if_pos (by decide)]
  refine wpAny_bind (applied_rev hs ps ?_)
  have no : ¬ (((((items.size : Nat) : Int) - 1) == 0 && (-1 : Int) == 1 && items.size == items.size) = true) := by simp
  show wpAny _ _ (if ((((items.size : Nat) : Int) - 1) == 0 && (-1 : Int) == 1 && items.size == items.size) = true then _ else _) _ _ s
  rw [if_neg no, pick_rev]
  first
    | exact wpAny_bind (m := Builtin.Tuple.tupleExact _) (wpAny_newObj_type (wpAny_pure ⟨_, rfl, wpAny_pure h⟩) room)
    | exact wpAny_bind (m := Builtin.Tuple.tupleExact _) (wpAny_newObj_type (wpAny_bind (wpAny_pure (wpAny_pure ⟨_, rfl, wpAny_pure h⟩))) room)
    | exact wpAny_bind (wpAny_bind (m := Builtin.Tuple.tupleExact _) (wpAny_newObj_type (wpAny_pure (wpAny_pure ⟨_, rfl, wpAny_pure h⟩)) room))
end
/-- t[::-1], t a tuple -/
theorem pe_revT {X : Cx} {e : Expr} {te : TE} {k : Nat} {p1 p2 p3 pos : Pos} (he : PE X e te) : PE X (.Subscript e (.Slice none none (some (.UnaryOp .USub (.Constant (.int 1) k p1) p2)) p3) pos)
    (fun σ H Q => te σ H fun x H1 => ∃ a xs, x = .ref a ∧ SqT X.K H1 a xs ∧ ∀ p, H1 p = none → Q (.ref p) (upd H1 p (.tup xs.reverse))) := by
  refine ⟨fun pins s σ H Q I h => Subscript_ (thn (he.run pins s σ H _ I h) fun v s1 ⟨x, H1, I1, r1, a, xs, ex, hx, q⟩ => ?_)⟩
  subst ex
  obtain rfl : v = Value.ref a := r1
  have minus : PO X (some (.UnaryOp .USub (.Constant (.int 1) k p1) p2)) (tPart (tUn (rU fun i => .int (-i)) (tC (.int 1)))) := po_some (pe_un un_neg pe_int)
  refine wpAny_Slice (thn (po_none.run pins s1 σ H1 (fun o H2 => o = none ∧ H2 = H1) I1 ⟨rfl, rfl⟩) fun vl s2 ⟨l, H2, I2, pl, el, e2⟩ => ?_)
  subst el e2
  refine thn (po_none.run pins s2 σ H2 (fun o H3 => o = none ∧ H3 = H2) I2 ⟨rfl, rfl⟩) fun vu s3 ⟨u, H3, I3, pu, eu, e3⟩ => ?_
  subst eu e3
  refine thn (minus.run pins s3 σ H3 (fun o H4 => o = some (-1) ∧ H4 = H3) I3 ⟨1, rfl, -1, rfl, rfl, rfl⟩) fun vs s4 ⟨o, H4, I4, ps, eo, e4⟩ => ?_
  subst eo e4
  cases pl
  cases pu
  have I5 : Inv X pins σ H4 { s4 with heap := s4.heap.push { cls := .type "slice", data := .fields #[.none, .none, vs] } } := I4.kept (t' := s4.toks) fun b ob q => Heap.get?_push_of_some _ q
  obtain ⟨its, r, ht, hz⟩ := I5.tuple hx
  refine tail_any (ops := [.ref a, .ref s4.heap.objs.size]) ht.typeIs PyProof.Rows.slot_tuple_getitem.lookup ?_ (by with_unfolding_all rfl)
  refine getItem_tuple_rev ht (Heap.IsSliceOf.new _ .none .none vs) ps ?_ (by rw [List.size_toArray, ← r.length]; exact hz)
  refine ⟨.ref _, _, I5.laid (t' := s4.toks) (o := .tup xs.reverse) (fun b ob q => Heap.get?_push_of_some _ q) (Nat.le_refl _) ?_, rfl, q _ (I5.hok.fresh (Nat.le_refl _))⟩
  exact ⟨by rw [List.length_reverse]; exact hz, _, r.reverse, ⟨_, Heap.get?_push_size _ rfl, rfl, _, rfl⟩⟩
def revTD (d : D) : M D := match d with
  | .tup ds => pure (.tup ds.reverse)
  | _ => M.bad
theorem sk_revT {cl : String → Option Addr} {md : List Md} {X : Cx} {e : Expr} {k : Nat} {p1 p2 p3 pos : Pos} {m : Env → M D} (he : SK cl md X .val e m) : SK cl md X .val (.Subscript e (.Slice none none (some (.UnaryOp .USub (.Constant (.int 1) k p1) p2)) p3) pos) (e1 revTD m) :=
  PE.mono (pe_revT he) fun σ H Q ⟨ρ, μ, F, st, hE, hS, w⟩ => by
  refine ⟨ρ, μ, F, st, hE, hS, ?_⟩
  rw [M.gives_bind] at w
  refine M.gives_mono w fun d st1 w1 v μ1 F1 H1 p1 s1 r1 => ?_
  cases d <;> try exact w1.elim
  obtain ⟨z, a, vs, rfl, hq, rl⟩ := r1
  refine ⟨a, vs, rfl, s1.sub.seqT hq, fun p hp => ?_⟩
  obtain ⟨p2, s2, r2⟩ := new_tup p1 s1 (rpl_rev rl) hp (by rw [List.length_reverse]; exact z)
  exact w1 _ _ _ _ p2 s2 r2
end Sh
namespace Sh
open PySem PySem.Spec PyProof.Rows
/-! ### the order of ints, bools, texts and tuples of them, in plain Lean -/
/-- two lists that part at some place -/
inductive Part2 : List Int → List Int → Prop
  | here {x y : Int} {a b : List Int} (h : x ≠ y) : Part2 (x :: a) (y :: b)
  | there {x : Int} {a b : List Int} (h : Part2 a b) : Part2 (x :: a) (x :: b)
theorem Part2.ne {a b : List Int} (h : Part2 a b) : a ≠ b := by
  induction h with
  | here h => intro e; cases e; exact h rfl
  | there _ ih => intro e; cases e; exact ih rfl
theorem Part2.app {a b : List Int} (h : Part2 a b) (r s : List Int) : Part2 (a ++ r) (b ++ s) := by
  induction h with
  | here h => exact .here h
  | there _ ih => exact .there ih
def ltZ (a b : List Int) : Bool := decide (a < b)
theorem cons_lt {x y : Int} {a b : List Int} : x :: a < y :: b ↔ x < y ∨ (x = y ∧ a < b) := List.cons_lt_cons_iff
theorem Part2.lt {a b : List Int} (h : Part2 a b) (r s : List Int) : (a ++ r < b ++ s) ↔ a < b := by
  induction h with
  | here h =>
    rw [List.cons_append, List.cons_append, cons_lt, cons_lt]
    constructor
    · rintro (q | ⟨q, _⟩)
      · exact .inl q
      · exact absurd q h
    · rintro (q | ⟨q, _⟩)
      · exact .inl q
      · exact absurd q h
  | there _ ih =>
    rw [List.cons_append, List.cons_append, cons_lt, cons_lt, ih]
theorem pre_lt (p : List Int) {a b : List Int} : (p ++ a < p ++ b) ↔ a < b := by
  induction p with
  | nil => exact Iff.rfl
  | cons x p ih =>
    rw [List.cons_append, List.cons_append, cons_lt, ih]
    constructor
    · rintro (q | ⟨_, q⟩)
      · omega
      · exact q
    · exact fun q => .inr ⟨rfl, q⟩
def encS : List Nat → List Int
  | [] => [0]
  | c :: cs => ((c : Int) + 1) :: encS cs
mutual
def enc : PyData → List Int
  | .int i => [1, i]
  | .bool b => [1, if b then 1 else 0]
  | .str s => 2 :: encS s.cps.toList
  | .tuple xs => 3 :: encL xs
  | _ => [0]
def encL : List PyData → List Int
  | [] => [0]
  | x :: xs => 1 :: (enc x ++ encL xs)
end
mutual
/-- ints, bools, texts, tuples of them -/
def ordK : PyData → Bool
  | .int _ => true
  | .bool _ => true
  | .str _ => true
  | .tuple xs => ordKL xs
  | _ => false
def ordKL : List PyData → Bool
  | [] => true
  | x :: xs => ordK x && ordKL xs
end
theorem encS_part : ∀ a b : List Nat, encS a = encS b ∨ Part2 (encS a) (encS b)
  | [], [] => .inl rfl
  | [], c :: cs => .inr (.here (by omega))
  | c :: cs, [] => .inr (.here (by omega))
  | c :: cs, d :: ds => by
    by_cases h : c = d
    · subst h
      rcases encS_part cs ds with q | q
      · exact .inl (by unfold encS; rw [q])
      · exact .inr (.there q)
    · exact .inr (.here (by omega))
theorem encS_inj : ∀ {a b : List Nat}, encS a = encS b → a = b
  | [], [], _ => rfl
  | [], c :: cs, h => by unfold encS at h; injection h with h1; omega
  | c :: cs, [], h => by unfold encS at h; injection h with h1; omega
  | c :: cs, d :: ds, h => by
    unfold encS at h
    injection h with h1 h2
    rw [encS_inj h2, show c = d by omega]
theorem encS_lt : ∀ {a b : List Nat}, encS a < encS b ↔ a < b
  | [], [] => by simp
  | [], c :: cs => by
    unfold encS
    rw [cons_lt]
    simp <;> omega
  | c :: cs, [] => by
    unfold encS
    rw [cons_lt]
    simp <;> omega
  | c :: cs, d :: ds => by
    unfold encS
    rw [cons_lt, List.cons_lt_cons_iff, encS_lt]
    constructor
    · rintro (h | ⟨h, q⟩)
      · exact .inl (by omega)
      · exact .inr ⟨by omega, q⟩
    · rintro (h | ⟨h, q⟩)
      · exact .inl (by omega)
      · exact .inr ⟨by omega, q⟩
mutual
theorem enc_part : ∀ p q : PyData, ordK p = true → ordK q = true → enc p = enc q ∨ Part2 (enc p) (enc q)
  | .int i, .int j, _, _ => by
    by_cases h : i = j
    · subst h; exact .inl rfl
    · exact .inr (.there (.here h))
  | .int i, .bool b, _, _ => by
    by_cases h : i = (if b then 1 else 0)
    · exact .inl (by unfold enc; rw [h])
    · exact .inr (.there (.here h))
  | .bool a, .int j, _, _ => by
    by_cases h : (if a then (1 : Int) else 0) = j
    · exact .inl (by unfold enc; rw [h])
    · exact .inr (.there (.here h))
  | .bool a, .bool b, _, _ => by
    by_cases h : (if a then (1 : Int) else 0) = (if b then 1 else 0)
    · exact .inl (by unfold enc; rw [h])
    · exact .inr (.there (.here h))
  | .str a, .str b, _, _ => by
    rcases encS_part a.cps.toList b.cps.toList with h | h
    · exact .inl (by unfold enc; rw [h])
    · exact .inr (.there h)
  | .tuple xs, .tuple ys, h1, h2 => by
    rcases encL_part xs ys h1 h2 with h | h
    · exact .inl (by unfold enc; rw [h])
    · exact .inr (.there h)
  | .int _, .str _, _, _ => .inr (.here (by decide))
  | .int _, .tuple _, _, _ => .inr (.here (by decide))
  | .bool _, .str _, _, _ => .inr (.here (by decide))
  | .bool _, .tuple _, _, _ => .inr (.here (by decide))
  | .str _, .int _, _, _ => .inr (.here (by decide))
  | .str _, .bool _, _, _ => .inr (.here (by decide))
  | .str _, .tuple _, _, _ => .inr (.here (by decide))
  | .tuple _, .int _, _, _ => .inr (.here (by decide))
  | .tuple _, .bool _, _, _ => .inr (.here (by decide))
  | .tuple _, .str _, _, _ => .inr (.here (by decide))
  | .none, _, h, _ => by cases h
  | .list _, _, h, _ => by cases h
  | .dict _, _, h, _ => by cases h
  | .int _, .none, _, h => by cases h
  | .int _, .list _, _, h => by cases h
  | .int _, .dict _, _, h => by cases h
  | .bool _, .none, _, h => by cases h
  | .bool _, .list _, _, h => by cases h
  | .bool _, .dict _, _, h => by cases h
  | .str _, .none, _, h => by cases h
  | .str _, .list _, _, h => by cases h
  | .str _, .dict _, _, h => by cases h
  | .tuple _, .none, _, h => by cases h
  | .tuple _, .list _, _, h => by cases h
  | .tuple _, .dict _, _, h => by cases h
theorem encL_part : ∀ xs ys : List PyData, ordKL xs = true → ordKL ys = true → encL xs = encL ys ∨ Part2 (encL xs) (encL ys)
  | [], [], _, _ => .inl rfl
  | [], _ :: _, _, _ => .inr (.here (by decide))
  | _ :: _, [], _, _ => .inr (.here (by decide))
  | x :: xs, y :: ys, h1, h2 => by
    unfold ordKL at h1 h2
    simp only [Bool.and_eq_true] at h1 h2
    rcases enc_part x y h1.1 h2.1 with h | h
    · rcases encL_part xs ys h1.2 h2.2 with q | q
      · exact .inl (by unfold encL; rw [h, q])
      · refine .inr ?_
        unfold encL
        rw [h]
        have pre : ∀ p : List Int, Part2 (p ++ encL xs) (p ++ encL ys) := fun p => by
          induction p with
          | nil => exact q
          | cons z p ih => exact .there ih
        exact .there (pre _)
    · exact .inr (.there (h.app _ _))
end
mutual
theorem eqv_enc : ∀ p q : PyData, ordK p = true → ordK q = true → PyData.eqv p q = decide (enc p = enc q)
  | .int i, .int j, _, _ => by
    show (i == j) = decide ([1, i] = [1, j])
    by_cases h : i = j <;> simp [h]
  | .int i, .bool b, _, _ => by
    show (i == (if b then 1 else 0)) = decide ([1, i] = [1, if b then 1 else 0])
    by_cases h : i = (if b then 1 else 0) <;> simp [h]
  | .bool a, .int j, _, _ => by
    show ((if a then 1 else 0) == j) = decide ([1, if a then 1 else 0] = [1, j])
    by_cases h : (if a then (1 : Int) else 0) = j <;> simp [h]
  | .bool a, .bool b, _, _ => by cases a <;> cases b <;> rfl
  | .str a, .str b, _, _ => by
    show (a == b) = decide (2 :: encS a.cps.toList = 2 :: encS b.cps.toList)
    by_cases h : a = b
    · subst h; simp
    · have : ¬ (2 :: encS a.cps.toList : List Int) = 2 :: encS b.cps.toList := fun e => h (by
        injection e with _ e
        have := encS_inj e
        cases a with | mk x => cases b with | mk y => congr 1; exact Array.toList_inj.mp this)
      simp [h, this]
  | .tuple xs, .tuple ys, h1, h2 => by
    show PyData.eqvAll xs ys = decide (3 :: encL xs = 3 :: encL ys)
    rw [eqvL_enc xs ys h1 h2]
    by_cases h : encL xs = encL ys <;> simp [h]
  | .int _, .str _, _, _ => by simp [PyData.eqv, enc]
  | .int _, .tuple _, _, _ => by simp [PyData.eqv, enc]
  | .bool _, .str _, _, _ => by simp [PyData.eqv, enc]
  | .bool _, .tuple _, _, _ => by simp [PyData.eqv, enc]
  | .str _, .int _, _, _ => by simp [PyData.eqv, enc]
  | .str _, .bool _, _, _ => by simp [PyData.eqv, enc]
  | .str _, .tuple _, _, _ => by simp [PyData.eqv, enc]
  | .tuple _, .int _, _, _ => by simp [PyData.eqv, enc]
  | .tuple _, .bool _, _, _ => by simp [PyData.eqv, enc]
  | .tuple _, .str _, _, _ => by simp [PyData.eqv, enc]
  | .none, _, h, _ => by cases h
  | .list _, _, h, _ => by cases h
  | .dict _, _, h, _ => by cases h
  | .int _, .none, _, h => by cases h
  | .int _, .list _, _, h => by cases h
  | .int _, .dict _, _, h => by cases h
  | .bool _, .none, _, h => by cases h
  | .bool _, .list _, _, h => by cases h
  | .bool _, .dict _, _, h => by cases h
  | .str _, .none, _, h => by cases h
  | .str _, .list _, _, h => by cases h
  | .str _, .dict _, _, h => by cases h
  | .tuple _, .none, _, h => by cases h
  | .tuple _, .list _, _, h => by cases h
  | .tuple _, .dict _, _, h => by cases h
theorem eqvL_enc : ∀ xs ys : List PyData, ordKL xs = true → ordKL ys = true → PyData.eqvAll xs ys = decide (encL xs = encL ys)
  | [], [], _, _ => rfl
  | [], _ :: _, _, _ => by simp [PyData.eqvAll, encL]
  | _ :: _, [], _, _ => by simp [PyData.eqvAll, encL]
  | x :: xs, y :: ys, h1, h2 => by
    unfold ordKL at h1 h2
    simp only [Bool.and_eq_true] at h1 h2
    show (PyData.eqv x y && PyData.eqvAll xs ys) = decide (1 :: (enc x ++ encL xs) = 1 :: (enc y ++ encL ys))
    rw [eqv_enc x y h1.1 h2.1, eqvL_enc xs ys h1.2 h2.2]
    rcases enc_part x y h1.1 h2.1 with h | h
    · rw [h]
      by_cases q : encL xs = encL ys <;> simp [q]
    · have n1 := h.ne
      have n2 := (h.app (encL xs) (encL ys)).ne
      simp [n1, n2]
end
mutual
/-- <, where it is told: as Python compares -/
def ltP : PyData → PyData → Option Bool
  | .int i, .int j => some (decide (i < j))
  | .bool a, .bool b => some (!a && b)
  | .str a, .str b => some (ltS a b)
  | .tuple xs, .tuple ys => ltPL xs ys
  | _, _ => none
def ltPL : List PyData → List PyData → Option Bool
  | [], [] => some false
  | [], _ :: _ => some true
  | _ :: _, [] => some false
  | x :: xs, y :: ys => if PyData.eqv x y = true then ltPL xs ys else ltP x y
end
mutual
theorem ltP_enc : ∀ (p q : PyData) (b : Bool), ordK p = true → ordK q = true → ltP p q = some b → b = ltZ (enc p) (enc q)
  | .int i, .int j, b, _, _, h => by
    cases h
    show decide (i < j) = decide (([1, i] : List Int) < [1, j])
    apply decide_eq_decide.mpr
    rw [cons_lt, cons_lt]
    simp
  | .bool a, .bool c, b, _, _, h => by cases h; cases a <;> cases c <;> decide
  | .str a, .str c, b, _, _, h => by
    cases h
    show decide (a.cps.toList < c.cps.toList) = decide ((2 :: encS a.cps.toList : List Int) < 2 :: encS c.cps.toList)
    apply decide_eq_decide.mpr
    rw [cons_lt, encS_lt]
    simp
  | .tuple xs, .tuple ys, b, h1, h2, h => by
    have := ltPL_enc xs ys b h1 h2 h
    rw [this]
    show decide (encL xs < encL ys) = decide ((3 :: encL xs : List Int) < 3 :: encL ys)
    apply decide_eq_decide.mpr
    rw [cons_lt]
    simp
  | .int _, .str _, _, _, _, h => by cases h
  | .int _, .bool _, _, _, _, h => by cases h
  | .int _, .tuple _, _, _, _, h => by cases h
  | .bool _, .str _, _, _, _, h => by cases h
  | .bool _, .int _, _, _, _, h => by cases h
  | .bool _, .tuple _, _, _, _, h => by cases h
  | .str _, .int _, _, _, _, h => by cases h
  | .str _, .bool _, _, _, _, h => by cases h
  | .str _, .tuple _, _, _, _, h => by cases h
  | .tuple _, .int _, _, _, _, h => by cases h
  | .tuple _, .bool _, _, _, _, h => by cases h
  | .tuple _, .str _, _, _, _, h => by cases h
  | .none, _, _, h, _, _ => by cases h
  | .list _, _, _, h, _, _ => by cases h
  | .dict _, _, _, h, _, _ => by cases h
  | .int _, .none, _, _, h, _ => by cases h
  | .int _, .list _, _, _, h, _ => by cases h
  | .int _, .dict _, _, _, h, _ => by cases h
  | .bool _, .none, _, _, h, _ => by cases h
  | .bool _, .list _, _, _, h, _ => by cases h
  | .bool _, .dict _, _, _, h, _ => by cases h
  | .str _, .none, _, _, h, _ => by cases h
  | .str _, .list _, _, _, h, _ => by cases h
  | .str _, .dict _, _, _, h, _ => by cases h
  | .tuple _, .none, _, _, h, _ => by cases h
  | .tuple _, .list _, _, _, h, _ => by cases h
  | .tuple _, .dict _, _, _, h, _ => by cases h
theorem ltPL_enc : ∀ (xs ys : List PyData) (b : Bool), ordKL xs = true → ordKL ys = true → ltPL xs ys = some b → b = ltZ (encL xs) (encL ys)
  | [], [], b, _, _, h => by cases h; decide
  | [], _ :: _, b, _, _, h => by
    cases h
    show true = decide (_ < _)
    refine (decide_eq_true ?_).symm
    unfold encL
    exact cons_lt.mpr (.inl (by decide))
  | _ :: _, [], b, _, _, h => by
    cases h
    show false = decide (_ < _)
    refine (decide_eq_false ?_).symm
    unfold encL
    rw [cons_lt]
    rintro (q | ⟨q, _⟩)
    · exact absurd q (by decide)
    · exact absurd q (by decide)
  | x :: xs, y :: ys, b, h1, h2, h => by
    unfold ordKL at h1 h2
    simp only [Bool.and_eq_true] at h1 h2
    unfold ltPL at h
    rw [eqv_enc x y h1.1 h2.1] at h
    have up : ∀ P : Prop, ∀ [Decidable P], ((1 :: (enc x ++ encL xs) : List Int) < 1 :: (enc y ++ encL ys) ↔ P) → b = decide P → b = ltZ (encL (x :: xs)) (encL (y :: ys)) := fun P _ e q => by
      rw [q]
      show decide P = decide (_ < _)
      apply decide_eq_decide.mpr
      unfold encL
      exact e.symm
    rcases enc_part x y h1.1 h2.1 with q | q
    · rw [if_pos (decide_eq_true q)] at h
      refine up (encL xs < encL ys) ?_ (ltPL_enc xs ys b h1.2 h2.2 h)
      rw [cons_lt, q, pre_lt]
      simp
    · rw [if_neg (by simp [q.ne])] at h
      refine up (enc x < enc y) ?_ (ltP_enc x y b h1.1 h2.1 h)
      rw [cons_lt, q.lt]
      simp
end
theorem ltZ_asym {a b : List Int} (h : ltZ a b = true) : ltZ b a = false := by
  unfold ltZ at *
  exact decide_eq_false (List.lt_asymm (of_decide_eq_true h))
theorem ltZ_tr {a b c : List Int} (h1 : ltZ a b = false) (h2 : ltZ b c = false) : ltZ a c = false := by
  unfold ltZ at *
  have h1 := of_decide_eq_false h1
  have h2 := of_decide_eq_false h2
  refine decide_eq_false fun h => ?_
  have l1 : b ≤ a := List.not_lt.mp h1
  have l2 : c ≤ b := List.not_lt.mp h2
  exact (List.not_lt.mpr (List.le_trans l2 l1)) h
end Sh
namespace Sh
open PySem PySem.Spec PyProof.Rows
/-! ### < of data, by the machine -/
theorem lex_ltPL : ∀ (xs ys : List PyData) (b : Bool) (e r : Nat → Bool) (z : Bool) (i : Nat), (∀ j x y, xs[j]? = some x → ys[j]? = some y → e (i + j) = PyData.eqv x y ∧ ∀ c, ltP x y = some c → r (i + j) = c) → z = decide (xs.length < ys.length) → ltPL xs ys = some b →
    Ob.lexAt e r z i (min xs.length ys.length) = b
  | [], [], b, e, r, z, i, _, hz, h => by cases h; rw [hz]; rfl
  | [], _ :: _, b, e, r, z, i, _, hz, h => by cases h; rw [hz]; simp [Ob.lexAt]
  | _ :: _, [], b, e, r, z, i, _, hz, h => by cases h; rw [hz]; simp [Ob.lexAt]
  | x :: xs, y :: ys, b, e, r, z, i, hj, hz, h => by
    have h0 := hj 0 x y rfl rfl
    rw [Nat.add_zero] at h0
    have el : min (x :: xs).length (y :: ys).length = min xs.length ys.length + 1 := by simp only [List.length_cons]; omega
    rw [el, Ob.lexAt_succ, h0.1]
    unfold ltPL at h
    by_cases q : PyData.eqv x y = true
    · rw [if_pos q] at h ⊢
      refine lex_ltPL xs ys b e r z (i + 1) (fun j a c ha hc => ?_) (by rw [hz]; simp) h
      have := hj (j + 1) a c (by simpa using ha) (by simpa using hc)
      rw [show i + 1 + j = i + (j + 1) by omega]
      exact this
    · rw [if_neg q] at h ⊢
      exact h0.2 b h
mutual
/-- both stand in one order, whatever is asked -/
def fullB : PyData → PyData → Bool
  | .int _, .int _ => true
  | .bool _, .bool _ => true
  | .str _, .str _ => true
  | .tuple xs, .tuple ys => fullL xs ys
  | _, _ => false
def fullL : List PyData → List PyData → Bool
  | x :: xs, y :: ys => (PyData.eqv x y || fullB x y) && fullL xs ys
  | _, _ => true
end
mutual
theorem full_lt : ∀ p q : PyData, fullB p q = true → ∃ b, ltP p q = some b
  | .int _, .int _, _ => ⟨_, rfl⟩
  | .bool _, .bool _, _ => ⟨_, rfl⟩
  | .str _, .str _, _ => ⟨_, rfl⟩
  | .tuple xs, .tuple ys, h => fullL_lt xs ys h
  | .none, _, h => by cases h
  | .list _, _, h => by cases h
  | .dict _, _, h => by cases h
  | .int _, .none, h => by cases h
  | .int _, .bool _, h => by cases h
  | .int _, .str _, h => by cases h
  | .int _, .tuple _, h => by cases h
  | .int _, .list _, h => by cases h
  | .int _, .dict _, h => by cases h
  | .bool _, .none, h => by cases h
  | .bool _, .int _, h => by cases h
  | .bool _, .str _, h => by cases h
  | .bool _, .tuple _, h => by cases h
  | .bool _, .list _, h => by cases h
  | .bool _, .dict _, h => by cases h
  | .str _, .none, h => by cases h
  | .str _, .int _, h => by cases h
  | .str _, .bool _, h => by cases h
  | .str _, .tuple _, h => by cases h
  | .str _, .list _, h => by cases h
  | .str _, .dict _, h => by cases h
  | .tuple _, .none, h => by cases h
  | .tuple _, .int _, h => by cases h
  | .tuple _, .bool _, h => by cases h
  | .tuple _, .str _, h => by cases h
  | .tuple _, .list _, h => by cases h
  | .tuple _, .dict _, h => by cases h
theorem fullL_lt : ∀ xs ys : List PyData, fullL xs ys = true → ∃ b, ltPL xs ys = some b
  | [], [], _ => ⟨_, rfl⟩
  | [], _ :: _, _ => ⟨_, rfl⟩
  | _ :: _, [], _ => ⟨_, rfl⟩
  | x :: xs, y :: ys, h => by
    unfold fullL at h
    simp only [Bool.and_eq_true, Bool.or_eq_true] at h
    unfold ltPL
    by_cases q : PyData.eqv x y = true
    · rw [if_pos q]; exact fullL_lt xs ys h.2
    · rw [if_neg q]; exact full_lt x y (h.1.resolve_left q)
end
theorem fullL_at : ∀ {xs ys : List PyData} {j : Nat} {x y : PyData}, fullL xs ys = true → xs[j]? = some x → ys[j]? = some y → PyData.eqv x y = false → fullB x y = true
  | [], _, j, _, _, _, h, _, _ => by simp at h
  | _ :: _, [], j, _, _, _, _, h, _ => by simp at h
  | a :: xs, b :: ys, 0, x, y, h, h1, h2, q => by
    unfold fullL at h
    simp only [Bool.and_eq_true, Bool.or_eq_true] at h
    simp at h1 h2
    subst h1 h2
    exact h.1.resolve_left (by rw [q]; simp)
  | a :: xs, b :: ys, j + 1, x, y, h, h1, h2, q => by
    unfold fullL at h
    simp only [Bool.and_eq_true] at h
    exact fullL_at h.2 (by simpa using h1) (by simpa using h2) q
theorem readsAll_at {h : Heap} : ∀ {vs : List Value} {ds : List PyData} {as : List Addr}, ReadsAll h vs ds as → vs.length = ds.length ∧ ∀ (j : Nat) (v : Value), vs[j]? = some v → ∃ d bs, ds[j]? = some d ∧ Reads h v d bs
  | _, _, _, .nil => ⟨rfl, fun j v e => by simp at e⟩
  | _, _, _, .cons r rs => by
    obtain ⟨l, f⟩ := readsAll_at rs
    refine ⟨by simp [l], fun j v e => ?_⟩
    cases j with
    | zero => simp at e; subst e; exact ⟨_, _, rfl, r⟩
    | succ j => simpa using f j v (by simpa using e)
theorem layAll_at : ∀ {ds : List PyData} {j : Nat} {d : PyData}, PyData.canLayAll0 ds = true → ds[j]? = some d → d.canLay0 = true ∧ d.depth ≤ PyData.depthAll ds
  | [], j, _, _, h => by simp at h
  | x :: xs, 0, d, h, e => by
    have h : (x.canLay0 && PyData.canLayAll0 xs) = true := h
    simp only [Bool.and_eq_true] at h
    simp at e; subst e
    exact ⟨h.1, Nat.le_max_left _ _⟩
  | x :: xs, j + 1, d, h, e => by
    have h : (x.canLay0 && PyData.canLayAll0 xs) = true := h
    simp only [Bool.and_eq_true] at h
    obtain ⟨a, b⟩ := layAll_at h.2 (show xs[j]? = some d by simpa using e)
    exact ⟨a, Nat.le_trans b (Nat.le_max_right _ _)⟩
def ePair (xs ys : List PyData) (j : Nat) : Bool := match xs[j]?, ys[j]? with
  | some x, some y => PyData.eqv x y
  | _, _ => false
def rPair (xs ys : List PyData) (j : Nat) : Bool := match xs[j]?, ys[j]? with
  | some x, some y => (ltP x y).getD false
  | _, _ => false
theorem lex_pair {xs ys : List PyData} {b : Bool} (h : ltPL xs ys = some b) : Ob.lexAt (ePair xs ys) (rPair xs ys) (decide (xs.length < ys.length)) 0 (min xs.length ys.length) = b := by
  refine lex_ltPL xs ys b _ _ _ 0 (fun j x y hx hy => ?_) rfl h
  rw [Nat.zero_add]
  unfold ePair rPair
  rw [hx, hy]
  exact ⟨rfl, fun c hc => by show (ltP x y).getD false = c; rw [hc]; rfl⟩
theorem lt_rc : ∀ (k : Nat) (p q : PyData) (A : Around) (s : Shared) (v u : Value) (as bs : List Addr), Reads s.heap v p as → Reads s.heap u q bs → p.depth < k → p.canLay0 = true → q.canLay0 = true → A.units + p.depth < cLine → fullB p q = true → Ob.RcOp .Lt A s v u ((ltP p q).getD false)
  | 0, p, _, _, _, _, _, _, _, _, _, h, _, _, _, _ => by omega
  | k + 1, .int i, .int j, A, s, v, u, _, _, rp, rq, _, _, _, _, _ => by
    cases rp with | int i t => cases rq with | int j t' => exact Ob.RcOp.lt_int i j t t'
  | k + 1, .bool a, .bool b, A, s, v, u, _, _, rp, rq, _, _, _, _, _ => by
    cases rp with | bool a => cases rq with | bool b =>
      refine fun prog w E Q h => PyProof.Rows.lt_bool ?_
      have e : decide (b2i a < b2i b) = (!a && b) := by cases a <;> cases b <;> rfl
      rw [e]
      exact h
  | k + 1, .str a, .str b, A, s, v, u, _, _, rp, rq, _, _, _, _, _ => by
    cases rp with | str a t => cases rq with | str b t' => exact fun prog w E Q h => P.lt_str h
  | k + 1, .tuple xs, .tuple ys, A, s, v, u, _, _, rp, rq, hk, hp, hq, hu, hf => by
    cases rp with
    | @tuple a o vs n _ as e1 e2 e3 e4 =>
      cases rq with
      | @tuple c o' ws n' _ bs f1 f2 f3 f4 =>
        obtain ⟨l1, g1⟩ := readsAll_at e4
        obtain ⟨l2, g2⟩ := readsAll_at f4
        have l1' : vs.size = xs.length := by simpa using l1
        have l2' : ws.size = ys.length := by simpa using l2
        have hk' : PyData.depthAll xs + 1 < k + 1 := hk
        have in1 : A.in1.units = A.units + 1 := rfl
        have hu' : A.units + (PyData.depthAll xs + 1) < cLine := hu
        have hf : fullL xs ys = true := hf
        obtain ⟨b, hb⟩ := fullL_lt xs ys hf
        have hT1 : s.heap.IsTuple a vs := ⟨o, e1, e2, n, e3⟩
        have hT2 : s.heap.IsTuple c ws := ⟨o', f1, f2, n', f3⟩
        have key := Ob.RcOp.tuples_lt (A := A) (s := s) (e := ePair xs ys) (r := rPair xs ys) hT1 hT2 (by omega) (fun j h1 h2 => ?_) (fun j h1 h2 he => ?_)
        · have lx := lex_pair hb
          rw [l1', l2', lx] at key
          show Ob.RcOp .Lt A s _ _ ((ltPL xs ys).getD false)
          rw [hb]
          exact key
        · obtain ⟨x, _, hx, rx⟩ := g1 j vs[j] (by simp [h1])
          obtain ⟨y, _, hy, ry⟩ := g2 j ws[j] (by simp [h2])
          obtain ⟨c1, d1⟩ := layAll_at hp hx
          obtain ⟨c2, d2⟩ := layAll_at hq hy
          have e : ePair xs ys j = PyData.eqv x y := by unfold ePair; rw [hx, hy]
          rw [e]
          exact SeqAt.eqAt_reads x y A.in1 s _ _ _ _ rx ry c1 c2 (by rw [in1]; omega)
        · obtain ⟨x, _, hx, rx⟩ := g1 j vs[j] (by simp [h1])
          obtain ⟨y, _, hy, ry⟩ := g2 j ws[j] (by simp [h2])
          obtain ⟨c1, d1⟩ := layAll_at hp hx
          obtain ⟨c2, d2⟩ := layAll_at hq hy
          have e : ePair xs ys j = PyData.eqv x y := by unfold ePair; rw [hx, hy]
          have e2 : rPair xs ys j = (ltP x y).getD false := by unfold rPair; rw [hx, hy]
          rw [e] at he
          rw [e2]
          exact lt_rc k x y A.in1 s _ _ _ _ rx ry (by omega) c1 c2 (by rw [in1]; omega) (fullL_at hf hx hy he)
  | k + 1, .none, _, _, _, _, _, _, _, _, _, _, _, _, _, h => by cases h
  | k + 1, .list _, _, _, _, _, _, _, _, _, _, _, _, _, _, h => by cases h
  | k + 1, .dict _, _, _, _, _, _, _, _, _, _, _, _, _, _, h => by cases h
  | k + 1, .int _, .none, _, _, _, _, _, _, _, _, _, _, _, _, h => by cases h
  | k + 1, .int _, .bool _, _, _, _, _, _, _, _, _, _, _, _, _, h => by cases h
  | k + 1, .int _, .str _, _, _, _, _, _, _, _, _, _, _, _, _, h => by cases h
  | k + 1, .int _, .tuple _, _, _, _, _, _, _, _, _, _, _, _, _, h => by cases h
  | k + 1, .int _, .list _, _, _, _, _, _, _, _, _, _, _, _, _, h => by cases h
  | k + 1, .int _, .dict _, _, _, _, _, _, _, _, _, _, _, _, _, h => by cases h
  | k + 1, .bool _, .none, _, _, _, _, _, _, _, _, _, _, _, _, h => by cases h
  | k + 1, .bool _, .int _, _, _, _, _, _, _, _, _, _, _, _, _, h => by cases h
  | k + 1, .bool _, .str _, _, _, _, _, _, _, _, _, _, _, _, _, h => by cases h
  | k + 1, .bool _, .tuple _, _, _, _, _, _, _, _, _, _, _, _, _, h => by cases h
  | k + 1, .bool _, .list _, _, _, _, _, _, _, _, _, _, _, _, _, h => by cases h
  | k + 1, .bool _, .dict _, _, _, _, _, _, _, _, _, _, _, _, _, h => by cases h
  | k + 1, .str _, .none, _, _, _, _, _, _, _, _, _, _, _, _, h => by cases h
  | k + 1, .str _, .int _, _, _, _, _, _, _, _, _, _, _, _, _, h => by cases h
  | k + 1, .str _, .bool _, _, _, _, _, _, _, _, _, _, _, _, _, h => by cases h
  | k + 1, .str _, .tuple _, _, _, _, _, _, _, _, _, _, _, _, _, h => by cases h
  | k + 1, .str _, .list _, _, _, _, _, _, _, _, _, _, _, _, _, h => by cases h
  | k + 1, .str _, .dict _, _, _, _, _, _, _, _, _, _, _, _, _, h => by cases h
  | k + 1, .tuple _, .none, _, _, _, _, _, _, _, _, _, _, _, _, h => by cases h
  | k + 1, .tuple _, .int _, _, _, _, _, _, _, _, _, _, _, _, _, h => by cases h
  | k + 1, .tuple _, .bool _, _, _, _, _, _, _, _, _, _, _, _, _, h => by cases h
  | k + 1, .tuple _, .str _, _, _, _, _, _, _, _, _, _, _, _, _, h => by cases h
  | k + 1, .tuple _, .list _, _, _, _, _, _, _, _, _, _, _, _, _, h => by cases h
  | k + 1, .tuple _, .dict _, _, _, _, _, _, _, _, _, _, _, _, _, h => by cases h
end Sh
namespace Sh
open PySem PySem.Spec PyProof.Rows
section
variable {prog : Program} {w : World} {A : Around} {s : Shared}
/-- one item against another, as sorting asks -/
theorem one_lt {E : Value → Shared → Prop} {f : Bool} {p q : PyData} {v u : Value} {as bs : List Addr} {Q : Bool → Shared → Prop} (hf : f = true → ∀ xs, p ≠ .tuple xs) (rp : Reads s.heap v p as) (rq : Reads s.heap u q bs) (hp : p.canLay0 = true) (hq : q.canLay0 = true)
    (hu : A.units + p.depth < cLine) (h : fullB p q = true) (k : Q ((ltP p q).getD false) s) : wpAny (model prog w) A (oneLt' f v u) Q E s := by
  cases f with
  | false => exact PySem.W.kat_one _ _ (lt_rc (p.depth + 1) p q A s v u as bs rp rq (Nat.lt_succ_self _) hp hq hu h prog w _ _ k)
  | true =>
    match p, q, h with
    | .int i, .int j, _ =>
      cases rp with | int i t => cases rq with | int j t' => exact oneLt_int k
    | .str i, .str j, _ =>
      cases rp with | str i t => cases rq with | str j t' => exact oneLt_str k
    | .bool a, .bool b, _ =>
      cases rp with | bool a => cases rq with | bool b =>
        refine PySem.W.oneLt_bool ?_
        have e : decide (b2i a < b2i b) = (!a && b) := by cases a <;> cases b <;> rfl
        rw [e]
        exact k
    | .tuple xs, .tuple ys, _ => exact absurd rfl (hf rfl xs)
/-- .. tuple against tuple, no further than needed -/
def lazyL : List PyData → List PyData → Bool
  | x :: xs, y :: ys => if PyData.eqv x y = true then lazyL xs ys else fullB x y
  | _, _ => true
theorem lazy_lt : ∀ xs ys : List PyData, lazyL xs ys = true → ∃ b, ltPL xs ys = some b
  | [], [], _ => ⟨_, rfl⟩
  | [], _ :: _, _ => ⟨_, rfl⟩
  | _ :: _, [], _ => ⟨_, rfl⟩
  | x :: xs, y :: ys, h => by
    unfold lazyL at h
    unfold ltPL
    by_cases q : PyData.eqv x y = true
    · rw [if_pos q] at h ⊢; exact lazy_lt xs ys h
    · rw [if_neg q] at h ⊢; exact full_lt x y h
theorem kat_lazy {b : Bool} {fin : Bool} {Q : Bool → Shared → Prop} : ∀ (xs ys : List PyData) (i : Nat) (vs ws : List Value) (as bs : List Addr), ReadsAll s.heap vs xs as → ReadsAll s.heap ws ys bs → PyData.canLayAll0 xs = true → PyData.canLayAll0 ys = true → A.units + PyData.depthAll xs < cLine →
    (b = true → i = 0 → ∀ x r t, xs = x :: r → x ≠ .tuple t) → lazyL xs ys = true → fin = decide (xs.length < ys.length) → Q ((ltPL xs ys).getD false) s → PySem.W.KatLex prog w A b fin Q (vs.zip ws) i s
  | [], [], i, _, _, _, _, ra, rb, _, _, _, _, _, hz, k => by
    cases ra; cases rb
    subst hz
    exact PySem.W.kat_nil k
  | [], y :: ys, i, _, _, _, _, ra, rb, _, _, _, _, _, hz, k => by
    cases ra
    subst hz
    rw [List.zip_nil_left]
    exact PySem.W.kat_nil (by simpa [ltPL] using k)
  | x :: xs, [], i, _, _, _, _, ra, rb, _, _, _, _, _, hz, k => by
    cases rb
    subst hz
    rw [List.zip_nil_right]
    exact PySem.W.kat_nil (by simpa [ltPL] using k)
  | x :: xs, y :: ys, i, _, _, _, _, ra, rb, c1, c2, hu, hb, hl, hz, k => by
    cases ra with
    | @cons v vs _ _ as1 as2 r1 ra =>
      cases rb with
      | @cons u ws _ _ bs1 bs2 r2 rb =>
        have c1 : (x.canLay0 && PyData.canLayAll0 xs) = true := c1
        have c2 : (y.canLay0 && PyData.canLayAll0 ys) = true := c2
        simp only [Bool.and_eq_true] at c1 c2
        have hu : A.units + max x.depth (PyData.depthAll xs) < cLine := hu
        unfold lazyL at hl
        unfold ltPL at k
        rw [List.zip_cons_cons]
        refine PySem.W.kat_cons (SeqAt.eqAt_reads x y A s v u _ _ r1 r2 c1.1 c2.1 (by omega) prog w _ _ ?_)
        refine PySem.W.kat_go (fun e => ?_) (fun e => ?_)
        · rw [if_pos e] at hl k
          exact PySem.W.kat_yes (kat_lazy xs ys (i + 1) vs ws as2 bs2 ra rb c1.2 c2.2 (by omega) (fun _ h0 => absurd h0 (Nat.succ_ne_zero i)) hl (by rw [hz]; simp) k)
        · rw [if_neg (by rw [e]; simp)] at hl k
          refine PySem.W.kat_no (one_lt (fun hf t => ?_) r1 r2 c1.1 c2.1 (by omega) hl k)
          simp only [Bool.and_eq_true, beq_iff_eq] at hf
          exact hb hf.1 hf.2 x xs t rfl
/-- a tuple's own < -/
theorem tup_lt {E : Value → Shared → Prop} {xs ys : List PyData} {v u : Value} {as bs : List Addr} {Q : Value → Shared → Prop} (rp : Reads s.heap v (.tuple xs) as) (rq : Reads s.heap u (.tuple ys) bs) (hp : PyData.canLayAll0 xs = true) (hq : PyData.canLayAll0 ys = true)
    (hu : A.units + (PyData.depthAll xs + 1) < cLine) (h : fullL xs ys = true) (k : Q (.bool ((ltPL xs ys).getD false)) s) : wpAny (model prog w) A (call (.builtin "tuple.__lt__") [v, u]) Q E s := by
  cases rp with
  | @tuple a o vs n _ as e1 e2 e3 e4 =>
    cases rq with
    | @tuple c o' ws n' _ bs f1 f2 f3 f4 =>
      obtain ⟨l1, g1⟩ := readsAll_at e4
      obtain ⟨l2, g2⟩ := readsAll_at f4
      have l1' : vs.size = xs.length := by simpa using l1
      have l2' : ws.size = ys.length := by simpa using l2
      obtain ⟨b, hb⟩ := fullL_lt xs ys h
      obtain ⟨ocls, dd, data, sl⟩ := o
      obtain ⟨ocls2, dd2, data2, sl2⟩ := o'
      simp only at e2 e3 f2 f3
      subst e2 e3 f2 f3
      have in1 : A.in1.units = A.units + 1 := rfl
      refine call_meets F.slot_tuple_lt ⟨_, e1, rfl⟩ F.entry_tuple_lt (F.args_tuple_lt_2 _ _) (Ob.tuple_ltAt a c vs ws n n' dd dd2 sl sl2 (ePair xs ys) (rPair xs ys)) ⟨e1, f1, fun j h1 h2 => ?_, fun j h1 h2 he => ?_, ?_⟩
      · obtain ⟨x, _, hx, rx⟩ := g1 j vs[j] (by simp [h1])
        obtain ⟨y, _, hy, ry⟩ := g2 j ws[j] (by simp [h2])
        obtain ⟨c1, d1⟩ := layAll_at hp hx
        obtain ⟨c2, d2⟩ := layAll_at hq hy
        have e : ePair xs ys j = PyData.eqv x y := by unfold ePair; rw [hx, hy]
        rw [e]
        exact SeqAt.eqAt_reads x y A.in1 s _ _ _ _ rx ry c1 c2 (by rw [in1]; omega)
      · obtain ⟨x, _, hx, rx⟩ := g1 j vs[j] (by simp [h1])
        obtain ⟨y, _, hy, ry⟩ := g2 j ws[j] (by simp [h2])
        obtain ⟨c1, d1⟩ := layAll_at hp hx
        obtain ⟨c2, d2⟩ := layAll_at hq hy
        have e : ePair xs ys j = PyData.eqv x y := by unfold ePair; rw [hx, hy]
        have e2 : rPair xs ys j = (ltP x y).getD false := by unfold rPair; rw [hx, hy]
        rw [e] at he
        rw [e2]
        exact lt_rc (x.depth + 1) x y A.in1 s _ _ _ _ rx ry (Nat.lt_succ_self _) c1 c2 (by rw [in1]; omega) (fullL_at h hx hy he)
      · have lx := lex_pair hb
        rw [l1', l2', lx]
        rw [hb] at k
        exact k
end
end Sh
namespace Sh
open PySem PySem.Spec PyProof.Rows
/-! ### which way sorting compares -/
def tagP : PyData → String
  | .int _ => "int"
  | .bool _ => "bool"
  | .str _ => "str"
  | .tuple _ => "tuple"
  | .list _ => "list"
  | .dict _ => "dict"
  | .none => "NoneType"
theorem tag_looks {M : Model} {h : Heap} {v : Value} {p : PyData} {as : List Addr} (r : Reads h v p as) (hp : p.canLay0 = true) : W.Looks M h (typeOf v) (.type (tagP p)) := by
  cases r with
  | none => exact .now
  | bool b => exact .now
  | int i t => exact .now
  | str x t => exact .now
  | list e1 e2 e3 e4 =>
    show W.Looks M h (typeOf (.ref _)) (Value.type "list")
    rw [← e2]
    exact (W.Looks.ld e1).andThen .now
  | tuple e1 e2 e3 e4 =>
    show W.Looks M h (typeOf (.ref _)) (Value.type "tuple")
    rw [← e2]
    exact (W.Looks.ld e1).andThen .now
  | dict e1 e2 e3 e4 e5 => cases hp
section
variable {M : Model} {A : Around} {E : Value → Shared → Prop} {s : Shared}
/-- the first places of tuples, where there are any -/
theorem firsts_opt : ∀ (vs : List Value) (fs : List (Option Value)) {Q : List (Option Value) → Shared → Prop}, (vs.length = fs.length ∧ ∀ (j : Nat) (v : Value) (f : Option Value), vs[j]? = some v → fs[j]? = some f → ∃ a o xs n, v = .ref a ∧ s.heap.get? a = some o ∧ o.cls = .type "tuple" ∧ o.data = .seq xs n ∧ xs[0]? = f) → Q fs s → wpAny M A (vs.mapM firstOfTuple') Q E s
  | [], [], _, _, h => by rw [List.mapM_nil]; exact wpAny_pure h
  | [], _ :: _, _, t, _ => by have := t.1; simp at this
  | _ :: _, [], _, t, _ => by have := t.1; simp at this
  | v :: vs, f :: fs, Q, t, h => by
    obtain ⟨a, o, xs, n, rfl, ho, hc, hd, hf⟩ := t.2 0 v f rfl rfl
    rw [List.mapM_cons]
    refine wpAny_bind ?_
    rw [W.kas_first_eq]
    refine wpAny_bind (W.Looks.here (show W.Looks M s.heap (typeOf (.ref a)) o.cls from (W.Looks.ld ho).andThen .now) ?_)
    rw [hc, if_neg (by first | decide | simp)]
    refine wpAny_bind (listItems_at ho hd (wpAny_pure ?_))
    rw [hf]
    exact wpAny_bind (firsts_opt vs fs (Q := fun bs s' => wpAny M A (pure (f :: bs)) Q E s') ⟨by have := t.1; simpa using this, fun j v f h1 h2 => t.2 (j + 1) v f (by simpa using h1) (by simpa using h2)⟩ (wpAny_pure h))
def mixK (fs : List (Option Value)) : SortKind := if (fs.toArray[0]?.bind id).isSome = true then general' else oneType'
/-- some of the tuples are empty -/
theorem kind_mixed {vs : List Value} {fs : List (Option Value)} {Q : SortKind → Shared → Prop} (t : vs.length = fs.length ∧ ∀ (j : Nat) (v : Value) (f : Option Value), vs[j]? = some v → fs[j]? = some f → ∃ a o xs n, v = .ref a ∧ s.heap.get? a = some o ∧ o.cls = .type "tuple" ∧ o.data = .seq xs n ∧ xs[0]? = f)
    (hne : fs ≠ []) (hno : fs.all (·.isSome) = false) (h : Q (mixK fs) s) : wpAny M A (keyKind' vs.toArray) Q E s := by
  unfold mixK at h
  rw [kat_kind_eq, List.mapM_toArray, map_eq_pure_bind]
  refine wpAny_bind (wpAny_bind (firsts_opt vs fs t (wpAny_pure ?_)))
  have hall : (fs.toArray.all fun x => x.isSome) = false := by rw [List.all_toArray]; exact hno
  rw [if_neg (by rw [hall]; simp)]
  cases hf : (fs.toArray[0]?.bind id).isSome with
  | true =>
    rw [hf, if_pos rfl] at h
    rw [if_pos rfl]
    exact wpAny_pure h
  | false =>
    rw [hf, if_neg (by simp)] at h
    rw [if_neg (by simp)]
    have hty : ∀ v ∈ vs, W.Looks M s.heap (typeOf v) (.type "tuple") := fun v hv => by
      obtain ⟨j, hj, e⟩ := List.mem_iff_getElem.mp hv
      have hj2 : j < fs.length := by rw [← t.1]; exact hj
      obtain ⟨a, o, xs, n, rfl, ho, hc, _, _⟩ := t.2 j v fs[j] (by rw [List.getElem?_eq_getElem hj, e]) (List.getElem?_eq_getElem hj2)
      rw [← hc]
      exact (W.Looks.ld ho).andThen .now
    obtain ⟨v1, vr, rfl⟩ : ∃ v1 vr, vs = v1 :: vr := by
      cases vs with
      | nil => exact absurd (List.length_eq_zero_iff.mp (by have := t.1; simpa using this.symm)) hne
      | cons v1 vr => exact ⟨v1, vr, rfl⟩
    rw [oneTypeOnly'_eq, List.mapM_toArray, map_eq_pure_bind]
    refine wpAny_bind (wpAny_bind (wpAny_bind (W.kas_mapM (r := .type "tuple") _ (fun v hv Q' hq => (hty v hv).here hq) (wpAny_pure ?_))))
    have hall2 : ((List.map (fun _ => Value.type "tuple") (v1 :: vr)).toArray.all fun x => x == Value.type "tuple") = true := by
      simp only [List.all_toArray, List.all_map, List.all_eq_true]
      intro _ _
      rfl
    have h0 : (List.map (fun _ => Value.type "tuple") (v1 :: vr)).toArray[0]? = some (Value.type "tuple") := by simp
    rw [h0]
    show wpAny M A (pure (if _ then some (Value.type "tuple") else none) >>= _) _ _ s
    rw [if_pos hall2]
    refine wpAny_pure ?_
    refine wpAny_bind (wpAny_pure ?_)
    show wpAny M A (pure oneType') Q E s
    exact wpAny_pure h
end
end Sh
namespace Sh
open PySem PySem.Spec PyProof.Rows
/-! ### sorted(data) -/
def itemsP : PyData → List PyData
  | .tuple xs => xs
  | _ => []
def isTupP : PyData → Bool
  | .tuple _ => true
  | _ => false
def allPairs (f : PyData → PyData → Bool) (ps : List PyData) : Bool := ps.all fun p => ps.all fun q => f p q
/-- A: tuples whose first places are of one type; B: tuples of one order; C: texts -/
def sortOkA (ps : List PyData) : Bool := match ps with
  | p :: _ => ps.all (fun q => isTupP q && decide (((itemsP q).head?.map tagP) = ((itemsP p).head?.map tagP)) && (itemsP q).head?.isSome) && allPairs (fun p q => lazyL (itemsP p) (itemsP q)) ps
  | [] => true
def sortOkB (ps : List PyData) : Bool := ps.all isTupP && ps.any (fun q => (itemsP q).head?.isNone) && allPairs (fun p q => fullL (itemsP p) (itemsP q)) ps
def sortOkC (ps : List PyData) : Bool := ps.all fun p => match p with | .str _ => true | _ => false
def sortOk (ps : List PyData) : Bool := decide (ps.length < 2) || sortOkA ps || sortOkB ps || sortOkC ps
open Classical in
/-- a value's key at a heap -/
noncomputable def keyV (h : Heap) (v : Value) : List Int := if q : ∃ p as, Reads h v p as then enc q.choose else []
theorem keyV_eq {h : Heap} {v : Value} {p : PyData} {as : List Addr} (r : Reads h v p as) : keyV h v = enc p := by
  have q : ∃ p as, Reads h v p as := ⟨p, as, r⟩
  unfold keyV
  rw [dif_pos q]
  obtain ⟨bs, r2⟩ := q.choose_spec
  rw [(PySem.Reads.unique r2 p as r).1]
theorem swo_key (h : Heap) : SrtO.Swo fun v u => ltZ (keyV h v) (keyV h u) := ⟨fun x y q => ltZ_asym q, fun x y z h1 h2 => ltZ_tr h2 h1⟩
theorem allPairs_at {f : PyData → PyData → Bool} {ps : List PyData} (h : allPairs f ps = true) {p q : PyData} (hp : p ∈ ps) (hq : q ∈ ps) : f p q = true := List.all_eq_true.mp (List.all_eq_true.mp h p hp) q hq
structure Readable (h : Heap) (vs : List Value) (ps : List PyData) : Prop where
  len : vs.length = ps.length
  at_ : ∀ (j : Nat) (v : Value), vs[j]? = some v → ∃ p as, ps[j]? = some p ∧ Reads h v p as
  lay : ∀ p ∈ ps, p.canLay0 = true
  ord : ∀ p ∈ ps, ordK p = true
  dep : ∀ p ∈ ps, p.depth ≤ 60
theorem Readable.keeps {h h' : Heap} {vs : List Value} {ps : List PyData} (r : Readable h vs ps) (k : ∀ b o, h.get? b = some o → h'.get? b = some o) : Readable h' vs ps :=
  ⟨r.len, fun j v e => let ⟨p, as, e1, e2⟩ := r.at_ j v e; ⟨p, as, e1, Reads.keeps k e2⟩, r.lay, r.ord, r.dep⟩
theorem Readable.mem {h : Heap} {vs : List Value} {ps : List PyData} (r : Readable h vs ps) {v : Value} (hv : v ∈ vs) : ∃ p as, p ∈ ps ∧ Reads h v p as := by
  obtain ⟨j, hj, e⟩ := List.mem_iff_getElem.mp hv
  obtain ⟨p, as, e1, e2⟩ := r.at_ j v (by rw [List.getElem?_eq_getElem hj, e])
  exact ⟨p, as, List.mem_of_getElem? e1, e2⟩
theorem ordKL_mem : ∀ {xs : List PyData} {x : PyData}, ordKL xs = true → x ∈ xs → ordK x = true
  | [], _, _, h => by simp at h
  | y :: ys, x, h, hm => by
    unfold ordKL at h
    simp only [Bool.and_eq_true] at h
    rcases List.mem_cons.mp hm with e | hm
    · rw [e]; exact h.1
    · exact ordKL_mem h.2 hm
section
variable {prog : Program} {w : World} {A : Around} {s : Shared}
theorem data_sortable {h0 : Heap} {a : Addr} {vs : List Value} {ps : List PyData} (h2 : 2 ≤ vs.length) (hu : A.units + 64 < cLine) (R : Readable h0 vs ps) (ok : sortOk ps = true) (hk : ∀ h' : Heap, (∀ b o, b ≠ a → s.heap.get? b = some o → h'.get? b = some o) → ∀ b o, h0.get? b = some o → h'.get? b = some o) :
    SrtO.SortableO prog w A s a vs fun v u => ltZ (keyV h0 v) (keyV h0 u) := by
  intro h' keep
  have K := hk h' keep
  have R' := R.keeps K
  -- two of them, their keys
  have two : ∀ v ∈ vs, ∃ p as, p ∈ ps ∧ Reads h' v p as ∧ keyV h0 v = enc p := fun v hv => by
    obtain ⟨p, as, hp, r⟩ := R.mem hv
    exact ⟨p, as, hp, Reads.keeps K r, keyV_eq r⟩
  have ltk : ∀ {p q : PyData} {b : Bool}, p ∈ ps → q ∈ ps → ltP p q = some b → (ltP p q).getD false = ltZ (enc p) (enc q) := fun {p q b} hp hq e => by
    rw [e]
    exact ltP_enc p q b (R.ord p hp) (R.ord q hq) e
  unfold sortOk at ok
  simp only [Bool.or_eq_true, decide_eq_true_eq] at ok
  rcases ok with ((ok | ok) | ok) | ok
  · have := R.len; omega
  · -- A
    obtain ⟨p0, pr, e0⟩ : ∃ p0 pr, ps = p0 :: pr := by
      cases ps with
      | nil => have := R.len; simp at this; subst this; simp at h2
      | cons p0 pr => exact ⟨_, _, rfl⟩
    unfold sortOkA at ok
    rw [e0] at ok
    simp only [Bool.and_eq_true] at ok
    rw [← e0] at ok
    obtain ⟨ok1, ok2⟩ := ok
    have each : ∀ q ∈ ps, ∃ y ys, q = .tuple (y :: ys) ∧ some (tagP y) = (itemsP p0).head?.map tagP := fun q hq => by
      have := List.all_eq_true.mp ok1 q hq
      simp only [Bool.and_eq_true, decide_eq_true_eq] at this
      obtain ⟨⟨t1, t2⟩, t3⟩ := this
      cases q <;> try cases t1
      rename_i xs
      cases xs with
      | nil => cases t3
      | cons y ys => exact ⟨y, ys, rfl, t2⟩
    obtain ⟨T, hT⟩ : ∃ T, (itemsP p0).head?.map tagP = some T := by
      obtain ⟨y, ys, e, t⟩ := each p0 (by rw [e0]; exact List.mem_cons_self)
      exact ⟨_, t.symm⟩
    have tups : ∀ (us : List Value) (qs : List PyData), us.length = qs.length → (∀ q ∈ qs, q ∈ ps) → (∀ (j : Nat) (v : Value), us[j]? = some v → ∃ p as, qs[j]? = some p ∧ Reads h' v p as) → ∃ fs, fs.length = us.length ∧ W.KatTups h' us fs ∧ ∀ f ∈ fs, ∀ M : Model, W.Looks M h' (typeOf f) (.type T) := fun us => by
      induction us with
      | nil => intro qs _ _ _; exact ⟨[], rfl, W.KatTups.nil, fun f hf => by simp at hf⟩
      | cons u us ih =>
        intro qs hl hq hr
        cases qs with
        | nil => simp at hl
        | cons q qs =>
          obtain ⟨fs, l, t, lk⟩ := ih qs (by simpa using hl) (fun z hz => hq z (List.mem_cons_of_mem _ hz)) (fun j v e => by simpa using hr (j + 1) v (by simpa using e))
          obtain ⟨p, as, e1, r⟩ := hr 0 u rfl
          simp at e1; subst e1
          obtain ⟨y, ys, rfl, ty⟩ := each _ (hq _ List.mem_cons_self)
          have hly := R.lay _ (hq _ List.mem_cons_self)
          cases r with
          | @tuple ad o ws n _ as' f1 f2 f3 f4 =>
            obtain ⟨ws⟩ := ws
            cases f4 with
            | @cons v ws' _ _ as1 as2 ry rys =>
              have hly : (y.canLay0 && PyData.canLayAll0 ys) = true := hly
              simp only [Bool.and_eq_true] at hly
              refine ⟨v :: fs, by simp [l], W.KatTups.cons f1 f2 f3 (by simp) t, fun f hf M => ?_⟩
              rcases List.mem_cons.mp hf with e | hf
              · subst e
                have : T = tagP y := by rw [hT] at ty; exact (Option.some.inj ty).symm
                rw [this]
                exact tag_looks ry hly.1
              · exact lk f hf M
    obtain ⟨fs, lf, tf, hl⟩ := tups vs ps R.len (fun q h => h) R'.at_
    refine ⟨tuples' (Value.type T != Value.type "tuple"), fun Q E hq => PySem.W.kat_kind tf (by omega) (fun v hv => hl v hv _) (by simp) hq, fun pv qv hpv hqv => ?_⟩
    obtain ⟨p, as, hp, rp, kp⟩ := two _ hpv
    obtain ⟨q, bs, hq, rq, kq⟩ := two _ hqv
    have lz := allPairs_at ok2 hp hq
    have hlp := R.lay p hp
    have hlq := R.lay q hq
    have hdp := R.dep p hp
    obtain ⟨y, ys, rfl, ty⟩ := each p hp
    obtain ⟨z, zs, rfl, tz⟩ := each q hq
    obtain ⟨b, hb⟩ := lazy_lt _ _ lz
    have hb : ltPL (y :: ys) (z :: zs) = some b := hb
    have kk := ltk hp hq (show ltP (.tuple (y :: ys)) (.tuple (z :: zs)) = some b from hb)
    show wpAny (model prog w) A (keyLt' (tuples' _) pv.1 qv.1) (fun r s' => s' = _ ∧ r = ltZ (keyV h0 pv.1) (keyV h0 qv.1)) (fun _ _ => False) _
    rw [kp, kq, ← kk]
    generalize pv.1 = v at rp
    generalize qv.1 = u at rq
    cases rp with
    | @tuple ad o ws n _ as' f1 f2 f3 f4 =>
      cases rq with
      | @tuple ad2 o2 ws2 n2 _ bs' g1 g2 g3 g4 =>
        obtain ⟨l1, _⟩ := readsAll_at f4
        obtain ⟨l2, _⟩ := readsAll_at g4
        refine PySem.W.kat_lt f1 f3 g1 g3 (kat_lazy (y :: ys) (z :: zs) 0 _ _ _ _ f4 g4 hlp hlq ?_ (fun hf _ x r t ex => ?_) lz ?_ ⟨rfl, rfl⟩)
        · have : PyData.depthAll (y :: ys) + 1 ≤ 60 := hdp
          omega
        · injection ex with ex _
          subst ex
          intro e
          rw [hT, e] at ty
          cases ty
          simp [tagP] at hf
        · have : ws.size = (y :: ys).length := by simpa using l1
          have : ws2.size = (z :: zs).length := by simpa using l2
          simp [*]
  · -- B
    unfold sortOkB at ok
    simp only [Bool.and_eq_true] at ok
    obtain ⟨⟨ok1, ok2⟩, ok3⟩ := ok
    have each : ∀ q ∈ ps, ∃ ys, q = .tuple ys := fun q hq => by
      have := List.all_eq_true.mp ok1 q hq
      cases q <;> first | exact ⟨_, rfl⟩ | cases this
    -- the first places
    have tups : ∀ (us : List Value) (qs : List PyData), us.length = qs.length → (∀ q ∈ qs, q ∈ ps) → (∀ (j : Nat) (v : Value), us[j]? = some v → ∃ p as, qs[j]? = some p ∧ Reads h' v p as) → ∃ fs : List (Option Value), fs.length = us.length ∧ (∀ (j : Nat) (v : Value) (f : Option Value), us[j]? = some v → fs[j]? = some f → ∃ a o xs n, v = .ref a ∧ h'.get? a = some o ∧ o.cls = .type "tuple" ∧ o.data = .seq xs n ∧ xs[0]? = f) ∧ ∀ (j : Nat) (f : Option Value) (q : PyData), fs[j]? = some f → qs[j]? = some q → f.isSome = (itemsP q).head?.isSome := fun us => by
      induction us with
      | nil => intro qs hl _ _; exact ⟨[], rfl, fun j v f h => by simp at h, fun j f q h => by simp at h⟩
      | cons u us ih =>
        intro qs hl hq hr
        cases qs with
        | nil => simp at hl
        | cons q qs =>
          obtain ⟨fs, l, t, lk⟩ := ih qs (by simpa using hl) (fun z hz => hq z (List.mem_cons_of_mem _ hz)) (fun j v e => by simpa using hr (j + 1) v (by simpa using e))
          obtain ⟨p, as, e1, r⟩ := hr 0 u rfl
          simp at e1; subst e1
          obtain ⟨ys, rfl⟩ := each _ (hq _ List.mem_cons_self)
          cases r with
          | @tuple ad o ws n _ as' f1 f2 f3 f4 =>
            obtain ⟨l4, _⟩ := readsAll_at f4
            refine ⟨ws[0]? :: fs, by simp [l], fun j v f h1 h2 => ?_, fun j f q h1 h2 => ?_⟩
            · cases j with
              | zero => simp at h1 h2; subst h1 h2; exact ⟨ad, o, ws, n, rfl, f1, f2, f3, rfl⟩
              | succ j => exact t j v f (by simpa using h1) (by simpa using h2)
            · cases j with
              | zero =>
                simp at h1 h2; subst h1 h2
                have l4 : ws.size = ys.length := by simpa using l4
                show (ws[0]?).isSome = ys.head?.isSome
                cases ys with
                | nil => have : ws.size = 0 := l4; simp [this]
                | cons y ys => have : 0 < ws.size := by rw [l4]; simp
                               simp [this]
              | succ j => exact lk j f q (by simpa using h1) (by simpa using h2)
    obtain ⟨fs, lf, tf, hl⟩ := tups vs ps R.len (fun q h => h) R'.at_
    have hno : fs.all (·.isSome) = false := by
      obtain ⟨q, hq, e⟩ := List.any_eq_true.mp ok2
      obtain ⟨j, hj, ej⟩ := List.mem_iff_getElem.mp hq
      have hj2 : j < fs.length := by rw [lf, R.len]; exact hj
      have := hl j fs[j] q (List.getElem?_eq_getElem hj2) (by rw [List.getElem?_eq_getElem hj, ej])
      rw [List.all_eq_false]
      refine ⟨fs[j], List.getElem_mem hj2, ?_⟩
      rw [this]
      cases h : (itemsP q).head? with
      | none => simp
      | some x => rw [h] at e; simp at e
    have kinds : ∃ κ, (κ = general' ∨ κ = oneType') ∧ ∀ (Q : SortKind → Shared → Prop) (E : Value → Shared → Prop), Q κ { s with heap := h' } → wpAny (model prog w) A (keyKind' vs.toArray) Q E { s with heap := h' } := by
      refine ⟨mixK fs, ?_, fun Q E hq => kind_mixed ⟨lf.symm, tf⟩ (fun e => by rw [e] at lf; simp at lf; omega) hno hq⟩
      unfold mixK
      split
      · exact .inl rfl
      · exact .inr rfl
    obtain ⟨κ, hκ, hkind⟩ := kinds
    refine ⟨κ, hkind, fun pv qv hpv hqv => ?_⟩
    obtain ⟨p, as, hp, rp, kp⟩ := two _ hpv
    obtain ⟨q, bs, hq, rq, kq⟩ := two _ hqv
    have fl := allPairs_at ok3 hp hq
    have hlp := R.lay p hp
    have hlq := R.lay q hq
    have hdp := R.dep p hp
    obtain ⟨ys, rfl⟩ := each p hp
    obtain ⟨zs, rfl⟩ := each q hq
    obtain ⟨b, hb⟩ := fullL_lt _ _ fl
    have kk := ltk hp hq (show ltP (.tuple ys) (.tuple zs) = some b from hb)
    show wpAny (model prog w) A (keyLt' κ pv.1 qv.1) (fun r s' => s' = _ ∧ r = ltZ (keyV h0 pv.1) (keyV h0 qv.1)) (fun _ _ => False) _
    rw [kp, kq, ← kk]
    rcases hκ with rfl | rfl
    · show wpAny (model prog w) A (oneLt' false pv.1 qv.1) _ _ _
      exact one_lt (fun h => by cases h) rp rq hlp hlq (by omega) fl ⟨rfl, rfl⟩
    · show wpAny (model prog w) A (oneLt' true pv.1 qv.1) _ _ _
      rw [oneLt'_eq]
      simp only [if_true]
      refine wpAny_bind (wpAny_cRoomFor (by omega) ?_)
      have ty : Shared.TypeIs { s with heap := h' } pv.1 "tuple" := by
        generalize pv.1 = v at rp
        cases rp with
        | tuple f1 f2 f3 f4 => exact ⟨_, f1, f2⟩
      have hd : PyData.depthAll ys + 1 ≤ 60 := hdp
      refine wpAny_bind (wpAny_callSpecialIfBound?_slot ty F.slot_tuple_lt (tup_lt rp rq hlp hlq (by omega) fl ?_))
      exact wpAny_truthy_bool ⟨rfl, rfl⟩
  · -- C
    have each : ∀ q ∈ ps, ∃ z, q = .str z := fun q hq => by
      have := List.all_eq_true.mp ok q hq
      cases q <;> first | exact ⟨_, rfl⟩ | cases this
    have strsA : ∀ (us : List Value) (qs : List PyData), us.length = qs.length → (∀ q ∈ qs, q ∈ ps) → (∀ (j : Nat) (v : Value), us[j]? = some v → ∃ p as, qs[j]? = some p ∧ Reads h' v p as) → ∃ ss, StrsAre us ss := fun us => by
      induction us with
      | nil => intro qs _ _ _; exact ⟨[], .nil⟩
      | cons u us ih =>
        intro qs hl hq hr
        cases qs with
        | nil => simp at hl
        | cons q qs =>
          obtain ⟨ss, h⟩ := ih qs (by simpa using hl) (fun z hz => hq z (List.mem_cons_of_mem _ hz)) (fun j v e => by simpa using hr (j + 1) v (by simpa using e))
          obtain ⟨p, as, e1, r⟩ := hr 0 u rfl
          simp at e1; subst e1
          obtain ⟨z, rfl⟩ := each _ (hq _ List.mem_cons_self)
          cases r with
          | str x t => exact ⟨_ :: ss, .cons _ t h⟩
    obtain ⟨ss, hss⟩ := strsA vs ps R.len (fun q h => h) R'.at_
    obtain ⟨v1, v2, vr, ev⟩ : ∃ v1 v2 vr, vs = v1 :: v2 :: vr := by
      match vs, h2 with
      | [], h => simp at h
      | [_], h => simp at h
      | v1 :: v2 :: vr, _ => exact ⟨v1, v2, vr, rfl⟩
    refine ⟨oneType', fun Q E hq => ?_, fun pv qv hpv hqv => ?_⟩
    · rw [ev] at hss ⊢
      rw [keyKind_strs hss]
      exact wpAny_pure hq
    obtain ⟨p, as, hp, rp, kp⟩ := two _ hpv
    obtain ⟨q, bs, hq, rq, kq⟩ := two _ hqv
    have hlp := R.lay p hp
    have hlq := R.lay q hq
    have hdp := R.dep p hp
    obtain ⟨y, rfl⟩ := each p hp
    obtain ⟨z, rfl⟩ := each q hq
    have kk := ltk hp hq (b := ltS y z) rfl
    show wpAny (model prog w) A (oneLt' true pv.1 qv.1) (fun r s' => s' = _ ∧ r = ltZ (keyV h0 pv.1) (keyV h0 qv.1)) (fun _ _ => False) _
    rw [kp, kq, ← kk]
    exact one_lt (fun _ t e => by cases e) rp rq hlp hlq (by omega) rfl ⟨rfl, rfl⟩
end
end Sh
namespace Sh
open PySem PySem.Spec PyProof.Rows L2
theorem stb_merge {α : Type} {lt : α → α → Bool} (O : SrtO.Swo lt) (l : List α) : SrtO.Srtd lt (l.mergeSort fun a b => !lt b a) ∧ SrtO.Stb lt (l.mergeSort fun a b => !lt b a) l := by
  have tr : ∀ a b c : α, (!lt b a) = true → (!lt c b) = true → (!lt c a) = true := fun a b c h1 h2 => by
    rw [Bool.not_eq_true'] at *
    exact O.tr a b c h1 h2
  have tot : ∀ a b : α, ((!lt b a) || (!lt a b)) = true := fun a b => by
    cases h : lt b a with
    | false => rfl
    | true => rw [O.asym b a h]; rfl
  have srt := List.pairwise_mergeSort (le := fun a b => !lt b a) tr tot l
  refine ⟨srt.imp fun h => by simpa using h, List.mergeSort_perm l _, fun x => ?_⟩
  have all : ∀ m : List α, (∀ a ∈ m, SrtO.eqv lt x a = true) → m.Pairwise fun a b => (!lt b a) = true := fun m => by
    induction m with
    | nil => intro _; exact .nil
    | cons a m ih =>
      intro h
      refine .cons (fun b hb => ?_) (ih fun b hb => h b (List.mem_cons_of_mem _ hb))
      have h1 := SrtO.eqv_iff.mp (h a List.mem_cons_self)
      have h2 := SrtO.eqv_iff.mp (h b (List.mem_cons_of_mem _ hb))
      rw [O.tr a x b h1.1 h2.2]
      rfl
  have pc := all (l.filter (SrtO.eqv lt x)) fun a ha => (List.mem_filter.mp ha).2
  have sub := List.sublist_mergeSort (le := fun a b => !lt b a) tr tot pc List.filter_sublist
  have sub2 := sub.filter (SrtO.eqv lt x)
  rw [List.filter_filter] at sub2
  simp only [Bool.and_self] at sub2
  exact (sub2.eq_of_length ((List.mergeSort_perm l _).filter _).length_eq.symm).symm
def keyD (d : D) : List Int := match d.py with
  | some p => enc p
  | none => []
/-- the list in order -/
def sortO (ds : List D) : List D := ds.mergeSort fun a b => !ltZ (keyD b) (keyD a)
abbrev leE {α : Type} (f : α → List Int) : α → α → Bool := fun a b => !ltZ (f b) (f a)
def rSortD (K : PySem.W.Frag) : List V → Hp → VK → Prop := fun xs H Q => ∃ (l : Addr) (us : List V) (ps : List PyData), xs = [.ref l] ∧ SqL K H l us ∧ DpAll K H us ps ∧ (∀ p ∈ ps, p.canLay0 = true ∧ ordK p = true ∧ p.depth ≤ 60) ∧ sortOk ps = true ∧
  ∀ p, H p = none → Q (.ref p) (upd H p (.lst (((ps.zip us).mergeSort (leE fun t => enc t.1)).map (·.2))))
theorem dpAll_reads {X : Cx} {pins : List (Addr × Obj)} {σ : L2.St} {H : Hp} {s : Shared} (I : Inv X pins σ H s) : ∀ {us : List V} {ps : List PyData} {vs : List Value}, DpAll X.K H us ps → Vals us vs → vs.length = ps.length ∧ ∀ (j : Nat) (v : Value), vs[j]? = some v → ∃ p as, ps[j]? = some p ∧ Reads s.heap v p as
  | _, _, _, .nil, .nil => ⟨rfl, fun j v h => by simp at h⟩
  | _, _, _, .cons d r, .cons h t => by
    obtain ⟨l, f⟩ := dpAll_reads I r t
    refine ⟨by simp [l], fun j v e => ?_⟩
    cases j with
    | zero =>
      simp at e; subst e
      obtain ⟨as, q⟩ := Dp.reads I _ _ _ d h
      exact ⟨_, as, rfl, q⟩
    | succ j => simpa using f j v (by simpa using e)
theorem vals_of_pairs : ∀ {L : List (V × Value)}, (∀ t ∈ L, RelV t.1 t.2) → Vals (L.map (·.1)) (L.map (·.2))
  | [], _ => .nil
  | t :: L, h => .cons (h t List.mem_cons_self) (vals_of_pairs fun t' h' => h t' (List.mem_cons_of_mem _ h'))
theorem vals_zip : ∀ {us : List V} {vs : List Value}, Vals us vs → (us.zip vs).map (·.1) = us ∧ (us.zip vs).map (·.2) = vs ∧ ∀ t ∈ us.zip vs, RelV t.1 t.2
  | _, _, .nil => ⟨rfl, rfl, fun t h => by simp at h⟩
  | _, _, .cons h t => by
    obtain ⟨a, b, c⟩ := vals_zip t
    refine ⟨by rw [List.zip_cons_cons, List.map_cons, a], by rw [List.zip_cons_cons, List.map_cons, b], fun t' h' => ?_⟩
    rcases List.mem_cons.mp h' with e | h'
    · rw [e]; exact h
    · exact c t' h'
theorem cr_sortD {X : Cx} (hu : X.A.units + 70 < cLine) : CallR X (.builtin "sorted") (rSortD X.K) := fun pins s σ H xs us Q I r h => by
  obtain ⟨l, ys, ps, rfl, hq, hd, hps, ok, k⟩ := h
  cases r with
  | cons r0 rr =>
    cases rr
    cases r0
    obtain ⟨its, rv, pl, hz⟩ := I.list hq
    obtain ⟨l1, f1⟩ := dpAll_reads I hd rv
    have R : Readable s.heap its ps := ⟨l1, f1, fun p hp => (hps p hp).1, fun p hp => (hps p hp).2.1, fun p hp => (hps p hp).2.2⟩
    have O := swo_key s.heap
    have hzi : its.length ≤ sizeLine := by rw [← rv.length]; exact hz
    refine SrtO.sorted_ord (ltv := fun v u => ltZ (keyV s.heap v) (keyV s.heap u)) O (by simpa using pl.isList) hzi (fun h2 h1 a ha kk => ?_) fun out hs hb => ?_
    · exact data_sortable (h0 := s.heap) h2 (by show X.A.units + 1 + 1 + 64 < cLine; omega) R ok fun h' keep b o e => keep b o (kk b o e).1 (kk b o e).2
    · -- the model's list is the merge sort's
      let lt2 : V × Value → V × Value → Bool := fun a b => ltZ (keyV s.heap a.2) (keyV s.heap b.2)
      have O2 : SrtO.Swo lt2 := ⟨fun a b h => O.asym _ _ h, fun a b c h1 h2 => O.tr _ _ _ h1 h2⟩
      obtain ⟨z1, z2, z3⟩ := vals_zip rv
      obtain ⟨m1, m2⟩ := stb_merge O2 (ys.zip its)
      have m3 := SrtO.Stb.map (lt := fun v u => ltZ (keyV s.heap v) (keyV s.heap u)) O (fun t : V × Value => t.2) m2
      rw [z2] at m3
      have m4 : SrtO.Srtd (fun v u => ltZ (keyV s.heap v) (keyV s.heap u)) (((ys.zip its).mergeSort fun a b => !lt2 b a).map (·.2)) := SrtO.srtd_map m1
      have e : out = ((ys.zip its).mergeSort fun a b => !lt2 b a).map (·.2) := SrtO.stb_uniq O hs m4 ⟨hb.perm.trans m3.perm.symm, fun x => (hb.cls x).trans (m3.cls x).symm⟩
      -- the values in order
      have ev : ((ps.zip ys).mergeSort (leE fun t => enc t.1)).map (·.2) = ((ys.zip its).mergeSort fun a b => !lt2 b a).map (·.1) := by
        -- three side by side
        let L3 : List (PyData × V × Value) := ps.zip (ys.zip its)
        have hl1 : ps.length = ys.length := by rw [← l1, ← rv.length]
        have hl2 : (ys.zip its).length = ys.length := by rw [List.length_zip, ← rv.length, Nat.min_self]
        have f1' : L3.map (fun t => (t.1, t.2.1)) = ps.zip ys := by
          have : L3.map (fun t => (t.1, t.2.1)) = (ps.zip (ys.zip its)).map (Prod.map id Prod.fst) := rfl
          rw [this, ← List.zip_map_right]; exact congrArg _ z1
        have f2' : L3.map (fun t => t.2) = ys.zip its := List.map_snd_zip (by omega)
        have key : ∀ t ∈ L3, enc t.1 = keyV s.heap t.2.2 := fun t ht => by
          obtain ⟨j, hj, e⟩ := List.mem_iff_getElem.mp ht
          have e' : L3[j]? = some t := by rw [List.getElem?_eq_getElem hj, e]
          rw [List.getElem?_zip_eq_some] at e'
          have e2 := List.getElem?_zip_eq_some.mp e'.2
          obtain ⟨p, as, ep, rp⟩ := f1 j t.2.2 e2.2
          rw [e'.1] at ep
          cases ep
          exact (keyV_eq rp).symm
        have g1 := List.map_mergeSort (r := leE fun t : PyData × V × Value => enc t.1) (s := leE fun t : PyData × V => enc t.1) (f := fun t : PyData × V × Value => (t.1, t.2.1)) (l := L3) (fun a _ b _ => rfl)
        have g2 := List.map_mergeSort (r := leE fun t : PyData × V × Value => enc t.1) (s := fun a b : V × Value => !lt2 b a) (f := fun t : PyData × V × Value => t.2) (l := L3) (fun a ha b hb => by
          show (!ltZ (enc b.1) (enc a.1)) = !ltZ (keyV s.heap b.2.2) (keyV s.heap a.2.2)
          rw [key a ha, key b hb])
        rw [f1'] at g1
        rw [f2'] at g2
        rw [← g1, ← g2, List.map_map, List.map_map]
        rfl
      have vv : Vals (((ps.zip ys).mergeSort (leE fun t => enc t.1)).map (·.2)) out := by
        rw [ev, e]
        exact vals_of_pairs fun t ht => z3 t ((List.mergeSort_perm _ _).mem_iff.mp ht)
      have kept : ∀ b o, s.heap.get? b = some o → (sortedAll s.heap its out.toArray).get? b = some o := fun b o e => sortedAll_old e
      refine ⟨.ref (s.heap.objs.size + 1), _, I.laid (t' := s.toks) (o := .lst (((ps.zip ys).mergeSort (leE fun t => enc t.1)).map (·.2))) kept (Nat.le_succ _) ?_, rfl, k _ (I.hok.fresh (Nat.le_succ _))⟩
      obtain ⟨n, at_⟩ := sortedAll_at s.heap its out.toArray
      have hlen : (((ps.zip ys).mergeSort (leE fun t => enc t.1)).map (·.2)).length ≤ sizeLine := by
        rw [List.length_map, List.length_mergeSort, List.length_zip]
        exact Nat.le_trans (Nat.min_le_right _ _) hz
      exact ⟨hlen, out, n, vv, at_⟩
end Sh
namespace Sh
open PySem PySem.Spec PyProof.Rows
section
variable {prog : Program} {w : World} {A : Around} {E : Value → Shared → Prop} {s : Shared}
/-- the heap behind the gathering of vs into a new list -/
abbrev gathered (h : Heap) (vs : List Value) : Heap := (h.push (seqObj "list" #[] 0)).update h.objs.size (Obj.mapSeq (· ++ vs.toArray))
theorem gather_tuple {l : Addr} {vs : List Value} {Q : List Value → Shared → Prop} (hl : s.heap.IsTuple l vs.toArray) (h : Q vs { s with heap := gathered s.heap vs }) (hz : vs.length ≤ sizeLine) : wpAny (model prog w) A (collect (.ref l)) Q E s := by
  obtain ⟨o, ho, hc, n, hd⟩ := id hl
  have new : (s.heap.push (seqObj "list" #[] 0)).get? s.heap.objs.size = some (seqObj "list" #[] 0) := Heap.get?_push_size _ rfl
  have ho1 : (s.heap.push (seqObj "list" #[] 0)).get? l = some o := Heap.get?_push_of_some _ ho
  unfold collect
  refine wpAny_bind (wpAny_runValue (codeAny_builtin entry_proto_collect' ?_))
  refine wpAny_bind (m := newList []) (wpAny_newList (wpAny_pure ⟨Code.quiet_builtin _ (by decide +kernel), codeAny_builtin entry_list_iadd' ?_⟩))
  show wpAny (model prog w) _ (Builtin.List.listExtendWith (.ref s.heap.objs.size) (.ref l) (.ref s.heap.objs.size)) _ _ { s with heap := s.heap.push (seqObj "list" #[] 0) }
  unfold Builtin.List.listExtendWith
  refine wpAny_bind (wpAny_typeOf (T := "tuple") ⟨o, ho1, hc⟩ ?_)
  have ty : (Value.type "tuple" == Value.type "tuple") = true := rfl
  rw [if_pos (by rw [ty]; simp)]
  refine wpAny_bind (listItems_at ho1 hd (wpAny_bind (listItems_at (xs := #[]) (n := 0) new rfl ?_)))
  rw [if_neg (by simp)]
  refine wpAny_bind (listUpdate_at (xs := #[]) (n := 0) new rfl (wpAny_pure ?_) (Nat.zero_le _) (by show (#[] ++ vs.toArray).size ≤ sizeLine + 1; simp; omega))
  refine wpAny_bind (m := load s.heap.objs.size) (wpAny_load (get?_update_seq new _) ?_)
  show wpAny (model prog w) A (pure ((#[] : Array Value) ++ vs.toArray).toList) Q E _
  rw [show ((#[] : Array Value) ++ vs.toArray).toList = vs by simp]
  exact wpAny_pure h
/-- sorted(t), t a tuple -/
theorem sorted_tuple {l : Addr} {vs : List Value} {ltv : Value → Value → Bool} {Q : Value → Shared → Prop} (O : SrtO.Swo ltv) (hl : s.heap.IsTuple l vs.toArray) (hz : vs.length ≤ sizeLine)
    (hS : 2 ≤ vs.length → ∀ (h₁ : Heap) (a : Addr), h₁.get? a = some (seqObj "list" vs.toArray 0) → (∀ b o, s.heap.get? b = some o → b ≠ a ∧ h₁.get? b = some o) → SrtO.SortableO prog w A.in1.in1 { s with heap := h₁ } a vs ltv)
    (h : ∀ out : List Value, SrtO.Srtd ltv out → SrtO.Stb ltv out vs → Q (.ref (s.heap.objs.size + 1)) { s with heap := sortedAll s.heap vs out.toArray }) :
    wpAny (model prog w) A (call (.builtin "sorted") [.ref l]) Q E s := by
  refine Calls.call_function_entry kind_sorted plain_sorted entry_sorted (args_sorted1 _) ?_
  unfold Builtin.«sorted»
  refine wpAny_bind (m := checkCount "sorted" 1 1 _) (wpAny_pure (wpAny_bind (gather_tuple hl (wpAny_bind (wpAny_newList ?_ hz)) hz)))
  have size2 : (gathered s.heap vs).objs.size = s.heap.objs.size + 1 := by rw [Heap.size_update, size_push']
  have at_ : ((gathered s.heap vs).push (seqObj "list" vs.toArray 0)).get? (s.heap.objs.size + 1) = some (seqObj "list" vs.toArray 0) := by rw [← size2]; exact Heap.get?_push_size _ rfl
  have stay : ∀ b o, s.heap.get? b = some o → b ≠ s.heap.objs.size + 1 ∧ ((gathered s.heap vs).push (seqObj "list" vs.toArray 0)).get? b = some o := fun b o q => by
    have lt : b < s.heap.objs.size := Heap.lt_size q
    exact ⟨Nat.ne_of_lt (Nat.lt_succ_of_lt lt), Heap.get?_push_of_some _ ((Heap.get?_update_ne _ _ _ _ (Nat.ne_of_lt lt)).trans (Heap.get?_push_of_some _ q))⟩
  show wpAny (model prog w) _ _ _ _ { s with heap := (gathered s.heap vs).push (seqObj "list" vs.toArray 0) }
  rw [size2]
  refine wpAny_bind (wpAny_holding (wpAny_call_entry slot_list_sort ⟨_, at_, rfl⟩ entry_list_sort (SrtO.list_sort_ord O at_ hz (fun h2 => hS h2 _ _ at_ stay) fun out a b => ⟨_, rfl, ?_⟩) (args_list_sort _)))
  exact wpAny_pure ⟨_, rfl, h out a b⟩
end
open L2
def rSortT (K : PySem.W.Frag) : List V → Hp → VK → Prop := fun xs H Q => ∃ (l : Addr) (us : List V) (ps : List PyData), xs = [.ref l] ∧ SqT K H l us ∧ DpAll K H us ps ∧ (∀ p ∈ ps, p.canLay0 = true ∧ ordK p = true ∧ p.depth ≤ 60) ∧ sortOk ps = true ∧
  ∀ p, H p = none → Q (.ref p) (upd H p (.lst (((ps.zip us).mergeSort (leE fun t => enc t.1)).map (·.2))))
theorem cr_sortT {X : Cx} (hu : X.A.units + 70 < cLine) : CallR X (.builtin "sorted") (rSortT X.K) := fun pins s σ H xs us Q I r h => by
  obtain ⟨l, ys, ps, rfl, hq, hd, hps, ok, k⟩ := h
  cases r with
  | cons r0 rr =>
    cases rr
    cases r0
    obtain ⟨its, rv, pl, hz⟩ := I.tuple hq
    obtain ⟨l1, f1⟩ := dpAll_reads I hd rv
    have R : Readable s.heap its ps := ⟨l1, f1, fun p hp => (hps p hp).1, fun p hp => (hps p hp).2.1, fun p hp => (hps p hp).2.2⟩
    have O := swo_key s.heap
    have hzi : its.length ≤ sizeLine := by rw [← rv.length]; exact hz
    refine sorted_tuple (ltv := fun v u => ltZ (keyV s.heap v) (keyV s.heap u)) O pl hzi (fun h2 h1 a ha kk => ?_) fun out hs hb => ?_
    · exact data_sortable (h0 := s.heap) h2 (by show X.A.units + 1 + 1 + 64 < cLine; omega) R ok fun h' keep b o e => keep b o (kk b o e).1 (kk b o e).2
    · -- the model's list is the merge sort's
      let lt2 : V × Value → V × Value → Bool := fun a b => ltZ (keyV s.heap a.2) (keyV s.heap b.2)
      have O2 : SrtO.Swo lt2 := ⟨fun a b h => O.asym _ _ h, fun a b c h1 h2 => O.tr _ _ _ h1 h2⟩
      obtain ⟨z1, z2, z3⟩ := vals_zip rv
      obtain ⟨m1, m2⟩ := stb_merge O2 (ys.zip its)
      have m3 := SrtO.Stb.map (lt := fun v u => ltZ (keyV s.heap v) (keyV s.heap u)) O (fun t : V × Value => t.2) m2
      rw [z2] at m3
      have m4 : SrtO.Srtd (fun v u => ltZ (keyV s.heap v) (keyV s.heap u)) (((ys.zip its).mergeSort fun a b => !lt2 b a).map (·.2)) := SrtO.srtd_map m1
      have e : out = ((ys.zip its).mergeSort fun a b => !lt2 b a).map (·.2) := SrtO.stb_uniq O hs m4 ⟨hb.perm.trans m3.perm.symm, fun x => (hb.cls x).trans (m3.cls x).symm⟩
      -- the values in order
      have ev : ((ps.zip ys).mergeSort (leE fun t => enc t.1)).map (·.2) = ((ys.zip its).mergeSort fun a b => !lt2 b a).map (·.1) := by
        -- three side by side
        let L3 : List (PyData × V × Value) := ps.zip (ys.zip its)
        have hl1 : ps.length = ys.length := by rw [← l1, ← rv.length]
        have hl2 : (ys.zip its).length = ys.length := by rw [List.length_zip, ← rv.length, Nat.min_self]
        have f1' : L3.map (fun t => (t.1, t.2.1)) = ps.zip ys := by
          have : L3.map (fun t => (t.1, t.2.1)) = (ps.zip (ys.zip its)).map (Prod.map id Prod.fst) := rfl
          rw [this, ← List.zip_map_right]; exact congrArg _ z1
        have f2' : L3.map (fun t => t.2) = ys.zip its := List.map_snd_zip (by omega)
        have key : ∀ t ∈ L3, enc t.1 = keyV s.heap t.2.2 := fun t ht => by
          obtain ⟨j, hj, e⟩ := List.mem_iff_getElem.mp ht
          have e' : L3[j]? = some t := by rw [List.getElem?_eq_getElem hj, e]
          rw [List.getElem?_zip_eq_some] at e'
          have e2 := List.getElem?_zip_eq_some.mp e'.2
          obtain ⟨p, as, ep, rp⟩ := f1 j t.2.2 e2.2
          rw [e'.1] at ep
          cases ep
          exact (keyV_eq rp).symm
        have g1 := List.map_mergeSort (r := leE fun t : PyData × V × Value => enc t.1) (s := leE fun t : PyData × V => enc t.1) (f := fun t : PyData × V × Value => (t.1, t.2.1)) (l := L3) (fun a _ b _ => rfl)
        have g2 := List.map_mergeSort (r := leE fun t : PyData × V × Value => enc t.1) (s := fun a b : V × Value => !lt2 b a) (f := fun t : PyData × V × Value => t.2) (l := L3) (fun a ha b hb => by
          show (!ltZ (enc b.1) (enc a.1)) = !ltZ (keyV s.heap b.2.2) (keyV s.heap a.2.2)
          rw [key a ha, key b hb])
        rw [f1'] at g1
        rw [f2'] at g2
        rw [← g1, ← g2, List.map_map, List.map_map]
        rfl
      have vv : Vals (((ps.zip ys).mergeSort (leE fun t => enc t.1)).map (·.2)) out := by
        rw [ev, e]
        exact vals_of_pairs fun t ht => z3 t ((List.mergeSort_perm _ _).mem_iff.mp ht)
      have kept : ∀ b o, s.heap.get? b = some o → (sortedAll s.heap its out.toArray).get? b = some o := fun b o e => sortedAll_old e
      refine ⟨.ref (s.heap.objs.size + 1), _, I.laid (t' := s.toks) (o := .lst (((ps.zip ys).mergeSort (leE fun t => enc t.1)).map (·.2))) kept (Nat.le_succ _) ?_, rfl, k _ (I.hok.fresh (Nat.le_succ _))⟩
      obtain ⟨n, at_⟩ := sortedAll_at s.heap its out.toArray
      have hlen : (((ps.zip ys).mergeSort (leE fun t => enc t.1)).map (·.2)).length ≤ sizeLine := by
        rw [List.length_map, List.length_mergeSort, List.length_zip]
        exact Nat.le_trans (Nat.min_le_right _ _) hz
      exact ⟨hlen, out, n, vv, at_⟩

/-! ### sorted, as a word -/
theorem rpl_pairs {G : Gs} {μ : List Addr} {F : Hp} : ∀ {L : List (D × V)}, (∀ t ∈ L, Rp G μ F t.1 t.2) → RpL G μ F (L.map (·.1)) (L.map (·.2))
  | [], _ => rfl
  | t :: L, h => ⟨_, _, rfl, h t List.mem_cons_self, rpl_pairs fun t' h' => h t' (List.mem_cons_of_mem _ h')⟩
theorem pairs_rpl {G : Gs} {μ : List Addr} {F : Hp} : ∀ {ds : List D} {us : List V}, RpL G μ F ds us → (ds.zip us).map (·.1) = ds ∧ (ds.zip us).map (·.2) = us ∧ ∀ t ∈ ds.zip us, Rp G μ F t.1 t.2
  | [], _, h => by have e : _ = _ := h; subst e; exact ⟨rfl, rfl, fun t h => by simp at h⟩
  | d :: ds, _, h => by
    obtain ⟨v, r, rfl, h1, h2⟩ := h
    obtain ⟨a, b, c⟩ := pairs_rpl h2
    refine ⟨by rw [List.zip_cons_cons, List.map_cons, a], by rw [List.zip_cons_cons, List.map_cons, b], fun t h' => ?_⟩
    rcases List.mem_cons.mp h' with e | h'
    · rw [e]; exact h1
    · exact c t h'
theorem pyL_at : ∀ {ds : List D} {ps : List PyData}, pyL ds = some ps → ps.length = ds.length ∧ ∀ (j : Nat) (d : D), ds[j]? = some d → ∃ p, ps[j]? = some p ∧ d.py = some p
  | [], ps, e => by cases e; exact ⟨rfl, fun j d h => by simp at h⟩
  | d :: ds, ps, e => by
    unfold pyL at e
    cases e1 : d.py with
    | none => rw [e1] at e; cases e
    | some p =>
      cases e2 : pyL ds with
      | none => rw [e1, e2] at e; cases e
      | some qs =>
        rw [e1, e2] at e
        cases e
        obtain ⟨l, f⟩ := pyL_at e2
        refine ⟨by simp [l], fun j d' h => ?_⟩
        cases j with
        | zero => simp at h; subst h; exact ⟨p, rfl, e1⟩
        | succ j => simpa using f j d' (by simpa using h)
theorem sortO_len {ds : List D} : (sortO ds).length = ds.length := List.length_mergeSort _
/-- the values' order is the data's -/
theorem rpl_sortO {G : Gs} {μ : List Addr} {F : Hp} {ds : List D} {us : List V} {ps : List PyData} (e : pyL ds = some ps) (r : RpL G μ F ds us) : RpL G μ F (sortO ds) (((ps.zip us).mergeSort (leE fun t => enc t.1)).map (·.2)) := by
  obtain ⟨z1, z2, z3⟩ := pairs_rpl r
  obtain ⟨l1, f1⟩ := pyL_at e
  have hl := rpl_len r
  let L := ds.zip us
  have key : ∀ t ∈ L, ∃ p, t.1.py = some p := fun t ht => by
    obtain ⟨j, hj, ej⟩ := List.mem_iff_getElem.mp ht
    have e' : L[j]? = some t := by rw [List.getElem?_eq_getElem hj, ej]
    obtain ⟨p, _, ep⟩ := f1 j t.1 (List.getElem?_zip_eq_some.mp e').1
    exact ⟨p, ep⟩
  have f2 : L.map (fun t => ((t.1.py).getD .none, t.2)) = ps.zip us := by
    have e1 : L.map (fun t => ((t.1.py).getD .none, t.2)) = (ds.zip us).map (Prod.map (fun d : D => (d.py).getD .none) id) := rfl
    rw [e1, ← List.zip_map_left]
    congr 1
    apply List.ext_getElem?
    intro j
    rw [List.getElem?_map]
    cases hd : ds[j]? with
    | none => rw [List.getElem?_eq_none (by rw [l1]; exact List.getElem?_eq_none_iff.mp hd)]; rfl
    | some d =>
      obtain ⟨p, h1, h2⟩ := f1 j d hd
      rw [h1]
      show some ((d.py).getD .none) = some p
      rw [h2]
      rfl
  have g1 := List.map_mergeSort (r := leE fun t : D × V => keyD t.1) (s := fun a b : D => !ltZ (keyD b) (keyD a)) (f := fun t : D × V => t.1) (l := L) (fun a _ b _ => rfl)
  have g2 := List.map_mergeSort (r := leE fun t : D × V => keyD t.1) (s := leE fun t : PyData × V => enc t.1) (f := fun t : D × V => ((t.1.py).getD .none, t.2)) (l := L) (fun a ha b hb => by
    obtain ⟨p, hp⟩ := key a ha
    obtain ⟨q, hq⟩ := key b hb
    show (!ltZ (keyD b.1) (keyD a.1)) = !ltZ (enc ((b.1.py).getD .none)) (enc ((a.1.py).getD .none))
    unfold keyD
    rw [hp, hq]
    rfl)
  rw [z1] at g1
  rw [f2] at g2
  have a1 : sortO ds = (L.mergeSort (leE fun t : D × V => keyD t.1)).map (·.1) := g1.symm
  rw [a1, ← g2, List.map_map]
  exact rpl_pairs fun t ht => z3 t ((List.mergeSort_perm _ _).mem_iff.mp ht)
def sortable (ps : List PyData) : Bool := (ps.all fun p => ordK p && decide (p.depth ≤ 60)) && sortOk ps
def sortItems (ds : List D) : M D := match pyL ds with
  | some ps => if sortable ps = true then pure (.lst (sortO ds)) else M.bad
  | none => M.bad
/-- sorted(x), x a list, a tuple, a dict of texts -/
def sortedX (x : D) : M D := do
  let y ← view x
  match y with
  | .lst ds => sortItems ds
  | .tup ds => sortItems ds
  | .dic kvs => sortedD (.dic kvs)
  | _ => M.bad
theorem sortItems_gives {ds : List D} {st : Sto} {P : D → Sto → Prop} (h : (sortItems ds).gives st P) : ∃ ps, pyL ds = some ps ∧ sortable ps = true ∧ P (.lst (sortO ds)) st := by
  unfold sortItems at h
  cases e : pyL ds with
  | none => rw [e] at h; exact h.elim
  | some ps =>
    rw [e] at h
    simp only at h
    obtain ⟨a, b⟩ := ite_gives h
    exact ⟨ps, rfl, a, b⟩
theorem sortable_at {ps : List PyData} (h : sortable ps = true) (l : PyData.canLayAll0 ps = true) : (∀ p ∈ ps, p.canLay0 = true ∧ ordK p = true ∧ p.depth ≤ 60) ∧ sortOk ps = true := by
  unfold sortable at h
  simp only [Bool.and_eq_true] at h
  refine ⟨fun p hp => ?_, h.2⟩
  have := List.all_eq_true.mp h.1 p hp
  simp only [Bool.and_eq_true, decide_eq_true_eq] at this
  obtain ⟨j, hj, e⟩ := List.mem_iff_getElem.mp hp
  exact ⟨(layAll_at l (show ps[j]? = some p by rw [List.getElem?_eq_getElem hj, e])).1, this⟩
def rSortX (K : PySem.W.Frag) : List V → Hp → VK → Prop := fun xs H Q => rSortA K xs H Q ∨ rSortD K xs H Q ∨ rSortT K xs H Q
theorem cr_sortX {X : Cx} (hc : X.calm = true) (hu : X.A.units + 70 < cLine) : CallR X (.builtin "sorted") (rSortX X.K) := fun pins s σ H xs us Q I r h => by
  rcases h with h | h | h
  · exact cr_sortA hc pins s σ H xs us Q I r h
  · exact cr_sortD hu pins s σ H xs us Q I r h
  · exact cr_sortT hu pins s σ H xs us Q I r h
section
variable {cl : String → Option Addr} {md : List Md} {X : Cx} {ka : Kd}
theorem o1_sortX : Op1 (gs X cl) ka .fre (rSortX X.K) sortedX := fun μ F H H0 st d v Q s r w => by
  unfold sortedX at w
  rw [M.gives_bind] at w
  obtain ⟨d', vr, w⟩ := view_gives s r w
  have done : ∀ (ds : List D) (us : List V) (ps : List PyData), pyL ds = some ps → RpL (gs X cl) μ F ds us → (Want (gs X cl) .fre μ F H Q) (.lst (sortO ds)) st → ds.length ≤ sizeLine → ∀ p, H p = none → Q (.ref p) (upd H p (.lst (((ps.zip us).mergeSort (leE fun t => enc t.1)).map (·.2)))) := fun ds us ps e rl w z p hp => by
    obtain ⟨p2, s2, r2⟩ := new_lst Post.refl s (rpl_sortO e rl) hp (by rw [sortO_len]; exact z)
    exact w _ _ _ _ p2 s2 r2
  cases d' <;> try exact w.elim
  · rename_i ds
    obtain ⟨ps, e, ok, w⟩ := sortItems_gives w
    obtain ⟨a, us, rfl, hq, rl, z⟩ := vr_lst s.sub vr
    obtain ⟨dp, ly⟩ := rpl_dp s.sub ds ps us e rl
    obtain ⟨o1, o2⟩ := sortable_at ok ly
    exact .inr (.inl ⟨a, us, ps, rfl, .inl (.inl hq), dp, o1, o2, done ds us ps e rl w z⟩)
  · rename_i ds
    obtain ⟨ps, e, ok, w⟩ := sortItems_gives w
    obtain ⟨z, a, us, rfl, hq, rl⟩ := vr_tup vr
    obtain ⟨dp, ly⟩ := rpl_dp s.sub ds ps us e rl
    obtain ⟨o1, o2⟩ := sortable_at ok ly
    exact .inr (.inr ⟨a, us, ps, rfl, s.sub.seqT hq, dp, o1, o2, done ds us ps e rl w z⟩)
  · rename_i kvs
    have w : M.gives (match strsOf (keysOf kvs) with
      | some bs => if bs.length < 64 then pure (.lst ((sortS bs).map .str)) else M.bad
      | none => M.bad) st (Want (gs X cl) .fre μ F H Q) := w
    obtain ⟨z, a, L, rfl, hq, rl⟩ := vr_dic s.sub vr
    cases e : strsOf (keysOf kvs) with
    | none => simp only [e] at w; exact w.elim
    | some bs =>
      simp only [e] at w
      obtain ⟨h64, w⟩ := ite_gives w
      obtain ⟨ev, ok⟩ := rpk_strs e rl
      refine .inl (.inr ⟨a, L, bs, rfl, .inl hq, ev, h64, fun ys p hp hs hn => ?_⟩)
      rw [sortS_eq hp hs]
      obtain ⟨p2, s2, r2⟩ := new_lst .refl s (rpl_ofS (bs := sortS bs) fun s hs => ok s (List.mem_mergeSort.mp hs)) hn (by rw [List.length_map]; unfold sortS; rw [List.length_mergeSort]; exact small64 h64)
      exact w _ _ _ _ p2 s2 r2
end
end Sh
namespace Sh
open PySem PySem.Spec PyProof.Rows L2
/-! ### more is frozen at once -/
section
variable {G : Gs} {μ : List Addr} {F F2 H H2 : Hp} {st : Sto}
theorem StOk.more (s : StOk G μ F H st) (h1 : Sub F F2) (h2 : Sub F2 H2) (h3 : ∀ b o, H b = some o → H2 b = some o) (h4 : ∀ b o, F2 b = some o → F b = some o ∨ H b = none) : StOk G μ F2 H2 st := by
  have no : ∀ {b : Addr} {o : HO}, H b = some o → F b = none → F2 b = none := fun {b o} e f => by
    cases q : F2 b with
    | none => rfl
    | some u =>
      rcases h4 b u q with z | z
      · rw [f] at z; cases z
      · rw [e] at z; cases z
  refine ⟨h2, s.len, s.nd, fun l a d hl hd => ?_⟩
  have q := s.obj l a d hl hd
  cases d <;> try exact q.elim
  · obtain ⟨f, z, vs, e, r⟩ := q
    exact ⟨no e f, z, vs, h3 _ _ e, RpL.mono (Ext.refl _) h1 _ _ r⟩
  · obtain ⟨f, z, L, e, r⟩ := q
    exact ⟨no e f, z, L, h3 _ _ e, RpK.mono (Ext.refl _) h1 _ _ r⟩
  · obtain ⟨f, C, dx, fv, e1, e2, n2, f2, c, r⟩ := q
    exact ⟨no e1 f, C, dx, fv, h3 _ _ e1, h3 _ _ e2, n2, no e2 f2, c, RpF.mono (Ext.refl _) h1 _ _ r⟩
  · obtain ⟨f, z, L, e, r⟩ := q
    exact ⟨no e f, z, L, h3 _ _ e, RpE.mono (Ext.refl _) h1 _ _ r⟩
theorem Post.more {μ0 : List Addr} {F0 H0 : Hp} (p : Post μ0 F0 H0 μ F H) (h1 : Sub F F2) (h3 : ∀ b o, H b = some o → H2 b = some o) (h4 : ∀ b o, F2 b = some o → F b = some o ∨ H b = none) : Post μ0 F0 H0 μ F2 H2 :=
  ⟨p.subF.trans h1, fun b o e => by
    rcases h4 b o e with z | z
    · exact p.new b o z
    · exact .inr (p.free z), fun b o e n => h3 _ _ (p.keep b o e n), p.ext, fun b o e => by
    obtain ⟨o', e'⟩ := p.there b o e
    exact ⟨o', h3 _ _ e'⟩⟩
end

/-! ### sorted(d.items()) -/
def keyPd : Key → PyData
  | .inl i => .int i
  | .inr s => .str s
/-- pairs of keys and data -/
inductive PairsP (K : PySem.W.Frag) (H : Hp) : List (Key × V) → List PyData → Prop
  | nil : PairsP K H [] []
  | cons {k : Key} {v : V} {p : PyData} {kvs : List (Key × V)} {ps : List PyData} : Dp K H v p → PairsP K H kvs ps → PairsP K H ((k, v) :: kvs) (.tuple [keyPd k, p] :: ps)
theorem PairsP.at_ {K : PySem.W.Frag} {H : Hp} : ∀ {kvs : List (Key × V)} {ps : List PyData}, PairsP K H kvs ps → kvs.length = ps.length ∧ ∀ (j : Nat) (k : Key) (v : V), kvs[j]? = some (k, v) → ∃ p, ps[j]? = some (.tuple [keyPd k, p]) ∧ Dp K H v p
  | _, _, .nil => ⟨rfl, fun j k v h => by simp at h⟩
  | _, _, .cons d r => by
    obtain ⟨l, f⟩ := r.at_
    refine ⟨by simp [l], fun j k v h => ?_⟩
    cases j with
    | zero => simp at h; obtain ⟨rfl, rfl⟩ := h; exact ⟨_, rfl, d⟩
    | succ j => simpa using f j k v (by simpa using h)
theorem kReads {h : Heap} {k : Key} {u : Value} (e : keyIs k u = true) : Reads h u (keyPd k) [] := by
  rcases keyIs_shape e with ⟨i, t, rfl, rfl⟩ | ⟨x, t, rfl, rfl⟩
  · exact .int i t
  · exact .str x t
def rSortItems (K : PySem.W.Frag) : V → Hp → VK → Prop := fun x H Q => ∃ (d : Addr) (kvs : List (Key × V)) (ps : List PyData), x = .ref d ∧ H d = some (.dK kvs) ∧ PairsP K H kvs ps ∧ (∀ p ∈ ps, p.canLay0 = true ∧ ordK p = true ∧ p.depth ≤ 60) ∧ sortOk ps = true ∧
  ∀ (H' : Hp) (l : Addr) (as : List Addr), (∀ b o, H b = some o → H' b = some o) → H l = none → (∀ t ∈ as, H t = none) → l ∉ as → as.length = kvs.length → as.Nodup → (∀ (j : Nat) (t : Addr) (k : Key) (v : V), as[j]? = some t → kvs[j]? = some (k, v) → H' t = some (.tup [kV k, v])) →
    H' l = some (.lst (((ps.zip (as.map V.ref)).mergeSort (leE fun t => enc t.1)).map (·.2))) → Q (.ref l) H'
theorem out_eq {h0 : Heap} {its out : List Value} {us : List V} {ps : List PyData} (R : Readable h0 its ps) (rv : Vals us its) (hs : SrtO.Srtd (fun v u => ltZ (keyV h0 v) (keyV h0 u)) out) (hb : SrtO.Stb (fun v u => ltZ (keyV h0 v) (keyV h0 u)) out its) : Vals (((ps.zip us).mergeSort (leE fun t => enc t.1)).map (·.2)) out := by
  have O := swo_key h0
  have l1 := R.len
  have f1 := R.at_
  let lt2 : V × Value → V × Value → Bool := fun a b => ltZ (keyV h0 a.2) (keyV h0 b.2)
  have O2 : SrtO.Swo lt2 := ⟨fun a b h => O.asym _ _ h, fun a b c h1 h2 => O.tr _ _ _ h1 h2⟩
  obtain ⟨z1, z2, z3⟩ := vals_zip rv
  obtain ⟨m1, m2⟩ := stb_merge O2 (us.zip its)
  have m3 := SrtO.Stb.map (lt := fun v u => ltZ (keyV h0 v) (keyV h0 u)) O (fun t : V × Value => t.2) m2
  rw [z2] at m3
  have m4 : SrtO.Srtd (fun v u => ltZ (keyV h0 v) (keyV h0 u)) (((us.zip its).mergeSort fun a b => !lt2 b a).map (·.2)) := SrtO.srtd_map m1
  have e : out = ((us.zip its).mergeSort fun a b => !lt2 b a).map (·.2) := SrtO.stb_uniq O hs m4 ⟨hb.perm.trans m3.perm.symm, fun x => (hb.cls x).trans (m3.cls x).symm⟩
  -- the values in order
  have ev : ((ps.zip us).mergeSort (leE fun t => enc t.1)).map (·.2) = ((us.zip its).mergeSort fun a b => !lt2 b a).map (·.1) := by
    -- three side by side
    let L3 : List (PyData × V × Value) := ps.zip (us.zip its)
    have hl1 : ps.length = us.length := by rw [← l1, ← rv.length]
    have hl2 : (us.zip its).length = us.length := by rw [List.length_zip, ← rv.length, Nat.min_self]
    have f1' : L3.map (fun t => (t.1, t.2.1)) = ps.zip us := by
      have : L3.map (fun t => (t.1, t.2.1)) = (ps.zip (us.zip its)).map (Prod.map id Prod.fst) := rfl
      rw [this, ← List.zip_map_right]; exact congrArg _ z1
    have f2' : L3.map (fun t => t.2) = us.zip its := List.map_snd_zip (by omega)
    have key : ∀ t ∈ L3, enc t.1 = keyV h0 t.2.2 := fun t ht => by
      obtain ⟨j, hj, e⟩ := List.mem_iff_getElem.mp ht
      have e' : L3[j]? = some t := by rw [List.getElem?_eq_getElem hj, e]
      rw [List.getElem?_zip_eq_some] at e'
      have e2 := List.getElem?_zip_eq_some.mp e'.2
      obtain ⟨p, as, ep, rp⟩ := f1 j t.2.2 e2.2
      rw [e'.1] at ep
      cases ep
      exact (keyV_eq rp).symm
    have g1 := List.map_mergeSort (r := leE fun t : PyData × V × Value => enc t.1) (s := leE fun t : PyData × V => enc t.1) (f := fun t : PyData × V × Value => (t.1, t.2.1)) (l := L3) (fun a _ b _ => rfl)
    have g2 := List.map_mergeSort (r := leE fun t : PyData × V × Value => enc t.1) (s := fun a b : V × Value => !lt2 b a) (f := fun t : PyData × V × Value => t.2) (l := L3) (fun a ha b hb => by
      show (!ltZ (enc b.1) (enc a.1)) = !ltZ (keyV h0 b.2.2) (keyV h0 a.2.2)
      rw [key a ha, key b hb])
    rw [f1'] at g1
    rw [f2'] at g2
    rw [← g1, ← g2, List.map_map, List.map_map]
    rfl
  have vv : Vals (((ps.zip us).mergeSort (leE fun t => enc t.1)).map (·.2)) out := by
    rw [ev, e]
    exact vals_of_pairs fun t ht => z3 t ((List.mergeSort_perm _ _).mem_iff.mp ht)
  exact vv
theorem pe_sortItems {X : Cx} {e : Expr} {te : TE} {p apos cpos pos : Pos} (hc : X.calm = true) (hu : X.A.units + 70 < cLine) (he : PE X e te) (hg : Gl X "sorted") (hm : X.mg "sorted" = none) (hbase : attributeBase e "items" X.env (eval e X.env) = eval e X.env := by rfl) (hline : (apos.endLine == cpos.line) = true := by rfl)
    (hs : starEach [.Call (.Attribute e "items" apos) [] [] cpos] X.env = (false, eval (.Call (.Attribute e "items" apos) [] [] cpos) X.env) :: starEach [] X.env := by rfl) :
    PE X (.Call (.Name "sorted" p) [.Call (.Attribute e "items" apos) [] [] cpos] [] pos) (fun σ H Q => te σ H fun x H1 => rSortItems X.K x H1 Q) := by
  refine ⟨fun pins s σ H Q I hq => ?_⟩
  refine Call_ (ld_blt I hg hm (by decide +kernel : bootBuiltins "sorted" = some (.builtin "sorted")) (PyProof.Rows.callWith_builtin1 ?_ hs rfl))
  rw [hs]
  show wpAny _ _ (spliced ((false, eval (.Call (.Attribute e "items" apos) [] [] cpos) X.env) :: backTo pos (starEach [] X.env))) _ _ s
  refine Calls.spliced_cons ?_
  refine wpAny_Call_method (T := "dict") (id := "dict.items") hbase rfl hline F.plainAttrs_dict F.slot_dict_items F.type_dict_items (thn (he.run pins s σ H _ I hq) fun u s1 ⟨x, H1, I1, rx, d, kvs, ps, ex, hd, hp, hps, ok, k⟩ => ?_)
  subst ex
  obtain rfl : u = Value.ref d := rx
  obtain ⟨hz, hs0, vs, kv, hdo⟩ := I1.hok d _ hd
  obtain ⟨ep, o, es, ho, hx, hdat, hkeys, hpairs, hnd⟩ := hdo.dictAt
  have lk : kvs.length = vs.length := Paired.length kv
  have les : es.size = vs.length := by have := hpairs.length; simpa using this
  have I2 : Inv X pins σ H1 { s1 with heap := s1.heap.push { cls := .type "dict_items", data := .fields #[.ref d] } } := I1.kept (t' := s1.toks) fun b ob q => Heap.get?_push_of_some _ q
  refine ⟨hdo.typeIs, hdo.mapOf.noDict, ?_⟩
  refine method_meetsIn F.slot_dict_items F.entry_dict_items rfl (PySem.evalArgs_none ⟨rfl, hdo.typeIs, F.args_dict_items_1 _, _, meets_dict_items (mixKind X.prog X.w) d hs0, ⟨vs, hdo⟩, ?_⟩)
  refine Calls.spliced_nil ?_
  -- the pairs are gathered
  refine DT.sortedI (es := es) (ep := ep) (I1.ok.hd hc) ⟨_, Heap.get?_push_size _ rfl, rfl, rfl⟩ ⟨o, Heap.get?_push_of_some _ ho, hx, hdat⟩ (by omega) fun h1 tk as hk hlt hl hG => ?_
  obtain ⟨pl, pf⟩ := hp.at_
  have nd : as.Nodup := List.Pairwise.imp (fun {a b} (h : a < b) => Nat.ne_of_lt h) hG.rise
  have lenA : as.length = kvs.length := by omega
  let vals := as.map Value.ref
  have atL : (h1.push { cls := .type "list", data := .seq vals.toArray }).get? h1.objs.size = some (seqObj "list" vals.toArray 0) := Heap.get?_push_size _ rfl
  -- what a pair reads as
  have pair : ∀ (j : Nat) (a : Addr), as[j]? = some a → ∃ (k : Key) (v : V) (q : PyData) (key x : Value), kvs[j]? = some (k, v) ∧ ps[j]? = some (.tuple [keyPd k, q]) ∧ Dp X.K H1 v q ∧ keyIs k key = true ∧ RelV v x ∧ h1.get? a = some { cls := .type "tuple", data := .seq #[key, x] } := fun j a hj => by
    obtain ⟨en, e1, e2⟩ := hG.pairs j a hj
    have hj1 : j < kvs.length := by rw [← lenA]; exact (List.getElem?_eq_some_iff.mp hj).1
    have e3 : kvs[j]? = some kvs[j] := List.getElem?_eq_getElem hj1
    obtain ⟨q, g1, g2, g3⟩ := LiI.paired_get kv e3
    obtain ⟨pp, f1, f2⟩ := pf j kvs[j].1 kvs[j].2 e3
    obtain ⟨i1, i2⟩ := hpairs.get? (i := j) (e := en) (k := q.1) (v := q.2) (by simpa using e1) g1
    refine ⟨kvs[j].1, kvs[j].2, pp, en.key, en.val, e3, f1, f2, ?_, by rw [i2]; exact g3, e2⟩
    rw [g2]
    exact i1
  have R : Readable h1 vals ps := by
    refine ⟨by simp [vals]; omega, fun j v hj => ?_, fun p hp => (hps p hp).1, fun p hp => (hps p hp).2.1, fun p hp => (hps p hp).2.2⟩
    have hj' : (as[j]?).map Value.ref = some v := by simpa [vals] using hj
    cases ha : as[j]? with
    | none => rw [ha] at hj'; cases hj'
    | some a =>
      rw [ha] at hj'
      cases hj'
      obtain ⟨k, x, q, key, u, f1, f2, f3, f4, f5, f6⟩ := pair j a ha
      have J : Inv X pins σ H1 { s1 with heap := h1 } := I2.kept (t' := s1.toks) hk
      obtain ⟨bs, r⟩ := Dp.reads J _ _ _ f3 f5
      exact ⟨_, _, f2, .tuple f6 rfl rfl (.cons (kReads f4) (.cons r .nil))⟩
  have O := swo_key h1
  refine wpAny_call_entry slot_list_sort ⟨_, atL, rfl⟩ entry_list_sort (SrtO.list_sort_ord O atL (by simp [vals]; omega) (fun h2 => ?_) fun out hs1 hs2 => ⟨_, rfl, ?_⟩) (args_list_sort _)
  · exact data_sortable (h0 := h1) h2 (by show X.A.units + 1 + 1 + 64 < cLine; omega) R ok fun h' keep b o e => keep b o (Nat.ne_of_lt (Heap.lt_size e)) (Heap.get?_push_of_some _ e)
  · have rv : Vals (as.map V.ref) vals := LiI.vals_refs as
    have vv := out_eq R rv hs1 hs2
    obtain ⟨n, atS⟩ := sortedHeap_at (out := out.toArray) atL
    have keepS : ∀ b ob, h1.get? b = some ob → (sortedHeap (h1.push { cls := .type "list", data := .seq vals.toArray }) h1.objs.size vals out.toArray).get? b = some ob := fun b ob z => by
      have lt := Heap.lt_size z
      rw [sortedHeap_old (Nat.ne_of_lt lt) (by rw [Heap.size_push]; exact Nat.lt_succ_of_lt lt)]
      exact Heap.get?_push_of_some _ z
    generalize sortedHeap (h1.push { cls := .type "list", data := .seq vals.toArray }) h1.objs.size vals out.toArray = hS at atS keepS ⊢
    have new : ∀ t ∈ as, H1 t = none := fun t ht => I2.hok.fresh (Nat.le_of_lt (hG.above t ht))
    have notL : h1.objs.size ∉ as := fun z => Nat.lt_irrefl _ (hG.there z)
    have low : s1.heap.objs.size + 1 < h1.objs.size := by
      have := hlt
      rw [Heap.size_push] at this
      exact this
    have newL : H1 h1.objs.size = none := I2.hok.fresh (by show (s1.heap.push _).objs.size ≤ _; rw [Heap.size_push]; omega)
    have I3 := I2.take (h' := hS) (t' := tk) (it := h1.objs.size) (o := .lst (((ps.zip (as.map V.ref)).mergeSort (leE fun t => enc t.1)).map (·.2))) (fun b ob _ z => keepS b ob (hk b ob z)) (I2.fpOk (by show (s1.heap.push _).objs.size ≤ _; rw [Heap.size_push]; omega) newL) (by
      refine ⟨?_, out, n, vv, atS⟩
      rw [List.length_map, List.length_mergeSort, List.length_zip, List.length_map]
      exact Nat.le_trans (Nat.min_le_right _ _) (by omega))
    obtain ⟨H2, J, g, q⟩ := L2.DX.takeT (h' := hS) (tk := tk) (P := fun a us => ∀ (j : Nat) (k : Key) (v : V), as[j]? = some a → kvs[j]? = some (k, v) → us = [kV k, v]) I2 as _ I3 nd fun a ha => by
      obtain ⟨j, hj, ej⟩ := List.mem_iff_getElem.mp ha
      have ej' : as[j]? = some a := by rw [List.getElem?_eq_getElem hj, ej]
      obtain ⟨k, x, q, key, u, f1, f2, f3, f4, f5, f6⟩ := pair j a ej'
      refine ⟨Nat.le_of_lt (hG.above a ha), by rw [upd_ne (fun z : a = h1.objs.size => notL (z ▸ ha))]; exact new a ha, [kV k, x], fun j' k' v' e1 e2 => ?_, fun H3 => ?_⟩
      · have : j = j' := (List.getElem?_inj hj nd).mp (by rw [ej', e1])
        subst this
        rw [f1] at e2
        cases e2
        rfl
      · exact ⟨by show 2 ≤ sizeLine; decide, [key, u], .cons (relV_key f4) (.cons f5 .nil), ⟨_, keepS _ _ f6, rfl, _, rfl⟩⟩
    have up : ∀ b o, H1 b = some o → H2 b = some o := fun b o z => g b o (by rw [upd_ne (fun w => by rw [w, newL] at z; cases z)]; exact z)
    exact ⟨.ref h1.objs.size, H2, J, rfl, k H2 h1.objs.size as up newL new notL lenA nd (fun j t k v e1 e2 => by
      obtain ⟨us, hus, e3⟩ := q t (List.mem_of_getElem? e1)
      rw [hus j k v e1 e2] at e3
      exact e3) (g _ _ upd_same)⟩

def itemsOf (kvs : List (D × D)) : List D := kvs.map fun p => .tup [p.1, p.2]
/-- sorted(d.items()) -/
def sortItemsD (d : D) : M D := do
  let x ← view d
  match x with
  | .dic kvs => sortItems (itemsOf kvs)
  | _ => M.bad
theorem key_py {k : D} {q : Key} (h : k.key? = some q) : k.py = some (keyPd q) := by
  cases k <;> first | (cases h; rfl) | cases h
theorem pairs_of {G : Gs} {μ : List Addr} {F H : Hp} (hs : Sub F H) : ∀ {kvs : List (D × D)} {L : List (Key × V)} {ps : List PyData}, RpK G μ F kvs L → pyL (itemsOf kvs) = some ps → PairsP G.K H L ps ∧ PyData.canLayAll0 ps = true
  | [], L, ps, r, e => by
    have r : L = [] := r
    subst r
    cases e
    exact ⟨.nil, rfl⟩
  | (k, d) :: kvs, L, ps, r, e => by
    obtain ⟨q, v, L', rfl, h1, h2, h3, h4⟩ := r
    rw [show itemsOf ((k, d) :: kvs) = D.tup [k, d] :: itemsOf kvs from rfl, pyL] at e
    cases ed : d.py with
    | none =>
      have : (D.tup [k, d]).py = none := by unfold D.py pyL pyL; rw [key_py h1, ed]
      rw [this] at e
      cases e
    | some p =>
      have e1 : (D.tup [k, d]).py = some (.tuple [keyPd q, p]) := by unfold D.py pyL pyL pyL; rw [key_py h1, ed]
      cases e2 : pyL (itemsOf kvs) with
      | none => rw [e1, e2] at e; cases e
      | some qs =>
        rw [e1, e2] at e
        cases e
        obtain ⟨a, b⟩ := pairs_of hs h4 e2
        obtain ⟨dp, ly⟩ := rp_dp hs d p v ed h3
        refine ⟨.cons dp a, ?_⟩
        have lk : (keyPd q).canLay0 = true := by
          cases q with
          | inl i => rfl
          | inr s => exact okS_ok (h2 s rfl)
        show ((keyPd q).canLay0 && (p.canLay0 && true) && PyData.canLayAll0 qs) = true
        rw [lk, ly, b]
        rfl
theorem rpk_at {G : Gs} {μ : List Addr} {F : Hp} : ∀ {kvs : List (D × D)} {L : List (Key × V)}, RpK G μ F kvs L → L.length = kvs.length ∧ ∀ (j : Nat) (k d : D), kvs[j]? = some (k, d) → ∃ q v, L[j]? = some (q, v) ∧ Rp G μ F k (kV q) ∧ Rp G μ F d v
  | [], L, r => by have r : L = [] := r; subst r; exact ⟨rfl, fun j k d h => by simp at h⟩
  | (k, d) :: kvs, L, r => by
    obtain ⟨q, v, L', rfl, h1, h2, h3, h4⟩ := r
    obtain ⟨l, f⟩ := rpk_at h4
    refine ⟨by simp [l], fun j k' d' h => ?_⟩
    cases j with
    | zero =>
      simp at h
      obtain ⟨rfl, rfl⟩ := h
      refine ⟨q, v, rfl, ?_, h3⟩
      cases k <;> try cases h1
      · exact rfl
      · exact ⟨rfl, h2 _ rfl⟩
    | succ j => simpa using f j k' d' (by simpa using h)
section
variable {cl : String → Option Addr} {md : List Md} {X : Cx} {ka : Kd}
theorem sk_sortItems {e : Expr} {p apos cpos pos : Pos} {m : Env → M D} (hc : X.calm = true) (hu : X.A.units + 70 < cLine) (hg : Gl X "sorted") (hm : X.mg "sorted" = none) (he : SK cl md X ka e m) (hbase : attributeBase e "items" X.env (eval e X.env) = eval e X.env := by rfl) (hline : (apos.endLine == cpos.line) = true := by rfl)
    (hs : starEach [.Call (.Attribute e "items" apos) [] [] cpos] X.env = (false, eval (.Call (.Attribute e "items" apos) [] [] cpos) X.env) :: starEach [] X.env := by rfl) :
    SK cl md X .fre (.Call (.Name "sorted" p) [.Call (.Attribute e "items" apos) [] [] cpos] [] pos) (e1 sortItemsD m) := PE.mono (pe_sortItems hc hu he hg hm hbase hline hs) fun σ H Q ⟨ρ, μ, F, st, hE, hS, w⟩ => by
  refine ⟨ρ, μ, F, st, hE, hS, ?_⟩
  rw [M.gives_bind] at w
  refine M.gives_mono w fun d st1 w1 v μ1 F1 H1 p1 s1 r1 => ?_
  unfold sortItemsD at w1
  rw [M.gives_bind] at w1
  obtain ⟨d', vr, w1⟩ := view_gives s1 r1 w1
  cases d' <;> try exact w1.elim
  rename_i kvs
  obtain ⟨ps, ep, ok, w1⟩ := sortItems_gives w1
  obtain ⟨z, a, L, rfl, hq, rk⟩ := vr_dic s1.sub vr
  obtain ⟨pp, ly⟩ := pairs_of s1.sub rk ep
  obtain ⟨o1, o2⟩ := sortable_at ok ly
  refine ⟨a, L, ps, rfl, hq, pp, o1, o2, fun H' l as up nl nas lno len nd at_ hl => ?_⟩
  obtain ⟨ll, rf⟩ := rpk_at rk
  classical
  let F2 : Hp := fun b => if b ∈ as then H' b else F1 b
  have off : ∀ b, b ∉ as → F2 b = F1 b := fun b h => if_neg h
  have on : ∀ b, b ∈ as → F2 b = H' b := fun b h => if_pos h
  have h1 : Sub F1 F2 := fun b o e => by
    rw [off b fun hb => by have z := s1.sub _ _ e; rw [nas b hb] at z; cases z]
    exact e
  have h2 : Sub F2 H' := fun b o e => by
    by_cases hb : b ∈ as
    · rw [on b hb] at e; exact e
    · rw [off b hb] at e; exact up _ _ (s1.sub _ _ e)
  have h4 : ∀ b o, F2 b = some o → F1 b = some o ∨ H1 b = none := fun b o e => by
    by_cases hb : b ∈ as
    · exact .inr (nas b hb)
    · rw [off b hb] at e; exact .inl e
  have p2 := p1.more h1 up h4
  have s2 := s1.more h1 h2 up h4
  have rl : RpL (gs X cl) μ1 F2 (itemsOf kvs) (as.map V.ref) := by
    have all : ∀ (kvs : List (D × D)) (as' : List Addr), as'.length = kvs.length → (∀ t ∈ as', t ∈ as) → (∀ (j : Nat) (t : Addr) (k d : D), as'[j]? = some t → kvs[j]? = some (k, d) → ∃ q v, H' t = some (.tup [kV q, v]) ∧ Rp (gs X cl) μ1 F1 k (kV q) ∧ Rp (gs X cl) μ1 F1 d v) → RpL (gs X cl) μ1 F2 (itemsOf kvs) (as'.map V.ref) := fun kvs => by
      induction kvs with
      | nil =>
        intro as' hl _ _
        have : as' = [] := List.length_eq_zero_iff.mp hl
        subst this
        exact rfl
      | cons kd kvs ih =>
        intro as' hl hm hat
        cases as' with
        | nil => simp at hl
        | cons t as' =>
          obtain ⟨q, v, e1, e2, e3⟩ := hat 0 t kd.1 kd.2 rfl rfl
          refine ⟨.ref t, as'.map V.ref, rfl, ⟨by show 2 ≤ sizeLine; decide, t, [kV q, v], rfl, .inl (.inl ?_), ?_⟩, ih as' (by simpa using hl) (fun t ht => hm t (List.mem_cons_of_mem _ ht)) fun j t k d h1 h2 => hat (j + 1) t k d (by simpa using h1) (by simpa using h2)⟩
          · rw [on t (hm t List.mem_cons_self)]; exact e1
          · exact ⟨_, _, rfl, Rp.mono (Ext.refl _) h1 _ _ e2, _, _, rfl, Rp.mono (Ext.refl _) h1 _ _ e3, rfl⟩
    refine all kvs as (by omega) (fun t h => h) fun j t k d e1 e2 => ?_
    obtain ⟨q, v, f1, f2, f3⟩ := rf j k d e2
    exact ⟨q, v, at_ j t q v e1 f1, f2, f3⟩
  have rs := rpl_sortO ep rl
  have fl : F2 l = none := by rw [off l lno]; exact s1.sub.free nl
  refine w1 (.ref l) μ1 F2 H' p2 s2 ⟨l, rfl, p1.free nl, fun C dx fv e => ?_, s1.notin nl, fl, ?_, _, hl, rs⟩
  · rw [hl] at e; cases e
  · rw [sortO_len]
    show (itemsOf kvs).length ≤ sizeLine
    unfold itemsOf
    rw [List.length_map]
    exact z
end
end Sh
namespace Sh
open PySem PySem.Spec PyProof.Rows L2
section
variable {cl : String → Option Addr} {md : List Md} {X : Cx} {ka : Kd} {B : Bs}
/-- for i, x in enumerate(xs): a loop -/
theorem sis_enum {elts : List Expr} {kk : Nat} {tpos : Pos} {x : Expr} {p pos : Pos} {m : Env → M D} (hg : Gl X "enumerate") (hm : X.mg "enumerate" = none) (h : SK cl md X .val x m) (hs : starEach [x] X.env = [(false, eval x X.env)] := by rfl) :
    SIS cl md B X (.Tuple elts kk tpos) (.Call (.Name "enumerate" p) [x] [] pos) (iEnumD m) := PI.mono (pi_enum hg hm (sa_one h hs) hs) fun σ H R ⟨ρ, μ, F, st, hE, hS, w⟩ => by
  refine tkl_one hE hS ?_
  rw [M.gives_bind] at w
  refine M.gives_mono w fun d st1 w1 v μ1 F1 H1 p1 s1 r1 => ?_
  have done : ∀ (ds : List D) (a : Addr) (vs : List V), lstItems d = pure ds → v = .ref a → SqL X.K F1 a vs → RpL (gs X cl) μ1 F1 ds vs → ds.length ≤ sizeLine → ∃ a xs, [v] = [V.ref a] ∧ SqL X.K H1 a xs ∧ R (Ite X.K a) H1 := fun ds a vs e ev hq rl z => by
    rw [e] at w1
    refine ⟨a, vs, by rw [ev], s1.sub.seqL hq, w1 _ (fun μ F H => SqL X.K F a vs ∧ RpL (gs X cl) μ F ds vs) μ1 F1 H1 p1 s1 (it_pairs z (fun μ F H μ' F' H' ⟨h, r⟩ p => ⟨p.subF.seqL h, RpL.mono p.mu p.subF _ _ r⟩) fun μ F H ⟨h, r⟩ s => ⟨s.seqL h, r⟩) (fun _ _ _ _ _ _ ⟨k1, k2⟩ _ _ a b => ⟨a.seqL k1, RpL.mono b a _ _ k2⟩) ⟨hq, rl⟩⟩
  cases d <;> try exact w1.elim
  · obtain ⟨z, a, vs, e, hq, r⟩ := r1
    exact done _ a vs rfl e (.inl (.inl hq)) r z
  · obtain ⟨z, a, vs, e, hq, r⟩ := r1
    exact done _ a vs rfl e hq r z
end
/-! ### == against () -/
def rEqT (K : PySem.W.Frag) : R2 := fun x y H Q => rEqP K false x y H Q ∨ ∃ a b xs, x = .ref a ∧ y = .ref b ∧ SqT K H a xs ∧ SqT K H b [] ∧ Q (.bl xs.isEmpty) H
section
variable {cl : String → Option Addr} {md : List Md} {X : Cx}
theorem op_eqT (hu : X.A.units + 64 < cLine) : OpR X (compareOp .Eq) (rEqT X.K) := by
  intro pins s σ H x y v u Q I rx ry h
  rcases h with h | ⟨a, b, xs, rfl, rfl, ha, hb, q⟩
  · exact op_eqP hu pins s σ H x y v u Q I rx ry h
  · cases rx
    cases ry
    obtain ⟨i1, r1, p1, _⟩ := I.tuple ha
    obtain ⟨i2, r2, p2, _⟩ := I.tuple hb
    cases r2
    have key := SeqAt.RcAt.tuples (A := X.A) (e := fun _ => true) (show s.heap.IsTuple a i1.toArray from p1) (show s.heap.IsTuple b #[] from p2) (by omega) (fun j h1 h2 => by simp at h2) X.prog X.w X.xe (EP X pins σ Q) (by
      refine ⟨.bl xs.isEmpty, H, I, ?_, q⟩
      show _ = Value.bool xs.isEmpty
      have hl := r1.length
      cases xs with
      | nil => cases i1 <;> simp at hl ⊢
      | cons x xs => cases i1 <;> simp at hl ⊢)
    exact key
/-- == against a tuple: by the length, where that is () -/
def eqTB (a b : D) : Option Bool := match a, b with
  | .tup xs, .tup [] => some xs.isEmpty
  | _, _ => eqB a b
def eqTD (a b : D) : M D := do
  let x ← view a
  let y ← view b
  optB id (eqTB x y)
theorem o2_eqT {ka kb : Kd} : Op2 (gs X cl) ka kb .val (rEqT X.K) eqTD := fun μ F H H1 H2 st d e v u Q s r1 r2 w => by
  unfold eqTD at w
  rw [M.gives_bind] at w
  obtain ⟨d', v1, w⟩ := view_gives s r1 w
  rw [M.gives_bind] at w
  obtain ⟨e', v2, w⟩ := view_gives s r2 w
  obtain ⟨k, h, w⟩ := optB_gives w
  have old : eqB d' e' = some k → rEqT X.K v u H Q := fun h => by
    obtain ⟨p, q, e1, e2, hd, ek⟩ := eqB_some h
    obtain ⟨d1, c1⟩ := vr_dp s.sub e1 v1
    obtain ⟨d2, c2⟩ := vr_dp s.sub e2 v2
    exact .inl ⟨p, q, d1, d2, c1, c2, hd, by rw [if_neg Bool.false_ne_true, ek]; exact w _ μ F H .refl s rfl⟩
  unfold eqTB at h
  split at h
  · rename_i xs _
    cases h
    obtain ⟨_, a, vs, rfl, hq, rl⟩ := vr_tup v1
    obtain ⟨_, b, us, rfl, hq2, rl2⟩ := vr_tup v2
    have e : us = [] := rl2
    subst e
    refine .inr ⟨a, b, vs, rfl, rfl, s.sub.seqT hq, s.sub.seqT hq2, ?_⟩
    have hl := rpl_len rl
    have e : vs.isEmpty = xs.isEmpty := by cases vs <;> cases xs <;> simp at hl ⊢
    rw [e]
    exact w _ μ F H .refl s rfl
  · exact old h
end
abbrev eMake (c : String) (f : List D → M D) (dds : List D) (m : Env → M (List D)) : Env → M D := fun ρ => do let ds ← m ρ; makeD c f dds ds
abbrev eMakeK (c : String) (f : List D → M D) (ix : List Nat) (m : Env → M (List D)) : Env → M D := fun ρ => do let ds ← m ρ; makeD c f [] (permL ix ds)
/-- how a def with the one default () binds -/
theorem binds_T {K : PySem.W.Frag} {x qual : Str} {st : Stmt} {f T T0 : Addr} {oc : Value} {od an : Option Addr} {osl : Array (Option Value)} {kV doc pm cdv ct : Value} {ps : List Str} (n j : Nat) (hj : n + (1 - j) = ps.length) (d : DefT K T T0)
    (l : K.lookup f = some ⟨oc, od, .func (PySem.W.fnOf x qual (defArgs st) (defBody st) (defScope st) (.ref T) kV doc pm an cdv ct), osl⟩) (c : PySem.W.codeIn K cdv qual = true) (k : PySem.W.keepIn K (.ref f) = true)
    (h : ∀ (T : Addr) (kV doc pm : Value) (an : Option Addr) (cdv ct : Value) (us its : List Value), us.length = n → its.length = 1 → ∃ k, bindArgs (PySem.W.fnOf x qual (defArgs st) (defBody st) (defScope st) (.ref T) kV doc pm an cdv ct) ⟨us, []⟩ = seqItems? (.ref T) >>= k ∧ k (some its.toArray) = pure (ps.zip (us ++ its.drop j))) :
    ∃ ds, Vals (([V.ref T0] : List V).drop j) ds ∧ Binds K (PySem.W.fnOf x qual (defArgs st) (defBody st) (defScope st) (.ref T) kV doc pm an cdv ct) ps ds := by
  obtain ⟨od1, n1, sl1, e1⟩ := d.t
  have F : FunD K x qual (defArgs st) (defBody st) (defScope st) [V.ref T0] [] f (PySem.W.fnOf x qual (defArgs st) (defBody st) (defScope st) (.ref T) kV doc pm an cdv ct) :=
    ⟨⟨oc, od, .ref T, kV, doc, pm, an, cdv, ct, osl, rfl, l, c, .inr ⟨by simp, T, _, [.ref T0], n1, rfl, e1, rfl, .cons rfl .nil⟩, .inl rfl⟩, k⟩
  exact FunD.binds1 F n j (by simp) hj h
theorem any_T {K : PySem.W.Frag} {cl : String → Option Addr} {T T0 : Addr} (d : DefT K T T0) : RpAny ⟨K, cl⟩ [.tup []] [V.ref T0] := fun μ F => by
  obtain ⟨od, n, sl, e⟩ := d.t0
  exact ⟨_, _, rfl, ⟨Nat.zero_le _, T0, [], rfl, .inr ⟨_, #[], n, e, rfl, rfl, Nat.zero_le _, .nil⟩, rfl⟩, rfl⟩
end Sh
namespace Sh
open PySem PySem.Spec PyProof.Rows L2
/-! ### plain reasoning about mirrors -/
theorem gv_pure {α : Type} {a : α} {st : Sto} {P : α → Sto → Prop} : (Pure.pure a : M α).gives st P ↔ P a st := Iff.rfl
theorem gv_bind {α β : Type} {m : M α} {f : α → M β} {st : Sto} {P : β → Sto → Prop} : (m >>= f).gives st P ↔ m.gives st fun a st' => (f a).gives st' P := by rw [M.gives_bind]
theorem gv_ite {α : Type} {c : Prop} [Decidable c] {a b : M α} {st : Sto} {P : α → Sto → Prop} : (if c then a else b).gives st P ↔ (c → a.gives st P) ∧ (¬ c → b.gives st P) := by
  by_cases h : c <;> simp [h]
theorem gv_guard {α : Type} {c : Prop} [Decidable c] {a : M α} {st : Sto} {P : α → Sto → Prop} : (if c then a else M.bad).gives st P ↔ c ∧ a.gives st P := by
  by_cases h : c
  · simp [h]
  · simp [h, M.gives_bad]
theorem gv_cond {α : Type} {b : Bool} {x y : M α} {st : Sto} {P : α → Sto → Prop} : (if b = true then x else y).gives st P ↔ (b = true → x.gives st P) ∧ (b = false → y.gives st P) := by
  cases b <;> simp
theorem gv_ifS {c : Sh.Env → M Bool} {x y : MS} {ρ : Sh.Env} {st : Sto} {P : Fl × Sh.Env → Sto → Prop} : (ifS c x y ρ).gives st P ↔ (c ρ).gives st fun t st' => (t = true → (x ρ).gives st' P) ∧ (t = false → (y ρ).gives st' P) := by
  unfold ifS
  rw [M.gives_bind]
  simp only [gv_cond]
theorem gv_eIf {c : Sh.Env → M Bool} {x y : Sh.Env → M D} {ρ : Sh.Env} {st : Sto} {P : D → Sto → Prop} : (eIf c x y ρ).gives st P ↔ (c ρ).gives st fun t st' => (t = true → (x ρ).gives st' P) ∧ (t = false → (y ρ).gives st' P) := by
  show M.gives (c ρ >>= _) st P ↔ _
  rw [M.gives_bind]
  simp only [gv_cond]
theorem gv_orB {m n : Sh.Env → M Bool} {ρ : Sh.Env} {st : Sto} {P : Bool → Sto → Prop} : (orB m n ρ).gives st P ↔ (m ρ).gives st fun b st' => (b = true → P true st') ∧ (b = false → (n ρ).gives st' P) := by
  unfold orB
  rw [M.gives_bind]
  simp only [gv_cond, gv_pure]
theorem gv_andB {m n : Sh.Env → M Bool} {ρ : Sh.Env} {st : Sto} {P : Bool → Sto → Prop} : (andB m n ρ).gives st P ↔ (m ρ).gives st fun b st' => (b = true → (n ρ).gives st' P) ∧ (b = false → P false st') := by
  unfold andB
  rw [M.gives_bind]
  simp only [gv_cond, gv_pure]
theorem gv_seq {m n : MS} {ρ : Sh.Env} {st : Sto} {P : Fl × Sh.Env → Sto → Prop} : (seqS m n ρ).gives st P ↔ (m ρ).gives st fun r st' => (match r.1 with | .nx => n r.2 | _ => pure r : M (Fl × Env)).gives st' P := by
  unfold seqS
  (rw [M.gives_bind]) <;> exact Iff.rfl
theorem gv_nx {n : MS} {ρ : Env} {st : Sto} {P : Fl × Env → Sto → Prop} : (match (Fl.nx, ρ).1 with | .nx => n (Fl.nx, ρ).2 | _ => pure (Fl.nx, ρ) : M (Fl × Env)).gives st P ↔ (n ρ).gives st P := Iff.rfl
theorem dget_eq {k d : D} {q : Key} {r : List (D × D)} (h : k.key? = some q) : dgetK ((k, d) :: r) q = some d := by
  unfold dgetK
  rw [List.find?_cons]
  simp [h]
theorem dget_ne {k d : D} {q : Key} {r : List (D × D)} (h : ¬ k.key? = some q) : dgetK ((k, d) :: r) q = dgetK r q := by
  unfold dgetK
  rw [List.find?_cons]
  simp [h]

/-! ### the draws: a law's drawing is the same text everywhere -/
abbrev kW : Str := "wide"
abbrev kC : Str := "cells"
abbrev kR : Str := "rest"
abbrev kT : Str := "turn"
def drw (cs : List D) (r t : Int) : List (D × D) := [(.str kW, .ref 0), (.str kC, .lst cs), (.str kR, .int r), (.str kT, .int t)]
theorem n_wr : kW ≠ kR := by decide +kernel
theorem n_wc : kW ≠ kC := by decide +kernel
theorem n_wt : kW ≠ kT := by decide +kernel
theorem n_cr : kC ≠ kR := by decide +kernel
theorem n_ct : kC ≠ kT := by decide +kernel
theorem n_rt : kR ≠ kT := by decide +kernel
theorem sk_ne {a b : Str} (h : a ≠ b) : ¬ (D.str a).key? = some (.inr b) := fun e => h (by cases e; rfl)
section
variable {cs : List D} {r t : Int}
theorem drw_w : dgetK (drw cs r t) (.inr kW) = some (.ref 0) := dget_eq rfl
theorem drw_c : dgetK (drw cs r t) (.inr kC) = some (.lst cs) := by
  unfold drw
  rw [dget_ne (sk_ne n_wc), dget_eq rfl]
theorem drw_r : dgetK (drw cs r t) (.inr kR) = some (.int r) := by
  unfold drw
  rw [dget_ne (sk_ne n_wr), dget_ne (sk_ne n_cr), dget_eq rfl]
theorem drw_t : dgetK (drw cs r t) (.inr kT) = some (.int t) := by
  unfold drw
  rw [dget_ne (sk_ne n_wt), dget_ne (sk_ne n_ct), dget_ne (sk_ne n_rt), dget_eq rfl]
theorem put_r {x : Int} : dputK (drw cs r t) (.inr kR) (.str kR) (.int x) = drw cs x t := by
  unfold drw dputK
  have h1 := sk_ne n_wr
  have h2 := sk_ne n_cr
  have h3 : ¬ (D.str kT).key? = some (.inr kR) := sk_ne (Ne.symm n_rt)
  have h0 : (D.str kR).key? = some (.inr kR) := rfl
  simp only [List.any_cons, List.any_nil, List.map_cons, List.map_nil, h0, h1, h2, h3, if_true, if_false, decide_true, decide_false, Bool.or_true, Bool.true_or]
theorem put_t {x : Int} : dputK (drw cs r t) (.inr kT) (.str kT) (.int x) = drw cs r x := by
  unfold drw dputK
  have h1 := sk_ne n_wt
  have h2 := sk_ne n_ct
  have h3 := sk_ne n_rt
  have h0 : (D.str kT).key? = some (.inr kT) := rfl
  simp only [List.any_cons, List.any_nil, List.map_cons, List.map_nil, h0, h1, h2, h3, if_true, if_false, decide_true, decide_false, Bool.or_true, Bool.true_or, Bool.false_or]
/-- the state of a drawing; R: what else was laid -/
def dst (ws : List Int) (cs : List D) (r t : Int) (R : Sto) : Sto := .lst (ws.map .int) :: .dic (drw cs r t) :: R
variable {ws : List Int} {R : Sto}
theorem ix_w {P : D → Sto → Prop} : (ixD (.ref 1) (.str kW)).gives (dst ws cs r t R) P ↔ P (.ref 0) (dst ws cs r t R) := by
  show (ofO (dgetK (drw cs r t) (.inr kW))).gives _ _ ↔ _
  rw [drw_w]; exact Iff.rfl
theorem ix_c {P : D → Sto → Prop} : (ixD (.ref 1) (.str kC)).gives (dst ws cs r t R) P ↔ P (.lst cs) (dst ws cs r t R) := by
  show (ofO (dgetK (drw cs r t) (.inr kC))).gives _ _ ↔ _
  rw [drw_c]; exact Iff.rfl
theorem ix_r {P : D → Sto → Prop} : (ixD (.ref 1) (.str kR)).gives (dst ws cs r t R) P ↔ P (.int r) (dst ws cs r t R) := by
  show (ofO (dgetK (drw cs r t) (.inr kR))).gives _ _ ↔ _
  rw [drw_r]; exact Iff.rfl
theorem ix_t {P : D → Sto → Prop} : (ixD (.ref 1) (.str kT)).gives (dst ws cs r t R) P ↔ P (.int t) (dst ws cs r t R) := by
  show (ofO (dgetK (drw cs r t) (.inr kT))).gives _ _ ↔ _
  rw [drw_t]; exact Iff.rfl
theorem pr_r {x : Int} {P : Unit → Sto → Prop} : (putRef (.ref 1) (.str kR) (.int x)).gives (dst ws cs r t R) P ↔ P () (dst ws cs x t R) := by
  have e : putRef (.ref 1) (.str kR) (.int x) (dst ws cs r t R) = .ok () (dst ws cs x t R) := by
    show (match (if (drw cs r t).length < 16777216 then some (D.dic (dputK (drw cs r t) (.inr kR) (.str kR) (.int x))) else none) with
      | some c' => Res.ok () ((dst ws cs r t R).set 1 c')
      | none => Res.bad) = _
    rw [if_pos (by simp [drw]), put_r]
    rfl
  rw [M.gives_ok e]
theorem pr_t {x : Int} {P : Unit → Sto → Prop} : (putRef (.ref 1) (.str kT) (.int x)).gives (dst ws cs r t R) P ↔ P () (dst ws cs r x R) := by
  have e : putRef (.ref 1) (.str kT) (.int x) (dst ws cs r t R) = .ok () (dst ws cs r x R) := by
    show (match (if (drw cs r t).length < 16777216 then some (D.dic (dputK (drw cs r t) (.inr kT) (.str kT) (.int x))) else none) with
      | some c' => Res.ok () ((dst ws cs r t R).set 1 c')
      | none => Res.bad) = _
    rw [if_pos (by simp [drw]), put_t]
    rfl
  rw [M.gives_ok e]
theorem pop_w {w : Int} {P : D → Sto → Prop} : (popRef (.ref 0) (.int 0)).gives (dst (w :: ws) cs r t R) P ↔ P (.int w) (dst ws cs r t R) := by
  have e : popRef (.ref 0) (.int 0) (dst (w :: ws) cs r t R) = .ok (.int w) (dst ws cs r t R) := by
    show (match (match seqIndex? 0 (((w :: ws).map D.int)).length with
      | some j => ((((w :: ws).map D.int))[j]?).map fun y => (y, D.lst ((((w :: ws).map D.int)).eraseIdx j))
      | none => none) with
      | some (y, c') => Res.ok y ((dst (w :: ws) cs r t R).set 0 c')
      | none => Res.bad) = _
    have h : seqIndex? 0 (((w :: ws).map D.int)).length = some 0 := by
      unfold seqIndex?
      simp
    rw [h]
    rfl
  rw [M.gives_ok e]
end
theorem need_w {ws : List Int} {cs : List D} {r t : Int} {R : Sto} {P : Unit → Sto → Prop} : (needLst (.ref 0)).gives (dst ws cs r t R) P ↔ P () (dst ws cs r t R) := Iff.rfl
theorem pyL_ints : ∀ ws : List Int, pyL (ws.map .int) = some (ws.map .int)
  | [] => rfl
  | w :: ws => by
    rw [List.map_cons]
    unfold pyL
    rw [pyL_ints ws]
    rfl
theorem ne_w {ws : List Int} {cs : List D} {r t : Int} {R : Sto} {P : D → Sto → Prop} : (neD (.ref 0) (.lst [])).gives (dst ws cs r t R) P ↔ P (.bl (!ws.isEmpty)) (dst ws cs r t R) := by
  show (optB not (eqB (.lst (ws.map .int)) (.lst []))).gives (dst ws cs r t R) P ↔ _
  have h : eqB (.lst (ws.map .int)) (.lst []) = some ws.isEmpty := by
    unfold eqB
    have e1 : (D.lst (ws.map .int)).py = some (.list (ws.map .int)) := by
      unfold D.py
      rw [pyL_ints]
    have e2 : (D.lst []).py = some (.list []) := rfl
    rw [e1, e2]
    simp only
    rw [if_pos (by simp only [PyData.depth, PyData.depthAll]; omega)]
    cases ws <;> rfl
  rw [h]
  exact Iff.rfl
theorem lenV_lst {ds : List D} {st : Sto} {P : D → Sto → Prop} : (lenD (.lst ds)).gives st P ↔ P (.int ds.length) st := Iff.rfl
theorem lenV_frl {ds : List D} {st : Sto} {P : D → Sto → Prop} : (lenD (.frl ds)).gives st P ↔ P (.int ds.length) st := Iff.rfl
theorem lenV_tup {ds : List D} {st : Sto} {P : D → Sto → Prop} : (lenD (.tup ds)).gives st P ↔ P (.int ds.length) st := Iff.rfl
theorem lenV_str {s : Str} {st : Sto} {P : D → Sto → Prop} : (lenD (.str s)).gives st P ↔ P (.int s.length) st := Iff.rfl
theorem pyL_strs : ∀ ss : List Str, pyL (ss.map .str) = some (ss.map .str)
  | [] => rfl
  | w :: ws => by
    rw [List.map_cons]
    unfold pyL
    rw [pyL_strs ws]
    rfl
theorem depth_strs : ∀ ss : List Str, PyData.depthAll (ss.map .str) = 0
  | [] => rfl
  | w :: ws => by
    show max 0 (PyData.depthAll (ws.map .str)) = 0
    rw [depth_strs ws]
    rfl
theorem inSeq_strs {x : Str} {ss : List Str} : inSeq (.str x) (ss.map .str) = some (decide (x ∈ ss)) := by
  unfold inSeq
  rw [pyL_strs]
  show (if min (PyData.depthAll (ss.map .str)) (PyData.str x).depth ≤ 64 then some ((ss.map PyData.str).any fun z => PyData.eqv z (.str x)) else none) = _
  rw [depth_strs, if_pos (by simp)]
  congr 1
  induction ss with
  | nil => rfl
  | cons y ss ih =>
    rw [List.map_cons, List.any_cons, ih]
    show ((y == x) || decide (x ∈ ss)) = _
    by_cases h : y = x
    · subst h; simp
    · have h2 : ¬ x = y := fun e => h e.symm
      simp [h, h2]
theorem notIn_strs {x : Str} {ss : List Str} {st : Sto} {P : D → Sto → Prop} : (notInD (.str x) (.lst (ss.map .str))).gives st P ↔ P (.bl (!decide (x ∈ ss))) st := by
  show (optB not (inSeq (.str x) (ss.map .str))).gives st P ↔ _
  rw [inSeq_strs]
  exact Iff.rfl
theorem strsOf_map : ∀ ss : List Str, strsOf (ss.map .str) = some ss
  | [] => rfl
  | w :: ws => by
    rw [List.map_cons]
    unfold strsOf
    rw [strsOf_map ws]
theorem sorted_strs {ss : List Str} {st : Sto} {P : D → Sto → Prop} (h : ss.length < 64) : (sortedD (.lst (ss.map .str))).gives st P ↔ P (.lst ((sortS ss).map .str)) st := by
  show (match strsOf (ss.map .str) with | some bs => if bs.length < 64 then pure (D.lst ((sortS bs).map .str)) else M.bad | none => M.bad : M D).gives st P ↔ _
  rw [strsOf_map]
  simp only [if_pos h]
  exact Iff.rfl
theorem sorted_dic {kvs : List (D × D)} {ss : List Str} {st : Sto} {P : D → Sto → Prop} (e : keysOf kvs = ss.map .str) (h : ss.length < 64) : (sortedD (.dic kvs)).gives st P ↔ P (.lst ((sortS ss).map .str)) st := by
  show (match strsOf (keysOf kvs) with | some bs => if bs.length < 64 then pure (D.lst ((sortS bs).map .str)) else M.bad | none => M.bad : M D).gives st P ↔ _
  rw [e, strsOf_map]
  simp only [if_pos h]
  exact Iff.rfl
theorem mem_sortS {x : Str} {ss : List Str} : x ∈ sortS ss ↔ x ∈ ss := List.mem_mergeSort
theorem len_sortS {ss : List Str} : (sortS ss).length = ss.length := List.length_mergeSort _
/-- a comprehension that keeps what is not in ss -/
theorem comp_notIn {i : Nat} {m : Sh.Env → M Bool} {ss : List Str} {ρ : Sh.Env} (ht : ∀ (x : Str) (ρ' : Sh.Env) (st : Sto), setV i (.str x) ρ = some ρ' → m ρ' st = .ok (!decide (x ∈ ss)) st) (he : ∀ (x : D) (ρ' : Sh.Env), setV i x ρ = some ρ' → getV ρ' i = (pure x : M D)) :
    ∀ (xs : List Str) (st : Sto), compD (setV i) m (eV i) ρ (xs.map .str) st = .ok ((xs.filter fun x => !decide (x ∈ ss)).map .str) st
  | [], st => rfl
  | x :: xs, st => by
    rw [List.map_cons]
    unfold compD
    show (M.bind (m (ρ.set i (some (.str x)))) _) st = _
    unfold M.bind
    rw [ht x _ st rfl]
    have ih := comp_notIn ht he xs st
    by_cases h : x ∈ ss
    · simp only [h, decide_true, Bool.not_true, List.filter_cons, Bool.false_eq_true, if_false]
      exact ih
    · simp only [h, decide_false, Bool.not_false, List.filter_cons, if_true, List.map_cons]
      show (M.bind (getV (ρ.set i (some (.str x))) i) _) st = _
      rw [he (.str x) _ rfl]
      show (M.bind (compD (setV i) m (eV i) ρ (xs.map .str)) _) st = _
      unfold M.bind
      rw [ih]
      rfl
/-- whole numbers are compared -/
theorem eq_ii {i j : Int} {st : Sto} {P : D → Sto → Prop} : (eqD (.int i) (.int j)).gives st P ↔ P (.bl (i == j)) st := Iff.rfl
theorem ne_ii {i j : Int} {st : Sto} {P : D → Sto → Prop} : (neD (.int i) (.int j)).gives st P ↔ P (.bl (!(i == j))) st := Iff.rfl
end Sh
namespace Sh
open PySem PySem.Spec PyProof.Rows L2
/-! ### what is shown is a text of fitting length -/
theorem ok_iff {s : Str} : PyData.strOk s = true ↔ ∀ c ∈ s.cps.toList, c < 0x110000 := by
  unfold PyData.strOk
  rw [Array.all_eq_true_iff_forall_mem]
  constructor
  · intro h c hc
    simpa using h c (Array.mem_toList_iff.mp hc)
  · intro h c hc
    simpa using h c (Array.mem_toList_iff.mpr hc)
theorem cps_app (a b : Str) : (a ++ b).cps.toList = a.cps.toList ++ b.cps.toList := by
  show (a.cps ++ b.cps).toList = _
  simp
theorem ok_app {a b : Str} (h1 : PyData.strOk a = true) (h2 : PyData.strOk b = true) : PyData.strOk (a ++ b) = true := by
  rw [ok_iff] at h1 h2 ⊢
  intro c hc
  rw [cps_app] at hc
  exact (List.mem_append.mp hc).elim (h1 c) (h2 c)
theorem ok_join {sep : Str} (hs : PyData.strOk sep = true) : ∀ {ts : List Str}, (∀ t ∈ ts, PyData.strOk t = true) → PyData.strOk (Str.join sep ts) = true
  | [], _ => by rw [ok_iff]; intro c hc; simp [Str.join, Str.empty] at hc
  | [x], h => h x List.mem_cons_self
  | x :: y :: r, h => ok_app (ok_app (h x List.mem_cons_self) hs) (ok_join hs fun t ht => h t (List.mem_cons_of_mem _ ht))
theorem ok_from : ∀ (ts : List Str) (k : Nat) (acc : Str), PyData.strOk acc = true → (∀ t ∈ ts, PyData.strOk t = true) → PyData.strOk (textFrom k acc ts) = true
  | [], _, _, h, _ => h
  | t :: r, k, acc, h, hr => by
    refine ok_from r (k + 1) _ (ok_app (ok_app h ?_) (hr t List.mem_cons_self)) fun x hx => hr x (List.mem_cons_of_mem _ hx)
    split <;> decide +kernel
theorem digit_ok {n : Nat} {d : Char} (hb : 1 < 17) (h : d ∈ Nat.toDigits 16 n) : d.toNat < 0x110000 := by
  have := d.valid
  have h2 : d.val.toNat < 0x110000 := by
    rcases this with h | ⟨_, h⟩
    · have : d.val.toNat < 0xd800 := h
      omega
    · exact h
  exact h2
theorem rc_ok {q c : Nat} (hq : q < 0x110000) (hc : c < 0x110000) : ∀ x ∈ Builtin.Str.reprChar q c, x < 0x110000 := by
  have hex : ∀ w x, x ∈ List.replicate (w - ((Nat.toDigits 16 c).map Char.toNat).length) 48 ++ (Nat.toDigits 16 c).map Char.toNat → x < 0x110000 := fun w x hx => by
    rcases List.mem_append.mp hx with hx | hx
    · rw [(List.mem_replicate.mp hx).2]; decide
    · obtain ⟨d, hd, rfl⟩ := List.mem_map.mp hx
      exact digit_ok (by decide) hd
  unfold Builtin.Str.reprChar
  intro x hx
  simp only at hx
  split at hx
  · simp only [List.mem_cons, List.not_mem_nil, or_false] at hx
    rcases hx with rfl | rfl
    · decide
    · exact hc
  · split at hx
    · simp only [List.mem_cons, List.not_mem_nil, or_false] at hx
      rcases hx with rfl | rfl <;> decide
    · split at hx
      · simp only [List.mem_cons, List.not_mem_nil, or_false] at hx
        rcases hx with rfl | rfl <;> decide
      · split at hx
        · simp only [List.mem_cons, List.not_mem_nil, or_false] at hx
          rcases hx with rfl | rfl <;> decide
        · split at hx
          · simp only [List.mem_cons, List.not_mem_nil, or_false] at hx
            rw [hx]; exact hc
          · split at hx
            · simp only [List.cons_append, List.nil_append, List.mem_cons] at hx
              rcases hx with rfl | rfl | hx
              · decide
              · decide
              · exact hex 2 x hx
            · split at hx
              · simp only [List.cons_append, List.nil_append, List.mem_cons] at hx
                rcases hx with rfl | rfl | hx
                · decide
                · decide
                · exact hex 4 x hx
              · simp only [List.cons_append, List.nil_append, List.mem_cons] at hx
                rcases hx with rfl | rfl | hx
                · decide
                · decide
                · exact hex 8 x hx
theorem rt_ok {s : Str} (h : PyData.strOk s = true) : PyData.strOk (reprText s) = true := by
  rw [ok_iff] at h ⊢
  have hq : reprQuote s < 0x110000 := by unfold reprQuote; split <;> decide
  have fold : ∀ (l : List Nat) (acc : Array Nat), (∀ c ∈ l, c < 0x110000) → (∀ c ∈ acc.toList, c < 0x110000) → ∀ c ∈ (l.foldl (fun out c => out ++ (Builtin.Str.reprChar (reprQuote s) c).toArray) acc).toList, c < 0x110000 := by
    intro l
    induction l with
    | nil => intro acc _ ha; exact ha
    | cons x l ih =>
      intro acc hl ha
      refine ih _ (fun c hc => hl c (List.mem_cons_of_mem _ hc)) fun c hc => ?_
      rw [Array.toList_append] at hc
      rcases List.mem_append.mp hc with hc | hc
      · exact ha c hc
      · exact rc_ok hq (hl x List.mem_cons_self) c (by simpa using hc)
  intro c hc
  unfold reprText at hc
  rw [Array.toList_push] at hc
  rcases List.mem_append.mp hc with hc | hc
  · rw [← Array.foldl_toList] at hc
    exact fold _ _ h (fun c hc => by simp at hc; rw [hc]; exact hq) c hc
  · simp at hc; rw [hc]; exact hq
mutual
def pok : PyData → Bool
  | .none | .bool _ => true
  | .int i => PyData.strOk (PyData.shown (.int i))
  | .str s => PyData.strOk s
  | .list xs | .tuple xs => pokL xs
  | .dict kvs => pokK kvs
def pokL : List PyData → Bool
  | [] => true
  | x :: xs => pok x && pokL xs
def pokK : List (PyData × PyData) → Bool
  | [] => true
  | (k, v) :: r => pok k && pok v && pokK r
end
mutual
theorem sh_ok : ∀ p : PyData, pok p = true → PyData.strOk p.shown = true
  | .none, _ => by decide +kernel
  | .bool b, _ => by cases b <;> decide +kernel
  | .int i, h => h
  | .str s, h => rt_ok h
  | .list xs, h => by
    have h : pokL xs = true := h
    show PyData.strOk (textFrom 0 "[" (PyData.shownAll xs) ++ "]") = true
    exact ok_app (ok_from _ _ _ (by decide +kernel) (shA_ok xs h)) (by decide +kernel)
  | .tuple xs, h => by
    have h : pokL xs = true := h
    show PyData.strOk (("(" : Str) ++ Str.join ", " (PyData.shownAll xs) ++ (if (PyData.shownAll xs).length == 1 then ",)" else ")" : String)) = true
    refine ok_app (ok_app (by decide +kernel) (ok_join (by decide +kernel) (shA_ok xs h))) ?_
    split <;> decide +kernel
  | .dict kvs, h => by
    have h : pokK kvs = true := h
    show PyData.strOk (("{" : Str) ++ Str.join ", " (PyData.shownKv kvs) ++ "}") = true
    exact ok_app (ok_app (by decide +kernel) (ok_join (by decide +kernel) (shK_ok kvs h))) (by decide +kernel)
theorem shA_ok : ∀ xs : List PyData, pokL xs = true → ∀ t ∈ PyData.shownAll xs, PyData.strOk t = true
  | [], _ => by simp [PyData.shownAll]
  | x :: xs, h => by
    unfold pokL at h
    simp only [Bool.and_eq_true] at h
    intro t ht
    unfold PyData.shownAll at ht
    rcases List.mem_cons.mp ht with e | ht
    · rw [e]; exact sh_ok x h.1
    · exact shA_ok xs h.2 t ht
theorem shK_ok : ∀ kvs : List (PyData × PyData), pokK kvs = true → ∀ t ∈ PyData.shownKv kvs, PyData.strOk t = true
  | [], _ => by simp [PyData.shownKv]
  | (k, v) :: r, h => by
    unfold pokK at h
    simp only [Bool.and_eq_true] at h
    intro t ht
    unfold PyData.shownKv at ht
    rcases List.mem_cons.mp ht with e | ht
    · rw [e]; exact ok_app (ok_app (sh_ok k h.1.1) (by decide +kernel)) (sh_ok v h.1.2)
    · exact shK_ok r h.2 t ht
end
/-! ### data that are shown, by the mirror's own -/
def intG (i : Int) : Bool := decide ((PyData.shown (.int i)).length ≤ 60) && decide (i.natAbs.log2 < 1920) && PyData.strOk (PyData.shown (.int i))
mutual
def D.g : D → Bool
  | .non => true
  | .bl _ => true
  | .int i => intG i
  | .str s => okS s
  | .lst ds => gL ds
  | .tup ds => gL ds
  | .dic kvs => gK kvs
  | .obj _ _ => false
  | .dit _ => false
  | .ref _ => false
  | .frl _ => false
def gL : List D → Bool
  | [] => true
  | d :: ds => d.g && gL ds
def gK : List (D × D) → Bool
  | [] => true
  | (k, d) :: r => k.key?.isSome && k.g && d.g && gK r
end
mutual
/-- how much is shown -/
def D.bk : D → Nat
  | .str s => s.length
  | .lst ds => bkL ds
  | .tup ds => bkL ds
  | .dic kvs => bkK kvs
  | _ => 0
def bkL : List D → Nat
  | [] => 0
  | d :: ds => d.bk + 1 + bkL ds
def bkK : List (D × D) → Nat
  | [] => 0
  | (k, d) :: r => k.bk + d.bk + 2 + bkK r
end
mutual
/-- how deep -/
def D.dp : D → Nat
  | .lst ds => dpL ds + 1
  | .tup ds => dpL ds + 1
  | .dic kvs => dpK kvs + 1
  | _ => 0
def dpL : List D → Nat
  | [] => 0
  | d :: ds => max d.dp (dpL ds)
def dpK : List (D × D) → Nat
  | [] => 0
  | (k, d) :: r => max (max k.dp d.dp) (dpK r)
end
/-- p shows what is told of d -/
structure Shw (d : D) (p : PyData) : Prop where
  shows : p.showable = true
  short : p.leavesShort 60 = true
  oks : pok p = true
  bulk : p.bulk = d.bk
  deep : p.depth = d.dp
structure ShwL (ds : List D) (ps : List PyData) : Prop where
  shows : PyData.showableAll ps = true
  short : PyData.leavesShortAll 60 ps = true
  oks : pokL ps = true
  bulk : PyData.bulkAll ps = bkL ds
  deep : PyData.depthAll ps = dpL ds
structure ShwK (ds : List (D × D)) (ps : List (PyData × PyData)) : Prop where
  shows : PyData.showableKv ps = true
  short : PyData.leavesShortKv 60 ps = true
  oks : pokK ps = true
  bulk : PyData.bulkKv ps = bkK ds
  deep : PyData.depthKv ps = dpK ds
theorem short_str {s : Str} (h : okS s = true) : (PyData.str s).leavesShort 60 = true := by
  show (s.cps.toList.all fun c => decide (c < 16 ^ 8)) = true
  rw [List.all_eq_true]
  intro c hc
  have := ok_iff.mp (okS_ok h) c hc
  exact decide_eq_true (by omega)
theorem key_shw {k : D} (h : k.key?.isSome = true) (hg : k.g = true) : ∃ p, keyPy k = some p ∧ Shw k p := by
  cases k <;> try (cases h; done)
  · rename_i i
    have hg : intG i = true := hg
    unfold intG at hg
    simp only [Bool.and_eq_true, decide_eq_true_eq] at hg
    exact ⟨_, rfl, by simp [PyData.showable, hg], by simp [PyData.leavesShort, hg], hg.2, rfl, rfl⟩
  · exact ⟨_, rfl, rfl, short_str hg, okS_ok hg, rfl, rfl⟩
mutual
theorem g_shw : ∀ d : D, d.g = true → ∃ p, d.pyR = some p ∧ Shw d p
  | .non, _ => ⟨_, rfl, rfl, rfl, rfl, rfl, rfl⟩
  | .bl b, _ => ⟨_, rfl, rfl, rfl, rfl, rfl, rfl⟩
  | .int i, hg => by
    have hg : intG i = true := hg
    unfold intG at hg
    simp only [Bool.and_eq_true, decide_eq_true_eq] at hg
    exact ⟨_, rfl, by simp [PyData.showable, hg], by simp [PyData.leavesShort, hg], hg.2, rfl, rfl⟩
  | .str s, hg => ⟨_, rfl, rfl, short_str hg, okS_ok hg, rfl, rfl⟩
  | .lst ds, hg => by
    obtain ⟨ps, e, w⟩ := gL_shw ds hg
    refine ⟨.list ps, by unfold D.pyR; rw [e], w.shows, w.short, w.oks, w.bulk, ?_⟩
    show PyData.depthAll ps + 1 = dpL ds + 1
    rw [w.deep]
  | .tup ds, hg => by
    obtain ⟨ps, e, w⟩ := gL_shw ds hg
    refine ⟨.tuple ps, by unfold D.pyR; rw [e], w.shows, w.short, w.oks, w.bulk, ?_⟩
    show PyData.depthAll ps + 1 = dpL ds + 1
    rw [w.deep]
  | .dic kvs, hg => by
    obtain ⟨ps, e, w⟩ := gK_shw kvs hg
    refine ⟨.dict ps, by unfold D.pyR; rw [e], w.shows, w.short, w.oks, w.bulk, ?_⟩
    show PyData.depthKv ps + 1 = dpK kvs + 1
    rw [w.deep]
  | .obj _ _, h => by cases h
  | .dit _, h => by cases h
  | .ref _, h => by cases h
  | .frl _, h => by cases h
theorem gL_shw : ∀ ds : List D, gL ds = true → ∃ ps, pyRL ds = some ps ∧ ShwL ds ps
  | [], _ => ⟨[], rfl, rfl, rfl, rfl, rfl, rfl⟩
  | d :: ds, h => by
    unfold gL at h
    simp only [Bool.and_eq_true] at h
    obtain ⟨p, e1, w1⟩ := g_shw d h.1
    obtain ⟨ps, e2, w2⟩ := gL_shw ds h.2
    refine ⟨p :: ps, by unfold pyRL; rw [e1, e2], ?_, ?_, ?_, ?_, ?_⟩
    · simp [PyData.showableAll, w1.shows, w2.shows]
    · simp [PyData.leavesShortAll, w1.short, w2.short]
    · simp [pokL, w1.oks, w2.oks]
    · simp [PyData.bulkAll, bkL, w1.bulk, w2.bulk]
    · simp [PyData.depthAll, dpL, w1.deep, w2.deep]
theorem gK_shw : ∀ ds : List (D × D), gK ds = true → ∃ ps, pyRK ds = some ps ∧ ShwK ds ps
  | [], _ => ⟨[], rfl, rfl, rfl, rfl, rfl, rfl⟩
  | (k, d) :: ds, h => by
    unfold gK at h
    simp only [Bool.and_eq_true] at h
    obtain ⟨q, e0, w0⟩ := key_shw h.1.1.1 h.1.1.2
    obtain ⟨p, e1, w1⟩ := g_shw d h.1.2
    obtain ⟨ps, e2, w2⟩ := gK_shw ds h.2
    refine ⟨(q, p) :: ps, by unfold pyRK; rw [e0, e1, e2], ?_, ?_, ?_, ?_, ?_⟩
    · simp [PyData.showableKv, w0.shows, w1.shows, w2.shows]
    · simp [PyData.leavesShortKv, w0.short, w1.short, w2.short]
    · simp [pokK, w0.oks, w1.oks, w2.oks]
    · simp [PyData.bulkKv, bkK, w0.bulk, w1.bulk, w2.bulk]
    · simp [PyData.depthKv, dpK, w0.deep, w1.deep, w2.deep]
end
/-- what d shows, told where d is good and not too big -/
theorem repr_g {d : D} (hg : d.g = true) (hb : d.bk ≤ 200000) (hd : d.dp ≤ 150) : ∃ s : Str, okS s = true ∧ ∀ (st : Sto) (P : D → Sto → Prop), P (.str s) st → (reprD d).gives st P := by
  obtain ⟨p, e, w⟩ := g_shw d hg
  have hl : p.shown.length ≤ 16777216 := by
    have := PyData.shown_le_bulk 60 (by decide) p w.short
    rw [w.bulk] at this
    omega
  have hr : reprB p = true := by
    unfold reprB
    simp only [Bool.and_eq_true, decide_eq_true_eq]
    exact ⟨⟨⟨w.shows, hl⟩, by rw [w.deep]; exact hd⟩, sh_ok p w.oks⟩
  refine ⟨p.shown, okS_mk hl (sh_ok p w.oks), fun st P h => ?_⟩
  unfold reprD
  rw [M.gives_bind]
  have hv : view d = (pure d : M D) := by
    cases d <;> first | rfl | cases hg
  rw [hv]
  show M.gives (match d.pyR with | some p => if reprB p = true then pure (D.str p.shown) else M.bad | none => M.bad) st P
  rw [e]
  simp only
  rw [if_pos hr]
  exact h
end Sh
/-! what the defs compute of turnedlooks_k04_facts_judged (printed by wip/gen2.py) -/
namespace Dr
open PySem PySem.Spec PyProof.Rows L2 Sh
abbrev c_LETTERS : D := .str "abcdefghijklmnopqrstuvwxyz"
abbrev l_OUTCOMES : List Str := ["fail", "no", "yes"]
abbrev c_OUTCOMES : D := .tup (l_OUTCOMES.map .str)
abbrev c_MOST_LETTERS : D := .int 8
abbrev c_MOST_LOOKS : D := .int 4
abbrev c_MOST_DEEDS : D := .int 5
abbrev c_MOST_FACTS : D := .int 24
/-! is_name -/
def b_is_name : MS := (seqS (retS (andD (e1 (isiD "str") (eV 0)) (andD (chainD (cmpI leI) (cmpI leI) (eC (.int 1)) (e1 lenD (eV 0)) (eC c_MOST_LETTERS)) (e1 (quantD allB) (eComp [1] (iStr (eV 0)) (setV 1) tYes (e2 inD (eV 1) (eC c_LETTERS)))))))
  skipS)
def f_is_name : List D → M D := runB 2 .val b_is_name
/-! are_names -/
def b_are_names : MS := (seqS (ifS (orB (tNot (tB (e1 (isi2D "list" "tuple") (eV 0)))) (tB (e2 (cmpI gtI) (e1 lenD (eV 0)) (eV 1)))) (seqS (retS (eC (.bl false)))
  skipS) skipS)
  (seqS (retS (andD (e1 (quantD allB) (eComp [2] (iSeq (eV 0)) (setV 2) tYes (eCall f_is_name (lCons (eV 2) lNil)))) (e2 eqD (e1 lenSetD (eV 0)) (e1 lenD (eV 0)))))
  skipS))
def f_are_names : List D → M D := runB 3 .val b_are_names
/-! is_one_of -/
def b_is_one_of : MS := (seqS (retS (andD (e1 (isiD "str") (eV 0)) (e2 inD (eV 0) (eV 1))))
  skipS)
def f_is_one_of : List D → M D := runB 2 .val b_is_one_of
/-! is_told -/
def b_is_told : MS := (seqS (retS (andD (e1 (isiD "tuple") (eV 1)) (andD (e2 eqD (e1 lenD (eV 1)) (eC (.int 2))) (andD (eCall f_is_one_of (lCons (e2 ixD (eV 1) (eC (.int 0))) (lCons (eV 0) lNil))) (e1 (isiD "bool") (e2 ixD (eV 1) (eC (.int 1))))))))
  skipS)
def f_is_told : List D → M D := runB 2 .val b_is_told
/-! are_pairs -/
def b_are_pairs : MS := (seqS (ifS (orB (tNot (tB (e1 (isiD "tuple") (eV 1)))) (orB (tB (e2 notInD (e1 lenD (eV 1)) (eTup (lCons (eC (.int 1)) (lCons (eC (.int 2)) lNil))))) (tNot (tB (e1 (quantD allB) (eComp [2] (iSeq (eV 1)) (setV 2) tYes (eCall f_is_told (lCons (eV 0) (lCons (eV 2) lNil))))))))) (seqS (retS (eC (.bl false)))
  skipS) skipS)
  (seqS (retS (orD (e2 eqD (e1 lenD (eV 1)) (eC (.int 1))) (e2 ltD (e2 ixD (e2 ixD (eV 1) (eC (.int 0))) (eC (.int 0))) (e2 ixD (e2 ixD (eV 1) (eC (.int 1))) (eC (.int 0))))))
  skipS))
def f_are_pairs : List D → M D := runB 3 .val b_are_pairs
/-! is_fact_about -/
def b_is_fact_about : MS := (seqS (ifS (orB (tNot (tB (e1 (isiD "tuple") (eV 2)))) (orB (tB (e2 ltD (e1 lenD (eV 2)) (eC (.int 2)))) (tNot (tB (e1 (isiD "str") (e2 ixD (eV 2) (eC (.int 0)))))))) (seqS (retS (eC (.bl false)))
  skipS) skipS)
  (seqS (par2S 3 4 (lCons (e2 ixD (eV 2) (eC (.int 0))) (lCons (e1 lenD (eV 2)) lNil)))
  (seqS (ifS (tB (e2 eqD (eV 3) (eC (.str "never")))) (seqS (retS (andD (e2 eqD (eV 4) (eC (.int 2))) (eCall f_are_pairs (lCons (eV 0) (lCons (e2 ixD (eV 2) (eC (.int 1))) lNil)))))
  skipS) skipS)
  (seqS (ifS (tNot (tB (eCall f_is_one_of (lCons (e2 ixD (eV 2) (eC (.int 1))) (lCons (eV 1) lNil))))) (seqS (retS (eC (.bl false)))
  skipS) skipS)
  (seqS (ifS (tB (e2 eqD (eV 3) (eC (.str "sure")))) (seqS (retS (e2 eqD (eV 4) (eC (.int 2))))
  skipS) skipS)
  (seqS (ifS (tB (e2 eqD (eV 3) (eC (.str "stays")))) (seqS (retS (andD (e2 eqD (eV 4) (eC (.int 3))) (eCall f_is_one_of (lCons (e2 ixD (eV 2) (eC (.int 2))) (lCons (eV 0) lNil)))))
  skipS) skipS)
  (seqS (ifS (orB (tB (e2 neD (eV 3) (eC (.str "sets")))) (orB (tB (e2 neD (eV 4) (eC (.int 5)))) (tNot (tB (eCall f_is_one_of (lCons (e2 ixD (eV 2) (eC (.int 2))) (lCons (eC c_OUTCOMES) lNil))))))) (seqS (retS (eC (.bl false)))
  skipS) skipS)
  (seqS (retS (andD (eCall f_is_one_of (lCons (e2 ixD (eV 2) (eC (.int 3))) (lCons (eV 0) lNil))) (e1 (isiD "bool") (e2 ixD (eV 2) (eC (.int 4))))))
  skipS))))))))
def f_is_fact_about : List D → M D := runB 5 .val b_is_fact_about
/-! need_facts -/
def b_need_facts : MS := (seqS (ifS (tNot (tB (e1 (isi2D "list" "tuple") (eV 2)))) (seqS (fun _ => M.bad)
  skipS) skipS)
  (seqS (forE (iEnumD (eV 2)) (gTupD (gConsD (setV 3) (gConsD (setV 4) gNilD))) (seqS (ifS (orB (tNot (tB (eCall f_is_fact_about (lCons (eV 0) (lCons (eV 1) (lCons (eV 4) lNil)))))) (tB (e2 inD (eV 4) (eSl slL (eV 2) oN (oS (eV 3)))))) (seqS (fun _ => M.bad)
  skipS) skipS)
  skipS))
  skipS))
def f_need_facts : List D → M D := runB 5 .val b_need_facts
/-! is_met -/
def b_is_met : MS := (seqS (retS (e1 (quantD allB) (eComp [2, 3] (iSeq (eV 0)) (gTupD (gConsD (setV 2) (gConsD (setV 3) gNilD))) tYes (e2 eqD (e2 inD (eV 2) (eV 1)) (eV 3)))))
  skipS)
def f_is_met : List D → M D := runB 4 .val b_is_met
/-! moments_of -/
def b_moments_of : MS := (seqS (setS 2 (eLst (lCons (eTup lNil) lNil)))
  (seqS (forE (iSeq (eV 0)) (setV 3) (seqS (setS 2 (e2 catD (eV 2) (eComp [6] (iSeq (eV 2)) (setV 6) tYes (eTupV (vStar (eV 6) (lCons (eV 3) lNil))))))
  skipS))
  (seqS (setS 4 (eComp [5] (iSeq (eV 1)) (setV 5) (tB (e2 eqD (e2 ixD (eV 5) (eC (.int 0))) (eC (.str "never")))) (e2 ixD (eV 5) (eC (.int 1)))))
  (seqS (retS (e1 sortedX (eComp [6] (iSeq (eV 2)) (setV 6) (tNot (tB (e1 (quantD anyB) (eComp [7] (iSeq (eV 4)) (setV 7) tYes (eCall f_is_met (lCons (eV 7) (lCons (eV 6) lNil))))))) (eV 6))))
  skipS))))
def f_moments_of : List D → M D := runB 8 .val b_moments_of
/-! _law_begun -/
def b__law_begun : MS := (seqS (setS 1 (eSto (eComp [2] (iSeq (eV 0)) (setV 2) (tB (e2 (cmpI geI) (e1 absD (eV 2)) (e2 powD (eC (.int 10)) (eC (.int 18))))) (e2 subD (e1 absD (eV 2)) (e2 powD (eC (.int 10)) (eC (.int 18)))))))
  (seqS (retS (eSto (eDisp (pCons (eC (.str "wide")) (eV 1) (pCons (eC (.str "cells")) (eComp [2] (iSeq (eV 0)) (setV 2) tYes (e2 modD (e1 intD (e1 absD (eV 2))) (eC (.int 2147483629)))) (pCons (eC (.str "rest")) (eC (.int 0)) (pCons (eC (.str "turn")) (eC (.int 0)) pNil)))))))
  skipS))
def f__law_begun : List D → M D := runB 3 .val b__law_begun
/-! _law_mixed -/
def b__law_mixed : MS := (seqS (par2S 2 3 (lCons (e2 addD (e2 ixD (eV 0) (eC (.str "turn"))) (eC (.int 1))) (lCons (eC (.int 0)) lNil)))
  (seqS (setRefIt (eV 0) (eC (.str "turn")) (eV 2))
  (seqS (forE (iSeq (eLst (lCons (eC (.int 2147483629)) (lCons (eC (.int 2147483587)) (lCons (eC (.int 2147483579)) (lCons (eC (.int 2147483563)) lNil)))))) (setV 1) (seqS (setS 4 (e2 addD (e2 mulD (eC (.int 61441)) (eV 2)) (e2 divD (eV 1) (eC (.int 19)))))
  (seqS (forE (iSeq (e2 ixD (eV 0) (eC (.str "cells")))) (setV 5) (seqS (setS 4 (e2 modD (e1 intD (e2 addD (e2 addD (e2 mulD (eV 4) (eC (.int 48271))) (eV 5)) (eV 2))) (eV 1)))
  skipS))
  (seqS (setS 3 (e2 addD (e2 mulD (eV 3) (eC (.int 2147483647))) (e2 modD (e1 intD (e2 powD (eV 4) (eC (.int 5)))) (eV 1))))
  skipS))))
  (seqS (retS (eV 3))
  skipS))))
def f__law_mixed : List D → M D := runB 6 .val b__law_mixed
/-! _law_take -/
def b__law_take : MS := (seqS (ifS (tB (e2 eqD (e2 ixD (eV 0) (eC (.str "rest"))) (eC (.int 0)))) (seqS (setRefIt (eV 0) (eC (.str "rest")) (eIf (tB (e2 neD (e2 ixD (eV 0) (eC (.str "wide"))) (eLst lNil))) (popRefM (e2 ixD (eV 0) (eC (.str "wide"))) (eC (.int 0))) (eCall f__law_mixed (lCons (eV 0) lNil))))
  skipS) skipS)
  (seqS (setS 2 (e2 modD (e1 intD (e2 ixD (eV 0) (eC (.str "rest")))) (eV 1)))
  (seqS (setRefIt (eV 0) (eC (.str "rest")) (e2 divD (e2 ixD (eV 0) (eC (.str "rest"))) (eV 1)))
  (seqS (retS (eV 2))
  skipS))))
def f__law_take : List D → M D := runB 3 .val b__law_take
/-! _law_pick -/
def b__law_pick : MS := (seqS (retS (e2 ixD (eV 1) (eCall f__law_take (lCons (eV 0) (lCons (e1 lenD (eV 1)) lNil)))))
  skipS)
def f__law_pick : List D → M D := runB 2 .val b__law_pick
/-! _law_odd -/
def b__law_odd : MS := (seqS (setS 1 (eLst (lCons (eC .non) (lCons (eC (.bl true)) (lCons (eC (.bl false)) (lCons (eC (.int 0)) (lCons (eC (.int 1)) (lCons (e1 negD (eC (.int 1))) (lCons (e2 powD (eC (.int 10)) (eC (.int 20))) (lCons (eC (.str "")) (lCons (eC (.str "a")) (lCons (eC (.str "yes")) (lCons (eC (.str "deed")) (lCons (eTup lNil) (lCons (eTup (lCons (eC (.str "yes")) lNil)) (lCons (eTup (lCons (eC (.str "over")) lNil)) (lCons (eLst lNil) (lCons (eC (.dic [])) (lCons (eTup (lCons (eTup lNil) lNil)) lNil)))))))))))))))))))
  (seqS (retS (eCall f__law_pick (lCons (eV 0) (lCons (e2 catD (eV 1) (eLst (lCons (eTup (lCons (eC (.str "look")) (lCons (eC (.str "a")) lNil))) (lCons (eTup (lCons (eC (.str "do")) (lCons (eTup (lCons (eC (.str "yes")) lNil)) lNil))) (lCons (eLst (lCons (eC (.str "a")) lNil)) (lCons (eDisp (pCons (eC (.str "a")) (eC (.int 1)) pNil)) (lCons (eTup (lCons (eC (.str "a")) (lCons (eC (.bl true)) lNil))) (lCons (eTup (lCons (eTup lNil) (lCons (eTup lNil) lNil))) lNil)))))))) lNil))))
  skipS))
def f__law_odd : List D → M D := runB 2 .val b__law_odd
/-! _law_labels -/
def b__law_labels : MS := (seqS (setS 2 (eLst (lCons (eC (.str "a")) (lCons (eC (.str "b")) (lCons (eC (.str "c")) (lCons (eC (.str "yes")) (lCons (eC (.str "no")) (lCons (eC (.str "fail")) (lCons (eC (.str "look")) (lCons (eC (.str "deed")) (lCons (eC (.str "and")) (lCons (eC (.str "if")) (lCons (eC (.str "over")) (lCons (eC (.str "told")) (lCons (eC (.str "zzzzzzzz")) (lCons (eC (.str "nothing")) lNil))))))))))))))))
  (seqS (setS 3 (eLst lNil))
  (seqS (forE (iRng (eV 1)) (setV 4) (seqS (appendS 3 (eCall f__law_pick (lCons (eV 0) (lCons (eComp [5] (iSeq (eV 2)) (setV 5) (tB (e2 notInD (eV 5) (eV 3))) (eV 5)) lNil))))
  skipS))
  (seqS (retS (eV 3))
  skipS))))
def f__law_labels : List D → M D := runB 6 .val b__law_labels
/-! _law_ground -/
def b__law_ground : MS := (seqS (par2S 4 5 (lCons (eCall f__law_take (lCons (eV 0) (lCons (e2 addD (eV 1) (eC (.int 1))) lNil))) (lCons (e2 addD (eC (.int 1)) (eCall f__law_take (lCons (eV 0) (lCons (eV 2) lNil)))) lNil)))
  (seqS (setS 3 (eCall f__law_labels (lCons (eV 0) (lCons (e2 addD (eV 4) (eV 5)) lNil))))
  (seqS (retS (eSto (eDisp (pCons (eC (.str "looks")) (e1 sortedX (eSl slL (eV 3) oN (oS (eV 4)))) (pCons (eC (.str "deeds")) (e1 sortedX (eSl slL (eV 3) (oS (eV 4)) oN)) (pCons (eC (.str "facts")) (eLst lNil) pNil))))))
  skipS)))
def f__law_ground : List D → M D := runB 6 .val b__law_ground
/-! _law_fact -/
def b__law_fact : MS := (seqS (par2S 2 3 (lCons (eCall f__law_take (lCons (eV 0) (lCons (eC (.int 8)) lNil))) (lCons (eCall f__law_pick (lCons (eV 0) (lCons (e2 ixD (eV 1) (eC (.str "deeds"))) lNil))) lNil)))
  (seqS (ifS (orB (tB (e2 ltD (eV 2) (eC (.int 2)))) (tB (e2 eqLD (e2 ixD (eV 1) (eC (.str "looks"))) (eLst lNil)))) (seqS (retS (eTup (lCons (eC (.str "sure")) (lCons (eV 3) lNil))))
  skipS) skipS)
  (seqS (par2S 4 5 (lCons (eCall f__law_pick (lCons (eV 0) (lCons (e2 ixD (eV 1) (eC (.str "looks"))) lNil))) (lCons (e2 eqD (eCall f__law_take (lCons (eV 0) (lCons (eC (.int 2)) lNil))) (eC (.int 0))) lNil)))
  (seqS (ifS (tB (e2 ltD (eV 2) (eC (.int 5)))) (seqS (retS (eTup (lCons (eC (.str "stays")) (lCons (eV 3) (lCons (eV 4) lNil)))))
  skipS) skipS)
  (seqS (ifS (tB (e2 ltD (eV 2) (eC (.int 7)))) (seqS (retS (eTup (lCons (eC (.str "sets")) (lCons (eV 3) (lCons (eCall f__law_pick (lCons (eV 0) (lCons (eLst (lCons (eC (.str "fail")) (lCons (eC (.str "no")) (lCons (eC (.str "yes")) lNil)))) lNil))) (lCons (eV 4) (lCons (eV 5) lNil)))))))
  skipS) skipS)
  (seqS (par2S 6 7 (lCons (eSto (eDisp (pCons (eV 4) (eV 5) pNil))) (lCons (eCall f__law_pick (lCons (eV 0) (lCons (e2 ixD (eV 1) (eC (.str "looks"))) lNil))) lNil)))
  (seqS (setRefIt (eV 6) (eV 7) (dget2M (eV 6) (eV 7) (e2 eqD (eCall f__law_take (lCons (eV 0) (lCons (eC (.int 2)) lNil))) (eC (.int 0)))))
  (seqS (retS (eTup (lCons (eC (.str "never")) (lCons (e1 tupleD (e1 sortItemsD (eV 6))) lNil))))
  skipS))))))))
def f__law_fact : List D → M D := runB 8 .val b__law_fact
/-! _law_facts -/
def b__law_facts : MS := (seqS (setS 3 (eLst lNil))
  (seqS (forE (iRng (eCall f__law_take (lCons (eV 0) (lCons (e2 addD (eV 2) (eC (.int 1))) lNil)))) (setV 4) (seqS (setS 5 (eCall f__law_fact (lCons (eV 0) (lCons (eV 1) lNil))))
  (seqS (ifS (tB (e2 notInD (eV 5) (eV 3))) (seqS (appendS 3 (eV 5))
  skipS) skipS)
  skipS)))
  (seqS (retS (eV 3))
  skipS)))
def f__law_facts : List D → M D := runB 6 .val b__law_facts
/-! _law_drawn_ground -/
def b__law_drawn_ground : MS := (seqS (setS 4 (eCall f__law_ground (lCons (eV 0) (lCons (eV 1) (lCons (eV 2) lNil)))))
  (seqS (setRefIt (eV 4) (eC (.str "facts")) (eCall f__law_facts (lCons (eV 0) (lCons (eV 4) (lCons (eV 3) lNil)))))
  (seqS (retS (eV 4))
  skipS)))
def f__law_drawn_ground : List D → M D := runB 5 .val b__law_drawn_ground
/-! Book.__init__ -/
def b_Book___init__ : MS := (seqS (ifS (tNot (tB (eCall f_are_names (lCons (eV 1) (lCons (eC c_MOST_LOOKS) lNil))))) (seqS (fun _ => M.bad)
  skipS) skipS)
  (seqS (ifS (orB (tNot (tB (eCall f_are_names (lCons (eV 2) (lCons (eC c_MOST_DEEDS) lNil))))) (tB (e1 (quantD anyB) (eComp [4] (iSeq (eV 2)) (setV 4) tYes (e2 inD (eV 4) (eV 1)))))) (seqS (fun _ => M.bad)
  skipS) skipS)
  (seqS (exprS (eCall f_need_facts (lCons (eV 1) (lCons (eV 2) (lCons (eV 3) lNil)))))
  (seqS (ifS (tB (e2 (cmpI gtI) (e1 lenD (eV 3)) (eC c_MOST_FACTS))) (seqS (fun _ => M.bad)
  skipS) skipS)
  (seqS (setFldS [("Book", ["b_looks"])] "b_looks" (eV 0) (e1 tupleD (e1 sortedX (eV 1))))
  (seqS (setFldS [("Book", ["b_deeds"])] "b_deeds" (eV 0) (e1 tupleD (e1 sortedX (eV 2))))
  (seqS (setFldS [("Book", ["b_facts"])] "b_facts" (eV 0) (e1 tupleD (e1 sortedX (eV 3))))
  (seqS (setFldS [("Book", ["b_moments"])] "b_moments" (eV 0) (e1 tupleD (eCall f_moments_of (lCons (e1 (fldD [("Book", ["b_looks"])] "b_looks") (eV 0)) (lCons (e1 (fldD [("Book", ["b_facts"])] "b_facts") (eV 0)) lNil)))))
  skipS))))))))
def f_Book___init__ : List D → M D := runB 5 .val b_Book___init__
/-! _law_book -/
def b__law_book : MS := (seqS (retS (eMake "Book" f_Book___init__ [] (lCons (e2 ixD (eV 0) (eC (.str "looks"))) (lCons (e2 ixD (eV 0) (eC (.str "deeds"))) (lCons (e2 ixD (eV 0) (eC (.str "facts"))) lNil)))))
  skipS)
def f__law_book : List D → M D := runB 1 .val b__law_book
/-! _law_every_fact -/
def b__law_every_fact : MS := (seqS (par3S 2 3 4 (lCons (e2 ixD (eV 0) (eC (.str "looks"))) (lCons (e2 ixD (eV 0) (eC (.str "deeds"))) (lCons (eLst lNil) lNil))))
  (seqS (forE (iSeq (eV 3)) (setV 1) (seqS (setS 4 (e2 catD (e2 catD (eV 4) (eLst (lCons (eTup (lCons (eC (.str "sure")) (lCons (eV 1) lNil))) lNil))) (eComp [7] (iSeq (eV 2)) (setV 7) tYes (eTup (lCons (eC (.str "stays")) (lCons (eV 1) (lCons (eV 7) lNil)))))))
  (seqS (forE (iSeq (eLst (lCons (eC (.str "fail")) (lCons (eC (.str "no")) (lCons (eC (.str "yes")) lNil))))) (setV 5) (seqS (forE (iSeq (eV 2)) (setV 7) (seqS (setS 4 (e2 catD (eV 4) (eComp [8] (iSeq (eTup (lCons (eC (.bl false)) (lCons (eC (.bl true)) lNil)))) (setV 8) tYes (eTup (lCons (eC (.str "sets")) (lCons (eV 1) (lCons (eV 5) (lCons (eV 7) (lCons (eV 8) lNil)))))))))
  skipS))
  skipS))
  skipS)))
  (seqS (forE (iEnumD (eV 2)) (gTupD (gConsD (setV 6) (gConsD (setV 7) gNilD))) (seqS (forE (iSeq (eTup (lCons (eC (.bl false)) (lCons (eC (.bl true)) lNil)))) (setV 8) (seqS (appendS 4 (eTup (lCons (eC (.str "never")) (lCons (eTup (lCons (eTup (lCons (eV 7) (lCons (eV 8) lNil))) lNil)) lNil))))
  (seqS (forE (iSeq (eSl slL (eV 2) (oS (e2 addD (eV 6) (eC (.int 1)))) oN)) (setV 9) (seqS (setS 4 (e2 catD (eV 4) (eComp [10] (iSeq (eTup (lCons (eC (.bl false)) (lCons (eC (.bl true)) lNil)))) (setV 10) tYes (eTup (lCons (eC (.str "never")) (lCons (eTup (lCons (eTup (lCons (eV 7) (lCons (eV 8) lNil))) (lCons (eTup (lCons (eV 9) (lCons (eV 10) lNil))) lNil))) lNil))))))
  skipS))
  skipS)))
  skipS))
  (seqS (retS (eV 4))
  skipS))))
def f__law_every_fact : List D → M D := runB 11 .val b__law_every_fact
/-! Book.is_fact -/
def b_Book_is_fact : MS := (seqS (retS (eCall f_is_fact_about (lCons (e1 (fldD [("Book", ["b_looks"])] "b_looks") (eV 0)) (lCons (e1 (fldD [("Book", ["b_deeds"])] "b_deeds") (eV 0)) (lCons (eV 1) lNil)))))
  skipS)
def f_Book_is_fact : List D → M D := runB 2 .val b_Book_is_fact
/-! Book.looks -/
def b_Book_looks : MS := (seqS (retS (e1 (fldD [("Book", ["b_looks"])] "b_looks") (eV 0)))
  skipS)
def f_Book_looks : List D → M D := runB 1 .val b_Book_looks
/-! Book.deeds -/
def b_Book_deeds : MS := (seqS (retS (e1 (fldD [("Book", ["b_deeds"])] "b_deeds") (eV 0)))
  skipS)
def f_Book_deeds : List D → M D := runB 1 .val b_Book_deeds
/-! Book.facts -/
def b_Book_facts : MS := (seqS (retS (e1 (fldD [("Book", ["b_facts"])] "b_facts") (eV 0)))
  skipS)
def f_Book_facts : List D → M D := runB 1 .val b_Book_facts
end Dr
namespace Dr
open PySem PySem.Spec PyProof.Rows L2 Sh
abbrev cellsB : MS := seqS (setS 4 (e2 modD (e1 Sh.intD (e2 addD (e2 addD (e2 mulD (eV 4) (eC (.int 48271))) (eV 5)) (eV 2))) (eV 1))) skipS
theorem mulC_r {i j : Int} (h : -(2 ^ 64) < j ∧ j < 2 ^ 64) : mulC i j = true := by unfold mulC; exact decide_eq_true (.inr h)
theorem mulC_l {i j : Int} (h : -(2 ^ 64) < i ∧ i < 2 ^ 64) : mulC i j = true := by unfold mulC; exact decide_eq_true (.inl h)
theorem modC_ok {i j : Int} (h : 0 < j) : modC i j = true := by unfold modC; exact decide_eq_true h
theorem divC_ok {i j : Int} (h : 0 < j) (h2 : j < 1073741824) : divC i j = true := by unfold divC; exact decide_eq_true ⟨h, h2⟩
theorem mixed_cells (p : Int) (hp : 0 < p) (tn : Int) (ht : 0 ≤ tn) : ∀ (cs : List Int) (b : Int) (f : D) (st : Sto) (P : Fl × Sh.Env → Sto → Prop) (y : Option D), (∀ c ∈ cs, 0 ≤ c) → 0 ≤ b → (cs ≠ [] ∨ b < p → ∀ b' y, 0 ≤ b' → b' < p → P (.nx, [some (.ref 1), some (.int p), some (.int tn), some f, some (.int b'), y]) st) → (¬ (cs ≠ [] ∨ b < p) → P (.nx, [some (.ref 1), some (.int p), some (.int tn), some f, some (.int b), y]) st) →
    (forS (setV 5) cellsB (cs.map .int) [some (.ref 1), some (.int p), some (.int tn), some f, some (.int b), y]).gives st P := by
  intro cs
  induction cs with
  | nil =>
    intro b f st P y _ hb h h2
    by_cases q : b < p
    · exact h (.inr q) b y hb q
    · exact h2 (by simp [q])
  | cons c cs ih =>
    intro b f st P y hc hb h h2
    have hc0 := hc c List.mem_cons_self
    have hb' : 0 ≤ (b * 48271 + c + tn) % p := Int.emod_nonneg _ (by omega)
    have hl' : (b * 48271 + c + tn) % p < p := Int.emod_lt_of_pos _ hp
    simp only [List.map_cons, List.map_nil, forS, setV, List.set_cons_succ, List.set_cons_zero, gv_bind, gv_seq, setS, Sh.retS, getV, List.getElem?_cons_succ, List.getElem?_cons_zero, gv_pure, mulD, addD, modD, Sh.intD, Sh.subD, Sh.divD, Sh.powD, arI, gv_guard, skipS, runB, Sh.envOf, par2S, par3S, gv_ifS, gv_eIf, gv_orB, gv_andB, asB, List.length_cons, List.length_nil, List.replicate, List.map, List.append_nil, List.cons_append, List.nil_append, setRefIt, ix_w, ix_c, ix_r, ix_t, pr_r, pr_t, eq_ii, ne_ii, appendS, lstOf, isNoneD, isND, id_eq, cmpI, gtI, leI, setOwnIt, true_and, wipeE, rng1, catD, negD, repD, ne_w, need_w, popRefM, pop_w, itemsD, Nat.reduceAdd, Nat.reduceSub, Int.reduceLT, lenV_lst, lenV_tup, lenV_str]
    refine ⟨mulC_r (by decide), modC_ok hp, ?_⟩
    exact ih _ _ _ _ _ (fun x hx => hc x (List.mem_cons_of_mem _ hx)) hb' (fun _ => h (.inl (by simp))) fun q => absurd (.inr hl') q
abbrev primesB : MS := seqS (setS 4 (e2 addD (e2 mulD (eC (.int 61441)) (eV 2)) (e2 divD (eV 1) (eC (.int 19))))) (seqS (forE (iSeq (e2 ixD (eV 0) (eC (.str kC)))) (setV 5) cellsB) (seqS (setS 3 (e2 addD (e2 mulD (eV 3) (eC (.int 2147483647))) (e2 modD (e1 Sh.intD (e2 powD (eV 4) (eC (.int 5)))) (eV 1)))) skipS))
theorem powC_ok {i : Int} (h : i.natAbs < 2 ^ 64) : powC i 5 = true := by unfold powC; exact decide_eq_true ⟨by decide, by decide, h⟩
theorem mixed_primes {ws cs : List Int} {r t : Int} {R : Sto} (tn : Int) (ht : 0 ≤ tn) (ht2 : tn < 2 ^ 40) (hc : ∀ c ∈ cs, 0 ≤ c) : ∀ (ps : List Int) (f : Int) (P : Fl × Sh.Env → Sto → Prop) (x y z : Option D), (∀ p ∈ ps, 0 < p ∧ p < 2 ^ 32) → 0 ≤ f → (∀ f' x y z, 0 ≤ f' → P (.nx, [some (.ref 1), x, some (.int tn), some (.int f'), y, z]) (dst ws (cs.map .int) r t R)) →
    (forS (setV 1) primesB (ps.map .int) [some (.ref 1), x, some (.int tn), some (.int f), y, z]).gives (dst ws (cs.map .int) r t R) P := by
  intro ps
  induction ps with
  | nil =>
    intro f P x y z _ hf h
    exact h f x y z hf
  | cons p ps ih =>
    intro f P x y z hp hf h
    obtain ⟨p0, p1⟩ := hp p List.mem_cons_self
    have hb0 : 0 ≤ 61441 * tn + p / 19 := by omega
    have last : ∀ (b' : Int) (y : Option D), 0 ≤ b' → b' < 2 ^ 60 → (seqS (setS 3 (e2 addD (e2 mulD (eV 3) (eC (.int 2147483647))) (e2 modD (e1 Sh.intD (e2 powD (eV 4) (eC (.int 5)))) (eV 1)))) skipS [some (.ref 1), some (.int p), some (.int tn), some (.int f), some (.int b'), y]).gives (dst ws (cs.map .int) r t R) fun a st' => (match a.1 with | .nx => forS (setV 1) primesB (ps.map .int) a.2 | .ct => forS (setV 1) primesB (ps.map .int) a.2 | .bk => pure (.nx, a.2) | .rt d => pure (.rt d, a.2) : M (Fl × Sh.Env)).gives st' P := by
      intro b' y h0 h1
      have hm : 0 ≤ b' ^ (5 : Int).toNat % p := Int.emod_nonneg _ (by omega)
      simp only [List.map_cons, List.map_nil, forS, setV, List.set_cons_succ, List.set_cons_zero, gv_bind, gv_seq, setS, Sh.retS, getV, List.getElem?_cons_succ, List.getElem?_cons_zero, gv_pure, mulD, addD, modD, Sh.intD, Sh.subD, Sh.divD, Sh.powD, arI, gv_guard, skipS, runB, Sh.envOf, par2S, par3S, gv_ifS, gv_eIf, gv_orB, gv_andB, asB, List.length_cons, List.length_nil, List.replicate, List.map, List.append_nil, List.cons_append, List.nil_append, setRefIt, ix_w, ix_c, ix_r, ix_t, pr_r, pr_t, eq_ii, ne_ii, appendS, lstOf, isNoneD, isND, id_eq, cmpI, gtI, leI, setOwnIt, true_and, wipeE, rng1, catD, negD, repD, ne_w, need_w, popRefM, pop_w, itemsD, Nat.reduceAdd, Nat.reduceSub, Int.reduceLT, lenV_lst, lenV_tup, lenV_str]
      refine ⟨mulC_r (by decide), powC_ok (by omega), modC_ok p0, ?_⟩
      exact ih _ _ _ _ _ (fun x hx => hp x (List.mem_cons_of_mem _ hx)) (by omega) h
    simp only [List.map_cons, List.map_nil, forS, setV, List.set_cons_succ, List.set_cons_zero, gv_bind, gv_seq, setS, Sh.retS, getV, List.getElem?_cons_succ, List.getElem?_cons_zero, gv_pure, mulD, addD, modD, Sh.intD, Sh.subD, Sh.divD, Sh.powD, arI, gv_guard, skipS, runB, Sh.envOf, par2S, par3S, gv_ifS, gv_eIf, gv_orB, gv_andB, asB, List.length_cons, List.length_nil, List.replicate, List.map, List.append_nil, List.cons_append, List.nil_append, setRefIt, ix_w, ix_c, ix_r, ix_t, pr_r, pr_t, eq_ii, ne_ii, appendS, lstOf, isNoneD, isND, id_eq, cmpI, gtI, leI, setOwnIt, true_and, wipeE, rng1, catD, negD, repD, ne_w, need_w, popRefM, pop_w, itemsD, Nat.reduceAdd, Nat.reduceSub, Int.reduceLT, lenV_lst, lenV_tup, lenV_str]
    refine ⟨mulC_l (by decide), divC_ok (by decide) (by decide), ?_⟩
    refine mixed_cells p p0 tn ht cs _ _ _ _ _ hc hb0 (fun _ b' y h0 h1 => ?_) (fun _ => ?_)
    · have := last b' y h0 (by omega)
      simp only [List.map_cons, List.map_nil, forS, setV, List.set_cons_succ, List.set_cons_zero, gv_bind, gv_seq, setS, Sh.retS, getV, List.getElem?_cons_succ, List.getElem?_cons_zero, gv_pure, mulD, addD, modD, Sh.intD, Sh.subD, Sh.divD, Sh.powD, arI, gv_guard, skipS, runB, Sh.envOf, par2S, par3S, gv_ifS, gv_eIf, gv_orB, gv_andB, asB, List.length_cons, List.length_nil, List.replicate, List.map, List.append_nil, List.cons_append, List.nil_append, setRefIt, ix_w, ix_c, ix_r, ix_t, pr_r, pr_t, eq_ii, ne_ii, appendS, lstOf, isNoneD, isND, id_eq, cmpI, gtI, leI, setOwnIt, true_and, wipeE, rng1, catD, negD, repD, ne_w, need_w, popRefM, pop_w, itemsD, Nat.reduceAdd, Nat.reduceSub, Int.reduceLT, lenV_lst, lenV_tup, lenV_str] at this ⊢
      exact this
    · have := last (61441 * tn + p / 19) z hb0 (by omega)
      simp only [List.map_cons, List.map_nil, forS, setV, List.set_cons_succ, List.set_cons_zero, gv_bind, gv_seq, setS, Sh.retS, getV, List.getElem?_cons_succ, List.getElem?_cons_zero, gv_pure, mulD, addD, modD, Sh.intD, Sh.subD, Sh.divD, Sh.powD, arI, gv_guard, skipS, runB, Sh.envOf, par2S, par3S, gv_ifS, gv_eIf, gv_orB, gv_andB, asB, List.length_cons, List.length_nil, List.replicate, List.map, List.append_nil, List.cons_append, List.nil_append, setRefIt, ix_w, ix_c, ix_r, ix_t, pr_r, pr_t, eq_ii, ne_ii, appendS, lstOf, isNoneD, isND, id_eq, cmpI, gtI, leI, setOwnIt, true_and, wipeE, rng1, catD, negD, repD, ne_w, need_w, popRefM, pop_w, itemsD, Nat.reduceAdd, Nat.reduceSub, Int.reduceLT, lenV_lst, lenV_tup, lenV_str] at this ⊢
      exact this
/-! ### the drawing -/
def Dw (cs : List Int) (R : Sto) (T : Int) (st : Sto) : Prop := ∃ ws r t, st = dst ws (cs.map .int) r t R ∧ (∀ w ∈ ws, 0 ≤ w) ∧ (∀ c ∈ cs, 0 ≤ c) ∧ 0 ≤ r ∧ 0 ≤ t ∧ t ≤ T
theorem Dw.up {cs : List Int} {R : Sto} {T T' : Int} {st : Sto} (h : Dw cs R T st) (l : T ≤ T') : Dw cs R T' st :=
  let ⟨ws, r, t, e, a, b, c, d, f⟩ := h; ⟨ws, r, t, e, a, b, c, d, Int.le_trans f l⟩
theorem mixed_g {ws cs : List Int} {r t : Int} {R : Sto} (hc : ∀ c ∈ cs, 0 ≤ c) (ht : 0 ≤ t) (ht2 : t < 2 ^ 39) : (f__law_mixed [.ref 1]).gives (dst ws (cs.map .int) r t R) fun d st' => ∃ i, 0 ≤ i ∧ d = .int i ∧ st' = dst ws (cs.map .int) r (t + 1) R := by
  unfold f__law_mixed b__law_mixed
  have key := mixed_primes (ws := ws) (cs := cs) (r := r) (t := t + 1) (R := R) (t + 1) (by omega) (by omega) hc [2147483629, 2147483587, 2147483579, 2147483563] 0 (fun rr st' => (match rr.1 with | .nx => seqS (Sh.retS (eV 3)) skipS rr.2 | _ => pure rr : M (Fl × Sh.Env)).gives st' fun a st' => (match a.1, Kd.val with | .rt d, _ => pure d | .nx, .val => pure .non | _, _ => M.bad : M D).gives st' fun d st' => ∃ i, 0 ≤ i ∧ d = .int i ∧ st' = dst ws (cs.map .int) r (t + 1) R) none none none (by decide) (by decide) (fun f' x y z hf => by
    simp only [List.map_cons, List.map_nil, forS, setV, List.set_cons_succ, List.set_cons_zero, gv_bind, gv_seq, setS, Sh.retS, getV, List.getElem?_cons_succ, List.getElem?_cons_zero, gv_pure, mulD, addD, modD, Sh.intD, Sh.subD, Sh.divD, Sh.powD, arI, gv_guard, skipS, runB, Sh.envOf, par2S, par3S, gv_ifS, gv_eIf, gv_orB, gv_andB, asB, List.length_cons, List.length_nil, List.replicate, List.map, List.append_nil, List.cons_append, List.nil_append, setRefIt, ix_w, ix_c, ix_r, ix_t, pr_r, pr_t, eq_ii, ne_ii, appendS, lstOf, isNoneD, isND, id_eq, cmpI, gtI, leI, setOwnIt, true_and, wipeE, rng1, catD, negD, repD, ne_w, need_w, popRefM, pop_w, itemsD, Nat.reduceAdd, Nat.reduceSub, Int.reduceLT, lenV_lst, lenV_tup, lenV_str]
    exact ⟨f', hf, rfl, trivial⟩)
  simp only [List.map_cons, List.map_nil, forS, setV, List.set_cons_succ, List.set_cons_zero, gv_bind, gv_seq, setS, Sh.retS, getV, List.getElem?_cons_succ, List.getElem?_cons_zero, gv_pure, mulD, addD, modD, Sh.intD, Sh.subD, Sh.divD, Sh.powD, arI, gv_guard, skipS, runB, Sh.envOf, par2S, par3S, gv_ifS, gv_eIf, gv_orB, gv_andB, asB, List.length_cons, List.length_nil, List.replicate, List.map, List.append_nil, List.cons_append, List.nil_append, setRefIt, ix_w, ix_c, ix_r, ix_t, pr_r, pr_t, eq_ii, ne_ii, appendS, lstOf, isNoneD, isND, id_eq, cmpI, gtI, leI, setOwnIt, true_and, wipeE, rng1, catD, negD, repD, ne_w, need_w, popRefM, pop_w, itemsD, Nat.reduceAdd, Nat.reduceSub, Int.reduceLT, lenV_lst, lenV_tup, lenV_str] at key ⊢
  exact key
theorem take_g {cs : List Int} {R : Sto} {T : Int} {st : Sto} (h : Dw cs R T st) (hT : T < 2 ^ 39) {n : Int} (hn : 0 < n) (hn2 : n < 1073741824) : (f__law_take [.ref 1, .int n]).gives st fun d st' => ∃ i, d = .int i ∧ 0 ≤ i ∧ i < n ∧ Dw cs R (T + 1) st' := by
  obtain ⟨ws, r, t, rfl, hw, hc, hr, ht, hT2⟩ := h
  unfold f__law_take b__law_take
  have fin : ∀ (ws : List Int) (r t : Int), (∀ w ∈ ws, 0 ≤ w) → 0 ≤ r → 0 ≤ t → t ≤ T + 1 → (r % n < n ∧ 0 ≤ r % n ∧ 0 ≤ r / n) ∧ Dw cs R (T + 1) (dst ws (cs.map .int) (r / n) t R) := fun ws r t hw hr ht hT => by
    have h1 : 0 ≤ r / n := Int.ediv_nonneg hr (by omega)
    exact ⟨⟨Int.emod_lt_of_pos _ hn, Int.emod_nonneg _ (by omega), h1⟩, ws, r / n, t, rfl, hw, hc, h1, ht, hT⟩
  simp only [List.map_cons, List.map_nil, forS, setV, List.set_cons_succ, List.set_cons_zero, gv_bind, gv_seq, setS, Sh.retS, getV, List.getElem?_cons_succ, List.getElem?_cons_zero, gv_pure, mulD, addD, modD, Sh.intD, Sh.subD, Sh.divD, Sh.powD, arI, gv_guard, skipS, runB, Sh.envOf, par2S, par3S, gv_ifS, gv_eIf, gv_orB, gv_andB, asB, List.length_cons, List.length_nil, List.replicate, List.map, List.append_nil, List.cons_append, List.nil_append, setRefIt, ix_w, ix_c, ix_r, ix_t, pr_r, pr_t, eq_ii, ne_ii, appendS, lstOf, isNoneD, isND, id_eq, cmpI, gtI, leI, setOwnIt, true_and, wipeE, rng1, catD, negD, repD, ne_w, need_w, popRefM, pop_w, itemsD, Nat.reduceAdd, Nat.reduceSub, Int.reduceLT, lenV_lst, lenV_tup, lenV_str]
  refine ⟨fun e => ⟨fun e1 => ?_, fun e1 => ?_⟩, fun e => ?_⟩
  · cases ws with
    | nil => cases e1
    | cons w ws =>
      simp only [List.map_cons, List.map_nil, forS, setV, List.set_cons_succ, List.set_cons_zero, gv_bind, gv_seq, setS, Sh.retS, getV, List.getElem?_cons_succ, List.getElem?_cons_zero, gv_pure, mulD, addD, modD, Sh.intD, Sh.subD, Sh.divD, Sh.powD, arI, gv_guard, skipS, runB, Sh.envOf, par2S, par3S, gv_ifS, gv_eIf, gv_orB, gv_andB, asB, List.length_cons, List.length_nil, List.replicate, List.map, List.append_nil, List.cons_append, List.nil_append, setRefIt, ix_w, ix_c, ix_r, ix_t, pr_r, pr_t, eq_ii, ne_ii, appendS, lstOf, isNoneD, isND, id_eq, cmpI, gtI, leI, setOwnIt, true_and, wipeE, rng1, catD, negD, repD, ne_w, need_w, popRefM, pop_w, itemsD, Nat.reduceAdd, Nat.reduceSub, Int.reduceLT, lenV_lst, lenV_tup, lenV_str]
      obtain ⟨⟨a, b, _⟩, c⟩ := fin ws w t (fun x hx => hw x (List.mem_cons_of_mem _ hx)) (hw w List.mem_cons_self) ht (by omega)
      exact ⟨modC_ok hn, divC_ok hn hn2, w % n, rfl, b, a, c⟩
  · refine M.gives_mono (mixed_g hc ht (by omega)) fun d st' ⟨i, hi, e2, e3⟩ => ?_
    subst e2 e3
    simp only [List.map_cons, List.map_nil, forS, setV, List.set_cons_succ, List.set_cons_zero, gv_bind, gv_seq, setS, Sh.retS, getV, List.getElem?_cons_succ, List.getElem?_cons_zero, gv_pure, mulD, addD, modD, Sh.intD, Sh.subD, Sh.divD, Sh.powD, arI, gv_guard, skipS, runB, Sh.envOf, par2S, par3S, gv_ifS, gv_eIf, gv_orB, gv_andB, asB, List.length_cons, List.length_nil, List.replicate, List.map, List.append_nil, List.cons_append, List.nil_append, setRefIt, ix_w, ix_c, ix_r, ix_t, pr_r, pr_t, eq_ii, ne_ii, appendS, lstOf, isNoneD, isND, id_eq, cmpI, gtI, leI, setOwnIt, true_and, wipeE, rng1, catD, negD, repD, ne_w, need_w, popRefM, pop_w, itemsD, Nat.reduceAdd, Nat.reduceSub, Int.reduceLT, lenV_lst, lenV_tup, lenV_str]
    obtain ⟨⟨a, b, _⟩, c⟩ := fin ws i (t + 1) hw hi (by omega) (by omega)
    exact ⟨modC_ok hn, divC_ok hn hn2, i % n, rfl, b, a, c⟩
  · refine ⟨modC_ok hn, divC_ok hn hn2, r % n, rfl, ?_⟩
    obtain ⟨⟨a, b, _⟩, c⟩ := fin ws r t hw hr ht (by omega)
    exact ⟨b, a, c⟩
theorem atI_mem {xs : List D} {i : Int} (h0 : 0 ≤ i) (h1 : i < xs.length) : ∃ d, atI xs i = some d ∧ d ∈ xs := by
  unfold atI ixN
  rw [if_pos h0, if_pos h1]
  have : i.toNat < xs.length := by omega
  exact ⟨xs[i.toNat], List.getElem?_eq_getElem this, List.getElem_mem this⟩
theorem pick_g {cs : List Int} {R : Sto} {T : Int} {st : Sto} (h : Dw cs R T st) (hT : T < 2 ^ 39) {xs : List D} (h0 : xs ≠ []) (hl : xs.length < 1073741824) : (f__law_pick [.ref 1, .lst xs]).gives st fun d st' => d ∈ xs ∧ Dw cs R (T + 1) st' := by
  unfold f__law_pick b__law_pick
  simp only [List.map_cons, List.map_nil, forS, setV, List.set_cons_succ, List.set_cons_zero, gv_bind, gv_seq, setS, Sh.retS, getV, List.getElem?_cons_succ, List.getElem?_cons_zero, gv_pure, mulD, addD, modD, Sh.intD, Sh.subD, Sh.divD, Sh.powD, arI, gv_guard, skipS, runB, Sh.envOf, par2S, par3S, gv_ifS, gv_eIf, gv_orB, gv_andB, asB, List.length_cons, List.length_nil, List.replicate, List.map, List.append_nil, List.cons_append, List.nil_append, setRefIt, ix_w, ix_c, ix_r, ix_t, pr_r, pr_t, eq_ii, ne_ii, appendS, lstOf, isNoneD, isND, id_eq, cmpI, gtI, leI, setOwnIt, true_and, wipeE, rng1, catD, negD, repD, ne_w, need_w, popRefM, pop_w, itemsD, Nat.reduceAdd, Nat.reduceSub, Int.reduceLT, lenV_lst, lenV_tup, lenV_str]
  have hp : 0 < xs.length := List.length_pos_iff.mpr h0
  refine M.gives_mono (take_g h hT (by omega) (by omega)) fun d st' ⟨i, e, a, b, c⟩ => ?_
  subst e
  obtain ⟨x, hx, hm⟩ := atI_mem a b
  show (ofO (atI xs i)).gives st' _
  rw [hx]
  simp only [ofO, List.map_cons, List.map_nil, forS, setV, List.set_cons_succ, List.set_cons_zero, gv_bind, gv_seq, setS, Sh.retS, getV, List.getElem?_cons_succ, List.getElem?_cons_zero, gv_pure, mulD, addD, modD, Sh.intD, Sh.subD, Sh.divD, Sh.powD, arI, gv_guard, skipS, runB, Sh.envOf, par2S, par3S, gv_ifS, gv_eIf, gv_orB, gv_andB, asB, List.length_cons, List.length_nil, List.replicate, List.map, List.append_nil, List.cons_append, List.nil_append, setRefIt, ix_w, ix_c, ix_r, ix_t, pr_r, pr_t, eq_ii, ne_ii, appendS, lstOf, isNoneD, isND, id_eq, cmpI, gtI, leI, setOwnIt, true_and, wipeE, rng1, catD, negD, repD, ne_w, need_w, popRefM, pop_w, itemsD, Nat.reduceAdd, Nat.reduceSub, Int.reduceLT, lenV_lst, lenV_tup, lenV_str]
  exact ⟨hm, c⟩
def lab : List Str := ["a", "b", "c", "yes", "no", "fail", "look", "deed", "and", "if", "over", "told", "zzzzzzzz", "nothing"]
theorem lab_nd : lab.Nodup := by decide +kernel
abbrev labB : MS := seqS (appendS 3 (eCall f__law_pick (lCons (eV 0) (lCons (eComp [5] (iSeq (eV 2)) (setV 5) (tB (e2 notInD (eV 5) (eV 3))) (eV 5)) lNil)))) skipS
structure LS (ss : List Str) : Prop where
  nd : ss.Nodup
  lab : ∀ s ∈ ss, s ∈ lab
theorem labels_loop {cs : List Int} {R : Sto} : ∀ (ds : List D) (ss : List Str) (T : Int) (st : Sto) (n x y : Option D) (P : Fl × Sh.Env → Sto → Prop), ss.length + ds.length ≤ 12 → LS ss → Dw cs R T st → T + ds.length < 2 ^ 39 →
    (∀ (ss' : List Str) st' x, ss'.length = ss.length + ds.length → LS ss' → Dw cs R (T + ds.length) st' → P (.nx, [some (.ref 1), n, some (.lst (lab.map .str)), some (.lst (ss'.map .str)), x, y]) st') →
    (forS (setV 4) labB ds [some (.ref 1), n, some (.lst (lab.map .str)), some (.lst (ss.map .str)), x, y]).gives st P
  | [], ss, T, st, n, x, y, P, _, hs, hd, _, h => h ss st x rfl hs (hd.up (by simp))
  | d :: ds, ss, T, st, n, x, y, P, hl, hs, hd, hT, h => by
    have hl' : ss.length + (ds.length + 1) ≤ 12 := by simpa using hl
    have hT' : T + (ds.length + 1) < 2 ^ 39 := by simpa using hT
    have ne : (Dr.lab.filter fun x => !decide (x ∈ ss)) ≠ [] := fun e => by
      have sub : Dr.lab ⊆ ss := fun x hx => by
        apply Classical.byContradiction
        intro q
        have : x ∈ Dr.lab.filter fun x => !decide (x ∈ ss) := List.mem_filter.mpr ⟨hx, by simp [q]⟩
        rw [e] at this
        simp at this
      have := List.Nodup.length_le_of_subset lab_nd sub
      have e2 : Dr.lab.length = 14 := rfl
      omega
    have hc := comp_notIn (i := 5) (m := tB (e2 notInD (eV 5) (eV 3))) (ss := ss) (ρ := [some (.ref 1), n, some (.lst (Dr.lab.map .str)), some (.lst (ss.map .str)), some d, none]) (fun x ρ' st e => by
      cases e
      have q := (notIn_strs (x := x) (ss := ss) (st := st) (P := fun d st' => d = .bl (!decide (x ∈ ss)) ∧ st' = st)).mpr ⟨rfl, rfl⟩
      obtain ⟨a, st', e1, e2, e3⟩ := M.gives_det q
      show (M.bind (notInD (.str x) (.lst (ss.map .str))) fun x => asB x) st = _
      unfold M.bind
      rw [e1, e2, e3]
      rfl) (fun x ρ' e => by cases e; rfl) Dr.lab st
    have hp := pick_g hd (by omega) (xs := (Dr.lab.filter fun x => !decide (x ∈ ss)).map .str) (by simpa using ne) (by
      have := List.length_filter_le (fun x => !decide (x ∈ ss)) Dr.lab
      rw [List.length_map]
      have e2 : Dr.lab.length = 14 := rfl
      omega)
    simp only [List.map_cons, List.map_nil, forS, setV, List.set_cons_succ, List.set_cons_zero, gv_bind, gv_seq, setS, Sh.retS, getV, List.getElem?_cons_succ, List.getElem?_cons_zero, gv_pure, mulD, addD, modD, Sh.intD, Sh.subD, Sh.divD, Sh.powD, arI, gv_guard, skipS, runB, Sh.envOf, par2S, par3S, gv_ifS, gv_eIf, gv_orB, gv_andB, asB, List.length_cons, List.length_nil, List.replicate, List.map, List.append_nil, List.cons_append, List.nil_append, setRefIt, ix_w, ix_c, ix_r, ix_t, pr_r, pr_t, eq_ii, ne_ii, appendS, lstOf, isNoneD, isND, id_eq, cmpI, gtI, leI, setOwnIt, true_and, wipeE, rng1, catD, negD, repD, ne_w, need_w, popRefM, pop_w, itemsD, Nat.reduceAdd, Nat.reduceSub, Int.reduceLT, lenV_lst, lenV_tup, lenV_str]
    rw [M.gives_ok hc]
    refine M.gives_mono hp fun e st' ⟨hm, hd'⟩ => ?_
    obtain ⟨s, hs', rfl⟩ := List.mem_map.mp hm
    refine ⟨by rw [List.length_map]; omega, ?_⟩
    have e4 : (ss.map D.str ++ [D.str s]) = (ss ++ [s]).map D.str := by simp
    rw [e4]
    have hs2 : LS (ss ++ [s]) := by
      have h1 := (List.mem_filter.mp hs')
      refine ⟨?_, fun x hx => ?_⟩
      · rw [List.nodup_append]
        refine ⟨hs.nd, by simp, fun a ha b hb => ?_⟩
        have e5 : b = s := by simpa using hb
        subst e5
        intro e6
        subst e6
        have := h1.2
        simp [ha] at this
      · rcases List.mem_append.mp hx with hx | hx
        · exact hs.lab x hx
        · have e5 : x = s := by simpa using hx
          rw [e5]
          exact h1.1
    refine labels_loop ds (ss ++ [s]) (T + 1) st' n _ y P (by simp; omega) hs2 hd' (by omega) fun ss' st2 x h1 h2 h3 => ?_
    exact h ss' st2 x (by simp at h1 ⊢; omega) h2 (h3.up (by simp; omega))
theorem labels_g {cs : List Int} {R : Sto} {T : Int} {st : Sto} (h : Dw cs R T st) (n : Int) (hn : 0 ≤ n) (hn2 : n ≤ 12) (hT : T + n < 2 ^ 39) : (f__law_labels [.ref 1, .int n]).gives st fun d st' => ∃ ss : List Str, d = .lst (ss.map .str) ∧ ss.length = n ∧ LS ss ∧ Dw cs R (T + n) st' := by
  unfold f__law_labels b__law_labels
  have hr : (rangeD 0 n).length = n.toNat := by simp [rangeD]
  have key := labels_loop (cs := cs) (R := R) (rangeD 0 n) [] T st (some (.int n)) none none (fun rr st' => (match rr.1 with | .nx => seqS (Sh.retS (eV 3)) skipS rr.2 | _ => pure rr : M (Fl × Sh.Env)).gives st' fun a st' => (match a.1, Kd.val with | .rt d, _ => pure d | .nx, .val => pure .non | _, _ => M.bad : M D).gives st' fun d st' => ∃ ss : List Str, d = .lst (ss.map .str) ∧ ss.length = n ∧ LS ss ∧ Dw cs R (T + n) st')
    (by rw [hr]; simp; omega) ⟨by simp, by simp⟩ h (by rw [hr]; omega) (fun ss' st' x h1 h2 h3 => by
      simp only [List.map_cons, List.map_nil, forS, setV, List.set_cons_succ, List.set_cons_zero, gv_bind, gv_seq, setS, Sh.retS, getV, List.getElem?_cons_succ, List.getElem?_cons_zero, gv_pure, mulD, addD, modD, Sh.intD, Sh.subD, Sh.divD, Sh.powD, arI, gv_guard, skipS, runB, Sh.envOf, par2S, par3S, gv_ifS, gv_eIf, gv_orB, gv_andB, asB, List.length_cons, List.length_nil, List.replicate, List.map, List.append_nil, List.cons_append, List.nil_append, setRefIt, ix_w, ix_c, ix_r, ix_t, pr_r, pr_t, eq_ii, ne_ii, appendS, lstOf, isNoneD, isND, id_eq, cmpI, gtI, leI, setOwnIt, true_and, wipeE, rng1, catD, negD, repD, ne_w, need_w, popRefM, pop_w, itemsD, Nat.reduceAdd, Nat.reduceSub, Int.reduceLT, lenV_lst, lenV_tup, lenV_str]
      exact ⟨ss', rfl, by rw [h1, hr]; simp; omega, h2, h3.up (by rw [hr]; omega)⟩)
  simp only [List.map_cons, List.map_nil, forS, setV, List.set_cons_succ, List.set_cons_zero, gv_bind, gv_seq, setS, Sh.retS, getV, List.getElem?_cons_succ, List.getElem?_cons_zero, gv_pure, mulD, addD, modD, Sh.intD, Sh.subD, Sh.divD, Sh.powD, arI, gv_guard, skipS, runB, Sh.envOf, par2S, par3S, gv_ifS, gv_eIf, gv_orB, gv_andB, asB, List.length_cons, List.length_nil, List.replicate, List.map, List.append_nil, List.cons_append, List.nil_append, setRefIt, ix_w, ix_c, ix_r, ix_t, pr_r, pr_t, eq_ii, ne_ii, appendS, lstOf, isNoneD, isND, id_eq, cmpI, gtI, leI, setOwnIt, true_and, wipeE, rng1, catD, negD, repD, ne_w, need_w, popRefM, pop_w, itemsD, Nat.reduceAdd, Nat.reduceSub, Int.reduceLT, lenV_lst, lenV_tup, lenV_str] at key ⊢
  exact ⟨by omega, key⟩
theorem gv_alloc {d : D} {st : Sto} {P : D → Sto → Prop} : (allocD d).gives st P ↔ P (.ref st.length) (st ++ [d]) := Iff.rfl
theorem Dw.app {cs : List Int} {R : Sto} {T : Int} {st : Sto} (h : Dw cs R T st) (d : D) : Dw cs (R ++ [d]) T (st ++ [d]) := by
  obtain ⟨ws, r, t, rfl, q⟩ := h
  exact ⟨ws, r, t, rfl, q⟩
theorem app_get {st : Sto} {d : D} : (st ++ [d])[st.length]? = some d := by simp
theorem app_set {st : Sto} {d e : D} : (st ++ [d]).set st.length e = st ++ [e] := by simp
def Itm (b k : Nat) (d : D) : Prop := d.g = true ∧ d.bk ≤ b ∧ d.dp ≤ k
def itB (b k : Nat) (d : D) : Bool := d.g && decide (d.bk ≤ b) && decide (d.dp ≤ k)
theorem itB_all {b k : Nat} {xs : List D} (h : xs.all (itB b k) = true) : ∀ d ∈ xs, Itm b k d := fun d hd => by
  have := List.all_eq_true.mp h d hd
  unfold itB at this
  simp only [Bool.and_eq_true, decide_eq_true_eq] at this
  exact ⟨this.1.1, this.1.2, this.2⟩
theorem Itm.up {b b' k k' : Nat} {d : D} (h : Itm b k d) (h1 : b ≤ b') (h2 : k ≤ k') : Itm b' k' d := ⟨h.1, Nat.le_trans h.2.1 h1, Nat.le_trans h.2.2 h2⟩
def oddL : List D := [.non, .bl true, .bl false, .int 0, .int 1, .int (-1), .int (10 ^ 20), .str "", .str "a", .str "yes", .str "deed", .tup [], .tup [.str "yes"], .tup [.str "over"], .lst [], .dic [], .tup [.tup []],
  .tup [.str "look", .str "a"], .tup [.str "do", .tup [.str "yes"]], .lst [.str "a"], .dic [(.str "a", .int 1)], .tup [.str "a", .bl true], .tup [.tup [], .tup []]]
theorem odd_ok : oddL.all (itB 20 3) = true := by decide +kernel
theorem odd_run {st : Sto} {P : D → Sto → Prop} (h : (f__law_pick [.ref 1, .lst oddL]).gives st P) : (f__law_odd [.ref 1]).gives st P := by
  unfold f__law_odd b__law_odd
  simp only [List.map_cons, List.map_nil, forS, setV, List.set_cons_succ, List.set_cons_zero, gv_bind, gv_seq, setS, Sh.retS, getV, List.getElem?_cons_succ, List.getElem?_cons_zero, gv_pure, mulD, addD, modD, Sh.intD, Sh.subD, Sh.divD, Sh.powD, arI, gv_guard, skipS, runB, Sh.envOf, par2S, par3S, gv_ifS, gv_eIf, gv_orB, gv_andB, asB, List.length_cons, List.length_nil, List.replicate, List.map, List.append_nil, List.cons_append, List.nil_append, setRefIt, ix_w, ix_c, ix_r, ix_t, pr_r, pr_t, eq_ii, ne_ii, appendS, lstOf, isNoneD, isND, id_eq, cmpI, gtI, leI, setOwnIt, true_and, wipeE, rng1, catD, negD, repD, ne_w, need_w, popRefM, pop_w, itemsD, Nat.reduceAdd, Nat.reduceSub, Int.reduceLT, lenV_lst, lenV_tup, lenV_str, dispD]
  refine ⟨by decide +kernel, by decide +kernel, ?_⟩
  exact ⟨by decide, h⟩
theorem odd_g {cs : List Int} {R : Sto} {T : Int} {st : Sto} (h : Dw cs R T st) (hT : T < 2 ^ 39) : (f__law_odd [.ref 1]).gives st fun d st' => Itm 20 3 d ∧ Dw cs R (T + 1) st' :=
  odd_run (M.gives_mono (pick_g h hT (xs := oddL) (by simp [oddL]) (by decide)) fun d st' ⟨hm, hd⟩ => ⟨itB_all odd_ok d hm, hd⟩)
/-- all of ds are good, together no more than b, none deeper than k -/
structure ItmL (b k : Nat) (ds : List D) : Prop where
  g : gL ds = true
  bk : bkL ds ≤ b
  dp : dpL ds ≤ k
theorem gL_app : ∀ {a b : List D}, gL (a ++ b) = (gL a && gL b)
  | [], b => rfl
  | x :: a, b => by
    show (x.g && gL (a ++ b)) = (x.g && gL a && gL b)
    rw [gL_app, Bool.and_assoc]
theorem bkL_app : ∀ {a b : List D}, bkL (a ++ b) = bkL a + bkL b
  | [], b => by simp [bkL]
  | x :: a, b => by
    show x.bk + 1 + bkL (a ++ b) = x.bk + 1 + bkL a + bkL b
    rw [bkL_app]
    omega
theorem dpL_app : ∀ {a b : List D}, dpL (a ++ b) = max (dpL a) (dpL b)
  | [], b => by simp [dpL]
  | x :: a, b => by
    show max x.dp (dpL (a ++ b)) = max (max x.dp (dpL a)) (dpL b)
    rw [dpL_app]
    omega
theorem ItmL.snoc {b c k : Nat} {ds : List D} {x : D} (h : ItmL b k ds) (hx : Itm c k x) : ItmL (b + c + 1) k (ds ++ [x]) := by
  refine ⟨?_, ?_, ?_⟩
  · rw [gL_app, h.g]
    show (true && (x.g && true)) = true
    rw [hx.1]; rfl
  · rw [bkL_app]
    show bkL ds + (x.bk + 1 + 0) ≤ _
    have := h.bk
    have := hx.2.1
    omega
  · rw [dpL_app]
    show max (dpL ds) (max x.dp 0) ≤ _
    have := h.dp
    have := hx.2.2
    omega
theorem ne_bb {a b : Bool} {st : Sto} {P : D → Sto → Prop} : (neD (.bl a) (.bl b)).gives st P ↔ P (.bl (!(a == b))) st := by cases a <;> cases b <;> exact Iff.rfl
theorem ne_ss {a b : Str} {st : Sto} {P : D → Sto → Prop} : (neD (.str a) (.str b)).gives st P ↔ P (.bl (!(a == b))) st := Iff.rfl
theorem isB_run {a b : Bool} {f : Bool → Bool} {st : Sto} {P : D → Sto → Prop} : (isBD f (.bl a) (.bl b)).gives st P ↔ P (.bl (f (decide (a = b)))) st := Iff.rfl
theorem comp_fm {α : Type} {i : Nat} {t : Sh.Env → M Bool} {e : Sh.Env → M D} {ρ : Sh.Env} {st : Sto} {g : α → D} {p : α → Bool} {f : α → D} : ∀ (xs : List α) (P : List D → Sto → Prop),
    (∀ x ∈ xs, ∀ P : Bool → Sto → Prop, P (p x) st → (t (ρ.set i (some (g x)))).gives st P) → (∀ x ∈ xs, p x = true → ∀ P : D → Sto → Prop, P (f x) st → (e (ρ.set i (some (g x)))).gives st P) → P ((xs.filter p).map f) st → (compD (setV i) t e ρ (xs.map g)).gives st P
  | [], P, _, _, h => h
  | x :: xs, P, ht, he, h => by
    rw [List.map_cons]
    unfold compD
    show M.gives (do let b ← t (ρ.set i (some (g x))); if b = true then (do let y ← e (ρ.set i (some (g x))); let r ← compD (setV i) t e ρ (xs.map g); pure (y :: r)) else compD (setV i) t e ρ (xs.map g)) st P
    rw [M.gives_bind]
    refine ht x List.mem_cons_self _ ?_
    cases hb : p x with
    | true =>
      rw [if_pos rfl, M.gives_bind]
      refine he x List.mem_cons_self hb _ ?_
      rw [M.gives_bind]
      refine comp_fm xs _ (fun y hy => ht y (List.mem_cons_of_mem _ hy)) (fun y hy => he y (List.mem_cons_of_mem _ hy)) ?_
      rw [List.filter_cons, if_pos hb] at h
      exact h
    | false =>
      rw [if_neg (by simp)]
      refine comp_fm xs _ (fun y hy => ht y (List.mem_cons_of_mem _ hy)) (fun y hy => he y (List.mem_cons_of_mem _ hy)) ?_
      rw [List.filter_cons, if_neg (by rw [hb]; simp)] at h
      exact h
def absI (i : Int) : Int := if i < 0 then -i else i
theorem absI_nn (i : Int) : 0 ≤ absI i := by unfold absI; split <;> omega
theorem begun_g {ns : List Int} {P : D → Sto → Prop} (hp : ∀ cs st, Dw cs [] 0 st → P (.ref 1) st) : (f__law_begun [.frl (ns.map .int)]).gives [] P := by
  unfold f__law_begun b__law_begun
  simp only [List.map_cons, List.map_nil, forS, setV, List.set_cons_succ, List.set_cons_zero, gv_bind, gv_seq, setS, Sh.retS, getV, List.getElem?_cons_succ, List.getElem?_cons_zero, gv_pure, mulD, addD, modD, Sh.intD, Sh.subD, Sh.divD, Sh.powD, arI, gv_guard, skipS, runB, Sh.envOf, par2S, par3S, gv_ifS, gv_eIf, gv_orB, gv_andB, asB, List.length_cons, List.length_nil, List.replicate, List.map, List.append_nil, List.cons_append, List.nil_append, setRefIt, ix_w, ix_c, ix_r, ix_t, pr_r, pr_t, eq_ii, ne_ii, appendS, lstOf, isNoneD, isND, id_eq, cmpI, gtI, leI, setOwnIt, true_and, wipeE, rng1, catD, negD, repD, ne_w, need_w, popRefM, pop_w, itemsD, Nat.reduceAdd, Nat.reduceSub, Int.reduceLT, lenV_lst, lenV_tup, lenV_str]
  refine comp_fm (g := D.int) (p := fun i => geI (absI i) (10 ^ 18)) (f := fun i => D.int (absI i - 10 ^ 18)) ns _ (fun x _ P hP => ?_) (fun x _ _ P hP => ?_) ?_
  · simp only [List.map_cons, List.map_nil, forS, setV, List.set_cons_succ, List.set_cons_zero, gv_bind, gv_seq, setS, Sh.retS, getV, List.getElem?_cons_succ, List.getElem?_cons_zero, gv_pure, mulD, addD, modD, Sh.intD, Sh.subD, Sh.divD, Sh.powD, arI, gv_guard, skipS, runB, Sh.envOf, par2S, par3S, gv_ifS, gv_eIf, gv_orB, gv_andB, asB, List.length_cons, List.length_nil, List.replicate, List.map, List.append_nil, List.cons_append, List.nil_append, setRefIt, ix_w, ix_c, ix_r, ix_t, pr_r, pr_t, eq_ii, ne_ii, appendS, lstOf, isNoneD, isND, id_eq, cmpI, gtI, leI, setOwnIt, true_and, wipeE, rng1, catD, negD, repD, ne_w, need_w, popRefM, pop_w, itemsD, Nat.reduceAdd, Nat.reduceSub, Int.reduceLT, lenV_lst, lenV_tup, lenV_str, absD]
    exact ⟨by decide +kernel, hP⟩
  · simp only [List.map_cons, List.map_nil, forS, setV, List.set_cons_succ, List.set_cons_zero, gv_bind, gv_seq, setS, Sh.retS, getV, List.getElem?_cons_succ, List.getElem?_cons_zero, gv_pure, mulD, addD, modD, Sh.intD, Sh.subD, Sh.divD, Sh.powD, arI, gv_guard, skipS, runB, Sh.envOf, par2S, par3S, gv_ifS, gv_eIf, gv_orB, gv_andB, asB, List.length_cons, List.length_nil, List.replicate, List.map, List.append_nil, List.cons_append, List.nil_append, setRefIt, ix_w, ix_c, ix_r, ix_t, pr_r, pr_t, eq_ii, ne_ii, appendS, lstOf, isNoneD, isND, id_eq, cmpI, gtI, leI, setOwnIt, true_and, wipeE, rng1, catD, negD, repD, ne_w, need_w, popRefM, pop_w, itemsD, Nat.reduceAdd, Nat.reduceSub, Int.reduceLT, lenV_lst, lenV_tup, lenV_str, absD]
    exact ⟨by decide +kernel, hP⟩
  rw [gv_alloc]
  simp only [List.map_cons, List.map_nil, forS, setV, List.set_cons_succ, List.set_cons_zero, gv_bind, gv_seq, setS, Sh.retS, getV, List.getElem?_cons_succ, List.getElem?_cons_zero, gv_pure, mulD, addD, modD, Sh.intD, Sh.subD, Sh.divD, Sh.powD, arI, gv_guard, skipS, runB, Sh.envOf, par2S, par3S, gv_ifS, gv_eIf, gv_orB, gv_andB, asB, List.length_cons, List.length_nil, List.replicate, List.map, List.append_nil, List.cons_append, List.nil_append, setRefIt, ix_w, ix_c, ix_r, ix_t, pr_r, pr_t, eq_ii, ne_ii, appendS, lstOf, isNoneD, isND, id_eq, cmpI, gtI, leI, setOwnIt, true_and, wipeE, rng1, catD, negD, repD, ne_w, need_w, popRefM, pop_w, itemsD, Nat.reduceAdd, Nat.reduceSub, Int.reduceLT, lenV_lst, lenV_tup, lenV_str]
  refine comp_fm (g := D.int) (p := fun _ => true) (f := fun i => D.int (absI i % 2147483629)) ns _ (fun x _ P hP => hP) (fun x _ _ P hP => ?_) ?_
  · simp only [List.map_cons, List.map_nil, forS, setV, List.set_cons_succ, List.set_cons_zero, gv_bind, gv_seq, setS, Sh.retS, getV, List.getElem?_cons_succ, List.getElem?_cons_zero, gv_pure, mulD, addD, modD, Sh.intD, Sh.subD, Sh.divD, Sh.powD, arI, gv_guard, skipS, runB, Sh.envOf, par2S, par3S, gv_ifS, gv_eIf, gv_orB, gv_andB, asB, List.length_cons, List.length_nil, List.replicate, List.map, List.append_nil, List.cons_append, List.nil_append, setRefIt, ix_w, ix_c, ix_r, ix_t, pr_r, pr_t, eq_ii, ne_ii, appendS, lstOf, isNoneD, isND, id_eq, cmpI, gtI, leI, setOwnIt, true_and, wipeE, rng1, catD, negD, repD, ne_w, need_w, popRefM, pop_w, itemsD, Nat.reduceAdd, Nat.reduceSub, Int.reduceLT, lenV_lst, lenV_tup, lenV_str, absD]
    exact ⟨modC_ok (by decide), hP⟩
  have hk : ∀ a b c d : D, keysOk [(D.str (Str.ofString "wide"), a), (D.str (Str.ofString "cells"), b), (D.str (Str.ofString "rest"), c), (D.str (Str.ofString "turn"), d)] = true := fun a b c d => by
    have n1 := n_wr
    have n2 := n_wc
    have n3 := n_wt
    have n4 := n_cr
    have n5 := n_ct
    have n6 := n_rt
    rfl
  unfold dispD
  rw [hk, if_pos (by rfl)]
  simp only [List.map_cons, List.map_nil, forS, setV, List.set_cons_succ, List.set_cons_zero, gv_bind, gv_seq, setS, Sh.retS, getV, List.getElem?_cons_succ, List.getElem?_cons_zero, gv_pure, mulD, addD, modD, Sh.intD, Sh.subD, Sh.divD, Sh.powD, arI, gv_guard, skipS, runB, Sh.envOf, par2S, par3S, gv_ifS, gv_eIf, gv_orB, gv_andB, asB, List.length_cons, List.length_nil, List.replicate, List.map, List.append_nil, List.cons_append, List.nil_append, setRefIt, ix_w, ix_c, ix_r, ix_t, pr_r, pr_t, eq_ii, ne_ii, appendS, lstOf, isNoneD, isND, id_eq, cmpI, gtI, leI, setOwnIt, true_and, wipeE, rng1, catD, negD, repD, ne_w, need_w, popRefM, pop_w, itemsD, Nat.reduceAdd, Nat.reduceSub, Int.reduceLT, lenV_lst, lenV_tup, lenV_str]
  rw [gv_alloc]
  have hf : (ns.filter fun _ => true) = ns := List.filter_eq_self.mpr (by simp)
  rw [hf]
  refine hp (ns.map fun i => absI i % 2147483629) _ ⟨(ns.filter fun i => geI (absI i) (10 ^ 18)).map fun i => absI i - 10 ^ 18, 0, 0, ?_, ?_, ?_, Int.le_refl _, Int.le_refl _, Int.le_refl _⟩
  · unfold dst drw
    rw [List.map_map, List.map_map]
    rfl
  · intro w hw
    obtain ⟨i, hi, rfl⟩ := List.mem_map.mp hw
    have := (List.mem_filter.mp hi).2
    unfold geI at this
    have := of_decide_eq_true this
    omega
  · intro c hc
    obtain ⟨i, hi, rfl⟩ := List.mem_map.mp hc
    exact Int.emod_nonneg _ (by decide)
end Dr
namespace Dr
open PySem PySem.Spec PyProof.Rows L2 Sh
/-! ### names -/
def abc : List Nat := ("abcdefghijklmnopqrstuvwxyz" : Str).cps.toList
def nameS (s : Str) : Bool := decide (1 ≤ s.length) && decide (s.length ≤ 8) && s.cps.toList.all fun c => decide (c ∈ abc)
def nameB : D → Bool
  | .str s => nameS s
  | _ => false
theorem isi_run {T : String} {x : D} {a : String} (h : x.tyN = some a) {st : Sto} {P : D → Sto → Prop} : (isiD T x).gives st P ↔ P (.bl (isT a T)) st := by
  unfold isiD
  rw [M.gives_bind]
  have hv : view x = (pure x : M D) := by cases x <;> first | rfl | cases h
  rw [hv]
  show M.gives (match x.tyN with | some a => pure (D.bl (isT a T)) | none => M.bad) st P ↔ _
  rw [h]
  exact Iff.rfl
theorem comp_in (ρ : Sh.Env) {i : Nat} (hi : ∀ x, getV (ρ.set i (some x)) i = (pure x : M D)) : ∀ (cs : List Nat) (st : Sto), compD (setV i) (eC (.bl true) |> fun _ => Sh.tYes) (e2 inD (eV i) (eC c_LETTERS)) ρ (cs.map fun c => .str ⟨#[c]⟩) st = .ok (cs.map fun c => .bl (decide (c ∈ abc))) st
  | [], st => rfl
  | c :: cs, st => by
    have ih := comp_in ρ hi cs st
    rw [List.map_cons, List.map_cons]
    unfold compD
    show M.bind (do let x ← getV (ρ.set i (some (.str ⟨#[c]⟩))) i; inD x c_LETTERS) (fun y => do let r ← compD (setV i) Sh.tYes (e2 inD (eV i) (eC c_LETTERS)) ρ (cs.map fun c => .str ⟨#[c]⟩); pure (y :: r)) st = _
    rw [hi]
    show M.bind (compD (setV i) Sh.tYes (e2 inD (eV i) (eC c_LETTERS)) ρ (cs.map fun c => .str ⟨#[c]⟩)) (fun r => pure (D.bl (decide (c ∈ abc)) :: r)) st = _
    unfold M.bind
    rw [show compD (setV i) Sh.tYes (e2 inD (eV i) (eC c_LETTERS)) ρ (cs.map fun c => .str ⟨#[c]⟩) st = _ from ih]
    rfl
theorem bls_map : ∀ bs : List Bool, blsOf (bs.map .bl) = some bs
  | [] => rfl
  | b :: bs => by
    rw [List.map_cons]
    unfold blsOf
    rw [bls_map bs]
theorem gv_andD {m n : Sh.Env → M D} {ρ : Sh.Env} {st : Sto} {P : D → Sto → Prop} : (andD m n ρ).gives st P ↔ (m ρ).gives st fun x st' => (asB x).gives st' fun b st' => (b = true → (n ρ).gives st' P) ∧ (b = false → P (.bl false) st') := by
  unfold andD
  simp only [gv_bind, gv_cond, gv_pure]
theorem gv_orD {m n : Sh.Env → M D} {ρ : Sh.Env} {st : Sto} {P : D → Sto → Prop} : (orD m n ρ).gives st P ↔ (m ρ).gives st fun x st' => (asB x).gives st' fun b st' => (b = true → P (.bl true) st') ∧ (b = false → (n ρ).gives st' P) := by
  unfold orD
  simp only [gv_bind, gv_cond, gv_pure]
theorem gv_chainD {g g2 : D → D → M D} {ma mb mc : Sh.Env → M D} {ρ : Sh.Env} {st : Sto} {P : D → Sto → Prop} : (chainD g g2 ma mb mc ρ).gives st P ↔ (ma ρ).gives st fun x st' => (mb ρ).gives st' fun y st' => (g x y).gives st' fun t st' => (asB t).gives st' fun k st' => (k = true → (mc ρ).gives st' fun z st' => (g2 y z).gives st' P) ∧ (k = false → P (.bl false) st') := by
  unfold chainD
  simp only [gv_bind, gv_cond, gv_pure]
theorem all_bls {bs : List Bool} {st : Sto} {P : D → Sto → Prop} : (quantD allB (.lst (bs.map .bl))).gives st P ↔ P (.bl (bs.all id)) st := by
  show (match blsOf (bs.map .bl) with | some bs => pure (D.bl (allB bs)) | none => M.bad : M D).gives st P ↔ _
  rw [bls_map]
  exact Iff.rfl
theorem s_no : ∀ a ∈ ["NoneType", "bool", "int", "list", "tuple", "dict"], isT a "str" = false := by decide
theorem s_yes : isT "str" "str" = true := by decide
theorem name_str {s : Str} {st : Sto} {P : D → Sto → Prop} (h : P (.bl (nameS s)) st) : (f_is_name [.str s]).gives st P := by
  unfold f_is_name b_is_name
  have hc := comp_in [some (.str s), none] (i := 1) (fun x => rfl) s.cps.toList st
  have hc' : compD (setV 1) Sh.tYes (e2 inD (eV 1) (eC c_LETTERS)) [some (.str s), none] (s.cps.toList.map fun c => .str ⟨#[c]⟩) st = .ok (s.cps.toList.map fun c => .bl (decide (c ∈ abc))) st := hc
  simp only [List.map_cons, List.map_nil, forS, setV, List.set_cons_succ, List.set_cons_zero, gv_bind, gv_seq, setS, Sh.retS, getV, List.getElem?_cons_succ, List.getElem?_cons_zero, gv_pure, mulD, addD, modD, Sh.intD, Sh.subD, Sh.divD, Sh.powD, arI, gv_guard, skipS, runB, Sh.envOf, par2S, par3S, gv_ifS, gv_eIf, gv_orB, gv_andB, asB, List.length_cons, List.length_nil, List.replicate, List.map, List.append_nil, List.cons_append, List.nil_append, setRefIt, ix_w, ix_c, ix_r, ix_t, pr_r, pr_t, eq_ii, ne_ii, appendS, lstOf, isNoneD, isND, id_eq, cmpI, gtI, leI, setOwnIt, true_and, wipeE, rng1, catD, negD, repD, ne_w, need_w, popRefM, pop_w, itemsD, Nat.reduceAdd, Nat.reduceSub, Int.reduceLT, lenV_lst, lenV_tup, lenV_str, gv_andD, gv_chainD, isi_run (x := .str s) (a := "str") rfl, s_yes]
  unfold nameS at h
  refine ⟨fun _ => ?_, fun e => (by cases e)⟩
  by_cases h1 : 1 ≤ s.length
  · have q1 : decide ((1 : Int) ≤ s.length) = true := decide_eq_true (by omega)
    by_cases h2 : s.length ≤ 8
    · have q2 : decide ((s.length : Int) ≤ 8) = true := decide_eq_true (by omega)
      simp only [q1, q2]
      refine ⟨fun _ => ⟨fun _ => ?_, fun e => (by cases e)⟩, fun e => (by cases e)⟩
      show (compD (setV 1) Sh.tYes (e2 inD (eV 1) (eC c_LETTERS)) [some (.str s), none] (s.cps.toList.map fun c => .str ⟨#[c]⟩)).gives st _
      rw [M.gives_ok hc']
      have e3 : (s.cps.toList.map fun c => D.bl (decide (c ∈ abc))) = (s.cps.toList.map fun c => decide (c ∈ abc)).map D.bl := by rw [List.map_map]; rfl
      rw [e3, all_bls]
      rw [List.all_map]
      rw [decide_eq_true h1, decide_eq_true h2] at h
      exact h
    · have q2 : decide ((s.length : Int) ≤ 8) = false := decide_eq_false (by omega)
      simp only [q1, q2]
      refine ⟨fun _ => ⟨fun e => (by cases e), fun _ => ?_⟩, fun e => (by cases e)⟩
      rw [decide_eq_false h2] at h
      simpa using h
  · have q1 : decide ((1 : Int) ≤ s.length) = false := decide_eq_false (by omega)
    simp only [q1]
    refine ⟨fun e => (by cases e), fun _ => ⟨fun e => (by cases e), fun _ => ?_⟩⟩
    rw [decide_eq_false h1] at h
    simpa using h
theorem g_ty {x : D} (hx : x.g = true) : ∃ a ∈ ["NoneType", "bool", "int", "str", "list", "tuple", "dict"], x.tyN = some a := by
  cases x <;> first | (cases hx; done) | exact ⟨_, by simp, rfl⟩
theorem eq_ss {a b : Str} {st : Sto} {P : D → Sto → Prop} : (eqD (.str a) (.str b)).gives st P ↔ P (.bl (a == b)) st := Iff.rfl
theorem ix0 {y : D} {r : List D} {st : Sto} {P : D → Sto → Prop} : (ixD (.tup (y :: r)) (.int 0)).gives st P ↔ P y st := by
  show (ofO (atI (y :: r) 0)).gives st P ↔ _
  have : atI (y :: r) 0 = some y := by
    unfold atI ixN
    rw [if_pos (by decide), if_pos (by simp only [List.length_cons]; omega)]
    rfl
  rw [this]
  exact Iff.rfl
theorem ix1 {y z : D} {r : List D} {st : Sto} {P : D → Sto → Prop} : (ixD (.tup (y :: z :: r)) (.int 1)).gives st P ↔ P z st := by
  show (ofO (atI (y :: z :: r) 1)).gives st P ↔ _
  have : atI (y :: z :: r) 1 = some z := by
    unfold atI ixN
    rw [if_pos (by decide), if_pos (by simp only [List.length_cons]; omega)]
    rfl
  rw [this]
  exact Iff.rfl
def isBl : D → Bool
  | .bl _ => true
  | _ => false
theorem bl_run {x : D} (hx : x.g = true) {st : Sto} {P : D → Sto → Prop} : (isiD "bool" x).gives st P ↔ P (.bl (isBl x)) st := by
  obtain ⟨a, ha, ht⟩ := g_ty hx
  rw [isi_run ht]
  have : isT a "bool" = isBl x := by
    have t : ∀ a ∈ ["NoneType", "int", "str", "list", "tuple", "dict"], isT a "bool" = false := by decide
    have t2 : isT "bool" "bool" = true := by decide
    cases x <;> first | (cases hx; done) | (cases ht; exact t _ (by simp)) | (cases ht; exact t2)
  rw [this]

def isSt : D → Bool
  | .str _ => true
  | _ => false
def isTu : D → Bool
  | .tup _ => true
  | _ => false
theorem st_run {x : D} (hx : x.g = true) {st : Sto} {P : D → Sto → Prop} : (isiD "str" x).gives st P ↔ P (.bl (isSt x)) st := by
  obtain ⟨a, ha, ht⟩ := g_ty hx
  rw [isi_run ht]
  have : isT a "str" = isSt x := by
    have t2 : isT "str" "str" = true := by decide
    cases x <;> first | (cases hx; done) | (cases ht; exact s_no _ (by simp)) | (cases ht; exact t2)
  rw [this]
theorem tu_run {x : D} (hx : x.g = true) {st : Sto} {P : D → Sto → Prop} : (isiD "tuple" x).gives st P ↔ P (.bl (isTu x)) st := by
  obtain ⟨a, ha, ht⟩ := g_ty hx
  rw [isi_run ht]
  have : isT a "tuple" = isTu x := by
    have t : ∀ a ∈ ["NoneType", "bool", "int", "str", "list", "dict"], isT a "tuple" = false := by decide
    have t2 : isT "tuple" "tuple" = true := by decide
    cases x <;> first | (cases hx; done) | (cases ht; exact t _ (by simp)) | (cases ht; exact t2)
  rw [this]
/-! ### the same, told by if -/
theorem gi_andD {m n : Sh.Env → M D} {ρ : Sh.Env} {st : Sto} {P : D → Sto → Prop} : (andD m n ρ).gives st P ↔ (m ρ).gives st fun x st' => (asB x).gives st' fun b st' => if b = true then (n ρ).gives st' P else P (.bl false) st' := by
  rw [gv_andD]
  have e : ∀ (b : Bool) (A B : Prop), ((b = true → A) ∧ (b = false → B)) = if b = true then A else B := fun b A B => by cases b <;> simp
  simp only [e]
theorem gi_orD {m n : Sh.Env → M D} {ρ : Sh.Env} {st : Sto} {P : D → Sto → Prop} : (orD m n ρ).gives st P ↔ (m ρ).gives st fun x st' => (asB x).gives st' fun b st' => if b = true then P (.bl true) st' else (n ρ).gives st' P := by
  rw [gv_orD]
  have e : ∀ (b : Bool) (A B : Prop), ((b = true → A) ∧ (b = false → B)) = if b = true then A else B := fun b A B => by cases b <;> simp
  simp only [e]
theorem gi_ifS {c : Sh.Env → M Bool} {x y : MS} {ρ : Sh.Env} {st : Sto} {P : Fl × Sh.Env → Sto → Prop} : (ifS c x y ρ).gives st P ↔ (c ρ).gives st fun t st' => if t = true then (x ρ).gives st' P else (y ρ).gives st' P := by
  rw [gv_ifS]
  have e : ∀ (b : Bool) (A B : Prop), ((b = true → A) ∧ (b = false → B)) = if b = true then A else B := fun b A B => by cases b <;> simp
  simp only [e]
theorem gi_eIf {c : Sh.Env → M Bool} {x y : Sh.Env → M D} {ρ : Sh.Env} {st : Sto} {P : D → Sto → Prop} : (eIf c x y ρ).gives st P ↔ (c ρ).gives st fun t st' => if t = true then (x ρ).gives st' P else (y ρ).gives st' P := by
  rw [gv_eIf]
  have e : ∀ (b : Bool) (A B : Prop), ((b = true → A) ∧ (b = false → B)) = if b = true then A else B := fun b A B => by cases b <;> simp
  simp only [e]
theorem gi_orB {m n : Sh.Env → M Bool} {ρ : Sh.Env} {st : Sto} {P : Bool → Sto → Prop} : (orB m n ρ).gives st P ↔ (m ρ).gives st fun b st' => if b = true then P true st' else (n ρ).gives st' P := by
  rw [gv_orB]
  have e : ∀ (b : Bool) (A B : Prop), ((b = true → A) ∧ (b = false → B)) = if b = true then A else B := fun b A B => by cases b <;> simp
  simp only [e]
theorem gi_andB {m n : Sh.Env → M Bool} {ρ : Sh.Env} {st : Sto} {P : Bool → Sto → Prop} : (andB m n ρ).gives st P ↔ (m ρ).gives st fun b st' => if b = true then (n ρ).gives st' P else P false st' := by
  rw [gv_andB]
  have e : ∀ (b : Bool) (A B : Prop), ((b = true → A) ∧ (b = false → B)) = if b = true then A else B := fun b A B => by cases b <;> simp
  simp only [e]
theorem gi_chainD {g g2 : D → D → M D} {ma mb mc : Sh.Env → M D} {ρ : Sh.Env} {st : Sto} {P : D → Sto → Prop} : (chainD g g2 ma mb mc ρ).gives st P ↔ (ma ρ).gives st fun x st' => (mb ρ).gives st' fun y st' => (g x y).gives st' fun t st' => (asB t).gives st' fun k st' => if k = true then (mc ρ).gives st' fun z st' => (g2 y z).gives st' P else P (.bl false) st' := by
  rw [gv_chainD]
  have e : ∀ (b : Bool) (A B : Prop), ((b = true → A) ∧ (b = false → B)) = if b = true then A else B := fun b A B => by cases b <;> simp
  simp only [e]
theorem lt_ii {i j : Int} {st : Sto} {P : D → Sto → Prop} : (ltD (.int i) (.int j)).gives st P ↔ P (.bl (decide (i < j))) st := Iff.rfl
theorem asB_bl {b : Bool} {st : Sto} {P : Bool → Sto → Prop} : (asB (.bl b)).gives st P ↔ P b st := Iff.rfl
theorem ixAt {ds : List D} {i : Int} {d : D} (h : atI ds i = some d) {st : Sto} {P : D → Sto → Prop} : (ixD (.tup ds) (.int i)).gives st P ↔ P d st := by
  show (ofO (atI ds i)).gives st P ↔ _
  rw [h]
  exact Iff.rfl
theorem at2 {x y z : D} {r : List D} : atI (x :: y :: z :: r) 2 = some z := by
  unfold atI ixN
  rw [if_pos (by decide), if_pos (by simp only [List.length_cons]; omega)]
  rfl
theorem at3 {x y z w : D} {r : List D} : atI (x :: y :: z :: w :: r) 3 = some w := by
  unfold atI ixN
  rw [if_pos (by decide), if_pos (by simp only [List.length_cons]; omega)]
  rfl
theorem at4 {x y z w v : D} {r : List D} : atI (x :: y :: z :: w :: v :: r) 4 = some v := by
  unfold atI ixN
  rw [if_pos (by decide), if_pos (by simp only [List.length_cons]; omega)]
  rfl
theorem ix2 {x y z : D} {r : List D} {st : Sto} {P : D → Sto → Prop} : (ixD (.tup (x :: y :: z :: r)) (.int 2)).gives st P ↔ P z st := ixAt at2
theorem ix3 {x y z w : D} {r : List D} {st : Sto} {P : D → Sto → Prop} : (ixD (.tup (x :: y :: z :: w :: r)) (.int 3)).gives st P ↔ P w st := ixAt at3
theorem ix4 {x y z w v : D} {r : List D} {st : Sto} {P : D → Sto → Prop} : (ixD (.tup (x :: y :: z :: w :: v :: r)) (.int 4)).gives st P ↔ P v st := ixAt at4
/-! ### facts -/
def isW (ss : List Str) : D → Bool
  | .str s => decide (s ∈ ss)
  | _ => false
def Sq (L : D) (ss : List Str) : Prop := L = .lst (ss.map .str) ∨ L = .tup (ss.map .str)
theorem in_sq {ss : List Str} {L : D} (hL : Sq L ss) {s : Str} {st : Sto} {P : D → Sto → Prop} : (inD (.str s) L).gives st P ↔ P (.bl (decide (s ∈ ss))) st := by
  rcases hL with rfl | rfl
  · show (optB id (inSeq (.str s) (ss.map .str))).gives st P ↔ _
    rw [inSeq_strs]
    exact Iff.rfl
  · show (optB id (inSeq (.str s) (ss.map .str))).gives st P ↔ _
    rw [inSeq_strs]
    exact Iff.rfl
theorem one_g {ss : List Str} {d L : D} (hd : d.g = true) (hL : Sq L ss) {st : Sto} {P : D → Sto → Prop} : (f_is_one_of [d, L]).gives st P ↔ P (.bl (isW ss d)) st := by
  unfold f_is_one_of b_is_one_of
  simp only [List.map_cons, List.map_nil, forS, setV, List.set_cons_succ, List.set_cons_zero, gv_bind, gv_seq, setS, Sh.retS, getV, List.getElem?_cons_succ, List.getElem?_cons_zero, gv_pure, mulD, addD, modD, Sh.intD, Sh.subD, Sh.divD, Sh.powD, arI, gv_guard, skipS, runB, Sh.envOf, par2S, par3S, List.length_cons, List.length_nil, List.replicate, List.map, List.append_nil, List.cons_append, List.nil_append, setRefIt, ix_w, ix_c, ix_r, ix_t, pr_r, pr_t, eq_ii, ne_ii, appendS, lstOf, isNoneD, isND, id_eq, cmpI, gtI, leI, setOwnIt, true_and, wipeE, rng1, catD, negD, repD, ne_w, need_w, popRefM, pop_w, itemsD, Nat.reduceAdd, Nat.reduceSub, Int.reduceLT, lenV_lst, lenV_tup, lenV_str, gi_andD, gi_orD, gi_ifS, gi_eIf, gi_orB, gi_andB, gi_chainD, asB_bl, eq_ss, lt_ii, ne_ss, st_run hd]
  cases d <;> first | (cases hd; done) | (simp only [isSt, isW, Bool.false_eq_true, if_false]; done) | (simp only [isSt, isW, if_true, in_sq hL])
def isTold (ls : List Str) : D → Bool
  | .tup [x, .bl _] => isW ls x
  | _ => false
theorem told_g {ss : List Str} {d L : D} (hd : d.g = true) (hL : Sq L ss) {st : Sto} {P : D → Sto → Prop} : (f_is_told [L, d]).gives st P ↔ P (.bl (isTold ss d)) st := by
  unfold f_is_told b_is_told
  simp only [List.map_cons, List.map_nil, forS, setV, List.set_cons_succ, List.set_cons_zero, gv_bind, gv_seq, setS, Sh.retS, getV, List.getElem?_cons_succ, List.getElem?_cons_zero, gv_pure, mulD, addD, modD, Sh.intD, Sh.subD, Sh.divD, Sh.powD, arI, gv_guard, skipS, runB, Sh.envOf, par2S, par3S, List.length_cons, List.length_nil, List.replicate, List.map, List.append_nil, List.cons_append, List.nil_append, setRefIt, ix_w, ix_c, ix_r, ix_t, pr_r, pr_t, eq_ii, ne_ii, appendS, lstOf, isNoneD, isND, id_eq, cmpI, gtI, leI, setOwnIt, true_and, wipeE, rng1, catD, negD, repD, ne_w, need_w, popRefM, pop_w, itemsD, Nat.reduceAdd, Nat.reduceSub, Int.reduceLT, lenV_lst, lenV_tup, lenV_str, gi_andD, gi_orD, gi_ifS, gi_eIf, gi_orB, gi_andB, gi_chainD, asB_bl, eq_ss, lt_ii, ne_ss, tu_run hd]
  by_cases ht : isTu d = true
  · cases d <;> try (cases ht; done)
    rename_i ds
    rcases ds with _ | ⟨x, _ | ⟨y, _ | ⟨z, r⟩⟩⟩
    · simp only [List.map_cons, List.map_nil, forS, setV, List.set_cons_succ, List.set_cons_zero, gv_bind, gv_seq, setS, Sh.retS, getV, List.getElem?_cons_succ, List.getElem?_cons_zero, gv_pure, mulD, addD, modD, Sh.intD, Sh.subD, Sh.divD, Sh.powD, arI, gv_guard, skipS, runB, Sh.envOf, par2S, par3S, List.length_cons, List.length_nil, List.replicate, List.map, List.append_nil, List.cons_append, List.nil_append, setRefIt, ix_w, ix_c, ix_r, ix_t, pr_r, pr_t, eq_ii, ne_ii, appendS, lstOf, isNoneD, isND, id_eq, cmpI, gtI, leI, setOwnIt, true_and, wipeE, rng1, catD, negD, repD, ne_w, need_w, popRefM, pop_w, itemsD, Nat.reduceAdd, Nat.reduceSub, Int.reduceLT, lenV_lst, lenV_tup, lenV_str, gi_andD, gi_orD, gi_ifS, gi_eIf, gi_orB, gi_andB, gi_chainD, asB_bl, eq_ss, lt_ii, ne_ss, isTu, isTold, if_true]
      exact Iff.rfl
    · simp only [List.map_cons, List.map_nil, forS, setV, List.set_cons_succ, List.set_cons_zero, gv_bind, gv_seq, setS, Sh.retS, getV, List.getElem?_cons_succ, List.getElem?_cons_zero, gv_pure, mulD, addD, modD, Sh.intD, Sh.subD, Sh.divD, Sh.powD, arI, gv_guard, skipS, runB, Sh.envOf, par2S, par3S, List.length_cons, List.length_nil, List.replicate, List.map, List.append_nil, List.cons_append, List.nil_append, setRefIt, ix_w, ix_c, ix_r, ix_t, pr_r, pr_t, eq_ii, ne_ii, appendS, lstOf, isNoneD, isND, id_eq, cmpI, gtI, leI, setOwnIt, true_and, wipeE, rng1, catD, negD, repD, ne_w, need_w, popRefM, pop_w, itemsD, Nat.reduceAdd, Nat.reduceSub, Int.reduceLT, lenV_lst, lenV_tup, lenV_str, gi_andD, gi_orD, gi_ifS, gi_eIf, gi_orB, gi_andB, gi_chainD, asB_bl, eq_ss, lt_ii, ne_ss, isTu, isTold, if_true]
      exact Iff.rfl
    · have hd : (x.g && (y.g && true)) = true := hd
      simp only [Bool.and_eq_true] at hd
      simp only [List.map_cons, List.map_nil, forS, setV, List.set_cons_succ, List.set_cons_zero, gv_bind, gv_seq, setS, Sh.retS, getV, List.getElem?_cons_succ, List.getElem?_cons_zero, gv_pure, mulD, addD, modD, Sh.intD, Sh.subD, Sh.divD, Sh.powD, arI, gv_guard, skipS, runB, Sh.envOf, par2S, par3S, List.length_cons, List.length_nil, List.replicate, List.map, List.append_nil, List.cons_append, List.nil_append, setRefIt, ix_w, ix_c, ix_r, ix_t, pr_r, pr_t, eq_ii, ne_ii, appendS, lstOf, isNoneD, isND, id_eq, cmpI, gtI, leI, setOwnIt, true_and, wipeE, rng1, catD, negD, repD, ne_w, need_w, popRefM, pop_w, itemsD, Nat.reduceAdd, Nat.reduceSub, Int.reduceLT, lenV_lst, lenV_tup, lenV_str, gi_andD, gi_orD, gi_ifS, gi_eIf, gi_orB, gi_andB, gi_chainD, asB_bl, eq_ss, lt_ii, ne_ss, isTu, if_true, ix0, one_g hd.1 hL, ix1, bl_run hd.2.1]
      rw [if_pos (by rfl)]
      cases y <;> first | (cases hd.2.1; done) | (simp only [isBl, isTold]; cases isW ss x <;> simp)
    · simp only [List.map_cons, List.map_nil, forS, setV, List.set_cons_succ, List.set_cons_zero, gv_bind, gv_seq, setS, Sh.retS, getV, List.getElem?_cons_succ, List.getElem?_cons_zero, gv_pure, mulD, addD, modD, Sh.intD, Sh.subD, Sh.divD, Sh.powD, arI, gv_guard, skipS, runB, Sh.envOf, par2S, par3S, List.length_cons, List.length_nil, List.replicate, List.map, List.append_nil, List.cons_append, List.nil_append, setRefIt, ix_w, ix_c, ix_r, ix_t, pr_r, pr_t, eq_ii, ne_ii, appendS, lstOf, isNoneD, isND, id_eq, cmpI, gtI, leI, setOwnIt, true_and, wipeE, rng1, catD, negD, repD, ne_w, need_w, popRefM, pop_w, itemsD, Nat.reduceAdd, Nat.reduceSub, Int.reduceLT, lenV_lst, lenV_tup, lenV_str, gi_andD, gi_orD, gi_ifS, gi_eIf, gi_orB, gi_andB, gi_chainD, asB_bl, eq_ss, lt_ii, ne_ss, isTu, if_true]
      rw [if_neg (by simp; omega)]
      have e3 : isTold ss (.tup (x :: y :: z :: r)) = false := by cases y <;> rfl
      rw [e3]
  · have e : isTu d = false := by simpa using ht
    have e2 : isTold ss d = false := by cases d <;> first | rfl | (exact absurd rfl ht)
    simp only [e, e2, Bool.false_eq_true, if_false]
end Dr
namespace Dr
open PySem PySem.Spec PyProof.Rows L2 Sh
theorem comp_p {i : Nat} {e : Sh.Env → M D} {ρ : Sh.Env} {st : Sto} {F : D → D} {P : List D → Sto → Prop} (xs : List D) (h : ∀ x ∈ xs, ∀ P : D → Sto → Prop, P (F x) st → (e (ρ.set i (some x))).gives st P) (hp : P (xs.map F) st) : (compD (setV i) Sh.tYes e ρ xs).gives st P := by
  have := comp_fm (i := i) (t := Sh.tYes) (e := e) (ρ := ρ) (st := st) (g := id) (p := fun _ => true) (f := F) xs P (fun x _ P hP => hP) (fun x hx _ P hP => h x hx P hP) (by
    rw [List.filter_eq_self.mpr (by simp)]
    exact hp)
  rw [List.map_id] at this
  exact this
theorem notIn12 {n : Int} {st : Sto} {P : D → Sto → Prop} : (notInD (.int n) (.tup [.int 1, .int 2])).gives st P ↔ P (.bl (!((1 == n) || ((2 == n) || false)))) st := Iff.rfl
def ltT : D → D → Bool
  | .tup (.str a :: _), .tup (.str b :: _) => ltS a b
  | _, _ => false
def isPairs (ls : List Str) : D → Bool
  | .tup [t] => isTold ls t
  | .tup [t, u] => isTold ls t && isTold ls u && ltT t u
  | _ => false
theorem told_is {ls : List Str} {d : D} (h : isTold ls d = true) : ∃ s b, d = .tup [.str s, .bl b] ∧ s ∈ ls := by
  unfold isTold at h
  split at h
  · rename_i x b
    unfold isW at h
    split at h
    · exact ⟨_, _, rfl, of_decide_eq_true h⟩
    · cases h
  · cases h
theorem pairs_g {ls : List Str} {d L : D} (hd : d.g = true) (hL : Sq L ls) {st : Sto} {P : D → Sto → Prop} (h : P (.bl (isPairs ls d)) st) : (f_are_pairs [L, d]).gives st P := by
  unfold f_are_pairs b_are_pairs
  by_cases ht : isTu d = true
  · cases d <;> try (cases ht; done)
    rename_i ds
    have hm : ∀ x ∈ ds, x.g = true := fun x hx => by
      have hg : gL ds = true := hd
      clear h hd
      induction ds with
      | nil => cases hx
      | cons y r ih =>
        unfold gL at hg
        simp only [Bool.and_eq_true] at hg
        rcases List.mem_cons.mp hx with e | hx
        · rw [e]; exact hg.1
        · exact ih (by rfl) hx hg.2
    have run : ∀ (Q : List D → Sto → Prop), Q (ds.map fun x => .bl (isTold ls x)) st → (compD (setV 2) Sh.tYes (eCall f_is_told (lCons (eV 0) (lCons (eV 2) lNil))) [some L, some (.tup ds), none] ds).gives st Q := fun Q hQ => comp_p ds (fun x hx P hP => by
      simp only [List.map_cons, List.map_nil, forS, setV, List.set_cons_succ, List.set_cons_zero, gv_bind, gv_seq, setS, Sh.retS, getV, List.getElem?_cons_succ, List.getElem?_cons_zero, gv_pure, mulD, addD, modD, Sh.intD, Sh.subD, Sh.divD, Sh.powD, arI, gv_guard, skipS, runB, Sh.envOf, par2S, par3S, List.length_cons, List.length_nil, List.replicate, List.map, List.append_nil, List.cons_append, List.nil_append, setRefIt, ix_w, ix_c, ix_r, ix_t, pr_r, pr_t, eq_ii, ne_ii, appendS, lstOf, isNoneD, isND, id_eq, cmpI, gtI, leI, setOwnIt, true_and, wipeE, rng1, catD, negD, repD, ne_w, need_w, popRefM, pop_w, itemsD, Nat.reduceAdd, Nat.reduceSub, Int.reduceLT, lenV_lst, lenV_tup, lenV_str, gi_andD, gi_orD, gi_ifS, gi_eIf, gi_orB, gi_andB, gi_chainD, asB_bl, eq_ss, lt_ii, ne_ss, told_g (hm x hx) hL]
      exact hP) hQ
    simp only [List.map_cons, List.map_nil, forS, setV, List.set_cons_succ, List.set_cons_zero, gv_bind, gv_seq, setS, Sh.retS, getV, List.getElem?_cons_succ, List.getElem?_cons_zero, gv_pure, mulD, addD, modD, Sh.intD, Sh.subD, Sh.divD, Sh.powD, arI, gv_guard, skipS, runB, Sh.envOf, par2S, par3S, List.length_cons, List.length_nil, List.replicate, List.map, List.append_nil, List.cons_append, List.nil_append, setRefIt, ix_w, ix_c, ix_r, ix_t, pr_r, pr_t, eq_ii, ne_ii, appendS, lstOf, isNoneD, isND, id_eq, cmpI, gtI, leI, setOwnIt, true_and, wipeE, rng1, catD, negD, repD, ne_w, need_w, popRefM, pop_w, itemsD, Nat.reduceAdd, Nat.reduceSub, Int.reduceLT, lenV_lst, lenV_tup, lenV_str, gi_andD, gi_orD, gi_ifS, gi_eIf, gi_orB, gi_andB, gi_chainD, asB_bl, eq_ss, lt_ii, ne_ss, tu_run hd, isTu, notIn12]
    rcases ds with _ | ⟨x, _ | ⟨y, _ | ⟨z, r⟩⟩⟩
    · exact h
    · simp only [List.map_cons, List.map_nil, forS, setV, List.set_cons_succ, List.set_cons_zero, gv_bind, gv_seq, setS, Sh.retS, getV, List.getElem?_cons_succ, List.getElem?_cons_zero, gv_pure, mulD, addD, modD, Sh.intD, Sh.subD, Sh.divD, Sh.powD, arI, gv_guard, skipS, runB, Sh.envOf, par2S, par3S, List.length_cons, List.length_nil, List.replicate, List.map, List.append_nil, List.cons_append, List.nil_append, setRefIt, ix_w, ix_c, ix_r, ix_t, pr_r, pr_t, eq_ii, ne_ii, appendS, lstOf, isNoneD, isND, id_eq, cmpI, gtI, leI, setOwnIt, true_and, wipeE, rng1, catD, negD, repD, ne_w, need_w, popRefM, pop_w, itemsD, Nat.reduceAdd, Nat.reduceSub, Int.reduceLT, lenV_lst, lenV_tup, lenV_str, gi_andD, gi_orD, gi_ifS, gi_eIf, gi_orB, gi_andB, gi_chainD, asB_bl, eq_ss, lt_ii, ne_ss] at run ⊢
      rw [if_neg (by simp), if_neg (by decide)]
      refine run _ ?_
      show (quantD Sh.allB (.lst ([isTold ls x].map .bl))).gives st _
      rw [all_bls]
      have h : P (.bl (isTold ls x)) st := h
      cases e : isTold ls x with
      | false => rw [e] at h; simpa [asB_bl] using h
      | true => rw [e] at h; simpa [asB_bl] using h
    · simp only [List.map_cons, List.map_nil, forS, setV, List.set_cons_succ, List.set_cons_zero, gv_bind, gv_seq, setS, Sh.retS, getV, List.getElem?_cons_succ, List.getElem?_cons_zero, gv_pure, mulD, addD, modD, Sh.intD, Sh.subD, Sh.divD, Sh.powD, arI, gv_guard, skipS, runB, Sh.envOf, par2S, par3S, List.length_cons, List.length_nil, List.replicate, List.map, List.append_nil, List.cons_append, List.nil_append, setRefIt, ix_w, ix_c, ix_r, ix_t, pr_r, pr_t, eq_ii, ne_ii, appendS, lstOf, isNoneD, isND, id_eq, cmpI, gtI, leI, setOwnIt, true_and, wipeE, rng1, catD, negD, repD, ne_w, need_w, popRefM, pop_w, itemsD, Nat.reduceAdd, Nat.reduceSub, Int.reduceLT, lenV_lst, lenV_tup, lenV_str, gi_andD, gi_orD, gi_ifS, gi_eIf, gi_orB, gi_andB, gi_chainD, asB_bl, eq_ss, lt_ii, ne_ss] at run ⊢
      rw [if_neg (by simp), if_neg (by decide)]
      refine run _ ?_
      show (quantD Sh.allB (.lst ([isTold ls x, isTold ls y].map .bl))).gives st _
      rw [all_bls]
      have h : P (.bl (isTold ls x && isTold ls y && ltT x y)) st := h
      cases e1 : isTold ls x with
      | false => rw [e1] at h; simpa [asB_bl] using h
      | true =>
      cases e2 : isTold ls y with
      | false => rw [e1, e2] at h; simpa [asB_bl] using h
      | true =>
      rw [e1, e2] at h
      obtain ⟨s1, b1, rfl, _⟩ := told_is e1
      obtain ⟨s2, b2, rfl, _⟩ := told_is e2
      simp only [asB_bl, List.all_cons, List.all_nil, id, Bool.and_true, Bool.not_true, Bool.false_eq_true, if_false]
      rw [if_neg (by decide)]
      simp only [List.map_cons, List.map_nil, forS, setV, List.set_cons_succ, List.set_cons_zero, gv_bind, gv_seq, setS, Sh.retS, getV, List.getElem?_cons_succ, List.getElem?_cons_zero, gv_pure, mulD, addD, modD, Sh.intD, Sh.subD, Sh.divD, Sh.powD, arI, gv_guard, skipS, runB, Sh.envOf, par2S, par3S, List.length_cons, List.length_nil, List.replicate, List.map, List.append_nil, List.cons_append, List.nil_append, setRefIt, ix_w, ix_c, ix_r, ix_t, pr_r, pr_t, eq_ii, ne_ii, appendS, lstOf, isNoneD, isND, id_eq, cmpI, gtI, leI, setOwnIt, true_and, wipeE, rng1, catD, negD, repD, ne_w, need_w, popRefM, pop_w, itemsD, Nat.reduceAdd, Nat.reduceSub, Int.reduceLT, lenV_lst, lenV_tup, lenV_str, gi_andD, gi_orD, gi_ifS, gi_eIf, gi_orB, gi_andB, gi_chainD, asB_bl, eq_ss, lt_ii, ne_ss, ix0, ix1]
      exact h
    · simp only [List.map_cons, List.map_nil, forS, setV, List.set_cons_succ, List.set_cons_zero, gv_bind, gv_seq, setS, Sh.retS, getV, List.getElem?_cons_succ, List.getElem?_cons_zero, gv_pure, mulD, addD, modD, Sh.intD, Sh.subD, Sh.divD, Sh.powD, arI, gv_guard, skipS, runB, Sh.envOf, par2S, par3S, List.length_cons, List.length_nil, List.replicate, List.map, List.append_nil, List.cons_append, List.nil_append, setRefIt, ix_w, ix_c, ix_r, ix_t, pr_r, pr_t, eq_ii, ne_ii, appendS, lstOf, isNoneD, isND, id_eq, cmpI, gtI, leI, setOwnIt, true_and, wipeE, rng1, catD, negD, repD, ne_w, need_w, popRefM, pop_w, itemsD, Nat.reduceAdd, Nat.reduceSub, Int.reduceLT, lenV_lst, lenV_tup, lenV_str, gi_andD, gi_orD, gi_ifS, gi_eIf, gi_orB, gi_andB, gi_chainD, asB_bl, eq_ss, lt_ii, ne_ss] at run ⊢
      rw [if_neg (by simp), if_pos (by simp; omega), if_pos trivial]
      exact h
  · have e : isTu d = false := by simpa using ht
    have e2 : isPairs ls d = false := by cases d <;> first | rfl | (exact absurd rfl ht)
    rw [e2] at h
    simp only [List.map_cons, List.map_nil, forS, setV, List.set_cons_succ, List.set_cons_zero, gv_bind, gv_seq, setS, Sh.retS, getV, List.getElem?_cons_succ, List.getElem?_cons_zero, gv_pure, mulD, addD, modD, Sh.intD, Sh.subD, Sh.divD, Sh.powD, arI, gv_guard, skipS, runB, Sh.envOf, par2S, par3S, List.length_cons, List.length_nil, List.replicate, List.map, List.append_nil, List.cons_append, List.nil_append, setRefIt, ix_w, ix_c, ix_r, ix_t, pr_r, pr_t, eq_ii, ne_ii, appendS, lstOf, isNoneD, isND, id_eq, cmpI, gtI, leI, setOwnIt, true_and, wipeE, rng1, catD, negD, repD, ne_w, need_w, popRefM, pop_w, itemsD, Nat.reduceAdd, Nat.reduceSub, Int.reduceLT, lenV_lst, lenV_tup, lenV_str, gi_andD, gi_orD, gi_ifS, gi_eIf, gi_orB, gi_andB, gi_chainD, asB_bl, eq_ss, lt_ii, ne_ss, tu_run hd, e, Bool.not_false, if_true]
    exact h
/-- what is told of a fact -/
def isF (ls ds : List Str) : D → Bool
  | .tup [.str w, x] => if w = "never" then isPairs ls x else isW ds x && decide (w = "sure")
  | .tup [.str w, x, y] => isW ds x && (decide (w = "stays") && isW ls y)
  | .tup [.str w, x, y, z, .bl _] => isW ds x && (decide (w = "sets") && (isW l_OUTCOMES y && isW ls z))
  | _ => false
theorem n_ns : (("sure" : Str) == ("never" : Str)) = false := by decide +kernel
theorem n_ty : (("stays" : Str) == ("never" : Str)) = false := by decide +kernel
theorem n_tu : (("stays" : Str) == ("sure" : Str)) = false := by decide +kernel
theorem n_sn : (("sets" : Str) == ("never" : Str)) = false := by decide +kernel
theorem n_su : (("sets" : Str) == ("sure" : Str)) = false := by decide +kernel
theorem n_st : (("sets" : Str) == ("stays" : Str)) = false := by decide +kernel
theorem fact_about {ls ds : List Str} {d L K : D} (hd : d.g = true) (hL : Sq L ls) (hK : Sq K ds) {st : Sto} {P : D → Sto → Prop} (h : P (.bl (isF ls ds d)) st) : (f_is_fact_about [L, K, d]).gives st P := by
  unfold f_is_fact_about b_is_fact_about
  by_cases ht : isTu d = true
  · cases d <;> try (cases ht; done)
    rename_i xs
    rcases xs with _ | ⟨a, _ | ⟨x, r⟩⟩
    · simp only [List.map_cons, List.map_nil, forS, setV, List.set_cons_succ, List.set_cons_zero, gv_bind, gv_seq, setS, Sh.retS, getV, List.getElem?_cons_succ, List.getElem?_cons_zero, gv_pure, mulD, addD, modD, Sh.intD, Sh.subD, Sh.divD, Sh.powD, arI, gv_guard, skipS, runB, Sh.envOf, par2S, par3S, List.length_cons, List.length_nil, List.replicate, List.map, List.append_nil, List.cons_append, List.nil_append, setRefIt, ix_w, ix_c, ix_r, ix_t, pr_r, pr_t, eq_ii, ne_ii, appendS, lstOf, isNoneD, isND, id_eq, cmpI, gtI, leI, setOwnIt, true_and, wipeE, rng1, catD, negD, repD, ne_w, need_w, popRefM, pop_w, itemsD, Nat.reduceAdd, Nat.reduceSub, Int.reduceLT, lenV_lst, lenV_tup, lenV_str, gi_andD, gi_orD, gi_ifS, gi_eIf, gi_orB, gi_andB, gi_chainD, asB_bl, eq_ss, lt_ii, ne_ss, tu_run hd, isTu]
      exact h
    · simp only [List.map_cons, List.map_nil, forS, setV, List.set_cons_succ, List.set_cons_zero, gv_bind, gv_seq, setS, Sh.retS, getV, List.getElem?_cons_succ, List.getElem?_cons_zero, gv_pure, mulD, addD, modD, Sh.intD, Sh.subD, Sh.divD, Sh.powD, arI, gv_guard, skipS, runB, Sh.envOf, par2S, par3S, List.length_cons, List.length_nil, List.replicate, List.map, List.append_nil, List.cons_append, List.nil_append, setRefIt, ix_w, ix_c, ix_r, ix_t, pr_r, pr_t, eq_ii, ne_ii, appendS, lstOf, isNoneD, isND, id_eq, cmpI, gtI, leI, setOwnIt, true_and, wipeE, rng1, catD, negD, repD, ne_w, need_w, popRefM, pop_w, itemsD, Nat.reduceAdd, Nat.reduceSub, Int.reduceLT, lenV_lst, lenV_tup, lenV_str, gi_andD, gi_orD, gi_ifS, gi_eIf, gi_orB, gi_andB, gi_chainD, asB_bl, eq_ss, lt_ii, ne_ss, tu_run hd, isTu]
      rw [if_neg (by simp), if_pos (by decide), if_pos trivial]
      cases a <;> exact h
    · have hd' : (a.g && (x.g && gL r)) = true := hd
      simp only [Bool.and_eq_true] at hd'
      obtain ⟨ha, hx, hr⟩ := hd'
      simp only [List.map_cons, List.map_nil, forS, setV, List.set_cons_succ, List.set_cons_zero, gv_bind, gv_seq, setS, Sh.retS, getV, List.getElem?_cons_succ, List.getElem?_cons_zero, gv_pure, mulD, addD, modD, Sh.intD, Sh.subD, Sh.divD, Sh.powD, arI, gv_guard, skipS, runB, Sh.envOf, par2S, par3S, List.length_cons, List.length_nil, List.replicate, List.map, List.append_nil, List.cons_append, List.nil_append, setRefIt, ix_w, ix_c, ix_r, ix_t, pr_r, pr_t, eq_ii, ne_ii, appendS, lstOf, isNoneD, isND, id_eq, cmpI, gtI, leI, setOwnIt, true_and, wipeE, rng1, catD, negD, repD, ne_w, need_w, popRefM, pop_w, itemsD, Nat.reduceAdd, Nat.reduceSub, Int.reduceLT, lenV_lst, lenV_tup, lenV_str, gi_andD, gi_orD, gi_ifS, gi_eIf, gi_orB, gi_andB, gi_chainD, asB_bl, eq_ss, lt_ii, ne_ss, tu_run hd, isTu, ix0, ix1, st_run ha]
      rw [if_neg (by simp), if_neg (by simp; omega)]
      by_cases hs : isSt a = true
      · cases a <;> try (cases hs; done)
        rename_i w
        simp only [List.map_cons, List.map_nil, forS, setV, List.set_cons_succ, List.set_cons_zero, gv_bind, gv_seq, setS, Sh.retS, getV, List.getElem?_cons_succ, List.getElem?_cons_zero, gv_pure, mulD, addD, modD, Sh.intD, Sh.subD, Sh.divD, Sh.powD, arI, gv_guard, skipS, runB, Sh.envOf, par2S, par3S, List.length_cons, List.length_nil, List.replicate, List.map, List.append_nil, List.cons_append, List.nil_append, setRefIt, ix_w, ix_c, ix_r, ix_t, pr_r, pr_t, eq_ii, ne_ii, appendS, lstOf, isNoneD, isND, id_eq, cmpI, gtI, leI, setOwnIt, true_and, wipeE, rng1, catD, negD, repD, ne_w, need_w, popRefM, pop_w, itemsD, Nat.reduceAdd, Nat.reduceSub, Int.reduceLT, lenV_lst, lenV_tup, lenV_str, gi_andD, gi_orD, gi_ifS, gi_eIf, gi_orB, gi_andB, gi_chainD, asB_bl, eq_ss, lt_ii, ne_ss, isSt, ix0, ix1, one_g hx hK]
        rw [if_neg (by simp)]
        by_cases w1 : w = "never"
        · subst w1
          rcases r with _ | ⟨y, r⟩
          · rw [if_pos (by simp), if_pos (by decide)]
            refine pairs_g hx hL ?_
            have h : P (.bl (if ("never" : Str) = "never" then isPairs ls x else isW ds x && decide (("never" : Str) = "sure"))) st := h
            rw [if_pos rfl] at h
            exact h
          · have e2 : isF ls ds (.tup (.str "never" :: x :: y :: r)) = false := by
              rcases r with _ | ⟨z, _ | ⟨v, _ | ⟨u, t⟩⟩⟩
              · show (isW ds x && (decide (("never" : Str) = "stays") && isW ls y)) = false
                rw [show decide (("never" : Str) = "stays") = false by decide +kernel]
                simp
              · rfl
              · cases v <;> first | rfl | skip
                show (isW ds x && (decide (("never" : Str) = "sets") && (isW l_OUTCOMES y && isW ls z))) = false
                rw [show decide (("never" : Str) = "sets") = false by decide +kernel]
                simp
              · cases v <;> rfl
            rw [if_pos (by simp), if_neg (by simp; omega)]
            rw [e2] at h
            exact h
        have q1 : (w == ("never" : Str)) = false := by simpa using w1
        rw [if_neg (by rw [q1]; simp)]
        cases hw : isW ds x with
        | false =>
          rw [if_pos (by rfl)]
          have e2 : isF ls ds (.tup (.str w :: x :: r)) = false := by
            rcases r with _ | ⟨y, _ | ⟨z, _ | ⟨v, _ | ⟨u, t⟩⟩⟩⟩
            · show (if w = "never" then isPairs ls x else isW ds x && decide (w = "sure")) = false
              rw [if_neg w1, hw]
              rfl
            · show (isW ds x && _) = false
              rw [hw]
              rfl
            · rfl
            · cases v <;> first | rfl | skip
              show (isW ds x && _) = false
              rw [hw]
              rfl
            · cases v <;> rfl
          rw [e2] at h
          exact h
        | true =>
        rw [if_neg (by simp)]
        by_cases w2 : w = "sure"
        · subst w2
          rw [if_pos (by simp)]
          rcases r with _ | ⟨y, _ | ⟨z, _ | ⟨v, _ | ⟨u, t⟩⟩⟩⟩
          · have h : P (.bl (if ("sure" : Str) = "never" then isPairs ls x else isW ds x && decide (("sure" : Str) = "sure"))) st := h
            rw [if_neg w1, hw, decide_eq_true rfl] at h
            exact h
          · have h : P (.bl (isW ds x && (decide (("sure" : Str) = "stays") && isW ls y))) st := h
            rw [show decide (("sure" : Str) = "stays") = false by decide +kernel, Bool.false_and, Bool.and_false] at h
            exact h
          · exact h
          · have e2 : isF ls ds (.tup [.str "sure", x, y, z, v]) = false := by
              cases v <;> first | rfl | skip
              show (isW ds x && (decide (("sure" : Str) = "sets") && (isW l_OUTCOMES y && isW ls z))) = false
              rw [show decide (("sure" : Str) = "sets") = false by decide +kernel]
              simp
            rw [e2] at h
            exact h
          · have e2 : isF ls ds (.tup (.str "sure" :: x :: y :: z :: v :: u :: t)) = false := by cases v <;> rfl
            rw [e2] at h
            have q : (((((u :: t).length + 1 + 1 + 1 + 1 + 1 : Nat) : Int)) == 2) = false := by simp; omega
            have h : P (.bl (((((u :: t).length + 1 + 1 + 1 + 1 + 1 : Nat) : Int)) == 2)) st := by rw [q]; exact h
            exact h
        have q2 : (w == ("sure" : Str)) = false := by simpa using w2
        rw [if_neg (by rw [q2]; simp)]
        by_cases w3 : w = "stays"
        · subst w3
          rw [if_pos (by simp)]
          rcases r with _ | ⟨y, _ | ⟨z, _ | ⟨v, _ | ⟨u, t⟩⟩⟩⟩
          · have h : P (.bl (if ("stays" : Str) = "never" then isPairs ls x else isW ds x && decide (("stays" : Str) = "sure"))) st := h
            rw [if_neg w1, decide_eq_false w2, Bool.and_false] at h
            rw [if_neg (by decide)]
            exact h
          · have h : P (.bl (isW ds x && (decide (("stays" : Str) = "stays") && isW ls y))) st := h
            rw [hw, decide_eq_true rfl, Bool.true_and, Bool.true_and] at h
            have hy : (y.g && true) = true := hr
            rw [Bool.and_true] at hy
            rw [if_pos (by simp), ix2, one_g hy hL]
            exact h
          · rw [if_neg (by simp)]
            exact h
          · have e2 : isF ls ds (.tup [.str "stays", x, y, z, v]) = false := by
              cases v <;> first | rfl | skip
              show (isW ds x && (decide (("stays" : Str) = "sets") && (isW l_OUTCOMES y && isW ls z))) = false
              rw [show decide (("stays" : Str) = "sets") = false by decide +kernel]
              simp
            rw [e2] at h
            rw [if_neg (by simp)]
            exact h
          · have e2 : isF ls ds (.tup (.str "stays" :: x :: y :: z :: v :: u :: t)) = false := by cases v <;> rfl
            rw [e2] at h
            rw [if_neg (by simp; omega)]
            exact h
        have q3 : (w == ("stays" : Str)) = false := by simpa using w3
        rw [if_neg (by rw [q3]; simp)]
        by_cases w4 : w = "sets"
        · subst w4
          rw [if_neg (by simp)]
          rcases r with _ | ⟨y, _ | ⟨z, _ | ⟨v, _ | ⟨u, t⟩⟩⟩⟩
          · have h : P (.bl (if ("sets" : Str) = "never" then isPairs ls x else isW ds x && decide (("sets" : Str) = "sure"))) st := h
            rw [if_neg w1, decide_eq_false w2, Bool.and_false] at h
            rw [if_pos (by decide), if_pos trivial]
            exact h
          · have h : P (.bl (isW ds x && (decide (("sets" : Str) = "stays") && isW ls y))) st := h
            rw [decide_eq_false w3, Bool.false_and, Bool.and_false] at h
            rw [if_pos (by simp), if_pos trivial]
            exact h
          · rw [if_pos (by simp), if_pos trivial]
            exact h
          · have hg : (y.g && (z.g && (v.g && true))) = true := hr
            simp only [Bool.and_eq_true] at hg
            rw [if_neg (by simp), ix2, one_g hg.1 (.inr rfl)]
            simp only [asB_bl, ix3, ix4, one_g hg.2.1 hL, bl_run hg.2.2.1]
            by_cases hb : isBl v = true
            · cases v <;> try (cases hb; done)
              have h : P (.bl (isW ds x && (decide (("sets" : Str) = "sets") && (isW l_OUTCOMES y && isW ls z)))) st := h
              rw [hw, decide_eq_true rfl, Bool.true_and, Bool.true_and] at h
              cases e1 : isW l_OUTCOMES y <;> cases e2 : isW ls z <;> rw [e1, e2] at h <;> exact h
            · have e2 : isF ls ds (.tup [.str "sets", x, y, z, v]) = false := by cases v <;> first | rfl | (exact absurd rfl hb)
              have hb' : isBl v = false := by simpa using hb
              rw [e2] at h
              rw [hb']
              cases e1 : isW l_OUTCOMES y <;> cases e2 : isW ls z <;> exact h
          · have e2 : isF ls ds (.tup (.str "sets" :: x :: y :: z :: v :: u :: t)) = false := by cases v <;> rfl
            rw [e2] at h
            rw [if_pos (by simp; omega), if_pos trivial]
            exact h
        have q4 : (w == ("sets" : Str)) = false := by simpa using w4
        rw [q4, if_pos (by rfl), if_pos trivial]
        have e2 : isF ls ds (.tup (.str w :: x :: r)) = false := by
          rcases r with _ | ⟨y, _ | ⟨z, _ | ⟨v, _ | ⟨u, t⟩⟩⟩⟩
          · show (if w = "never" then isPairs ls x else isW ds x && decide (w = "sure")) = false
            rw [if_neg w1, decide_eq_false w2, Bool.and_false]
          · show (isW ds x && (decide (w = "stays") && isW ls y)) = false
            rw [decide_eq_false w3, Bool.false_and, Bool.and_false]
          · rfl
          · cases v <;> first | rfl | skip
            show (isW ds x && (decide (w = "sets") && (isW l_OUTCOMES y && isW ls z))) = false
            rw [decide_eq_false w4, Bool.false_and, Bool.and_false]
          · cases v <;> rfl
        rw [e2] at h
        exact h
      · have e : isSt a = false := by simpa using hs
        have e2 : isF ls ds (.tup (a :: x :: r)) = false := by cases a <;> first | rfl | (exact absurd rfl hs)
        rw [e2] at h
        simp only [e, Bool.not_false, if_true]
        exact h
  · have e : isTu d = false := by simpa using ht
    have e2 : isF ls ds d = false := by cases d <;> first | rfl | (exact absurd rfl ht)
    rw [e2] at h
    simp only [List.map_cons, List.map_nil, forS, setV, List.set_cons_succ, List.set_cons_zero, gv_bind, gv_seq, setS, Sh.retS, getV, List.getElem?_cons_succ, List.getElem?_cons_zero, gv_pure, mulD, addD, modD, Sh.intD, Sh.subD, Sh.divD, Sh.powD, arI, gv_guard, skipS, runB, Sh.envOf, par2S, par3S, List.length_cons, List.length_nil, List.replicate, List.map, List.append_nil, List.cons_append, List.nil_append, setRefIt, ix_w, ix_c, ix_r, ix_t, pr_r, pr_t, eq_ii, ne_ii, appendS, lstOf, isNoneD, isND, id_eq, cmpI, gtI, leI, setOwnIt, true_and, wipeE, rng1, catD, negD, repD, ne_w, need_w, popRefM, pop_w, itemsD, Nat.reduceAdd, Nat.reduceSub, Int.reduceLT, lenV_lst, lenV_tup, lenV_str, gi_andD, gi_orD, gi_ifS, gi_eIf, gi_orB, gi_andB, gi_chainD, asB_bl, eq_ss, lt_ii, ne_ss, tu_run hd, e, Bool.not_false, if_true]
    exact h
end Dr
namespace Dr
open PySem PySem.Spec PyProof.Rows L2 Sh
/-! ### texts in order -/
def keyS (s : Str) : List Int := 2 :: encS s.cps.toList
def sortW (ss : List Str) : List Str := ss.mergeSort fun a b => !ltZ (keyS b) (keyS a)
theorem mem_sortW {ss : List Str} {s : Str} : s ∈ sortW ss ↔ s ∈ ss := List.mem_mergeSort
theorem sortO_strs (ss : List Str) : sortO (ss.map .str) = (sortW ss).map .str := (List.map_mergeSort (r := fun a b : Str => !ltZ (keyS b) (keyS a)) (s := fun a b : D => !ltZ (keyD b) (keyD a)) (f := D.str) (l := ss) (fun a _ b _ => rfl)).symm
theorem ordK_strs (ss : List Str) : ((ss.map PyData.str).all fun p => ordK p && decide (p.depth ≤ 60)) = true := by
  rw [List.all_map, List.all_eq_true]
  intro x _
  rfl
theorem sort_strs {ss : List Str} {st : Sto} {P : D → Sto → Prop} : (sortedX (.lst (ss.map .str))).gives st P ↔ P (.lst ((sortW ss).map .str)) st := by
  show (match pyL (ss.map .str) with | some ps => if sortable ps = true then pure (D.lst (sortO (ss.map .str))) else M.bad | none => M.bad : M D).gives st P ↔ _
  rw [pyL_strs]
  have hs : sortable (ss.map PyData.str) = true := by
    unfold sortable sortOk
    rw [ordK_strs]
    have : sortOkC (ss.map PyData.str) = true := by
      unfold sortOkC
      rw [List.all_map, List.all_eq_true]
      intro x _
      rfl
    rw [this]
    simp
  simp only [hs, if_true]
  rw [sortO_strs]
  exact Iff.rfl
theorem ltS_key {a b : Str} : ltZ (keyS a) (keyS b) = ltS a b := by
  unfold ltZ keyS ltS
  rw [decide_eq_decide, cons_lt]
  constructor
  · rintro (h | ⟨_, h⟩)
    · omega
    · exact encS_lt.mp h
  · exact fun h => .inr ⟨rfl, encS_lt.mpr h⟩
def Inc (ss : List Str) : Prop := ss.Pairwise fun a b => ltS a b = true
theorem keyS_inj {a b : Str} (h : keyS a = keyS b) : a = b := by
  unfold keyS at h
  injection h with _ h
  have := encS_inj h
  cases a; cases b
  simp at this
  rw [this]
theorem inc_sortW {ss : List Str} (h : ss.Nodup) : Inc (sortW ss) := by
  have p : (sortW ss).Pairwise fun a b => (!ltZ (keyS b) (keyS a)) = true := List.pairwise_mergeSort (fun a b c h1 h2 => by
    simp only [ltZ, Bool.not_eq_true', decide_eq_false_iff_not] at h1 h2 ⊢
    exact fun q => by
      have h1 := List.not_lt.mp h1
      have h2 := List.not_lt.mp h2
      exact absurd q (List.not_lt.mpr (List.le_trans h1 h2))) (fun a b => by
    simp only [ltZ, Bool.or_eq_true, Bool.not_eq_true', decide_eq_false_iff_not]
    rcases List.le_total (keyS a) (keyS b) with q | q
    · exact .inl (List.not_lt.mpr q)
    · exact .inr (List.not_lt.mpr q)) ss
  have n : (sortW ss).Nodup := (List.mergeSort_perm ss _).nodup_iff.mpr h
  refine List.Pairwise.imp₂ (fun a b h1 h2 => ?_) p n
  rw [← ltS_key]
  simp only [ltZ, Bool.not_eq_true', decide_eq_false_iff_not, decide_eq_true_eq] at h1 ⊢
  have h1 := List.not_lt.mp h1
  apply Classical.byContradiction
  intro q
  have q := List.not_lt.mp q
  exact h2 (keyS_inj (List.le_antisymm h1 q))
theorem LS.sort {ss : List Str} (h : LS ss) : LS (sortW ss) := ⟨(List.mergeSort_perm ss _).nodup_iff.mpr h.nd, fun s hs => h.lab s (mem_sortW.mp hs)⟩
/-! ### what else is laid -/
def HasR (R : Sto) (p : Nat) (d : D) : Prop := 2 ≤ p ∧ R[p - 2]? = some d
theorem Dw.get {cs : List Int} {R : Sto} {T : Int} {st : Sto} (h : Dw cs R T st) {p : Nat} {d : D} (q : HasR R p d) : st[p]? = some d := by
  obtain ⟨ws, r, t, rfl, _⟩ := h
  obtain ⟨q1, q2⟩ := q
  obtain ⟨k, rfl⟩ : ∃ k, p = k + 2 := ⟨p - 2, by omega⟩
  exact q2
theorem HasR.app {R : Sto} {p : Nat} {d e : D} (h : HasR R p d) : HasR (R ++ [e]) p d := by
  refine ⟨h.1, ?_⟩
  rw [List.getElem?_append_left (List.getElem?_eq_some_iff.mp h.2).1]
  exact h.2
theorem Dw.len {cs : List Int} {R : Sto} {T : Int} {st : Sto} (h : Dw cs R T st) : st.length = R.length + 2 := by
  obtain ⟨ws, r, t, rfl, _⟩ := h
  rfl
theorem Dw.new {cs : List Int} {R : Sto} {T : Int} {st : Sto} (h : Dw cs R T st) {d : D} : HasR (R ++ [d]) st.length d := by
  rw [h.len]
  exact ⟨by omega, by simp⟩
theorem Dw.set {cs : List Int} {R : Sto} {T : Int} {st : Sto} (h : Dw cs R T st) {p : Nat} (hp : 2 ≤ p) {d : D} : Dw cs (R.set (p - 2) d) T (st.set p d) := by
  obtain ⟨ws, r, t, rfl, q⟩ := h
  obtain ⟨k, rfl⟩ : ∃ k, p = k + 2 := ⟨p - 2, by omega⟩
  exact ⟨ws, r, t, rfl, q⟩
theorem HasR.set {R : Sto} {p : Nat} {d e : D} (h : HasR R p d) : HasR (R.set (p - 2) e) p e := by
  refine ⟨h.1, ?_⟩
  have := (List.getElem?_eq_some_iff.mp h.2).1
  simp [this]
theorem HasR.set_ne {R : Sto} {p q : Nat} {d e : D} (h : HasR R p d) (n : p ≠ q) (hq : 2 ≤ q) : HasR (R.set (q - 2) e) p d := by
  refine ⟨h.1, ?_⟩
  have := h.1
  rw [List.getElem?_set_ne (by omega)]
  exact h.2
/-! ### grounds -/
def grd (ls ds : List Str) (fs : List D) : List (D × D) := [(.str "looks", .lst (ls.map .str)), (.str "deeds", .lst (ds.map .str)), (.str "facts", .lst fs)]
structure GOK (ls ds : List Str) : Prop where
  l : LS ls
  li : Inc ls
  ll : ls.length ≤ 4
  d : LS ds
  di : Inc ds
  dl : ds.length ≤ 5
  dn : ds ≠ []
  dj : ∀ x ∈ ls, x ∉ ds
end Dr
namespace Dr
open PySem PySem.Spec PyProof.Rows L2 Sh
theorem cut_to {xs : List D} {i : Int} (h0 : 0 ≤ i) : Sh.cutD xs none (some i) = xs.take i.toNat := by
  obtain ⟨k, rfl⟩ := Int.eq_ofNat_of_zero_le h0
  unfold Sh.cutD
  rw [HT.sIx_none, HT.sIx_nat, List.drop_zero, Nat.sub_zero, Int.toNat_natCast]
  rcases Nat.le_total k xs.length with h | h
  · rw [Nat.min_eq_left h]
  · rw [Nat.min_eq_right h, List.take_length, List.take_of_length_le h]
theorem cut_from {xs : List D} {i : Int} (h0 : 0 ≤ i) : Sh.cutD xs (some i) none = xs.drop i.toNat := by
  obtain ⟨k, rfl⟩ := Int.eq_ofNat_of_zero_le h0
  unfold Sh.cutD
  rw [HT.sIx_none, HT.sIx_nat, Int.toNat_natCast]
  rcases Nat.le_total k xs.length with h | h
  · rw [Nat.min_eq_left h, List.take_of_length_le (by rw [List.length_drop]; omega)]
  · rw [Nat.min_eq_right h, List.drop_of_length_le h, List.drop_of_length_le (Nat.le_refl _)]
    simp
theorem slL_run {ds : List D} {lo hi : Option Int} {st : Sto} {P : D → Sto → Prop} : (slL (.lst ds) lo hi).gives st P ↔ P (.lst (Sh.cutD ds lo hi)) st := Iff.rfl
theorem slV_run {ds : List D} {lo hi : Option Int} {st : Sto} {P : D → Sto → Prop} : (slV (.tup ds) lo hi).gives st P ↔ P (.tup (Sh.cutD ds lo hi)) st := Iff.rfl
theorem asI_run {i : Int} {st : Sto} {P : Int → Sto → Prop} : (asI (.int i)).gives st P ↔ P i st := Iff.rfl
theorem disp_run {ps : List (D × D)} (h : (keysOk ps && decide (ps.length ≤ 15)) = true) {st : Sto} {P : D → Sto → Prop} : (dispD ps).gives st P ↔ P (.dic ps) st := by
  unfold dispD
  rw [if_pos h]
  exact Iff.rfl
theorem ground_g {cs : List Int} {R : Sto} {T : Int} {st : Sto} (h : Dw cs R T st) (hT : T + 100 < 2 ^ 39) : (f__law_ground [.ref 1, .int 4, .int 5]).gives st fun d st' => ∃ ls ds p, d = .ref p ∧ GOK ls ds ∧ HasR (R ++ [.dic (grd ls ds [])]) p (.dic (grd ls ds [])) ∧ Dw cs (R ++ [.dic (grd ls ds [])]) (T + 20) st' := by
  unfold f__law_ground b__law_ground
  simp only [List.map_cons, List.map_nil, forS, setV, List.set_cons_succ, List.set_cons_zero, gv_bind, gv_seq, setS, Sh.retS, getV, List.getElem?_cons_succ, List.getElem?_cons_zero, gv_pure, mulD, addD, modD, Sh.intD, Sh.subD, Sh.divD, Sh.powD, arI, gv_guard, skipS, runB, Sh.envOf, par2S, par3S, List.length_cons, List.length_nil, List.replicate, List.map, List.append_nil, List.cons_append, List.nil_append, setRefIt, ix_w, ix_c, ix_r, ix_t, pr_r, pr_t, eq_ii, ne_ii, appendS, lstOf, isNoneD, isND, id_eq, cmpI, gtI, leI, setOwnIt, true_and, wipeE, rng1, catD, negD, repD, ne_w, need_w, popRefM, pop_w, itemsD, Nat.reduceAdd, Nat.reduceSub, Int.reduceLT, lenV_lst, lenV_tup, lenV_str, gi_andD, gi_orD, gi_ifS, gi_eIf, gi_orB, gi_andB, gi_chainD, asB_bl, eq_ss, lt_ii, ne_ss]
  refine M.gives_mono (take_g h (by omega) (n := 4 + 1) (by decide) (by decide)) fun d st1 ⟨i, e, i0, i1, h1⟩ => ?_
  subst e
  refine M.gives_mono (take_g h1 (by omega) (n := 5) (by decide) (by decide)) fun d st2 ⟨j, e, j0, j1, h2⟩ => ?_
  subst e
  simp only [List.map_cons, List.map_nil, forS, setV, List.set_cons_succ, List.set_cons_zero, gv_bind, gv_seq, setS, Sh.retS, getV, List.getElem?_cons_succ, List.getElem?_cons_zero, gv_pure, mulD, addD, modD, Sh.intD, Sh.subD, Sh.divD, Sh.powD, arI, gv_guard, skipS, runB, Sh.envOf, par2S, par3S, List.length_cons, List.length_nil, List.replicate, List.map, List.append_nil, List.cons_append, List.nil_append, setRefIt, ix_w, ix_c, ix_r, ix_t, pr_r, pr_t, eq_ii, ne_ii, appendS, lstOf, isNoneD, isND, id_eq, cmpI, gtI, leI, setOwnIt, true_and, wipeE, rng1, catD, negD, repD, ne_w, need_w, popRefM, pop_w, itemsD, Nat.reduceAdd, Nat.reduceSub, Int.reduceLT, lenV_lst, lenV_tup, lenV_str, gi_andD, gi_orD, gi_ifS, gi_eIf, gi_orB, gi_andB, gi_chainD, asB_bl, eq_ss, lt_ii, ne_ss]
  refine M.gives_mono (labels_g h2 (i + (1 + j)) (by omega) (by omega) (by omega)) fun d st3 ⟨ss, e, hl, hs, h3⟩ => ?_
  subst e
  simp only [List.map_cons, List.map_nil, forS, setV, List.set_cons_succ, List.set_cons_zero, gv_bind, gv_seq, setS, Sh.retS, getV, List.getElem?_cons_succ, List.getElem?_cons_zero, gv_pure, mulD, addD, modD, Sh.intD, Sh.subD, Sh.divD, Sh.powD, arI, gv_guard, skipS, runB, Sh.envOf, par2S, par3S, List.length_cons, List.length_nil, List.replicate, List.map, List.append_nil, List.cons_append, List.nil_append, setRefIt, ix_w, ix_c, ix_r, ix_t, pr_r, pr_t, eq_ii, ne_ii, appendS, lstOf, isNoneD, isND, id_eq, cmpI, gtI, leI, setOwnIt, true_and, wipeE, rng1, catD, negD, repD, ne_w, need_w, popRefM, pop_w, itemsD, Nat.reduceAdd, Nat.reduceSub, Int.reduceLT, lenV_lst, lenV_tup, lenV_str, gi_andD, gi_orD, gi_ifS, gi_eIf, gi_orB, gi_andB, gi_chainD, asB_bl, eq_ss, lt_ii, ne_ss, asI_run, slL_run, cut_to i0, cut_from i0, ← List.map_take, ← List.map_drop, sort_strs]
  rw [disp_run (by rfl)]
  rw [gv_alloc]
  have hi : i.toNat ≤ ss.length := by omega
  have hsub1 : (ss.take i.toNat).Sublist ss := List.take_sublist _ _
  have hsub2 : (ss.drop i.toNat).Sublist ss := List.drop_sublist _ _
  have l1 : LS (ss.take i.toNat) := ⟨hsub1.nodup hs.nd, fun s q => hs.lab s (hsub1.mem q)⟩
  have l2 : LS (ss.drop i.toNat) := ⟨hsub2.nodup hs.nd, fun s q => hs.lab s (hsub2.mem q)⟩
  have n1 : (sortW (ss.take i.toNat)).length = i.toNat := by unfold sortW; rw [List.length_mergeSort, List.length_take]; omega
  have n2 : (sortW (ss.drop i.toNat)).length = ss.length - i.toNat := by unfold sortW; rw [List.length_mergeSort, List.length_drop]
  refine ⟨sortW (ss.take i.toNat), sortW (ss.drop i.toNat), st3.length, rfl, ⟨l1.sort, inc_sortW l1.nd, by omega, l2.sort, inc_sortW l2.nd, by omega, fun q => ?_, fun x q1 q2 => ?_⟩, h3.new, (h3.app _).up (by omega)⟩
  · have := congrArg List.length q
    rw [n2] at this
    simp at this
    omega
  · have d := hs.nd
    rw [← List.take_append_drop i.toNat ss, List.nodup_append] at d
    exact d.2.2 x (mem_sortW.mp q1) x (mem_sortW.mp q2) rfl
end Dr
namespace Dr
open PySem PySem.Spec PyProof.Rows L2 Sh
theorem need_l {l : Nat} {kvs : List (D × D)} {st : Sto} (h : st[l]? = some (.dic kvs)) {P : Unit → Sto → Prop} : (needDic (.ref l)).gives st P ↔ P () st := by
  have e : needDic (.ref l) st = .ok () st := by
    show M.bind (view (.ref l)) _ st = _
    unfold M.bind view
    simp only [h]
    rfl
  rw [M.gives_ok e]
theorem dg_l {l : Nat} {kvs : List (D × D)} {st : Sto} (h : st[l]? = some (.dic kvs)) {w : Str} {z : D} {P : D → Sto → Prop} : (dget2D (.ref l) (.str w) z).gives st P ↔ P ((dgetK kvs (.inr w)).getD z) st := by
  have e : dget2D (.ref l) (.str w) z st = .ok ((dgetK kvs (.inr w)).getD z) st := by
    show M.bind (view (.ref l)) _ st = _
    unfold M.bind view
    simp only [h]
    rfl
  rw [M.gives_ok e]
theorem setIt_dic {kvs : List (D × D)} {s : Str} {v : D} (h : kvs.length < 16777216) : setIt (.dic kvs) (.str s) v = some (.dic (dputK kvs (.inr s) (.str s) v)) := by
  show (if kvs.length < 16777216 then some (D.dic (dputK kvs (.inr s) (.str s) v)) else none) = _
  rw [if_pos h]
theorem put_l {l : Nat} {kvs : List (D × D)} {st : Sto} (h : st[l]? = some (.dic kvs)) (hl : kvs.length < 16777216) {w : Str} {v : D} {P : Unit → Sto → Prop} : (putRef (.ref l) (.str w) v).gives st P ↔ P () (st.set l (.dic (dputK kvs (.inr w) (.str w) v))) := by
  have e : putRef (.ref l) (.str w) v st = .ok () (st.set l (.dic (dputK kvs (.inr w) (.str w) v))) := by
    unfold putRef
    simp only [h, setIt_dic hl]
  rw [M.gives_ok e]
theorem ixl {l : Nat} {kvs : List (D × D)} {st : Sto} (h : st[l]? = some (.dic kvs)) {w : Str} {d : D} (hd : dgetK kvs (.inr w) = some d) {P : D → Sto → Prop} : (ixD (.ref l) (.str w)).gives st P ↔ P d st := by
  have e : ixD (.ref l) (.str w) st = .ok d st := by
    show M.bind (view (.ref l)) _ st = _
    unfold M.bind view
    simp only [h]
    show ofO (dgetK kvs (.inr w)) st = _
    rw [hd]
    rfl
  rw [M.gives_ok e]
theorem g_ld : ("looks" : Str) ≠ "deeds" := by decide +kernel
theorem g_lf : ("looks" : Str) ≠ "facts" := by decide +kernel
theorem g_df : ("deeds" : Str) ≠ "facts" := by decide +kernel
section
variable {ls ds : List Str} {fs : List D} {p : Nat} {st : Sto} {P : D → Sto → Prop}
theorem grd_l : dgetK (grd ls ds fs) (.inr "looks") = some (.lst (ls.map .str)) := dget_eq rfl
theorem grd_d : dgetK (grd ls ds fs) (.inr "deeds") = some (.lst (ds.map .str)) := by
  unfold grd
  rw [dget_ne (sk_ne g_ld), dget_eq rfl]
theorem grd_f : dgetK (grd ls ds fs) (.inr "facts") = some (.lst fs) := by
  unfold grd
  rw [dget_ne (sk_ne g_lf), dget_ne (sk_ne g_df), dget_eq rfl]
theorem ix_l (h : st[p]? = some (.dic (grd ls ds fs))) : (ixD (.ref p) (.str "looks")).gives st P ↔ P (.lst (ls.map .str)) st := ixl h grd_l
theorem ix_d (h : st[p]? = some (.dic (grd ls ds fs))) : (ixD (.ref p) (.str "deeds")).gives st P ↔ P (.lst (ds.map .str)) st := ixl h grd_d
theorem ix_f (h : st[p]? = some (.dic (grd ls ds fs))) : (ixD (.ref p) (.str "facts")).gives st P ↔ P (.lst fs) st := ixl h grd_f
theorem put_f {gs : List D} : dputK (grd ls ds fs) (.inr "facts") (.str "facts") (.lst gs) = grd ls ds gs := by
  unfold grd dputK
  have h1 := sk_ne g_lf
  have h2 := sk_ne g_df
  have h0 : (D.str ("facts" : Str)).key? = some (.inr "facts") := rfl
  simp only [List.any_cons, List.any_nil, List.map_cons, List.map_nil, h0, h1, h2, if_true, if_false, decide_true, decide_false, Bool.or_true, Bool.true_or, Bool.false_or, Bool.or_false]
end
theorem eqL_nil {ls : List Str} {st : Sto} {P : D → Sto → Prop} : (eqLD (.lst (ls.map .str)) (.lst [])).gives st P ↔ P (.bl ls.isEmpty) st := by
  cases ls with
  | nil => exact Iff.rfl
  | cons x r => exact Iff.rfl
/-! ### pairs in order -/
def prD (a : Str) (b : Bool) : D := .tup [.str a, .bl b]
theorem lab_pairs : (lab.all fun a => lab.all fun b => [true, false].all fun x => [true, false].all fun y => decide (a = b) || (ltZ (keyD (prD b y)) (keyD (prD a x)) == ltS b a)) = true := by decide +kernel
theorem pair_lt {a b : Str} (ha : a ∈ lab) (hb : b ∈ lab) (hn : a ≠ b) (x y : Bool) : ltZ (keyD (prD b y)) (keyD (prD a x)) = ltS b a := by
  have h := List.all_eq_true.mp (List.all_eq_true.mp (List.all_eq_true.mp (List.all_eq_true.mp lab_pairs a ha) b hb) x (by cases x <;> simp)) y (by cases y <;> simp)
  simp only [Bool.or_eq_true, decide_eq_true_eq, beq_iff_eq] at h
  exact h.resolve_left hn
theorem two_lt {a b : Str} (h1 : ltS b a = false) (hn : a ≠ b) : ltS a b = true := by
  rw [← ltS_key] at h1 ⊢
  simp only [ltZ, decide_eq_false_iff_not, decide_eq_true_eq] at h1 ⊢
  have h1 := List.not_lt.mp h1
  apply Classical.byContradiction
  intro q
  exact hn (keyS_inj (List.le_antisymm h1 (List.not_lt.mp q)))
theorem sort_two {a b : Str} (ha : a ∈ lab) (hb : b ∈ lab) (hn : a ≠ b) (x y : Bool) : ∃ a' b' x' y', sortO [prD a x, prD b y] = [prD a' x', prD b' y'] ∧ ltS a' b' = true ∧ a' ∈ [a, b] ∧ b' ∈ [a, b] := by
  have key : sortO [prD a x, prD b y] = if (!ltZ (keyD (prD b y)) (keyD (prD a x))) = true then [prD a x, prD b y] else [prD b y, prD a x] := by
    unfold sortO
    simp only [List.mergeSort, List.MergeSort.Internal.splitInTwo, List.length_cons, List.length_nil]
    simp [List.merge]
  rw [key, pair_lt ha hb hn]
  cases e : ltS b a with
  | false => exact ⟨a, b, x, y, rfl, two_lt e hn, by simp, by simp⟩
  | true => exact ⟨b, a, y, x, rfl, e, by simp, by simp⟩
theorem sort_one {d : D} : sortO [d] = [d] := List.mergeSort_singleton _
end Dr
namespace Dr
open PySem PySem.Spec PyProof.Rows L2 Sh
def prP (a : Str) (b : Bool) : PyData := .tuple [.str a, .bool b]
theorem lazy_pr (a b : Str) (x y : Bool) : lazyL [.str a, .bool x] [.str b, .bool y] = true := by
  unfold lazyL
  by_cases h : PyData.eqv (.str a) (.str b) = true
  · rw [if_pos h]
    unfold lazyL
    by_cases h : PyData.eqv (.bool x) (.bool y) = true
    · rw [if_pos h]; rfl
    · rw [if_neg h]; rfl
  · rw [if_neg h]
    rfl
theorem sortable_two (a b : Str) (x y : Bool) : sortable [prP a x, prP b y] = true := by
  unfold sortable sortOk
  have : sortOkA [prP a x, prP b y] = true := by
    unfold sortOkA prP allPairs
    simp only [List.all_cons, List.all_nil, itemsP, lazy_pr]
    rfl
  rw [this]
  simp [prP, ordK, ordKL, PyData.depth, PyData.depthAll]
theorem items_one {a : Str} {x : Bool} {st : Sto} {P : D → Sto → Prop} : (sortItems [prD a x]).gives st P ↔ P (.lst [prD a x]) st := by
  show (if sortable [prP a x] = true then pure (D.lst (sortO [prD a x])) else M.bad : M D).gives st P ↔ _
  rw [if_pos (by
    unfold sortable sortOk prP
    simp [ordK, ordKL, PyData.depth, PyData.depthAll]), sort_one]
  exact Iff.rfl
theorem items_two {a b : Str} {x y : Bool} {st : Sto} {P : D → Sto → Prop} : (sortItems [prD a x, prD b y]).gives st P ↔ P (.lst (sortO [prD a x, prD b y])) st := by
  show (if sortable [prP a x, prP b y] = true then pure (D.lst (sortO [prD a x, prD b y])) else M.bad : M D).gives st P ↔ _
  rw [if_pos (sortable_two a b x y)]
  exact Iff.rfl
theorem items_l {l : Nat} {kvs : List (D × D)} {st : Sto} (h : st[l]? = some (.dic kvs)) {P : D → Sto → Prop} : (sortItemsD (.ref l)).gives st P ↔ (sortItems (itemsOf kvs)).gives st P := by
  show M.gives (M.bind (view (.ref l)) _) st P ↔ _
  have e : view (.ref l) st = .ok (.dic kvs) st := by
    unfold view
    simp only [h]
  show M.gives (view (.ref l) >>= _) st P ↔ _
  rw [M.gives_bind, M.gives_ok e]
theorem tupleD_run {ds : List D} {st : Sto} {P : D → Sto → Prop} : (tupleD (.lst ds)).gives st P ↔ P (.tup ds) st := Iff.rfl
theorem dput_ne {a w : Str} {x y : D} (h : a ≠ w) : dputK [(.str a, x)] (.inr w) (.str w) y = [(.str a, x), (.str w, y)] := by
  unfold dputK
  simp only [List.any_cons, List.any_nil, sk_ne h, decide_false, Bool.or_false, Bool.false_eq_true, if_false]
  rfl
theorem dput_eq {w : Str} {x y : D} : dputK [(.str w, x)] (.inr w) (.str w) y = [(.str w, y)] := by
  unfold dputK
  have h0 : (D.str w).key? = some (.inr w) := rfl
  simp only [List.any_cons, List.any_nil, h0, decide_true, Bool.or_false, if_true, List.map_cons, List.map_nil]
theorem isW_str {ss : List Str} {s : Str} (h : s ∈ ss) : isW ss (.str s) = true := decide_eq_true h
theorem isF_never {ls ds : List Str} {x : D} : isF ls ds (.tup [.str "never", x]) = isPairs ls x := by
  unfold isF
  simp
theorem fact_g {cs : List Int} {R : Sto} {T : Int} {st : Sto} {ls ds : List Str} {fs : List D} {p : Nat} (h : Dw cs R T st) (hp : HasR R p (.dic (grd ls ds fs))) (hg : GOK ls ds) (hT : T + 100 < 2 ^ 39) :
    (f__law_fact [.ref 1, .ref p]).gives st fun d st' => isF ls ds d = true ∧ ∃ X, Dw cs (R ++ X) (T + 10) st' := by
  unfold f__law_fact b__law_fact
  simp only [List.map_cons, List.map_nil, forS, setV, List.set_cons_succ, List.set_cons_zero, gv_bind, gv_seq, setS, Sh.retS, getV, List.getElem?_cons_succ, List.getElem?_cons_zero, gv_pure, mulD, addD, modD, Sh.intD, Sh.subD, Sh.divD, Sh.powD, arI, gv_guard, skipS, runB, Sh.envOf, par2S, par3S, List.length_cons, List.length_nil, List.replicate, List.map, List.append_nil, List.cons_append, List.nil_append, setRefIt, ix_w, ix_c, ix_r, ix_t, pr_r, pr_t, eq_ii, ne_ii, appendS, lstOf, isNoneD, isND, id_eq, cmpI, gtI, leI, setOwnIt, true_and, wipeE, rng1, catD, negD, repD, ne_w, need_w, popRefM, pop_w, itemsD, Nat.reduceAdd, Nat.reduceSub, Int.reduceLT, lenV_lst, lenV_tup, lenV_str, gi_andD, gi_orD, gi_ifS, gi_eIf, gi_orB, gi_andB, gi_chainD, asB_bl, eq_ss, lt_ii, ne_ss]
  refine M.gives_mono (take_g h (by omega) (n := 8) (by decide) (by decide)) fun d st1 ⟨i, e, i0, i1, h1⟩ => ?_
  subst e
  rw [ix_d (h1.get hp)]
  refine M.gives_mono (pick_g h1 (by omega) (xs := ds.map .str) (by simpa using hg.dn) (by rw [List.length_map]; have := hg.dl; omega)) fun d st2 ⟨hd, h2⟩ => ?_
  obtain ⟨s, hs, rfl⟩ := List.mem_map.mp hd
  have sure : isF ls ds (.tup [.str "sure", .str s]) = true := by
    show (if ("sure" : Str) = "never" then isPairs ls (.str s) else isW ds (.str s) && decide (("sure" : Str) = "sure")) = true
    rw [if_neg (by decide +kernel), isW_str hs, decide_eq_true rfl]
    rfl
  have app0 : R ++ [] = R := List.append_nil R
  simp only [List.map_cons, List.map_nil, forS, setV, List.set_cons_succ, List.set_cons_zero, gv_bind, gv_seq, setS, Sh.retS, getV, List.getElem?_cons_succ, List.getElem?_cons_zero, gv_pure, mulD, addD, modD, Sh.intD, Sh.subD, Sh.divD, Sh.powD, arI, gv_guard, skipS, runB, Sh.envOf, par2S, par3S, List.length_cons, List.length_nil, List.replicate, List.map, List.append_nil, List.cons_append, List.nil_append, setRefIt, ix_w, ix_c, ix_r, ix_t, pr_r, pr_t, eq_ii, ne_ii, appendS, lstOf, isNoneD, isND, id_eq, cmpI, gtI, leI, setOwnIt, true_and, wipeE, rng1, catD, negD, repD, ne_w, need_w, popRefM, pop_w, itemsD, Nat.reduceAdd, Nat.reduceSub, Int.reduceLT, lenV_lst, lenV_tup, lenV_str, gi_andD, gi_orD, gi_ifS, gi_eIf, gi_orB, gi_andB, gi_chainD, asB_bl, eq_ss, lt_ii, ne_ss]
  by_cases c1 : i < 2
  · rw [if_pos (decide_eq_true c1)]
    exact ⟨sure, [], by rw [app0]; exact h2.up (by omega)⟩
  rw [if_neg (by simpa using c1)]
  rw [ix_l (h2.get hp), eqL_nil]
  simp only [asB_bl]
  by_cases c2 : ls = []
  · subst c2
    rw [if_pos (by rfl)]
    exact ⟨sure, [], by rw [app0]; exact h2.up (by omega)⟩
  rw [if_neg (by simpa using c2)]
  have hlen : (ls.map D.str).length < 1073741824 := by rw [List.length_map]; have := hg.ll; omega
  have hne : ls.map D.str ≠ [] := by simpa using c2
  rw [ix_l (h2.get hp)]
  refine M.gives_mono (pick_g h2 (by omega) (xs := ls.map .str) hne hlen) fun d st3 ⟨hd, h3⟩ => ?_
  obtain ⟨l, hl, rfl⟩ := List.mem_map.mp hd
  refine M.gives_mono (take_g h3 (by omega) (n := 2) (by decide) (by decide)) fun d st4 ⟨j, e, j0, j1, h4⟩ => ?_
  subst e
  simp only [List.map_cons, List.map_nil, forS, setV, List.set_cons_succ, List.set_cons_zero, gv_bind, gv_seq, setS, Sh.retS, getV, List.getElem?_cons_succ, List.getElem?_cons_zero, gv_pure, mulD, addD, modD, Sh.intD, Sh.subD, Sh.divD, Sh.powD, arI, gv_guard, skipS, runB, Sh.envOf, par2S, par3S, List.length_cons, List.length_nil, List.replicate, List.map, List.append_nil, List.cons_append, List.nil_append, setRefIt, ix_w, ix_c, ix_r, ix_t, pr_r, pr_t, eq_ii, ne_ii, appendS, lstOf, isNoneD, isND, id_eq, cmpI, gtI, leI, setOwnIt, true_and, wipeE, rng1, catD, negD, repD, ne_w, need_w, popRefM, pop_w, itemsD, Nat.reduceAdd, Nat.reduceSub, Int.reduceLT, lenV_lst, lenV_tup, lenV_str, gi_andD, gi_orD, gi_ifS, gi_eIf, gi_orB, gi_andB, gi_chainD, asB_bl, eq_ss, lt_ii, ne_ss]
  by_cases c3 : i < 5
  · rw [if_pos (decide_eq_true c3)]
    refine ⟨?_, [], by rw [app0]; exact h4.up (by omega)⟩
    show (isW ds (.str s) && (decide (("stays" : Str) = "stays") && isW ls (.str l))) = true
    rw [isW_str hs, isW_str hl, decide_eq_true rfl]
    rfl
  rw [if_neg (by simpa using c3)]
  by_cases c4 : i < 7
  · rw [if_pos (decide_eq_true c4)]
    refine M.gives_mono (pick_g h4 (by omega) (xs := [.str "fail", .str "no", .str "yes"]) (by simp) (by decide)) fun d st5 ⟨hd, h5⟩ => ?_
    have ho : isW l_OUTCOMES d = true := by
      simp only [List.mem_cons, List.not_mem_nil, or_false] at hd
      rcases hd with rfl | rfl | rfl <;> exact isW_str (by simp [l_OUTCOMES])
    refine ⟨?_, [], by rw [app0]; exact h5.up (by omega)⟩
    show (isW ds (.str s) && (decide (("sets" : Str) = "sets") && (isW l_OUTCOMES d && isW ls (.str l)))) = true
    rw [isW_str hs, isW_str hl, ho, decide_eq_true rfl]
    rfl
  rw [if_neg (by simpa using c4)]
  rw [disp_run (by rfl)]
  rw [gv_alloc]
  have h5 := h4.app (.dic [(.str l, .bl (j == 0))])
  have p5 := h4.new (d := .dic [(.str l, .bl (j == 0))])
  have hp5 : HasR (R ++ [.dic [(.str l, .bl (j == 0))]]) p (.dic (grd ls ds fs)) := hp.app
  have q2 : st4.length = R.length + 2 := h4.len
  generalize st4.length = q at p5 q2 ⊢
  generalize st4 ++ [.dic [(.str l, .bl (j == 0))]] = st5 at h5 ⊢
  rw [ix_l (h5.get hp5)]
  refine M.gives_mono (pick_g h5 (by omega) (xs := ls.map .str) hne hlen) fun d st6 ⟨hd, h6⟩ => ?_
  obtain ⟨m, hm, rfl⟩ := List.mem_map.mp hd
  unfold dget2M
  simp only [List.map_cons, List.map_nil, forS, setV, List.set_cons_succ, List.set_cons_zero, gv_bind, gv_seq, setS, Sh.retS, getV, List.getElem?_cons_succ, List.getElem?_cons_zero, gv_pure, mulD, addD, modD, Sh.intD, Sh.subD, Sh.divD, Sh.powD, arI, gv_guard, skipS, runB, Sh.envOf, par2S, par3S, List.length_cons, List.length_nil, List.replicate, List.map, List.append_nil, List.cons_append, List.nil_append, setRefIt, ix_w, ix_c, ix_r, ix_t, pr_r, pr_t, eq_ii, ne_ii, appendS, lstOf, isNoneD, isND, id_eq, cmpI, gtI, leI, setOwnIt, true_and, wipeE, rng1, catD, negD, repD, ne_w, need_w, popRefM, pop_w, itemsD, Nat.reduceAdd, Nat.reduceSub, Int.reduceLT, lenV_lst, lenV_tup, lenV_str, gi_andD, gi_orD, gi_ifS, gi_eIf, gi_orB, gi_andB, gi_chainD, asB_bl, eq_ss, lt_ii, ne_ss, need_l (h6.get p5)]
  refine M.gives_mono (take_g h6 (by omega) (n := 2) (by decide) (by decide)) fun d st7 ⟨k, e, k0, k1, h7⟩ => ?_
  subst e
  simp only [List.map_cons, List.map_nil, forS, setV, List.set_cons_succ, List.set_cons_zero, gv_bind, gv_seq, setS, Sh.retS, getV, List.getElem?_cons_succ, List.getElem?_cons_zero, gv_pure, mulD, addD, modD, Sh.intD, Sh.subD, Sh.divD, Sh.powD, arI, gv_guard, skipS, runB, Sh.envOf, par2S, par3S, List.length_cons, List.length_nil, List.replicate, List.map, List.append_nil, List.cons_append, List.nil_append, setRefIt, ix_w, ix_c, ix_r, ix_t, pr_r, pr_t, eq_ii, ne_ii, appendS, lstOf, isNoneD, isND, id_eq, cmpI, gtI, leI, setOwnIt, true_and, wipeE, rng1, catD, negD, repD, ne_w, need_w, popRefM, pop_w, itemsD, Nat.reduceAdd, Nat.reduceSub, Int.reduceLT, lenV_lst, lenV_tup, lenV_str, gi_andD, gi_orD, gi_ifS, gi_eIf, gi_orB, gi_andB, gi_chainD, asB_bl, eq_ss, lt_ii, ne_ss]
  rw [dg_l (h7.get p5), put_l (h7.get p5) (by simp)]
  have fin : ∀ y : D, ∃ X, Dw cs (R ++ X) (T + 10) (st7.set q y) := fun y => by
    have := h7.set (p := q) (by omega) (d := y)
    refine ⟨[y], ?_⟩
    have e : (R ++ [D.dic [(D.str l, D.bl (j == 0))]]).set (q - 2) y = R ++ [y] := by
      rw [q2]
      simp
    rw [e] at this
    exact this.up (by omega)
  have got : ∀ y : D, (st7.set q y)[q]? = some y := fun y => (h7.set (p := q) (by omega) (d := y)).get p5.set
  by_cases c5 : l = m
  · subst c5
    rw [dput_eq, items_l (got _)]
    rw [show itemsOf [(D.str l, (dgetK [(D.str l, D.bl (j == 0))] (.inr l)).getD (.bl (k == 0)))] = [prD l (j == 0)] by
      rw [dget_eq rfl]; rfl, items_one, tupleD_run]
    refine ⟨?_, fin _⟩
    rw [isF_never]
    exact isW_str hl
  · rw [dput_ne c5, items_l (got _)]
    rw [show itemsOf [(D.str l, D.bl (j == 0)), (D.str m, (dgetK [(D.str l, D.bl (j == 0))] (.inr m)).getD (.bl (k == 0)))] = [prD l (j == 0), prD m (k == 0)] by
      rw [dget_ne (sk_ne c5)]; rfl, items_two, tupleD_run]
    obtain ⟨a, b, x, y, e, lt, ha, hb⟩ := sort_two (hg.l.lab l hl) (hg.l.lab m hm) c5 (j == 0) (k == 0)
    refine ⟨?_, fin _⟩
    rw [e]
    rw [isF_never]
    show (isW ls (.str a) && isW ls (.str b) && ltS a b) = true
    have hin : ∀ z ∈ [l, m], z ∈ ls := fun z hz => by
      simp only [List.mem_cons, List.not_mem_nil, or_false] at hz
      rcases hz with rfl | rfl
      · exact hl
      · exact hm
    rw [isW_str (hin a ha), isW_str (hin b hb), lt]
    rfl
end Dr
namespace Dr
open PySem PySem.Spec PyProof.Rows L2 Sh
inductive FactI (ls ds : List Str) : D → Prop where
  | sure {s : Str} (hs : s ∈ ds) : FactI ls ds (.tup [.str "sure", .str s])
  | stays {s l : Str} (hs : s ∈ ds) (hl : l ∈ ls) : FactI ls ds (.tup [.str "stays", .str s, .str l])
  | sets {s o l : Str} {b : Bool} (hs : s ∈ ds) (ho : o ∈ l_OUTCOMES) (hl : l ∈ ls) : FactI ls ds (.tup [.str "sets", .str s, .str o, .str l, .bl b])
  | one {l : Str} {b : Bool} (hl : l ∈ ls) : FactI ls ds (.tup [.str "never", .tup [prD l b]])
  | two {l m : Str} {b c : Bool} (hl : l ∈ ls) (hm : m ∈ ls) (h : ltS l m = true) : FactI ls ds (.tup [.str "never", .tup [prD l b, prD m c]])
theorem isW_is {ss : List Str} {d : D} (h : isW ss d = true) : ∃ s ∈ ss, d = .str s := by
  cases d <;> first | (cases h; done) | exact ⟨_, of_decide_eq_true h, rfl⟩
theorem fact_is {ls ds : List Str} {d : D} (h : isF ls ds d = true) : FactI ls ds d := by
  unfold isF at h
  split at h
  · rename_i w x
    by_cases c : w = "never"
    · subst c
      rw [if_pos rfl] at h
      unfold isPairs at h
      split at h
      · obtain ⟨s, b, rfl, hs⟩ := told_is h
        exact .one hs
      · simp only [Bool.and_eq_true] at h
        obtain ⟨⟨h1, h2⟩, h3⟩ := h
        obtain ⟨s, b, rfl, hs⟩ := told_is h1
        obtain ⟨t, c, rfl, ht⟩ := told_is h2
        exact .two hs ht h3
      · cases h
    · rw [if_neg c] at h
      simp only [Bool.and_eq_true, decide_eq_true_eq] at h
      obtain ⟨h1, rfl⟩ := h
      obtain ⟨s, hs, rfl⟩ := isW_is h1
      exact .sure hs
  · simp only [Bool.and_eq_true, decide_eq_true_eq] at h
    obtain ⟨h1, rfl, h2⟩ := h
    obtain ⟨s, hs, rfl⟩ := isW_is h1
    obtain ⟨l, hl, rfl⟩ := isW_is h2
    exact .stays hs hl
  · simp only [Bool.and_eq_true, decide_eq_true_eq] at h
    obtain ⟨h1, rfl, h2, h3⟩ := h
    obtain ⟨s, hs, rfl⟩ := isW_is h1
    obtain ⟨o, ho, rfl⟩ := isW_is h2
    obtain ⟨l, hl, rfl⟩ := isW_is h3
    exact .sets hs ho hl
  · cases h
theorem fact_mk {ls ds : List Str} {d : D} (h : FactI ls ds d) : isF ls ds d = true := by
  cases h with
  | @sure s hs =>
    show (if ("sure" : Str) = "never" then isPairs ls (.str s) else isW ds (.str s) && decide (("sure" : Str) = "sure")) = true
    rw [if_neg (by decide +kernel), isW_str hs, decide_eq_true rfl]
    rfl
  | @stays s l hs hl =>
    show (isW ds (.str s) && (decide (("stays" : Str) = "stays") && isW ls (.str l))) = true
    rw [isW_str hs, isW_str hl, decide_eq_true rfl]
    rfl
  | @sets s o l b hs ho hl =>
    show (isW ds (.str s) && (decide (("sets" : Str) = "sets") && (isW l_OUTCOMES (.str o) && isW ls (.str l)))) = true
    rw [isW_str hs, isW_str hl, isW_str ho, decide_eq_true rfl]
    rfl
  | @one l b hl =>
    rw [isF_never]
    exact isW_str hl
  | @two l m b c hl hm h =>
    rw [isF_never]
    show (isW ls (.str l) && isW ls (.str m) && ltS l m) = true
    rw [isW_str hl, isW_str hm, h]
    rfl
theorem fact_py {ls ds : List Str} {d : D} (h : FactI ls ds d) : ∃ q, d.py = some q ∧ q.depth ≤ 3 := by
  cases h
  · exact ⟨_, rfl, Nat.le_of_ble_eq_true rfl⟩
  · exact ⟨_, rfl, Nat.le_of_ble_eq_true rfl⟩
  · exact ⟨_, rfl, Nat.le_of_ble_eq_true rfl⟩
  · exact ⟨_, rfl, Nat.le_of_ble_eq_true rfl⟩
  · exact ⟨_, rfl, Nat.le_of_ble_eq_true rfl⟩
theorem facts_py {ls ds : List Str} : ∀ {fs : List D}, (∀ f ∈ fs, FactI ls ds f) → ∃ qs, pyL fs = some qs ∧ PyData.depthAll qs ≤ 3
  | [], _ => ⟨[], rfl, by decide⟩
  | f :: fs, h => by
    obtain ⟨q, e1, d1⟩ := fact_py (h f List.mem_cons_self)
    obtain ⟨qs, e2, d2⟩ := facts_py (fs := fs) fun x hx => h x (List.mem_cons_of_mem _ hx)
    refine ⟨q :: qs, by unfold pyL; rw [e1, e2], ?_⟩
    show max q.depth (PyData.depthAll qs) ≤ 3
    omega
theorem in_some {ls ds : List Str} {f : D} {fs : List D} (hf : FactI ls ds f) (h : ∀ f ∈ fs, FactI ls ds f) : ∃ b, inSeq f fs = some b := by
  obtain ⟨q, e1, d1⟩ := fact_py hf
  obtain ⟨qs, e2, d2⟩ := facts_py h
  unfold inSeq
  rw [e1, e2]
  simp only
  rw [if_pos (by omega)]
  exact ⟨_, rfl⟩
theorem lab_ok : ∀ s ∈ lab, okS s = true ∧ s.length ≤ 8 := by
  have h : (lab.all fun s => okS s && decide (s.length ≤ 8)) = true := by decide +kernel
  intro s hs
  have := List.all_eq_true.mp h s hs
  simp only [Bool.and_eq_true, decide_eq_true_eq] at this
  exact this
theorem wrd_ok : ∀ s ∈ (["sure", "stays", "sets", "never", "fail", "no", "yes"] : List Str), okS s = true ∧ s.length ≤ 8 := by
  have h : ((["sure", "stays", "sets", "never", "fail", "no", "yes"] : List Str).all fun s => okS s && decide (s.length ≤ 8)) = true := by decide +kernel
  intro s hs
  have := List.all_eq_true.mp h s hs
  simp only [Bool.and_eq_true, decide_eq_true_eq] at this
  exact this
theorem itm_fact {ls ds : List Str} {d : D} (hl : ∀ s ∈ ls, s ∈ lab) (hd : ∀ s ∈ ds, s ∈ lab) (h : FactI ls ds d) : Itm 60 3 d := by
  cases h with
  | @sure s hs =>
    obtain ⟨a1, a2⟩ := lab_ok s (hd s hs)
    obtain ⟨w1, w2⟩ := wrd_ok "sure" (by simp)
    refine ⟨?_, ?_, Nat.le_of_ble_eq_true rfl⟩
    · show (okS "sure" && (okS s && true)) = true
      rw [w1, a1]; rfl
    · show (("sure" : Str).length + 1 + (s.length + 1 + 0)) ≤ 60
      omega
  | @stays s l hs hl' =>
    obtain ⟨a1, a2⟩ := lab_ok s (hd s hs)
    obtain ⟨b1, b2⟩ := lab_ok l (hl l hl')
    obtain ⟨w1, w2⟩ := wrd_ok "stays" (by simp)
    refine ⟨?_, ?_, Nat.le_of_ble_eq_true rfl⟩
    · show (okS "stays" && (okS s && (okS l && true))) = true
      rw [w1, a1, b1]; rfl
    · show (("stays" : Str).length + 1 + (s.length + 1 + (l.length + 1 + 0))) ≤ 60
      omega
  | @sets s o l b hs ho hl' =>
    obtain ⟨a1, a2⟩ := lab_ok s (hd s hs)
    obtain ⟨b1, b2⟩ := lab_ok l (hl l hl')
    obtain ⟨w1, w2⟩ := wrd_ok "sets" (by simp)
    obtain ⟨o1, o2⟩ := wrd_ok o (by simp only [l_OUTCOMES, List.mem_cons, List.not_mem_nil, or_false] at ho ⊢; rcases ho with h | h | h <;> simp [h])
    refine ⟨?_, ?_, Nat.le_of_ble_eq_true rfl⟩
    · show (okS "sets" && (okS s && (okS o && (okS l && (true && true))))) = true
      rw [w1, a1, b1, o1]; rfl
    · show (("sets" : Str).length + 1 + (s.length + 1 + (o.length + 1 + (l.length + 1 + (0 + 1 + 0))))) ≤ 60
      omega
  | @one l b hl' =>
    obtain ⟨b1, b2⟩ := lab_ok l (hl l hl')
    obtain ⟨w1, w2⟩ := wrd_ok "never" (by simp)
    refine ⟨?_, ?_, Nat.le_of_ble_eq_true rfl⟩
    · show (okS "never" && (((okS l && (true && true)) && true) && true)) = true
      rw [w1, b1]; rfl
    · show (("never" : Str).length + 1 + (((l.length + 1 + (0 + 1 + 0)) + 1 + 0) + 1 + 0)) ≤ 60
      omega
  | @two l m b c hl' hm h =>
    obtain ⟨b1, b2⟩ := lab_ok l (hl l hl')
    obtain ⟨c1, c2⟩ := lab_ok m (hl m hm)
    obtain ⟨w1, w2⟩ := wrd_ok "never" (by simp)
    refine ⟨?_, ?_, Nat.le_of_ble_eq_true rfl⟩
    · show (okS "never" && (((okS l && (true && true)) && ((okS m && (true && true)) && true)) && true)) = true
      rw [w1, b1, c1]; rfl
    · show (("never" : Str).length + 1 + (((l.length + 1 + (0 + 1 + 0)) + 1 + ((m.length + 1 + (0 + 1 + 0)) + 1 + 0)) + 1 + 0)) ≤ 60
      omega
/-! ### the drawn facts -/
structure FS (ls ds : List Str) (fs : List D) : Prop where
  is : ∀ f ∈ fs, FactI ls ds f
  nw : ∀ i f, fs[i]? = some f → inSeq f (fs.take i) = some false
theorem FS.snoc {ls ds : List Str} {fs : List D} {f : D} (h : FS ls ds fs) (hf : FactI ls ds f) (hn : inSeq f fs = some false) : FS ls ds (fs ++ [f]) := by
  refine ⟨fun x hx => ?_, fun i x e => ?_⟩
  · rcases List.mem_append.mp hx with hx | hx
    · exact h.is x hx
    · rw [show x = f by simpa using hx]; exact hf
  · by_cases c : i < fs.length
    · rw [List.getElem?_append_left c] at e
      rw [List.take_append_of_le_length (by omega)]
      exact h.nw i x e
    · have c2 : i = fs.length := by
        have := (List.getElem?_eq_some_iff.mp e).1
        simp at this
        omega
      subst c2
      have : x = f := by simpa using e.symm
      rw [this, List.take_left' rfl]
      exact hn
abbrev factB : MS := seqS (setS 5 (eCall f__law_fact (lCons (eV 0) (lCons (eV 1) lNil)))) (seqS (ifS (tB (e2 notInD (eV 5) (eV 3))) (seqS (appendS 3 (eV 5)) skipS) skipS) skipS)
theorem facts_loop {cs : List Int} {ls ds : List Str} {gs : List D} {p : Nat} (hg : GOK ls ds) : ∀ (rs : List D) (fs : List D) (R : Sto) (T : Int) (st : Sto) (n x y : Option D) (P : Fl × Sh.Env → Sto → Prop), fs.length + rs.length ≤ 10 → FS ls ds fs → Dw cs R T st → HasR R p (.dic (grd ls ds gs)) → T + 10 * rs.length + 100 < 2 ^ 39 →
    (∀ (fs' : List D) st' x y X, fs'.length ≤ fs.length + rs.length → FS ls ds fs' → Dw cs (R ++ X) (T + 10 * rs.length) st' → P (.nx, [some (.ref 1), some (.ref p), n, some (.lst fs'), x, y]) st') →
    (forS (setV 4) factB rs [some (.ref 1), some (.ref p), n, some (.lst fs), x, y]).gives st P
  | [], fs, R, T, st, n, x, y, P, _, hf, hd, _, _, h => h fs st x y [] (by simp) hf (by rw [List.append_nil]; exact hd.up (by simp))
  | r :: rs, fs, R, T, st, n, x, y, P, hl, hf, hd, hp, hT, h => by
    have hl' : fs.length + (rs.length + 1) ≤ 10 := by simpa using hl
    have hT' : T + 10 * (rs.length + 1) + 100 < 2 ^ 39 := by simpa using hT
    simp only [List.map_cons, List.map_nil, forS, setV, List.set_cons_succ, List.set_cons_zero, gv_bind, gv_seq, setS, Sh.retS, getV, List.getElem?_cons_succ, List.getElem?_cons_zero, gv_pure, mulD, addD, modD, Sh.intD, Sh.subD, Sh.divD, Sh.powD, arI, gv_guard, skipS, runB, Sh.envOf, par2S, par3S, List.length_cons, List.length_nil, List.replicate, List.map, List.append_nil, List.cons_append, List.nil_append, setRefIt, ix_w, ix_c, ix_r, ix_t, pr_r, pr_t, eq_ii, ne_ii, appendS, lstOf, isNoneD, isND, id_eq, cmpI, gtI, leI, setOwnIt, true_and, wipeE, rng1, catD, negD, repD, ne_w, need_w, popRefM, pop_w, itemsD, Nat.reduceAdd, Nat.reduceSub, Int.reduceLT, lenV_lst, lenV_tup, lenV_str, gi_andD, gi_orD, gi_ifS, gi_eIf, gi_orB, gi_andB, gi_chainD, asB_bl, eq_ss, lt_ii, ne_ss]
    refine M.gives_mono (fact_g hd hp hg (by omega)) fun f st1 ⟨h1, X, h2⟩ => ?_
    have hi := fact_is h1
    obtain ⟨b, hb⟩ := in_some hi hf.is
    have hp2 : HasR (R ++ X) p (.dic (grd ls ds gs)) := ⟨hp.1, by rw [List.getElem?_append_left (List.getElem?_eq_some_iff.mp hp.2).1]; exact hp.2⟩
    have e : ∀ (Q : D → Sto → Prop), (notInD f (.lst fs)).gives st1 Q ↔ Q (.bl (!b)) st1 := fun Q => by
      show (optB not (inSeq f fs)).gives st1 Q ↔ _
      rw [hb]
      exact Iff.rfl
    rw [e]
    simp only [asB_bl]
    cases b with
    | true =>
      rw [if_neg (by simp)]
      refine facts_loop hg rs fs (R ++ X) (T + 10) st1 n _ _ P (by omega) hf h2 hp2 (by omega) fun fs' st' x y X2 q1 q2 q3 => ?_
      exact h fs' st' x y (X ++ X2) (by simp; omega) q2 (by rw [← List.append_assoc]; exact q3.up (by simp; omega))
    | false =>
      rw [if_pos (by rfl)]
      refine ⟨by omega, ?_⟩
      refine facts_loop hg rs (fs ++ [f]) (R ++ X) (T + 10) st1 n _ _ P (by simp; omega) (hf.snoc hi hb) h2 hp2 (by omega) fun fs' st' x y X2 q1 q2 q3 => ?_
      exact h fs' st' x y (X ++ X2) (by simp at q1 ⊢; omega) q2 (by rw [← List.append_assoc]; exact q3.up (by simp; omega))
theorem facts_g {cs : List Int} {R : Sto} {T : Int} {st : Sto} {ls ds : List Str} {gs : List D} {p : Nat} (h : Dw cs R T st) (hp : HasR R p (.dic (grd ls ds gs))) (hg : GOK ls ds) (hT : T + 300 < 2 ^ 39) :
    (f__law_facts [.ref 1, .ref p, .int 6]).gives st fun d st' => ∃ fs X, d = .lst fs ∧ fs.length ≤ 6 ∧ FS ls ds fs ∧ Dw cs (R ++ X) (T + 70) st' := by
  unfold f__law_facts b__law_facts
  simp only [List.map_cons, List.map_nil, forS, setV, List.set_cons_succ, List.set_cons_zero, gv_bind, gv_seq, setS, Sh.retS, getV, List.getElem?_cons_succ, List.getElem?_cons_zero, gv_pure, mulD, addD, modD, Sh.intD, Sh.subD, Sh.divD, Sh.powD, arI, gv_guard, skipS, runB, Sh.envOf, par2S, par3S, List.length_cons, List.length_nil, List.replicate, List.map, List.append_nil, List.cons_append, List.nil_append, setRefIt, ix_w, ix_c, ix_r, ix_t, pr_r, pr_t, eq_ii, ne_ii, appendS, lstOf, isNoneD, isND, id_eq, cmpI, gtI, leI, setOwnIt, true_and, wipeE, rng1, catD, negD, repD, ne_w, need_w, popRefM, pop_w, itemsD, Nat.reduceAdd, Nat.reduceSub, Int.reduceLT, lenV_lst, lenV_tup, lenV_str, gi_andD, gi_orD, gi_ifS, gi_eIf, gi_orB, gi_andB, gi_chainD, asB_bl, eq_ss, lt_ii, ne_ss]
  refine M.gives_mono (take_g h (by omega) (n := 6 + 1) (by decide) (by decide)) fun d st1 ⟨i, e, i0, i1, h1⟩ => ?_
  subst e
  simp only [List.map_cons, List.map_nil, forS, setV, List.set_cons_succ, List.set_cons_zero, gv_bind, gv_seq, setS, Sh.retS, getV, List.getElem?_cons_succ, List.getElem?_cons_zero, gv_pure, mulD, addD, modD, Sh.intD, Sh.subD, Sh.divD, Sh.powD, arI, gv_guard, skipS, runB, Sh.envOf, par2S, par3S, List.length_cons, List.length_nil, List.replicate, List.map, List.append_nil, List.cons_append, List.nil_append, setRefIt, ix_w, ix_c, ix_r, ix_t, pr_r, pr_t, eq_ii, ne_ii, appendS, lstOf, isNoneD, isND, id_eq, cmpI, gtI, leI, setOwnIt, true_and, wipeE, rng1, catD, negD, repD, ne_w, need_w, popRefM, pop_w, itemsD, Nat.reduceAdd, Nat.reduceSub, Int.reduceLT, lenV_lst, lenV_tup, lenV_str, gi_andD, gi_orD, gi_ifS, gi_eIf, gi_orB, gi_andB, gi_chainD, asB_bl, eq_ss, lt_ii, ne_ss]
  refine ⟨by omega, ?_⟩
  have hr : (rangeD 0 i).length = i.toNat := by simp [rangeD]
  refine facts_loop hg (rangeD 0 i) [] R (T + 1) st1 _ _ _ _ (by rw [hr]; simp; omega) ⟨by simp, by simp⟩ h1 hp (by rw [hr]; omega) fun fs' st' x y X q1 q2 q3 => ?_
  simp only [List.map_cons, List.map_nil, forS, setV, List.set_cons_succ, List.set_cons_zero, gv_bind, gv_seq, setS, Sh.retS, getV, List.getElem?_cons_succ, List.getElem?_cons_zero, gv_pure, mulD, addD, modD, Sh.intD, Sh.subD, Sh.divD, Sh.powD, arI, gv_guard, skipS, runB, Sh.envOf, par2S, par3S, List.length_cons, List.length_nil, List.replicate, List.map, List.append_nil, List.cons_append, List.nil_append, setRefIt, ix_w, ix_c, ix_r, ix_t, pr_r, pr_t, eq_ii, ne_ii, appendS, lstOf, isNoneD, isND, id_eq, cmpI, gtI, leI, setOwnIt, true_and, wipeE, rng1, catD, negD, repD, ne_w, need_w, popRefM, pop_w, itemsD, Nat.reduceAdd, Nat.reduceSub, Int.reduceLT, lenV_lst, lenV_tup, lenV_str, gi_andD, gi_orD, gi_ifS, gi_eIf, gi_orB, gi_andB, gi_chainD, asB_bl, eq_ss, lt_ii, ne_ss]
  exact ⟨fs', X, rfl, by rw [hr] at q1; simp at q1; omega, q2, q3.up (by rw [hr]; omega)⟩
theorem drawn_g {cs : List Int} {R : Sto} {T : Int} {st : Sto} (h : Dw cs R T st) (hT : T + 500 < 2 ^ 39) : (f__law_drawn_ground [.ref 1, .int 4, .int 5, .int 6]).gives st fun d st' => ∃ ls ds fs p R', d = .ref p ∧ GOK ls ds ∧ FS ls ds fs ∧ fs.length ≤ 6 ∧ HasR R' p (.dic (grd ls ds fs)) ∧ Dw cs R' (T + 100) st' := by
  unfold f__law_drawn_ground b__law_drawn_ground
  simp only [List.map_cons, List.map_nil, forS, setV, List.set_cons_succ, List.set_cons_zero, gv_bind, gv_seq, setS, Sh.retS, getV, List.getElem?_cons_succ, List.getElem?_cons_zero, gv_pure, mulD, addD, modD, Sh.intD, Sh.subD, Sh.divD, Sh.powD, arI, gv_guard, skipS, runB, Sh.envOf, par2S, par3S, List.length_cons, List.length_nil, List.replicate, List.map, List.append_nil, List.cons_append, List.nil_append, setRefIt, ix_w, ix_c, ix_r, ix_t, pr_r, pr_t, eq_ii, ne_ii, appendS, lstOf, isNoneD, isND, id_eq, cmpI, gtI, leI, setOwnIt, true_and, wipeE, rng1, catD, negD, repD, ne_w, need_w, popRefM, pop_w, itemsD, Nat.reduceAdd, Nat.reduceSub, Int.reduceLT, lenV_lst, lenV_tup, lenV_str, gi_andD, gi_orD, gi_ifS, gi_eIf, gi_orB, gi_andB, gi_chainD, asB_bl, eq_ss, lt_ii, ne_ss]
  refine M.gives_mono (ground_g h (by omega)) fun d st1 ⟨ls, ds, p, e, hg, hp, h1⟩ => ?_
  subst e
  refine M.gives_mono (facts_g h1 hp hg (by omega)) fun d st2 ⟨fs, X, e, hl, hf, h2⟩ => ?_
  subst e
  have hp2 : HasR (R ++ [.dic (grd ls ds [])] ++ X) p (.dic (grd ls ds [])) := ⟨hp.1, by rw [List.getElem?_append_left (List.getElem?_eq_some_iff.mp hp.2).1]; exact hp.2⟩
  rw [put_l (h2.get hp2) (by simp [grd]), put_f]
  refine ⟨ls, ds, fs, p, _, rfl, hg, hf, hl, hp2.set, (h2.set hp2.1).up (by omega)⟩
end Dr
namespace Dr
open PySem PySem.Spec PyProof.Rows L2 Sh
theorem isi2_lst {ds : List D} {st : Sto} {P : D → Sto → Prop} : (isi2D "list" "tuple" (.lst ds)).gives st P ↔ P (.bl true) st := Iff.rfl
theorem lab_name : ∀ s ∈ lab, nameS s = true := by
  have h : (lab.all nameS) = true := by decide +kernel
  exact fun s hs => List.all_eq_true.mp h s hs
theorem metS_fold : ∀ (xs acc : List Str), xs.Nodup → (∀ x ∈ xs, x ∉ acc) → xs.foldl metS acc = acc ++ xs
  | [], acc, _, _ => by simp
  | x :: xs, acc, h, hd => by
    rw [List.foldl_cons]
    have e : metS acc x = acc ++ [x] := by
      unfold metS
      rw [if_neg]
      intro q
      rw [List.any_eq_true] at q
      obtain ⟨y, hy, e⟩ := q
      have : y = x := by simpa using e
      subst this
      exact hd y List.mem_cons_self hy
    rw [e, metS_fold xs (acc ++ [x]) (List.nodup_cons.mp h).2 fun y hy q => ?_]
    · simp
    · rcases List.mem_append.mp q with q | q
      · exact hd y (List.mem_cons_of_mem _ hy) q
      · have : y = x := by simpa using q
        subst this
        exact (List.nodup_cons.mp h).1 hy
theorem lenSet_run {ss : List Str} (h : ss.Nodup) (hl : ss.length < 1000) {st : Sto} {P : D → Sto → Prop} : (lenSetD (.lst (ss.map .str))).gives st P ↔ P (.int ss.length) st := by
  show (match strsOf (ss.map .str) with | some ss => if ss.length < 1000 then pure (D.int ((metL ss ss.length).length : Nat)) else M.bad | none => M.bad : M D).gives st P ↔ _
  rw [strsOf_map]
  simp only [if_pos hl]
  have : (metL ss ss.length).length = ss.length := by
    unfold metL
    rw [List.take_length, metS_fold ss [] h (by simp)]
    simp
  rw [this]
  exact Iff.rfl
theorem names_g {ss : List Str} (h : LS ss) {n : Int} (hn : (ss.length : Int) ≤ n) (hl : ss.length < 1000) {st : Sto} {P : D → Sto → Prop} (hp : P (.bl true) st) : (f_are_names [.lst (ss.map .str), .int n]).gives st P := by
  unfold f_are_names b_are_names
  simp only [List.map_cons, List.map_nil, forS, setV, List.set_cons_succ, List.set_cons_zero, gv_bind, gv_seq, setS, Sh.retS, getV, List.getElem?_cons_succ, List.getElem?_cons_zero, gv_pure, mulD, addD, modD, Sh.intD, Sh.subD, Sh.divD, Sh.powD, arI, gv_guard, skipS, runB, Sh.envOf, par2S, par3S, List.length_cons, List.length_nil, List.replicate, List.map, List.append_nil, List.cons_append, List.nil_append, setRefIt, ix_w, ix_c, ix_r, ix_t, pr_r, pr_t, eq_ii, ne_ii, appendS, lstOf, isNoneD, isND, id_eq, cmpI, gtI, leI, setOwnIt, true_and, wipeE, rng1, catD, negD, repD, ne_w, need_w, popRefM, pop_w, itemsD, Nat.reduceAdd, Nat.reduceSub, Int.reduceLT, lenV_lst, lenV_tup, lenV_str, gi_andD, gi_orD, gi_ifS, gi_eIf, gi_orB, gi_andB, gi_chainD, asB_bl, eq_ss, lt_ii, ne_ss, isi2_lst]
  rw [if_neg (by simp), if_neg (by simp; omega)]
  refine comp_fm (g := D.str) (p := fun _ => true) (f := fun _ => D.bl true) ss _ (fun x _ P hP => hP) (fun x hx _ P hP => ?_) ?_
  · simp only [List.map_cons, List.map_nil, forS, setV, List.set_cons_succ, List.set_cons_zero, gv_bind, gv_seq, setS, Sh.retS, getV, List.getElem?_cons_succ, List.getElem?_cons_zero, gv_pure, mulD, addD, modD, Sh.intD, Sh.subD, Sh.divD, Sh.powD, arI, gv_guard, skipS, runB, Sh.envOf, par2S, par3S, List.length_cons, List.length_nil, List.replicate, List.map, List.append_nil, List.cons_append, List.nil_append, setRefIt, ix_w, ix_c, ix_r, ix_t, pr_r, pr_t, eq_ii, ne_ii, appendS, lstOf, isNoneD, isND, id_eq, cmpI, gtI, leI, setOwnIt, true_and, wipeE, rng1, catD, negD, repD, ne_w, need_w, popRefM, pop_w, itemsD, Nat.reduceAdd, Nat.reduceSub, Int.reduceLT, lenV_lst, lenV_tup, lenV_str, gi_andD, gi_orD, gi_ifS, gi_eIf, gi_orB, gi_andB, gi_chainD, asB_bl, eq_ss, lt_ii, ne_ss]
    exact name_str (by rw [lab_name x (h.lab x hx)]; exact hP)
  · rw [List.filter_eq_self.mpr (by simp)]
    have e : (ss.map fun _ => D.bl true) = (ss.map fun _ => true).map D.bl := by rw [List.map_map]; rfl
    rw [e, all_bls, List.all_map]
    have e2 : (ss.all (id ∘ fun _ => true)) = true := by simp
    rw [e2]
    simp only [asB_bl, if_true, lenSet_run h.nd hl]
    show P (.bl ((ss.length : Int) == ((ss.map D.str).length : Nat))) st
    rw [List.length_map]
    simpa using hp
theorem any_bls {bs : List Bool} {st : Sto} {P : D → Sto → Prop} : (quantD anyB (.lst (bs.map .bl))).gives st P ↔ P (.bl (bs.any id)) st := by
  show (match blsOf (bs.map .bl) with | some bs => pure (D.bl (anyB bs)) | none => M.bad : M D).gives st P ↔ _
  rw [bls_map]
  exact Iff.rfl
abbrev needB : MS := (seqS (ifS (orB (tNot (tB (eCall f_is_fact_about (lCons (eV 0) (lCons (eV 1) (lCons (eV 4) lNil)))))) (tB (e2 inD (eV 4) (eSl slL (eV 2) oN (oS (eV 3)))))) (seqS (fun _ => M.bad)
  skipS) skipS)
  skipS)
theorem need_loop {ls ds : List Str} {fs : List D} (hl : ∀ s ∈ ls, s ∈ lab) (hd : ∀ s ∈ ds, s ∈ lab) (hf : FS ls ds fs) {st : Sto} {P : Fl × Sh.Env → Sto → Prop} : ∀ (gs : List D) (k : Nat) (x y : Option D), fs.drop k = gs →
    (∀ x y, P (.nx, [some (.lst (ls.map .str)), some (.lst (ds.map .str)), some (.lst fs), x, y]) st) →
    (forS (gTupD (gConsD (setV 3) (gConsD (setV 4) gNilD))) needB (enumF k gs) [some (.lst (ls.map .str)), some (.lst (ds.map .str)), some (.lst fs), x, y]).gives st P
  | [], k, x, y, _, h => h x y
  | g :: gs, k, x, y, e, h => by
    have hk : fs[k]? = some g := by
      have := congrArg (fun l => l[0]?) e
      simpa using this
    have hi := hf.is g (List.mem_of_getElem? hk)
    have hn := hf.nw k g hk
    have hin : ∀ (Q : D → Sto → Prop), (inD g (.lst (fs.take k))).gives st Q ↔ Q (.bl false) st := fun Q => by
      show (optB id (inSeq g (fs.take k))).gives st Q ↔ _
      rw [hn]
      exact Iff.rfl
    unfold enumF
    simp only [List.map_cons, List.map_nil, forS, setV, List.set_cons_succ, List.set_cons_zero, gv_bind, gv_seq, setS, Sh.retS, getV, List.getElem?_cons_succ, List.getElem?_cons_zero, gv_pure, mulD, addD, modD, Sh.intD, Sh.subD, Sh.divD, Sh.powD, arI, gv_guard, skipS, runB, Sh.envOf, par2S, par3S, List.length_cons, List.length_nil, List.replicate, List.map, List.append_nil, List.cons_append, List.nil_append, setRefIt, ix_w, ix_c, ix_r, ix_t, pr_r, pr_t, eq_ii, ne_ii, appendS, lstOf, isNoneD, isND, id_eq, cmpI, gtI, leI, setOwnIt, true_and, wipeE, rng1, catD, negD, repD, ne_w, need_w, popRefM, pop_w, itemsD, Nat.reduceAdd, Nat.reduceSub, Int.reduceLT, lenV_lst, lenV_tup, lenV_str, gi_andD, gi_orD, gi_ifS, gi_eIf, gi_orB, gi_andB, gi_chainD, asB_bl, eq_ss, lt_ii, ne_ss, gTupD, gConsD, gNilD, Option.bind_some]
    refine fact_about (itm_fact hl hd hi).1 (.inl rfl) (.inl rfl) ?_
    rw [fact_mk hi]
    simp only [List.map_cons, List.map_nil, forS, setV, List.set_cons_succ, List.set_cons_zero, gv_bind, gv_seq, setS, Sh.retS, getV, List.getElem?_cons_succ, List.getElem?_cons_zero, gv_pure, mulD, addD, modD, Sh.intD, Sh.subD, Sh.divD, Sh.powD, arI, gv_guard, skipS, runB, Sh.envOf, par2S, par3S, List.length_cons, List.length_nil, List.replicate, List.map, List.append_nil, List.cons_append, List.nil_append, setRefIt, ix_w, ix_c, ix_r, ix_t, pr_r, pr_t, eq_ii, ne_ii, appendS, lstOf, isNoneD, isND, id_eq, cmpI, gtI, leI, setOwnIt, true_and, wipeE, rng1, catD, negD, repD, ne_w, need_w, popRefM, pop_w, itemsD, Nat.reduceAdd, Nat.reduceSub, Int.reduceLT, lenV_lst, lenV_tup, lenV_str, gi_andD, gi_orD, gi_ifS, gi_eIf, gi_orB, gi_andB, gi_chainD, asB_bl, eq_ss, lt_ii, ne_ss, asI_run, slL_run]
    rw [cut_to (by omega), Int.toNat_natCast, hin]
    rw [if_neg (by simp)]
    simp only [List.map_cons, List.map_nil, forS, setV, List.set_cons_succ, List.set_cons_zero, gv_bind, gv_seq, setS, Sh.retS, getV, List.getElem?_cons_succ, List.getElem?_cons_zero, gv_pure, mulD, addD, modD, Sh.intD, Sh.subD, Sh.divD, Sh.powD, arI, gv_guard, skipS, runB, Sh.envOf, par2S, par3S, List.length_cons, List.length_nil, List.replicate, List.map, List.append_nil, List.cons_append, List.nil_append, setRefIt, ix_w, ix_c, ix_r, ix_t, pr_r, pr_t, eq_ii, ne_ii, appendS, lstOf, isNoneD, isND, id_eq, cmpI, gtI, leI, setOwnIt, true_and, wipeE, rng1, catD, negD, repD, ne_w, need_w, popRefM, pop_w, itemsD, Nat.reduceAdd, Nat.reduceSub, Int.reduceLT, lenV_lst, lenV_tup, lenV_str, gi_andD, gi_orD, gi_ifS, gi_eIf, gi_orB, gi_andB, gi_chainD, asB_bl, eq_ss, lt_ii, ne_ss]
    refine need_loop hl hd hf gs (k + 1) _ _ ?_ h
    have : fs.drop (k + 1) = (fs.drop k).tail := by rw [List.tail_drop]
    rw [this, e]
    rfl
end Dr
namespace Dr
open PySem PySem.Spec PyProof.Rows L2 Sh
/-! ### moments -/
def tS (ss : List Str) : D := .tup (ss.map .str)
def barD (b : List (Str × Bool)) : D := .tup (b.map fun p => prD p.1 p.2)
def metB (b : List (Str × Bool)) (ss : List Str) : Bool := b.all fun p => (decide (p.1 ∈ ss) == p.2)
theorem eq_bb {a b : Bool} {st : Sto} {P : D → Sto → Prop} : (eqD (.bl a) (.bl b)).gives st P ↔ P (.bl (a == b)) st := by cases a <;> cases b <;> exact Iff.rfl
abbrev metE : Sh.Env → M D := e2 eqD (e2 inD (eV 2) (eV 1)) (eV 3)
theorem met_comp {b0 : D} {ss : List Str} {st : Sto} : ∀ (b : List (Str × Bool)) (x y : Option D) (P : List D → Sto → Prop), P (b.map fun p => .bl (decide (p.1 ∈ ss) == p.2)) st →
    (compD (gTupD (gConsD (setV 2) (gConsD (setV 3) gNilD))) Sh.tYes metE [some b0, some (tS ss), x, y] (b.map fun p => prD p.1 p.2)).gives st P
  | [], x, y, P, h => h
  | (s, v) :: b, x, y, P, h => by
    rw [List.map_cons]
    unfold compD
    show M.gives (do let t ← (Sh.tYes [some b0, some (tS ss), some (.str s), some (.bl v)] : M Bool); if t = true then (do let yy ← metE [some b0, some (tS ss), some (.str s), some (.bl v)]; let r ← compD (gTupD (gConsD (setV 2) (gConsD (setV 3) gNilD))) Sh.tYes metE [some b0, some (tS ss), x, y] (b.map fun p => prD p.1 p.2); pure (yy :: r)) else compD (gTupD (gConsD (setV 2) (gConsD (setV 3) gNilD))) Sh.tYes metE [some b0, some (tS ss), x, y] (b.map fun p => prD p.1 p.2)) st P
    simp only [List.map_cons, List.map_nil, forS, setV, List.set_cons_succ, List.set_cons_zero, gv_bind, gv_seq, setS, Sh.retS, getV, List.getElem?_cons_succ, List.getElem?_cons_zero, gv_pure, mulD, addD, modD, Sh.intD, Sh.subD, Sh.divD, Sh.powD, arI, gv_guard, skipS, runB, Sh.envOf, par2S, par3S, List.length_cons, List.length_nil, List.replicate, List.map, List.append_nil, List.cons_append, List.nil_append, setRefIt, ix_w, ix_c, ix_r, ix_t, pr_r, pr_t, eq_ii, ne_ii, appendS, lstOf, isNoneD, isND, id_eq, cmpI, gtI, leI, setOwnIt, true_and, wipeE, rng1, catD, negD, repD, ne_w, need_w, popRefM, pop_w, itemsD, Nat.reduceAdd, Nat.reduceSub, Int.reduceLT, lenV_lst, lenV_tup, lenV_str, gi_andD, gi_orD, gi_ifS, gi_eIf, gi_orB, gi_andB, gi_chainD, asB_bl, eq_ss, lt_ii, ne_ss, if_true, in_sq (.inr rfl : Sq (tS ss) ss), eq_bb]
    exact met_comp b x y _ h
theorem met_g {b : List (Str × Bool)} {ss : List Str} {st : Sto} {P : D → Sto → Prop} (h : P (.bl (metB b ss)) st) : (f_is_met [barD b, tS ss]).gives st P := by
  unfold f_is_met b_is_met barD
  simp only [List.map_cons, List.map_nil, forS, setV, List.set_cons_succ, List.set_cons_zero, gv_bind, gv_seq, setS, Sh.retS, getV, List.getElem?_cons_succ, List.getElem?_cons_zero, gv_pure, mulD, addD, modD, Sh.intD, Sh.subD, Sh.divD, Sh.powD, arI, gv_guard, skipS, runB, Sh.envOf, par2S, par3S, List.length_cons, List.length_nil, List.replicate, List.map, List.append_nil, List.cons_append, List.nil_append, setRefIt, ix_w, ix_c, ix_r, ix_t, pr_r, pr_t, eq_ii, ne_ii, appendS, lstOf, isNoneD, isND, id_eq, cmpI, gtI, leI, setOwnIt, true_and, wipeE, rng1, catD, negD, repD, ne_w, need_w, popRefM, pop_w, itemsD, Nat.reduceAdd, Nat.reduceSub, Int.reduceLT, lenV_lst, lenV_tup, lenV_str, gi_andD, gi_orD, gi_ifS, gi_eIf, gi_orB, gi_andB, gi_chainD, asB_bl, eq_ss, lt_ii, ne_ss]
  refine met_comp b _ _ _ ?_
  have e : (b.map fun p => D.bl (decide (p.1 ∈ ss) == p.2)) = (b.map fun p => (decide (p.1 ∈ ss) == p.2)).map .bl := by rw [List.map_map]; rfl
  rw [e, all_bls, List.all_map]
  exact h
theorem fullL_strs : ∀ as bs : List Str, fullL (as.map .str) (bs.map .str) = true
  | [], [] => rfl
  | [], _ :: _ => rfl
  | _ :: _, [] => rfl
  | a :: as, b :: bs => by
    show ((PyData.eqv (.str a) (.str b) || true) && fullL (as.map .str) (bs.map .str)) = true
    rw [fullL_strs as bs]
    simp
theorem lazyL_strs : ∀ as bs : List Str, lazyL (as.map .str) (bs.map .str) = true
  | [], [] => rfl
  | [], _ :: _ => rfl
  | _ :: _, [] => rfl
  | a :: as, b :: bs => by
    show (if PyData.eqv (.str a) (.str b) = true then lazyL (as.map .str) (bs.map .str) else true) = true
    rw [lazyL_strs as bs]
    simp
theorem ordKL_strs : ∀ ss : List Str, ordKL (ss.map .str) = true
  | [] => rfl
  | s :: ss => by
    show (true && ordKL (ss.map .str)) = true
    rw [ordKL_strs ss]
    rfl
def tP (ss : List Str) : PyData := .tuple (ss.map .str)
theorem pyL_tS : ∀ mm : List (List Str), pyL (mm.map tS) = some (mm.map tP)
  | [] => rfl
  | m :: mm => by
    rw [List.map_cons]
    unfold pyL
    rw [pyL_tS mm]
    have : (tS m).py = some (tP m) := by
      unfold tS D.py
      rw [pyL_strs]
      rfl
    rw [this]
    rfl
theorem sortable_tS (mm : List (List Str)) : sortable (mm.map tP) = true := by
  unfold sortable
  rw [Bool.and_eq_true]
  refine ⟨?_, ?_⟩
  · rw [List.all_map, List.all_eq_true]
    intro m _
    show (ordKL (m.map .str) && decide (PyData.depthAll (m.map .str) + 1 ≤ 60)) = true
    rw [ordKL_strs, depth_strs]
    rfl
  · unfold sortOk
    by_cases c : [] ∈ mm
    · have : sortOkB (mm.map tP) = true := by
        unfold sortOkB allPairs
        simp only [Bool.and_eq_true]
        refine ⟨⟨?_, ?_⟩, ?_⟩
        · rw [List.all_map, List.all_eq_true]; intro m _; rfl
        · rw [List.any_map, List.any_eq_true]; exact ⟨[], c, rfl⟩
        · rw [List.all_map, List.all_eq_true]
          intro m _
          show ((mm.map tP).all fun q => fullL (m.map .str) (itemsP q)) = true
          rw [List.all_map, List.all_eq_true]
          intro k _
          exact fullL_strs m k
      rw [this]
      simp
    · have : sortOkA (mm.map tP) = true := by
        cases mm with
        | nil => rfl
        | cons m mm =>
          have hd : ∀ k ∈ m :: mm, ((k.map PyData.str).head?.map tagP) = some "str" ∧ (k.map PyData.str).head?.isSome = true := fun k hk => by
            cases k with
            | nil => exact absurd hk c
            | cons s k => exact ⟨rfl, rfl⟩
          show (((m :: mm).map tP).all (fun q => isTupP q && decide (((itemsP q).head?.map tagP) = ((m.map PyData.str).head?.map tagP)) && (itemsP q).head?.isSome) && allPairs (fun p q => lazyL (itemsP p) (itemsP q)) ((m :: mm).map tP)) = true
          rw [Bool.and_eq_true]
          refine ⟨?_, ?_⟩
          · rw [List.all_map, List.all_eq_true]
            intro k hk
            show (true && decide (((k.map PyData.str).head?.map tagP) = ((m.map PyData.str).head?.map tagP)) && (k.map PyData.str).head?.isSome) = true
            rw [(hd k hk).1, (hd k hk).2, (hd m List.mem_cons_self).1]
            rfl
          · unfold allPairs
            rw [List.all_map, List.all_eq_true]
            intro k _
            show (((m :: mm).map tP).all fun q => lazyL (k.map .str) (itemsP q)) = true
            rw [List.all_map, List.all_eq_true]
            intro j _
            exact lazyL_strs k j
      rw [this]
      simp
theorem sort_tS {mm : List (List Str)} {st : Sto} {P : D → Sto → Prop} (h : ∀ xs, P (.lst xs) st) : (sortedX (.lst (mm.map tS))).gives st P := by
  show (match pyL (mm.map tS) with | some ps => if sortable ps = true then pure (D.lst (sortO (mm.map tS))) else M.bad | none => M.bad : M D).gives st P
  rw [pyL_tS]
  simp only [sortable_tS, if_true]
  exact h _
abbrev momB : MS := (seqS (setS 2 (e2 catD (eV 2) (eComp [6] (iSeq (eV 2)) (setV 6) tYes (eTupV (vStar (eV 6) (lCons (eV 3) lNil))))))
  skipS)
theorem mom_loop {x0 x1 : Option D} {st : Sto} {P : Fl × Sh.Env → Sto → Prop} : ∀ (ss : List Str) (mm : List (List Str)) (x3 x4 x5 x6 x7 : Option D), mm.length * 2 ^ ss.length ≤ 100 → (∀ m ∈ mm, m.length + ss.length ≤ 100) →
    (∀ (mm : List (List Str)) x3 x6, mm.length ≤ 100 → P (.nx, [x0, x1, some (.lst (mm.map tS)), x3, x4, x5, x6, x7]) st) →
    (forS (setV 3) momB (ss.map .str) [x0, x1, some (.lst (mm.map tS)), x3, x4, x5, x6, x7]).gives st P
  | [], mm, x3, x4, x5, x6, x7, hl, hm, h => h mm x3 x6 (by simpa using hl)
  | s :: ss, mm, x3, x4, x5, x6, x7, hl, hm, h => by
    have hl2 : (mm.length + mm.length) * 2 ^ ss.length ≤ 100 := by
      rw [List.length_cons, Nat.pow_succ] at hl
      rw [show mm.length + mm.length = mm.length * 2 by omega, Nat.mul_assoc, Nat.mul_comm 2]
      exact hl
    have hmm : mm.length + mm.length ≤ 100 := by
      have : 1 ≤ 2 ^ ss.length := Nat.one_le_two_pow
      have := Nat.mul_le_mul_left (mm.length + mm.length) this
      omega
    rw [List.map_cons]
    unfold forS
    simp only [List.map_cons, List.map_nil, setV, List.set_cons_succ, List.set_cons_zero, gv_bind, gv_seq, setS, Sh.retS, getV, List.getElem?_cons_succ, List.getElem?_cons_zero, gv_pure, mulD, addD, modD, Sh.intD, Sh.subD, Sh.divD, Sh.powD, arI, gv_guard, skipS, runB, Sh.envOf, par2S, par3S, gv_ifS, gv_eIf, gv_orB, gv_andB, asB, List.length_cons, List.length_nil, List.replicate, List.map, List.append_nil, List.cons_append, List.nil_append, setRefIt, ix_w, ix_c, ix_r, ix_t, pr_r, pr_t, eq_ii, ne_ii, appendS, lstOf, isNoneD, isND, id_eq, cmpI, gtI, leI, setOwnIt, true_and, wipeE, rng1, catD, negD, repD, ne_w, need_w, popRefM, pop_w, itemsD, Nat.reduceAdd, Nat.reduceSub, Int.reduceLT, lenV_lst, lenV_tup, lenV_str]
    refine comp_fm (g := tS) (p := fun _ => true) (f := fun m => tS (m ++ [s])) mm _ (fun x _ P hP => hP) (fun x hx _ P hP => ?_) ?_
    · have := hm x hx
      simp only [List.length_cons] at this
      show (if (x.map D.str ++ [D.str s]).length ≤ 16777216 then pure (D.tup (x.map D.str ++ [D.str s])) else M.bad : M D).gives st P
      rw [if_pos (by simp; omega)]
      have e : D.tup (x.map D.str ++ [D.str s]) = tS (x ++ [s]) := by unfold tS; rw [List.map_append]; rfl
      rw [e]
      exact hP
    · rw [List.filter_eq_self.mpr (by simp)]
      have e : mm.map tS ++ (mm.map fun m => tS (m ++ [s])) = (mm ++ mm.map fun m => m ++ [s]).map tS := by rw [List.map_append, List.map_map]; rfl
      refine ⟨by simp; omega, ?_⟩
      rw [e]
      refine mom_loop ss (mm ++ mm.map fun m => m ++ [s]) _ x4 x5 _ x7 (by simpa using hl2) (fun m hm2 => ?_) h
      rcases List.mem_append.mp hm2 with q | q
      · have := hm m q; simp only [List.length_cons] at this; omega
      · obtain ⟨k, hk, rfl⟩ := List.mem_map.mp q
        have := hm k hk
        simp only [List.length_cons] at this
        simp
        omega
end Dr
namespace Dr
open PySem PySem.Spec PyProof.Rows L2 Sh
theorem comp_q {i : Nat} {t : Sh.Env → M Bool} {e : Sh.Env → M D} {ρ : Sh.Env} {st : Sto} {p : D → Bool} {F : D → D} {P : List D → Sto → Prop} (xs : List D) (ht : ∀ x ∈ xs, ∀ P : Bool → Sto → Prop, P (p x) st → (t (ρ.set i (some x))).gives st P) (h : ∀ x ∈ xs, p x = true → ∀ P : D → Sto → Prop, P (F x) st → (e (ρ.set i (some x))).gives st P) (hp : P ((xs.filter p).map F) st) : (compD (setV i) t e ρ xs).gives st P := by
  have := comp_fm (i := i) (t := t) (e := e) (ρ := ρ) (st := st) (g := id) (p := p) (f := F) xs P ht h hp
  rw [List.map_id] at this
  exact this
def isNev : D → Bool
  | .tup (.str w :: _) => w == "never"
  | _ => false
def sndD : D → D
  | .tup (_ :: x :: _) => x
  | d => d
def prOf : D → Str × Bool
  | .tup [.str s, .bl b] => (s, b)
  | _ => ("", false)
def barOf : D → List (Str × Bool)
  | .tup [_, .tup ps] => ps.map prOf
  | _ => []
theorem nev_bar {ls ds : List Str} {f : D} (h : FactI ls ds f) (hn : isNev f = true) : sndD f = barD (barOf f) := by
  cases h with
  | sure _ => exact absurd hn (by show ¬ (("sure" : Str) == "never") = true; rw [n_ns]; simp)
  | stays _ _ => exact absurd hn (by show ¬ (("stays" : Str) == "never") = true; rw [n_ty]; simp)
  | sets _ _ _ => exact absurd hn (by show ¬ (("sets" : Str) == "never") = true; rw [n_sn]; simp)
  | one _ => rfl
  | two _ _ _ => rfl
theorem fact_ix {ls ds : List Str} {f : D} (h : FactI ls ds f) : ∃ w x r, f = .tup (.str w :: x :: r) := by
  cases h <;> exact ⟨_, _, _, rfl⟩
theorem moments_g {ls ds : List Str} {ss : List Str} {fs : List D} (hl : ss.length ≤ 4) (hf : ∀ f ∈ fs, FactI ls ds f) {st : Sto} {P : D → Sto → Prop} (h : ∀ xs, P (.lst xs) st) : (f_moments_of [.tup (ss.map .str), .tup fs]).gives st P := by
  unfold f_moments_of b_moments_of
  have run := fun (Q : Fl × Sh.Env → Sto → Prop) => mom_loop (x0 := some (.tup (ss.map .str))) (x1 := some (.tup fs)) (st := st) (P := Q) ss [[]] none none none none none (by
    have := Nat.pow_le_pow_right (n := 2) (by decide) hl
    simp only [List.length_cons, List.length_nil]
    omega) (fun m hm => by have : m = [] := by simpa using hm
                           subst this; simp; omega)
  simp only [List.map_cons, List.map_nil, setV, List.set_cons_succ, List.set_cons_zero, gv_bind, gv_seq, setS, Sh.retS, getV, List.getElem?_cons_succ, List.getElem?_cons_zero, gv_pure, mulD, addD, modD, Sh.intD, Sh.subD, Sh.divD, Sh.powD, arI, gv_guard, skipS, runB, Sh.envOf, par2S, par3S, gv_ifS, gv_eIf, gv_orB, gv_andB, asB, List.length_cons, List.length_nil, List.replicate, List.map, List.append_nil, List.cons_append, List.nil_append, setRefIt, ix_w, ix_c, ix_r, ix_t, pr_r, pr_t, eq_ii, ne_ii, appendS, lstOf, isNoneD, isND, id_eq, cmpI, gtI, leI, setOwnIt, true_and, wipeE, rng1, catD, negD, repD, ne_w, need_w, popRefM, pop_w, itemsD, Nat.reduceAdd, Nat.reduceSub, Int.reduceLT, lenV_lst, lenV_tup, lenV_str] at run ⊢
  refine run _ fun mm x3 x6 hmm => ?_
  simp only [List.map_cons, List.map_nil, setV, List.set_cons_succ, List.set_cons_zero, gv_bind, gv_seq, setS, Sh.retS, getV, List.getElem?_cons_succ, List.getElem?_cons_zero, gv_pure, mulD, addD, modD, Sh.intD, Sh.subD, Sh.divD, Sh.powD, arI, gv_guard, skipS, runB, Sh.envOf, par2S, par3S, gv_ifS, gv_eIf, gv_orB, gv_andB, asB, List.length_cons, List.length_nil, List.replicate, List.map, List.append_nil, List.cons_append, List.nil_append, setRefIt, ix_w, ix_c, ix_r, ix_t, pr_r, pr_t, eq_ii, ne_ii, appendS, lstOf, isNoneD, isND, id_eq, cmpI, gtI, leI, setOwnIt, true_and, wipeE, rng1, catD, negD, repD, ne_w, need_w, popRefM, pop_w, itemsD, Nat.reduceAdd, Nat.reduceSub, Int.reduceLT, lenV_lst, lenV_tup, lenV_str]
  refine comp_q (p := isNev) (F := sndD) fs (fun x hx P hP => ?_) (fun x hx _ P hP => ?_) ?_
  · obtain ⟨w, y, r, rfl⟩ := fact_ix (hf x hx)
    simp only [List.map_cons, List.map_nil, setV, List.set_cons_succ, List.set_cons_zero, gv_bind, gv_seq, setS, Sh.retS, getV, List.getElem?_cons_succ, List.getElem?_cons_zero, gv_pure, mulD, addD, modD, Sh.intD, Sh.subD, Sh.divD, Sh.powD, arI, gv_guard, skipS, runB, Sh.envOf, par2S, par3S, gv_ifS, gv_eIf, gv_orB, gv_andB, asB, List.length_cons, List.length_nil, List.replicate, List.map, List.append_nil, List.cons_append, List.nil_append, setRefIt, ix_w, ix_c, ix_r, ix_t, pr_r, pr_t, eq_ii, ne_ii, appendS, lstOf, isNoneD, isND, id_eq, cmpI, gtI, leI, setOwnIt, true_and, wipeE, rng1, catD, negD, repD, ne_w, need_w, popRefM, pop_w, itemsD, Nat.reduceAdd, Nat.reduceSub, Int.reduceLT, lenV_lst, lenV_tup, lenV_str, ix0, eq_ss]
    exact hP
  · obtain ⟨w, y, r, rfl⟩ := fact_ix (hf x hx)
    simp only [List.map_cons, List.map_nil, setV, List.set_cons_succ, List.set_cons_zero, gv_bind, gv_seq, setS, Sh.retS, getV, List.getElem?_cons_succ, List.getElem?_cons_zero, gv_pure, mulD, addD, modD, Sh.intD, Sh.subD, Sh.divD, Sh.powD, arI, gv_guard, skipS, runB, Sh.envOf, par2S, par3S, gv_ifS, gv_eIf, gv_orB, gv_andB, asB, List.length_cons, List.length_nil, List.replicate, List.map, List.append_nil, List.cons_append, List.nil_append, setRefIt, ix_w, ix_c, ix_r, ix_t, pr_r, pr_t, eq_ii, ne_ii, appendS, lstOf, isNoneD, isND, id_eq, cmpI, gtI, leI, setOwnIt, true_and, wipeE, rng1, catD, negD, repD, ne_w, need_w, popRefM, pop_w, itemsD, Nat.reduceAdd, Nat.reduceSub, Int.reduceLT, lenV_lst, lenV_tup, lenV_str, ix1]
    exact hP
  have eb : (fs.filter isNev).map sndD = ((fs.filter isNev).map barOf).map barD := by
    rw [List.map_map]
    exact List.map_congr_left fun f q => nev_bar (hf f (List.mem_filter.mp q).1) (List.mem_filter.mp q).2
  rw [eb]
  generalize (fs.filter isNev).map barOf = bs
  refine comp_fm (g := tS) (p := fun m => !(bs.any fun b => metB b m)) (f := tS) mm _ (fun m hm P hP => ?_) (fun m hm _ P hP => hP) ?_
  · simp only [List.map_cons, List.map_nil, setV, List.set_cons_succ, List.set_cons_zero, gv_bind, gv_seq, setS, Sh.retS, getV, List.getElem?_cons_succ, List.getElem?_cons_zero, gv_pure, mulD, addD, modD, Sh.intD, Sh.subD, Sh.divD, Sh.powD, arI, gv_guard, skipS, runB, Sh.envOf, par2S, par3S, gv_ifS, gv_eIf, gv_orB, gv_andB, asB, List.length_cons, List.length_nil, List.replicate, List.map, List.append_nil, List.cons_append, List.nil_append, setRefIt, ix_w, ix_c, ix_r, ix_t, pr_r, pr_t, eq_ii, ne_ii, appendS, lstOf, isNoneD, isND, id_eq, cmpI, gtI, leI, setOwnIt, true_and, wipeE, rng1, catD, negD, repD, ne_w, need_w, popRefM, pop_w, itemsD, Nat.reduceAdd, Nat.reduceSub, Int.reduceLT, lenV_lst, lenV_tup, lenV_str]
    refine comp_fm (g := barD) (p := fun _ => true) (f := fun b => .bl (metB b m)) bs _ (fun x _ P hP => hP) (fun b hb _ P hP => ?_) ?_
    · simp only [List.map_cons, List.map_nil, setV, List.set_cons_succ, List.set_cons_zero, gv_bind, gv_seq, setS, Sh.retS, getV, List.getElem?_cons_succ, List.getElem?_cons_zero, gv_pure, mulD, addD, modD, Sh.intD, Sh.subD, Sh.divD, Sh.powD, arI, gv_guard, skipS, runB, Sh.envOf, par2S, par3S, gv_ifS, gv_eIf, gv_orB, gv_andB, asB, List.length_cons, List.length_nil, List.replicate, List.map, List.append_nil, List.cons_append, List.nil_append, setRefIt, ix_w, ix_c, ix_r, ix_t, pr_r, pr_t, eq_ii, ne_ii, appendS, lstOf, isNoneD, isND, id_eq, cmpI, gtI, leI, setOwnIt, true_and, wipeE, rng1, catD, negD, repD, ne_w, need_w, popRefM, pop_w, itemsD, Nat.reduceAdd, Nat.reduceSub, Int.reduceLT, lenV_lst, lenV_tup, lenV_str]
      exact met_g hP
    · rw [List.filter_eq_self.mpr (by simp)]
      have e : (bs.map fun b => D.bl (metB b m)) = (bs.map fun b => metB b m).map .bl := by rw [List.map_map]; rfl
      rw [e, any_bls, List.any_map]
      exact hP
  · exact sort_tS h
/-! ### facts are sorted -/
theorem ev_ss {a b : Str} : PyData.eqv (.str a) (.str b) = (a == b) := rfl
theorem facts_lazy {ls ds : List Str} {f g : D} {p q : PyData} (hf : FactI ls ds f) (hg : FactI ls ds g) (hp : f.py = some p) (hq : g.py = some q) : lazyL (itemsP p) (itemsP q) = true := by
  have n1 : (("sure" : Str) == "never") = false := n_ns
  have n2 : (("stays" : Str) == "never") = false := n_ty
  have n3 : (("sets" : Str) == "never") = false := n_sn
  have m1 : (("never" : Str) == "sure") = false := by decide +kernel
  have m2 : (("never" : Str) == "stays") = false := by decide +kernel
  have m3 : (("never" : Str) == "sets") = false := by decide +kernel
  cases hf <;> cases hg <;> cases hp <;> cases hq <;> simp [itemsP, lazyL, fullB, fullL, ev_ss, n1, n2, n3, m1, m2, m3, prD]
end Dr
namespace Dr
open PySem PySem.Spec PyProof.Rows L2 Sh
theorem fact_sort {ls ds : List Str} {f : D} {p : PyData} (hf : FactI ls ds f) (hp : f.py = some p) : isTupP p = true ∧ (itemsP p).head?.map tagP = some "str" ∧ (itemsP p).head?.isSome = true ∧ ordK p = true ∧ p.depth ≤ 60 := by
  cases hf <;> cases hp <;> exact ⟨rfl, rfl, rfl, rfl, Nat.le_of_ble_eq_true rfl⟩
theorem sort_facts {ls ds : List Str} {fs : List D} (hf : ∀ f ∈ fs, FactI ls ds f) {st : Sto} {P : D → Sto → Prop} (h : ∀ xs, (∀ f ∈ xs, f ∈ fs) → P (.lst xs) st) : (sortedX (.lst fs)).gives st P := by
  obtain ⟨ps, e, _⟩ := facts_py hf
  show (match pyL fs with | some ps => if sortable ps = true then pure (D.lst (sortO fs)) else M.bad | none => M.bad : M D).gives st P
  rw [e]
  obtain ⟨l, at_⟩ := pyL_at e
  have key : ∀ p ∈ ps, ∃ f, FactI ls ds f ∧ f.py = some p := fun p hp => by
    obtain ⟨j, hj, e⟩ := List.mem_iff_getElem.mp hp
    have hj2 : j < fs.length := by omega
    obtain ⟨p', e1, e2⟩ := at_ j fs[j] (List.getElem?_eq_getElem hj2)
    rw [List.getElem?_eq_getElem hj, e] at e1
    cases e1
    exact ⟨fs[j], hf _ (List.getElem_mem hj2), e2⟩
  have hs : sortable ps = true := by
    unfold sortable
    rw [Bool.and_eq_true]
    refine ⟨?_, ?_⟩
    · rw [List.all_eq_true]
      intro p hp
      obtain ⟨f, h1, h2⟩ := key p hp
      obtain ⟨_, _, _, o, d⟩ := fact_sort h1 h2
      rw [o]
      simp [d]
    · have : sortOkA ps = true := by
        cases ps with
        | nil => rfl
        | cons p r =>
          show ((p :: r).all (fun q => isTupP q && decide (((itemsP q).head?.map tagP) = ((itemsP p).head?.map tagP)) && (itemsP q).head?.isSome) && allPairs (fun p q => lazyL (itemsP p) (itemsP q)) (p :: r)) = true
          obtain ⟨f0, h01, h02⟩ := key p List.mem_cons_self
          obtain ⟨_, t0, _, _, _⟩ := fact_sort h01 h02
          rw [Bool.and_eq_true]
          refine ⟨?_, ?_⟩
          · rw [List.all_eq_true]
            intro q hq
            obtain ⟨f, h1, h2⟩ := key q hq
            obtain ⟨a, b, c, _, _⟩ := fact_sort h1 h2
            rw [a, b, c, t0]
            rfl
          · unfold allPairs
            rw [List.all_eq_true]
            intro a ha
            rw [List.all_eq_true]
            intro b hb
            obtain ⟨f, h1, h2⟩ := key a ha
            obtain ⟨g, h3, h4⟩ := key b hb
            exact facts_lazy h1 h3 h2 h4
      unfold sortOk
      rw [this]
      simp
  simp only [hs, if_true]
  exact h _ fun f q => List.mem_mergeSort.mp q
/-! ### the book -/
theorem putF_run {tab : CT} {f : String} {q : Nat} {c : String} {fs : List (Str × D)} {y : D} {st : Sto} (h : st[q]? = some (.obj c fs)) (h1 : okF tab c f = true) (h2 : fs.length < 1000) {P : Unit → Sto → Prop} : (putFldD tab f (.ref q) y).gives st P ↔ P () (st.set q (.obj c (putFD (Str.ofString f) y fs))) := by
  have e : putFldD tab f (.ref q) y st = .ok () (st.set q (.obj c (putFD (Str.ofString f) y fs))) := by
    unfold putFldD
    simp only [h]
    rw [if_pos ⟨h1, h2⟩]
  rw [M.gives_ok e]
theorem fld_run {tab : CT} {f : String} {q : Nat} {c : String} {fs : List (Str × D)} {y : D} {st : Sto} (h : st[q]? = some (.obj c fs)) (h1 : okF tab c f = true) (h2 : fs.lookup (Str.ofString f) = some y) {P : D → Sto → Prop} : (fldD tab f (.ref q)).gives st P ↔ P y st := by
  have e : fldD tab f (.ref q) st = .ok y st := by
    show M.bind (view (.ref q)) _ st = _
    unfold M.bind view
    simp only [h]
    rw [if_pos h1, h2]
    rfl
  rw [M.gives_ok e]
def bkF (L K F m : D) : List (Str × D) := [("b_looks", L), ("b_deeds", K), ("b_facts", F), ("b_moments", m)]
def bkO (L K F m : D) : D := .obj "Book" (bkF L K F m)
theorem need_g {ls ds : List Str} {fs : List D} (hg : GOK ls ds) (hf : FS ls ds fs) {st : Sto} {P : D → Sto → Prop} (h : P .non st) : (f_need_facts [.lst (ls.map .str), .lst (ds.map .str), .lst fs]).gives st P := by
  unfold f_need_facts b_need_facts
  simp only [List.map_cons, List.map_nil, setV, List.set_cons_succ, List.set_cons_zero, gv_bind, gv_seq, setS, Sh.retS, getV, List.getElem?_cons_succ, List.getElem?_cons_zero, gv_pure, mulD, addD, modD, Sh.intD, Sh.subD, Sh.divD, Sh.powD, arI, gv_guard, skipS, runB, Sh.envOf, par2S, par3S, gv_ifS, gv_eIf, gv_orB, gv_andB, asB, List.length_cons, List.length_nil, List.replicate, List.map, List.append_nil, List.cons_append, List.nil_append, setRefIt, ix_w, ix_c, ix_r, ix_t, pr_r, pr_t, eq_ii, ne_ii, appendS, lstOf, isNoneD, isND, id_eq, cmpI, gtI, leI, setOwnIt, true_and, wipeE, rng1, catD, negD, repD, ne_w, need_w, popRefM, pop_w, itemsD, Nat.reduceAdd, Nat.reduceSub, Int.reduceLT, lenV_lst, lenV_tup, lenV_str, isi2_lst, asB_bl]
  refine ⟨fun e => (by cases e), fun _ => ?_⟩
  refine need_loop hg.l.lab hg.d.lab hf fs 0 none none rfl fun x y => ?_
  simp only [List.map_cons, List.map_nil, setV, List.set_cons_succ, List.set_cons_zero, gv_bind, gv_seq, setS, Sh.retS, getV, List.getElem?_cons_succ, List.getElem?_cons_zero, gv_pure, mulD, addD, modD, Sh.intD, Sh.subD, Sh.divD, Sh.powD, arI, gv_guard, skipS, runB, Sh.envOf, par2S, par3S, gv_ifS, gv_eIf, gv_orB, gv_andB, asB, List.length_cons, List.length_nil, List.replicate, List.map, List.append_nil, List.cons_append, List.nil_append, setRefIt, ix_w, ix_c, ix_r, ix_t, pr_r, pr_t, eq_ii, ne_ii, appendS, lstOf, isNoneD, isND, id_eq, cmpI, gtI, leI, setOwnIt, true_and, wipeE, rng1, catD, negD, repD, ne_w, need_w, popRefM, pop_w, itemsD, Nat.reduceAdd, Nat.reduceSub, Int.reduceLT, lenV_lst, lenV_tup, lenV_str]
  exact h
theorem putL {f : Str} {y : D} : ∀ {fs : List (Str × D)} {n : Nat}, fs.length < n → (putFD f y fs).length < n + 1
  | [], n, h => by simp [putFD] at h ⊢; omega
  | (g, x) :: r, n, h => by
    unfold putFD
    split
    · simp at h ⊢; omega
    · have := putL (f := f) (y := y) (fs := r) (n := n - 1) (by simp at h; omega)
      simp at h ⊢
      omega
theorem init_g {ls ds : List Str} {fs : List D} {q : Nat} {st : Sto} (hg : GOK ls ds) (hf : FS ls ds fs) (hn : fs.length ≤ 6) (hq : st[q]? = some (.obj "Book" [])) {P : D → Sto → Prop} (h : ∀ F m, P .non (st.set q (bkO (tS (sortW ls)) (tS (sortW ds)) F m))) :
    (f_Book___init__ [.ref q, .lst (ls.map .str), .lst (ds.map .str), .lst fs]).gives st P := by
  have hlt : q < st.length := (List.getElem?_eq_some_iff.mp hq).1
  have g : ∀ (o : D) (s : Sto), s.length = st.length → (s.set q o)[q]? = some o := fun o s e => by
    rw [List.getElem?_set_self (by omega)]
  unfold f_Book___init__ b_Book___init__
  simp only [List.map_cons, List.map_nil, setV, List.set_cons_succ, List.set_cons_zero, gv_bind, gv_seq, setS, Sh.retS, getV, List.getElem?_cons_succ, List.getElem?_cons_zero, gv_pure, mulD, addD, modD, Sh.intD, Sh.subD, Sh.divD, Sh.powD, arI, gv_guard, skipS, runB, Sh.envOf, par2S, par3S, gv_ifS, gv_eIf, gv_orB, gv_andB, asB, List.length_cons, List.length_nil, List.replicate, List.map, List.append_nil, List.cons_append, List.nil_append, setRefIt, ix_w, ix_c, ix_r, ix_t, pr_r, pr_t, eq_ii, ne_ii, appendS, lstOf, isNoneD, isND, id_eq, cmpI, gtI, leI, setOwnIt, true_and, wipeE, rng1, catD, negD, repD, ne_w, need_w, popRefM, pop_w, itemsD, Nat.reduceAdd, Nat.reduceSub, Int.reduceLT, lenV_lst, lenV_tup, lenV_str]
  refine names_g hg.l (by have := hg.ll; omega) (by have := hg.ll; omega) ?_
  simp only [List.map_cons, List.map_nil, setV, List.set_cons_succ, List.set_cons_zero, gv_bind, gv_seq, setS, Sh.retS, getV, List.getElem?_cons_succ, List.getElem?_cons_zero, gv_pure, mulD, addD, modD, Sh.intD, Sh.subD, Sh.divD, Sh.powD, arI, gv_guard, skipS, runB, Sh.envOf, par2S, par3S, gv_ifS, gv_eIf, gv_orB, gv_andB, asB, List.length_cons, List.length_nil, List.replicate, List.map, List.append_nil, List.cons_append, List.nil_append, setRefIt, ix_w, ix_c, ix_r, ix_t, pr_r, pr_t, eq_ii, ne_ii, appendS, lstOf, isNoneD, isND, id_eq, cmpI, gtI, leI, setOwnIt, true_and, wipeE, rng1, catD, negD, repD, ne_w, need_w, popRefM, pop_w, itemsD, Nat.reduceAdd, Nat.reduceSub, Int.reduceLT, lenV_lst, lenV_tup, lenV_str, asB_bl]
  refine ⟨fun e => (by cases e), fun _ => ?_⟩
  refine names_g hg.d (by have := hg.dl; omega) (by have := hg.dl; omega) ?_
  simp only [List.map_cons, List.map_nil, setV, List.set_cons_succ, List.set_cons_zero, gv_bind, gv_seq, setS, Sh.retS, getV, List.getElem?_cons_succ, List.getElem?_cons_zero, gv_pure, mulD, addD, modD, Sh.intD, Sh.subD, Sh.divD, Sh.powD, arI, gv_guard, skipS, runB, Sh.envOf, par2S, par3S, gv_ifS, gv_eIf, gv_orB, gv_andB, asB, List.length_cons, List.length_nil, List.replicate, List.map, List.append_nil, List.cons_append, List.nil_append, setRefIt, ix_w, ix_c, ix_r, ix_t, pr_r, pr_t, eq_ii, ne_ii, appendS, lstOf, isNoneD, isND, id_eq, cmpI, gtI, leI, setOwnIt, true_and, wipeE, rng1, catD, negD, repD, ne_w, need_w, popRefM, pop_w, itemsD, Nat.reduceAdd, Nat.reduceSub, Int.reduceLT, lenV_lst, lenV_tup, lenV_str, asB_bl]
  refine ⟨fun e => (by cases e), fun _ => ?_⟩
  refine comp_fm (g := D.str) (p := fun _ => true) (f := fun s => .bl (decide (s ∈ ls))) ds _ (fun x _ P hP => hP) (fun x _ _ P hP => ?_) ?_
  · simp only [List.map_cons, List.map_nil, setV, List.set_cons_succ, List.set_cons_zero, gv_bind, gv_seq, setS, Sh.retS, getV, List.getElem?_cons_succ, List.getElem?_cons_zero, gv_pure, mulD, addD, modD, Sh.intD, Sh.subD, Sh.divD, Sh.powD, arI, gv_guard, skipS, runB, Sh.envOf, par2S, par3S, gv_ifS, gv_eIf, gv_orB, gv_andB, asB, List.length_cons, List.length_nil, List.replicate, List.map, List.append_nil, List.cons_append, List.nil_append, setRefIt, ix_w, ix_c, ix_r, ix_t, pr_r, pr_t, eq_ii, ne_ii, appendS, lstOf, isNoneD, isND, id_eq, cmpI, gtI, leI, setOwnIt, true_and, wipeE, rng1, catD, negD, repD, ne_w, need_w, popRefM, pop_w, itemsD, Nat.reduceAdd, Nat.reduceSub, Int.reduceLT, lenV_lst, lenV_tup, lenV_str]
    rw [in_sq (.inl rfl)]
    exact hP
  rw [List.filter_eq_self.mpr (by simp)]
  have e : (ds.map fun s => D.bl (decide (s ∈ ls))) = (ds.map fun _ => false).map .bl := by
    rw [List.map_map]
    exact List.map_congr_left fun s hs => by
      show D.bl (decide (s ∈ ls)) = D.bl false
      rw [decide_eq_false fun q => hg.dj s q hs]
  rw [e, any_bls, List.any_map]
  have e2 : (ds.any (id ∘ fun _ => false)) = false := by simp
  rw [e2]
  simp only [List.map_cons, List.map_nil, setV, List.set_cons_succ, List.set_cons_zero, gv_bind, gv_seq, setS, Sh.retS, getV, List.getElem?_cons_succ, List.getElem?_cons_zero, gv_pure, mulD, addD, modD, Sh.intD, Sh.subD, Sh.divD, Sh.powD, arI, gv_guard, skipS, runB, Sh.envOf, par2S, par3S, gv_ifS, gv_eIf, gv_orB, gv_andB, asB, List.length_cons, List.length_nil, List.replicate, List.map, List.append_nil, List.cons_append, List.nil_append, setRefIt, ix_w, ix_c, ix_r, ix_t, pr_r, pr_t, eq_ii, ne_ii, appendS, lstOf, isNoneD, isND, id_eq, cmpI, gtI, leI, setOwnIt, true_and, wipeE, rng1, catD, negD, repD, ne_w, need_w, popRefM, pop_w, itemsD, Nat.reduceAdd, Nat.reduceSub, Int.reduceLT, lenV_lst, lenV_tup, lenV_str, asB_bl]
  refine ⟨fun e => (by cases e), fun _ => ?_⟩
  simp only [List.map_cons, List.map_nil, setV, List.set_cons_succ, List.set_cons_zero, gv_bind, gv_seq, setS, Sh.retS, getV, List.getElem?_cons_succ, List.getElem?_cons_zero, gv_pure, mulD, addD, modD, Sh.intD, Sh.subD, Sh.divD, Sh.powD, arI, gv_guard, skipS, runB, Sh.envOf, par2S, par3S, gv_ifS, gv_eIf, gv_orB, gv_andB, asB, List.length_cons, List.length_nil, List.replicate, List.map, List.append_nil, List.cons_append, List.nil_append, setRefIt, ix_w, ix_c, ix_r, ix_t, pr_r, pr_t, eq_ii, ne_ii, appendS, lstOf, isNoneD, isND, id_eq, cmpI, gtI, leI, setOwnIt, true_and, wipeE, rng1, catD, negD, repD, ne_w, need_w, popRefM, pop_w, itemsD, Nat.reduceAdd, Nat.reduceSub, Int.reduceLT, lenV_lst, lenV_tup, lenV_str, exprS]
  refine need_g hg hf ?_
  refine ⟨fun e => ?_, fun _ => ?_⟩
  · have : ¬ ((fs.length : Int) > 24) := by omega
    simp at e
    omega
  unfold setFldS
  simp only [List.map_cons, List.map_nil, setV, List.set_cons_succ, List.set_cons_zero, gv_bind, gv_seq, setS, Sh.retS, getV, List.getElem?_cons_succ, List.getElem?_cons_zero, gv_pure, mulD, addD, modD, Sh.intD, Sh.subD, Sh.divD, Sh.powD, arI, gv_guard, skipS, runB, Sh.envOf, par2S, par3S, gv_ifS, gv_eIf, gv_orB, gv_andB, asB, List.length_cons, List.length_nil, List.replicate, List.map, List.append_nil, List.cons_append, List.nil_append, setRefIt, ix_w, ix_c, ix_r, ix_t, pr_r, pr_t, eq_ii, ne_ii, appendS, lstOf, isNoneD, isND, id_eq, cmpI, gtI, leI, setOwnIt, true_and, wipeE, rng1, catD, negD, repD, ne_w, need_w, popRefM, pop_w, itemsD, Nat.reduceAdd, Nat.reduceSub, Int.reduceLT, lenV_lst, lenV_tup, lenV_str]
  rw [sort_strs, tupleD_run, putF_run hq (by decide) (by decide)]
  rw [sort_strs, tupleD_run, putF_run (g _ _ rfl) (by decide) (by simp [putFD])]
  refine sort_facts hf.is fun xs hxs => ?_
  rw [tupleD_run, putF_run (g _ _ (by simp)) (by decide) (putL (putL (n := 998) (by decide)))]
  rw [fld_run (g _ _ (by simp)) (by decide) (by rfl)]
  rw [fld_run (g _ _ (by simp)) (by decide) (by rfl)]
  refine moments_g (ss := sortW ls) (by unfold sortW; rw [List.length_mergeSort]; exact hg.ll) (fun f hf2 => hf.is f (hxs f hf2)) fun ms => ?_
  rw [tupleD_run, putF_run (g _ _ (by simp)) (by decide) (putL (putL (putL (n := 997) (by decide))))]
  simp only [List.map_cons, List.map_nil, setV, List.set_cons_succ, List.set_cons_zero, gv_bind, gv_seq, setS, Sh.retS, getV, List.getElem?_cons_succ, List.getElem?_cons_zero, gv_pure, mulD, addD, modD, Sh.intD, Sh.subD, Sh.divD, Sh.powD, arI, gv_guard, skipS, runB, Sh.envOf, par2S, par3S, gv_ifS, gv_eIf, gv_orB, gv_andB, asB, List.length_cons, List.length_nil, List.replicate, List.map, List.append_nil, List.cons_append, List.nil_append, setRefIt, ix_w, ix_c, ix_r, ix_t, pr_r, pr_t, eq_ii, ne_ii, appendS, lstOf, isNoneD, isND, id_eq, cmpI, gtI, leI, setOwnIt, true_and, wipeE, rng1, catD, negD, repD, ne_w, need_w, popRefM, pop_w, itemsD, Nat.reduceAdd, Nat.reduceSub, Int.reduceLT, lenV_lst, lenV_tup, lenV_str, List.set_set]
  exact h _ _
theorem set_app {R : Sto} {d e : D} : (R ++ [d]).set R.length e = R ++ [e] := by simp
theorem book_g {cs : List Int} {R : Sto} {T : Int} {st : Sto} {ls ds : List Str} {fs : List D} {p : Nat} (h : Dw cs R T st) (hp : HasR R p (.dic (grd ls ds fs))) (hg : GOK ls ds) (hf : FS ls ds fs) (hn : fs.length ≤ 6) :
    (f__law_book [.ref p]).gives st fun d st' => ∃ q F m, d = .ref q ∧ HasR (R ++ [bkO (tS (sortW ls)) (tS (sortW ds)) F m]) q (bkO (tS (sortW ls)) (tS (sortW ds)) F m) ∧ Dw cs (R ++ [bkO (tS (sortW ls)) (tS (sortW ds)) F m]) T st' := by
  unfold f__law_book b__law_book
  simp only [List.map_cons, List.map_nil, setV, List.set_cons_succ, List.set_cons_zero, gv_bind, gv_seq, setS, Sh.retS, getV, List.getElem?_cons_succ, List.getElem?_cons_zero, gv_pure, mulD, addD, modD, Sh.intD, Sh.subD, Sh.divD, Sh.powD, arI, gv_guard, skipS, runB, Sh.envOf, par2S, par3S, gv_ifS, gv_eIf, gv_orB, gv_andB, asB, List.length_cons, List.length_nil, List.replicate, List.map, List.append_nil, List.cons_append, List.nil_append, setRefIt, ix_w, ix_c, ix_r, ix_t, pr_r, pr_t, eq_ii, ne_ii, appendS, lstOf, isNoneD, isND, id_eq, cmpI, gtI, leI, setOwnIt, true_and, wipeE, rng1, catD, negD, repD, ne_w, need_w, popRefM, pop_w, itemsD, Nat.reduceAdd, Nat.reduceSub, Int.reduceLT, lenV_lst, lenV_tup, lenV_str, makeD, ix_l (h.get hp), ix_d (h.get hp), ix_f (h.get hp), gv_alloc]
  refine init_g hg hf hn (by simp) fun F m => ?_
  simp only [List.map_cons, List.map_nil, setV, List.set_cons_succ, List.set_cons_zero, gv_bind, gv_seq, setS, Sh.retS, getV, List.getElem?_cons_succ, List.getElem?_cons_zero, gv_pure, mulD, addD, modD, Sh.intD, Sh.subD, Sh.divD, Sh.powD, arI, gv_guard, skipS, runB, Sh.envOf, par2S, par3S, gv_ifS, gv_eIf, gv_orB, gv_andB, asB, List.length_cons, List.length_nil, List.replicate, List.map, List.append_nil, List.cons_append, List.nil_append, setRefIt, ix_w, ix_c, ix_r, ix_t, pr_r, pr_t, eq_ii, ne_ii, appendS, lstOf, isNoneD, isND, id_eq, cmpI, gtI, leI, setOwnIt, true_and, wipeE, rng1, catD, negD, repD, ne_w, need_w, popRefM, pop_w, itemsD, Nat.reduceAdd, Nat.reduceSub, Int.reduceLT, lenV_lst, lenV_tup, lenV_str]
  rw [app_set]
  exact ⟨st.length, F, m, rfl, h.new, h.app _⟩
end Dr
namespace Dr
open PySem PySem.Spec PyProof.Rows L2 Sh
/-! ### every fact -/
def sureD (s : Str) : D := .tup [.str "sure", .str s]
def staysD (s l : Str) : D := .tup [.str "stays", .str s, .str l]
def setsD (s o l : Str) (b : Bool) : D := .tup [.str "sets", .str s, .str o, .str l, .bl b]
def oneD (l : Str) (b : Bool) : D := .tup [.str "never", .tup [prD l b]]
def twoD (l : Str) (b : Bool) (m : Str) (c : Bool) : D := .tup [.str "never", .tup [prD l b, prD m c]]
def e1L (s o : Str) : List Str → List D
  | [] => []
  | l :: r => [setsD s o l false, setsD s o l true] ++ e1L s o r
def e2L (ls : List Str) (s : Str) : List Str → List D
  | [] => []
  | o :: r => e1L s o ls ++ e2L ls s r
def e3L (ls : List Str) : List Str → List D
  | [] => []
  | s :: r => ([sureD s] ++ ls.map (staysD s) ++ e2L ls s l_OUTCOMES) ++ e3L ls r
def e4L (l : Str) (b : Bool) : List Str → List D
  | [] => []
  | m :: r => [twoD l b m false, twoD l b m true] ++ e4L l b r
def e6L : List Str → List D
  | [] => []
  | l :: r => ((oneD l false :: e4L l false r) ++ (oneD l true :: e4L l true r)) ++ e6L r
def everyL (ls ds : List Str) : List D := e3L ls ds ++ e6L ls
theorem e1_len (s o : Str) : ∀ ls : List Str, (e1L s o ls).length = 2 * ls.length
  | [] => rfl
  | l :: r => by unfold e1L; rw [List.length_append, e1_len s o r]; simp; omega
theorem e2_len (ls : List Str) (s : Str) : ∀ os : List Str, (e2L ls s os).length = 2 * ls.length * os.length
  | [] => rfl
  | o :: r => by unfold e2L; rw [List.length_append, e1_len, e2_len ls s r, List.length_cons, Nat.mul_add]; omega
theorem e4_len (l : Str) (b : Bool) : ∀ ms : List Str, (e4L l b ms).length = 2 * ms.length
  | [] => rfl
  | m :: r => by unfold e4L; rw [List.length_append, e4_len l b r]; simp; omega
abbrev e1B : MS := (seqS (setS 4 (e2 catD (eV 4) (eComp [8] (iSeq (eTup (lCons (eC (.bl false)) (lCons (eC (.bl true)) lNil)))) (setV 8) tYes (eTup (lCons (eC (.str "sets")) (lCons (eV 1) (lCons (eV 5) (lCons (eV 7) (lCons (eV 8) lNil)))))))))
  skipS)
theorem forS_go {g : D → Sh.Env → Option Sh.Env} {b : MS} {x : D} {xs : List D} {ρ ρ1 : Sh.Env} {st : Sto} {P : Fl × Sh.Env → Sto → Prop} (h : g x ρ = some ρ1) : (forS g b (x :: xs) ρ).gives st P ↔ (b ρ1).gives st fun r st' => (match r.1 with | .nx => forS g b xs r.2 | .ct => forS g b xs r.2 | .bk => pure (.nx, r.2) | .rt d => pure (.rt d, r.2) : M (Fl × Sh.Env)).gives st' P := by
  unfold forS
  rw [h]
  show M.gives (b ρ1 >>= _) st P ↔ _
  rw [M.gives_bind]
  cases xs <;> exact Iff.rfl
section
variable {x0 x1 x2 x3 x5 x6 x7 x8 x9 x10 : Option D} {st : Sto} {P : Fl × Sh.Env → Sto → Prop}
theorem e1_loop {s o : Str} : ∀ (ls : List Str) (acc : List D) (x7 x8 : Option D), acc.length + 2 * ls.length ≤ 100000 →
    (∀ x7 x8, P (.nx, [x0, some (.str s), x2, x3, some (.lst (acc ++ e1L s o ls)), some (.str o), x6, x7, x8, x9, x10]) st) →
    (forS (setV 7) e1B (ls.map .str) [x0, some (.str s), x2, x3, some (.lst acc), some (.str o), x6, x7, x8, x9, x10]).gives st P
  | [], acc, x7, x8, _, h => by
    have := h x7 x8
    rw [show acc ++ e1L s o [] = acc from List.append_nil acc] at this
    exact this
  | l :: ls, acc, x7, x8, hl, h => by
    rw [List.map_cons]
    unfold forS
    simp only [List.map_cons, List.map_nil, setV, List.set_cons_succ, List.set_cons_zero, gv_bind, gv_seq, setS, Sh.retS, getV, List.getElem?_cons_succ, List.getElem?_cons_zero, gv_pure, mulD, addD, modD, Sh.intD, Sh.subD, Sh.divD, Sh.powD, arI, gv_guard, skipS, runB, Sh.envOf, par2S, par3S, gv_ifS, gv_eIf, gv_orB, gv_andB, asB, List.length_cons, List.length_nil, List.replicate, List.map, List.append_nil, List.cons_append, List.nil_append, setRefIt, ix_w, ix_c, ix_r, ix_t, pr_r, pr_t, eq_ii, ne_ii, appendS, lstOf, isNoneD, isND, id_eq, cmpI, gtI, leI, setOwnIt, true_and, wipeE, rng1, catD, negD, repD, ne_w, need_w, popRefM, pop_w, itemsD, Nat.reduceAdd, Nat.reduceSub, Int.reduceLT, lenV_lst, lenV_tup, lenV_str]
    refine comp_p (F := fun b => .tup [.str "sets", .str s, .str o, .str l, b]) [.bl false, .bl true] (fun b hb P hP => ?_) ?_
    · simp only [List.map_cons, List.map_nil, setV, List.set_cons_succ, List.set_cons_zero, gv_bind, gv_seq, setS, Sh.retS, getV, List.getElem?_cons_succ, List.getElem?_cons_zero, gv_pure, mulD, addD, modD, Sh.intD, Sh.subD, Sh.divD, Sh.powD, arI, gv_guard, skipS, runB, Sh.envOf, par2S, par3S, gv_ifS, gv_eIf, gv_orB, gv_andB, asB, List.length_cons, List.length_nil, List.replicate, List.map, List.append_nil, List.cons_append, List.nil_append, setRefIt, ix_w, ix_c, ix_r, ix_t, pr_r, pr_t, eq_ii, ne_ii, appendS, lstOf, isNoneD, isND, id_eq, cmpI, gtI, leI, setOwnIt, true_and, wipeE, rng1, catD, negD, repD, ne_w, need_w, popRefM, pop_w, itemsD, Nat.reduceAdd, Nat.reduceSub, Int.reduceLT, lenV_lst, lenV_tup, lenV_str]
      exact hP
    · simp only [List.length_cons] at hl
      refine ⟨by simp; omega, ?_⟩
      refine e1_loop ls _ _ _ (by simp; omega) fun y7 y8 => ?_
      have := h y7 y8
      unfold e1L at this
      rw [← List.append_assoc] at this
      exact this
theorem e2_loop {ls : List Str} {s : Str} (hls : ls.length ≤ 10) : ∀ (os : List Str) (acc : List D) (x5 x7 x8 : Option D), acc.length + 100 * os.length ≤ 100000 →
    (∀ x5 x7 x8, P (.nx, [x0, some (.str s), some (.lst (ls.map .str)), x3, some (.lst (acc ++ e2L ls s os)), x5, x6, x7, x8, x9, x10]) st) →
    (forS (setV 5) (seqS (forE (iSeq (eV 2)) (setV 7) e1B) skipS) (os.map .str) [x0, some (.str s), some (.lst (ls.map .str)), x3, some (.lst acc), x5, x6, x7, x8, x9, x10]).gives st P
  | [], acc, x5, x7, x8, _, h => by
    have := h x5 x7 x8
    rw [show acc ++ e2L ls s [] = acc from List.append_nil acc] at this
    exact this
  | o :: os, acc, x5, x7, x8, hl, h => by
    simp only [List.length_cons] at hl
    rw [List.map_cons]
    unfold forS
    simp only [List.map_cons, List.map_nil, setV, List.set_cons_succ, List.set_cons_zero, gv_bind, gv_seq, setS, Sh.retS, getV, List.getElem?_cons_succ, List.getElem?_cons_zero, gv_pure, mulD, addD, modD, Sh.intD, Sh.subD, Sh.divD, Sh.powD, arI, gv_guard, skipS, runB, Sh.envOf, par2S, par3S, gv_ifS, gv_eIf, gv_orB, gv_andB, asB, List.length_cons, List.length_nil, List.replicate, List.map, List.append_nil, List.cons_append, List.nil_append, setRefIt, ix_w, ix_c, ix_r, ix_t, pr_r, pr_t, eq_ii, ne_ii, appendS, lstOf, isNoneD, isND, id_eq, cmpI, gtI, leI, setOwnIt, true_and, wipeE, rng1, catD, negD, repD, ne_w, need_w, popRefM, pop_w, itemsD, Nat.reduceAdd, Nat.reduceSub, Int.reduceLT, lenV_lst, lenV_tup, lenV_str]
    refine e1_loop ls acc _ _ (by omega) fun y7 y8 => ?_
    simp only [List.map_cons, List.map_nil, setV, List.set_cons_succ, List.set_cons_zero, gv_bind, gv_seq, setS, Sh.retS, getV, List.getElem?_cons_succ, List.getElem?_cons_zero, gv_pure, mulD, addD, modD, Sh.intD, Sh.subD, Sh.divD, Sh.powD, arI, gv_guard, skipS, runB, Sh.envOf, par2S, par3S, gv_ifS, gv_eIf, gv_orB, gv_andB, asB, List.length_cons, List.length_nil, List.replicate, List.map, List.append_nil, List.cons_append, List.nil_append, setRefIt, ix_w, ix_c, ix_r, ix_t, pr_r, pr_t, eq_ii, ne_ii, appendS, lstOf, isNoneD, isND, id_eq, cmpI, gtI, leI, setOwnIt, true_and, wipeE, rng1, catD, negD, repD, ne_w, need_w, popRefM, pop_w, itemsD, Nat.reduceAdd, Nat.reduceSub, Int.reduceLT, lenV_lst, lenV_tup, lenV_str]
    refine e2_loop hls os _ _ _ _ (by rw [List.length_append, e1_len]; omega) fun y5 y7 y8 => ?_
    have := h y5 y7 y8
    unfold e2L at this
    rw [← List.append_assoc] at this
    exact this
abbrev e3B : MS := (seqS (setS 4 (e2 catD (e2 catD (eV 4) (eLst (lCons (eTup (lCons (eC (.str "sure")) (lCons (eV 1) lNil))) lNil))) (eComp [7] (iSeq (eV 2)) (setV 7) tYes (eTup (lCons (eC (.str "stays")) (lCons (eV 1) (lCons (eV 7) lNil)))))))
  (seqS (forE (iSeq (eLst (lCons (eC (.str "fail")) (lCons (eC (.str "no")) (lCons (eC (.str "yes")) lNil))))) (setV 5) (seqS (forE (iSeq (eV 2)) (setV 7) e1B) skipS))
  skipS))
theorem e3_loop {ls : List Str} (hls : ls.length ≤ 10) : ∀ (ds : List Str) (acc : List D) (x1 x5 x7 x8 : Option D), acc.length + 1000 * ds.length ≤ 90000 →
    (∀ x1 x5 x7 x8, P (.nx, [x0, x1, some (.lst (ls.map .str)), x3, some (.lst (acc ++ e3L ls ds)), x5, x6, x7, x8, x9, x10]) st) →
    (forS (setV 1) e3B (ds.map .str) [x0, x1, some (.lst (ls.map .str)), x3, some (.lst acc), x5, x6, x7, x8, x9, x10]).gives st P
  | [], acc, x1, x5, x7, x8, _, h => by
    have := h x1 x5 x7 x8
    rw [show acc ++ e3L ls [] = acc from List.append_nil acc] at this
    exact this
  | s :: ds, acc, x1, x5, x7, x8, hl, h => by
    simp only [List.length_cons] at hl
    rw [List.map_cons]
    unfold forS
    simp only [List.map_cons, List.map_nil, setV, List.set_cons_succ, List.set_cons_zero, gv_bind, gv_seq, setS, Sh.retS, getV, List.getElem?_cons_succ, List.getElem?_cons_zero, gv_pure, mulD, addD, modD, Sh.intD, Sh.subD, Sh.divD, Sh.powD, arI, gv_guard, skipS, runB, Sh.envOf, par2S, par3S, gv_ifS, gv_eIf, gv_orB, gv_andB, asB, List.length_cons, List.length_nil, List.replicate, List.map, List.append_nil, List.cons_append, List.nil_append, setRefIt, ix_w, ix_c, ix_r, ix_t, pr_r, pr_t, eq_ii, ne_ii, appendS, lstOf, isNoneD, isND, id_eq, cmpI, gtI, leI, setOwnIt, true_and, wipeE, rng1, catD, negD, repD, ne_w, need_w, popRefM, pop_w, itemsD, Nat.reduceAdd, Nat.reduceSub, Int.reduceLT, lenV_lst, lenV_tup, lenV_str]
    refine ⟨by simp; omega, ?_⟩
    refine comp_fm (g := D.str) (p := fun _ => true) (f := fun l => staysD s l) ls _ (fun x _ P hP => hP) (fun x _ _ P hP => ?_) ?_
    · simp only [List.map_cons, List.map_nil, setV, List.set_cons_succ, List.set_cons_zero, gv_bind, gv_seq, setS, Sh.retS, getV, List.getElem?_cons_succ, List.getElem?_cons_zero, gv_pure, mulD, addD, modD, Sh.intD, Sh.subD, Sh.divD, Sh.powD, arI, gv_guard, skipS, runB, Sh.envOf, par2S, par3S, gv_ifS, gv_eIf, gv_orB, gv_andB, asB, List.length_cons, List.length_nil, List.replicate, List.map, List.append_nil, List.cons_append, List.nil_append, setRefIt, ix_w, ix_c, ix_r, ix_t, pr_r, pr_t, eq_ii, ne_ii, appendS, lstOf, isNoneD, isND, id_eq, cmpI, gtI, leI, setOwnIt, true_and, wipeE, rng1, catD, negD, repD, ne_w, need_w, popRefM, pop_w, itemsD, Nat.reduceAdd, Nat.reduceSub, Int.reduceLT, lenV_lst, lenV_tup, lenV_str]
      exact hP
    rw [List.filter_eq_self.mpr (by simp)]
    refine ⟨by simp; omega, ?_⟩
    refine e2_loop (s := s) hls l_OUTCOMES _ _ _ _ (by simp [l_OUTCOMES]; omega) fun y5 y7 y8 => ?_
    simp only [List.map_cons, List.map_nil, setV, List.set_cons_succ, List.set_cons_zero, gv_bind, gv_seq, setS, Sh.retS, getV, List.getElem?_cons_succ, List.getElem?_cons_zero, gv_pure, mulD, addD, modD, Sh.intD, Sh.subD, Sh.divD, Sh.powD, arI, gv_guard, skipS, runB, Sh.envOf, par2S, par3S, gv_ifS, gv_eIf, gv_orB, gv_andB, asB, List.length_cons, List.length_nil, List.replicate, List.map, List.append_nil, List.cons_append, List.nil_append, setRefIt, ix_w, ix_c, ix_r, ix_t, pr_r, pr_t, eq_ii, ne_ii, appendS, lstOf, isNoneD, isND, id_eq, cmpI, gtI, leI, setOwnIt, true_and, wipeE, rng1, catD, negD, repD, ne_w, need_w, popRefM, pop_w, itemsD, Nat.reduceAdd, Nat.reduceSub, Int.reduceLT, lenV_lst, lenV_tup, lenV_str]
    refine e3_loop hls ds _ _ _ _ _ (by
      have := e2_len ls s l_OUTCOMES
      simp only [List.length_append, this, List.length_cons, List.length_nil, List.length_map, l_OUTCOMES]
      omega) fun y1 y5 y7 y8 => ?_
    have := h y1 y5 y7 y8
    unfold e3L at this
    rw [← List.append_assoc, ← List.append_assoc, ← List.append_assoc] at this
    exact this
abbrev e4B : MS := (seqS (setS 4 (e2 catD (eV 4) (eComp [10] (iSeq (eTup (lCons (eC (.bl false)) (lCons (eC (.bl true)) lNil)))) (setV 10) tYes (eTup (lCons (eC (.str "never")) (lCons (eTup (lCons (eTup (lCons (eV 7) (lCons (eV 8) lNil))) (lCons (eTup (lCons (eV 9) (lCons (eV 10) lNil))) lNil))) lNil))))))
  skipS)
theorem e4_loop {l : Str} {b : Bool} : ∀ (ms : List Str) (acc : List D) (x9 x10 : Option D), acc.length + 2 * ms.length ≤ 100000 →
    (∀ x9 x10, P (.nx, [x0, x1, x2, x3, some (.lst (acc ++ e4L l b ms)), x5, x6, some (.str l), some (.bl b), x9, x10]) st) →
    (forS (setV 9) e4B (ms.map .str) [x0, x1, x2, x3, some (.lst acc), x5, x6, some (.str l), some (.bl b), x9, x10]).gives st P
  | [], acc, x9, x10, _, h => by
    have := h x9 x10
    rw [show acc ++ e4L l b [] = acc from List.append_nil acc] at this
    exact this
  | m :: ms, acc, x9, x10, hl, h => by
    rw [List.map_cons]
    unfold forS
    simp only [List.map_cons, List.map_nil, setV, List.set_cons_succ, List.set_cons_zero, gv_bind, gv_seq, setS, Sh.retS, getV, List.getElem?_cons_succ, List.getElem?_cons_zero, gv_pure, mulD, addD, modD, Sh.intD, Sh.subD, Sh.divD, Sh.powD, arI, gv_guard, skipS, runB, Sh.envOf, par2S, par3S, gv_ifS, gv_eIf, gv_orB, gv_andB, asB, List.length_cons, List.length_nil, List.replicate, List.map, List.append_nil, List.cons_append, List.nil_append, setRefIt, ix_w, ix_c, ix_r, ix_t, pr_r, pr_t, eq_ii, ne_ii, appendS, lstOf, isNoneD, isND, id_eq, cmpI, gtI, leI, setOwnIt, true_and, wipeE, rng1, catD, negD, repD, ne_w, need_w, popRefM, pop_w, itemsD, Nat.reduceAdd, Nat.reduceSub, Int.reduceLT, lenV_lst, lenV_tup, lenV_str]
    refine comp_p (F := fun c => .tup [.str "never", .tup [prD l b, .tup [.str m, c]]]) [.bl false, .bl true] (fun b hb P hP => ?_) ?_
    · simp only [List.map_cons, List.map_nil, setV, List.set_cons_succ, List.set_cons_zero, gv_bind, gv_seq, setS, Sh.retS, getV, List.getElem?_cons_succ, List.getElem?_cons_zero, gv_pure, mulD, addD, modD, Sh.intD, Sh.subD, Sh.divD, Sh.powD, arI, gv_guard, skipS, runB, Sh.envOf, par2S, par3S, gv_ifS, gv_eIf, gv_orB, gv_andB, asB, List.length_cons, List.length_nil, List.replicate, List.map, List.append_nil, List.cons_append, List.nil_append, setRefIt, ix_w, ix_c, ix_r, ix_t, pr_r, pr_t, eq_ii, ne_ii, appendS, lstOf, isNoneD, isND, id_eq, cmpI, gtI, leI, setOwnIt, true_and, wipeE, rng1, catD, negD, repD, ne_w, need_w, popRefM, pop_w, itemsD, Nat.reduceAdd, Nat.reduceSub, Int.reduceLT, lenV_lst, lenV_tup, lenV_str]
      exact hP
    · simp only [List.length_cons] at hl
      refine ⟨by simp; omega, ?_⟩
      refine e4_loop ms _ _ _ (by simp; omega) fun y9 y10 => ?_
      have := h y9 y10
      unfold e4L at this
      rw [← List.append_assoc] at this
      exact this
abbrev e5B : MS := (seqS (appendS 4 (eTup (lCons (eC (.str "never")) (lCons (eTup (lCons (eTup (lCons (eV 7) (lCons (eV 8) lNil))) lNil)) lNil))))
  (seqS (forE (iSeq (eSl slL (eV 2) (oS (e2 addD (eV 6) (eC (.int 1)))) oN)) (setV 9) e4B)
  skipS))
abbrev e6B : MS := (seqS (forE (iSeq (eTup (lCons (eC (.bl false)) (lCons (eC (.bl true)) lNil)))) (setV 8) e5B) skipS)
theorem e5_step {l : Str} {b : Bool} {ls : List Str} {k : Nat} {acc : List D} (hl : acc.length + 1 + 2 * ls.length ≤ 90000) (h : ∀ x9 x10, P (.nx, [x0, x1, some (.lst (ls.map .str)), x3, some (.lst (acc ++ (oneD l b :: e4L l b (ls.drop (k + 1))))), x5, some (.int (k : Nat)), some (.str l), some (.bl b), x9, x10]) st) :
    (e5B [x0, x1, some (.lst (ls.map .str)), x3, some (.lst acc), x5, some (.int (k : Nat)), some (.str l), some (.bl b), x9, x10]).gives st P := by
  simp only [List.map_cons, List.map_nil, setV, List.set_cons_succ, List.set_cons_zero, gv_bind, gv_seq, setS, Sh.retS, getV, List.getElem?_cons_succ, List.getElem?_cons_zero, gv_pure, mulD, addD, modD, Sh.intD, Sh.subD, Sh.divD, Sh.powD, arI, gv_guard, skipS, runB, Sh.envOf, par2S, par3S, gv_ifS, gv_eIf, gv_orB, gv_andB, asB, List.length_cons, List.length_nil, List.replicate, List.map, List.append_nil, List.cons_append, List.nil_append, setRefIt, ix_w, ix_c, ix_r, ix_t, pr_r, pr_t, eq_ii, ne_ii, appendS, lstOf, isNoneD, isND, id_eq, cmpI, gtI, leI, setOwnIt, true_and, wipeE, rng1, catD, negD, repD, ne_w, need_w, popRefM, pop_w, itemsD, Nat.reduceAdd, Nat.reduceSub, Int.reduceLT, lenV_lst, lenV_tup, lenV_str, asI_run, slL_run]
  refine ⟨by omega, ?_⟩
  rw [cut_from (by omega), show (((k : Nat) : Int) + 1).toNat = k + 1 by omega, ← List.map_drop]
  refine e4_loop (ls.drop (k + 1)) _ _ _ (by have := List.length_drop (i := k + 1) (l := ls); simp; omega) fun y9 y10 => ?_
  simp only [List.map_cons, List.map_nil, setV, List.set_cons_succ, List.set_cons_zero, gv_bind, gv_seq, setS, Sh.retS, getV, List.getElem?_cons_succ, List.getElem?_cons_zero, gv_pure, mulD, addD, modD, Sh.intD, Sh.subD, Sh.divD, Sh.powD, arI, gv_guard, skipS, runB, Sh.envOf, par2S, par3S, gv_ifS, gv_eIf, gv_orB, gv_andB, asB, List.length_cons, List.length_nil, List.replicate, List.map, List.append_nil, List.cons_append, List.nil_append, setRefIt, ix_w, ix_c, ix_r, ix_t, pr_r, pr_t, eq_ii, ne_ii, appendS, lstOf, isNoneD, isND, id_eq, cmpI, gtI, leI, setOwnIt, true_and, wipeE, rng1, catD, negD, repD, ne_w, need_w, popRefM, pop_w, itemsD, Nat.reduceAdd, Nat.reduceSub, Int.reduceLT, lenV_lst, lenV_tup, lenV_str]
  have := h y9 y10
  rw [show acc ++ (oneD l b :: e4L l b (ls.drop (k + 1))) = (acc ++ [oneD l b]) ++ e4L l b (ls.drop (k + 1)) by simp] at this
  exact this
theorem e6_loop {ls : List Str} (hls : ls.length ≤ 10) : ∀ (ms : List Str) (k : Nat) (acc : List D) (x6 x7 x8 x9 x10 : Option D), ls.drop k = ms → acc.length + 100 * ms.length ≤ 80000 →
    (∀ x6 x7 x8 x9 x10, P (.nx, [x0, x1, some (.lst (ls.map .str)), x3, some (.lst (acc ++ e6L ms)), x5, x6, x7, x8, x9, x10]) st) →
    (forS (gTupD (gConsD (setV 6) (gConsD (setV 7) gNilD))) e6B (enumF k (ms.map .str)) [x0, x1, some (.lst (ls.map .str)), x3, some (.lst acc), x5, x6, x7, x8, x9, x10]).gives st P
  | [], k, acc, x6, x7, x8, x9, x10, _, _, h => by
    have := h x6 x7 x8 x9 x10
    rw [show acc ++ e6L [] = acc from List.append_nil acc] at this
    exact this
  | l :: ms, k, acc, x6, x7, x8, x9, x10, e, hl, h => by
    simp only [List.length_cons] at hl
    have e1 : ls.drop (k + 1) = ms := by
      have : ls.drop (k + 1) = (ls.drop k).tail := by rw [List.tail_drop]
      rw [this, e]
      rfl
    have hm : ms.length ≤ 10 := by
      rw [← e1, List.length_drop]
      omega
    rw [List.map_cons]
    unfold enumF
    rw [forS_go (ρ1 := [x0, x1, some (.lst (ls.map .str)), x3, some (.lst acc), x5, some (.int (k : Nat)), some (.str l), x8, x9, x10]) rfl]
    simp only [List.map_cons, List.map_nil, setV, List.set_cons_succ, List.set_cons_zero, gv_bind, gv_seq, setS, Sh.retS, getV, List.getElem?_cons_succ, List.getElem?_cons_zero, gv_pure, mulD, addD, modD, Sh.intD, Sh.subD, Sh.divD, Sh.powD, arI, gv_guard, skipS, runB, Sh.envOf, par2S, par3S, gv_ifS, gv_eIf, gv_orB, gv_andB, asB, List.length_cons, List.length_nil, List.replicate, List.map, List.append_nil, List.cons_append, List.nil_append, setRefIt, ix_w, ix_c, ix_r, ix_t, pr_r, pr_t, eq_ii, ne_ii, appendS, lstOf, isNoneD, isND, id_eq, cmpI, gtI, leI, setOwnIt, true_and, wipeE, rng1, catD, negD, repD, ne_w, need_w, popRefM, pop_w, itemsD, Nat.reduceAdd, Nat.reduceSub, Int.reduceLT, lenV_lst, lenV_tup, lenV_str]
    rw [forS_go (ρ1 := [x0, x1, some (.lst (ls.map .str)), x3, some (.lst acc), x5, some (.int (k : Nat)), some (.str l), some (.bl false), x9, x10]) rfl]
    refine e5_step (b := false) (by omega) fun y9 y10 => ?_
    rw [e1]
    show M.gives (forS (setV 8) e5B [.bl true] _) st _
    rw [forS_go (ρ1 := [x0, x1, some (.lst (ls.map .str)), x3, some (.lst (acc ++ (oneD l false :: e4L l false ms))), x5, some (.int (k : Nat)), some (.str l), some (.bl true), y9, y10]) rfl]
    refine e5_step (b := true) (by rw [List.length_append, List.length_cons, e4_len]; omega) fun y9 y10 => ?_
    rw [e1]
    refine e6_loop hls ms (k + 1) _ _ _ _ _ _ e1 ?_ fun y6 y7 y8 y9 y10 => ?_
    · simp only [List.length_append, List.length_cons, e4_len]
      omega
    have := h y6 y7 y8 y9 y10
    unfold e6L at this
    rw [← List.append_assoc, ← List.append_assoc] at this
    exact this
theorem e3_len (ls : List Str) (hls : ls.length ≤ 10) : ∀ ds : List Str, (e3L ls ds).length ≤ 1000 * ds.length
  | [] => by simp [e3L]
  | s :: ds => by
    unfold e3L
    have := e2_len ls s l_OUTCOMES
    have := e3_len ls hls ds
    simp only [List.length_append, e2_len, List.length_cons, List.length_nil, List.length_map, l_OUTCOMES]
    omega
theorem every_g {cs : List Int} {R : Sto} {T : Int} {ls ds : List Str} {fs : List D} {p : Nat} {Q : D → Sto → Prop} (hd : Dw cs R T st) (hp : HasR R p (.dic (grd ls ds fs))) (hls : ls.length ≤ 10) (hds : ds.length ≤ 10) (h : Q (.lst (everyL ls ds)) st) : (f__law_every_fact [.ref p]).gives st Q := by
  unfold f__law_every_fact b__law_every_fact
  simp only [List.map_cons, List.map_nil, setV, List.set_cons_succ, List.set_cons_zero, gv_bind, gv_seq, setS, Sh.retS, getV, List.getElem?_cons_succ, List.getElem?_cons_zero, gv_pure, mulD, addD, modD, Sh.intD, Sh.subD, Sh.divD, Sh.powD, arI, gv_guard, skipS, runB, Sh.envOf, par2S, par3S, gv_ifS, gv_eIf, gv_orB, gv_andB, asB, List.length_cons, List.length_nil, List.replicate, List.map, List.append_nil, List.cons_append, List.nil_append, setRefIt, ix_w, ix_c, ix_r, ix_t, pr_r, pr_t, eq_ii, ne_ii, appendS, lstOf, isNoneD, isND, id_eq, cmpI, gtI, leI, setOwnIt, true_and, wipeE, rng1, catD, negD, repD, ne_w, need_w, popRefM, pop_w, itemsD, Nat.reduceAdd, Nat.reduceSub, Int.reduceLT, lenV_lst, lenV_tup, lenV_str, ix_l (hd.get hp), ix_d (hd.get hp)]
  refine e3_loop hls ds [] _ _ _ _ (by simp; omega) fun y1 y5 y7 y8 => ?_
  simp only [List.map_cons, List.map_nil, setV, List.set_cons_succ, List.set_cons_zero, gv_bind, gv_seq, setS, Sh.retS, getV, List.getElem?_cons_succ, List.getElem?_cons_zero, gv_pure, mulD, addD, modD, Sh.intD, Sh.subD, Sh.divD, Sh.powD, arI, gv_guard, skipS, runB, Sh.envOf, par2S, par3S, gv_ifS, gv_eIf, gv_orB, gv_andB, asB, List.length_cons, List.length_nil, List.replicate, List.map, List.append_nil, List.cons_append, List.nil_append, setRefIt, ix_w, ix_c, ix_r, ix_t, pr_r, pr_t, eq_ii, ne_ii, appendS, lstOf, isNoneD, isND, id_eq, cmpI, gtI, leI, setOwnIt, true_and, wipeE, rng1, catD, negD, repD, ne_w, need_w, popRefM, pop_w, itemsD, Nat.reduceAdd, Nat.reduceSub, Int.reduceLT, lenV_lst, lenV_tup, lenV_str, lstItems]
  refine e6_loop hls ls 0 _ _ _ _ _ _ rfl (by have := e3_len ls hls ds; simp; omega) fun y6 y7 y8 y9 y10 => ?_
  simp only [List.map_cons, List.map_nil, setV, List.set_cons_succ, List.set_cons_zero, gv_bind, gv_seq, setS, Sh.retS, getV, List.getElem?_cons_succ, List.getElem?_cons_zero, gv_pure, mulD, addD, modD, Sh.intD, Sh.subD, Sh.divD, Sh.powD, arI, gv_guard, skipS, runB, Sh.envOf, par2S, par3S, gv_ifS, gv_eIf, gv_orB, gv_andB, asB, List.length_cons, List.length_nil, List.replicate, List.map, List.append_nil, List.cons_append, List.nil_append, setRefIt, ix_w, ix_c, ix_r, ix_t, pr_r, pr_t, eq_ii, ne_ii, appendS, lstOf, isNoneD, isND, id_eq, cmpI, gtI, leI, setOwnIt, true_and, wipeE, rng1, catD, negD, repD, ne_w, need_w, popRefM, pop_w, itemsD, Nat.reduceAdd, Nat.reduceSub, Int.reduceLT, lenV_lst, lenV_tup, lenV_str]
  exact h
end
end Dr
namespace Dr
open PySem PySem.Spec PyProof.Rows L2 Sh
/-! ### what is shown tells what it is -/
def shL (p : PyData) : List Nat := p.shown.cps.toList
theorem shL_none : shL .none = [78, 111, 110, 101] := by decide +kernel
theorem shL_true : shL (.bool true) = [84, 114, 117, 101] := by decide +kernel
theorem shL_false : shL (.bool false) = [70, 97, 108, 115, 101] := by decide +kernel
theorem shL_int (i : Int) : ∃ h t, shL (.int i) = h :: t ∧ h ∉ [39, 40, 70, 84] := by
  have ne : shL (.int i) ≠ [] := by
    show ((toString i : String) : Str).cps.toList ≠ []
    rw [signs_ofString]
    intro e
    have e : (toString i).toList = [] := by simpa using e
    rw [Int.toString_eq_repr, Int.repr_eq_if] at e
    split at e
    · rw [Nat.toList_repr] at e
      exact Nat.toDigits_ne_nil e
    · rw [String.toList_append] at e
      have := (List.append_eq_nil_iff.mp e).2
      rw [Nat.toList_repr] at this
      exact Nat.toDigits_ne_nil this
  cases e : shL (.int i) with
  | nil => exact absurd e ne
  | cons h t =>
    refine ⟨h, t, rfl, fun q => ?_⟩
    have hm : h ∈ shL (.int i) := by rw [e]; exact List.mem_cons_self
    have f : ∀ k, k ≠ 45 ∧ (k < 48 ∨ 57 < k) → h ≠ k := fun k hk e => by
      subst e
      exact shown_int_free' hk i hm
    simp only [List.mem_cons, List.not_mem_nil, or_false] at q
    rcases q with q | q | q | q
    · exact f 39 (by decide) q
    · exact f 40 (by decide) q
    · exact f 70 (by decide) q
    · exact f 84 (by decide) q
theorem fold_rc (q : Nat) : ∀ (l : List Nat) (acc : Array Nat), (l.foldl (fun out c => out ++ (Builtin.Str.reprChar q c).toArray) acc).toList = acc.toList ++ l.flatMap (Builtin.Str.reprChar q)
  | [], acc => by simp
  | c :: l, acc => by
    rw [List.foldl_cons, fold_rc q l]
    simp
theorem shL_str (s : Str) : shL (.str s) = reprQuote s :: (s.cps.toList.flatMap (Builtin.Str.reprChar (reprQuote s)) ++ [reprQuote s]) := by
  show (reprText s).cps.toList = _
  unfold reprText
  rw [Array.toList_push, ← Array.foldl_toList, fold_rc]
  simp
theorem quote_is (s : Str) : reprQuote s = 39 ∨ reprQuote s = 34 := by
  unfold reprQuote
  split
  · exact .inr rfl
  · exact .inl rfl
theorem rc_head (c : Nat) : (Builtin.Str.reprChar 39 c = [c] ∧ c ≠ 39) ∨ ∃ t, Builtin.Str.reprChar 39 c = 92 :: t := by
  unfold Builtin.Str.reprChar
  simp only
  by_cases h : (c == 39 || c == 92) = true
  · rw [if_pos h]; exact .inr ⟨_, rfl⟩
  rw [if_neg h]
  have hc : c ≠ 39 := fun e => h (by rw [e]; rfl)
  repeat' split
  all_goals first | exact .inr ⟨_, rfl⟩ | exact .inl ⟨rfl, hc⟩
theorem letters_rc : (abc.all fun c => decide (Builtin.Str.reprChar 39 c = [c]) && decide (c ≠ 39) && decide (c ≠ 92)) = true := by decide +kernel
def plainS (s : Str) : Bool := s.cps.toList.all fun c => decide (c ∈ abc)
theorem plain_at {s : Str} (h : plainS s = true) : ∀ c ∈ s.cps.toList, Builtin.Str.reprChar 39 c = [c] ∧ c ≠ 39 ∧ c ≠ 92 := fun c hc => by
  have h1 := of_decide_eq_true (List.all_eq_true.mp h c hc)
  have h2 := List.all_eq_true.mp letters_rc c h1
  simp only [Bool.and_eq_true, decide_eq_true_eq] at h2
  exact ⟨h2.1.1, h2.1.2, h2.2⟩
theorem flat_id : ∀ {l : List Nat}, (∀ c ∈ l, Builtin.Str.reprChar 39 c = [c] ∧ c ≠ 39 ∧ c ≠ 92) → l.flatMap (Builtin.Str.reprChar 39) = l
  | [], _ => rfl
  | c :: l, h => by
    rw [List.flatMap_cons, (h c List.mem_cons_self).1, flat_id fun x hx => h x (List.mem_cons_of_mem _ hx)]
    rfl
theorem shL_plain {s : Str} (h : plainS s = true) : shL (.str s) = 39 :: (s.cps.toList ++ [39]) := by
  have hq : reprQuote s = 39 := by
    unfold reprQuote
    rw [if_neg]
    intro q
    simp only [Bool.and_eq_true] at q
    have : 39 ∈ s.cps.toList := by
      have := q.1
      rw [Array.contains_iff_mem] at this
      exact Array.mem_toList_iff.mpr this
    exact (plain_at h 39 this).2.1 rfl
  rw [shL_str, hq, flat_id (plain_at h)]
theorem str_inj : ∀ (cs ws r s : List Nat), (∀ c ∈ ws, c ≠ 39 ∧ c ≠ 92) → (cs.flatMap (Builtin.Str.reprChar 39) ++ [39]) ++ r = (ws ++ [39]) ++ s → cs = ws ∧ r = s
  | [], [], r, s, _, h => by simpa using h
  | [], w :: ws, r, s, hw, h => by
    simp at h
    exact absurd h.1.symm (hw w List.mem_cons_self).1
  | c :: cs, [], r, s, _, h => by
    rw [List.flatMap_cons] at h
    rcases rc_head c with ⟨e, n⟩ | ⟨t, e⟩
    · rw [e] at h
      simp at h
      exact absurd h.1 n
    · rw [e] at h
      simp at h
  | c :: cs, w :: ws, r, s, hw, h => by
    rw [List.flatMap_cons] at h
    rcases rc_head c with ⟨e, n⟩ | ⟨t, e⟩
    · rw [e] at h
      simp only [List.cons_append, List.nil_append, List.append_assoc, List.cons.injEq] at h
      obtain ⟨rfl, h⟩ := h
      obtain ⟨rfl, e2⟩ := str_inj cs ws r s (fun x hx => hw x (List.mem_cons_of_mem _ hx)) (by simpa using h)
      exact ⟨rfl, e2⟩
    · rw [e] at h
      simp only [List.cons_append, List.cons.injEq] at h
      exact absurd h.1.symm (hw w List.mem_cons_self).2
def contL : List PyData → List Nat
  | [] => [41]
  | x :: r => 44 :: 32 :: (shL x ++ contL r)
def tupL : List PyData → List Nat
  | [] => [41]
  | [x] => shL x ++ [44, 41]
  | x :: y :: r => shL x ++ contL (y :: r)
theorem join_cont : ∀ (x : PyData) (r : List PyData), (Str.join ", " (PyData.shownAll (x :: r))).cps.toList ++ [41] = shL x ++ contL r
  | x, [] => rfl
  | x, y :: r => by
    have ih := join_cont y r
    show ((PyData.shown x ++ (", " : Str) ++ Str.join ", " (PyData.shownAll (y :: r))).cps.toList) ++ [41] = _
    rw [cps_app, cps_app, List.append_assoc, ih]
    have : ((", " : String) : Str).cps.toList = [44, 32] := by decide +kernel
    rw [this]
    simp [contL, shL]
theorem shL_tup (xs : List PyData) : shL (.tuple xs) = 40 :: tupL xs := by
  show ((("(" : Str) ++ Str.join ", " (PyData.shownAll xs) ++ ((if (PyData.shownAll xs).length == 1 then ",)" else ")" : String) : Str))).cps.toList = _
  rw [cps_app, cps_app]
  have e0 : (("(" : String) : Str).cps.toList = [40] := by decide +kernel
  have e1 : ((",)" : String) : Str).cps.toList = [44, 41] := by decide +kernel
  have e2 : ((")" : String) : Str).cps.toList = [41] := by decide +kernel
  rw [e0]
  match xs with
  | [] => show [40] ++ [] ++ ((")" : String) : Str).cps.toList = _; rw [e2]; rfl
  | [x] => show [40] ++ shL x ++ ((",)" : String) : Str).cps.toList = _; rw [e1]; simp [tupL]
  | x :: y :: r =>
    show [40] ++ (Str.join ", " (PyData.shownAll (x :: y :: r))).cps.toList ++ ((")" : String) : Str).cps.toList = _
    rw [e2, List.append_assoc, join_cont]
    rfl
theorem shL_list (xs : List PyData) : ∃ t, shL (.list xs) = 91 :: t := by
  have key : ∀ (ts : List Str) (k : Nat) (acc : Str), (∃ t, acc.cps.toList = 91 :: t) → ∃ t, (textFrom k acc ts).cps.toList = 91 :: t := by
    intro ts
    induction ts with
    | nil => intro k acc h; exact h
    | cons x ts ih =>
      intro k acc ⟨t, e⟩
      refine ih (k + 1) _ ?_
      rw [cps_app, cps_app, e]
      exact ⟨_, rfl⟩
  obtain ⟨t, e⟩ := key (PyData.shownAll xs) 0 "[" ⟨[], by decide +kernel⟩
  refine ⟨t ++ (("]" : String) : Str).cps.toList, ?_⟩
  show (textFrom 0 "[" (PyData.shownAll xs) ++ ("]" : Str)).cps.toList = _
  rw [cps_app, e]
  rfl
theorem shL_dict (kvs : List (PyData × PyData)) : ∃ t, shL (.dict kvs) = 123 :: t := by
  refine ⟨(Str.join ", " (PyData.shownKv kvs)).cps.toList ++ (("}" : String) : Str).cps.toList, ?_⟩
  show ((("{" : Str) ++ Str.join ", " (PyData.shownKv kvs)) ++ ("}" : Str)).cps.toList = _
  rw [cps_app, cps_app]
  have : (("{" : String) : Str).cps.toList = [123] := by decide +kernel
  rw [this]
  rfl
mutual
def plainP : PyData → Bool
  | .bool _ => true
  | .str s => plainS s
  | .tuple xs => plainL xs && !xs.isEmpty
  | _ => false
def plainL : List PyData → Bool
  | [] => true
  | x :: xs => plainP x && plainL xs
end
theorem head_plain {q : PyData} (h : plainP q = true) : ∃ a t, shL q = a :: t ∧ a ∈ [39, 40, 70, 84] := by
  cases q <;> try (cases h; done)
  · rename_i b
    cases b
    · exact ⟨_, _, shL_false, by simp⟩
    · exact ⟨_, _, shL_true, by simp⟩
  · exact ⟨_, _, shL_plain h, by simp⟩
  · exact ⟨_, _, shL_tup _, by simp⟩
/-- the first sign tells the kind -/
theorem head_of (p : PyData) : ∃ a t, shL p = a :: t ∧ ((a = 39 ∨ a = 34) ∧ (∃ s, p = .str s) ∨ a = 40 ∧ (∃ xs, p = .tuple xs) ∨ a = 70 ∧ p = .bool false ∨ a = 84 ∧ p = .bool true ∨ a ∉ [39, 40, 70, 84] ∧ a ≠ 34) := by
  cases p with
  | none => exact ⟨_, _, shL_none, by simp⟩
  | bool b =>
    cases b
    · exact ⟨_, _, shL_false, by simp⟩
    · exact ⟨_, _, shL_true, by simp⟩
  | int i =>
    obtain ⟨h, t, e, n⟩ := shL_int i
    refine ⟨h, t, e, .inr (.inr (.inr (.inr ⟨n, fun q => ?_⟩)))⟩
    have hm : h ∈ shL (.int i) := by rw [e]; exact List.mem_cons_self
    rw [q] at hm
    exact shown_int_free' (k := 34) (by decide) i hm
  | str s => exact ⟨_, _, shL_str s, .inl ⟨quote_is s, s, rfl⟩⟩
  | list xs => obtain ⟨t, e⟩ := shL_list xs; exact ⟨_, _, e, by simp⟩
  | tuple xs => exact ⟨_, _, shL_tup xs, by simp⟩
  | dict kvs => obtain ⟨t, e⟩ := shL_dict kvs; exact ⟨_, _, e, by simp⟩
mutual
theorem sh_inj : ∀ q : PyData, plainP q = true → ∀ (p : PyData) (r s : List Nat), shL p ++ r = shL q ++ s → p = q ∧ r = s
  | .bool b, _, p, r, s, h => by
    obtain ⟨a, t, e, k⟩ := head_of p
    cases b with
    | true =>
      have ha : a = 84 := by rw [e, shL_true] at h; simp at h; exact h.1
      subst ha
      have : p = .bool true := by simpa using k
      subst this
      exact ⟨rfl, List.append_cancel_left h⟩
    | false =>
      have ha : a = 70 := by rw [e, shL_false] at h; simp at h; exact h.1
      subst ha
      have : p = .bool false := by simpa using k
      subst this
      exact ⟨rfl, List.append_cancel_left h⟩
  | .str w, hw, p, r, s, h => by
    have hw : plainS w = true := hw
    obtain ⟨a, t, e, k⟩ := head_of p
    have ha : a = 39 := by rw [e, shL_plain hw] at h; simp at h; exact h.1
    subst ha
    have : ∃ z, p = .str z := by simpa using k
    obtain ⟨z, rfl⟩ := this
    rw [shL_plain hw, shL_str] at h
    rw [shL_str] at e
    have hq : reprQuote z = 39 := by injection e
    rw [hq] at h
    simp only [List.cons_append, List.cons.injEq, true_and] at h
    obtain ⟨e1, e2⟩ := str_inj _ _ _ _ (fun c hc => (plain_at hw c hc).2) h
    refine ⟨?_, e2⟩
    congr 1
    cases z; cases w
    simp at e1
    rw [e1]
  | .tuple qs, hq, p, r, s, h => by
    have hq : (plainL qs && !qs.isEmpty) = true := hq
    simp only [Bool.and_eq_true, Bool.not_eq_true'] at hq
    obtain ⟨a, t, e, k⟩ := head_of p
    have ha : a = 40 := by rw [e, shL_tup] at h; simp at h; exact h.1
    subst ha
    have : ∃ z, p = .tuple z := by simpa using k
    obtain ⟨ps, rfl⟩ := this
    rw [shL_tup, shL_tup] at h
    simp only [List.cons_append, List.cons.injEq, true_and] at h
    match qs, hq with
    | [], hq => cases hq.2
    | q1 :: qr, hq =>
    have hp1 : plainP q1 = true ∧ plainL qr = true := by
      have := hq.1
      unfold plainL at this
      simpa using this
    cases ps with
    | nil =>
      obtain ⟨a, t, e2, k2⟩ := head_plain hp1.1
      exfalso
      have : 41 = a := by
        cases qr with
        | nil => simp [tupL, e2] at h; exact h.1
        | cons q2 qr => simp [tupL, e2] at h; exact h.1
      rw [← this] at k2
      simp at k2
    | cons p1 pr =>
      cases pr with
      | nil =>
        cases qr with
        | nil =>
          simp only [tupL, List.append_assoc] at h
          obtain ⟨rfl, h⟩ := sh_inj q1 hp1.1 p1 _ _ h
          exact ⟨rfl, by simpa using h⟩
        | cons q2 qr =>
          simp only [tupL, List.append_assoc] at h
          obtain ⟨rfl, h⟩ := sh_inj q1 hp1.1 p1 _ _ h
          simp [contL] at h
      | cons p2 pr =>
        cases qr with
        | nil =>
          simp only [tupL, List.append_assoc] at h
          obtain ⟨rfl, h⟩ := sh_inj q1 hp1.1 p1 _ _ h
          simp [contL] at h
        | cons q2 qr =>
          simp only [tupL, List.append_assoc] at h
          obtain ⟨rfl, h2⟩ := sh_inj q1 hp1.1 p1 _ _ h
          obtain ⟨e1, e2⟩ := cont_inj (q2 :: qr) hp1.2 (p2 :: pr) _ _ h2
          rw [e1]
          exact ⟨rfl, e2⟩
  | .none, h, _, _, _, _ => by cases h
  | .int _, h, _, _, _, _ => by cases h
  | .list _, h, _, _, _, _ => by cases h
  | .dict _, h, _, _, _, _ => by cases h
theorem cont_inj : ∀ qs : List PyData, plainL qs = true → ∀ (ps : List PyData) (r s : List Nat), contL ps ++ r = contL qs ++ s → ps = qs ∧ r = s
  | [], _, [], r, s, h => by simpa [contL] using h
  | [], _, p :: ps, r, s, h => by simp [contL] at h
  | q :: qs, hq, ps, r, s, h => by
    unfold plainL at hq
    simp only [Bool.and_eq_true] at hq
    cases ps with
    | nil => simp [contL] at h
    | cons p ps =>
      simp only [contL, List.cons_append, List.cons.injEq, true_and, List.append_assoc] at h
      obtain ⟨rfl, h2⟩ := sh_inj q hq.1 p _ _ h
      obtain ⟨rfl, h3⟩ := cont_inj qs hq.2 ps _ _ h2
      exact ⟨rfl, h3⟩
end
end Dr
namespace Dr
open PySem PySem.Spec PyProof.Rows L2 Sh
/-! ### every fact is found -/
theorem mem_e1 {s o : Str} {d : D} : ∀ {ls : List Str}, d ∈ e1L s o ls ↔ ∃ l ∈ ls, ∃ b, d = setsD s o l b
  | [] => by simp [e1L]
  | l :: r => by
    unfold e1L
    rw [List.mem_append, mem_e1]
    constructor
    · rintro (h | ⟨x, hx, b, e⟩)
      · simp only [List.mem_cons, List.not_mem_nil, or_false] at h
        rcases h with h | h
        · exact ⟨l, List.mem_cons_self, _, h⟩
        · exact ⟨l, List.mem_cons_self, _, h⟩
      · exact ⟨x, List.mem_cons_of_mem _ hx, b, e⟩
    · rintro ⟨x, hx, b, e⟩
      rcases List.mem_cons.mp hx with rfl | hx
      · left
        cases b <;> simp [e]
      · exact .inr ⟨x, hx, b, e⟩
theorem mem_e2 {ls : List Str} {s : Str} {d : D} : ∀ {os : List Str}, d ∈ e2L ls s os ↔ ∃ o ∈ os, ∃ l ∈ ls, ∃ b, d = setsD s o l b
  | [] => by simp [e2L]
  | o :: r => by
    unfold e2L
    rw [List.mem_append, mem_e2, mem_e1]
    simp
theorem mem_e3 {ls : List Str} {d : D} : ∀ {ds : List Str}, d ∈ e3L ls ds ↔ ∃ s ∈ ds, d = sureD s ∨ (∃ l ∈ ls, d = staysD s l) ∨ ∃ o ∈ l_OUTCOMES, ∃ l ∈ ls, ∃ b, d = setsD s o l b
  | [] => by simp [e3L]
  | s :: r => by
    unfold e3L
    rw [List.mem_append, mem_e3, List.mem_append, List.mem_append, mem_e2, List.mem_map]
    constructor
    · rintro (((h | ⟨l, hl, e⟩) | h) | ⟨x, hx, h⟩)
      · exact ⟨s, List.mem_cons_self, .inl (by simpa using h)⟩
      · exact ⟨s, List.mem_cons_self, .inr (.inl ⟨l, hl, e.symm⟩)⟩
      · exact ⟨s, List.mem_cons_self, .inr (.inr h)⟩
      · exact ⟨x, List.mem_cons_of_mem _ hx, h⟩
    · rintro ⟨x, hx, h⟩
      rcases List.mem_cons.mp hx with rfl | hx
      · rcases h with h | ⟨l, hl, e⟩ | h
        · exact .inl (.inl (.inl (by simp [h])))
        · exact .inl (.inl (.inr ⟨l, hl, e.symm⟩))
        · exact .inl (.inr h)
      · exact .inr ⟨x, hx, h⟩
theorem mem_e4 {l : Str} {b : Bool} {d : D} : ∀ {ms : List Str}, d ∈ e4L l b ms ↔ ∃ m ∈ ms, ∃ c, d = twoD l b m c
  | [] => by simp [e4L]
  | m :: r => by
    unfold e4L
    rw [List.mem_append, mem_e4]
    constructor
    · rintro (h | ⟨x, hx, c, e⟩)
      · simp only [List.mem_cons, List.not_mem_nil, or_false] at h
        rcases h with h | h
        · exact ⟨m, List.mem_cons_self, _, h⟩
        · exact ⟨m, List.mem_cons_self, _, h⟩
      · exact ⟨x, List.mem_cons_of_mem _ hx, c, e⟩
    · rintro ⟨x, hx, c, e⟩
      rcases List.mem_cons.mp hx with rfl | hx
      · left
        cases c <;> simp [e]
      · exact .inr ⟨x, hx, c, e⟩
theorem ltS_irr (a : Str) : ltS a a = false := by
  unfold ltS
  exact decide_eq_false (List.lt_irrefl _)
theorem ltS_asym {a b : Str} (h : ltS a b = true) : ltS b a = false := by
  unfold ltS at h ⊢
  have h := of_decide_eq_true h
  exact decide_eq_false fun q => absurd h (List.not_lt.mpr (List.le_of_lt q))
theorem mem_e6 {d : D} : ∀ {ls : List Str}, Inc ls → (d ∈ e6L ls ↔ (∃ l ∈ ls, ∃ b, d = oneD l b) ∨ ∃ l ∈ ls, ∃ m ∈ ls, ltS l m = true ∧ ∃ b c, d = twoD l b m c)
  | [], _ => by simp [e6L]
  | l :: r, h => by
    have hr : Inc r := (List.pairwise_cons.mp h).2
    have hlt := (List.pairwise_cons.mp h).1
    unfold e6L
    rw [List.mem_append, List.mem_append, mem_e6 hr, List.mem_cons, List.mem_cons, mem_e4, mem_e4]
    constructor
    · rintro (((e | ⟨m, hm, c, e⟩) | (e | ⟨m, hm, c, e⟩)) | (⟨x, hx, b, e⟩ | ⟨x, hx, m, hm, lt, b, c, e⟩))
      · exact .inl ⟨l, List.mem_cons_self, _, e⟩
      · exact .inr ⟨l, List.mem_cons_self, m, List.mem_cons_of_mem _ hm, hlt m hm, _, _, e⟩
      · exact .inl ⟨l, List.mem_cons_self, _, e⟩
      · exact .inr ⟨l, List.mem_cons_self, m, List.mem_cons_of_mem _ hm, hlt m hm, _, _, e⟩
      · exact .inl ⟨x, List.mem_cons_of_mem _ hx, b, e⟩
      · exact .inr ⟨x, List.mem_cons_of_mem _ hx, m, List.mem_cons_of_mem _ hm, lt, b, c, e⟩
    · rintro (⟨x, hx, b, e⟩ | ⟨x, hx, m, hm, lt, b, c, e⟩)
      · rcases List.mem_cons.mp hx with rfl | hx
        · cases b
          · exact .inl (.inl (.inl e))
          · exact .inl (.inr (.inl e))
        · exact .inr (.inl ⟨x, hx, b, e⟩)
      · rcases List.mem_cons.mp hx with rfl | hx2
        · rcases List.mem_cons.mp hm with rfl | hm
          · rw [ltS_irr] at lt; cases lt
          · cases b
            · exact .inl (.inl (.inr ⟨m, hm, c, e⟩))
            · exact .inl (.inr (.inr ⟨m, hm, c, e⟩))
        · rcases List.mem_cons.mp hm with rfl | hm
          · rw [ltS_asym (hlt x hx2)] at lt; cases lt
          · exact .inr (.inr ⟨x, hx2, m, hm, lt, b, c, e⟩)
theorem every_iff {ls ds : List Str} {d : D} (h : Inc ls) : d ∈ everyL ls ds ↔ FactI ls ds d := by
  unfold everyL
  rw [List.mem_append, mem_e3, mem_e6 h]
  constructor
  · rintro (⟨s, hs, (rfl | ⟨l, hl, rfl⟩ | ⟨o, ho, l, hl, b, rfl⟩)⟩ | (⟨l, hl, b, rfl⟩ | ⟨l, hl, m, hm, lt, b, c, rfl⟩))
    · exact .sure hs
    · exact .stays hs hl
    · exact .sets hs ho hl
    · exact .one hl
    · exact .two hl hm lt
  · intro q
    cases q with
    | sure hs => exact .inl ⟨_, hs, .inl rfl⟩
    | stays hs hl => exact .inl ⟨_, hs, .inr (.inl ⟨_, hl, rfl⟩)⟩
    | sets hs ho hl => exact .inl ⟨_, hs, .inr (.inr ⟨_, ho, _, hl, _, rfl⟩)⟩
    | one hl => exact .inr (.inl ⟨_, hl, _, rfl⟩)
    | two hl hm lt => exact .inr (.inr ⟨_, hl, _, hm, lt, _, _, rfl⟩)
theorem FactI.congr {ls ds ls' ds' : List Str} (hl : ∀ s, s ∈ ls → s ∈ ls') (hd : ∀ s, s ∈ ds → s ∈ ds') {d : D} (h : FactI ls ds d) : FactI ls' ds' d := by
  cases h with
  | sure hs => exact .sure (hd _ hs)
  | stays hs hl' => exact .stays (hd _ hs) (hl _ hl')
  | sets hs ho hl' => exact .sets (hd _ hs) ho (hl _ hl')
  | one hl' => exact .one (hl _ hl')
  | two hl' hm lt => exact .two (hl _ hl') (hl _ hm) lt
theorem isF_congr {ls ds ls' ds' : List Str} (hl : ∀ s, s ∈ ls ↔ s ∈ ls') (hd : ∀ s, s ∈ ds ↔ s ∈ ds') (d : D) : isF ls ds d = isF ls' ds' d := by
  rw [Bool.eq_iff_iff]
  exact ⟨fun h => fact_mk ((fact_is h).congr (fun s => (hl s).mp) (fun s => (hd s).mp)), fun h => fact_mk ((fact_is h).congr (fun s => (hl s).mpr) (fun s => (hd s).mpr))⟩
theorem isF_sort (ls ds : List Str) (d : D) : isF (sortW ls) (sortW ds) d = isF ls ds d := isF_congr (fun s => mem_sortW) (fun s => mem_sortW) d
/-! ### the book's own -/
theorem b_look {L K F m : D} : (bkF L K F m).lookup (Str.ofString "b_looks") = some L := rfl
theorem b_deed {L K F m : D} : (bkF L K F m).lookup (Str.ofString "b_deeds") = some K := rfl
theorem isfact_g {cs : List Int} {R : Sto} {T : Int} {st : Sto} {ls ds : List Str} {F m : D} {q : Nat} (h : Dw cs R T st) (hq : HasR R q (bkO (tS (sortW ls)) (tS (sortW ds)) F m)) {d : D} (hd : d.g = true) {P : D → Sto → Prop} (hp : P (.bl (isF ls ds d)) st) : (f_Book_is_fact [.ref q, d]).gives st P := by
  unfold f_Book_is_fact b_Book_is_fact
  simp only [List.map_cons, List.map_nil, setV, List.set_cons_succ, List.set_cons_zero, gv_bind, gv_seq, setS, Sh.retS, getV, List.getElem?_cons_succ, List.getElem?_cons_zero, gv_pure, mulD, addD, modD, Sh.intD, Sh.subD, Sh.divD, Sh.powD, arI, gv_guard, skipS, runB, Sh.envOf, par2S, par3S, gv_ifS, gv_eIf, gv_orB, gv_andB, asB, List.length_cons, List.length_nil, List.replicate, List.map, List.append_nil, List.cons_append, List.nil_append, setRefIt, ix_w, ix_c, ix_r, ix_t, pr_r, pr_t, eq_ii, ne_ii, appendS, lstOf, isNoneD, isND, id_eq, cmpI, gtI, leI, setOwnIt, true_and, wipeE, rng1, catD, negD, repD, ne_w, need_w, popRefM, pop_w, itemsD, Nat.reduceAdd, Nat.reduceSub, Int.reduceLT, lenV_lst, lenV_tup, lenV_str]
  rw [fld_run (h.get hq) (by decide) b_look, fld_run (h.get hq) (by decide) b_deed]
  refine fact_about hd (.inr rfl) (.inr rfl) ?_
  rw [isF_sort]
  exact hp
theorem inst_g {cs : List Int} {R : Sto} {T : Int} {st : Sto} {L K F m : D} {q : Nat} (h : Dw cs R T st) (hq : HasR R q (bkO L K F m)) {P : Unit → Sto → Prop} : (instD "Book" "is_fact" (.ref q)).gives st P ↔ P () st := by
  have e : instD "Book" "is_fact" (.ref q) st = .ok () st := by
    show M.bind (view (.ref q)) _ st = _
    unfold M.bind view
    simp only [h.get hq]
    rfl
  rw [M.gives_ok e]
/-! ### what is shown of a datum -/
def shS (d : D) : Str := match d.pyR with
  | some p => p.shown
  | none => ""
theorem repr_is {d : D} (hg : d.g = true) (hb : d.bk ≤ 200000) (hd : d.dp ≤ 150) {st : Sto} {P : D → Sto → Prop} : (reprD d).gives st P ↔ P (.str (shS d)) st := by
  obtain ⟨p, e, w⟩ := g_shw d hg
  have hl : p.shown.length ≤ 16777216 := by
    have := PyData.shown_le_bulk 60 (by decide) p w.short
    rw [w.bulk] at this
    omega
  have hr : reprB p = true := by
    unfold reprB
    simp only [Bool.and_eq_true, decide_eq_true_eq]
    exact ⟨⟨⟨w.shows, hl⟩, by rw [w.deep]; exact hd⟩, sh_ok p w.oks⟩
  unfold reprD shS
  rw [M.gives_bind]
  have hv : view d = (pure d : M D) := by
    cases d <;> first | rfl | cases hg
  rw [hv]
  show M.gives (match d.pyR with | some p => if reprB p = true then pure (D.str p.shown) else M.bad | none => M.bad) st P ↔ _
  rw [e]
  simp only
  rw [if_pos hr]
  exact Iff.rfl
mutual
def backD : PyData → D
  | .bool b => .bl b
  | .str s => .str s
  | .tuple xs => .tup (backL xs)
  | _ => .non
def backL : List PyData → List D
  | [] => []
  | x :: xs => backD x :: backL xs
end
mutual
theorem back_is : ∀ (q : PyData) (d : D), plainP q = true → d.pyR = some q → d = backD q
  | .bool b, d, _, h => by
    cases d <;> simp [D.pyR] at h
    · rw [h]; rfl
    · split at h <;> simp at h
    · split at h <;> simp at h
    · split at h <;> simp at h
  | .str s, d, _, h => by
    cases d <;> simp [D.pyR] at h
    · rw [h]; rfl
    · split at h <;> simp at h
    · split at h <;> simp at h
    · split at h <;> simp at h
  | .tuple xs, d, hp, h => by
    have hp : (plainL xs && !xs.isEmpty) = true := hp
    simp only [Bool.and_eq_true] at hp
    cases d with
    | tup ds =>
      unfold D.pyR at h
      split at h
      · rename_i ps e
        have : ps = xs := by simpa using h
        subst this
        rw [backL_is ps ds hp.1 e]
        rfl
      · cases h
    | lst ds => unfold D.pyR at h; split at h <;> simp at h
    | dic ds => unfold D.pyR at h; split at h <;> simp at h
    | non => simp [D.pyR] at h
    | bl b => simp [D.pyR] at h
    | int b => simp [D.pyR] at h
    | str b => simp [D.pyR] at h
    | obj _ _ => simp [D.pyR] at h
    | dit _ => simp [D.pyR] at h
    | ref _ => simp [D.pyR] at h
    | frl _ => simp [D.pyR] at h
  | .none, _, h, _ => by cases h
  | .int _, _, h, _ => by cases h
  | .list _, _, h, _ => by cases h
  | .dict _, _, h, _ => by cases h
theorem backL_is : ∀ (qs : List PyData) (ds : List D), plainL qs = true → pyRL ds = some qs → ds = backL qs
  | [], ds, _, h => by
    cases ds with
    | nil => rfl
    | cons d ds =>
      unfold pyRL at h
      split at h <;> simp at h
  | q :: qs, ds, hp, h => by
    unfold plainL at hp
    simp only [Bool.and_eq_true] at hp
    cases ds with
    | nil => simp [pyRL] at h
    | cons d ds =>
      unfold pyRL at h
      split at h
      · rename_i p ps e1 e2
        simp only [Option.some.injEq, List.cons.injEq] at h
        obtain ⟨rfl, rfl⟩ := h
        rw [back_is p d hp.1 e1, backL_is ps ds hp.2 e2]
        rfl
      · simp at h
end
theorem lab_plain : ∀ s ∈ lab, plainS s = true := by
  have h : (lab.all plainS) = true := by decide +kernel
  exact fun s hs => List.all_eq_true.mp h s hs
theorem wrd_plain : ∀ s ∈ (["sure", "stays", "sets", "never", "fail", "no", "yes"] : List Str), plainS s = true := by
  have h : ((["sure", "stays", "sets", "never", "fail", "no", "yes"] : List Str).all plainS) = true := by decide +kernel
  exact fun s hs => List.all_eq_true.mp h s hs
theorem fact_plain {ls ds : List Str} {d : D} (hl : ∀ s ∈ ls, s ∈ lab) (hd : ∀ s ∈ ds, s ∈ lab) (h : FactI ls ds d) : ∃ q, d.pyR = some q ∧ plainP q = true := by
  cases h with
  | @sure s hs =>
    refine ⟨_, rfl, ?_⟩
    show ((plainS "sure" && (plainS s && true)) && true) = true
    rw [wrd_plain "sure" (by simp), lab_plain s (hd s hs)]; rfl
  | @stays s l hs hl' =>
    refine ⟨_, rfl, ?_⟩
    show ((plainS "stays" && (plainS s && (plainS l && true))) && true) = true
    rw [wrd_plain "stays" (by simp), lab_plain s (hd s hs), lab_plain l (hl l hl')]; rfl
  | @sets s o l b hs ho hl' =>
    refine ⟨_, rfl, ?_⟩
    show ((plainS "sets" && (plainS s && (plainS o && (plainS l && (true && true))))) && true) = true
    rw [wrd_plain "sets" (by simp), lab_plain s (hd s hs), lab_plain l (hl l hl'), wrd_plain o (by simp only [l_OUTCOMES, List.mem_cons, List.not_mem_nil, or_false] at ho ⊢; rcases ho with h | h | h <;> simp [h])]; rfl
  | @one l b hl' =>
    refine ⟨_, rfl, ?_⟩
    show ((plainS "never" && (((((plainS l && (true && true)) && true) && true) && true) && true)) && true) = true
    rw [wrd_plain "never" (by simp), lab_plain l (hl l hl')]; rfl
  | @two l m b c hl' hm lt =>
    refine ⟨_, rfl, ?_⟩
    show ((plainS "never" && (((((plainS l && (true && true)) && true) && (((plainS m && (true && true)) && true) && true)) && true) && true)) && true) = true
    rw [wrd_plain "never" (by simp), lab_plain l (hl l hl'), lab_plain m (hl m hm)]; rfl
theorem shown_fact {ls ds : List Str} {d e : D} (hl : ∀ s ∈ ls, s ∈ lab) (hd : ∀ s ∈ ds, s ∈ lab) (he : FactI ls ds e) (hg : d.g = true) (h : shS d = shS e) : d = e := by
  obtain ⟨q, e1, pl⟩ := fact_plain hl hd he
  obtain ⟨p, e2, _⟩ := g_shw d hg
  unfold shS at h
  rw [e1, e2] at h
  have h : p.shown = q.shown := h
  obtain ⟨rfl, _⟩ := sh_inj q pl p [] [] (by unfold shL; rw [h])
  rw [back_is p d pl e2, back_is p e pl e1]
end Dr
/-! what the defs compute of turnedlooks_k04_facts_judged (printed by wip/gen2.py) -/
namespace K04
open PySem PySem.Spec PyProof.Rows L2 Sh
/-! _law_bent -/
def b__law_bent (r : List D → M D) : MS := (seqS (setS 3 (e2 catD (e2 catD (e2 ixD (eV 1) (eC (.str "looks"))) (e2 ixD (eV 1) (eC (.str "deeds")))) (eLst (lCons (eC (.str "fail")) (lCons (eC (.str "no")) (lCons (eC (.str "yes")) (lCons (eC (.str "sure")) (lCons (eC (.str "stays")) (lCons (eC (.str "sets")) (lCons (eC (.str "never")) (lCons (eC (.str "qqqq")) lNil)))))))))))
  (seqS (setS 3 (e2 catD (eV 3) (eLst (lCons (eC (.bl true)) (lCons (eC (.bl false)) (lCons (eC (.int 0)) (lCons (eC (.int 1)) (lCons (eC .non) (lCons (eTup lNil) (lCons (eTup (lCons (eC (.bl true)) lNil)) (lCons (eLst lNil) (lCons (eC (.dic [])) lNil))))))))))))
  (seqS (ifS (orB (tNot (tB (e1 (isiD "tuple") (eV 2)))) (orB (tB (e2 eqTD (eV 2) (eTup lNil))) (tB (e2 eqD (eCall Dr.f__law_take (lCons (eV 0) (lCons (eC (.int 6)) lNil))) (eC (.int 0)))))) (seqS (retS (eCall Dr.f__law_pick (lCons (eV 0) (lCons (e2 catD (eV 3) (eLst (lCons (eCall Dr.f__law_odd (lCons (eV 0) lNil)) lNil))) lNil))))
  skipS) skipS)
  (seqS (par2S 4 5 (lCons (eCall Dr.f__law_take (lCons (eV 0) (lCons (e1 lenD (eV 2)) lNil))) (lCons (eCall Dr.f__law_take (lCons (eV 0) (lCons (eC (.int 8)) lNil))) lNil)))
  (seqS (ifS (tB (e2 eqD (eV 5) (eC (.int 0)))) (seqS (retS (e1 listD (eV 2)))
  skipS) skipS)
  (seqS (ifS (tB (e2 eqD (eV 5) (eC (.int 1)))) (seqS (retS (e2 addD (eSl slV (eV 2) oN (oS (eV 4))) (eSl slV (eV 2) (oS (e2 addD (eV 4) (eC (.int 1)))) oN)))
  skipS) skipS)
  (seqS (ifS (tB (e2 eqD (eV 5) (eC (.int 2)))) (seqS (retS (e2 addD (e2 addD (eSl slV (eV 2) oN (oS (eV 4))) (eSl slV (eV 2) (oS (eV 4)) (oS (e2 addD (eV 4) (eC (.int 1)))))) (eSl slV (eV 2) (oS (eV 4)) oN)))
  skipS) skipS)
  (seqS (ifS (tB (e2 eqD (eV 5) (eC (.int 3)))) (seqS (retS (e1 revTD (eV 2)))
  skipS) skipS)
  (seqS (retS (e2 addD (e2 addD (eSl slV (eV 2) oN (oS (eV 4))) (eTup (lCons (eCall r (lCons (eV 0) (lCons (eV 1) (lCons (e2 ixD (eV 2) (eV 4)) lNil)))) lNil))) (eSl slV (eV 2) (oS (e2 addD (eV 4) (eC (.int 1)))) oN)))
  skipS)))))))))
def f__law_bent : Nat → List D → M D
  | 0 => fun _ => M.bad
  | n + 1 => runB 6 .val (b__law_bent (f__law_bent n))
/-! law -/
def b_law : MS := (seqS (setS 1 (eCall Dr.f__law_begun (lCons (eV 0) lNil)))
  (seqS (forE (iRng (e2 addD (eC (.int 3)) (e2 minD (e1 lenD (eV 0)) (eC (.int 12))))) (setV 2) (seqS (setS 3 (eCall Dr.f__law_drawn_ground (lCons (eV 1) (lCons (eC (.int 4)) (lCons (eC (.int 5)) (lCons (eC (.int 6)) lNil))))))
  (seqS (par2S 7 8 (lCons (eCall Dr.f__law_book (lCons (eV 3) lNil)) (lCons (eCall Dr.f__law_every_fact (lCons (eV 3) lNil)) lNil)))
  (seqS (setS 4 (eComp [5] (iSeq (eV 8)) (setV 5) tYes (e1 reprD (eV 5))))
  (seqS (forE (iSeq (eV 8)) (setV 5) (seqS (ifS (tB (e2 (isBD not) (eMeth "Book" "is_fact" Dr.f_Book_is_fact (eV 7) (lCons (eV 5) lNil)) (eC (.bl true)))) (seqS (retS (eC (.bl false)))
  skipS) skipS)
  skipS))
  (seqS (forE (iRng (eC (.int 12))) (setV 6) (seqS (setS 9 (eCall Dr.f__law_pick (lCons (eV 1) (lCons (eV 8) lNil))))
  (seqS (forE (iRng (e2 addD (eC (.int 1)) (eCall Dr.f__law_take (lCons (eV 1) (lCons (eC (.int 2)) lNil))))) (setV 10) (seqS (setS 9 (eCall (f__law_bent 12) (lCons (eV 1) (lCons (eV 3) (lCons (eV 9) lNil)))))
  skipS))
  (seqS (par2S 12 13 (lCons (e2 inD (e1 reprD (eV 9)) (eV 4)) (lCons (e1 reprD (eV 9)) lNil)))
  (seqS (setS 11 (eLst (lCons (eMeth "Book" "is_fact" Dr.f_Book_is_fact (eV 7) (lCons (eV 9) lNil)) lNil)))
  (seqS (appendS 11 (eMethK "Book" "is_fact" Dr.f_Book_is_fact [0] (eV 7) (lCons (eV 9) lNil)))
  (seqS (ifS (orB (tB (e2 neD (e1 reprD (eV 11)) (e1 reprD (eLst (lCons (eV 12) (lCons (eV 12) lNil)))))) (tB (e2 neD (e1 reprD (eV 9)) (eV 13)))) (seqS (retS (eC (.bl false)))
  skipS) skipS)
  skipS)))))))
  skipS))))))
  (seqS (retS (eC (.bl true)))
  skipS)))
def f_law : List D → M D := runB 14 .val b_law
end K04
namespace K04
open PySem PySem.Spec PyProof.Rows L2 Sh Dr
theorem gL_mem : ∀ {ds : List D} {x : D}, gL ds = true → x ∈ ds → x.g = true
  | d :: ds, x, h, hm => by
    unfold gL at h
    simp only [Bool.and_eq_true] at h
    rcases List.mem_cons.mp hm with e | hm
    · rw [e]; exact h.1
    · exact gL_mem h.2 hm
theorem dpL_mem : ∀ {ds : List D} {x : D}, x ∈ ds → x.dp ≤ dpL ds
  | d :: ds, x, hm => by
    show x.dp ≤ max d.dp (dpL ds)
    rcases List.mem_cons.mp hm with e | hm
    · rw [e]; omega
    · have := dpL_mem hm; omega
theorem len_bk : ∀ ds : List D, ds.length ≤ bkL ds
  | [] => Nat.le_refl _
  | d :: ds => by
    show ds.length + 1 ≤ d.bk + 1 + bkL ds
    have := len_bk ds
    omega
theorem gL_rev : ∀ ds : List D, gL ds.reverse = gL ds
  | [] => rfl
  | d :: ds => by
    rw [List.reverse_cons, gL_app, gL_rev ds]
    show (gL ds && (d.g && true)) = (d.g && gL ds)
    rw [Bool.and_true, Bool.and_comm]
theorem bkL_rev : ∀ ds : List D, bkL ds.reverse = bkL ds
  | [] => rfl
  | d :: ds => by
    rw [List.reverse_cons, bkL_app, bkL_rev ds]
    show bkL ds + (d.bk + 1 + 0) = d.bk + 1 + bkL ds
    omega
theorem dpL_rev : ∀ ds : List D, dpL ds.reverse = dpL ds
  | [] => rfl
  | d :: ds => by
    rw [List.reverse_cons, dpL_app, dpL_rev ds]
    show max (dpL ds) (max d.dp 0) = max d.dp (dpL ds)
    omega
theorem part (ds : List D) (n : Nat) (h : gL ds = true) : gL (ds.take n) = true ∧ gL (ds.drop n) = true ∧ bkL (ds.take n) + bkL (ds.drop n) = bkL ds ∧ dpL (ds.take n) ≤ dpL ds ∧ dpL (ds.drop n) ≤ dpL ds := by
  have e := List.take_append_drop n ds
  have g : gL (ds.take n ++ ds.drop n) = true := by rw [e]; exact h
  rw [gL_app, Bool.and_eq_true] at g
  have b : bkL (ds.take n ++ ds.drop n) = bkL ds := by rw [e]
  rw [bkL_app] at b
  have d : dpL (ds.take n ++ ds.drop n) = dpL ds := by rw [e]
  rw [dpL_app] at d
  exact ⟨g.1, g.2, b, by omega, by omega⟩
theorem cut_mid {xs : List D} {i : Int} (h0 : 0 ≤ i) : Sh.cutD xs (some i) (some (i + 1)) = (xs.drop i.toNat).take 1 := by
  obtain ⟨k, rfl⟩ := Int.eq_ofNat_of_zero_le h0
  unfold Sh.cutD
  rw [show ((k : Int) + 1) = ((k + 1 : Nat) : Int) by omega, HT.sIx_nat, HT.sIx_nat, Int.toNat_natCast]
  rcases Nat.lt_or_ge k xs.length with h | h
  · rw [Nat.min_eq_left (by omega), Nat.min_eq_left (by omega), show k + 1 - k = 1 by omega]
  · rw [Nat.min_eq_right h, Nat.min_eq_right (by omega), List.drop_of_length_le h, Nat.sub_self]
    simp
theorem add_ii {i j : Int} {st : Sto} {P : D → Sto → Prop} : (addD (.int i) (.int j)).gives st P ↔ P (.int (i + j)) st := Iff.rfl
theorem add_tt {xs ys : List D} (h : xs.length + ys.length ≤ 16777216) {st : Sto} {P : D → Sto → Prop} : (addD (.tup xs) (.tup ys)).gives st P ↔ P (.tup (xs ++ ys)) st := by
  show (if xs.length + ys.length ≤ 16777216 then pure (D.tup (xs ++ ys)) else M.bad : M D).gives st P ↔ _
  rw [if_pos h]
  exact Iff.rfl
theorem rev_run {ds : List D} {st : Sto} {P : D → Sto → Prop} : (revTD (.tup ds)).gives st P ↔ P (.tup ds.reverse) st := Iff.rfl
theorem list_run {ds : List D} {st : Sto} {P : D → Sto → Prop} : (listD (.tup ds)).gives st P ↔ P (.lst ds) st := Iff.rfl
theorem eqT_tup {ds : List D} {st : Sto} {P : D → Sto → Prop} : (eqTD (.tup ds) (.tup [])).gives st P ↔ P (.bl ds.isEmpty) st := Iff.rfl
def wordsL : List D := [.str "fail", .str "no", .str "yes", .str "sure", .str "stays", .str "sets", .str "never", .str "qqqq"]
def plainL' : List D := [.bl true, .bl false, .int 0, .int 1, .non, .tup [], .tup [.bl true], .lst [], .dic []]
theorem words_ok : wordsL.all (itB 20 3) = true := by decide +kernel
theorem plain_ok : plainL'.all (itB 20 3) = true := by decide +kernel
def spareL (ls ds : List Str) : List D := (ls.map .str ++ ds.map .str) ++ wordsL ++ plainL'
theorem spare_ok {ls ds : List Str} (hl : ∀ s ∈ ls, s ∈ lab) (hd : ∀ s ∈ ds, s ∈ lab) : ∀ x ∈ spareL ls ds, Itm 20 3 x := fun x hx => by
  have ws : ∀ s ∈ lab, Itm 20 3 (.str s) := fun s hs => by
    obtain ⟨a, b⟩ := lab_ok s hs
    exact ⟨a, by show s.length ≤ 20; omega, by show 0 ≤ 3; omega⟩
  unfold spareL at hx
  rcases List.mem_append.mp hx with hx | hx
  · rcases List.mem_append.mp hx with hx | hx
    · rcases List.mem_append.mp hx with hx | hx
      · obtain ⟨s, hs, rfl⟩ := List.mem_map.mp hx
        exact ws s (hl s hs)
      · obtain ⟨s, hs, rfl⟩ := List.mem_map.mp hx
        exact ws s (hd s hs)
    · exact itB_all words_ok x hx
  · exact itB_all plain_ok x hx
end K04
namespace K04
open PySem PySem.Spec PyProof.Rows L2 Sh Dr
theorem bent_g {cs : List Int} {R : Sto} {ls ds : List Str} {fs : List D} {p : Nat} (hg : GOK ls ds) (hp : HasR R p (.dic (grd ls ds fs))) : ∀ (n : Nat) (T : Int) (st : Sto) (x : D) (b k : Nat), k < n → Itm b k x → b ≤ 100000 → Dw cs R T st → T + 8 * (n : Int) < 2 ^ 39 →
    (f__law_bent n [.ref 1, .ref p, x]).gives st fun y st' => Itm (2 * b + 60) (k + 3) y ∧ Dw cs R (T + 8 * (n : Int)) st'
  | 0, T, st, x, b, k, hn, _, _, _, _ => by omega
  | n + 1, T, st, x, b, k, hn, hx, hb, h, hT => by
    have cast : ((n + 1 : Nat) : Int) = (n : Int) + 1 := by omega
    have po : ∀ {T' : Int} {st' : Sto}, Dw cs R T' st' → T' + 2 ≤ T + 8 * ((n : Int) + 1) → (f__law_odd [.ref 1]).gives st' fun o st1 => (spareL ls ds).length + 1 ≤ 16777216 ∧ (f__law_pick [.ref 1, .lst (spareL ls ds ++ [o])]).gives st1 fun y st2 => Itm (2 * b + 60) (k + 3) y ∧ Dw cs R (T + 8 * ((n + 1 : Nat) : Int)) st2 := fun {T' st'} h' hl => by
      refine M.gives_mono (odd_g h' (by omega)) fun o st1 ⟨ho, h1⟩ => ⟨by have := hg.ll; have := hg.dl; simp [spareL, wordsL, plainL']; omega, ?_⟩
      refine M.gives_mono (pick_g h1 (by omega) (xs := spareL ls ds ++ [o]) (by simp) (by have := hg.ll; have := hg.dl; simp [spareL, wordsL, plainL']; omega)) fun y st2 ⟨hy, h2⟩ => ⟨?_, h2.up (by omega)⟩
      rcases List.mem_append.mp hy with hy | hy
      · exact (spare_ok hg.l.lab hg.d.lab y hy).up (by omega) (by omega)
      · rw [show y = o by simpa using hy]
        exact ho.up (by omega) (by omega)
    unfold f__law_bent b__law_bent
    simp only [List.map_cons, List.map_nil, setV, List.set_cons_succ, List.set_cons_zero, gv_bind, gv_seq, setS, Sh.retS, getV, List.getElem?_cons_succ, List.getElem?_cons_zero, gv_pure, mulD, modD, Sh.intD, Sh.subD, Sh.divD, Sh.powD, arI, gv_guard, skipS, runB, Sh.envOf, par2S, par3S, List.length_cons, List.length_nil, List.replicate, List.map, List.append_nil, List.cons_append, List.nil_append, setRefIt, ix_w, ix_c, ix_r, ix_t, pr_r, pr_t, eq_ii, ne_ii, appendS, lstOf, isNoneD, isND, id_eq, cmpI, gtI, leI, setOwnIt, true_and, wipeE, rng1, catD, negD, repD, ne_w, need_w, popRefM, pop_w, itemsD, Nat.reduceAdd, Nat.reduceSub, Int.reduceLT, lenV_lst, lenV_tup, lenV_str, gi_andD, gi_orD, gi_ifS, gi_eIf, gi_orB, gi_andB, gi_chainD, asB_bl, eq_ss, lt_ii, ne_ss, add_ii, ix_l (h.get hp), ix_d (h.get hp)]
    refine ⟨by have := hg.ll; have := hg.dl; simp; omega, ?_⟩
    refine ⟨by have := hg.ll; have := hg.dl; simp; omega, ?_⟩
    refine ⟨by have := hg.ll; have := hg.dl; simp; omega, ?_⟩
    rw [tu_run hx.1]
    simp only [asB_bl]
    by_cases ht : isTu x = true
    · cases x <;> try (cases ht; done)
      rename_i xs
      rw [if_neg (by simp [isTu]), eqT_tup]
      simp only [asB_bl]
      cases xs with
      | nil =>
        rw [if_pos (by rfl), if_pos trivial]
        exact po h (by omega)
      | cons x0 xr =>
      rw [if_neg (by simp)]
      refine M.gives_mono (take_g h (by omega) (n := 6) (by decide) (by decide)) fun d st1 ⟨i, e, i0, i1, h1⟩ => ?_
      subst e
      simp only [List.map_cons, List.map_nil, setV, List.set_cons_succ, List.set_cons_zero, gv_bind, gv_seq, setS, Sh.retS, getV, List.getElem?_cons_succ, List.getElem?_cons_zero, gv_pure, mulD, modD, Sh.intD, Sh.subD, Sh.divD, Sh.powD, arI, gv_guard, skipS, runB, Sh.envOf, par2S, par3S, List.length_cons, List.length_nil, List.replicate, List.map, List.append_nil, List.cons_append, List.nil_append, setRefIt, ix_w, ix_c, ix_r, ix_t, pr_r, pr_t, eq_ii, ne_ii, appendS, lstOf, isNoneD, isND, id_eq, cmpI, gtI, leI, setOwnIt, true_and, wipeE, rng1, catD, negD, repD, ne_w, need_w, popRefM, pop_w, itemsD, Nat.reduceAdd, Nat.reduceSub, Int.reduceLT, lenV_lst, lenV_tup, lenV_str, gi_andD, gi_orD, gi_ifS, gi_eIf, gi_orB, gi_andB, gi_chainD, asB_bl, eq_ss, lt_ii, ne_ss, add_ii]
      by_cases c0 : (i == 0) = true
      · rw [if_pos c0]
        exact po h1 (by omega)
      rw [if_neg c0]
      have hlen := len_bk (x0 :: xr)
      have hbk : bkL (x0 :: xr) ≤ b := hx.2.1
      refine M.gives_mono (take_g h1 (by omega) (n := ((x0 :: xr).length : Nat)) (by simp) (by omega)) fun d st2 ⟨a, e, a0, a1, h2⟩ => ?_
      subst e
      refine M.gives_mono (take_g h2 (by omega) (n := 8) (by decide) (by decide)) fun d st3 ⟨j, e, j0, j1, h3⟩ => ?_
      subst e
      simp only [List.map_cons, List.map_nil, setV, List.set_cons_succ, List.set_cons_zero, gv_bind, gv_seq, setS, Sh.retS, getV, List.getElem?_cons_succ, List.getElem?_cons_zero, gv_pure, mulD, modD, Sh.intD, Sh.subD, Sh.divD, Sh.powD, arI, gv_guard, skipS, runB, Sh.envOf, par2S, par3S, List.length_cons, List.length_nil, List.replicate, List.map, List.append_nil, List.cons_append, List.nil_append, setRefIt, ix_w, ix_c, ix_r, ix_t, pr_r, pr_t, eq_ii, ne_ii, appendS, lstOf, isNoneD, isND, id_eq, cmpI, gtI, leI, setOwnIt, true_and, wipeE, rng1, catD, negD, repD, ne_w, need_w, popRefM, pop_w, itemsD, Nat.reduceAdd, Nat.reduceSub, Int.reduceLT, lenV_lst, lenV_tup, lenV_str, gi_andD, gi_orD, gi_ifS, gi_eIf, gi_orB, gi_andB, gi_chainD, asB_bl, eq_ss, lt_ii, ne_ss, add_ii, asI_run, slV_run, cut_to a0, cut_from a0, cut_from (show 0 ≤ a + 1 by omega), cut_mid a0, list_run, rev_run]
      have hgx : gL (x0 :: xr) = true := hx.1
      have hdp : dpL (x0 :: xr) + 1 ≤ k := hx.2.2
      generalize x0 :: xr = xs at *
      have p1 := part xs a.toNat hgx
      have p2 := part xs (a.toNat + 1) hgx
      have p3 := part (xs.drop a.toNat) 1 p1.2.1
      have l1 := List.length_take_le a.toNat xs
      have l1' : (xs.take a.toNat).length ≤ xs.length := by rw [List.length_take]; omega
      have l2 : (xs.drop (a.toNat + 1)).length ≤ xs.length := by rw [List.length_drop]; omega
      have l3 : (xs.drop a.toNat).length ≤ xs.length := by rw [List.length_drop]; omega
      have l4 : ((xs.drop a.toNat).take 1).length ≤ 1 := by rw [List.length_take]; omega
      have ea : (a + 1).toNat = a.toNat + 1 := by omega
      rw [ea]
      have mk : ∀ (zs : List D) (st' : Sto) (T' : Int), gL zs = true → bkL zs ≤ 2 * b + 60 → dpL zs ≤ k + 2 → Dw cs R T' st' → T' ≤ T + 8 * ((n + 1 : Nat) : Int) → Itm (2 * b + 60) (k + 3) (.tup zs) ∧ Dw cs R (T + 8 * ((n + 1 : Nat) : Int)) st' := fun zs st' T' g1 g2 g3 g4 g5 => ⟨⟨g1, g2, by show dpL zs + 1 ≤ k + 3; omega⟩, g4.up g5⟩
      by_cases c1 : (j == 0) = true
      · rw [if_pos c1]
        exact ⟨⟨hgx, by show bkL xs ≤ _; omega, by show dpL xs + 1 ≤ _; omega⟩, h3.up (by omega)⟩
      rw [if_neg c1]
      by_cases c2 : (j == 1) = true
      · rw [if_pos c2, add_tt (by omega)]
        refine mk _ _ _ (by rw [gL_app, p1.1, p2.2.1]; rfl) (by rw [bkL_app]; omega) (by rw [dpL_app]; omega) h3 (by omega)
      rw [if_neg c2]
      by_cases c3 : (j == 2) = true
      · rw [if_pos c3, add_tt (by omega), add_tt (by rw [List.length_append]; omega)]
        refine mk _ _ _ (by rw [gL_app, gL_app, p1.1, p1.2.1, p3.1]; rfl) (by rw [bkL_app, bkL_app]; omega) (by rw [dpL_app, dpL_app]; omega) h3 (by omega)
      rw [if_neg c3]
      by_cases c4 : (j == 3) = true
      · rw [if_pos c4]
        refine mk _ _ _ (by rw [gL_rev]; exact hgx) (by rw [bkL_rev]; omega) (by rw [dpL_rev]; omega) h3 (by omega)
      rw [if_neg c4]
      have hal : a.toNat < xs.length := by omega
      obtain ⟨d, hd, hm⟩ := atI_mem a0 a1
      rw [ixAt hd]
      have ed : d = xs[a.toNat] := by
        unfold atI ixN at hd
        rw [if_pos a0, if_pos a1, Option.bind_some, List.getElem?_eq_getElem hal] at hd
        exact (Option.some.inj hd).symm
      have split : xs.drop a.toNat = d :: xs.drop (a.toNat + 1) := by rw [ed]; exact List.drop_eq_getElem_cons hal
      have sb : bkL (xs.drop a.toNat) = d.bk + 1 + bkL (xs.drop (a.toNat + 1)) := by rw [split]; rfl
      have sd := dpL_mem hm
      refine M.gives_mono (bent_g hg hp n (T + 1 + 1 + 1) st3 d d.bk (k - 1) (by omega) ⟨gL_mem hgx hm, Nat.le_refl _, by omega⟩ (by omega) h3 (by omega)) fun y st4 ⟨hy, h4⟩ => ?_
      obtain ⟨y1, y2, y3⟩ := hy
      rw [add_tt (by simp; omega), add_tt (by rw [List.length_append, List.length_cons, List.length_nil]; omega)]
      refine mk _ _ _ ?_ ?_ ?_ h4 (by omega)
      · rw [gL_app, gL_app, p1.1, p2.2.1]
        show (true && (y.g && true) && true) = true
        rw [y1]; rfl
      · rw [bkL_app, bkL_app]
        show bkL (xs.take a.toNat) + (y.bk + 1 + 0) + _ ≤ _
        omega
      · rw [dpL_app, dpL_app]
        show max (max _ (max y.dp 0)) _ ≤ _
        omega
    · have e : isTu x = false := by simpa using ht
      rw [e, if_pos (by rfl), if_pos trivial]
      exact po h (by omega)
end K04
namespace K04
open PySem PySem.Spec PyProof.Rows L2 Sh Dr
abbrev lapB : MS := (seqS (setS 9 (eCall Dr.f__law_pick (lCons (eV 1) (lCons (eV 8) lNil))))
  (seqS (forE (iRng (e2 addD (eC (.int 1)) (eCall Dr.f__law_take (lCons (eV 1) (lCons (eC (.int 2)) lNil))))) (setV 10) (seqS (setS 9 (eCall (f__law_bent 12) (lCons (eV 1) (lCons (eV 3) (lCons (eV 9) lNil)))))
  skipS))
  (seqS (par2S 12 13 (lCons (e2 inD (e1 reprD (eV 9)) (eV 4)) (lCons (e1 reprD (eV 9)) lNil)))
  (seqS (setS 11 (eLst (lCons (eMeth "Book" "is_fact" Dr.f_Book_is_fact (eV 7) (lCons (eV 9) lNil)) lNil)))
  (seqS (appendS 11 (eMethK "Book" "is_fact" Dr.f_Book_is_fact [0] (eV 7) (lCons (eV 9) lNil)))
  (seqS (ifS (orB (tB (e2 neD (e1 reprD (eV 11)) (e1 reprD (eLst (lCons (eV 12) (lCons (eV 12) lNil)))))) (tB (e2 neD (e1 reprD (eV 9)) (eV 13)))) (seqS (retS (eC (.bl false)))
  skipS) skipS)
  skipS))))))
abbrev bendB : MS := (seqS (setS 9 (eCall (f__law_bent 12) (lCons (eV 1) (lCons (eV 3) (lCons (eV 9) lNil)))))
  skipS)
section
variable {x0 x1 x2 x3 x4 x5 x6 x7 x8 x9 x10 x11 x12 x13 : Option D} {cs : List Int} {R : Sto} {ls ds : List Str} {fs : List D} {p q : Nat} {F m : D} {P : Fl × Sh.Env → Sto → Prop}
theorem bend_loop (hg : GOK ls ds) (hp : HasR R p (.dic (grd ls ds fs))) : ∀ (rs : List D) (T : Int) (st : Sto) (x : D) (b k : Nat) (x10 : Option D), k + 3 * rs.length < 12 → Itm b k x → (b + 60) * 2 ^ rs.length ≤ 100000 → Dw cs R T st → T + 96 * rs.length < 2 ^ 39 →
    (∀ (y : D) st' x10, Itm 100000 50 y → Dw cs R (T + 96 * rs.length) st' → P (.nx, [x0, some (.ref 1), x2, some (.ref p), x4, x5, x6, x7, x8, some y, x10, x11, x12, x13]) st') →
    (forS (setV 10) bendB rs [x0, some (.ref 1), x2, some (.ref p), x4, x5, x6, x7, x8, some x, x10, x11, x12, x13]).gives st P
  | [], T, st, x, b, k, x10, hk, hx, hb, h, hT, hP => hP x st x10 (hx.up (by simp at hb; omega) (by omega)) (h.up (by simp))
  | r :: rs, T, st, x, b, k, x10, hk, hx, hb, h, hT, hP => by
    simp only [List.length_cons] at hk hT
    have h2 : (2 * b + 60 + 60) * 2 ^ rs.length ≤ 100000 := by
      rw [List.length_cons, Nat.pow_succ] at hb
      have e : (2 * b + 60 + 60) * 2 ^ rs.length = (b + 60) * (2 ^ rs.length * 2) := by
        rw [show 2 * b + 60 + 60 = (b + 60) * 2 by omega, Nat.mul_assoc, Nat.mul_comm 2]
      omega
    have hb1 : b ≤ 100000 := by
      have : 1 ≤ 2 ^ (r :: rs).length := Nat.one_le_two_pow
      have := Nat.mul_le_mul_left (b + 60) this
      omega
    rw [forS_go rfl]
    simp only [List.map_cons, List.map_nil, setV, List.set_cons_succ, List.set_cons_zero, gv_bind, gv_seq, setS, Sh.retS, getV, List.getElem?_cons_succ, List.getElem?_cons_zero, gv_pure, mulD, addD, modD, Sh.intD, Sh.subD, Sh.divD, Sh.powD, arI, gv_guard, skipS, runB, Sh.envOf, par2S, par3S, gv_ifS, gv_eIf, gv_orB, gv_andB, asB, List.length_cons, List.length_nil, List.replicate, List.map, List.append_nil, List.cons_append, List.nil_append, setRefIt, ix_w, ix_c, ix_r, ix_t, pr_r, pr_t, eq_ii, ne_ii, appendS, lstOf, isNoneD, isND, id_eq, cmpI, gtI, leI, setOwnIt, true_and, wipeE, rng1, catD, negD, repD, ne_w, need_w, popRefM, pop_w, itemsD, Nat.reduceAdd, Nat.reduceSub, Int.reduceLT, lenV_lst, lenV_tup, lenV_str]
    refine M.gives_mono (bent_g hg hp 12 T st x b k (by omega) hx hb1 h (by omega)) fun y st1 ⟨hy, h1⟩ => ?_
    refine bend_loop hg hp rs (T + 8 * ((12 : Nat) : Int)) st1 y _ _ _ (by omega) hy h2 h1 (by omega) fun y2 st2 x10 q1 q2 => ?_
    exact hP y2 st2 x10 q1 (q2.up (by simp; omega))
def Bk (R : Sto) (q : Nat) (ls ds : List Str) : Prop := ∃ F m, HasR R q (bkO (tS (sortW ls)) (tS (sortW ds)) F m)
theorem told_in (hg : GOK ls ds) {d : D} (hd : d.g = true) : (shS d ∈ (everyL ls ds).map shS) ↔ isF ls ds d = true := by
  rw [List.mem_map]
  constructor
  · rintro ⟨e, he, q⟩
    have he := (every_iff hg.li).mp he
    rw [shown_fact hg.l.lab hg.d.lab he hd q.symm]
    exact fact_mk he
  · intro h
    exact ⟨d, (every_iff hg.li).mpr (fact_is h), rfl⟩
theorem every_ne (hg : GOK ls ds) : everyL ls ds ≠ [] := by
  have := hg.dn
  cases ds with
  | nil => exact absurd rfl this
  | cons s r => simp [everyL, e3L]
theorem every_len (hg : GOK ls ds) : (everyL ls ds).length ≤ 10000 := by
  have h1 := e3_len ls (by have := hg.ll; omega) ds
  have h2 : ∀ ms : List Str, ms.length ≤ 10 → (e6L ms).length ≤ 100 * ms.length := by
    intro ms
    induction ms with
    | nil => intro _; simp [e6L]
    | cons l r ih =>
      intro h
      simp only [List.length_cons] at h
      have := ih (by omega)
      unfold e6L
      simp only [List.length_append, List.length_cons, e4_len]
      omega
  have h3 := h2 ls (by have := hg.ll; omega)
  unfold everyL
  rw [List.length_append]
  have := hg.ll
  have := hg.dl
  omega
theorem lap_g (hg : GOK ls ds) (hp : HasR R p (.dic (grd ls ds fs))) (hq : Bk R q ls ds) {T : Int} {st : Sto} (h : Dw cs R T st) (hT : T + 1000 < 2 ^ 39)
    (hP : ∀ x9 x10 x11 x12 x13 st', Dw cs R (T + 200) st' → P (.nx, [x0, some (.ref 1), x2, some (.ref p), some (.lst (((everyL ls ds).map shS).map .str)), x5, x6, some (.ref q), some (.lst (everyL ls ds)), x9, x10, x11, x12, x13]) st') :
    (lapB [x0, some (.ref 1), x2, some (.ref p), some (.lst (((everyL ls ds).map shS).map .str)), x5, x6, some (.ref q), some (.lst (everyL ls ds)), x9, x10, x11, x12, x13]).gives st P := by
  obtain ⟨F, m, hq⟩ := hq
  simp only [List.map_cons, List.map_nil, setV, List.set_cons_succ, List.set_cons_zero, gv_bind, gv_seq, setS, Sh.retS, getV, List.getElem?_cons_succ, List.getElem?_cons_zero, gv_pure, mulD, modD, Sh.intD, Sh.subD, Sh.divD, Sh.powD, arI, gv_guard, skipS, runB, Sh.envOf, par2S, par3S, List.length_cons, List.length_nil, List.replicate, List.map, List.append_nil, List.cons_append, List.nil_append, setRefIt, ix_w, ix_c, ix_r, ix_t, pr_r, pr_t, eq_ii, ne_ii, appendS, lstOf, isNoneD, isND, id_eq, cmpI, gtI, leI, setOwnIt, true_and, wipeE, rng1, catD, negD, repD, ne_w, need_w, popRefM, pop_w, itemsD, Nat.reduceAdd, Nat.reduceSub, Int.reduceLT, lenV_lst, lenV_tup, lenV_str, gi_andD, gi_orD, gi_ifS, gi_eIf, gi_orB, gi_andB, gi_chainD, asB_bl, eq_ss, lt_ii, ne_ss, add_ii]
  refine M.gives_mono (pick_g h (by omega) (every_ne hg) (by have := every_len hg; omega)) fun x st1 ⟨hx, h1⟩ => ?_
  have hx := itm_fact hg.l.lab hg.d.lab ((every_iff hg.li).mp hx)
  refine M.gives_mono (take_g h1 (by omega) (n := 2) (by decide) (by decide)) fun d st2 ⟨i, e, i0, i1, h2⟩ => ?_
  subst e
  simp only [List.map_cons, List.map_nil, setV, List.set_cons_succ, List.set_cons_zero, gv_bind, gv_seq, setS, Sh.retS, getV, List.getElem?_cons_succ, List.getElem?_cons_zero, gv_pure, mulD, modD, Sh.intD, Sh.subD, Sh.divD, Sh.powD, arI, gv_guard, skipS, runB, Sh.envOf, par2S, par3S, List.length_cons, List.length_nil, List.replicate, List.map, List.append_nil, List.cons_append, List.nil_append, setRefIt, ix_w, ix_c, ix_r, ix_t, pr_r, pr_t, eq_ii, ne_ii, appendS, lstOf, isNoneD, isND, id_eq, cmpI, gtI, leI, setOwnIt, true_and, wipeE, rng1, catD, negD, repD, ne_w, need_w, popRefM, pop_w, itemsD, Nat.reduceAdd, Nat.reduceSub, Int.reduceLT, lenV_lst, lenV_tup, lenV_str, gi_andD, gi_orD, gi_ifS, gi_eIf, gi_orB, gi_andB, gi_chainD, asB_bl, eq_ss, lt_ii, ne_ss, add_ii]
  refine ⟨by omega, ?_⟩
  have hr : (rangeD 0 (1 + i)).length = (1 + i).toNat := by simp [rangeD]
  have hr2 : (1 + i).toNat ≤ 2 := by omega
  refine bend_loop hg hp (rangeD 0 (1 + i)) (T + 1 + 1) st2 x 60 3 _ (by rw [hr]; omega) hx (by
    rw [hr]
    have := Nat.pow_le_pow_right (n := 2) (by decide) hr2
    have := Nat.mul_le_mul_left (60 + 60) this
    omega) h2 (by rw [hr]; omega) fun y st3 y10 hy h3 => ?_
  have hyb : y.bk ≤ 200000 := by have := hy.2.1; omega
  have hyd : y.dp ≤ 150 := by have := hy.2.2; omega
  have ew : decide (shS y ∈ (everyL ls ds).map shS) = isF ls ds y := by
    rw [Bool.eq_iff_iff, decide_eq_true_eq]
    exact told_in hg hy.1
  simp only [List.map_cons, List.map_nil, setV, List.set_cons_succ, List.set_cons_zero, gv_bind, gv_seq, setS, Sh.retS, getV, List.getElem?_cons_succ, List.getElem?_cons_zero, gv_pure, mulD, modD, Sh.intD, Sh.subD, Sh.divD, Sh.powD, arI, gv_guard, skipS, runB, Sh.envOf, par2S, par3S, List.length_cons, List.length_nil, List.replicate, List.map, List.append_nil, List.cons_append, List.nil_append, setRefIt, ix_w, ix_c, ix_r, ix_t, pr_r, pr_t, eq_ii, ne_ii, appendS, lstOf, isNoneD, isND, id_eq, cmpI, gtI, leI, setOwnIt, true_and, wipeE, rng1, catD, negD, repD, ne_w, need_w, popRefM, pop_w, itemsD, Nat.reduceAdd, Nat.reduceSub, Int.reduceLT, lenV_lst, lenV_tup, lenV_str, gi_andD, gi_orD, gi_ifS, gi_eIf, gi_orB, gi_andB, gi_chainD, asB_bl, eq_ss, lt_ii, ne_ss, add_ii, eMeth, eMethK, repr_is hy.1 hyb hyd, in_sq (.inl rfl : Sq (.lst (((everyL ls ds).map shS).map .str)) _), inst_g h3 hq, ew]
  refine isfact_g h3 hq hy.1 ?_
  simp only [List.map_cons, List.map_nil, setV, List.set_cons_succ, List.set_cons_zero, gv_bind, gv_seq, setS, Sh.retS, getV, List.getElem?_cons_succ, List.getElem?_cons_zero, gv_pure, mulD, modD, Sh.intD, Sh.subD, Sh.divD, Sh.powD, arI, gv_guard, skipS, runB, Sh.envOf, par2S, par3S, List.length_cons, List.length_nil, List.replicate, List.map, List.append_nil, List.cons_append, List.nil_append, setRefIt, ix_w, ix_c, ix_r, ix_t, pr_r, pr_t, eq_ii, ne_ii, appendS, lstOf, isNoneD, isND, id_eq, cmpI, gtI, leI, setOwnIt, true_and, wipeE, rng1, catD, negD, repD, ne_w, need_w, popRefM, pop_w, itemsD, Nat.reduceAdd, Nat.reduceSub, Int.reduceLT, lenV_lst, lenV_tup, lenV_str, gi_andD, gi_orD, gi_ifS, gi_eIf, gi_orB, gi_andB, gi_chainD, asB_bl, eq_ss, lt_ii, ne_ss, add_ii, inst_g h3 hq, permL, List.filterMap_cons, List.filterMap_nil]
  refine isfact_g h3 hq hy.1 ?_
  refine ⟨by decide, ?_⟩
  rw [repr_is (d := .lst [.bl (isF ls ds y), .bl (isF ls ds y)]) rfl (Nat.le_of_ble_eq_true rfl) (Nat.le_of_ble_eq_true rfl), repr_is (d := .lst [.bl (isF ls ds y), .bl (isF ls ds y)]) rfl (Nat.le_of_ble_eq_true rfl) (Nat.le_of_ble_eq_true rfl), ne_ss]
  simp only [asB_bl, beq_self_eq_true, Bool.not_true]
  rw [if_neg (by simp), if_neg (by simp)]
  exact hP _ _ _ _ _ _ (h3.up (by rw [hr]; omega))
abbrev lapsB : MS := (seqS (forE (iRng (eC (.int 12))) (setV 6) lapB) skipS)
theorem lap_loop (hg : GOK ls ds) (hp : HasR R p (.dic (grd ls ds fs))) (hq : Bk R q ls ds) : ∀ (rs : List D) (T : Int) (st : Sto) (x6 x9 x10 x11 x12 x13 : Option D), Dw cs R T st → T + 200 * rs.length + 1000 < 2 ^ 39 →
    (∀ x6 x9 x10 x11 x12 x13 st', Dw cs R (T + 200 * rs.length) st' → P (.nx, [x0, some (.ref 1), x2, some (.ref p), some (.lst (((everyL ls ds).map shS).map .str)), x5, x6, some (.ref q), some (.lst (everyL ls ds)), x9, x10, x11, x12, x13]) st') →
    (forS (setV 6) lapB rs [x0, some (.ref 1), x2, some (.ref p), some (.lst (((everyL ls ds).map shS).map .str)), x5, x6, some (.ref q), some (.lst (everyL ls ds)), x9, x10, x11, x12, x13]).gives st P
  | [], T, st, x6, x9, x10, x11, x12, x13, h, hT, hP => hP _ _ _ _ _ _ _ (h.up (by simp))
  | r :: rs, T, st, x6, x9, x10, x11, x12, x13, h, hT, hP => by
    simp only [List.length_cons] at hT
    rw [forS_go rfl]
    refine lap_g hg hp hq h (by omega) fun y9 y10 y11 y12 y13 st1 h1 => ?_
    refine lap_loop hg hp hq rs (T + 200) st1 _ _ _ _ _ _ h1 (by omega) fun y6 y9 y10 y11 y12 y13 st2 h2 => ?_
    exact hP _ _ _ _ _ _ _ (h2.up (by simp; omega))
abbrev seeB : MS := (seqS (ifS (tB (e2 (isBD not) (eMeth "Book" "is_fact" Dr.f_Book_is_fact (eV 7) (lCons (eV 5) lNil)) (eC (.bl true)))) (seqS (retS (eC (.bl false)))
  skipS) skipS)
  skipS)
theorem isB_tt {f : Bool → Bool} {a b : Bool} {st : Sto} {P : D → Sto → Prop} : (isBD f (.bl a) (.bl b)).gives st P ↔ P (.bl (f (decide (a = b)))) st := Iff.rfl
theorem see_loop (hg : GOK ls ds) (hq : Bk R q ls ds) {T : Int} {st : Sto} (h : Dw cs R T st) : ∀ (es : List D) (x5 : Option D), (∀ e ∈ es, FactI ls ds e) →
    (∀ x5, P (.nx, [x0, x1, x2, x3, x4, x5, x6, some (.ref q), x8, x9, x10, x11, x12, x13]) st) →
    (forS (setV 5) seeB es [x0, x1, x2, x3, x4, x5, x6, some (.ref q), x8, x9, x10, x11, x12, x13]).gives st P
  | [], x5, _, hP => hP x5
  | e :: es, x5, he, hP => by
    obtain ⟨F, m, hq'⟩ := hq
    rw [forS_go rfl]
    have hi := he e List.mem_cons_self
    simp only [List.map_cons, List.map_nil, setV, List.set_cons_succ, List.set_cons_zero, gv_bind, gv_seq, setS, Sh.retS, getV, List.getElem?_cons_succ, List.getElem?_cons_zero, gv_pure, mulD, modD, Sh.intD, Sh.subD, Sh.divD, Sh.powD, arI, gv_guard, skipS, runB, Sh.envOf, par2S, par3S, List.length_cons, List.length_nil, List.replicate, List.map, List.append_nil, List.cons_append, List.nil_append, setRefIt, ix_w, ix_c, ix_r, ix_t, pr_r, pr_t, eq_ii, ne_ii, appendS, lstOf, isNoneD, isND, id_eq, cmpI, gtI, leI, setOwnIt, true_and, wipeE, rng1, catD, negD, repD, ne_w, need_w, popRefM, pop_w, itemsD, Nat.reduceAdd, Nat.reduceSub, Int.reduceLT, lenV_lst, lenV_tup, lenV_str, gi_andD, gi_orD, gi_ifS, gi_eIf, gi_orB, gi_andB, gi_chainD, asB_bl, eq_ss, lt_ii, ne_ss, add_ii, eMeth, inst_g h hq']
    refine isfact_g h hq' (itm_fact hg.l.lab hg.d.lab hi).1 ?_
    rw [fact_mk hi]
    simp only [isB_tt, asB_bl]
    rw [if_neg (by simp)]
    exact see_loop hg ⟨F, m, hq'⟩ h es _ (fun x hx => he x (List.mem_cons_of_mem _ hx)) hP
abbrev turnB : MS := (seqS (setS 3 (eCall Dr.f__law_drawn_ground (lCons (eV 1) (lCons (eC (.int 4)) (lCons (eC (.int 5)) (lCons (eC (.int 6)) lNil))))))
  (seqS (par2S 7 8 (lCons (eCall Dr.f__law_book (lCons (eV 3) lNil)) (lCons (eCall Dr.f__law_every_fact (lCons (eV 3) lNil)) lNil)))
  (seqS (setS 4 (eComp [5] (iSeq (eV 8)) (setV 5) tYes (e1 reprD (eV 5))))
  (seqS (forE (iSeq (eV 8)) (setV 5) seeB)
  (seqS (forE (iRng (eC (.int 12))) (setV 6) lapB)
  skipS)))))
def En (a0 : Option D) (ρ : Sh.Env) : Prop := ∃ y2 y3 y4 y5 y6 y7 y8 y9 y10 y11 y12 y13, ρ = [a0, some (.ref 1), y2, y3, y4, y5, y6, y7, y8, y9, y10, y11, y12, y13]
theorem turn_g {T : Int} {st : Sto} (h : Dw cs R T st) (hT : T + 10000 < 2 ^ 39) (hP : ∀ ρ R' st', En x0 ρ → Dw cs R' (T + 5000) st' → P (.nx, ρ) st') :
    (turnB [x0, some (.ref 1), x2, x3, x4, x5, x6, x7, x8, x9, x10, x11, x12, x13]).gives st P := by
  simp only [List.map_cons, List.map_nil, setV, List.set_cons_succ, List.set_cons_zero, gv_bind, gv_seq, setS, Sh.retS, getV, List.getElem?_cons_succ, List.getElem?_cons_zero, gv_pure, mulD, modD, Sh.intD, Sh.subD, Sh.divD, Sh.powD, arI, gv_guard, skipS, runB, Sh.envOf, par2S, par3S, List.length_cons, List.length_nil, List.replicate, List.map, List.append_nil, List.cons_append, List.nil_append, setRefIt, ix_w, ix_c, ix_r, ix_t, pr_r, pr_t, eq_ii, ne_ii, appendS, lstOf, isNoneD, isND, id_eq, cmpI, gtI, leI, setOwnIt, true_and, wipeE, rng1, catD, negD, repD, ne_w, need_w, popRefM, pop_w, itemsD, Nat.reduceAdd, Nat.reduceSub, Int.reduceLT, lenV_lst, lenV_tup, lenV_str, gi_andD, gi_orD, gi_ifS, gi_eIf, gi_orB, gi_andB, gi_chainD, asB_bl, eq_ss, lt_ii, ne_ss, add_ii]
  refine M.gives_mono (drawn_g h (by omega)) fun d st1 ⟨ls, ds, fs, p, R1, e, hg, hf, hn, hp, h1⟩ => ?_
  subst e
  refine M.gives_mono (book_g h1 hp hg hf hn) fun d st2 ⟨q, F, m, e, hq, h2⟩ => ?_
  subst e
  have hp2 := hp.app (e := bkO (tS (sortW ls)) (tS (sortW ds)) F m)
  refine every_g h2 hp2 (by have := hg.ll; omega) (by have := hg.dl; omega) ?_
  simp only [List.map_cons, List.map_nil, setV, List.set_cons_succ, List.set_cons_zero, gv_bind, gv_seq, setS, Sh.retS, getV, List.getElem?_cons_succ, List.getElem?_cons_zero, gv_pure, mulD, modD, Sh.intD, Sh.subD, Sh.divD, Sh.powD, arI, gv_guard, skipS, runB, Sh.envOf, par2S, par3S, List.length_cons, List.length_nil, List.replicate, List.map, List.append_nil, List.cons_append, List.nil_append, setRefIt, ix_w, ix_c, ix_r, ix_t, pr_r, pr_t, eq_ii, ne_ii, appendS, lstOf, isNoneD, isND, id_eq, cmpI, gtI, leI, setOwnIt, true_and, wipeE, rng1, catD, negD, repD, ne_w, need_w, popRefM, pop_w, itemsD, Nat.reduceAdd, Nat.reduceSub, Int.reduceLT, lenV_lst, lenV_tup, lenV_str, gi_andD, gi_orD, gi_ifS, gi_eIf, gi_orB, gi_andB, gi_chainD, asB_bl, eq_ss, lt_ii, ne_ss, add_ii]
  refine comp_q (p := fun _ => true) (F := fun d => .str (shS d)) (everyL ls ds) (fun x _ P hP => hP) (fun x hx _ P hP => ?_) ?_
  · have hi := itm_fact hg.l.lab hg.d.lab ((every_iff hg.li).mp hx)
    simp only [List.map_cons, List.map_nil, setV, List.set_cons_succ, List.set_cons_zero, gv_bind, gv_seq, setS, Sh.retS, getV, List.getElem?_cons_succ, List.getElem?_cons_zero, gv_pure, mulD, modD, Sh.intD, Sh.subD, Sh.divD, Sh.powD, arI, gv_guard, skipS, runB, Sh.envOf, par2S, par3S, List.length_cons, List.length_nil, List.replicate, List.map, List.append_nil, List.cons_append, List.nil_append, setRefIt, ix_w, ix_c, ix_r, ix_t, pr_r, pr_t, eq_ii, ne_ii, appendS, lstOf, isNoneD, isND, id_eq, cmpI, gtI, leI, setOwnIt, true_and, wipeE, rng1, catD, negD, repD, ne_w, need_w, popRefM, pop_w, itemsD, Nat.reduceAdd, Nat.reduceSub, Int.reduceLT, lenV_lst, lenV_tup, lenV_str, gi_andD, gi_orD, gi_ifS, gi_eIf, gi_orB, gi_andB, gi_chainD, asB_bl, eq_ss, lt_ii, ne_ss, add_ii]
    rw [repr_is hi.1 (by have := hi.2.1; omega) (by have := hi.2.2; omega)]
    exact hP
  rw [List.filter_eq_self.mpr (by simp)]
  have el : ((everyL ls ds).map fun d => D.str (shS d)) = ((everyL ls ds).map shS).map .str := by rw [List.map_map]; rfl
  rw [el]
  refine see_loop hg ⟨F, m, hq⟩ h2 (everyL ls ds) _ (fun e he => (every_iff hg.li).mp he) fun y5 => ?_
  simp only [List.map_cons, List.map_nil, setV, List.set_cons_succ, List.set_cons_zero, gv_bind, gv_seq, setS, Sh.retS, getV, List.getElem?_cons_succ, List.getElem?_cons_zero, gv_pure, mulD, modD, Sh.intD, Sh.subD, Sh.divD, Sh.powD, arI, gv_guard, skipS, runB, Sh.envOf, par2S, par3S, List.length_cons, List.length_nil, List.replicate, List.map, List.append_nil, List.cons_append, List.nil_append, setRefIt, ix_w, ix_c, ix_r, ix_t, pr_r, pr_t, eq_ii, ne_ii, appendS, lstOf, isNoneD, isND, id_eq, cmpI, gtI, leI, setOwnIt, true_and, wipeE, rng1, catD, negD, repD, ne_w, need_w, popRefM, pop_w, itemsD, Nat.reduceAdd, Nat.reduceSub, Int.reduceLT, lenV_lst, lenV_tup, lenV_str, gi_andD, gi_orD, gi_ifS, gi_eIf, gi_orB, gi_andB, gi_chainD, asB_bl, eq_ss, lt_ii, ne_ss, add_ii]
  refine ⟨by decide, ?_⟩
  refine lap_loop hg hp2 ⟨F, m, hq⟩ (rangeD 0 12) (T + 100) st2 _ _ _ _ _ _ h2 (by simp [rangeD]; omega) fun y6 y9 y10 y11 y12 y13 st3 h3 => ?_
  simp only [List.map_cons, List.map_nil, setV, List.set_cons_succ, List.set_cons_zero, gv_bind, gv_seq, setS, Sh.retS, getV, List.getElem?_cons_succ, List.getElem?_cons_zero, gv_pure, mulD, modD, Sh.intD, Sh.subD, Sh.divD, Sh.powD, arI, gv_guard, skipS, runB, Sh.envOf, par2S, par3S, List.length_cons, List.length_nil, List.replicate, List.map, List.append_nil, List.cons_append, List.nil_append, setRefIt, ix_w, ix_c, ix_r, ix_t, pr_r, pr_t, eq_ii, ne_ii, appendS, lstOf, isNoneD, isND, id_eq, cmpI, gtI, leI, setOwnIt, true_and, wipeE, rng1, catD, negD, repD, ne_w, need_w, popRefM, pop_w, itemsD, Nat.reduceAdd, Nat.reduceSub, Int.reduceLT, lenV_lst, lenV_tup, lenV_str, gi_andD, gi_orD, gi_ifS, gi_eIf, gi_orB, gi_andB, gi_chainD, asB_bl, eq_ss, lt_ii, ne_ss, add_ii]
  exact hP _ _ _ ⟨_, _, _, _, _, _, _, _, _, _, _, _, rfl⟩ (h3.up (by simp [rangeD]; omega))
end
theorem turns {a0 : Option D} {cs : List Int} {P : Fl × Sh.Env → Sto → Prop} : ∀ (rs : List D) (R : Sto) (T : Int) (st : Sto) (ρ : Sh.Env), En a0 ρ → Dw cs R T st → T + 5000 * (rs.length : Int) < 2 ^ 38 → (∀ ρ st', En a0 ρ → P (.nx, ρ) st') → (forS (setV 2) turnB rs ρ).gives st P
  | [], R, T, st, ρ, he, h, hT, hp => hp ρ st he
  | r :: rs, R, T, st, ρ, he, h, hT, hp => by
    obtain ⟨y2, y3, y4, y5, y6, y7, y8, y9, y10, y11, y12, y13, rfl⟩ := he
    simp only [List.length_cons] at hT
    rw [forS_go rfl]
    refine turn_g h (by omega) fun ρ' R' st' he' h' => ?_
    exact turns rs R' (T + 5000) st' ρ' he' h' (by omega) hp
theorem law_true (ns : List Int) (h : ns.length ≤ 63) : (f_law [.frl (ns.map .int)]).gives [] fun d _ => d = .bl true := by
  unfold f_law b_law
  simp only [List.map_cons, List.map_nil, setV, List.set_cons_succ, List.set_cons_zero, gv_bind, gv_seq, setS, Sh.retS, getV, List.getElem?_cons_succ, List.getElem?_cons_zero, gv_pure, mulD, modD, Sh.intD, Sh.subD, Sh.divD, Sh.powD, arI, gv_guard, skipS, runB, Sh.envOf, par2S, par3S, List.length_cons, List.length_nil, List.replicate, List.map, List.append_nil, List.cons_append, List.nil_append, setRefIt, ix_w, ix_c, ix_r, ix_t, pr_r, pr_t, eq_ii, ne_ii, appendS, lstOf, isNoneD, isND, id_eq, cmpI, gtI, leI, setOwnIt, true_and, wipeE, rng1, catD, negD, repD, ne_w, need_w, popRefM, pop_w, itemsD, Nat.reduceAdd, Nat.reduceSub, Int.reduceLT, lenV_lst, lenV_tup, lenV_str, gi_andD, gi_orD, gi_ifS, gi_eIf, gi_orB, gi_andB, gi_chainD, asB_bl, eq_ss, lt_ii, ne_ss, add_ii]
  refine begun_g fun cs st hd => ?_
  simp only [List.map_cons, List.map_nil, setV, List.set_cons_succ, List.set_cons_zero, gv_bind, gv_seq, setS, Sh.retS, getV, List.getElem?_cons_succ, List.getElem?_cons_zero, gv_pure, mulD, modD, Sh.intD, Sh.subD, Sh.divD, Sh.powD, arI, gv_guard, skipS, runB, Sh.envOf, par2S, par3S, List.length_cons, List.length_nil, List.replicate, List.map, List.append_nil, List.cons_append, List.nil_append, setRefIt, ix_w, ix_c, ix_r, ix_t, pr_r, pr_t, eq_ii, ne_ii, appendS, lstOf, isNoneD, isND, id_eq, cmpI, gtI, leI, setOwnIt, true_and, wipeE, rng1, catD, negD, repD, ne_w, need_w, popRefM, pop_w, itemsD, Nat.reduceAdd, Nat.reduceSub, Int.reduceLT, lenV_lst, lenV_tup, lenV_str, gi_andD, gi_orD, gi_ifS, gi_eIf, gi_orB, gi_andB, gi_chainD, asB_bl, eq_ss, lt_ii, ne_ss, add_ii, minD]
  rw [lenV_frl]
  simp only [List.map_cons, List.map_nil, setV, List.set_cons_succ, List.set_cons_zero, gv_bind, gv_seq, setS, Sh.retS, getV, List.getElem?_cons_succ, List.getElem?_cons_zero, gv_pure, mulD, modD, Sh.intD, Sh.subD, Sh.divD, Sh.powD, arI, gv_guard, skipS, runB, Sh.envOf, par2S, par3S, List.length_cons, List.length_nil, List.replicate, List.map, List.append_nil, List.cons_append, List.nil_append, setRefIt, ix_w, ix_c, ix_r, ix_t, pr_r, pr_t, eq_ii, ne_ii, appendS, lstOf, isNoneD, isND, id_eq, cmpI, gtI, leI, setOwnIt, true_and, wipeE, rng1, catD, negD, repD, ne_w, need_w, popRefM, pop_w, itemsD, Nat.reduceAdd, Nat.reduceSub, Int.reduceLT, lenV_lst, lenV_tup, lenV_str, gi_andD, gi_orD, gi_ifS, gi_eIf, gi_orB, gi_andB, gi_chainD, asB_bl, eq_ss, lt_ii, ne_ss, add_ii]
  have hb : (if (12 : Int) < ((ns.map D.int).length : Nat) then (12 : Int) else ((ns.map D.int).length : Nat)) ≤ 12 ∧ 0 ≤ (if (12 : Int) < ((ns.map D.int).length : Nat) then (12 : Int) else ((ns.map D.int).length : Nat)) := by split <;> omega
  generalize (if (12 : Int) < ((ns.map D.int).length : Nat) then (12 : Int) else ((ns.map D.int).length : Nat)) = m at *
  refine ⟨by omega, ?_⟩
  refine turns _ [] 0 st _ ⟨_, _, _, _, _, _, _, _, _, _, _, _, rfl⟩ hd ?_ fun ρ st' he => ?_
  · simp only [rangeD, List.length_map, List.length_range]
    omega
  · simp only [List.map_cons, List.map_nil, setV, List.set_cons_succ, List.set_cons_zero, gv_bind, gv_seq, setS, Sh.retS, getV, List.getElem?_cons_succ, List.getElem?_cons_zero, gv_pure, mulD, modD, Sh.intD, Sh.subD, Sh.divD, Sh.powD, arI, gv_guard, skipS, runB, Sh.envOf, par2S, par3S, List.length_cons, List.length_nil, List.replicate, List.map, List.append_nil, List.cons_append, List.nil_append, setRefIt, ix_w, ix_c, ix_r, ix_t, pr_r, pr_t, eq_ii, ne_ii, appendS, lstOf, isNoneD, isND, id_eq, cmpI, gtI, leI, setOwnIt, true_and, wipeE, rng1, catD, negD, repD, ne_w, need_w, popRefM, pop_w, itemsD, Nat.reduceAdd, Nat.reduceSub, Int.reduceLT, lenV_lst, lenV_tup, lenV_str, gi_andD, gi_orD, gi_ifS, gi_eIf, gi_orB, gi_andB, gi_chainD, asB_bl, eq_ss, lt_ii, ne_ss, add_ii]
end K04
set_option maxHeartbeats 4000000
/-! that the text computes it of turnedlooks_k04_facts_judged (printed by wip/gen2.py) -/
namespace K04
open PySem PySem.Spec PyProof.Rows L2 Sh
def topS (i : Nat) : Stmt := PySem.Challenge.pw_turnedlooks_k04_facts_judged.main.body.getD i (.Pass ⟨0, 0, 0, 0⟩)
abbrev kT : CT := [("Book", ["b_looks", "b_deeds", "b_facts", "b_moments"])]
def G_LETTERS (K : PySem.W.Frag) (mg : Str → Option Value) : Prop := ∀ (cl : String → Option Addr) (md : List Md) {X : Cx} {pos : Pos}, X.K = K → X.mg = mg → Gl X "LETTERS" → SK cl md X .val (.Name "LETTERS" pos) (eC Dr.c_LETTERS)
def G_OUTCOMES (K : PySem.W.Frag) (mg : Str → Option Value) : Prop := ∀ (cl : String → Option Addr) (md : List Md) {X : Cx} {pos : Pos}, X.K = K → X.mg = mg → Gl X "OUTCOMES" → SK cl md X .val (.Name "OUTCOMES" pos) (eC Dr.c_OUTCOMES)
def G_MOST_LETTERS (K : PySem.W.Frag) (mg : Str → Option Value) : Prop := ∀ (cl : String → Option Addr) (md : List Md) {X : Cx} {pos : Pos}, X.K = K → X.mg = mg → Gl X "MOST_LETTERS" → SK cl md X .val (.Name "MOST_LETTERS" pos) (eC Dr.c_MOST_LETTERS)
def G_MOST_LOOKS (K : PySem.W.Frag) (mg : Str → Option Value) : Prop := ∀ (cl : String → Option Addr) (md : List Md) {X : Cx} {pos : Pos}, X.K = K → X.mg = mg → Gl X "MOST_LOOKS" → SK cl md X .val (.Name "MOST_LOOKS" pos) (eC Dr.c_MOST_LOOKS)
def G_MOST_DEEDS (K : PySem.W.Frag) (mg : Str → Option Value) : Prop := ∀ (cl : String → Option Addr) (md : List Md) {X : Cx} {pos : Pos}, X.K = K → X.mg = mg → Gl X "MOST_DEEDS" → SK cl md X .val (.Name "MOST_DEEDS" pos) (eC Dr.c_MOST_DEEDS)
def G_MOST_FACTS (K : PySem.W.Frag) (mg : Str → Option Value) : Prop := ∀ (cl : String → Option Addr) (md : List Md) {X : Cx} {pos : Pos}, X.K = K → X.mg = mg → Gl X "MOST_FACTS" → SK cl md X .val (.Name "MOST_FACTS" pos) (eC Dr.c_MOST_FACTS)
/-! ### is_one_of -/
abbrev s_is_one_of : Stmt := topS 15
abbrev n_is_one_of : List Str := ["thing", "words"]
abbrev d_is_one_of : List Md := [.val, .val]
theorem sc_is_one_of : FnScope n_is_one_of ["thing", "words"] (defScope s_is_one_of) := ⟨rfl, rfl, rfl, by decide +kernel, rfl, by decide +kernel, by decide +kernel⟩
section
variable {P : Program} {w : World} {K : PySem.W.Frag} {mg : Str → Option Value} {base : Heap} {cl : String → Option Addr}
theorem ok_is_one_of {f : Addr} {fd : FuncData} (F : FunA K "is_one_of" "is_one_of" s_is_one_of f fd) (hsy : HasSys base)
    (m_isinstance : mg "isinstance" = none)
    (m_str : mg "str" = none) : FnG P w K mg base CX0 1 f fd ["thing", "words"] (spF ⟨K, cl⟩ [.val, .val] .val Dr.f_is_one_of) :=
  fn_okG (k := 0) (md := d_is_one_of) F sc_is_one_of rfl rfl (fun cdv A outer s0 H E B hB hgu hr => by
    obtain ⟨μ0, F0, H0, rk0⟩ := B
    have hB : rk0 = .val := hB
    subst hB
    have hu1 := room_u (n := 1) hr (by decide)
    have hu64 := room_u (n := 64) hr (by decide)
    have hu70 := room_u (n := 70) hr (by decide)
    have hu151 := room_u (n := 151) hr (by decide)
    have nd := sc_is_one_of.nd
    exact (ss_cons (ss_retR (sr_of (sk_and (sk_isi "str" (sk_var 0) rfl m_isinstance rfl m_str) (sk_one (sk_cmp (op_inP hu70) o2_in (sk_var 0) (sk_var 1) rfl)))))
  ss_nil))
end
/-! ### is_told -/
abbrev s_is_told : Stmt := topS 16
abbrev n_is_told : List Str := ["looks", "thing"]
abbrev d_is_told : List Md := [.val, .val]
theorem sc_is_told : FnScope n_is_told ["looks", "thing"] (defScope s_is_told) := ⟨rfl, rfl, rfl, by decide +kernel, rfl, by decide +kernel, by decide +kernel⟩
section
variable {P : Program} {w : World} {K : PySem.W.Frag} {mg : Str → Option Value} {base : Heap} {cl : String → Option Addr}
theorem ok_is_told {f : Addr} {fd : FuncData} (F : FunA K "is_told" "is_told" s_is_told f fd) (hsy : HasSys base)
    (m_bool : mg "bool" = none)
    (m_isinstance : mg "isinstance" = none)
    (m_len : mg "len" = none)
    (m_tuple : mg "tuple" = none)
    (h_is_one_of : Has P w K mg base "is_one_of" 1 ["thing", "words"] (spF ⟨K, cl⟩ [.val, .val] .val Dr.f_is_one_of)) : FnG P w K mg base CX0 2 f fd ["looks", "thing"] (spF ⟨K, cl⟩ [.val, .val] .val Dr.f_is_told) :=
  fn_okG (k := 1) (md := d_is_told) F sc_is_told rfl rfl (fun cdv A outer s0 H E B hB hgu hr => by
    obtain ⟨μ0, F0, H0, rk0⟩ := B
    have hB : rk0 = .val := hB
    subst hB
    have hu1 := room_u (n := 1) hr (by decide)
    have hu64 := room_u (n := 64) hr (by decide)
    have hu70 := room_u (n := 70) hr (by decide)
    have hu151 := room_u (n := 151) hr (by decide)
    have nd := sc_is_told.nd
    exact (ss_cons (ss_retR (sr_of (sk_and (sk_isi "tuple" (sk_var 1) rfl m_isinstance rfl m_tuple) (sk_and (sk_cmp (op_eqP hu64) o2_eq (sk_b1 call_len o1_len rfl m_len (sk_var 1)) sk_int rfl) (sk_and (sk_callH h_is_one_of (by omega) hgu hr rfl (sa_cons (sk_ix hu1 (sk_var 1) sk_int) (sa_cons (sk_var 0) sa_nil))) (sk_one (sk_isi "bool" (sk_ix hu1 (sk_var 1) sk_int) rfl m_isinstance rfl m_bool)))))))
  ss_nil))
end
/-! ### are_pairs -/
abbrev s_are_pairs : Stmt := topS 17
abbrev n_are_pairs : List Str := ["looks", "thing", "pair"]
abbrev d_are_pairs : List Md := [.val, .val, .val]
theorem sc_are_pairs : FnScope n_are_pairs ["looks", "thing"] (defScope s_are_pairs) := ⟨rfl, rfl, rfl, by decide +kernel, rfl, by decide +kernel, by decide +kernel⟩
section
variable {P : Program} {w : World} {K : PySem.W.Frag} {mg : Str → Option Value} {base : Heap} {cl : String → Option Addr}
theorem ok_are_pairs {f : Addr} {fd : FuncData} (F : FunA K "are_pairs" "are_pairs" s_are_pairs f fd) (hsy : HasSys base)
    (m_all : mg "all" = none)
    (m_isinstance : mg "isinstance" = none)
    (m_len : mg "len" = none)
    (m_tuple : mg "tuple" = none)
    (h_is_told : Has P w K mg base "is_told" 2 ["looks", "thing"] (spF ⟨K, cl⟩ [.val, .val] .val Dr.f_is_told)) : FnG P w K mg base CX0 3 f fd ["looks", "thing"] (spF ⟨K, cl⟩ [.val, .val] .val Dr.f_are_pairs) :=
  fn_okG (k := 2) (md := d_are_pairs) F sc_are_pairs rfl rfl (fun cdv A outer s0 H E B hB hgu hr => by
    obtain ⟨μ0, F0, H0, rk0⟩ := B
    have hB : rk0 = .val := hB
    subst hB
    have hu1 := room_u (n := 1) hr (by decide)
    have hu64 := room_u (n := 64) hr (by decide)
    have hu70 := room_u (n := 70) hr (by decide)
    have hu151 := room_u (n := 151) hr (by decide)
    have nd := sc_are_pairs.nd
    exact (ss_cons (ss_if (sw_t (sw_or (st_not (st_val (sk_isi "tuple" (sk_var 1) rfl m_isinstance rfl m_tuple))) (sw_or (st_cmp (op_notInP hu70) o2_notIn (sk_b1 call_len o1_len rfl m_len (sk_var 1)) (sk_tup (n := 2) (sa_cons sk_int (sa_cons sk_int sa_nil))) rfl) (sw_or1 (st_not (st_val (sk_b1 (cr_all rfl) o1_all rfl m_all (sk_comp (own := [("pair", 2)]) rfl nd (show blkC n_are_pairs (defScope s_are_pairs) _ _ = true by decide +kernel) (by decide) (si_seq (sk_bor (sk_var 1))) (fun _ _ _ _ _ => (sg_name 2 nd)) (fun _ _ _ _ _ => pts_none) (fun _ _ _ _ _ => (sk_callH h_is_told (by omega) hgu hr rfl (sa_cons (sk_var 0) (sa_cons (sk_var 2) sa_nil)))))))))))) (ss_cons (ss_retR (sr_of sk_bl))
  ss_nil) ss_nil)
  (ss_cons (ss_retR (sr_of (sk_or (sk_cmp (op_eqP hu64) o2_eq (sk_b1 call_len o1_len rfl m_len (sk_var 1)) sk_int rfl) (sk_one (sk_cmp op_lt2 o2_lt (sk_ix hu1 (sk_ix hu1 (sk_var 1) sk_int) sk_int) (sk_ix hu1 (sk_ix hu1 (sk_var 1) sk_int) sk_int) rfl)))))
  ss_nil)))
end
/-! ### is_fact_about -/
abbrev s_is_fact_about : Stmt := topS 18
abbrev n_is_fact_about : List Str := ["looks", "deeds", "thing", "word", "many"]
abbrev d_is_fact_about : List Md := [.val, .val, .val, .val, .val]
theorem sc_is_fact_about : FnScope n_is_fact_about ["looks", "deeds", "thing"] (defScope s_is_fact_about) := ⟨rfl, rfl, rfl, by decide +kernel, rfl, by decide +kernel, by decide +kernel⟩
section
variable {P : Program} {w : World} {K : PySem.W.Frag} {mg : Str → Option Value} {base : Heap} {cl : String → Option Addr}
theorem ok_is_fact_about {f : Addr} {fd : FuncData} (F : FunA K "is_fact_about" "is_fact_about" s_is_fact_about f fd) (hsy : HasSys base)
    (m_bool : mg "bool" = none)
    (m_isinstance : mg "isinstance" = none)
    (m_len : mg "len" = none)
    (m_str : mg "str" = none)
    (m_tuple : mg "tuple" = none)
    (g_OUTCOMES : G_OUTCOMES K mg)
    (h_is_one_of : Has P w K mg base "is_one_of" 1 ["thing", "words"] (spF ⟨K, cl⟩ [.val, .val] .val Dr.f_is_one_of))
    (h_are_pairs : Has P w K mg base "are_pairs" 3 ["looks", "thing"] (spF ⟨K, cl⟩ [.val, .val] .val Dr.f_are_pairs)) : FnG P w K mg base CX0 4 f fd ["looks", "deeds", "thing"] (spF ⟨K, cl⟩ [.val, .val, .val] .val Dr.f_is_fact_about) :=
  fn_okG (k := 3) (md := d_is_fact_about) F sc_is_fact_about rfl rfl (fun cdv A outer s0 H E B hB hgu hr => by
    obtain ⟨μ0, F0, H0, rk0⟩ := B
    have hB : rk0 = .val := hB
    subst hB
    have hu1 := room_u (n := 1) hr (by decide)
    have hu64 := room_u (n := 64) hr (by decide)
    have hu70 := room_u (n := 70) hr (by decide)
    have hu151 := room_u (n := 151) hr (by decide)
    have nd := sc_is_fact_about.nd
    exact (ss_cons (ss_if (sw_t (sw_or (st_not (st_val (sk_isi "tuple" (sk_var 2) rfl m_isinstance rfl m_tuple))) (sw_or (st_cmp op_lt2 o2_lt (sk_b1 call_len o1_len rfl m_len (sk_var 2)) sk_int rfl) (sw_or1 (st_not (st_val (sk_isi "str" (sk_ix hu1 (sk_var 2) sk_int) rfl m_isinstance rfl m_str))))))) (ss_cons (ss_retR (sr_of sk_bl))
  ss_nil) ss_nil)
  (ss_cons (ss_par2 3 4 .val .val rfl nd (sa_cons (sk_ix hu1 (sk_var 2) sk_int) (sa_cons (sk_b1 call_len o1_len rfl m_len (sk_var 2)) sa_nil)))
  (ss_cons (ss_if (st_cmp (op_eqP hu64) o2_eq (sk_var 3) sk_str rfl) (ss_cons (ss_retR (sr_of (sk_and (sk_cmp (op_eqP hu64) o2_eq (sk_var 4) sk_int rfl) (sk_one (sk_callH h_are_pairs (by omega) hgu hr rfl (sa_cons (sk_var 0) (sa_cons (sk_ix hu1 (sk_var 2) sk_int) sa_nil)))))))
  ss_nil) ss_nil)
  (ss_cons (ss_if (st_not (st_val (sk_callH h_is_one_of (by omega) hgu hr rfl (sa_cons (sk_ix hu1 (sk_var 2) sk_int) (sa_cons (sk_var 1) sa_nil))))) (ss_cons (ss_retR (sr_of sk_bl))
  ss_nil) ss_nil)
  (ss_cons (ss_if (st_cmp (op_eqP hu64) o2_eq (sk_var 3) sk_str rfl) (ss_cons (ss_retR (sr_of (sk_cmp (op_eqP hu64) o2_eq (sk_var 4) sk_int rfl)))
  ss_nil) ss_nil)
  (ss_cons (ss_if (st_cmp (op_eqP hu64) o2_eq (sk_var 3) sk_str rfl) (ss_cons (ss_retR (sr_of (sk_and (sk_cmp (op_eqP hu64) o2_eq (sk_var 4) sk_int rfl) (sk_one (sk_callH h_is_one_of (by omega) hgu hr rfl (sa_cons (sk_ix hu1 (sk_var 2) sk_int) (sa_cons (sk_var 0) sa_nil)))))))
  ss_nil) ss_nil)
  (ss_cons (ss_if (sw_t (sw_or (st_cmp (op_neP hu64) o2_ne (sk_var 3) sk_str rfl) (sw_or (st_cmp (op_neP hu64) o2_ne (sk_var 4) sk_int rfl) (sw_or1 (st_not (st_val (sk_callH h_is_one_of (by omega) hgu hr rfl (sa_cons (sk_ix hu1 (sk_var 2) sk_int) (sa_cons (g_OUTCOMES cl _ rfl rfl rfl) sa_nil))))))))) (ss_cons (ss_retR (sr_of sk_bl))
  ss_nil) ss_nil)
  (ss_cons (ss_retR (sr_of (sk_and (sk_callH h_is_one_of (by omega) hgu hr rfl (sa_cons (sk_ix hu1 (sk_var 2) sk_int) (sa_cons (sk_var 0) sa_nil))) (sk_one (sk_isi "bool" (sk_ix hu1 (sk_var 2) sk_int) rfl m_isinstance rfl m_bool)))))
  ss_nil)))))))))
end
/-! ### Book.is_fact -/
abbrev s_Book_is_fact : Stmt := inClass (topS 22) 5
abbrev n_Book_is_fact : List Str := ["self", "thing"]
abbrev d_Book_is_fact : List Md := [.val, .val]
theorem sc_Book_is_fact : FnScope n_Book_is_fact ["self", "thing"] (defScope s_Book_is_fact) := ⟨rfl, rfl, rfl, by decide +kernel, rfl, by decide +kernel, by decide +kernel⟩
section
variable {P : Program} {w : World} {K : PySem.W.Frag} {mg : Str → Option Value} {base : Heap} {cl : String → Option Addr}
theorem ok_Book_is_fact {f : Addr} {fd : FuncData} (F : FunA K "is_fact" "Book.is_fact" s_Book_is_fact f fd) (hsy : HasSys base)
    (h_is_fact_about : Has P w K mg base "is_fact_about" 4 ["looks", "deeds", "thing"] (spF ⟨K, cl⟩ [.val, .val, .val] .val Dr.f_is_fact_about))
    (hcls : ClsOk K cl kT) : FnG P w K mg base CX0 5 f fd ["self", "thing"] (spF ⟨K, cl⟩ [.val, .val] .val Dr.f_Book_is_fact) :=
  fn_okG (k := 4) (md := d_Book_is_fact) F sc_Book_is_fact rfl rfl (fun cdv A outer s0 H E B hB hgu hr => by
    obtain ⟨μ0, F0, H0, rk0⟩ := B
    have hB : rk0 = .val := hB
    subst hB
    have hu1 := room_u (n := 1) hr (by decide)
    have hu64 := room_u (n := 64) hr (by decide)
    have hu70 := room_u (n := 70) hr (by decide)
    have hu151 := room_u (n := 151) hr (by decide)
    have nd := sc_Book_is_fact.nd
    exact (ss_cons (ss_retR (sr_of (sk_callH h_is_fact_about (by omega) hgu hr rfl (sa_cons (sk_fld "b_looks" (hcls.one (c := "Book") (by decide +kernel)) (sk_var 0)) (sa_cons (sk_fld "b_deeds" (hcls.one (c := "Book") (by decide +kernel)) (sk_var 0)) (sa_cons (sk_var 1) sa_nil))))))
  ss_nil))
end
/-! ### _law_begun -/
abbrev s__law_begun : Stmt := topS 24
abbrev n__law_begun : List Str := ["_law_script", "_law_wide", "_law_cell"]
abbrev d__law_begun : List Md := [.val, .val, .val]
theorem sc__law_begun : FnScope n__law_begun ["_law_script"] (defScope s__law_begun) := ⟨rfl, rfl, rfl, by decide +kernel, rfl, by decide +kernel, by decide +kernel⟩
section
variable {P : Program} {w : World} {K : PySem.W.Frag} {mg : Str → Option Value} {base : Heap} {cl : String → Option Addr}
theorem ok__law_begun {f : Addr} {fd : FuncData} (F : FunA K "_law_begun" "_law_begun" s__law_begun f fd) (hsy : HasSys base)
    (m_abs : mg "abs" = none)
    (m_int : mg "int" = none) : FnG P w K mg base CX0 1 f fd ["_law_script"] (spF ⟨K, cl⟩ [.val] .val Dr.f__law_begun) :=
  fn_okG (k := 0) (md := d__law_begun) F sc__law_begun rfl rfl (fun cdv A outer s0 H E B hB hgu hr => by
    obtain ⟨μ0, F0, H0, rk0⟩ := B
    have hB : rk0 = .val := hB
    subst hB
    have hu1 := room_u (n := 1) hr (by decide)
    have hu64 := room_u (n := 64) hr (by decide)
    have hu70 := room_u (n := 70) hr (by decide)
    have hu151 := room_u (n := 151) hr (by decide)
    have nd := sc__law_begun.nd
    exact (ss_cons (ss_setLcSto 1 (own := [("_law_cell", 2)]) rfl nd (show blkC n__law_begun (defScope s__law_begun) _ _ = true by decide +kernel) (by decide) (si_seq (sk_bor (sk_var 0))) (fun _ _ _ _ _ => (sg_name 2 nd)) (fun _ _ _ _ _ => (pts_some (st_cmp op_ge (o2_cmpI (f := geI)) (sk_b1 call_abs o1_abs rfl m_abs (sk_var 2)) (sk_op op_pow o2_pow sk_int sk_int) rfl))) (fun _ _ _ _ _ => (sk_op op_sub o2_sub (sk_b1 call_abs o1_abs rfl m_abs (sk_var 2)) (sk_op op_pow o2_pow sk_int sk_int))))
  (ss_cons (ss_retR (sr_of (sk_sto (sk_disp (sps_cons sk_str (sk_var 1) (sps_cons sk_str (sk_frz (sk_comp (own := [("_law_cell", 2)]) rfl nd (show blkC n__law_begun (defScope s__law_begun) _ _ = true by decide +kernel) (by decide) (si_seq (sk_bor (sk_var 0))) (fun _ _ _ _ _ => (sg_name 2 nd)) (fun _ _ _ _ _ => pts_none) (fun _ _ _ _ _ => (sk_op op_mod o2_mod (sk_t1 call_int1 o1_int rfl m_int (sk_b1 call_abs o1_abs rfl m_abs (sk_var 2))) sk_int)))) (sps_cons sk_str sk_int (sps_cons sk_str sk_int sps_nil))))))))
  ss_nil)))
end
/-! ### _law_mixed -/
abbrev s__law_mixed : Stmt := topS 25
abbrev n__law_mixed : List Str := ["_law_draw", "_law_prime", "_law_turn", "_law_found", "_law_blend", "_law_cell"]
abbrev d__law_mixed : List Md := [.val, .val, .val, .val, .val, .val]
theorem sc__law_mixed : FnScope n__law_mixed ["_law_draw"] (defScope s__law_mixed) := ⟨rfl, rfl, rfl, by decide +kernel, rfl, by decide +kernel, by decide +kernel⟩
section
variable {P : Program} {w : World} {K : PySem.W.Frag} {mg : Str → Option Value} {base : Heap} {cl : String → Option Addr}
theorem ok__law_mixed {f : Addr} {fd : FuncData} (F : FunA K "_law_mixed" "_law_mixed" s__law_mixed f fd) (hsy : HasSys base)
    (m_int : mg "int" = none) : FnG P w K mg base CX0 1 f fd ["_law_draw"] (spF ⟨K, cl⟩ [.val] .val Dr.f__law_mixed) :=
  fn_okG (k := 0) (md := d__law_mixed) F sc__law_mixed rfl rfl (fun cdv A outer s0 H E B hB hgu hr => by
    obtain ⟨μ0, F0, H0, rk0⟩ := B
    have hB : rk0 = .val := hB
    subst hB
    have hu1 := room_u (n := 1) hr (by decide)
    have hu64 := room_u (n := 64) hr (by decide)
    have hu70 := room_u (n := 70) hr (by decide)
    have hu151 := room_u (n := 151) hr (by decide)
    have nd := sc__law_mixed.nd
    exact (ss_cons (ss_par2 2 3 .val .val rfl nd (sa_cons (sk_op op_addA o2_add (sk_ix hu1 (sk_var 0) sk_str) sk_int) (sa_cons sk_int sa_nil)))
  (ss_cons (ss_setRef hu1 (sk_var 2) (sk_var 0) sk_str)
  (ss_cons (ss_for PassesOwn.never rfl (sis_seq (sk_frz (sk_lst (n := 4) (sa_cons sk_int (sa_cons sk_int (sa_cons sk_int (sa_cons sk_int sa_nil))))))) (sg_name 1 nd) (ss_cons (ss_set 4 nd (sk_op op_addA o2_add (sk_op op_mul o2_mul sk_int (sk_var 2)) (sk_op op_fdiv o2_div (sk_var 1) sk_int)))
  (ss_cons (ss_for PassesOwn.never rfl (sis_seq (sk_ix hu1 (sk_var 0) sk_str)) (sg_name 5 nd) (ss_cons (ss_set 4 nd (sk_op op_mod o2_mod (sk_t1 call_int1 o1_int rfl m_int (sk_op op_addA o2_add (sk_op op_addA o2_add (sk_op op_mul o2_mul (sk_var 4) sk_int) (sk_var 5)) (sk_var 2))) (sk_var 1)))
  ss_nil) (by decide))
  (ss_cons (ss_set 3 nd (sk_op op_addA o2_add (sk_op op_mul o2_mul (sk_var 3) sk_int) (sk_op op_mod o2_mod (sk_t1 call_int1 o1_int rfl m_int (sk_op op_pow o2_pow (sk_var 4) sk_int)) (sk_var 1))))
  ss_nil))) (by decide))
  (ss_cons (ss_retR (sr_of (sk_var 3)))
  ss_nil)))))
end
/-! ### _law_take -/
abbrev s__law_take : Stmt := topS 26
abbrev n__law_take : List Str := ["_law_draw", "_law_size", "_law_found"]
abbrev d__law_take : List Md := [.val, .val, .val]
theorem sc__law_take : FnScope n__law_take ["_law_draw", "_law_size"] (defScope s__law_take) := ⟨rfl, rfl, rfl, by decide +kernel, rfl, by decide +kernel, by decide +kernel⟩
section
variable {P : Program} {w : World} {K : PySem.W.Frag} {mg : Str → Option Value} {base : Heap} {cl : String → Option Addr}
theorem ok__law_take {f : Addr} {fd : FuncData} (F : FunA K "_law_take" "_law_take" s__law_take f fd) (hsy : HasSys base)
    (m_int : mg "int" = none)
    (h__law_mixed : Has P w K mg base "_law_mixed" 1 ["_law_draw"] (spF ⟨K, cl⟩ [.val] .val Dr.f__law_mixed)) : FnG P w K mg base CX0 2 f fd ["_law_draw", "_law_size"] (spF ⟨K, cl⟩ [.val, .val] .val Dr.f__law_take) :=
  fn_okG (k := 1) (md := d__law_take) F sc__law_take rfl rfl (fun cdv A outer s0 H E B hB hgu hr => by
    obtain ⟨μ0, F0, H0, rk0⟩ := B
    have hB : rk0 = .val := hB
    subst hB
    have hu1 := room_u (n := 1) hr (by decide)
    have hu64 := room_u (n := 64) hr (by decide)
    have hu70 := room_u (n := 70) hr (by decide)
    have hu151 := room_u (n := 151) hr (by decide)
    have nd := sc__law_take.nd
    exact (ss_cons (ss_if (st_cmp (op_eqP hu64) o2_eq (sk_ix hu1 (sk_var 0) sk_str) sk_int rfl) (ss_cons (ss_setRef hu1 (sk_if (st_cmp (op_neP hu64) o2_ne (sk_ix hu1 (sk_var 0) sk_str) (sk_lst (n := 0) sa_nil) rfl) (sk_popRef (sk_ix hu1 (sk_var 0) sk_str) sk_int) (sk_callH h__law_mixed (by omega) hgu hr rfl (sa_cons (sk_var 0) sa_nil))) (sk_var 0) sk_str)
  ss_nil) ss_nil)
  (ss_cons (ss_set 2 nd (sk_op op_mod o2_mod (sk_t1 call_int1 o1_int rfl m_int (sk_ix hu1 (sk_var 0) sk_str)) (sk_var 1)))
  (ss_cons (ss_setRef hu1 (sk_op op_fdiv o2_div (sk_ix hu1 (sk_var 0) sk_str) (sk_var 1)) (sk_var 0) sk_str)
  (ss_cons (ss_retR (sr_of (sk_var 2)))
  ss_nil)))))
end
/-! ### _law_pick -/
abbrev s__law_pick : Stmt := topS 27
abbrev n__law_pick : List Str := ["_law_draw", "_law_some"]
abbrev d__law_pick : List Md := [.val, .val]
theorem sc__law_pick : FnScope n__law_pick ["_law_draw", "_law_some"] (defScope s__law_pick) := ⟨rfl, rfl, rfl, by decide +kernel, rfl, by decide +kernel, by decide +kernel⟩
section
variable {P : Program} {w : World} {K : PySem.W.Frag} {mg : Str → Option Value} {base : Heap} {cl : String → Option Addr}
theorem ok__law_pick {f : Addr} {fd : FuncData} (F : FunA K "_law_pick" "_law_pick" s__law_pick f fd) (hsy : HasSys base)
    (m_len : mg "len" = none)
    (h__law_take : Has P w K mg base "_law_take" 2 ["_law_draw", "_law_size"] (spF ⟨K, cl⟩ [.val, .val] .val Dr.f__law_take)) : FnG P w K mg base CX0 3 f fd ["_law_draw", "_law_some"] (spF ⟨K, cl⟩ [.val, .val] .val Dr.f__law_pick) :=
  fn_okG (k := 2) (md := d__law_pick) F sc__law_pick rfl rfl (fun cdv A outer s0 H E B hB hgu hr => by
    obtain ⟨μ0, F0, H0, rk0⟩ := B
    have hB : rk0 = .val := hB
    subst hB
    have hu1 := room_u (n := 1) hr (by decide)
    have hu64 := room_u (n := 64) hr (by decide)
    have hu70 := room_u (n := 70) hr (by decide)
    have hu151 := room_u (n := 151) hr (by decide)
    have nd := sc__law_pick.nd
    exact (ss_cons (ss_retR (sr_of (sk_ix hu1 (sk_var 1) (sk_callH h__law_take (by omega) hgu hr rfl (sa_cons (sk_var 0) (sa_cons (sk_b1 call_len o1_len rfl m_len (sk_var 1)) sa_nil))))))
  ss_nil))
end
/-! ### _law_odd -/
abbrev s__law_odd : Stmt := topS 28
abbrev n__law_odd : List Str := ["_law_draw", "_law_some"]
abbrev d__law_odd : List Md := [.val, .val]
theorem sc__law_odd : FnScope n__law_odd ["_law_draw"] (defScope s__law_odd) := ⟨rfl, rfl, rfl, by decide +kernel, rfl, by decide +kernel, by decide +kernel⟩
section
variable {P : Program} {w : World} {K : PySem.W.Frag} {mg : Str → Option Value} {base : Heap} {cl : String → Option Addr}
theorem ok__law_odd {f : Addr} {fd : FuncData} (F : FunA K "_law_odd" "_law_odd" s__law_odd f fd) (hsy : HasSys base)
    (h__law_pick : Has P w K mg base "_law_pick" 3 ["_law_draw", "_law_some"] (spF ⟨K, cl⟩ [.val, .val] .val Dr.f__law_pick)) : FnG P w K mg base CX0 4 f fd ["_law_draw"] (spF ⟨K, cl⟩ [.val] .val Dr.f__law_odd) :=
  fn_okG (k := 3) (md := d__law_odd) F sc__law_odd rfl rfl (fun cdv A outer s0 H E B hB hgu hr => by
    obtain ⟨μ0, F0, H0, rk0⟩ := B
    have hB : rk0 = .val := hB
    subst hB
    have hu1 := room_u (n := 1) hr (by decide)
    have hu64 := room_u (n := 64) hr (by decide)
    have hu70 := room_u (n := 70) hr (by decide)
    have hu151 := room_u (n := 151) hr (by decide)
    have nd := sc__law_odd.nd
    exact (ss_cons (ss_set 1 nd (sk_frz (sk_lst (n := 17) (sa_cons sk_non (sa_cons sk_bl (sa_cons sk_bl (sa_cons sk_int (sa_cons sk_int (sa_cons (sk_neg sk_int) (sa_cons (sk_op op_pow o2_pow sk_int sk_int) (sa_cons sk_str (sa_cons sk_str (sa_cons sk_str (sa_cons sk_str (sa_cons (sk_tup (n := 0) sa_nil) (sa_cons (sk_tup (n := 1) (sa_cons sk_str sa_nil)) (sa_cons (sk_tup (n := 1) (sa_cons sk_str sa_nil)) (sa_cons (sk_frz (sk_lst (n := 0) sa_nil)) (sa_cons (sk_frz sk_dnew) (sa_cons (sk_tup (n := 1) (sa_cons (sk_tup (n := 0) sa_nil) sa_nil)) sa_nil))))))))))))))))))))
  (ss_cons (ss_retR (sr_of (sk_callH h__law_pick (by omega) hgu hr rfl (sa_cons (sk_var 0) (sa_cons (sk_frz (sk_op op_cat o2_cat (sk_var 1) (sk_lst (n := 6) (sa_cons (sk_tup (n := 2) (sa_cons sk_str (sa_cons sk_str sa_nil))) (sa_cons (sk_tup (n := 2) (sa_cons sk_str (sa_cons (sk_tup (n := 1) (sa_cons sk_str sa_nil)) sa_nil))) (sa_cons (sk_frz (sk_lst (n := 1) (sa_cons sk_str sa_nil))) (sa_cons (sk_frz (sk_disp (sps_cons sk_str sk_int sps_nil))) (sa_cons (sk_tup (n := 2) (sa_cons sk_str (sa_cons sk_bl sa_nil))) (sa_cons (sk_tup (n := 2) (sa_cons (sk_tup (n := 0) sa_nil) (sa_cons (sk_tup (n := 0) sa_nil) sa_nil))) sa_nil))))))))) sa_nil)))))
  ss_nil)))
end
/-! ### _law_bent -/
abbrev s__law_bent : Stmt := topS 36
abbrev n__law_bent : List Str := ["_law_draw", "_law_ground_here", "_law_thing_here", "_law_spare", "_law_at", "_law_way"]
abbrev d__law_bent : List Md := [.val, .val, .val, .val, .val, .val]
theorem sc__law_bent : FnScope n__law_bent ["_law_draw", "_law_ground_here", "_law_thing_here"] (defScope s__law_bent) := ⟨rfl, rfl, rfl, by decide +kernel, rfl, by decide +kernel, by decide +kernel⟩
section
variable {P : Program} {w : World} {K : PySem.W.Frag} {mg : Str → Option Value} {base : Heap} {cl : String → Option Addr}
theorem ok__law_bent {f : Addr} {fd : FuncData} (F : FunA K "_law_bent" "_law_bent" s__law_bent f fd) (hsy : HasSys base) (mf : mg "_law_bent" = some (.ref f)) (kp : PySem.W.keepIn K (.ref f) = true) (bd : Binds K fd ["_law_draw", "_law_ground_here", "_law_thing_here"] [])
    (m_isinstance : mg "isinstance" = none)
    (m_len : mg "len" = none)
    (m_list : mg "list" = none)
    (m_tuple : mg "tuple" = none)
    (h__law_take : Has P w K mg base "_law_take" 2 ["_law_draw", "_law_size"] (spF ⟨K, cl⟩ [.val, .val] .val Dr.f__law_take))
    (h__law_odd : Has P w K mg base "_law_odd" 4 ["_law_draw"] (spF ⟨K, cl⟩ [.val] .val Dr.f__law_odd))
    (h__law_pick : Has P w K mg base "_law_pick" 3 ["_law_draw", "_law_some"] (spF ⟨K, cl⟩ [.val, .val] .val Dr.f__law_pick)) : ∀ n : Nat, FnG P w K mg base CX0 (5 + n) f fd ["_law_draw", "_law_ground_here", "_law_thing_here"] (spF ⟨K, cl⟩ [.val, .val, .val] .val (f__law_bent n))
  | 0 => fnG_bad
  | j + 1 => by
    have h_rec : Has P w K mg base "_law_bent" (5 + j) ["_law_draw", "_law_ground_here", "_law_thing_here"] (spF ⟨K, cl⟩ [.val, .val, .val] .val (f__law_bent j)) := ⟨⟨f, fd, ok__law_bent F hsy mf kp bd m_isinstance m_len m_list m_tuple h__law_take h__law_odd h__law_pick j, mf, kp, bd⟩⟩
    exact fn_okG (k := 5 + j) (md := d__law_bent) F sc__law_bent rfl rfl (fun cdv A outer s0 H E B hB hgu hr => by
      obtain ⟨μ0, F0, H0, rk0⟩ := B
      have hB : rk0 = .val := hB
      subst hB
      have hu1 := room_u (n := 1) hr (by decide)
      have hu64 := room_u (n := 64) hr (by decide)
      have hu70 := room_u (n := 70) hr (by decide)
      have hu151 := room_u (n := 151) hr (by decide)
      have nd := sc__law_bent.nd
      exact (ss_cons (ss_set 3 nd (sk_frz (sk_op op_cat o2_cat (sk_op op_cat o2_cat (sk_ix hu1 (sk_var 1) sk_str) (sk_ix hu1 (sk_var 1) sk_str)) (sk_lst (n := 8) (sa_cons sk_str (sa_cons sk_str (sa_cons sk_str (sa_cons sk_str (sa_cons sk_str (sa_cons sk_str (sa_cons sk_str (sa_cons sk_str sa_nil))))))))))))
    (ss_cons (ss_set 3 nd (sk_frz (sk_op op_cat o2_cat (sk_var 3) (sk_lst (n := 9) (sa_cons sk_bl (sa_cons sk_bl (sa_cons sk_int (sa_cons sk_int (sa_cons sk_non (sa_cons (sk_tup (n := 0) sa_nil) (sa_cons (sk_tup (n := 1) (sa_cons sk_bl sa_nil)) (sa_cons (sk_frz (sk_lst (n := 0) sa_nil)) (sa_cons (sk_frz sk_dnew) sa_nil)))))))))))))
    (ss_cons (ss_if (sw_t (sw_or (st_not (st_val (sk_isi "tuple" (sk_var 2) rfl m_isinstance rfl m_tuple))) (sw_or (st_cmp (op_eqT hu64) o2_eqT (sk_var 2) (sk_tup (n := 0) sa_nil) rfl) (sw_or1 (st_cmp (op_eqP hu64) o2_eq (sk_callH h__law_take (by omega) hgu hr rfl (sa_cons (sk_var 0) (sa_cons sk_int sa_nil))) sk_int rfl))))) (ss_cons (ss_retR (sr_of (sk_callH h__law_pick (by omega) hgu hr rfl (sa_cons (sk_var 0) (sa_cons (sk_frz (sk_op op_cat o2_cat (sk_var 3) (sk_lst (n := 1) (sa_cons (sk_callH h__law_odd (by omega) hgu hr rfl (sa_cons (sk_var 0) sa_nil)) sa_nil)))) sa_nil)))))
    ss_nil) ss_nil)
    (ss_cons (ss_par2 4 5 .val .val rfl nd (sa_cons (sk_callH h__law_take (by omega) hgu hr rfl (sa_cons (sk_var 0) (sa_cons (sk_b1 call_len o1_len rfl m_len (sk_var 2)) sa_nil))) (sa_cons (sk_callH h__law_take (by omega) hgu hr rfl (sa_cons (sk_var 0) (sa_cons sk_int sa_nil))) sa_nil)))
    (ss_cons (ss_if (st_cmp (op_eqP hu64) o2_eq (sk_var 5) sk_int rfl) (ss_cons (ss_retR (sr_of (sk_frz (sk_t1 call_list_of o1_list rfl m_list (sk_var 2)))))
    ss_nil) ss_nil)
    (ss_cons (ss_if (st_cmp (op_eqP hu64) o2_eq (sk_var 5) sk_int rfl) (ss_cons (ss_retR (sr_of (sk_op op_addA o2_add (sk_slV (sk_var 2) so_none (so_some (sk_var 4))) (sk_slV (sk_var 2) (so_some (sk_op op_addA o2_add (sk_var 4) sk_int)) so_none))))
    ss_nil) ss_nil)
    (ss_cons (ss_if (st_cmp (op_eqP hu64) o2_eq (sk_var 5) sk_int rfl) (ss_cons (ss_retR (sr_of (sk_op op_addA o2_add (sk_op op_addA o2_add (sk_slV (sk_var 2) so_none (so_some (sk_var 4))) (sk_slV (sk_var 2) (so_some (sk_var 4)) (so_some (sk_op op_addA o2_add (sk_var 4) sk_int)))) (sk_slV (sk_var 2) (so_some (sk_var 4)) so_none))))
    ss_nil) ss_nil)
    (ss_cons (ss_if (st_cmp (op_eqP hu64) o2_eq (sk_var 5) sk_int rfl) (ss_cons (ss_retR (sr_of (sk_revT (sk_var 2))))
    ss_nil) ss_nil)
    (ss_cons (ss_retR (sr_of (sk_op op_addA o2_add (sk_op op_addA o2_add (sk_slV (sk_var 2) so_none (so_some (sk_var 4))) (sk_tup (n := 1) (sa_cons (sk_callH h_rec (by omega) hgu hr rfl (sa_cons (sk_var 0) (sa_cons (sk_var 1) (sa_cons (sk_ix hu1 (sk_var 2) (sk_var 4)) sa_nil)))) sa_nil))) (sk_slV (sk_var 2) (so_some (sk_op op_addA o2_add (sk_var 4) sk_int)) so_none))))
    ss_nil))))))))))
end
/-! ### is_name -/
abbrev s_is_name : Stmt := topS 13
abbrev n_is_name : List Str := ["thing", "sign"]
abbrev d_is_name : List Md := [.val, .val]
theorem sc_is_name : FnScope n_is_name ["thing"] (defScope s_is_name) := ⟨rfl, rfl, rfl, by decide +kernel, rfl, by decide +kernel, by decide +kernel⟩
section
variable {P : Program} {w : World} {K : PySem.W.Frag} {mg : Str → Option Value} {base : Heap} {cl : String → Option Addr}
theorem ok_is_name {f : Addr} {fd : FuncData} (F : FunA K "is_name" "is_name" s_is_name f fd) (hsy : HasSys base)
    (m_all : mg "all" = none)
    (m_isinstance : mg "isinstance" = none)
    (m_len : mg "len" = none)
    (m_str : mg "str" = none)
    (g_MOST_LETTERS : G_MOST_LETTERS K mg)
    (g_LETTERS : G_LETTERS K mg) : FnG P w K mg base CX0 1 f fd ["thing"] (spF ⟨K, cl⟩ [.val] .val Dr.f_is_name) :=
  fn_okG (k := 0) (md := d_is_name) F sc_is_name rfl rfl (fun cdv A outer s0 H E B hB hgu hr => by
    obtain ⟨μ0, F0, H0, rk0⟩ := B
    have hB : rk0 = .val := hB
    subst hB
    have hu1 := room_u (n := 1) hr (by decide)
    have hu64 := room_u (n := 64) hr (by decide)
    have hu70 := room_u (n := 70) hr (by decide)
    have hu151 := room_u (n := 151) hr (by decide)
    have nd := sc_is_name.nd
    exact (ss_cons (ss_retR (sr_of (sk_and (sk_isi "str" (sk_var 0) rfl m_isinstance rfl m_str) (sk_and (sk_chain op_le op_le (o2_cmpI (f := leI)) (o2_cmpI (f := leI)) sk_int (sk_b1 call_len o1_len rfl m_len (sk_var 0)) (g_MOST_LETTERS cl _ rfl rfl rfl)) (sk_one (sk_b1 (cr_all rfl) o1_all rfl m_all (sk_comp (own := [("sign", 1)]) rfl nd (show blkC n_is_name (defScope s_is_name) _ _ = true by decide +kernel) (by decide) (si_str (sk_var 0)) (fun _ _ _ _ _ => (sg_name 1 nd)) (fun _ _ _ _ _ => pts_none) (fun _ _ _ _ _ => (sk_cmp (op_inP hu70) o2_in (sk_var 1) (g_LETTERS cl _ rfl rfl rfl) rfl)))))))))
  ss_nil))
end
/-! ### are_names -/
abbrev s_are_names : Stmt := topS 14
abbrev n_are_names : List Str := ["thing", "most", "one"]
abbrev d_are_names : List Md := [.val, .val, .val]
theorem sc_are_names : FnScope n_are_names ["thing", "most"] (defScope s_are_names) := ⟨rfl, rfl, rfl, by decide +kernel, rfl, by decide +kernel, by decide +kernel⟩
section
variable {P : Program} {w : World} {K : PySem.W.Frag} {mg : Str → Option Value} {base : Heap} {cl : String → Option Addr}
theorem ok_are_names {f : Addr} {fd : FuncData} (F : FunA K "are_names" "are_names" s_are_names f fd) (hsy : HasSys base)
    (m_all : mg "all" = none)
    (m_isinstance : mg "isinstance" = none)
    (m_len : mg "len" = none)
    (m_list : mg "list" = none)
    (m_set : mg "set" = none)
    (m_tuple : mg "tuple" = none)
    (h_is_name : Has P w K mg base "is_name" 1 ["thing"] (spF ⟨K, cl⟩ [.val] .val Dr.f_is_name)) : FnG P w K mg base CX0 2 f fd ["thing", "most"] (spF ⟨K, cl⟩ [.val, .val] .val Dr.f_are_names) :=
  fn_okG (k := 1) (md := d_are_names) F sc_are_names rfl rfl (fun cdv A outer s0 H E B hB hgu hr => by
    obtain ⟨μ0, F0, H0, rk0⟩ := B
    have hB : rk0 = .val := hB
    subst hB
    have hu1 := room_u (n := 1) hr (by decide)
    have hu64 := room_u (n := 64) hr (by decide)
    have hu70 := room_u (n := 70) hr (by decide)
    have hu151 := room_u (n := 151) hr (by decide)
    have nd := sc_are_names.nd
    exact (ss_cons (ss_if (sw_t (sw_or (st_not (st_val (sk_isi2 "list" "tuple" (sk_var 0) rfl m_isinstance rfl m_list rfl m_tuple))) (sw_or1 (st_cmp op_gt (o2_cmpI (f := gtI)) (sk_b1 call_len o1_len rfl m_len (sk_var 0)) (sk_var 1) rfl)))) (ss_cons (ss_retR (sr_of sk_bl))
  ss_nil) ss_nil)
  (ss_cons (ss_retR (sr_of (sk_and (sk_b1 (cr_all rfl) o1_all rfl m_all (sk_comp (own := [("one", 2)]) rfl nd (show blkC n_are_names (defScope s_are_names) _ _ = true by decide +kernel) (by decide) (si_seq (sk_bor (sk_var 0))) (fun _ _ _ _ _ => (sg_name 2 nd)) (fun _ _ _ _ _ => pts_none) (fun _ _ _ _ _ => (sk_callH h_is_name (by omega) hgu hr rfl (sa_cons (sk_var 2) sa_nil))))) (sk_one (sk_cmp (op_eqP hu64) o2_eq (sk_lenSet rfl rfl m_len rfl m_set (sk_var 0)) (sk_b1 call_len o1_len rfl m_len (sk_var 0)) rfl)))))
  ss_nil)))
end
/-! ### is_met -/
abbrev s_is_met : Stmt := topS 20
abbrev n_is_met : List Str := ["pairs", "moment", "look", "value"]
abbrev d_is_met : List Md := [.val, .val, .val, .val]
theorem sc_is_met : FnScope n_is_met ["pairs", "moment"] (defScope s_is_met) := ⟨rfl, rfl, rfl, by decide +kernel, rfl, by decide +kernel, by decide +kernel⟩
section
variable {P : Program} {w : World} {K : PySem.W.Frag} {mg : Str → Option Value} {base : Heap} {cl : String → Option Addr}
theorem ok_is_met {f : Addr} {fd : FuncData} (F : FunA K "is_met" "is_met" s_is_met f fd) (hsy : HasSys base)
    (m_all : mg "all" = none) : FnG P w K mg base CX0 1 f fd ["pairs", "moment"] (spF ⟨K, cl⟩ [.val, .val] .val Dr.f_is_met) :=
  fn_okG (k := 0) (md := d_is_met) F sc_is_met rfl rfl (fun cdv A outer s0 H E B hB hgu hr => by
    obtain ⟨μ0, F0, H0, rk0⟩ := B
    have hB : rk0 = .val := hB
    subst hB
    have hu1 := room_u (n := 1) hr (by decide)
    have hu64 := room_u (n := 64) hr (by decide)
    have hu70 := room_u (n := 70) hr (by decide)
    have hu151 := room_u (n := 151) hr (by decide)
    have nd := sc_is_met.nd
    exact (ss_cons (ss_retR (sr_of (sk_b1 (cr_all rfl) o1_all rfl m_all (sk_comp (own := [("look", 2), ("value", 3)]) rfl nd (show blkC n_is_met (defScope s_is_met) _ _ = true by decide +kernel) (by decide) (si_seq (sk_bor (sk_var 0))) (fun _ _ _ _ _ => (sg_tup rfl (sgs_cons (sg_name 2 nd) (sgs_cons (sg_name 3 nd) sgs_nil)) (gl_cons (gl_cons gl_nil)))) (fun _ _ _ _ _ => pts_none) (fun _ _ _ _ _ => (sk_cmp (op_eqP hu64) o2_eq (sk_cmp (op_inP hu70) o2_in (sk_var 2) (sk_var 1) rfl) (sk_var 3) rfl))))))
  ss_nil))
end
/-! ### moments_of -/
abbrev s_moments_of : Stmt := topS 21
abbrev n_moments_of : List Str := ["looks", "facts", "found", "look", "barred", "fact", "moment", "pairs"]
abbrev d_moments_of : List Md := [.val, .val, .val, .val, .val, .val, .val, .val]
theorem sc_moments_of : FnScope n_moments_of ["looks", "facts"] (defScope s_moments_of) := ⟨rfl, rfl, rfl, by decide +kernel, rfl, by decide +kernel, by decide +kernel⟩
section
variable {P : Program} {w : World} {K : PySem.W.Frag} {mg : Str → Option Value} {base : Heap} {cl : String → Option Addr}
theorem ok_moments_of {f : Addr} {fd : FuncData} (F : FunA K "moments_of" "moments_of" s_moments_of f fd) (hsy : HasSys base)
    (m_any : mg "any" = none)
    (m_sorted : mg "sorted" = none)
    (h_is_met : Has P w K mg base "is_met" 1 ["pairs", "moment"] (spF ⟨K, cl⟩ [.val, .val] .val Dr.f_is_met)) : FnG P w K mg base CX0 2 f fd ["looks", "facts"] (spF ⟨K, cl⟩ [.val, .val] .val Dr.f_moments_of) :=
  fn_okG (k := 1) (md := d_moments_of) F sc_moments_of rfl rfl (fun cdv A outer s0 H E B hB hgu hr => by
    obtain ⟨μ0, F0, H0, rk0⟩ := B
    have hB : rk0 = .val := hB
    subst hB
    have hu1 := room_u (n := 1) hr (by decide)
    have hu64 := room_u (n := 64) hr (by decide)
    have hu70 := room_u (n := 70) hr (by decide)
    have hu151 := room_u (n := 151) hr (by decide)
    have nd := sc_moments_of.nd
    exact (ss_cons (ss_set 2 nd (sk_frz (sk_lst (n := 1) (sa_cons (sk_tup (n := 0) sa_nil) sa_nil))))
  (ss_cons (ss_for PassesOwn.never rfl (sis_seq (sk_var 0)) (sg_name 3 nd) (ss_cons (ss_set 2 nd (sk_frz (sk_op op_cat o2_cat (sk_var 2) (sk_comp (own := [("moment", 6)]) rfl nd (show blkC n_moments_of (defScope s_moments_of) _ _ = true by decide +kernel) (by decide) (si_seq (sk_bor (sk_var 2))) (fun _ _ _ _ _ => (sg_name 6 nd)) (fun _ _ _ _ _ => pts_none) (fun _ _ _ _ _ => (sk_tupV (sv_star (sk_bor (sk_var 6)) (sv_cons (sk_var 3) sv_nil))))))))
  ss_nil) (by decide))
  (ss_cons (ss_set 4 nd (sk_frz (sk_comp (own := [("fact", 5)]) rfl nd (show blkC n_moments_of (defScope s_moments_of) _ _ = true by decide +kernel) (by decide) (si_seq (sk_bor (sk_var 1))) (fun _ _ _ _ _ => (sg_name 5 nd)) (fun _ _ _ _ _ => (pts_some (st_cmp (op_eqP hu64) o2_eq (sk_ix hu1 (sk_var 5) sk_int) sk_str rfl))) (fun _ _ _ _ _ => (sk_ix hu1 (sk_var 5) sk_int)))))
  (ss_cons (ss_retR (sr_of (sk_frz (sk_b1 (cr_sortX rfl hu70) o1_sortX rfl m_sorted (sk_comp (own := [("moment", 6)]) rfl nd (show blkC n_moments_of (defScope s_moments_of) _ _ = true by decide +kernel) (by decide) (si_seq (sk_bor (sk_var 2))) (fun _ _ _ _ _ => (sg_name 6 nd)) (fun _ _ _ _ _ => (pts_some (st_not (st_val (sk_b1 (cr_any rfl) o1_any rfl m_any (sk_comp (own := [("pairs", 7)]) rfl nd (by first | decide +kernel | rfl | kernel_rfl) (by decide) (si_seq (sk_bor (sk_var 4))) (fun _ _ _ _ _ => (sg_name 7 nd)) (fun _ _ _ _ _ => pts_none) (fun _ _ _ _ _ => (sk_callH h_is_met (by omega) hgu hr rfl (sa_cons (sk_var 7) (sa_cons (sk_var 6) sa_nil)))))))))) (fun _ _ _ _ _ => (sk_var 6)))))))
  ss_nil)))))
end
/-! ### need_facts -/
abbrev s_need_facts : Stmt := topS 19
abbrev n_need_facts : List Str := ["looks", "deeds", "facts", "at", "fact"]
abbrev d_need_facts : List Md := [.val, .val, .val, .val, .val]
theorem sc_need_facts : FnScope n_need_facts ["looks", "deeds", "facts"] (defScope s_need_facts) := ⟨rfl, rfl, rfl, by decide +kernel, rfl, by decide +kernel, by decide +kernel⟩
section
variable {P : Program} {w : World} {K : PySem.W.Frag} {mg : Str → Option Value} {base : Heap} {cl : String → Option Addr}
theorem ok_need_facts {f : Addr} {fd : FuncData} (F : FunA K "need_facts" "need_facts" s_need_facts f fd) (hsy : HasSys base)
    (m_enumerate : mg "enumerate" = none)
    (m_isinstance : mg "isinstance" = none)
    (m_list : mg "list" = none)
    (m_tuple : mg "tuple" = none)
    (h_is_fact_about : Has P w K mg base "is_fact_about" 4 ["looks", "deeds", "thing"] (spF ⟨K, cl⟩ [.val, .val, .val] .val Dr.f_is_fact_about)) : FnG P w K mg base CX0 5 f fd ["looks", "deeds", "facts"] (spF ⟨K, cl⟩ [.val, .val, .val] .val Dr.f_need_facts) :=
  fn_okG (k := 4) (md := d_need_facts) F sc_need_facts rfl rfl (fun cdv A outer s0 H E B hB hgu hr => by
    obtain ⟨μ0, F0, H0, rk0⟩ := B
    have hB : rk0 = .val := hB
    subst hB
    have hu1 := room_u (n := 1) hr (by decide)
    have hu64 := room_u (n := 64) hr (by decide)
    have hu70 := room_u (n := 70) hr (by decide)
    have hu151 := room_u (n := 151) hr (by decide)
    have nd := sc_need_facts.nd
    exact (ss_cons (ss_if (st_not (st_val (sk_isi2 "list" "tuple" (sk_var 2) rfl m_isinstance rfl m_list rfl m_tuple))) (ss_cons ss_never
  ss_nil) ss_nil)
  (ss_cons (ss_for PassesOwn.never rfl (sis_enum rfl m_enumerate (sk_var 2)) (sg_tup rfl (sgs_cons (sg_name 3 nd) (sgs_cons (sg_name 4 nd) sgs_nil)) (gl_cons (gl_cons gl_nil))) (ss_cons (ss_if (sw_t (sw_or (st_not (st_val (sk_callH h_is_fact_about (by omega) hgu hr rfl (sa_cons (sk_var 0) (sa_cons (sk_var 1) (sa_cons (sk_var 4) sa_nil)))))) (sw_or1 (st_cmp (op_inP hu70) o2_in (sk_var 4) (sk_slL (sk_var 2) so_none (so_some (sk_var 3))) rfl)))) (ss_cons ss_never
  ss_nil) ss_nil)
  ss_nil) (by decide))
  ss_nil)))
end
/-! ### Book.__init__ -/
abbrev s_Book___init__ : Stmt := inClass (topS 22) 0
abbrev n_Book___init__ : List Str := ["self", "looks", "deeds", "facts", "deed"]
abbrev d_Book___init__ : List Md := [.val, .val, .val, .val, .val]
theorem sc_Book___init__ : FnScope n_Book___init__ ["self", "looks", "deeds", "facts"] (defScope s_Book___init__) := ⟨rfl, rfl, rfl, by decide +kernel, rfl, by decide +kernel, by decide +kernel⟩
section
variable {P : Program} {w : World} {K : PySem.W.Frag} {mg : Str → Option Value} {base : Heap} {cl : String → Option Addr}
theorem ok_Book___init__ {f : Addr} {fd : FuncData} (F : FunA K "__init__" "Book.__init__" s_Book___init__ f fd) (hsy : HasSys base)
    (m_any : mg "any" = none)
    (m_len : mg "len" = none)
    (m_sorted : mg "sorted" = none)
    (m_tuple : mg "tuple" = none)
    (g_MOST_FACTS : G_MOST_FACTS K mg)
    (g_MOST_DEEDS : G_MOST_DEEDS K mg)
    (g_MOST_LOOKS : G_MOST_LOOKS K mg)
    (h_moments_of : Has P w K mg base "moments_of" 2 ["looks", "facts"] (spF ⟨K, cl⟩ [.val, .val] .val Dr.f_moments_of))
    (h_need_facts : Has P w K mg base "need_facts" 5 ["looks", "deeds", "facts"] (spF ⟨K, cl⟩ [.val, .val, .val] .val Dr.f_need_facts))
    (h_are_names : Has P w K mg base "are_names" 2 ["thing", "most"] (spF ⟨K, cl⟩ [.val, .val] .val Dr.f_are_names))
    (hcls : ClsOk K cl kT) : FnG P w K mg base CX0 6 f fd ["self", "looks", "deeds", "facts"] (spF ⟨K, cl⟩ [.val, .val, .val, .val] .val Dr.f_Book___init__) :=
  fn_okG (k := 5) (md := d_Book___init__) F sc_Book___init__ rfl rfl (fun cdv A outer s0 H E B hB hgu hr => by
    obtain ⟨μ0, F0, H0, rk0⟩ := B
    have hB : rk0 = .val := hB
    subst hB
    have hu1 := room_u (n := 1) hr (by decide)
    have hu64 := room_u (n := 64) hr (by decide)
    have hu70 := room_u (n := 70) hr (by decide)
    have hu151 := room_u (n := 151) hr (by decide)
    have nd := sc_Book___init__.nd
    exact (ss_cons (ss_if (st_not (st_val (sk_callH h_are_names (by omega) hgu hr rfl (sa_cons (sk_var 1) (sa_cons (g_MOST_LOOKS cl _ rfl rfl rfl) sa_nil))))) (ss_cons ss_never
  ss_nil) ss_nil)
  (ss_cons (ss_if (sw_t (sw_or (st_not (st_val (sk_callH h_are_names (by omega) hgu hr rfl (sa_cons (sk_var 2) (sa_cons (g_MOST_DEEDS cl _ rfl rfl rfl) sa_nil))))) (sw_or1 (st_val (sk_b1 (cr_any rfl) o1_any rfl m_any (sk_comp (own := [("deed", 4)]) rfl nd (show blkC n_Book___init__ (defScope s_Book___init__) _ _ = true by decide +kernel) (by decide) (si_seq (sk_bor (sk_var 2))) (fun _ _ _ _ _ => (sg_name 4 nd)) (fun _ _ _ _ _ => pts_none) (fun _ _ _ _ _ => (sk_cmp (op_inP hu70) o2_in (sk_var 4) (sk_var 1) rfl)))))))) (ss_cons ss_never
  ss_nil) ss_nil)
  (ss_cons (ss_expr (k := .val) (sk_callH h_need_facts (by omega) hgu hr rfl (sa_cons (sk_var 1) (sa_cons (sk_var 2) (sa_cons (sk_var 3) sa_nil)))))
  (ss_cons (ss_if (st_cmp op_gt (o2_cmpI (f := gtI)) (sk_b1 call_len o1_len rfl m_len (sk_var 3)) (g_MOST_FACTS cl _ rfl rfl rfl) rfl) (ss_cons ss_never
  ss_nil) ss_nil)
  (ss_cons (ss_fld "b_looks" (hcls.one (c := "Book") (by decide +kernel)) (sk_t1 call_tuple_of o1_tuple rfl m_tuple (sk_b1 (cr_sortX rfl hu70) o1_sortX rfl m_sorted (sk_var 1))) (sk_var 0))
  (ss_cons (ss_fld "b_deeds" (hcls.one (c := "Book") (by decide +kernel)) (sk_t1 call_tuple_of o1_tuple rfl m_tuple (sk_b1 (cr_sortX rfl hu70) o1_sortX rfl m_sorted (sk_var 2))) (sk_var 0))
  (ss_cons (ss_fld "b_facts" (hcls.one (c := "Book") (by decide +kernel)) (sk_t1 call_tuple_of o1_tuple rfl m_tuple (sk_b1 (cr_sortX rfl hu70) o1_sortX rfl m_sorted (sk_var 3))) (sk_var 0))
  (ss_cons (ss_fld "b_moments" (hcls.one (c := "Book") (by decide +kernel)) (sk_t1 call_tuple_of o1_tuple rfl m_tuple (sk_callH h_moments_of (by omega) hgu hr rfl (sa_cons (sk_fld "b_looks" (hcls.one (c := "Book") (by decide +kernel)) (sk_var 0)) (sa_cons (sk_fld "b_facts" (hcls.one (c := "Book") (by decide +kernel)) (sk_var 0)) sa_nil)))) (sk_var 0))
  ss_nil)))))))))
end
/-! ### _law_book -/
abbrev s__law_book : Stmt := topS 34
abbrev n__law_book : List Str := ["_law_ground_here"]
abbrev d__law_book : List Md := [.val]
theorem sc__law_book : FnScope n__law_book ["_law_ground_here"] (defScope s__law_book) := ⟨rfl, rfl, rfl, by decide +kernel, rfl, by decide +kernel, by decide +kernel⟩
section
variable {P : Program} {w : World} {K : PySem.W.Frag} {mg : Str → Option Value} {base : Heap} {cl : String → Option Addr}
theorem ok__law_book {f : Addr} {fd : FuncData} (F : FunA K "_law_book" "_law_book" s__law_book f fd) (hsy : HasSys base)
    (h_Book___init__ : HasI P w K mg base cl "Book" 6 ["self", "looks", "deeds", "facts"] 3 Dr.f_Book___init__ []) : FnG P w K mg base CX0 8 f fd ["_law_ground_here"] (spF ⟨K, cl⟩ [.val] .val Dr.f__law_book) :=
  fn_okG (k := 7) (md := d__law_book) F sc__law_book rfl rfl (fun cdv A outer s0 H E B hB hgu hr => by
    obtain ⟨μ0, F0, H0, rk0⟩ := B
    have hB : rk0 = .val := hB
    subst hB
    have hu1 := room_u (n := 1) hr (by decide)
    have hu64 := room_u (n := 64) hr (by decide)
    have hu70 := room_u (n := 70) hr (by decide)
    have hu151 := room_u (n := 151) hr (by decide)
    have nd := sc__law_book.nd
    exact (ss_cons (ss_retR (sr_of (sk_make rfl h_Book___init__ (by omega) hgu hr rfl (sa_cons (sk_ix hu1 (sk_var 0) sk_str) (sa_cons (sk_ix hu1 (sk_var 0) sk_str) (sa_cons (sk_ix hu1 (sk_var 0) sk_str) sa_nil))))))
  ss_nil))
end
/-! ### _law_fact -/
abbrev s__law_fact : Stmt := topS 31
abbrev n__law_fact : List Str := ["_law_draw", "_law_ground_here", "_law_way", "_law_deed", "_law_look", "_law_value", "_law_pairs", "_law_other"]
abbrev d__law_fact : List Md := [.val, .val, .val, .val, .val, .val, .val, .val]
theorem sc__law_fact : FnScope n__law_fact ["_law_draw", "_law_ground_here"] (defScope s__law_fact) := ⟨rfl, rfl, rfl, by decide +kernel, rfl, by decide +kernel, by decide +kernel⟩
section
variable {P : Program} {w : World} {K : PySem.W.Frag} {mg : Str → Option Value} {base : Heap} {cl : String → Option Addr}
theorem ok__law_fact {f : Addr} {fd : FuncData} (F : FunA K "_law_fact" "_law_fact" s__law_fact f fd) (hsy : HasSys base)
    (m_sorted : mg "sorted" = none)
    (m_tuple : mg "tuple" = none)
    (h__law_take : Has P w K mg base "_law_take" 2 ["_law_draw", "_law_size"] (spF ⟨K, cl⟩ [.val, .val] .val Dr.f__law_take))
    (h__law_pick : Has P w K mg base "_law_pick" 3 ["_law_draw", "_law_some"] (spF ⟨K, cl⟩ [.val, .val] .val Dr.f__law_pick)) : FnG P w K mg base CX0 4 f fd ["_law_draw", "_law_ground_here"] (spF ⟨K, cl⟩ [.val, .val] .val Dr.f__law_fact) :=
  fn_okG (k := 3) (md := d__law_fact) F sc__law_fact rfl rfl (fun cdv A outer s0 H E B hB hgu hr => by
    obtain ⟨μ0, F0, H0, rk0⟩ := B
    have hB : rk0 = .val := hB
    subst hB
    have hu1 := room_u (n := 1) hr (by decide)
    have hu64 := room_u (n := 64) hr (by decide)
    have hu70 := room_u (n := 70) hr (by decide)
    have hu151 := room_u (n := 151) hr (by decide)
    have nd := sc__law_fact.nd
    exact (ss_cons (ss_par2 2 3 .val .val rfl nd (sa_cons (sk_callH h__law_take (by omega) hgu hr rfl (sa_cons (sk_var 0) (sa_cons sk_int sa_nil))) (sa_cons (sk_callH h__law_pick (by omega) hgu hr rfl (sa_cons (sk_var 0) (sa_cons (sk_ix hu1 (sk_var 1) sk_str) sa_nil))) sa_nil)))
  (ss_cons (ss_if (sw_t (sw_or (st_cmp op_lt2 o2_lt (sk_var 2) sk_int rfl) (sw_or1 (st_cmp (op_eqL hu64) o2_eqL (sk_ix hu1 (sk_var 1) sk_str) (sk_lst (n := 0) sa_nil) rfl)))) (ss_cons (ss_retR (sr_of (sk_tup (n := 2) (sa_cons sk_str (sa_cons (sk_var 3) sa_nil)))))
  ss_nil) ss_nil)
  (ss_cons (ss_par2 4 5 .val .val rfl nd (sa_cons (sk_callH h__law_pick (by omega) hgu hr rfl (sa_cons (sk_var 0) (sa_cons (sk_ix hu1 (sk_var 1) sk_str) sa_nil))) (sa_cons (sk_cmp (op_eqP hu64) o2_eq (sk_callH h__law_take (by omega) hgu hr rfl (sa_cons (sk_var 0) (sa_cons sk_int sa_nil))) sk_int rfl) sa_nil)))
  (ss_cons (ss_if (st_cmp op_lt2 o2_lt (sk_var 2) sk_int rfl) (ss_cons (ss_retR (sr_of (sk_tup (n := 3) (sa_cons sk_str (sa_cons (sk_var 3) (sa_cons (sk_var 4) sa_nil))))))
  ss_nil) ss_nil)
  (ss_cons (ss_if (st_cmp op_lt2 o2_lt (sk_var 2) sk_int rfl) (ss_cons (ss_retR (sr_of (sk_tup (n := 5) (sa_cons sk_str (sa_cons (sk_var 3) (sa_cons (sk_callH h__law_pick (by omega) hgu hr rfl (sa_cons (sk_var 0) (sa_cons (sk_frz (sk_lst (n := 3) (sa_cons sk_str (sa_cons sk_str (sa_cons sk_str sa_nil))))) sa_nil))) (sa_cons (sk_var 4) (sa_cons (sk_var 5) sa_nil))))))))
  ss_nil) ss_nil)
  (ss_cons (ss_par2 6 7 .val .val rfl nd (sa_cons (sk_sto (sk_disp (sps_cons (sk_var 4) (sk_var 5) sps_nil))) (sa_cons (sk_callH h__law_pick (by omega) hgu hr rfl (sa_cons (sk_var 0) (sa_cons (sk_ix hu1 (sk_var 1) sk_str) sa_nil))) sa_nil)))
  (ss_cons (ss_setRef hu1 (sk_dget2 hu1 (by decide) (sk_var 6) (sk_var 7) (sk_cmp (op_eqP hu64) o2_eq (sk_callH h__law_take (by omega) hgu hr rfl (sa_cons (sk_var 0) (sa_cons sk_int sa_nil))) sk_int rfl)) (sk_var 6) (sk_var 7))
  (ss_cons (ss_retR (sr_of (sk_tup (n := 2) (sa_cons sk_str (sa_cons (sk_t1 call_tuple_of o1_tuple rfl m_tuple (sk_sortItems rfl hu70 rfl m_sorted (sk_var 6))) sa_nil)))))
  ss_nil)))))))))
end
/-! ### _law_facts -/
abbrev s__law_facts : Stmt := topS 32
abbrev n__law_facts : List Str := ["_law_draw", "_law_ground_here", "_law_most", "_law_found", "_law_turn", "_law_fact_here"]
abbrev d__law_facts : List Md := [.val, .val, .val, .own, .val, .val]
theorem sc__law_facts : FnScope n__law_facts ["_law_draw", "_law_ground_here", "_law_most"] (defScope s__law_facts) := ⟨rfl, rfl, rfl, by decide +kernel, rfl, by decide +kernel, by decide +kernel⟩
section
variable {P : Program} {w : World} {K : PySem.W.Frag} {mg : Str → Option Value} {base : Heap} {cl : String → Option Addr}
theorem ok__law_facts {f : Addr} {fd : FuncData} (F : FunA K "_law_facts" "_law_facts" s__law_facts f fd) (hsy : HasSys base)
    (m_range : mg "range" = none)
    (h__law_take : Has P w K mg base "_law_take" 2 ["_law_draw", "_law_size"] (spF ⟨K, cl⟩ [.val, .val] .val Dr.f__law_take))
    (h__law_fact : Has P w K mg base "_law_fact" 4 ["_law_draw", "_law_ground_here"] (spF ⟨K, cl⟩ [.val, .val] .val Dr.f__law_fact)) : FnG P w K mg base CX0 5 f fd ["_law_draw", "_law_ground_here", "_law_most"] (spF ⟨K, cl⟩ [.val, .val, .val] .val Dr.f__law_facts) :=
  fn_okG (k := 4) (md := d__law_facts) F sc__law_facts rfl rfl (fun cdv A outer s0 H E B hB hgu hr => by
    obtain ⟨μ0, F0, H0, rk0⟩ := B
    have hB : rk0 = .val := hB
    subst hB
    have hu1 := room_u (n := 1) hr (by decide)
    have hu64 := room_u (n := 64) hr (by decide)
    have hu70 := room_u (n := 70) hr (by decide)
    have hu151 := room_u (n := 151) hr (by decide)
    have nd := sc__law_facts.nd
    exact (ss_cons (ss_setOwn 3 nd (sk_lst (n := 0) sa_nil))
  (ss_cons (ss_for PassesOwn.never rfl (sis_range1 rfl m_range (sk_callH h__law_take (by omega) hgu hr rfl (sa_cons (sk_var 0) (sa_cons (sk_op op_addA o2_add (sk_var 2) sk_int) sa_nil)))) (sg_name 4 nd) (ss_cons (ss_set 5 nd (sk_callH h__law_fact (by omega) hgu hr rfl (sa_cons (sk_var 0) (sa_cons (sk_var 1) sa_nil))))
  (ss_cons (ss_if (st_cmp (op_notInP hu70) o2_notIn (sk_var 5) (sk_own 3) rfl) (ss_cons (ss_append 3 (sk_var 5))
  ss_nil) ss_nil)
  ss_nil)) (by decide))
  (ss_cons (ss_retR (sr_own 3 (show Kd.val ≠ .bor by decide)))
  ss_nil))))
end
/-! ### _law_labels -/
abbrev s__law_labels : Stmt := topS 29
abbrev n__law_labels : List Str := ["_law_draw", "_law_many", "_law_some", "_law_found", "_law_turn", "_law_one"]
abbrev d__law_labels : List Md := [.val, .val, .val, .own, .val, .val]
theorem sc__law_labels : FnScope n__law_labels ["_law_draw", "_law_many"] (defScope s__law_labels) := ⟨rfl, rfl, rfl, by decide +kernel, rfl, by decide +kernel, by decide +kernel⟩
section
variable {P : Program} {w : World} {K : PySem.W.Frag} {mg : Str → Option Value} {base : Heap} {cl : String → Option Addr}
theorem ok__law_labels {f : Addr} {fd : FuncData} (F : FunA K "_law_labels" "_law_labels" s__law_labels f fd) (hsy : HasSys base)
    (m_range : mg "range" = none)
    (h__law_pick : Has P w K mg base "_law_pick" 3 ["_law_draw", "_law_some"] (spF ⟨K, cl⟩ [.val, .val] .val Dr.f__law_pick)) : FnG P w K mg base CX0 4 f fd ["_law_draw", "_law_many"] (spF ⟨K, cl⟩ [.val, .val] .val Dr.f__law_labels) :=
  fn_okG (k := 3) (md := d__law_labels) F sc__law_labels rfl rfl (fun cdv A outer s0 H E B hB hgu hr => by
    obtain ⟨μ0, F0, H0, rk0⟩ := B
    have hB : rk0 = .val := hB
    subst hB
    have hu1 := room_u (n := 1) hr (by decide)
    have hu64 := room_u (n := 64) hr (by decide)
    have hu70 := room_u (n := 70) hr (by decide)
    have hu151 := room_u (n := 151) hr (by decide)
    have nd := sc__law_labels.nd
    exact (ss_cons (ss_set 2 nd (sk_frz (sk_lst (n := 14) (sa_cons sk_str (sa_cons sk_str (sa_cons sk_str (sa_cons sk_str (sa_cons sk_str (sa_cons sk_str (sa_cons sk_str (sa_cons sk_str (sa_cons sk_str (sa_cons sk_str (sa_cons sk_str (sa_cons sk_str (sa_cons sk_str (sa_cons sk_str sa_nil)))))))))))))))))
  (ss_cons (ss_setOwn 3 nd (sk_lst (n := 0) sa_nil))
  (ss_cons (ss_for PassesOwn.never rfl (sis_range1 rfl m_range (sk_var 1)) (sg_name 4 nd) (ss_cons (ss_append 3 (sk_callH h__law_pick (by omega) hgu hr rfl (sa_cons (sk_var 0) (sa_cons (sk_frz (sk_comp (own := [("_law_one", 5)]) rfl nd (show blkC n__law_labels (defScope s__law_labels) _ _ = true by decide +kernel) (by decide) (si_seq (sk_bor (sk_var 2))) (fun _ _ _ _ _ => (sg_name 5 nd)) (fun _ _ _ _ _ => (pts_some (st_cmp (op_notInP hu70) o2_notIn (sk_var 5) (sk_own 3) rfl))) (fun _ _ _ _ _ => (sk_var 5)))) sa_nil))))
  ss_nil) (by decide))
  (ss_cons (ss_retR (sr_own 3 (show Kd.val ≠ .bor by decide)))
  ss_nil)))))
end
/-! ### _law_ground -/
abbrev s__law_ground : Stmt := topS 30
abbrev n__law_ground : List Str := ["_law_draw", "_law_looks", "_law_deeds", "_law_labels_here", "_law_fewer", "_law_most"]
abbrev d__law_ground : List Md := [.val, .val, .val, .val, .val, .val]
theorem sc__law_ground : FnScope n__law_ground ["_law_draw", "_law_looks", "_law_deeds"] (defScope s__law_ground) := ⟨rfl, rfl, rfl, by decide +kernel, rfl, by decide +kernel, by decide +kernel⟩
section
variable {P : Program} {w : World} {K : PySem.W.Frag} {mg : Str → Option Value} {base : Heap} {cl : String → Option Addr}
theorem ok__law_ground {f : Addr} {fd : FuncData} (F : FunA K "_law_ground" "_law_ground" s__law_ground f fd) (hsy : HasSys base)
    (m_sorted : mg "sorted" = none)
    (h__law_labels : Has P w K mg base "_law_labels" 4 ["_law_draw", "_law_many"] (spF ⟨K, cl⟩ [.val, .val] .val Dr.f__law_labels))
    (h__law_take : Has P w K mg base "_law_take" 2 ["_law_draw", "_law_size"] (spF ⟨K, cl⟩ [.val, .val] .val Dr.f__law_take)) : FnG P w K mg base CX0 5 f fd ["_law_draw", "_law_looks", "_law_deeds"] (spF ⟨K, cl⟩ [.val, .val, .val] .val Dr.f__law_ground) :=
  fn_okG (k := 4) (md := d__law_ground) F sc__law_ground rfl rfl (fun cdv A outer s0 H E B hB hgu hr => by
    obtain ⟨μ0, F0, H0, rk0⟩ := B
    have hB : rk0 = .val := hB
    subst hB
    have hu1 := room_u (n := 1) hr (by decide)
    have hu64 := room_u (n := 64) hr (by decide)
    have hu70 := room_u (n := 70) hr (by decide)
    have hu151 := room_u (n := 151) hr (by decide)
    have nd := sc__law_ground.nd
    exact (ss_cons (ss_par2 4 5 .val .val rfl nd (sa_cons (sk_callH h__law_take (by omega) hgu hr rfl (sa_cons (sk_var 0) (sa_cons (sk_op op_addA o2_add (sk_var 1) sk_int) sa_nil))) (sa_cons (sk_op op_addA o2_add sk_int (sk_callH h__law_take (by omega) hgu hr rfl (sa_cons (sk_var 0) (sa_cons (sk_var 2) sa_nil)))) sa_nil)))
  (ss_cons (ss_set 3 nd (sk_callH h__law_labels (by omega) hgu hr rfl (sa_cons (sk_var 0) (sa_cons (sk_op op_addA o2_add (sk_var 4) (sk_var 5)) sa_nil))))
  (ss_cons (ss_retR (sr_of (sk_sto (sk_disp (sps_cons sk_str (sk_frz (sk_b1 (cr_sortX rfl hu70) o1_sortX rfl m_sorted (sk_slL (sk_var 3) so_none (so_some (sk_var 4))))) (sps_cons sk_str (sk_frz (sk_b1 (cr_sortX rfl hu70) o1_sortX rfl m_sorted (sk_slL (sk_var 3) (so_some (sk_var 4)) so_none))) (sps_cons sk_str (sk_frz (sk_lst (n := 0) sa_nil)) sps_nil)))))))
  ss_nil))))
end
/-! ### _law_drawn_ground -/
abbrev s__law_drawn_ground : Stmt := topS 33
abbrev n__law_drawn_ground : List Str := ["_law_draw", "_law_looks", "_law_deeds", "_law_most", "_law_ground_here"]
abbrev d__law_drawn_ground : List Md := [.val, .val, .val, .val, .val]
theorem sc__law_drawn_ground : FnScope n__law_drawn_ground ["_law_draw", "_law_looks", "_law_deeds", "_law_most"] (defScope s__law_drawn_ground) := ⟨rfl, rfl, rfl, by decide +kernel, rfl, by decide +kernel, by decide +kernel⟩
section
variable {P : Program} {w : World} {K : PySem.W.Frag} {mg : Str → Option Value} {base : Heap} {cl : String → Option Addr}
theorem ok__law_drawn_ground {f : Addr} {fd : FuncData} (F : FunA K "_law_drawn_ground" "_law_drawn_ground" s__law_drawn_ground f fd) (hsy : HasSys base)
    (h__law_facts : Has P w K mg base "_law_facts" 5 ["_law_draw", "_law_ground_here", "_law_most"] (spF ⟨K, cl⟩ [.val, .val, .val] .val Dr.f__law_facts))
    (h__law_ground : Has P w K mg base "_law_ground" 5 ["_law_draw", "_law_looks", "_law_deeds"] (spF ⟨K, cl⟩ [.val, .val, .val] .val Dr.f__law_ground)) : FnG P w K mg base CX0 6 f fd ["_law_draw", "_law_looks", "_law_deeds", "_law_most"] (spF ⟨K, cl⟩ [.val, .val, .val, .val] .val Dr.f__law_drawn_ground) :=
  fn_okG (k := 5) (md := d__law_drawn_ground) F sc__law_drawn_ground rfl rfl (fun cdv A outer s0 H E B hB hgu hr => by
    obtain ⟨μ0, F0, H0, rk0⟩ := B
    have hB : rk0 = .val := hB
    subst hB
    have hu1 := room_u (n := 1) hr (by decide)
    have hu64 := room_u (n := 64) hr (by decide)
    have hu70 := room_u (n := 70) hr (by decide)
    have hu151 := room_u (n := 151) hr (by decide)
    have nd := sc__law_drawn_ground.nd
    exact (ss_cons (ss_set 4 nd (sk_callH h__law_ground (by omega) hgu hr rfl (sa_cons (sk_var 0) (sa_cons (sk_var 1) (sa_cons (sk_var 2) sa_nil)))))
  (ss_cons (ss_setRef hu1 (sk_callH h__law_facts (by omega) hgu hr rfl (sa_cons (sk_var 0) (sa_cons (sk_var 4) (sa_cons (sk_var 3) sa_nil)))) (sk_var 4) sk_str)
  (ss_cons (ss_retR (sr_of (sk_var 4)))
  ss_nil))))
end
/-! ### _law_every_fact -/
abbrev s__law_every_fact : Stmt := topS 35
abbrev n__law_every_fact : List Str := ["_law_ground_here", "_law_done", "_law_looks", "_law_deeds", "_law_found", "_law_word", "_law_at", "_law_look", "_law_value", "_law_then", "_law_false_or"]
abbrev d__law_every_fact : List Md := [.val, .val, .val, .val, .own, .val, .val, .val, .val, .val, .val]
theorem sc__law_every_fact : FnScope n__law_every_fact ["_law_ground_here"] (defScope s__law_every_fact) := ⟨rfl, rfl, rfl, by decide +kernel, rfl, by decide +kernel, by decide +kernel⟩
section
variable {P : Program} {w : World} {K : PySem.W.Frag} {mg : Str → Option Value} {base : Heap} {cl : String → Option Addr}
theorem ok__law_every_fact {f : Addr} {fd : FuncData} (F : FunA K "_law_every_fact" "_law_every_fact" s__law_every_fact f fd) (hsy : HasSys base)
    (m_enumerate : mg "enumerate" = none) : FnG P w K mg base CX0 1 f fd ["_law_ground_here"] (spF ⟨K, cl⟩ [.val] .val Dr.f__law_every_fact) :=
  fn_okG (k := 0) (md := d__law_every_fact) F sc__law_every_fact rfl rfl (fun cdv A outer s0 H E B hB hgu hr => by
    obtain ⟨μ0, F0, H0, rk0⟩ := B
    have hB : rk0 = .val := hB
    subst hB
    have hu1 := room_u (n := 1) hr (by decide)
    have hu64 := room_u (n := 64) hr (by decide)
    have hu70 := room_u (n := 70) hr (by decide)
    have hu151 := room_u (n := 151) hr (by decide)
    have nd := sc__law_every_fact.nd
    exact (ss_cons (ss_par3 2 3 4 .val .val .own rfl nd (sa_cons (sk_ix hu1 (sk_var 0) sk_str) (sa_cons (sk_ix hu1 (sk_var 0) sk_str) (sa_cons (sk_lst (n := 0) sa_nil) sa_nil))))
  (ss_cons (ss_for PassesOwn.never rfl (sis_seq (sk_var 3)) (sg_name 1 nd) (ss_cons (ss_setOwn 4 nd (sk_op op_cat o2_cat (sk_op op_cat o2_cat (sk_own 4) (sk_lst (n := 1) (sa_cons (sk_tup (n := 2) (sa_cons sk_str (sa_cons (sk_var 1) sa_nil))) sa_nil))) (sk_comp (own := [("_law_look", 7)]) rfl nd (show blkC n__law_every_fact (defScope s__law_every_fact) _ _ = true by decide +kernel) (by decide) (si_seq (sk_bor (sk_var 2))) (fun _ _ _ _ _ => (sg_name 7 nd)) (fun _ _ _ _ _ => pts_none) (fun _ _ _ _ _ => (sk_tup (n := 3) (sa_cons sk_str (sa_cons (sk_var 1) (sa_cons (sk_var 7) sa_nil))))))))
  (ss_cons (ss_for PassesOwn.never rfl (sis_seq (sk_frz (sk_lst (n := 3) (sa_cons sk_str (sa_cons sk_str (sa_cons sk_str sa_nil)))))) (sg_name 5 nd) (ss_cons (ss_for PassesOwn.never rfl (sis_seq (sk_var 2)) (sg_name 7 nd) (ss_cons (ss_setOwn 4 nd (sk_op op_cat o2_cat (sk_own 4) (sk_comp (own := [("_law_value", 8)]) rfl nd (show blkC n__law_every_fact (defScope s__law_every_fact) _ _ = true by decide +kernel) (by decide) (si_seq (sk_bor (sk_tup (n := 2) (sa_cons sk_bl (sa_cons sk_bl sa_nil))))) (fun _ _ _ _ _ => (sg_name 8 nd)) (fun _ _ _ _ _ => pts_none) (fun _ _ _ _ _ => (sk_tup (n := 5) (sa_cons sk_str (sa_cons (sk_var 1) (sa_cons (sk_var 5) (sa_cons (sk_var 7) (sa_cons (sk_var 8) sa_nil))))))))))
  ss_nil) (by decide))
  ss_nil) (by decide))
  ss_nil)) (by decide))
  (ss_cons (ss_for PassesOwn.never rfl (sis_enum rfl m_enumerate (sk_var 2)) (sg_tup rfl (sgs_cons (sg_name 6 nd) (sgs_cons (sg_name 7 nd) sgs_nil)) (gl_cons (gl_cons gl_nil))) (ss_cons (ss_for PassesOwn.never rfl (sis_seq (sk_tup (n := 2) (sa_cons sk_bl (sa_cons sk_bl sa_nil)))) (sg_name 8 nd) (ss_cons (ss_append 4 (sk_tup (n := 2) (sa_cons sk_str (sa_cons (sk_tup (n := 1) (sa_cons (sk_tup (n := 2) (sa_cons (sk_var 7) (sa_cons (sk_var 8) sa_nil))) sa_nil)) sa_nil))))
  (ss_cons (ss_for PassesOwn.never rfl (sis_seq (sk_frz (sk_slL (sk_var 2) (so_some (sk_op op_addA o2_add (sk_var 6) sk_int)) so_none))) (sg_name 9 nd) (ss_cons (ss_setOwn 4 nd (sk_op op_cat o2_cat (sk_own 4) (sk_comp (own := [("_law_false_or", 10)]) rfl nd (show blkC n__law_every_fact (defScope s__law_every_fact) _ _ = true by decide +kernel) (by decide) (si_seq (sk_bor (sk_tup (n := 2) (sa_cons sk_bl (sa_cons sk_bl sa_nil))))) (fun _ _ _ _ _ => (sg_name 10 nd)) (fun _ _ _ _ _ => pts_none) (fun _ _ _ _ _ => (sk_tup (n := 2) (sa_cons sk_str (sa_cons (sk_tup (n := 2) (sa_cons (sk_tup (n := 2) (sa_cons (sk_var 7) (sa_cons (sk_var 8) sa_nil))) (sa_cons (sk_tup (n := 2) (sa_cons (sk_var 9) (sa_cons (sk_var 10) sa_nil))) sa_nil))) sa_nil)))))))
  ss_nil) (by decide))
  ss_nil)) (by decide))
  ss_nil) (by decide))
  (ss_cons (ss_retR (sr_own 4 (show Kd.val ≠ .bor by decide)))
  ss_nil)))))
end
/-! ### law -/
abbrev s_law : Stmt := topS 37
abbrev n_law : List Str := ["_law_script", "_law_draw", "_law_turn", "_law_ground_here", "_law_shown", "_law_fact_here", "_law_lap", "_law_told", "_law_every", "_law_thing_here", "_law_change", "_law_found", "_law_due", "_law_seen"]
abbrev d_law : List Md := [.val, .val, .val, .val, .val, .val, .val, .val, .val, .val, .val, .own, .val, .val]
theorem sc_law : FnScope n_law ["_law_script"] (defScope s_law) := ⟨rfl, rfl, rfl, by decide +kernel, rfl, by decide +kernel, by decide +kernel⟩
section
variable {P : Program} {w : World} {K : PySem.W.Frag} {mg : Str → Option Value} {base : Heap} {cl : String → Option Addr}
theorem ok_law {f : Addr} {fd : FuncData} (F : FunA K "law" "law" s_law f fd) (hsy : HasSys base)
    (m_len : mg "len" = none)
    (m_min : mg "min" = none)
    (m_range : mg "range" = none)
    (m_repr : mg "repr" = none)
    (h__law_take : Has P w K mg base "_law_take" 2 ["_law_draw", "_law_size"] (spF ⟨K, cl⟩ [.val, .val] .val Dr.f__law_take))
    (h__law_bent : Has P w K mg base "_law_bent" 17 ["_law_draw", "_law_ground_here", "_law_thing_here"] (spF ⟨K, cl⟩ [.val, .val, .val] .val (f__law_bent 12)))
    (h__law_pick : Has P w K mg base "_law_pick" 3 ["_law_draw", "_law_some"] (spF ⟨K, cl⟩ [.val, .val] .val Dr.f__law_pick))
    (h__law_every_fact : Has P w K mg base "_law_every_fact" 1 ["_law_ground_here"] (spF ⟨K, cl⟩ [.val] .val Dr.f__law_every_fact))
    (h__law_book : Has P w K mg base "_law_book" 8 ["_law_ground_here"] (spF ⟨K, cl⟩ [.val] .val Dr.f__law_book))
    (h__law_drawn_ground : Has P w K mg base "_law_drawn_ground" 6 ["_law_draw", "_law_looks", "_law_deeds", "_law_most"] (spF ⟨K, cl⟩ [.val, .val, .val, .val] .val Dr.f__law_drawn_ground))
    (h__law_begun : Has P w K mg base "_law_begun" 1 ["_law_script"] (spF ⟨K, cl⟩ [.val] .val Dr.f__law_begun))
    (h_Book_is_fact_MK_thing : HasMK P w K mg base cl "Book" "is_fact" 5 ["self", "thing"] 1 .val Dr.f_Book_is_fact ["thing"] [0])
    (h_Book_is_fact : HasM P w K mg base cl "Book" "is_fact" 5 ["self", "thing"] 1 .val Dr.f_Book_is_fact) : FnG P w K mg base CX0 18 f fd ["_law_script"] (spF ⟨K, cl⟩ [.val] .val f_law) :=
  fn_okG (k := 17) (md := d_law) F sc_law rfl rfl (fun cdv A outer s0 H E B hB hgu hr => by
    obtain ⟨μ0, F0, H0, rk0⟩ := B
    have hB : rk0 = .val := hB
    subst hB
    have hu1 := room_u (n := 1) hr (by decide)
    have hu64 := room_u (n := 64) hr (by decide)
    have hu70 := room_u (n := 70) hr (by decide)
    have hu151 := room_u (n := 151) hr (by decide)
    have nd := sc_law.nd
    exact (ss_cons (ss_set 1 nd (sk_callH h__law_begun (by omega) hgu hr rfl (sa_cons (sk_var 0) sa_nil)))
  (ss_cons (ss_for PassesOwn.never rfl (sis_range1 rfl m_range (sk_op op_addA o2_add sk_int (sk_b2 (call_min2 rfl) o2_min rfl m_min (sk_b1 call_len o1_len rfl m_len (sk_var 0)) sk_int))) (sg_name 2 nd) (ss_cons (ss_set 3 nd (sk_callH h__law_drawn_ground (by omega) hgu hr rfl (sa_cons (sk_var 1) (sa_cons sk_int (sa_cons sk_int (sa_cons sk_int sa_nil))))))
  (ss_cons (ss_par2 7 8 .val .val rfl nd (sa_cons (sk_callH h__law_book (by omega) hgu hr rfl (sa_cons (sk_var 3) sa_nil)) (sa_cons (sk_callH h__law_every_fact (by omega) hgu hr rfl (sa_cons (sk_var 3) sa_nil)) sa_nil)))
  (ss_cons (ss_setLc 4 (own := [("_law_fact_here", 5)]) rfl nd (show blkC n_law (defScope s_law) _ _ = true by decide +kernel) (by decide) (si_seq (sk_bor (sk_var 8))) (fun _ _ _ _ _ => (sg_name 5 nd)) (fun _ _ _ _ _ => pts_none) (fun _ _ _ _ _ => (sk_b1 (call_reprR hsy hgu hu151) o1_repr rfl m_repr (sk_var 5))))
  (ss_cons (ss_for PassesOwn.never rfl (sis_seq (sk_var 8)) (sg_name 5 nd) (ss_cons (ss_if (st_cmp op_isnot_bl o2_notB (sk_meth rfl h_Book_is_fact (by omega) hgu hr (sk_var 7) (sa_cons (sk_var 5) sa_nil)) sk_bl rfl) (ss_cons (ss_retR (sr_of sk_bl))
  ss_nil) ss_nil)
  ss_nil) (by decide))
  (ss_cons (ss_for PassesOwn.never rfl (sis_range1 rfl m_range sk_int) (sg_name 6 nd) (ss_cons (ss_set 9 nd (sk_callH h__law_pick (by omega) hgu hr rfl (sa_cons (sk_var 1) (sa_cons (sk_var 8) sa_nil))))
  (ss_cons (ss_for PassesOwn.never rfl (sis_range1 rfl m_range (sk_op op_addA o2_add sk_int (sk_callH h__law_take (by omega) hgu hr rfl (sa_cons (sk_var 1) (sa_cons sk_int sa_nil))))) (sg_name 10 nd) (ss_cons (ss_set 9 nd (sk_callH h__law_bent (by omega) hgu hr rfl (sa_cons (sk_var 1) (sa_cons (sk_var 3) (sa_cons (sk_var 9) sa_nil)))))
  ss_nil) (by decide))
  (ss_cons (ss_par2 12 13 .val .val rfl nd (sa_cons (sk_cmp (op_inP hu70) o2_in (sk_b1 (call_reprR hsy hgu hu151) o1_repr rfl m_repr (sk_var 9)) (sk_var 4) rfl) (sa_cons (sk_b1 (call_reprR hsy hgu hu151) o1_repr rfl m_repr (sk_var 9)) sa_nil)))
  (ss_cons (ss_setOwn 11 nd (sk_lst (n := 1) (sa_cons (sk_meth rfl h_Book_is_fact (by omega) hgu hr (sk_var 7) (sa_cons (sk_var 9) sa_nil)) sa_nil)))
  (ss_cons (ss_append 11 (sk_methK (ix := [0]) rfl h_Book_is_fact_MK_thing (by omega) hgu hr (sk_var 7) (skw_cons (sk_var 9) skw_nil)))
  (ss_cons (ss_if (sw_t (sw_or (st_cmp (op_neP hu64) o2_ne (sk_b1 (call_reprR hsy hgu hu151) o1_repr rfl m_repr (sk_own 11)) (sk_b1 (call_reprR hsy hgu hu151) o1_repr rfl m_repr (sk_lst (n := 2) (sa_cons (sk_var 12) (sa_cons (sk_var 12) sa_nil)))) rfl) (sw_or1 (st_cmp (op_neP hu64) o2_ne (sk_b1 (call_reprR hsy hgu hu151) o1_repr rfl m_repr (sk_var 9)) (sk_var 13) rfl)))) (ss_cons (ss_retR (sr_of sk_bl))
  ss_nil) ss_nil)
  ss_nil)))))) (by decide))
  ss_nil))))) (by decide))
  (ss_cons (ss_retR (sr_of sk_bl))
  ss_nil))))
end
end K04
set_option maxHeartbeats 4000000
namespace K04
open PySem PySem.Spec PyProof.Rows L2 Sh
/-! ### what the top has written; the law's own head -/
theorem all_mk {l : PySem.W.OpenLaw} {w : World} {K : PySem.W.Frag} {h : Heap} {mg : Str → Option Value} {fa : Addr} (KH : K.In h) (G : h.Ns mainGlobals mg) (hfa : mg "law" = some (.ref fa))
    {C_Book : Addr} (aC_Book : PySem.W.nsIn K mainGlobals "Book" = some (some (.ref C_Book))) (kC_Book : PySem.W.keepIn K (.ref C_Book) = true)
    (pg_Book : PySem.W.plainGet K C_Book Str.empty = true) (hd_Book : PySem.W.hasDictIn K C_Book = true) (po_Book : PySem.W.plainOver K C_Book = true) (sa_Book : PySem.W.findIn K (.ref C_Book) "__setattr__" = some (some (.builtin "object.__setattr__"))) (mk_Book : PySem.W.makesIn K C_Book = true)
    (no_Book_b_looks : PySem.W.findIn K (.ref C_Book) "b_looks" = some none)
    (no_Book_b_deeds : PySem.W.findIn K (.ref C_Book) "b_deeds" = some none)
    (no_Book_b_facts : PySem.W.findIn K (.ref C_Book) "b_facts" = some none)
    (no_Book_b_moments : PySem.W.findIn K (.ref C_Book) "b_moments" = some none)
    {fa_is_one_of : Addr} {od_is_one_of an_is_one_of : Option Addr} {sl_is_one_of : Array (Option Value)} {oc_is_one_of kV_is_one_of dc_is_one_of pm_is_one_of cd_is_one_of ct_is_one_of : Value}
    (a_is_one_of : PySem.W.nsIn K mainGlobals "is_one_of" = some (some (.ref fa_is_one_of)))
    (l_is_one_of : K.lookup fa_is_one_of = some ⟨oc_is_one_of, od_is_one_of, .func (PySem.W.fnOf "is_one_of" "is_one_of" (defArgs s_is_one_of) (defBody s_is_one_of) (defScope s_is_one_of) .none kV_is_one_of dc_is_one_of pm_is_one_of an_is_one_of cd_is_one_of ct_is_one_of), sl_is_one_of⟩) (c_is_one_of : PySem.W.codeIn K cd_is_one_of "is_one_of" = true) (k_is_one_of : PySem.W.keepIn K (.ref fa_is_one_of) = true)
    {fa_is_told : Addr} {od_is_told an_is_told : Option Addr} {sl_is_told : Array (Option Value)} {oc_is_told kV_is_told dc_is_told pm_is_told cd_is_told ct_is_told : Value}
    (a_is_told : PySem.W.nsIn K mainGlobals "is_told" = some (some (.ref fa_is_told)))
    (l_is_told : K.lookup fa_is_told = some ⟨oc_is_told, od_is_told, .func (PySem.W.fnOf "is_told" "is_told" (defArgs s_is_told) (defBody s_is_told) (defScope s_is_told) .none kV_is_told dc_is_told pm_is_told an_is_told cd_is_told ct_is_told), sl_is_told⟩) (c_is_told : PySem.W.codeIn K cd_is_told "is_told" = true) (k_is_told : PySem.W.keepIn K (.ref fa_is_told) = true)
    {fa_are_pairs : Addr} {od_are_pairs an_are_pairs : Option Addr} {sl_are_pairs : Array (Option Value)} {oc_are_pairs kV_are_pairs dc_are_pairs pm_are_pairs cd_are_pairs ct_are_pairs : Value}
    (a_are_pairs : PySem.W.nsIn K mainGlobals "are_pairs" = some (some (.ref fa_are_pairs)))
    (l_are_pairs : K.lookup fa_are_pairs = some ⟨oc_are_pairs, od_are_pairs, .func (PySem.W.fnOf "are_pairs" "are_pairs" (defArgs s_are_pairs) (defBody s_are_pairs) (defScope s_are_pairs) .none kV_are_pairs dc_are_pairs pm_are_pairs an_are_pairs cd_are_pairs ct_are_pairs), sl_are_pairs⟩) (c_are_pairs : PySem.W.codeIn K cd_are_pairs "are_pairs" = true) (k_are_pairs : PySem.W.keepIn K (.ref fa_are_pairs) = true)
    {fa_is_fact_about : Addr} {od_is_fact_about an_is_fact_about : Option Addr} {sl_is_fact_about : Array (Option Value)} {oc_is_fact_about kV_is_fact_about dc_is_fact_about pm_is_fact_about cd_is_fact_about ct_is_fact_about : Value}
    (a_is_fact_about : PySem.W.nsIn K mainGlobals "is_fact_about" = some (some (.ref fa_is_fact_about)))
    (l_is_fact_about : K.lookup fa_is_fact_about = some ⟨oc_is_fact_about, od_is_fact_about, .func (PySem.W.fnOf "is_fact_about" "is_fact_about" (defArgs s_is_fact_about) (defBody s_is_fact_about) (defScope s_is_fact_about) .none kV_is_fact_about dc_is_fact_about pm_is_fact_about an_is_fact_about cd_is_fact_about ct_is_fact_about), sl_is_fact_about⟩) (c_is_fact_about : PySem.W.codeIn K cd_is_fact_about "is_fact_about" = true) (k_is_fact_about : PySem.W.keepIn K (.ref fa_is_fact_about) = true)
    {fa_Book_is_fact : Addr} {od_Book_is_fact an_Book_is_fact : Option Addr} {sl_Book_is_fact : Array (Option Value)} {oc_Book_is_fact kV_Book_is_fact dc_Book_is_fact pm_Book_is_fact cd_Book_is_fact ct_Book_is_fact : Value}
    (a_Book_is_fact : PySem.W.findIn K (.ref C_Book) "is_fact" = some (some (.ref fa_Book_is_fact))) (i_Book_is_fact : PySem.W.isFn K (.ref fa_Book_is_fact) = true)
    (l_Book_is_fact : K.lookup fa_Book_is_fact = some ⟨oc_Book_is_fact, od_Book_is_fact, .func (PySem.W.fnOf "is_fact" "Book.is_fact" (defArgs s_Book_is_fact) (defBody s_Book_is_fact) (defScope s_Book_is_fact) .none kV_Book_is_fact dc_Book_is_fact pm_Book_is_fact an_Book_is_fact cd_Book_is_fact ct_Book_is_fact), sl_Book_is_fact⟩) (c_Book_is_fact : PySem.W.codeIn K cd_Book_is_fact "Book.is_fact" = true) (k_Book_is_fact : PySem.W.keepIn K (.ref fa_Book_is_fact) = true)
    {fa__law_begun : Addr} {od__law_begun an__law_begun : Option Addr} {sl__law_begun : Array (Option Value)} {oc__law_begun kV__law_begun dc__law_begun pm__law_begun cd__law_begun ct__law_begun : Value}
    (a__law_begun : PySem.W.nsIn K mainGlobals "_law_begun" = some (some (.ref fa__law_begun)))
    (l__law_begun : K.lookup fa__law_begun = some ⟨oc__law_begun, od__law_begun, .func (PySem.W.fnOf "_law_begun" "_law_begun" (defArgs s__law_begun) (defBody s__law_begun) (defScope s__law_begun) .none kV__law_begun dc__law_begun pm__law_begun an__law_begun cd__law_begun ct__law_begun), sl__law_begun⟩) (c__law_begun : PySem.W.codeIn K cd__law_begun "_law_begun" = true) (k__law_begun : PySem.W.keepIn K (.ref fa__law_begun) = true)
    {fa__law_mixed : Addr} {od__law_mixed an__law_mixed : Option Addr} {sl__law_mixed : Array (Option Value)} {oc__law_mixed kV__law_mixed dc__law_mixed pm__law_mixed cd__law_mixed ct__law_mixed : Value}
    (a__law_mixed : PySem.W.nsIn K mainGlobals "_law_mixed" = some (some (.ref fa__law_mixed)))
    (l__law_mixed : K.lookup fa__law_mixed = some ⟨oc__law_mixed, od__law_mixed, .func (PySem.W.fnOf "_law_mixed" "_law_mixed" (defArgs s__law_mixed) (defBody s__law_mixed) (defScope s__law_mixed) .none kV__law_mixed dc__law_mixed pm__law_mixed an__law_mixed cd__law_mixed ct__law_mixed), sl__law_mixed⟩) (c__law_mixed : PySem.W.codeIn K cd__law_mixed "_law_mixed" = true) (k__law_mixed : PySem.W.keepIn K (.ref fa__law_mixed) = true)
    {fa__law_take : Addr} {od__law_take an__law_take : Option Addr} {sl__law_take : Array (Option Value)} {oc__law_take kV__law_take dc__law_take pm__law_take cd__law_take ct__law_take : Value}
    (a__law_take : PySem.W.nsIn K mainGlobals "_law_take" = some (some (.ref fa__law_take)))
    (l__law_take : K.lookup fa__law_take = some ⟨oc__law_take, od__law_take, .func (PySem.W.fnOf "_law_take" "_law_take" (defArgs s__law_take) (defBody s__law_take) (defScope s__law_take) .none kV__law_take dc__law_take pm__law_take an__law_take cd__law_take ct__law_take), sl__law_take⟩) (c__law_take : PySem.W.codeIn K cd__law_take "_law_take" = true) (k__law_take : PySem.W.keepIn K (.ref fa__law_take) = true)
    {fa__law_pick : Addr} {od__law_pick an__law_pick : Option Addr} {sl__law_pick : Array (Option Value)} {oc__law_pick kV__law_pick dc__law_pick pm__law_pick cd__law_pick ct__law_pick : Value}
    (a__law_pick : PySem.W.nsIn K mainGlobals "_law_pick" = some (some (.ref fa__law_pick)))
    (l__law_pick : K.lookup fa__law_pick = some ⟨oc__law_pick, od__law_pick, .func (PySem.W.fnOf "_law_pick" "_law_pick" (defArgs s__law_pick) (defBody s__law_pick) (defScope s__law_pick) .none kV__law_pick dc__law_pick pm__law_pick an__law_pick cd__law_pick ct__law_pick), sl__law_pick⟩) (c__law_pick : PySem.W.codeIn K cd__law_pick "_law_pick" = true) (k__law_pick : PySem.W.keepIn K (.ref fa__law_pick) = true)
    {fa__law_odd : Addr} {od__law_odd an__law_odd : Option Addr} {sl__law_odd : Array (Option Value)} {oc__law_odd kV__law_odd dc__law_odd pm__law_odd cd__law_odd ct__law_odd : Value}
    (a__law_odd : PySem.W.nsIn K mainGlobals "_law_odd" = some (some (.ref fa__law_odd)))
    (l__law_odd : K.lookup fa__law_odd = some ⟨oc__law_odd, od__law_odd, .func (PySem.W.fnOf "_law_odd" "_law_odd" (defArgs s__law_odd) (defBody s__law_odd) (defScope s__law_odd) .none kV__law_odd dc__law_odd pm__law_odd an__law_odd cd__law_odd ct__law_odd), sl__law_odd⟩) (c__law_odd : PySem.W.codeIn K cd__law_odd "_law_odd" = true) (k__law_odd : PySem.W.keepIn K (.ref fa__law_odd) = true)
    {fa__law_bent : Addr} {od__law_bent an__law_bent : Option Addr} {sl__law_bent : Array (Option Value)} {oc__law_bent kV__law_bent dc__law_bent pm__law_bent cd__law_bent ct__law_bent : Value}
    (a__law_bent : PySem.W.nsIn K mainGlobals "_law_bent" = some (some (.ref fa__law_bent)))
    (l__law_bent : K.lookup fa__law_bent = some ⟨oc__law_bent, od__law_bent, .func (PySem.W.fnOf "_law_bent" "_law_bent" (defArgs s__law_bent) (defBody s__law_bent) (defScope s__law_bent) .none kV__law_bent dc__law_bent pm__law_bent an__law_bent cd__law_bent ct__law_bent), sl__law_bent⟩) (c__law_bent : PySem.W.codeIn K cd__law_bent "_law_bent" = true) (k__law_bent : PySem.W.keepIn K (.ref fa__law_bent) = true)
    {fa_is_name : Addr} {od_is_name an_is_name : Option Addr} {sl_is_name : Array (Option Value)} {oc_is_name kV_is_name dc_is_name pm_is_name cd_is_name ct_is_name : Value}
    (a_is_name : PySem.W.nsIn K mainGlobals "is_name" = some (some (.ref fa_is_name)))
    (l_is_name : K.lookup fa_is_name = some ⟨oc_is_name, od_is_name, .func (PySem.W.fnOf "is_name" "is_name" (defArgs s_is_name) (defBody s_is_name) (defScope s_is_name) .none kV_is_name dc_is_name pm_is_name an_is_name cd_is_name ct_is_name), sl_is_name⟩) (c_is_name : PySem.W.codeIn K cd_is_name "is_name" = true) (k_is_name : PySem.W.keepIn K (.ref fa_is_name) = true)
    {fa_are_names : Addr} {od_are_names an_are_names : Option Addr} {sl_are_names : Array (Option Value)} {oc_are_names kV_are_names dc_are_names pm_are_names cd_are_names ct_are_names : Value}
    (a_are_names : PySem.W.nsIn K mainGlobals "are_names" = some (some (.ref fa_are_names)))
    (l_are_names : K.lookup fa_are_names = some ⟨oc_are_names, od_are_names, .func (PySem.W.fnOf "are_names" "are_names" (defArgs s_are_names) (defBody s_are_names) (defScope s_are_names) .none kV_are_names dc_are_names pm_are_names an_are_names cd_are_names ct_are_names), sl_are_names⟩) (c_are_names : PySem.W.codeIn K cd_are_names "are_names" = true) (k_are_names : PySem.W.keepIn K (.ref fa_are_names) = true)
    {fa_is_met : Addr} {od_is_met an_is_met : Option Addr} {sl_is_met : Array (Option Value)} {oc_is_met kV_is_met dc_is_met pm_is_met cd_is_met ct_is_met : Value}
    (a_is_met : PySem.W.nsIn K mainGlobals "is_met" = some (some (.ref fa_is_met)))
    (l_is_met : K.lookup fa_is_met = some ⟨oc_is_met, od_is_met, .func (PySem.W.fnOf "is_met" "is_met" (defArgs s_is_met) (defBody s_is_met) (defScope s_is_met) .none kV_is_met dc_is_met pm_is_met an_is_met cd_is_met ct_is_met), sl_is_met⟩) (c_is_met : PySem.W.codeIn K cd_is_met "is_met" = true) (k_is_met : PySem.W.keepIn K (.ref fa_is_met) = true)
    {fa_moments_of : Addr} {od_moments_of an_moments_of : Option Addr} {sl_moments_of : Array (Option Value)} {oc_moments_of kV_moments_of dc_moments_of pm_moments_of cd_moments_of ct_moments_of : Value}
    (a_moments_of : PySem.W.nsIn K mainGlobals "moments_of" = some (some (.ref fa_moments_of)))
    (l_moments_of : K.lookup fa_moments_of = some ⟨oc_moments_of, od_moments_of, .func (PySem.W.fnOf "moments_of" "moments_of" (defArgs s_moments_of) (defBody s_moments_of) (defScope s_moments_of) .none kV_moments_of dc_moments_of pm_moments_of an_moments_of cd_moments_of ct_moments_of), sl_moments_of⟩) (c_moments_of : PySem.W.codeIn K cd_moments_of "moments_of" = true) (k_moments_of : PySem.W.keepIn K (.ref fa_moments_of) = true)
    {fa_need_facts : Addr} {od_need_facts an_need_facts : Option Addr} {sl_need_facts : Array (Option Value)} {oc_need_facts kV_need_facts dc_need_facts pm_need_facts cd_need_facts ct_need_facts : Value}
    (a_need_facts : PySem.W.nsIn K mainGlobals "need_facts" = some (some (.ref fa_need_facts)))
    (l_need_facts : K.lookup fa_need_facts = some ⟨oc_need_facts, od_need_facts, .func (PySem.W.fnOf "need_facts" "need_facts" (defArgs s_need_facts) (defBody s_need_facts) (defScope s_need_facts) .none kV_need_facts dc_need_facts pm_need_facts an_need_facts cd_need_facts ct_need_facts), sl_need_facts⟩) (c_need_facts : PySem.W.codeIn K cd_need_facts "need_facts" = true) (k_need_facts : PySem.W.keepIn K (.ref fa_need_facts) = true)
    {fa_Book___init__ : Addr} {od_Book___init__ an_Book___init__ : Option Addr} {sl_Book___init__ : Array (Option Value)} {oc_Book___init__ kV_Book___init__ dc_Book___init__ pm_Book___init__ cd_Book___init__ ct_Book___init__ : Value}
    {T_Book___init__ T0_Book___init__ : Addr} {odT_Book___init__ od0_Book___init__ : Option Addr} {nT_Book___init__ n0_Book___init__ : Nat} {slT_Book___init__ sl0_Book___init__ : Array (Option Value)}
    (a_Book___init__ : PySem.W.findIn K (.ref C_Book) "__init__" = some (some (.ref fa_Book___init__))) (i_Book___init__ : PySem.W.isFn K (.ref fa_Book___init__) = true)
    (l_Book___init__ : K.lookup fa_Book___init__ = some ⟨oc_Book___init__, od_Book___init__, .func (PySem.W.fnOf "__init__" "Book.__init__" (defArgs s_Book___init__) (defBody s_Book___init__) (defScope s_Book___init__) (.ref T_Book___init__) kV_Book___init__ dc_Book___init__ pm_Book___init__ an_Book___init__ cd_Book___init__ ct_Book___init__), sl_Book___init__⟩) (c_Book___init__ : PySem.W.codeIn K cd_Book___init__ "Book.__init__" = true) (k_Book___init__ : PySem.W.keepIn K (.ref fa_Book___init__) = true)
    (t_Book___init__ : K.lookup T_Book___init__ = some ⟨.type "tuple", odT_Book___init__, .seq #[.ref T0_Book___init__] nT_Book___init__, slT_Book___init__⟩) (t0_Book___init__ : K.lookup T0_Book___init__ = some ⟨.type "tuple", od0_Book___init__, .seq #[] n0_Book___init__, sl0_Book___init__⟩)
    {fa__law_book : Addr} {od__law_book an__law_book : Option Addr} {sl__law_book : Array (Option Value)} {oc__law_book kV__law_book dc__law_book pm__law_book cd__law_book ct__law_book : Value}
    (a__law_book : PySem.W.nsIn K mainGlobals "_law_book" = some (some (.ref fa__law_book)))
    (l__law_book : K.lookup fa__law_book = some ⟨oc__law_book, od__law_book, .func (PySem.W.fnOf "_law_book" "_law_book" (defArgs s__law_book) (defBody s__law_book) (defScope s__law_book) .none kV__law_book dc__law_book pm__law_book an__law_book cd__law_book ct__law_book), sl__law_book⟩) (c__law_book : PySem.W.codeIn K cd__law_book "_law_book" = true) (k__law_book : PySem.W.keepIn K (.ref fa__law_book) = true)
    {fa__law_fact : Addr} {od__law_fact an__law_fact : Option Addr} {sl__law_fact : Array (Option Value)} {oc__law_fact kV__law_fact dc__law_fact pm__law_fact cd__law_fact ct__law_fact : Value}
    (a__law_fact : PySem.W.nsIn K mainGlobals "_law_fact" = some (some (.ref fa__law_fact)))
    (l__law_fact : K.lookup fa__law_fact = some ⟨oc__law_fact, od__law_fact, .func (PySem.W.fnOf "_law_fact" "_law_fact" (defArgs s__law_fact) (defBody s__law_fact) (defScope s__law_fact) .none kV__law_fact dc__law_fact pm__law_fact an__law_fact cd__law_fact ct__law_fact), sl__law_fact⟩) (c__law_fact : PySem.W.codeIn K cd__law_fact "_law_fact" = true) (k__law_fact : PySem.W.keepIn K (.ref fa__law_fact) = true)
    {fa__law_facts : Addr} {od__law_facts an__law_facts : Option Addr} {sl__law_facts : Array (Option Value)} {oc__law_facts kV__law_facts dc__law_facts pm__law_facts cd__law_facts ct__law_facts : Value}
    (a__law_facts : PySem.W.nsIn K mainGlobals "_law_facts" = some (some (.ref fa__law_facts)))
    (l__law_facts : K.lookup fa__law_facts = some ⟨oc__law_facts, od__law_facts, .func (PySem.W.fnOf "_law_facts" "_law_facts" (defArgs s__law_facts) (defBody s__law_facts) (defScope s__law_facts) .none kV__law_facts dc__law_facts pm__law_facts an__law_facts cd__law_facts ct__law_facts), sl__law_facts⟩) (c__law_facts : PySem.W.codeIn K cd__law_facts "_law_facts" = true) (k__law_facts : PySem.W.keepIn K (.ref fa__law_facts) = true)
    {fa__law_labels : Addr} {od__law_labels an__law_labels : Option Addr} {sl__law_labels : Array (Option Value)} {oc__law_labels kV__law_labels dc__law_labels pm__law_labels cd__law_labels ct__law_labels : Value}
    (a__law_labels : PySem.W.nsIn K mainGlobals "_law_labels" = some (some (.ref fa__law_labels)))
    (l__law_labels : K.lookup fa__law_labels = some ⟨oc__law_labels, od__law_labels, .func (PySem.W.fnOf "_law_labels" "_law_labels" (defArgs s__law_labels) (defBody s__law_labels) (defScope s__law_labels) .none kV__law_labels dc__law_labels pm__law_labels an__law_labels cd__law_labels ct__law_labels), sl__law_labels⟩) (c__law_labels : PySem.W.codeIn K cd__law_labels "_law_labels" = true) (k__law_labels : PySem.W.keepIn K (.ref fa__law_labels) = true)
    {fa__law_ground : Addr} {od__law_ground an__law_ground : Option Addr} {sl__law_ground : Array (Option Value)} {oc__law_ground kV__law_ground dc__law_ground pm__law_ground cd__law_ground ct__law_ground : Value}
    (a__law_ground : PySem.W.nsIn K mainGlobals "_law_ground" = some (some (.ref fa__law_ground)))
    (l__law_ground : K.lookup fa__law_ground = some ⟨oc__law_ground, od__law_ground, .func (PySem.W.fnOf "_law_ground" "_law_ground" (defArgs s__law_ground) (defBody s__law_ground) (defScope s__law_ground) .none kV__law_ground dc__law_ground pm__law_ground an__law_ground cd__law_ground ct__law_ground), sl__law_ground⟩) (c__law_ground : PySem.W.codeIn K cd__law_ground "_law_ground" = true) (k__law_ground : PySem.W.keepIn K (.ref fa__law_ground) = true)
    {fa__law_drawn_ground : Addr} {od__law_drawn_ground an__law_drawn_ground : Option Addr} {sl__law_drawn_ground : Array (Option Value)} {oc__law_drawn_ground kV__law_drawn_ground dc__law_drawn_ground pm__law_drawn_ground cd__law_drawn_ground ct__law_drawn_ground : Value}
    (a__law_drawn_ground : PySem.W.nsIn K mainGlobals "_law_drawn_ground" = some (some (.ref fa__law_drawn_ground)))
    (l__law_drawn_ground : K.lookup fa__law_drawn_ground = some ⟨oc__law_drawn_ground, od__law_drawn_ground, .func (PySem.W.fnOf "_law_drawn_ground" "_law_drawn_ground" (defArgs s__law_drawn_ground) (defBody s__law_drawn_ground) (defScope s__law_drawn_ground) .none kV__law_drawn_ground dc__law_drawn_ground pm__law_drawn_ground an__law_drawn_ground cd__law_drawn_ground ct__law_drawn_ground), sl__law_drawn_ground⟩) (c__law_drawn_ground : PySem.W.codeIn K cd__law_drawn_ground "_law_drawn_ground" = true) (k__law_drawn_ground : PySem.W.keepIn K (.ref fa__law_drawn_ground) = true)
    {fa__law_every_fact : Addr} {od__law_every_fact an__law_every_fact : Option Addr} {sl__law_every_fact : Array (Option Value)} {oc__law_every_fact kV__law_every_fact dc__law_every_fact pm__law_every_fact cd__law_every_fact ct__law_every_fact : Value}
    (a__law_every_fact : PySem.W.nsIn K mainGlobals "_law_every_fact" = some (some (.ref fa__law_every_fact)))
    (l__law_every_fact : K.lookup fa__law_every_fact = some ⟨oc__law_every_fact, od__law_every_fact, .func (PySem.W.fnOf "_law_every_fact" "_law_every_fact" (defArgs s__law_every_fact) (defBody s__law_every_fact) (defScope s__law_every_fact) .none kV__law_every_fact dc__law_every_fact pm__law_every_fact an__law_every_fact cd__law_every_fact ct__law_every_fact), sl__law_every_fact⟩) (c__law_every_fact : PySem.W.codeIn K cd__law_every_fact "_law_every_fact" = true) (k__law_every_fact : PySem.W.keepIn K (.ref fa__law_every_fact) = true)
    {fa_law : Addr} {od_law an_law : Option Addr} {sl_law : Array (Option Value)} {oc_law kV_law dc_law pm_law cd_law ct_law : Value}
    (a_law : PySem.W.nsIn K mainGlobals "law" = some (some (.ref fa_law)))
    (l_law : K.lookup fa_law = some ⟨oc_law, od_law, .func (PySem.W.fnOf "law" "law" (defArgs s_law) (defBody s_law) (defScope s_law) .none kV_law dc_law pm_law an_law cd_law ct_law), sl_law⟩) (c_law : PySem.W.codeIn K cd_law "law" = true) (k_law : PySem.W.keepIn K (.ref fa_law) = true)
    {t_LETTERS : Tok} (g_LETTERS : PySem.W.nsIn K mainGlobals "LETTERS" = some (some (.str "abcdefghijklmnopqrstuvwxyz" t_LETTERS)))
    {p_OUTCOMES : Addr} {od_OUTCOMES : Option Addr} {sl_OUTCOMES : Array (Option Value)} {n_OUTCOMES : Nat} {t0_OUTCOMES t1_OUTCOMES t2_OUTCOMES : Tok} (g_OUTCOMES : PySem.W.nsIn K mainGlobals "OUTCOMES" = some (some (.ref p_OUTCOMES))) (h_OUTCOMES : K.lookup p_OUTCOMES = some ⟨.type "tuple", od_OUTCOMES, .seq #[.str "fail" t0_OUTCOMES, .str "no" t1_OUTCOMES, .str "yes" t2_OUTCOMES] n_OUTCOMES, sl_OUTCOMES⟩)
    {t_MOST_LETTERS : Tok} (g_MOST_LETTERS : PySem.W.nsIn K mainGlobals "MOST_LETTERS" = some (some (.int 8 t_MOST_LETTERS)))
    {t_MOST_LOOKS : Tok} (g_MOST_LOOKS : PySem.W.nsIn K mainGlobals "MOST_LOOKS" = some (some (.int 4 t_MOST_LOOKS)))
    {t_MOST_DEEDS : Tok} (g_MOST_DEEDS : PySem.W.nsIn K mainGlobals "MOST_DEEDS" = some (some (.int 5 t_MOST_DEEDS)))
    {t_MOST_FACTS : Tok} (g_MOST_FACTS : PySem.W.nsIn K mainGlobals "MOST_FACTS" = some (some (.int 24 t_MOST_FACTS)))
    (z_abs : PySem.W.nsIn K mainGlobals "abs" = some none)
    (z_all : PySem.W.nsIn K mainGlobals "all" = some none)
    (z_any : PySem.W.nsIn K mainGlobals "any" = some none)
    (z_bool : PySem.W.nsIn K mainGlobals "bool" = some none)
    (z_enumerate : PySem.W.nsIn K mainGlobals "enumerate" = some none)
    (z_int : PySem.W.nsIn K mainGlobals "int" = some none)
    (z_isinstance : PySem.W.nsIn K mainGlobals "isinstance" = some none)
    (z_len : PySem.W.nsIn K mainGlobals "len" = some none)
    (z_list : PySem.W.nsIn K mainGlobals "list" = some none)
    (z_min : PySem.W.nsIn K mainGlobals "min" = some none)
    (z_range : PySem.W.nsIn K mainGlobals "range" = some none)
    (z_repr : PySem.W.nsIn K mainGlobals "repr" = some none)
    (z_set : PySem.W.nsIn K mainGlobals "set" = some none)
    (z_sorted : PySem.W.nsIn K mainGlobals "sorted" = some none)
    (z_str : PySem.W.nsIn K mainGlobals "str" = some none)
    (z_tuple : PySem.W.nsIn K mainGlobals "tuple" = some none)
    : ∃ fd : FuncData, (∀ (s : Shared) (v : Value), BindsTo s fd ⟨[v], []⟩ [("_law_script", v)]) ∧ ∀ base : Heap, K.In base → base.Ns mainGlobals mg → HasSys base → FnG l.prog w K mg base CX0 18 fa fd ["_law_script"] (spA K [.val] .val f_law) := by
  have e := hfa.symm.trans (PySem.W.mg_of KH G a_law)
  cases e
  obtain ⟨cl, hcl⟩ : ∃ cl : String → Option Addr, cl = fun c => if c = "Book" then some C_Book else none := ⟨_, rfl⟩
  have cl_Book : cl "Book" = some C_Book := by rw [hcl]; simp
  have cc_Book : Cls K C_Book := ⟨pg_Book, hd_Book, po_Book, sa_Book⟩
  have hcls : ClsOk K cl kT := ⟨fun c f q => by
    unfold okF at q
    simp only [kT, List.any_cons, List.any_nil, Bool.or_false, Bool.or_eq_true, Bool.and_eq_true, decide_eq_true_eq] at q
    rcases q with ⟨rfl, q⟩
    · rcases q with rfl | rfl | rfl | rfl
      · exact ⟨C_Book, cl_Book, cc_Book, no_Book_b_looks⟩
      · exact ⟨C_Book, cl_Book, cc_Book, no_Book_b_deeds⟩
      · exact ⟨C_Book, cl_Book, cc_Book, no_Book_b_facts⟩
      · exact ⟨C_Book, cl_Book, cc_Book, no_Book_b_moments⟩
    ⟩
  have F_is_one_of := fun_mk (st := s_is_one_of) l_is_one_of c_is_one_of k_is_one_of
  have b_is_one_of := F_is_one_of.binds (ps := ["thing", "words"]) fun _ _ _ _ _ _ us hl => match us, hl with | [_, _], _ => rfl
  have F_is_told := fun_mk (st := s_is_told) l_is_told c_is_told k_is_told
  have b_is_told := F_is_told.binds (ps := ["looks", "thing"]) fun _ _ _ _ _ _ us hl => match us, hl with | [_, _], _ => rfl
  have F_are_pairs := fun_mk (st := s_are_pairs) l_are_pairs c_are_pairs k_are_pairs
  have b_are_pairs := F_are_pairs.binds (ps := ["looks", "thing"]) fun _ _ _ _ _ _ us hl => match us, hl with | [_, _], _ => rfl
  have F_is_fact_about := fun_mk (st := s_is_fact_about) l_is_fact_about c_is_fact_about k_is_fact_about
  have b_is_fact_about := F_is_fact_about.binds (ps := ["looks", "deeds", "thing"]) fun _ _ _ _ _ _ us hl => match us, hl with | [_, _, _], _ => rfl
  have F_Book_is_fact := fun_mk (st := s_Book_is_fact) l_Book_is_fact c_Book_is_fact k_Book_is_fact
  have b_Book_is_fact := F_Book_is_fact.binds (ps := ["self", "thing"]) fun _ _ _ _ _ _ us hl => match us, hl with | [_, _], _ => rfl
  have F__law_begun := fun_mk (st := s__law_begun) l__law_begun c__law_begun k__law_begun
  have b__law_begun := F__law_begun.binds (ps := ["_law_script"]) fun _ _ _ _ _ _ us hl => match us, hl with | [_], _ => rfl
  have F__law_mixed := fun_mk (st := s__law_mixed) l__law_mixed c__law_mixed k__law_mixed
  have b__law_mixed := F__law_mixed.binds (ps := ["_law_draw"]) fun _ _ _ _ _ _ us hl => match us, hl with | [_], _ => rfl
  have F__law_take := fun_mk (st := s__law_take) l__law_take c__law_take k__law_take
  have b__law_take := F__law_take.binds (ps := ["_law_draw", "_law_size"]) fun _ _ _ _ _ _ us hl => match us, hl with | [_, _], _ => rfl
  have F__law_pick := fun_mk (st := s__law_pick) l__law_pick c__law_pick k__law_pick
  have b__law_pick := F__law_pick.binds (ps := ["_law_draw", "_law_some"]) fun _ _ _ _ _ _ us hl => match us, hl with | [_, _], _ => rfl
  have F__law_odd := fun_mk (st := s__law_odd) l__law_odd c__law_odd k__law_odd
  have b__law_odd := F__law_odd.binds (ps := ["_law_draw"]) fun _ _ _ _ _ _ us hl => match us, hl with | [_], _ => rfl
  have F__law_bent := fun_mk (st := s__law_bent) l__law_bent c__law_bent k__law_bent
  have b__law_bent := F__law_bent.binds (ps := ["_law_draw", "_law_ground_here", "_law_thing_here"]) fun _ _ _ _ _ _ us hl => match us, hl with | [_, _, _], _ => rfl
  have F_is_name := fun_mk (st := s_is_name) l_is_name c_is_name k_is_name
  have b_is_name := F_is_name.binds (ps := ["thing"]) fun _ _ _ _ _ _ us hl => match us, hl with | [_], _ => rfl
  have F_are_names := fun_mk (st := s_are_names) l_are_names c_are_names k_are_names
  have b_are_names := F_are_names.binds (ps := ["thing", "most"]) fun _ _ _ _ _ _ us hl => match us, hl with | [_, _], _ => rfl
  have F_is_met := fun_mk (st := s_is_met) l_is_met c_is_met k_is_met
  have b_is_met := F_is_met.binds (ps := ["pairs", "moment"]) fun _ _ _ _ _ _ us hl => match us, hl with | [_, _], _ => rfl
  have F_moments_of := fun_mk (st := s_moments_of) l_moments_of c_moments_of k_moments_of
  have b_moments_of := F_moments_of.binds (ps := ["looks", "facts"]) fun _ _ _ _ _ _ us hl => match us, hl with | [_, _], _ => rfl
  have F_need_facts := fun_mk (st := s_need_facts) l_need_facts c_need_facts k_need_facts
  have b_need_facts := F_need_facts.binds (ps := ["looks", "deeds", "facts"]) fun _ _ _ _ _ _ us hl => match us, hl with | [_, _, _], _ => rfl
  have F_Book___init__ : FunA K "__init__" "Book.__init__" s_Book___init__ fa_Book___init__ _ := ⟨⟨_, _, _, _, _, _, _, _, _, _, rfl, l_Book___init__, c_Book___init__⟩⟩
  have d_Book___init__ : DefT K T_Book___init__ T0_Book___init__ := ⟨⟨_, _, _, t_Book___init__⟩, ⟨_, _, _, t0_Book___init__⟩⟩
  have F__law_book := fun_mk (st := s__law_book) l__law_book c__law_book k__law_book
  have b__law_book := F__law_book.binds (ps := ["_law_ground_here"]) fun _ _ _ _ _ _ us hl => match us, hl with | [_], _ => rfl
  have F__law_fact := fun_mk (st := s__law_fact) l__law_fact c__law_fact k__law_fact
  have b__law_fact := F__law_fact.binds (ps := ["_law_draw", "_law_ground_here"]) fun _ _ _ _ _ _ us hl => match us, hl with | [_, _], _ => rfl
  have F__law_facts := fun_mk (st := s__law_facts) l__law_facts c__law_facts k__law_facts
  have b__law_facts := F__law_facts.binds (ps := ["_law_draw", "_law_ground_here", "_law_most"]) fun _ _ _ _ _ _ us hl => match us, hl with | [_, _, _], _ => rfl
  have F__law_labels := fun_mk (st := s__law_labels) l__law_labels c__law_labels k__law_labels
  have b__law_labels := F__law_labels.binds (ps := ["_law_draw", "_law_many"]) fun _ _ _ _ _ _ us hl => match us, hl with | [_, _], _ => rfl
  have F__law_ground := fun_mk (st := s__law_ground) l__law_ground c__law_ground k__law_ground
  have b__law_ground := F__law_ground.binds (ps := ["_law_draw", "_law_looks", "_law_deeds"]) fun _ _ _ _ _ _ us hl => match us, hl with | [_, _, _], _ => rfl
  have F__law_drawn_ground := fun_mk (st := s__law_drawn_ground) l__law_drawn_ground c__law_drawn_ground k__law_drawn_ground
  have b__law_drawn_ground := F__law_drawn_ground.binds (ps := ["_law_draw", "_law_looks", "_law_deeds", "_law_most"]) fun _ _ _ _ _ _ us hl => match us, hl with | [_, _, _, _], _ => rfl
  have F__law_every_fact := fun_mk (st := s__law_every_fact) l__law_every_fact c__law_every_fact k__law_every_fact
  have b__law_every_fact := F__law_every_fact.binds (ps := ["_law_ground_here"]) fun _ _ _ _ _ _ us hl => match us, hl with | [_], _ => rfl
  have F_law := fun_mk (st := s_law) l_law c_law k_law
  have b_law := F_law.binds (ps := ["_law_script"]) fun _ _ _ _ _ _ us hl => match us, hl with | [_], _ => rfl
  have m_abs := PySem.W.mg_none_of KH G z_abs
  have m_all := PySem.W.mg_none_of KH G z_all
  have m_any := PySem.W.mg_none_of KH G z_any
  have m_bool := PySem.W.mg_none_of KH G z_bool
  have m_enumerate := PySem.W.mg_none_of KH G z_enumerate
  have m_int := PySem.W.mg_none_of KH G z_int
  have m_isinstance := PySem.W.mg_none_of KH G z_isinstance
  have m_len := PySem.W.mg_none_of KH G z_len
  have m_list := PySem.W.mg_none_of KH G z_list
  have m_min := PySem.W.mg_none_of KH G z_min
  have m_range := PySem.W.mg_none_of KH G z_range
  have m_repr := PySem.W.mg_none_of KH G z_repr
  have m_set := PySem.W.mg_none_of KH G z_set
  have m_sorted := PySem.W.mg_none_of KH G z_sorted
  have m_str := PySem.W.mg_none_of KH G z_str
  have m_tuple := PySem.W.mg_none_of KH G z_tuple
  have G_LETTERS : G_LETTERS K mg := fun cl md X pos hK hM hG => sk_gstr (s := "abcdefghijklmnopqrstuvwxyz") hG (by rw [hM]; exact PySem.W.mg_of KH G g_LETTERS) (by decide +kernel)
  have G_OUTCOMES : G_OUTCOMES K mg := fun cl md X pos hK hM hG => sk_gtup (ss := Dr.l_OUTCOMES) (its := #[.str "fail" t0_OUTCOMES, .str "no" t1_OUTCOMES, .str "yes" t2_OUTCOMES]) hG (by rw [hM]; exact PySem.W.mg_of KH G g_OUTCOMES) (by rw [hK]; exact h_OUTCOMES) rfl rfl (show (3 : Nat) ≤ 1000 by decide) (.cons ⟨_, rfl⟩ (.cons ⟨_, rfl⟩ (.cons ⟨_, rfl⟩ .nil))) (by decide +kernel)
  have G_MOST_LETTERS : G_MOST_LETTERS K mg := fun cl md X pos hK hM hG => sk_gint hG (by rw [hM]; exact PySem.W.mg_of KH G g_MOST_LETTERS)
  have G_MOST_LOOKS : G_MOST_LOOKS K mg := fun cl md X pos hK hM hG => sk_gint hG (by rw [hM]; exact PySem.W.mg_of KH G g_MOST_LOOKS)
  have G_MOST_DEEDS : G_MOST_DEEDS K mg := fun cl md X pos hK hM hG => sk_gint hG (by rw [hM]; exact PySem.W.mg_of KH G g_MOST_DEEDS)
  have G_MOST_FACTS : G_MOST_FACTS K mg := fun cl md X pos hK hM hG => sk_gint hG (by rw [hM]; exact PySem.W.mg_of KH G g_MOST_FACTS)
  refine ⟨PySem.W.fnOf "law" "law" (defArgs s_law) (defBody s_law) (defScope s_law) .none kV_law dc_law pm_law an_law cd_law ct_law, fun s v => .of_eq rfl, fun base _ _ hsy => ?_⟩
  have o_is_one_of := ok_is_one_of (P := l.prog) (w := w) (cl := cl) F_is_one_of.a hsy m_isinstance m_str
  have h_is_one_of : Has l.prog w K mg base "is_one_of" _ _ _ := ⟨⟨fa_is_one_of, _, o_is_one_of, PySem.W.mg_of KH G a_is_one_of, k_is_one_of, b_is_one_of⟩⟩
  have o_is_told := ok_is_told (P := l.prog) (w := w) (cl := cl) F_is_told.a hsy m_bool m_isinstance m_len m_tuple h_is_one_of
  have h_is_told : Has l.prog w K mg base "is_told" _ _ _ := ⟨⟨fa_is_told, _, o_is_told, PySem.W.mg_of KH G a_is_told, k_is_told, b_is_told⟩⟩
  have o_are_pairs := ok_are_pairs (P := l.prog) (w := w) (cl := cl) F_are_pairs.a hsy m_all m_isinstance m_len m_tuple h_is_told
  have h_are_pairs : Has l.prog w K mg base "are_pairs" _ _ _ := ⟨⟨fa_are_pairs, _, o_are_pairs, PySem.W.mg_of KH G a_are_pairs, k_are_pairs, b_are_pairs⟩⟩
  have o_is_fact_about := ok_is_fact_about (P := l.prog) (w := w) (cl := cl) F_is_fact_about.a hsy m_bool m_isinstance m_len m_str m_tuple G_OUTCOMES h_is_one_of h_are_pairs
  have h_is_fact_about : Has l.prog w K mg base "is_fact_about" _ _ _ := ⟨⟨fa_is_fact_about, _, o_is_fact_about, PySem.W.mg_of KH G a_is_fact_about, k_is_fact_about, b_is_fact_about⟩⟩
  have o_Book_is_fact := ok_Book_is_fact (P := l.prog) (w := w) (cl := cl) F_Book_is_fact.a hsy h_is_fact_about hcls
  have o__law_begun := ok__law_begun (P := l.prog) (w := w) (cl := cl) F__law_begun.a hsy m_abs m_int
  have h__law_begun : Has l.prog w K mg base "_law_begun" _ _ _ := ⟨⟨fa__law_begun, _, o__law_begun, PySem.W.mg_of KH G a__law_begun, k__law_begun, b__law_begun⟩⟩
  have o__law_mixed := ok__law_mixed (P := l.prog) (w := w) (cl := cl) F__law_mixed.a hsy m_int
  have h__law_mixed : Has l.prog w K mg base "_law_mixed" _ _ _ := ⟨⟨fa__law_mixed, _, o__law_mixed, PySem.W.mg_of KH G a__law_mixed, k__law_mixed, b__law_mixed⟩⟩
  have o__law_take := ok__law_take (P := l.prog) (w := w) (cl := cl) F__law_take.a hsy m_int h__law_mixed
  have h__law_take : Has l.prog w K mg base "_law_take" _ _ _ := ⟨⟨fa__law_take, _, o__law_take, PySem.W.mg_of KH G a__law_take, k__law_take, b__law_take⟩⟩
  have o__law_pick := ok__law_pick (P := l.prog) (w := w) (cl := cl) F__law_pick.a hsy m_len h__law_take
  have h__law_pick : Has l.prog w K mg base "_law_pick" _ _ _ := ⟨⟨fa__law_pick, _, o__law_pick, PySem.W.mg_of KH G a__law_pick, k__law_pick, b__law_pick⟩⟩
  have o__law_odd := ok__law_odd (P := l.prog) (w := w) (cl := cl) F__law_odd.a hsy h__law_pick
  have h__law_odd : Has l.prog w K mg base "_law_odd" _ _ _ := ⟨⟨fa__law_odd, _, o__law_odd, PySem.W.mg_of KH G a__law_odd, k__law_odd, b__law_odd⟩⟩
  have o__law_bent := fun n => ok__law_bent (P := l.prog) (w := w) (cl := cl) F__law_bent.a hsy (PySem.W.mg_of KH G a__law_bent) k__law_bent b__law_bent m_isinstance m_len m_list m_tuple h__law_take h__law_odd h__law_pick n
  have o__law_bent := o__law_bent 12
  have h__law_bent : Has l.prog w K mg base "_law_bent" _ _ _ := ⟨⟨fa__law_bent, _, o__law_bent, PySem.W.mg_of KH G a__law_bent, k__law_bent, b__law_bent⟩⟩
  have o_is_name := ok_is_name (P := l.prog) (w := w) (cl := cl) F_is_name.a hsy m_all m_isinstance m_len m_str G_MOST_LETTERS G_LETTERS
  have h_is_name : Has l.prog w K mg base "is_name" _ _ _ := ⟨⟨fa_is_name, _, o_is_name, PySem.W.mg_of KH G a_is_name, k_is_name, b_is_name⟩⟩
  have o_are_names := ok_are_names (P := l.prog) (w := w) (cl := cl) F_are_names.a hsy m_all m_isinstance m_len m_list m_set m_tuple h_is_name
  have h_are_names : Has l.prog w K mg base "are_names" _ _ _ := ⟨⟨fa_are_names, _, o_are_names, PySem.W.mg_of KH G a_are_names, k_are_names, b_are_names⟩⟩
  have o_is_met := ok_is_met (P := l.prog) (w := w) (cl := cl) F_is_met.a hsy m_all
  have h_is_met : Has l.prog w K mg base "is_met" _ _ _ := ⟨⟨fa_is_met, _, o_is_met, PySem.W.mg_of KH G a_is_met, k_is_met, b_is_met⟩⟩
  have o_moments_of := ok_moments_of (P := l.prog) (w := w) (cl := cl) F_moments_of.a hsy m_any m_sorted h_is_met
  have h_moments_of : Has l.prog w K mg base "moments_of" _ _ _ := ⟨⟨fa_moments_of, _, o_moments_of, PySem.W.mg_of KH G a_moments_of, k_moments_of, b_moments_of⟩⟩
  have o_need_facts := ok_need_facts (P := l.prog) (w := w) (cl := cl) F_need_facts.a hsy m_enumerate m_isinstance m_list m_tuple h_is_fact_about
  have h_need_facts : Has l.prog w K mg base "need_facts" _ _ _ := ⟨⟨fa_need_facts, _, o_need_facts, PySem.W.mg_of KH G a_need_facts, k_need_facts, b_need_facts⟩⟩
  have o_Book___init__ := ok_Book___init__ (P := l.prog) (w := w) (cl := cl) F_Book___init__ hsy m_any m_len m_sorted m_tuple G_MOST_FACTS G_MOST_DEEDS G_MOST_LOOKS h_moments_of h_need_facts h_are_names hcls
  obtain ⟨ds_h_Book___init__, dv_h_Book___init__, bd_h_Book___init__⟩ := binds_T (ps := ["self", "looks", "deeds", "facts"]) 4 1 (by decide) d_Book___init__ l_Book___init__ c_Book___init__ k_Book___init__ fun _ _ _ _ _ _ _ us its hl hi => match us, its, hl, hi with | [_, _, _, _], [_], _, _ => ⟨_, rfl, rfl⟩
  have h_Book___init__ : HasI l.prog w K mg base cl "Book" 6 ["self", "looks", "deeds", "facts"] 3 Dr.f_Book___init__ [] := ⟨⟨C_Book, fa_Book___init__, _, ds_h_Book___init__, _, PySem.W.mg_of KH G aC_Book, cl_Book, ⟨mk_Book, a_Book___init__, i_Book___init__, kC_Book⟩, o_Book___init__, bd_h_Book___init__, dv_h_Book___init__, fun _ _ => rfl⟩⟩
  have o__law_book := ok__law_book (P := l.prog) (w := w) (cl := cl) F__law_book.a hsy h_Book___init__
  have h__law_book : Has l.prog w K mg base "_law_book" _ _ _ := ⟨⟨fa__law_book, _, o__law_book, PySem.W.mg_of KH G a__law_book, k__law_book, b__law_book⟩⟩
  have o__law_fact := ok__law_fact (P := l.prog) (w := w) (cl := cl) F__law_fact.a hsy m_sorted m_tuple h__law_take h__law_pick
  have h__law_fact : Has l.prog w K mg base "_law_fact" _ _ _ := ⟨⟨fa__law_fact, _, o__law_fact, PySem.W.mg_of KH G a__law_fact, k__law_fact, b__law_fact⟩⟩
  have o__law_facts := ok__law_facts (P := l.prog) (w := w) (cl := cl) F__law_facts.a hsy m_range h__law_take h__law_fact
  have h__law_facts : Has l.prog w K mg base "_law_facts" _ _ _ := ⟨⟨fa__law_facts, _, o__law_facts, PySem.W.mg_of KH G a__law_facts, k__law_facts, b__law_facts⟩⟩
  have o__law_labels := ok__law_labels (P := l.prog) (w := w) (cl := cl) F__law_labels.a hsy m_range h__law_pick
  have h__law_labels : Has l.prog w K mg base "_law_labels" _ _ _ := ⟨⟨fa__law_labels, _, o__law_labels, PySem.W.mg_of KH G a__law_labels, k__law_labels, b__law_labels⟩⟩
  have o__law_ground := ok__law_ground (P := l.prog) (w := w) (cl := cl) F__law_ground.a hsy m_sorted h__law_labels h__law_take
  have h__law_ground : Has l.prog w K mg base "_law_ground" _ _ _ := ⟨⟨fa__law_ground, _, o__law_ground, PySem.W.mg_of KH G a__law_ground, k__law_ground, b__law_ground⟩⟩
  have o__law_drawn_ground := ok__law_drawn_ground (P := l.prog) (w := w) (cl := cl) F__law_drawn_ground.a hsy h__law_facts h__law_ground
  have h__law_drawn_ground : Has l.prog w K mg base "_law_drawn_ground" _ _ _ := ⟨⟨fa__law_drawn_ground, _, o__law_drawn_ground, PySem.W.mg_of KH G a__law_drawn_ground, k__law_drawn_ground, b__law_drawn_ground⟩⟩
  have o__law_every_fact := ok__law_every_fact (P := l.prog) (w := w) (cl := cl) F__law_every_fact.a hsy m_enumerate
  have h__law_every_fact : Has l.prog w K mg base "_law_every_fact" _ _ _ := ⟨⟨fa__law_every_fact, _, o__law_every_fact, PySem.W.mg_of KH G a__law_every_fact, k__law_every_fact, b__law_every_fact⟩⟩
  have h_Book_is_fact_MK_thing : HasMK l.prog w K mg base cl "Book" "is_fact" 5 ["self", "thing"] 1 .val Dr.f_Book_is_fact ["thing"] [0] := ⟨⟨C_Book, fa_Book_is_fact, _, cl_Book, cc_Book, ⟨a_Book_is_fact, i_Book_is_fact, k_Book_is_fact⟩, o_Book_is_fact, funKB F_Book_is_fact fun _ _ _ _ _ _ us ws h1 h2 => match us, ws, h1, h2 with | [_], [_], _, _ => rfl⟩⟩
  have h_Book_is_fact : HasM l.prog w K mg base cl "Book" "is_fact" 5 ["self", "thing"] 1 .val Dr.f_Book_is_fact := ⟨⟨C_Book, fa_Book_is_fact, _, cl_Book, cc_Book, ⟨a_Book_is_fact, i_Book_is_fact, k_Book_is_fact⟩, o_Book_is_fact, b_Book_is_fact⟩⟩
  have o_law := ok_law (P := l.prog) (w := w) (cl := cl) F_law.a hsy m_len m_min m_range m_repr h__law_take h__law_bent h__law_pick h__law_every_fact h__law_book h__law_drawn_ground h__law_begun h_Book_is_fact_MK_thing h_Book_is_fact
  exact fnG_A o_law
end K04
open PySem PySem.W PyProof.Rows
set_option maxHeartbeats 0 in
theorem PySem.Challenge.cw_turnedlooks_k04_facts_judged_holds : PySem.Challenge.rw_turnedlooks_k04_facts_judged.Holds := by
  w_on; o_law; k_head; (case hw => w_witness2)
  k_fill
  refine Sh.walkG (l := PySem.Challenge.rw_turnedlooks_k04_facts_judged) (n := 63) (k := 18) (x := "_law_script") (sp := fun w => Sh.spA _ [.val] .val K04.f_law) rfl (by decide) rfl ⟨rfl, by decide, by decide⟩ (by decide +kernel) (fun w h Y => PySem.W.kIn_of Y) ?F (fun w H a ns hl hO hS => ⟨rfl, fun cl => Sh.law_start hl hO hS (K04.law_true ns hl)⟩)
  case F =>
    intro w mg fa h KX G hmg
    refine' K04.all_mk KX G hmg ?aC_Book ?kC_Book ?pg_Book ?hd_Book ?po_Book ?sa_Book ?mk_Book ?no_Book_b_looks ?no_Book_b_deeds ?no_Book_b_facts ?no_Book_b_moments ?a_is_one_of ?l_is_one_of ?c_is_one_of ?k_is_one_of ?a_is_told ?l_is_told ?c_is_told ?k_is_told ?a_are_pairs ?l_are_pairs ?c_are_pairs ?k_are_pairs ?a_is_fact_about ?l_is_fact_about ?c_is_fact_about ?k_is_fact_about ?a_Book_is_fact ?i_Book_is_fact ?l_Book_is_fact ?c_Book_is_fact ?k_Book_is_fact ?a__law_begun ?l__law_begun ?c__law_begun ?k__law_begun ?a__law_mixed ?l__law_mixed ?c__law_mixed ?k__law_mixed ?a__law_take ?l__law_take ?c__law_take ?k__law_take ?a__law_pick ?l__law_pick ?c__law_pick ?k__law_pick ?a__law_odd ?l__law_odd ?c__law_odd ?k__law_odd ?a__law_bent ?l__law_bent ?c__law_bent ?k__law_bent ?a_is_name ?l_is_name ?c_is_name ?k_is_name ?a_are_names ?l_are_names ?c_are_names ?k_are_names ?a_is_met ?l_is_met ?c_is_met ?k_is_met ?a_moments_of ?l_moments_of ?c_moments_of ?k_moments_of ?a_need_facts ?l_need_facts ?c_need_facts ?k_need_facts ?a_Book___init__ ?i_Book___init__ ?l_Book___init__ ?c_Book___init__ ?k_Book___init__ ?t_Book___init__ ?t0_Book___init__ ?a__law_book ?l__law_book ?c__law_book ?k__law_book ?a__law_fact ?l__law_fact ?c__law_fact ?k__law_fact ?a__law_facts ?l__law_facts ?c__law_facts ?k__law_facts ?a__law_labels ?l__law_labels ?c__law_labels ?k__law_labels ?a__law_ground ?l__law_ground ?c__law_ground ?k__law_ground ?a__law_drawn_ground ?l__law_drawn_ground ?c__law_drawn_ground ?k__law_drawn_ground ?a__law_every_fact ?l__law_every_fact ?c__law_every_fact ?k__law_every_fact ?a_law ?l_law ?c_law ?k_law ?g_LETTERS ?g_OUTCOMES ?h_OUTCOMES ?g_MOST_LETTERS ?g_MOST_LOOKS ?g_MOST_DEEDS ?g_MOST_FACTS ?z_abs ?z_all ?z_any ?z_bool ?z_enumerate ?z_int ?z_isinstance ?z_len ?z_list ?z_min ?z_range ?z_repr ?z_set ?z_sorted ?z_str ?z_tuple
    (case aC_Book => k_is)
    (case kC_Book => k_is)
    (case pg_Book => k_is)
    (case hd_Book => k_is)
    (case po_Book => k_is)
    (case sa_Book => k_is)
    (case mk_Book => k_is)
    (case no_Book_b_looks => k_is)
    (case no_Book_b_deeds => k_is)
    (case no_Book_b_facts => k_is)
    (case no_Book_b_moments => k_is)
    (case a_is_one_of => k_is)
    (case l_is_one_of => k_is)
    (case c_is_one_of => k_is)
    (case k_is_one_of => k_is)
    (case a_is_told => k_is)
    (case l_is_told => k_is)
    (case c_is_told => k_is)
    (case k_is_told => k_is)
    (case a_are_pairs => k_is)
    (case l_are_pairs => k_is)
    (case c_are_pairs => k_is)
    (case k_are_pairs => k_is)
    (case a_is_fact_about => k_is)
    (case l_is_fact_about => k_is)
    (case c_is_fact_about => k_is)
    (case k_is_fact_about => k_is)
    (case a_Book_is_fact => k_is)
    (case i_Book_is_fact => k_is)
    (case l_Book_is_fact => k_is)
    (case c_Book_is_fact => k_is)
    (case k_Book_is_fact => k_is)
    (case a__law_begun => k_is)
    (case l__law_begun => k_is)
    (case c__law_begun => k_is)
    (case k__law_begun => k_is)
    (case a__law_mixed => k_is)
    (case l__law_mixed => k_is)
    (case c__law_mixed => k_is)
    (case k__law_mixed => k_is)
    (case a__law_take => k_is)
    (case l__law_take => k_is)
    (case c__law_take => k_is)
    (case k__law_take => k_is)
    (case a__law_pick => k_is)
    (case l__law_pick => k_is)
    (case c__law_pick => k_is)
    (case k__law_pick => k_is)
    (case a__law_odd => k_is)
    (case l__law_odd => k_is)
    (case c__law_odd => k_is)
    (case k__law_odd => k_is)
    (case a__law_bent => k_is)
    (case l__law_bent => k_is)
    (case c__law_bent => k_is)
    (case k__law_bent => k_is)
    (case a_is_name => k_is)
    (case l_is_name => k_is)
    (case c_is_name => k_is)
    (case k_is_name => k_is)
    (case a_are_names => k_is)
    (case l_are_names => k_is)
    (case c_are_names => k_is)
    (case k_are_names => k_is)
    (case a_is_met => k_is)
    (case l_is_met => k_is)
    (case c_is_met => k_is)
    (case k_is_met => k_is)
    (case a_moments_of => k_is)
    (case l_moments_of => k_is)
    (case c_moments_of => k_is)
    (case k_moments_of => k_is)
    (case a_need_facts => k_is)
    (case l_need_facts => k_is)
    (case c_need_facts => k_is)
    (case k_need_facts => k_is)
    (case a_Book___init__ => k_is)
    (case i_Book___init__ => k_is)
    (case l_Book___init__ => k_is)
    (case c_Book___init__ => k_is)
    (case k_Book___init__ => k_is)
    (case t_Book___init__ => k_is)
    (case t0_Book___init__ => k_is)
    (case a__law_book => k_is)
    (case l__law_book => k_is)
    (case c__law_book => k_is)
    (case k__law_book => k_is)
    (case a__law_fact => k_is)
    (case l__law_fact => k_is)
    (case c__law_fact => k_is)
    (case k__law_fact => k_is)
    (case a__law_facts => k_is)
    (case l__law_facts => k_is)
    (case c__law_facts => k_is)
    (case k__law_facts => k_is)
    (case a__law_labels => k_is)
    (case l__law_labels => k_is)
    (case c__law_labels => k_is)
    (case k__law_labels => k_is)
    (case a__law_ground => k_is)
    (case l__law_ground => k_is)
    (case c__law_ground => k_is)
    (case k__law_ground => k_is)
    (case a__law_drawn_ground => k_is)
    (case l__law_drawn_ground => k_is)
    (case c__law_drawn_ground => k_is)
    (case k__law_drawn_ground => k_is)
    (case a__law_every_fact => k_is)
    (case l__law_every_fact => k_is)
    (case c__law_every_fact => k_is)
    (case k__law_every_fact => k_is)
    (case a_law => k_is)
    (case l_law => k_is)
    (case c_law => k_is)
    (case k_law => k_is)
    (case g_LETTERS => k_is)
    (case g_OUTCOMES => k_is)
    (case h_OUTCOMES => k_is)
    (case g_MOST_LETTERS => k_is)
    (case g_MOST_LOOKS => k_is)
    (case g_MOST_DEEDS => k_is)
    (case g_MOST_FACTS => k_is)
    (case z_abs => k_is)
    (case z_all => k_is)
    (case z_any => k_is)
    (case z_bool => k_is)
    (case z_enumerate => k_is)
    (case z_int => k_is)
    (case z_isinstance => k_is)
    (case z_len => k_is)
    (case z_list => k_is)
    (case z_min => k_is)
    (case z_range => k_is)
    (case z_repr => k_is)
    (case z_set => k_is)
    (case z_sorted => k_is)
    (case z_str => k_is)
    (case z_tuple => k_is)
