import PyProof.Rows.All
import Wide.All
import OpenK.AllK
import Wide.FinOn
import HandS.ForMost
import HandS.Exc
import HandS.ExcOwn
import HandS.TryOnly
import HandS.CallSlots
import HandS.Defaults
import HandS.Iter
import HandS.Rev
import KE.GoesEnum
import HandS.Comp
import HandS.List
import HandS.TupAny
import HandS.TupMul
import HandS.Style
import KE.DataEq
import HandS.Text
import HandS.Dict
import HandS.TupSets
import HandS.SetFor
import KE.KeyNested
import KE.SortData
import PyProof.TupleOfSeq
import HandS.Strs
import KE.DataIsa
import KE.DataAny
import KE.DataFind
import HandS.More
import KE.KDictCopyH
import KE.KDictZip
import HandS.HeadEnd
import HandS.Base
import HandS.Call
import HandS.Ends
import HandS.Words
import HandS.WordsExc
import KE.KStateDown
import HandS.Head0
import HandS.Head1
import HandS.Head2
import HandS.HeadHook1
import HandS.HeadHook2
import PySem.Challenge.RW_partviews_k92_growing_rings_at_their_edg
set_option Elab.async false
set_option linter.all false
set_option maxRecDepth 100000
namespace Pv
open PySem PySem.Spec PyProof.Rows L2

/-! ## what the defs reckon with -/
/-- plain data -/
abbrev D := PyData
abbrev Sl := L2.St
/-- a container that a frame alone knows: a list, a dict with leaf keys, a dict with tuple keys; z: the script -/
inductive Ct where
  | l (xs : List D)
  | k (kvs : List (Key × D))
  | t (kvs : List (List Key × D))
  | z (xs : List D)
/-- own: of this frame; pin: the caller's, lent to be changed; bor: lent to be read -/
inductive Mo where
  | own | pin | bor
  deriving DecidableEq
inductive SV where
  | d (x : D)
  | c (m : Mo) (t : Ct)
abbrev Env := List (Option SV)
/-- a value: by itself, or what stands in a slot -/
inductive XV where
  | v (s : SV)
  | r (i : Nat)
structure Exn where
  cls : Str
  fs : List (Str × D) := []
inductive R (α : Type) where
  | ok (a : α) (e : Env)
  | exc (x : Exn) (e : Env)
  | bad
abbrev FE := Env → R XV
inductive RS where
  | nx (e : Env)
  | rt (x : XV) (e : Env)
  | bk (e : Env)
  | ct (e : Env)
  | exc (x : Exn) (e : Env)
  | bad
abbrev FS := Env → RS
def R.bind {α β : Type} (x : R α) (f : α → Env → R β) : R β := match x with
  | .ok a e => f a e
  | .exc x e => .exc x e
  | .bad => .bad

/-! ## how it stands in the heap -/
mutual
inductive Dq (F : Hp) : V → D → Prop
  | non : Dq F .non .none
  | bl (b : Bool) : Dq F (.bl b) (.bool b)
  | int (i : Int) : Dq F (.int i) (.int i)
  | str (x : Str) : Dq F (.str x) (.str x)
  | lst {a : Addr} {vs : List V} {ds : List D} : F a = some (.lst vs) → DqAll F vs ds → Dq F (.ref a) (.list ds)
  | tup {a : Addr} {vs : List V} {ds : List D} : F a = some (.tup vs) → DqAll F vs ds → Dq F (.ref a) (.tuple ds)
inductive DqAll (F : Hp) : List V → List D → Prop
  | nil : DqAll F [] []
  | cons {v : V} {vs : List V} {d : D} {ds : List D} : Dq F v d → DqAll F vs ds → DqAll F (v :: vs) (d :: ds)
end
mutual
theorem Dq.up {F F' : Hp} (hs : Same F F') : ∀ (d : D) (v : V), Dq F v d → Dq F' v d
  | .none, _, h => by cases h; exact .non
  | .bool b, _, h => by cases h; exact .bl b
  | .int i, _, h => by cases h; exact .int i
  | .str x, _, h => by cases h; exact .str x
  | .list ds, _, h => by
    cases h with
    | lst a b => exact .lst (hs _ _ a) (DqAll.up hs ds _ b)
  | .tuple ds, _, h => by
    cases h with
    | tup a b => exact .tup (hs _ _ a) (DqAll.up hs ds _ b)
  | .dict _, _, h => by cases h
theorem DqAll.up {F F' : Hp} (hs : Same F F') : ∀ (ds : List D) (vs : List V), DqAll F vs ds → DqAll F' vs ds
  | [], _, h => by cases h; exact .nil
  | d :: ds, _, h => by
    cases h with
    | cons a b => exact .cons (Dq.up hs d _ a) (DqAll.up hs ds _ b)
end
mutual
theorem Dq.dp (K : PySem.W.Frag) {F : Hp} : ∀ (d : D) (v : V), Dq F v d → Dp K F v d
  | .none, _, h => by cases h; exact .non
  | .bool b, _, h => by cases h; exact .bl b
  | .int i, _, h => by cases h; exact .int i
  | .str x, _, h => by cases h; exact .str x
  | .list ds, _, h => by
    cases h with
    | lst a b => exact .lst (SqL.of a) (DqAll.dp K ds _ b)
  | .tuple ds, _, h => by
    cases h with
    | tup a b => exact .tup (SqT.of a) (DqAll.dp K ds _ b)
  | .dict _, _, h => by cases h
theorem DqAll.dp (K : PySem.W.Frag) {F : Hp} : ∀ (ds : List D) (vs : List V), DqAll F vs ds → DpAll K F vs ds
  | [], _, h => by cases h; exact .nil
  | d :: ds, _, h => by
    cases h with
    | cons a b => exact .cons (Dq.dp K d _ a) (DqAll.dp K ds _ b)
end
theorem DqAll.length {F : Hp} : ∀ {ds : List D} {vs : List V}, DqAll F vs ds → vs.length = ds.length
  | _, _, .nil => rfl
  | _, _, .cons _ t => by
    show _ + 1 = _ + 1
    rw [DqAll.length t]
theorem DqAll.get {F : Hp} : ∀ {ds : List D} {vs : List V} {i : Nat} {d : D}, DqAll F vs ds → ds[i]? = some d → ∃ v, vs[i]? = some v ∧ Dq F v d
  | _, _, i, d, .nil, h => by simp at h
  | _, _, 0, d, .cons a _, h => by
    simp at h
    subst h
    exact ⟨_, rfl, a⟩
  | _, _, i + 1, d, .cons _ t, h => by
    obtain ⟨v, e, q⟩ := DqAll.get (i := i) t (by simpa using h)
    exact ⟨v, by simpa using e, q⟩
theorem DqAll.getV {F : Hp} {ds : List D} {vs : List V} {i : Nat} {v : V} (h : DqAll F vs ds) (e : vs[i]? = some v) : ∃ d, ds[i]? = some d ∧ Dq F v d := by
  have hl := h.length
  have hi : i < vs.length := (List.getElem?_eq_some_iff.mp e).1
  obtain ⟨u, e2, q⟩ := h.get (i := i) (d := ds[i]) (List.getElem?_eq_getElem (by omega))
  rw [e] at e2
  cases e2
  exact ⟨_, List.getElem?_eq_getElem (by omega), q⟩
theorem DqAll.app {F : Hp} : ∀ {ds es : List D} {vs us : List V}, DqAll F vs ds → DqAll F us es → DqAll F (vs ++ us) (ds ++ es)
  | _, _, _, _, .nil, h => h
  | _, _, _, _, .cons a t, h => .cons a (DqAll.app t h)
theorem DqAll.one {F : Hp} {v : V} {d : D} (h : Dq F v d) : DqAll F [v] [d] := .cons h .nil
theorem DqAll.take {F : Hp} : ∀ {ds : List D} {vs : List V} (n : Nat), DqAll F vs ds → DqAll F (vs.take n) (ds.take n)
  | _, _, 0, _ => by
    rw [List.take_zero, List.take_zero]
    exact .nil
  | _, _, n + 1, .nil => .nil
  | _, _, n + 1, .cons a t => .cons a (DqAll.take n t)
theorem DqAll.drop {F : Hp} : ∀ {ds : List D} {vs : List V} (n : Nat), DqAll F vs ds → DqAll F (vs.drop n) (ds.drop n)
  | _, _, 0, h => h
  | _, _, n + 1, .nil => .nil
  | _, _, n + 1, .cons _ t => DqAll.drop n t
theorem DqAll.set {F : Hp} {v : V} {d : D} (h : Dq F v d) : ∀ {ds : List D} {vs : List V} (n : Nat), DqAll F vs ds → DqAll F (vs.set n v) (ds.set n d)
  | _, _, _, .nil => .nil
  | _, _, 0, .cons _ t => .cons h t
  | _, _, n + 1, .cons a t => .cons a (DqAll.set h n t)
theorem DqAll.rev {F : Hp} : ∀ {ds : List D} {vs : List V}, DqAll F vs ds → DqAll F vs.reverse ds.reverse
  | _, _, .nil => .nil
  | _, _, .cons a t => by
    rw [List.reverse_cons, List.reverse_cons]
    exact (DqAll.rev t).app (.one a)
theorem DqAll.erase {F : Hp} : ∀ {ds : List D} {vs : List V} (n : Nat), DqAll F vs ds → DqAll F (vs.eraseIdx n) (ds.eraseIdx n)
  | _, _, _, .nil => .nil
  | _, _, 0, .cons _ t => t
  | _, _, n + 1, .cons a t => .cons a (DqAll.erase n t)

def KvR {κ : Type} (F : Hp) : List (κ × V) → List (κ × D) → Prop := Paired fun p q => p.1 = q.1 ∧ Dq F p.2 q.2
theorem KvR.up {κ : Type} {F F' : Hp} (hs : Same F F') : ∀ {ks : List (κ × V)} {kvs : List (κ × D)}, KvR F ks kvs → KvR F' ks kvs
  | _, _, .nil => .nil
  | _, _, .cons a t => .cons ⟨a.1, Dq.up hs _ _ a.2⟩ (KvR.up hs t)
def RepC (K : PySem.W.Frag) (F H : Hp) (a : Addr) : Ct → Prop
  | .l xs => ∃ vs, H a = some (.lst vs) ∧ DqAll F vs xs
  | .k kvs => ∃ ks, H a = some (.dK ks) ∧ KvR F ks kvs
  | .t kvs => ∃ ks, H a = some (.dT ks) ∧ KvR F ks kvs
  | .z xs => ∃ vs, ((∃ o, H a = some (.frz o (.lst vs))) ∨ SqL K (fun _ => none) a vs) ∧ DqAll F vs xs
/-- may it change -/
def Ct.mut : Ct → Bool
  | .z _ => false
  | _ => true
def RepS (K : PySem.W.Frag) (F H : Hp) (v : V) : SV → Prop
  | .d x => Dq F v x
  | .c _ t => ∃ a, v = .ref a ∧ (t.mut = true → F a = none) ∧ RepC K F H a t
/-- the roots of the slots' containers; of those that may change -/
def CR (σ : Sl) (ρ : Env) (a : Addr) : Prop := ∃ (i : Nat) (m : Mo) (t : Ct), ρ[i]? = some (some (.c m t)) ∧ t.mut = true ∧ σ[i]? = some (some (.ref a))
def OR (σ : Sl) (ρ : Env) (a : Addr) : Prop := ∃ (i : Nat) (m : Mo) (t : Ct), ρ[i]? = some (some (.c m t)) ∧ t.mut = true ∧ m ≠ .bor ∧ σ[i]? = some (some (.ref a))
theorem OR.cr {σ : Sl} {ρ : Env} {a : Addr} (h : OR σ ρ a) : CR σ ρ a := let ⟨i, m, t, h1, hm, _, h2⟩ := h; ⟨i, m, t, h1, hm, h2⟩
structure Rel (K : PySem.W.Frag) (σ0 : Sl) (F H : Hp) (σ : Sl) (ρ : Env) : Prop where
  sub : Same F H
  len : ρ.length = σ.length
  slot : ∀ (i : Nat) (sv : SV), ρ[i]? = some (some sv) → ∃ v, σ[i]? = some (some v) ∧ RepS K F H v sv
  sep : ∀ (i j : Nat) (m m' : Mo) (t t' : Ct) (a : Addr), i ≠ j → ρ[i]? = some (some (.c m t)) → ρ[j]? = some (some (.c m' t')) → t.mut = true → t'.mut = true → m ≠ .bor → σ[i]? = some (some (.ref a)) → σ[j]? = some (some (.ref a)) → False
  pin : ∀ (i : Nat) (t : Ct), ρ[i]? = some (some (.c .pin t)) → σ[i]? = σ0[i]?
/-- what a step leaves and brings -/
structure Ext (σ : Sl) (ρ : Env) (F H : Hp) (σ' : Sl) (ρ' : Env) (F' H' : Hp) : Prop where
  f : Same F F'
  h : ∀ a o, H a = some o → ¬ OR σ ρ a → H' a = some o
  n : ∀ a o, F' a = some o → F a = some o ∨ H a = none ∨ OR σ ρ a
  o : ∀ a, OR σ' ρ' a → OR σ ρ a ∨ H a = none
  c : ∀ a, CR σ' ρ' a → CR σ ρ a ∨ H a = none
  s : ∀ a, (∃ o, H a = some o) → ∃ o, H' a = some o
theorem Ext.refl (σ : Sl) (ρ : Env) (F H : Hp) : Ext σ ρ F H σ ρ F H :=
  ⟨fun _ _ h => h, fun _ _ h _ => h, fun _ _ h => .inl h, fun _ h => .inl h, fun _ h => .inl h, fun _ h => h⟩
theorem Ext.trans {σ σ1 σ2 : Sl} {ρ ρ1 ρ2 : Env} {F H F1 H1 F2 H2 : Hp} (a : Ext σ ρ F H σ1 ρ1 F1 H1) (b : Ext σ1 ρ1 F1 H1 σ2 ρ2 F2 H2) : Ext σ ρ F H σ2 ρ2 F2 H2 := by
  have gone : ∀ x, H1 x = none → H x = none := fun x h => by
    cases e : H x with
    | none => rfl
    | some o =>
      obtain ⟨o', e'⟩ := a.s x ⟨o, e⟩
      rw [h] at e'
      cases e'
  refine ⟨a.f.trans b.f, fun x o h no => ?_, fun x o h => ?_, fun x h => ?_, fun x h => ?_, fun x h => b.s x (a.s x h)⟩
  · refine b.h x o (a.h x o h no) fun q => ?_
    rcases a.o x q with z | z
    · exact no z
    · rw [h] at z
      cases z
  · rcases b.n x o h with z | z | z
    · exact a.n x o z
    · exact .inr (.inl (gone x z))
    · rcases a.o x z with y | y
      · exact .inr (.inr y)
      · exact .inr (.inl y)
  · rcases b.o x h with z | z
    · exact a.o x z
    · exact .inr (gone x z)
  · rcases b.c x h with z | z
    · exact a.c x z
    · exact .inr (gone x z)

theorem Ext.gone {σ σ1 : Sl} {ρ ρ1 : Env} {F H F1 H1 : Hp} (e : Ext σ ρ F H σ1 ρ1 F1 H1) {x : Addr} (h : H1 x = none) : H x = none := by
  cases q : H x with
  | none => rfl
  | some o =>
    obtain ⟨o', e'⟩ := e.s x ⟨o, q⟩
    rw [h] at e'
    cases e'
/-! ### keeping -/
theorem RepC.up {K : PySem.W.Frag} {F F' H H' : Hp} {a : Addr} (hs : Same F F') (e : ∀ o, H a = some o → H' a = some o) : ∀ {t : Ct}, RepC K F H a t → RepC K F' H' a t
  | .l xs, h => let ⟨vs, h1, h2⟩ := h; ⟨vs, e _ h1, DqAll.up hs _ _ h2⟩
  | .k kvs, h => let ⟨vs, h1, h2⟩ := h; ⟨vs, e _ h1, h2.up hs⟩
  | .t kvs, h => let ⟨vs, h1, h2⟩ := h; ⟨vs, e _ h1, h2.up hs⟩
  | .z xs, h => by
    obtain ⟨vs, h1, h2⟩ := h
    refine ⟨vs, ?_, DqAll.up hs _ _ h2⟩
    rcases h1 with ⟨o, h⟩ | h
    · exact .inl ⟨o, e _ h⟩
    · exact .inr h
theorem RepC.there {K : PySem.W.Frag} {F H : Hp} {a : Addr} : ∀ {t : Ct}, t.mut = true → RepC K F H a t → ∃ o, H a = some o
  | .l _, _, h => let ⟨_, h1, _⟩ := h; ⟨_, h1⟩
  | .k _, _, h => let ⟨_, h1, _⟩ := h; ⟨_, h1⟩
  | .t _, _, h => let ⟨_, h1, _⟩ := h; ⟨_, h1⟩

section
variable {K : PySem.W.Frag} {s0 : Sl} {F H F' H' : Hp} {σ σ' : Sl} {ρ ρ' : Env}
/-- a root's container -/
theorem Rel.root (r : Rel K s0 F H σ ρ) {i : Nat} {m : Mo} {t : Ct} (h : ρ[i]? = some (some (.c m t))) : ∃ a, σ[i]? = some (some (.ref a)) ∧ (t.mut = true → F a = none) ∧ RepC K F H a t := by
  obtain ⟨v, e, a, rfl, q⟩ := r.slot i _ h
  exact ⟨a, e, q⟩
theorem Rel.dat (r : Rel K s0 F H σ ρ) {i : Nat} {x : D} (h : ρ[i]? = some (some (.d x))) : ∃ v, σ[i]? = some (some v) ∧ Dq F v x := r.slot i _ h
/-- the heaps grow, the slots stay: nothing but new things is frozen -/
theorem Rel.grow (r : Rel K s0 F H σ ρ) (hf : Same F F') (hh : Same H H') (hs : Same F' H') (hn : ∀ a o, F' a = some o → F a = some o ∨ H a = none) : Rel K s0 F' H' σ ρ := by
  refine ⟨hs, r.len, fun i sv h => ?_, r.sep, r.pin⟩
  obtain ⟨v, e, q⟩ := r.slot i sv h
  refine ⟨v, e, ?_⟩
  cases sv with
  | d x => exact Dq.up hf _ _ q
  | c m t =>
    obtain ⟨a, rfl, fa, q⟩ := q
    refine ⟨a, rfl, fun hm => ?_, q.up hf (hh a)⟩
    obtain ⟨o, eo⟩ := q.there hm
    cases z : F' a with
    | none => rfl
    | some o' =>
      rcases hn a o' z with y | y
      · rw [fa hm] at y
        cases y
      · rw [eo] at y
        cases y
theorem Ext.grow (hf : Same F F') (hh : Same H H') (hn : ∀ a o, F' a = some o → F a = some o ∨ H a = none) : Ext σ ρ F H σ ρ F' H' :=
  ⟨hf, fun _ _ h _ => hh _ _ h, fun a o h => (hn a o h).elim .inl fun z => .inr (.inl z), fun _ h => .inl h, fun _ h => .inl h, fun a ⟨o, h⟩ => ⟨o, hh _ _ h⟩⟩
end

/-! ## readings -/
def RepX (K : PySem.W.Frag) (F H : Hp) (σ : Sl) (ρ : Env) (v : V) : XV → Prop
  | .v (.d x) => Dq F v x
  | .v (.c m t) => m = .own ∧ t.mut = true ∧ ∃ a, v = .ref a ∧ F a = none ∧ ¬ CR σ ρ a ∧ RepC K F H a t
  | .r i => σ[i]? = some (some v)
/-- an exception by the name of its class -/
def RepE (mg : Str → Option Value) (F H : Hp) (x : Exn) (c : Value) (d : Option Addr) : Prop :=
  (∃ C, c = .ref C ∧ mg x.cls = some (.ref C)) ∧ match x.fs with
    | [] => True
    | fs => ∃ a ks, d = some a ∧ H a = some (.xd ks) ∧ KvR F ks fs

/-- the fixed things of a def's walk: what is read, the slots at the entry, what is wanted of an exception -/
structure Gd where
  K : PySem.W.Frag
  mg : Str → Option Value
  s0 : Sl
  W : WX

/-- what is wanted of a result, from a state -/
def PE' {α : Type} (G : Gd) (σ : Sl) (ρ : Env) (F H : Hp) (r : R α) (Q : α → Env → Hp → Hp → Prop) : Prop := match r with
  | .ok x ρ' => ∀ F' H', Rel G.K G.s0 F' H' σ ρ' → Ext σ ρ F H σ ρ' F' H' → Q x ρ' F' H'
  | .exc x ρ' => ∀ F' H' c d, Rel G.K G.s0 F' H' σ ρ' → Ext σ ρ F H σ ρ' F' H' → RepE G.mg F' H' x c d → G.W c d σ H'
  | .bad => False
/-- a container by itself is new -/
def Fr0 (H : Hp) (v : V) : XV → Prop
  | .v (.c _ _) => ∀ a, v = .ref a → H a = none
  | _ => True
def tE (G : Gd) (f : FE) : TE := fun σ H Q => ∃ F ρ, Rel G.K G.s0 F H σ ρ ∧ PE' G σ ρ F H (f ρ) fun x ρ' F' H' => ∀ v, RepX G.K F' H' σ ρ' v x → Fr0 H v x → Q v H'
def tD (G : Gd) (f : Env → R D) : TE := fun σ H Q => ∃ F ρ, Rel G.K G.s0 F H σ ρ ∧ PE' G σ ρ F H (f ρ) fun x ρ' F' H' => ∀ v, Dq F' v x → Q v H'
abbrev FT := Env → R Bool
def tT (G : Gd) (f : FT) : TT := fun σ H Q => ∃ F ρ, Rel G.K G.s0 F H σ ρ ∧ PE' G σ ρ F H (f ρ) fun b _ _ H' => Q b H'
abbrev FA := Env → R (List XV)
abbrev RepXs (K : PySem.W.Frag) (F H : Hp) (σ : Sl) (ρ : Env) : List V → List XV → Prop := Paired (RepX K F H σ ρ)
def tA (G : Gd) (f : FA) : TA := fun σ H Q => ∃ F ρ, Rel G.K G.s0 F H σ ρ ∧ PE' G σ ρ F H (f ρ) fun xs ρ' F' H' => ∀ vs, RepXs G.K F' H' σ ρ' vs xs → Q vs H'
abbrev FG := XV → Env → Option Env
/-- only the slots at these places are written -/
def Wr (ws : List Nat) (σ σ' : Sl) : Prop := σ'.length = σ.length ∧ ∀ j, j ∉ ws → σ'[j]? = σ[j]?
def tG (G : Gd) (ws : List Nat) (g : FG) : TG := fun v σ H Q => ∃ F ρ x ρ' F0 H0 ρ0, Rel G.K G.s0 F H σ ρ ∧ Ext σ ρ0 F0 H0 σ ρ F H ∧ RepX G.K F H σ ρ v x ∧ Fr0 H0 v x ∧ g x ρ = some ρ' ∧
  ∀ F' H' σ', Rel G.K G.s0 F' H' σ' ρ' → Ext σ ρ0 F0 H0 σ' ρ' F' H' → Wr ws σ σ' → Q σ' H'
def PS' (G : Gd) (σ : Sl) (ρ : Env) (F H : Hp) (r : RS) (D : Ends) : Prop := match r with
  | .nx ρ' => ∀ F' H' σ', Rel G.K G.s0 F' H' σ' ρ' → Ext σ ρ F H σ' ρ' F' H' → D.nx σ' H'
  | .rt x ρ' => ∀ F' H' σ' v, Rel G.K G.s0 F' H' σ' ρ' → Ext σ ρ F H σ' ρ' F' H' → RepX G.K F' H' σ' ρ' v x → Fr0 H v x → D.rt v H'
  | .bk ρ' => ∀ F' H' σ', Rel G.K G.s0 F' H' σ' ρ' → Ext σ ρ F H σ' ρ' F' H' → D.bk σ' H'
  | .ct ρ' => ∀ F' H' σ', Rel G.K G.s0 F' H' σ' ρ' → Ext σ ρ F H σ' ρ' F' H' → D.ct σ' H'
  | .exc x ρ' => ∀ F' H' σ' c d, Rel G.K G.s0 F' H' σ' ρ' → Ext σ ρ F H σ' ρ' F' H' → RepE G.mg F' H' x c d → G.W c d σ' H'
  | .bad => False
def tS (G : Gd) (g : FS) : TS := fun D σ H => ∃ F ρ, Rel G.K G.s0 F H σ ρ ∧ PS' G σ ρ F H (g ρ) D

section
variable {G : Gd} {σ : Sl} {ρ : Env} {F H : Hp} {α β : Type}
theorem PE'.mono {r : R α} {Q Q' : α → Env → Hp → Hp → Prop} (h : PE' G σ ρ F H r Q) (hq : ∀ x ρ' F' H', r = .ok x ρ' → Rel G.K G.s0 F' H' σ ρ' → Ext σ ρ F H σ ρ' F' H' → Q x ρ' F' H' → Q' x ρ' F' H') : PE' G σ ρ F H r Q' := by
  cases r with
  | ok x ρ' => exact fun F' H' a b => hq x ρ' F' H' rfl a b (h F' H' a b)
  | exc x ρ' => exact h
  | bad => exact h
theorem PE'.from {r : R α} {Q : α → Env → Hp → Hp → Prop} {ρ1 : Env} {F1 H1 : Hp} (h : PE' G σ ρ F H r Q) (e : Ext σ ρ F H σ ρ1 F1 H1) : PE' G σ ρ1 F1 H1 r Q := by
  cases r with
  | ok x ρ' => exact fun F' H' a b => h F' H' a (e.trans b)
  | exc x ρ' => exact fun F' H' c d a b => h F' H' c d a (e.trans b)
  | bad => exact h
theorem PE'.seq {r : R α} {k : α → Env → R β} {Q : β → Env → Hp → Hp → Prop} (h : PE' G σ ρ F H (r.bind k) Q) :
    PE' G σ ρ F H r fun x ρ1 F1 H1 => Rel G.K G.s0 F1 H1 σ ρ1 ∧ Ext σ ρ F H σ ρ1 F1 H1 ∧ PE' G σ ρ1 F1 H1 (k x ρ1) Q := by
  cases r with
  | ok x ρ' => exact fun F' H' a b => ⟨a, b, PE'.from h b⟩
  | exc x ρ' => exact h
  | bad => exact h
theorem PS'.from {r : RS} {D : Ends} {σ1 : Sl} {ρ1 : Env} {F1 H1 : Hp} (h : PS' G σ ρ F H r D) (e : Ext σ ρ F H σ1 ρ1 F1 H1) : PS' G σ1 ρ1 F1 H1 r D := by
  cases r with
  | nx ρ' => exact fun F' H' σ' a b => h F' H' σ' a (e.trans b)
  | rt x ρ' => exact fun F' H' σ' v a b c d => h F' H' σ' v a (e.trans b) c (by
      cases x with
      | r i => trivial
      | v s =>
        cases s with
        | d y => trivial
        | c m t => exact fun z y => e.gone (d z y))
  | bk ρ' => exact fun F' H' σ' a b => h F' H' σ' a (e.trans b)
  | ct ρ' => exact fun F' H' σ' a b => h F' H' σ' a (e.trans b)
  | exc x ρ' => exact fun F' H' σ' c d a b => h F' H' σ' c d a (e.trans b)
  | bad => exact h
theorem PS'.mono {r : RS} {D D' : Ends} (h : PS' G σ ρ F H r D) (h1 : ∀ σ H, D.nx σ H → D'.nx σ H) (h2 : ∀ v H, D.rt v H → D'.rt v H) (h3 : ∀ σ H, D.bk σ H → D'.bk σ H) (h4 : ∀ σ H, D.ct σ H → D'.ct σ H) : PS' G σ ρ F H r D' := by
  cases r with
  | nx ρ' => exact fun F' H' σ' a b => h1 _ _ (h F' H' σ' a b)
  | rt x ρ' => exact fun F' H' σ' v a b c d => h2 _ _ (h F' H' σ' v a b c d)
  | bk ρ' => exact fun F' H' σ' a b => h3 _ _ (h F' H' σ' a b)
  | ct ρ' => exact fun F' H' σ' a b => h4 _ _ (h F' H' σ' a b)
  | exc x ρ' => exact h
  | bad => exact h
/-- from where one stands -/
theorem PE'.here {x : α} {Q : α → Env → Hp → Hp → Prop} (h : PE' G σ ρ F H (.ok x ρ) Q) (r : Rel G.K G.s0 F H σ ρ) : Q x ρ F H := h F H r (Ext.refl _ _ _ _)
end

section
variable {K : PySem.W.Frag} {s0 : Sl} {F H F' H' : Hp} {σ : Sl} {ρ ρ' : Env}
theorem RepX.keep {v : V} : ∀ {x : XV}, RepX K F H σ ρ v x → Ext σ ρ F H σ ρ' F' H' → RepX K F' H' σ ρ' v x
  | .v (.d x), h, e => Dq.up e.f _ _ h
  | .r i, h, _ => h
  | .v (.c m t), h, e => by
    obtain ⟨hm, ht, a, rfl, fa, nc, q⟩ := h
    obtain ⟨o, eo⟩ := q.there ht
    have nor : ¬ OR σ ρ a := fun z => nc z.cr
    refine ⟨hm, ht, a, rfl, ?_, fun z => ?_, q.up e.f fun o' z => e.h a o' z nor⟩
    · cases z : F' a with
      | none => rfl
      | some o' =>
        rcases e.n a o' z with y | y | y
        · rw [fa] at y
          cases y
        · rw [eo] at y
          cases y
        · exact absurd y nor
    · rcases e.c a z with y | y
      · exact nc y
      · rw [eo] at y
        cases y
theorem Fr0.back {v : V} {x : XV} {σ' : Sl} (h : Fr0 H' v x) (e : Ext σ ρ F H σ' ρ' F' H') : Fr0 H v x := by
  cases x with
  | r i => trivial
  | v s =>
    cases s with
    | d x => trivial
    | c m t => exact fun a z => e.gone (h a z)
theorem RepXs.keep {vs : List V} {xs : List XV} (h : RepXs K F H σ ρ vs xs) (e : Ext σ ρ F H σ ρ' F' H') : RepXs K F' H' σ ρ' vs xs := Paired.mapP h fun _ _ q => q.keep e
end

/-! ## peeking -/
/-- what a value reads as -/
def pk (ρ : Env) : XV → Option D
  | .v (.d x) => some x
  | .v (.c _ (.l xs)) => some (.list xs)
  | .v _ => none
  | .r i => match ρ[i]? with
    | some (some (.d x)) => some x
    | some (some (.c _ (.l xs))) => some (.list xs)
    | _ => none
/-- read at the root in H, below in F -/
inductive Pk (F H : Hp) : V → D → Prop
  | non : Pk F H .non .none
  | bl (b : Bool) : Pk F H (.bl b) (.bool b)
  | int (i : Int) : Pk F H (.int i) (.int i)
  | str (x : Str) : Pk F H (.str x) (.str x)
  | lst {a : Addr} {vs : List V} {ds : List D} : H a = some (.lst vs) → DqAll F vs ds → Pk F H (.ref a) (.list ds)
  | tup {a : Addr} {vs : List V} {ds : List D} : F a = some (.tup vs) → DqAll F vs ds → Pk F H (.ref a) (.tuple ds)
theorem Dq.pk {F H : Hp} (hs : Same F H) : ∀ {d : D} {v : V}, Dq F v d → Pk F H v d
  | _, _, .non => .non
  | _, _, .bl b => .bl b
  | _, _, .int i => .int i
  | _, _, .str x => .str x
  | _, _, .lst a b => .lst (hs _ _ a) b
  | _, _, .tup a b => .tup a b
theorem Pk.dq {F H : Hp} (hs : Same F H) {d : D} {v : V} (h : Pk F H v d) : Dq H v d := by
  cases h with
  | non => exact .non
  | bl b => exact .bl b
  | int i => exact .int i
  | str x => exact .str x
  | lst a b => exact .lst a (DqAll.up hs _ _ b)
  | tup a b => exact .tup (hs _ _ a) (DqAll.up hs _ _ b)
theorem pk_ok {K : PySem.W.Frag} {s0 : Sl} {F H : Hp} {σ : Sl} {ρ : Env} (r : Rel K s0 F H σ ρ) {v : V} : ∀ {x : XV} {d : D}, RepX K F H σ ρ v x → pk ρ x = some d → Pk F H v d
  | .v (.d x), d, h, e => by
    cases e
    exact Dq.pk r.sub h
  | .v (.c m t), d, h, e => by
    obtain ⟨_, _, a, rfl, _, _, q⟩ := h
    cases t with
    | l xs =>
      cases e
      obtain ⟨vs, h1, h2⟩ := q
      exact .lst h1 h2
    | k _ => cases e
    | t _ => cases e
    | z _ => cases e
  | .r i, d, h, e => by
    have h' : σ[i]? = some (some v) := h
    have e' : (match ρ[i]? with
      | some (some (.d x)) => some x
      | some (some (.c _ (.l xs))) => some (.list xs)
      | _ => none) = some d := e
    split at e'
    · rename_i x q
      cases e'
      obtain ⟨u, e1, e2⟩ := r.dat q
      rw [h'] at e1
      cases e1
      exact Dq.pk r.sub e2
    · rename_i m xs q
      cases e'
      obtain ⟨a, e1, _, vs, h1, h2⟩ := r.root q
      rw [h'] at e1
      cases e1
      exact .lst h1 h2
    · cases e'

/-- what a rule brings: new things, a value -/
structure Br (F H F' H' : Hp) : Prop where
  f : Same F F'
  h : Same H H'
  s : Same F' H'
  n : ∀ a o, F' a = some o → F a = some o ∨ H a = none
theorem Br.refl {F H : Hp} (h : Same F H) : Br F H F H := ⟨fun _ _ h => h, fun _ _ h => h, h, fun _ _ h => .inl h⟩
theorem upd_keep {H : Hp} {p : Addr} {o : HO} (h : H p = none) : Same H (upd H p o) := fun b x e => by
  rw [upd_ne (ne_of_none e h)]
  exact e
/-- a new thing that is not frozen -/
theorem Br.own {F H : Hp} (h : Same F H) {p : Addr} {o : HO} (np : H p = none) : Br F H F (upd H p o) := ⟨fun _ _ h => h, upd_keep np, h.trans (upd_keep np), fun _ _ h => .inl h⟩
/-- a new thing that is -/
theorem Br.frz {F H : Hp} (h : Same F H) {p : Addr} {o : HO} (np : H p = none) : Br F H (upd F p o) (upd H p o) := by
  have nf : F p = none := h.free np
  refine ⟨upd_keep nf, upd_keep np, fun b x e => ?_, fun b x e => ?_⟩
  · by_cases hb : b = p
    · subst hb
      rw [upd_same] at e ⊢
      exact e
    · rw [upd_ne hb] at e ⊢
      exact h _ _ e
  · by_cases hb : b = p
    · subst hb
      exact .inr np
    · rw [upd_ne hb] at e
      exact .inl e
theorem Br.trans {F H F1 H1 F2 H2 : Hp} (a : Br F H F1 H1) (b : Br F1 H1 F2 H2) : Br F H F2 H2 := by
  refine ⟨a.f.trans b.f, a.h.trans b.h, b.s, fun x o e => ?_⟩
  rcases b.n x o e with z | z
  · exact a.n x o z
  · exact .inr (a.h.free z)
/-- a new value -/
def NewV (K : PySem.W.Frag) (H F' H' : Hp) (v : V) : SV → Prop
  | .d x => Dq F' v x
  | .c m t => m = .own ∧ t.mut = true ∧ ∃ a, v = .ref a ∧ H a = none ∧ F' a = none ∧ RepC K F' H' a t
theorem Rel.crTop {K : PySem.W.Frag} {s0 : Sl} {F H : Hp} {σ : Sl} {ρ : Env} (r : Rel K s0 F H σ ρ) {a : Addr} (h : CR σ ρ a) : F a = none ∧ ∃ o, H a = some o := by
  obtain ⟨i, m, t, h1, hm, h2⟩ := h
  obtain ⟨b, e, f, q⟩ := r.root h1
  rw [h2] at e
  cases e
  exact ⟨f hm, q.there hm⟩
end Pv
set_option Elab.async false
set_option linter.all false
set_option maxRecDepth 100000
namespace Pv
open PySem PySem.Spec PyProof.Rows L2

theorem PE.of {X : Cx} {e : Expr} {t t' : TE} (h : PE X e t) (hi : ∀ σ H Q, t' σ H Q → t σ H Q) : PE X e t' := ⟨fun pins s σ H Q I q => h.run pins s σ H Q I (hi _ _ _ q)⟩
theorem PT.of {X : Cx} {e : Expr} {t t' : TT} (h : PT X e t) (hi : ∀ σ H Q, t' σ H Q → t σ H Q) : PT X e t' := ⟨fun pins s σ H Q I q => h.run pins s σ H Q I (hi _ _ _ q)⟩
theorem PW.of {X : Cx} {e : Expr} {t t' : TT} (h : PW X e t) (hi : ∀ σ H Q, t' σ H Q → t σ H Q) : PW X e t' := ⟨fun wh pins s σ H Q I q => h.run wh pins s σ H Q I (hi _ _ _ q)⟩
theorem PA.of {X : Cx} {e : List Expr} {t t' : TA} (h : PA X e t) (hi : ∀ σ H Q, t' σ H Q → t σ H Q) : PA X e t' := ⟨fun pos pins s σ H Q I q => h.run pos pins s σ H Q I (hi _ _ _ q)⟩
theorem PS.of {X : Cx} {e : Stmt} {t t' : TS} (h : PS X e t) (hi : ∀ D σ H, t' D σ H → t D σ H) : PS X e t' := ⟨fun pins s σ H D I q => h.run pins s σ H D I (hi _ _ _ q)⟩
theorem PSs.of {X : Cx} {e : List Stmt} {t t' : TS} (h : PSs X e t) (hi : ∀ D σ H, t' D σ H → t D σ H) : PSs X e t' := ⟨fun pins s σ H D I q => h.run pins s σ H D I (hi _ _ _ q)⟩
theorem PG.of {X : Cx} {e : Expr} {t t' : TG} (h : PG X e t) (hi : ∀ v σ H Q, t' v σ H Q → t v σ H Q) : PG X e t' := ⟨fun pins s σ H v u Q I r q => h.run pins s σ H v u Q I r (hi _ _ _ _ q)⟩

section
variable {K : PySem.W.Frag} {s0 : Sl} {F H F' H' : Hp} {σ : Sl} {ρ ρ' : Env}
theorem NewV.rep (r : Rel K s0 F H σ ρ) {v : V} : ∀ {s : SV}, NewV K H F' H' v s → RepX K F' H' σ ρ v (.v s)
  | .d x, h => h
  | .c m t, h => by
    obtain ⟨hm, ht, a, rfl, na, fa, q⟩ := h
    refine ⟨hm, ht, a, rfl, fa, fun z => ?_, q⟩
    obtain ⟨_, o, e⟩ := r.crTop z
    rw [na] at e
    cases e
theorem NewV.fr {v : V} : ∀ {s : SV}, NewV K H F' H' v s → Fr0 H v (.v s)
  | .d x, h => trivial
  | .c m t, h => fun a e => by
    obtain ⟨_, _, b, e2, na, _⟩ := h
    rw [e] at e2
    cases e2
    exact na
theorem Rel.br (r : Rel K s0 F H σ ρ) (b : Br F H F' H') : Rel K s0 F' H' σ ρ := r.grow b.f b.h b.s b.n
theorem Br.ext (b : Br F H F' H') : Ext σ ρ F H σ ρ F' H' := Ext.grow b.f b.h b.n
end

/-! ## two operands, many operands, by what they read as -/
def on2 (h : D → D → Option SV) (x y : XV) (ρ : Env) : R XV := match pk ρ x with
  | some a => match pk ρ y with
    | some b => match h a b with
      | some s => .ok (.v s) ρ
      | none => .bad
    | none => .bad
  | none => .bad
def f2 (h : D → D → Option SV) (fa fb : FE) : FE := fun ρ => (fa ρ).bind fun x ρ1 => (fb ρ1).bind fun y ρ2 => on2 h x y ρ2
def Rule2 (K : PySem.W.Frag) (r : R2) (h : D → D → Option SV) : Prop :=
  ∀ (F H : Hp) (v u : V) (a b : D) (s : SV) (Q : VK), Same F H → Pk F H v a → Pk F H u b → h a b = some s → (∀ F' H' w, Br F H F' H' → NewV K H F' H' w s → Q w H') → r v u H Q
theorem f2_in {G : Gd} {r : R2} {h : D → D → Option SV} {fa fb : FE} (hr : Rule2 G.K r h) {σ : Sl} {H : Hp} {Q : VK} (q : tE G (f2 h fa fb) σ H Q) : tOp r (tE G fa) (tE G fb) σ H Q := by
  obtain ⟨F, ρ, rl, p⟩ := q
  refine ⟨F, ρ, rl, p.seq.mono fun x ρ1 F1 H1 _ _ _ ⟨rl1, e1, p1⟩ v hv _ => ⟨F1, ρ1, rl1, p1.seq.mono fun y ρ2 F2 H2 _ _ _ ⟨rl2, e2, p2⟩ u hu _ => ?_⟩⟩
  have hv2 := hv.keep e2
  unfold on2 at p2
  split at p2
  · rename_i a ea
    split at p2
    · rename_i b eb
      split at p2
      · rename_i s es
        refine hr F2 H2 v u a b s Q rl2.sub (pk_ok rl2 hv2 ea) (pk_ok rl2 hu eb) es fun F' H' w br nv => ?_
        exact p2 F' H' (rl2.br br) br.ext w (nv.rep rl2) (nv.fr.back (e1.trans e2))
      · exact p2.elim
    · exact p2.elim
  · exact p2.elim

/-- a truth -/
def asB (x : XV) (ρ : Env) : R Bool := match x with
  | .v (.d (.bool b)) => .ok b ρ
  | _ => .bad
theorem asB_ok {x : XV} {ρ ρ' : Env} {b : Bool} (h : asB x ρ = .ok b ρ') : x = .v (.d (.bool b)) ∧ ρ' = ρ := by
  unfold asB at h
  split at h
  · cases h
    exact ⟨rfl, rfl⟩
  · cases h
theorem asB_cases (x : XV) (ρ : Env) : (∃ b, x = .v (.d (.bool b))) ∨ asB x ρ = .bad := by
  unfold asB
  split
  · exact .inl ⟨_, rfl⟩
  · exact .inr rfl
def fB (f : FE) : FT := fun ρ => (f ρ).bind asB
theorem fB_in {G : Gd} {f : FE} {σ : Sl} {H : Hp} {Q : Bool → Hp → Prop} (q : tT G (fB f) σ H Q) : tE G f σ H fun v H' => ∃ k, v = .bl k ∧ Q k H' := by
  obtain ⟨F, ρ, rl, p⟩ := q
  refine ⟨F, ρ, rl, p.seq.mono fun x ρ1 F1 H1 _ _ _ ⟨rl1, e1, p1⟩ v hv _ => ?_⟩
  rcases asB_cases x ρ1 with ⟨b, rfl⟩ | z
  · have hv' : Dq F1 v (.bool b) := hv
    cases hv'
    exact ⟨b, rfl, p1.here rl1⟩
  · rw [z] at p1
    exact p1.elim

section
variable {X : Cx} {G : Gd} {a b c : Expr} {fa fb fc : FE} {pos : Pos} {r : R2} {h : D → D → Option SV}
theorem c_bin {op : Operator} (ho : OpR X (binaryOp op) r) (hr : Rule2 G.K r h) (ha : PE X a (tE G fa)) (hb : PE X b (tE G fb)) : PE X (.BinOp a op b pos) (tE G (f2 h fa fb)) :=
  PE.of (pe_op ho ha hb) fun _ _ _ q => f2_in hr q
theorem c_cmp {op : CmpOp} (ho : OpR X (compareOp op) r) (hr : Rule2 G.K r h) (ha : PE X a (tE G fa)) (hb : PE X b (tE G fb)) (hm : behindInMarks op b = false) : PE X (.Compare a [op] [b] pos) (tE G (f2 h fa fb)) :=
  PE.of (pe_cmpR ho ha hb hm) fun _ _ _ q => f2_in hr q
theorem t_cmp {op : CmpOp} (ho : OpR X (compareOp op) r) (hr : Rule2 G.K r h) (ha : PE X a (tE G fa)) (hb : PE X b (tE G fb)) (hm : behindInMarks op b = false) : PT X (.Compare a [op] [b] pos) (tT G (fB (f2 h fa fb))) :=
  PT.of (pt_cmpR ho ha hb hm) fun _ _ _ q => f2_in hr (fB_in q)
theorem t_val {e : Expr} {f : FE} (he : PE X e (tE G f)) (hw : ∀ whole, isTrue e X.env whole = (do let v ← whole; standAt e.pos; holding [v] (truthy v)) := by intro _; rfl) : PT X e (tT G (fB f)) :=
  PT.of (pt_val he hw) fun _ _ _ q => fB_in q
theorem c_ix (hi : IxR X r) (hr : Rule2 G.K r h) (ha : PE X a (tE G fa)) (hb : PE X b (tE G fb)) (hs : PlainIx b := by exact fun _ _ => rfl) : PE X (.Subscript a b pos) (tE G (f2 h fa fb)) :=
  PE.of (pe_ix hi ha hb hs) fun _ _ _ q => f2_in hr q
end

/-! ## and, or, not, if -/
def fAnd (f g : FT) : FT := fun ρ => (f ρ).bind fun b ρ1 => if b = true then g ρ1 else .ok false ρ1
def fOr (f g : FT) : FT := fun ρ => (f ρ).bind fun b ρ1 => if b = true then .ok true ρ1 else g ρ1
def fNot (f : FT) : FT := fun ρ => (f ρ).bind fun b ρ1 => .ok (!b) ρ1
/-- a truth as a value -/
def fV (f : FT) : FE := fun ρ => (f ρ).bind fun b ρ1 => .ok (.v (.d (.bool b))) ρ1
def fIf {α : Type} (t : FT) (f g : Env → R α) : Env → R α := fun ρ => (t ρ).bind fun b ρ1 => if b = true then f ρ1 else g ρ1
section
variable {X : Cx} {G : Gd} {a b c : Expr} {rest : List Expr} {f g t : FT} {fa fb : FE} {pos : Pos}
theorem w_and1 (ha : PT X a (tT G f)) : PW X (.BoolOp .And [a] pos) (tT G f) := pw_and1 ha
theorem w_or1 (ha : PT X a (tT G f)) : PW X (.BoolOp .Or [a] pos) (tT G f) := pw_or1 ha
theorem w_and (ha : PT X a (tT G f)) (hb : PW X (.BoolOp .And (b :: rest) pos) (tT G g)) : PW X (.BoolOp .And (a :: b :: rest) pos) (tT G (fAnd f g)) :=
  PW.of (pw_and ha hb) fun σ H Q ⟨F, ρ, rl, p⟩ => ⟨F, ρ, rl, p.seq.mono fun k ρ1 F1 H1 _ _ _ ⟨rl1, e1, p1⟩ => by
    cases k with
    | true => exact iteT ⟨F1, ρ1, rl1, p1⟩
    | false => exact iteF (p1.here rl1)⟩
theorem w_or (ha : PT X a (tT G f)) (hb : PW X (.BoolOp .Or (b :: rest) pos) (tT G g)) : PW X (.BoolOp .Or (a :: b :: rest) pos) (tT G (fOr f g)) :=
  PW.of (pw_or ha hb) fun σ H Q ⟨F, ρ, rl, p⟩ => ⟨F, ρ, rl, p.seq.mono fun k ρ1 F1 H1 _ _ _ ⟨rl1, e1, p1⟩ => by
    cases k with
    | true => exact iteT (p1.here rl1)
    | false => exact iteF ⟨F1, ρ1, rl1, p1⟩⟩
theorem t_not (ha : PT X a (tT G f)) : PT X (.UnaryOp .Not a pos) (tT G (fNot f)) :=
  PT.of (pt_not ha) fun σ H Q ⟨F, ρ, rl, p⟩ => ⟨F, ρ, rl, p.seq.mono fun k ρ1 F1 H1 _ _ _ ⟨rl1, e1, p1⟩ => p1.here rl1⟩
theorem fV_in {σ : Sl} {H : Hp} {Q : VK} (q : tE G (fV f) σ H Q) : tT G f σ H fun k H' => Q (.bl k) H' := by
  obtain ⟨F, ρ, rl, p⟩ := q
  exact ⟨F, ρ, rl, p.seq.mono fun k ρ1 F1 H1 _ _ _ ⟨rl1, e1, p1⟩ => p1.here rl1 (.bl k) (.bl k) trivial⟩
/-- and, or as values: the left parts as truths; the last a truth as a value -/
theorem v_and (ha : PE X a (tE G fa)) (hb : PE X (.BoolOp .And (b :: rest) pos) (tE G (fV g))) : PE X (.BoolOp .And (a :: b :: rest) pos) (tE G (fV (fAnd (fB fa) g))) :=
  PE.of (pe_and ha hb) fun σ H Q q => by
    obtain ⟨F, ρ, rl, p⟩ := fV_in q
    have q2 : tT G (fB fa) σ H fun k H' => if k = true then tE G (fV g) σ H' Q else Q (.bl false) H' := ⟨F, ρ, rl, p.seq.mono fun k ρ1 F1 H1 _ _ _ ⟨rl1, e1, p1⟩ => by
      cases k with
      | true =>
        refine iteT ⟨F1, ρ1, rl1, ?_⟩
        show PE' G σ ρ1 F1 H1 ((g ρ1).bind _) _
        have p2 : PE' G σ ρ1 F1 H1 (g ρ1) fun b _ _ H' => Q (.bl b) H' := p1
        cases eg : g ρ1 with
        | ok k2 ρ2 =>
          rw [eg] at p2
          intro F2 H2 rl2 e2 v hv _
          have hv' : Dq F2 v (.bool k2) := hv
          cases hv'
          exact p2 F2 H2 rl2 e2
        | exc x ρ2 =>
          rw [eg] at p2
          exact p2
        | bad =>
          rw [eg] at p2
          exact p2
      | false => exact iteF (p1.here rl1)⟩
    obtain ⟨F, ρ, rl, p⟩ := fB_in q2
    exact ⟨F, ρ, rl, p.mono fun x ρ' F' H' _ _ _ h v hv hf => h v hv hf⟩
theorem v_or (ha : PE X a (tE G fa)) (hb : PE X (.BoolOp .Or (b :: rest) pos) (tE G (fV g))) : PE X (.BoolOp .Or (a :: b :: rest) pos) (tE G (fV (fOr (fB fa) g))) :=
  PE.of (pe_or ha hb) fun σ H Q q => by
    obtain ⟨F, ρ, rl, p⟩ := fV_in q
    have q2 : tT G (fB fa) σ H fun k H' => if k = true then Q (.bl true) H' else tE G (fV g) σ H' Q := ⟨F, ρ, rl, p.seq.mono fun k ρ1 F1 H1 _ _ _ ⟨rl1, e1, p1⟩ => by
      cases k with
      | false =>
        refine iteF ⟨F1, ρ1, rl1, ?_⟩
        show PE' G σ ρ1 F1 H1 ((g ρ1).bind _) _
        have p2 : PE' G σ ρ1 F1 H1 (g ρ1) fun b _ _ H' => Q (.bl b) H' := p1
        cases eg : g ρ1 with
        | ok k2 ρ2 =>
          rw [eg] at p2
          intro F2 H2 rl2 e2 v hv _
          have hv' : Dq F2 v (.bool k2) := hv
          cases hv'
          exact p2 F2 H2 rl2 e2
        | exc x ρ2 =>
          rw [eg] at p2
          exact p2
        | bad =>
          rw [eg] at p2
          exact p2
      | true => exact iteT (p1.here rl1)⟩
    obtain ⟨F, ρ, rl, p⟩ := fB_in q2
    exact ⟨F, ρ, rl, p.mono fun x ρ' F' H' _ _ _ h v hv hf => h v hv hf⟩
theorem v_one {op} (ha : PE X a (tE G fa)) : PE X (.BoolOp op [a] pos) (tE G (fV (fB fa))) := PE.of (pe_one ha) fun σ H Q q => by
  obtain ⟨F, ρ, rl, p⟩ := fB_in (fV_in q)
  exact ⟨F, ρ, rl, p.mono fun x ρ' F' H' _ _ _ h v hv hf => by
    obtain ⟨k, rfl, q⟩ := h v hv hf
    exact q⟩
theorem v_not (ha : PE X a (tE G fa)) : PE X (.UnaryOp .Not a pos) (tE G (fV (fNot (fB fa)))) := PE.of (pe_not ha) fun σ H Q q => by
  obtain ⟨F, ρ, rl, p⟩ := fV_in q
  have q2 : tT G (fB fa) σ H fun k H' => Q (.bl (!k)) H' := ⟨F, ρ, rl, p.seq.mono fun k ρ1 F1 H1 _ _ _ ⟨rl1, e1, p1⟩ => p1.here rl1⟩
  obtain ⟨F, ρ, rl, p⟩ := fB_in q2
  exact ⟨F, ρ, rl, p.mono fun x ρ' F' H' _ _ _ h v hv hf => h v hv hf⟩
theorem c_if (ht : PT X c (tT G t)) (ha : PE X a (tE G fa)) (hb : PE X b (tE G fb)) : PE X (.IfExp c a b pos) (tE G (fIf t fa fb)) :=
  PE.of (pe_ifExp ht ha hb) fun σ H Q ⟨F, ρ, rl, p⟩ => ⟨F, ρ, rl, p.seq.mono fun k ρ1 F1 H1 _ _ _ ⟨rl1, e1, p1⟩ => by
    cases k with
    | true => exact iteT ⟨F1, ρ1, rl1, p1.mono fun x ρ' F' H' _ _ _ h v hv hf => h v hv (hf.back e1)⟩
    | false => exact iteF ⟨F1, ρ1, rl1, p1.mono fun x ρ' F' H' _ _ _ h v hv hf => h v hv (hf.back e1)⟩⟩
end

/-! ## names, constants -/
def fVar (i : Nat) : FE := fun ρ => match ρ[i]? with
  | some (some (.d x)) => .ok (.v (.d x)) ρ
  | some (some (.c _ _)) => .ok (.r i) ρ
  | _ => .bad
def fK (x : D) : FE := fun ρ => .ok (.v (.d x)) ρ
section
variable {X : Cx} {G : Gd} {pos : Pos}
theorem fVar_in {i : Nat} {σ : Sl} {H : Hp} {Q : VK} (q : tE G (fVar i) σ H Q) : tVar i σ H Q := by
  obtain ⟨F, ρ, rl, p⟩ := q
  unfold fVar at p
  split at p
  · rename_i x e
    obtain ⟨v, e2, hv⟩ := rl.dat e
    exact ⟨v, e2, p.here rl v hv trivial⟩
  · rename_i m t e
    obtain ⟨a, e2, _⟩ := rl.root e
    exact ⟨.ref a, e2, p.here rl (.ref a) e2 trivial⟩
  · exact p.elim
theorem c_var (i : Nat) {x : Str} (hN : X.N[i]? = some x := by rfl) (hv : Vis X.env.scope x := by first | exact Or.inl rfl | exact Or.inr (Or.inl rfl) | exact Or.inr (Or.inr rfl)) (hd : (x == ("__debug__" : Str)) = false := by decide)
    (hcd : (x == ("__classdict__" : Str)) = false := by decide) : PE X (.Name x pos) (tE G (fVar i)) := PE.of (pe_var hN hv hd hcd) fun _ _ _ q => fVar_in q
theorem fK_in {v : V} {x : D} (hv : ∀ F, Dq F v x) {σ : Sl} {H : Hp} {Q : VK} (q : tE G (fK x) σ H Q) : tC v σ H Q := by
  obtain ⟨F, ρ, rl, p⟩ := q
  exact p.here rl v (hv F) trivial
theorem c_int {i : Int} {j} : PE X (.Constant (.int i) j pos) (tE G (fK (.int i))) := PE.of pe_int fun _ _ _ q => fK_in (fun _ => .int i) q
theorem c_bool {b : Bool} {j} : PE X (.Constant (.bool b) j pos) (tE G (fK (.bool b))) := PE.of pe_bl fun _ _ _ q => fK_in (fun _ => .bl b) q
theorem c_none {j} : PE X (.Constant .none j pos) (tE G (fK .none)) := PE.of pe_non fun _ _ _ q => fK_in (fun _ => .non) q
theorem c_str {x : Str} {j} : PE X (.Constant (.str x) j pos) (tE G (fK (.str x))) := PE.of pe_str fun _ _ _ q => fK_in (fun _ => .str x) q
theorem c_globI {x : Str} {i : Int} {t : Tok} (hm : X.mg x = some (.int i t)) (hg : Gl X x := by rfl) (hd : (x == ("__debug__" : Str)) = false := by decide) : PE X (.Name x pos) (tE G (fK (.int i))) :=
  PE.of (pe_glob (v := .int i) hg hm ⟨t, rfl⟩ hd) fun _ _ _ q => fK_in (fun _ => .int i) q
theorem c_globS {x z : Str} {t : Tok} (hm : X.mg x = some (.str z t)) (hg : Gl X x := by rfl) (hd : (x == ("__debug__" : Str)) = false := by decide) : PE X (.Name x pos) (tE G (fK (.str z))) :=
  PE.of (pe_glob (v := .str z) hg hm ⟨t, rfl⟩ hd) fun _ _ _ q => fK_in (fun _ => .str z) q
end

/-! ## leaking: what is handed on is frozen -/
def leak (x : XV) (ρ : Env) : R D := match x with
  | .v (.d x) => .ok x ρ
  | .v (.c _ (.l xs)) => .ok (.list xs) ρ
  | .v _ => .bad
  | .r i => match ρ[i]? with
    | some (some (.d x)) => .ok x ρ
    | some (some (.c .own (.l xs))) => .ok (.list xs) (ρ.set i (some (.d (.list xs))))
    | _ => .bad
section
variable {K : PySem.W.Frag} {s0 : Sl} {F H : Hp} {σ : Sl} {ρ ρ' : Env}
/-- freezing a list that no slot's container is -/
theorem freeze_ok (r : Rel K s0 F H σ ρ) {a : Addr} {vs : List V} {xs : List D} (fa : F a = none) (nc : ¬ CR σ ρ a) (ha : H a = some (.lst vs)) (hv : DqAll F vs xs) :
    Rel K s0 (upd F a (.lst vs)) H σ ρ ∧ Same F (upd F a (.lst vs)) ∧ Dq (upd F a (.lst vs)) (.ref a) (.list xs) := by
  have up : Same F (upd F a (.lst vs)) := upd_keep fa
  refine ⟨⟨fun b o e => ?_, r.len, fun i sv h => ?_, r.sep, r.pin⟩, up, .lst upd_same (DqAll.up up _ _ hv)⟩
  · by_cases hb : b = a
    · subst hb
      rw [upd_same] at e
      cases e
      exact ha
    · rw [upd_ne hb] at e
      exact r.sub _ _ e
  · obtain ⟨v, e, q⟩ := r.slot i sv h
    refine ⟨v, e, ?_⟩
    cases sv with
    | d x => exact Dq.up up _ _ q
    | c m t =>
      obtain ⟨b, rfl, fb, q⟩ := q
      refine ⟨b, rfl, fun hm => ?_, q.up up fun _ z => z⟩
      have hb : b ≠ a := fun z => nc (by
        subst z
        exact ⟨i, m, t, h, hm, e⟩)
      rw [upd_ne hb]
      exact fb hm
/-- a slot is given another thing: what is left -/
theorem Rel.setD (r : Rel K s0 F H σ ρ) {i : Nat} {x : D} {v : V} {m : Mo} {t : Ct} (h0 : ρ[i]? = some (some (.c m t))) (hm : m ≠ .pin) (hi : σ[i]? = some (some v)) (hv : Dq F v x) : Rel K s0 F H σ (ρ.set i (some (.d x))) := by
  have li : i < ρ.length := (List.getElem?_eq_some_iff.mp h0).1
  have at_ : ∀ {j : Nat} {m' : Mo} {t' : Ct}, (ρ.set i (some (.d x)))[j]? = some (some (.c m' t')) → j ≠ i ∧ ρ[j]? = some (some (.c m' t')) := fun {j m' t'} h => by
    by_cases hj : j = i
    · subst hj
      rw [List.getElem?_set_self li] at h
      cases h
    · rw [List.getElem?_set_ne (Ne.symm hj)] at h
      exact ⟨hj, h⟩
  refine ⟨r.sub, by rw [List.length_set]; exact r.len, fun j sv h => ?_, fun j k m1 m2 t1 t2 a hjk h1 h2 => r.sep j k m1 m2 t1 t2 a hjk (at_ h1).2 (at_ h2).2, fun j t' h => r.pin j t' (at_ h).2⟩
  by_cases hj : j = i
  · subst hj
    rw [List.getElem?_set_self li] at h
    cases h
    exact ⟨v, hi, hv⟩
  · rw [List.getElem?_set_ne (Ne.symm hj)] at h
    exact r.slot j sv h
theorem crSetD {i : Nat} {x : D} {a : Addr} (h : CR σ (ρ.set i (some (.d x))) a) : CR σ ρ a ∧ ∃ (j : Nat) (m : Mo) (t : Ct), j ≠ i ∧ ρ[j]? = some (some (.c m t)) ∧ t.mut = true ∧ σ[j]? = some (some (.ref a)) := by
  obtain ⟨j, m, t, h1, hm, h2⟩ := h
  by_cases hj : j = i
  · subst hj
    by_cases li : j < ρ.length
    · rw [List.getElem?_set_self li] at h1
      cases h1
    · rw [List.getElem?_eq_none (by rw [List.length_set]; omega)] at h1
      cases h1
  · rw [List.getElem?_set_ne (Ne.symm hj)] at h1
    exact ⟨⟨j, m, t, h1, hm, h2⟩, j, m, t, hj, h1, hm, h2⟩
theorem orSetD {i : Nat} {x : D} {a : Addr} (h : OR σ (ρ.set i (some (.d x))) a) : OR σ ρ a := by
  obtain ⟨j, m, t, h1, hm, hb, h2⟩ := h
  by_cases hj : j = i
  · subst hj
    by_cases li : j < ρ.length
    · rw [List.getElem?_set_self li] at h1
      cases h1
    · rw [List.getElem?_eq_none (by rw [List.length_set]; omega)] at h1
      cases h1
  · rw [List.getElem?_set_ne (Ne.symm hj)] at h1
    exact ⟨j, m, t, h1, hm, hb, h2⟩
/-- freezing what an own slot holds: first the slot forgets its container -/
theorem Rel.drop (r : Rel K s0 F H σ ρ) {i : Nat} {m : Mo} {t : Ct} (h0 : ρ[i]? = some (some (.c m t))) (hm : m ≠ .pin) : Rel K s0 F H σ (ρ.set i none) := by
  have li : i < ρ.length := (List.getElem?_eq_some_iff.mp h0).1
  have at_ : ∀ {j : Nat} {sv : SV}, (ρ.set i none)[j]? = some (some sv) → j ≠ i ∧ ρ[j]? = some (some sv) := fun {j sv} h => by
    by_cases hj : j = i
    · subst hj
      rw [List.getElem?_set_self li] at h
      cases h
    · rw [List.getElem?_set_ne (Ne.symm hj)] at h
      exact ⟨hj, h⟩
  exact ⟨r.sub, by rw [List.length_set]; exact r.len, fun j sv h => r.slot j sv (at_ h).2, fun j k m1 m2 t1 t2 a hjk h1 h2 => r.sep j k m1 m2 t1 t2 a hjk (at_ h1).2 (at_ h2).2, fun j t' h => r.pin j t' (at_ h).2⟩
theorem leak_ok {v : V} {x : XV} {d : D} {ρ0 : Env} {F0 H0 : Hp} (r : Rel K s0 F H σ ρ) (e0 : Ext σ ρ0 F0 H0 σ ρ F H) (hx : RepX K F H σ ρ v x) (hf : Fr0 H0 v x) (e : leak x ρ = .ok d ρ') :
    ∃ F', Rel K s0 F' H σ ρ' ∧ Ext σ ρ0 F0 H0 σ ρ' F' H ∧ Same F F' ∧ Dq F' v d := by
  cases x with
  | v s =>
    cases s with
    | d x =>
      cases e
      exact ⟨F, r, e0, fun _ _ h => h, hx⟩
    | c m t =>
      cases t with
      | l xs =>
        cases e
        obtain ⟨_, _, a, rfl, fa, nc, vs, h1, h2⟩ := hx
        obtain ⟨r', up, q⟩ := freeze_ok r fa nc h1 h2
        refine ⟨_, r', ⟨e0.f.trans up, e0.h, fun b o z => ?_, e0.o, e0.c, e0.s⟩, up, q⟩
        by_cases hb : b = a
        · subst hb
          exact .inr (.inl (hf b rfl))
        · rw [upd_ne hb] at z
          exact e0.n b o z
      | k _ => cases e
      | t _ => cases e
      | z _ => cases e
  | r i =>
    have hi : σ[i]? = some (some v) := hx
    have e' : (match ρ[i]? with
      | some (some (.d x)) => R.ok x ρ
      | some (some (.c .own (.l xs))) => .ok (.list xs) (ρ.set i (some (.d (.list xs))))
      | _ => .bad) = R.ok d ρ' := e
    split at e'
    · rename_i x q
      cases e'
      obtain ⟨u, h1, h2⟩ := r.dat q
      rw [hi] at h1
      cases h1
      exact ⟨F, r, e0, fun _ _ h => h, h2⟩
    · rename_i xs q
      cases e'
      obtain ⟨a, h1, h2, vs, h3, h4⟩ := r.root q
      rw [hi] at h1
      cases h1
      have li : i < ρ.length := (List.getElem?_eq_some_iff.mp q).1
      have r1 := r.drop q (by decide)
      have nc : ¬ CR σ (ρ.set i none) a := fun ⟨j, m, t, z1, zm, z2⟩ => by
        by_cases hj : j = i
        · subst hj
          rw [List.getElem?_set_self li] at z1
          cases z1
        · rw [List.getElem?_set_ne (Ne.symm hj)] at z1
          exact r.sep i j .own m (.l xs) t a (Ne.symm hj) q z1 rfl zm (by decide) hi z2
      obtain ⟨r2, up, hq⟩ := freeze_ok r1 (h2 rfl) nc h3 h4
      have eqs : (ρ.set i none).set i (some (SV.d (.list xs))) = ρ.set i (some (.d (.list xs))) := by rw [List.set_set]
      have r3 : Rel K s0 (upd F a (.lst vs)) H σ (ρ.set i (some (.d (.list xs)))) := by
        refine ⟨r2.sub, by rw [List.length_set]; exact r.len, fun j sv h => ?_, fun j k m1 m2 t1 t2 b hjk g1 g2 => ?_, fun j t' h => ?_⟩
        · by_cases hj : j = i
          · subst hj
            rw [List.getElem?_set_self li] at h
            cases h
            exact ⟨_, hi, hq⟩
          · rw [List.getElem?_set_ne (Ne.symm hj)] at h
            exact r2.slot j sv (by rw [List.getElem?_set_ne (Ne.symm hj)]; exact h)
        · by_cases hj : j = i
          · subst hj
            rw [List.getElem?_set_self li] at g1
            cases g1
          · by_cases hk : k = i
            · subst hk
              rw [List.getElem?_set_self li] at g2
              cases g2
            · rw [List.getElem?_set_ne (Ne.symm hj)] at g1
              rw [List.getElem?_set_ne (Ne.symm hk)] at g2
              exact r.sep j k m1 m2 t1 t2 b hjk g1 g2
        · by_cases hj : j = i
          · subst hj
            rw [List.getElem?_set_self li] at h
            cases h
          · rw [List.getElem?_set_ne (Ne.symm hj)] at h
            exact r.pin j t' h
      refine ⟨_, r3, e0.trans ⟨up, fun _ _ h _ => h, fun b o z => ?_, fun b z => .inl (orSetD z), fun b z => .inl (crSetD z).1, fun _ h => h⟩, up, hq⟩
      by_cases hb : b = a
      · subst hb
        exact .inr (.inr ⟨i, .own, .l xs, q, rfl, by decide, hi⟩)
      · rw [upd_ne hb] at z
        exact .inl z
    · cases e'
end
/-- handed on as data -/
def fD (f : FE) : Env → R D := fun ρ => (f ρ).bind leak
theorem fD_in {G : Gd} {f : FE} {σ : Sl} {H : Hp} {Q : VK} (q : tD G (fD f) σ H Q) : tE G f σ H Q := by
  obtain ⟨F, ρ, rl, p⟩ := q
  refine ⟨F, ρ, rl, ?_⟩
  show PE' G σ ρ F H (f ρ) _
  have p' : PE' G σ ρ F H ((f ρ).bind leak) fun x ρ' F' H' => ∀ v, Dq F' v x → Q v H' := p
  cases ef : f ρ with
  | ok x ρ1 =>
    rw [ef] at p'
    intro F1 H1 r1 e1 v hv hf
    have p2 : PE' G σ ρ F H (leak x ρ1) fun x ρ' F' H' => ∀ v, Dq F' v x → Q v H' := p'
    cases el : leak x ρ1 with
    | ok d ρ2 =>
      rw [el] at p2
      obtain ⟨F2, r2, e2, _, hd⟩ := leak_ok r1 e1 hv hf el
      exact p2 F2 H1 r2 e2 v hd
    | exc y ρ2 =>
      exfalso
      clear p2 p'
      unfold leak at el
      repeat (first | cases el | split at el)
    | bad =>
      rw [el] at p2
      exact p2.elim
  | exc x ρ1 =>
    rw [ef] at p'
    exact p'
  | bad =>
    rw [ef] at p'
    exact p'
end Pv
set_option Elab.async false
set_option linter.all false
set_option maxRecDepth 100000
namespace Pv
open PySem PySem.Spec PyProof.Rows L2

/-! ## argument lists -/
def aNil : FA := fun ρ => .ok [] ρ
def aVal (f : FE) (g : FA) : FA := fun ρ => (f ρ).bind fun x ρ1 => (g ρ1).bind fun xs ρ2 => .ok (x :: xs) ρ2
def aDat (f : FE) (g : FA) : FA := fun ρ => (fD f ρ).bind fun d ρ1 => (g ρ1).bind fun xs ρ2 => .ok (.v (.d d) :: xs) ρ2
section
variable {X : Cx} {G : Gd} {e : Expr} {es : List Expr} {f : FE} {g : FA}
theorem a_nil : PA X [] (tA G aNil) := PA.of pa_nil fun σ H Q ⟨F, ρ, rl, p⟩ => p.here rl [] .nil
theorem a_val (ha : PE X e (tE G f)) (hr : PA X es (tA G g)) (hs : starEach (e :: es) X.env = (false, eval e X.env) :: starEach es X.env := by rfl) : PA X (e :: es) (tA G (aVal f g)) :=
  PA.of (pa_cons ha hr hs) fun σ H Q ⟨F, ρ, rl, p⟩ => ⟨F, ρ, rl, p.seq.mono fun x ρ1 F1 H1 _ _ _ ⟨rl1, e1, p1⟩ v hv _ => ⟨F1, ρ1, rl1, p1.seq.mono fun xs ρ2 F2 H2 _ _ _ ⟨rl2, e2, p2⟩ vs hvs => p2.here rl2 (v :: vs) (.cons (hv.keep e2) hvs)⟩⟩
theorem a_dat (ha : PE X e (tE G f)) (hr : PA X es (tA G g)) (hs : starEach (e :: es) X.env = (false, eval e X.env) :: starEach es X.env := by rfl) : PA X (e :: es) (tA G (aDat f g)) :=
  PA.of (pa_cons (PE.of ha fun _ _ _ q => fD_in q) hr hs) fun σ H Q ⟨F, ρ, rl, p⟩ => ⟨F, ρ, rl, p.seq.mono fun x ρ1 F1 H1 _ _ _ ⟨rl1, e1, p1⟩ v hv => ⟨F1, ρ1, rl1, p1.seq.mono fun xs ρ2 F2 H2 _ _ _ ⟨rl2, e2, p2⟩ vs hvs =>
    p2.here rl2 (v :: vs) (.cons (show RepX G.K F2 H2 σ ρ2 v (.v (.d x)) from Dq.up e2.f _ _ hv) hvs)⟩⟩
end

/-! ## displays -/
/-- all are data -/
def dats : List XV → Option (List D)
  | [] => some []
  | .v (.d x) :: r => match dats r with
    | some ds => some (x :: ds)
    | none => none
  | _ :: _ => none
theorem dats_ok {K : PySem.W.Frag} {F H : Hp} {σ : Sl} {ρ : Env} : ∀ {xs : List XV} {ds : List D} {vs : List V}, RepXs K F H σ ρ vs xs → dats xs = some ds → DqAll F vs ds
  | [], ds, vs, h, e => by
    cases e
    cases h
    exact .nil
  | .v (.d x) :: r, ds, vs, h, e => by
    cases h with
    | cons a t =>
      have e' : (match dats r with | some ds => some (x :: ds) | none => none) = some ds := e
      cases q : dats r with
      | none =>
        rw [q] at e'
        cases e'
      | some es =>
        rw [q] at e'
        cases e'
        exact .cons a (dats_ok t q)
  | .v (.c _ _) :: r, ds, vs, h, e => by cases e
  | .r _ :: r, ds, vs, h, e => by cases e
/-- a size that the machine takes -/
abbrev szOk (n : Nat) : Bool := Nat.ble n 16000000
theorem szOk_le {n : Nat} (h : szOk n = true) : n ≤ sizeLine := Nat.le_trans (Nat.le_of_ble_eq_true h) (by decide)
theorem szOk_lt {n : Nat} (h : szOk n = true) : n < sizeLine := Nat.lt_of_le_of_lt (Nat.le_of_ble_eq_true h) (by decide)
def mkT (xs : List XV) (ρ : Env) : R XV := match dats xs with
  | some ds => if szOk ds.length = true then .ok (.v (.d (.tuple ds))) ρ else .bad
  | none => .bad
def mkL (xs : List XV) (ρ : Env) : R XV := match dats xs with
  | some ds => if szOk ds.length = true then .ok (.v (.c .own (.l ds))) ρ else .bad
  | none => .bad
def fTup (g : FA) : FE := fun ρ => (g ρ).bind mkT
def fLst (g : FA) : FE := fun ρ => (g ρ).bind mkL
section
variable {X : Cx} {G : Gd} {es : List Expr} {g : FA} {pos : Pos}
theorem fTup_in {σ : Sl} {H : Hp} {Q : VK} (q : tE G (fTup g) σ H Q) : tTup (tA G g) σ H Q := by
  obtain ⟨F, ρ, rl, p⟩ := q
  refine ⟨F, ρ, rl, p.seq.mono fun xs ρ1 F1 H1 _ _ _ ⟨rl1, e1, p1⟩ vs hvs => ?_⟩
  unfold mkT at p1
  split at p1
  · rename_i ds ed
    have hd := dats_ok hvs ed
    by_cases hz : szOk ds.length = true
    · rw [if_pos hz] at p1
      refine ⟨by rw [hd.length]; exact szOk_le hz, fun a na => ?_⟩
      have b := Br.frz (o := .tup vs) rl1.sub na
      exact p1 _ _ (rl1.br b) b.ext (.ref a) (Dq.tup upd_same (DqAll.up b.f _ _ hd)) trivial
    · rw [if_neg hz] at p1
      exact p1.elim
  · exact p1.elim
theorem c_tup {k} (h : PA X es (tA G g)) : PE X (.Tuple es k pos) (tE G (fTup g)) := PE.of (pe_tup h) fun _ _ _ q => fTup_in q
theorem fLst_in {σ : Sl} {H : Hp} {Q : VK} (q : tE G (fLst g) σ H Q) : tLst (tA G g) σ H Q := by
  obtain ⟨F, ρ, rl, p⟩ := q
  refine ⟨F, ρ, rl, p.seq.mono fun xs ρ1 F1 H1 _ _ _ ⟨rl1, e1, p1⟩ vs hvs => ?_⟩
  unfold mkL at p1
  split at p1
  · rename_i ds ed
    have hd := dats_ok hvs ed
    by_cases hz : szOk ds.length = true
    · rw [if_pos hz] at p1
      refine ⟨by rw [hd.length]; exact szOk_le hz, fun a na => ?_⟩
      have b := Br.own (o := .lst vs) rl1.sub na
      have nv : NewV G.K H1 F1 (upd H1 a (.lst vs)) (.ref a) (.c .own (.l ds)) := ⟨rfl, rfl, a, rfl, na, rl1.sub.free na, vs, upd_same, hd⟩
      exact p1 _ _ (rl1.br b) b.ext (.ref a) (nv.rep rl1) (nv.fr.back e1)
    · rw [if_neg hz] at p1
      exact p1.elim
  · exact p1.elim
theorem c_lst (h : PA X es (tA G g)) : PE X (.List es pos) (tE G (fLst g)) := PE.of (pe_lst h) fun _ _ _ q => fLst_in q
end

/-! ## calls of built-ins, by what the arguments read as -/
def pks (ρ : Env) : List XV → Option (List D)
  | [] => some []
  | x :: r => match pk ρ x with
    | some d => match pks ρ r with
      | some ds => some (d :: ds)
      | none => none
    | none => none
theorem pks_ok {K : PySem.W.Frag} {s0 : Sl} {F H : Hp} {σ : Sl} {ρ : Env} (rl : Rel K s0 F H σ ρ) : ∀ {xs : List XV} {ds : List D} {vs : List V}, RepXs K F H σ ρ vs xs → pks ρ xs = some ds → Paired (Pk F H) vs ds
  | [], ds, vs, h, e => by
    cases e
    cases h
    exact .nil
  | x :: r, ds, vs, h, e => by
    cases h with
    | cons a t =>
      unfold pks at e
      split at e
      · rename_i d ed
        split at e
        · rename_i es ee
          cases e
          exact .cons (pk_ok rl a ed) (pks_ok rl t ee)
        · cases e
      · cases e
def onN (h : List D → Option SV) (xs : List XV) (ρ : Env) : R XV := match pks ρ xs with
  | some ds => match h ds with
    | some s => .ok (.v s) ρ
    | none => .bad
  | none => .bad
def fN (h : List D → Option SV) (g : FA) : FE := fun ρ => (g ρ).bind (onN h)
def RuleN (K : PySem.W.Frag) (r : List V → Hp → VK → Prop) (h : List D → Option SV) : Prop :=
  ∀ (F H : Hp) (vs : List V) (ds : List D) (s : SV) (Q : VK), Same F H → Paired (Pk F H) vs ds → h ds = some s → (∀ F' H' w, Br F H F' H' → NewV K H F' H' w s → Q w H') → r vs H Q
theorem fN_in {G : Gd} {r : List V → Hp → VK → Prop} {h : List D → Option SV} {g : FA} (hr : RuleN G.K r h) {σ : Sl} {H : Hp} {Q : VK} (q : tE G (fN h g) σ H Q) : tCB r (tA G g) σ H Q := by
  obtain ⟨F, ρ, rl, p⟩ := q
  refine ⟨F, ρ, rl, p.seq.mono fun xs ρ1 F1 H1 _ _ _ ⟨rl1, e1, p1⟩ vs hvs => ?_⟩
  unfold onN at p1
  split at p1
  · rename_i ds ed
    split at p1
    · rename_i s es
      exact hr F1 H1 vs ds s Q rl1.sub (pks_ok rl1 hvs ed) es fun F' H' w b nv => p1 F' H' (rl1.br b) b.ext w (nv.rep rl1) (nv.fr.back e1)
    · exact p1.elim
  · exact p1.elim
section
variable {X : Cx} {G : Gd} {x : Str} {p pos : Pos} {e : Expr} {es : List Expr} {g : FA} {id T : String} {r : List V → Hp → VK → Prop} {h : List D → Option SV}
theorem c_callB (hc : CallR X (.builtin id) r) (hr : RuleN G.K r h) (hm : X.mg x = none) (hv : bootBuiltins x = some (.builtin id)) (ha : PA X (e :: es) (tA G g)) (hg : Gl X x := by rfl) (hn : x ≠ "__name__" := by decide) (hdb : (x == ("__debug__" : Str)) = false := by decide)
    (he : starEach (e :: es) X.env = (false, eval e X.env) :: starEach es X.env := by rfl) (hpl : (backTo pos (starEach es X.env)).any (·.1) = false := by rfl) : PE X (.Call (.Name x p) (e :: es) [] pos) (tE G (fN h g)) :=
  PE.of (pe_callB hc hg hm hv ha hn hdb he hpl) fun _ _ _ q => fN_in hr q
theorem c_callTy (hc : CallR X (.type T) r) (hr : RuleN G.K r h) (hm : X.mg x = none) (hv : bootBuiltins x = some (.type T)) (ha : PA X (e :: es) (tA G g)) (hg : Gl X x := by rfl) (hn : x ≠ "__name__" := by decide) (hdb : (x == ("__debug__" : Str)) = false := by decide)
    (he : starEach (e :: es) X.env = (false, eval e X.env) :: starEach es X.env := by rfl) (hpl : (backTo pos (starEach es X.env)).any (·.1) = false := by rfl) : PE X (.Call (.Name x p) (e :: es) [] pos) (tE G (fN h g)) :=
  PE.of (pe_callTy hc hg hm hv ha hn hdb he hpl) fun _ _ _ q => fN_in hr q
end

/-! ## defs -/
inductive RF where
  | rt (x : SV) (ps : Env)
  | al (k : Nat) (ps : Env)
  | exc (x : Exn) (ps : Env)
  | bad
abbrev Fn := List SV → RF
/-- behind a def's call: the heaps; what was lent is given back -/
structure ExtC (K : PySem.W.Frag) (vs : List V) (svs : List SV) (F H F' H' : Hp) (ps : Env) : Prop where
  f : Same F F'
  sub : Same F' H'
  h : ∀ a o, H a = some o → (∀ (j : Nat) (t : Ct), svs[j]? = some (.c .pin t) → vs[j]? ≠ some (.ref a)) → H' a = some o
  n : ∀ a o, F' a = some o → F a = some o ∨ H a = none
  s : ∀ a, (∃ o, H a = some o) → ∃ o, H' a = some o
  p : ∀ (j : Nat) (t : Ct), svs[j]? = some (.c .pin t) → ∃ t' a, ps[j]? = some (some (.c .pin t')) ∧ t'.mut = true ∧ vs[j]? = some (.ref a) ∧ F' a = none ∧ RepC K F' H' a t'
def RepR (K : PySem.W.Frag) (H F' H' : Hp) (v : V) (s : SV) : Prop := NewV K H F' H' v s
def sepV (vs : List V) (svs : List SV) : Prop := ∀ (i j : Nat) (m m' : Mo) (t t' : Ct) (a : Addr), i ≠ j → svs[i]? = some (.c m t) → svs[j]? = some (.c m' t') → t.mut = true → t'.mut = true → m ≠ .bor → vs[i]? = some (.ref a) → vs[j]? = some (.ref a) → False
/-- a def keeps to its function -/
def spF (K : PySem.W.Frag) (mg : Str → Option Value) (n : Nat) (Fu : Fn) : Sp := fun vs H Q E => vs.length = n ∧ ∃ F svs, Same F H ∧ Paired (RepS K F H) vs svs ∧ sepV vs svs ∧ (∀ (j : Nat) (t : Ct), svs[j]? ≠ some (.c .own t)) ∧ match Fu svs with
  | .rt x ps => ∀ F' H' v, ExtC K vs svs F H F' H' ps → RepR K H F' H' v x → Q v H'
  | .al k ps => ∀ F' H' v, ExtC K vs svs F H F' H' ps → vs[k]? = some v → (∃ t, svs[k]? = some (.c .pin t)) → Q v H'
  | .exc x ps => ∀ F' H' c d, ExtC K vs svs F H F' H' ps → RepE mg F' H' x c d → E c d H'
  | .bad => False
/-- what a def is worth: n parameters, N slots, its body -/
def pinsOk : List SV → Env → Bool
  | .c .pin _ :: r, some (.c .pin t) :: e => t.mut && pinsOk r e
  | .c .pin _ :: _, _ => false
  | _ :: r, _ :: e => pinsOk r e
  | [], _ => true
  | _ :: _, [] => false
def endX (svs : List SV) (x : XV) (ρ : Env) : RF := match x with
  | .v s => .rt s ρ
  | .r i => match ρ[i]? with
    | some (some (.c .own t)) => if t.mut = true then .rt (.c .own t) ρ else .bad
    | some (some (.c .pin _)) => match svs[i]? with
      | some (.c .pin _) => .al i ρ
      | _ => .bad
    | some (some (.d x)) => .rt (.d x) ρ
    | _ => .bad
def endF (svs : List SV) (r : RS) : RF := match r with
  | .nx ρ => if pinsOk svs ρ = true then .rt (.d .none) ρ else .bad
  | .rt x ρ => if pinsOk svs ρ = true then endX svs x ρ else .bad
  | .exc x ρ => if pinsOk svs ρ = true then .exc x ρ else .bad
  | _ => .bad
def pad : Nat → List SV → Env
  | n, [] => List.replicate n none
  | n, s :: r => some s :: pad (n - 1) r
def fDef (N : Nat) (g : FS) : Fn := fun svs => endF svs (g (pad N svs))

theorem pad_eq : ∀ (N : Nat) (svs : List SV), pad N svs = svs.map some ++ List.replicate (N - svs.length) none
  | n, [] => rfl
  | n, s :: r => by
    show some s :: pad (n - 1) r = _
    rw [pad_eq (n - 1) r, List.map_cons, List.cons_append, List.length_cons, show n - 1 - r.length = n - (r.length + 1) by omega]
theorem pad_get {N : Nat} {svs : List SV} {i : Nat} {s : SV} (h : (pad N svs)[i]? = some (some s)) : svs[i]? = some s := by
  rw [pad_eq] at h
  by_cases hi : i < svs.length
  · rw [List.getElem?_append_left (by simpa using hi), List.getElem?_map] at h
    cases e : svs[i]? with
    | none =>
      rw [e] at h
      cases h
    | some x =>
      rw [e] at h
      cases h
      rfl
  · rw [List.getElem?_append_right (by simpa using hi), List.getElem?_replicate] at h
    split at h <;> cases h
theorem start_get {N : List Str} {vs : List V} {i : Nat} {v : V} (h : vs[i]? = some v) : (L2.start N vs)[i]? = some (some v) := by
  have hi : i < vs.length := (List.getElem?_eq_some_iff.mp h).1
  unfold L2.start
  rw [List.getElem?_append_left (by simpa using hi), List.getElem?_map, h]
  rfl
theorem start_lt {N : List Str} {vs : List V} {i : Nat} {v : V} (h : (L2.start N vs)[i]? = some (some v)) : vs[i]? = some v := by
  unfold L2.start at h
  by_cases hi : i < vs.length
  · rw [List.getElem?_append_left (by simpa using hi), List.getElem?_map] at h
    cases e : vs[i]? with
    | none =>
      rw [e] at h
      cases h
    | some x =>
      rw [e] at h
      cases h
      rfl
  · rw [List.getElem?_append_right (by simpa using hi), List.getElem?_replicate] at h
    split at h <;> cases h
theorem paired_getR {α β : Type} {P : α → β → Prop} : ∀ {xs : List α} {ys : List β} {i : Nat} {y : β}, Paired P xs ys → ys[i]? = some y → ∃ x, xs[i]? = some x ∧ P x y
  | _, _, _, _, .nil, h => by simp at h
  | _, _, 0, _, .cons a _, h => by
    simp at h
    subst h
    exact ⟨_, rfl, a⟩
  | _, _, i + 1, y, .cons _ t, h => by
    obtain ⟨x, e, q⟩ := paired_getR (i := i) t (by simpa using h)
    exact ⟨x, by simpa using e, q⟩
theorem pinsOk_at : ∀ {svs : List SV} {ρ : Env} {j : Nat} {t : Ct}, pinsOk svs ρ = true → svs[j]? = some (.c .pin t) → ∃ t', ρ[j]? = some (some (.c .pin t')) ∧ t'.mut = true
  | [], _, _, _, _, h => by simp at h
  | .c .pin t0 :: r, ρ, j, t, h, e => by
    cases ρ with
    | nil => cases h
    | cons x e' =>
      cases x with
      | none => cases h
      | some s =>
        cases s with
        | d _ => cases h
        | c m t1 =>
          cases m with
          | pin =>
            have h' : (t1.mut && pinsOk r e') = true := h
            obtain ⟨h1, h2⟩ := Bool.and_eq_true_iff.mp h'
            cases j with
            | zero => exact ⟨t1, rfl, h1⟩
            | succ j =>
              obtain ⟨t', q, qm⟩ := pinsOk_at (svs := r) (ρ := e') (j := j) (t := t) h2 (by simpa using e)
              exact ⟨t', by simpa using q, qm⟩
          | own => cases h
          | bor => cases h
  | .d _ :: r, ρ, j, t, h, e => by
    cases j with
    | zero => cases e
    | succ j =>
      cases ρ with
      | nil => cases h
      | cons x e' =>
        obtain ⟨t', q⟩ := pinsOk_at (svs := r) (ρ := e') (j := j) (t := t) h (by simpa using e)
        exact ⟨t', by simpa using q⟩
  | .c .own _ :: r, ρ, j, t, h, e => by
    cases j with
    | zero => cases e
    | succ j =>
      cases ρ with
      | nil => cases h
      | cons x e' =>
        obtain ⟨t', q⟩ := pinsOk_at (svs := r) (ρ := e') (j := j) (t := t) h (by simpa using e)
        exact ⟨t', by simpa using q⟩
  | .c .bor _ :: r, ρ, j, t, h, e => by
    cases j with
    | zero => cases e
    | succ j =>
      cases ρ with
      | nil => cases h
      | cons x e' =>
        obtain ⟨t', q⟩ := pinsOk_at (svs := r) (ρ := e') (j := j) (t := t) h (by simpa using e)
        exact ⟨t', by simpa using q⟩

section
variable {P : Program} {w : World} {K : PySem.W.Frag} {mg : Str → Option Value} {base : Heap} {x qual : Str} {params : Arguments} {body : List Stmt} {scope : Scope} {dvs : List V} {kws : List (Str × V)} {f : Addr} {fd : FuncData} {N ps : List Str} {k : Nat} {g : FS}
theorem extC_of {F H F' H' : Hp} {vs : List V} {svs : List SV} {σ' : Sl} {ρ' : Env} (hp : Paired (RepS K F H) vs svs) (own : ∀ (j : Nat) (t : Ct), svs[j]? ≠ some (.c .own t)) (r : Rel K (L2.start N vs) F' H' σ' ρ')
    (e : Ext (L2.start N vs) (pad N.length svs) F H σ' ρ' F' H') (hk : pinsOk svs ρ' = true) : ExtC K vs svs F H F' H' ρ' := by
  have orp : ∀ a, OR (L2.start N vs) (pad N.length svs) a → ∃ (j : Nat) (t : Ct), svs[j]? = some (.c .pin t) ∧ vs[j]? = some (.ref a) := fun a ⟨i, m, t, h1, _, hb, h2⟩ => by
    have e1 := pad_get h1
    cases m with
    | own => exact absurd e1 (own i t)
    | bor => exact absurd rfl hb
    | pin => exact ⟨i, t, e1, start_lt h2⟩
  have pinA : ∀ (j : Nat) (t : Ct), svs[j]? = some (.c .pin t) → ∃ t' a, ρ'[j]? = some (some (.c .pin t')) ∧ t'.mut = true ∧ vs[j]? = some (.ref a) ∧ F' a = none ∧ RepC K F' H' a t' := fun j t h => by
    obtain ⟨t', h1, hm⟩ := pinsOk_at hk h
    obtain ⟨a, h2, h3, h4⟩ := r.root h1
    have h5 := r.pin j t' h1
    rw [h2] at h5
    exact ⟨t', a, h1, hm, start_lt h5.symm, h3 hm, h4⟩
  refine ⟨e.f, r.sub, fun a o h no => e.h a o h fun z => ?_, fun a o h => ?_, e.s, pinA⟩
  · obtain ⟨j, t, h1, h2⟩ := orp a z
    exact no j t h1 h2
  · rcases e.n a o h with z | z | z
    · exact .inl z
    · exact .inr z
    · obtain ⟨j, t, h1, h2⟩ := orp a z
      obtain ⟨t', b, _, _, h3, h4, _⟩ := pinA j t h1
      rw [h2] at h3
      cases h3
      rw [h] at h4
      cases h4
theorem def_ok (Fd : FunD K x qual params body scope dvs kws f fd) (S : FnScope N ps scope)
    (hb : ∀ (cdv : Value) (A : Around) (outer : List PySem.Env) (s : Shared) (H : Hp) (vs : List V) (E : XK), Room k (A.deeper (envOfC qual scope s.heap.objs.size f cdv)) →
      PSs (cxOf (L2.CX P w) P w K mg base N qual scope f cdv A outer s H E) body (tS ⟨K, mg, L2.start N vs, fun c d _ H => E c d H⟩ g)) :
    FnOk P w K mg base (L2.CX P w) (k + 1) f fd ps (spF K mg ps.length (fDef N.length g)) := by
  have hpl : ps.length ≤ N.length := by
    have := congrArg List.length S.pre
    rw [List.length_take] at this
    omega
  refine Fd.ok S (fun vs H Q E h => h.1) fun cdv A outer s H vs Q E hr h => ⟨_, hb cdv A outer s H vs E hr, ?_⟩
  obtain ⟨hl, F, svs, hs, hp, sp, own, m⟩ := h
  have hl2 : vs.length = svs.length := hp.length
  have rl : Rel K (L2.start N vs) F H (L2.start N vs) (pad N.length svs) := by
    refine ⟨hs, ?_, fun i sv e => ?_, fun i j m1 m2 t1 t2 a hij h1 h2 g1 g2 hb h3 h4 => sp i j m1 m2 t1 t2 a hij (pad_get h1) (pad_get h2) g1 g2 hb (start_lt h3) (start_lt h4), fun _ _ _ => rfl⟩
    · rw [pad_eq]
      unfold L2.start
      simp [hl2]
    · obtain ⟨v, e1, q⟩ := paired_getR hp (pad_get e)
      exact ⟨v, start_get e1, q⟩
  refine ⟨F, pad N.length svs, rl, ?_⟩
  have m' : match endF svs (g (pad N.length svs)) with
    | .rt x ps => ∀ F' H' v, ExtC K vs svs F H F' H' ps → RepR K H F' H' v x → Q v H'
    | .al k ps => ∀ F' H' v, ExtC K vs svs F H F' H' ps → vs[k]? = some v → (∃ t, svs[k]? = some (.c .pin t)) → Q v H'
    | .exc x ps => ∀ F' H' c d, ExtC K vs svs F H F' H' ps → RepE mg F' H' x c d → E c d H'
    | .bad => False := m
  cases eg : g (pad N.length svs) with
  | nx ρ' =>
    rw [eg] at m'
    intro F' H' σ' r' e'
    unfold endF at m'
    by_cases hk : pinsOk svs ρ' = true
    · simp only [hk, if_true] at m'
      exact m' F' H' .non (extC_of hp own r' e' hk) .non
    · simp only [hk] at m'
      exact m'.elim
  | rt x ρ' =>
    rw [eg] at m'
    intro F' H' σ' v r' e' hx hf
    unfold endF at m'
    by_cases hk : pinsOk svs ρ' = true
    · simp only [hk, if_true] at m'
      have ec := extC_of hp own r' e' hk
      cases x with
      | v s =>
        refine m' F' H' v ec ?_
        cases s with
        | d x => exact hx
        | c md t =>
          obtain ⟨h1, h2, a, rfl, h3, _, h4⟩ := hx
          exact ⟨h1, h2, a, rfl, hf a rfl, h3, h4⟩
      | r i =>
        have hi : σ'[i]? = some (some v) := hx
        unfold endX at m'
        simp only at m'
        cases ei : ρ'[i]? with
        | none =>
          rw [ei] at m'
          exact m'.elim
        | some o =>
          rw [ei] at m'
          cases o with
          | none => exact m'.elim
          | some sv =>
            cases sv with
            | d x =>
              obtain ⟨u, h1, h2⟩ := r'.dat ei
              rw [hi] at h1
              cases h1
              exact m' F' H' v ec h2
            | c md t =>
              cases md with
              | bor => exact m'.elim
              | own =>
                by_cases hm : t.mut = true
                · simp only [hm, if_true] at m'
                  obtain ⟨a, h1, h2, h3⟩ := r'.root ei
                  rw [hi] at h1
                  cases h1
                  refine m' F' H' _ ec ⟨rfl, hm, a, rfl, ?_, h2 hm, h3⟩
                  rcases e'.o a ⟨i, .own, t, ei, hm, by decide, hi⟩ with z | z
                  · exfalso
                    obtain ⟨j, m1, t1, z1, z2, z3, z4⟩ := z
                    have z1' := pad_get z1
                    cases m1 with
                    | own => exact own j t1 z1'
                    | bor => exact z3 rfl
                    | pin =>
                      obtain ⟨t', b, y1, y2, y3, _, _⟩ := ec.p j t1 z1'
                      have y4 := r'.pin j t' y1
                      rw [z4] at y4
                      have hij : i ≠ j := fun q => by
                        subst q
                        rw [ei] at y1
                        cases y1
                      exact r'.sep i j .own .pin t t' a hij ei y1 hm y2 (by decide) hi y4
                  · exact z
                · simp only [hm] at m'
                  exact m'.elim
              | pin =>
                cases es : svs[i]? with
                | none =>
                  simp only [es] at m'
                | some s2 =>
                  simp only [es] at m'
                  cases s2 with
                  | d _ => exact m'.elim
                  | c m2 t2 =>
                    cases m2 with
                    | own => exact m'.elim
                    | bor => exact m'.elim
                    | pin =>
                      have y := r'.pin i t ei
                      rw [hi] at y
                      exact m' F' H' v ec (start_lt y.symm) ⟨t2, es⟩
    · simp only [hk] at m'
      exact m'.elim
  | bk ρ' =>
    rw [eg] at m'
    exact m'.elim
  | ct ρ' =>
    rw [eg] at m'
    exact m'.elim
  | exc x ρ' =>
    rw [eg] at m'
    intro F' H' σ' c d r' e' hx
    unfold endF at m'
    by_cases hk : pinsOk svs ρ' = true
    · simp only [hk, if_true] at m'
      exact m' F' H' c d (extC_of hp own r' e' hk) hx
    · simp only [hk] at m'
      exact m'.elim
  | bad =>
    rw [eg] at m'
    exact m'.elim
end
end Pv
set_option Elab.async false
set_option linter.all false
set_option maxRecDepth 100000
namespace Pv
open PySem PySem.Spec PyProof.Rows L2

/-! ## calls of defs: at most one argument is lent to be changed -/
def svOf (p : Bool) (x : XV) (ρ : Env) : Option SV := match x with
  | .v (.d x) => some (.d x)
  | .v (.c _ _) => none
  | .r i => match ρ[i]? with
    | some (some (.d x)) => some (.d x)
    | some (some (.c m t)) => if p = true then (if m = .bor then none else if t.mut = true then some (.c .pin t) else none) else some (.c .bor t)
    | _ => none
def nxt : Option Nat → Option Nat
  | some (n + 1) => some n
  | _ => none
def at0 : Option Nat → Bool
  | some 0 => true
  | _ => false
def svsOf : Option Nat → List XV → Env → Option (List SV)
  | _, [], _ => some []
  | p, x :: r, ρ => match svOf (at0 p) x ρ with
    | some s => match svsOf (nxt p) r ρ with
      | some ss => some (s :: ss)
      | none => none
    | none => none
def isR (i : Nat) : XV → Bool
  | .r k => k == i
  | _ => false
def alOk (p : Option Nat) (xs : List XV) : Bool := match p with
  | none => true
  | some j => match xs[j]? with
    | some (.r i) => !((xs.take j).any (isR i)) && !((xs.drop (j + 1)).any (isR i))
    | _ => true
def backP (p : Option Nat) (xs : List XV) (svs : List SV) (ps ρ : Env) : Env := match p with
  | none => ρ
  | some j => match xs[j]? with
    | some (.r i) => match svs[j]? with
      | some (.c .pin _) => match ps[j]? with
        | some (some (.c .pin t)) => match ρ[i]? with
          | some (some (.c m _)) => ρ.set i (some (.c m t))
          | _ => ρ
        | _ => ρ
      | _ => ρ
    | _ => ρ
def callF (p : Option Nat) (Fu : Fn) (xs : List XV) (ρ : Env) : R XV := if alOk p xs = true then match svsOf p xs ρ with
  | some svs => match Fu svs with
    | .rt x ps => .ok (.v x) (backP p xs svs ps ρ)
    | .al k ps => match xs[k]? with
      | some (.r i) => .ok (.r i) (backP p xs svs ps ρ)
      | _ => .bad
    | .exc x ps => .exc x (backP p xs svs ps ρ)
    | .bad => .bad
  | none => .bad else .bad
def fCall (p : Option Nat) (Fu : Fn) (g : FA) : FE := fun ρ => (g ρ).bind (callF p Fu)

section
variable {K : PySem.W.Frag} {s0 : Sl} {F H F' H' : Hp} {σ : Sl} {ρ : Env}
theorem svOf_ok (r : Rel K s0 F H σ ρ) {p : Bool} {v : V} : ∀ {x : XV} {s : SV}, RepX K F H σ ρ v x → svOf p x ρ = some s → RepS K F H v s ∧
    ((∃ d, s = .d d) ∨ ∃ i m t, x = .r i ∧ ρ[i]? = some (some (.c m t)) ∧ ((p = true ∧ m ≠ .bor ∧ t.mut = true ∧ s = .c .pin t) ∨ (p = false ∧ s = .c .bor t)))
  | .v (.d x), s, h, e => by
    cases e
    exact ⟨h, .inl ⟨_, rfl⟩⟩
  | .v (.c _ _), s, h, e => by cases e
  | .r i, s, h, e => by
    have hi : σ[i]? = some (some v) := h
    unfold svOf at e
    simp only at e
    split at e
    · rename_i x q
      cases e
      obtain ⟨u, h1, h2⟩ := r.dat q
      rw [hi] at h1
      cases h1
      exact ⟨h2, .inl ⟨_, rfl⟩⟩
    · rename_i m t q
      obtain ⟨a, h1, h2, h3⟩ := r.root q
      rw [hi] at h1
      cases h1
      by_cases hp : p = true
      · rw [if_pos hp] at e
        by_cases hm : m = .bor
        · rw [if_pos hm] at e
          cases e
        · rw [if_neg hm] at e
          by_cases ht : t.mut = true
          · rw [if_pos ht] at e
            cases e
            exact ⟨⟨a, rfl, h2, h3⟩, .inr ⟨i, m, t, rfl, q, .inl ⟨hp, hm, ht, rfl⟩⟩⟩
          · rw [if_neg ht] at e
            cases e
      · rw [if_neg hp] at e
        cases e
        exact ⟨⟨a, rfl, h2, h3⟩, .inr ⟨i, m, t, rfl, q, .inr ⟨by simpa using hp, rfl⟩⟩⟩
    · cases e
theorem svsOf_ok (r : Rel K s0 F H σ ρ) : ∀ {p : Option Nat} {xs : List XV} {vs : List V} {svs : List SV}, RepXs K F H σ ρ vs xs → svsOf p xs ρ = some svs → Paired (RepS K F H) vs svs ∧
    ∀ (j : Nat) (m' : Mo) (t : Ct), svs[j]? = some (.c m' t) → ∃ i m, xs[j]? = some (.r i) ∧ ρ[i]? = some (some (.c m t)) ∧ ((p = some j ∧ m ≠ .bor ∧ t.mut = true ∧ m' = .pin) ∨ (p ≠ some j ∧ m' = .bor))
  | p, [], vs, svs, h, e => by
    cases h
    unfold svsOf at e
    cases e
    exact ⟨.nil, fun j m' t q => by simp at q⟩
  | p, x :: xr, vs, svs, h, e => by
    cases h with
    | cons a tl =>
      unfold svsOf at e
      split at e
      · rename_i s es
        split at e
        · rename_i ss ess
          cases e
          obtain ⟨h1, h2⟩ := svOf_ok r a es
          obtain ⟨h3, h4⟩ := svsOf_ok r tl ess
          refine ⟨.cons h1 h3, fun j m' t q => ?_⟩
          cases j with
          | zero =>
            have q' : s = .c m' t := by simpa using q
            subst q'
            rcases h2 with ⟨d, z⟩ | ⟨i, m, t2, hx, hr, hh⟩
            · cases z
            · subst hx
              rcases hh with ⟨z1, z2, z3, z4⟩ | ⟨z1, z4⟩
              · cases z4
                refine ⟨i, m, rfl, hr, .inl ⟨?_, z2, z3, rfl⟩⟩
                unfold at0 at z1
                split at z1
                · rfl
                · cases z1
              · cases z4
                refine ⟨i, m, rfl, hr, .inr ⟨fun z => ?_, rfl⟩⟩
                subst z
                cases z1
          | succ j =>
            obtain ⟨i, m, y1, y2, y3⟩ := h4 j m' t (by simpa using q)
            refine ⟨i, m, by simpa using y1, y2, ?_⟩
            rcases y3 with ⟨z1, z2⟩ | ⟨z1, z2⟩
            · refine .inl ⟨?_, z2⟩
              unfold nxt at z1
              split at z1
              · cases z1
                rfl
              · cases z1
            · refine .inr ⟨fun z => z1 ?_, z2⟩
              subst z
              rfl
        · cases e
      · cases e
theorem alOk_ne {p : Option Nat} {xs : List XV} {j k i : Nat} (h : alOk p xs = true) (hp : p = some j) (hj : xs[j]? = some (.r i)) (hk : k ≠ j) : xs[k]? ≠ some (.r i) := by
  subst hp
  unfold alOk at h
  simp only [hj] at h
  obtain ⟨h1, h2⟩ := Bool.and_eq_true_iff.mp h
  intro z
  rcases Nat.lt_or_gt_of_ne hk with q | q
  · have m : XV.r i ∈ xs.take j := List.mem_of_getElem? (i := k) (by rw [List.getElem?_take_of_lt q]; exact z)
    have : (xs.take j).any (isR i) = true := List.any_eq_true.mpr ⟨_, m, by simp [isR]⟩
    rw [this] at h1
    cases h1
  · have m : XV.r i ∈ xs.drop (j + 1) := List.mem_of_getElem? (i := k - (j + 1)) (by rw [List.getElem?_drop, show j + 1 + (k - (j + 1)) = k by omega]; exact z)
    have : (xs.drop (j + 1)).any (isR i) = true := List.any_eq_true.mpr ⟨_, m, by simp [isR]⟩
    rw [this] at h2
    cases h2

/-- one slot's container is changed, the heap with it -/
theorem Rel.change (r : Rel K s0 F H σ ρ) {i : Nat} {m : Mo} {t t' : Ct} {a : Addr} (h0 : ρ[i]? = some (some (.c m t))) (hm : m ≠ .bor) (ht : t.mut = true) (ht' : t'.mut = true) (hi : σ[i]? = some (some (.ref a)))
    (hf : Same F F') (hs : Same F' H') (hh : ∀ b o, H b = some o → b ≠ a → H' b = some o) (hn : ∀ b o, F' b = some o → F b = some o ∨ H b = none) (hr : RepC K F' H' a t') (ha : F' a = none) (gs : ∀ b, (∃ o, H b = some o) → ∃ o, H' b = some o) :
    Rel K s0 F' H' σ (ρ.set i (some (.c m t'))) ∧ Ext σ ρ F H σ (ρ.set i (some (.c m t'))) F' H' ∧ ∀ b, CR σ (ρ.set i (some (.c m t'))) b → CR σ ρ b := by
  have li : i < ρ.length := (List.getElem?_eq_some_iff.mp h0).1
  have back : ∀ {j : Nat} {m2 : Mo} {t2 : Ct}, (ρ.set i (some (.c m t')))[j]? = some (some (.c m2 t2)) → (j = i ∧ m2 = m ∧ t2 = t') ∨ (j ≠ i ∧ ρ[j]? = some (some (.c m2 t2))) := fun {j m2 t2} h => by
    by_cases hj : j = i
    · subst hj
      rw [List.getElem?_set_self li] at h
      cases h
      exact .inl ⟨rfl, rfl, rfl⟩
    · rw [List.getElem?_set_ne (Ne.symm hj)] at h
      exact .inr ⟨hj, h⟩
  have orA : OR σ ρ a := ⟨i, m, t, h0, ht, hm, hi⟩
  have crB : ∀ b, CR σ (ρ.set i (some (.c m t'))) b → CR σ ρ b := fun b z => by
    obtain ⟨j, m2, t2, z1, z2, z4⟩ := z
    rcases back z1 with ⟨rfl, rfl, rfl⟩ | ⟨_, z1⟩
    · exact ⟨j, m2, t, h0, ht, z4⟩
    · exact ⟨j, m2, t2, z1, z2, z4⟩
  refine ⟨⟨hs, by rw [List.length_set]; exact r.len, fun j sv h => ?_, fun j k m1 m2 t1 t2 b hjk h1 h2 g1 g2 hb h3 h4 => ?_, fun j t2 h => ?_⟩,
    ⟨hf, fun b o h no => hh b o h fun z => no (z ▸ orA), fun b o h => (hn b o h).elim .inl fun z => .inr (.inl z), fun b z => ?_, fun b z => .inl (crB b z), gs⟩, crB⟩
  · by_cases hj : j = i
    · subst hj
      rw [List.getElem?_set_self li] at h
      cases h
      exact ⟨_, hi, a, rfl, fun _ => ha, hr⟩
    · rw [List.getElem?_set_ne (Ne.symm hj)] at h
      obtain ⟨v, e, q⟩ := r.slot j sv h
      refine ⟨v, e, ?_⟩
      cases sv with
      | d x => exact Dq.up hf _ _ q
      | c m2 t2 =>
        obtain ⟨b, rfl, fb, q⟩ := q
        by_cases hz : t2.mut = true
        · have hba : b ≠ a := fun z => by
            subst z
            exact r.sep i j m m2 t t2 b (Ne.symm hj) h0 h ht hz hm hi e
          obtain ⟨o, eo⟩ := q.there hz
          refine ⟨b, rfl, fun _ => ?_, q.up hf fun o' z => hh b o' z hba⟩
          cases z : F' b with
          | none => rfl
          | some o' =>
            rcases hn b o' z with y | y
            · rw [fb hz] at y
              cases y
            · rw [eo] at y
              cases y
        · refine ⟨b, rfl, fun z => absurd z hz, ?_⟩
          cases t2 with
          | l _ => exact absurd rfl hz
          | k _ => exact absurd rfl hz
          | t _ => exact absurd rfl hz
          | z xs =>
            obtain ⟨vs, h1, h2⟩ := q
            refine ⟨vs, ?_, DqAll.up hf _ _ h2⟩
            rcases h1 with ⟨o, h1⟩ | h1
            · refine .inl ⟨o, hh b _ h1 fun z => ?_⟩
              subst z
              obtain ⟨c, e2, _, q2⟩ := r.root h0
              rw [hi] at e2
              cases e2
              cases t with
              | l _ =>
                obtain ⟨_, y, _⟩ := q2
                rw [h1] at y
                cases y
              | k _ =>
                obtain ⟨_, y, _⟩ := q2
                rw [h1] at y
                cases y
              | t _ =>
                obtain ⟨_, y, _⟩ := q2
                rw [h1] at y
                cases y
              | z _ => cases ht
            · exact .inr h1
  · rcases back h1 with ⟨rfl, rfl, rfl⟩ | ⟨n1, h1⟩
    · rcases back h2 with ⟨rfl, rfl, rfl⟩ | ⟨n2, h2⟩
      · exact hjk rfl
      · exact r.sep j k m1 m2 t t2 b hjk h0 h2 ht g2 hb h3 h4
    · rcases back h2 with ⟨rfl, rfl, rfl⟩ | ⟨n2, h2⟩
      · exact r.sep j k m1 m2 t1 t b hjk (by assumption) h0 g1 ht hb h3 h4
      · exact r.sep j k m1 m2 t1 t2 b hjk h1 h2 g1 g2 hb h3 h4
  · rcases back h with ⟨rfl, rfl, rfl⟩ | ⟨_, h⟩
    · exact r.pin j t h0
    · exact r.pin j t2 h
  · obtain ⟨j, m2, t2, z1, z2, z3, z4⟩ := z
    rcases back z1 with ⟨rfl, rfl, rfl⟩ | ⟨_, z1⟩
    · exact .inl ⟨j, m2, t, h0, ht, z3, z4⟩
    · exact .inl ⟨j, m2, t2, z1, z2, z3, z4⟩

theorem back_ok (r : Rel K s0 F H σ ρ) {p : Option Nat} {xs : List XV} {vs : List V} {svs : List SV} {ps : Env} (hx : RepXs K F H σ ρ vs xs) (es : svsOf p xs ρ = some svs) (ec : ExtC K vs svs F H F' H' ps) :
    Rel K s0 F' H' σ (backP p xs svs ps ρ) ∧ Ext σ ρ F H σ (backP p xs svs ps ρ) F' H' ∧ ∀ b, CR σ (backP p xs svs ps ρ) b → CR σ ρ b := by
  obtain ⟨hp, hq⟩ := svsOf_ok r hx es
  have plain : (∀ (j : Nat) (t : Ct), svs[j]? ≠ some (.c .pin t)) → Rel K s0 F' H' σ ρ ∧ Ext σ ρ F H σ ρ F' H' ∧ ∀ b, CR σ ρ b → CR σ ρ b := fun no => by
    have hh : Same H H' := fun a o h => ec.h a o h fun j t z => absurd z (no j t)
    exact ⟨r.grow ec.f hh ec.sub ec.n, Ext.grow ec.f hh ec.n, fun _ z => z⟩
  by_cases z : ∃ (j : Nat) (t : Ct), svs[j]? = some (.c .pin t)
  · obtain ⟨j, t, z⟩ := z
    obtain ⟨i, m, h1, h2, h3⟩ := hq j .pin t z
    obtain ⟨t', a, g1, g2, g3, g4, g5⟩ := ec.p j t z
    rcases h3 with ⟨rfl, hm, ht, _⟩ | ⟨_, y⟩
    · have eb : backP (some j) xs svs ps ρ = ρ.set i (some (.c m t')) := by
        unfold backP
        simp only [h1, z, g1, h2]
      rw [eb]
      have hvi : σ[i]? = some (some (.ref a)) := by
        obtain ⟨v, e1, e2⟩ := paired_getR hx h1
        rw [g3] at e1
        cases e1
        exact e2
      refine r.change h2 hm ht g2 hvi ec.f ec.sub (fun b o h nb => ec.h b o h fun k t2 y1 y2 => ?_) ec.n g5 g4 ec.s
      obtain ⟨_, _, _, _, w⟩ := hq k .pin t2 y1
      rcases w with ⟨w, _⟩ | ⟨_, w⟩
      · cases w
        rw [g3] at y2
        cases y2
        exact nb rfl
      · cases w
    · cases y
  · have no : ∀ (j : Nat) (t : Ct), svs[j]? ≠ some (.c .pin t) := fun j t y => z ⟨j, t, y⟩
    have eb : backP p xs svs ps ρ = ρ := by
      unfold backP
      split
      · rfl
      · split
        · split
          · rename_i y
            exact absurd y (no _ _)
          · rfl
        · rfl
    rw [eb]
    exact plain no
end

section
variable {X : Cx} {G : Gd} {k : Nat} {f : Addr} {fd : FuncData} {ps : List Str} {n : Nat} {Fu : Fn} {x : Str} {p : Option Nat} {q pos : Pos} {e : Expr} {es : List Expr} {g : FA}
theorem callF_in {σ : Sl} {H : Hp} {Q : VK} (h : tE G (fCall p Fu g) σ H Q) (ln : ∀ (ρ : Env) (xs : List XV) (ρ' : Env), g ρ = .ok xs ρ' → xs.length = n) : tCallS (spF G.K G.mg n Fu) (WE G.W) (tA G g) σ H Q := by
  obtain ⟨F, ρ, rl, pp⟩ := h
  refine ⟨F, ρ, rl, pp.seq.mono fun xs ρ1 F1 H1 eg _ _ ⟨rl1, e1, p1⟩ vs hvs => ?_⟩
  unfold callF at p1
  by_cases ha : alOk p xs = true
  · rw [if_pos ha] at p1
    split at p1
    · rename_i svs es
      obtain ⟨hp, hq⟩ := svsOf_ok rl1 hvs es
      refine ⟨by rw [Paired.length hvs]; exact ln ρ xs ρ1 eg, F1, svs, rl1.sub, hp, ?_, ?_, ?_⟩
      · intro i j m m' t t' a hij h1 h2 g1 g2 hb h3 h4
        obtain ⟨i1, m1, x1, r1, c1⟩ := hq i m t h1
        obtain ⟨i2, m2, x2, r2, c2⟩ := hq j m' t' h2
        rcases c1 with ⟨c1, hm1, _, rfl⟩ | ⟨_, rfl⟩
        · have ne : i2 ≠ i1 := fun z => alOk_ne ha c1 x1 (Ne.symm hij) (by rw [x2, z])
          obtain ⟨v1, e1', y1⟩ := paired_getR hvs x1
          obtain ⟨v2, e2', y2⟩ := paired_getR hvs x2
          rw [h3] at e1'
          cases e1'
          rw [h4] at e2'
          cases e2'
          exact rl1.sep i1 i2 m1 m2 t t' a (Ne.symm ne) r1 r2 g1 g2 hm1 y1 y2
        · exact hb rfl
      · intro j t z
        obtain ⟨_, _, _, _, c⟩ := hq j .own t z
        rcases c with ⟨_, _, _, c⟩ | ⟨_, c⟩ <;> cases c
      · split at p1
        · rename_i y ps ef
          try simp only [ef]
          intro F2 H2 v ec hv
          obtain ⟨r2, e2, c2⟩ := back_ok rl1 hvs es ec
          refine p1 F2 H2 r2 e2 v ?_ ?_
          · cases y with
            | d d => exact hv
            | c m t =>
              obtain ⟨h1, h2, a, rfl, h3, h4, h5⟩ := hv
              refine ⟨h1, h2, a, rfl, h4, fun z => ?_, h5⟩
              obtain ⟨_, o, w⟩ := rl1.crTop (c2 a z)
              rw [h3] at w
              cases w
          · cases y with
            | d d => trivial
            | c m t =>
              obtain ⟨_, _, a, rfl, h3, _⟩ := hv
              exact fun b z => by
                cases z
                exact e1.gone h3
        · rename_i k2 ps ef
          try simp only [ef]
          intro F2 H2 v ec hv ⟨t, hk⟩
          obtain ⟨r2, e2, c2⟩ := back_ok rl1 hvs es ec
          obtain ⟨i, m, x1, r1, _⟩ := hq k2 .pin t hk
          simp only [x1] at p1
          refine p1 F2 H2 r2 e2 v ?_ trivial
          obtain ⟨u, w1, w2⟩ := paired_getR hvs x1
          rw [hv] at w1
          cases w1
          exact w2
        · rename_i y ps ef
          try simp only [ef]
          intro F2 H2 c d ec hx
          obtain ⟨r2, e2, c2⟩ := back_ok rl1 hvs es ec
          exact p1 F2 H2 c d r2 e2 hx
        · exact p1.elim
    · exact p1.elim
  · rw [if_neg ha] at p1
    exact p1.elim
/-- f(e, ..) -/
theorem c_call (Fk : FnOk X.prog X.w X.K X.mg X.base (L2.CX X.prog X.w) k f fd ps (spF G.K G.mg n Fu)) (hr : Room k X.A) (hm : X.mg x = some (.ref f)) (hk : PySem.W.keepIn X.K (.ref f) = true) (hb : Binds X.K fd ps []) (tk : Takes X G.W)
    (ha : PA X (e :: es) (tA G g)) (ln : ∀ (ρ : Env) (xs : List XV) (ρ' : Env), g ρ = .ok xs ρ' → xs.length = n) (hg : Gl X x := by rfl) (hdb : (x == ("__debug__" : Str)) = false := by decide)
    (he : starEach (e :: es) X.env = (false, eval e X.env) :: starEach es X.env := by rfl) (hpl : (backTo pos (starEach es X.env)).any (·.1) = false := by rfl) :
    PE X (.Call (.Name x q) (e :: es) [] pos) (tE G (fCall p Fu g)) :=
  PE.of (pe_callS Fk hr hg hm hk hb (passAt tk) ha hdb he hpl) fun _ _ _ h => callF_in h ln
end
/-- how many -/
def Ln (g : FA) (n : Nat) : Prop := ∀ (ρ : Env) (xs : List XV) (ρ' : Env), g ρ = .ok xs ρ' → xs.length = n
theorem ln_nil : Ln aNil 0 := fun ρ xs ρ' h => by
  cases h
  rfl
theorem ln_val {f : FE} {g : FA} {n : Nat} (h : Ln g n) : Ln (aVal f g) (n + 1) := fun ρ xs ρ' e => by
  unfold aVal at e
  cases ef : f ρ with
  | ok x ρ1 =>
    rw [ef] at e
    have e' : (g ρ1).bind (fun xs ρ2 => R.ok (x :: xs) ρ2) = R.ok xs ρ' := e
    cases eg : g ρ1 with
    | ok ys ρ2 =>
      rw [eg] at e'
      cases e'
      rw [List.length_cons, h ρ1 ys _ eg]
    | exc _ _ =>
      rw [eg] at e'
      cases e'
    | bad =>
      rw [eg] at e'
      cases e'
  | exc _ _ =>
    rw [ef] at e
    cases e
  | bad =>
    rw [ef] at e
    cases e
theorem ln_dat {f : FE} {g : FA} {n : Nat} (h : Ln g n) : Ln (aDat f g) (n + 1) := fun ρ xs ρ' e => by
  unfold aDat at e
  cases ef : fD f ρ with
  | ok x ρ1 =>
    rw [ef] at e
    have e' : (g ρ1).bind (fun xs ρ2 => R.ok (XV.v (.d x) :: xs) ρ2) = R.ok xs ρ' := e
    cases eg : g ρ1 with
    | ok ys ρ2 =>
      rw [eg] at e'
      cases e'
      rw [List.length_cons, h ρ1 ys _ eg]
    | exc _ _ =>
      rw [eg] at e'
      cases e'
    | bad =>
      rw [eg] at e'
      cases e'
  | exc _ _ =>
    rw [ef] at e
    cases e
  | bad =>
    rw [ef] at e
    cases e
end Pv
set_option Elab.async false
set_option linter.all false
set_option maxRecDepth 100000
namespace Pv
open PySem PySem.Spec PyProof.Rows L2

/-! ## targets -/
def setV (i : Nat) : FG := fun x ρ => match ρ[i]? with
  | some (some (.c .pin _)) => none
  | _ => match x with
    | .v s => some (ρ.set i (some s))
    | .r j => match leak (.r j) ρ with
      | .ok d ρ1 => match ρ1[i]? with
        | some (some (.c .pin _)) => none
        | _ => some (ρ1.set i (some (.d d)))
      | _ => none
section
variable {K : PySem.W.Frag} {s0 : Sl} {F H : Hp} {σ : Sl} {ρ ρ0 : Env} {F0 H0 : Hp}
theorem wr_set {i : Nat} {o : Option V} : Wr [i] σ (σ.set i o) := ⟨List.length_set, fun j hj => List.getElem?_set_ne (by
  intro z
  subst z
  exact hj (by simp))⟩
theorem setS_ok {i : Nat} {v : V} {s : SV} (r : Rel K s0 F H σ ρ) (e0 : Ext σ ρ0 F0 H0 σ ρ F H) (np : ∀ t, ρ[i]? ≠ some (some (.c .pin t))) (hx : RepX K F H σ ρ v (.v s)) (hf : Fr0 H0 v (.v s)) :
    Rel K s0 F H (σ.set i (some v)) (ρ.set i (some s)) ∧ Ext σ ρ0 F0 H0 (σ.set i (some v)) (ρ.set i (some s)) F H := by
  have rep : RepS K F H v s := by
    cases s with
    | d x => exact hx
    | c m t =>
      obtain ⟨_, _, a, rfl, h1, _, h2⟩ := hx
      exact ⟨a, rfl, fun _ => h1, h2⟩
  have ll : σ.length = ρ.length := r.len.symm
  have atR : ∀ {j : Nat} {sv : SV}, (ρ.set i (some s))[j]? = some (some sv) → (j = i ∧ sv = s ∧ (σ.set i (some v))[j]? = some (some v)) ∨ (j ≠ i ∧ ρ[j]? = some (some sv) ∧ (σ.set i (some v))[j]? = σ[j]?) := fun {j sv} h => by
    by_cases hj : j = i
    · subst hj
      by_cases li : j < ρ.length
      · rw [List.getElem?_set_self li] at h
        cases h
        exact .inl ⟨rfl, rfl, List.getElem?_set_self (by omega)⟩
      · rw [List.getElem?_eq_none (by rw [List.length_set]; omega)] at h
        cases h
    · rw [List.getElem?_set_ne (Ne.symm hj)] at h
      exact .inr ⟨hj, h, List.getElem?_set_ne (Ne.symm hj)⟩
  refine ⟨⟨r.sub, by rw [List.length_set, List.length_set]; exact r.len, fun j sv h => ?_, fun j k m1 m2 t1 t2 b hjk h1 h2 g1 g2 hb h3 h4 => ?_, fun j t h => ?_⟩, ⟨e0.f, e0.h, e0.n, fun b z => ?_, fun b z => ?_, e0.s⟩⟩
  · rcases atR h with ⟨_, rfl, h2⟩ | ⟨_, h1, h2⟩
    · exact ⟨v, h2, rep⟩
    · obtain ⟨u, e, q⟩ := r.slot j sv h1
      exact ⟨u, h2.trans e, q⟩
  · rcases atR h1 with ⟨rfl, e1, y1⟩ | ⟨n1, y1, w1⟩
    · rcases atR h2 with ⟨rfl, e2, y2⟩ | ⟨n2, y2, w2⟩
      · exact hjk rfl
      · subst e1
        obtain ⟨_, _, a, rfl, _, nc, _⟩ := hx
        rw [y1] at h3
        cases h3
        exact nc ⟨k, m2, t2, y2, g2, w2.symm.trans h4⟩
    · rcases atR h2 with ⟨rfl, e2, y2⟩ | ⟨n2, y2, w2⟩
      · subst e2
        obtain ⟨_, _, a, rfl, _, nc, _⟩ := hx
        rw [y2] at h4
        cases h4
        exact nc ⟨j, m1, t1, y1, g1, w1.symm.trans h3⟩
      · exact r.sep j k m1 m2 t1 t2 b hjk y1 y2 g1 g2 hb (w1.symm.trans h3) (w2.symm.trans h4)
  · rcases atR h with ⟨rfl, e1, _⟩ | ⟨_, y1, w1⟩
    · subst e1
      obtain ⟨hm, _⟩ := hx
      cases hm
    · exact w1.trans (r.pin j t y1)
  · obtain ⟨j, m, t, h1, h2, h3, h4⟩ := z
    rcases atR h1 with ⟨rfl, e1, y1⟩ | ⟨_, y1, w1⟩
    · subst e1
      rw [y1] at h4
      cases h4
      exact .inr (hf b rfl)
    · exact e0.o b ⟨j, m, t, y1, h2, h3, w1.symm.trans h4⟩
  · obtain ⟨j, m, t, h1, h2, h4⟩ := z
    rcases atR h1 with ⟨rfl, e1, y1⟩ | ⟨_, y1, w1⟩
    · subst e1
      rw [y1] at h4
      cases h4
      exact .inr (hf b rfl)
    · exact e0.c b ⟨j, m, t, y1, h2, w1.symm.trans h4⟩
end
section
variable {X : Cx} {G : Gd} {pos : Pos}
theorem setV_in {i : Nat} {v : V} {σ : Sl} {H : Hp} {Q : Sl → Hp → Prop} (q : tG G [i] (setV i) v σ H Q) : gName i v σ H Q := by
  obtain ⟨F, ρ, x, ρ', F0, H0, ρ0, r, e0, hx, hf, eg, k⟩ := q
  show Q (σ.set i (some v)) H
  have plain : ∀ {s : SV}, x = .v s → (∀ t, ρ[i]? ≠ some (some (.c .pin t))) → ρ' = ρ.set i (some s) → Q (σ.set i (some v)) H := fun {s} ex np er => by
    subst ex
    subst er
    obtain ⟨r1, e1⟩ := setS_ok r e0 np hx hf
    exact k F H _ r1 e1 wr_set
  unfold setV at eg
  split at eg
  · cases eg
  · rename_i np
    have np' : ∀ t, ρ[i]? ≠ some (some (.c .pin t)) := fun t z => np t z
    cases x with
    | v s =>
      simp only at eg
      cases eg
      exact plain rfl np' rfl
    | r j =>
      simp only at eg
      split at eg
      · rename_i d ρ1 el
        split at eg
        · cases eg
        · rename_i np2
          cases eg
          obtain ⟨F1, r1, e1, _, hd⟩ := leak_ok r e0 hx hf el
          obtain ⟨r2, e2⟩ := setS_ok (s := .d d) (i := i) r1 e1 (fun t z => np2 t z) hd trivial
          exact k F1 H _ r2 e2 wr_set
      · cases eg
theorem g_name (i : Nat) {x : Str} (hN : X.N.Nodup) (hi : X.N[i]? = some x := by rfl) (hx : Loc X.env.scope x := by first | exact Or.inl rfl | exact Or.inr rfl) (hf : X.fn x = true ∨ X.env.scope.names.lookup x = some .local := by first | exact .inl rfl | exact .inr rfl) : PG X (.Name x pos) (tG G [i] (setV i)) :=
  PG.of (pg_name hN hi hx hf) fun _ _ _ _ q => setV_in q

/-! several targets, items of a tuple -/
abbrev FGs := List D → Env → Option Env
def tGs (G : Gd) (ws : List Nat) (g : FGs) : TGs := fun vs σ H Q => ∃ F ρ ds ρ' F0 H0 ρ0, Rel G.K G.s0 F H σ ρ ∧ Ext σ ρ0 F0 H0 σ ρ F H ∧ DqAll F vs ds ∧ g ds ρ = some ρ' ∧
  ∀ F' H' σ', Rel G.K G.s0 F' H' σ' ρ' → Ext σ ρ0 F0 H0 σ' ρ' F' H' → Wr ws σ σ' → Q σ' H'
def gsNil : FGs := fun ds ρ => match ds with
  | [] => some ρ
  | _ => none
def gsCons (g : FG) (gs : FGs) : FGs := fun ds ρ => match ds with
  | d :: r => match g (.v (.d d)) ρ with
    | some ρ1 => gs r ρ1
    | none => none
  | [] => none
def gTupF (n : Nat) (gs : FGs) : FG := fun x ρ => match pk ρ x with
  | some (.tuple ds) => if ds.length == n then gs ds ρ else none
  | _ => none
theorem PGs.of {e : List Expr} {t t' : TGs} (h : PGs X e t) (hi : ∀ v σ H Q, t' v σ H Q → t v σ H Q) : PGs X e t' := ⟨fun pins s σ H v u Q I r q => h.run pins s σ H v u Q I r (hi _ _ _ _ q)⟩
theorem gs_nil : PGs X [] (tGs G [] gsNil) := PGs.of pgs_nil fun vs σ H Q ⟨F, ρ, ds, ρ', F0, H0, ρ0, r, e0, hd, eg, k⟩ => by
  cases hd with
  | nil =>
    cases eg
    exact ⟨rfl, k F H σ r e0 ⟨rfl, fun _ _ => rfl⟩⟩
  | cons _ _ => cases eg
theorem gs_cons {e : Expr} {es : List Expr} {ws ws' : List Nat} {g : FG} {gs : FGs} (h1 : PG X e (tG G ws g)) (h2 : PGs X es (tGs G ws' gs)) (hs : (assignEach (e :: es) X.env).map (·.2) = assign e X.env :: (assignEach es X.env).map (·.2) := by rfl) :
    PGs X (e :: es) (tGs G (ws ++ ws') (gsCons g gs)) := PGs.of (pgs_cons h1 h2 hs) fun vs σ H Q ⟨F, ρ, ds, ρ', F0, H0, ρ0, r, e0, hd, eg, k⟩ => by
  cases hd with
  | nil => cases eg
  | @cons v vr d ds a tl =>
    have eg' : (match g (.v (.d d)) ρ with | some ρ1 => gs ds ρ1 | none => none) = some ρ' := eg
    cases q : g (.v (.d d)) ρ with
    | none =>
      rw [q] at eg'
      cases eg'
    | some ρ1 =>
      rw [q] at eg'
      refine ⟨v, vr, rfl, F, ρ, .v (.d d), ρ1, F, H, ρ, r, Ext.refl _ _ _ _, a, trivial, q, fun F1 H1 σ1 r1 e1 w1 => ?_⟩
      refine ⟨F1, ρ1, ds, ρ', F1, H1, ρ1, r1, Ext.refl _ _ _ _, DqAll.up e1.f _ _ tl, eg', fun F2 H2 σ2 r2 e2 w2 => k F2 H2 σ2 r2 (e0.trans (e1.trans e2)) ⟨w2.1.trans w1.1, fun j hj => ?_⟩⟩
      rw [w2.2 j (fun z => hj (List.mem_append_right _ z)), w1.2 j (fun z => hj (List.mem_append_left _ z))]
theorem g_tup {es : List Expr} {k n : Nat} {ws : List Nat} {gs : FGs} (hK : G.K = X.K) (hc : X.calm = true) (h : PGs X es (tGs G ws gs)) (hn : (assignEach es X.env).length = n := by rfl) (hst : (assignEach es X.env).findIdx? (·.1) = none := by rfl) :
    PG X (.Tuple es k pos) (tG G ws (gTupF n gs)) := PG.of (pg_tup hc h hn hst) fun v σ H Q ⟨F, ρ, x, ρ', F0, H0, ρ0, r, e0, hx, hf, eg, kk⟩ => by
  unfold gTupF at eg
  split at eg
  · rename_i ds ed
    have hp := pk_ok r hx ed
    cases hp with
    | tup a b =>
      split at eg
      · rename_i hl
        exact ⟨_, _, rfl, SqT.of (r.sub _ _ a), b.length.trans (beq_iff_eq.mp hl), F, ρ, ds, ρ', F0, H0, ρ0, r, e0, b, eg, kk⟩
      · cases eg
  · cases eg
end

/-! ## statements -/
def fAsg (f : FE) (g : FG) : FS := fun ρ => match f ρ with
  | .ok x ρ1 => match g x ρ1 with
    | some ρ2 => .nx ρ2
    | none => .bad
  | .exc x ρ1 => .exc x ρ1
  | .bad => .bad
def fExpr (f : FE) : FS := fun ρ => match f ρ with
  | .ok _ ρ1 => .nx ρ1
  | .exc x ρ1 => .exc x ρ1
  | .bad => .bad
def fRet (f : FE) : FS := fun ρ => match f ρ with
  | .ok x ρ1 => .rt x ρ1
  | .exc x ρ1 => .exc x ρ1
  | .bad => .bad
def fRetN : FS := fun ρ => .rt (.v (.d .none)) ρ
def fPass : FS := fun ρ => .nx ρ
def fBreak : FS := fun ρ => .bk ρ
def fCont : FS := fun ρ => .ct ρ
def fNever : FS := fun _ => .bad
def fIfS (t : FT) (a b : FS) : FS := fun ρ => match t ρ with
  | .ok k ρ1 => if k = true then a ρ1 else b ρ1
  | .exc x ρ1 => .exc x ρ1
  | .bad => .bad
def fSeq (a b : FS) : FS := fun ρ => match a ρ with
  | .nx ρ1 => b ρ1
  | r => r
section
variable {X : Cx} {G : Gd} {st : Stmt} {rest : List Stmt} {e tg c : Expr} {f : FE} {g : FG} {ws : List Nat} {t : FT} {a b : FS} {pos : Pos}
theorem fAsg_in {D : Ends} {σ : Sl} {H : Hp} (q : tS G (fAsg f g) D σ H) : tAsg (tE G f) (tG G ws g) D σ H := by
  obtain ⟨F, ρ, rl, p⟩ := q
  refine ⟨F, ρ, rl, ?_⟩
  unfold fAsg at p
  cases ef : f ρ with
  | ok x ρ1 =>
    rw [ef] at p
    intro F1 H1 r1 e1 v hv hf
    have p' : PS' G σ ρ F H (match g x ρ1 with | some ρ2 => .nx ρ2 | none => .bad) D := p
    cases eg : g x ρ1 with
    | none =>
      rw [eg] at p'
      exact p'.elim
    | some ρ2 =>
      rw [eg] at p'
      exact ⟨F1, ρ1, x, ρ2, F, H, ρ, r1, e1, hv, hf, eg, fun F2 H2 σ2 r2 e2 _ => p' F2 H2 σ2 r2 e2⟩
  | exc x ρ1 =>
    rw [ef] at p
    exact fun F' H' c d r' e' z => p F' H' σ c d r' e' z
  | bad =>
    rw [ef] at p
    exact p.elim
theorem s_asg (he : PE X e (tE G f)) (hg : PG X tg (tG G ws g)) (hs : swapsWithSole [tg] e pos.line X.env = pure false := by rfl) (hw : swappedStores [tg] e X.env = pure none := by rfl) (h1 : (assignEach [tg] X.env).map (·.2) = [assign tg X.env] := by rfl) :
    PS X (.Assign [tg] e pos) (tS G (fAsg f g)) := PS.of (ps_asg he hg hs hw h1) fun _ _ _ q => fAsg_in q
theorem s_set (i : Nat) {x : Str} {pos' : Pos} (hN : X.N.Nodup) (he : PE X e (tE G f)) (hi : X.N[i]? = some x := by rfl) (hx : Loc X.env.scope x := by first | exact Or.inl rfl | exact Or.inr rfl) (hs : swapsWith e (some (.Name x pos')) pos.line X.env = pure false := by rfl)
    (hf : X.fn x = true ∨ X.env.scope.names.lookup x = some .local := by first | exact .inl rfl | exact .inr rfl) : PS X (.Assign [.Name x pos'] e pos) (tS G (fAsg f (setV i))) :=
  PS.of (ps_set hN hi hx he hs hf) fun D σ H q => by
    have q2 : tAsg (tE G f) (tG G [i] (setV i)) D σ H := fAsg_in q
    obtain ⟨F, ρ, rl, p⟩ := q2
    exact ⟨F, ρ, rl, p.mono fun x ρ1 F1 H1 _ _ _ h v hv hf => setV_in (h v hv hf)⟩
theorem s_expr (he : PE X e (tE G f)) (hs : swapsWith e none pos.line X.env = pure false := by rfl) : PS X (.Expr e pos) (tS G (fExpr f)) := PS.of (ps_expr he hs) fun D σ H ⟨F, ρ, rl, p⟩ => ⟨F, ρ, rl, by
  unfold fExpr at p
  cases ef : f ρ with
  | ok x ρ1 =>
    rw [ef] at p
    exact fun F1 H1 r1 e1 v hv hf => p F1 H1 σ r1 e1
  | exc x ρ1 =>
    rw [ef] at p
    exact fun F' H' c d r' e' z => p F' H' σ c d r' e' z
  | bad =>
    rw [ef] at p
    exact p.elim⟩
theorem s_ret (he : PE X e (tE G f)) : PS X (.Return (some e) pos) (tS G (fRet f)) := PS.of (ps_ret he) fun D σ H ⟨F, ρ, rl, p⟩ => ⟨F, ρ, rl, by
  unfold fRet at p
  cases ef : f ρ with
  | ok x ρ1 =>
    rw [ef] at p
    exact fun F1 H1 r1 e1 v hv hf => p F1 H1 σ v r1 e1 hv hf
  | exc x ρ1 =>
    rw [ef] at p
    exact fun F' H' c d r' e' z => p F' H' σ c d r' e' z
  | bad =>
    rw [ef] at p
    exact p.elim⟩
theorem s_retN : PS X (.Return none pos) (tS G fRetN) := PS.of ps_retN fun D σ H ⟨F, ρ, rl, p⟩ => p F H σ .non rl (Ext.refl _ _ _ _) .non trivial
theorem s_pass : PS X (.Pass pos) (tS G fPass) := PS.of ps_pass fun D σ H ⟨F, ρ, rl, p⟩ => p F H σ rl (Ext.refl _ _ _ _)
theorem s_break : PS X (.Break pos) (tS G fBreak) := PS.of ps_break fun D σ H ⟨F, ρ, rl, p⟩ => p F H σ rl (Ext.refl _ _ _ _)
theorem s_cont : PS X (.Continue pos) (tS G fCont) := PS.of ps_continue fun D σ H ⟨F, ρ, rl, p⟩ => p F H σ rl (Ext.refl _ _ _ _)
theorem s_never : PS X st (tS G fNever) := PS.of ps_never fun D σ H ⟨F, ρ, rl, p⟩ => p
theorem ss_nil : PSs X [] (tS G fPass) := PSs.of pss_nil fun D σ H ⟨F, ρ, rl, p⟩ => p F H σ rl (Ext.refl _ _ _ _)
theorem ss_one (h : PS X st (tS G a)) : PSs X [st] (tS G a) := pss_one h
theorem ss_cons (h1 : PS X st (tS G a)) (h2 : PSs X rest (tS G b)) : PSs X (st :: rest) (tS G (fSeq a b)) := PSs.of (pss_cons h1 h2) fun D σ H ⟨F, ρ, rl, p⟩ => ⟨F, ρ, rl, by
  unfold fSeq at p
  cases ea : a ρ with
  | nx ρ1 =>
    rw [ea] at p
    have p' : PS' G σ ρ F H (b ρ1) D := p
    exact fun F1 H1 σ1 r1 e1 => ⟨F1, ρ1, r1, p'.from e1⟩
  | rt x ρ1 =>
    rw [ea] at p
    exact p
  | bk ρ1 =>
    rw [ea] at p
    exact p
  | ct ρ1 =>
    rw [ea] at p
    exact p
  | exc x ρ1 =>
    rw [ea] at p
    exact p
  | bad =>
    rw [ea] at p
    exact p⟩
theorem s_if {ba bb : List Stmt} (ht : PT X c (tT G t)) (ha : PSs X ba (tS G a)) (hb : PSs X bb (tS G b)) : PS X (.If c ba bb pos) (tS G (fIfS t a b)) := PS.of (ps_if ht ha hb) fun D σ H ⟨F, ρ, rl, p⟩ => ⟨F, ρ, rl, by
  unfold fIfS at p
  cases et : t ρ with
  | ok k ρ1 =>
    rw [et] at p
    have p' : PS' G σ ρ F H (if k = true then a ρ1 else b ρ1) D := p
    intro F1 H1 r1 e1
    cases k with
    | true => exact iteT ⟨F1, ρ1, r1, p'.from e1⟩
    | false => exact iteF ⟨F1, ρ1, r1, p'.from e1⟩
  | exc x ρ1 =>
    rw [et] at p
    exact fun F' H' c d r' e' z => p F' H' σ c d r' e' z
  | bad =>
    rw [et] at p
    exact p.elim⟩
end

/-! ## while -/
def fWhile (t : FT) (b : FS) : Nat → FS
  | 0 => fun _ => .bad
  | n + 1 => fun ρ => match t ρ with
    | .ok k ρ1 => if k = true then match b ρ1 with
        | .nx ρ2 => fWhile t b n ρ2
        | .ct ρ2 => fWhile t b n ρ2
        | .bk ρ2 => .nx ρ2
        | r => r
      else .nx ρ1
    | .exc x ρ1 => .exc x ρ1
    | .bad => .bad
theorem s_while {X : Cx} {G : Gd} {c : Expr} {body : List Stmt} {t : FT} {b : FS} {pos : Pos} (n : Nat) (hp : PassesOwn (model X.prog X.w) X.A X.env X.xe) (ht : PT X c (tT G t)) (hb : PSs X body (tS G b)) : PS X (.While c body [] pos) (tS G (fWhile t b n)) :=
  PS.of (ps_while hp ht hb) fun D σ H q => by
    refine ⟨fun m σ H => ∃ F ρ, Rel G.K G.s0 F H σ ρ ∧ PS' G σ ρ F H (fWhile t b m ρ) D, ⟨n, q⟩, fun m σ H ⟨F, ρ, rl, p⟩ => ?_⟩
    cases m with
    | zero => exact p.elim
    | succ m =>
      refine ⟨F, ρ, rl, ?_⟩
      unfold fWhile at p
      cases et : t ρ with
      | ok k ρ1 =>
        rw [et] at p
        have p' : PS' G σ ρ F H (if k = true then match b ρ1 with
          | .nx ρ2 => fWhile t b m ρ2
          | .ct ρ2 => fWhile t b m ρ2
          | .bk ρ2 => .nx ρ2
          | r => r
          else .nx ρ1) D := p
        intro F1 H1 r1 e1
        cases k with
        | false => exact iteF ((p'.from e1) F1 H1 σ r1 (Ext.refl _ _ _ _))
        | true =>
          refine iteT ⟨fun σ' H' => ∃ F ρ, Rel G.K G.s0 F H' σ' ρ ∧ PS' G σ' ρ F H' (fWhile t b m ρ) D, fun σ' H' z => ⟨m, Nat.lt_succ_self m, z⟩, F1, ρ1, r1, ?_⟩
          have p2 : PS' G σ ρ1 F1 H1 (match b ρ1 with
            | .nx ρ2 => fWhile t b m ρ2
            | .ct ρ2 => fWhile t b m ρ2
            | .bk ρ2 => .nx ρ2
            | r => r) D := p'.from e1
          cases eb : b ρ1 with
          | nx ρ2 =>
            rw [eb] at p2
            exact fun F2 H2 σ2 r2 e2 => ⟨F2, ρ2, r2, PS'.from (r := fWhile t b m ρ2) p2 e2⟩
          | ct ρ2 =>
            rw [eb] at p2
            exact fun F2 H2 σ2 r2 e2 => ⟨F2, ρ2, r2, PS'.from (r := fWhile t b m ρ2) p2 e2⟩
          | bk ρ2 =>
            rw [eb] at p2
            exact p2
          | rt x ρ2 =>
            rw [eb] at p2
            exact p2
          | exc x ρ2 =>
            rw [eb] at p2
            exact p2
          | bad =>
            rw [eb] at p2
            exact p2
      | exc x ρ1 =>
        rw [et] at p
        exact fun F' H' c d r' e' z => p F' H' σ c d r' e' z
      | bad =>
        rw [et] at p
        exact p.elim
end Pv
set_option Elab.async false
set_option linter.all false
set_option maxRecDepth 100000
set_option maxHeartbeats 1000000
namespace Pv
open PySem PySem.Spec PyProof.Rows L2

/-! ## what is walked: a list or a tuple -/
theorem hd1 {A : Around} (h : A.handled = none) : A.in1.handled = none := h
/-- true: a tuple -/
def SqK (K : PySem.W.Frag) (k : Bool) (H : Hp) (a : Addr) (xs : List V) : Prop := match k with
  | true => SqT K H a xs
  | false => SqL K H a xs
def IsSq (k : Bool) (h : Heap) (a : Addr) (its : Array Value) : Prop := match k with
  | true => h.IsTuple a its
  | false => h.IsList a its
def ItAt (k : Bool) (h : Heap) (it a : Addr) (i : Nat) : Prop := match k with
  | true => h.IsTupleIter it a i
  | false => h.IsListIter it a i
def itObj (k : Bool) (a : Addr) : Obj := match k with
  | true => { cls := .type "tuple_iterator", data := .fields #[.ref a, .int 0 0] }
  | false => { cls := .type "list_iterator", data := .fields #[.ref a, .int 0 0] }
theorem begins_sq (k : Bool) (a : Addr) (its : Array Value) : Begins (.ref a) (itObj k a) fun h => IsSq k h a its := match k with
  | true => begins_tuple a its
  | false => begins_list a its
theorem itObj_at (k : Bool) {h : Heap} {it a : Addr} (e : h.get? it = some (itObj k a)) : ItAt k h it a 0 := match k with
  | true => ⟨_, e, rfl, rfl⟩
  | false => ⟨_, e, rfl, rfl⟩
theorem ItAt.at {k : Bool} {h h' : Heap} {it a : Addr} {i : Nat} (st : ItAt k h it a i) (e : ∀ o, h.get? it = some o → h'.get? it = some o) : ItAt k h' it a i := match k with
  | true => Heap.IsTupleIter.at st e
  | false => Heap.IsListIter.at st e
theorem ItAt.obj {k : Bool} {h : Heap} {it a : Addr} {i : Nat} (st : ItAt k h it a i) : ∃ o, h.get? it = some o ∧ ∀ v, o.data ≠ .cell v := by
  cases k with
  | true =>
    obtain ⟨o, e, _, d⟩ := st
    exact ⟨o, e, fun v z => by rw [d] at z; cases z⟩
  | false =>
    obtain ⟨o, e, _, d⟩ := st
    exact ⟨o, e, fun v z => by rw [d] at z; cases z⟩
theorem drawsK {prog : Program} {w : World} {A : Around} (k : Bool) (hh : A.handled = none) (it a : Addr) (hne : a ≠ it) (its : Array Value) : Draws prog w A it [it, a] its.size (fun i v => its[i]? = some v) (fun i h => ItAt k h it a i ∧ IsSq k h a its) := match k with
  | true => Draws.tuple hh it a hne its
  | false => Draws.list hh it a hne its
theorem inv_sq {X : Cx} {pins : List (Addr × Obj)} {σ : Sl} {H : Hp} {s : Shared} (I : Inv X pins σ H s) {k : Bool} {a : Addr} {xs : List V} (h : SqK X.K k H a xs) : ∃ its : List Value, Vals xs its ∧ IsSq k s.heap a its.toArray ∧ xs.length ≤ sizeLine := match k with
  | true => let ⟨its, rv, p, hz⟩ := I.tuple h; ⟨its, rv, p, hz⟩
  | false => let ⟨its, rv, p, hz⟩ := I.list h; ⟨its, rv, p.isList, hz⟩
theorem sq_inj {X : Cx} {pins : List (Addr × Obj)} {σ : Sl} {H : Hp} {s : Shared} (I : Inv X pins σ H s) {k : Bool} {a : Addr} {xs ys : List V} (h : SqK X.K k H a xs) (h' : SqK X.K k H a ys) : xs = ys := match k with
  | true => I.tuple_inj h h'
  | false => I.list_inj h h'
theorem IsSq.lt {k : Bool} {h : Heap} {a : Addr} {its : Array Value} (q : IsSq k h a its) : a < h.objs.size := match k with
  | true => let ⟨_, e, _⟩ := q; Heap.lt_size e
  | false => let ⟨_, e, _⟩ := q; Heap.lt_size e

/-! ### enumerate -/
def IteK (K : PySem.W.Frag) (k : Bool) (a : Addr) : It :=
  ⟨fun i H => ∃ (xs : List V) (x : V), SqK K k H a xs ∧ xs[i]? = some x, fun i H v H' => ∃ T x, v = .ref T ∧ H T = none ∧ H' = upd H T (.tup [.int (i : Nat), x]) ∧ ∀ xs, SqK K k H a xs → xs[i]? = some x, fun i H => ∃ xs : List V, SqK K k H a xs ∧ xs.length = i⟩
theorem turn_enumK {P : Program} {w : World} {K : PySem.W.Frag} {elts : List Expr} {kk : Nat} {tpos : Pos} (k : Bool) (a e it : Addr) :
    Turn P w K (.Tuple elts kk tpos) (IteK K k a) [e, it] e (fun i h => (∃ old, IsEnum h e it ((i : Nat) : Int) old) ∧ ItAt k h it a i ∧ e ≠ it ∧ a ≠ e ∧ a ≠ it) where
  mem := by simp
  obj := fun i h st b hb => by
    obtain ⟨⟨old, he⟩, hi, _⟩ := st
    have e' : b = e ∨ b = it := by simpa using hb
    rcases e' with z | z
    · rw [z]; exact ⟨_, he, fun v q => nomatch q⟩
    · rw [z]; exact hi.obj
  keep := fun i h h' st k => let ⟨⟨old, he⟩, hi, hne⟩ := st; ⟨⟨old, k e (by simp) _ he⟩, hi.at fun o q => k it (by simp) o q, hne⟩
  item := by
    intro X hP hw hK hc i pins s σ H E I hf st hg
    subst hP hw hK
    obtain ⟨⟨old, he⟩, hit, hne, hae, hai⟩ := st
    obtain ⟨xs, x, hq, hx⟩ := hg
    obtain ⟨its, rv, p, hz⟩ := inv_sq I hq
    obtain ⟨u, hu, ru⟩ := rv.get hx
    have hlt : i < its.toArray.size := by
      have := (List.getElem?_eq_some_iff.mp hu).1
      simpa using this
    have hel : e < s.heap.objs.size := Heap.lt_size he
    have hil : it < s.heap.objs.size := by
      obtain ⟨_, q, _⟩ := hit.obj
      exact Heap.lt_size q
    have D : Draws X.prog X.w X.A.in1 it [it, a] its.toArray.size (fun i v => its.toArray[i]? = some v) (fun i h => ItAt k h it a i ∧ IsSq k h a its.toArray) := drawsK k (hd1 (I.ok.hd hc)) it a hai its.toArray
    refine wpAny_pyNext_enum_itemD D he ⟨hit, p⟩ hlt hne (by simp [hne, Ne.symm hae]) fun y h' tk hy ho hst hT hsz hk => ?_
    have hyu : y = u := by
      have hy' : its[i]? = some y := by simpa using hy
      rw [hu] at hy'
      exact (Option.some.inj hy').symm
    subst hyu
    refine ⟨_, rfl, wpAny_letOwnedTupleGo_enum (s := { s with heap := h', toks := tk + 1 }) ho fun h'' he' sb => ?_⟩
    have hT2 : h''.get? s.heap.objs.size = some { cls := .type "tuple", data := .seq #[.int i tk, y] } := (sb.2 _ (Nat.ne_of_gt hel)).trans hT
    have new : ObjOk X.prog X.w (upd H s.heap.objs.size (.tup [.int (i : Nat), x])) h'' s.heap.objs.size (.tup [.int (i : Nat), x]) :=
      ⟨by show 2 ≤ sizeLine; decide, [.int i tk, y], .cons ⟨_, rfl⟩ (.cons ru .nil), ⟨_, hT2, rfl, _, rfl⟩⟩
    have I1 : Inv X pins σ (upd H s.heap.objs.size (.tup [.int (i : Nat), x])) { s with heap := h'', toks := tk + 1 } :=
      I.turnedNew (ch := [e, it]) (fun b ob hb q => (sb.2 b (fun z => hb (by simp [z]))).trans (hk b ob (fun z => hb (by simp [z])) (fun z => hb (by simp [z])) q)) hf (Nat.le_refl _) new
    refine ⟨.ref s.heap.objs.size, _, I1, rfl, ⟨_, x, rfl, I.hok.fresh (Nat.le_refl _), rfl, fun ys hy => by rw [sq_inj I hy hq]; exact hx⟩, ⟨⟨y, ?_⟩, hst.1.at fun o q => (sb.2 it (Ne.symm hne)).trans q, hne, hae, hai⟩, fun b hb => ?_⟩
    · have e1 : ((i + 1 : Nat) : Int) = (i : Int) + 1 := by omega
      rw [e1]; exact he'
    · have hb' : b < s.heap.objs.size := by
        have e' : b = e ∨ b = it := by simpa using hb
        rcases e' with z | z
        · rw [z]; exact hel
        · rw [z]; exact hil
      rw [upd_ne (Nat.ne_of_lt hb')]
      exact (hf b hb).1
  done := by
    intro X hP hw hK hc i pins s σ H E I hf st hg
    subst hP hw hK
    obtain ⟨⟨old, he⟩, hit, hne, hae, hai⟩ := st
    obtain ⟨xs, hq, hx⟩ := hg
    obtain ⟨its, rv, p, hz⟩ := inv_sq I hq
    have hl := rv.length
    have D : Draws X.prog X.w X.A.in1 it [it, a] its.toArray.size (fun i v => its.toArray[i]? = some v) (fun i h => ItAt k h it a i ∧ IsSq k h a its.toArray) := drawsK k (hd1 (I.ok.hd hc)) it a hai its.toArray
    obtain ⟨f0, f1, f2, f3, f4, f5⟩ := hf it (by simp)
    have hi : its.toArray.size = i := by simp; omega
    exact wpAny_pyNext_enum_endD D he (by rw [hi]; exact ⟨hit, p⟩) fun h' eb => ⟨rfl, I.turned (t' := s.toks) (fun b o hb q => eb b o hb q) f0 f1 f3 f4 f5⟩
  self := fun A i s Q E st h => let ⟨⟨_, he⟩, _⟩ := st; wpAny_pyIter_enum he h
set_option maxHeartbeats 1000000 in
theorem meets_enum1 {v : Value} {o : Obj} {H : Heap → Prop} (B : Begins v o H) :
    Meets (Builtin.«enumerate.__new__» ⟨[.type "enumerate", v], []⟩) (fun _ R s => H s.heap ∧
      R (.ok (.ret (.ref (s.heap.push o).objs.size))) { s with heap := (s.heap.push o).push { cls := .type "enumerate", data := .fields #[.none, .bool false, .ref s.heap.objs.size, rawInt 0, .none, .none] } }) :=
  .of_wp fun prog w A R s h => by
    obtain ⟨hp, g, d, tk, os⟩ := s; obtain ⟨h1, h⟩ := h
    have hsub := sub_enumerate
    have q1 : ∀ {A' : Around} {E : Value → Shared → Prop} {Q : Value → Shared → Prop}, Q (.ref hp.objs.size) ⟨hp.push o, g, d, tk, os⟩ → wpAny (model prog w) A' (pyIter v) Q E ⟨hp, g, d, tk, os⟩ :=
      fun q => B.iter prog w _ _ ⟨hp, g, d, tk, os⟩ _ h1 q
    wp_walk using q1
    refine wpAny_stack_any fun st => wpAny_pure ?_
    split
    · rename_i c _ _ _ _ _
      cases (c == Value.type "enumerate")
      · wp_walk using q1
        exact ⟨_, rfl, h⟩
      · wp_walk using q1
        exact ⟨_, rfl, h⟩
    · wp_walk using q1
      exact ⟨_, rfl, h⟩
theorem enum1_begins {prog : Program} {w : World} {A : Around} {E : Value → Shared → Prop} {s : Shared} {v : Value} {o : Obj} {H : Heap → Prop} {Q : Value → Shared → Prop} (B : Begins v o H) (h1 : H s.heap)
    (h : ∀ h', IsEnum h' (s.heap.objs.size + 1) s.heap.objs.size 0 .none → h'.get? s.heap.objs.size = some o → h'.objs.size = s.heap.objs.size + 2 →
      (∀ b o, s.heap.get? b = some o → h'.get? b = some o) → Q (.ref (s.heap.objs.size + 1)) { s with heap := h' }) :
    wpAny (model prog w) A (call (.type "enumerate") [v]) Q E s := by
  refine callType_new F.called_enumerate (by decide) (F.typeCall_enumerate_1 _) (F.newCall_enumerate_1 _) (fun obj => F.args_object_init_2 obj _) F.entry_enumerate_new
    (meets_enum1 B) ⟨h1, ?_⟩
  have hz : (s.heap.push o).objs.size = s.heap.objs.size + 1 := Heap.size_push ..
  show _ ∧ _
  rw [hz]
  have he : IsEnum ((s.heap.push o).push { cls := .type "enumerate", data := .fields #[.none, .bool false, .ref s.heap.objs.size, rawInt 0, .none, .none] }) (s.heap.objs.size + 1) s.heap.objs.size 0 .none := by
    have := Heap.get?_push_size (s.heap.push o) (o := { cls := .type "enumerate", data := .fields #[.none, .bool false, .ref s.heap.objs.size, rawInt 0, .none, .none] }) rfl
    rw [hz] at this; exact this
  refine ⟨⟨_, he, rfl⟩, h _ he (Heap.get?_push_of_some _ (Heap.get?_push_size _ B.free)) (by rw [Heap.size_push, hz]) fun b o x => Heap.get?_push_of_some _ (Heap.get?_push_of_some _ x)⟩
/-- x a list or a tuple -/
def iEnumK (K : PySem.W.Frag) (ta : TA) : TI := fun σ H R => ta σ H fun vs H1 => ∃ (k : Bool) (a : Addr) (xs : List V), vs = [.ref a] ∧ SqK K k H1 a xs ∧ R (IteK K k a) H1
theorem pi_enumK {X : Cx} {e : Expr} {ta : TA} {p pos tpos : Pos} {elts : List Expr} {kk : Nat} (hg : Gl X "enumerate") (hm : X.mg "enumerate" = none) (ha : PA X [e] ta) (hs : starEach [e] X.env = [(false, eval e X.env)] := by rfl) :
    PI X (.Tuple elts kk tpos) (.Call (.Name "enumerate" p) [e] [] pos) (iEnumK X.K ta) := by
  refine ⟨fun pins s σ H R I h => ?_⟩
  refine Call_ (ld_blt I hg hm boot_enumerate (PyProof.Rows.callWith_type1 (thn (ha.run pos pins s σ H _ I h) fun us s1 ⟨vs, H1, I1, r1, q1⟩ => ?_) hs rfl))
  obtain ⟨k, a, xs, ex, hq, q⟩ := q1
  subst ex
  cases r1 with
  | cons r rr =>
    cases rr
    cases r
    obtain ⟨its, rv, p', hz⟩ := inv_sq I1 hq
    have hal := p'.lt
    refine enum1_begins (begins_sq k a its.toArray) p' fun h' he hit hsz hk => wpAny_pyIter_enum he ?_
    have I2 : Inv X pins σ H1 { s1 with heap := h' } := I1.kept (t' := s1.toks) hk
    refine ⟨s1.heap.objs.size + 1, [s1.heap.objs.size + 1, s1.heap.objs.size], _, _, H1, rfl, I2, turn_enumK k a (s1.heap.objs.size + 1) s1.heap.objs.size, ⟨⟨.none, he⟩, itObj_at k hit, Nat.succ_ne_self _, Nat.ne_of_lt (Nat.lt_succ_of_lt hal), Nat.ne_of_lt hal⟩, fun b hb => ?_, q⟩
    have e' : b = s1.heap.objs.size + 1 ∨ b = s1.heap.objs.size := by simpa using hb
    have hle : s1.heap.objs.size ≤ b := by
      rcases e' with z | z
      · rw [z]; exact Nat.le_add_right _ _
      · rw [z]; exact Nat.le_refl _
    exact I1.fpOk hle (I1.hok.fresh hle)

/-! ### zip of two -/
def ItzK (K : PySem.W.Frag) (k k' : Bool) (a b : Addr) : It :=
  ⟨fun i H => ∃ (xs ys : List V) (x y : V), SqK K k H a xs ∧ SqK K k' H b ys ∧ xs[i]? = some x ∧ ys[i]? = some y,
    fun i H v H' => ∃ T x y, v = .ref T ∧ H T = none ∧ H' = upd H T (.tup [x, y]) ∧ (∀ xs, SqK K k H a xs → xs[i]? = some x) ∧ ∀ ys, SqK K k' H b ys → ys[i]? = some y,
    fun i H => ∃ xs ys : List V, SqK K k H a xs ∧ SqK K k' H b ys ∧ i ≤ xs.length ∧ i ≤ ys.length ∧ (xs.length = i ∨ ys.length = i)⟩
theorem turn_zipK {P : Program} {w : World} {K : PySem.W.Frag} {elts : List Expr} {kk : Nat} {tpos : Pos} {k k' : Bool} {a b z TI TO i1 i2 : Addr} (S : ZipSep2 z TI TO i1 i2 [i1, a] [i2, b]) :
    Turn P w K (.Tuple elts kk tpos) (ItzK K k k' a b) [z, TI, TO, i1, i2] z (fun i h => IsZip h z TI TO .none ∧ IsTupOf2 h TI (.ref i1) (.ref i2) ∧ (∃ x y, IsTupOf2 h TO x y) ∧ ItAt k h i1 a i ∧ ItAt k' h i2 b i ∧ a ≠ i1 ∧ b ≠ i2) where
  mem := by simp
  obj := fun i h st c hc => by
    obtain ⟨hz, hTI, ⟨x, y, hTO⟩, h1, h2, _⟩ := st
    have e' : c = z ∨ c = TI ∨ c = TO ∨ c = i1 ∨ c = i2 := by simpa using hc
    rcases e' with q | q | q | q | q
    · rw [q]; exact ⟨_, hz, fun v q => nomatch q⟩
    · rw [q]; exact ⟨_, hTI, fun v q => nomatch q⟩
    · rw [q]; exact ⟨_, hTO, fun v q => nomatch q⟩
    · rw [q]; exact h1.obj
    · rw [q]; exact h2.obj
  keep := fun i h h' st k => by
    obtain ⟨hz, hTI, ⟨x, y, hTO⟩, h1, h2, hn⟩ := st
    exact ⟨k z (by simp) _ hz, k TI (by simp) _ hTI, ⟨x, y, k TO (by simp) _ hTO⟩, h1.at fun o q => k i1 (by simp) o q, h2.at fun o q => k i2 (by simp) o q, hn⟩
  item := by
    intro X hP hw hK hc i pins s σ H E I hf st hg
    subst hP hw hK
    obtain ⟨hz, hTI, ⟨x0, y0, hTO⟩, h1, h2, n1, n2⟩ := st
    obtain ⟨xs, ys, x, y, hqx, hqy, hx, hy⟩ := hg
    obtain ⟨its, rv, p, _⟩ := inv_sq I hqx
    obtain ⟨its2, rv2, p2, _⟩ := inv_sq I hqy
    obtain ⟨u, hu, ru⟩ := rv.get hx
    obtain ⟨u2, hu2, ru2⟩ := rv2.get hy
    have hzl : z < s.heap.objs.size := Heap.lt_size hz
    have lt1 : i < its.toArray.size := by
      have := (List.getElem?_eq_some_iff.mp hu).1
      simpa using this
    have lt2 : i < its2.toArray.size := by
      have := (List.getElem?_eq_some_iff.mp hu2).1
      simpa using this
    have D1 : Draws X.prog X.w X.A.in1 i1 [i1, a] its.toArray.size (fun i v => its.toArray[i]? = some v) (fun i h => ItAt k h i1 a i ∧ IsSq k h a its.toArray) := drawsK k (hd1 (I.ok.hd hc)) i1 a n1 its.toArray
    have D2 : Draws X.prog X.w X.A.in1 i2 [i2, b] its2.toArray.size (fun i v => its2.toArray[i]? = some v) (fun i h => ItAt k' h i2 b i ∧ IsSq k' h b its2.toArray) := drawsK k' (hd1 (I.ok.hd hc)) i2 b n2 its2.toArray
    refine wpAny_pyNext_zipD2_item S D1 D2 hz hTI hTO ⟨h1, p⟩ ⟨h2, p2⟩ lt1 lt2 fun w1 w2 h' tk y1 y2 z' TO' s1' s2' hT hsz hk => ?_
    have e1 : w1 = u := by
      have hy' : its[i]? = some w1 := by simpa using y1
      rw [hu] at hy'
      exact (Option.some.inj hy').symm
    have e2 : w2 = u2 := by
      have hy' : its2[i]? = some w2 := by simpa using y2
      rw [hu2] at hy'
      exact (Option.some.inj hy').symm
    subst e1 e2
    refine ⟨_, rfl, wpAny_letOwnedTupleGo_zip (s := { s with heap := h', toks := tk }) z' fun h'' z'' sb => ?_⟩
    have hT2 : h''.get? s.heap.objs.size = some { cls := .type "tuple", data := .seq #[w1, w2] } := (sb.2 _ (Nat.ne_of_gt hzl)).trans hT
    have new : ObjOk X.prog X.w (upd H s.heap.objs.size (.tup [x, y])) h'' s.heap.objs.size (.tup [x, y]) :=
      ⟨by show 2 ≤ sizeLine; decide, [w1, w2], .cons ru (.cons ru2 .nil), ⟨_, hT2, rfl, _, rfl⟩⟩
    have I1 : Inv X pins σ (upd H s.heap.objs.size (.tup [x, y])) { s with heap := h'', toks := tk } :=
      I.turnedNew (t' := tk) (ch := [z, TI, TO, i1, i2]) (fun c o hb q => (sb.2 c (fun q' => hb (by simp [q']))).trans (hk c o (fun q' => hb (by simp [q'])) (fun q' => hb (by simp [q'])) (fun q' => hb (by simp [q'])) (fun q' => hb (by simp [q'])) q)) hf (Nat.le_refl _) new
    refine ⟨.ref s.heap.objs.size, _, I1, rfl, ⟨_, x, y, rfl, I.hok.fresh (Nat.le_refl _), rfl, fun l hl => by rw [sq_inj I hl hqx]; exact hx, fun l hl => by rw [sq_inj I hl hqy]; exact hy⟩, ⟨z'', ?_, ⟨w1, w2, ?_⟩, ?_, ?_, n1, n2⟩, fun c hcm => ?_⟩
    · exact (sb.2 _ S.TIz).trans (hk _ _ S.TIz S.TITO S.TIi1 S.TIi2 hTI)
    · exact (sb.2 _ S.TOz).trans TO'
    · exact s1'.1.at fun o q => (sb.2 _ (Ne.symm S.zi1)).trans q
    · exact s2'.1.at fun o q => (sb.2 _ (Ne.symm S.zi2)).trans q
    · have hlt : c < s.heap.objs.size := by
        have e' : c = z ∨ c = TI ∨ c = TO ∨ c = i1 ∨ c = i2 := by simpa using hcm
        rcases e' with q | q | q | q | q
        · rw [q]; exact hzl
        · rw [q]; exact Heap.lt_size hTI
        · rw [q]; exact Heap.lt_size hTO
        · rw [q]; obtain ⟨_, e1, _⟩ := h1.obj; exact Heap.lt_size e1
        · rw [q]; obtain ⟨_, e2, _⟩ := h2.obj; exact Heap.lt_size e2
      rw [upd_ne (Nat.ne_of_lt hlt)]
      exact (hf c hcm).1
  done := by
    intro X hP hw hK hc i pins s σ H E I hf st hg
    subst hP hw hK
    obtain ⟨hz, hTI, ⟨x0, y0, hTO⟩, h1, h2, n1, n2⟩ := st
    obtain ⟨xs, ys, hqx, hqy, g1, g2, hend⟩ := hg
    obtain ⟨its, rv, p, _⟩ := inv_sq I hqx
    obtain ⟨its2, rv2, p2, _⟩ := inv_sq I hqy
    have l1 := rv.length
    have l2 := rv2.length
    have D1 : Draws X.prog X.w X.A.in1 i1 [i1, a] its.toArray.size (fun i v => its.toArray[i]? = some v) (fun i h => ItAt k h i1 a i ∧ IsSq k h a its.toArray) := drawsK k (hd1 (I.ok.hd hc)) i1 a n1 its.toArray
    have D2 : Draws X.prog X.w X.A.in1 i2 [i2, b] its2.toArray.size (fun i v => its2.toArray[i]? = some v) (fun i h => ItAt k' h i2 b i ∧ IsSq k' h b its2.toArray) := drawsK k' (hd1 (I.ok.hd hc)) i2 b n2 its2.toArray
    refine wpAny_pyNext_zipD2_end S D1 D2 hz hTI hTO ⟨h1, p⟩ ⟨h2, p2⟩ (by simp; omega) (by simp; omega) (by simp; omega) fun h' tk hk => ⟨rfl, I.turnedL (t' := tk) (ch := [z, TI, TO, i1, i2]) (fun c o hb q =>
      hk c o (fun q' => hb (by simp [q'])) (fun q' => hb (by simp [q'])) (fun q' => hb (by simp [q'])) (fun q' => hb (by simp [q'])) q) hf⟩
  self := fun A i s Q E st h => wpAny_pyIter_zip st.1 h
def iZipK (K : PySem.W.Frag) (ta : TA) : TI := fun σ H R => ta σ H fun vs H1 => ∃ (k k' : Bool) (a b : Addr) (xs ys : List V), vs = [.ref a, .ref b] ∧ SqK K k H1 a xs ∧ SqK K k' H1 b ys ∧ R (ItzK K k k' a b) H1
theorem pi_zipK {X : Cx} {e e2 : Expr} {ta : TA} {p pos tpos : Pos} {elts : List Expr} {kk : Nat} (hg : Gl X "zip") (hm : X.mg "zip" = none) (ha : PA X [e, e2] ta)
    (hs : starEach [e, e2] X.env = (false, eval e X.env) :: starEach [e2] X.env := by rfl) (hpl : (backTo pos (starEach [e2] X.env)).any (·.1) = false := by rfl) :
    PI X (.Tuple elts kk tpos) (.Call (.Name "zip" p) [e, e2] [] pos) (iZipK X.K ta) := by
  refine ⟨fun pins s σ H R I h => ?_⟩
  refine Call_ (ld_blt I hg hm PyProof.Rows.boot_zip (PyProof.Rows.callWith_type1 (thn (ha.run pos pins s σ H _ I h) fun us s1 ⟨vs, H1, I1, r1, q1⟩ => ?_) hs hpl))
  obtain ⟨k, k', a, b, xs, ys, ex, hqx, hqy, q⟩ := q1
  subst ex
  cases r1 with
  | cons r rr =>
    cases rr with
    | cons r' rr =>
      cases rr
      cases r
      cases r'
      obtain ⟨its, rv, p1, _⟩ := inv_sq I1 hqx
      obtain ⟨its2, rv2, p2, _⟩ := inv_sq I1 hqy
      have la := p1.lt
      have lb := p2.lt
      refine zip_begins2 (begins_sq k a its.toArray) (begins_sq k' b its2.toArray) p1 p2 fun h' hz hTI hTO h1 h2 hsz hk => wpAny_pyIter_zip hz ?_
      have I2 : Inv X pins σ H1 { s1 with heap := h' } := I1.kept (t' := s1.toks) hk
      have S : ZipSep2 (s1.heap.objs.size + 4) (s1.heap.objs.size + 2) (s1.heap.objs.size + 3) s1.heap.objs.size (s1.heap.objs.size + 1) [s1.heap.objs.size, a] [s1.heap.objs.size + 1, b] :=
        zip_sep2 (fp1 := [a]) (fp2 := [b]) (fun c hc => by rw [List.mem_singleton.mp hc]; exact la) (fun c hc => by rw [List.mem_singleton.mp hc]; exact lb)
      refine ⟨s1.heap.objs.size + 4, [s1.heap.objs.size + 4, s1.heap.objs.size + 2, s1.heap.objs.size + 3, s1.heap.objs.size, s1.heap.objs.size + 1], _, _, H1, rfl, I2, turn_zipK S, ⟨hz, hTI, ⟨_, _, hTO⟩, itObj_at k h1, itObj_at k' h2, Nat.ne_of_lt la, Nat.ne_of_lt (Nat.lt_succ_of_lt lb)⟩, fun c hcm => ?_, q⟩
      have e' : c = s1.heap.objs.size + 4 ∨ c = s1.heap.objs.size + 2 ∨ c = s1.heap.objs.size + 3 ∨ c = s1.heap.objs.size ∨ c = s1.heap.objs.size + 1 := by simpa using hcm
      have hle : s1.heap.objs.size ≤ c := by
        rcases e' with z | z | z | z | z
        · rw [z]; exact Nat.le_add_right _ _
        · rw [z]; exact Nat.le_add_right _ _
        · rw [z]; exact Nat.le_add_right _ _
        · rw [z]; exact Nat.le_refl _
        · rw [z]; exact Nat.le_add_right _ _
      exact I1.fpOk hle (I1.hok.fresh hle)
/-! ### any sequence -/
def iAny (K : PySem.W.Frag) (tl : TE) : TI := fun σ H R => tl σ H fun x H1 => (∃ a, x = .ref a ∧ (∃ xs, SqL K H1 a xs) ∧ R (Itl K a) H1) ∨ (∃ a, x = .ref a ∧ (∃ xs, SqT K H1 a xs) ∧ R (Itt K a) H1) ∨ ∃ t, x = .str t ∧ R (Its t) H1
theorem pi_any {X : Cx} {tg l : Expr} {tl : TE} (hl : PE X l tl) : PI X tg l (iAny X.K tl) := by
  refine ⟨fun pins s σ H R I h => ?_⟩
  refine thn (hl.run pins s σ H _ I h) fun v s1 ⟨x, H1, I1, r1, q1⟩ => ?_
  rcases q1 with ⟨a, e, ⟨xs, hq⟩, q⟩ | ⟨a, e, ⟨xs, hq⟩, q⟩ | ⟨t, e, q⟩
  · subst e
    cases r1
    obtain ⟨its, rv, p, hz⟩ := I1.list hq
    refine wpAny_pyIter_list p.isList ?_
    refine ⟨s1.heap.objs.size, [s1.heap.objs.size], _, _, H1, rfl, I1.kept (t' := s1.toks) fun b o e => Heap.get?_push_of_some _ e, turn_list a _, ⟨_, Heap.get?_push_size _ rfl, rfl, rfl⟩, fun b hb => ?_, q⟩
    have e : b = s1.heap.objs.size := by simpa using hb
    subst e
    exact I1.fpOk (Nat.le_refl _) (I1.hok.fresh (Nat.le_refl _))
  · subst e
    cases r1
    obtain ⟨its, rv, p, hz⟩ := I1.tuple hq
    refine wpAny_pyIter_tuple (show s1.heap.IsTuple a its.toArray from p) ?_
    refine ⟨s1.heap.objs.size, [s1.heap.objs.size], _, _, H1, rfl, I1.kept (t' := s1.toks) fun b o e => Heap.get?_push_of_some _ e, turn_tuple a _, ⟨_, Heap.get?_push_size _ rfl, rfl, rfl⟩, fun b hb => ?_, q⟩
    have e : b = s1.heap.objs.size := by simpa using hb
    subst e
    exact I1.fpOk (Nat.le_refl _) (I1.hok.fresh (Nat.le_refl _))
  · subst e
    obtain ⟨u, rfl⟩ := r1
    cases ha : t.cps.all (· < 128)
    · exact wpAny_pyIter_wide ha (pi_one (tk := s1.toks) I1 _ (turn_str _ t u "str_iterator" (.inr rfl)) ⟨_, Heap.get?_push_size _ rfl, rfl, rfl⟩ q)
    · exact wpAny_pyIter_ascii ha (pi_one (tk := s1.toks) I1 _ (turn_str _ t u "str_ascii_iterator" (.inl rfl)) ⟨_, Heap.get?_push_size _ rfl, rfl, rfl⟩ q)
end Pv
set_option Elab.async false
set_option linter.all false
set_option maxRecDepth 100000
set_option maxHeartbeats 1000000
namespace Pv
open PySem PySem.Spec PyProof.Rows L2

/-! ## sources -/
abbrev FI := Env → R (List D)
/-- the lists lent to be read -/
def Bo (σ : Sl) (ρ : Env) (b : Addr) : Prop := ∃ (i : Nat) (t : Ct), ρ[i]? = some (some (.c .bor t)) ∧ t.mut = true ∧ σ[i]? = some (some (.ref b))
structure Hold (σ : Sl) (ρ : Env) (F H F2 H2 : Hp) : Prop where
  f : Same F F2
  h : ∀ b o, Bo σ ρ b → H b = some o → H2 b = some o
theorem Bo.nor {K : PySem.W.Frag} {s0 : Sl} {F H : Hp} {σ : Sl} {ρ : Env} (r : Rel K s0 F H σ ρ) {b : Addr} (h : Bo σ ρ b) : ¬ OR σ ρ b := fun ⟨j, m, t, z1, zm, zb, z2⟩ => by
  obtain ⟨i, t', h1, h2, h3⟩ := h
  by_cases hj : j = i
  · subst hj
    rw [h1] at z1
    cases z1
    exact zb rfl
  · exact r.sep j i m .bor t t' b hj z1 h1 zm h2 zb z2 h3
theorem Bo.cr {σ : Sl} {ρ : Env} {b : Addr} (h : Bo σ ρ b) : CR σ ρ b := let ⟨i, t, h1, h2, h3⟩ := h; ⟨i, .bor, t, h1, h2, h3⟩
theorem Hold.of {K : PySem.W.Frag} {s0 : Sl} {F H F2 H2 : Hp} {σ σ2 : Sl} {ρ ρ2 : Env} (r : Rel K s0 F H σ ρ) (e : Ext σ ρ F H σ2 ρ2 F2 H2) : Hold σ ρ F H F2 H2 := ⟨e.f, fun b o h z => e.h b o z (h.nor r)⟩
theorem Hold.refl {σ : Sl} {ρ : Env} {F H : Hp} : Hold σ ρ F H F H := ⟨fun _ _ h => h, fun _ _ _ h => h⟩
/-- the items, as they stand through what follows -/
def IterOk (σ : Sl) (ρ : Env) (F H : Hp) (ds : List D) (J : It) : Prop := ∀ (F2 H2 : Hp) (i : Nat), Hold σ ρ F H F2 H2 → Same F2 H2 → i ≤ ds.length →
  (i < ds.length → J.go i H2 ∧ ∀ x H3, J.yld i H2 x H3 → ∃ F3 d, ds[i]? = some d ∧ Br F2 H2 F3 H3 ∧ Dq F3 x d) ∧ (ds.length = i → J.stop i H2)
def tI (G : Gd) (f : FI) : TI := fun σ H R => ∃ F ρ, Rel G.K G.s0 F H σ ρ ∧ PE' G σ ρ F H (f ρ) fun ds ρ' F' H' => ∀ J, IterOk σ ρ' F' H' ds J → R J H'
theorem PI.of {X : Cx} {tg e : Expr} {t t' : TI} (h : PI X tg e t) (hi : ∀ σ H R, t' σ H R → t σ H R) : PI X tg e t' := ⟨fun pins s σ H R I q => h.run pins s σ H R I (hi _ _ _ q)⟩
def chars (x : Str) : List D := x.cps.toList.map fun c => .str ⟨#[c]⟩
def seqIt : D → Option (List D)
  | .list xs => some xs
  | .tuple xs => some xs
  | .str x => some (chars x)
  | _ => none
def leakIt (x : XV) (ρ : Env) : R (List D) := (leak x ρ).bind fun d ρ1 => match seqIt d with
  | some xs => .ok xs ρ1
  | none => .bad
def itX (x : XV) (ρ : Env) : R (List D) := match x with
  | .v s => leakIt (.v s) ρ
  | .r i => match ρ[i]? with
    | some (some (.c .bor (.l xs))) => .ok xs ρ
    | _ => leakIt (.r i) ρ
def fSrc (f : FE) : FI := fun ρ => (f ρ).bind itX
/-- a list or a tuple that stays -/
def Stays (K : PySem.W.Frag) (σ : Sl) (ρ : Env) (F H : Hp) (v : V) (ds : List D) : Prop :=
  ∃ a k vs, v = .ref a ∧ DqAll F vs ds ∧ ∀ (F2 H2 : Hp), Hold σ ρ F H F2 H2 → Same F2 H2 → SqK K k H2 a vs
section
variable {K : PySem.W.Frag} {s0 : Sl} {F H : Hp} {σ : Sl} {ρ ρ' : Env}
theorem stays_frz {v : V} {d : D} {ds : List D} (h : Dq F v d) (e : d = .list ds ∨ d = .tuple ds) : Stays K σ ρ F H v ds := by
  rcases e with rfl | rfl
  · cases h with
    | lst a b => exact ⟨_, false, _, rfl, b, fun _ _ e s => SqL.of (s _ _ (e.f _ _ a))⟩
  · cases h with
    | tup a b => exact ⟨_, true, _, rfl, b, fun _ _ e s => SqT.of (s _ _ (e.f _ _ a))⟩
theorem stays_bor (r : Rel K s0 F H σ ρ) {i : Nat} {v : V} {ds : List D} (hi : σ[i]? = some (some v)) (h : ρ[i]? = some (some (.c .bor (.l ds)))) : Stays K σ ρ F H v ds := by
  obtain ⟨a, h1, _, vs, h3, h4⟩ := r.root h
  rw [hi] at h1
  cases h1
  exact ⟨a, false, vs, rfl, h4, fun _ _ e s => SqL.of (e.h _ _ ⟨i, _, h, rfl, hi⟩ h3)⟩
/-- by its places -/
theorem Stays.it (h : Stays K σ ρ F H v ds) : ∃ a k, v = .ref a ∧ ∀ (F2 H2 : Hp), Hold σ ρ F H F2 H2 → Same F2 H2 → ∃ vs, DqAll F2 vs ds ∧ SqK K k H2 a vs := by
  obtain ⟨a, k, vs, e, hd, hs⟩ := h
  exact ⟨a, k, e, fun _ _ z s => ⟨vs, DqAll.up z.f _ _ hd, hs _ _ z s⟩⟩
/-- what is walked -/
theorem itX_ok {x : XV} {v : V} {ρ0 : Env} {F0 H0 : Hp} {ds : List D} (r : Rel K s0 F H σ ρ) (e0 : Ext σ ρ0 F0 H0 σ ρ F H) (hx : RepX K F H σ ρ v x) (hf : Fr0 H0 v x) (e : itX x ρ = .ok ds ρ') :
    ∃ F', Rel K s0 F' H σ ρ' ∧ Ext σ ρ0 F0 H0 σ ρ' F' H ∧ (Stays K σ ρ' F' H v ds ∨ ∃ t, v = .str t ∧ ds = chars t) := by
  have lk : ∀ {y : XV}, RepX K F H σ ρ v y → Fr0 H0 v y → leakIt y ρ = .ok ds ρ' → ∃ F', Rel K s0 F' H σ ρ' ∧ Ext σ ρ0 F0 H0 σ ρ' F' H ∧ (Stays K σ ρ' F' H v ds ∨ ∃ t, v = .str t ∧ ds = chars t) := fun {y} hy hfy e => by
    unfold leakIt at e
    cases el : leak y ρ with
    | ok d ρ1 =>
      rw [el] at e
      have e' : (match seqIt d with | some xs => R.ok xs ρ1 | none => .bad) = .ok ds ρ' := e
      obtain ⟨F', r', ex, _, hd⟩ := leak_ok r e0 hy hfy el
      unfold seqIt at e'
      split at e'
      · rename_i xs hxs
        cases e'
        refine ⟨F', r', ex, ?_⟩
        split at hxs
        · cases hxs
          exact .inl (stays_frz hd (.inl rfl))
        · cases hxs
          exact .inl (stays_frz hd (.inr rfl))
        · cases hxs
          cases hd
          exact .inr ⟨_, rfl, rfl⟩
        · cases hxs
      · cases e'
    | exc _ _ =>
      rw [el] at e
      cases e
    | bad =>
      rw [el] at e
      cases e
  cases x with
  | v s => exact lk hx hf e
  | r i =>
    have hi : σ[i]? = some (some v) := hx
    unfold itX at e
    simp only at e
    split at e
    · rename_i xs hq
      cases e
      exact ⟨F, r, e0, .inl (stays_bor r hi hq)⟩
    · exact lk hx hf e
end
theorem chars_get {t : Str} {i : Nat} {c : Nat} (h : t.cps[i]? = some c) : (chars t)[i]? = some (.str ⟨#[c]⟩) := by
  unfold chars
  rw [List.getElem?_map, Array.getElem?_toList, h]
  rfl
theorem chars_len {t : Str} : (chars t).length = t.cps.size := by
  unfold chars
  rw [List.length_map, Array.length_toList]
section
variable {X : Cx} {G : Gd} {tg e : Expr} {f : FE}
theorem iter_of_stays {K : PySem.W.Frag} {F H : Hp} {σ : Sl} {ρ : Env} {a : Addr} {k : Bool} {ds : List D} {J : It} (hs : ∀ (F2 H2 : Hp), Hold σ ρ F H F2 H2 → Same F2 H2 → ∃ vs, DqAll F2 vs ds ∧ SqK K k H2 a vs)
    (hgo : ∀ i H, J.go i H ↔ ∃ (xs : List V) (x : V), SqK K k H a xs ∧ xs[i]? = some x) (hst : ∀ i H, (∃ xs : List V, SqK K k H a xs ∧ xs.length = i) → J.stop i H) (hy : ∀ i H x H', J.yld i H x H' → H' = H ∧ ∀ xs, SqK K k H a xs → xs[i]? = some x) : IterOk σ ρ F H ds J := by
  intro F2 H2 i ex sm hle
  obtain ⟨vs, hd, hq⟩ := hs F2 H2 ex sm
  have hl := hd.length
  refine ⟨fun hi => ⟨(hgo i H2).mpr ⟨vs, vs[i]'(by omega), hq, List.getElem?_eq_getElem (by omega)⟩, fun x H3 y => ?_⟩, fun hi => hst i H2 ⟨vs, hq, by omega⟩⟩
  obtain ⟨rfl, h2⟩ := hy i H2 x H3 y
  obtain ⟨d, e1, e2⟩ := hd.getV (h2 vs hq)
  exact ⟨F2, d, e1, Br.refl sm, e2⟩
theorem leak_nx {x : XV} {ρ ρ' : Env} {y : Exn} : leak x ρ ≠ .exc y ρ' := fun h => by
  unfold leak at h
  split at h
  · cases h
  · cases h
  · cases h
  · split at h <;> cases h
theorem leakIt_nx {x : XV} {ρ ρ' : Env} {y : Exn} : leakIt x ρ ≠ .exc y ρ' := fun h => by
  unfold leakIt at h
  cases e : leak x ρ with
  | ok d ρ1 =>
    rw [e] at h
    have h' : (match seqIt d with | some xs => R.ok xs ρ1 | none => .bad) = .exc y ρ' := h
    split at h' <;> cases h'
  | exc z ρ1 => exact leak_nx e
  | bad =>
    rw [e] at h
    cases h
theorem itX_nx {x : XV} {ρ ρ' : Env} {y : Exn} : itX x ρ ≠ .exc y ρ' := fun h => by
  unfold itX at h
  split at h
  · exact leakIt_nx h
  · split at h
    · cases h
    · exact leakIt_nx h
theorem i_any (hK : G.K = X.K) (he : PE X e (tE G f)) : PI X tg e (tI G (fSrc f)) := PI.of (pi_any he) fun σ H R ⟨F, ρ, rl, p⟩ => by
  refine ⟨F, ρ, rl, ?_⟩
  have p' : PE' G σ ρ F H ((f ρ).bind itX) fun ds ρ' F' H' => ∀ J, IterOk σ ρ' F' H' ds J → R J H' := p
  cases ef : f ρ with
  | exc x ρ1 =>
    rw [ef] at p'
    exact p'
  | bad =>
    rw [ef] at p'
    exact p'
  | ok x ρ1 =>
    rw [ef] at p'
    intro F1 H1 rl1 e1 v hv hf
    have p1 : PE' G σ ρ F H (itX x ρ1) fun ds ρ' F' H' => ∀ J, IterOk σ ρ' F' H' ds J → R J H' := p'
    cases ei : itX x ρ1 with
    | bad =>
      rw [ei] at p1
      exact p1.elim
    | exc y ρ2 => exact absurd ei itX_nx
    | ok ds ρ2 =>
      rw [ei] at p1
      obtain ⟨F2, rl2, e2, q⟩ := itX_ok rl1 e1 hv hf ei
      have p2 := p1 F2 H1 rl2 e2
      rcases q with q | ⟨t, rfl, rfl⟩
      · obtain ⟨a, k, rfl, hs⟩ := q.it
        rw [hK] at hs
        obtain ⟨vs, _, hq⟩ := hs _ _ Hold.refl rl2.sub
        cases k with
        | true => exact .inr (.inl ⟨a, rfl, ⟨vs, hq⟩, p2 _ (iter_of_stays (k := true) hs (fun i H => Iff.rfl) (fun i H ⟨xs, h1, h2⟩ => ⟨xs, h1, Nat.le_of_eq h2⟩) fun i H x H' h => h)⟩)
        | false => exact .inl ⟨a, rfl, ⟨vs, hq⟩, p2 _ (iter_of_stays (k := false) hs (fun i H => Iff.rfl) (fun i H ⟨xs, h1, h2⟩ => ⟨xs, h1, Nat.le_of_eq h2⟩) fun i H x H' h => h)⟩
      · refine .inr (.inr ⟨t, rfl, p2 _ fun F3 H3 i ex sm hle => ?_⟩)
        rw [chars_len] at hle ⊢
        exact ⟨fun h => ⟨h, fun x H4 ⟨hh, c, hc, hx⟩ => by
          subst hh hx
          exact ⟨F3, _, chars_get hc, Br.refl sm, .str _⟩⟩, fun h => Nat.le_of_eq h⟩
end
end Pv
set_option Elab.async false
set_option linter.all false
set_option maxRecDepth 100000
set_option maxHeartbeats 1000000
namespace Pv
open PySem PySem.Spec PyProof.Rows L2

/-! ## range -/
def upL (lo : Int) : Nat → List D
  | 0 => []
  | n + 1 => .int lo :: upL (lo + 1) n
def downL (lo : Int) : Nat → List D
  | 0 => []
  | n + 1 => .int lo :: downL (lo - 1) n
theorem upL_len : ∀ (n : Nat) (lo : Int), (upL lo n).length = n
  | 0, _ => rfl
  | n + 1, lo => congrArg Nat.succ (upL_len n (lo + 1))
theorem downL_len : ∀ (n : Nat) (lo : Int), (downL lo n).length = n
  | 0, _ => rfl
  | n + 1, lo => congrArg Nat.succ (downL_len n (lo - 1))
theorem upL_get : ∀ (n : Nat) (lo : Int) (i : Nat), i < n → (upL lo n)[i]? = some (.int (lo + i))
  | 0, _, _, h => absurd h (Nat.not_lt_zero _)
  | n + 1, lo, 0, _ => by
    show some (PyData.int lo) = _
    congr 2
    omega
  | n + 1, lo, i + 1, h => by
    show (upL (lo + 1) n)[i]? = _
    rw [upL_get n (lo + 1) i (Nat.lt_of_succ_lt_succ h)]
    congr 2
    omega
theorem downL_get : ∀ (n : Nat) (lo : Int) (i : Nat), i < n → (downL lo n)[i]? = some (.int (lo + (i : Nat) * (-1)))
  | 0, _, _, h => absurd h (Nat.not_lt_zero _)
  | n + 1, lo, 0, _ => by
    show some (PyData.int lo) = _
    congr 2
    omega
  | n + 1, lo, i + 1, h => by
    show (downL (lo - 1) n)[i]? = _
    rw [downL_get n (lo - 1) i (Nat.lt_of_succ_lt_succ h)]
    congr 2
    omega
def inI (j : Int) : Bool := decide (-4611686018427387904 ≤ j) && decide (j < 4611686018427387904)
theorem inI_ok {j : Int} (h : inI j = true) : -(2 ^ 62) ≤ j ∧ j < 2 ^ 62 := by
  unfold inI at h
  rw [Bool.and_eq_true, decide_eq_true_eq, decide_eq_true_eq] at h
  exact ⟨by omega, by omega⟩
def rng1 : List D → Option (List D)
  | [.int j] => if inI j = true then some (upL 0 j.toNat) else none
  | _ => none
def rng2 : List D → Option (List D)
  | [.int i, .int j] => if (inI i && inI j) = true then some (upL i (j - i).toNat) else none
  | _ => none
def rng3 : List D → Option (List D)
  | [.int i, .int j, .int c] => if (inI i && inI j && (c == -1)) = true then some (downL i (i - j).toNat) else none
  | _ => none
def rngX (h : List D → Option (List D)) (xs : List XV) (ρ : Env) : R (List D) := match pks ρ xs with
  | some ds => match h ds with
    | some l => .ok l ρ
    | none => .bad
  | none => .bad
def fRng (h : List D → Option (List D)) (g : FA) : FI := fun ρ => (g ρ).bind (rngX h)

/-! ## lists or tuples walked in pairs, or from the end -/
def seqQ : D → Option (List D)
  | .list xs => some xs
  | .tuple xs => some xs
  | _ => none
def leakQ (x : XV) (ρ : Env) : R (List D) := (leak x ρ).bind fun d ρ1 => match seqQ d with
  | some xs => .ok xs ρ1
  | none => .bad
def itQ (x : XV) (ρ : Env) : R (List D) := match x with
  | .v (.c _ _) => .bad
  | .v (.d d) => leakQ (.v (.d d)) ρ
  | .r i => match ρ[i]? with
    | some (some (.c .bor (.l xs))) => .ok xs ρ
    | _ => leakQ (.r i) ρ
theorem leakQ_nx {x : XV} {ρ ρ' : Env} {y : Exn} : leakQ x ρ ≠ .exc y ρ' := fun h => by
  unfold leakQ at h
  cases e : leak x ρ with
  | ok d ρ1 =>
    rw [e] at h
    have h' : (match seqQ d with | some xs => R.ok xs ρ1 | none => .bad) = .exc y ρ' := h
    split at h' <;> cases h'
  | exc z ρ1 => exact leak_nx e
  | bad =>
    rw [e] at h
    cases h
theorem itQ_nx {x : XV} {ρ ρ' : Env} {y : Exn} : itQ x ρ ≠ .exc y ρ' := fun h => by
  unfold itQ at h
  split at h
  · cases h
  · exact leakQ_nx h
  · split at h
    · cases h
    · exact leakQ_nx h
section
variable {K : PySem.W.Frag} {s0 : Sl} {F H F' H' : Hp} {σ : Sl} {ρ ρ' : Env}
theorem Stays.ext {v : V} {ds : List D} (r : Rel K s0 F H σ ρ) (h : Stays K σ ρ F H v ds) (e : Ext σ ρ F H σ ρ' F' H') (hb : ∀ b, Bo σ ρ b → Bo σ ρ' b) : Stays K σ ρ' F' H' v ds := by
  obtain ⟨a, k, vs, ev, hd, hs⟩ := h
  exact ⟨a, k, vs, ev, DqAll.up e.f _ _ hd, fun _ _ z s => hs _ _ ⟨e.f.trans z.f, fun b o q w => z.h b o (hb b q) (e.h b o w (q.nor r))⟩ s⟩
theorem leak_bo {x : XV} {d : D} (e : leak x ρ = .ok d ρ') {b : Addr} (h : Bo σ ρ b) : Bo σ ρ' b := by
  unfold leak at e
  split at e
  · cases e
    exact h
  · cases e
    exact h
  · cases e
  · split at e
    · cases e
      exact h
    · rename_i i _ xs q
      cases e
      obtain ⟨j, t, h1, h2, h3⟩ := h
      refine ⟨j, t, ?_, h2, h3⟩
      have hj : i ≠ j := fun z => by
        subst z
        rw [q] at h1
        cases h1
      rw [List.getElem?_set_ne hj]
      exact h1
    · cases e
theorem itQ_ok {x : XV} {v : V} {ds : List D} (r : Rel K s0 F H σ ρ) (hx : RepX K F H σ ρ v x) (e : itQ x ρ = .ok ds ρ') :
    ∃ F', Rel K s0 F' H σ ρ' ∧ Ext σ ρ F H σ ρ' F' H ∧ Stays K σ ρ' F' H v ds ∧ ∀ b, Bo σ ρ b → Bo σ ρ' b := by
  have lk : ∀ {y : XV}, RepX K F H σ ρ v y → Fr0 H v y → leakQ y ρ = .ok ds ρ' → ∃ F', Rel K s0 F' H σ ρ' ∧ Ext σ ρ F H σ ρ' F' H ∧ Stays K σ ρ' F' H v ds ∧ ∀ b, Bo σ ρ b → Bo σ ρ' b := fun {y} hy hfy e => by
    unfold leakQ at e
    cases el : leak y ρ with
    | ok d ρ1 =>
      rw [el] at e
      have e' : (match seqQ d with | some xs => R.ok xs ρ1 | none => .bad) = .ok ds ρ' := e
      obtain ⟨F', r', ex, _, hd⟩ := leak_ok r (Ext.refl _ _ _ _) hy hfy el
      split at e'
      · rename_i xs hxs
        cases e'
        refine ⟨F', r', ex, ?_, fun b => leak_bo el⟩
        unfold seqQ at hxs
        split at hxs
        · cases hxs
          exact stays_frz hd (.inl rfl)
        · cases hxs
          exact stays_frz hd (.inr rfl)
        · cases hxs
      · cases e'
    | exc _ _ =>
      rw [el] at e
      cases e
    | bad =>
      rw [el] at e
      cases e
  unfold itQ at e
  split at e
  · cases e
  · exact lk hx trivial e
  · split at e
    · rename_i i _ xs hq
      cases e
      exact ⟨F, r, Ext.refl _ _ _ _, stays_bor r hx hq, fun _ h => h⟩
    · exact lk hx trivial e
end
def enumL : Int → List D → List D
  | _, [] => []
  | n, d :: r => .tuple [.int n, d] :: enumL (n + 1) r
theorem enumL_len : ∀ (ds : List D) (n : Int), (enumL n ds).length = ds.length
  | [], _ => rfl
  | d :: r, n => congrArg Nat.succ (enumL_len r (n + 1))
theorem enumL_get : ∀ {ds : List D} {n : Int} {i : Nat} {d : D}, ds[i]? = some d → (enumL n ds)[i]? = some (.tuple [.int (n + i), d])
  | [], _, _, _, h => by simp at h
  | c :: r, n, 0, d, h => by
    simp at h
    subst h
    show some (PyData.tuple [.int n, c]) = _
    rw [show n + ((0 : Nat) : Int) = n by omega]
  | c :: r, n, i + 1, d, h => by
    show (enumL (n + 1) r)[i]? = _
    rw [enumL_get (ds := r) (n := n + 1) (i := i) (d := d) (by simpa using h)]
    rw [show n + 1 + (i : Int) = n + ((i + 1 : Nat) : Int) by omega]
def zipL : List D → List D → List D
  | a :: r, b :: s => .tuple [a, b] :: zipL r s
  | _, _ => []
theorem zipL_get : ∀ {as bs : List D} {i : Nat} {a b : D}, as[i]? = some a → bs[i]? = some b → (zipL as bs)[i]? = some (.tuple [a, b])
  | [], _, _, _, _, h, _ => by simp at h
  | _ :: _, [], _, _, _, _, h => by simp at h
  | x :: r, y :: s, 0, a, b, h1, h2 => by
    simp at h1 h2
    subst h1 h2
    rfl
  | x :: r, y :: s, i + 1, a, b, h1, h2 => by
    show (zipL r s)[i]? = _
    exact zipL_get (by simpa using h1) (by simpa using h2)
theorem zipL_len : ∀ (as bs : List D), (zipL as bs).length = min as.length bs.length
  | [], _ => by simp [zipL]
  | _ :: _, [] => by simp [zipL]
  | x :: r, y :: s => by
    show (zipL r s).length + 1 = min (r.length + 1) (s.length + 1)
    rw [zipL_len r s]
    omega
def enumX (xs : List XV) (ρ : Env) : R (List D) := match xs with
  | [x] => (itQ x ρ).bind fun ds ρ1 => .ok (enumL 0 ds) ρ1
  | _ => .bad
def zipX (xs : List XV) (ρ : Env) : R (List D) := match xs with
  | [x, y] => (itQ x ρ).bind fun as ρ1 => (itQ y ρ1).bind fun bs ρ2 => .ok (zipL as bs) ρ2
  | _ => .bad
def fEnum (g : FA) : FI := fun ρ => (g ρ).bind enumX
def fZip (g : FA) : FI := fun ρ => (g ρ).bind zipX
section
variable {X : Cx} {G : Gd} {tg e e2 e3 : Expr} {g : FA} {p pos tpos : Pos} {elts : List Expr} {kk : Nat}
theorem dq_ints {F H : Hp} {v : V} {j : Int} (h : Pk F H v (.int j)) : v = .int j := by cases h; rfl
theorem rng_in {h : List D → Option (List D)} {σ : Sl} {H : Hp} {R : It → Hp → Prop} (q : tI G (fRng h g) σ H R) : tA G g σ H fun vs H1 => ∃ F1 ds l, Paired (Pk F1 H1) vs ds ∧ h ds = some l ∧ ∀ J, (∀ (i : Nat) (H2 : Hp), i ≤ l.length → (i < l.length → J.go i H2 ∧ ∀ x H3, J.yld i H2 x H3 → H3 = H2 ∧ ∃ j, l[i]? = some (.int j) ∧ x = .int j) ∧ (l.length = i → J.stop i H2)) → R J H1 := by
  obtain ⟨F, ρ, rl, pp⟩ := q
  refine ⟨F, ρ, rl, pp.seq.mono fun xs ρ1 F1 H1 _ _ _ ⟨rl1, e1, p1⟩ vs hvs => ?_⟩
  unfold rngX at p1
  split at p1
  · rename_i ds ed
    split at p1
    · rename_i l el
      refine ⟨F1, ds, l, pks_ok rl1 hvs ed, el, fun J hJ => p1.here rl1 J fun F2 H2 i ex sm hle => ?_⟩
      obtain ⟨j1, j2⟩ := hJ i H2 hle
      refine ⟨fun hi => ⟨(j1 hi).1, fun x H3 y => ?_⟩, j2⟩
      obtain ⟨rfl, j, h1, rfl⟩ := (j1 hi).2 x H3 y
      exact ⟨F2, _, h1, Br.refl sm, .int j⟩
    · exact p1.elim
  · exact p1.elim
theorem i_rng1 (hm : X.mg "range" = none) (ha : PA X [e] (tA G g)) (hg : Gl X "range" := by rfl) (hs : starEach [e] X.env = [(false, eval e X.env)] := by rfl) : PI X tg (.Call (.Name "range" p) [e] [] pos) (tI G (fRng rng1 g)) := PI.of (pi_range1 hg hm ha hs) fun σ H R q => by
  obtain ⟨F, ρ, rl, pp⟩ := rng_in q
  refine ⟨F, ρ, rl, pp.mono fun xs ρ1 F1 H1 _ _ _ h vs hvs => ?_⟩
  obtain ⟨F2, ds, l, hp, hl, k⟩ := h vs hvs
  unfold rng1 at hl
  split at hl
  · split at hl
    · rename_i j hj
      cases hl
      cases hp with
      | cons a t =>
        cases t
        obtain ⟨q1, q2⟩ := inI_ok hj
        refine ⟨j, by rw [dq_ints a], q1, q2, k _ fun i H2 hle => ?_⟩
        rw [upL_len] at hle ⊢
        exact ⟨fun h => ⟨h, fun x H3 ⟨hh, hx⟩ => ⟨hh, _, upL_get _ _ _ h, hx⟩⟩, fun h => Nat.le_of_eq h⟩
    · cases hl
  · cases hl
theorem i_rng2 (hm : X.mg "range" = none) (ha : PA X [e, e2] (tA G g)) (hg : Gl X "range" := by rfl) (hs : starEach [e, e2] X.env = [(false, eval e X.env), (false, eval e2 X.env)] := by rfl) (hs2 : starEach [e2] X.env = [(false, eval e2 X.env)] := by rfl) : PI X tg (.Call (.Name "range" p) [e, e2] [] pos) (tI G (fRng rng2 g)) := PI.of (pi_range2 hg hm ha hs hs2) fun σ H R q => by
  obtain ⟨F, ρ, rl, pp⟩ := rng_in q
  refine ⟨F, ρ, rl, pp.mono fun xs ρ1 F1 H1 _ _ _ h vs hvs => ?_⟩
  obtain ⟨F2, ds, l, hp, hl, k⟩ := h vs hvs
  unfold rng2 at hl
  split at hl
  · split at hl
    · rename_i i j hj
      cases hl
      rw [Bool.and_eq_true] at hj
      cases hp with
      | cons a t =>
        cases t with
        | cons b t =>
          cases t
          obtain ⟨q1, q2⟩ := inI_ok hj.1
          obtain ⟨q3, q4⟩ := inI_ok hj.2
          refine ⟨i, j, by rw [dq_ints a, dq_ints b], ⟨q1, q2, q3, q4⟩, k _ fun i H2 hle => ?_⟩
          rw [upL_len] at hle ⊢
          exact ⟨fun h => ⟨h, fun x H3 ⟨hh, hx⟩ => ⟨hh, _, upL_get _ _ _ h, hx⟩⟩, fun h => Nat.le_of_eq h⟩
    · cases hl
  · cases hl
theorem i_rng3 (hm : X.mg "range" = none) (ha : PA X [e, e2, e3] (tA G g)) (hg : Gl X "range" := by rfl) (hs : starEach [e, e2, e3] X.env = (false, eval e X.env) :: starEach [e2, e3] X.env := by rfl) (hpl : (backTo pos (starEach [e2, e3] X.env)).any (·.1) = false := by rfl) : PI X tg (.Call (.Name "range" p) [e, e2, e3] [] pos) (tI G (fRng rng3 g)) := PI.of (pi_range3 hg hm ha hs hpl) fun σ H R q => by
  obtain ⟨F, ρ, rl, pp⟩ := rng_in q
  refine ⟨F, ρ, rl, pp.mono fun xs ρ1 F1 H1 _ _ _ h vs hvs => ?_⟩
  obtain ⟨F2, ds, l, hp, hl, k⟩ := h vs hvs
  unfold rng3 at hl
  split at hl
  · split at hl
    · rename_i i j c hj
      cases hl
      rw [Bool.and_eq_true, Bool.and_eq_true] at hj
      obtain ⟨⟨hi, hj⟩, hc⟩ := hj
      have hc : c = -1 := by simpa using hc
      subst hc
      cases hp with
      | cons a t =>
        cases t with
        | cons b t =>
          cases t with
          | cons c t =>
            cases t
            obtain ⟨q1, q2⟩ := inI_ok hi
            obtain ⟨q3, q4⟩ := inI_ok hj
            refine ⟨i, j, -1, (i - j).toNat, by rw [dq_ints a, dq_ints b, dq_ints c], RgC.neg q1 q2 q3 q4, k _ fun i H2 hle => ?_⟩
            rw [downL_len] at hle ⊢
            exact ⟨fun h => ⟨h, fun x H3 ⟨hh, hx⟩ => ⟨hh, _, downL_get _ _ _ h, hx⟩⟩, fun h => Nat.le_of_eq h⟩
    · cases hl
  · cases hl
theorem i_enum (hK : G.K = X.K) (hm : X.mg "enumerate" = none) (ha : PA X [e] (tA G g)) (hg : Gl X "enumerate" := by rfl) (hs : starEach [e] X.env = [(false, eval e X.env)] := by rfl) : PI X (.Tuple elts kk tpos) (.Call (.Name "enumerate" p) [e] [] pos) (tI G (fEnum g)) :=
  PI.of (pi_enumK hg hm ha hs) fun σ H R ⟨F, ρ, rl, pp⟩ => by
    refine ⟨F, ρ, rl, pp.seq.mono fun xs ρ1 F1 H1 _ _ _ ⟨rl1, e1, p1⟩ vs hvs => ?_⟩
    match xs, hvs, p1 with
    | [x], hvs, p1 =>
      cases hvs with
      | cons a t =>
        cases t
        have p1 : PE' G σ ρ1 F1 H1 ((itQ x ρ1).bind fun ds ρ1 => .ok (enumL 0 ds) ρ1) _ := p1
        cases ei : itQ x ρ1 with
        | bad =>
          rw [ei] at p1
          exact p1.elim
        | exc y ρ2 => exact absurd ei itQ_nx
        | ok ds ρ2 =>
          rw [ei] at p1
          obtain ⟨F2, rl2, e2, q, _⟩ := itQ_ok rl1 a ei
          have p2 : PE' G σ ρ1 F1 H1 (.ok (enumL 0 ds) ρ2) _ := p1
          have p3 := p2 F2 H1 rl2 e2
          obtain ⟨aa, k, rfl, hs⟩ := q.it
          rw [hK] at hs
          obtain ⟨us, _, hq⟩ := hs _ _ Hold.refl rl2.sub
          refine ⟨k, aa, us, rfl, hq, p3 _ fun F3 H3 i ex sm hle => ?_⟩
          obtain ⟨ws, hd, hq⟩ := hs F3 H3 ex sm
          have hl := hd.length
          rw [enumL_len] at hle ⊢
          refine ⟨fun hi => ⟨⟨ws, ws[i]'(by omega), hq, List.getElem?_eq_getElem (by omega)⟩, fun x H4 y => ?_⟩, fun hi => ⟨ws, hq, by omega⟩⟩
          obtain ⟨T, u, rfl, hT, rfl, hu⟩ := y
          obtain ⟨d, g1, g2⟩ := hd.getV (hu ws hq)
          have b := Br.frz (o := .tup [.int (i : Nat), u]) sm hT
          refine ⟨_, .tuple [.int i, d], ?_, b, .tup upd_same (.cons (.int _) (.cons (Dq.up b.f _ _ g2) .nil))⟩
          rw [enumL_get g1]
          congr 4
          omega
    | [], _, p1 => exact p1.elim
    | _ :: _ :: _, _, p1 => exact p1.elim
theorem i_zip (hK : G.K = X.K) (hm : X.mg "zip" = none) (ha : PA X [e, e2] (tA G g)) (hg : Gl X "zip" := by rfl) (hs : starEach [e, e2] X.env = (false, eval e X.env) :: starEach [e2] X.env := by rfl) (hpl : (backTo pos (starEach [e2] X.env)).any (·.1) = false := by rfl) : PI X (.Tuple elts kk tpos) (.Call (.Name "zip" p) [e, e2] [] pos) (tI G (fZip g)) :=
  PI.of (pi_zipK hg hm ha hs hpl) fun σ H R ⟨F, ρ, rl, pp⟩ => by
    refine ⟨F, ρ, rl, pp.seq.mono fun xs ρ1 F1 H1 _ _ _ ⟨rl1, e1, p1⟩ vs hvs => ?_⟩
    match xs, hvs, p1 with
    | [x, y], hvs, p1 =>
      cases hvs with
      | cons a t =>
        cases t with
        | cons a' t =>
          cases t
          have p1 : PE' G σ ρ1 F1 H1 ((itQ x ρ1).bind fun as ρ1 => (itQ y ρ1).bind fun bs ρ2 => .ok (zipL as bs) ρ2) _ := p1
          cases ei : itQ x ρ1 with
          | bad =>
            rw [ei] at p1
            exact p1.elim
          | exc y ρ2 => exact absurd ei itQ_nx
          | ok ds ρ2 =>
            rw [ei] at p1
            obtain ⟨F2, rl2, e2, q, _⟩ := itQ_ok rl1 a ei
            have p2 : PE' G σ ρ1 F1 H1 ((itQ y ρ2).bind fun bs ρ2 => .ok (zipL ds bs) ρ2) _ := p1
            cases ei2 : itQ y ρ2 with
            | bad =>
              rw [ei2] at p2
              exact p2.elim
            | exc y ρ2 => exact absurd ei2 itQ_nx
            | ok es ρ3 =>
              rw [ei2] at p2
              obtain ⟨F3, rl3, e3, q', hb3⟩ := itQ_ok rl2 (a'.keep e2) ei2
              have p3 : PE' G σ ρ1 F1 H1 (.ok (zipL ds es) ρ3) _ := p2
              have p4 := p3 F3 H1 rl3 (e2.trans e3)
              obtain ⟨aa, k, rfl, hs⟩ := (q.ext rl2 e3 hb3).it
              obtain ⟨ab, k', rfl, hs'⟩ := q'.it
              rw [hK] at hs hs'
              obtain ⟨us, _, hq⟩ := hs _ _ Hold.refl rl3.sub
              obtain ⟨us', _, hq'⟩ := hs' _ _ Hold.refl rl3.sub
              refine ⟨k, k', aa, ab, us, us', rfl, hq, hq', p4 _ fun F3 H3 i ex sm hle => ?_⟩
              obtain ⟨ws, hd, hq⟩ := hs F3 H3 ex sm
              obtain ⟨ws', hd', hq'⟩ := hs' F3 H3 ex sm
              have hl := hd.length
              have hl' := hd'.length
              rw [zipL_len] at hle ⊢
              refine ⟨fun hi => ⟨⟨ws, ws', ws[i]'(by omega), ws'[i]'(by omega), hq, hq', List.getElem?_eq_getElem (by omega), List.getElem?_eq_getElem (by omega)⟩, fun x H4 y => ?_⟩, fun hi => ⟨ws, ws', hq, hq', by omega, by omega, by omega⟩⟩
              obtain ⟨T, u, u', rfl, hT, rfl, hu, hu'⟩ := y
              obtain ⟨d, g1, g2⟩ := hd.getV (hu ws hq)
              obtain ⟨d', g1', g2'⟩ := hd'.getV (hu' ws' hq')
              have b := Br.frz (o := .tup [u, u']) sm hT
              exact ⟨_, .tuple [d, d'], zipL_get g1 g1', b, .tup upd_same (.cons (Dq.up b.f _ _ g2) (.cons (Dq.up b.f _ _ g2') .nil))⟩
    | [], _, p1 => exact p1.elim
    | [_], _, p1 => exact p1.elim
    | _ :: _ :: _ :: _, _, p1 => exact p1.elim
/-- reversed -/
def revX (x : XV) (ρ : Env) : R (List D) := (itQ x ρ).bind fun ds ρ1 => .ok ds.reverse ρ1
def fRev (f : FE) : FI := fun ρ => (f ρ).bind revX
theorem i_rev {f : FE} (hK : G.K = X.K) (hm : X.mg "reversed" = none) (he : PE X e (tE G f)) (hg : Gl X "reversed" := by rfl) (hs : starEach [e] X.env = (false, eval e X.env) :: starEach [] X.env := by rfl) : PI X tg (.Call (.Name "reversed" p) [e] [] pos) (tI G (fRev f)) :=
  PI.of (RT.pi_revA hg hm he hs) fun σ H R ⟨F, ρ, rl, pp⟩ => by
    refine ⟨F, ρ, rl, pp.seq.mono fun x ρ1 F1 H1 _ _ _ ⟨rl1, e1, p1⟩ v hv _ => ?_⟩
    unfold revX at p1
    cases ei : itQ x ρ1 with
    | bad =>
      rw [ei] at p1
      exact p1.elim
    | exc y ρ2 => exact absurd ei itQ_nx
    | ok ds ρ2 =>
      rw [ei] at p1
      obtain ⟨F2, rl2, e2, q, _⟩ := itQ_ok rl1 hv ei
      have p2 : PE' G σ ρ1 F1 H1 (.ok ds.reverse ρ2) _ := p1
      have p3 := p2 F2 H1 rl2 e2
      obtain ⟨a, k, rfl, hs⟩ := q.it
      rw [hK] at hs
      obtain ⟨us, hdu, hq⟩ := hs _ _ Hold.refl rl2.sub
      have hlu := hdu.length
      refine ⟨a, us, rfl, ?_⟩
      have main : ∀ {J : It}, (∀ i H, (i < us.length ∧ ∃ (xs : List V) (x : V), SqK X.K k H a xs ∧ xs[us.length - 1 - i]? = some x) → J.go i H) → (∀ i H x H', J.yld i H x H' → H' = H ∧ ∀ xs, SqK X.K k H a xs → xs[us.length - 1 - i]? = some x) → (∀ i H, us.length ≤ i → J.stop i H) → R J H1 := fun {J} j1 j2 j3 => p3 J fun F3 H3 i ex sm hle => by
        obtain ⟨ws, hd, hq⟩ := hs F3 H3 ex sm
        have hl := hd.length
        rw [List.length_reverse] at hle ⊢
        refine ⟨fun hi => ⟨j1 i H3 ⟨by omega, ws, ws[us.length - 1 - i]'(by omega), hq, List.getElem?_eq_getElem (by omega)⟩, fun x H4 y => ?_⟩, fun hi => j3 i H3 (by omega)⟩
        obtain ⟨rfl, hu⟩ := j2 i H3 x H4 y
        obtain ⟨d, g1, g2⟩ := hd.getV (hu ws hq)
        refine ⟨F3, d, ?_, Br.refl sm, g2⟩
        rw [List.getElem?_reverse hi, ← g1]
        congr 1
        omega
      cases k with
      | true => exact .inr ⟨hq, main (fun i H h => h) (fun i H x H' h => h) fun i H h => h⟩
      | false => exact .inl ⟨hq, main (fun i H h => h) (fun i H x H' h => h) fun i H h => h⟩
end
end Pv
set_option Elab.async false
set_option linter.all false
set_option maxRecDepth 100000
set_option maxHeartbeats 1000000
namespace Pv
open PySem PySem.Spec PyProof.Rows L2

/-! ## for -/
def goFor (g : FG) (b : FS) : List D → FS
  | [], ρ => .nx ρ
  | d :: ds, ρ => match g (.v (.d d)) ρ with
    | none => .bad
    | some ρ1 => match b ρ1 with
      | .nx ρ2 => goFor g b ds ρ2
      | .ct ρ2 => goFor g b ds ρ2
      | .bk ρ2 => .nx ρ2
      | r => r
def fFor (f : FI) (g : FG) (b : FS) : FS := fun ρ => match f ρ with
  | .ok ds ρ1 => goFor g b ds ρ1
  | .exc x ρ1 => .exc x ρ1
  | .bad => .bad
section
variable {X : Cx} {G : Gd} {tg iter : Expr} {body : List Stmt} {f : FI} {g : FG} {ws : List Nat} {b : FS} {pos : Pos}
theorem drop_get {ds : List D} {i : Nat} {d : D} (h : ds[i]? = some d) : ds.drop i = d :: ds.drop (i + 1) := by
  obtain ⟨hi, e⟩ := List.getElem?_eq_some_iff.mp h
  rw [List.drop_eq_getElem_cons hi, e]
theorem s_for (hp : PassesOwn (model X.prog X.w) X.A X.env X.xe) (hc : X.calm = true) (hi : PI X tg iter (tI G f)) (hg : PG X tg (tG G ws g)) (hb : PSs X body (tS G b))
    (hs : ∀ x, foldedSetIterable iter X.env x = pure x := by intro _; rfl) : PS X (.For tg iter body [] pos) (tS G (fFor f g b)) :=
  PS.of (ps_for hp hc hi hg hb hs) fun D σ H ⟨F, ρ, rl, p⟩ => by
    refine ⟨F, ρ, rl, ?_⟩
    unfold fFor at p
    cases ef : f ρ with
    | bad =>
      rw [ef] at p
      exact p.elim
    | exc x ρ1 =>
      rw [ef] at p
      exact fun F' H' c d r' e' z => p F' H' σ c d r' e' z
    | ok ds ρ1 =>
      rw [ef] at p
      have p : PS' G σ ρ F H (goFor g b ds ρ1) D := p
      intro F1 H1 rl1 e1 J hJ
      refine ⟨fun i m σ2 H2 => i ≤ ds.length ∧ m + i = ds.length ∧ ∃ F2 ρ2, Rel G.K G.s0 F2 H2 σ2 ρ2 ∧ Ext σ ρ1 F1 H1 σ2 ρ2 F2 H2 ∧ PS' G σ2 ρ2 F2 H2 (goFor g b (ds.drop i) ρ2) D,
        ⟨ds.length, Nat.zero_le _, rfl, F1, ρ1, rl1, Ext.refl _ _ _ _, p.from e1⟩, fun i m σ2 H2 ⟨hle, hm, F2, ρ2, rl2, e2, p2⟩ => ?_⟩
      obtain ⟨j1, j2⟩ := hJ F2 H2 i (Hold.of rl1 e2) rl2.sub hle
      by_cases hi : i < ds.length
      · obtain ⟨go, yl⟩ := j1 hi
        refine .inr ⟨go, fun σ' H' => ∃ F' ρ', Rel G.K G.s0 F' H' σ' ρ' ∧ Ext σ ρ1 F1 H1 σ' ρ' F' H' ∧ PS' G σ' ρ' F' H' (goFor g b (ds.drop (i + 1)) ρ') D, fun σ' H' ⟨F', ρ', r', e', p'⟩ => ⟨m - 1, by omega, by omega, by omega, F', ρ', r', e', p'⟩, fun x H3 y => ?_⟩
        obtain ⟨F3, d, hd, br, hx⟩ := yl x H3 y
        rw [drop_get hd] at p2
        have p2 : PS' G σ2 ρ2 F2 H2 (match g (.v (.d d)) ρ2 with
          | none => .bad
          | some ρ1 => match b ρ1 with
            | .nx ρ2 => goFor g b (ds.drop (i + 1)) ρ2
            | .ct ρ2 => goFor g b (ds.drop (i + 1)) ρ2
            | .bk ρ2 => .nx ρ2
            | r => r) D := p2
        cases eg : g (.v (.d d)) ρ2 with
        | none =>
          rw [eg] at p2
          exact p2.elim
        | some ρ3 =>
          rw [eg] at p2
          refine ⟨F3, ρ2, .v (.d d), ρ3, F2, H2, ρ2, rl2.br br, br.ext, hx, trivial, eg, fun F4 H4 σ4 rl4 e4 _ => ⟨F4, ρ3, rl4, ?_⟩⟩
          have p3 : PS' G σ4 ρ3 F4 H4 (match b ρ3 with
            | .nx ρ2 => goFor g b (ds.drop (i + 1)) ρ2
            | .ct ρ2 => goFor g b (ds.drop (i + 1)) ρ2
            | .bk ρ2 => .nx ρ2
            | r => r) D := PS'.from p2 e4
          cases eb : b ρ3 with
          | nx ρ5 =>
            rw [eb] at p3
            exact fun F5 H5 σ5 r5 e5 => ⟨F5, ρ5, r5, (e2.trans e4).trans e5, PS'.from (r := goFor g b (ds.drop (i + 1)) ρ5) p3 e5⟩
          | ct ρ5 =>
            rw [eb] at p3
            exact fun F5 H5 σ5 r5 e5 => ⟨F5, ρ5, r5, (e2.trans e4).trans e5, PS'.from (r := goFor g b (ds.drop (i + 1)) ρ5) p3 e5⟩
          | bk ρ5 =>
            rw [eb] at p3
            exact p3
          | rt x ρ5 =>
            rw [eb] at p3
            exact p3
          | exc x ρ5 =>
            rw [eb] at p3
            exact p3
          | bad =>
            rw [eb] at p3
            exact p3
      · have hil : ds.length = i := by omega
        refine .inl ⟨j2 hil, ?_⟩
        rw [List.drop_eq_nil_of_le (by omega)] at p2
        exact p2 F2 H2 σ2 rl2 (Ext.refl _ _ _ _)
end

/-! ## comprehensions -/
def wipeE (ρ : Env) : List Nat → Env
  | [] => ρ
  | v :: vs => (wipeE ρ vs).set v none
def restE (ρ1 ρ2 : Env) : List Nat → Env
  | [] => ρ2
  | v :: vs => (restE ρ1 ρ2 vs).set v (match ρ1[v]? with | some o => o | none => none)
def ownOk (ρ : Env) : List Nat → Bool
  | [] => true
  | v :: vs => (match ρ[v]? with | some (some (.c _ _)) => false | _ => true) && ownOk ρ vs
def lcGo (g : FG) (t : FT) (e : FE) (own : List Nat) : List D → Env → R (List D)
  | [], ρ => .ok [] ρ
  | d :: ds, ρ => match g (.v (.d d)) ρ with
    | none => .bad
    | some ρ1 => match t ρ1 with
      | .ok k ρ2 => if k = true then match fD e ρ2 with
          | .ok y ρ3 => match lcGo g t e own ds (wipeE ρ3 own) with
            | .ok ys ρ4 => .ok (y :: ys) ρ4
            | _ => .bad
          | _ => .bad
        else lcGo g t e own ds (wipeE ρ2 own)
      | _ => .bad
def lcGo2 (g : FG) (t : FT) (f1 : FI) (g1 : FG) (t1 : FT) (e : FE) (own own1 : List Nat) : List D → Env → R (List D)
  | [], ρ => .ok [] ρ
  | d :: ds, ρ => match g (.v (.d d)) ρ with
    | none => .bad
    | some ρ1 => match t ρ1 with
      | .ok k ρ2 => if k = true then match f1 ρ2 with
          | .ok ds1 ρ3 => match lcGo g1 t1 e own1 ds1 (wipeE ρ3 own1) with
            | .ok ys ρ4 => match lcGo2 g t f1 g1 t1 e own own1 ds (wipeE ρ4 own) with
              | .ok zs ρ5 => .ok (ys ++ zs) ρ5
              | _ => .bad
            | _ => .bad
          | _ => .bad
        else lcGo2 g t f1 g1 t1 e own own1 ds (wipeE ρ2 own)
      | _ => .bad
def lcEnd (ρ1 : Env) (own : List Nat) (r : R (List D)) : R XV := match r with
  | .ok ys ρ2 => if szOk ys.length = true then .ok (.v (.c .own (.l ys))) (restE ρ1 ρ2 own) else .bad
  | _ => .bad
def fLc (f : FI) (g : FG) (t : FT) (e : FE) (own : List Nat) : FE := fun ρ => (f ρ).bind fun ds ρ1 => if ownOk ρ1 own = true then lcEnd ρ1 own (lcGo g t e own ds (wipeE ρ1 own)) else .bad
def fLc2 (f : FI) (g : FG) (t : FT) (f1 : FI) (g1 : FG) (t1 : FT) (e : FE) (own own1 : List Nat) : FE := fun ρ => (f ρ).bind fun ds ρ1 => if ownOk ρ1 own = true then lcEnd ρ1 own (lcGo2 g t f1 g1 t1 e own own1 ds (wipeE ρ1 own)) else .bad
def fYes : FT := fun ρ => .ok true ρ

theorem wipeE_len (ρ : Env) : ∀ vs : List Nat, (wipeE ρ vs).length = ρ.length
  | [] => rfl
  | v :: vs => by unfold wipeE; rw [List.length_set, wipeE_len ρ vs]
theorem wipeE_some {ρ : Env} {i : Nat} {x : SV} : ∀ {vs : List Nat}, (wipeE ρ vs)[i]? = some (some x) → ρ[i]? = some (some x) ∧ i ∉ vs
  | [], h => ⟨h, by simp⟩
  | v :: vs, h => by
    unfold wipeE at h
    by_cases hv : v = i
    · subst hv
      by_cases hl : v < (wipeE ρ vs).length
      · rw [List.getElem?_set_self hl] at h
        cases h
      · rw [List.getElem?_eq_none (by rw [List.length_set]; omega)] at h
        cases h
    · rw [List.getElem?_set_ne hv] at h
      obtain ⟨a, b⟩ := wipeE_some h
      exact ⟨a, by simp [b, Ne.symm hv]⟩
theorem wipe_in {σ : Sl} {i : Nat} : ∀ {vs : List Nat}, i ∈ vs → (wipe σ vs)[i]? = if i < σ.length then some none else none
  | [], h => by simp at h
  | v :: vs, h => by
    unfold wipe
    by_cases hv : v = i
    · subst hv
      by_cases hl : v < σ.length
      · rw [List.getElem?_set_self (by rw [wipe_length]; exact hl), if_pos hl]
      · rw [List.getElem?_eq_none (by rw [List.length_set, wipe_length]; omega), if_neg hl]
    · rw [List.getElem?_set_ne hv]
      exact wipe_in (by simpa [Ne.symm hv] using h)
theorem wipe_wr {σ σ2 : Sl} {ws vs : List Nat} (h : Wr ws (wipe σ vs) σ2) (hs : ∀ i ∈ ws, i ∈ vs) : wipe σ2 vs = wipe σ vs := by
  refine List.ext_getElem? fun i => ?_
  have hl : σ2.length = σ.length := h.1.trans (wipe_length _ _)
  by_cases hi : i ∈ vs
  · rw [wipe_in hi, wipe_in hi, hl]
  · rw [wipe_out hi, h.2 i (fun z => hi (hs i z))]
theorem wipe_wr2 {σ σ2 : Sl} {ws vs : List Nat} (h : Wr ws σ σ2) (hs : ∀ i ∈ ws, i ∈ vs) : wipe σ2 vs = wipe σ vs := by
  refine List.ext_getElem? fun i => ?_
  by_cases hi : i ∈ vs
  · rw [wipe_in hi, wipe_in hi, h.1]
  · rw [wipe_out hi, h.2 i (fun z => hi (hs i z)), wipe_out hi]
theorem restE_len (ρ1 ρ2 : Env) : ∀ vs : List Nat, (restE ρ1 ρ2 vs).length = ρ2.length
  | [] => rfl
  | v :: vs => by unfold restE; rw [List.length_set, restE_len ρ1 ρ2 vs]
theorem restE_some {ρ1 ρ2 : Env} {i : Nat} {x : SV} : ∀ {vs : List Nat}, (restE ρ1 ρ2 vs)[i]? = some (some x) → (i ∈ vs ∧ ρ1[i]? = some (some x)) ∨ (i ∉ vs ∧ ρ2[i]? = some (some x))
  | [], h => .inr ⟨by simp, h⟩
  | v :: vs, h => by
    unfold restE at h
    by_cases hv : v = i
    · subst hv
      by_cases hl : v < (restE ρ1 ρ2 vs).length
      · rw [List.getElem?_set_self hl] at h
        split at h
        · rename_i o e
          refine .inl ⟨by simp, ?_⟩
          rw [e, ← Option.some.inj h]
        · cases h
      · rw [List.getElem?_eq_none (by rw [List.length_set]; omega)] at h
        cases h
    · rw [List.getElem?_set_ne hv] at h
      rcases restE_some h with ⟨a, b⟩ | ⟨a, b⟩
      · exact .inl ⟨by simp [a], b⟩
      · exact .inr ⟨by simp [a, Ne.symm hv], b⟩
theorem ownOk_at {ρ : Env} {i : Nat} {m : Mo} {t : Ct} : ∀ {vs : List Nat}, ownOk ρ vs = true → i ∈ vs → ρ[i]? ≠ some (some (.c m t))
  | [], _, h => by simp at h
  | v :: vs, h, hi => by
    unfold ownOk at h
    rw [Bool.and_eq_true] at h
    by_cases hv : v = i
    · subst hv
      intro z
      rw [z] at h
      cases h.1
    · exact ownOk_at h.2 (by simpa [Ne.symm hv] using hi)
section
variable {K : PySem.W.Frag} {s0 : Sl} {F H F' H' F0 H0 : Hp} {σ σ' σ0 : Sl} {ρ ρ' ρ0 : Env}
/-- fewer slots -/
theorem Rel.wipe (r : Rel K s0 F H σ ρ) (vs : List Nat) : Rel K s0 F H (L2.wipe σ vs) (wipeE ρ vs) := by
  have at_ : ∀ {i : Nat} {sv : SV}, (wipeE ρ vs)[i]? = some (some sv) → ρ[i]? = some (some sv) ∧ (L2.wipe σ vs)[i]? = σ[i]? := fun h => by
    obtain ⟨a, b⟩ := wipeE_some h
    exact ⟨a, wipe_out b⟩
  refine ⟨r.sub, by rw [wipeE_len, wipe_length]; exact r.len, fun i sv h => ?_, fun i j m m' t t' a hij h1 h2 g1 g2 hb h3 h4 => ?_, fun i t h => ?_⟩
  · obtain ⟨a, b⟩ := at_ h
    rw [b]
    exact r.slot i sv a
  · obtain ⟨a1, b1⟩ := at_ h1
    obtain ⟨a2, b2⟩ := at_ h2
    exact r.sep i j m m' t t' a hij a1 a2 g1 g2 hb (b1.symm.trans h3) (b2.symm.trans h4)
  · obtain ⟨a, b⟩ := at_ h
    rw [b]
    exact r.pin i t a
theorem cr_wipe {vs : List Nat} {a : Addr} (h : CR (L2.wipe σ vs) (wipeE ρ vs) a) : CR σ ρ a := by
  obtain ⟨i, m, t, h1, h2, h3⟩ := h
  obtain ⟨a1, b1⟩ := wipeE_some h1
  exact ⟨i, m, t, a1, h2, (wipe_out b1).symm.trans h3⟩
theorem or_wipe {vs : List Nat} {a : Addr} (h : OR (L2.wipe σ vs) (wipeE ρ vs) a) : OR σ ρ a := by
  obtain ⟨i, m, t, h1, h2, h3, h4⟩ := h
  obtain ⟨a1, b1⟩ := wipeE_some h1
  exact ⟨i, m, t, a1, h2, h3, (wipe_out b1).symm.trans h4⟩
theorem Ext.wipe (vs : List Nat) : Ext σ ρ F H (L2.wipe σ vs) (wipeE ρ vs) F H :=
  ⟨fun _ _ h => h, fun _ _ h _ => h, fun _ _ h => .inl h, fun _ h => .inl (or_wipe h), fun _ h => .inl (cr_wipe h), fun _ h => h⟩
theorem RepX.keepC {v : V} {m : Mo} {t : Ct} (h : RepX K F H σ ρ v (.v (.c m t))) (e : Ext σ ρ F H σ' ρ' F' H') : RepX K F' H' σ' ρ' v (.v (.c m t)) := by
  obtain ⟨hm, ht, a, rfl, fa, nc, q⟩ := h
  obtain ⟨o, eo⟩ := q.there ht
  have nor : ¬ OR σ ρ a := fun z => nc z.cr
  refine ⟨hm, ht, a, rfl, ?_, fun z => ?_, q.up e.f fun o' z => e.h a o' z nor⟩
  · cases z : F' a with
    | none => rfl
    | some o' =>
      rcases e.n a o' z with y | y | y
      · rw [fa] at y
        cases y
      · rw [eo] at y
        cases y
      · exact absurd y nor
  · rcases e.c a z with y | y
    · exact nc y
    · rw [eo] at y
      cases y
/-- a list that is made: laid -/
theorem lay_ok (r : Rel K s0 F H σ ρ) (e : Ext σ0 ρ0 F0 H0 σ ρ F H) {a : Addr} (na : H a = none) : Rel K s0 F (upd H a (.lst [])) σ ρ ∧ Ext σ0 ρ0 F0 H0 σ ρ F (upd H a (.lst [])) ∧ RepX K F (upd H a (.lst [])) σ ρ (.ref a) (.v (.c .own (.l []))) := by
  have b := Br.own (o := .lst []) r.sub na
  exact ⟨r.br b, e.trans b.ext, rfl, rfl, a, rfl, r.sub.free na, fun z => (by
    obtain ⟨_, o, q⟩ := r.crTop z
    rw [na] at q
    cases q), [], upd_same, .nil⟩
/-- an item is put behind -/
theorem put_ok (r : Rel K s0 F H σ ρ) (e : Ext σ0 ρ0 F0 H0 σ ρ F H) {a : Addr} {xs : List D} {y : D} {v : V} (n0 : H0 a = none) (h : RepX K F H σ ρ (.ref a) (.v (.c .own (.l xs)))) (hv : Dq F v y) :
    ∃ acc, H a = some (.lst acc) ∧ acc.length = xs.length ∧ Rel K s0 F (upd H a (.lst (acc ++ [v]))) σ ρ ∧ Ext σ0 ρ0 F0 H0 σ ρ F (upd H a (.lst (acc ++ [v]))) ∧ RepX K F (upd H a (.lst (acc ++ [v]))) σ ρ (.ref a) (.v (.c .own (.l (xs ++ [y])))) := by
  obtain ⟨_, _, b, eb, fa, nc, acc, h1, h2⟩ := h
  cases eb
  have keep : ∀ b o, b ≠ a → H b = some o → upd H a (.lst (acc ++ [v])) b = some o := fun b o hb q => by
    rw [upd_ne hb]
    exact q
  refine ⟨acc, h1, h2.length, ⟨fun b o q => ?_, r.len, fun i sv q => ?_, r.sep, r.pin⟩, ⟨e.f, fun b o q no => ?_, e.n, e.o, e.c, fun b q => ?_⟩, rfl, rfl, a, rfl, fa, nc, _, upd_same, h2.app (.one hv)⟩
  · refine keep b o (fun z => ?_) (r.sub _ _ q)
    subst z
    rw [fa] at q
    cases q
  · obtain ⟨u, q1, q2⟩ := r.slot i sv q
    refine ⟨u, q1, ?_⟩
    cases sv with
    | d x => exact q2
    | c m t =>
      obtain ⟨b, rfl, fb, q3⟩ := q2
      by_cases hm : t.mut = true
      · have hb : b ≠ a := fun z => nc (by
          subst z
          exact ⟨i, m, t, q, hm, q1⟩)
        exact ⟨b, rfl, fb, q3.up (fun _ _ z => z) fun o z => keep b o hb z⟩
      · refine ⟨b, rfl, fb, ?_⟩
        cases t with
        | l _ => exact absurd rfl hm
        | k _ => exact absurd rfl hm
        | t _ => exact absurd rfl hm
        | z xs =>
          obtain ⟨vs, q4, q5⟩ := q3
          refine ⟨vs, ?_, q5⟩
          rcases q4 with ⟨o, q4⟩ | q4
          · refine .inl ⟨o, keep b _ (fun z => ?_) q4⟩
            subst z
            rw [h1] at q4
            cases q4
          · exact .inr q4
  · exact keep b o (fun z => by subst z; rw [n0] at q; cases q) (e.h b o q no)
  · obtain ⟨o, q⟩ := e.s b q
    by_cases hb : b = a
    · subst hb
      exact ⟨_, upd_same⟩
    · exact ⟨o, keep b o hb q⟩
/-- the block is left -/
theorem rest_ok {own : List Nat} {ρ1 ρ2 : Env} {F1 H1 : Hp} (r1 : Rel K s0 F1 H1 σ ρ1) (hk : ownOk ρ1 own = true) (r2 : Rel K s0 F H (L2.wipe σ own) ρ2) (e : Ext σ ρ1 F1 H1 (L2.wipe σ own) ρ2 F H) :
    Rel K s0 F H σ (restE ρ1 ρ2 own) ∧ Ext σ ρ1 F1 H1 σ (restE ρ1 ρ2 own) F H ∧ ∀ a, CR σ (restE ρ1 ρ2 own) a → CR (L2.wipe σ own) ρ2 a := by
  have at_ : ∀ {i : Nat} {m : Mo} {t : Ct}, (restE ρ1 ρ2 own)[i]? = some (some (.c m t)) → ρ2[i]? = some (some (.c m t)) ∧ (L2.wipe σ own)[i]? = σ[i]? := fun h => by
    rcases restE_some h with ⟨a, b⟩ | ⟨a, b⟩
    · exact absurd b (ownOk_at hk a)
    · exact ⟨b, wipe_out a⟩
  have cr : ∀ a, CR σ (restE ρ1 ρ2 own) a → CR (L2.wipe σ own) ρ2 a := fun a ⟨i, m, t, h1, h2, h3⟩ => by
    obtain ⟨b, c⟩ := at_ h1
    exact ⟨i, m, t, b, h2, c.trans h3⟩
  have orr : ∀ a, OR σ (restE ρ1 ρ2 own) a → OR (L2.wipe σ own) ρ2 a := fun a ⟨i, m, t, h1, h2, h3, h4⟩ => by
    obtain ⟨b, c⟩ := at_ h1
    exact ⟨i, m, t, b, h2, h3, c.trans h4⟩
  refine ⟨⟨r2.sub, ?_, fun i sv h => ?_, fun i j m m' t t' a hij h1 h2 g1 g2 hb h3 h4 => ?_, fun i t h => ?_⟩, ⟨e.f, e.h, e.n, fun a h => e.o a (orr a h), fun a h => e.c a (cr a h), e.s⟩, cr⟩
  · rw [restE_len]
    have := r2.len
    rw [wipe_length] at this
    exact this
  · rcases restE_some h with ⟨a, b⟩ | ⟨a, b⟩
    · cases sv with
      | c m t => exact absurd b (ownOk_at hk a)
      | d x =>
        obtain ⟨v, q1, q2⟩ := r1.dat b
        exact ⟨v, q1, Dq.up e.f _ _ q2⟩
    · rw [← wipe_out a]
      exact r2.slot i sv b
  · obtain ⟨a1, b1⟩ := at_ h1
    obtain ⟨a2, b2⟩ := at_ h2
    exact r2.sep i j m m' t t' a hij a1 a2 g1 g2 hb (b1.trans h3) (b2.trans h4)
  · obtain ⟨a1, b1⟩ := at_ h
    rw [← b1]
    exact r2.pin i t a1
end
theorem iteT' {b : Bool} {p q : Prop} (hb : b = true) (h : p) : if b = true then p else q := by rw [if_pos hb]; exact h
theorem iteF' {b : Bool} {p q : Prop} (hb : ¬ b = true) (h : q) : if b = true then p else q := by rw [if_neg hb]; exact h
/-- nothing is raised inside -/
def Gd.calm (G : Gd) : Gd := { G with W := fun _ _ _ _ => False }
/-- inside a block: the state -/
def LcSt (G : Gd) (σ0 : Sl) (ρ0 : Env) (F0 H0 : Hp) (a : Addr) (σ : Sl) (ρ : Env) (F H : Hp) (xs : List D) : Prop :=
  Rel G.K G.s0 F H σ ρ ∧ Ext σ0 ρ0 F0 H0 σ ρ F H ∧ RepX G.K F H σ ρ (.ref a) (.v (.c .own (.l xs)))
section
variable {G : Gd} {σ0 : Sl} {ρ0 : Env} {F0 H0 : Hp} {a : Addr} {σ σ' : Sl} {ρ ρ' : Env} {F H F' H' : Hp} {xs : List D}
theorem LcSt.step (h : LcSt G σ0 ρ0 F0 H0 a σ ρ F H xs) (r : Rel G.K G.s0 F' H' σ' ρ') (e : Ext σ ρ F H σ' ρ' F' H') : LcSt G σ0 ρ0 F0 H0 a σ' ρ' F' H' xs := ⟨r, h.2.1.trans e, h.2.2.keepC e⟩
theorem LcSt.wipe (h : LcSt G σ0 ρ0 F0 H0 a σ ρ F H xs) (vs : List Nat) : LcSt G σ0 ρ0 F0 H0 a (L2.wipe σ vs) (wipeE ρ vs) F H xs := h.step (h.1.wipe vs) (Ext.wipe vs)
/-- but for what stands at a -/
structure ExtA (a : Addr) (σ : Sl) (ρ : Env) (F H : Hp) (σ' : Sl) (ρ' : Env) (F' H' : Hp) : Prop where
  f : Same F F'
  h : ∀ b o, b ≠ a → H b = some o → ¬ OR σ ρ b → H' b = some o
  o : ∀ b, OR σ' ρ' b → OR σ ρ b ∨ H b = none
  s : ∀ b, (∃ o, H b = some o) → ∃ o, H' b = some o
theorem ExtA.refl {a : Addr} : ExtA a σ ρ F H σ ρ F H := ⟨fun _ _ h => h, fun _ _ _ h _ => h, fun _ h => .inl h, fun _ h => h⟩
theorem ExtA.trans {a : Addr} {σ1 σ2 : Sl} {ρ1 ρ2 : Env} {F1 H1 F2 H2 : Hp} (x : ExtA a σ ρ F H σ1 ρ1 F1 H1) (b : Ext σ1 ρ1 F1 H1 σ2 ρ2 F2 H2) : ExtA a σ ρ F H σ2 ρ2 F2 H2 := by
  refine ⟨x.f.trans b.f, fun c o hc h no => b.h c o (x.h c o hc h no) fun q => ?_, fun c h => ?_, fun c h => b.s c (x.s c h)⟩
  · rcases x.o c q with z | z
    · exact no z
    · rw [h] at z
      cases z
  · rcases b.o c h with z | z
    · exact x.o c z
    · refine .inr ?_
      cases e : H c with
      | none => rfl
      | some o =>
        obtain ⟨o', e'⟩ := x.s c ⟨o, e⟩
        rw [z] at e'
        cases e'
theorem ExtA.upd {a : Addr} {σ1 : Sl} {ρ1 : Env} {F1 H1 : Hp} {o : HO} (x : ExtA a σ ρ F H σ1 ρ1 F1 H1) : ExtA a σ ρ F H σ1 ρ1 F1 (upd H1 a o) :=
  ⟨x.f, fun b o' hb h no => by rw [upd_ne hb]; exact x.h b o' hb h no, x.o, fun b h => by
    by_cases hb : b = a
    · subst hb
      exact ⟨_, upd_same⟩
    · rw [upd_ne hb]
      exact x.s b h⟩
theorem ExtA.hold {a : Addr} {K : PySem.W.Frag} {s0 : Sl} {σ1 : Sl} {ρ1 : Env} {F1 H1 : Hp} (x : ExtA a σ ρ F H σ1 ρ1 F1 H1) (r : Rel K s0 F H σ ρ) (na : ¬ CR σ ρ a) : Hold σ ρ F H F1 H1 :=
  ⟨x.f, fun b o h z => x.h b o (fun q => na (q ▸ h.cr)) z (h.nor r)⟩
/-- the turns of a clause -/
theorem lc_turns {g : FG} {t : FT} {e : FE} {ws own : List Nat} {ds : List D} {J : It} {σb : Sl} {ρb : Env} {Fb Hb : Hp} {Fin : Hp → Prop} {all : List D} {ρe : Env} (n0 : H0 a = none) (hws : ∀ i ∈ ws, i ∈ own)
    (hJ : IterOk σb ρb Fb Hb ds J) (rb : Rel G.K G.s0 Fb Hb σb ρb) (nb : ¬ CR σb ρb a) (hz : all.length ≤ 16000000)
    (fin : ∀ F2 H2, LcSt G σ0 ρ0 F0 H0 a (L2.wipe σ own) ρe F2 H2 all → ExtA a σb ρb Fb Hb (L2.wipe σ own) ρe F2 H2 → Fin H2)
    {ys : List D} (eb : ExtA a σb ρb Fb Hb (L2.wipe σ own) ρ F H) (st : LcSt G σ0 ρ0 F0 H0 a (L2.wipe σ own) ρ F H xs) (hgo : lcGo g t e own ds ρ = .ok ys ρe) (hall : xs ++ ys = all) :
    ∃ W : Nat → Nat → Hp → Prop, (∃ m, W 0 m H) ∧ ∀ i m H, W i m H →
      (J.stop i H ∧ Fin H) ∨ (J.go i H ∧ ∃ Nx : Hp → Prop, (∀ H', Nx H' → ∃ m', m' < m ∧ W (i + 1) m' H') ∧ ∀ x H', J.yld i H x H' → tG G.calm ws g x (L2.wipe σ own) H' fun σ2 H2 => L2.wipe σ2 own = L2.wipe σ own ∧ tT G.calm t σ2 H2 fun b H3 =>
        if b = true then tD G.calm (fD e) σ2 H3 fun y H4 => ∃ acc, H4 a = some (.lst acc) ∧ acc.length < sizeLine ∧ Nx (upd H4 a (.lst (acc ++ [y]))) else Nx H3) := by
  refine ⟨fun i m H => i ≤ ds.length ∧ m + i = ds.length ∧ ∃ ρ F xs ys, ExtA a σb ρb Fb Hb (L2.wipe σ own) ρ F H ∧ LcSt G σ0 ρ0 F0 H0 a (L2.wipe σ own) ρ F H xs ∧ lcGo g t e own (ds.drop i) ρ = .ok ys ρe ∧ xs ++ ys = all,
    ⟨ds.length, Nat.zero_le _, rfl, ρ, F, xs, ys, eb, st, hgo, hall⟩, fun i m H2 ⟨hle, hm, ρ2, F2, xs2, ys2, eb2, st2, hgo2, hall2⟩ => ?_⟩
  obtain ⟨j1, j2⟩ := hJ F2 H2 i (eb2.hold rb nb) st2.1.sub hle
  by_cases hi : i < ds.length
  · obtain ⟨go, yl⟩ := j1 hi
    refine .inr ⟨go, fun H' => ∃ ρ F xs ys, ExtA a σb ρb Fb Hb (L2.wipe σ own) ρ F H' ∧ LcSt G σ0 ρ0 F0 H0 a (L2.wipe σ own) ρ F H' xs ∧ lcGo g t e own (ds.drop (i + 1)) ρ = .ok ys ρe ∧ xs ++ ys = all,
      fun H' ⟨ρ', F', xs', ys', h1, h2, h3, h4⟩ => ⟨m - 1, by omega, by omega, by omega, ρ', F', xs', ys', h1, h2, h3, h4⟩, fun x H3 y => ?_⟩
    obtain ⟨F3, d, hd, br, hx⟩ := yl x H3 y
    rw [drop_get hd] at hgo2
    unfold lcGo at hgo2
    split at hgo2
    · cases hgo2
    · rename_i ρ3 eg
      have st3 := st2.step (st2.1.br br) br.ext
      refine ⟨F3, ρ2, .v (.d d), ρ3, F2, H2, ρ2, st2.1.br br, br.ext, hx, trivial, eg, fun F4 H4 σ4 rl4 e4 hw => ⟨wipe_wr hw hws, ?_⟩⟩
      have st4 := st2.step rl4 e4
      have eb4 := eb2.trans e4
      have hwe : L2.wipe σ4 own = L2.wipe σ own := wipe_wr hw hws
      refine ⟨F4, ρ3, rl4, ?_⟩
      split at hgo2
      · rename_i k ρ5 et
        rw [et]
        intro F5 H5 rl5 e5
        have st5 := st4.step rl5 e5
        have eb5 := eb4.trans e5
        by_cases hk : k = true
        · rw [if_pos hk] at hgo2
          refine iteT' hk ⟨F5, ρ5, rl5, ?_⟩
          split at hgo2
          · rename_i yv ρ6 ee
            rw [ee]
            intro F6 H6 rl6 e6 v hv
            have st6 := st5.step rl6 e6
            have eb6 := eb5.trans e6
            split at hgo2
            · rename_i ys3 ρ7 er
              cases hgo2
              obtain ⟨acc, q1, q2, q3, q4, q5⟩ := put_ok st6.1 st6.2.1 n0 st6.2.2 hv
              have hlen : xs2.length < 16000000 := by
                rw [← hall2, List.length_append, List.length_cons] at hz
                omega
              refine ⟨acc, q1, by rw [q2]; exact Nat.lt_of_lt_of_le hlen (by decide), wipeE ρ6 own, F6, xs2 ++ [yv], ys3, ?_, ?_, er, ?_⟩
              · rw [← hwe]
                exact (eb6.upd).trans (Ext.wipe own)
              · rw [← hwe]
                exact LcSt.wipe ⟨q3, q4, q5⟩ own
              · rw [← hall2, List.append_assoc]
                rfl
            · cases hgo2
          · cases hgo2
        · rw [if_neg hk] at hgo2
          refine iteF' hk ⟨wipeE ρ5 own, F5, xs2, ys2, ?_, ?_, hgo2, hall2⟩
          · rw [← hwe]
            exact eb5.trans (Ext.wipe own)
          · rw [← hwe]
            exact st5.wipe own
      · cases hgo2
  · have hil : ds.length = i := by omega
    rw [List.drop_eq_nil_of_le (by omega)] at hgo2
    cases hgo2
    rw [List.append_nil] at hall2
    subst hall2
    exact .inl ⟨j2 hil, fin F2 H2 st2 eb2⟩
end
end Pv
set_option Elab.async false
set_option linter.all false
set_option maxRecDepth 100000
set_option maxHeartbeats 1000000
namespace Pv
open PySem PySem.Spec PyProof.Rows L2

section
variable {G : Gd} {f f1 : FI} {g g1 : FG} {ws ws1 own own1 : List Nat} {t t1 : FT} {e : FE}
theorem lcEnd_ok {σ : Sl} {ρ1 ρ2 : Env} {F1 H1 F H : Hp} {ys : List D} {a : Addr} {Q : V → Hp → Prop} (rl1 : Rel G.K G.s0 F1 H1 σ ρ1) (hk : ownOk ρ1 own = true) (st : LcSt G σ ρ1 F1 H1 a (L2.wipe σ own) ρ2 F H ys) (na : H1 a = none)
    (q : ∀ F H, Rel G.K G.s0 F H σ (restE ρ1 ρ2 own) → Ext σ ρ1 F1 H1 σ (restE ρ1 ρ2 own) F H → ∀ v, RepX G.K F H σ (restE ρ1 ρ2 own) v (.v (.c .own (.l ys))) → Fr0 H1 v (.v (.c .own (.l ys))) → Q v H) : Q (.ref a) H := by
  obtain ⟨r, x, cr⟩ := rest_ok rl1 hk st.1 st.2.1
  refine q F H r x (.ref a) ?_ fun b hb => ?_
  · obtain ⟨h1, h2, b, h3, h4, h5, h6⟩ := st.2.2
    exact ⟨h1, h2, b, h3, h4, fun z => h5 (cr b z), h6⟩
  · cases hb
    exact na
theorem fLc_in {σ : Sl} {H : Hp} {Q : VK} (hws : ∀ i ∈ ws, i ∈ own) (q : tE G (fLc f g t e own) σ H Q) : tLc (tI G f) (tG G.calm ws g) (tT G.calm t) (tD G.calm (fD e)) own σ H Q := by
  obtain ⟨F, ρ, rl, p⟩ := q
  refine ⟨F, ρ, rl, p.seq.mono fun ds ρ1 F1 H1 _ _ _ ⟨rl1, e1, p1⟩ J hJ a na => ?_⟩
  by_cases hk : ownOk ρ1 own = true
  · rw [if_pos hk] at p1
    cases eg : lcGo g t e own ds (wipeE ρ1 own) with
    | bad =>
      rw [eg] at p1
      exact p1.elim
    | exc _ _ =>
      rw [eg] at p1
      exact p1.elim
    | ok ys ρ2 =>
      rw [eg] at p1
      have p1 : PE' G σ ρ1 F1 H1 (if szOk ys.length = true then R.ok (XV.v (.c .own (.l ys))) (restE ρ1 ρ2 own) else .bad) _ := p1
      by_cases hz : szOk ys.length = true
      · rw [if_pos hz] at p1
        obtain ⟨r2, x2, h2⟩ := lay_ok rl1 (Ext.refl σ ρ1 F1 H1) na
        have st : LcSt G σ ρ1 F1 H1 a σ ρ1 F1 (upd H1 a (.lst [])) [] := ⟨r2, x2, h2⟩
        have nc : ¬ CR σ ρ1 a := fun z => by
          obtain ⟨_, o, q⟩ := rl1.crTop z
          rw [na] at q
          cases q
        exact lc_turns na hws hJ rl1 nc (Nat.le_of_ble_eq_true hz) (fun F2 H2 st2 _ => lcEnd_ok rl1 hk st2 na fun F3 H3 r3 x3 v hv hf => p1 F3 H3 r3 x3 v hv (hf.back e1)) ((ExtA.refl (a := a)).upd.trans (Ext.wipe own)) (st.wipe own) eg rfl
      · rw [if_neg hz] at p1
        exact p1.elim
  · rw [if_neg hk] at p1
    exact p1.elim
theorem fLc2_in {σ : Sl} {H : Hp} {Q : VK} (hws : ∀ i ∈ ws, i ∈ own) (hws1 : ∀ i ∈ ws1, i ∈ own1) (hoo : ∀ i ∈ own1, i ∈ own) (q : tE G (fLc2 f g t f1 g1 t1 e own own1) σ H Q) : tLc2 (tI G f) (tG G.calm ws g) (tT G.calm t) (tI G.calm f1) (tG G.calm ws1 g1) (tT G.calm t1) (tD G.calm (fD e)) own own1 σ H Q := by
  obtain ⟨F, ρ, rl, p⟩ := q
  refine ⟨F, ρ, rl, p.seq.mono fun ds ρ1 F1 H1 _ _ _ ⟨rl1, e1, p1⟩ J hJ a na => ?_⟩
  by_cases hk : ownOk ρ1 own = true
  · rw [if_pos hk] at p1
    cases eg : lcGo2 g t f1 g1 t1 e own own1 ds (wipeE ρ1 own) with
    | bad =>
      rw [eg] at p1
      exact p1.elim
    | exc _ _ =>
      rw [eg] at p1
      exact p1.elim
    | ok all ρe =>
      rw [eg] at p1
      have p1 : PE' G σ ρ1 F1 H1 (if szOk all.length = true then R.ok (XV.v (.c .own (.l all))) (restE ρ1 ρe own) else .bad) _ := p1
      by_cases hz : szOk all.length = true
      · rw [if_pos hz] at p1
        have hz' := Nat.le_of_ble_eq_true hz
        obtain ⟨r2, x2, h2⟩ := lay_ok rl1 (Ext.refl σ ρ1 F1 H1) na
        have st : LcSt G σ ρ1 F1 H1 a σ ρ1 F1 (upd H1 a (.lst [])) [] := ⟨r2, x2, h2⟩
        have nc : ¬ CR σ ρ1 a := fun z => by
          obtain ⟨_, o, q⟩ := rl1.crTop z
          rw [na] at q
          cases q
        have fin : ∀ F2 H2, LcSt G σ ρ1 F1 H1 a (L2.wipe σ own) ρe F2 H2 all → Q (.ref a) H2 := fun F2 H2 st2 => lcEnd_ok rl1 hk st2 na fun F3 H3 r3 x3 v hv hf => p1 F3 H3 r3 x3 v hv (hf.back e1)
        refine ⟨fun i m H => i ≤ ds.length ∧ m + i = ds.length ∧ ∃ ρ F xs ys, ExtA a σ ρ1 F1 H1 (L2.wipe σ own) ρ F H ∧ LcSt G σ ρ1 F1 H1 a (L2.wipe σ own) ρ F H xs ∧ lcGo2 g t f1 g1 t1 e own own1 (ds.drop i) ρ = .ok ys ρe ∧ xs ++ ys = all,
          ⟨ds.length, Nat.zero_le _, rfl, wipeE ρ1 own, F1, [], all, (ExtA.refl (a := a)).upd.trans (Ext.wipe own), st.wipe own, eg, rfl⟩, fun i m H2 ⟨hle, hm, ρ2, F2, xs2, ys2, eb2, st2, hgo2, hall2⟩ => ?_⟩
        obtain ⟨j1, j2⟩ := hJ F2 H2 i (eb2.hold rl1 nc) st2.1.sub hle
        by_cases hi : i < ds.length
        · obtain ⟨go, yl⟩ := j1 hi
          refine .inr ⟨go, fun H' => ∃ ρ F xs ys, ExtA a σ ρ1 F1 H1 (L2.wipe σ own) ρ F H' ∧ LcSt G σ ρ1 F1 H1 a (L2.wipe σ own) ρ F H' xs ∧ lcGo2 g t f1 g1 t1 e own own1 (ds.drop (i + 1)) ρ = .ok ys ρe ∧ xs ++ ys = all,
            fun H' ⟨ρ', F', xs', ys', h1, h2, h3, h4⟩ => ⟨m - 1, by omega, by omega, by omega, ρ', F', xs', ys', h1, h2, h3, h4⟩, fun x H3 y => ?_⟩
          obtain ⟨F3, d, hd, br, hx⟩ := yl x H3 y
          rw [drop_get hd] at hgo2
          unfold lcGo2 at hgo2
          split at hgo2
          · cases hgo2
          · rename_i ρ3 eg3
            refine ⟨F3, ρ2, .v (.d d), ρ3, F2, H2, ρ2, st2.1.br br, br.ext, hx, trivial, eg3, fun F4 H4 σ4 rl4 e4 hw => ⟨wipe_wr hw hws, ?_⟩⟩
            have st4 := st2.step rl4 e4
            have eb4 := eb2.trans e4
            have hwe : L2.wipe σ4 own = L2.wipe σ own := wipe_wr hw hws
            refine ⟨F4, ρ3, rl4, ?_⟩
            split at hgo2
            · rename_i k ρ5 et
              rw [et]
              intro F5 H5 rl5 e5
              have st5 := st4.step rl5 e5
              have eb5 := eb4.trans e5
              by_cases hk2 : k = true
              · rw [if_pos hk2] at hgo2
                refine iteT' hk2 ⟨F5, ρ5, rl5, ?_⟩
                split at hgo2
                · rename_i ds1 ρ6 ee
                  rw [ee]
                  intro F6 H6 rl6 e6 J1 hJ1
                  have st6 := st5.step rl6 e6
                  have eb6 := eb5.trans e6
                  split at hgo2
                  · rename_i ys3 ρ7 er
                    split at hgo2
                    · rename_i zs ρ8 er2
                      cases hgo2
                      have nc6 : ¬ CR σ4 ρ6 a := by
                        obtain ⟨_, _, b, eb, _, nb, _⟩ := st6.2.2
                        cases eb
                        exact nb
                      have h20 := congrArg List.length hall2
                      have hsub : ∀ i ∈ own1, i ∈ own := hoo
                      refine lc_turns (all := xs2 ++ ys3) na hws1 hJ1 st6.1 nc6 (by
                        rw [List.length_append, List.length_append] at h20
                        rw [List.length_append]
                        omega) (fun F9 H9 st9 eb9 => ?_) ((ExtA.refl (a := a)).trans (Ext.wipe own1)) (st6.wipe own1) er rfl
                      have hw2 : L2.wipe (L2.wipe σ4 own1) own = L2.wipe σ own := by
                        rw [← hwe]
                        refine List.ext_getElem? fun j => ?_
                        by_cases hj : j ∈ own
                        · rw [wipe_in hj, wipe_in hj, wipe_length]
                        · rw [wipe_out hj, wipe_out hj, wipe_out (fun z => hj (hsub j z))]
                      refine ⟨wipeE ρ7 own, F9, xs2 ++ ys3, zs, ?_, ?_, er2, ?_⟩
                      · rw [← hw2]
                        exact ⟨st9.2.1.f, fun b o hb h no => st9.2.1.h b o h no, fun b h => st9.2.1.o b (or_wipe h), fun b h => st9.2.1.s b h⟩
                      · rw [← hw2]
                        exact st9.wipe own
                      · rw [← hall2, List.append_assoc]
                    · cases hgo2
                  · cases hgo2
                · cases hgo2
              · rw [if_neg hk2] at hgo2
                refine iteF' hk2 ⟨wipeE ρ5 own, F5, xs2, ys2, ?_, ?_, hgo2, hall2⟩
                · rw [← hwe]
                  exact eb5.trans (Ext.wipe own)
                · rw [← hwe]
                  exact st5.wipe own
            · cases hgo2
        · have hil : ds.length = i := by omega
          rw [List.drop_eq_nil_of_le (by omega)] at hgo2
          cases hgo2
          rw [List.append_nil] at hall2
          subst hall2
          exact .inl ⟨j2 hil, fin F2 H2 st2⟩
      · rw [if_neg hz] at p1
        exact p1.elim
  · rw [if_neg hk] at p1
    exact p1.elim
end
section
variable {X : Cx} {G : Gd} {f f1 : FI} {g g1 : FG} {ws ws1 own1 : List Nat} {t t1 : FT} {e : FE} {elt tg iter tg1 iter1 : Expr} {ifs ifs1 : List Expr} {scope : Scope} {own : List (Str × Nat)} {pos spos : Pos} {i : Nat} {y : Str} {py : Pos}
abbrev AllB (X : Cx) (scope : Scope) (P : Cx → Prop) : Prop := ∀ (s : Shared) (H : Hp) (C : Addr) (cl : List (Str × Addr)) (fp : List Addr), P (X.blk s H scope (compEnvC scope cl C X.env) fp)
theorem ts_nil {X : Cx} : PTs X [] (tT G fYes) := ⟨fun pins s σ H Q I ⟨F, ρ, rl, p⟩ => pts_nil.run pins s σ H Q I (p.here rl)⟩
theorem ts_one {X : Cx} {c : Expr} {t : FT} (h : PT X c (tT G t)) : PTs X [c] (tT G t) := pts_one h
theorem c_lc (hc : X.calm = true) (hN : X.N.Nodup) (hi : PI X tg iter (tI G f)) (ok : BlkOk X.N X.env.scope scope own) (hws : ∀ i ∈ ws, i ∈ own.map (·.2)) (hg : AllB X scope fun Y => PG Y tg (tG G.calm ws g)) (ht : AllB X scope fun Y => PTs Y ifs (tT G.calm t)) (he : AllB X scope fun Y => PE Y elt (tE G.calm e)) (hs : ∀ x, foldedSetIterable iter X.env x = pure x := by intro _; rfl) :
    PE X (.ListComp elt [⟨tg, iter, ifs, 0⟩] scope pos) (tE G (fLc f g t e (own.map (·.2)))) :=
  PE.of (pe_lc hc hN hi ok hg ht (fun s H C cl fp => PE.of (he s H C cl fp) fun _ _ _ q => fD_in q) hs) fun _ _ _ q => fLc_in hws q
theorem c_lc2 (hc : X.calm = true) (hN : X.N.Nodup) (hi : PI X tg iter (tI G f)) (ok : BlkOk X.N X.env.scope scope own) (hoo : ∀ i ∈ own1, i ∈ own.map (·.2)) (hws : ∀ i ∈ ws, i ∈ own.map (·.2)) (hws1 : ∀ i ∈ ws1, i ∈ own1) (hg : AllB X scope fun Y => PG Y tg (tG G.calm ws g)) (ht : AllB X scope fun Y => PTs Y ifs (tT G.calm t))
    (hi1 : AllB X scope fun Y => PI Y tg1 iter1 (tI G.calm f1)) (hg1 : AllB X scope fun Y => PG Y tg1 (tG G.calm ws1 g1)) (ht1 : AllB X scope fun Y => PTs Y ifs1 (tT G.calm t1)) (he : AllB X scope fun Y => PE Y elt (tE G.calm e)) (hs : ∀ x, foldedSetIterable iter X.env x = pure x := by intro _; rfl) (hs1 : ∀ env x, foldedSetIterable iter1 env x = pure x := by intro _ _; rfl) :
    PE X (.ListComp elt [⟨tg, iter, ifs, 0⟩, ⟨tg1, iter1, ifs1, 0⟩] scope pos) (tE G (fLc2 f g t f1 g1 t1 e (own.map (·.2)) own1)) :=
  PE.of (pe_lc2 hc hN hi ok hoo hg ht hi1 hg1 ht1 (fun s H C cl fp => PE.of (he s H C cl fp) fun _ _ _ q => fD_in q) hs hs1) fun _ _ _ q => fLc2_in hws hws1 hoo q
/-- name = [..] -/
theorem s_setLc (i : Nat) (hc : X.calm = true) (hN : X.N.Nodup) (hy : X.N[i]? = some y) (hyl : X.env.scope.names.lookup y = some .local) (hsw : swapsWith (.ListComp elt [⟨tg, iter, ifs, 0⟩] scope pos) (some (.Name y py)) spos.line X.env = pure true)
    (hi : PI X tg iter (tI G f)) (ok : BlkOk X.N X.env.scope scope own) (hws : ∀ i ∈ ws, i ∈ own.map (·.2)) (hg : AllB X scope fun Y => PG Y tg (tG G.calm ws g)) (ht : AllB X scope fun Y => PTs Y ifs (tT G.calm t)) (he : AllB X scope fun Y => PE Y elt (tE G.calm e)) (hs : ∀ x, foldedSetIterable iter X.env x = pure x := by intro _; rfl) :
    PS X (.Assign [.Name y py] (.ListComp elt [⟨tg, iter, ifs, 0⟩] scope pos) spos) (tS G (fAsg (fLc f g t e (own.map (·.2))) (setV i))) :=
  PS.of (ps_setLc hc hN hy hyl hsw hi ok hg ht (fun s H C cl fp => PE.of (he s H C cl fp) fun _ _ _ q => fD_in q) hs) fun D σ H q => by
    have q2 : tAsg (tE G (fLc f g t e (own.map (·.2)))) (tG G [i] (setV i)) D σ H := fAsg_in q
    have q3 : tE G (fLc f g t e (own.map (·.2))) σ H fun v H' => gName i v σ H' D.nx := by
      obtain ⟨F, ρ, rl, p⟩ := q2
      exact ⟨F, ρ, rl, p.mono fun x ρ1 F1 H1 _ _ _ h v hv hf => setV_in (h v hv hf)⟩
    exact fLc_in hws q3
theorem s_setLc2 (i : Nat) (hc : X.calm = true) (hN : X.N.Nodup) (hy : X.N[i]? = some y) (hyl : X.env.scope.names.lookup y = some .local) (hsw : swapsWith (.ListComp elt [⟨tg, iter, ifs, 0⟩, ⟨tg1, iter1, ifs1, 0⟩] scope pos) (some (.Name y py)) spos.line X.env = pure true)
    (hi : PI X tg iter (tI G f)) (ok : BlkOk X.N X.env.scope scope own) (hoo : ∀ i ∈ own1, i ∈ own.map (·.2)) (hws : ∀ i ∈ ws, i ∈ own.map (·.2)) (hws1 : ∀ i ∈ ws1, i ∈ own1) (hg : AllB X scope fun Y => PG Y tg (tG G.calm ws g)) (ht : AllB X scope fun Y => PTs Y ifs (tT G.calm t))
    (hi1 : AllB X scope fun Y => PI Y tg1 iter1 (tI G.calm f1)) (hg1 : AllB X scope fun Y => PG Y tg1 (tG G.calm ws1 g1)) (ht1 : AllB X scope fun Y => PTs Y ifs1 (tT G.calm t1)) (he : AllB X scope fun Y => PE Y elt (tE G.calm e)) (hs : ∀ x, foldedSetIterable iter X.env x = pure x := by intro _; rfl) (hs1 : ∀ env x, foldedSetIterable iter1 env x = pure x := by intro _ _; rfl) :
    PS X (.Assign [.Name y py] (.ListComp elt [⟨tg, iter, ifs, 0⟩, ⟨tg1, iter1, ifs1, 0⟩] scope pos) spos) (tS G (fAsg (fLc2 f g t f1 g1 t1 e (own.map (·.2)) own1) (setV i))) :=
  PS.of (ps_setLc2 hc hN hy hyl hsw hi ok hoo hg ht hi1 hg1 ht1 (fun s H C cl fp => PE.of (he s H C cl fp) fun _ _ _ q => fD_in q) hs hs1) fun D σ H q => by
    have q2 : tAsg (tE G (fLc2 f g t f1 g1 t1 e (own.map (·.2)) own1)) (tG G [i] (setV i)) D σ H := fAsg_in q
    have q3 : tE G (fLc2 f g t f1 g1 t1 e (own.map (·.2)) own1) σ H fun v H' => gName i v σ H' D.nx := by
      obtain ⟨F, ρ, rl, p⟩ := q2
      exact ⟨F, ρ, rl, p.mono fun x ρ1 F1 H1 _ _ _ h v hv hf => setV_in (h v hv hf)⟩
    exact fLc2_in hws hws1 hoo q3
end
end Pv
set_option Elab.async false
set_option linter.all false
set_option maxRecDepth 100000
set_option maxHeartbeats 1000000
namespace Pv
open PySem PySem.Spec PyProof.Rows L2

/-! ## what is peeked, dicts too -/
inductive PV where
  | d (x : D)
  | k (kvs : List (Key × D))
  | t (kvs : List (List Key × D))
  | z (xs : List D)
def pvS : SV → Option PV
  | .d x => some (.d x)
  | .c _ (.l xs) => some (.d (.list xs))
  | .c _ (.k kvs) => some (.k kvs)
  | .c _ (.t kvs) => some (.t kvs)
  | .c _ (.z xs) => some (.z xs)
def pkX (ρ : Env) : XV → Option PV
  | .v s => pvS s
  | .r i => match ρ[i]? with
    | some (some s) => pvS s
    | _ => none
def PkX (K : PySem.W.Frag) (F H : Hp) (v : V) : PV → Prop
  | .d x => Pk F H v x
  | .k kvs => ∃ a ks, v = .ref a ∧ H a = some (.dK ks) ∧ KvR F ks kvs
  | .t kvs => ∃ a ks, v = .ref a ∧ H a = some (.dT ks) ∧ KvR F ks kvs
  | .z xs => ∃ a vs, v = .ref a ∧ SqL K H a vs ∧ DqAll F vs xs
theorem sqL_none {K : PySem.W.Frag} {H : Hp} {a : Addr} {vs : List V} (h : SqL K (fun _ => none) a vs) : SqL K H a vs := by
  rcases h with h | h
  · rcases h with h | ⟨o, h⟩ <;> cases h
  · exact .inr h
theorem pkC_ok {K : PySem.W.Frag} {F H : Hp} {a : Addr} {m : Mo} {t : Ct} {p : PV} (q : RepC K F H a t) (e : pvS (.c m t) = some p) : PkX K F H (.ref a) p := by
  cases t with
  | l xs =>
    cases e
    obtain ⟨vs, h1, h2⟩ := q
    exact .lst h1 h2
  | k kvs =>
    cases e
    obtain ⟨vs, h1, h2⟩ := q
    exact ⟨a, vs, rfl, h1, h2⟩
  | t kvs =>
    cases e
    obtain ⟨vs, h1, h2⟩ := q
    exact ⟨a, vs, rfl, h1, h2⟩
  | z xs =>
    cases e
    obtain ⟨vs, h1, h2⟩ := q
    refine ⟨a, vs, rfl, ?_, h2⟩
    rcases h1 with ⟨o, h1⟩ | h1
    · exact .inl (.inr ⟨o, h1⟩)
    · exact sqL_none h1
theorem pkX_ok {K : PySem.W.Frag} {s0 : Sl} {F H : Hp} {σ : Sl} {ρ : Env} (r : Rel K s0 F H σ ρ) {v : V} {x : XV} {p : PV} (h : RepX K F H σ ρ v x) (e : pkX ρ x = some p) : PkX K F H v p := by
  cases x with
  | v s =>
    cases s with
    | d x =>
      cases e
      exact Dq.pk r.sub h
    | c m t =>
      obtain ⟨_, _, a, rfl, _, _, q⟩ := h
      exact pkC_ok q e
  | r i =>
    have h' : σ[i]? = some (some v) := h
    have e' : (match ρ[i]? with | some (some s) => pvS s | _ => none) = some p := e
    split at e'
    · rename_i s q
      cases s with
      | d x =>
        cases e'
        obtain ⟨u, e1, e2⟩ := r.dat q
        rw [h'] at e1
        cases e1
        exact Dq.pk r.sub e2
      | c m t =>
        obtain ⟨a, e1, _, q⟩ := r.root q
        rw [h'] at e1
        cases e1
        exact pkC_ok q e'
    · cases e'
/-- two places -/
def onX (h : PV → PV → Option SV) (x y : XV) (ρ : Env) : R XV := match pkX ρ x with
  | some a => match pkX ρ y with
    | some b => match h a b with
      | some s => .ok (.v s) ρ
      | none => .bad
    | none => .bad
  | none => .bad
def fX (h : PV → PV → Option SV) (fa fb : FE) : FE := fun ρ => (fa ρ).bind fun x ρ1 => (fb ρ1).bind fun y ρ2 => onX h x y ρ2
def RuleX (K : PySem.W.Frag) (r : R2) (h : PV → PV → Option SV) : Prop :=
  ∀ (F H : Hp) (v u : V) (a b : PV) (s : SV) (Q : VK), Same F H → PkX K F H v a → PkX K F H u b → h a b = some s → (∀ F' H' w, Br F H F' H' → NewV K H F' H' w s → Q w H') → r v u H Q
theorem RuleX.or {K : PySem.W.Frag} {r r' : R2} {h h' : PV → PV → Option SV} (a : RuleX K r h) (b : RuleX K r' h') : RuleX K (fun x y H Q => r x y H Q ∨ r' x y H Q) (fun x y => match h x y with | some s => some s | none => h' x y) := fun F H v u x y s Q sm hx hy e k => by
  simp only at e
  split at e
  · rename_i s' e'
    cases e
    exact .inl (a F H v u x y s Q sm hx hy e' k)
  · exact .inr (b F H v u x y s Q sm hx hy e k)
theorem OpR.or {X : Cx} {f : Value → Value → Sem Value} {r r' : R2} (a : OpR X f r) (b : OpR X f r') : OpR X f (fun x y H Q => r x y H Q ∨ r' x y H Q) := fun pins s σ H x y v u Q I rx ry h => h.elim (a pins s σ H x y v u Q I rx ry) (b pins s σ H x y v u Q I rx ry)
theorem fX_in {G : Gd} {r : R2} {h : PV → PV → Option SV} {fa fb : FE} (hr : RuleX G.K r h) {σ : Sl} {H : Hp} {Q : VK} (q : tE G (fX h fa fb) σ H Q) : tOp r (tE G fa) (tE G fb) σ H Q := by
  obtain ⟨F, ρ, rl, p⟩ := q
  refine ⟨F, ρ, rl, p.seq.mono fun x ρ1 F1 H1 _ _ _ ⟨rl1, e1, p1⟩ v hv _ => ⟨F1, ρ1, rl1, p1.seq.mono fun y ρ2 F2 H2 _ _ _ ⟨rl2, e2, p2⟩ u hu _ => ?_⟩⟩
  have hv2 := hv.keep e2
  unfold onX at p2
  split at p2
  · rename_i a ea
    split at p2
    · rename_i b eb
      split at p2
      · rename_i s es
        refine hr F2 H2 v u a b s Q rl2.sub (pkX_ok rl2 hv2 ea) (pkX_ok rl2 hu eb) es fun F' H' w br nv => ?_
        exact p2 F' H' (rl2.br br) br.ext w (nv.rep rl2) (nv.fr.back (e1.trans e2))
      · exact p2.elim
    · exact p2.elim
  · exact p2.elim
section
variable {X : Cx} {G : Gd} {a b : Expr} {fa fb : FE} {pos : Pos} {r : R2} {h : PV → PV → Option SV}
theorem x_bin {op : Operator} (ho : OpR X (binaryOp op) r) (hr : RuleX G.K r h) (ha : PE X a (tE G fa)) (hb : PE X b (tE G fb)) : PE X (.BinOp a op b pos) (tE G (fX h fa fb)) :=
  PE.of (pe_op ho ha hb) fun _ _ _ q => fX_in hr q
theorem x_cmp {op : CmpOp} (ho : OpR X (compareOp op) r) (hr : RuleX G.K r h) (ha : PE X a (tE G fa)) (hb : PE X b (tE G fb)) (hm : behindInMarks op b = false := by rfl) : PE X (.Compare a [op] [b] pos) (tE G (fX h fa fb)) :=
  PE.of (pe_cmpR ho ha hb hm) fun _ _ _ q => fX_in hr q
theorem xt_cmp {op : CmpOp} (ho : OpR X (compareOp op) r) (hr : RuleX G.K r h) (ha : PE X a (tE G fa)) (hb : PE X b (tE G fb)) (hm : behindInMarks op b = false := by rfl) : PT X (.Compare a [op] [b] pos) (tT G (fB (fX h fa fb))) :=
  PT.of (pt_cmpR ho ha hb hm) fun _ _ _ q => fX_in hr (fB_in q)
theorem x_ix (hi : IxR X r) (hr : RuleX G.K r h) (ha : PE X a (tE G fa)) (hb : PE X b (tE G fb)) (hs : PlainIx b := by exact fun _ _ => rfl) : PE X (.Subscript a b pos) (tE G (fX h fa fb)) :=
  PE.of (pe_ix hi ha hb hs) fun _ _ _ q => fX_in hr q
end

/-! ## ints -/
def hI (g : Int → Int → Option D) : PV → PV → Option SV
  | .d (.int i), .d (.int j) => match g i j with
    | some x => some (.d x)
    | none => none
  | _, _ => none
theorem pk_int {F H : Hp} {v : V} {i : Int} (h : Pk F H v (.int i)) : v = .int i := by cases h; rfl
theorem hI_some {g : Int → Int → Option D} {a b : PV} {s : SV} (h : hI g a b = some s) : ∃ i j x, a = .d (.int i) ∧ b = .d (.int j) ∧ g i j = some x ∧ s = .d x := by
  unfold hI at h
  split at h
  · split at h
    · rename_i x hx
      cases h
      exact ⟨_, _, _, rfl, rfl, hx, rfl⟩
    · cases h
  · cases h
section
variable {K : PySem.W.Frag}
theorem ru_I0 {g : Int → Int → D} {gv : Int → Int → V} (hv : ∀ F i j, Dq F (gv i j) (g i j)) : RuleX K (rI0 gv) (hI fun i j => some (g i j)) := fun F H v u a b s Q sm ha hb e k => by
  obtain ⟨i, j, x, rfl, rfl, e, rfl⟩ := hI_some e
  cases e
  exact ⟨i, j, pk_int ha, pk_int hb, k F H _ (Br.refl sm) (hv F i j)⟩
theorem ru_I {C : Int → Int → Prop} {c : Int → Int → Bool} {g : Int → Int → D} {gv : Int → Int → V} (hc : ∀ i j, c i j = true → C i j) (hv : ∀ F i j, Dq F (gv i j) (g i j)) : RuleX K (rI C gv) (hI fun i j => if c i j = true then some (g i j) else none) := fun F H v u a b s Q sm ha hb e k => by
  obtain ⟨i, j, x, rfl, rfl, e2, rfl⟩ := hI_some e
  clear e
  by_cases h : c i j = true
  · rw [if_pos h] at e2
    cases e2
    exact ⟨i, j, pk_int ha, pk_int hb, hc i j h, k F H _ (Br.refl sm) (hv F i j)⟩
  · rw [if_neg h] at e2
    cases e2
end
/-- small: below 2^64 -/
def sm64 (i : Int) : Bool := Nat.blt i.natAbs 18446744073709551616
def hSub := hI fun i j => some (.int (i - j))
def hMulI := hI fun i j => if (sm64 j || sm64 i) = true then some (.int (i * j)) else none
def hDiv := hI fun i j => if (Nat.ble 1 j.natAbs && Nat.blt j.natAbs 1073741824) = true then some (.int (i.fdiv j)) else none
def hMod := hI fun i j => if (Nat.ble 1 j.natAbs) = true then some (.int (i.fmod j)) else none
def hPow := hI fun i j => if ((match j with | .ofNat n => Nat.ble n 1000000 | _ => false) && sm64 i) = true then some (.int (i ^ j.toNat)) else none
def hLt := hI fun i j => some (.bool (decide (i < j)))
def hLe := hI fun i j => some (.bool (decide (i ≤ j)))
def hGt := hI fun i j => some (.bool (decide (j < i)))
def hGe := hI fun i j => some (.bool (decide (j ≤ i)))
section
variable {K : PySem.W.Frag}
theorem sm64_ok {i : Int} (h : sm64 i = true) : i.natAbs < 2 ^ 64 := by
  unfold sm64 at h
  have h' : i.natAbs < 18446744073709551616 := Nat.le_of_ble_eq_true h
  exact h'
theorem ru_sub : RuleX K (rI0 fun i j => .int (i - j)) hSub := ru_I0 fun _ _ _ => .int _
theorem ru_mulI : RuleX K (rI CMul fun i j => .int (i * j)) hMulI := ru_I (fun i j h => by
  rw [Bool.or_eq_true] at h
  unfold CMul
  rcases h with h | h
  · have := sm64_ok h
    exact .inr (by omega)
  · have := sm64_ok h
    exact .inl (by omega)) fun _ _ _ => .int _
theorem ru_div : RuleX K (rI CDivN fun i j => .int (i.fdiv j)) hDiv := ru_I (fun i j h => by
  rw [Bool.and_eq_true] at h
  have h1 := Nat.le_of_ble_eq_true h.1
  have h2 : j.natAbs < 1073741824 := Nat.le_of_ble_eq_true h.2
  exact ⟨by omega, h2⟩) fun _ _ _ => .int _
theorem ru_mod : RuleX K (rI (fun _ j => j ≠ 0) fun i j => .int (i.fmod j)) hMod := ru_I (fun i j h => by
  have h1 := Nat.le_of_ble_eq_true h
  omega) fun _ _ _ => .int _
theorem ru_pow : RuleX K (rI CPow fun i j => .int (i ^ j.toNat)) hPow := ru_I (fun i j h => by
  rw [Bool.and_eq_true] at h
  obtain ⟨h1, h2⟩ := h
  have h3 := sm64_ok h2
  split at h1
  · have h4 := Nat.le_of_ble_eq_true h1
    exact ⟨Int.natCast_nonneg _, Int.ofNat_le.mpr h4, h3⟩
  · cases h1) fun _ _ _ => .int _
theorem ru_lt : RuleX K (rI0 fun i j => .bl (decide (i < j))) hLt := ru_I0 fun _ _ _ => .bl _
theorem ru_le : RuleX K (rI0 fun i j => .bl (decide (i ≤ j))) hLe := ru_I0 fun _ _ _ => .bl _
theorem ru_gt : RuleX K (rI0 fun i j => .bl (decide (j < i))) hGt := ru_I0 fun _ _ _ => .bl _
theorem ru_ge : RuleX K (rI0 fun i j => .bl (decide (j ≤ i))) hGe := ru_I0 fun _ _ _ => .bl _
end

/-! ## + and * of rows -/
def hAdd : PV → PV → Option SV
  | .d (.int i), .d (.int j) => some (.d (.int (i + j)))
  | .d (.list xs), .d (.list ys) => if szOk (xs.length + ys.length) = true then some (.c .own (.l (xs ++ ys))) else none
  | .d (.tuple xs), .d (.tuple ys) => if szOk (xs.length + ys.length) = true then some (.d (.tuple (xs ++ ys))) else none
  | .d (.str x), .d (.str y) => if szOk (x.cps.size + y.cps.size) = true then some (.d (.str ⟨⟨x.cps.toList ++ y.cps.toList⟩⟩)) else none
  | _, _ => none
def repD : Nat → List D → List D
  | 0, _ => []
  | n + 1, xs => xs ++ repD n xs
def hMul : PV → PV → Option SV
  | .d (.int i), .d (.int j) => if (sm64 j || sm64 i) = true then some (.d (.int (i * j))) else none
  | .d (.tuple xs), .d (.int (.ofNat n)) => if (Nat.ble 2 n && Nat.ble n 1000 && Nat.ble xs.length 1000 && !xs.isEmpty) = true then some (.d (.tuple (repD n xs))) else none
  | .d (.list xs), .d (.int (.ofNat n)) => if (szOk (xs.length * n) && szOk n) = true then some (.c .own (.l (repD n xs))) else none
  | _, _ => none
abbrev rStrAdd : R2 := fun x y H Q => ∃ i j, x = .str i ∧ y = .str j ∧ i.length + j.length ≤ sizeLine ∧ Q (.str (i ++ j)) H
abbrev rAdd (K : PySem.W.Frag) : R2 := fun x y H Q => (rI0 fun i j => .int (i + j)) x y H Q ∨ (rCat x y H Q ∨ (rCatA K x y H Q ∨ rStrAdd x y H Q))
abbrev rMul (K : PySem.W.Frag) : R2 := fun x y H Q => (rI CMul fun i j => .int (i * j)) x y H Q ∨ (rRepT K x y H Q ∨ rRep x y H Q)
section
variable {X : Cx}
theorem op_Add : OpR X (binaryOp .Add) (rAdd X.K) := op_add.or (op_cat.or (op_catA.or op_add_str))
theorem op_Mul : OpR X (binaryOp .Mult) (rMul X.K) := op_mul.or (op_repT.or op_rep)
end
theorem repD_flat : ∀ (n : Nat) (xs : List D), repD n xs = (List.replicate n xs).flatten
  | 0, _ => rfl
  | n + 1, xs => by
    unfold repD
    rw [List.replicate_succ, List.flatten_cons, repD_flat n xs]
theorem DqAll.rep {F : Hp} {ds : List D} {vs : List V} (h : DqAll F vs ds) : ∀ n, DqAll F (List.replicate n vs).flatten (repD n ds)
  | 0 => .nil
  | n + 1 => by
    rw [List.replicate_succ, List.flatten_cons]
    exact h.app (DqAll.rep h n)
theorem str_app (x y : Str) : (x ++ y : Str) = ⟨⟨x.cps.toList ++ y.cps.toList⟩⟩ := by
  show (Str.mk (x.cps ++ y.cps)) = _
  congr 1
  apply Array.ext'
  simp
section
variable {K : PySem.W.Frag}
theorem new_lst {F H : Hp} (sm : Same F H) {p : Addr} (np : H p = none) {vs : List V} {ds : List D} (h : DqAll F vs ds) : NewV K H F (upd H p (.lst vs)) (.ref p) (.c .own (.l ds)) :=
  ⟨rfl, rfl, p, rfl, np, sm.free np, vs, upd_same, h⟩
theorem new_tup {F H : Hp} (sm : Same F H) {p : Addr} (np : H p = none) {vs : List V} {ds : List D} (h : DqAll F vs ds) : NewV K H (upd F p (.tup vs)) (upd H p (.tup vs)) (.ref p) (.d (.tuple ds)) :=
  show Dq _ _ _ from .tup upd_same (DqAll.up (Br.frz sm np).f _ _ h)
theorem ru_add : RuleX K (rAdd K) hAdd := fun F H v u a b s Q sm ha hb e k => by
  unfold hAdd at e
  split at e
  · cases e
    exact .inl ⟨_, _, pk_int ha, pk_int hb, k F H _ (Br.refl sm) (.int _)⟩
  · split at e
    · rename_i hz
      cases e
      have ha : Pk F H v _ := ha
      have hb : Pk F H u _ := hb
      cases ha with
      | lst a1 a2 =>
        cases hb with
        | lst b1 b2 =>
          exact .inr (.inl ⟨_, _, _, _, rfl, rfl, a1, b1, by rw [a2.length, b2.length]; exact szOk_le hz, fun p np => k F _ _ (Br.own sm np) (new_lst sm np (a2.app b2))⟩)
    · cases e
  · split at e
    · rename_i hz
      cases e
      have ha : Pk F H v _ := ha
      have hb : Pk F H u _ := hb
      cases ha with
      | @tup aa vs xs a1 a2 =>
        cases hb with
        | @tup ab us ys b1 b2 =>
          refine .inr (.inr (.inl ⟨aa, ab, vs, us, rfl, rfl, SqT.of (sm _ _ a1), SqT.of (sm _ _ b1), by rw [a2.length, b2.length]; exact szOk_le hz, fun z => ?_, fun _ z => ?_, fun _ _ p np => k _ _ _ (Br.frz sm np) (new_tup sm np (a2.app b2))⟩))
          · subst z
            cases a2
            exact k F H _ (Br.refl sm) (.tup b1 b2)
          · subst z
            cases b2
            rw [List.append_nil] at k
            exact k F H _ (Br.refl sm) (.tup a1 a2)
    · cases e
  · split at e
    · rename_i hz
      cases e
      have ha : Pk F H v _ := ha
      have hb : Pk F H u _ := hb
      cases ha
      cases hb
      refine .inr (.inr (.inr ⟨_, _, rfl, rfl, szOk_le hz, ?_⟩))
      rw [str_app]
      exact k F H _ (Br.refl sm) (.str _)
    · cases e
  · cases e
theorem ru_mul : RuleX K (rMul K) hMul := fun F H v u a b s Q sm ha hb e k => by
  unfold hMul at e
  split at e
  · split at e
    · rename_i i j hz
      cases e
      refine .inl ⟨i, j, pk_int ha, pk_int hb, ?_, k F H _ (Br.refl sm) (.int _)⟩
      rw [Bool.or_eq_true] at hz
      unfold CMul
      rcases hz with h | h
      · have := sm64_ok h
        exact .inr (by omega)
      · have := sm64_ok h
        exact .inl (by omega)
    · cases e
  · split at e
    · rename_i xs n hz
      cases e
      simp only [Bool.and_eq_true, Bool.not_eq_true'] at hz
      obtain ⟨⟨⟨h1, h2⟩, h3⟩, h4⟩ := hz
      have h1 := Nat.le_of_ble_eq_true h1
      have h2 := Nat.le_of_ble_eq_true h2
      have h3 := Nat.le_of_ble_eq_true h3
      have ha : Pk F H v _ := ha
      cases ha with
      | @tup aa vs _ a1 a2 =>
        have hl := a2.length
        refine .inr (.inl ⟨aa, .ofNat n, vs, rfl, pk_int hb, SqT.of (sm _ _ a1), fun z => ?_, Int.ofNat_le.mpr h1, Int.ofNat_le.mpr h2, by omega, fun p np => k _ _ _ (Br.frz sm np) (new_tup sm np (a2.rep n))⟩)
        subst z
        cases a2
        cases h4
    · cases e
  · split at e
    · rename_i xs n hz
      cases e
      have ha : Pk F H v _ := ha
      cases ha with
      | @lst aa vs _ a1 a2 =>
        rw [Bool.and_eq_true] at hz
        have h1 := Nat.le_of_ble_eq_true hz.2
        have hl := a2.length
        refine .inr (.inr ⟨aa, .ofNat n, vs, rfl, pk_int hb, a1, ?_, ?_, ?_, fun p np => k _ _ _ (Br.own sm np) (new_lst sm np (a2.rep n))⟩)
        · show -(2 ^ 63) ≤ ((n : Nat) : Int)
          omega
        · show ((n : Nat) : Int) < 2 ^ 63
          omega
        · show vs.length * n ≤ sizeLine
          rw [hl]
          exact szOk_le hz.1
    · cases e
  · cases e
end
end Pv
set_option Elab.async false
set_option linter.all false
set_option maxRecDepth 100000
set_option maxHeartbeats 1000000
namespace Pv
open PySem PySem.Spec PyProof.Rows L2

/-! ## equal -/
def leqN : List Nat → List Nat → Bool
  | [], [] => true
  | a :: as, b :: bs => Nat.beq a b && leqN as bs
  | _, _ => false
def ieq : Int → Int → Bool
  | .ofNat a, .ofNat b => Nat.beq a b
  | .negSucc a, .negSucc b => Nat.beq a b
  | _, _ => false
def seq (x y : Str) : Bool := leqN x.cps.toList y.cps.toList
def allB (f : D → D → Bool) : List D → List D → Bool
  | [], [] => true
  | a :: as, b :: bs => f a b && allB f as bs
  | _, _ => false
def deqF : Nat → D → D → Bool
  | 0, _, _ => false
  | n + 1, a, b => match a, b with
    | .none, .none => true
    | .bool x, .bool y => x == y
    | .bool x, .int j => ieq (if x = true then 1 else 0) j
    | .int i, .bool y => ieq i (if y = true then 1 else 0)
    | .int i, .int j => ieq i j
    | .str x, .str y => seq x y
    | .list xs, .list ys => allB (deqF n) xs ys
    | .tuple xs, .tuple ys => allB (deqF n) xs ys
    | _, _ => false
def allS (f : D → Bool) : List D → Bool
  | [] => true
  | a :: as => f a && allS f as
/-- not deeper than n -/
def shal : Nat → D → Bool
  | 0, d => match d with
    | .list _ => false
    | .tuple _ => false
    | .dict _ => false
    | _ => true
  | n + 1, d => match d with
    | .list xs => allS (shal n) xs
    | .tuple xs => allS (shal n) xs
    | .dict _ => false
    | _ => true
theorem leqN_eq : ∀ (a b : List Nat), leqN a b = decide (a = b)
  | [], [] => rfl
  | [], _ :: _ => rfl
  | _ :: _, [] => rfl
  | a :: as, b :: bs => by
    show (Nat.beq a b && leqN as bs) = _
    rw [leqN_eq as bs]
    by_cases h : a = b
    · subst h
      rw [Nat.beq_refl]
      simp
    · have : Nat.beq a b = false := by
        cases e : Nat.beq a b with
        | false => rfl
        | true => exact absurd (Nat.eq_of_beq_eq_true e) h
      rw [this]
      simp [h]
theorem ieq_eq : ∀ (a b : Int), ieq a b = (a == b)
  | .ofNat a, .ofNat b => by
    show Nat.beq a b = _
    by_cases h : a = b
    · subst h
      rw [Nat.beq_refl]
      simp
    · have : Nat.beq a b = false := by
        cases e : Nat.beq a b with
        | false => rfl
        | true => exact absurd (Nat.eq_of_beq_eq_true e) h
      rw [this]
      symm
      rw [beq_eq_false_iff_ne]
      intro z
      exact h (Int.ofNat.inj z)
  | .negSucc a, .negSucc b => by
    show Nat.beq a b = _
    by_cases h : a = b
    · subst h
      rw [Nat.beq_refl]
      simp
    · have : Nat.beq a b = false := by
        cases e : Nat.beq a b with
        | false => rfl
        | true => exact absurd (Nat.eq_of_beq_eq_true e) h
      rw [this]
      symm
      rw [beq_eq_false_iff_ne]
      intro z
      exact h (Int.negSucc.inj z)
  | .ofNat a, .negSucc b => by
    symm
    rw [show ieq (.ofNat a) (.negSucc b) = false from rfl, beq_eq_false_iff_ne]
    intro z
    cases z
  | .negSucc a, .ofNat b => by
    symm
    rw [show ieq (.negSucc a) (.ofNat b) = false from rfl, beq_eq_false_iff_ne]
    intro z
    cases z
theorem seq_eq (x y : Str) : seq x y = (x == y) := by
  unfold seq
  rw [leqN_eq]
  by_cases h : x = y
  · subst h
    simp
  · rw [show (x == y) = false from beq_eq_false_iff_ne.mpr h, decide_eq_false_iff_not]
    intro z
    exact h (by
      cases x
      cases y
      congr 1
      exact Array.ext' z)
theorem allB_eq {f : D → D → Bool} : ∀ (xs ys : List D), (∀ x ∈ xs, ∀ y ∈ ys, f x y = PyData.eqv x y) → allB f xs ys = PyData.eqvAll xs ys
  | [], [], _ => by rw [PyData.eqvAll]; rfl
  | [], _ :: _, _ => by rw [PyData.eqvAll]; rfl
  | _ :: _, [], _ => by rw [PyData.eqvAll]; rfl
  | x :: xs, y :: ys, h => by
    show (f x y && allB f xs ys) = _
    rw [PyData.eqvAll, h x (by simp) y (by simp), allB_eq xs ys fun a ha b hb => h a (by simp [ha]) b (by simp [hb])]
theorem depth_mem : ∀ {xs : List D} {x : D}, x ∈ xs → x.depth ≤ PyData.depthAll xs
  | [], _, h => by simp at h
  | y :: ys, x, h => by
    rw [PyData.depthAll]
    rcases List.mem_cons.mp h with rfl | h
    · exact Nat.le_max_left _ _
    · exact Nat.le_trans (depth_mem h) (Nat.le_max_right _ _)
theorem deqF_eq : ∀ (n : Nat) (a b : D), (a.depth < n ∨ b.depth < n) → deqF n a b = PyData.eqv a b := by
  intro n
  induction n with
  | zero => intro a b h; omega
  | succ n ih =>
    intro a b h
    have row : ∀ xs ys : List D, (PyData.depthAll xs < n ∨ PyData.depthAll ys < n) → allB (deqF n) xs ys = PyData.eqvAll xs ys := fun xs ys h => allB_eq xs ys fun x hx y hy => ih x y (by
      have := depth_mem hx
      have := depth_mem hy
      omega)
    cases a <;> cases b <;> simp only [deqF, PyData.eqv, ieq_eq, seq_eq]
    · rename_i xs ys
      refine row xs ys ?_
      simp only [PyData.depth] at h
      omega
    · rename_i xs ys
      refine row xs ys ?_
      simp only [PyData.depth] at h
      omega
theorem allS_all {f : D → Bool} : ∀ {xs : List D}, allS f xs = true → ∀ x ∈ xs, f x = true
  | [], _, x, h => by simp at h
  | y :: ys, e, x, h => by
    unfold allS at e
    rw [Bool.and_eq_true] at e
    rcases List.mem_cons.mp h with rfl | h
    · exact e.1
    · exact allS_all e.2 x h
theorem depthAll_le {n : Nat} : ∀ {xs : List D}, (∀ x ∈ xs, x.depth ≤ n) → PyData.depthAll xs ≤ n
  | [], _ => by rw [PyData.depthAll]; exact Nat.zero_le _
  | y :: ys, h => by
    rw [PyData.depthAll]
    exact Nat.max_le.mpr ⟨h y (by simp), depthAll_le fun x hx => h x (by simp [hx])⟩
theorem shal_ok : ∀ {n : Nat} {d : D}, shal n d = true → d.depth ≤ n := by
  intro n
  induction n with
  | zero =>
    intro d h
    cases d <;> first
      | (simp only [PyData.depth]; omega)
      | (exact absurd h (by simp [shal]))
  | succ n ih =>
    intro d h
    cases d with
    | list xs =>
      have h' : allS (shal n) xs = true := h
      rw [PyData.depth]
      exact Nat.succ_le_succ (depthAll_le fun x hx => ih (allS_all h' x hx))
    | tuple xs =>
      have h' : allS (shal n) xs = true := h
      rw [PyData.depth]
      exact Nat.succ_le_succ (depthAll_le fun x hx => ih (allS_all h' x hx))
    | dict _ => exact absurd h (by simp [shal])
    | none => simp only [PyData.depth]; omega
    | bool _ => simp only [PyData.depth]; omega
    | int _ => simp only [PyData.depth]; omega
    | str _ => simp only [PyData.depth]; omega
mutual
theorem Dq.plain {F : Hp} : ∀ {d : D} {v : V}, Dq F v d → d.plain = true
  | .none, _, h => rfl
  | .bool b, _, h => rfl
  | .int i, _, h => rfl
  | .str x, _, h => rfl
  | .list ds, _, h => by
    cases h with
    | lst a b =>
      rw [PyData.plain]
      exact DqAll.plain b
  | .tuple ds, _, h => by
    cases h with
    | tup a b =>
      rw [PyData.plain]
      exact DqAll.plain b
  | .dict _, _, h => by cases h
theorem DqAll.plain {F : Hp} : ∀ {ds : List D} {vs : List V}, DqAll F vs ds → PyData.plainAll ds = true
  | [], _, h => by rw [PyData.plainAll]
  | d :: ds, _, h => by
    cases h with
    | cons a b =>
      rw [PyData.plainAll, Dq.plain a, DqAll.plain b]
      rfl
end
section
variable {X : Cx} {pins : List (Addr × Obj)} {σ : Sl} {F H : Hp} {s : Shared}
theorem pk_reads (I : Inv X pins σ H s) (sm : Same F H) {d : D} {v : V} {u : Value} (h : Pk F H v d) (r : RelV v u) : (∃ as, Reads s.heap u d as) ∧ d.plain = true :=
  ⟨Dp.reads I d v u (Dq.dp X.K d v (h.dq sm)) r, (h.dq sm).plain⟩
end
def rDat (g : D → D → Option V) : R2 := fun x y H Q => ∃ F a b v, Same F H ∧ Pk F H x a ∧ Pk F H y b ∧ g a b = some v ∧ Q v H
def gEq (neg : Bool) (a b : D) : Option V := if (shal 60 b || shal 60 a) = true then some (.bl (xor neg (PyData.eqv a b))) else none
def hEq : PV → PV → Option SV
  | .d a, .d b => if (shal 60 b || shal 60 a) = true then some (.d (.bool (deqF 61 a b))) else none
  | _, _ => none
def hNe : PV → PV → Option SV
  | .d a, .d b => if (shal 60 b || shal 60 a) = true then some (.d (.bool (!deqF 61 a b))) else none
  | _, _ => none
theorem shal2 {a b : D} (h : (shal 60 b || shal 60 a) = true) : min a.depth b.depth ≤ 60 ∧ deqF 61 a b = PyData.eqv a b := by
  rw [Bool.or_eq_true] at h
  rcases h with h | h
  · have := shal_ok h
    exact ⟨by omega, deqF_eq 61 a b (by omega)⟩
  · have := shal_ok h
    exact ⟨by omega, deqF_eq 61 a b (by omega)⟩
section
variable {X : Cx} {K : PySem.W.Frag}
theorem op_Eq (hu : X.A.units + 64 < cLine) : OpR X (compareOp .Eq) (rDat (gEq false)) := fun pins s σ H x y v u Q I rx ry ⟨F, a, b, w, sm, ha, hb, e, q⟩ => by
  obtain ⟨⟨as, r1⟩, p1⟩ := pk_reads I sm ha rx
  obtain ⟨⟨bs, r2⟩, p2⟩ := pk_reads I sm hb ry
  unfold gEq at e
  split at e
  · rename_i h
    cases e
    have := (shal2 h).1
    refine SeqAt.eq_plain r1 r2 p1 p2 (by omega) ⟨.bl _, H, I, rfl, ?_⟩
    rw [Bool.false_xor] at q
    exact q
  · cases e
theorem op_Ne (hu : X.A.units + 64 < cLine) : OpR X (compareOp .NotEq) (rDat (gEq true)) := fun pins s σ H x y v u Q I rx ry ⟨F, a, b, w, sm, ha, hb, e, q⟩ => by
  obtain ⟨⟨as, r1⟩, p1⟩ := pk_reads I sm ha rx
  obtain ⟨⟨bs, r2⟩, p2⟩ := pk_reads I sm hb ry
  unfold gEq at e
  split at e
  · rename_i h
    cases e
    have := (shal2 h).1
    refine SeqAt.ne_plain r1 r2 p1 p2 (by omega) ⟨.bl _, H, I, rfl, ?_⟩
    rw [Bool.true_xor] at q
    exact q
  · cases e
theorem ru_eq : RuleX K (rDat (gEq false)) hEq := fun F H v u a b s Q sm ha hb e k => by
  unfold hEq at e
  split at e
  · split at e
    · rename_i h
      cases e
      exact ⟨F, _, _, _, sm, ha, hb, by unfold gEq; rw [if_pos h], by rw [(shal2 h).2] at k; rw [Bool.false_xor]; exact k F H _ (Br.refl sm) (.bl _)⟩
    · cases e
  · cases e
theorem ru_ne : RuleX K (rDat (gEq true)) hNe := fun F H v u a b s Q sm ha hb e k => by
  unfold hNe at e
  split at e
  · split at e
    · rename_i h
      cases e
      exact ⟨F, _, _, _, sm, ha, hb, by unfold gEq; rw [if_pos h], by rw [(shal2 h).2] at k; rw [Bool.true_xor]; exact k F H _ (Br.refl sm) (.bl _)⟩
    · cases e
  · cases e
end

/-! ## is -/
def hIs : PV → PV → Option SV
  | .d .none, .d .none => some (.d (.bool true))
  | .d (.bool a), .d (.bool b) => some (.d (.bool (a == b)))
  | _, .d .none => some (.d (.bool false))
  | _, _ => none
def hIsNot : PV → PV → Option SV
  | .d .none, .d .none => some (.d (.bool false))
  | .d (.bool a), .d (.bool b) => some (.d (.bool (!(a == b))))
  | _, .d .none => some (.d (.bool true))
  | _, _ => none
abbrev rIsNo : R2 := fun x y H Q => y = .non ∧ Q (.bl (decide (x = .non))) H
abbrev rNotNo : R2 := fun x y H Q => y = .non ∧ Q (.bl (!decide (x = .non))) H
section
variable {X : Cx} {K : PySem.W.Frag}
theorem op_Is : OpR X (compareOp .Is) (fun x y H Q => rIsNo x y H Q ∨ rIsB x y H Q) := op_isN.or op_isBl
theorem op_IsNot : OpR X (compareOp .IsNot) (fun x y H Q => rNotNo x y H Q ∨ rNotB x y H Q) := op_notN.or op_notBl
theorem pk_non {F H : Hp} {v : V} (h : Pk F H v .none) : v = .non := by cases h; rfl
theorem pkx_ne {F H : Hp} {v : V} {p : PV} (h : PkX K F H v p) (hp : p ≠ .d .none) : v ≠ .non := by
  cases p with
  | d x =>
    have h : Pk F H v x := h
    cases h <;> first
      | (exact absurd rfl hp)
      | (intro z; cases z)
  | k _ => obtain ⟨a, _, rfl, _⟩ := h; intro z; cases z
  | t _ => obtain ⟨a, _, rfl, _⟩ := h; intro z; cases z
  | z _ => obtain ⟨a, _, rfl, _⟩ := h; intro z; cases z
theorem ru_is : RuleX K (fun x y H Q => rIsNo x y H Q ∨ rIsB x y H Q) hIs := fun F H v u a b s Q sm ha hb e k => by
  unfold hIs at e
  split at e
  · cases e
    refine .inl ⟨pk_non hb, ?_⟩
    rw [pk_non ha]
    exact k F H _ (Br.refl sm) (.bl _)
  · rename_i x y
    cases e
    have ha : Pk F H v _ := ha
    have hb : Pk F H u _ := hb
    cases ha
    cases hb
    refine .inr ⟨x, y, rfl, rfl, ?_⟩
    exact k F H _ (Br.refl sm) (.bl _)
  · rename_i h1 h2
    cases e
    refine .inl ⟨pk_non hb, ?_⟩
    rw [decide_eq_false (pkx_ne ha (fun z => by subst z; first | exact h1 rfl rfl | exact h2 rfl rfl | exact h1 rfl | exact h2 rfl))]
    exact k F H _ (Br.refl sm) (.bl _)
  · cases e
theorem ru_isnot : RuleX K (fun x y H Q => rNotNo x y H Q ∨ rNotB x y H Q) hIsNot := fun F H v u a b s Q sm ha hb e k => by
  unfold hIsNot at e
  split at e
  · cases e
    refine .inl ⟨pk_non hb, ?_⟩
    rw [pk_non ha]
    exact k F H _ (Br.refl sm) (.bl _)
  · rename_i x y
    cases e
    have ha : Pk F H v _ := ha
    have hb : Pk F H u _ := hb
    cases ha
    cases hb
    refine .inr ⟨x, y, rfl, rfl, ?_⟩
    exact k F H _ (Br.refl sm) (.bl _)
  · rename_i h1 h2
    cases e
    refine .inl ⟨pk_non hb, ?_⟩
    rw [decide_eq_false (pkx_ne ha (fun z => by subst z; first | exact h1 rfl rfl | exact h2 rfl rfl | exact h1 rfl | exact h2 rfl))]
    exact k F H _ (Br.refl sm) (.bl _)
  · cases e
end
end Pv
set_option Elab.async false
set_option linter.all false
set_option maxRecDepth 100000
set_option maxHeartbeats 1000000
namespace Pv
open PySem PySem.Spec PyProof.Rows L2

/-! ## keys of dicts -/
def keyOf : D → Option Key
  | .int i => some (.inl i)
  | .str x => some (.inr x)
  | _ => none
def keysOf : List D → Option (List Key)
  | [] => some []
  | d :: r => match keyOf d with
    | some k => match keysOf r with
      | some ks => some (k :: ks)
      | none => none
    | none => none
def tkeyOf : D → Option (List Key)
  | .tuple xs => keysOf xs
  | _ => none
def keq : Key → Key → Bool
  | .inl i, .inl j => ieq i j
  | .inr x, .inr y => seq x y
  | _, _ => false
def keqs : List Key → List Key → Bool
  | [], [] => true
  | a :: as, b :: bs => keq a b && keqs as bs
  | _, _ => false
def kget {κ : Type} (eq : κ → κ → Bool) (k : κ) : List (κ × D) → Option D
  | [] => none
  | (a, d) :: r => if eq a k = true then some d else kget eq k r
def kput {κ : Type} (eq : κ → κ → Bool) (k : κ) (x : D) : List (κ × D) → List (κ × D)
  | [] => [(k, x)]
  | (a, d) :: r => if eq a k = true then (a, x) :: r else (a, d) :: kput eq k x r
theorem keq_eq : ∀ (a b : Key), keq a b = decide (a = b)
  | .inl i, .inl j => by
    show ieq i j = _
    rw [ieq_eq]
    by_cases h : i = j
    · subst h
      simp
    · rw [beq_eq_false_iff_ne.mpr h]
      symm
      rw [decide_eq_false_iff_not]
      intro z
      exact h (Sum.inl.inj z)
  | .inr i, .inr j => by
    show seq i j = _
    rw [seq_eq]
    by_cases h : i = j
    · subst h
      simp
    · rw [beq_eq_false_iff_ne.mpr h]
      symm
      rw [decide_eq_false_iff_not]
      intro z
      exact h (Sum.inr.inj z)
  | .inl _, .inr _ => rfl
  | .inr _, .inl _ => rfl
theorem keqs_eq : ∀ (a b : List Key), keqs a b = decide (a = b)
  | [], [] => rfl
  | [], _ :: _ => rfl
  | _ :: _, [] => rfl
  | a :: as, b :: bs => by
    show (keq a b && keqs as bs) = _
    rw [keq_eq, keqs_eq as bs]
    by_cases h1 : a = b <;> by_cases h2 : as = bs <;> simp [h1, h2]
section
variable {κ : Type} [DecidableEq κ] {eq : κ → κ → Bool} {F : Hp}
theorem kget_val (he : ∀ a b, eq a b = decide (a = b)) {k : κ} : ∀ {ks : List (κ × V)} {kvs : List (κ × D)}, KvR F ks kvs → (valV ks k = none ∧ kget eq k kvs = none) ∨ ∃ v d, valV ks k = some v ∧ kget eq k kvs = some d ∧ Dq F v d
  | _, _, .nil => .inl ⟨rfl, rfl⟩
  | (a, v) :: r, (b, d) :: s, .cons h t => by
    obtain ⟨h1, h2⟩ := h
    have h1 : a = b := h1
    subst h1
    by_cases hk : a = k
    · rw [valV_pos hk]
      refine .inr ⟨v, d, rfl, ?_, h2⟩
      unfold kget
      rw [he, decide_eq_true hk, if_pos rfl]
    · rw [valV_neg hk]
      have e : kget eq k ((a, d) :: s) = kget eq k s := by
        show (if eq a k = true then some d else kget eq k s) = _
        rw [he, decide_eq_false hk, if_neg (by decide)]
      rw [e]
      exact kget_val he t
theorem putK_nil {k : κ} {v : V} : putK ([] : List (κ × V)) k v = [(k, v)] := rfl
theorem putK_pos {p : κ × V} {r : List (κ × V)} {k : κ} {v : V} (e : p.1 = k) (hd : ∀ q ∈ r, q.1 ≠ k) : putK (p :: r) k v = (p.1, v) :: r := by
  unfold putK
  rw [List.any_cons, decide_eq_true e, Bool.true_or, if_pos rfl, List.map_cons, if_pos e]
  congr 1
  conv => rhs; rw [← List.map_id r]
  refine List.map_congr_left fun q hq => ?_
  rw [if_neg (hd q hq)]
  rfl
theorem putK_neg {p : κ × V} {r : List (κ × V)} {k : κ} {v : V} (e : ¬ p.1 = k) : putK (p :: r) k v = p :: putK r k v := by
  unfold putK
  rw [List.any_cons, decide_eq_false e, Bool.false_or]
  split
  · rw [List.map_cons, if_neg e]
  · rfl
/-- no key twice -/
def Nd {α β : Type} (kvs : List (α × β)) : Prop := (kvs.map (·.1)).Nodup
def ndB (eq : κ → κ → Bool) : List (κ × D) → Bool
  | [] => true
  | (a, _) :: r => !(r.any fun p => eq p.1 a) && ndB eq r
/-- all at the key -/
def kputA (eq : κ → κ → Bool) (k : κ) (x : D) (kvs : List (κ × D)) : List (κ × D) := if (kget eq k kvs).isSome = true then kvs.map (fun p => if eq p.1 k = true then (p.1, x) else p) else kvs ++ [(k, x)]
theorem kputA_ok (he : ∀ a b, eq a b = decide (a = b)) {k : κ} {v : V} {x : D} (hv : Dq F v x) {ks : List (κ × V)} {kvs : List (κ × D)} (h : KvR F ks kvs) : KvR F (putK ks k v) (kputA eq k x kvs) := by
  have hm : ∀ {ks : List (κ × V)} {kvs : List (κ × D)}, KvR F ks kvs → KvR F (ks.map fun kv => if kv.1 = k then (kv.1, v) else kv) (kvs.map fun p => if eq p.1 k = true then (p.1, x) else p) := fun {ks kvs} h => by
    induction h with
    | nil => exact .nil
    | @cons a b as bs h t ih =>
      rw [List.map_cons, List.map_cons]
      refine .cons ?_ ih
      obtain ⟨h1, h2⟩ := h
      by_cases hk : a.1 = k
      · rw [if_pos hk, he, if_pos (by rw [← h1, decide_eq_true hk])]
        exact ⟨h1, hv⟩
      · rw [if_neg hk, he, if_neg (by rw [← h1, decide_eq_false hk]; decide)]
        exact ⟨h1, h2⟩
  have ha : ∀ {ks : List (κ × V)} {kvs : List (κ × D)}, KvR F ks kvs → KvR F (ks ++ [(k, v)]) (kvs ++ [(k, x)]) := fun {ks kvs} h => by
    induction h with
    | nil => exact .cons ⟨rfl, hv⟩ .nil
    | cons h t ih => exact .cons h ih
  unfold putK kputA
  rw [valV_any]
  rcases kget_val he (k := k) h with ⟨e1, e2⟩ | ⟨w, d, e1, e2, _⟩
  · rw [e1, e2]
    exact ha h
  · rw [e1, e2]
    exact hm h
end
theorem key_dq {F H : Hp} {v : V} {d : D} {k : Key} (h : Pk F H v d) (e : keyOf d = some k) : v = kV k := by
  unfold keyOf at e
  split at e
  · cases e
    cases h
    rfl
  · cases e
    cases h
    rfl
  · cases e
theorem key_dq' {F : Hp} {v : V} {d : D} {k : Key} (h : Dq F v d) (e : keyOf d = some k) : v = kV k := by
  unfold keyOf at e
  split at e
  · cases e
    cases h
    rfl
  · cases e
    cases h
    rfl
  · cases e
theorem keys_dq {F : Hp} : ∀ {ds : List D} {vs : List V} {ks : List Key}, DqAll F vs ds → keysOf ds = some ks → vs = ks.map kV
  | _, _, ks, .nil, e => by
    cases e
    rfl
  | d :: ds, v :: vs, ks, .cons a t, e => by
    have e' : (match keyOf d with
      | some k => match keysOf ds with
        | some ks => some (k :: ks)
        | none => none
      | none => none) = some ks := e
    split at e'
    · rename_i k hk
      split at e'
      · rename_i ks' hks
        cases e'
        rw [List.map_cons, key_dq' a hk, keys_dq t hks]
      · cases e'
    · cases e'
theorem tkey_dq {F H : Hp} {v : V} {d : D} {k : List Key} (sm : Same F H) (h : Pk F H v d) (e : tkeyOf d = some k) : ∃ b, v = .ref b ∧ H b = some (.tup (k.map kV)) := by
  unfold tkeyOf at e
  split at e
  · cases h with
    | tup a b => exact ⟨_, rfl, by rw [← keys_dq b e]; exact sm _ _ a⟩
  · cases e

/-! ## in -/
def anyE (x : D) : List D → Bool
  | [] => false
  | y :: ys => if deqF 61 y x = true then true else anyE x ys
def memN (c : Nat) : List Nat → Bool
  | [] => false
  | a :: r => if Nat.beq a c = true then true else memN c r
theorem anyE_eq {x : D} (h : x.depth ≤ 60) : ∀ ys : List D, anyE x ys = ys.any fun y => PyData.eqv y x
  | [] => rfl
  | y :: ys => by
    unfold anyE
    rw [List.any_cons, ← anyE_eq h ys, deqF_eq 61 y x (by omega)]
    cases PyData.eqv y x <;> simp
theorem memN_eq (c : Nat) : ∀ xs : List Nat, memN c xs = decide (c ∈ xs)
  | [] => rfl
  | a :: r => by
    unfold memN
    rw [memN_eq c r]
    by_cases h : c = a
    · subst h
      rw [Nat.beq_refl]
      simp
    · have : Nat.beq a c = false := by
        cases e : Nat.beq a c with
        | false => rfl
        | true => exact absurd (Nat.eq_of_beq_eq_true e).symm h
      rw [this]
      simp [h]
def hasB : PV → PV → Option Bool
  | .d x, .d (.list ys) => if shal 60 x = true then some (anyE x ys) else none
  | .d x, .d (.tuple ys) => if shal 60 x = true then some (anyE x ys) else none
  | .d (.str x), .d (.str y) => match x.cps.toList with
    | [c] => some (memN c y.cps.toList)
    | _ => none
  | .d x, .k kvs => match keyOf x with
    | some k => some (kget keq k kvs).isSome
    | none => none
  | .d x, .t kvs => match tkeyOf x with
    | some k => some (kget keqs k kvs).isSome
    | none => none
  | _, _ => none
def hIn (x y : PV) : Option SV := match hasB x y with
  | some b => some (.d (.bool b))
  | none => none
def hNotIn (x y : PV) : Option SV := match hasB x y with
  | some b => some (.d (.bool (!b)))
  | none => none
def rHas (neg : Bool) : R2 := fun x y H Q =>
  (∃ F d xs, Same F H ∧ Pk F H x d ∧ (Pk F H y (.list xs) ∨ Pk F H y (.tuple xs)) ∧ d.depth ≤ 60 ∧ Q (.bl (xor neg (xs.any fun z => PyData.eqv z d))) H) ∨
  (∃ (c : Nat) (z : Str), x = .str ⟨#[c]⟩ ∧ y = .str z ∧ Q (.bl (xor neg (decide (c ∈ z.cps.toList)))) H) ∨
  ∃ a o, y = .ref a ∧ DGet H a x o ∧ Q (.bl (xor neg o.isSome)) H
theorem depthAll_mem_le {xs : List D} {d : D} : min (PyData.depthAll xs) d.depth ≤ d.depth := Nat.min_le_right _ _
section
variable {X : Cx} {K : PySem.W.Frag}
theorem op_In (hu : X.A.units + 64 < cLine) : OpR X (compareOp .In) (rHas false) := fun pins s σ H x y v u Q I rx ry h => by
  rcases h with ⟨F, d, xs, sm, hx, hy, hd, q⟩ | ⟨c, z, ex, ey, q⟩ | ⟨a, o, ey, g, q⟩
  · obtain ⟨⟨as, r1⟩, p1⟩ := pk_reads I sm hx rx
    have hm : min (PyData.depthAll xs) d.depth ≤ d.depth := depthAll_mem_le
    rw [Bool.false_xor] at q
    rcases hy with hy | hy
    · obtain ⟨⟨bs, r2⟩, p2⟩ := pk_reads I sm hy ry
      rw [PyData.plain] at p2
      exact SeqAt.in_list_data r2 r1 p2 p1 (by omega) ⟨.bl _, H, I, rfl, q⟩
    · obtain ⟨⟨bs, r2⟩, p2⟩ := pk_reads I sm hy ry
      rw [PyData.plain] at p2
      exact SeqAt.in_tuple_data r2 r1 p2 p1 (by omega) ⟨.bl _, H, I, rfl, q⟩
  · rw [Bool.false_xor] at q
    exact op_in_sign pins s σ H x y v u Q I rx ry ⟨c, z, ex, ey, q⟩
  · subst ey
    obtain rfl : u = Value.ref a := ry
    rw [Bool.false_xor] at q
    exact d_in (by omega) I g rx fun s3 I3 => ⟨.bl o.isSome, H, I3, rfl, q⟩
theorem op_NotIn (hu : X.A.units + 64 < cLine) : OpR X (compareOp .NotIn) (rHas true) := fun pins s σ H x y v u Q I rx ry h => by
  rcases h with ⟨F, d, xs, sm, hx, hy, hd, q⟩ | ⟨c, z, ex, ey, q⟩ | ⟨a, o, ey, g, q⟩
  · obtain ⟨⟨as, r1⟩, p1⟩ := pk_reads I sm hx rx
    have hm : min (PyData.depthAll xs) d.depth ≤ d.depth := depthAll_mem_le
    rw [Bool.true_xor] at q
    rcases hy with hy | hy
    · obtain ⟨⟨bs, r2⟩, p2⟩ := pk_reads I sm hy ry
      rw [PyData.plain] at p2
      exact SeqAt.notIn_list_data r2 r1 p2 p1 (by omega) ⟨.bl _, H, I, rfl, q⟩
    · obtain ⟨⟨bs, r2⟩, p2⟩ := pk_reads I sm hy ry
      rw [PyData.plain] at p2
      exact SeqAt.notIn_tuple_data r2 r1 p2 p1 (by omega) ⟨.bl _, H, I, rfl, q⟩
  · rw [Bool.true_xor] at q
    exact op_notIn_sign pins s σ H x y v u Q I rx ry ⟨c, z, ex, ey, q⟩
  · subst ey
    obtain rfl : u = Value.ref a := ry
    rw [Bool.true_xor] at q
    exact d_notIn (by omega) I g rx fun s3 I3 => ⟨.bl _, H, I3, rfl, q⟩
theorem has_ok {F H : Hp} {v u : V} {a b : PV} {k : Bool} {neg : Bool} {Q : VK} (sm : Same F H) (ha : PkX K F H v a) (hb : PkX K F H u b) (e : hasB a b = some k) (q : Q (.bl (xor neg k)) H) : rHas neg v u H Q := by
  unfold hasB at e
  split at e
  · split at e
    · rename_i h
      cases e
      have h := shal_ok h
      rw [anyE_eq h] at q
      exact .inl ⟨F, _, _, sm, ha, .inl hb, h, q⟩
    · cases e
  · split at e
    · rename_i h
      cases e
      have h := shal_ok h
      rw [anyE_eq h] at q
      exact .inl ⟨F, _, _, sm, ha, .inr hb, h, q⟩
    · cases e
  · rename_i x y
    split at e
    · rename_i c hc
      cases e
      have ha : Pk F H v _ := ha
      have hb : Pk F H u _ := hb
      cases ha
      cases hb
      rw [memN_eq] at q
      refine .inr (.inl ⟨c, y, ?_, rfl, q⟩)
      congr 1
      cases x
      congr 1
      exact Array.ext' hc
    · cases e
  · rename_i x kvs
    split at e
    · rename_i kk hk
      cases e
      obtain ⟨ad, ks, rfl, h1, h2⟩ := hb
      have g := DGet.k (k := kk) h1
      rw [← key_dq ha hk] at g
      refine .inr (.inr ⟨ad, _, rfl, g, ?_⟩)
      rcases kget_val keq_eq (k := kk) h2 with ⟨e1, e2⟩ | ⟨w, d, e1, e2, _⟩
      · rw [e1]
        rw [e2] at q
        exact q
      · rw [e1]
        rw [e2] at q
        exact q
    · cases e
  · rename_i x kvs
    split at e
    · rename_i kk hk
      cases e
      obtain ⟨ad, ks, rfl, h1, h2⟩ := hb
      obtain ⟨b, rfl, hbb⟩ := tkey_dq sm ha hk
      refine .inr (.inr ⟨ad, _, rfl, DGet.t (k := kk) h1 hbb, ?_⟩)
      rcases kget_val keqs_eq (k := kk) h2 with ⟨e1, e2⟩ | ⟨w, d, e1, e2, _⟩
      · rw [e1]
        rw [e2] at q
        exact q
      · rw [e1]
        rw [e2] at q
        exact q
    · cases e
  · cases e
theorem ru_in : RuleX K (rHas false) hIn := fun F H v u a b s Q sm ha hb e k => by
  unfold hIn at e
  split at e
  · rename_i b eb
    cases e
    exact has_ok (neg := false) sm ha hb eb (by rw [Bool.false_xor]; exact k F H _ (Br.refl sm) (.bl _))
  · cases e
theorem ru_notin : RuleX K (rHas true) hNotIn := fun F H v u a b s Q sm ha hb e k => by
  unfold hNotIn at e
  split at e
  · rename_i b eb
    cases e
    exact has_ok (neg := true) sm ha hb eb (by rw [Bool.true_xor]; exact k F H _ (Br.refl sm) (.bl _))
  · cases e
end

/-! ## places -/
def nth {α : Type} : List α → Nat → Option α
  | [], _ => none
  | a :: _, 0 => some a
  | _ :: r, n + 1 => nth r n
def atD {α : Type} (xs : List α) (i : Int) : Option α := match i with
  | .ofNat n => nth xs n
  | .negSucc n => if Nat.blt n xs.length = true then nth xs (xs.length - (n + 1)) else none
theorem nth_eq {α : Type} : ∀ (xs : List α) (n : Nat), nth xs n = xs[n]?
  | [], n => by rw [List.getElem?_nil]; rfl
  | a :: r, 0 => rfl
  | a :: r, n + 1 => by
    show nth r n = _
    rw [nth_eq r n]
    rfl
theorem atD_some {α : Type} {xs : List α} {i : Int} {x : α} (h : atD xs i = some x) : ∃ (j : Nat), ixN xs.length i = some j ∧ xs[j]? = some x := by
  unfold atD at h
  split at h
  · rename_i n
    rw [nth_eq] at h
    have hn := (List.getElem?_eq_some_iff.mp h).1
    refine ⟨n, ?_, h⟩
    unfold ixN
    have h0 : (0 : Int) ≤ Int.ofNat n := Int.natCast_nonneg _
    have h1 : Int.ofNat n < (xs.length : Int) := Int.ofNat_lt.mpr hn
    rw [if_pos h0, if_pos h1]
    rfl
  · rename_i n
    split at h
    · rename_i hl
      have hl : n < xs.length := Nat.le_of_ble_eq_true hl
      rw [nth_eq] at h
      refine ⟨_, ?_, h⟩
      unfold ixN
      rw [if_neg (by omega), if_pos (by omega)]
      congr 1
      omega
    · cases h
theorem atI_of {α β : Type} {xs : List α} {i : Int} {x : α} {vs : List β} (hl : vs.length = xs.length) (h : atD xs i = some x) : ∃ (j : Nat) (y : β), xs[j]? = some x ∧ vs[j]? = some y ∧ atI vs i = some y := by
  obtain ⟨j, h1, h2⟩ := atD_some h
  have hj := (List.getElem?_eq_some_iff.mp h2).1
  have hv : ∃ y, vs[j]? = some y := ⟨vs[j]'(by omega), List.getElem?_eq_getElem _⟩
  obtain ⟨y, hy⟩ := hv
  refine ⟨j, y, h2, hy, ?_⟩
  unfold atI
  rw [hl, h1]
  exact hy
def hIx : PV → PV → Option SV
  | .d (.list xs), .d (.int i) => match atD xs i with
    | some d => some (.d d)
    | none => none
  | .d (.tuple xs), .d (.int i) => match atD xs i with
    | some d => some (.d d)
    | none => none
  | .d (.str x), .d (.int i) => if szOk x.cps.size = true then match atD x.cps.toList i with
      | some c => some (.d (.str ⟨#[c]⟩))
      | none => none
    else none
  | .z xs, .d (.int i) => match atD xs i with
    | some d => some (.d d)
    | none => none
  | .k kvs, .d x => match keyOf x with
    | some k => match kget keq k kvs with
      | some d => some (.d d)
      | none => none
    | none => none
  | .t kvs, .d x => match tkeyOf x with
    | some k => match kget keqs k kvs with
      | some d => some (.d d)
      | none => none
    | none => none
  | _, _ => none
def rIxD : R2 := fun x y H Q => ∃ a v, x = .ref a ∧ DGet H a y (some v) ∧ Q v H
abbrev rIxA (K : PySem.W.Frag) : R2 := fun x y H Q => rIx K x y H Q ∨ rIxD x y H Q
section
variable {X : Cx} {K : PySem.W.Frag}
theorem ix_dict (hu : X.A.units + 1 < cLine) : IxR X rIxD := fun value slice pins s σ H x y v u Q I rx ry ⟨a, w, ex, g, q⟩ hs => by
  subst ex
  obtain rfl : v = Value.ref a := rx
  have hT := dict_typeIs I g
  unfold subscriptTail
  refine wpAny_bind ?_
  rw [getitemInPython_of_ne hT.not_modules]
  refine wpAny_bind (wpAny_specialOf hT PySem.F.slot_dict_getitem.lookup ?_)
  have h₂ : wpAny (model X.prog X.w) X.A (getItem (.ref a) u) (EP X pins σ Q) X.xe s := d_getItem hu I g ry fun w' s' I' r' => ⟨w, H, I', r', q⟩
  have fin : wpAny (model X.prog X.w) X.A (subscripted slice false (.ref a) u) (fun r s₃ => wpAny (model X.prog X.w) X.A (letTemporaryGo value (.ref a) r >>= fun _ => pure r) (EP X pins σ Q) X.xe s₃) X.xe s := by
    rw [hs]
    exact wpAny_operating (wpAny_mono h₂ (fun r s₃ h₃ => wpAny_bind (wpAny_letTemporaryGo (wpAny_pure h₃))) fun _ _ x => x)
  first
    | exact wpAny_pure (wpAny_bind fin)
    | exact wpAny_bind (wpAny_pure (wpAny_bind fin))
    | exact wpAny_bind fin
theorem ix_any (hu : X.A.units + 64 < cLine) : IxR X (rIxA X.K) := ix_seq.or (ix_dict (by omega))
theorem ru_ix : RuleX K (rIxA K) hIx := fun F H v u a b s Q sm ha hb e k => by
  unfold hIx at e
  split at e
  · split at e
    · rename_i d hd
      cases e
      have ha : Pk F H v _ := ha
      cases ha with
      | @lst aa vs _ a1 a2 =>
        obtain ⟨j, y, h1, h2, h3⟩ := atI_of a2.length hd
        obtain ⟨d', h4, h5⟩ := a2.getV h2
        rw [h1] at h4
        cases h4
        exact .inl (.inl ⟨aa, vs, _, y, rfl, pk_int hb, SqL.of a1, h3, k F H _ (Br.refl sm) h5⟩)
    · cases e
  · split at e
    · rename_i d hd
      cases e
      have ha : Pk F H v _ := ha
      cases ha with
      | @tup aa vs _ a1 a2 =>
        obtain ⟨j, y, h1, h2, h3⟩ := atI_of a2.length hd
        obtain ⟨d', h4, h5⟩ := a2.getV h2
        rw [h1] at h4
        cases h4
        exact .inl (.inr (.inl ⟨aa, vs, _, y, rfl, pk_int hb, SqT.of (sm _ _ a1), h3, k F H _ (Br.refl sm) h5⟩))
    · cases e
  · split at e
    · rename_i hz
      split at e
      · rename_i c hc
        cases e
        have ha : Pk F H v _ := ha
        cases ha
        obtain ⟨j, y, h1, h2, h3⟩ := atI_of rfl hc
        rw [h1] at h2
        cases h2
        exact .inl (.inr (.inr ⟨_, _, c, rfl, pk_int hb, szOk_le hz, h3, k F H _ (Br.refl sm) (.str _)⟩))
      · cases e
    · cases e
  · split at e
    · rename_i d hd
      cases e
      obtain ⟨aa, vs, rfl, a1, a2⟩ := ha
      obtain ⟨j, y, h1, h2, h3⟩ := atI_of a2.length hd
      obtain ⟨d', h4, h5⟩ := a2.getV h2
      rw [h1] at h4
      cases h4
      exact .inl (.inl ⟨aa, vs, _, y, rfl, pk_int hb, a1, h3, k F H _ (Br.refl sm) h5⟩)
    · cases e
  · split at e
    · rename_i kk hk
      split at e
      · rename_i d hd
        cases e
        obtain ⟨ad, ks, rfl, h1, h2⟩ := ha
        have g := DGet.k (k := kk) h1
        rw [← key_dq hb hk] at g
        rcases kget_val keq_eq (k := kk) h2 with ⟨e1, e2⟩ | ⟨w, d', e1, e2, hw⟩
        · rw [hd] at e2
          cases e2
        · rw [hd] at e2
          cases e2
          rw [e1] at g
          exact .inr ⟨ad, w, rfl, g, k F H _ (Br.refl sm) hw⟩
      · cases e
    · cases e
  · split at e
    · rename_i kk hk
      split at e
      · rename_i d hd
        cases e
        obtain ⟨ad, ks, rfl, h1, h2⟩ := ha
        obtain ⟨b, rfl, hbb⟩ := tkey_dq sm hb hk
        have g := DGet.t (k := kk) h1 hbb
        rcases kget_val keqs_eq (k := kk) h2 with ⟨e1, e2⟩ | ⟨w, d', e1, e2, hw⟩
        · rw [hd] at e2
          cases e2
        · rw [hd] at e2
          cases e2
          rw [e1] at g
          exact .inr ⟨ad, w, rfl, g, k F H _ (Br.refl sm) hw⟩
      · cases e
    · cases e
  · cases e
end

/-! ## slices -/
def sIxD (n d : Nat) : Option Int → Nat
  | none => d
  | some (.ofNat k) => if Nat.ble k n = true then k else n
  | some (.negSucc k) => n - (k + 1)
theorem sIxD_eq (n d : Nat) : ∀ o, sIxD n d o = HT.sIx n d o
  | none => rfl
  | some (.ofNat k) => by
    show (if Nat.ble k n = true then k else n) = if Int.ofNat k < 0 then (Int.ofNat k + (n : Int)).toNat else min (Int.ofNat k).toNat n
    have h : ¬ Int.ofNat k < 0 := by
      have : (0 : Int) ≤ Int.ofNat k := Int.natCast_nonneg _
      omega
    rw [if_neg h]
    show _ = min k n
    split
    · rename_i h
      have := Nat.le_of_ble_eq_true h
      omega
    · rename_i h
      have : ¬ k ≤ n := fun z => h (Nat.ble_eq_true_of_le z)
      omega
  | some (.negSucc k) => by
    show n - (k + 1) = if Int.negSucc k < 0 then (Int.negSucc k + (n : Int)).toNat else min (Int.negSucc k).toNat n
    rw [if_pos (by omega)]
    omega
def cutD {α : Type} (xs : List α) (lo hi : Option Int) : List α := (xs.drop (sIxD xs.length 0 lo)).take (sIxD xs.length xs.length hi - sIxD xs.length 0 lo)
theorem DqAll.cut {F : Hp} {ds : List D} {vs : List V} (h : DqAll F vs ds) (lo hi : Option Int) : DqAll F (cutV vs lo hi) (cutD ds lo hi) := by
  unfold cutV cutD
  rw [sIxD_eq, sIxD_eq, h.length]
  exact DqAll.take _ (DqAll.drop _ h)
theorem cutD_whole {α : Type} {xs : List α} {lo hi : Option Int} (h : HT.sIx xs.length 0 lo = 0 ∧ HT.sIx xs.length xs.length hi = xs.length) : cutD xs lo hi = xs := by
  unfold cutD
  rw [sIxD_eq, sIxD_eq, h.1, h.2]
  simp
def hSl (a : PV) (lo hi : Option Int) : Option SV := match a with
  | .d (.list xs) => some (.c .own (.l (cutD xs lo hi)))
  | .z xs => some (.c .own (.l (cutD xs lo hi)))
  | .d (.tuple xs) => some (.d (.tuple (cutD xs lo hi)))
  | _ => none
abbrev FO := Env → R (Option Int)
def tO (G : Gd) (f : FO) : TO := fun σ H Q => ∃ F ρ, Rel G.K G.s0 F H σ ρ ∧ PE' G σ ρ F H (f ρ) fun o _ _ H' => Q o H'
def oNo : FO := fun ρ => .ok none ρ
def asI (x : XV) (ρ : Env) : R (Option Int) := match x with
  | .v (.d (.int i)) => .ok (some i) ρ
  | _ => .bad
def oPt (f : FE) : FO := fun ρ => (f ρ).bind asI
def onSl (x : XV) (lo hi : Option Int) (ρ : Env) : R XV := match pkX ρ x with
  | some a => match hSl a lo hi with
    | some s => .ok (.v s) ρ
    | none => .bad
  | none => .bad
def fSl (f : FE) (lo hi : FO) : FE := fun ρ => (f ρ).bind fun x ρ1 => (lo ρ1).bind fun l ρ2 => (hi ρ2).bind fun u ρ3 => onSl x l u ρ3
section
variable {X : Cx} {G : Gd} {e e' : Expr} {f g : FE} {lo hi : FO} {l u : Option Expr} {pos p2 : Pos}
theorem o_no : PO X none (tO G oNo) := ⟨fun pins s σ H Q I ⟨F, ρ, rl, p⟩ => po_none.run pins s σ H Q I (p.here rl)⟩
theorem o_pt (h : PE X e (tE G f)) : PO X (some e) (tO G (oPt f)) := ⟨fun pins s σ H Q I ⟨F, ρ, rl, p⟩ => (po_some h).run pins s σ H Q I ⟨F, ρ, rl, p.seq.mono fun x ρ1 F1 H1 _ _ _ ⟨rl1, e1, p1⟩ v hv _ => by
  unfold asI at p1
  split at p1
  · have hv : Dq F1 v (.int _) := hv
    cases hv
    exact ⟨_, rfl, p1.here rl1⟩
  · exact p1.elim⟩⟩
theorem c_slice (hK : G.K = X.K) (he : PE X e (tE G f)) (hl : PO X l (tO G lo)) (hu : PO X u (tO G hi)) : PE X (.Subscript e (.Slice l u none p2) pos) (tE G (fSl f lo hi)) :=
  PE.of (pe_slice (sl_list.or sl_tupA) he hl hu) fun σ H Q ⟨F, ρ, rl, p⟩ => by
    refine ⟨F, ρ, rl, p.seq.mono fun x ρ1 F1 H1 _ _ _ ⟨rl1, e1, p1⟩ v hv _ => ⟨F1, ρ1, rl1, p1.seq.mono fun a ρ2 F2 H2 _ _ _ ⟨rl2, e2, p2⟩ => ⟨F2, ρ2, rl2, p2.seq.mono fun b ρ3 F3 H3 _ _ _ ⟨rl3, e3, p3⟩ => ?_⟩⟩⟩
    have hv3 := (hv.keep e2).keep e3
    have e13 := e1.trans (e2.trans e3)
    have sm := rl3.sub
    unfold onSl at p3
    split at p3
    · rename_i pv epv
      have hp := pkX_ok rl3 hv3 epv
      split at p3
      · rename_i s es
        have fin : ∀ F' H' w, Br F3 H3 F' H' → NewV G.K H3 F' H' w s → Q w H' := fun F' H' w br nv => p3 F' H' (rl3.br br) br.ext w (nv.rep rl3) (nv.fr.back e13)
        rw [hK] at fin hp
        unfold hSl at es
        split at es
        · cases es
          have hp : Pk F3 H3 v _ := hp
          cases hp with
          | lst a1 a2 => exact .inl ⟨_, _, rfl, SqL.of a1, fun q np => fin _ _ _ (Br.own sm np) (new_lst sm np (a2.cut a b))⟩
        · cases es
          obtain ⟨aa, vs, rfl, a1, a2⟩ := hp
          exact .inl ⟨aa, vs, rfl, a1, fun q np => fin _ _ _ (Br.own sm np) (new_lst sm np (a2.cut a b))⟩
        · cases es
          have hp : Pk F3 H3 v _ := hp
          cases hp with
          | tup a1 a2 =>
            refine .inr ⟨_, _, rfl, SqT.of (sm _ _ a1), fun z => ?_, fun _ q np => fin _ _ _ (Br.frz sm np) (new_tup sm np (a2.cut a b))⟩
            rw [a2.length] at z
            rw [cutD_whole z] at fin
            exact fin F3 H3 _ (Br.refl sm) (.tup a1 a2)
        · cases es
      · exact p3.elim
    · exact p3.elim
end
end Pv
set_option Elab.async false
set_option linter.all false
set_option maxRecDepth 100000
set_option maxHeartbeats 1000000
namespace Pv
open PySem PySem.Spec PyProof.Rows L2

/-! ## a set that is given its members one by one -/
abbrev set0 (w : World) : Obj := { cls := .type "set", dict := none, data := .set #[] 0 (.fresh 0 0 (!w.params.followText "set-order")) }
/-- Z i: what stands at S behind the first i items -/
structure Feed (P : Program) (w : World) (S : Addr) (h0 : Heap) (items : Array Value) (Z : Nat → Heap → Prop) : Prop where
  z0 : ∀ h, (∀ b o, h0.get? b = some o → h.get? b = some o) → h.get? S = some (set0 w) → Z 0 h
  keep : ∀ i h h', Z i h → (∀ b o, h0.get? b = some o → h'.get? b = some o) → (∀ o, h.get? S = some o → h'.get? S = some o) → Z i h'
  add : ∀ (A : Around) i v (s : Shared) (Q : Bool → Shared → Prop) (E : Value → Shared → Prop), A.units + 20 < cLine → items[i]? = some v → (∀ b o, h0.get? b = some o → s.heap.get? b = some o) → Z i s.heap →
    (∀ b h' tk, s.toks ≤ tk → Heap.SameBut S s.heap h' → Z (i + 1) h' → Q b { s with heap := h', toks := tk }) → wpAny (model P w) A (setAdd S v) Q E s
section
variable {P : Program} {w : World} {A : Around} {E : Value → Shared → Prop} {s : Shared}
theorem feed_loop {S I : Addr} {h0 : Heap} {items : Array Value} {Z : Nat → Heap → Prop} (Fd : Feed P w S h0 items Z) {fp wr : List Addr} {G : Array GenState → Array GenState → Prop} {St : Nat → Shared → Prop} {R : Result → Shared → Prop}
    (W : WalksS P w A.in1 I fp wr G items.size (fun i v => items[i]? = some v) St) (hSf : S ∉ fp) (hS0 : h0.get? S = none) (hw0 : ∀ b ∈ wr, h0.get? b = none) (hu : A.in1.units + 20 < cLine) :
    ∀ (k i : Nat) (s : Shared), items.size - i = k → i ≤ items.size → St i s → (∀ b o, h0.get? b = some o → s.heap.get? b = some o) → Z i s.heap →
      (∀ s', Moved (S :: wr) G s s' → Z items.size s'.heap → (∀ b o, h0.get? b = some o → s'.heap.get? b = some o) → R (.ok (.ret .none)) s') →
      codeAny (model P w) A (.builtin "set.update.loop" ⟨[.ref S, .ref I], []⟩) R s := by
  have hSw : S ∉ wr := fun h => hSf (W.sub _ h)
  have keepM : ∀ {s s' : Shared}, Moved wr G s s' → (∀ b o, h0.get? b = some o → s.heap.get? b = some o) → ∀ b o, h0.get? b = some o → s'.heap.get? b = some o := fun hm hkp b o e =>
    hm.heap b o (fun hb => by rw [hw0 b hb] at e; cases e) (hkp b o e)
  have subW : ∀ b ∈ wr, b ∈ S :: wr := fun b hb => List.mem_cons_of_mem _ hb
  intro k
  induction k with
  | zero =>
    intro i s hk hi hst hkp hz hR
    have hin : i = items.size := by omega
    subst hin
    refine codeAny_builtin F.entry_set_update_loop ?_
    rw [Around.under_plainId F.plain_set_update_loop _]
    show wpAny _ A.in1 (pyNext (.ref I) >>= _) _ _ s
    refine wpAny_bind (W.done s _ _ hst fun s' hm => ?_)
    have hkp' := keepM hm hkp
    show wpAny _ A.in1 (ret Value.none) _ _ s'
    exact wpAny_pure (hR s' (hm.mono subW) (Fd.keep _ _ _ hz hkp' fun o e => hm.heap S o hSw e) hkp')
  | succ k ih =>
    intro i s hk hi hst hkp hz hR
    have hlt : i < items.size := by omega
    refine codeAny_builtin F.entry_set_update_loop ?_
    rw [Around.under_plainId F.plain_set_update_loop _]
    show wpAny _ A.in1 (pyNext (.ref I) >>= _) _ _ s
    refine wpAny_bind (W.item i s _ _ hlt hst fun v s' hv hst' hm => ?_)
    have hkp' := keepM hm hkp
    have hz' := Fd.keep _ _ _ hz hkp' fun o e => hm.heap S o hSw e
    show wpAny _ A.in1 (holding [v] (setAdd S v) >>= _) _ _ s'
    refine wpAny_bind (wpAny_holding (Fd.add A.in1 i v s' _ _ hu hv hkp' hz' fun b h' tk htk sb hz2 => ?_))
    have hkp2 : ∀ b o, h0.get? b = some o → h'.get? b = some o := fun b o e => (sb.2 b (fun z => by rw [z, hS0] at e; cases e)).trans (hkp' b o e)
    refine wpAny_pure ⟨plainId_quiet F.plain_set_update_loop _, ih (i + 1) _ (by omega) hlt (W.frame _ s' _ _ hst' htk fun b hb o e => ?_) hkp2 hz2 fun s'' hm'' hz'' hkp'' => ?_⟩
    · rw [sb.2 b (fun h : b = S => hSf (by rw [← h]; exact hb))]
      exact e
    · refine hR s'' (Moved.trans W.gtrans ((hm.mono subW).then_heap htk fun b o hb e => ?_) hm'') hz'' hkp''
      rw [sb.2 b (fun h : b = S => hb (by rw [h]; exact List.mem_cons_self))]
      exact e
set_option maxHeartbeats 3200000 in
/-- set(xs), xs a list or a tuple -/
theorem feed_call {k : Bool} {l : Addr} {items : Array Value} {Z : Nat → Heap → Prop} {Q : Value → Shared → Prop} (hh : A.handled = none) (hu : A.units + 30 < cLine) (hl : IsSq k s.heap l items) (Fd : Feed P w s.heap.objs.size s.heap items Z)
    (h : ∀ (h' : Heap) (tk : Nat), Z items.size h' → (∀ b o, s.heap.get? b = some o → h'.get? b = some o) → Q (.ref s.heap.objs.size) { s with heap := h', toks := tk }) :
    wpAny (model P w) A (call (.type "set") [.ref l]) Q E s := by
  obtain ⟨c, tl, hmro⟩ := F.called_set.mro
  have hmade := F.called_set.made
  have hsub := F.called_set.sub
  refine wpAny_call (codeAny_of_tree ?_)
  show wpAny _ _ (callAny (.type "set") _) _ _ _
  refine wpAny_pure ⟨Code.quiet_builtin _ (by decide +kernel), codeAny_builtin F.entry_type_call ?_⟩
  rw [Around.under_plain (weight_type_call_type "set" [.ref l] []) rfl]
  have h1 := F.called_set.notType
  have h2 := F.called_set.canCreate
  have hct := F.typeCall_set_1 (.ref l)
  have hlS : l < s.heap.objs.size := hl.lt
  have none_of : ∀ b, s.heap.objs.size ≤ b → s.heap.get? b = none := fun b hb => by
    cases q : s.heap.get? b with
    | none => rfl
    | some o => exact absurd (Nat.lt_of_lt_of_le (Heap.lt_size q) hb) (Nat.lt_irrefl _)
  have hS : (s.heap.push (set0 w)).get? s.heap.objs.size = some (set0 w) := Heap.get?_push_size _ rfl
  have hT : Shared.TypeIs { s with heap := s.heap.push (set0 w) } (.ref s.heap.objs.size) "set" := ⟨_, hS, rfl⟩
  have hli := F.called_set.init.lookup
  have hbi := F.called_set.init.bind (.ref s.heap.objs.size)
  have hz1 : (s.heap.push (set0 w)).objs.size = s.heap.objs.size + 1 := Heap.size_push ..
  -- behind the loop
  have main : ∀ {it0 : Obj} {St : Nat → Shared → Prop}, it0.isFreed = false → (∀ A' : Around, A'.handled = none → WalksS P w A' (s.heap.push (set0 w)).objs.size [(s.heap.push (set0 w)).objs.size, l] [(s.heap.push (set0 w)).objs.size] (fun a b => b = a) items.size (fun i v => items[i]? = some v) St) →
      St 0 { s with heap := (s.heap.push (set0 w)).push it0 } → (∀ A' : Around, A'.handled = none → A'.in1.units + 20 < cLine → ∀ R : Result → Shared → Prop, (∀ h' tk, Z items.size h' → (∀ b o, s.heap.get? b = some o → h'.get? b = some o) → R (.ok (.ret .none)) { s with heap := h', toks := tk }) →
        codeAny (model P w) A' (.builtin "set.update.loop" ⟨[.ref s.heap.objs.size, .ref (s.heap.push (set0 w)).objs.size], []⟩) R { s with heap := (s.heap.push (set0 w)).push it0 }) := fun {it0 St} hfr W st0 A' hh' hu' R hR => by
    have hSf : s.heap.objs.size ∉ [(s.heap.push (set0 w)).objs.size, l] := by
      rw [hz1]
      simp only [List.mem_cons, List.mem_singleton, List.not_mem_nil, or_false, not_or]
      exact ⟨Nat.ne_of_lt (Nat.lt_succ_self _), Nat.ne_of_gt hlS⟩
    have hkp : ∀ b o, s.heap.get? b = some o → ((s.heap.push (set0 w)).push it0).get? b = some o := fun b o e => Heap.get?_push_of_some _ (Heap.get?_push_of_some _ e)
    refine feed_loop Fd (W A'.in1 (hd1 hh')) hSf (none_of _ (Nat.le_refl _)) (fun b hb => none_of b (by rw [List.mem_singleton.mp hb, hz1]; exact Nat.le_succ _)) hu' (items.size - 0) 0 _ (by omega) (Nat.zero_le _) st0 hkp (Fd.z0 _ hkp (Heap.get?_push_of_some _ hS)) ?_
    intro s' hm hz hk
    obtain ⟨h', g2, d', tk', os'⟩ := s'
    have eg : g2 = s.gens := hm.gens
    have ed : d' = s.drawn := hm.drawn
    have eo : os' = s.os := hm.os
    subst eg
    subst ed
    subst eo
    exact hR h' tk' hz hk
  repeat (any_goals (first | assumption | wp_step))
  refine codeAny_mono (code_set_led1 (.ref l) (E := E) (Q₁ := fun obj s₁ => obj = .ref s.heap.objs.size ∧ s₁ = { s with heap := s.heap.push (set0 w) }) ⟨rfl, rfl⟩) fun r s₁ hr => ?_
  cases r with
  | error e => exact hr
  | ok fl =>
    cases fl with
    | ret obj =>
      obtain ⟨rfl, rfl⟩ := hr
      repeat (any_goals (first | assumption | wp_step))
      refine codeAny_mono (codeAny_call_builtin (R := wants (fun r s₂ => r = .none ∧ ∃ h' tk, s₂ = { s with heap := h', toks := tk } ∧ Z items.size h' ∧ ∀ b o, s.heap.get? b = some o → h'.get? b = some o) E) F.called_set.init.plain F.entry_set_init (check_set_init_1 hT ?_)) fun r₂ s₂ hr₂ => ?_
      · have hne1 : (Value.type "list" == Value.type "dict") = false := by decide
        have hne2 : (Value.type "tuple" == Value.type "dict") = false := by decide
        have fin : ∀ {A' : Around}, wpAny (model P w) A' (ret Value.none) (fun _ _ => True) E s → True := fun _ => trivial
        cases k with
        | false =>
          have hl1 : (s.heap.push (set0 w)).IsList l items := Heap.IsList.push hl _
          obtain ⟨⟨ocls, odict, odata, oslots⟩, hol, hcl, nl, hdl⟩ := hl
          simp only at hcl hdl
          subst hcl
          subst hdl
          have hol' : (s.heap.push (set0 w)).get? l = some { cls := .type "list", dict := odict, data := .seq items nl, slots := oslots } := Heap.get?_push_of_some _ hol
          have hsls := F.sub_list_set
          have hslf := F.sub_list_frozenset
          unfold Builtin.«set.__init__» noKeywords Builtin.Frozenset.updateFrom
          generalize hPI : pyIter = PI
          wp_walk
          subst hPI
          refine wpAny_pyIter_list hl1 ?_
          refine wpAny_bind (wpAny_runValue ?_)
          have hneI : l ≠ (s.heap.push (set0 w)).objs.size := by
            rw [hz1]
            exact Nat.ne_of_lt (Nat.lt_succ_of_lt hlS)
          refine main (it0 := { cls := .type "list_iterator", data := .fields #[.ref l, .int 0 0] }) rfl (fun A' hA' => (Walks.list hA' _ l hneI items).toS) ⟨⟨_, Heap.get?_push_size _ rfl, rfl, rfl⟩, hl1.push _⟩ _ (by simp [hh]) (by simp only [Around.in1_units]; omega) _ fun h' tk hz hk => ?_
          refine wpAny_pure ?_
          show wpAny _ _ (ret Value.none) _ _ _
          exact wpAny_pure ⟨rfl, h', tk, rfl, hz, hk⟩
        | true =>
          have hl1 : (s.heap.push (set0 w)).IsTuple l items := Heap.IsTuple.push hl _
          obtain ⟨⟨ocls, odict, odata, oslots⟩, hol, hcl, nl, hdl⟩ := hl
          simp only at hcl hdl
          subst hcl
          subst hdl
          have hol' : (s.heap.push (set0 w)).get? l = some { cls := .type "tuple", dict := odict, data := .seq items nl, slots := oslots } := Heap.get?_push_of_some _ hol
          have hsls := F.sub_tuple_set
          have hslf := F.sub_tuple_frozenset
          unfold Builtin.«set.__init__» noKeywords Builtin.Frozenset.updateFrom
          generalize hPI : pyIter = PI
          wp_walk
          subst hPI
          refine wpAny_pyIter_tuple hl1 ?_
          refine wpAny_bind (wpAny_runValue ?_)
          have hneI : l ≠ (s.heap.push (set0 w)).objs.size := by
            rw [hz1]
            exact Nat.ne_of_lt (Nat.lt_succ_of_lt hlS)
          refine main (it0 := { cls := .type "tuple_iterator", data := .fields #[.ref l, .int 0 0] }) rfl (fun A' hA' => (Walks.tuple hA' _ l hneI items).toS) ⟨⟨_, Heap.get?_push_size _ rfl, rfl, rfl⟩, hl1.push _⟩ _ (by simp [hh]) (by simp only [Around.in1_units]; omega) _ fun h' tk hz hk => ?_
          refine wpAny_pure ?_
          show wpAny _ _ (ret Value.none) _ _ _
          exact wpAny_pure ⟨rfl, h', tk, rfl, hz, hk⟩
      · cases r₂ with
        | error e => exact hr₂
        | ok fl₂ =>
          cases fl₂ with
          | ret r =>
            obtain ⟨rfl, h', tk, rfl, hz, hk⟩ := hr₂
            repeat (any_goals (first | assumption | wp_step))
            exact h _ _ hz hk
          | _ => exact hr₂.elim
    | _ => exact hr.elim
end
end Pv
set_option Elab.async false
set_option linter.all false
set_option maxRecDepth 100000
set_option maxHeartbeats 1000000
namespace Pv
open PySem PySem.Spec PyProof.Rows L2

theorem perm_lift {α β : Type} {f : α → β} {l m : List β} (h : l.Perm m) : ∀ L : List α, m = L.map f → ∃ L' : List α, L'.Perm L ∧ l = L'.map f := by
  induction h with
  | nil =>
    intro L e
    cases L with
    | nil => exact ⟨[], .refl _, rfl⟩
    | cons a r => cases e
  | @cons x l1 l2 _ ih =>
    intro L e
    cases L with
    | nil => cases e
    | cons a r =>
      rw [List.map_cons] at e
      injection e with e1 e2
      obtain ⟨L', p, e3⟩ := ih r e2
      exact ⟨a :: L', p.cons a, by rw [List.map_cons, ← e3, e1]⟩
  | @swap x y l =>
    intro L e
    cases L with
    | nil => cases e
    | cons a r =>
      cases r with
      | nil => cases e
      | cons b r =>
        rw [List.map_cons, List.map_cons] at e
        injection e with e1 e2
        injection e2 with e2 e3
        exact ⟨b :: a :: r, .swap a b r, by rw [List.map_cons, List.map_cons, ← e1, ← e2, ← e3]⟩
  | trans _ _ ih1 ih2 =>
    intro L e
    obtain ⟨L1, p1, e1⟩ := ih2 L e
    obtain ⟨L2, p2, e2⟩ := ih1 L1 e1
    exact ⟨L2, p2.trans p1, e2⟩
/-- what the first i items come to, each once -/
structure Gat {α : Type} (its : List (α × D)) (i : Nat) (L : List (α × D)) : Prop where
  sub : ∀ p ∈ L, p ∈ its
  all : ∀ d, d ∈ L.map (·.2) ↔ d ∈ (its.take i).map (·.2)
  nd : (L.map (·.2)).Nodup
  len : L.length ≤ i
theorem Gat.zero {α : Type} {its : List (α × D)} : Gat its 0 [] := ⟨fun p h => (by cases h), fun d => (by simp), List.nodup_nil, Nat.le_refl _⟩
theorem Gat.same {α : Type} {its L : List (α × D)} {i : Nat} {x : α × D} (g : Gat its i L) (h : its[i]? = some x) (hm : x.2 ∈ L.map (·.2)) : Gat its (i + 1) L := by
  refine ⟨g.sub, fun d => ?_, g.nd, Nat.le_succ_of_le g.len⟩
  rw [g.all d, take_next h, List.map_append, List.mem_append, List.map_cons, List.map_nil, List.mem_singleton]
  refine ⟨.inl, fun z => z.elim id fun e => ?_⟩
  rw [e]
  exact (g.all _).mp hm
theorem Gat.more {α : Type} {its L L' : List (α × D)} {i : Nat} {x : α × D} (g : Gat its i L) (h : its[i]? = some x) (hm : x.2 ∉ L.map (·.2)) (pm : L'.Perm (x :: L)) : Gat its (i + 1) L' := by
  have pm2 := pm.map (·.2)
  rw [List.map_cons] at pm2
  refine ⟨fun p hp => ?_, fun d => ?_, pm2.nodup_iff.mpr (List.nodup_cons.mpr ⟨hm, g.nd⟩), by rw [pm.length_eq, List.length_cons]; exact Nat.succ_le_succ g.len⟩
  · rcases List.mem_cons.mp (pm.mem_iff.mp hp) with e | hp
    · rw [e]
      exact List.mem_of_getElem? h
    · exact g.sub p hp
  · rw [pm2.mem_iff, List.mem_cons, g.all d, take_next h, List.map_append, List.mem_append, List.map_cons, List.map_nil, List.mem_singleton]
    exact Or.comm
/-- the set at S: its members, each with its datum; its table can be walked -/
def SetD (w : World) (S : Addr) (hash : D → Int) (L : List (Value × D)) (h : Heap) : Prop := ∃ o es ep t, h.get? S = some o ∧ o.ExactSet ∧ o.data = .set es ep t ∧ es.toList = L.map (fun p => (hash p.2, p.1)) ∧ es.size < scanBound ∧ t.fits es.size = true ∧ Ris t.place.toList ∧
  (w.params.followText "set-order" = true ∨ t.led = true)
def Zs (w : World) (S : Addr) (hash : D → Int) (its : List (Value × D)) (i : Nat) (h : Heap) : Prop := ∃ L, SetD w S hash L h ∧ Gat its i L
theorem SetD.keep {w : World} {S : Addr} {hash : D → Int} {L : List (Value × D)} {h h' : Heap} (R : SetD w S hash L h) (k : ∀ o, h.get? S = some o → h'.get? S = some o) : SetD w S hash L h' := by
  obtain ⟨o, es, ep, t, ho, r⟩ := R
  exact ⟨o, es, ep, t, k o ho, r⟩
theorem SetD.fresh {w : World} {S : Addr} {hash : D → Int} {h : Heap} (ho : h.get? S = some (set0 w)) : SetD w S hash [] h :=
  ⟨_, #[], 0, _, ho, ⟨rfl, rfl, rfl⟩, rfl, rfl, by decide, by rfl, List.Pairwise.nil, by
    show _ ∨ (!w.params.followText "set-order") = true
    cases w.params.followText "set-order"
    · exact .inr rfl
    · exact .inl rfl⟩

/-! ### ints and texts: by scan -/
def kT (d : D) : Key := match keyOf d with
  | some k => k
  | none => .inl 0
theorem keyOf_inj {a b : D} (ha : (keyOf a).isSome = true) (hb : (keyOf b).isSome = true) (e : kT a = kT b) : a = b := by
  unfold kT at e
  cases a <;> cases b <;> first
    | (cases ha; done)
    | (cases hb; done)
    | (simp only [keyOf] at e; cases e; rfl)
    | (simp only [keyOf] at e; cases e)
    | (simp [keyOf] at ha; done)
    | (simp [keyOf] at hb; done)
section
variable {P : Program} {w : World} {A : Around} {E : Value → Shared → Prop} {s : Shared}
theorem addTail {hash : D → Int} {S : Addr} {L1 : List (Value × D)} {g : Bool → Sem Unit} (hg : ∀ (b : Bool) (s₁ : Shared) (Q' : Unit → Shared → Prop), Q' () s₁ → wpAny (model P w) A (g b) Q' E s₁)
    {o : Obj} {es : Array (Int × Value)} {ep : Nat} {t : SetTable} (ho : s.heap.get? S = some o) (hex : o.ExactSet) (hd : o.data = .set es ep t) {es1 : Array (Int × Value)} {t2 : SetTable} (hr : es1.toList = L1.map (fun p => (hash p.2, p.1)))
    (hb1 : es1.size < scanBound) (hf2 : t2.fits es1.size = true) (hris : Ris t2.place.toList) (hl : w.params.followText "set-order" = true ∨ t2.led = true) {wasDummy : Bool} {R : Option Bool → Shared → Prop}
    (hR : ∀ h' L2, Heap.SameBut S s.heap h' → L2.Perm L1 → SetD w S hash L2 h' → R (some true) { s with heap := h' }) :
    wpAny (model P w) A (do
        storeSet S es1 t2
        if (!wasDummy && t2.tooFull) = true then do
            g (relayAll t2 es1 (SetTable.grown es1.size)).2.2
            storeSet S (relayAll t2 es1 (SetTable.grown es1.size)).1 (relayAll t2 es1 (SetTable.grown es1.size)).2.1
            pure (some true)
          else pure (some true)) R E s := by
  refine wpAny_bind (wpAny_storeSet_of ho hd ?_ (fits_of_scanBound hb1))
  have ho1 := store_at (es' := es1) (t' := t2) ho hd
  have sb1 := Heap.SameBut.update s.heap S (Obj.putSet es1 t2)
  split
  · have pm := relayAll_perm t2 es1 (SetTable.grown es1.size)
    have f3 := relayAll_fits t2 es1 (SetTable.grown es1.size)
    have r3 := relayAll_ris t2 es1 (SetTable.grown es1.size)
    have l3 := relayAll_led t2 es1 (SetTable.grown es1.size)
    generalize relayAll t2 es1 (SetTable.grown es1.size) = Z at pm f3 r3 l3 ⊢
    obtain ⟨es2, t3, gave⟩ := Z
    dsimp only at pm f3 r3 l3 ⊢
    have hb2 : es2.size < scanBound := by
      rw [← Array.length_toList, pm.length_eq, Array.length_toList]
      exact hb1
    obtain ⟨L2, pL, eL⟩ := perm_lift pm L1 hr
    refine wpAny_bind (hg _ _ _ ?_)
    refine wpAny_bind (wpAny_storeSet_of ho1 rfl ?_ (fits_of_scanBound hb2))
    have ho2 := store_at (es' := es2) (t' := t3) ho1 rfl
    exact wpAny_pure (hR _ L2 (sb1.trans (Heap.SameBut.update _ S _)) pL ⟨_, es2, _, t3, ho2, hex, rfl, eL, hb2, f3, r3, hl.imp id fun z => by rw [l3]; exact z⟩)
  · exact wpAny_pure (hR _ L1 sb1 (.refl _) ⟨_, es1, _, t2, ho1, hex, rfl, hr, hb1, hf2, hris, hl⟩)
theorem add_scan {S : Addr} {L : List (Value × D)} {x : Value} {d : D} {Q : Bool → Shared → Prop} (R : SetD w S (fun d => keyH w (kT d)) L s.heap) (hk : (mixKind P w).is (kT d) x = true) (hx : x.scannable = true) (hL : ∀ p ∈ L, (mixKind P w).is (kT p.2) p.1 = true ∧ p.1.scannable = true)
    (hinj : ∀ p ∈ L, kT p.2 = kT d → p.2 = d) (room : L.length + 1 < scanBound)
    (h1 : d ∈ L.map (·.2) → ∀ h', Heap.SameBut S s.heap h' → SetD w S (fun d => keyH w (kT d)) L h' → Q false { s with heap := h' })
    (h2 : d ∉ L.map (·.2) → ∀ h' L', Heap.SameBut S s.heap h' → L'.Perm ((x, d) :: L) → SetD w S (fun d => keyH w (kT d)) L' h' → Q true { s with heap := h' }) :
    wpAny (model P w) A (setAddHashed S x (keyH w (kT d))) Q E s := by
  obtain ⟨o, es, ep, t, ho, hex, hd, hrow, hb, hf, hr, hl⟩ := R
  have hel : ElemsOf (mixKind P w) es.toList := fun e he => by
    rw [hrow] at he
    obtain ⟨p, hp, rfl⟩ := List.mem_map.mp he
    exact ⟨⟨kT p.2, (hL p hp).1, rfl⟩, (hL p hp).2⟩
  unfold setAddHashed setAddHashedIn
  refine wpAny_holding (wpAny_bind (wpAny_setState_of ho hd hf ?_))
  dsimp only
  rw [byScan_of hx hb hel]
  simp only [↓reduceIte]
  unfold setAddByScan
  refine wpAny_bind ?_
  refine wpAny_bind (wpAny_rule ?_)
  refine wpAny_bind (wpAny_setScan_of hk ho hd hf hel ?_)
  cases hfi : List.findIdx? (fun e => (mixKind P w).is (kT d) e.2) es.toList with
  | some j =>
    dsimp only
    obtain ⟨hj, pj, _⟩ := List.findIdx?_eq_some_iff_getElem.mp hfi
    have hm : es.toList[j] ∈ L.map (fun p => (keyH w (kT p.2), p.1)) := by rw [← hrow]; exact List.getElem_mem hj
    obtain ⟨p, hp, e⟩ := List.mem_map.mp hm
    have hkp : (mixKind P w).is (kT d) p.1 = true := by
      rw [← e] at pj
      exact pj
    have hdd : p.2 = d := hinj p hp ((mixKind P w).inj _ _ _ (hL p hp).1 hkp)
    refine wpAny_pure (wpAny_pure ?_)
    exact h1 (List.mem_map.mpr ⟨p, hp, hdd⟩) s.heap (Heap.SameBut.refl S s.heap) ⟨o, es, ep, t, ho, hex, hd, hrow, hb, hf, hr, hl⟩
  | none =>
    dsimp only
    have hno : d ∉ L.map (·.2) := fun z => by
      obtain ⟨p, hp, e⟩ := List.mem_map.mp z
      have c := List.findIdx?_eq_none_iff.mp hfi (keyH w (kT p.2), p.1) (by rw [hrow]; exact List.mem_map.mpr ⟨p, hp, rfl⟩)
      have c2 := (hL p hp).1
      rw [e] at c2
      rw [c2] at c
      cases c
    have hgw : ∀ (b : Bool) {s₁ : Shared} {Q' : Unit → Shared → Prop}, Q' () s₁ → wpAny (model P w) A (match b with | true => rule "set.scan.the-table-gave-way" | false => pure ()) Q' E s₁ :=
      fun b s₁ Q' q => by cases b <;> first | exact wpAny_pure q | exact wpAny_rule q
    have pm := layNew_perm t es (keyH w (kT d)) x
    have f1 := layNew_fits t es (keyH w (kT d)) x
    have r1 := layNew_ris t es (keyH w (kT d)) x hr
    have l1 := layNew_led t es (keyH w (kT d)) x
    generalize layNew t es (keyH w (kT d)) x = Z at pm f1 r1 l1 ⊢
    obtain ⟨es1, t1, wasDummy, gave⟩ := Z
    dsimp only at pm f1 r1 l1 ⊢
    rw [Array.toList_push] at pm
    have pc : es1.toList.Perm ((keyH w (kT d), x) :: es.toList) := pm.trans (List.perm_append_singleton _ _)
    rw [hrow] at pc
    obtain ⟨L1, pL, eL⟩ := perm_lift (f := fun p : Value × D => (keyH w (kT p.2), p.1)) pc ((x, d) :: L) rfl
    have hsz : es1.size = L.length + 1 := by
      rw [← Array.length_toList, pc.length_eq, List.length_cons, List.length_map]
    have hb1 : es1.size < scanBound := by rw [hsz]; exact room
    have hled : w.params.followText "set-order" = true ∨ t1.led = true := hl.imp id fun z => by rw [l1]; exact z
    have fin : ∀ h' L2, Heap.SameBut S s.heap h' → L2.Perm L1 → SetD w S (fun d => keyH w (kT d)) L2 h' → Q true { s with heap := h' } := fun h' L2 sb p2 r => h2 hno h' L2 sb (p2.trans pL) r
    refine wpAny_bind (hgw _ ?_)
    split
    · refine wpAny_bind ?_
      rw [hashByValue_scannable 8 hx]
      refine wpAny_pure ?_
      refine addTail (hash := fun d => keyH w (kT d)) ?_ ho hex hd eL hb1 ?_ ?_ ?_ ?_
      · intro b s₁ Q' q; cases b <;> first | exact wpAny_pure q | exact wpAny_rule q
      · first | (split <;> first | exact f1 | exact SetTable.fits_plain_off f1) | exact f1
      · first | (split <;> exact r1) | exact r1
      · first | (split <;> exact hled) | exact hled
      · intro h' L2 sb p2 r
        dsimp only
        exact wpAny_pure (fin h' L2 sb p2 r)
    · refine wpAny_bind (wpAny_pure ?_)
      simp only [↓reduceIte]
      refine addTail (hash := fun d => keyH w (kT d)) ?_ ho hex hd eL hb1 f1 r1 hled ?_
      · intro b s₁ Q' q; cases b <;> first | exact wpAny_pure q | exact wpAny_rule q
      · intro h' L2 sb p2 r
        dsimp only
        exact wpAny_pure (fin h' L2 sb p2 r)
/-- a row of ints and texts -/
theorem feed_scan {S : Addr} {h0 : Heap} {items : Array Value} {ds : List D} (hp : Paired (fun v d => (mixKind P w).is (kT d) v = true ∧ v.scannable = true) items.toList ds) (hk : ∀ d ∈ ds, (keyOf d).isSome = true) (room : ds.length + 1 < scanBound) :
    Feed P w S h0 items (Zs w S (fun d => keyH w (kT d)) (items.toList.zip ds)) := by
  have hl := Paired.length hp
  have zin : ∀ p ∈ items.toList.zip ds, (mixKind P w).is (kT p.2) p.1 = true ∧ p.1.scannable = true := by
    clear hk room hl
    generalize items.toList = vs at hp ⊢
    induction hp with
    | nil => intro p h; cases h
    | cons a t ih =>
      intro p h
      rw [List.zip_cons_cons] at h
      rcases List.mem_cons.mp h with e | h
      · rw [e]; exact a
      · exact ih p h
  have zd : ∀ p ∈ items.toList.zip ds, p.2 ∈ ds := fun p h => (List.of_mem_zip h).2
  refine ⟨fun h _ ho => ⟨[], SetD.fresh ho, Gat.zero⟩, fun i h h' ⟨L, r, g⟩ _ k => ⟨L, r.keep k, g⟩, fun A i v s Q E _ hv _ ⟨L, r, g⟩ hQ => ?_⟩
  have hi : i < ds.length := by
    rw [← hl, Array.length_toList]
    exact (Array.getElem?_eq_some_iff.mp hv).1
  have hz : (items.toList.zip ds)[i]? = some (v, ds[i]) := by
    rw [List.getElem?_zip_eq_some]
    exact ⟨by rw [Array.getElem?_toList]; exact hv, List.getElem?_eq_getElem hi⟩
  have hzm := List.mem_of_getElem? hz
  obtain ⟨k1, k2⟩ := zin _ hzm
  unfold setAdd
  refine wpAny_holding ?_
  refine wpAny_bind ((mixKind P w).pyHash k1 ?_)
  have glen := g.len
  refine add_scan (s := { s with toks := s.toks + 1 }) r k1 k2 (fun p hp => zin p (g.sub p hp)) (fun p hp e => keyOf_inj (hk _ (zd _ (g.sub p hp))) (hk _ (zd _ hzm)) e) (by omega) (fun hm h' sb r' => ?_) fun hm h' L' sb pm r' => ?_
  · exact hQ _ h' _ (Nat.le_succ _) sb ⟨L, r', g.same hz hm⟩
  · exact hQ _ h' _ (Nat.le_succ _) sb ⟨L', r', g.more hz hm pm⟩
end
end Pv
set_option Elab.async false
set_option linter.all false
set_option maxRecDepth 100000
set_option maxHeartbeats 1000000
namespace Pv
open PySem PySem.Spec PyProof.Rows L2

/-! ## tuples as keys -/
mutual
def nk : D → Option NestedKey
  | .none => some .none
  | .int i => some (.num i)
  | .str x => some (.text x)
  | .tuple xs => match nks xs with
    | some ks => some (.tup ks)
    | none => none
  | .bool _ => none
  | .list _ => none
  | .dict _ => none
def nks : List D → Option (List NestedKey)
  | [] => some []
  | d :: r => match nk d with
    | some k => match nks r with
      | some ks => some (k :: ks)
      | none => none
    | none => none
end
/-- such a key, no deeper than n -/
def nkOk : Nat → D → Bool
  | 0, d => match d with
    | .none => true
    | .int _ => true
    | .str _ => true
    | _ => false
  | n + 1, d => match d with
    | .none => true
    | .int _ => true
    | .str _ => true
    | .tuple xs => allS (nkOk n) xs
    | _ => false
theorem nks_of {n : Nat} (ih : ∀ d, nkOk n d = true → ∃ k, nk d = some k ∧ k.depth ≤ n) : ∀ xs : List D, allS (nkOk n) xs = true → ∃ ks, nks xs = some ks ∧ NestedKey.depthAll ks ≤ n
  | [], _ => ⟨[], by rw [nks], by rw [NestedKey.depthAll]; exact Nat.zero_le _⟩
  | d :: r, h => by
    unfold allS at h
    rw [Bool.and_eq_true] at h
    obtain ⟨k, e1, d1⟩ := ih d h.1
    obtain ⟨ks, e2, d2⟩ := nks_of ih r h.2
    exact ⟨k :: ks, by rw [nks, e1, e2], by rw [NestedKey.depthAll]; exact Nat.max_le.mpr ⟨d1, d2⟩⟩
theorem nk_of : ∀ (n : Nat) (d : D), nkOk n d = true → ∃ k, nk d = some k ∧ k.depth ≤ n := by
  intro n
  induction n with
  | zero =>
    intro d h
    cases d with
    | none => exact ⟨_, by rw [nk], by rw [NestedKey.depth]; exact Nat.le_refl _⟩
    | int _ => exact ⟨_, by rw [nk], by rw [NestedKey.depth]; exact Nat.le_refl _⟩
    | str _ => exact ⟨_, by rw [nk], by rw [NestedKey.depth]; exact Nat.le_refl _⟩
    | tuple xs => exact absurd h (by simp [nkOk])
    | bool _ => exact absurd h (by simp [nkOk])
    | list _ => exact absurd h (by simp [nkOk])
    | dict _ => exact absurd h (by simp [nkOk])
  | succ n ih =>
    intro d h
    cases d with
    | none => exact ⟨_, by rw [nk], by rw [NestedKey.depth]; exact Nat.zero_le _⟩
    | int _ => exact ⟨_, by rw [nk], by rw [NestedKey.depth]; exact Nat.zero_le _⟩
    | str _ => exact ⟨_, by rw [nk], by rw [NestedKey.depth]; exact Nat.zero_le _⟩
    | tuple xs =>
      obtain ⟨ks, e, d⟩ := nks_of ih xs h
      exact ⟨.tup ks, by rw [nk, e], by rw [NestedKey.depth]; exact Nat.succ_le_succ d⟩
    | bool _ => exact absurd h (by simp [nkOk])
    | list _ => exact absurd h (by simp [nkOk])
    | dict _ => exact absurd h (by simp [nkOk])
theorem nks_some {d : D} {r : List D} {ks : List NestedKey} (h : nks (d :: r) = some ks) : ∃ k ks', nk d = some k ∧ nks r = some ks' ∧ ks = k :: ks' := by
  rw [nks] at h
  split at h
  · rename_i k e
    split at h
    · rename_i ks' e'
      cases h
      exact ⟨k, ks', e, e', rfl⟩
    · cases h
  · cases h
theorem nk_tup {xs : List D} {k : NestedKey} (h : nk (.tuple xs) = some k) : ∃ ks, nks xs = some ks ∧ k = .tup ks := by
  rw [nk] at h
  split at h
  · rename_i ks e
    cases h
    exact ⟨ks, e, rfl⟩
  · cases h
mutual
theorem nk_is {h : Heap} : ∀ (d : D) (v : Value) (as : List Addr) (k : NestedKey), Reads h v d as → nk d = some k → NestedIs h k v
  | .none, _, _, k, r, e => by
    rw [nk] at e
    cases e
    cases r
    exact .none
  | .int i, _, _, k, r, e => by
    rw [nk] at e
    cases e
    cases r
    exact .int _ _
  | .str x, _, _, k, r, e => by
    rw [nk] at e
    cases e
    cases r
    exact .text _ _
  | .tuple xs, _, _, k, r, e => by
    obtain ⟨ks, e2, rfl⟩ := nk_tup e
    cases r with
    | tuple h1 h2 h3 h4 => exact .tup h1 h2 h3 (nks_is xs _ _ ks h4 e2)
  | .bool _, _, _, k, r, e => by rw [nk] at e; cases e
  | .list _, _, _, k, r, e => by rw [nk] at e; cases e
  | .dict _, _, _, k, r, e => by rw [nk] at e; cases e
theorem nks_is {h : Heap} : ∀ (ds : List D) (vs : List Value) (as : List Addr) (ks : List NestedKey), ReadsAll h vs ds as → nks ds = some ks → NestedAll h ks vs
  | [], _, _, ks, r, e => by
    rw [nks] at e
    cases e
    cases r
    exact .nil
  | d :: ds, _, _, ks, r, e => by
    obtain ⟨k, ks', e1, e2, rfl⟩ := nks_some e
    cases r with
    | cons a b => exact .cons (nk_is d _ _ k a e1) (nks_is ds _ _ ks' b e2)
end
mutual
theorem nk_inj : ∀ (d d' : D) (k : NestedKey), nk d = some k → nk d' = some k → d = d'
  | .none, d', k, e, e' => by
    rw [nk] at e
    cases e
    cases d' <;> first | rfl | (rw [nk] at e'; cases e'; done) | (obtain ⟨_, _, z⟩ := nk_tup e'; cases z)
  | .int i, d', k, e, e' => by
    rw [nk] at e
    cases e
    cases d' <;> first | (rw [nk] at e'; cases e'; rfl) | (rw [nk] at e'; cases e'; done) | (obtain ⟨_, _, z⟩ := nk_tup e'; cases z)
  | .str x, d', k, e, e' => by
    rw [nk] at e
    cases e
    cases d' <;> first | (rw [nk] at e'; cases e'; rfl) | (rw [nk] at e'; cases e'; done) | (obtain ⟨_, _, z⟩ := nk_tup e'; cases z)
  | .tuple xs, d', k, e, e' => by
    obtain ⟨ks, e2, rfl⟩ := nk_tup e
    cases d' with
    | tuple ys =>
      obtain ⟨ks', e3, z⟩ := nk_tup e'
      cases z
      rw [nks_inj xs ys ks e2 e3]
    | none => rw [nk] at e'; cases e'
    | bool _ => rw [nk] at e'; cases e'
    | int _ => rw [nk] at e'; cases e'
    | str _ => rw [nk] at e'; cases e'
    | list _ => rw [nk] at e'; cases e'
    | dict _ => rw [nk] at e'; cases e'
  | .bool _, _, k, e, e' => by rw [nk] at e; cases e
  | .list _, _, k, e, e' => by rw [nk] at e; cases e
  | .dict _, _, k, e, e' => by rw [nk] at e; cases e
theorem nks_inj : ∀ (ds ds' : List D) (ks : List NestedKey), nks ds = some ks → nks ds' = some ks → ds = ds'
  | [], ds', ks, e, e' => by
    rw [nks] at e
    cases e
    cases ds' with
    | nil => rfl
    | cons d r =>
      obtain ⟨_, _, _, _, z⟩ := nks_some e'
      cases z
  | d :: ds, ds', ks, e, e' => by
    obtain ⟨k, kr, e1, e2, rfl⟩ := nks_some e
    cases ds' with
    | nil => rw [nks] at e'; cases e'
    | cons d' r' =>
      obtain ⟨k', kr', e3, e4, z⟩ := nks_some e'
      cases z
      rw [nk_inj d d' k e1 e3, nks_inj ds r' kr e2 e4]
end
def kN (d : D) : NestedKey := match nk d with
  | some k => k
  | none => .none
theorem kN_of {d : D} {k : NestedKey} (h : nk d = some k) : kN d = k := by
  unfold kN
  rw [h]
def hN (w : World) (d : D) : Int := (kN d).hash w
/-- the tuple v reads as the key d -/
structure IsN (h : Heap) (d : D) (v : Value) : Prop where
  rf : ∃ b, v = .ref b
  is : NestedIs h (kN d) v
  dp : (kN d).depth ≤ 8
  nk : (nk d).isSome = true
theorem IsN.inj {h h' : Heap} {d d' : D} {v v' : Value} (a : IsN h d v) (b : IsN h' d' v') (e : kN d = kN d') : d = d' := by
  have h1 := a.nk
  have h2 := b.nk
  cases e1 : Pv.nk d with
  | none => rw [e1] at h1; cases h1
  | some k =>
    cases e2 : Pv.nk d' with
    | none => rw [e2] at h2; cases h2
    | some k' =>
      rw [kN_of e1, kN_of e2] at e
      subst e
      exact nk_inj _ _ _ e1 e2
theorem IsN.at {h h' : Heap} {d : D} {v : Value} (x : IsN h d v) (hk : ∀ a o vs n, h.get? a = some o → o.data = .seq vs n → h'.get? a = some o) : IsN h' d v := ⟨x.rf, NestedIs.at hk _ _ x.is, x.dp, x.nk⟩
theorem IsN.keep {h h' : Heap} {d : D} {v : Value} (x : IsN h d v) (hk : ∀ b o, h.get? b = some o → h'.get? b = some o) : IsN h' d v := x.at fun a o _ _ e _ => hk a o e
/-- a set isn't a tuple -/
theorem IsN.same {h h' : Heap} {d : D} {v : Value} {S : Addr} {o : Obj} {es : Array (Int × Value)} {ep : Nat} {t : SetTable} (x : IsN h d v) (ho : h.get? S = some o) (hd : o.data = .set es ep t) (hs : Heap.SameBut S h h') : IsN h' d v := x.at fun a ob vs n e q => by
  refine (hs.2 a fun z => ?_).trans e
  subst z
  rw [ho] at e
  cases e
  rw [hd] at q
  cases q

section
variable {P : Program} {w : World} {A : Around} {E : Value → Shared → Prop} {s : Shared}
/-! ### what is asked of such a tuple -/
/-- some answer, nothing else -/
def HbAt (P : Program) (w : World) (n : Nat) (s : Shared) (v : Value) : Prop := ∀ (A : Around) (E : Value → Shared → Prop) (Q : Bool → Shared → Prop), (∀ b, Q b s) → wpAny (model P w) A (hashByValue n v) Q E s
def OcAt (P : Program) (w : World) (n : Nat) (s : Shared) (v : Value) : Prop := ∀ (A : Around) (E : Value → Shared → Prop) (Q : Bool → Shared → Prop), Q false s → wpAny (model P w) A (ofAClassStatement n v) Q E s
theorem hb_tup {n : Nat} {s : Shared} {b : Addr} {o : Obj} {vs : Array Value} {m : Nat} (ho : s.heap.get? b = some o) (hc : o.cls = .type "tuple") (hd : o.data = .seq vs m) (hq : ∀ v ∈ vs.toList, HbAt P w n s v) : HbAt P w (n + 1) s (.ref b) := fun A E Q h => by
  unfold hashByValue
  refine wpAny_bind (wpAny_specialOf (T := "tuple") ⟨o, ho, hc⟩ PySem.F.slot_tuple_hash.lookup ?_)
  show wpAny _ _ (seqItems? (.ref b) >>= _) _ _ s
  refine wpAny_bind (wpAny_seqItems ho hd ?_)
  refine wpAny_bind ?_
  show wpAny _ _ (forIn vs _ _) _ _ s
  rw [← Array.forIn_toList]
  refine wpAny_forIn_list _ (fun rest r s' => s' = s ∧ (∀ v ∈ rest, HbAt P w n s v)) _ ?_ ?_ _ _ ⟨rfl, hq⟩
  · rintro v rest r s' ⟨rfl, hall⟩
    refine wpAny_bind (hall v List.mem_cons_self _ _ _ fun bb => ?_)
    cases bb with
    | true =>
      simp only [Bool.not_true, Bool.false_eq_true, if_false]
      exact wpAny_pure ⟨rfl, fun u hu' => hall u (List.mem_cons_of_mem _ hu')⟩
    | false =>
      simp only [Bool.not_false, if_true]
      exact wpAny_pure (show wpAny (model P w) A (pure false) Q E s' from wpAny_pure (h _))
  · rintro ⟨r1, r2⟩ s' ⟨rfl, _⟩
    cases r1 with
    | none => exact wpAny_pure (h _)
    | some bb => exact wpAny_pure (h _)
mutual
theorem hb_key : ∀ (k : NestedKey) (v : Value) (n : Nat) (s : Shared), NestedIs s.heap k v → HbAt P w n s v
  | .none, _, n, s, x => fun A E Q h => by
    cases x
    cases n <;> exact wpAny_pure (h _)
  | .num i, _, n, s, x => fun A E Q h => by
    cases x <;> cases n <;> exact wpAny_pure (h _)
  | .text y, _, n, s, x => fun A E Q h => by
    cases x
    cases n <;> exact wpAny_pure (h _)
  | .tup ks, _, n, s, x => by
    cases x with
    | tup hg hc hd hk =>
      cases n with
      | zero => exact fun A E Q h => wpAny_pure (h _)
      | succ n => exact hb_tup hg hc hd (hb_keys ks _ n s hk)
theorem hb_keys : ∀ (ks : List NestedKey) (vs : List Value) (n : Nat) (s : Shared), NestedAll s.heap ks vs → ∀ v ∈ vs, HbAt P w n s v
  | [], _, n, s, x, v, hv => by cases x; cases hv
  | k :: ks, _, n, s, x, v, hv => by
    cases x with
    | cons x1 x2 =>
      rcases List.mem_cons.mp hv with e | hv
      · rw [e]; exact hb_key k _ n s x1
      · exact hb_keys ks _ n s x2 v hv
end
theorem oc_tup {n : Nat} {s : Shared} {b : Addr} {o : Obj} {vs : Array Value} {m : Nat} (ho : s.heap.get? b = some o) (hc : o.cls = .type "tuple") (hd : o.data = .seq vs m) (hq : ∀ v ∈ vs.toList, OcAt P w n s v) : OcAt P w (n + 1) s (.ref b) := fun A E Q h => by
  have hT : s.TypeIs (.ref b) "tuple" := ⟨o, ho, hc⟩
  unfold ofAClassStatement
  refine wpAny_bind (wpAny_typeOf hT ?_)
  dsimp only
  have e : (("tuple" : String) == "tuple") = true := by decide
  simp only [e, if_true, Bool.not_true, Bool.false_eq_true, if_false]
  try refine wpAny_bind (wpAny_pure ?_)
  try simp only [Bool.not_true, Bool.false_eq_true, if_false]
  show wpAny _ _ (seqItems? (.ref b) >>= _) _ _ s
  refine wpAny_bind (wpAny_seqItems ho hd ?_)
  dsimp only
  refine wpAny_bind ?_
  show wpAny _ _ (forIn vs _ _) _ _ s
  rw [← Array.forIn_toList]
  refine wpAny_forIn_list _ (fun rest r s' => r.1 = none ∧ s' = s ∧ ∀ v ∈ rest, OcAt P w n s v) _ ?_ ?_ _ _ ⟨rfl, rfl, hq⟩
  · rintro v rest r s' ⟨hr, rfl, hall⟩
    refine wpAny_bind (hall v List.mem_cons_self _ _ _ ?_)
    simp only [Bool.false_eq_true, if_false]
    exact wpAny_pure ⟨rfl, rfl, fun u hu' => hall u (List.mem_cons_of_mem _ hu')⟩
  · rintro ⟨r1, r2⟩ s' ⟨hr, rfl, _⟩
    simp only at hr
    subst hr
    exact wpAny_pure h
mutual
theorem oc_key : ∀ (k : NestedKey) (v : Value) (n : Nat) (s : Shared), NestedIs s.heap k v → k.depth ≤ n → OcAt P w n s v
  | .none, _, n, s, x, _ => fun A E Q h => by
    cases x
    cases n <;> exact wpAny_pure h
  | .num i, _, n, s, x, _ => fun A E Q h => by
    cases x <;> cases n <;> exact wpAny_pure h
  | .text y, _, n, s, x, _ => fun A E Q h => by
    cases x
    cases n <;> exact wpAny_pure h
  | .tup ks, _, n, s, x, hn => by
    cases x with
    | tup hg hc hd hk =>
      simp only [NestedKey.depth] at hn
      cases n with
      | zero => omega
      | succ n => exact oc_tup hg hc hd (oc_keys ks _ n s hk (by omega))
theorem oc_keys : ∀ (ks : List NestedKey) (vs : List Value) (n : Nat) (s : Shared), NestedAll s.heap ks vs → NestedKey.depthAll ks ≤ n → ∀ v ∈ vs, OcAt P w n s v
  | [], _, n, s, x, _, v, hv => by cases x; cases hv
  | k :: ks, _, n, s, x, hn, v, hv => by
    cases x with
    | cons x1 x2 =>
      simp only [NestedKey.depthAll] at hn
      rcases List.mem_cons.mp hv with e | hv
      · rw [e]; exact oc_key k _ n s x1 (by omega)
      · exact oc_keys ks _ n s x2 (by omega) v hv
end
/-- a search among such tuples shows nothing -/
theorem seen_key {d : D} {x : Value} {Q : Bool → Shared → Prop} (hx : IsN s.heap d x) {ys : List Value} (hy : ∀ y ∈ ys, ∃ d', IsN s.heap d' y) (h : Q false s) : wpAny (model P w) A (searchCouldBeSeen x ys) Q E s := by
  unfold searchCouldBeSeen
  refine wpAny_bind ?_
  refine wpAny_forIn_list _ (fun rest r s' => r.1 = none ∧ s' = s ∧ ∀ y ∈ rest, ∃ d', IsN s.heap d' y) _ ?_ ?_ _ _ ⟨rfl, rfl, hy⟩
  · rintro v rest r s' ⟨hr, rfl, hall⟩
    obtain ⟨d', hv⟩ := hall v List.mem_cons_self
    have rest' : ∀ y ∈ rest, ∃ d', IsN s'.heap d' y := fun u hu' => hall u (List.mem_cons_of_mem _ hu')
    obtain ⟨b, rfl⟩ := hx.rf
    obtain ⟨c, rfl⟩ := hv.rf
    dsimp only
    by_cases hbc : (b == c || (carriedByValue (.ref b) && carriedByValue (.ref c))) = true
    · exact wp_if_pos hbc (wpAny_pure ⟨rfl, rfl, rest'⟩)
    · refine wp_if_neg hbc ?_
      refine wpAny_bind (quiet_key _ _ 8 _ hx.is hx.dp _ _ _ ?_)
      simp only [Bool.not_true, Bool.false_eq_true, if_false]
      refine wpAny_bind (quiet_key _ _ 8 _ hv.is hv.dp _ _ _ ?_)
      simp only [Bool.not_true, Bool.false_eq_true, if_false]
      refine wpAny_bind (oc_key _ _ 8 _ hx.is hx.dp _ _ _ ?_)
      simp only [Bool.false_eq_true, if_false]
      refine wpAny_bind (oc_key _ _ 8 _ hv.is hv.dp _ _ _ ?_)
      simp only [Bool.false_eq_true, if_false]
      exact wpAny_pure ⟨rfl, rfl, rest'⟩
  · rintro ⟨r1, r2⟩ s' ⟨hr, rfl, _⟩
    simp only at hr
    subst hr
    exact wpAny_pure h

/-! ### the table -/
abbrev rowN (w : World) (p : Value × D) : Int × Value := (hN w p.2, p.1)
structure TabS (w : World) (h : Heap) (S : Addr) (L : List (Value × D)) (es : Array (Int × Value)) (ep : Nat) (t : SetTable) : Prop where
  ob : ∃ o, h.get? S = some o ∧ o.ExactSet ∧ o.data = .set es ep t
  rows : es.toList = L.map (rowN w)
  tab : TabOk t (L.map fun p => hN w p.2)
  nd : (L.map (·.2)).Nodup
  tup : ∀ p ∈ L, IsN h p.2 p.1
  led : w.params.followText "set-order" = true ∨ t.led = true
  room : L.length * 5 < t.mask * 3
  few : L.length < 64
variable {S : Addr} {L : List (Value × D)} {es : Array (Int × Value)} {ep : Nat} {t : SetTable}
theorem TabS.size {h : Heap} (R : TabS w h S L es ep t) : es.size = L.length := by
  rw [← Array.length_toList, R.rows, List.length_map]
theorem TabS.fits {h : Heap} (R : TabS w h S L es ep t) : t.fits es.size = true := by
  have h1 := R.tab.sz
  rw [List.length_map] at h1
  have h2 := R.size
  have h3 := R.room
  unfold SetTable.fits SetTable.fill
  rw [R.tab.dm, Bool.and_eq_true, beq_iff_eq, decide_eq_true_eq]
  show t.place.size = es.size ∧ t.place.size + 0 ≤ t.mask
  omega
theorem TabS.entry {h : Heap} (R : TabS w h S L es ep t) {i : Nat} {p : Value × D} (e : L[i]? = some p) : es[i]? = some (rowN w p) := by
  rw [← Array.getElem?_toList, R.rows, List.getElem?_map, e]
  rfl
theorem TabS.gw {h : Heap} (R : TabS w h S L es ep t) : ¬ t.gaveWay = true := by
  unfold SetTable.gaveWay
  rw [mask_odd R.tab.mok]
  decide
theorem TabS.hashAt {h : Heap} (R : TabS w h S L es ep t) {i : Nat} {p : Value × D} (e : L[i]? = some p) : (es[i]?.map (·.1)).getD 0 = hN w p.2 := by
  rw [R.entry e]
  rfl
theorem TabS.setD {h : Heap} (R : TabS w h S L es ep t) : SetD w S (hN w) L h := by
  obtain ⟨o, ho, hx, hd⟩ := R.ob
  refine ⟨o, es, ep, t, ho, hx, hd, R.rows, ?_, R.fits, R.tab.ris, R.led⟩
  have := R.few
  rw [R.size]
  unfold scanBound
  omega
theorem TabS.keep {h h' : Heap} (R : TabS w h S L es ep t) (ha : ∀ o, h.get? S = some o → h'.get? S = some o) (ht : ∀ p ∈ L, IsN h' p.2 p.1) : TabS w h' S L es ep t := by
  obtain ⟨o, ho, r⟩ := R.ob
  exact ⟨⟨o, ha o ho, r⟩, R.rows, R.tab, R.nd, ht, R.led, R.room, R.few⟩
theorem TabS.fresh {h : Heap} (ho : h.get? S = some (set0 w)) : TabS w h S [] #[] 0 (.fresh 0 0 (!w.params.followText "set-order")) where
  ob := ⟨_, ho, ⟨rfl, rfl, rfl⟩, rfl⟩
  rows := rfl
  tab := ⟨List.Pairwise.nil, rfl, rfl, .inl rfl, fun x hx => (by cases hx), fun i h j hi => (by simp at hi)⟩
  nd := List.nodup_nil
  tup := fun p hp => (by cases hp)
  led := by
    show _ ∨ (!w.params.followText "set-order") = true
    cases w.params.followText "set-order"
    · exact .inr rfl
    · exact .inl rfl
  room := by
    show 0 * 5 < 7 * 3
    decide
  few := by
    show 0 < 64
    decide
/-- the way of the hash h from its start -/
abbrev startN (t : SetTable) (h : Int) : SetTable.Probe := runAt t.mask (SetTable.bits h % (t.mask + 1)) (SetTable.bits h)
theorem nodummy (m : Nat) : ∀ (n : Nat) (p : SetTable.Probe), p.dummy = none → (L2.nth m p n).dummy = none
  | 0, p, h => h
  | n + 1, p, h => nodummy m n (adv m p) (by
    unfold adv
    split <;> exact h)
/-- the search from its c-th step on: K is the first free place of the way -/
theorem search_n (R : TabS w s.heap S L es ep t) {x : Value} {d : D} (hx : IsN s.heap d x) (hu : A.units + 9 < cLine) {K : Nat} (hKf : K < 10 * SetTable.turns t.mask) (hK : way t.mask (hN w d) K ∉ t.place.toList)
    (hKb : ∀ c, c < K → way t.mask (hN w d) c ∈ t.place.toList) {Q : SetFound → Shared → Prop} (hin : d ∈ L.map (·.2) → Q (.there none) s) (hout : d ∉ L.map (·.2) → Q (.free (way t.mask (hN w d) K) false) s) :
    ∀ (f c : Nat) (stand : Option SetTable.Probe), stand.getD (t.probeStart (hN w d)) = L2.nth t.mask (startN t (hN w d)) c → c ≤ K → K - c < f →
      (∀ (i : Nat) p, L[i]? = some p → p.2 = d → ∃ c', c ≤ c' ∧ c' < K ∧ t.place.toList[i]? = some (way t.mask (hN w d) c')) →
      wpAny (model P w) A (setSearchFrom S x (hN w d) true f stand) Q E s := by
  intro f
  induction f with
  | zero => intro c stand _ _ hf; exact absurd hf (Nat.not_lt_zero _)
  | succ f ih =>
    intro c stand hst hc hf hre
    obtain ⟨o, ho, hex, hd⟩ := R.ob
    rw [setSearchFrom_succ]
    refine wpAny_bind (wpAny_setState_of ho hd R.fits ?_)
    dsimp only
    refine wp_if_neg R.gw ?_
    try refine wpAny_bind (wpAny_pure ?_)
    have sh : ∀ q, L2.nth t.mask (L2.nth t.mask (startN t (hN w d)) c) q = L2.nth t.mask (startN t (hN w d)) (c + q) := fun q => (L2.nth_add t.mask c _ q).symm
    have e1 : ∀ q, (L2.nth t.mask (L2.nth t.mask (startN t (hN w d)) c) q).j = way t.mask (hN w d) (c + q) := fun q => congrArg SetTable.Probe.j (sh q)
    have spec := go_spec t R.tab.ris R.tab.dm (fun i => (es[i]?.map (·.1)).getD 0) (hN w d) (10 * SetTable.turns t.mask) (K - c) _ (nodummy t.mask c _ rfl) (by omega)
      (fun q hq => by rw [e1]; exact hKb (c + q) (by omega)) (by rw [e1, show c + (K - c) = K by omega]; exact hK)
    rcases spec with ⟨q, i, hq, hi, hh, hno, hpr⟩ | ⟨hno, hpr⟩
    · have hpr' : t.probe (fun i => (es[i]?.map (·.1)).getD 0) (hN w d) (stand.getD (t.probeStart (hN w d))) = some (.candidate (way t.mask (hN w d) (c + q)) i (L2.nth t.mask (startN t (hN w d)) (c + (q + 1)))) := by
        rw [hst, ← e1, ← sh]
        exact hpr
      rw [hpr']
      dsimp only
      rw [e1] at hi
      have hil : i < L.length := by
        have h1 : i < t.place.toList.length := (List.getElem?_eq_some_iff.mp hi).1
        have h2 := R.tab.sz
        rw [List.length_map] at h2
        rw [Array.length_toList] at h1
        omega
      have hp : L[i]? = some L[i] := List.getElem?_eq_getElem hil
      generalize L[i] = p at hp
      have hmem : p ∈ L := List.mem_of_getElem? hp
      have hpt := R.tup p hmem
      have rest : wpAny (model P w) A (searchRest S x (hN w d) true f es t (way t.mask (hN w d) (c + q)) i (L2.nth t.mask (startN t (hN w d)) (c + (q + 1)))) Q E s := by
        unfold searchRest
        rw [R.entry hp]
        dsimp only
        have d1 := hpt.dp
        have d2 := hx.dp
        refine wpAny_bind (wpAny_holding (eqAt_key (kN p.2) (kN d) A s _ _ hpt.is hx.is (by omega) _ _ _ _ ?_))
        rw [← NestedKey.decide_eq]
        refine wpAny_bind (wpAny_setState_of ho hd R.fits ?_)
        dsimp only
        by_cases hkn : kN p.2 = kN d
        · have hkk : p.2 = d := hpt.inj hx hkn
          refine wp_if_pos (by simp [hkn]) ?_
          exact wpAny_pure (hin (List.mem_map.mpr ⟨p, hmem, hkk⟩))
        · have hkk : ¬ p.2 = d := fun z => hkn (by rw [z])
          refine wp_if_neg (by simp [hkn]) ?_
          try refine wpAny_bind (wpAny_pure ?_)
          rw [sameMem]
          dsimp only
          have hsl : t.slot (way t.mask (hN w d) (c + q)) = .live i := slot_live R.tab.ris hi
          simp only [if_true, hsl, R.entry hp]
          obtain ⟨b, hb⟩ := hpt.rf
          rw [hb]
          refine wpAny_bind (wpAny_isSame_ref_self (wpAny_bind (wpAny_pure ?_)))
          simp only [if_true]
          refine wp_if_neg (by simp [hkn]) ?_
          refine ih (c + (q + 1)) _ rfl (by omega) (by omega) fun i0 p0 h0 hk0 => ?_
          obtain ⟨c', a1, a2, a3⟩ := hre i0 p0 h0 hk0
          refine ⟨c', ?_, a2, a3⟩
          rcases Nat.lt_or_ge c' (c + q) with z | z
          · exfalso
            refine hno (c' - c) i0 (by omega) (by rw [e1, show c + (c' - c) = c' by omega]; exact a3) ?_
            show (es[i0]?.map (·.1)).getD 0 = _
            rw [R.hashAt h0, hk0]
          · rcases Nat.lt_or_ge (c + q) c' with y | y
            · omega
            · exfalso
              have ec : c' = c + q := Nat.le_antisymm y z
              rw [ec] at a3
              have s0 := slot_live R.tab.ris a3
              rw [hsl] at s0
              injection s0 with s0
              rw [← s0, hp] at h0
              exact hkk ((congrArg Prod.snd (Option.some.inj h0)).trans hk0)
      by_cases hl : t.led = true
      · refine wp_if_neg (by simp [hl]) ?_
        try refine wpAny_bind (wpAny_pure ?_)
        exact rest
      · refine wp_if_pos (by simp [hl]) ?_
        refine wpAny_bind (seen_key hx (fun y hy => ?_) ?_)
        · obtain ⟨e, he, ee⟩ := List.mem_map.mp hy
          have he1 : e ∈ es ∧ e.1 = hN w d := by simpa using he
          have he2 : e ∈ es.toList := by simpa using he1.1
          rw [R.rows] at he2
          obtain ⟨p2, hp2, e2⟩ := List.mem_map.mp he2
          refine ⟨p2.2, ?_⟩
          rw [← ee, ← e2]
          exact R.tup p2 hp2
        · refine wp_if_neg (by decide) ?_
          try refine wpAny_bind (wpAny_pure ?_)
          exact rest
    · have hpr' : t.probe (fun i => (es[i]?.map (·.1)).getD 0) (hN w d) (stand.getD (t.probeStart (hN w d))) = some (.empty (way t.mask (hN w d) K) none) := by
        have e2 : way t.mask (hN w d) K = (L2.nth t.mask (L2.nth t.mask (startN t (hN w d)) c) (K - c)).j := by
          rw [e1, show c + (K - c) = K by omega]
        rw [hst, e2]
        exact hpr
      rw [hpr']
      dsimp only
      refine wpAny_pure (hout fun hm => ?_)
      obtain ⟨p0, h0, hk0⟩ := List.mem_map.mp hm
      obtain ⟨i0, hi0, e0⟩ := List.getElem_of_mem h0
      have h00 : L[i0]? = some p0 := by rw [List.getElem?_eq_getElem hi0, e0]
      obtain ⟨c', a1, a2, a3⟩ := hre i0 p0 h00 hk0
      refine hno (c' - c) i0 (by omega) (by rw [e1, show c + (c' - c) = c' by omega]; exact a3) ?_
      show (es[i0]?.map (·.1)).getD 0 = _
      rw [R.hashAt h00, hk0]
end
end Pv
set_option Elab.async false
set_option linter.all false
set_option maxRecDepth 100000
set_option maxHeartbeats 1000000
namespace Pv
open PySem PySem.Spec PyProof.Rows L2

section
variable {P : Program} {w : World} {A : Around} {E : Value → Shared → Prop} {s : Shared} {S : Addr} {L : List (Value × D)} {es : Array (Int × Value)} {ep : Nat} {t : SetTable}
theorem search_d (R : TabS w s.heap S L es ep t) {x : Value} {d : D} (hx : IsN s.heap d x) (hu : A.units + 9 < cLine) {Q : SetFound → Shared → Prop} (hin : d ∈ L.map (·.2) → Q (.there none) s)
    (hout : ∀ K, d ∉ L.map (·.2) → way t.mask (hN w d) K ∉ t.place.toList → (∀ c, c < K → way t.mask (hN w d) c ∈ t.place.toList) → Q (.free (way t.mask (hN w d) K) false) s) :
    wpAny (model P w) A (setSearch S x (hN w d) true) Q E s := by
  have hroom := R.room
  obtain ⟨K, hKf, hK, hKb⟩ := R.tab.first (by rw [List.length_map]; omega) (hN w d)
  have hbig : K < 100000 := by
    have : 10 * SetTable.turns t.mask ≤ 1420 := by
      unfold SetTable.turns
      rcases R.tab.mok with e | e | e <;> omega
    omega
  unfold setSearch
  refine search_n R hx hu hKf hK hKb hin (fun hn => hout K hn hK hKb) 100000 0 none rfl (Nat.zero_le _) (by omega) fun i p hp hk => ?_
  have hi : (L.map fun p => hN w p.2)[i]? = some (hN w d) := by
    rw [List.getElem?_map, hp, ← hk]
    rfl
  have hil : i < t.place.toList.length := by
    have h1 : i < L.length := (List.getElem?_eq_some_iff.mp hp).1
    have h2 := R.tab.sz
    rw [List.length_map] at h2
    rw [Array.length_toList]
    omega
  have hj := List.getElem?_eq_getElem hil
  obtain ⟨c, hc, e⟩ := R.tab.before hK hi hj
  exact ⟨c, Nat.zero_le _, hc, by rw [hj, e]⟩

/-- rows taken in another order -/
theorem order_lift {α β : Type} (f : α → β) (L : List α) (es : Array β) (order : Array Nat) (hr : es.toList = L.map f) (hp : order.toList.Perm (List.range L.length)) :
    ∃ L2, (order.filterMap (es[·]?)).toList = L2.map f ∧ L2.Perm L ∧ L2 = order.toList.filterMap (L[·]?) := by
  have ent : ∀ i, es[i]? = (L[i]?).map f := fun i => by rw [← Array.getElem?_toList, hr, List.getElem?_map]
  refine ⟨order.toList.filterMap (L[·]?), ?_, ?_, rfl⟩
  · rw [Array.toList_filterMap, List.map_filterMap]
    congr 1
    funext i
    exact ent i
  · have h1 : (order.toList.filterMap (L[·]?)).Perm ((List.range L.length).filterMap (L[·]?)) := hp.filterMap _
    have h2 : (List.range L.length).filterMap (L[·]?) = L := by
      have key : ∀ n, n ≤ L.length → (List.range n).filterMap (L[·]?) = L.take n := by
        intro n
        induction n with
        | zero => intro _; rfl
        | succ n ih =>
          intro hn
          have hlt : n < L.length := hn
          rw [List.range_succ, List.filterMap_append, ih (Nat.le_of_lt hlt), List.take_succ, List.getElem?_eq_getElem hlt]
          rw [List.filterMap_cons_some (List.getElem?_eq_getElem hlt)]
          rfl
      rw [key L.length (Nat.le_refl _), List.take_length]
    rw [h2] at h1
    exact h1
theorem order_hash (L : List (Value × D)) (es : Array (Int × Value)) : ∀ (l : List Nat), es.toList = L.map (rowN w) → (∀ i ∈ l, i < L.length) → (l.filterMap (L[·]?)).map (fun p => hN w p.2) = l.map fun i => (es.map (·.1)).getD i 0
  | [], _, _ => rfl
  | i :: l, hr, hl => by
    have hi := hl i List.mem_cons_self
    have e2 : es[i]? = some (rowN w L[i]) := by rw [← Array.getElem?_toList, hr, List.getElem?_map, List.getElem?_eq_getElem hi]; rfl
    have e3 : (es.map (·.1)).getD i 0 = hN w L[i].2 := by
      have e5 : (es.map (·.1))[i]? = some (hN w L[i].2) := by
        rw [Array.getElem?_map, e2]
        rfl
      simp [Array.getD_eq_getD_getElem?, e5]
    rw [List.filterMap_cons_some (List.getElem?_eq_getElem hi), List.map_cons, List.map_cons, order_hash L es l hr fun j hj => hl j (List.mem_cons_of_mem _ hj), e3]
/-- the table laid anew, larger -/
theorem relay_d {o : Obj} (ho : s.heap.get? S = some o) (hex : o.ExactSet) (hd : o.data = .set es ep t) (hrows : es.toList = L.map (rowN w)) (hsz : t.place.size = es.size) (hdm : t.dummies = #[]) (hfl : es.size ≤ t.mask)
    (nd : (L.map (·.2)).Nodup) (tup : ∀ p ∈ L, IsN s.heap p.2 p.1) (ld : w.params.followText "set-order" = true ∨ t.led = true) (few : L.length < 64) {wanted M : Nat}
    (hw : SetTable.sizeAbove wanted - 1 = M) (hM : MaskOk M) (hw2 : SetTable.sizeAbove wanted ≤ 128) (hn : L.length * 5 < M * 3) {Q : Unit → Shared → Prop}
    (hQ : ∀ h' L' es' ep' t', Heap.SameBut S s.heap h' → TabS w h' S L' es' ep' t' → L'.Perm L → Q () { s with heap := h' }) : wpAny (model P w) A (setRelay S wanted) Q E s := by
  have hsl : es.size = L.length := by rw [← Array.length_toList, hrows, List.length_map]
  have hfits : t.fits es.size = true := by
    unfold SetTable.fits SetTable.fill
    rw [hdm, Bool.and_eq_true, beq_iff_eq, decide_eq_true_eq]
    show t.place.size = es.size ∧ t.place.size + 0 ≤ t.mask
    omega
  obtain ⟨t', order, e, hp, T, em, el, ep', ed⟩ := relaid_ok t (hs := es.map (·.1)) (wanted := wanted) hw hM (by rw [Array.size_map, hsl]; omega)
  rw [Array.size_map, hsl] at hp
  obtain ⟨L2, r1, r2, r3⟩ := order_lift (rowN w) L es order hrows hp
  have r4 := order_hash (w := w) L es order.toList hrows fun i hi => List.mem_range.mp (hp.mem_iff.mp hi)
  rw [← r4, ← r3] at T
  have hs2 : (order.filterMap (es[·]?)).size = es.size := by rw [← Array.length_toList, r1, List.length_map, r2.length_eq, hsl]
  rw [setRelay_eq]
  refine wpAny_bind (wpAny_setState_of ho hd hfits ?_)
  dsimp only
  refine wp_if_neg (by rw [sizeLine_eq]; omega) ?_
  try refine wpAny_bind (wpAny_pure ?_)
  rw [e]
  dsimp only
  refine wpAny_bind ?_
  refine wp_if_neg (by rw [hs2]; simp) ?_
  try refine wpAny_bind (wpAny_pure ?_)
  refine wpAny_pure ?_
  dsimp only
  refine wpAny_storeSet_of ho hd ?_ (by rw [hs2, hsl, sizeLine_eq]; omega)
  have sb : Heap.SameBut S s.heap (s.heap.update S (Obj.putSet (order.filterMap (es[·]?)) t')) := Heap.SameBut.update ..
  refine hQ _ L2 (order.filterMap (es[·]?)) (ep + 1) t' sb ?_ r2
  exact ⟨⟨_, store_at ho hd, ⟨hex.1, hex.2.1, hex.2.2⟩, rfl⟩, r1, T, (r2.map (·.2)).nodup_iff.mpr nd, fun p hpm => (tup p (r2.mem_iff.mp hpm)).same ho hd sb, by rw [el]; exact ld, by rw [r2.length_eq, em]; exact hn, by rw [r2.length_eq]; exact few⟩

/-- one more -/
theorem add_d (R : TabS w s.heap S L es ep t) {x : Value} {d : D} (hx : IsN s.heap d x) (hu : A.units + 9 < cLine) (hfew : d ∉ L.map (·.2) → L.length + 1 < 64) {Q : Bool → Shared → Prop}
    (h1 : d ∈ L.map (·.2) → Q false s) (h2 : ∀ h' L' es' ep' t', d ∉ L.map (·.2) → Heap.SameBut S s.heap h' → TabS w h' S L' es' ep' t' → L'.Perm ((x, d) :: L) → Q true { s with heap := h' }) :
    wpAny (model P w) A (setAddHashed S x (hN w d)) Q E s := by
  obtain ⟨o, ho, hex, hd⟩ := R.ob
  have hsl := R.size
  have hroom := R.room
  unfold setAddHashed
  refine wpAny_holding ?_
  rw [show (100000 : Nat) = 99999 + 1 from rfl, setAddHashedIn_succ]
  refine wpAny_bind (wpAny_setState_of ho hd R.fits ?_)
  dsimp only
  refine wp_if_neg (by
    obtain ⟨b, rfl⟩ := hx.rf
    simp [byScan, Value.scannable]) ?_
  try refine wpAny_bind (wpAny_pure ?_)
  refine wpAny_bind (search_d R hx hu (fun hm => ?_) fun K hm hK hb => ?_)
  · dsimp only
    exact wpAny_pure (h1 hm)
  · dsimp only
    refine wpAny_bind (wpAny_setState_of ho hd R.fits ?_)
    dsimp only
    have hfew := hfew hm
    obtain ⟨q1, q2, q3, q4, q5, q6, q7, q8, q9⟩ := R.tab.put hK hb
    generalize hpt : t.put (way t.mask (hN w d) K) = pt at q1 q3 q4 q5 q6 q7 q8 q9 ⊢
    obtain ⟨t0, p⟩ := pt
    dsimp only at q1 q3 q4 q5 q6 q7 q8 q9 ⊢
    subst q1
    have hin : (SetTable.insertAt es (SetTable.below t.place (way t.mask (hN w d) K)) (hN w d, x)).toList = (L.take (SetTable.below t.place (way t.mask (hN w d) K)) ++ (x, d) :: L.drop (SetTable.below t.place (way t.mask (hN w d) K))).map (rowN w) := by
      rw [SetTable.toList_insertAt, R.rows, List.map_append, List.map_cons, List.map_take, List.map_drop]
    generalize hpp : SetTable.below t.place (way t.mask (hN w d) K) = p at q2 q3 hin ⊢
    have pm := put_perm L p (x, d)
    have hlen : (L.take p ++ (x, d) :: L.drop p).length = L.length + 1 := pm.length_eq
    have hhs : (L.take p ++ (x, d) :: L.drop p).map (fun p => hN w p.2) = (L.map fun p => hN w p.2).take p ++ hN w d :: (L.map fun p => hN w p.2).drop p := by
      rw [List.map_append, List.map_cons, List.map_take, List.map_drop]
    rw [← hhs] at q3
    have nd1 : ((L.take p ++ (x, d) :: L.drop p).map (·.2)).Nodup := by
      refine (pm.map (·.2)).nodup_iff.mpr ?_
      rw [List.map_cons]
      exact List.nodup_cons.mpr ⟨hm, R.nd⟩
    have hes : (SetTable.insertAt es p (hN w d, x)).size = L.length + 1 := by rw [← Array.length_toList, hin, List.length_map, hlen]
    generalize SetTable.insertAt es p (hN w d, x) = es1 at hin hes ⊢
    generalize L.take p ++ (x, d) :: L.drop p = L1 at pm hlen q3 nd1 hin
    -- the rest, whatever is known of the table by value
    have rest : ∀ t1 : SetTable, TabOk t1 (L1.map fun p => hN w p.2) → t1.mask = t.mask → t1.led = t.led → t1.fill = L.length + 1 → wpAny (model P w) A (do
        storeSet S es1 t1
        if (!false && t1.tooFull) = true then do
          setRelay S (SetTable.grown (es.size + 1))
          pure true
        else pure true) Q E s := fun t1 q3 q4 q5 q9 => by
      refine wpAny_bind (wpAny_storeSet_of ho hd ?_ (by rw [hes, sizeLine_eq]; omega))
      have sb : Heap.SameBut S s.heap (s.heap.update S (Obj.putSet es1 t1)) := Heap.SameBut.update ..
      have ho1 := store_at (es' := es1) (t' := t1) ho hd
      generalize s.heap.update S (Obj.putSet es1 t1) = hh1 at sb ho1 ⊢
      have tup1 : ∀ p ∈ L1, IsN hh1 p.2 p.1 := fun p hp => by
        rcases List.mem_cons.mp (pm.mem_iff.mp hp) with e | hp
        · rw [e]
          exact hx.same ho hd sb
        · exact (R.tup p hp).same ho hd sb
      have ld1 : w.params.followText "set-order" = true ∨ t1.led = true := by rw [q5]; exact R.led
      by_cases hf : t1.tooFull = true
      · refine wp_if_pos (by simp [hf]) ?_
        refine wpAny_bind ?_
        have hfull : (L.length + 1) * 5 ≥ t1.mask * 3 := by
          have h := hf
          unfold SetTable.tooFull at h
          rw [decide_eq_true_eq, q9] at h
          exact h
        rw [hsl]
        have hsz1 : t1.place.size = es1.size := by
          have h := q3.sz
          rw [List.length_map, hlen] at h
          rw [h, hes]
        have cases2 : (t.mask = 7 ∧ L.length = 4) ∨ (t.mask = 31 ∧ L.length = 18) := by
          rcases R.tab.mok with e | e | e
          · left; rw [q4, e] at hfull; rw [e] at hroom; exact ⟨e, by omega⟩
          · right; rw [q4, e] at hfull; rw [e] at hroom; exact ⟨e, by omega⟩
          · exfalso; rw [q4, e] at hfull; omega
        have go : ∀ M, SetTable.sizeAbove (SetTable.grown (L.length + 1)) - 1 = M → MaskOk M → SetTable.sizeAbove (SetTable.grown (L.length + 1)) ≤ 128 → (L.length + 1) * 5 < M * 3 →
            wpAny (model P w) A (setRelay S (SetTable.grown (L.length + 1))) (fun _ s' => wpAny (model P w) A (pure true) Q E s') E { s with heap := hh1 } := fun M h1' h2' h3' h4' => by
          refine relay_d (s := { s with heap := hh1 }) ho1 ⟨hex.1, hex.2.1, hex.2.2⟩ rfl hin hsz1 q3.dm (by rw [hes, q4]; rcases cases2 with ⟨e, e2⟩ | ⟨e, e2⟩ <;> omega) nd1 tup1 ld1 (by rw [hlen]; exact hfew) h1' h2' h3' (by rw [hlen]; exact h4') ?_
          intro hh2 L2 es2 ep2 t2 sb2 R2 pm2
          exact wpAny_pure (h2 hh2 L2 es2 ep2 t2 hm (sb.trans sb2) R2 (pm2.trans pm))
        rcases cases2 with ⟨_, e2⟩ | ⟨_, e2⟩
        · exact go 31 (by rw [e2, size_20]) (.inr (.inl rfl)) (by rw [e2, size_20]; decide) (by omega)
        · exact go 127 (by rw [e2, size_76]) (.inr (.inr rfl)) (by rw [e2, size_76]; decide) (by omega)
      · refine wp_if_neg (by simp [hf]) ?_
        refine wpAny_pure (h2 hh1 L1 es1 (ep + 1) t1 hm sb ⟨⟨_, ho1, ⟨hex.1, hex.2.1, hex.2.2⟩, rfl⟩, hin, q3, nd1, tup1, ld1, ?_, by rw [hlen]; exact hfew⟩ pm)
        have h := hf
        unfold SetTable.tooFull at h
        rw [decide_eq_true_eq, q9] at h
        rw [hlen]
        omega
    have hmap : (L.map fun p => hN w p.2).length + 1 = L.length + 1 := by rw [List.length_map]
    have r0 := rest t0 q3 q4 q5 (by rw [q9, hmap])
    have r1 := rest { t0 with plain := false } ⟨q3.ris, q3.dm, q3.sz, q3.mok, q3.bd, q3.reach⟩ q4 q5 (by
      show t0.fill = _
      rw [q9, hmap])
    by_cases hpl : t0.plain = true
    · first
        | (refine wpAny_bind ?_; refine wp_if_pos hpl ?_; refine hb_key _ _ 8 _ hx.is _ _ _ fun bb => ?_)
        | (refine wp_if_pos hpl (wpAny_bind (hb_key _ _ 8 _ hx.is _ _ _ fun bb => ?_)))
      cases bb with
      | true =>
        simp only [if_true]
        exact r0
      | false =>
        simp only [Bool.false_eq_true, if_false]
        exact r1
    · first
        | (refine wpAny_bind ?_; refine wp_if_neg hpl ?_; refine wpAny_pure ?_)
        | (refine wp_if_neg hpl (wpAny_bind (wpAny_pure ?_)))
      simp only [if_true]
      exact r0
/-- a row of such tuples -/
def Zt (w : World) (S : Addr) (its : List (Value × D)) (i : Nat) (h : Heap) : Prop := ∃ L es ep t, TabS w h S L es ep t ∧ Gat its i L
theorem feed_tup {S : Addr} {h0 : Heap} {items : Array Value} {ds : List D} (hp : Paired (fun v d => IsN h0 d v) items.toList ds) (few : ∀ l : List D, l.Nodup → (∀ d ∈ l, d ∈ ds) → l.length < 64) : Feed P w S h0 items (Zt w S (items.toList.zip ds)) := by
  have hl := Paired.length hp
  have zin : ∀ p ∈ items.toList.zip ds, IsN h0 p.2 p.1 := by
    clear few hl
    generalize items.toList = vs at hp ⊢
    induction hp with
    | nil => intro p h; cases h
    | cons a t ih =>
      intro p h
      rw [List.zip_cons_cons] at h
      rcases List.mem_cons.mp h with e | h
      · rw [e]; exact a
      · exact ih p h
  refine ⟨fun h _ ho => ⟨[], #[], 0, _, TabS.fresh ho, Gat.zero⟩, fun i h h' ⟨L, es, ep, t, r, g⟩ hk k => ⟨L, es, ep, t, r.keep k fun p hpm => (zin p (g.sub p hpm)).keep hk, g⟩, fun A i v s Q E hu hv hk ⟨L, es, ep, t, r, g⟩ hQ => ?_⟩
  have hi : i < ds.length := by
    rw [← hl, Array.length_toList]
    exact (Array.getElem?_eq_some_iff.mp hv).1
  have hz : (items.toList.zip ds)[i]? = some (v, ds[i]) := by
    rw [List.getElem?_zip_eq_some]
    exact ⟨by rw [Array.getElem?_toList]; exact hv, List.getElem?_eq_getElem hi⟩
  have hzm := List.mem_of_getElem? hz
  have hx := (zin _ hzm).keep hk
  have hdp := hx.dp
  have glen := g.len
  unfold setAdd
  refine wpAny_holding ?_
  refine wpAny_bind (pyHash_key _ _ _ _ _ hx.is (by omega) ?_)
  refine add_d (s := { s with toks := s.toks + (kN ds[i]).draws }) r hx (by omega) (fun hm => ?_) (fun hm => ?_) fun h' L' es' ep' t' hm sb r' pm => ?_
  · have := few (ds[i] :: L.map (·.2)) (List.nodup_cons.mpr ⟨hm, g.nd⟩) fun d hd => ?_
    · rw [List.length_cons, List.length_map] at this
      exact this
    · rcases List.mem_cons.mp hd with rfl | hd
      · exact List.getElem_mem _
      · obtain ⟨p, hp, rfl⟩ := List.mem_map.mp hd
        exact (List.of_mem_zip (g.sub p hp)).2
  · exact hQ _ s.heap _ (Nat.le_add_right _ _) (Heap.SameBut.refl S s.heap) ⟨L, es, ep, t, r, g.same hz hm⟩
  · exact hQ _ h' _ (Nat.le_add_right _ _) sb ⟨L', es', ep', t', r', g.more hz hm pm⟩
end
end Pv
set_option Elab.async false
set_option linter.all false
set_option maxRecDepth 100000
set_option maxHeartbeats 1000000
namespace Pv
open PySem PySem.Spec PyProof.Rows L2 PySem.W

/-! ## less -/
def lexN : List Nat → List Nat → Bool
  | [], [] => false
  | [], _ :: _ => true
  | _ :: _, [] => false
  | a :: as, b :: bs => if Nat.beq a b = true then lexN as bs else Nat.blt a b
def ilt : Int → Int → Bool
  | .ofNat a, .ofNat b => Nat.blt a b
  | .negSucc a, .negSucc b => Nat.blt b a
  | .negSucc _, .ofNat _ => true
  | .ofNat _, .negSucc _ => false
def rowL (eq lt : D → D → Bool) : List D → List D → Bool
  | [], [] => false
  | [], _ :: _ => true
  | _ :: _, [] => false
  | a :: as, b :: bs => if eq a b = true then rowL eq lt as bs else lt a b
def dltF : Nat → D → D → Bool
  | 0, _, _ => false
  | n + 1, a, b => match a, b with
    | .bool x, .bool y => !x && y
    | .int i, .int j => ilt i j
    | .str x, .str y => lexN x.cps.toList y.cps.toList
    | .list xs, .list ys => rowL (deqF n) (dltF n) xs ys
    | .tuple xs, .tuple ys => rowL (deqF n) (dltF n) xs ys
    | _, _ => false
/-- of one shape -/
def shEq : Nat → D → D → Bool
  | 0, _, _ => false
  | n + 1, a, b => match a, b with
    | .none, .none => true
    | .bool _, .bool _ => true
    | .int _, .int _ => true
    | .str _, .str _ => true
    | .list xs, .list ys => allB (shEq n) xs ys
    | .tuple xs, .tuple ys => allB (shEq n) xs ys
    | _, _ => false
def allB2 (f : D → D → Bool) : List D → List D → Bool
  | a :: as, b :: bs => f a b && allB2 f as bs
  | _, _ => true
def alkF : Nat → D → D → Bool
  | 0, _, _ => false
  | n + 1, a, b => match a, b with
    | .none, .none => true
    | .bool _, .bool _ => true
    | .int _, .int _ => true
    | .str _, .str _ => true
    | .list xs, .list ys => allB2 (alkF n) xs ys
    | .tuple xs, .tuple ys => allB2 (alkF n) xs ys
    | _, _ => false
def isTup1 : D → Bool
  | .tuple (_ :: _) => true
  | _ => false
def noTup : D → Bool
  | .tuple _ => false
  | .none => false
  | _ => true
def pairsOk (f : D → D → Bool) (all : List D) : List D → Bool
  | [] => true
  | x :: r => allS (f x) all && pairsOk f all r
/-- can be sorted: alike, not deep -/
def srtOk (xs : List D) : Bool := match xs with
  | [] => true
  | x :: r => (allS (shEq 61 x) xs || pairsOk (alkF 61) xs xs) && (allS isTup1 xs || allS noTup xs) && allS (shal 60) xs && szOk xs.length
def insD (lt : D → D → Bool) (x : D) : List D → List D
  | [] => [x]
  | y :: ys => if lt y x = true then y :: insD lt x ys else x :: y :: ys
def isort (lt : D → D → Bool) : List D → List D
  | [] => []
  | x :: r => insD lt x (isort lt r)
abbrev srtD (xs : List D) : List D := isort (dltF 61) xs

theorem lexN_eq : ∀ a b : List Nat, lexN a b = decide (a < b)
  | [], [] => by simp [lexN]
  | [], _ :: _ => by simp [lexN]
  | _ :: _, [] => by simp [lexN]
  | a :: as, b :: bs => by
    unfold lexN
    rw [lexN_eq as bs]
    by_cases h : a = b
    · subst h
      rw [if_pos (Nat.beq_refl a)]
      simp [List.cons_lt_cons_iff]
    · have hf : Nat.beq a b = false := by
        cases e : Nat.beq a b with
        | false => rfl
        | true => exact absurd (Nat.eq_of_beq_eq_true e) h
      rw [hf, if_neg (by decide)]
      have hb : Nat.blt a b = decide (a < b) := by
        by_cases z : a < b
        · rw [decide_eq_true z]
          exact Nat.ble_eq_true_of_le z
        · rw [decide_eq_false z]
          cases e : Nat.blt a b with
          | false => rfl
          | true => exact absurd (Nat.le_of_ble_eq_true e) z
      rw [hb]
      simp [List.cons_lt_cons_iff, h]
theorem blt_eq (a b : Nat) : Nat.blt a b = decide (a < b) := by
  by_cases z : a < b
  · rw [decide_eq_true z]
    exact Nat.ble_eq_true_of_le z
  · rw [decide_eq_false z]
    cases e : Nat.blt a b with
    | false => rfl
    | true => exact absurd (Nat.le_of_ble_eq_true e) z
theorem ilt_eq : ∀ a b : Int, ilt a b = decide (a < b)
  | .ofNat a, .ofNat b => by
    show Nat.blt a b = _
    rw [blt_eq]
    congr 1
    exact propext Int.ofNat_lt.symm
  | .negSucc a, .negSucc b => by
    show Nat.blt b a = _
    rw [blt_eq]
    congr 1
    exact propext (by omega)
  | .negSucc a, .ofNat b => by
    show true = _
    symm
    rw [decide_eq_true_eq]
    have : (0 : Int) ≤ Int.ofNat b := Int.natCast_nonneg _
    omega
  | .ofNat a, .negSucc b => by
    show false = _
    symm
    rw [decide_eq_false_iff_not]
    have : (0 : Int) ≤ Int.ofNat a := Int.natCast_nonneg _
    omega
theorem alkF_ok : ∀ (n : Nat) (a b : D), alkF n a b = true → alike a b = true := by
  intro n
  induction n with
  | zero => intro a b h; cases h
  | succ n ih =>
    have row : ∀ xs ys : List D, allB2 (alkF n) xs ys = true → alikeAll xs ys = true := by
      intro xs
      induction xs with
      | nil => intro ys _; rw [alikeAll]
      | cons x xs ihx =>
        intro ys h
        cases ys with
        | nil => rw [alikeAll]
        | cons y ys =>
          unfold allB2 at h
          rw [Bool.and_eq_true] at h
          rw [alikeAll, ih x y h.1, ihx ys h.2]
          rfl
    intro a b h
    cases a <;> cases b <;> first
      | (simp only [alike]; done)
      | (simp [alkF] at h; done)
      | (simp only [alike]; exact row _ _ h)
theorem shEq_trans : ∀ (n : Nat) (a b c : D), shEq n a b = true → shEq n a c = true → alike b c = true := by
  intro n
  induction n with
  | zero => intro a b c h; cases h
  | succ n ih =>
    have row : ∀ xs ys zs : List D, allB (shEq n) xs ys = true → allB (shEq n) xs zs = true → alikeAll ys zs = true := by
      intro xs
      induction xs with
      | nil =>
        intro ys zs h1 h2
        cases ys with
        | nil => rw [alikeAll]
        | cons _ _ => cases h1
      | cons x xs ihx =>
        intro ys zs h1 h2
        cases ys with
        | nil => cases h1
        | cons y ys =>
          cases zs with
          | nil => cases h2
          | cons z zs =>
            unfold allB at h1 h2
            rw [Bool.and_eq_true] at h1 h2
            rw [alikeAll, ih x y z h1.1 h2.1, ihx ys zs h1.2 h2.2]
            rfl
    intro a b c h1 h2
    cases a <;> cases b <;> first
      | (simp [shEq] at h1; done)
      | (cases c <;> first
          | (simp [shEq] at h2; done)
          | (simp only [alike]; done)
          | (simp only [alike]; exact row _ _ _ h1 h2))
theorem pairsOk_ok {f : D → D → Bool} {all : List D} : ∀ {l : List D}, pairsOk f all l = true → ∀ a ∈ l, ∀ b ∈ all, f a b = true
  | [], _, a, h => by simp at h
  | x :: r, e, a, h => by
    unfold pairsOk at e
    rw [Bool.and_eq_true] at e
    intro b hb
    rcases List.mem_cons.mp h with rfl | h
    · exact allS_all e.1 b hb
    · exact pairsOk_ok e.2 a h b hb
theorem srtOk_ok {xs : List D} (h : srtOk xs = true) : AllAlike xs ∧ Sortable xs ∧ (∀ d ∈ xs, d.depth ≤ 60) ∧ xs.length ≤ sizeLine := by
  cases xs with
  | nil => exact ⟨fun d hd => (by cases hd), .inr fun d hd => (by cases hd), fun d hd => (by cases hd), Nat.zero_le _⟩
  | cons x r =>
    unfold srtOk at h
    simp only [Bool.and_eq_true, Bool.or_eq_true] at h
    obtain ⟨⟨⟨h1, h2⟩, h3⟩, h4⟩ := h
    refine ⟨?_, ?_, fun d hd => shal_ok (allS_all h3 d hd), szOk_le h4⟩
    · rcases h1 with h1 | h1
      · exact fun d hd d' hd' => shEq_trans 61 x d d' (allS_all h1 d hd) (allS_all h1 d' hd')
      · exact fun d hd d' hd' => alkF_ok 61 d d' (pairsOk_ok h1 d hd d' hd')
    · rcases h2 with h2 | h2
      · refine .inl fun d hd => ?_
        have z := allS_all h2 d hd
        unfold isTup1 at z
        split at z
        · exact ⟨_, _, rfl⟩
        · cases z
      · refine .inr fun d hd => ?_
        have z := allS_all h2 d hd
        unfold noTup at z
        split at z
        · cases z
        · cases z
        · rename_i n1 n2
          exact ⟨n2, fun xs e => n1 xs e⟩
theorem dltF_eq : ∀ (n : Nat) (a b : D), (a.depth < n ∨ b.depth < n) → alike a b = true → dltF n a b = dataLt a b := by
  intro n
  induction n with
  | zero => intro a b h; omega
  | succ n ih =>
    have row : ∀ xs ys : List D, (PyData.depthAll xs < n ∨ PyData.depthAll ys < n) → alikeAll xs ys = true → rowL (deqF n) (dltF n) xs ys = PyProof.Rows.lexLt itemOrd (keyToksAll xs) (keyToksAll ys) := by
      intro xs
      induction xs with
      | nil =>
        intro ys _ _
        cases ys with
        | nil =>
          rw [keyToksAll]
          exact (lex_irrefl (O := itemOrd) _).symm
        | cons y ys =>
          rw [keyToksAll, keyToksAll]
          rfl
      | cons x xs ihx =>
        intro ys hd ha
        cases ys with
        | nil =>
          rw [keyToksAll, keyToksAll]
          rfl
        | cons y ys =>
          obtain ⟨h1, h2⟩ := alike_all_cons ha
          rw [PyData.depthAll, PyData.depthAll] at hd
          rw [dataLt_cons h1]
          unfold rowL
          rw [deqF_eq n x y (by omega), ihx ys (by omega) h2, ih x y (by omega) h1]
    intro a b hd ha
    cases a <;> cases b <;> first
      | (simp [alike] at ha; done)
      | skip
    · rfl
    · rw [dataLt_bool]
      rename_i x y
      cases x <;> cases y <;> rfl
    · rw [dataLt_int]
      exact ilt_eq _ _
    · rw [dataLt_str]
      exact lexN_eq _ _
    · rw [dataLt_list]
      simp only [PyData.depth] at hd
      rw [alike] at ha
      exact row _ _ (by omega) ha
    · rw [dataLt_tuple]
      simp only [PyData.depth] at hd
      rw [alike] at ha
      exact row _ _ (by omega) ha
/-! ### sorted, as it comes out -/
theorem ins_mem {lt : D → D → Bool} {x z : D} : ∀ {l : List D}, z ∈ insD lt x l ↔ z = x ∨ z ∈ l
  | [] => by simp [insD]
  | y :: ys => by
    unfold insD
    split
    · rw [List.mem_cons, ins_mem, List.mem_cons]
      exact ⟨fun h => h.elim (fun e => .inr (.inl e)) fun h => h.elim .inl fun h => .inr (.inr h), fun h => h.elim (fun e => .inr (.inl e)) fun h => h.elim .inl fun h => .inr (.inr h)⟩
    · rw [List.mem_cons]
theorem isort_mem {lt : D → D → Bool} {z : D} : ∀ {l : List D}, z ∈ isort lt l ↔ z ∈ l
  | [] => by simp [isort]
  | x :: r => by
    unfold isort
    rw [ins_mem, isort_mem, List.mem_cons]
theorem ins_congr {lt lt' : D → D → Bool} {x : D} : ∀ {l : List D}, (∀ y ∈ l, lt y x = lt' y x) → insD lt x l = insD lt' x l
  | [], _ => rfl
  | y :: ys, h => by
    unfold insD
    rw [h y (by simp), ins_congr fun z hz => h z (by simp [hz])]
theorem isort_congr {lt lt' : D → D → Bool} : ∀ {l : List D}, (∀ a ∈ l, ∀ b ∈ l, lt a b = lt' a b) → isort lt l = isort lt' l
  | [], _ => rfl
  | x :: r, h => by
    unfold isort
    rw [isort_congr fun a ha b hb => h a (by simp [ha]) b (by simp [hb]), ins_congr fun y hy => h y (by simp [isort_mem.mp hy]) x (by simp)]
theorem isort_len {lt : D → D → Bool} : ∀ (l : List D), (isort lt l).length = l.length
  | [] => rfl
  | x :: r => by
    have key : ∀ l : List D, (insD lt x l).length = l.length + 1 := fun l => by
      induction l with
      | nil => rfl
      | cons y ys ih =>
        unfold insD
        split
        · rw [List.length_cons, ih, List.length_cons]
        · rfl
    unfold isort
    rw [key, isort_len r, List.length_cons]
abbrev leD : D → D → Bool := dataLe false id
theorem leD_eq (a b : D) : leD a b = !dataLt b a := rfl
theorem leD_tot : TotalLe leD := sortLe_total _ _ _
theorem ins_sorted {x : D} : ∀ {l : List D}, l.Pairwise (fun a b => leD a b = true) → (insD dataLt x l).Pairwise (fun a b => leD a b = true)
  | [], _ => by simp [insD]
  | y :: ys, h => by
    obtain ⟨h1, h2⟩ := List.pairwise_cons.mp h
    unfold insD
    split
    · rename_i hyx
      refine List.pairwise_cons.mpr ⟨fun z hz => ?_, ins_sorted h2⟩
      rcases ins_mem.mp hz with rfl | hz
      · rcases leD_tot.total y z with q | q
        · exact q
        · rw [leD_eq, hyx] at q
          cases q
      · exact h1 z hz
    · rename_i hyx
      have hxy : leD x y = true := by
        rw [leD_eq]
        simp [hyx]
      refine List.pairwise_cons.mpr ⟨fun z hz => ?_, h⟩
      rcases List.mem_cons.mp hz with rfl | hz
      · exact hxy
      · exact leD_tot.trans _ _ _ hxy (h1 z hz)
theorem isort_sorted : ∀ l : List D, (isort dataLt l).Pairwise (fun a b => leD a b = true)
  | [] => List.Pairwise.nil
  | x :: r => ins_sorted (isort_sorted r)
theorem ins_filter {x c : D} : ∀ {l : List D}, (insD dataLt x l).filter (sameRank leD c) = (x :: l).filter (sameRank leD c)
  | [] => rfl
  | y :: ys => by
    unfold insD
    split
    · rename_i hyx
      rw [List.filter_cons, ins_filter, List.filter_cons]
      by_cases hx : sameRank leD c x = true
      · have hy : ¬ sameRank leD c y = true := fun z => by
          unfold sameRank at hx z
          rw [Bool.and_eq_true] at hx z
          have q := leD_tot.trans _ _ _ hx.2 z.1
          rw [leD_eq, hyx] at q
          cases q
        rw [if_neg hy, if_pos hx, List.filter_cons, if_pos hx, List.filter_cons, if_neg hy]
      · rw [if_neg hx, List.filter_cons, if_neg hx, List.filter_cons]
    · rfl
theorem isort_filter {c : D} : ∀ l : List D, (isort dataLt l).filter (sameRank leD c) = l.filter (sameRank leD c)
  | [] => rfl
  | x :: r => by
    unfold isort
    rw [ins_filter, List.filter_cons, isort_filter r, ← List.filter_cons]
theorem srtD_eq {xs : List D} (ha : AllAlike xs) (hd : ∀ d ∈ xs, d.depth ≤ 60) : srtD xs = xs.mergeSort leD := by
  have e : srtD xs = isort dataLt xs := isort_congr fun a h1 b h2 => dltF_eq 61 a b (.inl (Nat.lt_succ_of_le (hd a h1))) (ha a h1 b h2)
  rw [e]
  exact sort_unique leD_tot (isort_sorted xs) fun c => isort_filter xs
/-! ### rows of different data have one order -/
mutual
theorem eqv_alike : ∀ (a b : D), alike a b = true → PyData.eqv a b = true → a = b
  | .none, b, h, e => by cases b <;> first | rfl | (simp [alike] at h; done)
  | .bool x, b, h, e => by
    cases b <;> first | (simp [alike] at h; done) | skip
    rw [PyData.eqv, beq_iff_eq] at e
    rw [e]
  | .int x, b, h, e => by
    cases b <;> first | (simp [alike] at h; done) | skip
    rw [PyData.eqv, beq_iff_eq] at e
    rw [e]
  | .str x, b, h, e => by
    cases b <;> first | (simp [alike] at h; done) | skip
    rw [PyData.eqv, beq_iff_eq] at e
    rw [e]
  | .list xs, b, h, e => by
    cases b <;> first | (simp [alike] at h; done) | skip
    rw [alike] at h
    rw [PyData.eqv] at e
    rw [eqv_alikes xs _ h e]
  | .tuple xs, b, h, e => by
    cases b <;> first | (simp [alike] at h; done) | skip
    rw [alike] at h
    rw [PyData.eqv] at e
    rw [eqv_alikes xs _ h e]
  | .dict _, b, h, e => by cases b <;> (simp [alike] at h)
theorem eqv_alikes : ∀ (a b : List D), alikeAll a b = true → PyData.eqvAll a b = true → a = b
  | [], [], _, _ => rfl
  | [], _ :: _, _, e => by rw [PyData.eqvAll] at e; cases e
  | _ :: _, [], _, e => by rw [PyData.eqvAll] at e; cases e
  | x :: xs, y :: ys, h, e => by
    obtain ⟨h1, h2⟩ := alike_all_cons h
    rw [PyData.eqvAll, Bool.and_eq_true] at e
    rw [eqv_alike x y h1 e.1, eqv_alikes xs ys h2 e.2]
end
theorem leD_anti {a b : D} (ha : alike a b = true) (h1 : leD a b = true) (h2 : leD b a = true) : a = b := by
  refine eqv_alike a b ha ?_
  cases e : PyData.eqv a b with
  | true => rfl
  | false =>
    exfalso
    rw [leD_eq, Bool.not_eq_true'] at h1 h2
    have k := (toks_eqv a b ha).2 e
    have et : keyToks a = keyToks b := lex_total (O := itemOrd) _ _ h2 h1
    have k1 := k [.inl 0] [.inl 1]
    have k2 := k [.inl 1] [.inl 0]
    rw [et, lex_pre] at k1 k2
    rw [← k2] at k1
    cases k1
theorem perm_sort {xs ys : List D} (p : xs.Perm ys) (ha : AllAlike ys) (nd : ys.Nodup) : xs.mergeSort leD = ys.mergeSort leD := by
  refine sort_unique leD_tot (sort_pairwise leD_tot xs) fun c => ?_
  rw [sort_stable leD_tot]
  have pf : (xs.filter (sameRank leD c)).Perm (ys.filter (sameRank leD c)) := p.filter _
  have one : ∀ a ∈ ys.filter (sameRank leD c), ∀ b ∈ ys.filter (sameRank leD c), a = b := fun a h1 b h2 => by
    obtain ⟨m1, r1⟩ := List.mem_filter.mp h1
    obtain ⟨m2, r2⟩ := List.mem_filter.mp h2
    unfold sameRank at r1 r2
    rw [Bool.and_eq_true] at r1 r2
    exact leD_anti (ha a m1 b m2) (leD_tot.trans _ _ _ r1.2 r2.1) (leD_tot.trans _ _ _ r2.2 r1.1)
  have nf : (ys.filter (sameRank leD c)).Nodup := nd.filter _
  generalize ys.filter (sameRank leD c) = m at pf one nf
  generalize xs.filter (sameRank leD c) = l at pf
  cases m with
  | nil => exact pf.eq_nil
  | cons x r =>
    cases r with
    | nil => exact pf.eq_singleton
    | cons y r =>
      have := one x (by simp) y (by simp)
      subst this
      simp at nf
end Pv
set_option Elab.async false
set_option linter.all false
set_option maxRecDepth 100000
set_option maxHeartbeats 1000000
namespace Pv
open PySem PySem.Spec PyProof.Rows L2 PySem.W

/-! ## sorted -/
mutual
theorem reads_in {h : Heap} : ∀ (d : D) (v : Value) (as : List Addr), d.plain = true → Reads h v d as → ∀ a ∈ as, ∃ o, h.get? a = some o
  | .none, _, _, _, r => by cases r; intro a ha; cases ha
  | .bool _, _, _, _, r => by cases r; intro a ha; cases ha
  | .int _, _, _, _, r => by cases r; intro a ha; cases ha
  | .str _, _, _, _, r => by cases r; intro a ha; cases ha
  | .list xs, _, _, p, r => by
    cases r with
    | list h1 h2 h3 h4 =>
      rw [PyData.plain] at p
      intro a ha
      rcases List.mem_cons.mp ha with rfl | ha
      · exact ⟨_, h1⟩
      · exact readsAll_in xs _ _ p h4 a ha
  | .tuple xs, _, _, p, r => by
    cases r with
    | tuple h1 h2 h3 h4 =>
      rw [PyData.plain] at p
      exact readsAll_in xs _ _ p h4
  | .dict _, _, _, p, r => by cases p
theorem readsAll_in {h : Heap} : ∀ (ds : List D) (vs : List Value) (as : List Addr), PyData.plainAll ds = true → ReadsAll h vs ds as → ∀ a ∈ as, ∃ o, h.get? a = some o
  | [], _, _, _, r => by cases r; intro a ha; cases ha
  | d :: ds, _, _, p, r => by
    cases r with
    | cons r1 r2 =>
      rw [PyData.plainAll, Bool.and_eq_true] at p
      intro a ha
      rcases List.mem_append.mp ha with ha | ha
      · exact reads_in d _ _ p.1 r1 a ha
      · exact readsAll_in ds _ _ p.2 r2 a ha
end
theorem each_of {R : Value → D → Prop} : ∀ {L : List (Value × D)}, (∀ p ∈ L, R p.1 p.2) → EachIs R (L.map (·.1)) (L.map (·.2))
  | [], _ => .nil
  | p :: r, h => .cons (h p (by simp)) (each_of fun q hq => h q (by simp [hq]))
section
variable {P : Program} {w : World} {A : Around} {E : Value → Shared → Prop} {s : Shared}
/-- a list or a tuple gathered: one new object -/
theorem gather {Q : List Value → Shared → Prop} {it : Addr} {T : String} {o : Obj} {items : Array Value} {n : Nat} (hT : T = "list" ∨ T = "tuple") (ho : s.heap.get? it = some o) (hc : o.cls = .type T) (hd : o.data = .seq items n) (hz : items.size ≤ sizeLine)
    (hQ : ∀ h', (∀ b o', s.heap.get? b = some o' → h'.get? b = some o') → h'.objs.size = s.heap.objs.size + 1 → Q items.toList { s with heap := h' }) : wpAny (model P w) A (collect (.ref it)) Q E s := by
  let nl : Obj := { cls := .type "list", data := .seq ([] : List Value).toArray }
  have e0 : (s.heap.push nl).get? s.heap.objs.size = some { cls := .type "list", data := .seq #[] 0 } := Heap.get?_push_size _ rfl
  have e1 := Heap.get?_update_self (Obj.mapSeq (· ++ items)) e0 rfl
  have last : Q items.toList { s with heap := (s.heap.push nl).update s.heap.objs.size (Obj.mapSeq (· ++ items)) } :=
    hQ _ (fun b o' hb => (Heap.get?_update_other _ _ (Nat.ne_of_gt (Heap.lt_size hb))).trans (Heap.get?_push_of_some _ hb)) (by rw [Heap.size_update, Heap.size_push])
  have tail : wpAny (model P w) A (match Value.ref s.heap.objs.size with
      | Value.ref a => do
        match (← load a).data with
          | Data.seq xs _ => pure xs.toList
          | _ => unsupported "internal:collect"
      | _ => unsupported "internal:collect") Q E { s with heap := (s.heap.push nl).update s.heap.objs.size (Obj.mapSeq (· ++ items)) } := by
    refine wpAny_bind (m := load s.heap.objs.size) (wpAny_load e1 (wpAny_pure ?_))
    have ea : ((#[] : Array Value) ++ items).toList = items.toList := by simp
    show Q ((#[] : Array Value) ++ items).toList _
    rw [ea]
    exact last
  unfold collect
  refine wpAny_bind (wpAny_runValue (codeAny_builtin F.entry_proto_collect ?_))
  rw [Around.under_plainId F.plain_proto_collect _]
  refine wpAny_bind (m := newList []) (wpAny_newObj_type (wpAny_pure ⟨plainId_quiet F.plain_list_iadd _, codeAny_builtin F.entry_list_iadd ?_⟩))
  rw [Around.under_plainId F.plain_list_iadd _]
  refine wpAny_mono (wpAny_extend_seq (hsz := hz) (A := A) (R := fun r s' => r = .ok (.ret (.ref s.heap.objs.size)) ∧ s' = { s with heap := (s.heap.push nl).update s.heap.objs.size (Obj.mapSeq (· ++ items)) })
    (s := { s with heap := s.heap.push nl }) _ it _ 0 hT e0 (Heap.get?_push_of_some _ ho) hc hd ⟨rfl, rfl⟩) (fun fin s' h => ?_) fun e s' h => absurd h.1 (by simp)
  cases fin with
  | done f =>
    obtain ⟨e, rfl⟩ := h
    cases e
    exact tail
  | again c' => exact ⟨h.1, codeAny_mono h.2 fun r s'' hr => by
      obtain ⟨rfl, rfl⟩ := hr
      exact tail⟩
theorem sorted_by {v : Value} {Ls : List (Value × D)} {C : List (Value × D) → Prop} {R : Value → D → Prop} {Q : Value → Shared → Prop}
    (hc : ∀ (Q' : List Value → Shared → Prop), (∀ s' L', (∀ b o, s.heap.get? b = some o → s'.heap.get? b = some o) → s.heap.objs.size ≤ s'.heap.objs.size → s'.gens = s.gens → s'.os = s.os → L'.Perm Ls → C L' → Q' (L'.map (·.1)) s') → wpAny (model P w) A.in1 (collect v) Q' E s)
    (hR : ∀ p ∈ Ls, R p.1 p.2) (hrd : ∀ p ∈ Ls, (∃ as, Reads s.heap p.1 p.2 as) ∧ p.2.plain = true) (hal : AllAlike (Ls.map (·.2))) (hk : Sortable (Ls.map (·.2))) (hdp : ∀ d ∈ Ls.map (·.2), d.depth ≤ 60) (hL : Ls.length ≤ sizeLine) (hu : A.units + 70 < cLine)
    (h : ∀ s' p (out : List Value) L' c, (∀ b o, s.heap.get? b = some o → s'.heap.get? b = some o) → s.heap.objs.size ≤ p → s'.gens = s.gens → s'.os = s.os → s'.heap.get? p = some (seqObj "list" out.toArray c) → L'.Perm Ls → C L' → EachIs R out ((L'.map (·.2)).mergeSort leD) → Q (.ref p) s') :
    wpAny (model P w) A (call (.builtin "sorted") [v]) Q E s := by
  refine Calls.call_function_entry kind_sorted plain_sorted entry_sorted (args_sorted1 _) ?_
  unfold Builtin.«sorted»
  refine wpAny_bind (m := checkCount "sorted" 1 1 _) (wpAny_pure ?_)
  refine wpAny_bind (hc _ fun s1 L' k1 hz g1 o1 pm hC => ?_)
  have hlen : (L'.map (·.1)).length ≤ sizeLine := by
    rw [List.length_map, pm.length_eq]
    exact hL
  refine wpAny_bind (wpAny_newList ?_ hlen)
  have hoL : (s1.heap.push (seqObj "list" (L'.map (·.1)).toArray 0)).get? s1.heap.objs.size = some (seqObj "list" (L'.map (·.1)).toArray 0) := Heap.get?_push_size _ rfl
  have pm2 := pm.map (·.2)
  have mem : ∀ p ∈ L', p ∈ Ls := fun p hp => pm.mem_iff.mp hp
  refine wpAny_bind (wpAny_holding (list_sort_data (s := { s1 with heap := s1.heap.push (seqObj "list" (L'.map (·.1)).toArray 0) }) (A := A.in1) (enc := id) (R := R) (bs := L'.map (·.2)) hoL (each_of fun p hp => hR p (mem p hp)) (each_of fun p hp => ?_)
    (by rw [List.map_id]; exact fun d hd d' hd' => hal d (pm2.mem_iff.mp hd) d' (pm2.mem_iff.mp hd')) (by
      rw [List.map_id]
      exact hk.imp (fun z d hd => z d (pm2.mem_iff.mp hd)) fun z d hd => z d (pm2.mem_iff.mp hd)) (by rw [List.length_map, pm.length_eq]; exact hL) (fun b hb => ?_) fun out ol oe => ?_))
  · obtain ⟨⟨as, r⟩, pl⟩ := hrd p (mem p hp)
    have kk : ∀ b o, s.heap.get? b = some o → (s1.heap.push (seqObj "list" (L'.map (·.1)).toArray 0)).get? b = some o := fun b o e => Heap.get?_push_of_some _ (k1 b o e)
    refine ⟨as, PyProof.Rows.Reads.keeps kk r, fun z => ?_⟩
    obtain ⟨o, e⟩ := reads_in _ _ _ pl r _ z
    exact absurd (Heap.lt_size (k1 _ _ e)) (Nat.lt_irrefl _)
  · have := hdp b (pm2.mem_iff.mp hb)
    show A.units + 1 + 1 + b.depth < cLine
    omega
  · obtain ⟨c, hc2⟩ := sortedHeap_at (vs := L'.map (·.1)) (out := out.toArray) hoL
    refine wpAny_pure ⟨_, rfl, h _ s1.heap.objs.size out L' c (fun b o e => ?_) hz g1 o1 hc2 pm hC oe⟩
    have q := k1 b o e
    have hlt := Heap.lt_size q
    show (sortedHeap (s1.heap.push (seqObj "list" (L'.map (·.1)).toArray 0)) s1.heap.objs.size (L'.map (·.1)) out.toArray).get? b = some o
    rw [sortedHeap_old (Nat.ne_of_lt hlt) (by rw [size_push']; exact Nat.lt_succ_of_lt hlt)]
    exact Heap.get?_push_of_some _ q
end
/-- a value and its datum -/
def RVd (F : Hp) (v : Value) (d : D) : Prop := ∃ u, RelV u v ∧ Dq F u d
theorem zip_of {F : Hp} : ∀ {us : List V} {its : List Value} {ds : List D}, Vals us its → DqAll F us ds → ∀ p ∈ its.zip ds, RVd F p.1 p.2
  | _, _, _, .nil, .nil, p, h => by cases h
  | _, _, _, .cons a t, .cons b u, p, h => by
    rw [List.zip_cons_cons] at h
    rcases List.mem_cons.mp h with rfl | h
    · exact ⟨_, a, b⟩
    · exact zip_of t u p h
theorem each_back {F : Hp} : ∀ {out : List Value} {ds : List D}, EachIs (RVd F) out ds → ∃ us, Vals us out ∧ DqAll F us ds
  | _, _, .nil => ⟨[], .nil, .nil⟩
  | _, _, .cons ⟨u, r, q⟩ t => by
    obtain ⟨us, a, b⟩ := each_back t
    exact ⟨u :: us, .cons r a, .cons q b⟩
theorem zip_fst {α β : Type} : ∀ {as : List α} {bs : List β}, as.length = bs.length → (as.zip bs).map (·.1) = as
  | [], [], _ => rfl
  | [], _ :: _, h => by cases h
  | _ :: _, [], h => by cases h
  | a :: as, b :: bs, h => by rw [List.zip_cons_cons, List.map_cons, zip_fst (Nat.succ.inj h)]
theorem zip_snd {α β : Type} : ∀ {as : List α} {bs : List β}, as.length = bs.length → (as.zip bs).map (·.2) = bs
  | [], [], _ => rfl
  | [], _ :: _, h => by cases h
  | _ :: _, [], h => by cases h
  | a :: as, b :: bs, h => by rw [List.zip_cons_cons, List.map_cons, zip_snd (Nat.succ.inj h)]
section
variable {X : Cx} {pins : List (Addr × Obj)} {σ : Sl} {F H : Hp} {s : Shared}
theorem rvd_reads (I : Inv X pins σ H s) (sm : Same F H) {v : Value} {d : D} (h : RVd F v d) : (∃ as, Reads s.heap v d as) ∧ d.plain = true := by
  obtain ⟨u, r, q⟩ := h
  exact ⟨Dp.reads I d u v (Dq.dp X.K d u (Dq.up sm d u q)) r, q.plain⟩
/-- a new list is tracked, whatever else has come -/
theorem inv_newList (I : Inv X pins σ H s) {s' : Shared} {p : Addr} {out : List Value} {us : List V} {c : Nat} (k : ∀ b o, s.heap.get? b = some o → s'.heap.get? b = some o) (hp : s.heap.objs.size ≤ p) (g : s'.gens = s.gens) (o : s'.os = s.os)
    (hg : s'.heap.get? p = some (seqObj "list" out.toArray c)) (r : Vals us out) (hl : us.length ≤ sizeLine) : Inv X pins σ (upd H p (.lst us)) s' ∧ H p = none := by
  have hn : H p = none := I.hok.fresh hp
  have J : Inv X pins σ (upd H p (.lst us)) { s with heap := s'.heap, gens := s'.gens, drawn := s'.drawn, toks := s'.toks } :=
    I.call (ch := []) (Un.laid k hp hn) (I.hok.laid k hp ⟨hl, out, c, r, hg⟩) (by rw [g]; exact I.bare) (fun _ z => nomatch z)
  have e : s' = { s with heap := s'.heap, gens := s'.gens, drawn := s'.drawn, toks := s'.toks } := by
    cases s'
    cases s
    cases o
    rfl
  exact ⟨e ▸ J, hn⟩
end
theorem sort_len (l : List D) : (l.mergeSort leD).length = l.length := List.length_mergeSort l
/-- sorted(xs), xs a list or a tuple -/
def rSrt (K : PySem.W.Frag) : List V → Hp → VK → Prop := fun xs H Q => ∃ (F : Hp) (k : Bool) (a : Addr) (vs : List V) (ds : List D), Same F H ∧ xs = [.ref a] ∧ SqK K k H a vs ∧ DqAll F vs ds ∧ srtOk ds = true ∧
  ∀ p us, H p = none → DqAll F us (srtD ds) → Q (.ref p) (upd H p (.lst us))
theorem call_srt {X : Cx} (hu : X.A.units + 100 < cLine) : CallR X (.builtin "sorted") (rSrt X.K) := fun pins s σ H xs us Q I r h => by
  obtain ⟨F, k, a, vs, ds, sm, rfl, hq, hd, hok, q⟩ := h
  obtain ⟨u, rfl, rx⟩ := vals1 r
  obtain rfl : u = Value.ref a := rx
  obtain ⟨its, rv, p, hz⟩ := inv_sq I hq
  obtain ⟨hal, hso, hdp, hlen⟩ := srtOk_ok hok
  have hl : its.length = ds.length := by rw [← rv.length, hd.length]
  have z1 := zip_fst hl
  have z2 := zip_snd hl
  have zz := zip_of rv hd
  refine sorted_by (Ls := its.zip ds) (C := fun L' => L' = its.zip ds) (R := RVd F) (fun Q' hQ' => ?_) zz (fun p hp => rvd_reads I sm (zz p hp)) (by rw [z2]; exact hal) (by rw [z2]; exact hso) (by rw [z2]; exact hdp) (by
    rw [List.length_zip, hl, Nat.min_self]
    exact hlen) (by omega) fun s' p out L' c kp hp g o hg pm hC oe => ?_
  · have coll : ∀ {T : String} {o : Obj} {n : Nat}, (T = "list" ∨ T = "tuple") → s.heap.get? a = some o → o.cls = .type T → o.data = .seq its.toArray n → wpAny (model X.prog X.w) X.A.in1 (collect (.ref a)) Q' X.xe s := fun hT ho hc hdt => by
      refine gather hT ho hc hdt (by rw [List.size_toArray, hl]; exact hlen) fun h' hk hsz => ?_
      have e := hQ' { s with heap := h' } (its.zip ds) hk (by
        rw [hsz]
        exact Nat.le_succ _) rfl rfl (.refl _) rfl
      rw [z1] at e
      exact e
    cases k with
    | true =>
      obtain ⟨o, e1, e2, n, e3⟩ := p
      exact coll (.inr rfl) e1 e2 e3
    | false =>
      obtain ⟨o, e1, e2, n, e3⟩ := p
      exact coll (.inl rfl) e1 e2 e3
  · subst hC
    rw [z2, ← srtD_eq hal hdp] at oe
    obtain ⟨us, ru, du⟩ := each_back oe
    have hul : us.length ≤ sizeLine := by
      rw [du.length, srtD, isort_len]
      exact hlen
    obtain ⟨J, hn⟩ := inv_newList I kp hp g o hg ru hul
    exact ⟨.ref p, _, J, rfl, q p us hn du⟩
end Pv
set_option Elab.async false
set_option linter.all false
set_option maxRecDepth 100000
set_option maxHeartbeats 1000000
namespace Pv
open PySem PySem.Spec PyProof.Rows L2 PySem.W

/-! ## sets -/
/-- each once -/
def uqD : List D → List D
  | [] => []
  | x :: r => if anyE x (uqD r) = true then uqD r else x :: uqD r
def isLeaf : D → Bool
  | .int _ => true
  | .str _ => true
  | _ => false
def isKeyT : D → Bool
  | .tuple xs => allS (nkOk 7) xs
  | _ => false
/-- may be gathered in a set -/
def stOk (ds : List D) : Bool := (allS isLeaf ds && Nat.ble ds.length 4000) || (allS isKeyT ds && szOk ds.length && Nat.ble (uqD ds).length 63)
theorem isKeyT_nk {d : D} (h : isKeyT d = true) : nkOk 8 d = true := by
  cases d <;> first | exact h | (cases h)
theorem isLeaf_nk {d : D} (h : isLeaf d = true) : nkOk 8 d = true := by
  cases d <;> first | rfl | (cases h)
mutual
theorem eqv_nk : ∀ (a b : D), (nk a).isSome = true → (nk b).isSome = true → PyData.eqv a b = true → a = b
  | .none, b, _, hb, e => by cases b <;> first | rfl | (simp [PyData.eqv] at e; done) | (simp [nk] at hb; done)
  | .int i, b, _, hb, e => by
    cases b <;> first
      | (rw [PyData.eqv, beq_iff_eq] at e; rw [e]; done)
      | (simp [nk] at hb; done)
      | (simp [PyData.eqv] at e; done)
  | .str x, b, _, hb, e => by
    cases b <;> first
      | (rw [PyData.eqv, beq_iff_eq] at e; rw [e]; done)
      | (simp [nk] at hb; done)
      | (simp [PyData.eqv] at e; done)
  | .tuple xs, b, ha, hb, e => by
    cases b <;> first
      | (simp [nk] at hb; done)
      | (simp [PyData.eqv] at e; done)
      | skip
    rename_i ys
    rw [PyData.eqv] at e
    have h1 : (nks xs).isSome = true := by
      rw [nk] at ha
      split at ha
      · rename_i z
        rw [z]
        rfl
      · cases ha
    have h2 : (nks ys).isSome = true := by
      rw [nk] at hb
      split at hb
      · rename_i z
        rw [z]
        rfl
      · cases hb
    rw [eqv_nks xs ys h1 h2 e]
  | .bool _, _, ha, _, _ => by simp [nk] at ha
  | .list _, _, ha, _, _ => by simp [nk] at ha
  | .dict _, _, ha, _, _ => by simp [nk] at ha
theorem eqv_nks : ∀ (a b : List D), (nks a).isSome = true → (nks b).isSome = true → PyData.eqvAll a b = true → a = b
  | [], [], _, _, _ => rfl
  | [], _ :: _, _, _, e => by rw [PyData.eqvAll] at e; cases e
  | _ :: _, [], _, _, e => by rw [PyData.eqvAll] at e; cases e
  | x :: xs, y :: ys, ha, hb, e => by
    rw [PyData.eqvAll, Bool.and_eq_true] at e
    cases h1 : nks (x :: xs) with
    | none => rw [h1] at ha; cases ha
    | some k1 =>
      cases h2 : nks (y :: ys) with
      | none => rw [h2] at hb; cases hb
      | some k2 =>
        obtain ⟨_, _, a1, a2, _⟩ := nks_some h1
        obtain ⟨_, _, b1, b2, _⟩ := nks_some h2
        rw [eqv_nk x y (by rw [a1]; rfl) (by rw [b1]; rfl) e.1, eqv_nks xs ys (by rw [a2]; rfl) (by rw [b2]; rfl) e.2]
end
/-- keys, not deep -/
def Ky (d : D) : Prop := (nk d).isSome = true ∧ d.depth ≤ 60 ∧ d.plain = true
mutual
theorem nk_depth : ∀ (d : D) (k : NestedKey), nk d = some k → d.depth = k.depth ∧ d.plain = true
  | .none, k, e => by rw [nk] at e; cases e; exact ⟨rfl, rfl⟩
  | .int _, k, e => by rw [nk] at e; cases e; exact ⟨rfl, rfl⟩
  | .str _, k, e => by rw [nk] at e; cases e; exact ⟨rfl, rfl⟩
  | .tuple xs, k, e => by
    obtain ⟨ks, e2, rfl⟩ := nk_tup e
    obtain ⟨h1, h2⟩ := nks_depth xs ks e2
    rw [PyData.depth, NestedKey.depth, PyData.plain, h1]
    exact ⟨rfl, h2⟩
  | .bool _, k, e => by rw [nk] at e; cases e
  | .list _, k, e => by rw [nk] at e; cases e
  | .dict _, k, e => by rw [nk] at e; cases e
theorem nks_depth : ∀ (ds : List D) (ks : List NestedKey), nks ds = some ks → PyData.depthAll ds = NestedKey.depthAll ks ∧ PyData.plainAll ds = true
  | [], ks, e => by rw [nks] at e; cases e; exact ⟨by rw [PyData.depthAll, NestedKey.depthAll], by rw [PyData.plainAll]⟩
  | d :: r, ks, e => by
    obtain ⟨k, ks', e1, e2, rfl⟩ := nks_some e
    obtain ⟨a1, a2⟩ := nk_depth d k e1
    obtain ⟨b1, b2⟩ := nks_depth r ks' e2
    rw [PyData.depthAll, NestedKey.depthAll, PyData.plainAll, a1, b1, a2, b2]
    exact ⟨rfl, rfl⟩
end
theorem ky_of {d : D} (h : nkOk 8 d = true) : Ky d := by
  obtain ⟨k, e, hd⟩ := nk_of 8 d h
  obtain ⟨a, b⟩ := nk_depth d k e
  exact ⟨by rw [e]; rfl, by omega, b⟩
theorem anyE_mem {x : D} (hx : Ky x) {l : List D} (hl : ∀ y ∈ l, Ky y) : anyE x l = true ↔ x ∈ l := by
  rw [anyE_eq hx.2.1, List.any_eq_true]
  constructor
  · rintro ⟨y, hy, e⟩
    rw [← eqv_nk y x (hl y hy).1 hx.1 e]
    exact hy
  · intro h
    exact ⟨x, h, SeqAt.eqv_refl_plain x hx.2.2⟩
theorem uq_sub : ∀ {l : List D} {x : D}, x ∈ uqD l → x ∈ l
  | [], _, h => by cases h
  | y :: r, x, h => by
    unfold uqD at h
    split at h
    · exact List.mem_cons_of_mem _ (uq_sub h)
    · rcases List.mem_cons.mp h with rfl | h
      · exact List.mem_cons_self
      · exact List.mem_cons_of_mem _ (uq_sub h)
theorem uq_ok : ∀ {l : List D}, (∀ y ∈ l, Ky y) → (∀ x, x ∈ uqD l ↔ x ∈ l) ∧ (uqD l).Nodup
  | [], _ => ⟨fun x => Iff.rfl, List.nodup_nil⟩
  | y :: r, h => by
    obtain ⟨h1, h2⟩ := uq_ok (l := r) fun z hz => h z (by simp [hz])
    have am := anyE_mem (h y (by simp)) (l := uqD r) fun z hz => h z (by simp [uq_sub hz])
    unfold uqD
    by_cases c : anyE y (uqD r) = true
    · rw [if_pos c]
      have hm := (h1 y).mp (am.mp c)
      refine ⟨fun x => ?_, h2⟩
      rw [h1 x, List.mem_cons]
      exact ⟨.inr, fun z => z.elim (fun e => e ▸ hm) id⟩
    · rw [if_neg c]
      refine ⟨fun x => ?_, List.nodup_cons.mpr ⟨fun z => c (am.mpr z), h2⟩⟩
      rw [List.mem_cons, List.mem_cons, h1 x]
theorem nodup_le {l : List D} : ∀ {m : List D}, l.Nodup → (∀ x ∈ l, x ∈ m) → l.length ≤ m.length := by
  induction l with
  | nil => intro m _ _; exact Nat.zero_le _
  | cons x r ih =>
    intro m nd h
    obtain ⟨h1, h2⟩ := List.nodup_cons.mp nd
    obtain ⟨a, b, rfl⟩ := List.append_of_mem (h x (by simp))
    have := ih (m := a ++ b) h2 fun z hz => by
      have q := h z (by simp [hz])
      rw [List.mem_append, List.mem_cons] at q
      rw [List.mem_append]
      rcases q with q | rfl | q
      · exact .inl q
      · exact absurd hz h1
      · exact .inr q
    rw [List.length_append] at this
    rw [List.length_cons, List.length_append, List.length_cons]
    omega
section
variable {P : Program} {w : World} {A : Around} {E : Value → Shared → Prop} {s : Shared}
/-- set(xs) has come: S its members, each with its datum -/
theorem set_made {k : Bool} {l : Addr} {its : List Value} {ds : List D} {Q : Value → Shared → Prop} (hh : A.handled = none) (hu : A.units + 30 < cLine) (hl : IsSq k s.heap l its.toArray) (hr : ∀ p ∈ its.zip ds, ∃ as, Reads s.heap p.1 p.2 as) (hlen : its.length = ds.length) (hok : stOk ds = true)
    (h : ∀ (h' : Heap) (tk : Nat) hash L, SetD w s.heap.objs.size hash L h' → (∀ p ∈ L, p ∈ its.zip ds) → (L.map (·.2)).Nodup → (∀ d, d ∈ L.map (·.2) ↔ d ∈ ds) → (∀ b o, s.heap.get? b = some o → h'.get? b = some o) → Q (.ref s.heap.objs.size) { s with heap := h', toks := tk }) :
    wpAny (model P w) A (call (.type "set") [.ref l]) Q E s := by
  have hz2 := zip_snd hlen
  have tk : ((its.zip ds).take its.toArray.size).map (·.2) = ds := by
    rw [List.size_toArray, List.take_of_length_le (by rw [List.length_zip]; exact Nat.min_le_left _ _), hz2]
  have pr : ∀ {R : Value → D → Prop}, (∀ p ∈ its.zip ds, R p.1 p.2) → Paired R its ds := fun {R} hR => by
    clear hr hz2 tk hok h hl
    induction its generalizing ds with
    | nil =>
      cases ds with
      | nil => exact .nil
      | cons _ _ => cases hlen
    | cons a r ih =>
      cases ds with
      | nil => cases hlen
      | cons d t => exact .cons (hR (a, d) (by simp)) (ih (Nat.succ.inj hlen) fun p hp => hR p (by rw [List.zip_cons_cons]; exact List.mem_cons_of_mem _ hp))
  unfold stOk at hok
  rw [Bool.or_eq_true] at hok
  rcases hok with hok | hok
  · rw [Bool.and_eq_true] at hok
    have hk := allS_all hok.1
    have hn := Nat.le_of_ble_eq_true hok.2
    have hk2 : ∀ d ∈ ds, (keyOf d).isSome = true := fun d hd => by
      have z := hk d hd
      cases d <;> first | rfl | (cases z)
    refine feed_call hh hu hl (feed_scan (P := P) (w := w) (S := s.heap.objs.size) (h0 := s.heap) (items := its.toArray) (ds := ds) ?_ hk2 (by unfold scanBound; omega)) fun h' tk' ⟨L, r, g⟩ kp => ?_
    · show Paired _ its ds
      refine pr fun p hp => ?_
      obtain ⟨as, rd⟩ := hr p hp
      have z := hk p.2 (List.of_mem_zip hp).2
      obtain ⟨v, d⟩ := p
      have rd : Reads s.heap v d as := rd
      have z : isLeaf d = true := z
      show (mixKind P w).is (kT d) v = true ∧ v.scannable = true
      cases d <;> first
        | (cases z; done)
        | (cases rd; exact ⟨kV_is (k := .inl _) ⟨_, rfl⟩, rfl⟩)
        | (cases rd; exact ⟨kV_is (k := .inr _) ⟨_, rfl⟩, rfl⟩)
    · exact h h' tk' _ L r g.sub g.nd (fun d => by rw [g.all d, tk]) kp
  · rw [Bool.and_eq_true, Bool.and_eq_true] at hok
    have hk := allS_all hok.1.1
    have hn := Nat.le_of_ble_eq_true hok.2
    have hky : ∀ y ∈ ds, Ky y := fun y hy => ky_of (isKeyT_nk (hk y hy))
    obtain ⟨u1, u2⟩ := uq_ok hky
    refine feed_call hh hu hl (feed_tup (P := P) (w := w) (S := s.heap.objs.size) (h0 := s.heap) (items := its.toArray) (ds := ds) ?_ fun l nd sb => ?_) fun h' tk' ⟨L, es, ep, t, r, g⟩ kp => ?_
    · show Paired _ its ds
      refine pr fun p hp => ?_
      obtain ⟨as, rd⟩ := hr p hp
      have z := hk p.2 (List.of_mem_zip hp).2
      obtain ⟨v, d⟩ := p
      have rd : Reads s.heap v d as := rd
      have z : isKeyT d = true := z
      obtain ⟨kk, e, hd⟩ := nk_of 8 d (isKeyT_nk z)
      refine ⟨?_, ?_, ?_, by rw [e]; rfl⟩
      · cases d <;> first
          | (cases z; done)
          | (cases rd; exact ⟨_, rfl⟩)
      · rw [kN_of e]
        exact nk_is d v as kk rd e
      · rw [kN_of e]
        exact hd
    · have := nodup_le (m := uqD ds) nd fun x hx => (u1 x).mpr (sb x hx)
      omega
    · exact h h' tk' _ L r.setD g.sub g.nd (fun d => by rw [g.all d, tk]) kp
end
/-- what the items are, and what may be known of them -/
def onSt (xs : D → Option (List D)) : Prop := True
def seqD : D → Option (List D)
  | .list xs => some xs
  | .tuple xs => some xs
  | _ => none
def ssX (x : XV) (ρ : Env) : R XV := match pk ρ x with
  | some d => match seqD d with
    | some ds => if (stOk ds && srtOk (uqD ds)) = true then .ok (.v (.c .own (.l (srtD (uqD ds))))) ρ else .bad
    | none => .bad
  | none => .bad
def lsX (x : XV) (ρ : Env) : R XV := match pk ρ x with
  | some d => match seqD d with
    | some ds => if stOk ds = true then .ok (.v (.d (.int (uqD ds).length))) ρ else .bad
    | none => .bad
  | none => .bad
def fSSet (f : FE) : FE := fun ρ => (f ρ).bind ssX
def fLSet (f : FE) : FE := fun ρ => (f ρ).bind lsX
/-- a list or a tuple of data -/
def SqDat (K : PySem.W.Frag) (F H : Hp) (v : V) (ds : List D) : Prop := ∃ (k : Bool) (a : Addr) (vs : List V), v = .ref a ∧ SqK K k H a vs ∧ DqAll F vs ds
theorem sqDat {K : PySem.W.Frag} {F H : Hp} {v : V} {d : D} {ds : List D} (sm : Same F H) (h : Pk F H v d) (e : seqD d = some ds) : SqDat K F H v ds := by
  unfold seqD at e
  split at e
  · cases e
    cases h with
    | lst a b => exact ⟨false, _, _, rfl, SqL.of a, b⟩
  · cases e
    cases h with
    | tup a b => exact ⟨true, _, _, rfl, SqT.of (sm _ _ a), b⟩
  · cases e
section
variable {X : Cx} {G : Gd} {a : Expr} {f : FE} {p p2 q pos : Pos}
theorem ky_all {ds : List D} (h : stOk ds = true) : ∀ y ∈ ds, Ky y := fun y hy => by
  unfold stOk at h
  rw [Bool.or_eq_true] at h
  rcases h with h | h
  · rw [Bool.and_eq_true] at h
    exact ky_of (isLeaf_nk (allS_all h.1 y hy))
  · rw [Bool.and_eq_true, Bool.and_eq_true] at h
    exact ky_of (isKeyT_nk (allS_all h.1.1 y hy))
/-- set(e), e gone through; behind it S -/
theorem run_set {F H : Hp} {ds : List D} {pins : List (Addr × Obj)} {s : Shared} {σ : Sl} {v : V} {u : Value} {Q : Value → Shared → Prop} (hc : X.calm = true) (hu : X.A.units + 100 < cLine) (I : Inv X pins σ H s) (sm : Same F H) (r : RelV v u) (hs : SqDat X.K F H v ds) (hok : stOk ds = true)
    (h : ∀ (h' : Heap) (tk : Nat) hash L, Inv X pins σ H { s with heap := h', toks := tk } → SetD X.w s.heap.objs.size hash L h' → (∀ p ∈ L, RVd F p.1 p.2) → (L.map (·.2)).Perm (uqD ds) → Q (.ref s.heap.objs.size) { s with heap := h', toks := tk }) :
    wpAny (model X.prog X.w) X.A (call (.type "set") [u]) Q X.xe s := by
  obtain ⟨k, l, vs, rfl, hq, hd⟩ := hs
  obtain rfl : u = Value.ref l := r
  obtain ⟨its, rv, pp, hz⟩ := inv_sq I hq
  have hl : its.length = ds.length := by rw [← rv.length, hd.length]
  have zz := zip_of rv hd
  refine set_made (I.ok.hd hc) (by omega) pp (fun p hp => (rvd_reads I sm (zz p hp)).1) hl hok fun h' tk hash L R sub nd all kp => ?_
  obtain ⟨u1, u2⟩ := uq_ok (ky_all hok)
  exact h h' tk hash L (I.kept kp) R (fun p hp => zz p (sub p hp)) ((List.perm_ext_iff_of_nodup nd u2).mpr fun d => by rw [all d, u1 d])
theorem c_sset (hK : G.K = X.K) (hc : X.calm = true) (hu : X.A.units + 100 < cLine) (hm : X.mg "sorted" = none) (hm2 : X.mg "set" = none) (ha : PE X a (tE G f)) (hg : Gl X "sorted" := by rfl) (hg2 : Gl X "set" := by rfl) (na : starEach [a] X.env = (false, eval a X.env) :: starEach [] X.env := by rfl) :
    PE X (.Call (.Name "sorted" p) [.Call (.Name "set" p2) [a] [] q] [] pos) (tE G (fSSet f)) := by
  refine ⟨fun pins s σ H Q I ⟨F, ρ, rl, pp⟩ => ?_⟩
  refine Call_ (ld_blt I hg hm PyProof.Rows.boot_sorted ?_)
  refine PyProof.Rows.callWith_builtin1 (PyProof.Rows.args_cons ?_ rfl) rfl rfl
  refine Call_ (ld_blt I hg2 hm2 PyProof.Rows.boot_set ?_)
  refine PyProof.Rows.callWith_type1 (PyProof.Rows.args_cons (thn (ha.run pins s σ H (fun v H1 => ∃ F1 ds, Same F1 H1 ∧ SqDat X.K F1 H1 v ds ∧ (stOk ds && srtOk (uqD ds)) = true ∧ ∀ pp us, H1 pp = none → DqAll F1 us (srtD (uqD ds)) → Q (.ref pp) (upd H1 pp (.lst us))) I
    ⟨F, ρ, rl, pp.seq.mono fun x ρ1 F1 H1 _ _ _ ⟨rl1, e1, p1⟩ v hv _ => ?_⟩) fun u s1 ⟨v, H1, I1, r1, q1⟩ => PyProof.Rows.args_nil ?_) na) na rfl
  · unfold ssX at p1
    split at p1
    · rename_i d ed
      split at p1
      · rename_i ds es
        split at p1
        · rename_i hok
          rw [← hK]
          refine ⟨F1, ds, rl1.sub, sqDat rl1.sub (pk_ok rl1 hv ed) es, hok, fun pp us np hd => ?_⟩
          have nv := new_lst (K := G.K) rl1.sub np hd
          exact p1 _ _ (rl1.br (Br.own rl1.sub np)) (Br.own rl1.sub np).ext _ (nv.rep rl1) (nv.fr.back e1)
        · exact p1.elim
      · exact p1.elim
    · exact p1.elim
  · obtain ⟨F1, ds, sm, hs, hok, q1⟩ := q1
    rw [Bool.and_eq_true] at hok
    refine run_set hc hu I1 sm r1 hs hok.1 fun h' tk hash L I2 R hR pm => PyProof.Rows.args_nil ?_
    obtain ⟨hal, hso, hdp, hlen⟩ := srtOk_ok hok.2
    have hmem : ∀ d, d ∈ L.map (·.2) → d ∈ uqD ds := fun d hd => pm.mem_iff.mp hd
    obtain ⟨o, es, ep, t, ho, hex, hd, hrow, hb, hf, hris, hled⟩ := R
    refine sorted_by (s := { s1 with heap := h', toks := tk }) (Ls := L) (C := fun _ => True) (R := RVd F1) (fun Q' hQ' => ?_) hR (fun p hp => rvd_reads I2 sm (hR p hp)) (fun d hd d' hd' => hal d (hmem d hd) d' (hmem d' hd')) (hso.imp (fun z d hd => z d (hmem d hd)) fun z d hd => z d (hmem d hd)) (fun d hd => hdp d (hmem d hd)) (by
      have := pm.length_eq
      rw [List.length_map] at this
      omega) (by omega) fun s' pp out L' c kp hp g o hg pm' _ oe => ?_
    · refine collect_set (A := X.A.in1) (hd1 (I2.ok.hd hc)) ⟨o, ho, hex.1, hd⟩ hf hb hris hled fun s' out kp hz g o pmo => ?_
      have e1 : es.toList.map (·.2) = L.map (·.1) := by rw [hrow, List.map_map]; rfl
      rw [e1] at pmo
      obtain ⟨L', pL, eL⟩ := perm_lift pmo L rfl
      rw [eL]
      exact hQ' s' L' kp hz g o pL trivial
    · have es2 : (L'.map (·.2)).mergeSort leD = srtD (uqD ds) := by
        rw [srtD_eq hal hdp]
        exact perm_sort ((pm'.map (·.2)).trans pm) hal (uq_ok (ky_all hok.1)).2
      rw [es2] at oe
      obtain ⟨us, ru, du⟩ := each_back oe
      have hul : us.length ≤ sizeLine := by
        rw [du.length, srtD, isort_len]
        exact hlen
      obtain ⟨J, hn⟩ := inv_newList I2 kp hp g o hg ru hul
      exact ⟨.ref pp, _, J, rfl, q1 pp us hn du⟩
theorem c_lset (hK : G.K = X.K) (hc : X.calm = true) (hu : X.A.units + 100 < cLine) (hm : X.mg "len" = none) (hm2 : X.mg "set" = none) (ha : PE X a (tE G f)) (hg : Gl X "len" := by rfl) (hg2 : Gl X "set" := by rfl) (na : starEach [a] X.env = (false, eval a X.env) :: starEach [] X.env := by rfl) :
    PE X (.Call (.Name "len" p) [.Call (.Name "set" p2) [a] [] q] [] pos) (tE G (fLSet f)) := by
  refine ⟨fun pins s σ H Q I ⟨F, ρ, rl, pp⟩ => ?_⟩
  refine Call_ (ld_blt I hg hm PySem.boot_len ?_)
  refine PyProof.Rows.callWith_builtin1 (PyProof.Rows.args_cons ?_ rfl) rfl rfl
  refine Call_ (ld_blt I hg2 hm2 PyProof.Rows.boot_set ?_)
  refine PyProof.Rows.callWith_type1 (PyProof.Rows.args_cons (thn (ha.run pins s σ H (fun v H1 => ∃ F1 ds, Same F1 H1 ∧ SqDat X.K F1 H1 v ds ∧ stOk ds = true ∧ Q (.int (uqD ds).length) H1) I
    ⟨F, ρ, rl, pp.seq.mono fun x ρ1 F1 H1 _ _ _ ⟨rl1, e1, p1⟩ v hv _ => ?_⟩) fun u s1 ⟨v, H1, I1, r1, q1⟩ => PyProof.Rows.args_nil ?_) na) na rfl
  · unfold lsX at p1
    split at p1
    · rename_i d ed
      split at p1
      · rename_i ds es
        split at p1
        · rename_i hok
          rw [← hK]
          exact ⟨F1, ds, rl1.sub, sqDat rl1.sub (pk_ok rl1 hv ed) es, hok, p1.here rl1 _ (.int _) trivial⟩
        · exact p1.elim
      · exact p1.elim
    · exact p1.elim
  · obtain ⟨F1, ds, sm, hs, hok, q1⟩ := q1
    refine run_set hc hu I1 sm r1 hs hok fun h' tk hash L I2 R hR pm => PyProof.Rows.args_nil ?_
    obtain ⟨o, es, ep, t, ho, hex, hd, hrow, hb, hf, hris, hled⟩ := R
    have hn : es.size = (uqD ds).length := by
      rw [← Array.length_toList, hrow, List.length_map, ← pm.length_eq, List.length_map]
    have hb' := hb
    unfold scanBound at hb'
    refine call_len_set (s := { s1 with heap := h', toks := tk }) ho hex hd hf (by omega) ⟨.int (uqD ds).length, H1, I2.tok _, ⟨_, by rw [hn]⟩, q1⟩
end
end Pv
set_option Elab.async false
set_option linter.all false
set_option maxRecDepth 100000
set_option maxHeartbeats 1000000
namespace Pv
open PySem PySem.Spec PyProof.Rows L2

/-! ## a op b op' c -/
def isBo (x : XV) : Option Bool := match x with
  | .v (.d (.bool b)) => some b
  | _ => none
def fCh (h h' : PV → PV → Option SV) (fa fb fc : FE) : FE := fun ρ => (fa ρ).bind fun x ρ1 => (fb ρ1).bind fun y ρ2 => (onX h x y ρ2).bind fun z ρ3 => match isBo z with
  | some true => (fc ρ3).bind fun w ρ4 => onX h' y w ρ4
  | some false => .ok (.v (.d (.bool false))) ρ3
  | none => .bad
theorem isBo_some {z : XV} {b : Bool} (h : isBo z = some b) : z = .v (.d (.bool b)) := by
  unfold isBo at h
  split at h
  · cases h
    rfl
  · cases h
section
variable {X : Cx} {G : Gd} {a b c : Expr} {fa fb fc : FE} {pos : Pos} {r r' : R2} {h h' : PV → PV → Option SV}
theorem fCh_in (hr : RuleX G.K r h) (hr' : RuleX G.K r' h') {σ : Sl} {H : Hp} {Q : VK} (q : tE G (fCh h h' fa fb fc) σ H Q) : tChain r r' (tE G fa) (tE G fb) (tE G fc) σ H Q := by
  obtain ⟨F, ρ, rl, p⟩ := q
  refine ⟨F, ρ, rl, p.seq.mono fun x ρ1 F1 H1 _ _ _ ⟨rl1, e1, p1⟩ v hv _ => ⟨F1, ρ1, rl1, p1.seq.mono fun y ρ2 F2 H2 _ _ _ ⟨rl2, e2, p2⟩ u hu _ => ?_⟩⟩
  have hv2 := hv.keep e2
  unfold onX at p2
  split at p2
  · rename_i pa ea
    split at p2
    · rename_i pb eb
      split at p2
      · rename_i s es
        have p2 : PE' G σ ρ2 F2 H2 (match isBo (.v s) with
          | some true => (fc ρ2).bind fun w ρ4 => onX h' y w ρ4
          | some false => .ok (.v (.d (.bool false))) ρ2
          | none => .bad) _ := p2
        refine hr F2 H2 v u pa pb s _ rl2.sub (pkX_ok rl2 hv2 ea) (pkX_ok rl2 hu eb) es fun F3 H3 z br nv => ?_
        cases ez : isBo (.v s) with
        | none =>
          rw [ez] at p2
          exact p2.elim
        | some k =>
          rw [ez] at p2
          have es' := isBo_some ez
          cases es'
          have nv : Dq F3 z (.bool k) := nv
          cases nv
          have rl3 := rl2.br br
          refine ⟨k, rfl, ?_⟩
          cases k with
          | true =>
            have p2' : PE' G σ ρ2 F2 H2 ((fc ρ2).bind fun w ρ4 => onX h' y w ρ4) _ := p2
            have p3 := PE'.from (ρ1 := ρ2) p2' br.ext
            refine iteT ⟨F3, ρ2, rl3, p3.seq.mono fun wv ρ4 F4 H4 _ _ _ ⟨rl4, e4, p4⟩ w' hw _ => ?_⟩
            have hu4 := (hu.keep br.ext).keep e4
            unfold onX at p4
            split at p4
            · rename_i pa' ea'
              split at p4
              · rename_i pb' eb'
                split at p4
                · rename_i s' es'
                  refine hr' F4 H4 u w' pa' pb' s' Q rl4.sub (pkX_ok rl4 hu4 ea') (pkX_ok rl4 hw eb') es' fun F5 H5 w5 br5 nv5 => ?_
                  exact p4 F5 H5 (rl4.br br5) br5.ext w5 (nv5.rep rl4) (nv5.fr.back (e1.trans (e2.trans (br.ext.trans e4))))
                · exact p4.elim
              · exact p4.elim
            · exact p4.elim
          | false =>
            have p2' : PE' G σ ρ2 F2 H2 (R.ok (XV.v (.d (.bool false))) ρ2) _ := p2
            have p3 := PE'.from (ρ1 := ρ2) p2' br.ext
            exact iteF (p3.here rl3 _ (.bl false) trivial)
      · exact p2.elim
    · exact p2.elim
  · exact p2.elim
theorem x_chain {op op' : CmpOp} (ho : OpR X (compareOp op) r) (hr : RuleX G.K r h) (ho' : OpR X (compareOp op') r') (hr' : RuleX G.K r' h') (ha : PE X a (tE G fa)) (hb : PE X b (tE G fb)) (hc : PE X c (tE G fc)) (hm : lastMarks [op, op'] [b, c] = false := by with_unfolding_all rfl) :
    PE X (.Compare a [op, op'] [b, c] pos) (tE G (fCh h h' fa fb fc)) := PE.of (pe_chain ho ho' ha hb hc hm) fun _ _ _ q => fCh_in hr hr' q
theorem xt_chain {op op' : CmpOp} (ho : OpR X (compareOp op) r) (hr : RuleX G.K r h) (ho' : OpR X (compareOp op') r') (hr' : RuleX G.K r' h') (ha : PE X a (tE G fa)) (hb : PE X b (tE G fb)) (hc : PE X c (tE G fc)) (hm : lastMarks [op, op'] [b, c] = false := by with_unfolding_all rfl) :
    PT X (.Compare a [op, op'] [b, c] pos) (tT G (fB (fCh h h' fa fb fc))) := PT.of (pt_chain ho ho' ha hb hc hm) fun _ _ _ q => fCh_in hr hr' (fB_in q)
end

/-! ## built-ins by what is peeked -/
def pksX (ρ : Env) : List XV → Option (List PV)
  | [] => some []
  | x :: r => match pkX ρ x with
    | some d => match pksX ρ r with
      | some ds => some (d :: ds)
      | none => none
    | none => none
theorem pksX_ok {K : PySem.W.Frag} {s0 : Sl} {F H : Hp} {σ : Sl} {ρ : Env} (rl : Rel K s0 F H σ ρ) : ∀ {xs : List XV} {ds : List PV} {vs : List V}, RepXs K F H σ ρ vs xs → pksX ρ xs = some ds → Paired (PkX K F H) vs ds
  | [], ds, vs, h, e => by
    cases e
    cases h
    exact .nil
  | x :: r, ds, vs, h, e => by
    cases h with
    | cons a t =>
      unfold pksX at e
      split at e
      · rename_i d ed
        split at e
        · rename_i es ee
          cases e
          exact .cons (pkX_ok rl a ed) (pksX_ok rl t ee)
        · cases e
      · cases e
def onNX (h : List PV → Option SV) (xs : List XV) (ρ : Env) : R XV := match pksX ρ xs with
  | some ds => match h ds with
    | some s => .ok (.v s) ρ
    | none => .bad
  | none => .bad
def fNX (h : List PV → Option SV) (g : FA) : FE := fun ρ => (g ρ).bind (onNX h)
def RuleNX (K : PySem.W.Frag) (r : List V → Hp → VK → Prop) (h : List PV → Option SV) : Prop :=
  ∀ (F H : Hp) (vs : List V) (ds : List PV) (s : SV) (Q : VK), Same F H → Paired (PkX K F H) vs ds → h ds = some s → (∀ F' H' w, Br F H F' H' → NewV K H F' H' w s → Q w H') → r vs H Q
theorem fNX_in {G : Gd} {r : List V → Hp → VK → Prop} {h : List PV → Option SV} {g : FA} (hr : RuleNX G.K r h) {σ : Sl} {H : Hp} {Q : VK} (q : tE G (fNX h g) σ H Q) : tCB r (tA G g) σ H Q := by
  obtain ⟨F, ρ, rl, p⟩ := q
  refine ⟨F, ρ, rl, p.seq.mono fun xs ρ1 F1 H1 _ _ _ ⟨rl1, e1, p1⟩ vs hvs => ?_⟩
  unfold onNX at p1
  split at p1
  · rename_i ds ed
    split at p1
    · rename_i s es
      exact hr F1 H1 vs ds s Q rl1.sub (pksX_ok rl1 hvs ed) es fun F' H' w b nv => p1 F' H' (rl1.br b) b.ext w (nv.rep rl1) (nv.fr.back e1)
    · exact p1.elim
  · exact p1.elim
section
variable {X : Cx} {G : Gd} {x : Str} {p pos : Pos} {e : Expr} {es : List Expr} {g : FA} {id T : String} {r : List V → Hp → VK → Prop} {h : List PV → Option SV}
theorem x_callB (hc : CallR X (.builtin id) r) (hr : RuleNX G.K r h) (hm : X.mg x = none) (hv : bootBuiltins x = some (.builtin id)) (ha : PA X (e :: es) (tA G g)) (hg : Gl X x := by rfl) (hn : x ≠ "__name__" := by decide) (hdb : (x == ("__debug__" : Str)) = false := by decide)
    (he : starEach (e :: es) X.env = (false, eval e X.env) :: starEach es X.env := by rfl) (hpl : (backTo pos (starEach es X.env)).any (·.1) = false := by rfl) : PE X (.Call (.Name x p) (e :: es) [] pos) (tE G (fNX h g)) :=
  PE.of (pe_callB hc hg hm hv ha hn hdb he hpl) fun _ _ _ q => fNX_in hr q
theorem x_callTy (hc : CallR X (.type T) r) (hr : RuleNX G.K r h) (hm : X.mg x = none) (hv : bootBuiltins x = some (.type T)) (ha : PA X (e :: es) (tA G g)) (hg : Gl X x := by rfl) (hn : x ≠ "__name__" := by decide) (hdb : (x == ("__debug__" : Str)) = false := by decide)
    (he : starEach (e :: es) X.env = (false, eval e X.env) :: starEach es X.env := by rfl) (hpl : (backTo pos (starEach es X.env)).any (·.1) = false := by rfl) : PE X (.Call (.Name x p) (e :: es) [] pos) (tE G (fNX h g)) :=
  PE.of (pe_callTy hc hg hm hv ha hn hdb he hpl) fun _ _ _ q => fNX_in hr q
end
/-- the rows that may be walked as they stand -/
def pvRow : PV → Option (List D)
  | .d (.list xs) => some xs
  | .d (.tuple xs) => some xs
  | .z xs => some xs
  | _ => none
theorem pvRow_ok {K : PySem.W.Frag} {F H : Hp} {v : V} {p : PV} {xs : List D} (sm : Same F H) (h : PkX K F H v p) (e : pvRow p = some xs) : SqDat K F H v xs := by
  unfold pvRow at e
  split at e
  · cases e
    exact sqDat sm h rfl
  · cases e
    exact sqDat sm h rfl
  · cases e
    obtain ⟨a, vs, rfl, h1, h2⟩ := h
    exact ⟨false, a, vs, rfl, h1, h2⟩
  · cases e
theorem sq_or {K : PySem.W.Frag} {k : Bool} {H : Hp} {a : Addr} {vs : List V} (h : SqK K k H a vs) : SqL K H a vs ∨ SqT K H a vs := by
  cases k
  · exact .inl h
  · exact .inr h
/-- len -/
def hLen : List PV → Option SV
  | [.d (.str x)] => if szOk x.cps.size = true then some (.d (.int x.cps.size)) else none
  | [p] => match pvRow p with
    | some xs => some (.d (.int xs.length))
    | none => none
  | _ => none
abbrev rLn (K : PySem.W.Frag) : List V → Hp → VK → Prop := fun xs H Q => (∃ p ys, xs = [.ref p] ∧ (SqL K H p ys ∨ SqT K H p ys) ∧ Q (.int ys.length) H) ∨ ∃ z, xs = [.str z] ∧ z.length ≤ sizeLine ∧ Q (.int z.length) H
/-- list, tuple of a row -/
def hList : List PV → Option SV
  | [p] => match pvRow p with
    | some xs => some (.c .own (.l xs))
    | none => none
  | _ => none
def hTuple : List PV → Option SV
  | [p] => match pvRow p with
    | some xs => some (.d (.tuple xs))
    | none => none
  | _ => none
def hInt : List PV → Option SV
  | [.d (.int i)] => some (.d (.int i))
  | [.d (.bool b)] => some (.d (.int (if b = true then 1 else 0)))
  | _ => none
/-- all, any of truths -/
def boolsT : List D → Option Bool
  | [] => some true
  | .bool b :: r => match boolsT r with
    | some c => some (b && c)
    | none => none
  | _ :: _ => none
def boolsF : List D → Option Bool
  | [] => some false
  | .bool b :: r => match boolsF r with
    | some c => some (b || c)
    | none => none
  | _ :: _ => none
def hAll : List PV → Option SV
  | [p] => match pvRow p with
    | some xs => match boolsT xs with
      | some b => some (.d (.bool b))
      | none => none
    | none => none
  | _ => none
def hAny : List PV → Option SV
  | [p] => match pvRow p with
    | some xs => match boolsF xs with
      | some b => some (.d (.bool b))
      | none => none
    | none => none
  | _ => none
def hSorted : List PV → Option SV
  | [p] => match pvRow p with
    | some xs => if srtOk xs = true then some (.c .own (.l (srtD xs))) else none
    | none => none
  | _ => none
theorem boolsT_ok : ∀ {xs : List D} {b : Bool}, boolsT xs = some b → xs.all PyData.truthy = b ∧ (∀ x ∈ xs, PyData.fits63 x) := by
  intro xs
  induction xs with
  | nil =>
    intro b h
    cases h
    exact ⟨rfl, fun x hx => by cases hx⟩
  | cons x r ih =>
    intro b h
    cases x <;> first
      | (simp [boolsT] at h; done)
      | skip
    rename_i c
    have h' : (match boolsT r with | some d => some (c && d) | none => none) = some b := h
    split at h'
    · rename_i d e
      cases h'
      obtain ⟨h1, h2⟩ := ih e
      refine ⟨by rw [List.all_cons, h1]; rfl, fun x hx => ?_⟩
      rcases List.mem_cons.mp hx with rfl | hx
      · exact trivial
      · exact h2 x hx
    · cases h'
theorem boolsF_ok : ∀ {xs : List D} {b : Bool}, boolsF xs = some b → xs.any PyData.truthy = b ∧ (∀ x ∈ xs, PyData.fits63 x) := by
  intro xs
  induction xs with
  | nil =>
    intro b h
    cases h
    exact ⟨rfl, fun x hx => by cases hx⟩
  | cons x r ih =>
    intro b h
    cases x <;> first
      | (simp [boolsF] at h; done)
      | skip
    rename_i c
    have h' : (match boolsF r with | some d => some (c || d) | none => none) = some b := h
    split at h'
    · rename_i d e
      cases h'
      obtain ⟨h1, h2⟩ := ih e
      refine ⟨by rw [List.any_cons, h1]; rfl, fun x hx => ?_⟩
      rcases List.mem_cons.mp hx with rfl | hx
      · exact trivial
      · exact h2 x hx
    · cases h'
/-- a row of data, and a truth of it -/
def rRow (K : PySem.W.Frag) (f : List D → Option Bool) : List V → Hp → VK → Prop := fun vs H Q => ∃ F v xs b, vs = [v] ∧ Same F H ∧ SqDat K F H v xs ∧ f xs = some b ∧ Q (.bl b) H
section
variable {X : Cx} {K : PySem.W.Frag}
theorem call_Len : CallR X (.builtin "len") (rLn X.K) := call_len_seq.or call_len_str
theorem ru_len : RuleNX K (rLn K) hLen := fun F H vs ds s Q sm hp e k => by
  unfold hLen at e
  split at e
  · split at e
    · rename_i hz
      cases e
      cases hp with
      | cons a t =>
        cases t
        have a : Pk F H _ _ := a
        cases a
        exact .inr ⟨_, rfl, szOk_le hz, k F H _ (Br.refl sm) (.int _)⟩
    · cases e
  · split at e
    · rename_i xs er
      cases e
      cases hp with
      | cons a t =>
        cases t
        obtain ⟨kk, ad, us, rfl, hq, hd⟩ := pvRow_ok sm a er
        refine .inl ⟨ad, us, rfl, sq_or hq, ?_⟩
        rw [hd.length]
        exact k F H _ (Br.refl sm) (.int _)
    · cases e
  · cases e
theorem ru_list : RuleNX K (fun xs H Q => ∃ p ys, xs = [.ref p] ∧ (SqL K H p ys ∨ SqT K H p ys) ∧ ∀ l, H l = none → Q (.ref l) (upd H l (.lst ys))) hList := fun F H vs ds s Q sm hp e k => by
  unfold hList at e
  split at e
  · split at e
    · rename_i xs er
      cases e
      cases hp with
      | cons a t =>
        cases t
        obtain ⟨kk, ad, us, rfl, hq, hd⟩ := pvRow_ok sm a er
        exact ⟨ad, us, rfl, sq_or hq, fun l np => k _ _ _ (Br.own sm np) (new_lst sm np hd)⟩
    · cases e
  · cases e
theorem ru_tuple : RuleNX K (fun xs H Q => ∃ p ys, xs = [.ref p] ∧ ((SqL K H p ys ∧ ∀ l, H l = none → Q (.ref l) (upd H l (.tup ys))) ∨ (SqT K H p ys ∧ Q (.ref p) H))) hTuple := fun F H vs ds s Q sm hp e k => by
  unfold hTuple at e
  split at e
  · rename_i p
    split at e
    · rename_i xs er
      cases e
      cases hp with
      | cons a t =>
        cases t
        unfold pvRow at er
        split at er
        · cases er
          have a : Pk F H _ _ := a
          cases a with
          | lst a1 a2 => exact ⟨_, _, rfl, .inl ⟨SqL.of a1, fun l np => k _ _ _ (Br.frz sm np) (new_tup sm np a2)⟩⟩
        · cases er
          have a : Pk F H _ _ := a
          cases a with
          | tup a1 a2 => exact ⟨_, _, rfl, .inr ⟨SqT.of (sm _ _ a1), k F H _ (Br.refl sm) (.tup a1 a2)⟩⟩
        · cases er
          obtain ⟨ad, us, rfl, h1, h2⟩ := a
          exact ⟨ad, us, rfl, .inl ⟨h1, fun l np => k _ _ _ (Br.frz sm np) (new_tup sm np h2)⟩⟩
        · cases er
    · cases e
  · cases e
theorem ru_int : RuleNX K (fun xs H Q => (∃ i, xs = [.int i] ∧ Q (.int i) H) ∨ ∃ k, xs = [.bl k] ∧ Q (.int (if k then 1 else 0)) H) hInt := fun F H vs ds s Q sm hp e k => by
  unfold hInt at e
  split at e
  · cases e
    cases hp with
    | cons a t =>
      cases t
      have a : Pk F H _ _ := a
      cases a
      exact .inl ⟨_, rfl, k F H _ (Br.refl sm) (.int _)⟩
  · cases e
    cases hp with
    | cons a t =>
      cases t
      have a : Pk F H _ _ := a
      cases a
      exact .inr ⟨_, rfl, k F H _ (Br.refl sm) (.int _)⟩
  · cases e
theorem call_All (hc : X.calm = true) : CallR X (.builtin "all") (rRow X.K boolsT) := fun pins s σ H xs us Q I r ⟨F, v, ds, b, ev, sm, ⟨kk, a, vs, hv, hq, hd⟩, hb, q⟩ => by
  subst ev hv
  obtain ⟨u, rfl, rx⟩ := vals1 r
  obtain rfl : u = Value.ref a := rx
  obtain ⟨its, rv, p, hz⟩ := inv_sq I hq
  obtain ⟨as, rd⟩ := Dp.readsAll I ds vs its (DqAll.dp X.K ds vs (DqAll.up sm _ _ hd)) rv
  obtain ⟨h1, h2⟩ := boolsT_ok hb
  have fin : ∀ h' tk, (∀ b o, s.heap.get? b = some o → h'.get? b = some o) → EP X pins σ Q (.bool (ds.all PyData.truthy)) { s with heap := h', toks := tk } := fun h' tk kp => by
    rw [h1]
    exact ⟨.bl b, H, I.kept kp, rfl, q⟩
  cases kk with
  | true => exact PySem.W.all_tuple_data (I.ok.hd hc) p rd hd.plain h2 fin
  | false => exact PySem.W.all_list_data (I.ok.hd hc) p rd hd.plain h2 fin
theorem call_Any (hc : X.calm = true) : CallR X (.builtin "any") (rRow X.K boolsF) := fun pins s σ H xs us Q I r ⟨F, v, ds, b, ev, sm, ⟨kk, a, vs, hv, hq, hd⟩, hb, q⟩ => by
  subst ev hv
  obtain ⟨u, rfl, rx⟩ := vals1 r
  obtain rfl : u = Value.ref a := rx
  obtain ⟨its, rv, p, hz⟩ := inv_sq I hq
  obtain ⟨as, rd⟩ := Dp.readsAll I ds vs its (DqAll.dp X.K ds vs (DqAll.up sm _ _ hd)) rv
  obtain ⟨h1, h2⟩ := boolsF_ok hb
  have fin : ∀ h' tk, (∀ b o, s.heap.get? b = some o → h'.get? b = some o) → EP X pins σ Q (.bool (ds.any PyData.truthy)) { s with heap := h', toks := tk } := fun h' tk kp => by
    rw [h1]
    exact ⟨.bl b, H, I.kept kp, rfl, q⟩
  cases kk with
  | true => exact PySem.W.any_tuple_data (I.ok.hd hc) p rd hd.plain h2 fin
  | false => exact PySem.W.any_list_data (I.ok.hd hc) p rd hd.plain h2 fin
theorem ru_all : RuleNX K (rRow K boolsT) hAll := fun F H vs ds s Q sm hp e k => by
  unfold hAll at e
  split at e
  · split at e
    · rename_i xs er
      split at e
      · rename_i b eb
        cases e
        cases hp with
        | cons a t =>
          cases t
          exact ⟨F, _, xs, b, rfl, sm, pvRow_ok sm a er, eb, k F H _ (Br.refl sm) (.bl _)⟩
      · cases e
    · cases e
  · cases e
theorem ru_any : RuleNX K (rRow K boolsF) hAny := fun F H vs ds s Q sm hp e k => by
  unfold hAny at e
  split at e
  · split at e
    · rename_i xs er
      split at e
      · rename_i b eb
        cases e
        cases hp with
        | cons a t =>
          cases t
          exact ⟨F, _, xs, b, rfl, sm, pvRow_ok sm a er, eb, k F H _ (Br.refl sm) (.bl _)⟩
      · cases e
    · cases e
  · cases e
theorem ru_sorted : RuleNX K (rSrt K) hSorted := fun F H vs ds s Q sm hp e k => by
  unfold hSorted at e
  split at e
  · split at e
    · rename_i xs er
      split at e
      · rename_i hok
        cases e
        cases hp with
        | cons a t =>
          cases t
          obtain ⟨kk, ad, us, rfl, hq, hd⟩ := pvRow_ok sm a er
          exact ⟨F, kk, ad, us, xs, sm, rfl, hq, hd, hok, fun p ws np hw => k _ _ _ (Br.own sm np) (new_lst sm np hw)⟩
      · cases e
    · cases e
  · cases e
end

/-! ## isinstance -/
def hIsa (f : D → Bool) (p : PV) : Option Bool := match p with
  | .d x => some (f x)
  | _ => none
def isaX (f : D → Bool) (x : XV) (ρ : Env) : R XV := match pk ρ x with
  | some d => .ok (.v (.d (.bool (f d)))) ρ
  | none => .bad
def fIsa (f : D → Bool) (e : FE) : FE := fun ρ => (e ρ).bind (isaX f)
def isStr : D → Bool
  | .str _ => true
  | _ => false
def isIntD : D → Bool
  | .int _ => true
  | .bool _ => true
  | _ => false
def isBoolD : D → Bool
  | .bool _ => true
  | _ => false
def isListD : D → Bool
  | .list _ => true
  | _ => false
def isTupD : D → Bool
  | .tuple _ => true
  | _ => false
def isDictD : D → Bool
  | .dict _ => true
  | _ => false
def rIsaD (T : String) (f : D → Bool) : List V → Hp → VK → Prop := fun xs H Q => ∃ F v d, xs = [v, .ty T] ∧ Same F H ∧ Pk F H v d ∧ Q (.bl (f d)) H
/-- the answer of isinstance -/
def IsaOk (T : String) (f : D → Bool) : Prop := ∀ (P : Program) (w : World) (A : Around) (E : Value → Shared → Prop) (s : Shared) (v : Value) (d : D) (as : List Addr) (Q : Value → Shared → Prop), Reads s.heap v d as → (∀ tk, s.toks ≤ tk → Q (.bool (f d)) { s with toks := tk }) →
  wpAny (model P w) A (call (.builtin "isinstance") [v, .type T]) Q E s
theorem isa_str : IsaOk "str" isStr := fun P w A E s v d as Q r h => PySem.W.isinstance_str_data r fun tk htk => by
  have := h tk htk
  cases d <;> exact this
theorem isa_int : IsaOk "int" isIntD := fun P w A E s v d as Q r h => PySem.W.isinstance_int_data r fun tk htk => by
  have := h tk htk
  cases d <;> exact this
theorem isa_bool : IsaOk "bool" isBoolD := fun P w A E s v d as Q r h => PySem.W.isinstance_bool_data r fun tk htk => by
  have := h tk htk
  cases d <;> exact this
theorem isa_list : IsaOk "list" isListD := fun P w A E s v d as Q r h => PySem.W.isinstance_list_data r fun tk htk => by
  have := h tk htk
  cases d <;> exact this
theorem isa_tuple : IsaOk "tuple" isTupD := fun P w A E s v d as Q r h => PySem.W.isinstance_tuple_data r fun tk htk => by
  have := h tk htk
  cases d <;> exact this
theorem isa_dict : IsaOk "dict" isDictD := fun P w A E s v d as Q r h => PySem.W.isinstance_dict_data r fun tk htk => by
  have := h tk htk
  cases d <;> exact this
section
variable {X : Cx} {G : Gd} {e : Expr} {fe : FE} {p p2 pos : Pos}
theorem call_IsaD {T : String} {f : D → Bool} (h : IsaOk T f) : CallR X (.builtin "isinstance") (rIsaD T f) := fun pins s σ H xs us Q I r ⟨F, v, d, ev, sm, hp, q⟩ => by
  subst ev
  obtain ⟨u, w, rfl, r1, r2⟩ := vals2 r
  obtain rfl : w = Value.type T := r2
  obtain ⟨⟨as, rd⟩, _⟩ := pk_reads I sm hp r1
  exact h X.prog X.w X.A X.xe s u d as _ rd fun tk _ => ⟨.bl (f d), H, I.tok tk, rfl, q⟩
theorem c_isa {T : String} {x : Str} {f : D → Bool} (h : IsaOk T f) (hm : X.mg "isinstance" = none) (hm2 : X.mg x = none) (hv : bootBuiltins x = some (.type T)) (he : PE X e (tE G fe)) (hg : Gl X "isinstance" := by rfl) (hg2 : Gl X x := by rfl) (hn : x ≠ "__name__" := by decide) (hdb : (x == ("__debug__" : Str)) = false := by decide)
    (hs : starEach [e, .Name x p2] X.env = (false, eval e X.env) :: starEach [.Name x p2] X.env := by rfl) (hs2 : starEach [.Name x p2] X.env = (false, eval (.Name x p2) X.env) :: starEach [] X.env := by rfl) (hpl : (backTo pos (starEach [.Name x p2] X.env)).any (·.1) = false := by rfl) :
    PE X (.Call (.Name "isinstance" p) [e, .Name x p2] [] pos) (tE G (fIsa f fe)) :=
  PE.of (pe_callB (call_IsaD h) hg hm PyProof.Rows.boot_isinstance (pa_cons he (pa_cons (pe_bltn (v := .ty T) hg2 hm2 hv rfl hn hdb) pa_nil hs2) hs) (by decide) (by decide) hs hpl) fun σ H Q ⟨F, ρ, rl, pp⟩ => by
    refine ⟨F, ρ, rl, pp.seq.mono fun y ρ1 F1 H1 _ _ _ ⟨rl1, e1, p1⟩ v hv _ => ?_⟩
    unfold isaX at p1
    split at p1
    · rename_i d ed
      exact ⟨F1, v, d, rfl, rl1.sub, pk_ok rl1 hv ed, p1.here rl1 _ (.bl _) trivial⟩
    · exact p1.elim
end
end Pv
set_option Elab.async false
set_option linter.all false
set_option maxRecDepth 100000
set_option maxHeartbeats 1000000
namespace Pv
open PySem PySem.Spec PyProof.Rows L2

/-! ## methods of lists -/
def findD (d : D) : List D → Option Nat
  | [] => none
  | y :: ys => if deqF 61 y d = true then some 0 else match findD d ys with
    | some n => some (n + 1)
    | none => none
def cntD (d : D) : List D → Nat
  | [] => 0
  | y :: ys => if deqF 61 y d = true then cntD d ys + 1 else cntD d ys
theorem findD_eq {d : D} (h : d.depth ≤ 60) : ∀ xs : List D, findD d xs = SeqAt.dataPlace xs d
  | [] => rfl
  | y :: ys => by
    unfold findD
    rw [findD_eq h ys, deqF_eq 61 y d (by omega)]
    unfold SeqAt.dataPlace
    rw [List.findIdx?_cons]
    by_cases e : PyData.eqv y d = true
    · rw [if_pos e, if_pos e]
    · rw [if_neg e, if_neg e]
      cases List.findIdx? (fun y => PyData.eqv y d) ys <;> rfl
theorem cntD_eq {d : D} (h : d.depth ≤ 60) : ∀ xs : List D, cntD d xs = xs.countP fun y => PyData.eqv y d
  | [] => rfl
  | y :: ys => by
    unfold cntD
    rw [cntD_eq h ys, deqF_eq 61 y d (by omega), List.countP_cons]
    by_cases e : PyData.eqv y d = true
    · rw [if_pos e, if_pos e]
    · rw [if_neg e, if_neg e]
      rfl
/-- a change of a list, and a value -/
abbrev HM := List D → List D → Option (D × List D)
def mAppend : HM
  | xs, [y] => if szOk xs.length = true then some (.none, xs ++ [y]) else none
  | _, _ => none
def mExtend : HM
  | xs, [.list ys] => if szOk (xs.length + ys.length) = true then some (.none, xs ++ ys) else none
  | _, _ => none
def lastD : List D → Option D
  | [] => none
  | [x] => some x
  | _ :: r => lastD r
def mPop : HM
  | xs, [] => match nth xs (xs.length - 1) with
    | some y => some (y, xs.dropLast)
    | none => none
  | xs, [.int i] => if inI i = true then match ixN xs.length i with
      | some k => match nth xs k with
        | some y => some (y, xs.eraseIdx k)
        | none => none
      | none => none
    else none
  | _, _ => none
def mRemove : HM
  | xs, [d] => if shal 60 d = true then match findD d xs with
      | some j => some (.none, xs.eraseIdx j)
      | none => none
    else none
  | _, _ => none
def mInsert : HM
  | xs, [.int (.ofNat n), y] => if (szOk xs.length && szOk n) = true then some (.none, xs.take n ++ [y] ++ xs.drop n) else none
  | _, _ => none
def RuleM (r : V → List V → Hp → VK → Prop) (h : HM) : Prop := ∀ (F H : Hp) (a : Addr) (vs us : List V) (xs ds : List D) (y : D) (zs : List D) (Q : VK), Same F H → F a = none → H a = some (.lst vs) → DqAll F vs xs → DqAll F us ds → h xs ds = some (y, zs) →
  (∀ ws w, DqAll F ws zs → Dq F w y → Q w (upd H a (.lst ws))) → r (.ref a) us H Q
theorem rm_append : RuleM rAppend mAppend := fun F H a vs us xs ds y zs Q sm fa ha hv hu e k => by
  unfold mAppend at e
  split at e
  · split at e
    · rename_i hz
      cases e
      cases hu with
      | cons u1 t =>
        cases t
        exact ⟨a, vs, _, rfl, rfl, ha, by rw [hv.length]; exact szOk_lt hz, k _ _ (hv.app (.one u1)) .non⟩
    · cases e
  · cases e
theorem rm_extend : RuleM rExtend mExtend := fun F H a vs us xs ds y zs Q sm fa ha hv hu e k => by
  unfold mExtend at e
  split at e
  · split at e
    · rename_i hz
      cases e
      cases hu with
      | cons u1 t =>
        cases t
        cases u1 with
        | lst b1 b2 => exact ⟨a, _, vs, _, rfl, rfl, ha, sm _ _ b1, by rw [hv.length, b2.length]; exact szOk_le hz, k _ _ (hv.app b2) .non⟩
    · cases e
  · cases e
theorem DqAll.dropLast {F : Hp} {ds : List D} {vs : List V} (h : DqAll F vs ds) : DqAll F vs.dropLast ds.dropLast := by
  rw [List.dropLast_eq_take, List.dropLast_eq_take, h.length]
  exact DqAll.take _ h
theorem seqIx_of {n : Nat} {i : Int} {k : Nat} (h : ixN n i = some k) : seqIndex? i n = some k := (ixN_seq h).1
theorem rm_pop : RuleM (fun x vs H Q => rPop x vs H Q ∨ rPopAt x vs H Q) mPop := fun F H a vs us xs ds y zs Q sm fa ha hv hu e k => by
  unfold mPop at e
  split at e
  · split at e
    · rename_i z ez
      cases e
      cases hu
      rw [nth_eq] at ez
      obtain ⟨w, e1, e2⟩ := hv.get ez
      exact .inl ⟨a, vs, w, rfl, rfl, ha, by rw [hv.length]; exact e1, k _ _ hv.dropLast e2⟩
    · cases e
  · split at e
    · rename_i i hi
      split at e
      · rename_i j hj
        split at e
        · rename_i z ez
          cases e
          cases hu with
          | cons u1 t =>
            cases t
            cases u1
            rw [nth_eq] at ez
            obtain ⟨w, e1, e2⟩ := hv.get ez
            obtain ⟨i1, i2⟩ := inI_ok hi
            rw [← hv.length] at hj
            exact .inr ⟨a, vs, i, j, w, rfl, rfl, ha, by omega, by omega, seqIx_of hj, e1, k _ _ (hv.erase j) e2⟩
        · cases e
      · cases e
    · cases e
  · cases e
theorem rm_insert : RuleM (fun x vs H Q => ∃ (l : Addr) (xs : List V) (i : Int) (y : V), x = .ref l ∧ vs = [.int i, y] ∧ H l = some (.lst xs) ∧ xs.length < sizeLine ∧ 0 ≤ i ∧ i < 2 ^ 63 ∧ Q .non (upd H l (.lst (xs.take i.toNat ++ [y] ++ xs.drop i.toNat)))) mInsert := fun F H a vs us xs ds y zs Q sm fa ha hv hu e k => by
  unfold mInsert at e
  split at e
  · rename_i n z
    split at e
    · rename_i hz
      cases e
      rw [Bool.and_eq_true] at hz
      have h2 := Nat.le_of_ble_eq_true hz.2
      cases hu with
      | cons u1 t =>
        cases t with
        | cons u2 t =>
          cases t
          cases u1
          refine ⟨a, vs, .ofNat n, _, rfl, rfl, ha, by rw [hv.length]; exact szOk_lt hz.1, Int.natCast_nonneg _, ?_, k _ _ (((hv.take n).app (.one u2)).app (hv.drop n)) .non⟩
          show ((n : Nat) : Int) < 2 ^ 63
          omega
    · cases e
  · cases e
def rRemD : V → List V → Hp → VK → Prop := fun x us H Q => ∃ F l vs y xs d j, Same F H ∧ x = .ref l ∧ us = [y] ∧ H l = some (.lst vs) ∧ DqAll F vs xs ∧ Dq F y d ∧ d.depth ≤ 60 ∧ SeqAt.dataPlace xs d = some j ∧ Q .non (upd H l (.lst (vs.eraseIdx j)))
theorem Vals.eraseIdx : ∀ {vs : List V} {us : List Value} (j : Nat), Vals vs us → Vals (vs.eraseIdx j) (us.eraseIdx j)
  | _, _, _, .nil => .nil
  | _, _, 0, .cons _ t => t
  | _, _, j + 1, .cons a t => .cons a (Vals.eraseIdx j t)
theorem mt_remD {X : Cx} (hu : X.A.units + 100 < cLine) : MtR X "list.remove" rRemD := fun pins s σ H x xs v us Q I rx rxs ⟨F, l, vs, y, ds, d, j, sm, ex, ey, hl, hd, hy, hdp, hj, q⟩ => by
  subst ex ey
  obtain rfl : v = Value.ref l := rx
  obtain ⟨u, rfl, ru⟩ := rxs.one
  obtain ⟨hz, its, n, rv, hlen, ho⟩ := I.lstM hl
  obtain ⟨as, rs⟩ := Dp.readsAll I ds vs its (DqAll.dp X.K ds vs (DqAll.up sm _ _ hd)) rv
  obtain ⟨bs, rd⟩ := Dp.reads I d y u (Dq.dp X.K d y (Dq.up sm _ _ hy)) ru
  have hm : min (PyData.depthAll ds) d.depth ≤ d.depth := Nat.min_le_right _ _
  refine SeqAt.remove_list_data (vs := its.toArray) ⟨_, ho, rfl, n, rfl⟩ rs rd hd.plain hy.plain (by omega) hj (by rw [List.size_toArray]; omega) ⟨.non, _, ?_, rfl, q⟩
  refine I.lstUpd (its' := its.eraseIdx j) (n' := if (its.eraseIdx j).length = its.length then n else n + 1) hl ho ?_ (Vals.eraseIdx j rv) (Nat.le_trans (List.length_eraseIdx_le _ _) hz) s.toks
  have e1 : its.toArray.eraseIdxIfInBounds j = (its.eraseIdx j).toArray := by
    unfold Array.eraseIdxIfInBounds
    split
    · simp
    · rename_i h
      rw [List.eraseIdx_of_length_le (by simpa using h)]
  simp [Obj.mapSeq, e1]
theorem rm_remove : RuleM rRemD mRemove := fun F H a vs us xs ds y zs Q sm fa ha hv hu e k => by
  unfold mRemove at e
  split at e
  · split at e
    · rename_i d hs
      split at e
      · rename_i j hj
        cases e
        cases hu with
        | cons u1 t =>
          cases t
          have hd := shal_ok hs
          rw [findD_eq hd] at hj
          exact ⟨F, a, vs, _, xs, d, j, sm, rfl, rfl, ha, hv, u1, hd, hj, k _ _ (hv.erase j) .non⟩
      · cases e
    · cases e
  · cases e
/-- the receiver is a list in a slot -/
def recvL (x : XV) (ρ : Env) : Bool := match x with
  | .r i => match ρ[i]? with
    | some (some (.c _ (.l _))) => true
    | some (some (.d (.list _))) => true
    | _ => false
  | .v (.d (.list _)) => true
  | .v (.c _ (.l _)) => true
  | _ => false
def onM (h : HM) (x : XV) (xs : List XV) (ρ : Env) : R XV := match x with
  | .r i => match ρ[i]? with
    | some (some (.c m (.l ys))) => if m = .bor then .bad else match dats xs with
      | some ds => match h ys ds with
        | some (y, zs) => .ok (.v (.d y)) (ρ.set i (some (.c m (.l zs))))
        | none => .bad
      | none => .bad
    | _ => .bad
  | _ => .bad
def fMt (h : HM) (f : FE) (g : FA) : FE := fun ρ => (f ρ).bind fun x ρ1 => if recvL x ρ1 = true then (g ρ1).bind fun xs ρ2 => onM h x xs ρ2 else .bad
theorem recvL_ok {K : PySem.W.Frag} {s0 : Sl} {F H : Hp} {σ : Sl} {ρ : Env} (rl : Rel K s0 F H σ ρ) {v : V} {x : XV} (hv : RepX K F H σ ρ v x) (e : recvL x ρ = true) : tyV K "list" v H := by
  have lst : ∀ {a : Addr} {vs : List V}, H a = some (.lst vs) → tyV K "list" (.ref a) H := fun h => .inl ⟨rfl, _, SqL.of h⟩
  unfold recvL at e
  split at e
  · split at e
    · rename_i i _ m ys q
      obtain ⟨a, h1, _, vs, h3, _⟩ := rl.root q
      have hv : σ[i]? = some (some v) := hv
      rw [hv] at h1
      cases h1
      exact lst h3
    · rename_i i _ ys q
      obtain ⟨u, h1, h2⟩ := rl.dat q
      have hv : σ[i]? = some (some v) := hv
      rw [hv] at h1
      cases h1
      cases h2 with
      | lst a b => exact lst (rl.sub _ _ a)
    · cases e
  · have hv : Dq F v _ := hv
    cases hv with
    | lst a b => exact lst (rl.sub _ _ a)
  · obtain ⟨_, _, a, rfl, _, _, vs, h1, _⟩ := hv
    exact lst h1
  · cases e
section
variable {X : Cx} {G : Gd} {o e : Expr} {es : List Expr} {f : FE} {g : FA} {h : HM} {name : Str} {id : String} {apos cpos : Pos} {r : V → List V → Hp → VK → Prop}
theorem fMt_in (hr : RuleM r h) {σ : Sl} {H : Hp} {Q : VK} (q : tE G (fMt h f g) σ H Q) : tBM G.K "list" r (tE G f) (tA G g) σ H Q := by
  obtain ⟨F, ρ, rl, p⟩ := q
  refine ⟨F, ρ, rl, p.seq.mono fun x ρ1 F1 H1 _ _ _ ⟨rl1, e1, p1⟩ v hv _ => ?_⟩
  by_cases hc : recvL x ρ1 = true
  · rw [if_pos hc] at p1
    refine ⟨recvL_ok rl1 hv hc, F1, ρ1, rl1, p1.seq.mono fun xs ρ2 F2 H2 _ _ _ ⟨rl2, e2, p2⟩ vs hvs => ?_⟩
    unfold onM at p2
    cases x with
    | v s => exact p2.elim
    | r i =>
      simp only at p2
      split at p2
      · rename_i m ys hq
        by_cases hm : m = .bor
        · rw [if_pos hm] at p2
          exact p2.elim
        · rw [if_neg hm] at p2
          split at p2
          · rename_i ds hds
            split at p2
            · rename_i y zs hh
              have hi : σ[i]? = some (some v) := hv
              obtain ⟨a, h1, h2, us, h3, h4⟩ := rl2.root hq
              rw [hi] at h1
              cases h1
              refine hr F2 H2 a us vs ys ds y zs Q rl2.sub (h2 rfl) h3 h4 (dats_ok hvs hds) hh fun ws w hw hy => ?_
              have q1 : Same F2 (upd H2 a (.lst ws)) := fun b ob z => by
                by_cases hb : b = a
                · subst hb
                  rw [h2 rfl] at z
                  cases z
                · rw [upd_ne hb]
                  exact rl2.sub _ _ z
              have q2 : ∀ b, (∃ ob, H2 b = some ob) → ∃ ob, upd H2 a (.lst ws) b = some ob := fun b hb => by
                by_cases hb2 : b = a
                · subst hb2
                  exact ⟨_, upd_same⟩
                · rw [upd_ne hb2]
                  exact hb
              obtain ⟨c1, c2, c3⟩ := rl2.change (F' := F2) (H' := upd H2 a (.lst ws)) (t' := .l zs) hq hm rfl rfl hi (fun _ _ z => z) q1 (fun b ob z hb => by rw [upd_ne hb]; exact z) (fun _ _ z => .inl z) ⟨ws, upd_same, hw⟩ (h2 rfl) q2
              exact p2 F2 _ c1 c2 w hy trivial
            · exact p2.elim
          · exact p2.elim
      · exact p2.elim
  · rw [if_neg hc] at p1
    exact p1.elim
theorem c_mt (hK : G.K = X.K) (slot : Slot "list" name id) (hty : typeOf (.builtin id) = pure (.type "method_descriptor")) (hm : MtR X id r) (hr : RuleM r h) (ho : PE X o (tE G f)) (ha : PA X (e :: es) (tA G g)) (hbase : attributeBase o name X.env (eval o X.env) = eval o X.env := by rfl)
    (hfew : ((backTo cpos (starEach (e :: es) X.env)).all (fun x => !x.1) && (backToKw cpos (keywordEach [] X.env)).all (fun x => x.1.isSome)
      && decide ((e :: es).length + ([] : List Keyword).length + (if ([] : List Keyword).isEmpty then 0 else 1) < 30)) = true := by rfl)
    (hline : (apos.endLine == cpos.line) = true := by rfl) (hs : starEach (e :: es) X.env = (false, eval e X.env) :: starEach es X.env := by rfl) (hplain : (backTo cpos (starEach es X.env)).any (·.1) = false := by rfl) :
    PE X (.Call (.Attribute o name apos) (e :: es) [] cpos) (tE G (fMt h f g)) :=
  PE.of (pe_bm PySem.F.plainAttrs_list slot hty hm ho ha hbase hfew hline hs hplain) fun _ _ _ q => hK ▸ fMt_in hr q
theorem c_mt0 (hK : G.K = X.K) (slot : Slot "list" name id) (hty : typeOf (.builtin id) = pure (.type "method_descriptor")) (hm : MtR X id r) (hr : RuleM r h) (ho : PE X o (tE G f)) (hbase : attributeBase o name X.env (eval o X.env) = eval o X.env := by rfl) (hline : (apos.endLine == cpos.line) = true := by rfl) :
    PE X (.Call (.Attribute o name apos) [] [] cpos) (tE G (fMt h f aNil)) := PE.of (pe_bm0 PySem.F.plainAttrs_list slot hty hm ho hbase hline) fun σ H Q q => by
  obtain ⟨F, ρ, rl, p⟩ := fMt_in hr q
  rw [← hK]
  exact ⟨F, ρ, rl, p.mono fun x ρ1 F1 H1 _ rl1 _ h v hv hf => by
    obtain ⟨ty, q1⟩ := h v hv hf
    obtain ⟨F2, ρ2, rl2, p2⟩ := q1
    exact ⟨ty, p2.here rl2 [] .nil⟩⟩
end

/-! ## methods that change nothing -/
abbrev HR := List D → List D → Option D
def mIndex : HR
  | xs, [d] => if (shal 60 d && szOk xs.length) = true then match findD d xs with
      | some j => some (.int j)
      | none => none
    else none
  | _, _ => none
def mCount : HR
  | xs, [d] => if shal 60 d = true then some (.int (cntD d xs)) else none
  | _, _ => none
def onMR (h : HR) (x : XV) (xs : List XV) (ρ : Env) : R XV := match pk ρ x with
  | some (.list ys) => match pks ρ xs with
    | some ds => match h ys ds with
      | some y => .ok (.v (.d y)) ρ
      | none => .bad
    | none => .bad
  | _ => .bad
def fMR (h : HR) (f : FE) (g : FA) : FE := fun ρ => (f ρ).bind fun x ρ1 => if recvL x ρ1 = true then (g ρ1).bind fun xs ρ2 => onMR h x xs ρ2 else .bad
/-- answers of a list and data -/
def rQ (h : HR) : V → List V → Hp → VK → Prop := fun x us H Q => ∃ F l vs xs ds y, Same F H ∧ x = .ref l ∧ H l = some (.lst vs) ∧ DqAll F vs xs ∧ Paired (Pk F H) us ds ∧ h xs ds = some y ∧ ∀ w, Dq F w y → Q w H
section
variable {X : Cx} {G : Gd} {o e : Expr} {es : List Expr} {f : FE} {g : FA} {h : HR} {name : Str} {id : String} {apos cpos : Pos}
theorem mt_index (hu : X.A.units + 100 < cLine) : MtR X "list.index" (rQ mIndex) := fun pins s σ H x xs v us Q I rx rxs ⟨F, l, vs, ys, ds, z, sm, ex, hl, hd, hp, e, q⟩ => by
  subst ex
  obtain rfl : v = Value.ref l := rx
  unfold mIndex at e
  split at e
  · rename_i d
    split at e
    · rename_i hs
      split at e
      · rename_i j hj
        cases e
        rw [Bool.and_eq_true] at hs
        have hdp := shal_ok hs.1
        have hsz := Nat.le_of_ble_eq_true hs.2
        cases hp with
        | cons p1 t =>
          cases t
          obtain ⟨u, rfl, ru⟩ := rxs.one
          obtain ⟨hz, its, n, rv, hlen, ho⟩ := I.lstM hl
          obtain ⟨as, rs⟩ := Dp.readsAll I ys vs its (DqAll.dp X.K ys vs (DqAll.up sm _ _ hd)) rv
          obtain ⟨⟨bs, rd⟩, pl⟩ := pk_reads I sm p1 ru
          rw [findD_eq hdp] at hj
          obtain ⟨j1, j2, j3⟩ := SeqAt.hit_at (vs := its.toArray) rs hd.plain hj
          have hm : min (PyData.depthAll ys) d.depth ≤ d.depth := Nat.min_le_right _ _
          have hl2 := hd.length
          have hjz : its.toArray.size = ys.length := by rw [List.size_toArray]; omega
          refine call_meets PySem.F.slot_list_index ⟨_, ho, rfl⟩ PySem.F.entry_list_index (PySem.F.args_list_index_2 _ _) (SeqAt.list_indexAt l its.toArray n none #[] u (fun w => PyData.eqv (SeqAt.readOf s.heap w) d) j j1 (by omega) j2 j3) ⟨ho, SeqAt.items_plain rs rd hd.plain pl (by omega), ?_⟩
          exact ⟨.int (j : Nat), H, I.tok _, ⟨_, rfl⟩, q _ (.int _)⟩
      · cases e
    · cases e
  · cases e
theorem mt_count (hu : X.A.units + 100 < cLine) : MtR X "list.count" (rQ mCount) := fun pins s σ H x xs v us Q I rx rxs ⟨F, l, vs, ys, ds, z, sm, ex, hl, hd, hp, e, q⟩ => by
  subst ex
  obtain rfl : v = Value.ref l := rx
  unfold mCount at e
  split at e
  · rename_i d
    split at e
    · rename_i hs
      cases e
      have hdp := shal_ok hs
      cases hp with
      | cons p1 t =>
        cases t
        obtain ⟨u, rfl, ru⟩ := rxs.one
        obtain ⟨hz, its, n, rv, hlen, ho⟩ := I.lstM hl
        obtain ⟨as, rs⟩ := Dp.readsAll I ys vs its (DqAll.dp X.K ys vs (DqAll.up sm _ _ hd)) rv
        obtain ⟨⟨bs, rd⟩, pl⟩ := pk_reads I sm p1 ru
        have hm : min (PyData.depthAll ys) d.depth ≤ d.depth := Nat.min_le_right _ _
        refine SeqAt.count_list_data (vs := its.toArray) ⟨_, ho, rfl, n, rfl⟩ rs rd hd.plain pl (by omega) ?_
        exact ⟨.int (cntD d ys), H, I.tok _, ⟨_, by rw [cntD_eq hdp]⟩, q _ (.int _)⟩
    · cases e
  · cases e
theorem fMR_in {σ : Sl} {H : Hp} {Q : VK} (q : tE G (fMR h f g) σ H Q) : tBM G.K "list" (rQ h) (tE G f) (tA G g) σ H Q := by
  obtain ⟨F, ρ, rl, p⟩ := q
  refine ⟨F, ρ, rl, p.seq.mono fun x ρ1 F1 H1 _ _ _ ⟨rl1, e1, p1⟩ v hv _ => ?_⟩
  by_cases hc : recvL x ρ1 = true
  · rw [if_pos hc] at p1
    refine ⟨recvL_ok rl1 hv hc, F1, ρ1, rl1, p1.seq.mono fun xs ρ2 F2 H2 _ _ _ ⟨rl2, e2, p2⟩ vs hvs => ?_⟩
    unfold onMR at p2
    split at p2
    · rename_i ys hy
      split at p2
      · rename_i ds hds
        split at p2
        · rename_i y hh
          have hp := pk_ok rl2 (hv.keep e2) hy
          cases hp with
          | lst a b => exact ⟨F2, _, _, ys, ds, y, rl2.sub, rfl, a, b, pks_ok rl2 hvs hds, hh, fun w hw => p2.here rl2 w hw trivial⟩
        · exact p2.elim
      · exact p2.elim
    · exact p2.elim
  · rw [if_neg hc] at p1
    exact p1.elim
theorem c_mr (hK : G.K = X.K) (slot : Slot "list" name id) (hty : typeOf (.builtin id) = pure (.type "method_descriptor")) (hm : MtR X id (rQ h)) (ho : PE X o (tE G f)) (ha : PA X (e :: es) (tA G g)) (hbase : attributeBase o name X.env (eval o X.env) = eval o X.env := by rfl)
    (hfew : ((backTo cpos (starEach (e :: es) X.env)).all (fun x => !x.1) && (backToKw cpos (keywordEach [] X.env)).all (fun x => x.1.isSome)
      && decide ((e :: es).length + ([] : List Keyword).length + (if ([] : List Keyword).isEmpty then 0 else 1) < 30)) = true := by rfl)
    (hline : (apos.endLine == cpos.line) = true := by rfl) (hs : starEach (e :: es) X.env = (false, eval e X.env) :: starEach es X.env := by rfl) (hplain : (backTo cpos (starEach es X.env)).any (·.1) = false := by rfl) :
    PE X (.Call (.Attribute o name apos) (e :: es) [] cpos) (tE G (fMR h f g)) :=
  PE.of (pe_bm PySem.F.plainAttrs_list slot hty hm ho ha hbase hfew hline hs hplain) fun _ _ _ q => hK ▸ fMR_in q
end
end Pv
set_option Elab.async false
set_option linter.all false
set_option maxRecDepth 100000
set_option maxHeartbeats 1000000
namespace Pv
open PySem PySem.Spec PyProof.Rows L2

/-! ## dicts -/
def fDk : FE := fun ρ => .ok (.v (.c .own (.k []))) ρ
def fDt : FE := fun ρ => .ok (.v (.c .own (.t []))) ρ
def dget (p : PV) (y : D) : Option (Option D) := match p with
  | .k kvs => match keyOf y with
    | some k => some (kget keq k kvs)
    | none => none
  | .t kvs => match tkeyOf y with
    | some k => some (kget keqs k kvs)
    | none => none
  | _ => none
def isDk (p : Option PV) : Bool := match p with
  | some (.k _) => true
  | some (.t _) => true
  | _ => false
def onGet (x y : XV) (d : D) (ρ : Env) : R XV := match pkX ρ x with
  | some p => match pk ρ y with
    | some k => match dget p k with
      | some (some z) => .ok (.v (.d z)) ρ
      | some none => .ok (.v (.d d)) ρ
      | none => .bad
    | none => .bad
  | none => .bad
/-- o.get(e, d) -/
def fGet2 (o e d : FE) : FE := fun ρ => (o ρ).bind fun x ρ1 => if isDk (pkX ρ1 x) = true then (e ρ1).bind fun y ρ2 => (fD d ρ2).bind fun z ρ3 => onGet x y z ρ3 else .bad
theorem isDk_ok {K : PySem.W.Frag} {s0 : Sl} {F H : Hp} {σ : Sl} {ρ : Env} (rl : Rel K s0 F H σ ρ) {v : V} {x : XV} (hv : RepX K F H σ ρ v x) (e : isDk (pkX ρ x) = true) : ∃ a, v = .ref a ∧ IsD H a := by
  unfold isDk at e
  split at e
  · rename_i kvs hk
    obtain ⟨a, ks, rfl, h1, h2⟩ := pkX_ok rl hv hk
    exact ⟨a, rfl, .inl ⟨ks, .inl h1⟩⟩
  · rename_i kvs hk
    obtain ⟨a, ks, rfl, h1, h2⟩ := pkX_ok rl hv hk
    exact ⟨a, rfl, .inr ⟨ks, .inl h1⟩⟩
  · cases e
theorem dget_ok {K : PySem.W.Frag} {F H : Hp} {v u : V} {p : PV} {y : D} {r : Option D} (sm : Same F H) (hp : PkX K F H v p) (hy : Pk F H u y) (e : dget p y = some r) : ∃ a o, v = .ref a ∧ DGet H a u o ∧ ((o = none ∧ r = none) ∨ ∃ w d, o = some w ∧ r = some d ∧ Dq F w d) := by
  unfold dget at e
  split at e
  · split at e
    · rename_i k hk
      cases e
      obtain ⟨a, ks, rfl, h1, h2⟩ := hp
      have g := DGet.k (k := k) h1
      rw [← key_dq hy hk] at g
      refine ⟨a, _, rfl, g, ?_⟩
      rcases kget_val keq_eq (k := k) h2 with ⟨e1, e2⟩ | ⟨w, d, e1, e2, hw⟩
      · exact .inl ⟨e1, e2⟩
      · exact .inr ⟨w, d, e1, e2, hw⟩
    · cases e
  · split at e
    · rename_i k hk
      cases e
      obtain ⟨a, ks, rfl, h1, h2⟩ := hp
      obtain ⟨b, rfl, hbb⟩ := tkey_dq sm hy hk
      refine ⟨a, _, rfl, DGet.t (k := k) h1 hbb, ?_⟩
      rcases kget_val keqs_eq (k := k) h2 with ⟨e1, e2⟩ | ⟨w, d, e1, e2, hw⟩
      · exact .inl ⟨e1, e2⟩
      · exact .inr ⟨w, d, e1, e2, hw⟩
    · cases e
  · cases e
section
variable {X : Cx} {G : Gd} {o e d : Expr} {fo fe fd : FE} {apos cpos pos : Pos}
theorem c_dk : PE X (.Dict [] [] pos) (tE G fDk) := PE.of pe_dnewK fun σ H Q ⟨F, ρ, rl, p⟩ a na => by
  have b := Br.own (o := .dK []) rl.sub na
  have nv : NewV G.K H F (upd H a (.dK [])) (.ref a) (.c .own (.k [])) := ⟨rfl, rfl, a, rfl, na, rl.sub.free na, [], upd_same, .nil⟩
  exact p _ _ (rl.br b) b.ext _ (nv.rep rl) nv.fr
theorem c_dt : PE X (.Dict [] [] pos) (tE G fDt) := PE.of pe_dnewT fun σ H Q ⟨F, ρ, rl, p⟩ a na => by
  have b := Br.own (o := .dT []) rl.sub na
  have nv : NewV G.K H F (upd H a (.dT [])) (.ref a) (.c .own (.t [])) := ⟨rfl, rfl, a, rfl, na, rl.sub.free na, [], upd_same, .nil⟩
  exact p _ _ (rl.br b) b.ext _ (nv.rep rl) nv.fr
theorem c_get2 (hu : X.A.units + 100 < cLine) (ho : PE X o (tE G fo)) (he : PE X e (tE G fe)) (hd : PE X d (tE G fd)) (hbase : attributeBase o "get" X.env (eval o X.env) = eval o X.env := by rfl) (hfew : ((backTo cpos (starEach [e, d] X.env)).all (fun x => !x.1) && (backToKw cpos (keywordEach [] X.env)).all (fun x => x.1.isSome)
    && decide (([e, d] : List Expr).length + ([] : List Keyword).length + (if ([] : List Keyword).isEmpty then 0 else 1) < 30)) = true := by rfl) (hline : (apos.endLine == cpos.line) = true := by rfl) (ht : backTo cpos (starEach [e, d] X.env) = [(false, eval e X.env), (false, eval d X.env)] := by rfl) :
    PE X (.Call (.Attribute o "get" apos) [e, d] [] cpos) (tE G (fGet2 fo fe fd)) :=
  PE.of (pe_dget2 (by omega) ho he (PE.of hd fun _ _ _ q => fD_in q) ⟨hbase, hfew, hline, ht⟩) fun σ H Q ⟨F, ρ, rl, p⟩ => by
    refine ⟨F, ρ, rl, p.seq.mono fun x ρ1 F1 H1 _ _ _ ⟨rl1, e1, p1⟩ v hv _ => ?_⟩
    by_cases hc : isDk (pkX ρ1 x) = true
    · rw [if_pos hc] at p1
      obtain ⟨a, rfl, hd⟩ := isDk_ok rl1 hv hc
      refine ⟨a, rfl, hd, F1, ρ1, rl1, p1.seq.mono fun y ρ2 F2 H2 _ _ _ ⟨rl2, e2, p2⟩ u hu _ => ⟨F2, ρ2, rl2, p2.seq.mono fun z ρ3 F3 H3 _ _ _ ⟨rl3, e3, p3⟩ w hw => ?_⟩⟩
      have hv3 := (hv.keep e2).keep e3
      have hu3 := hu.keep e3
      unfold onGet at p3
      split at p3
      · rename_i pv epv
        split at p3
        · rename_i k ek
          have hp := pkX_ok rl3 hv3 epv
          have hk := pk_ok rl3 hu3 ek
          split at p3
          · rename_i r er
            obtain ⟨b, o, eb, g, z⟩ := dget_ok rl3.sub hp hk er
            cases eb
            rcases z with ⟨_, z⟩ | ⟨w', d', z1, z2, z3⟩
            · cases z
            · cases z2
              subst z1
              exact ⟨_, g, p3.here rl3 _ z3 trivial⟩
          · rename_i er
            obtain ⟨b, o, eb, g, z⟩ := dget_ok rl3.sub hp hk er
            cases eb
            rcases z with ⟨z, _⟩ | ⟨w', d', z1, z2, z3⟩
            · subst z
              exact ⟨_, g, p3.here rl3 _ hw trivial⟩
            · cases z2
          · exact p3.elim
        · exact p3.elim
      · exact p3.elim
    · rw [if_neg hc] at p1
      exact p1.elim
end

/-! ## o[i] = v -/
def putC (t : Ct) (y d : D) : Option Ct := match t with
  | .l xs => match y with
    | .int i => match ixN xs.length i with
      | some j => some (.l (xs.set j d))
      | none => none
    | _ => none
  | .k kvs => match keyOf y with
    | some k => if szOk kvs.length = true then some (.k (kputA keq k d kvs)) else none
    | none => none
  | .t kvs => match tkeyOf y with
    | some k => if szOk kvs.length = true then some (.t (kputA keqs k d kvs)) else none
    | none => none
  | .z _ => none
theorem putC_mut {t t' : Ct} {y d : D} (h : putC t y d = some t') : t.mut = true ∧ t'.mut = true := by
  cases t with
  | l xs =>
    refine ⟨rfl, ?_⟩
    unfold putC at h
    cases y <;> first | (cases h; done) | skip
    simp only at h
    split at h
    · cases h
      rfl
    · cases h
  | k kvs =>
    refine ⟨rfl, ?_⟩
    unfold putC at h
    simp only at h
    split at h
    · split at h
      · cases h
        rfl
      · cases h
    · cases h
  | t kvs =>
    refine ⟨rfl, ?_⟩
    unfold putC at h
    simp only at h
    split at h
    · split at h
      · cases h
        rfl
      · cases h
    · cases h
  | z _ => cases h
def rPutA : TSet := fun o i v H Q => rSetL o i v H Q ∨ ∃ a H', o = .ref a ∧ DPut H a i v H' ∧ Q H'
theorem set_any {X : Cx} (hu : X.A.units + 100 < cLine) : PSet X rPutA := fun pins s σ H o i v ov iv u Q I ro ri rv h => by
  rcases h with h | ⟨a, H', eo, g, q⟩
  · exact set_list pins s σ H o i v ov iv u Q I ro ri rv h
  · subst eo
    obtain rfl : ov = Value.ref a := ro
    exact d_setItem (by omega) I g ri rv fun s' I' => ⟨H', I', q⟩
/-- what is put, put -/
theorem putC_ok {K : PySem.W.Frag} {F H : Hp} {a : Addr} {t t' : Ct} {y d : D} {u w : V} (sm : Same F H) (fa : F a = none) (hr : RepC K F H a t) (hy : Pk F H u y) (hd : Dq F w d) (e : putC t y d = some t') {Q : Hp → Prop} (q : ∀ ob, RepC K F (upd H a ob) a t' → Q (upd H a ob)) : rPutA (.ref a) u w H Q := by
  cases t with
  | l xs =>
    obtain ⟨vs, h1, h2⟩ := hr
    unfold putC at e
    cases y <;> first | (cases e; done) | skip
    rename_i i
    simp only at e
    split at e
    · rename_i j hj
      cases e
      cases hy
      rw [← h2.length] at hj
      exact .inl ⟨a, vs, i, j, rfl, rfl, h1, hj, q _ ⟨_, upd_same, h2.set hd j⟩⟩
    · cases e
  | k kvs =>
    obtain ⟨ks, h1, h2⟩ := hr
    unfold putC at e
    simp only at e
    split at e
    · rename_i k hk
      split at e
      · rename_i hz
        cases e
        have hl : ks.length < sizeLine := by rw [Paired.length h2]; exact szOk_lt hz
        have g := DPut.k (k := k) (v := w) h1 hl
        rw [← key_dq hy hk] at g
        exact .inr ⟨a, _, rfl, g, q _ ⟨_, upd_same, kputA_ok keq_eq hd h2⟩⟩
      · cases e
    · cases e
  | t kvs =>
    obtain ⟨ks, h1, h2⟩ := hr
    unfold putC at e
    simp only at e
    split at e
    · rename_i k hk
      split at e
      · rename_i hz
        cases e
        have hl : ks.length < sizeLine := by rw [Paired.length h2]; exact szOk_lt hz
        obtain ⟨b, rfl, hbb⟩ := tkey_dq sm hy hk
        exact .inr ⟨a, _, rfl, DPut.t (k := k) (v := w) h1 hbb hl, q _ ⟨_, upd_same, kputA_ok keqs_eq hd h2⟩⟩
      · cases e
    · cases e
  | z _ => cases e
def gPut (fo fi : FE) : FG := fun x ρ => match leak x ρ with
  | .ok d ρ1 => match fo ρ1 with
    | .ok (.r i) ρ2 => match fi ρ2 with
      | .ok y ρ3 => match pk ρ3 y with
        | some k => match ρ3[i]? with
          | some (some (.c m t)) => if m = .bor then none else match putC t k d with
            | some t' => some (ρ3.set i (some (.c m t')))
            | none => none
          | _ => none
        | none => none
      | _ => none
    | _ => none
  | _ => none
section
variable {X : Cx} {G : Gd} {o i : Expr} {fo fi : FE} {pos : Pos}
theorem g_put (hu : X.A.units + 100 < cLine) (ho : PE X o (tE G fo)) (hi : PE X i (tE G fi)) (ha : ∀ v, assign (.Subscript o i pos) X.env v = (do
      let ov ← holding [v] (eval o X.env)
      let iv ← holding [v, ov] (eval i X.env)
      standAt pos
      holding [v, ov, iv] (setItem ov iv v)
      release [v, ov, iv] []) := by intro _; rfl) : PG X (.Subscript o i pos) (tG G [] (gPut fo fi)) :=
  PG.of (pg_sub ho hi (set_any hu) ha) fun v σ H Q ⟨F, ρ, x, ρ', F0, H0, ρ0, r, e0, hx, hf, eg, k⟩ => by
    unfold gPut at eg
    split at eg
    · rename_i d ρ1 el
      obtain ⟨F1, r1, e1, _, hd⟩ := leak_ok r e0 hx hf el
      split at eg
      · rename_i ix ρ2 eo
        refine ⟨F1, ρ1, r1, ?_⟩
        rw [eo]
        intro F2 H2 r2 e2 ov hov _
        have hi2 : σ[ix]? = some (some ov) := hov
        split at eg
        · rename_i y ρ3 ei
          refine ⟨F2, ρ2, r2, ?_⟩
          rw [ei]
          intro F3 H3 r3 e3 iv hiv _
          split at eg
          · rename_i kk ek
            split at eg
            · rename_i m t hq
              by_cases hm : m = .bor
              · rw [if_pos hm] at eg
                cases eg
              · rw [if_neg hm] at eg
                split at eg
                · rename_i t' ep
                  cases eg
                  obtain ⟨m1, m2⟩ := putC_mut ep
                  obtain ⟨a, h1, h2, h3⟩ := r3.root hq
                  rw [hi2] at h1
                  cases h1
                  have hd3 := Dq.up e3.f _ _ (Dq.up e2.f _ _ hd)
                  refine putC_ok r3.sub (h2 m1) h3 (pk_ok r3 hiv ek) hd3 ep fun ob hr => ?_
                  have q1 : Same F3 (upd H3 a ob) := fun b o' z => by
                    by_cases hb : b = a
                    · subst hb
                      rw [h2 m1] at z
                      cases z
                    · rw [upd_ne hb]
                      exact r3.sub _ _ z
                  have q2 : ∀ b, (∃ o', H3 b = some o') → ∃ o', upd H3 a ob b = some o' := fun b hb => by
                    by_cases hb2 : b = a
                    · subst hb2
                      exact ⟨_, upd_same⟩
                    · rw [upd_ne hb2]
                      exact hb
                  obtain ⟨c1, c2, c3⟩ := r3.change (F' := F3) (H' := upd H3 a ob) (t' := t') hq hm m1 m2 hi2 (fun _ _ z => z) q1 (fun b o' z hb => by rw [upd_ne hb]; exact z) (fun _ _ z => .inl z) hr (h2 m1) q2
                  exact k F3 _ σ c1 (e1.trans (e2.trans (e3.trans c2))) ⟨rfl, fun _ _ => rfl⟩
                · cases eg
            · cases eg
          · cases eg
        · cases eg
      · cases eg
    · cases eg
end

/-! ## {k: v}, k a tuple -/
def fD1t (fk fv : FE) : FE := fun ρ => (fk ρ).bind fun x ρ1 => (fD fv ρ1).bind fun d ρ2 => match pk ρ2 x with
  | some y => match tkeyOf y with
    | some k => .ok (.v (.c .own (.t [(k, d)]))) ρ2
    | none => .bad
  | none => .bad
section
variable {X : Cx} {G : Gd} {k v : Expr} {fk fv : FE} {pos : Pos}
theorem c_d1t (hu : X.A.units + 100 < cLine) (hk : PE X k (tE G fk)) (hv : PE X v (tE G fv)) : PE X (.Dict [some k] [v] pos) (tE G (fD1t fk fv)) := by
  refine ⟨fun pins s σ H Q I ⟨F, ρ, rl, p⟩ => ?_⟩
  have na := I.hok.fresh (Nat.le_refl s.heap.objs.size)
  have I1 := I.laid (a := s.heap.objs.size) (o := .dT []) (h' := s.heap.push { cls := .type "dict", data := .dict #[] }) (t' := s.toks) (fun _ _ q => Heap.get?_push_of_some _ q) (Nat.le_refl _) (dt_empty s.heap I.big)
  have b := Br.own (o := .dT []) rl.sub na
  have nv : NewV G.K H F (upd H s.heap.objs.size (.dT [])) (.ref s.heap.objs.size) (.c .own (.t [])) := ⟨rfl, rfl, _, rfl, na, rl.sub.free na, [], upd_same, .nil⟩
  have rx := nv.rep rl
  have rl1 := rl.br b
  have pp : PPs X pos [some k] [v] [(tE G fk, tD G (fD fv))] := pps_cons hk (PE.of hv fun _ _ _ q => fD_in q) pps_nil
  refine wpAny_Dict_any (by rfl) (by rfl) (by simp) (Nat.le_of_ble_eq_true rfl) (thn (pp.run pins _ σ (upd H s.heap.objs.size (.dT [])) (fun ps H3 => ∃ x w kk, ps = [(x, w)] ∧ H3 s.heap.objs.size = some (.dT []) ∧ (∃ c, x = .ref c ∧ H3 c = some (.tup (kk.map kV))) ∧ Q (.ref s.heap.objs.size) (upd H3 s.heap.objs.size (.dT [(kk, w)]))) I1 ?_) fun ws s2 ⟨ps, H2, I2, rel, x, w, kk, eps, hdt, ⟨c, ex, hc⟩, q2⟩ => ?_)
  · refine ⟨F, ρ, rl1, (PE'.from p b.ext).seq.mono fun x ρ1 F1 H1 ek1 _ _ ⟨r1, e1, p1⟩ u hu' _ => ⟨F1, ρ1, r1, p1.seq.mono fun d ρ2 F2 H2 ek2 _ _ ⟨r2, e2, p2⟩ w hw => ?_⟩⟩
    have hu2 := hu'.keep e2
    have rx2 := (rx.keep e1).keep e2
    have p0 := p
    unfold fD1t at p0
    rw [ek1] at p0
    simp only [R.bind] at p0
    rw [ek2] at p0
    simp only at p0
    split at p2
    · rename_i y ey
      rw [ey] at p0
      simp only at p0
      split at p2
      · rename_i kk ek
        rw [ek] at p0
        simp only at p0
        obtain ⟨c, rfl, hc⟩ := tkey_dq r2.sub (pk_ok r2 hu2 ey) ek
        obtain ⟨_, _, a, ea, fa, nc, ks, h1, h2⟩ := rx2
        cases ea
        cases h2
        refine ⟨_, w, kk, rfl, h1, ⟨c, rfl, hc⟩, ?_⟩
        have sm3 : Same F2 (upd H2 s.heap.objs.size (.dT [(kk, w)])) := fun bb o z => by
          by_cases hb : bb = s.heap.objs.size
          · subst hb
            rw [fa] at z
            cases z
          · rw [upd_ne hb]
            exact r2.sub _ _ z
        have r3 : Rel G.K G.s0 F2 (upd H2 s.heap.objs.size (.dT [(kk, w)])) σ ρ2 := by
          refine ⟨sm3, r2.len, fun i sv h => ?_, r2.sep, r2.pin⟩
          obtain ⟨vv, q1, q2⟩ := r2.slot i sv h
          refine ⟨vv, q1, ?_⟩
          cases sv with
          | d x => exact q2
          | c m t =>
            obtain ⟨bb, rfl, fb, q3⟩ := q2
            refine ⟨bb, rfl, fb, ?_⟩
            by_cases hb : bb = s.heap.objs.size
            · subst hb
              by_cases hm : t.mut = true
              · exact (nc ⟨i, m, t, h, hm, q1⟩).elim
              · cases t with
                | l _ => exact (hm rfl).elim
                | k _ => exact (hm rfl).elim
                | t _ => exact (hm rfl).elim
                | z xs =>
                  obtain ⟨vs, z1 | z1, z2⟩ := q3
                  · obtain ⟨o, z1⟩ := z1
                    rw [h1] at z1
                    cases z1
                  · exact ⟨vs, .inr z1, z2⟩
            · exact q3.up (fun _ _ z => z) fun o z => by
                rw [upd_ne hb]
                exact z
        have ee := b.ext.trans (e1.trans e2) (σ := σ) (ρ := ρ)
        have e3 : Ext σ ρ F H σ ρ2 F2 (upd H2 s.heap.objs.size (.dT [(kk, w)])) := by
          refine ⟨ee.f, fun bb o z no => ?_, ee.n, ee.o, ee.c, fun bb z => ?_⟩
          · rw [upd_ne (fun y => by rw [y, na] at z; cases z)]
            exact ee.h bb o z no
          · by_cases hb : bb = s.heap.objs.size
            · subst hb
              exact ⟨_, upd_same⟩
            · obtain ⟨o, z⟩ := ee.s bb z
              exact ⟨o, by rw [upd_ne hb]; exact z⟩
        exact p0 _ _ r3 e3 _ ⟨rfl, rfl, _, rfl, fa, nc, [(kk, w)], upd_same, .cons ⟨rfl, hw⟩ .nil⟩ (fun a ea => by cases ea; exact na)
      · exact p2.elim
    · exact p2.elim
  · subst eps
    subst ex
    cases rel with
    | cons hh ht =>
      cases ht
      rename_i pq _
      obtain ⟨u0, r0⟩ := pq
      obtain ⟨g1, g2⟩ := hh
      cases (show u0 = Value.ref c from g1)
      obtain ⟨z, hd, xs, rel, dd⟩ := dt_of I2.hok hdt
      have hp := KT.put rel kk hc g2
      cases rel
      show wpAny _ _ (forIn _ PUnit.unit _) _ _ _
      rw [List.forIn_cons]
      refine wpAny_bind (wpAny_bind (wpAny_dictSet_heap (hsz := by simp [sizeLine_eq]) (show _ < _ by omega) (key_of I2.hok hc) dd fun h' dd' hs => wpAny_pure ?_))
      show wpAny _ _ (forIn [] PUnit.unit _) _ _ _
      rw [List.forIn_nil]
      refine wpAny_pure ⟨.ref s.heap.objs.size, _, ?_, rfl, q2⟩
      obtain ⟨q, es, ep, hq, h2, h3, h4, _, h5⟩ := dd'
      refine d_write I2 (by rw [hdt]; exact True.intro) hs ⟨q, hq⟩ ⟨by simp [sizeLine_eq], hd, _, hp.keeps fun c ys ec => ?_, q, es, ep, hq, h2, h3, h4, h5⟩
      rw [upd_ne (ne_of ec hdt (fun z => nomatch z))]
      exact ec
end
end Pv
set_option Elab.async false
set_option linter.all false
set_option maxRecDepth 100000
set_option maxHeartbeats 1000000
namespace Pv
open PySem PySem.Spec PyProof.Rows L2

/-! ## list(zip(a, b)) of two lists -/
theorem zip_no_len : typeLookup (.type "zip") "__len__" = pure none := am_miss_of_fast (by decide +kernel)
theorem zip_no_hint : typeLookup (.type "zip") "__length_hint__" = pure none := am_miss_of_fast (by decide +kernel)
def zipT (xs ys : List D) : List D := List.zipWith (fun x y => .tuple [x, y]) xs ys

/-- the zip, i times asked -/
def Zst (z TI TO i1 i2 l1 l2 S : Addr) (xs ys : Array Value) (i : Nat) (h : Heap) : Prop :=
  IsPair h TI (.ref i1) (.ref i2) ∧ h.IsListIter i1 l1 i ∧ h.IsListIter i2 l2 i ∧ h.IsList l1 xs ∧ h.IsList l2 ys ∧
    ((IsZip h z TI TO .none ∧ ∃ a b, IsPair h TO a b) ∨ ∃ T f oT, IsZipHeld h z TI TO T f ∧ h.get? T = some oT ∧ T ≠ z ∧ T ≠ i1 ∧ T ≠ i2 ∧ T ≠ S)
structure ZS (z TI TO i1 i2 l1 l2 S : Addr) : Prop where
  z : z ≠ S
  TI : TI ≠ S
  TO : TO ≠ S
  i1 : i1 ≠ S
  i2 : i2 ≠ S
  l1 : l1 ≠ S
  l2 : l2 ≠ S
section
variable {z TI TO i1 i2 l1 l2 S : Addr} {xs ys : Array Value} {i : Nat} {h h' : Heap}
theorem Zst.frame (st : Zst z TI TO i1 i2 l1 l2 S xs ys i h) (d : ZS z TI TO i1 i2 l1 l2 S) (hk : ∀ c o, c ≠ S → h.get? c = some o → h'.get? c = some o) : Zst z TI TO i1 i2 l1 l2 S xs ys i h' := by
  obtain ⟨hTI, h1, h2, hl1, hl2, hz⟩ := st
  refine ⟨hk _ _ d.TI hTI, h1.at fun o e => hk _ o d.i1 e, h2.at fun o e => hk _ o d.i2 e, hl1.at fun o e => hk _ o d.l1 e, hl2.at fun o e => hk _ o d.l2 e, ?_⟩
  rcases hz with ⟨hz, a, b, hTO⟩ | ⟨T, f, oT, hz, hT, r1, r2, r3, r4⟩
  · exact .inl ⟨hk _ _ d.z hz, a, b, hk _ _ d.TO hTO⟩
  · exact .inr ⟨T, f, oT, hk _ _ d.z hz, hk _ _ r4 hT, r1, r2, r3, r4⟩
variable {prog : Program} {w : World} {A : Around} {E : Value → Shared → Prop} {s : Shared} {Q : Option Value → Shared → Prop}
theorem zip_item (D : ZipApart z TI TO i1 i2 l1 l2) (st : Zst z TI TO i1 i2 l1 l2 S xs ys i s.heap) (hS : S < s.heap.objs.size) {x y : Value} (ex : xs[i]? = some x) (ey : ys[i]? = some y)
    (hQ : ∀ h', Zst z TI TO i1 i2 l1 l2 S xs ys (i + 1) h' → IsPair h' s.heap.objs.size x y → (∀ c o, c ∉ [z, TO, i1, i2] → s.heap.get? c = some o → h'.get? c = some o) → Q (some (.ref s.heap.objs.size)) { s with heap := h' }) :
    wpAny (model prog w) A (pyNext (.ref z)) Q E s := by
  obtain ⟨hTI, h1, h2, hl1, hl2, hz⟩ := st
  have lt : ∀ {c o}, s.heap.get? c = some o → s.heap.objs.size ≠ c := fun e => Nat.ne_of_gt (Heap.lt_size e)
  have n1 : s.heap.objs.size ≠ i1 := let ⟨_, e, _⟩ := h1; lt e
  have n2 : s.heap.objs.size ≠ i2 := let ⟨_, e, _⟩ := h2; lt e
  rcases hz with ⟨hz, a, b, hTO⟩ | ⟨T, f, oT, hz, hT, r1, r2, r3, r4⟩
  · refine wpAny_pyNext_zip_item D hz hTI hTO h1 h2 hl1 hl2 ex ey fun h' a1 a2 a3 a4 a5 a6 hk => ?_
    exact hQ h' ⟨hk _ _ D.TIz D.TITO D.TIi1 D.TIi2 hTI, a3, a4, hl1.at fun o e => hk _ o D.l1z D.l1TO D.l1i1 D.l1i2 e, hl2.at fun o e => hk _ o D.l2z D.l2TO D.l2i1 D.l2i2 e,
      .inr ⟨s.heap.objs.size, false, _, a1, a5, lt hz, n1, n2, Nat.ne_of_gt hS⟩⟩ a5
      fun c o hc e => hk c o (fun x => hc (by simp [x])) (fun x => hc (by simp [x])) (fun x => hc (by simp [x])) (fun x => hc (by simp [x])) e
  · refine wpAny_pyNext_zip_item_held D hz hT hTI h1 h2 hl1 hl2 ex ey fun h' a1 a3 a4 a5 a6 hk => ?_
    exact hQ h' ⟨hk _ _ D.TIz D.TIi1 D.TIi2 hTI, a3, a4, hl1.at fun o e => hk _ o D.l1z D.l1i1 D.l1i2 e, hl2.at fun o e => hk _ o D.l2z D.l2i1 D.l2i2 e,
      .inr ⟨T, true, oT, a1, hk _ _ r1 r2 r3 hT, r1, r2, r3, r4⟩⟩ a5
      fun c o hc e => hk c o (fun x => hc (by simp [x])) (fun x => hc (by simp [x])) (fun x => hc (by simp [x])) e
theorem zip_end (hA : A.handled = none) (D : ZipApart z TI TO i1 i2 l1 l2) (st : Zst z TI TO i1 i2 l1 l2 S xs ys i s.heap) (hend : xs[i]? = none ∨ ys[i]? = none)
    (hQ : ∀ h', (∀ c o, c ∉ [z, TO, i1, i2] → s.heap.get? c = some o → h'.get? c = some o) → Q none { s with heap := h' }) :
    wpAny (model prog w) A (pyNext (.ref z)) Q E s := by
  obtain ⟨hTI, h1, h2, hl1, hl2, hz⟩ := st
  rcases hz with ⟨hz, a, b, hTO⟩ | ⟨T, f, oT, hz, hT, r1, r2, r3, r4⟩
  · exact wpAny_pyNext_zip_end hA D hz hTI hTO h1 h2 hl1 hl2 hend fun h' hk => hQ h' fun c o hc e => hk c o (fun x => hc (by simp [x])) (fun x => hc (by simp [x])) (fun x => hc (by simp [x])) (fun x => hc (by simp [x])) e
  · exact wpAny_pyNext_zip_end_held hA D hz hT hTI h1 h2 hl1 hl2 hend fun h' hk => hQ h' fun c o hc e => hk c o (fun x => hc (by simp [x])) (fun x => hc (by simp [x])) (fun x => hc (by simp [x])) e
end

theorem zipT_len (xs ys : List D) : (zipT xs ys).length = min xs.length ys.length := List.length_zipWith
theorem DqAll.snoc {F : Hp} : ∀ {vs : List V} {ds : List D} {v : V} {d : D}, DqAll F vs ds → Dq F v d → DqAll F (vs ++ [v]) (ds ++ [d])
  | [], _, _, _, h, hd => by cases h; exact .cons hd .nil
  | _ :: _, _, _, _, h, hd => by
    cases h with
    | cons a t => exact .cons a (DqAll.snoc t hd)
/-- the loop of extend over the zip -/
theorem loop_zip {X : Cx} {pins : List (Addr × Obj)} {σ : Sl} {F0 H0 : Hp} {z TI TO i1 i2 l1 l2 S : Addr} {its its2 : List Value} {us ws : List V} {dxs dys : List D} {A : Around} {R : Result → Shared → Prop}
    (hA : A.handled = none) (D : ZipApart z TI TO i1 i2 l1 l2) (d : ZS z TI TO i1 i2 l1 l2 S) (rv : Vals us its) (rv2 : Vals ws its2) (hx : DqAll F0 us dxs) (hy : DqAll F0 ws dys) (hn : us.length ≤ sizeLine) (hS0 : H0 S = none)
    (hf : ∀ b ∈ [z, TO, i1, i2], FpOk X pins H0 b) (hlt : ∀ b ∈ [z, TO, i1, i2], b < S)
    (hR : ∀ s' H' F' vs', Inv X pins σ H' s' → Br F0 H0 F' H' → F' S = none → H' S = some (.lst vs') → DqAll F' vs' (zipT dxs dys) → R (.ok (.ret .none)) s') :
    ∀ (k i : Nat) (s : Shared) (H F : Hp) (vs : List V) (acc : Array Value) (c : Nat), min us.length ws.length - i = k → i ≤ min us.length ws.length → Inv X pins σ H s → Zst z TI TO i1 i2 l1 l2 S its.toArray its2.toArray i s.heap → Br F0 H0 F H → F S = none →
      H S = some (.lst vs) → s.heap.get? S = some { cls := .type "list", dict := none, data := .seq acc c, slots := #[] } → Vals vs acc.toList → DqAll F vs ((zipT dxs dys).take i) → acc.size = i → (∀ b ∈ [z, TO, i1, i2], H b = none) →
      codeAny (model X.prog X.w) A (.builtin "list.extend.loop" ⟨[.ref S, .ref z, .none], []⟩) R s := by
  have hl1 : us.length = its.length := rv.length
  have hl2 : ws.length = its2.length := rv2.length
  have hd1' : us.length = dxs.length := hx.length
  have hd2' : ws.length = dys.length := hy.length
  intro k
  induction k with
  | zero =>
    intro i s H F vs acc c hk hi I st br hF hH hS rvs hq hz hno
    have hin : i = min us.length ws.length := by omega
    refine codeAny_builtin PySem.F.entry_extend_loop ?_
    rw [Around.under_plainId PySem.F.plain_extend_loop _]
    show wpAny _ A.in1 (pyNext (.ref z) >>= _) _ _ s
    refine wpAny_bind (zip_end hA D st ?_ fun h' hk' => wpAny_pure (hR _ H F vs (I.turnedL (t' := s.toks) hk' fun b hb => ⟨hno b hb, (hf b hb).2⟩) br hF hH ?_))
    · rcases Nat.le_total us.length ws.length with h | h
      · exact .inl (by simp; omega)
      · exact .inr (by simp; omega)
    · rw [List.take_of_length_le (by rw [zipT_len]; omega)] at hq
      exact hq
  | succ k ih =>
    intro i s H F vs acc c hk hi I st br hF hH hS rvs hq hz hno
    have hlt1 : i < us.length := by omega
    have hlt2 : i < ws.length := by omega
    obtain ⟨u1, hu1, ru1⟩ := rv.get (List.getElem?_eq_getElem hlt1)
    obtain ⟨u2, hu2, ru2⟩ := rv2.get (List.getElem?_eq_getElem hlt2)
    refine codeAny_builtin PySem.F.entry_extend_loop ?_
    rw [Around.under_plainId PySem.F.plain_extend_loop _]
    show wpAny _ A.in1 (pyNext (.ref z) >>= _) _ _ s
    have hSlt := Heap.lt_size hS
    refine wpAny_bind (zip_item D st hSlt (x := u1) (y := u2) (by simpa using hu1) (by simpa using hu2) fun h' st' hT hk' => ?_)
    have nS : S ∉ [z, TO, i1, i2] := by
      intro hm
      rcases List.mem_cons.mp hm with e | hm
      · exact d.z e.symm
      rcases List.mem_cons.mp hm with e | hm
      · exact d.TO e.symm
      rcases List.mem_cons.mp hm with e | hm
      · exact d.i1 e.symm
      rcases List.mem_cons.mp hm with e | hm
      · exact d.i2 e.symm
      · cases hm
    have hS' := hk' S _ nS hS
    have hTn : H s.heap.objs.size = none := I.hok.fresh (Nat.le_refl _)
    have I1 : Inv X pins σ (upd H s.heap.objs.size (.tup [us[i], ws[i]])) { s with heap := h' } :=
      I.turnedNew (t' := s.toks) hk' (fun b hb => ⟨hno b hb, (hf b hb).2⟩) (Nat.le_refl _) ⟨by show 2 ≤ sizeLine; decide, [u1, u2], .cons ru1 (.cons ru2 .nil), ⟨_, hT, rfl, _, rfl⟩⟩
    show wpAny _ A.in1 (updateSeq S (·.push (.ref s.heap.objs.size)) >>= _) _ _ _
    refine wpAny_bind ?_
    have hTS : s.heap.objs.size ≠ S := Nat.ne_of_gt hSlt
    have hl : vs.length = i := by rw [rvs.length, Array.length_toList, hz]
    obtain ⟨dx, edx, qx⟩ := hx.getV (List.getElem?_eq_getElem hlt1)
    obtain ⟨dy, edy, qy⟩ := hy.getV (List.getElem?_eq_getElem hlt2)
    have hzip : (zipT dxs dys)[i]? = some (.tuple [dx, dy]) := by
      unfold zipT
      rw [List.getElem?_zipWith, edx, edy]
    obtain ⟨nn, enn⟩ : ∃ nn, (h'.update S (Obj.mapSeq (·.push (.ref s.heap.objs.size)))).get? S = some { cls := .type "list", dict := none, data := .seq (acc.push (.ref s.heap.objs.size)) nn, slots := #[] } := ⟨_, Heap.get?_update_self _ hS' rfl⟩
    have rvs' : Vals (vs ++ [.ref s.heap.objs.size]) (acc.push (.ref s.heap.objs.size)).toList := by
      rw [Array.toList_push]
      exact Paired.snoc rvs rfl
    refine wpAny_updateSeq hS' rfl (wpAny_pure ⟨plainId_quiet PySem.F.plain_extend_loop _, ih (i + 1) _ (upd (upd H s.heap.objs.size (.tup [us[i], ws[i]])) S (.lst (vs ++ [.ref s.heap.objs.size]))) (upd F s.heap.objs.size (.tup [us[i], ws[i]])) (vs ++ [.ref s.heap.objs.size]) (acc.push (.ref s.heap.objs.size)) _ (by omega) (by omega) ?_ (st'.frame d fun c o hc e => (Heap.get?_update_other _ _ (Ne.symm hc)).trans e) ?_ ?_ upd_same enn ?_ ?_ (by rw [Array.size_push, hz]) ?_⟩)
      (by rw [hz]; omega) (by show (acc.push _).size ≤ sizeLine + 1; rw [Array.size_push, hz]; omega)
    · refine I1.write (x := S) (e := S) (t' := s.toks) (by rw [upd_ne hTS.symm, hH]; exact True.intro) (.inl rfl) (fun b o hb e => (Heap.get?_update_other _ _ (Ne.symm hb)).trans e) ⟨_, Heap.get?_update_self _ hS' rfl⟩ ⟨by rw [List.length_append, hl]; show i + 1 ≤ _; omega, (acc.push (.ref s.heap.objs.size)).toList, nn, rvs', enn⟩
    · have b1 := br.trans (Br.frz br.s hTn (o := .tup [us[i], ws[i]]))
      refine ⟨b1.f, fun a o e => ?_, fun a o e => ?_, b1.n⟩
      · rw [upd_ne (fun q => by rw [q, hS0] at e; cases e)]
        exact b1.h a o e
      · rw [upd_ne (fun q => by rw [q, upd_ne hTS.symm, hF] at e; cases e)]
        exact b1.s a o e
    · rw [upd_ne hTS.symm]
      exact hF
    · exact rvs'
    · rw [List.take_succ, hzip]
      have hFn : F s.heap.objs.size = none := br.s.free hTn
      have up : Same F (upd F s.heap.objs.size (.tup [us[i], ws[i]])) := upd_keep hFn
      have q1 := Dq.up (br.f.trans up) _ _ qx
      have q2 := Dq.up (br.f.trans up) _ _ qy
      exact DqAll.snoc (DqAll.up up _ _ hq) (Dq.tup upd_same (.cons q1 (.cons q2 .nil)))
    · intro b hb
      have hbS : b ≠ S := fun e => nS (e ▸ hb)
      have hbT : b ≠ s.heap.objs.size := by
        exact Nat.ne_of_lt (Nat.lt_trans (hlt b hb) hSlt)
      rw [upd_ne hbS, upd_ne hbT]
      exact hno b hb

section
variable {X : Cx} {pins : List (Addr × Obj)} {σ : Sl} {F0 H0 : Hp} {z TI TO i1 i2 l1 l2 S : Addr} {its its2 : List Value} {us ws : List V} {dxs dys : List D} {A : Around} {R : Result → Shared → Prop} {s : Shared}
theorem init_zip (hA : A.handled = none) (D : ZipApart z TI TO i1 i2 l1 l2) (d : ZS z TI TO i1 i2 l1 l2 S) (rv : Vals us its) (rv2 : Vals ws its2) (hx : DqAll F0 us dxs) (hy : DqAll F0 ws dys) (hn : us.length ≤ sizeLine) (hS0 : H0 S = none) (sm : Same F0 H0)
    (hf : ∀ b ∈ [z, TO, i1, i2], FpOk X pins H0 b) (hlt : ∀ b ∈ [z, TO, i1, i2], b < S) (I : Inv X pins σ (upd H0 S (.lst [])) s) (st : Zst z TI TO i1 i2 l1 l2 S its.toArray its2.toArray 0 s.heap)
    (hz : IsZip s.heap z TI TO .none)
    (hS : s.heap.get? S = some { cls := .type "list", data := .seq #[] })
    (hR : ∀ s' H' F' vs', Inv X pins σ H' s' → Br F0 H0 F' H' → F' S = none → H' S = some (.lst vs') → DqAll F' vs' (zipT dxs dys) → R (.ok (.ret .none)) s') :
    wpAny (model X.prog X.w) A.in1 (Builtin.«list.__init__» ⟨[.ref S, .ref z], []⟩)
      (fun fin s' => match fin with | .done f => R (.ok f) s' | .again c' => c'.quiet = true ∧ codeAny (model X.prog X.w) A c' R s') (fun e s' => R (.error e) s') s := by
  have hSI : S ≠ z := d.z.symm
  have typ : ∀ (h' : Heap), (∀ b o, b ≠ S → s.heap.get? b = some o → h'.get? b = some o) → (∀ tk, ({ s with heap := h', toks := tk } : Shared).TypeIs (.ref z) "zip") := fun h' k tk => by
    exact ⟨_, k _ _ d.z hz, rfl⟩
  show wpAny _ A.in1 (do let old ← Builtin.List.listItems (.ref S); Builtin.List.listUpdate (.ref S) (fun _ => #[]); letGo old.toList.reverse; Builtin.List.listExtendWith (.ref S) (.ref z) .none) _ _ s
  refine wpAny_bind ?_
  unfold Builtin.List.listItems
  refine wpAny_bind (wpAny_seqItems hS rfl (wpAny_pure ?_))
  show wpAny _ A.in1 (updateSeq S (fun _ => #[]) >>= fun _ => letGo (#[] : Array Value).toList.reverse >>= fun _ => Builtin.List.listExtendWith (.ref S) (.ref z) .none) _ _ s
  refine wpAny_bind (wpAny_updateSeq hS rfl ?_)
  have hS₂ := Heap.get?_update_self (Obj.mapSeq (fun _ => (#[] : Array Value))) hS rfl
  have oth : ∀ b o, b ≠ S → s.heap.get? b = some o → (s.heap.update S (Obj.mapSeq (fun _ => (#[] : Array Value)))).get? b = some o :=
    fun b o hb e => (Heap.get?_update_other _ _ (Ne.symm hb)).trans e
  refine wpAny_bind (wpAny_letGo ?_)
  unfold Builtin.List.listExtendWith
  refine wpAny_bind (wpAny_typeOf (typ _ oth _) ?_)
  have h1 : Builtin.List.listSameRef (.ref S) (.ref z) = false := by simp [Builtin.List.listSameRef, hSI]
  have h2 : (Value.type "zip" == Value.type "list") = false := by decide
  have h3 : (Value.type "zip" == Value.type "tuple") = false := by decide
  simp only [h1, h2, h3, Bool.or_false, Bool.false_eq_true, if_false]
  refine wpAny_bind (wpAny_pyIter_zip (oth _ _ d.z hz) ?_)
  refine wpAny_bind (wpAny_holding ?_)
  unfold Builtin.List.listLengthHint
  refine wpAny_bind (wpAny_specialOf (typ _ oth _) zip_no_len ?_)
  show wpAny _ A.in1 (specialOf (Value.ref z) (Str.ofString "__length_hint__") >>= _) _ _ _
  refine wpAny_bind (wpAny_specialOf (typ _ oth _) zip_no_hint ?_)
  refine wpAny_pure ?_
  show wpAny _ A.in1 (rule "list.extend.makes-room" >>= fun _ => Builtin.List.listTouch (.ref S) >>= fun _ =>
    again (.builtin "list.extend.loop" ⟨[.ref S, .ref z, .none], []⟩)) _ _ _
  refine wpAny_bind (wpAny_rule ?_)
  refine wpAny_bind ?_
  show wpAny _ A.in1 (updateSeq S (·.push .none) >>= fun _ => updateSeq S (·.pop)) _ _ _
  refine wpAny_bind (wpAny_updateSeq hS₂ rfl ?_)
  have hS₃ := Heap.get?_update_self (Obj.mapSeq (·.push Value.none)) hS₂ rfl
  refine wpAny_updateSeq (hz := by seq_fits) hS₃ rfl ?_
  have hS₄ := Heap.get?_update_self (Obj.mapSeq (·.pop)) hS₃ rfl
  have oth2 : ∀ b o, b ≠ S → s.heap.get? b = some o → (((s.heap.update S (Obj.mapSeq (fun _ => (#[] : Array Value)))).update S (Obj.mapSeq (·.push Value.none))).update S (Obj.mapSeq (·.pop))).get? b = some o :=
    fun b o hb e => (Heap.get?_update_other _ _ (Ne.symm hb)).trans ((Heap.get?_update_other _ _ (Ne.symm hb)).trans (oth b o hb e))
  have e2 : upd (upd H0 S (.lst [])) S (.lst []) = upd H0 S (.lst []) := by
    funext a
    by_cases ha : a = S
    · rw [ha, upd_same, upd_same]
    · rw [upd_ne ha]
  have I2 := I.write (x := S) (e := S) (t' := s.toks) (o := .lst []) (by rw [upd_same]; exact True.intro) (.inl rfl) oth2 ⟨_, hS₄⟩ ⟨Nat.zero_le _, [], _, .nil, hS₄⟩
  rw [e2] at I2
  have nS : S ∉ [z, TO, i1, i2] := fun hm => Nat.lt_irrefl _ (hlt S hm)
  refine wpAny_pure ⟨plainId_quiet PySem.F.plain_extend_loop _, loop_zip hA D d rv rv2 hx hy hn hS0 hf hlt hR _ 0 _ (upd H0 S (.lst [])) F0 [] #[] _ rfl (Nat.zero_le _) I2 (st.frame d oth2) (Br.own sm hS0) (sm.free hS0) upd_same hS₄ .nil .nil rfl fun b hb => ?_⟩
  rw [upd_ne (show b ≠ S from fun e => nS (e ▸ hb))]
  exact (hf b hb).1
end

theorem apart (n l1 l2 : Nat) (la : l1 < n) (lb : l2 < n) : ZipApart (n + 4) (n + 2) (n + 3) n (n + 1) l1 l2 := by
  constructor <;> first | exact Nat.ne_of_lt (by omega) | exact Nat.ne_of_gt (by omega)
theorem apartS (n l1 l2 : Nat) (la : l1 < n) (lb : l2 < n) : ZS (n + 4) (n + 2) (n + 3) n (n + 1) l1 l2 (n + 5) := by
  constructor <;> exact Nat.ne_of_lt (by omega)
/-- list(zip(a, b)) -/
def rLz (K : PySem.W.Frag) : List V → Hp → VK → Prop := fun vs H Q => ∃ F a b us ws dxs dys, vs = [.ref a, .ref b] ∧ Same F H ∧ SqL K H a us ∧ SqL K H b ws ∧ DqAll F us dxs ∧ DqAll F ws dys ∧
  ∀ F' H' w, Br F H F' H' → NewV K H F' H' w (.c .own (.l (zipT dxs dys))) → Q w H'
def pvLst (p : PV) : Option (List D) := match p with
  | .d (.list xs) => some xs
  | .z xs => some xs
  | _ => none
def hLz : List PV → Option SV
  | [p, q] => match pvLst p with
    | some xs => match pvLst q with
      | some ys => some (.c .own (.l (zipT xs ys)))
      | none => none
    | none => none
  | _ => none
theorem pvLst_ok {K : PySem.W.Frag} {F H : Hp} {v : V} {p : PV} {xs : List D} (sm : Same F H) (h : PkX K F H v p) (e : pvLst p = some xs) : ∃ a us, v = .ref a ∧ SqL K H a us ∧ DqAll F us xs := by
  unfold pvLst at e
  split at e
  · cases e
    have h : Pk F H v _ := h
    cases h with
    | lst a b => exact ⟨_, _, rfl, SqL.of a, b⟩
  · cases e
    obtain ⟨a, vs, rfl, h1, h2⟩ := h
    exact ⟨a, vs, rfl, h1, h2⟩
  · cases e
theorem ru_lz {K : PySem.W.Frag} : RuleNX K (rLz K) hLz := fun F H vs ds s Q sm hp e k => by
  unfold hLz at e
  split at e
  · split at e
    · rename_i xs ex
      split at e
      · rename_i ys ey
        cases e
        cases hp with
        | cons a t =>
          cases t with
          | cons b t =>
            cases t
            obtain ⟨l1, us, rfl, h1, h2⟩ := pvLst_ok sm a ex
            obtain ⟨l2, ws, rfl, h3, h4⟩ := pvLst_ok sm b ey
            exact ⟨F, l1, l2, us, ws, xs, ys, rfl, sm, h1, h3, h2, h4, k⟩
      · cases e
    · cases e
  · cases e
section
variable {X : Cx} {G : Gd} {a b : Expr} {g : FA} {p p2 q pos : Pos}
theorem c_lzip (hK : G.K = X.K) (hc : X.calm = true) (hm : X.mg "list" = none) (hm2 : X.mg "zip" = none) (ha : PA X [a, b] (tA G g)) (hg : Gl X "list" := by rfl) (hg2 : Gl X "zip" := by rfl)
    (hs : starEach [a, b] X.env = (false, eval a X.env) :: starEach [b] X.env := by rfl) (hpl : (backTo q (starEach [b] X.env)).any (·.1) = false := by rfl) :
    PE X (.Call (.Name "list" p) [.Call (.Name "zip" p2) [a, b] [] q] [] pos) (tE G (fNX hLz g)) := by
  refine ⟨fun pins s σ H Q I h => ?_⟩
  refine Call_ (ld_blt I hg hm PyProof.Rows.boot_list ?_)
  refine PyProof.Rows.callWith_type1 (PyProof.Rows.args_cons ?_ rfl) rfl rfl
  refine Call_ (ld_blt I hg2 hm2 PyProof.Rows.boot_zip (PyProof.Rows.callWith_type1 (thn (ha.run q pins s σ H _ I (fNX_in ru_lz h)) fun us0 s1 ⟨vs, H1, I1, r1, q1⟩ => ?_) hs hpl))
  rw [hK] at q1
  obtain ⟨F, l1, l2, us, ws, dxs, dys, rfl, sm, h1, h2, hx, hy, k⟩ := q1
  cases r1 with
  | cons r rr =>
    cases rr with
    | cons r' rr =>
      cases rr
      cases r
      cases r'
      obtain ⟨its, rv, p1, z1⟩ := I1.list h1
      obtain ⟨its2, rv2, p3, z2⟩ := I1.list h2
      have la : l1 < s1.heap.objs.size := let ⟨_, _, e, _⟩ := p1; Heap.lt_size e
      have lb : l2 < s1.heap.objs.size := let ⟨_, _, e, _⟩ := p3; Heap.lt_size e
      refine call_zip_2 p1.isList p3.isList fun h' hz hTI hTO g1 g2 hsz hk => PyProof.Rows.args_nil ?_
      have I2 : Inv X pins σ H1 { s1 with heap := h' } := I1.kept (t' := s1.toks) hk
      have hS0 : H1 h'.objs.size = none := I2.hok.fresh (Nat.le_refl _)
      have D : ZipApart (s1.heap.objs.size + 4) (s1.heap.objs.size + 2) (s1.heap.objs.size + 3) s1.heap.objs.size (s1.heap.objs.size + 1) l1 l2 := apart _ _ _ la lb
      have d : ZS (s1.heap.objs.size + 4) (s1.heap.objs.size + 2) (s1.heap.objs.size + 3) s1.heap.objs.size (s1.heap.objs.size + 1) l1 l2 h'.objs.size := by
        rw [hsz]
        exact apartS _ _ _ la lb
      have hf : ∀ b ∈ [s1.heap.objs.size + 4, s1.heap.objs.size + 3, s1.heap.objs.size, s1.heap.objs.size + 1], FpOk X pins H1 b := fun c hcm => by
        have hle : s1.heap.objs.size ≤ c := by
          simp only [List.mem_cons, List.not_mem_nil, or_false] at hcm
          rcases hcm with e | e | e | e <;> subst e
          · exact Nat.le_add_right _ _
          · exact Nat.le_add_right _ _
          · exact Nat.le_refl _
          · exact Nat.le_add_right _ _
        exact I1.fpOk hle (I1.hok.fresh hle)
      have hlt : ∀ b ∈ [s1.heap.objs.size + 4, s1.heap.objs.size + 3, s1.heap.objs.size, s1.heap.objs.size + 1], b < h'.objs.size := fun c hcm => by
        rw [hsz]
        simp only [List.mem_cons, List.not_mem_nil, or_false] at hcm
        rcases hcm with e | e | e | e <;> subst e
        · exact Nat.add_lt_add_left (by decide) _
        · exact Nat.add_lt_add_left (by decide) _
        · exact Nat.lt_add_of_pos_right (by decide)
        · exact Nat.add_lt_add_left (by decide) _
      have st : Zst (s1.heap.objs.size + 4) (s1.heap.objs.size + 2) (s1.heap.objs.size + 3) s1.heap.objs.size (s1.heap.objs.size + 1) l1 l2 h'.objs.size its.toArray its2.toArray 0 h' :=
        ⟨hTI, g1, g2, p1.isList.at fun o e => hk _ o e, p3.isList.at fun o e => hk _ o e, .inl ⟨hz, _, _, hTO⟩⟩
      refine callType_codes (Q₁ := fun obj s₁ => obj = .ref h'.objs.size ∧ s₁ = { s1 with heap := h'.push { cls := .type "list", data := .seq #[] } }) PySem.F.called_list (PySem.F.typeCall_list_1 _) PySem.F.entry_list_init
        (code_list_new _ ⟨rfl, rfl⟩) fun obj s₁ h₁ => ?_
      obtain ⟨rfl, rfl⟩ := h₁
      have hS : (h'.push { cls := .type "list", data := .seq #[] }).get? h'.objs.size = some { cls := .type "list", data := .seq #[] } := Heap.get?_push_size _ rfl
      have I3 := I2.laid (a := h'.objs.size) (o := .lst []) (h' := h'.push { cls := .type "list", data := .seq #[] }) (t' := s1.toks) (fun _ _ q => Heap.get?_push_of_some _ q) (Nat.le_refl _) ⟨Nat.zero_le _, [], _, .nil, hS⟩
      refine ⟨⟨_, hS, rfl⟩, PySem.F.args_list_init_2 _ _, init_zip (hd1 (I.ok.hd hc)) D d rv rv2 hx hy z1 hS0 sm hf hlt I3 (st.frame d fun c o _ e => Heap.get?_push_of_some _ e) (Heap.get?_push_of_some _ hz) hS fun s' H' F' vs' I' br hF hH hq => ⟨rfl, .ref h'.objs.size, H', I', rfl, k F' H' _ br ⟨rfl, rfl, _, rfl, hS0, hF, vs', hH, hq⟩⟩⟩
end
end Pv
set_option Elab.async false
set_option linter.all false
set_option maxRecDepth 100000
set_option maxHeartbeats 1000000
namespace Pv
open PySem PySem.Spec PyProof.Rows L2
theorem u64 {k : Nat} {A : Around} (r : Room k A) : A.units + 64 < cLine := by have := r.un; omega
theorem u100 {k : Nat} {A : Around} (r : Room k A) : A.units + 100 < cLine := by have := r.un; omega
/-- in a block nothing is let out -/
theorem takes0 {X : Cx} : Takes X (fun _ _ _ _ => False) := fun _ _ ⟨_, _, _, _, _, _, _, _, _, _, _, _, _, _, _, _, h⟩ => h.elim
theorem ty_append : typeOf (.builtin "list.append") = pure (.type "method_descriptor") := by kernel_rfl
theorem ty_extend : typeOf (.builtin "list.extend") = pure (.type "method_descriptor") := by kernel_rfl
theorem ty_pop : typeOf (.builtin "list.pop") = pure (.type "method_descriptor") := by kernel_rfl
theorem ty_remove : typeOf (.builtin "list.remove") = pure (.type "method_descriptor") := by kernel_rfl
theorem ty_index : typeOf (.builtin "list.index") = pure (.type "method_descriptor") := by kernel_rfl
theorem ty_count : typeOf (.builtin "list.count") = pure (.type "method_descriptor") := by kernel_rfl
theorem ty_insert : typeOf (.builtin "list.insert") = pure (.type "method_descriptor") := by kernel_rfl
theorem mt_Pop {X : Cx} : MtR X "list.pop" (fun x vs H Q => rPop x vs H Q ∨ rPopAt x vs H Q) := MtR.or mt_pop mt_popAt
end Pv
namespace Pv
open L2 PySem
theorem ok_by {N : List Str} {sc scope : Scope} {own : List (Str × Nat)} (h : blkC N sc scope own = true) : BlkOk N sc scope own := blkOk_by h
end Pv
namespace Pv
open L2 PySem
theorem bt_list : bootBuiltins "list" = some (.type "list") := by decide +kernel
theorem bt_tuple : bootBuiltins "tuple" = some (.type "tuple") := by decide +kernel
theorem bt_int : bootBuiltins "int" = some (.type "int") := by decide +kernel
theorem bt_str : bootBuiltins "str" = some (.type "str") := by decide +kernel
theorem bt_bool : bootBuiltins "bool" = some (.type "bool") := by decide +kernel
theorem bt_dict : bootBuiltins "dict" = some (.type "dict") := by decide +kernel
theorem bt_set : bootBuiltins "set" = some (.type "set") := by decide +kernel
theorem bt_len : bootBuiltins "len" = some (.builtin "len") := by decide +kernel
theorem bt_all : bootBuiltins "all" = some (.builtin "all") := by decide +kernel
theorem bt_any : bootBuiltins "any" = some (.builtin "any") := by decide +kernel
theorem bt_sorted : bootBuiltins "sorted" = some (.builtin "sorted") := by decide +kernel
theorem bt_isinstance : bootBuiltins "isinstance" = some (.builtin "isinstance") := by decide +kernel
theorem bt_sum : bootBuiltins "sum" = some (.builtin "sum") := by decide +kernel
theorem bt_min : bootBuiltins "min" = some (.builtin "min") := by decide +kernel
theorem bt_max : bootBuiltins "max" = some (.builtin "max") := by decide +kernel
theorem bt_repr : bootBuiltins "repr" = some (.builtin "repr") := by decide +kernel
end Pv
namespace Pv
open PySem PySem.Spec PyProof.Rows L2
/-- -e -/
def negX (x : XV) (ρ : Env) : R XV := match pk ρ x with
  | some (.int i) => .ok (.v (.d (.int (-i)))) ρ
  | _ => .bad
def fNeg (f : FE) : FE := fun ρ => (f ρ).bind negX
theorem c_neg {X : Cx} {G : Gd} {e : Expr} {f : FE} {pos : Pos} (he : PE X e (tE G f)) : PE X (.UnaryOp .USub e pos) (tE G (fNeg f)) :=
  PE.of (pe_un un_neg he) fun σ H Q ⟨F, ρ, rl, p⟩ => ⟨F, ρ, rl, p.seq.mono fun x ρ1 F1 H1 _ _ _ ⟨rl1, e1, p1⟩ v hv _ => by
    unfold negX at p1
    split at p1
    · rename_i i ei
      have hp := pk_ok rl1 hv ei
      cases hp
      exact ⟨_, rfl, p1.here rl1 _ (.int _) trivial⟩
    · exact p1.elim⟩
end Pv
namespace Pv
open PySem PySem.Spec PyProof.Rows L2
/-! ## a, b = x, y of plain names: stored from the right -/
def noPin (i : Nat) (ρ : Env) : Bool := match ρ[i]? with
  | some (some (.c .pin _)) => false
  | _ => true
theorem noPin_ok {i : Nat} {ρ : Env} (h : noPin i ρ = true) : ∀ t, ρ[i]? ≠ some (some (.c .pin t)) := fun t z => by
  unfold noPin at h
  rw [z] at h
  cases h
def fPar (i j : Nat) (g : FA) : FS := fun ρ => match g ρ with
  | .ok xs ρ1 => match xs with
    | [.v (.d x), .v (.d y)] => if noPin i ρ1 && noPin j ρ1 then .nx ((ρ1.set i (some (.d x))).set j (some (.d y))) else .bad
    | _ => .bad
  | .exc x ρ1 => .exc x ρ1
  | .bad => .bad
def fPar3 (i j k : Nat) (g : FA) : FS := fun ρ => match g ρ with
  | .ok xs ρ1 => match xs with
    | [.v (.d x), .v (.d y), .v (.d z)] => if noPin i ρ1 && noPin j ρ1 && noPin k ρ1 then .nx (((ρ1.set i (some (.d x))).set j (some (.d y))).set k (some (.d z))) else .bad
    | _ => .bad
  | .exc x ρ1 => .exc x ρ1
  | .bad => .bad
section
variable {K : PySem.W.Frag} {s0 : Sl} {F H : Hp} {σ : Sl} {ρ : Env}
theorem set_dat {i : Nat} {v : V} {d : D} (r : Rel K s0 F H σ ρ) (np : noPin i ρ = true) (hd : Dq F v d) : Rel K s0 F H (σ.set i (some v)) (ρ.set i (some (.d d))) ∧ Ext σ ρ F H (σ.set i (some v)) (ρ.set i (some (.d d))) F H :=
  setS_ok r (Ext.refl _ _ _ _) (noPin_ok np) hd trivial
theorem noPin_set {i j : Nat} {d : D} (h : noPin j ρ = true) : noPin j (ρ.set i (some (.d d))) = true := by
  unfold noPin at h ⊢
  by_cases e : i = j
  · subst e
    by_cases l : i < ρ.length
    · rw [List.getElem?_set_self l]
    · rw [List.getElem?_eq_none (by rw [List.length_set]; omega)]
  · rw [List.getElem?_set_ne e]
    exact h
end
section
variable {X : Cx} {G : Gd} {a b c : Expr} {g : FA} {x y z : Str} {px py pz pt pt2 pos : Pos} {kt k2 : Nat}
theorem s_par (i j : Nat) (hc : X.calm = true) (hN : X.N.Nodup) (ha : PA X [a, b] (tA G g)) (hi : X.N[i]? = some x := by rfl) (hj : X.N[j]? = some y := by rfl) (hij : i ≠ j := by decide)
    (hx : X.env.scope.names.lookup x = some .local := by rfl) (hy : X.env.scope.names.lookup y = some .local := by rfl)
    (hw : swappedStores [.Tuple [.Name x px, .Name y py] kt pt] (.Tuple [a, b] k2 pt2) X.env = pure (some [x, y]) := by rfl)
    (hs : swapsWithSole [.Tuple [.Name x px, .Name y py] kt pt] (.Tuple [a, b] k2 pt2) pos.line X.env = pure false := by rfl) :
    PS X (.Assign [.Tuple [.Name x px, .Name y py] kt pt] (.Tuple [a, b] k2 pt2) pos) (tS G (fPar i j g)) :=
  PS.of (ps_par hc hN hi hj hij hx hy ha hw hs) fun D σ H ⟨F, ρ, rl, p⟩ => ⟨F, ρ, rl, by
    unfold fPar at p
    cases eg : g ρ with
    | ok xs ρ1 =>
      rw [eg] at p
      intro F1 H1 r1 e1 vs hvs
      simp only at p
      split at p
      · rename_i dx dy
        split at p
        · rename_i hp
          simp only [Bool.and_eq_true] at hp
          cases hvs with
          | cons h1 t =>
            cases t with
            | cons h2 t =>
              cases t
              obtain ⟨r2, e2⟩ := set_dat (i := i) r1 hp.1 h1
              obtain ⟨r3, e3⟩ := set_dat (i := j) r2 (noPin_set hp.2) h2
              exact ⟨_, _, rfl, p _ _ _ r3 (e1.trans (e2.trans e3))⟩
        · exact p.elim
      · exact p.elim
    | exc x ρ1 =>
      rw [eg] at p
      exact fun F1 H1 c d r e q => p F1 H1 σ c d r e q
    | bad =>
      rw [eg] at p
      exact p⟩
theorem s_par3 (i j k : Nat) (hc : X.calm = true) (hN : X.N.Nodup) (ha : PA X [a, b, c] (tA G g)) (hi : X.N[i]? = some x := by rfl) (hj : X.N[j]? = some y := by rfl) (hk : X.N[k]? = some z := by rfl) (hij : i ≠ j := by decide) (hik : i ≠ k := by decide) (hjk : j ≠ k := by decide)
    (hx : X.env.scope.names.lookup x = some .local := by rfl) (hy : X.env.scope.names.lookup y = some .local := by rfl) (hz : X.env.scope.names.lookup z = some .local := by rfl)
    (hw : swappedStores [.Tuple [.Name x px, .Name y py, .Name z pz] kt pt] (.Tuple [a, b, c] k2 pt2) X.env = pure (some [x, y, z]) := by rfl)
    (hs : swapsWithSole [.Tuple [.Name x px, .Name y py, .Name z pz] kt pt] (.Tuple [a, b, c] k2 pt2) pos.line X.env = pure false := by rfl) :
    PS X (.Assign [.Tuple [.Name x px, .Name y py, .Name z pz] kt pt] (.Tuple [a, b, c] k2 pt2) pos) (tS G (fPar3 i j k g)) :=
  PS.of (ps_par3 hc hN hi hj hk hij hik hjk hx hy hz ha hw hs) fun D σ H ⟨F, ρ, rl, p⟩ => ⟨F, ρ, rl, by
    unfold fPar3 at p
    cases eg : g ρ with
    | ok xs ρ1 =>
      rw [eg] at p
      intro F1 H1 r1 e1 vs hvs
      simp only at p
      split at p
      · rename_i dx dy dz
        split at p
        · rename_i hp
          simp only [Bool.and_eq_true] at hp
          cases hvs with
          | cons h1 t =>
            cases t with
            | cons h2 t =>
              cases t with
              | cons h3 t =>
                cases t
                obtain ⟨r2, e2⟩ := set_dat (i := i) r1 hp.1.1 h1
                obtain ⟨r3, e3⟩ := set_dat (i := j) r2 (noPin_set hp.1.2) h2
                obtain ⟨r4, e4⟩ := set_dat (i := k) r3 (noPin_set (noPin_set hp.2)) h3
                exact ⟨_, _, _, rfl, p _ _ _ r4 (e1.trans (e2.trans (e3.trans e4)))⟩
        · exact p.elim
      · exact p.elim
    | exc x ρ1 =>
      rw [eg] at p
      exact fun F1 H1 c d r e q => p F1 H1 σ c d r e q
    | bad =>
      rw [eg] at p
      exact p⟩
end
end Pv
set_option Elab.async false
set_option linter.all false
set_option maxRecDepth 100000
set_option maxHeartbeats 1000000
namespace Pv
open PySem PySem.Spec PyProof.Rows L2
/-- a script's def, by its function -/
theorem entry {K : PySem.W.Frag} {mg : Str → Option Value} {Fu : Pv.Fn} {H : Hp} {a : Addr} {ns : List Int} (hO : Only H) (hS : SqL K H a (ns.map V.int)) (hv : ∃ ρ, Fu [.c .bor (.z (ns.map PyData.int))] = .rt (.d (.bool true)) ρ) :
    spF K mg 1 Fu [.ref a] H (fun v _ => v = .bl true) fun _ _ _ => False := by
  obtain ⟨ρ, hv⟩ := hv
  refine ⟨rfl, fun _ => none, [.c .bor (.z (ns.map PyData.int))], (fun _ _ z => nomatch z), .cons ⟨a, rfl, (fun z => nomatch z), ns.map V.int, ?_, ?_⟩ .nil, ?_, ?_, ?_⟩
  · rcases hS with h | h
    · rcases h with h | ⟨o, h⟩
      · rcases hO a with z | ⟨o, xs, z⟩
        · rw [z] at h
          cases h
        · rw [z] at h
          cases h
      · exact .inl ⟨o, h⟩
    · exact .inr (.inr h)
  · clear hS hv
    induction ns with
    | nil => exact .nil
    | cons n ns ih => exact .cons (.int n) ih
  · intro i j m m' t t' b hij h1 h2 _ _ _ _ _
    cases i with
    | zero =>
      cases j with
      | zero => exact hij rfl
      | succ j => cases h2
    | succ i => cases h1
  · intro j t h
    cases j with
    | zero => cases h
    | succ j => cases h
  · rw [hv]
    intro F' H' v _ hr
    cases hr with
    | bl => rfl
/-- a law's end over a head by facts, what it may let out told with the world -/
theorem walk_ofW {l : PySem.W.OpenLaw} {n k : Nat} {q : Program} {loose : List Str} {XP : (Str → Option Value) → Heap → Prop} {YP : World → Heap → Prop} {d : DefRec} {x : Str}
    (hn : l.most = some n) (hn2 : n ≤ sizeLine) (hdf : d.params.defaults = []) (hr : Room k callerA)
    (F : ∀ (w : World) (mg : Str → Option Value) (fa : Addr) (h : Heap), YP w h → h.Ns mainGlobals mg → mg d.name = some (.ref fa) →
      ∃ (K : PySem.W.Frag) (fd : FuncData) (sp : Sp), K.In h ∧ (∀ (s : Shared) (u : Value), BindsTo s fd ⟨[u], []⟩ [(x, u)]) ∧
        (∀ (H : Hp) (a : Addr) (ns : List Int), ns.length ≤ n → Only H → SqL K H a (ns.map V.int) → sp [.ref a] H (fun v _ => v = .bl true) fun _ _ _ => False) ∧
        ∀ base : Heap, K.In base → base.Ns mainGlobals mg → FnOk l.prog w K mg base (L2.CX l.prog w) k fa fd [x] sp) :
    PySem.W.WalkO q loose XP YP l.row.toRowW d [] (fun f vs => PySem.call f vs) := by
  refine Att.attach_call hn hdf fun w s₀ s₁ mg mb fa o pm cd doc a vs ns G Y ho hd hcd hmg hobj hints hlen hg => ?_
  obtain ⟨K, fd, sp, KX, hb, hsp, hF⟩ := F w mg fa _ Y G.T.g hmg
  exact law_call KX G.T.g G.T.b G.T.builtins G.T.nolimit hg hobj hints (Nat.le_trans hlen hn2) hr hF hb (fun H hO hS => hsp H a ns hlen hO hS) fun H e s' ⟨_, _, _, _, _, _, _, _, _, _, _, _, h⟩ => h
end Pv
set_option linter.all false
set_option maxRecDepth 100000
namespace Pv
open PySem PySem.Spec
/-! ## readings of expressions that are data, statement by statement -/
def DE (f : FE) (ρ : Env) (d : D) : Prop := f ρ = .ok (.v (.d d)) ρ
abbrev IE (f : FE) (ρ : Env) (i : Int) : Prop := DE f ρ (.int i)
theorem de_var {ρ : Env} {k : Nat} {d : D} (h : ρ[k]? = some (some (.d d))) : DE (fVar k) ρ d := by
  unfold DE fVar
  rw [h]
theorem de_k {ρ : Env} {d : D} : DE (fK d) ρ d := rfl
theorem ie_op {h : PV → PV → Option SV} {f g : FE} {ρ : Env} {a b d : D} (hf : DE f ρ a) (hg : DE g ρ b) (e : h (.d a) (.d b) = some (.d d)) : DE (fX h f g) ρ d := by
  unfold DE fX
  rw [hf]
  simp only [R.bind]
  rw [hg]
  simp only
  unfold onX pkX pvS
  simp only [e]
theorem ie_add {f g : FE} {ρ : Env} {i j : Int} (hf : IE f ρ i) (hg : IE g ρ j) : IE (fX hAdd f g) ρ (i + j) := ie_op hf hg rfl
theorem ie_mod {f g : FE} {ρ : Env} {i j : Int} (hf : IE f ρ i) (hg : IE g ρ j) (hj : 0 < j) : IE (fX hMod f g) ρ (i.fmod j) := ie_op hf hg (by
  unfold hMod hI
  simp only
  rw [if_pos (Nat.ble_eq_true_of_le (by omega))])
theorem ie_div {f g : FE} {ρ : Env} {i j : Int} (hf : IE f ρ i) (hg : IE g ρ j) (hj : 0 < j) (hj2 : j < 1073741824) : IE (fX hDiv f g) ρ (i.fdiv j) := ie_op hf hg (by
  unfold hDiv hI
  simp only
  rw [if_pos (by rw [Nat.ble_eq_true_of_le (by omega), show Nat.blt j.natAbs 1073741824 = true from Nat.ble_eq_true_of_le (by omega)]; rfl)])
theorem sm64_lt {i : Int} (h : i.natAbs < 18446744073709551616) : sm64 i = true := Nat.ble_eq_true_of_le h
theorem ie_mul {f g : FE} {ρ : Env} {i j : Int} (hf : IE f ρ i) (hg : IE g ρ j) (hj : j.natAbs < 18446744073709551616) : IE (fX hMul f g) ρ (i * j) := ie_op hf hg (by
  show (if (sm64 j || sm64 i) = true then some (SV.d (.int (i * j))) else none) = _
  rw [sm64_lt hj]
  rfl)
theorem ie_pow {f g : FE} {ρ : Env} {i : Int} {n : Nat} (hf : IE f ρ i) (hg : IE g ρ (Int.ofNat n)) (hn : n ≤ 1000000) (hi : i.natAbs < 18446744073709551616) : IE (fX hPow f g) ρ (i ^ n) := ie_op hf hg (by
  have e : (Nat.ble n 1000000 && sm64 i) = true := by rw [Nat.ble_eq_true_of_le hn, sm64_lt hi]; rfl
  show (match (if (Nat.ble n 1000000 && sm64 i) = true then some (PyData.int (i ^ (Int.ofNat n).toNat)) else none) with
    | some x => some (SV.d x)
    | none => none) = _
  rw [if_pos e]
  rfl)
theorem ie_int {f : FE} {ρ : Env} {i : Int} (hf : IE f ρ i) : IE (fNX hInt (aVal f aNil)) ρ i := by
  unfold IE DE fNX aVal aNil
  rw [hf]
  rfl
theorem ie_len {f : FE} {ρ : Env} {xs : List D} (hf : DE f ρ (.list xs)) : IE (fNX hLen (aVal f aNil)) ρ xs.length := by
  unfold IE DE fNX aVal aNil
  rw [hf]
  rfl
theorem de_ix {f g : FE} {ρ : Env} {xs : List D} {i : Int} {d : D} (hf : DE f ρ (.list xs)) (hg : IE g ρ i) (e : atD xs i = some d) : DE (fX hIx f g) ρ d := ie_op hf hg (by
  show (match atD xs i with
    | some d => some (SV.d d)
    | none => none) = _
  rw [e])
/-- a test of ints -/
theorem te_cmp {h : PV → PV → Option SV} {f g : FE} {ρ : Env} {i j : Int} {b : Bool} (hf : IE f ρ i) (hg : IE g ρ j) (e : h (.d (.int i)) (.d (.int j)) = some (.d (.bool b))) : fB (fX h f g) ρ = .ok b ρ := by
  have q : DE (fX h f g) ρ (.bool b) := ie_op hf hg e
  unfold fB
  rw [q]
  rfl
theorem seq_nx {a b : FS} {ρ ρ1 : Env} {r : RS} (h : a ρ = .nx ρ1) (k : b ρ1 = r) : fSeq a b ρ = r := by
  unfold fSeq
  rw [h]
  exact k
theorem asg_set {f : FE} {ρ : Env} {i : Nat} {d : D} (h : DE f ρ d) (np : noPin i ρ = true) : fAsg f (setV i) ρ = .nx (ρ.set i (some (.d d))) := by
  unfold fAsg
  rw [h]
  have np' := noPin_ok np
  unfold setV
  simp only
theorem ifs_t {t : FT} {a b : FS} {ρ : Env} {c : Bool} (h : t ρ = .ok c ρ) : fIfS t a b ρ = if c = true then a ρ else b ρ := by
  unfold fIfS
  rw [h]
theorem fmod_in (i : Int) {j : Int} (h : 0 < j) : 0 ≤ i.fmod j ∧ i.fmod j < j := ⟨Int.fmod_nonneg_of_pos i h, Int.fmod_lt_of_pos i h⟩
def P1 : List D := [.int 2147483629, .int 2147483587, .int 2147483579, .int 2147483563, .int 2147483549, .int 2147483543, .int 2147483497]
def P2 : List D := [.int 2147483489, .int 2147483477, .int 2147483423, .int 2147483399, .int 2147483353, .int 2147483323]
def P_spread : Pv.Fn := fDef 8
    (fSeq (fIfS (fB (fX hGe (fVar 0) (fX hPow (fK (.int 10)) (fK (.int 18)))))
    (fRet (fVar 0))
    (fPass))
    (fSeq (fAsg (fLst (aDat (fK (.int 2147483629)) (aDat (fK (.int 2147483587)) (aDat (fK (.int 2147483579)) (aDat (fK (.int 2147483563)) (aDat (fK (.int 2147483549)) (aDat (fK (.int 2147483543)) (aDat (fK (.int 2147483497)) aNil)))))))) (setV 2))
    (fSeq (fAsg (fX hAdd (fVar 2) (fLst (aDat (fK (.int 2147483489)) (aDat (fK (.int 2147483477)) (aDat (fK (.int 2147483423)) (aDat (fK (.int 2147483399)) (aDat (fK (.int 2147483353)) (aDat (fK (.int 2147483323)) aNil)))))))) (setV 2))
    (fSeq (fAsg (fX hAdd (fX hAdd (fX hMul (fX hMod (fNX hInt (aVal (fVar 0) aNil)) (fK (.int 1000000007))) (fX hAdd (fX hMul (fK (.int 2)) (fVar 1)) (fK (.int 69069)))) (fX hMul (fVar 1) (fK (.int 40503)))) (fK (.int 977))) (setV 3))
    (fSeq (fAsg (fX hMod (fNX hInt (aVal (fX hPow (fVar 3) (fK (.int 3))) aNil)) (fX hIx (fVar 2) (fX hMod (fNX hInt (aVal (fVar 1) aNil)) (fK (.int 13))))) (setV 4))
    (fSeq (fAsg (fX hAdd (fX hMod (fNX hInt (aVal (fVar 0) aNil)) (fK (.int 65537))) (fK (.int 5))) (setV 5))
    (fSeq (fAsg (fX hMod (fNX hInt (aVal (fX hPow (fX hAdd (fX hMul (fVar 4) (fX hAdd (fVar 1) (fK (.int 3)))) (fVar 5)) (fK (.int 5))) aNil)) (fX hIx (fVar 2) (fX hMod (fNX hInt (aVal (fX hAdd (fVar 1) (fK (.int 5))) aNil)) (fK (.int 13))))) (setV 6))
    (fSeq (fAsg (fX hMod (fNX hInt (aVal (fX hPow (fX hAdd (fX hAdd (fVar 6) (fX hMod (fNX hInt (aVal (fVar 4) aNil)) (fK (.int 1009)))) (fVar 1)) (fK (.int 3))) aNil)) (fX hIx (fVar 2) (fX hMod (fNX hInt (aVal (fX hAdd (fVar 1) (fK (.int 7))) aNil)) (fK (.int 13))))) (setV 7))
    (fRet (fX hAdd (fX hMul (fX hAdd (fX hMul (fVar 4) (fK (.int 2147483647))) (fVar 6)) (fK (.int 2147483647))) (fVar 7)))))))))))
/-- an item of the primes -/
theorem prime_at (i : Int) (h : 0 ≤ i) (h2 : i < 13) : ∃ p, atD (P1 ++ P2) i = some (.int p) ∧ 2147483000 < p ∧ p < 2147483648 := by
  obtain ⟨n, rfl⟩ : ∃ n : Nat, i = n := ⟨i.toNat, by omega⟩
  have hn : n < 13 := by omega
  match n, hn with
  | 0, _ => exact ⟨_, rfl, by decide, by decide⟩
  | 1, _ => exact ⟨_, rfl, by decide, by decide⟩
  | 2, _ => exact ⟨_, rfl, by decide, by decide⟩
  | 3, _ => exact ⟨_, rfl, by decide, by decide⟩
  | 4, _ => exact ⟨_, rfl, by decide, by decide⟩
  | 5, _ => exact ⟨_, rfl, by decide, by decide⟩
  | 6, _ => exact ⟨_, rfl, by decide, by decide⟩
  | 7, _ => exact ⟨_, rfl, by decide, by decide⟩
  | 8, _ => exact ⟨_, rfl, by decide, by decide⟩
  | 9, _ => exact ⟨_, rfl, by decide, by decide⟩
  | 10, _ => exact ⟨_, rfl, by decide, by decide⟩
  | 11, _ => exact ⟨_, rfl, by decide, by decide⟩
  | 12, _ => exact ⟨_, rfl, by decide, by decide⟩
  | n + 13, h => omega

theorem de_ixL {g : FE} {ρ : Env} {k : Nat} {m : Mo} {xs : List D} {i : Int} {d : D} (hk : ρ[k]? = some (some (.c m (.l xs)))) (hg : IE g ρ i) (e : atD xs i = some d) : DE (fX hIx (fVar k) g) ρ d := by
  unfold DE fX fVar
  rw [hk]
  simp only [R.bind]
  rw [hg]
  simp only
  unfold onX pkX
  simp only [hk, pvS]
  show (match (match atD xs i with
    | some d => some (SV.d d)
    | none => none) with
    | some s => R.ok (XV.v s) ρ
    | none => R.bad) = R.ok (XV.v (SV.d d)) ρ
  rw [e]
theorem seq_rt {a b : FS} {ρ ρ1 : Env} {x : XV} (h : a ρ = .rt x ρ1) : fSeq a b ρ = .rt x ρ1 := by
  unfold fSeq
  rw [h]
theorem ret_d {f : FE} {ρ : Env} {d : D} (h : DE f ρ d) : fRet f ρ = .rt (.v (.d d)) ρ := by
  unfold fRet
  rw [h]
theorem fdef_rt {N : Nat} {g : FS} {svs : List SV} {d : D} {ρ : Env} (h : g (pad N svs) = .rt (.v (.d d)) ρ) (hp : pinsOk svs ρ = true := by rfl) : fDef N g svs = .rt (.d d) ρ := by
  unfold fDef
  rw [h]
  unfold endF
  simp only
  rw [if_pos hp]
  rfl
theorem spread_ok (c at' : Int) (h0 : 0 ≤ at') (h1 : at' ≤ 1000000) : ∃ z ρ, P_spread [.d (.int c), .d (.int at')] = .rt (.d (.int z)) ρ := by
  have t : fB (fX hGe (fVar 0) (fX hPow (fK (.int 10)) (fK (.int 18)))) (pad 8 [.d (.int c), .d (.int at')]) = .ok (decide ((1000000000000000000 : Int) ≤ c)) _ :=
    te_cmp (j := 1000000000000000000) (de_var rfl) (ie_op de_k de_k rfl) rfl
  by_cases hc : (1000000000000000000 : Int) ≤ c
  · refine ⟨c, pad 8 [.d (.int c), .d (.int at')], fdef_rt (seq_rt ((ifs_t t).trans ?_))⟩
    rw [if_pos (decide_eq_true hc)]
    exact ret_d (de_var rfl)
  · have e1 : fIfS (fB (fX hGe (fVar 0) (fX hPow (fK (.int 10)) (fK (.int 18))))) (fRet (fVar 0)) fPass (pad 8 [.d (.int c), .d (.int at')]) = .nx (pad 8 [.d (.int c), .d (.int at')]) := by
      rw [ifs_t t, if_neg (by simp [hc])]
      rfl
    obtain ⟨a1, a2⟩ := fmod_in c (j := 1000000007) (by decide)
    obtain ⟨p4, q4, b1, b2⟩ := prime_at (at'.fmod 13) (fmod_in at' (by decide)).1 (fmod_in at' (by decide)).2
    obtain ⟨p6, q6, b3, b4⟩ := prime_at ((at' + 5).fmod 13) (fmod_in _ (by decide)).1 (fmod_in _ (by decide)).2
    obtain ⟨p7, q7, b5, b6⟩ := prime_at ((at' + 7).fmod 13) (fmod_in _ (by decide)).1 (fmod_in _ (by decide)).2
    generalize hm : c.fmod 1000000007 = m at a1 a2
    have hmix : m * (2 * at' + 69069) + at' * 40503 + 977 < 18446744073709551616 ∧ 0 ≤ m * (2 * at' + 69069) + at' * 40503 + 977 := by
      have z1 : m * (2 * at' + 69069) ≤ 1000000007 * (2 * at' + 69069) := Int.mul_le_mul_of_nonneg_right (by omega) (by omega)
      have z2 : 0 ≤ m * (2 * at' + 69069) := Int.mul_nonneg a1 (by omega)
      omega
    refine ⟨_, _, fdef_rt (seq_nx e1 (seq_nx (ρ1 := [some (.d (.int c)), some (.d (.int at')), some (.c .own (.l P1)), none, none, none, none, none]) rfl (seq_nx (ρ1 := [some (.d (.int c)), some (.d (.int at')), some (.c .own (.l (P1 ++ P2))), none, none, none, none, none]) rfl
      (seq_nx (asg_set (ie_add (ie_add (ie_mul (ie_mod (ie_int (de_var rfl)) de_k (by decide)) (ie_add (ie_mul de_k (de_var rfl) ?_) de_k) ?_) (ie_mul (de_var rfl) de_k (by decide))) de_k) rfl)
      (seq_nx (asg_set (ie_mod (ie_int (ie_pow (n := 3) (de_var rfl) de_k (by decide) ?_)) (de_ixL (m := .own) rfl (ie_mod (ie_int (de_var rfl)) de_k (by decide)) q4) ?_) rfl)
      (seq_nx (asg_set (ie_add (ie_mod (ie_int (de_var rfl)) de_k (by decide)) de_k) rfl)
      (seq_nx (asg_set (ie_mod (ie_int (ie_pow (n := 5) (ie_add (ie_mul (de_var rfl) (ie_add (de_var rfl) de_k) ?_) (de_var rfl)) de_k (by decide) ?_)) (de_ixL (m := .own) rfl (ie_mod (ie_int (ie_add (de_var rfl) de_k)) de_k (by decide)) q6) ?_) rfl)
      (seq_nx (asg_set (ie_mod (ie_int (ie_pow (n := 3) (ie_add (ie_add (de_var rfl) (ie_mod (ie_int (de_var rfl)) de_k (by decide))) (de_var rfl)) de_k (by decide) ?_)) (de_ixL (m := .own) rfl (ie_mod (ie_int (ie_add (de_var rfl) de_k)) de_k (by decide)) q7) ?_) rfl)
      (ret_d (ie_add (ie_mul (ie_add (ie_mul (de_var rfl) de_k (by decide)) (de_var rfl)) de_k (by decide)) (de_var rfl)))))))))))⟩
    · omega
    · omega
    · rw [hm]
      omega
    · omega
    · omega
    · obtain ⟨u1, u2⟩ := fmod_in ((c.fmod 1000000007 * (2 * at' + 69069) + at' * 40503 + 977) ^ 3) (j := p4) (by omega)
      obtain ⟨u3, u4⟩ := fmod_in c (j := 65537) (by decide)
      generalize ((c.fmod 1000000007 * (2 * at' + 69069) + at' * 40503 + 977) ^ 3).fmod p4 = one at u1 u2 ⊢
      generalize c.fmod 65537 = rest at u3 u4 ⊢
      have z1 : one * (at' + 3) ≤ 2147483648 * (at' + 3) := Int.mul_le_mul_of_nonneg_right (by omega) (by omega)
      have z2 : 0 ≤ one * (at' + 3) := Int.mul_nonneg u1 (by omega)
      omega
    · omega
    · obtain ⟨u1, u2⟩ := fmod_in ((((c.fmod 1000000007 * (2 * at' + 69069) + at' * 40503 + 977) ^ 3).fmod p4 * (at' + 3) + (c.fmod 65537 + 5)) ^ 5) (j := p6) (by omega)
      obtain ⟨u3, u4⟩ := fmod_in (((c.fmod 1000000007 * (2 * at' + 69069) + at' * 40503 + 977) ^ 3).fmod p4) (j := 1009) (by decide)
      omega
    · omega
end Pv
set_option linter.all false
set_option maxRecDepth 100000
namespace Pv
open PySem PySem.Spec
def P_take : Pv.Fn := fDef 5
    (fSeq (fIfS (fB (fX hLt (fX hIx (fVar 0) (fK (.int 2))) (fVar 1)))
    (fSeq (fAsg (fX hIx (fVar 0) (fK (.int 1))) (setV 3))
    (fSeq (fAsg (fK (.int 0)) (setV 4))
    (fSeq (fIfS (fB (fX hLt (fVar 3) (fNX hLen (aVal (fX hIx (fVar 0) (fK (.int 0))) aNil))))
    (fAsg (fX hIx (fX hIx (fVar 0) (fK (.int 0))) (fVar 3)) (setV 4))
    (fIfS (fB (fX hGt (fNX hLen (aVal (fX hIx (fVar 0) (fK (.int 0))) aNil)) (fK (.int 0))))
    (fAsg (fX hMod (fNX hInt (aVal (fX hIx (fX hIx (fVar 0) (fK (.int 0))) (fX hMod (fNX hInt (aVal (fX hAdd (fX hMul (fVar 3) (fK (.int 5))) (fK (.int 3))) aNil)) (fNX hLen (aVal (fX hIx (fVar 0) (fK (.int 0))) aNil)))) aNil)) (fX hAdd (fX hPow (fK (.int 10)) (fK (.int 17))) (fVar 3))) (setV 4))
    (fPass)))
    (fSeq (fAsg (fX hAdd (fVar 3) (fK (.int 1))) (gPut (fVar 0) (fK (.int 1))))
    (fAsg (fCall none P_spread (aVal (fVar 4) (aVal (fVar 3) aNil))) (gPut (fVar 0) (fK (.int 2))))))))
    (fPass))
    (fSeq (fAsg (fX hMod (fNX hInt (aVal (fX hIx (fVar 0) (fK (.int 2))) aNil)) (fVar 1)) (setV 2))
    (fSeq (fAsg (fX hDiv (fX hIx (fVar 0) (fK (.int 2))) (fVar 1)) (gPut (fVar 0) (fK (.int 2))))
    (fRet (fVar 2)))))
def penE (cells : List Int) (at' rest many : Int) (a b c : Option SV) : Env := [some (.c .pin (.l [.list (cells.map PyData.int), .int at', .int rest])), some (.d (.int many)), a, b, c]
section
variable {cells : List Int} {at' rest many : Int} {a b c : Option SV}
theorem de_cells : DE (fX hIx (fVar 0) (fK (.int 0))) (penE cells at' rest many a b c) (.list (cells.map PyData.int)) := de_ixL (m := .pin) rfl de_k rfl
theorem de_at : DE (fX hIx (fVar 0) (fK (.int 1))) (penE cells at' rest many a b c) (.int at') := de_ixL (m := .pin) rfl de_k rfl
theorem de_rest : DE (fX hIx (fVar 0) (fK (.int 2))) (penE cells at' rest many a b c) (.int rest) := de_ixL (m := .pin) rfl de_k rfl
theorem atD_map {i : Int} (h : 0 ≤ i) (h2 : i < cells.length) : ∃ x, atD (cells.map PyData.int) i = some (.int x) := by
  obtain ⟨n, rfl⟩ : ∃ n : Nat, i = n := ⟨i.toNat, by omega⟩
  have hn : n < cells.length := by omega
  refine ⟨cells[n], ?_⟩
  show nth (cells.map PyData.int) n = _
  rw [nth_eq, List.getElem?_map, List.getElem?_eq_getElem hn]
  rfl
theorem de_call2 {Fu : Pv.Fn} {f g : FE} {ρ : Env} {x y d : D} {ps : Env} (hf : DE f ρ x) (hg : DE g ρ y) (h : Fu [.d x, .d y] = .rt (.d d) ps) : DE (fCall none Fu (aVal f (aVal g aNil))) ρ d := by
  unfold DE fCall aVal aNil
  rw [hf]
  simp only [R.bind]
  rw [hg]
  show callF none Fu [.v (.d x), .v (.d y)] ρ = _
  show (match Fu [.d x, .d y] with
    | .rt x ps => R.ok (XV.v x) (backP none _ _ ps ρ)
    | .al k ps => _
    | .exc x ps => _
    | .bad => _) = _
  rw [h]
  rfl
/-- the cell that is read -/
theorem cell_ok (h0 : 0 ≤ at') (h1 : at' ≤ 1000000) : ∃ x : Int, fIfS (fB (fX hLt (fVar 3) (fNX hLen (aVal (fX hIx (fVar 0) (fK (.int 0))) aNil))))
    (fAsg (fX hIx (fX hIx (fVar 0) (fK (.int 0))) (fVar 3)) (setV 4))
    (fIfS (fB (fX hGt (fNX hLen (aVal (fX hIx (fVar 0) (fK (.int 0))) aNil)) (fK (.int 0))))
    (fAsg (fX hMod (fNX hInt (aVal (fX hIx (fX hIx (fVar 0) (fK (.int 0))) (fX hMod (fNX hInt (aVal (fX hAdd (fX hMul (fVar 3) (fK (.int 5))) (fK (.int 3))) aNil)) (fNX hLen (aVal (fX hIx (fVar 0) (fK (.int 0))) aNil)))) aNil)) (fX hAdd (fX hPow (fK (.int 10)) (fK (.int 17))) (fVar 3))) (setV 4))
    (fPass)) (penE cells at' rest many a (some (.d (.int at'))) (some (.d (.int 0)))) = .nx (penE cells at' rest many a (some (.d (.int at'))) (some (.d (.int x)))) := by
  have t := te_cmp (h := hLt) (b := decide (at' < ((cells.map PyData.int).length : Int))) (f := fVar 3) (de_var (ρ := penE cells at' rest many a (some (.d (.int at'))) (some (.d (.int 0)))) rfl) (ie_len de_cells) rfl
  rw [ifs_t t]
  by_cases hc : at' < ((cells.map PyData.int).length : Int)
  · rw [if_pos (decide_eq_true hc)]
    rw [List.length_map] at hc
    obtain ⟨x, hx⟩ := atD_map (cells := cells) h0 hc
    exact ⟨x, asg_set (de_ix de_cells (de_var rfl) hx) rfl⟩
  · rw [if_neg (by simp only [decide_eq_true_eq]; exact hc)]
    have t2 := te_cmp (h := hGt) (b := decide ((0 : Int) < ((cells.map PyData.int).length : Int))) (ie_len (de_cells (cells := cells) (at' := at') (rest := rest) (many := many) (a := a) (b := some (.d (.int at'))) (c := some (.d (.int 0))))) (de_k (d := .int 0)) rfl
    rw [ifs_t t2]
    by_cases hl : (0 : Int) < ((cells.map PyData.int).length : Int)
    · rw [if_pos (decide_eq_true hl)]
      obtain ⟨u1, u2⟩ := fmod_in (at' * 5 + 3) hl
      rw [List.length_map] at hl u1 u2
      obtain ⟨x, hx⟩ := atD_map (cells := cells) u1 u2
      rw [← List.length_map (f := PyData.int)] at hx
      exact ⟨_, asg_set (ie_mod (ie_int (de_ix de_cells (ie_mod (ie_int (ie_add (ie_mul (de_var rfl) de_k (by decide)) de_k)) (ie_len de_cells) (by rw [List.length_map]; exact hl)) hx)) (ie_add (ie_op (d := .int 100000000000000000) de_k de_k rfl) (de_var rfl)) (by omega)) rfl⟩
    · rw [if_neg (by simp only [decide_eq_true_eq]; exact hl)]
      exact ⟨0, rfl⟩
theorem take_ok (h0 : 0 ≤ at') (h1 : at' ≤ 1000000) (hm : 0 < many) (hm2 : many < 1073741824) : ∃ (r at2 rest2 : Int) (ρ : Env), P_take [.c .pin (.l [.list (cells.map PyData.int), .int at', .int rest]), .d (.int many)] = .rt (.d (.int r)) ρ ∧
    0 ≤ r ∧ r < many ∧ at' ≤ at2 ∧ at2 ≤ at' + 1 ∧ ρ[0]? = some (some (.c .pin (.l [.list (cells.map PyData.int), .int at2, .int rest2]))) := by
  have fin : ∀ (at2 rs : Int) (b c : Option SV), (fSeq (fAsg (fX hMod (fNX hInt (aVal (fX hIx (fVar 0) (fK (.int 2))) aNil)) (fVar 1)) (setV 2))
      (fSeq (fAsg (fX hDiv (fX hIx (fVar 0) (fK (.int 2))) (fVar 1)) (gPut (fVar 0) (fK (.int 2)))) (fRet (fVar 2)))) (penE cells at2 rs many none b c) =
      .rt (.v (.d (.int (rs.fmod many)))) (penE cells at2 (rs.fdiv many) many (some (.d (.int (rs.fmod many)))) b c) := fun at2 rs b c => by
    refine seq_nx (ρ1 := penE cells at2 rs many (some (.d (.int (rs.fmod many)))) b c) (asg_set (ie_mod (ie_int de_rest) (de_var rfl) hm) rfl) ?_
    refine seq_nx (ρ1 := penE cells at2 (rs.fdiv many) many (some (.d (.int (rs.fmod many)))) b c) ?_ (ret_d (de_var rfl))
    have q : IE (fX hDiv (fX hIx (fVar 0) (fK (.int 2))) (fVar 1)) (penE cells at2 rs many (some (.d (.int (rs.fmod many)))) b c) (rs.fdiv many) := ie_div de_rest (de_var rfl) hm hm2
    unfold fAsg
    rw [q]
    rfl
  have t := te_cmp (h := hLt) (b := decide (rest < many)) (de_rest (cells := cells) (at' := at') (rest := rest) (many := many) (a := none) (b := none) (c := none)) (de_var (k := 1) rfl) rfl
  by_cases hr : rest < many
  · obtain ⟨x, hx⟩ := cell_ok (cells := cells) (rest := rest) (many := many) (a := none) h0 h1
    obtain ⟨z, ps, hz⟩ := spread_ok x at' h0 h1
    refine ⟨z.fmod many, at' + 1, z.fdiv many, penE cells (at' + 1) (z.fdiv many) many (some (.d (.int (z.fmod many)))) (some (.d (.int at'))) (some (.d (.int x))), fdef_rt (seq_nx (ρ1 := penE cells (at' + 1) z many none (some (.d (.int at'))) (some (.d (.int x)))) ((ifs_t t).trans ?_) (fin _ _ _ _)), (fmod_in z hm).1, (fmod_in z hm).2, by omega, by omega, rfl⟩
    rw [if_pos (decide_eq_true hr)]
    refine seq_nx (asg_set de_at rfl) (seq_nx (asg_set de_k rfl) (seq_nx hx (seq_nx (ρ1 := penE cells (at' + 1) rest many none (some (.d (.int at'))) (some (.d (.int x)))) rfl ?_)))
    have q : DE (fCall none P_spread (aVal (fVar 4) (aVal (fVar 3) aNil))) (penE cells (at' + 1) rest many none (some (.d (.int at'))) (some (.d (.int x)))) (.int z) := de_call2 (de_var rfl) (de_var rfl) hz
    unfold fAsg
    rw [q]
    rfl
  · refine ⟨rest.fmod many, at', rest.fdiv many, _, fdef_rt (seq_nx (ρ1 := penE cells at' rest many none none none) ((ifs_t t).trans ?_) (fin _ _ _ _)), (fmod_in rest hm).1, (fmod_in rest hm).2, by omega, by omega, rfl⟩
    rw [if_neg (by simp only [decide_eq_true_eq]; exact hr)]
    rfl
end
end Pv
set_option linter.all false
set_option maxRecDepth 100000
namespace Pv
open PySem PySem.Spec
def P_openB : FS := fAsg (fX hAdd (fX hIx (fVar 1) (fX hMod (fNX hInt (aVal (fVar 2) aNil)) (fK (.int 12)))) (fVar 3)) (gPut (fVar 1) (fX hMod (fNX hInt (aVal (fVar 2) aNil)) (fK (.int 12))))
def P_openG : FG := gTupF 2 (gsCons (setV 2) (gsCons (setV 3) gsNil))
def P_open : Pv.Fn := fDef 4
    (fSeq (fAsg (fNX hList (aVal (fSl (fVar 0) oNo (oPt (fK (.int 12)))) aNil)) (setV 1))
    (fSeq (fFor (fEnum (aDat (fSl (fVar 0) (oPt (fK (.int 12))) (oPt (fK (.int 63)))) aNil)) (gTupF 2 (gsCons (setV 2) (gsCons (setV 3) gsNil)))
    (fAsg (fX hAdd (fX hIx (fVar 1) (fX hMod (fNX hInt (aVal (fVar 2) aNil)) (fK (.int 12)))) (fVar 3)) (gPut (fVar 1) (fX hMod (fNX hInt (aVal (fVar 2) aNil)) (fK (.int 12))))))
    (fRet (fLst (aDat (fVar 1) (aDat (fK (.int 0)) (aDat (fK (.int 0)) aNil)))))))
theorem open_step (zs : SV) (cells : List Int) (hl : cells.length = 12) (k x : Int) (hk : 0 ≤ k) (hk2 : k ≤ 1000000) : ∃ cells' : List Int, cells'.length = 12 ∧
    P_openB [some zs, some (.c .own (.l (cells.map PyData.int))), some (.d (.int k)), some (.d (.int x))] = .nx [some zs, some (.c .own (.l (cells'.map PyData.int))), some (.d (.int k)), some (.d (.int x))] := by
  obtain ⟨u1, u2⟩ := fmod_in k (j := 12) (by decide)
  obtain ⟨y, hy⟩ := atD_map (cells := cells) u1 (by omega)
  refine ⟨cells.set (k.fmod 12).toNat (y + x), by rw [List.length_set, hl], ?_⟩
  have q : IE (fX hAdd (fX hIx (fVar 1) (fX hMod (fNX hInt (aVal (fVar 2) aNil)) (fK (.int 12)))) (fVar 3)) [some zs, some (.c .own (.l (cells.map PyData.int))), some (.d (.int k)), some (.d (.int x))] (y + x) :=
    ie_add (de_ixL (m := .own) rfl (ie_mod (ie_int (de_var rfl)) de_k (by decide)) hy) (de_var rfl)
  have q2 : IE (fX hMod (fNX hInt (aVal (fVar 2) aNil)) (fK (.int 12))) [some zs, some (.c .own (.l (cells.map PyData.int))), some (.d (.int k)), some (.d (.int x))] (k.fmod 12) := ie_mod (ie_int (de_var rfl)) de_k (by decide)
  unfold P_openB fAsg
  rw [q]
  show (match gPut (fVar 1) (fX hMod (fNX hInt (aVal (fVar 2) aNil)) (fK (.int 12))) (.v (.d (.int (y + x)))) [some zs, some (.c .own (.l (cells.map PyData.int))), some (.d (.int k)), some (.d (.int x))] with
    | some ρ2 => RS.nx ρ2
    | none => RS.bad) = _
  have g : gPut (fVar 1) (fX hMod (fNX hInt (aVal (fVar 2) aNil)) (fK (.int 12))) (.v (.d (.int (y + x)))) [some zs, some (.c .own (.l (cells.map PyData.int))), some (.d (.int k)), some (.d (.int x))] = some [some zs, some (.c .own (.l ((cells.set (k.fmod 12).toNat (y + x)).map PyData.int))), some (.d (.int k)), some (.d (.int x))] := by
    unfold gPut
    simp only [leak]
    rw [show fVar 1 [some zs, some (.c .own (.l (cells.map PyData.int))), some (.d (.int k)), some (.d (.int x))] = .ok (.r 1) [some zs, some (.c .own (.l (cells.map PyData.int))), some (.d (.int k)), some (.d (.int x))] from rfl]
    simp only
    rw [q2]
    obtain ⟨n, hn⟩ : ∃ n : Nat, k.fmod 12 = n := ⟨(k.fmod 12).toNat, by omega⟩
    have hn2 : n < 12 := by omega
    rw [hn]
    have e : L2.ixN (cells.map PyData.int).length (n : Int) = some n := by
      rw [List.length_map, hl]
      match n, hn2 with
      | 0, _ => rfl
      | 1, _ => rfl
      | 2, _ => rfl
      | 3, _ => rfl
      | 4, _ => rfl
      | 5, _ => rfl
      | 6, _ => rfl
      | 7, _ => rfl
      | 8, _ => rfl
      | 9, _ => rfl
      | 10, _ => rfl
      | 11, _ => rfl
      | n + 12, h => exact absurd h (by omega)
    show (match putC (.l (cells.map PyData.int)) (.int (n : Int)) (.int (y + x)) with
      | some t' => some (List.set [some zs, some (.c .own (.l (cells.map PyData.int))), some (.d (.int k)), some (.d (.int x))] 1 (some (.c .own t')))
      | none => none) = _
    unfold putC
    simp only [e]
    rw [show (cells.map PyData.int).set n (PyData.int (y + x)) = (cells.set ((n : Int)).toNat (y + x)).map PyData.int by rw [List.map_set]; rfl]
    rfl
  rw [g]
theorem open_loop (zs : SV) : ∀ (ds : List Int) (n : Int) (cells : List Int) (s2 s3 : Option SV), 0 ≤ n → n + ds.length ≤ 1000000 → cells.length = 12 → noPin 2 [some zs, none, s2, s3] = true → noPin 3 [some zs, none, s2, s3] = true → ∃ (cells' : List Int) (t2 t3 : Option SV),
    goFor P_openG P_openB (enumL n (ds.map PyData.int)) [some zs, some (.c .own (.l (cells.map PyData.int))), s2, s3] = .nx [some zs, some (.c .own (.l (cells'.map PyData.int))), t2, t3]
  | [], n, cells, s2, s3, _, _, _, _, _ => ⟨cells, s2, s3, rfl⟩
  | d :: ds, n, cells, s2, s3, h0, h1, hl, p2, p3 => by
    rw [List.length_cons] at h1
    obtain ⟨cells', hl', e⟩ := open_step zs cells hl n d h0 (by omega)
    obtain ⟨c2, t2, t3, e2⟩ := open_loop zs ds (n + 1) cells' (some (.d (.int n))) (some (.d (.int d))) (by omega) (by omega) hl' rfl rfl
    refine ⟨c2, t2, t3, ?_⟩
    have g : P_openG (.v (.d (.tuple [.int n, .int d]))) [some zs, some (.c .own (.l (cells.map PyData.int))), s2, s3] = some [some zs, some (.c .own (.l (cells.map PyData.int))), some (.d (.int n)), some (.d (.int d))] := by
      cases s2 with
      | none =>
        cases s3 with
        | none => rfl
        | some s3 =>
          cases s3 with
          | d y => rfl
          | c m t =>
            cases m with
            | pin => cases p3
            | own => rfl
            | bor => rfl
      | some s2 =>
        cases s2 with
        | d y =>
          cases s3 with
          | none => rfl
          | some s3 =>
            cases s3 with
            | d y => rfl
            | c m t =>
              cases m with
              | pin => cases p3
              | own => rfl
              | bor => rfl
        | c m t =>
          cases m with
          | pin => cases p2
          | own =>
            cases s3 with
            | none => rfl
            | some s3 =>
              cases s3 with
              | d y => rfl
              | c m t =>
                cases m with
                | pin => cases p3
                | own => rfl
                | bor => rfl
          | bor =>
            cases s3 with
            | none => rfl
            | some s3 =>
              cases s3 with
              | d y => rfl
              | c m t =>
                cases m with
                | pin => cases p3
                | own => rfl
                | bor => rfl
    show (match P_openG (.v (.d (.tuple [.int n, .int d]))) [some zs, some (.c .own (.l (cells.map PyData.int))), s2, s3] with
      | none => RS.bad
      | some ρ1 => _) = _
    rw [g]
    simp only [e]
    exact e2

theorem cutD_map (ns : List Int) (lo hi : Option Int) : cutD (ns.map PyData.int) lo hi = (cutD ns lo hi).map PyData.int := by
  unfold cutD
  rw [List.length_map, List.map_take, List.map_drop]
theorem open_ok (ns : List Int) (h : ns.length ≤ 63) : ∃ (cells : List Int) (ρ : Env), P_open [.c .bor (.z (ns.map PyData.int))] = .rt (.c .own (.l [.list (cells.map PyData.int), .int 0, .int 0])) ρ := by
  have key : ∃ (cells : List Int) (t2 t3 : Option SV), goFor P_openG P_openB (enumL 0 ((cutD ns (some 12) (some 63)).map PyData.int)) [some (.c .bor (.z (ns.map PyData.int))), some (.c .own (.l ((cutD ns none (some 12)).map PyData.int))), none, none] =
      .nx [some (.c .bor (.z (ns.map PyData.int))), some (.c .own (.l (cells.map PyData.int))), t2, t3] := by
    by_cases hl : 12 ≤ ns.length
    · have e : (cutD ns none (some 12)).length = 12 := by
        unfold cutD
        rw [show sIxD ns.length ns.length (some 12) = 12 from by show (if Nat.ble 12 ns.length = true then 12 else ns.length) = 12; rw [if_pos (Nat.ble_eq_true_of_le hl)]]
        show ((ns.drop 0).take (12 - 0)).length = 12
        rw [List.length_take, List.length_drop]
        omega
      have e2 : (cutD ns (some 12) (some 63)).length ≤ 63 := by
        unfold cutD
        rw [List.length_take, List.length_drop]
        omega
      exact open_loop _ _ 0 _ none none (by omega) (by omega) e rfl rfl
    · have e : cutD ns (some 12) (some 63) = [] := by
        unfold cutD
        rw [show sIxD ns.length 0 (some 12) = ns.length from by
          show (if Nat.ble 12 ns.length = true then 12 else ns.length) = ns.length
          rw [if_neg (fun z => hl (Nat.le_of_ble_eq_true z))]]
        rw [List.drop_length, List.take_nil]
      rw [e]
      exact ⟨_, _, _, rfl⟩
  obtain ⟨cells, t2, t3, hk⟩ := key
  refine ⟨cells, [some (.c .bor (.z (ns.map PyData.int))), some (.d (.list (cells.map PyData.int))), t2, t3], ?_⟩
  unfold P_open fDef
  refine (congrArg (endF [.c .bor (.z (ns.map PyData.int))]) (seq_nx (r := .rt (.v (.c .own (.l [.list (cells.map PyData.int), .int 0, .int 0]))) [some (.c .bor (.z (ns.map PyData.int))), some (.d (.list (cells.map PyData.int))), t2, t3]) (ρ1 := [some (.c .bor (.z (ns.map PyData.int))), some (.c .own (.l (cutD (ns.map PyData.int) none (some 12)))), none, none]) (by rfl) (seq_nx (ρ1 := [some (.c .bor (.z (ns.map PyData.int))), some (.c .own (.l (cells.map PyData.int))), t2, t3]) ?_ (by rfl)))).trans (by rfl)
  rw [← cutD_map, ← cutD_map] at hk
  exact hk
end Pv
set_option Elab.async false
set_option linter.all false
set_option maxRecDepth 100000
set_option maxHeartbeats 0
namespace N92
open PySem PySem.Spec PyProof.Rows L2 Pv
def top (i : Nat) : Stmt := PySem.Challenge.pw_partviews_k92_growing_rings_at_their_edg.main.body.getD i (.Pass ⟨0, 0, 0, 0⟩)
abbrev FnP (K : PySem.W.Frag) (x : Str) (st : Stmt) (f : Addr) (fd : FuncData) : Prop := FunD K x x (defArgs st) (defBody st) (defScope st) [] [] f fd
abbrev s__law_open : Stmt := top 48
theorem sc__law_open : FnScope ["script", "cells", "k", "cell"] ["script"] (defScope s__law_open) := ⟨rfl, rfl, rfl, by decide +kernel, rfl, by decide +kernel, by decide +kernel⟩
abbrev s__law_spread : Stmt := top 47
theorem sc__law_spread : FnScope ["cell", "at", "primes", "mixed", "one", "rest", "two", "three"] ["cell", "at"] (defScope s__law_spread) := ⟨rfl, rfl, rfl, by decide +kernel, rfl, by decide +kernel, by decide +kernel⟩
abbrev s__law_take : Stmt := top 49
theorem sc__law_take : FnScope ["pen", "many", "found", "at", "cell"] ["pen", "many"] (defScope s__law_take) := ⟨rfl, rfl, rfl, by decide +kernel, rfl, by decide +kernel, by decide +kernel⟩
abbrev s__law_one : Stmt := top 50
theorem sc__law_one : FnScope ["pen", "some"] ["pen", "some"] (defScope s__law_one) := ⟨rfl, rfl, rfl, by decide +kernel, rfl, by decide +kernel, by decide +kernel⟩
abbrev s_is_name : Stmt := top 11
theorem sc_is_name : FnScope ["value", "letter"] ["value"] (defScope s_is_name) := ⟨rfl, rfl, rfl, by decide +kernel, rfl, by decide +kernel, by decide +kernel⟩
abbrev s_is_name_set : Stmt := top 12
theorem sc_is_name_set : FnScope ["value", "name"] ["value"] (defScope s_is_name_set) := ⟨rfl, rfl, rfl, by decide +kernel, rfl, by decide +kernel, by decide +kernel⟩
abbrev s_names_of : Stmt := top 13
theorem sc_names_of : FnScope ["family", "names", "name"] ["family"] (defScope s_names_of) := ⟨rfl, rfl, rfl, by decide +kernel, rfl, by decide +kernel, by decide +kernel⟩
abbrev s_is_family : Stmt := top 14
theorem sc_is_family : FnScope ["value", "names"] ["value"] (defScope s_is_family) := ⟨rfl, rfl, rfl, by decide +kernel, rfl, by decide +kernel, by decide +kernel⟩
abbrev s_require_family : Stmt := top 18
theorem sc_require_family : FnScope ["value"] ["value"] (defScope s_require_family) := ⟨rfl, rfl, rfl, by decide +kernel, rfl, by decide +kernel, by decide +kernel⟩
abbrev s_seen_names : Stmt := top 42
theorem sc_seen_names : FnScope ["family", "observer", "names", "name"] ["family", "observer", "names"] (defScope s_seen_names) := ⟨rfl, rfl, rfl, by decide +kernel, rfl, by decide +kernel, by decide +kernel⟩
abbrev s_is_integer : Stmt := top 24
theorem sc_is_integer : FnScope ["value"] ["value"] (defScope s_is_integer) := ⟨rfl, rfl, rfl, by decide +kernel, rfl, by decide +kernel, by decide +kernel⟩
abbrev s_is_between : Stmt := top 25
theorem sc_is_between : FnScope ["value", "low", "high"] ["value", "low", "high"] (defScope s_is_between) := ⟨rfl, rfl, rfl, by decide +kernel, rfl, by decide +kernel, by decide +kernel⟩
abbrev s_is_pair : Stmt := top 43
theorem sc_is_pair : FnScope ["family", "value"] ["family", "value"] (defScope s_is_pair) := ⟨rfl, rfl, rfl, by decide +kernel, rfl, by decide +kernel, by decide +kernel⟩
abbrev s_is_loose : Stmt := top 44
theorem sc_is_loose : FnScope ["family", "value", "names", "following", "other", "name", "observer", "pair"] ["family", "value"] (defScope s_is_loose) := ⟨rfl, rfl, rfl, by decide +kernel, rfl, by decide +kernel, by decide +kernel⟩
abbrev s_is_loose_ring : Stmt := top 45
theorem sc_is_loose_ring : FnScope ["family", "value"] ["family", "value"] (defScope s_is_loose_ring) := ⟨rfl, rfl, rfl, by decide +kernel, rfl, by decide +kernel, by decide +kernel⟩
abbrev s_family_of : Stmt := top 16
theorem sc_family_of : FnScope ["case", "names", "view"] ["case"] (defScope s_family_of) := ⟨rfl, rfl, rfl, by decide +kernel, rfl, by decide +kernel, by decide +kernel⟩
abbrev s_is_view : Stmt := top 15
theorem sc_is_view : FnScope ["value", "names", "name"] ["value", "names"] (defScope s_is_view) := ⟨rfl, rfl, rfl, by decide +kernel, rfl, by decide +kernel, by decide +kernel⟩
abbrev s_is_case : Stmt := top 17
theorem sc_is_case : FnScope ["value", "pair", "names", "view"] ["value"] (defScope s_is_case) := ⟨rfl, rfl, rfl, by decide +kernel, rfl, by decide +kernel, by decide +kernel⟩
abbrev s_require_case : Stmt := top 19
theorem sc_require_case : FnScope ["value"] ["value"] (defScope s_require_case) := ⟨rfl, rfl, rfl, by decide +kernel, rfl, by decide +kernel, by decide +kernel⟩
abbrev s_open_events : Stmt := top 28
theorem sc_open_events : FnScope ["left", "links", "later", "event", "first", "second"] ["left", "links"] (defScope s_open_events) := ⟨rfl, rfl, rfl, by decide +kernel, rfl, by decide +kernel, by decide +kernel⟩
abbrev s_arrange : Stmt := top 29
theorem sc_arrange : FnScope ["events", "links", "left", "row", "ready"] ["events", "links"] (defScope s_arrange) := ⟨rfl, rfl, rfl, by decide +kernel, rfl, by decide +kernel, by decide +kernel⟩
abbrev s_number_events : Stmt := top 21
theorem sc_number_events : FnScope ["names", "counts", "found", "name"] ["names"] (defScope s_number_events) := ⟨rfl, rfl, rfl, by decide +kernel, rfl, by decide +kernel, by decide +kernel⟩
abbrev s_find_events : Stmt := top 22
theorem sc_find_events : FnScope ["case", "found", "names", "view"] ["case"] (defScope s_find_events) := ⟨rfl, rfl, rfl, by decide +kernel, rfl, by decide +kernel, by decide +kernel⟩
abbrev s_view_links : Stmt := top 27
theorem sc_view_links : FnScope ["case", "found", "names", "view", "seen"] ["case"] (defScope s_view_links) := ⟨rfl, rfl, rfl, by decide +kernel, rfl, by decide +kernel, by decide +kernel⟩
abbrev s_find_missing : Stmt := top 31
theorem sc_find_missing : FnScope ["case", "observer", "seen", "names", "view", "event"] ["case", "observer"] (defScope s_find_missing) := ⟨rfl, rfl, rfl, by decide +kernel, rfl, by decide +kernel, by decide +kernel⟩
abbrev s_growing_links : Stmt := top 32
theorem sc_growing_links : FnScope ["case", "links", "observer", "names", "view", "last", "event"] ["case"] (defScope s_growing_links) := ⟨rfl, rfl, rfl, by decide +kernel, rfl, by decide +kernel, by decide +kernel⟩
abbrev s_find_growing : Stmt := top 33
theorem sc_find_growing : FnScope ["case"] ["case"] (defScope s_find_growing) := ⟨rfl, rfl, rfl, by decide +kernel, rfl, by decide +kernel, by decide +kernel⟩
abbrev s_growing_log : Stmt := top 38
theorem sc_growing_log : FnScope ["case"] ["case"] (defScope s_growing_log) := ⟨rfl, rfl, rfl, by decide +kernel, rfl, by decide +kernel, by decide +kernel⟩
abbrev s_steps_from : Stmt := top 34
theorem sc_steps_from : FnScope ["case", "event", "found", "observer", "seen", "names", "view", "later", "other"] ["case", "event"] (defScope s_steps_from) := ⟨rfl, rfl, rfl, by decide +kernel, rfl, by decide +kernel, by decide +kernel⟩
abbrev s_is_step : Stmt := top 37
theorem sc_is_step : FnScope ["value"] ["value"] (defScope s_is_step) := ⟨rfl, rfl, rfl, by decide +kernel, rfl, by decide +kernel, by decide +kernel⟩
abbrev s_is_growing_ring : Stmt := top 39
theorem sc_is_growing_ring : FnScope ["case", "value", "path", "following", "step", "other", "event"] ["case", "value"] (defScope s_is_growing_ring) := ⟨rfl, rfl, rfl, by decide +kernel, rfl, by decide +kernel, by decide +kernel⟩
abbrev s_find_way_back : Stmt := top 35
theorem sc_find_way_back : FnScope ["case", "first", "ways", "waiting", "event", "observer", "other", "way"] ["case", "first"] (defScope s_find_way_back) := ⟨rfl, rfl, rfl, by decide +kernel, rfl, by decide +kernel, by decide +kernel⟩
abbrev s_find_growing_ring : Stmt := top 36
theorem sc_find_growing_ring : FnScope ["case", "best", "event", "ring"] ["case"] (defScope s_find_growing_ring) := ⟨rfl, rfl, rfl, by decide +kernel, rfl, by decide +kernel, by decide +kernel⟩
abbrev s_growing_ring : Stmt := top 40
theorem sc_growing_ring : FnScope ["case"] ["case"] (defScope s_growing_ring) := ⟨rfl, rfl, rfl, by decide +kernel, rfl, by decide +kernel, by decide +kernel⟩
abbrev s_law : Stmt := top 51
theorem sc_law : FnScope ["script", "pen", "both", "full", "number", "small", "right", "at", "one", "two", "odd", "family", "ring"] ["script"] (defScope s_law) := ⟨rfl, rfl, rfl, by decide +kernel, rfl, by decide +kernel, by decide +kernel⟩
def f__law_open : Pv.Fn := fDef 4
    (fSeq (fAsg (fNX hList (aVal (fSl (fVar 0) oNo (oPt (fK (.int 12)))) aNil)) (setV 1))
    (fSeq (fFor (fEnum (aDat (fSl (fVar 0) (oPt (fK (.int 12))) (oPt (fK (.int 63)))) aNil)) (gTupF 2 (gsCons (setV 2) (gsCons (setV 3) gsNil)))
    (fAsg (fX hAdd (fX hIx (fVar 1) (fX hMod (fNX hInt (aVal (fVar 2) aNil)) (fK (.int 12)))) (fVar 3)) (gPut (fVar 1) (fX hMod (fNX hInt (aVal (fVar 2) aNil)) (fK (.int 12))))))
    (fRet (fLst (aDat (fVar 1) (aDat (fK (.int 0)) (aDat (fK (.int 0)) aNil)))))))
def f__law_spread : Pv.Fn := fDef 8
    (fSeq (fIfS (fB (fX hGe (fVar 0) (fX hPow (fK (.int 10)) (fK (.int 18)))))
    (fRet (fVar 0))
    (fPass))
    (fSeq (fAsg (fLst (aDat (fK (.int 2147483629)) (aDat (fK (.int 2147483587)) (aDat (fK (.int 2147483579)) (aDat (fK (.int 2147483563)) (aDat (fK (.int 2147483549)) (aDat (fK (.int 2147483543)) (aDat (fK (.int 2147483497)) aNil)))))))) (setV 2))
    (fSeq (fAsg (fX hAdd (fVar 2) (fLst (aDat (fK (.int 2147483489)) (aDat (fK (.int 2147483477)) (aDat (fK (.int 2147483423)) (aDat (fK (.int 2147483399)) (aDat (fK (.int 2147483353)) (aDat (fK (.int 2147483323)) aNil)))))))) (setV 2))
    (fSeq (fAsg (fX hAdd (fX hAdd (fX hMul (fX hMod (fNX hInt (aVal (fVar 0) aNil)) (fK (.int 1000000007))) (fX hAdd (fX hMul (fK (.int 2)) (fVar 1)) (fK (.int 69069)))) (fX hMul (fVar 1) (fK (.int 40503)))) (fK (.int 977))) (setV 3))
    (fSeq (fAsg (fX hMod (fNX hInt (aVal (fX hPow (fVar 3) (fK (.int 3))) aNil)) (fX hIx (fVar 2) (fX hMod (fNX hInt (aVal (fVar 1) aNil)) (fK (.int 13))))) (setV 4))
    (fSeq (fAsg (fX hAdd (fX hMod (fNX hInt (aVal (fVar 0) aNil)) (fK (.int 65537))) (fK (.int 5))) (setV 5))
    (fSeq (fAsg (fX hMod (fNX hInt (aVal (fX hPow (fX hAdd (fX hMul (fVar 4) (fX hAdd (fVar 1) (fK (.int 3)))) (fVar 5)) (fK (.int 5))) aNil)) (fX hIx (fVar 2) (fX hMod (fNX hInt (aVal (fX hAdd (fVar 1) (fK (.int 5))) aNil)) (fK (.int 13))))) (setV 6))
    (fSeq (fAsg (fX hMod (fNX hInt (aVal (fX hPow (fX hAdd (fX hAdd (fVar 6) (fX hMod (fNX hInt (aVal (fVar 4) aNil)) (fK (.int 1009)))) (fVar 1)) (fK (.int 3))) aNil)) (fX hIx (fVar 2) (fX hMod (fNX hInt (aVal (fX hAdd (fVar 1) (fK (.int 7))) aNil)) (fK (.int 13))))) (setV 7))
    (fRet (fX hAdd (fX hMul (fX hAdd (fX hMul (fVar 4) (fK (.int 2147483647))) (fVar 6)) (fK (.int 2147483647))) (fVar 7)))))))))))
def f__law_take : Pv.Fn := fDef 5
    (fSeq (fIfS (fB (fX hLt (fX hIx (fVar 0) (fK (.int 2))) (fVar 1)))
    (fSeq (fAsg (fX hIx (fVar 0) (fK (.int 1))) (setV 3))
    (fSeq (fAsg (fK (.int 0)) (setV 4))
    (fSeq (fIfS (fB (fX hLt (fVar 3) (fNX hLen (aVal (fX hIx (fVar 0) (fK (.int 0))) aNil))))
    (fAsg (fX hIx (fX hIx (fVar 0) (fK (.int 0))) (fVar 3)) (setV 4))
    (fIfS (fB (fX hGt (fNX hLen (aVal (fX hIx (fVar 0) (fK (.int 0))) aNil)) (fK (.int 0))))
    (fAsg (fX hMod (fNX hInt (aVal (fX hIx (fX hIx (fVar 0) (fK (.int 0))) (fX hMod (fNX hInt (aVal (fX hAdd (fX hMul (fVar 3) (fK (.int 5))) (fK (.int 3))) aNil)) (fNX hLen (aVal (fX hIx (fVar 0) (fK (.int 0))) aNil)))) aNil)) (fX hAdd (fX hPow (fK (.int 10)) (fK (.int 17))) (fVar 3))) (setV 4))
    (fPass)))
    (fSeq (fAsg (fX hAdd (fVar 3) (fK (.int 1))) (gPut (fVar 0) (fK (.int 1))))
    (fAsg (fCall none f__law_spread (aVal (fVar 4) (aVal (fVar 3) aNil))) (gPut (fVar 0) (fK (.int 2))))))))
    (fPass))
    (fSeq (fAsg (fX hMod (fNX hInt (aVal (fX hIx (fVar 0) (fK (.int 2))) aNil)) (fVar 1)) (setV 2))
    (fSeq (fAsg (fX hDiv (fX hIx (fVar 0) (fK (.int 2))) (fVar 1)) (gPut (fVar 0) (fK (.int 2))))
    (fRet (fVar 2)))))
def f__law_one : Pv.Fn := fDef 2
    (fRet (fX hIx (fVar 1) (fCall (some 0) f__law_take (aVal (fVar 0) (aDat (fNX hLen (aVal (fVar 1) aNil)) aNil)))))
def f_is_name : Pv.Fn := fDef 2
    (fRet (fV (fAnd (fB (fIsa isStr (fVar 0))) (fAnd (fB (fCh hLe hLe (fK (.int 1)) (fNX hLen (aVal (fVar 0) aNil)) (fK (.int 8)))) (fB (fNX hAll (aVal (fLc (fSrc (fVar 0)) (setV 1) (fYes) (fX hIn (fVar 1) (fK (.str "abcdefghijklmnopqrstuvwxyz"))) [1]) aNil)))))))
def f_is_name_set : Pv.Fn := fDef 2
    (fSeq (fIfS (fOr (fNot (fB (fIsa isTupD (fVar 0)))) (fNot (fB (fCh hLe hLe (fK (.int 1)) (fNX hLen (aVal (fVar 0) aNil)) (fK (.int 6))))))
    (fRet (fK (.bool false)))
    (fPass))
    (fRet (fV (fAnd (fB (fNX hAll (aVal (fLc (fSrc (fVar 0)) (setV 1) (fYes) (fCall none f_is_name (aVal (fVar 1) aNil)) [1]) aNil))) (fB (fX hEq (fNX hList (aVal (fVar 0) aNil)) (fSSet (fVar 0))))))))
def f_names_of : Pv.Fn := fDef 3
    (fRet (fSSet (fLc2 (fSrc (fVar 0)) (setV 1) (fYes) (fSrc (fVar 1)) (setV 2) (fYes) (fVar 2) [1, 2] [2])))
def f_is_family : Pv.Fn := fDef 2
    (fSeq (fIfS (fOr (fNot (fB (fIsa isTupD (fVar 0)))) (fNot (fB (fCh hLe hLe (fK (.int 1)) (fNX hLen (aVal (fVar 0) aNil)) (fK (.int 6))))))
    (fRet (fK (.bool false)))
    (fPass))
    (fRet (fV (fAnd (fB (fNX hAll (aVal (fLc (fSrc (fVar 0)) (setV 1) (fYes) (fCall none f_is_name_set (aVal (fVar 1) aNil)) [1]) aNil))) (fB (fX hLe (fNX hLen (aVal (fCall none f_names_of (aVal (fVar 0) aNil)) aNil)) (fK (.int 8))))))))
def f_require_family : Pv.Fn := fDef 1
    (fIfS (fNot (fB (fCall none f_is_family (aVal (fVar 0) aNil))))
    (fNever)
    (fPass))
def f_seen_names : Pv.Fn := fDef 4
    (fRet (fNX hSorted (aVal (fLc (fSrc (fVar 2)) (setV 3) (fB (fX hIn (fVar 3) (fX hIx (fVar 0) (fVar 1)))) (fVar 3) [3]) aNil)))
def f_is_integer : Pv.Fn := fDef 1
    (fRet (fV (fAnd (fB (fIsa isIntD (fVar 0))) (fB (fV (fNot (fB (fIsa isBoolD (fVar 0)))))))))
def f_is_between : Pv.Fn := fDef 3
    (fRet (fV (fAnd (fB (fCall none f_is_integer (aVal (fVar 0) aNil))) (fB (fCh hLe hLe (fVar 1) (fVar 0) (fVar 2))))))
def f_is_pair : Pv.Fn := fDef 2
    (fSeq (fIfS (fOr (fNot (fB (fIsa isTupD (fVar 1)))) (fOr (fB (fX hNe (fNX hLen (aVal (fVar 1) aNil)) (fK (.int 2)))) (fNot (fB (fIsa isStr (fX hIx (fVar 1) (fK (.int 0))))))))
    (fRet (fK (.bool false)))
    (fPass))
    (fRet (fV (fAnd (fB (fX hIn (fX hIx (fVar 1) (fK (.int 0))) (fCall none f_names_of (aVal (fVar 0) aNil)))) (fB (fCall none f_is_between (aDat (fX hIx (fVar 1) (fK (.int 1))) (aDat (fK (.int 0)) (aDat (fX hSub (fNX hLen (aVal (fVar 0) aNil)) (fK (.int 1))) aNil)))))))))
def f_is_loose : Pv.Fn := fDef 8
    (fSeq (fIfS (fOr (fNot (fB (fIsa isTupD (fVar 1)))) (fOr (fB (fX hLt (fNX hLen (aVal (fVar 1) aNil)) (fK (.int 2)))) (fNot (fB (fNX hAll (aVal (fLc (fSrc (fVar 1)) (setV 7) (fYes) (fCall none f_is_pair (aVal (fVar 0) (aVal (fVar 7) aNil))) [7]) aNil))))))
    (fRet (fK (.bool false)))
    (fPass))
    (fSeq (fAsg (fLc (fSrc (fVar 1)) (gTupF 2 (gsCons (setV 5) (gsCons (setV 6) gsNil))) (fYes) (fVar 5) [5, 6]) (setV 2))
    (fSeq (fIfS (fOr (fB (fX hLt (fLSet (fVar 2)) (fNX hLen (aVal (fVar 2) aNil)))) (fB (fX hLt (fLSet (fLc (fSrc (fVar 1)) (gTupF 2 (gsCons (setV 5) (gsCons (setV 6) gsNil))) (fYes) (fVar 6) [5, 6])) (fNX hLen (aVal (fVar 1) aNil)))))
    (fRet (fK (.bool false)))
    (fPass))
    (fSeq (fAsg (fX hAdd (fSl (fVar 2) (oPt (fK (.int 1))) oNo) (fSl (fVar 2) oNo (oPt (fK (.int 1))))) (setV 3))
    (fSeq (fFor (fZip (aVal (fVar 1) (aVal (fVar 3) aNil))) (gTupF 2 (gsCons (gTupF 2 (gsCons (setV 5) (gsCons (setV 6) gsNil))) (gsCons (setV 4) gsNil)))
    (fIfS (fB (fX hNe (fCall none f_seen_names (aVal (fVar 0) (aVal (fVar 6) (aVal (fVar 2) aNil)))) (fNX hSorted (aVal (fLst (aDat (fVar 5) (aDat (fVar 4) aNil))) aNil))))
    (fRet (fK (.bool false)))
    (fPass)))
    (fRet (fK (.bool true))))))))
def f_is_loose_ring : Pv.Fn := fDef 2
    (fSeq (fExpr (fCall none f_require_family (aVal (fVar 0) aNil)))
    (fRet (fCall none f_is_loose (aVal (fVar 0) (aVal (fVar 1) aNil)))))
def f_family_of : Pv.Fn := fDef 3
    (fRet (fNX hTuple (aVal (fLc (fSrc (fVar 0)) (gTupF 2 (gsCons (setV 1) (gsCons (setV 2) gsNil))) (fYes) (fVar 1) [1, 2]) aNil)))
def f_is_view : Pv.Fn := fDef 3
    (fRet (fV (fAnd (fB (fIsa isTupD (fVar 0))) (fAnd (fB (fX hLe (fNX hLen (aVal (fVar 0) aNil)) (fK (.int 20)))) (fB (fNX hAll (aVal (fLc (fSrc (fVar 0)) (setV 2) (fYes) (fX hIn (fVar 2) (fVar 1)) [2]) aNil)))))))
def f_is_case : Pv.Fn := fDef 4
    (fSeq (fIfS (fOr (fNot (fB (fIsa isTupD (fVar 0)))) (fNot (fB (fNX hAll (aVal (fLc (fSrc (fVar 0)) (setV 1) (fYes) (fV (fAnd (fB (fIsa isTupD (fVar 1))) (fB (fX hEq (fNX hLen (aVal (fVar 1) aNil)) (fK (.int 2)))))) [1]) aNil)))))
    (fRet (fK (.bool false)))
    (fPass))
    (fRet (fV (fAnd (fB (fCall none f_is_family (aDat (fCall none f_family_of (aVal (fVar 0) aNil)) aNil))) (fB (fNX hAll (aVal (fLc (fSrc (fVar 0)) (gTupF 2 (gsCons (setV 2) (gsCons (setV 3) gsNil))) (fYes) (fCall none f_is_view (aVal (fVar 3) (aVal (fVar 2) aNil))) [2, 3]) aNil)))))))
def f_require_case : Pv.Fn := fDef 1
    (fIfS (fNot (fB (fCall none f_is_case (aVal (fVar 0) aNil))))
    (fNever)
    (fPass))
def f_open_events : Pv.Fn := fDef 6
    (fSeq (fAsg (fLc (fSrc (fVar 1)) (gTupF 2 (gsCons (setV 4) (gsCons (setV 5) gsNil))) (fB (fX hIn (fVar 4) (fVar 0))) (fVar 5) [4, 5]) (setV 2))
    (fRet (fLc (fSrc (fVar 0)) (setV 3) (fB (fX hNotIn (fVar 3) (fVar 2))) (fVar 3) [3])))
def f_arrange : Pv.Fn := fDef 5
    (fSeq (fAsg (fNX hList (aVal (fVar 0) aNil)) (setV 2))
    (fSeq (fAsg (fLst aNil) (setV 3))
    (fSeq (fWhile (fB (fX hNe (fVar 2) (fLst aNil)))
    (fSeq (fAsg (fCall none f_open_events (aVal (fVar 2) (aVal (fVar 1) aNil))) (setV 4))
    (fSeq (fIfS (fB (fX hEq (fVar 4) (fLst aNil)))
    (fRet (fK .none))
    (fPass))
    (fSeq (fExpr (fMt mAppend (fVar 3) (aDat (fX hIx (fX hIx (fVar 4) (fK (.int 0))) (fK (.int 0))) aNil)))
    (fExpr (fMt mRemove (fVar 2) (aDat (fX hIx (fVar 4) (fK (.int 0))) aNil)))))) 5000)
    (fRet (fNX hTuple (aVal (fVar 3) aNil))))))
def f_number_events : Pv.Fn := fDef 4
    (fSeq (fAsg (fDk) (setV 1))
    (fSeq (fAsg (fLst aNil) (setV 2))
    (fSeq (fFor (fSrc (fVar 0)) (setV 3)
    (fSeq (fAsg (fX hAdd (fGet2 (fVar 1) (fVar 3) (fK (.int 0))) (fK (.int 1))) (gPut (fVar 1) (fVar 3)))
    (fExpr (fMt mAppend (fVar 2) (aDat (fTup (aDat (fVar 3) (aDat (fX hIx (fVar 1) (fVar 3)) aNil))) aNil)))))
    (fRet (fVar 2)))))
def f_find_events : Pv.Fn := fDef 4
    (fSeq (fAsg (fLst aNil) (setV 1))
    (fSeq (fFor (fSrc (fVar 0)) (gTupF 2 (gsCons (setV 2) (gsCons (setV 3) gsNil)))
    (fExpr (fMt mExtend (fVar 1) (aDat (fCall none f_number_events (aVal (fVar 3) aNil)) aNil))))
    (fRet (fSSet (fVar 1)))))
def f_view_links : Pv.Fn := fDef 5
    (fSeq (fAsg (fLst aNil) (setV 1))
    (fSeq (fFor (fSrc (fVar 0)) (gTupF 2 (gsCons (setV 2) (gsCons (setV 3) gsNil)))
    (fSeq (fAsg (fCall none f_number_events (aVal (fVar 3) aNil)) (setV 4))
    (fExpr (fMt mExtend (fVar 1) (aDat (fNX hLz (aVal (fVar 4) (aVal (fSl (fVar 4) (oPt (fK (.int 1))) oNo) aNil))) aNil)))))
    (fRet (fVar 1))))
def f_find_missing : Pv.Fn := fDef 6
    (fSeq (fAsg (fX hIx (fVar 0) (fVar 1)) (gTupF 2 (gsCons (setV 3) (gsCons (setV 4) gsNil))))
    (fSeq (fAsg (fCall none f_number_events (aVal (fVar 4) aNil)) (setV 2))
    (fRet (fLc (fSrc (fCall none f_find_events (aVal (fVar 0) aNil))) (setV 5) (fAnd (fB (fX hIn (fX hIx (fVar 5) (fK (.int 0))) (fVar 3))) (fB (fX hNotIn (fVar 5) (fVar 2)))) (fVar 5) [5]))))
def f_growing_links : Pv.Fn := fDef 7
    (fSeq (fAsg (fCall none f_view_links (aVal (fVar 0) aNil)) (setV 1))
    (fSeq (fFor (fEnum (aVal (fVar 0) aNil)) (gTupF 2 (gsCons (setV 2) (gsCons (gTupF 2 (gsCons (setV 3) (gsCons (setV 4) gsNil))) gsNil)))
    (fIfS (fB (fX hNe (fVar 4) (fTup aNil)))
    (fSeq (fAsg (fX hIx (fCall none f_number_events (aVal (fVar 4) aNil)) (fNeg (fK (.int 1)))) (setV 5))
    (fExpr (fMt mExtend (fVar 1) (aDat (fLc (fSrc (fCall none f_find_missing (aVal (fVar 0) (aVal (fVar 2) aNil)))) (setV 6) (fYes) (fTup (aDat (fVar 5) (aDat (fVar 6) aNil))) [6]) aNil))))
    (fPass)))
    (fRet (fVar 1))))
def f_find_growing : Pv.Fn := fDef 1
    (fRet (fCall none f_arrange (aDat (fCall none f_find_events (aVal (fVar 0) aNil)) (aDat (fCall none f_growing_links (aVal (fVar 0) aNil)) aNil))))
def f_growing_log : Pv.Fn := fDef 1
    (fSeq (fExpr (fCall none f_require_case (aVal (fVar 0) aNil)))
    (fRet (fCall none f_find_growing (aVal (fVar 0) aNil))))
def f_steps_from : Pv.Fn := fDef 9
    (fSeq (fAsg (fLst aNil) (setV 2))
    (fSeq (fFor (fEnum (aVal (fVar 0) aNil)) (gTupF 2 (gsCons (setV 3) (gsCons (gTupF 2 (gsCons (setV 5) (gsCons (setV 6) gsNil))) gsNil)))
    (fSeq (fAsg (fCall none f_number_events (aVal (fVar 6) aNil)) (setV 4))
    (fIfS (fB (fX hIn (fVar 1) (fVar 4)))
    (fSeq (fAsg (fX hAdd (fSl (fVar 4) (oPt (fX hAdd (fMR mIndex (fVar 4) (aVal (fVar 1) aNil)) (fK (.int 1)))) oNo) (fCall none f_find_missing (aVal (fVar 0) (aVal (fVar 3) aNil)))) (setV 7))
    (fExpr (fMt mExtend (fVar 2) (aDat (fLc (fSrc (fVar 7)) (setV 8) (fYes) (fTup (aDat (fVar 3) (aDat (fVar 8) aNil))) [8]) aNil))))
    (fPass))))
    (fRet (fNX hSorted (aVal (fVar 2) aNil)))))
def f_is_step : Pv.Fn := fDef 1
    (fSeq (fIfS (fOr (fNot (fB (fIsa isTupD (fVar 0)))) (fOr (fB (fX hNe (fNX hLen (aVal (fVar 0) aNil)) (fK (.int 3)))) (fNot (fB (fIsa isStr (fX hIx (fVar 0) (fK (.int 0))))))))
    (fRet (fK (.bool false)))
    (fPass))
    (fRet (fV (fAnd (fB (fCall none f_is_between (aDat (fX hIx (fVar 0) (fK (.int 1))) (aDat (fK (.int 1)) (aDat (fK (.int 120)) aNil))))) (fB (fCall none f_is_between (aDat (fX hIx (fVar 0) (fK (.int 2))) (aDat (fK (.int 0)) (aDat (fK (.int 5)) aNil)))))))))
def f_is_growing_ring : Pv.Fn := fDef 7
    (fSeq (fExpr (fCall none f_require_case (aVal (fVar 0) aNil)))
    (fSeq (fIfS (fOr (fNot (fB (fIsa isListD (fVar 1)))) (fOr (fB (fX hLt (fNX hLen (aVal (fVar 1) aNil)) (fK (.int 2)))) (fNot (fB (fNX hAll (aVal (fLc (fSrc (fVar 1)) (setV 4) (fYes) (fCall none f_is_step (aVal (fVar 4) aNil)) [4]) aNil))))))
    (fRet (fK (.bool false)))
    (fPass))
    (fSeq (fAsg (fLc (fSrc (fVar 1)) (setV 4) (fYes) (fSl (fVar 4) oNo (oPt (fK (.int 2)))) [4]) (setV 2))
    (fSeq (fIfS (fOr (fB (fX hLt (fLSet (fVar 2)) (fNX hLen (aVal (fVar 2) aNil)))) (fNot (fB (fNX hAll (aVal (fLc (fSrc (fVar 2)) (setV 6) (fYes) (fX hIn (fVar 6) (fCall none f_find_events (aVal (fVar 0) aNil))) [6]) aNil)))))
    (fRet (fK (.bool false)))
    (fPass))
    (fSeq (fAsg (fX hAdd (fSl (fVar 2) (oPt (fK (.int 1))) oNo) (fSl (fVar 2) oNo (oPt (fK (.int 1))))) (setV 3))
    (fRet (fNX hAll (aVal (fLc (fZip (aVal (fVar 1) (aVal (fVar 3) aNil))) (gTupF 2 (gsCons (setV 4) (gsCons (setV 5) gsNil))) (fYes) (fX hIn (fTup (aDat (fX hIx (fVar 4) (fK (.int 2))) (aDat (fVar 5) aNil))) (fCall none f_steps_from (aVal (fVar 0) (aDat (fSl (fVar 4) oNo (oPt (fK (.int 2)))) aNil)))) [4, 5]) aNil))))))))
def f_find_way_back : Pv.Fn := fDef 8
    (fSeq (fAsg (fD1t (fVar 1) (fLst aNil)) (setV 2))
    (fSeq (fAsg (fLst (aDat (fVar 1) aNil)) (setV 3))
    (fSeq (fWhile (fB (fX hNe (fVar 3) (fLst aNil)))
    (fSeq (fAsg (fMt mPop (fVar 3) (aDat (fK (.int 0)) aNil)) (setV 4))
    (fFor (fSrc (fCall none f_steps_from (aVal (fVar 0) (aVal (fVar 4) aNil)))) (gTupF 2 (gsCons (setV 5) (gsCons (setV 6) gsNil)))
    (fSeq (fAsg (fX hAdd (fX hIx (fVar 2) (fVar 4)) (fLst (aDat (fX hAdd (fVar 4) (fTup (aDat (fVar 5) aNil))) aNil))) (setV 7))
    (fSeq (fIfS (fB (fX hEq (fVar 6) (fVar 1)))
    (fRet (fVar 7))
    (fPass))
    (fIfS (fB (fX hNotIn (fVar 6) (fVar 2)))
    (fSeq (fAsg (fVar 7) (gPut (fVar 2) (fVar 6)))
    (fExpr (fMt mAppend (fVar 3) (aDat (fVar 6) aNil))))
    (fPass)))))) 5000)
    (fRet (fK .none)))))
def f_find_growing_ring : Pv.Fn := fDef 4
    (fSeq (fAsg (fK .none) (setV 1))
    (fSeq (fFor (fSrc (fCall none f_find_events (aVal (fVar 0) aNil))) (setV 2)
    (fSeq (fAsg (fCall none f_find_way_back (aVal (fVar 0) (aVal (fVar 2) aNil))) (setV 3))
    (fIfS (fAnd (fB (fX hIsNot (fVar 3) (fK .none))) (fOr (fB (fX hIs (fVar 1) (fK .none))) (fB (fX hLt (fNX hLen (aVal (fVar 3) aNil)) (fNX hLen (aVal (fVar 1) aNil))))))
    (fAsg (fVar 3) (setV 1))
    (fPass))))
    (fRet (fVar 1))))
def f_growing_ring : Pv.Fn := fDef 1
    (fSeq (fExpr (fCall none f_require_case (aVal (fVar 0) aNil)))
    (fRet (fCall none f_find_growing_ring (aVal (fVar 0) aNil))))
def law_s12 : FS := fRet (fX hIs (fCall none f_is_loose_ring (aVal (fVar 11) (aVal (fVar 12) aNil))) (fK (.bool true)))
def law_s11 : FS := fFor (fRng rng1 (aVal (fK (.int 2)) aNil)) (setV 7)
    (fFor (fSrc (fTup (aDat (fX hAdd (fX hIx (fVar 12) (fVar 7)) (fTup (aDat (fK (.int 0)) aNil))) (aDat (fSl (fX hIx (fVar 12) (fVar 7)) oNo (oPt (fK (.int 1)))) (aDat (fX hAdd (fX hIx (fVar 12) (fVar 7)) (fX hIx (fVar 12) (fVar 7))) (aDat (fNX hList (aVal (fX hIx (fVar 12) (fVar 7)) aNil)) aNil)))))) (setV 10)
    (fIfS (fB (fX hIsNot (fCall none f_is_loose_ring (aVal (fVar 11) (aDat (fX hAdd (fX hAdd (fSl (fVar 12) oNo (oPt (fVar 7))) (fTup (aDat (fVar 10) aNil))) (fSl (fVar 12) (oPt (fX hAdd (fVar 7) (fK (.int 1)))) oNo)) aNil))) (fK (.bool false))))
    (fRet (fK (.bool false)))
    (fPass)))
def law_s10 : FS := fPar 11 12 (aDat (fTup (aDat (fVar 2) (aDat (fVar 2) aNil))) (aDat (fTup (aDat (fTup (aDat (fVar 8) (aDat (fK (.int 0)) aNil))) (aDat (fTup (aDat (fVar 9) (aDat (fK (.int 1)) aNil))) aNil))) aNil))
def law_s9 : FS := fIfS (fOr (fB (fX hIsNot (fCall none f_is_growing_ring (aVal (fVar 5) (aVal (fVar 6) aNil))) (fK (.bool true)))) (fB (fX hIsNot (fCall none f_is_growing_ring (aVal (fVar 3) (aDat (fLst (aDat (fTup (aDat (fVar 8) (aDat (fK (.int 21)) (aDat (fK (.int 0)) aNil)))) (aDat (fTup (aDat (fVar 9) (aDat (fK (.int 1)) (aDat (fK (.int 1)) aNil)))) aNil))) aNil))) (fK (.bool false)))))
    (fRet (fK (.bool false)))
    (fPass)
def law_s8 : FS := fFor (fRng rng1 (aVal (fK (.int 2)) aNil)) (setV 7)
    (fFor (fSrc (fTup (aDat (fX hAdd (fX hIx (fVar 6) (fVar 7)) (fTup (aDat (fK (.int 0)) aNil))) (aDat (fSl (fX hIx (fVar 6) (fVar 7)) oNo (oPt (fK (.int 2)))) (aDat (fX hAdd (fX hIx (fVar 6) (fVar 7)) (fX hIx (fVar 6) (fVar 7))) (aDat (fTup (aDat (fX hIx (fVar 6) (fVar 7)) aNil)) (aDat (fNX hList (aVal (fX hIx (fVar 6) (fVar 7)) aNil)) aNil))))))) (setV 10)
    (fIfS (fB (fX hIsNot (fCall none f_is_growing_ring (aVal (fVar 5) (aDat (fX hAdd (fX hAdd (fSl (fVar 6) oNo (oPt (fVar 7))) (fLst (aDat (fVar 10) aNil))) (fSl (fVar 6) (oPt (fX hAdd (fVar 7) (fK (.int 1)))) oNo)) aNil))) (fK (.bool false))))
    (fRet (fK (.bool false)))
    (fPass)))
def law_s7 : FS := fAsg (fLst (aDat (fTup (aDat (fVar 8) (aDat (fK (.int 1)) (aDat (fK (.int 0)) aNil)))) (aDat (fTup (aDat (fVar 9) (aDat (fK (.int 1)) (aDat (fK (.int 1)) aNil)))) aNil))) (setV 6)
def law_s6 : FS := fAsg (fTup (aDat (fTup (aDat (fVar 2) (aDat (fTup (aDat (fVar 8) aNil)) aNil))) (aDat (fTup (aDat (fVar 2) (aDat (fTup (aDat (fVar 9) aNil)) aNil))) aNil))) (setV 5)
def law_s5 : FS := fFor (fRng rng2 (aVal (fK (.int 1)) (aVal (fK (.int 21)) aNil))) (setV 4)
    (fIfS (fB (fX hIsNot (fCall none f_is_growing_ring (aVal (fVar 3) (aDat (fLst (aDat (fTup (aDat (fVar 8) (aDat (fVar 4) (aDat (fK (.int 0)) aNil)))) (aDat (fTup (aDat (fVar 9) (aDat (fK (.int 1)) (aDat (fK (.int 1)) aNil)))) aNil))) aNil))) (fK (.bool true))))
    (fRet (fK (.bool false)))
    (fPass))
def law_s4 : FS := fIfS (fOr (fB (fX hIsNot (fCall none f_growing_log (aVal (fVar 3) aNil)) (fK .none))) (fB (fX hNe (fNX hLen (aVal (fCall none f_growing_ring (aVal (fVar 3) aNil)) aNil)) (fK (.int 2)))))
    (fRet (fK (.bool false)))
    (fPass)
def law_s3 : FS := fAsg (fTup (aDat (fTup (aDat (fVar 2) (aDat (fX hMul (fTup (aDat (fVar 8) aNil)) (fK (.int 20))) aNil))) (aDat (fTup (aDat (fVar 2) (aDat (fTup (aDat (fVar 9) aNil)) aNil))) aNil))) (setV 3)
def law_s2 : FS := fAsg (fTup (aDat (fVar 8) (aDat (fVar 9) aNil))) (setV 2)
def law_s1 : FS := fAsg (fCall (some 0) f__law_one (aVal (fVar 1) (aDat (fLst (aDat (fTup (aDat (fK (.str "a")) (aDat (fK (.str "b")) aNil))) (aDat (fTup (aDat (fK (.str "aa")) (aDat (fK (.str "ab")) aNil))) (aDat (fTup (aDat (fK (.str "x")) (aDat (fK (.str "xx")) aNil))) aNil)))) aNil))) (gTupF 2 (gsCons (setV 8) (gsCons (setV 9) gsNil)))
def law_s0 : FS := fAsg (fCall none f__law_open (aVal (fVar 0) aNil)) (setV 1)
def law_t12 : FS := law_s12
def law_t11 : FS := fSeq law_s11 law_t12
def law_t10 : FS := fSeq law_s10 law_t11
def law_t9 : FS := fSeq law_s9 law_t10
def law_t8 : FS := fSeq law_s8 law_t9
def law_t7 : FS := fSeq law_s7 law_t8
def law_t6 : FS := fSeq law_s6 law_t7
def law_t5 : FS := fSeq law_s5 law_t6
def law_t4 : FS := fSeq law_s4 law_t5
def law_t3 : FS := fSeq law_s3 law_t4
def law_t2 : FS := fSeq law_s2 law_t3
def law_t1 : FS := fSeq law_s1 law_t2
def law_t0 : FS := fSeq law_s0 law_t1
def f_law : Pv.Fn := fDef 13 law_t0
/-- what the top leaves -/
structure Facts (K : PySem.W.Frag) (mg : Str → Option Value) : Prop where
  b_all : mg "all" = none
  b_bool : mg "bool" = none
  b_enumerate : mg "enumerate" = none
  b_int : mg "int" = none
  b_isinstance : mg "isinstance" = none
  b_len : mg "len" = none
  b_list : mg "list" = none
  b_range : mg "range" = none
  b_set : mg "set" = none
  b_sorted : mg "sorted" = none
  b_str : mg "str" = none
  b_tuple : mg "tuple" = none
  b_zip : mg "zip" = none
  g_LONGEST_NAME : ∃ t, mg "LONGEST_NAME" = some (.int 8 t)
  g_LONGEST_VIEW : ∃ t, mg "LONGEST_VIEW" = some (.int 20 t)
  g_MOST_IN_SET : ∃ t, mg "MOST_IN_SET" = some (.int 6 t)
  g_MOST_NAMES : ∃ t, mg "MOST_NAMES" = some (.int 8 t)
  g_MOST_OBSERVERS : ∃ t, mg "MOST_OBSERVERS" = some (.int 6 t)
  g_SMALL : ∃ t, mg "SMALL" = some (.str "abcdefghijklmnopqrstuvwxyz" t)
  d__law_open : ∃ f fd, FnP K "_law_open" s__law_open f fd ∧ mg "_law_open" = some (.ref f)
  d__law_spread : ∃ f fd, FnP K "_law_spread" s__law_spread f fd ∧ mg "_law_spread" = some (.ref f)
  d__law_take : ∃ f fd, FnP K "_law_take" s__law_take f fd ∧ mg "_law_take" = some (.ref f)
  d__law_one : ∃ f fd, FnP K "_law_one" s__law_one f fd ∧ mg "_law_one" = some (.ref f)
  d_is_name : ∃ f fd, FnP K "is_name" s_is_name f fd ∧ mg "is_name" = some (.ref f)
  d_is_name_set : ∃ f fd, FnP K "is_name_set" s_is_name_set f fd ∧ mg "is_name_set" = some (.ref f)
  d_names_of : ∃ f fd, FnP K "names_of" s_names_of f fd ∧ mg "names_of" = some (.ref f)
  d_is_family : ∃ f fd, FnP K "is_family" s_is_family f fd ∧ mg "is_family" = some (.ref f)
  d_require_family : ∃ f fd, FnP K "require_family" s_require_family f fd ∧ mg "require_family" = some (.ref f)
  d_seen_names : ∃ f fd, FnP K "seen_names" s_seen_names f fd ∧ mg "seen_names" = some (.ref f)
  d_is_integer : ∃ f fd, FnP K "is_integer" s_is_integer f fd ∧ mg "is_integer" = some (.ref f)
  d_is_between : ∃ f fd, FnP K "is_between" s_is_between f fd ∧ mg "is_between" = some (.ref f)
  d_is_pair : ∃ f fd, FnP K "is_pair" s_is_pair f fd ∧ mg "is_pair" = some (.ref f)
  d_is_loose : ∃ f fd, FnP K "is_loose" s_is_loose f fd ∧ mg "is_loose" = some (.ref f)
  d_is_loose_ring : ∃ f fd, FnP K "is_loose_ring" s_is_loose_ring f fd ∧ mg "is_loose_ring" = some (.ref f)
  d_family_of : ∃ f fd, FnP K "family_of" s_family_of f fd ∧ mg "family_of" = some (.ref f)
  d_is_view : ∃ f fd, FnP K "is_view" s_is_view f fd ∧ mg "is_view" = some (.ref f)
  d_is_case : ∃ f fd, FnP K "is_case" s_is_case f fd ∧ mg "is_case" = some (.ref f)
  d_require_case : ∃ f fd, FnP K "require_case" s_require_case f fd ∧ mg "require_case" = some (.ref f)
  d_open_events : ∃ f fd, FnP K "open_events" s_open_events f fd ∧ mg "open_events" = some (.ref f)
  d_arrange : ∃ f fd, FnP K "arrange" s_arrange f fd ∧ mg "arrange" = some (.ref f)
  d_number_events : ∃ f fd, FnP K "number_events" s_number_events f fd ∧ mg "number_events" = some (.ref f)
  d_find_events : ∃ f fd, FnP K "find_events" s_find_events f fd ∧ mg "find_events" = some (.ref f)
  d_view_links : ∃ f fd, FnP K "view_links" s_view_links f fd ∧ mg "view_links" = some (.ref f)
  d_find_missing : ∃ f fd, FnP K "find_missing" s_find_missing f fd ∧ mg "find_missing" = some (.ref f)
  d_growing_links : ∃ f fd, FnP K "growing_links" s_growing_links f fd ∧ mg "growing_links" = some (.ref f)
  d_find_growing : ∃ f fd, FnP K "find_growing" s_find_growing f fd ∧ mg "find_growing" = some (.ref f)
  d_growing_log : ∃ f fd, FnP K "growing_log" s_growing_log f fd ∧ mg "growing_log" = some (.ref f)
  d_steps_from : ∃ f fd, FnP K "steps_from" s_steps_from f fd ∧ mg "steps_from" = some (.ref f)
  d_is_step : ∃ f fd, FnP K "is_step" s_is_step f fd ∧ mg "is_step" = some (.ref f)
  d_is_growing_ring : ∃ f fd, FnP K "is_growing_ring" s_is_growing_ring f fd ∧ mg "is_growing_ring" = some (.ref f)
  d_find_way_back : ∃ f fd, FnP K "find_way_back" s_find_way_back f fd ∧ mg "find_way_back" = some (.ref f)
  d_find_growing_ring : ∃ f fd, FnP K "find_growing_ring" s_find_growing_ring f fd ∧ mg "find_growing_ring" = some (.ref f)
  d_growing_ring : ∃ f fd, FnP K "growing_ring" s_growing_ring f fd ∧ mg "growing_ring" = some (.ref f)
section
variable {P : Program} {w : World} {K : PySem.W.Frag} {mg : Str → Option Value} {base : Heap} {f : Addr} {fd : FuncData}
theorem bi__law_open_ {f : Addr} {fd : FuncData} (F : FnP K "_law_open" s__law_open f fd) : Binds K fd ["script"] [] := F.bindsN fun _ _ _ _ _ _ us hl => match us, hl with | [_], _ => rfl
theorem ok__law_open_ (fc : Facts K mg) {f : Addr} {fd : FuncData} (Fd : FnP K "_law_open" s__law_open f fd) : FnOk P w K mg base (L2.CX P w) 1 f fd ["script"] (spF K mg 1 f__law_open) := by
  have b_enumerate := fc.b_enumerate
  have b_int := fc.b_int
  have b_list := fc.b_list
  refine def_ok Fd sc__law_open fun cdv A outer s H vs E hr => ?_
  have tk := takes_of (X := cxOf (L2.CX P w) P w K mg base ["script", "cells", "k", "cell"] "_law_open" (defScope s__law_open) f cdv A outer s H E) rfl rfl rfl rfl
  have ps := passes_of (X := cxOf (L2.CX P w) P w K mg base ["script", "cells", "k", "cell"] "_law_open" (defScope s__law_open) f cdv A outer s H E) rfl
  exact (ss_cons (s_set 1 sc__law_open.nd (x_callTy call_list_of ru_list b_list bt_list (a_val (c_slice rfl (c_var 0) o_no (o_pt c_int)) a_nil)))
    (ss_cons (s_for ps rfl (i_enum rfl b_enumerate (a_dat (c_slice rfl (c_var 0) (o_pt c_int) (o_pt c_int)) a_nil)) (g_tup rfl rfl (gs_cons (g_name 2 sc__law_open.nd) (gs_cons (g_name 3 sc__law_open.nd) gs_nil)))
    (ss_one (s_asg (x_bin op_Add ru_add (x_ix (ix_any (u64 hr)) ru_ix (c_var 1) (x_bin op_modN ru_mod (x_callTy call_int1 ru_int b_int bt_int (a_val (c_var 2) a_nil)) c_int)) (c_var 3)) (g_put (u100 hr) (c_var 1) (x_bin op_modN ru_mod (x_callTy call_int1 ru_int b_int bt_int (a_val (c_var 2) a_nil)) c_int)))))
    (ss_one (s_ret (c_lst (a_dat (c_var 1) (a_dat c_int (a_dat c_int a_nil))))))))
theorem bi__law_spread_ {f : Addr} {fd : FuncData} (F : FnP K "_law_spread" s__law_spread f fd) : Binds K fd ["cell", "at"] [] := F.bindsN fun _ _ _ _ _ _ us hl => match us, hl with | [_, _], _ => rfl
theorem ok__law_spread_ (fc : Facts K mg) {f : Addr} {fd : FuncData} (Fd : FnP K "_law_spread" s__law_spread f fd) : FnOk P w K mg base (L2.CX P w) 1 f fd ["cell", "at"] (spF K mg 2 f__law_spread) := by
  have b_int := fc.b_int
  refine def_ok Fd sc__law_spread fun cdv A outer s H vs E hr => ?_
  have tk := takes_of (X := cxOf (L2.CX P w) P w K mg base ["cell", "at", "primes", "mixed", "one", "rest", "two", "three"] "_law_spread" (defScope s__law_spread) f cdv A outer s H E) rfl rfl rfl rfl
  have ps := passes_of (X := cxOf (L2.CX P w) P w K mg base ["cell", "at", "primes", "mixed", "one", "rest", "two", "three"] "_law_spread" (defScope s__law_spread) f cdv A outer s H E) rfl
  exact (ss_cons (s_if (xt_cmp op_ge ru_ge (c_var 0) (x_bin op_pow ru_pow c_int c_int))
    (ss_one (s_ret (c_var 0)))
    ss_nil)
    (ss_cons (s_set 2 sc__law_spread.nd (c_lst (a_dat c_int (a_dat c_int (a_dat c_int (a_dat c_int (a_dat c_int (a_dat c_int (a_dat c_int a_nil)))))))))
    (ss_cons (s_set 2 sc__law_spread.nd (x_bin op_Add ru_add (c_var 2) (c_lst (a_dat c_int (a_dat c_int (a_dat c_int (a_dat c_int (a_dat c_int (a_dat c_int a_nil)))))))))
    (ss_cons (s_set 3 sc__law_spread.nd (x_bin op_Add ru_add (x_bin op_Add ru_add (x_bin op_Mul ru_mul (x_bin op_modN ru_mod (x_callTy call_int1 ru_int b_int bt_int (a_val (c_var 0) a_nil)) c_int) (x_bin op_Add ru_add (x_bin op_Mul ru_mul c_int (c_var 1)) c_int)) (x_bin op_Mul ru_mul (c_var 1) c_int)) c_int))
    (ss_cons (s_set 4 sc__law_spread.nd (x_bin op_modN ru_mod (x_callTy call_int1 ru_int b_int bt_int (a_val (x_bin op_pow ru_pow (c_var 3) c_int) a_nil)) (x_ix (ix_any (u64 hr)) ru_ix (c_var 2) (x_bin op_modN ru_mod (x_callTy call_int1 ru_int b_int bt_int (a_val (c_var 1) a_nil)) c_int))))
    (ss_cons (s_set 5 sc__law_spread.nd (x_bin op_Add ru_add (x_bin op_modN ru_mod (x_callTy call_int1 ru_int b_int bt_int (a_val (c_var 0) a_nil)) c_int) c_int))
    (ss_cons (s_set 6 sc__law_spread.nd (x_bin op_modN ru_mod (x_callTy call_int1 ru_int b_int bt_int (a_val (x_bin op_pow ru_pow (x_bin op_Add ru_add (x_bin op_Mul ru_mul (c_var 4) (x_bin op_Add ru_add (c_var 1) c_int)) (c_var 5)) c_int) a_nil)) (x_ix (ix_any (u64 hr)) ru_ix (c_var 2) (x_bin op_modN ru_mod (x_callTy call_int1 ru_int b_int bt_int (a_val (x_bin op_Add ru_add (c_var 1) c_int) a_nil)) c_int))))
    (ss_cons (s_set 7 sc__law_spread.nd (x_bin op_modN ru_mod (x_callTy call_int1 ru_int b_int bt_int (a_val (x_bin op_pow ru_pow (x_bin op_Add ru_add (x_bin op_Add ru_add (c_var 6) (x_bin op_modN ru_mod (x_callTy call_int1 ru_int b_int bt_int (a_val (c_var 4) a_nil)) c_int)) (c_var 1)) c_int) a_nil)) (x_ix (ix_any (u64 hr)) ru_ix (c_var 2) (x_bin op_modN ru_mod (x_callTy call_int1 ru_int b_int bt_int (a_val (x_bin op_Add ru_add (c_var 1) c_int) a_nil)) c_int))))
    (ss_one (s_ret (x_bin op_Add ru_add (x_bin op_Mul ru_mul (x_bin op_Add ru_add (x_bin op_Mul ru_mul (c_var 4) c_int) (c_var 6)) c_int) (c_var 7))))))))))))
theorem bi__law_take_ {f : Addr} {fd : FuncData} (F : FnP K "_law_take" s__law_take f fd) : Binds K fd ["pen", "many"] [] := F.bindsN fun _ _ _ _ _ _ us hl => match us, hl with | [_, _], _ => rfl
theorem ok__law_take_ (fc : Facts K mg) {f : Addr} {fd : FuncData} (Fd : FnP K "_law_take" s__law_take f fd) : FnOk P w K mg base (L2.CX P w) 2 f fd ["pen", "many"] (spF K mg 2 f__law_take) := by
  have b_int := fc.b_int
  have b_len := fc.b_len
  obtain ⟨_, _, k__law_spread, g__law_spread⟩ := fc.d__law_spread
  have ok__law_spread : FnOk P w K mg base (L2.CX P w) 1 _ _ _ (spF K mg 2 f__law_spread) := ok__law_spread_ fc k__law_spread
  have bi__law_spread := bi__law_spread_ k__law_spread
  refine def_ok Fd sc__law_take fun cdv A outer s H vs E hr => ?_
  have tk := takes_of (X := cxOf (L2.CX P w) P w K mg base ["pen", "many", "found", "at", "cell"] "_law_take" (defScope s__law_take) f cdv A outer s H E) rfl rfl rfl rfl
  have ps := passes_of (X := cxOf (L2.CX P w) P w K mg base ["pen", "many", "found", "at", "cell"] "_law_take" (defScope s__law_take) f cdv A outer s H E) rfl
  exact (ss_cons (s_if (xt_cmp op_lt ru_lt (x_ix (ix_any (u64 hr)) ru_ix (c_var 0) c_int) (c_var 1))
    (ss_cons (s_set 3 sc__law_take.nd (x_ix (ix_any (u64 hr)) ru_ix (c_var 0) c_int))
    (ss_cons (s_set 4 sc__law_take.nd c_int)
    (ss_cons (s_if (xt_cmp op_lt ru_lt (c_var 3) (x_callB call_Len ru_len b_len bt_len (a_val (x_ix (ix_any (u64 hr)) ru_ix (c_var 0) c_int) a_nil)))
    (ss_one (s_set 4 sc__law_take.nd (x_ix (ix_any (u64 hr)) ru_ix (x_ix (ix_any (u64 hr)) ru_ix (c_var 0) c_int) (c_var 3))))
    (ss_one (s_if (xt_cmp op_gt ru_gt (x_callB call_Len ru_len b_len bt_len (a_val (x_ix (ix_any (u64 hr)) ru_ix (c_var 0) c_int) a_nil)) c_int)
    (ss_one (s_set 4 sc__law_take.nd (x_bin op_modN ru_mod (x_callTy call_int1 ru_int b_int bt_int (a_val (x_ix (ix_any (u64 hr)) ru_ix (x_ix (ix_any (u64 hr)) ru_ix (c_var 0) c_int) (x_bin op_modN ru_mod (x_callTy call_int1 ru_int b_int bt_int (a_val (x_bin op_Add ru_add (x_bin op_Mul ru_mul (c_var 3) c_int) c_int) a_nil)) (x_callB call_Len ru_len b_len bt_len (a_val (x_ix (ix_any (u64 hr)) ru_ix (c_var 0) c_int) a_nil)))) a_nil)) (x_bin op_Add ru_add (x_bin op_pow ru_pow c_int c_int) (c_var 3)))))
    ss_nil)))
    (ss_cons (s_asg (x_bin op_Add ru_add (c_var 3) c_int) (g_put (u100 hr) (c_var 0) c_int))
    (ss_one (s_asg (c_call ok__law_spread (Room.mono hr (by decide)) g__law_spread k__law_spread.kp bi__law_spread tk (a_val (c_var 4) (a_val (c_var 3) a_nil)) (ln_val (ln_val ln_nil))) (g_put (u100 hr) (c_var 0) c_int)))))))
    ss_nil)
    (ss_cons (s_set 2 sc__law_take.nd (x_bin op_modN ru_mod (x_callTy call_int1 ru_int b_int bt_int (a_val (x_ix (ix_any (u64 hr)) ru_ix (c_var 0) c_int) a_nil)) (c_var 1)))
    (ss_cons (s_asg (x_bin op_fdivN ru_div (x_ix (ix_any (u64 hr)) ru_ix (c_var 0) c_int) (c_var 1)) (g_put (u100 hr) (c_var 0) c_int))
    (ss_one (s_ret (c_var 2))))))
theorem bi__law_one_ {f : Addr} {fd : FuncData} (F : FnP K "_law_one" s__law_one f fd) : Binds K fd ["pen", "some"] [] := F.bindsN fun _ _ _ _ _ _ us hl => match us, hl with | [_, _], _ => rfl
theorem ok__law_one_ (fc : Facts K mg) {f : Addr} {fd : FuncData} (Fd : FnP K "_law_one" s__law_one f fd) : FnOk P w K mg base (L2.CX P w) 3 f fd ["pen", "some"] (spF K mg 2 f__law_one) := by
  have b_len := fc.b_len
  obtain ⟨_, _, k__law_take, g__law_take⟩ := fc.d__law_take
  have ok__law_take : FnOk P w K mg base (L2.CX P w) 2 _ _ _ (spF K mg 2 f__law_take) := ok__law_take_ fc k__law_take
  have bi__law_take := bi__law_take_ k__law_take
  refine def_ok Fd sc__law_one fun cdv A outer s H vs E hr => ?_
  have tk := takes_of (X := cxOf (L2.CX P w) P w K mg base ["pen", "some"] "_law_one" (defScope s__law_one) f cdv A outer s H E) rfl rfl rfl rfl
  have ps := passes_of (X := cxOf (L2.CX P w) P w K mg base ["pen", "some"] "_law_one" (defScope s__law_one) f cdv A outer s H E) rfl
  exact (ss_one (s_ret (x_ix (ix_any (u64 hr)) ru_ix (c_var 1) (c_call ok__law_take (Room.mono hr (by decide)) g__law_take k__law_take.kp bi__law_take tk (a_val (c_var 0) (a_dat (x_callB call_Len ru_len b_len bt_len (a_val (c_var 1) a_nil)) a_nil)) (ln_val (ln_dat ln_nil))))))
theorem bi_is_name_ {f : Addr} {fd : FuncData} (F : FnP K "is_name" s_is_name f fd) : Binds K fd ["value"] [] := F.bindsN fun _ _ _ _ _ _ us hl => match us, hl with | [_], _ => rfl
theorem ok_is_name_ (fc : Facts K mg) {f : Addr} {fd : FuncData} (Fd : FnP K "is_name" s_is_name f fd) : FnOk P w K mg base (L2.CX P w) 1 f fd ["value"] (spF K mg 1 f_is_name) := by
  have b_all := fc.b_all
  have b_isinstance := fc.b_isinstance
  have b_len := fc.b_len
  have b_str := fc.b_str
  obtain ⟨_, g_LONGEST_NAME⟩ := fc.g_LONGEST_NAME
  obtain ⟨_, g_SMALL⟩ := fc.g_SMALL
  refine def_ok Fd sc_is_name fun cdv A outer s H vs E hr => ?_
  have tk := takes_of (X := cxOf (L2.CX P w) P w K mg base ["value", "letter"] "is_name" (defScope s_is_name) f cdv A outer s H E) rfl rfl rfl rfl
  have ps := passes_of (X := cxOf (L2.CX P w) P w K mg base ["value", "letter"] "is_name" (defScope s_is_name) f cdv A outer s H E) rfl
  exact (ss_one (s_ret (v_and (c_isa isa_str b_isinstance b_str bt_str (c_var 0)) (v_and (x_chain op_le ru_le op_le ru_le c_int (x_callB call_Len ru_len b_len bt_len (a_val (c_var 0) a_nil)) (c_globI g_LONGEST_NAME)) (v_one (x_callB (call_All rfl) ru_all b_all bt_all (a_val (c_lc rfl sc_is_name.nd (i_any rfl (c_var 0)) (ok_by (own := [("letter", 1)]) (by rfl)) (by decide) (fun _ _ _ _ _ => (g_name 1 sc_is_name.nd)) (fun _ _ _ _ _ => ts_nil) (fun _ _ _ _ _ => (x_cmp (op_In (u64 hr)) ru_in (c_var 1) (c_globS g_SMALL)))) a_nil)))))))
theorem bi_is_name_set_ {f : Addr} {fd : FuncData} (F : FnP K "is_name_set" s_is_name_set f fd) : Binds K fd ["value"] [] := F.bindsN fun _ _ _ _ _ _ us hl => match us, hl with | [_], _ => rfl
theorem ok_is_name_set_ (fc : Facts K mg) {f : Addr} {fd : FuncData} (Fd : FnP K "is_name_set" s_is_name_set f fd) : FnOk P w K mg base (L2.CX P w) 2 f fd ["value"] (spF K mg 1 f_is_name_set) := by
  have b_all := fc.b_all
  have b_isinstance := fc.b_isinstance
  have b_len := fc.b_len
  have b_list := fc.b_list
  have b_set := fc.b_set
  have b_sorted := fc.b_sorted
  have b_tuple := fc.b_tuple
  obtain ⟨_, g_MOST_IN_SET⟩ := fc.g_MOST_IN_SET
  obtain ⟨_, _, k_is_name, g_is_name⟩ := fc.d_is_name
  have ok_is_name : FnOk P w K mg base (L2.CX P w) 1 _ _ _ (spF K mg 1 f_is_name) := ok_is_name_ fc k_is_name
  have bi_is_name := bi_is_name_ k_is_name
  refine def_ok Fd sc_is_name_set fun cdv A outer s H vs E hr => ?_
  have tk := takes_of (X := cxOf (L2.CX P w) P w K mg base ["value", "name"] "is_name_set" (defScope s_is_name_set) f cdv A outer s H E) rfl rfl rfl rfl
  have ps := passes_of (X := cxOf (L2.CX P w) P w K mg base ["value", "name"] "is_name_set" (defScope s_is_name_set) f cdv A outer s H E) rfl
  exact (ss_cons (s_if (PW.pt (w_or (t_not (t_val (c_isa isa_tuple b_isinstance b_tuple bt_tuple (c_var 0)))) (w_or1 (t_not (xt_chain op_le ru_le op_le ru_le c_int (x_callB call_Len ru_len b_len bt_len (a_val (c_var 0) a_nil)) (c_globI g_MOST_IN_SET))))))
    (ss_one (s_ret c_bool))
    ss_nil)
    (ss_one (s_ret (v_and (x_callB (call_All rfl) ru_all b_all bt_all (a_val (c_lc rfl sc_is_name_set.nd (i_any rfl (c_var 0)) (ok_by (own := [("name", 1)]) (by rfl)) (by decide) (fun _ _ _ _ _ => (g_name 1 sc_is_name_set.nd)) (fun _ _ _ _ _ => ts_nil) (fun _ _ _ _ _ => (c_call ok_is_name (Room.mono hr (by decide)) g_is_name k_is_name.kp bi_is_name Pv.takes0 (a_val (c_var 1) a_nil) (ln_val ln_nil)))) a_nil)) (v_one (x_cmp (op_Eq (u64 hr)) ru_eq (x_callTy call_list_of ru_list b_list bt_list (a_val (c_var 0) a_nil)) (c_sset rfl rfl (u100 hr) b_sorted b_set (c_var 0))))))))
theorem bi_names_of_ {f : Addr} {fd : FuncData} (F : FnP K "names_of" s_names_of f fd) : Binds K fd ["family"] [] := F.bindsN fun _ _ _ _ _ _ us hl => match us, hl with | [_], _ => rfl
theorem ok_names_of_ (fc : Facts K mg) {f : Addr} {fd : FuncData} (Fd : FnP K "names_of" s_names_of f fd) : FnOk P w K mg base (L2.CX P w) 1 f fd ["family"] (spF K mg 1 f_names_of) := by
  have b_set := fc.b_set
  have b_sorted := fc.b_sorted
  refine def_ok Fd sc_names_of fun cdv A outer s H vs E hr => ?_
  have tk := takes_of (X := cxOf (L2.CX P w) P w K mg base ["family", "names", "name"] "names_of" (defScope s_names_of) f cdv A outer s H E) rfl rfl rfl rfl
  have ps := passes_of (X := cxOf (L2.CX P w) P w K mg base ["family", "names", "name"] "names_of" (defScope s_names_of) f cdv A outer s H E) rfl
  exact (ss_one (s_ret (c_sset rfl rfl (u100 hr) b_sorted b_set (c_lc2 (own1 := [2]) rfl sc_names_of.nd (i_any rfl (c_var 0)) (ok_by (own := [("names", 1), ("name", 2)]) (by rfl)) (by decide) (by decide) (by decide) (fun _ _ _ _ _ => (g_name 1 sc_names_of.nd)) (fun _ _ _ _ _ => ts_nil) (fun _ _ _ _ _ => (i_any rfl (c_var 1))) (fun _ _ _ _ _ => (g_name 2 sc_names_of.nd)) (fun _ _ _ _ _ => ts_nil) (fun _ _ _ _ _ => (c_var 2))))))
theorem bi_is_family_ {f : Addr} {fd : FuncData} (F : FnP K "is_family" s_is_family f fd) : Binds K fd ["value"] [] := F.bindsN fun _ _ _ _ _ _ us hl => match us, hl with | [_], _ => rfl
theorem ok_is_family_ (fc : Facts K mg) {f : Addr} {fd : FuncData} (Fd : FnP K "is_family" s_is_family f fd) : FnOk P w K mg base (L2.CX P w) 3 f fd ["value"] (spF K mg 1 f_is_family) := by
  have b_all := fc.b_all
  have b_isinstance := fc.b_isinstance
  have b_len := fc.b_len
  have b_tuple := fc.b_tuple
  obtain ⟨_, g_MOST_NAMES⟩ := fc.g_MOST_NAMES
  obtain ⟨_, g_MOST_OBSERVERS⟩ := fc.g_MOST_OBSERVERS
  obtain ⟨_, _, k_is_name_set, g_is_name_set⟩ := fc.d_is_name_set
  have ok_is_name_set : FnOk P w K mg base (L2.CX P w) 2 _ _ _ (spF K mg 1 f_is_name_set) := ok_is_name_set_ fc k_is_name_set
  have bi_is_name_set := bi_is_name_set_ k_is_name_set
  obtain ⟨_, _, k_names_of, g_names_of⟩ := fc.d_names_of
  have ok_names_of : FnOk P w K mg base (L2.CX P w) 1 _ _ _ (spF K mg 1 f_names_of) := ok_names_of_ fc k_names_of
  have bi_names_of := bi_names_of_ k_names_of
  refine def_ok Fd sc_is_family fun cdv A outer s H vs E hr => ?_
  have tk := takes_of (X := cxOf (L2.CX P w) P w K mg base ["value", "names"] "is_family" (defScope s_is_family) f cdv A outer s H E) rfl rfl rfl rfl
  have ps := passes_of (X := cxOf (L2.CX P w) P w K mg base ["value", "names"] "is_family" (defScope s_is_family) f cdv A outer s H E) rfl
  exact (ss_cons (s_if (PW.pt (w_or (t_not (t_val (c_isa isa_tuple b_isinstance b_tuple bt_tuple (c_var 0)))) (w_or1 (t_not (xt_chain op_le ru_le op_le ru_le c_int (x_callB call_Len ru_len b_len bt_len (a_val (c_var 0) a_nil)) (c_globI g_MOST_OBSERVERS))))))
    (ss_one (s_ret c_bool))
    ss_nil)
    (ss_one (s_ret (v_and (x_callB (call_All rfl) ru_all b_all bt_all (a_val (c_lc rfl sc_is_family.nd (i_any rfl (c_var 0)) (ok_by (own := [("names", 1)]) (by rfl)) (by decide) (fun _ _ _ _ _ => (g_name 1 sc_is_family.nd)) (fun _ _ _ _ _ => ts_nil) (fun _ _ _ _ _ => (c_call ok_is_name_set (Room.mono hr (by decide)) g_is_name_set k_is_name_set.kp bi_is_name_set Pv.takes0 (a_val (c_var 1) a_nil) (ln_val ln_nil)))) a_nil)) (v_one (x_cmp op_le ru_le (x_callB call_Len ru_len b_len bt_len (a_val (c_call ok_names_of (Room.mono hr (by decide)) g_names_of k_names_of.kp bi_names_of tk (a_val (c_var 0) a_nil) (ln_val ln_nil)) a_nil)) (c_globI g_MOST_NAMES)))))))
theorem bi_require_family_ {f : Addr} {fd : FuncData} (F : FnP K "require_family" s_require_family f fd) : Binds K fd ["value"] [] := F.bindsN fun _ _ _ _ _ _ us hl => match us, hl with | [_], _ => rfl
theorem ok_require_family_ (fc : Facts K mg) {f : Addr} {fd : FuncData} (Fd : FnP K "require_family" s_require_family f fd) : FnOk P w K mg base (L2.CX P w) 4 f fd ["value"] (spF K mg 1 f_require_family) := by
  obtain ⟨_, _, k_is_family, g_is_family⟩ := fc.d_is_family
  have ok_is_family : FnOk P w K mg base (L2.CX P w) 3 _ _ _ (spF K mg 1 f_is_family) := ok_is_family_ fc k_is_family
  have bi_is_family := bi_is_family_ k_is_family
  refine def_ok Fd sc_require_family fun cdv A outer s H vs E hr => ?_
  have tk := takes_of (X := cxOf (L2.CX P w) P w K mg base ["value"] "require_family" (defScope s_require_family) f cdv A outer s H E) rfl rfl rfl rfl
  have ps := passes_of (X := cxOf (L2.CX P w) P w K mg base ["value"] "require_family" (defScope s_require_family) f cdv A outer s H E) rfl
  exact (ss_one (s_if (t_not (t_val (c_call ok_is_family (Room.mono hr (by decide)) g_is_family k_is_family.kp bi_is_family tk (a_val (c_var 0) a_nil) (ln_val ln_nil))))
    (ss_one s_never)
    ss_nil))
theorem bi_seen_names_ {f : Addr} {fd : FuncData} (F : FnP K "seen_names" s_seen_names f fd) : Binds K fd ["family", "observer", "names"] [] := F.bindsN fun _ _ _ _ _ _ us hl => match us, hl with | [_, _, _], _ => rfl
theorem ok_seen_names_ (fc : Facts K mg) {f : Addr} {fd : FuncData} (Fd : FnP K "seen_names" s_seen_names f fd) : FnOk P w K mg base (L2.CX P w) 1 f fd ["family", "observer", "names"] (spF K mg 3 f_seen_names) := by
  have b_sorted := fc.b_sorted
  refine def_ok Fd sc_seen_names fun cdv A outer s H vs E hr => ?_
  have tk := takes_of (X := cxOf (L2.CX P w) P w K mg base ["family", "observer", "names", "name"] "seen_names" (defScope s_seen_names) f cdv A outer s H E) rfl rfl rfl rfl
  have ps := passes_of (X := cxOf (L2.CX P w) P w K mg base ["family", "observer", "names", "name"] "seen_names" (defScope s_seen_names) f cdv A outer s H E) rfl
  exact (ss_one (s_ret (x_callB (call_srt (u100 hr)) ru_sorted b_sorted bt_sorted (a_val (c_lc rfl sc_seen_names.nd (i_any rfl (c_var 2)) (ok_by (own := [("name", 3)]) (by rfl)) (by decide) (fun _ _ _ _ _ => (g_name 3 sc_seen_names.nd)) (fun _ _ _ _ _ => (ts_one (xt_cmp (op_In (u64 hr)) ru_in (c_var 3) (x_ix (ix_any (u64 hr)) ru_ix (c_var 0) (c_var 1))))) (fun _ _ _ _ _ => (c_var 3))) a_nil))))
theorem bi_is_integer_ {f : Addr} {fd : FuncData} (F : FnP K "is_integer" s_is_integer f fd) : Binds K fd ["value"] [] := F.bindsN fun _ _ _ _ _ _ us hl => match us, hl with | [_], _ => rfl
theorem ok_is_integer_ (fc : Facts K mg) {f : Addr} {fd : FuncData} (Fd : FnP K "is_integer" s_is_integer f fd) : FnOk P w K mg base (L2.CX P w) 1 f fd ["value"] (spF K mg 1 f_is_integer) := by
  have b_bool := fc.b_bool
  have b_int := fc.b_int
  have b_isinstance := fc.b_isinstance
  refine def_ok Fd sc_is_integer fun cdv A outer s H vs E hr => ?_
  have tk := takes_of (X := cxOf (L2.CX P w) P w K mg base ["value"] "is_integer" (defScope s_is_integer) f cdv A outer s H E) rfl rfl rfl rfl
  have ps := passes_of (X := cxOf (L2.CX P w) P w K mg base ["value"] "is_integer" (defScope s_is_integer) f cdv A outer s H E) rfl
  exact (ss_one (s_ret (v_and (c_isa isa_int b_isinstance b_int bt_int (c_var 0)) (v_one (v_not (c_isa isa_bool b_isinstance b_bool bt_bool (c_var 0)))))))
theorem bi_is_between_ {f : Addr} {fd : FuncData} (F : FnP K "is_between" s_is_between f fd) : Binds K fd ["value", "low", "high"] [] := F.bindsN fun _ _ _ _ _ _ us hl => match us, hl with | [_, _, _], _ => rfl
theorem ok_is_between_ (fc : Facts K mg) {f : Addr} {fd : FuncData} (Fd : FnP K "is_between" s_is_between f fd) : FnOk P w K mg base (L2.CX P w) 2 f fd ["value", "low", "high"] (spF K mg 3 f_is_between) := by
  obtain ⟨_, _, k_is_integer, g_is_integer⟩ := fc.d_is_integer
  have ok_is_integer : FnOk P w K mg base (L2.CX P w) 1 _ _ _ (spF K mg 1 f_is_integer) := ok_is_integer_ fc k_is_integer
  have bi_is_integer := bi_is_integer_ k_is_integer
  refine def_ok Fd sc_is_between fun cdv A outer s H vs E hr => ?_
  have tk := takes_of (X := cxOf (L2.CX P w) P w K mg base ["value", "low", "high"] "is_between" (defScope s_is_between) f cdv A outer s H E) rfl rfl rfl rfl
  have ps := passes_of (X := cxOf (L2.CX P w) P w K mg base ["value", "low", "high"] "is_between" (defScope s_is_between) f cdv A outer s H E) rfl
  exact (ss_one (s_ret (v_and (c_call ok_is_integer (Room.mono hr (by decide)) g_is_integer k_is_integer.kp bi_is_integer tk (a_val (c_var 0) a_nil) (ln_val ln_nil)) (v_one (x_chain op_le ru_le op_le ru_le (c_var 1) (c_var 0) (c_var 2))))))
theorem bi_is_pair_ {f : Addr} {fd : FuncData} (F : FnP K "is_pair" s_is_pair f fd) : Binds K fd ["family", "value"] [] := F.bindsN fun _ _ _ _ _ _ us hl => match us, hl with | [_, _], _ => rfl
theorem ok_is_pair_ (fc : Facts K mg) {f : Addr} {fd : FuncData} (Fd : FnP K "is_pair" s_is_pair f fd) : FnOk P w K mg base (L2.CX P w) 3 f fd ["family", "value"] (spF K mg 2 f_is_pair) := by
  have b_isinstance := fc.b_isinstance
  have b_len := fc.b_len
  have b_str := fc.b_str
  have b_tuple := fc.b_tuple
  obtain ⟨_, _, k_is_between, g_is_between⟩ := fc.d_is_between
  have ok_is_between : FnOk P w K mg base (L2.CX P w) 2 _ _ _ (spF K mg 3 f_is_between) := ok_is_between_ fc k_is_between
  have bi_is_between := bi_is_between_ k_is_between
  obtain ⟨_, _, k_names_of, g_names_of⟩ := fc.d_names_of
  have ok_names_of : FnOk P w K mg base (L2.CX P w) 1 _ _ _ (spF K mg 1 f_names_of) := ok_names_of_ fc k_names_of
  have bi_names_of := bi_names_of_ k_names_of
  refine def_ok Fd sc_is_pair fun cdv A outer s H vs E hr => ?_
  have tk := takes_of (X := cxOf (L2.CX P w) P w K mg base ["family", "value"] "is_pair" (defScope s_is_pair) f cdv A outer s H E) rfl rfl rfl rfl
  have ps := passes_of (X := cxOf (L2.CX P w) P w K mg base ["family", "value"] "is_pair" (defScope s_is_pair) f cdv A outer s H E) rfl
  exact (ss_cons (s_if (PW.pt (w_or (t_not (t_val (c_isa isa_tuple b_isinstance b_tuple bt_tuple (c_var 1)))) (w_or (xt_cmp (op_Ne (u64 hr)) ru_ne (x_callB call_Len ru_len b_len bt_len (a_val (c_var 1) a_nil)) c_int) (w_or1 (t_not (t_val (c_isa isa_str b_isinstance b_str bt_str (x_ix (ix_any (u64 hr)) ru_ix (c_var 1) c_int))))))))
    (ss_one (s_ret c_bool))
    ss_nil)
    (ss_one (s_ret (v_and (x_cmp (op_In (u64 hr)) ru_in (x_ix (ix_any (u64 hr)) ru_ix (c_var 1) c_int) (c_call ok_names_of (Room.mono hr (by decide)) g_names_of k_names_of.kp bi_names_of tk (a_val (c_var 0) a_nil) (ln_val ln_nil))) (v_one (c_call ok_is_between (Room.mono hr (by decide)) g_is_between k_is_between.kp bi_is_between tk (a_dat (x_ix (ix_any (u64 hr)) ru_ix (c_var 1) c_int) (a_dat c_int (a_dat (x_bin op_sub ru_sub (x_callB call_Len ru_len b_len bt_len (a_val (c_var 0) a_nil)) c_int) a_nil))) (ln_dat (ln_dat (ln_dat ln_nil)))))))))
theorem bi_is_loose_ {f : Addr} {fd : FuncData} (F : FnP K "is_loose" s_is_loose f fd) : Binds K fd ["family", "value"] [] := F.bindsN fun _ _ _ _ _ _ us hl => match us, hl with | [_, _], _ => rfl
theorem ok_is_loose_ (fc : Facts K mg) {f : Addr} {fd : FuncData} (Fd : FnP K "is_loose" s_is_loose f fd) : FnOk P w K mg base (L2.CX P w) 4 f fd ["family", "value"] (spF K mg 2 f_is_loose) := by
  have b_all := fc.b_all
  have b_isinstance := fc.b_isinstance
  have b_len := fc.b_len
  have b_set := fc.b_set
  have b_sorted := fc.b_sorted
  have b_tuple := fc.b_tuple
  have b_zip := fc.b_zip
  obtain ⟨_, _, k_seen_names, g_seen_names⟩ := fc.d_seen_names
  have ok_seen_names : FnOk P w K mg base (L2.CX P w) 1 _ _ _ (spF K mg 3 f_seen_names) := ok_seen_names_ fc k_seen_names
  have bi_seen_names := bi_seen_names_ k_seen_names
  obtain ⟨_, _, k_is_pair, g_is_pair⟩ := fc.d_is_pair
  have ok_is_pair : FnOk P w K mg base (L2.CX P w) 3 _ _ _ (spF K mg 2 f_is_pair) := ok_is_pair_ fc k_is_pair
  have bi_is_pair := bi_is_pair_ k_is_pair
  refine def_ok Fd sc_is_loose fun cdv A outer s H vs E hr => ?_
  have tk := takes_of (X := cxOf (L2.CX P w) P w K mg base ["family", "value", "names", "following", "other", "name", "observer", "pair"] "is_loose" (defScope s_is_loose) f cdv A outer s H E) rfl rfl rfl rfl
  have ps := passes_of (X := cxOf (L2.CX P w) P w K mg base ["family", "value", "names", "following", "other", "name", "observer", "pair"] "is_loose" (defScope s_is_loose) f cdv A outer s H E) rfl
  exact (ss_cons (s_if (PW.pt (w_or (t_not (t_val (c_isa isa_tuple b_isinstance b_tuple bt_tuple (c_var 1)))) (w_or (xt_cmp op_lt ru_lt (x_callB call_Len ru_len b_len bt_len (a_val (c_var 1) a_nil)) c_int) (w_or1 (t_not (t_val (x_callB (call_All rfl) ru_all b_all bt_all (a_val (c_lc rfl sc_is_loose.nd (i_any rfl (c_var 1)) (ok_by (own := [("pair", 7)]) (by rfl)) (by decide) (fun _ _ _ _ _ => (g_name 7 sc_is_loose.nd)) (fun _ _ _ _ _ => ts_nil) (fun _ _ _ _ _ => (c_call ok_is_pair (Room.mono hr (by decide)) g_is_pair k_is_pair.kp bi_is_pair Pv.takes0 (a_val (c_var 0) (a_val (c_var 7) a_nil)) (ln_val (ln_val ln_nil))))) a_nil))))))))
    (ss_one (s_ret c_bool))
    ss_nil)
    (ss_cons (s_setLc 2 rfl sc_is_loose.nd rfl rfl rfl (i_any rfl (c_var 1)) (ok_by (own := [("name", 5), ("observer", 6)]) (by rfl)) (by decide) (fun _ _ _ _ _ => (g_tup rfl rfl (gs_cons (g_name 5 sc_is_loose.nd) (gs_cons (g_name 6 sc_is_loose.nd) gs_nil)))) (fun _ _ _ _ _ => ts_nil) (fun _ _ _ _ _ => (c_var 5)))
    (ss_cons (s_if (PW.pt (w_or (xt_cmp op_lt ru_lt (c_lset rfl rfl (u100 hr) b_len b_set (c_var 2)) (x_callB call_Len ru_len b_len bt_len (a_val (c_var 2) a_nil))) (w_or1 (xt_cmp op_lt ru_lt (c_lset rfl rfl (u100 hr) b_len b_set (c_lc rfl sc_is_loose.nd (i_any rfl (c_var 1)) (ok_by (own := [("name", 5), ("observer", 6)]) (by rfl)) (by decide) (fun _ _ _ _ _ => (g_tup rfl rfl (gs_cons (g_name 5 sc_is_loose.nd) (gs_cons (g_name 6 sc_is_loose.nd) gs_nil)))) (fun _ _ _ _ _ => ts_nil) (fun _ _ _ _ _ => (c_var 6)))) (x_callB call_Len ru_len b_len bt_len (a_val (c_var 1) a_nil))))))
    (ss_one (s_ret c_bool))
    ss_nil)
    (ss_cons (s_set 3 sc_is_loose.nd (x_bin op_Add ru_add (c_slice rfl (c_var 2) (o_pt c_int) o_no) (c_slice rfl (c_var 2) o_no (o_pt c_int))))
    (ss_cons (s_for ps rfl (i_zip rfl b_zip (a_val (c_var 1) (a_val (c_var 3) a_nil))) (g_tup rfl rfl (gs_cons (g_tup rfl rfl (gs_cons (g_name 5 sc_is_loose.nd) (gs_cons (g_name 6 sc_is_loose.nd) gs_nil))) (gs_cons (g_name 4 sc_is_loose.nd) gs_nil)))
    (ss_one (s_if (xt_cmp (op_Ne (u64 hr)) ru_ne (c_call ok_seen_names (Room.mono hr (by decide)) g_seen_names k_seen_names.kp bi_seen_names tk (a_val (c_var 0) (a_val (c_var 6) (a_val (c_var 2) a_nil))) (ln_val (ln_val (ln_val ln_nil)))) (x_callB (call_srt (u100 hr)) ru_sorted b_sorted bt_sorted (a_val (c_lst (a_dat (c_var 5) (a_dat (c_var 4) a_nil))) a_nil)))
    (ss_one (s_ret c_bool))
    ss_nil)))
    (ss_one (s_ret c_bool)))))))
theorem bi_is_loose_ring_ {f : Addr} {fd : FuncData} (F : FnP K "is_loose_ring" s_is_loose_ring f fd) : Binds K fd ["family", "value"] [] := F.bindsN fun _ _ _ _ _ _ us hl => match us, hl with | [_, _], _ => rfl
theorem ok_is_loose_ring_ (fc : Facts K mg) {f : Addr} {fd : FuncData} (Fd : FnP K "is_loose_ring" s_is_loose_ring f fd) : FnOk P w K mg base (L2.CX P w) 5 f fd ["family", "value"] (spF K mg 2 f_is_loose_ring) := by
  obtain ⟨_, _, k_require_family, g_require_family⟩ := fc.d_require_family
  have ok_require_family : FnOk P w K mg base (L2.CX P w) 4 _ _ _ (spF K mg 1 f_require_family) := ok_require_family_ fc k_require_family
  have bi_require_family := bi_require_family_ k_require_family
  obtain ⟨_, _, k_is_loose, g_is_loose⟩ := fc.d_is_loose
  have ok_is_loose : FnOk P w K mg base (L2.CX P w) 4 _ _ _ (spF K mg 2 f_is_loose) := ok_is_loose_ fc k_is_loose
  have bi_is_loose := bi_is_loose_ k_is_loose
  refine def_ok Fd sc_is_loose_ring fun cdv A outer s H vs E hr => ?_
  have tk := takes_of (X := cxOf (L2.CX P w) P w K mg base ["family", "value"] "is_loose_ring" (defScope s_is_loose_ring) f cdv A outer s H E) rfl rfl rfl rfl
  have ps := passes_of (X := cxOf (L2.CX P w) P w K mg base ["family", "value"] "is_loose_ring" (defScope s_is_loose_ring) f cdv A outer s H E) rfl
  exact (ss_cons (s_expr (c_call ok_require_family (Room.mono hr (by decide)) g_require_family k_require_family.kp bi_require_family tk (a_val (c_var 0) a_nil) (ln_val ln_nil)))
    (ss_one (s_ret (c_call ok_is_loose (Room.mono hr (by decide)) g_is_loose k_is_loose.kp bi_is_loose tk (a_val (c_var 0) (a_val (c_var 1) a_nil)) (ln_val (ln_val ln_nil))))))
theorem bi_family_of_ {f : Addr} {fd : FuncData} (F : FnP K "family_of" s_family_of f fd) : Binds K fd ["case"] [] := F.bindsN fun _ _ _ _ _ _ us hl => match us, hl with | [_], _ => rfl
theorem ok_family_of_ (fc : Facts K mg) {f : Addr} {fd : FuncData} (Fd : FnP K "family_of" s_family_of f fd) : FnOk P w K mg base (L2.CX P w) 1 f fd ["case"] (spF K mg 1 f_family_of) := by
  have b_tuple := fc.b_tuple
  refine def_ok Fd sc_family_of fun cdv A outer s H vs E hr => ?_
  have tk := takes_of (X := cxOf (L2.CX P w) P w K mg base ["case", "names", "view"] "family_of" (defScope s_family_of) f cdv A outer s H E) rfl rfl rfl rfl
  have ps := passes_of (X := cxOf (L2.CX P w) P w K mg base ["case", "names", "view"] "family_of" (defScope s_family_of) f cdv A outer s H E) rfl
  exact (ss_one (s_ret (x_callTy call_tuple_of ru_tuple b_tuple bt_tuple (a_val (c_lc rfl sc_family_of.nd (i_any rfl (c_var 0)) (ok_by (own := [("names", 1), ("view", 2)]) (by rfl)) (by decide) (fun _ _ _ _ _ => (g_tup rfl rfl (gs_cons (g_name 1 sc_family_of.nd) (gs_cons (g_name 2 sc_family_of.nd) gs_nil)))) (fun _ _ _ _ _ => ts_nil) (fun _ _ _ _ _ => (c_var 1))) a_nil))))
theorem bi_is_view_ {f : Addr} {fd : FuncData} (F : FnP K "is_view" s_is_view f fd) : Binds K fd ["value", "names"] [] := F.bindsN fun _ _ _ _ _ _ us hl => match us, hl with | [_, _], _ => rfl
theorem ok_is_view_ (fc : Facts K mg) {f : Addr} {fd : FuncData} (Fd : FnP K "is_view" s_is_view f fd) : FnOk P w K mg base (L2.CX P w) 1 f fd ["value", "names"] (spF K mg 2 f_is_view) := by
  have b_all := fc.b_all
  have b_isinstance := fc.b_isinstance
  have b_len := fc.b_len
  have b_tuple := fc.b_tuple
  obtain ⟨_, g_LONGEST_VIEW⟩ := fc.g_LONGEST_VIEW
  refine def_ok Fd sc_is_view fun cdv A outer s H vs E hr => ?_
  have tk := takes_of (X := cxOf (L2.CX P w) P w K mg base ["value", "names", "name"] "is_view" (defScope s_is_view) f cdv A outer s H E) rfl rfl rfl rfl
  have ps := passes_of (X := cxOf (L2.CX P w) P w K mg base ["value", "names", "name"] "is_view" (defScope s_is_view) f cdv A outer s H E) rfl
  exact (ss_one (s_ret (v_and (c_isa isa_tuple b_isinstance b_tuple bt_tuple (c_var 0)) (v_and (x_cmp op_le ru_le (x_callB call_Len ru_len b_len bt_len (a_val (c_var 0) a_nil)) (c_globI g_LONGEST_VIEW)) (v_one (x_callB (call_All rfl) ru_all b_all bt_all (a_val (c_lc rfl sc_is_view.nd (i_any rfl (c_var 0)) (ok_by (own := [("name", 2)]) (by rfl)) (by decide) (fun _ _ _ _ _ => (g_name 2 sc_is_view.nd)) (fun _ _ _ _ _ => ts_nil) (fun _ _ _ _ _ => (x_cmp (op_In (u64 hr)) ru_in (c_var 2) (c_var 1)))) a_nil)))))))
theorem bi_is_case_ {f : Addr} {fd : FuncData} (F : FnP K "is_case" s_is_case f fd) : Binds K fd ["value"] [] := F.bindsN fun _ _ _ _ _ _ us hl => match us, hl with | [_], _ => rfl
theorem ok_is_case_ (fc : Facts K mg) {f : Addr} {fd : FuncData} (Fd : FnP K "is_case" s_is_case f fd) : FnOk P w K mg base (L2.CX P w) 4 f fd ["value"] (spF K mg 1 f_is_case) := by
  have b_all := fc.b_all
  have b_isinstance := fc.b_isinstance
  have b_len := fc.b_len
  have b_tuple := fc.b_tuple
  obtain ⟨_, _, k_is_family, g_is_family⟩ := fc.d_is_family
  have ok_is_family : FnOk P w K mg base (L2.CX P w) 3 _ _ _ (spF K mg 1 f_is_family) := ok_is_family_ fc k_is_family
  have bi_is_family := bi_is_family_ k_is_family
  obtain ⟨_, _, k_family_of, g_family_of⟩ := fc.d_family_of
  have ok_family_of : FnOk P w K mg base (L2.CX P w) 1 _ _ _ (spF K mg 1 f_family_of) := ok_family_of_ fc k_family_of
  have bi_family_of := bi_family_of_ k_family_of
  obtain ⟨_, _, k_is_view, g_is_view⟩ := fc.d_is_view
  have ok_is_view : FnOk P w K mg base (L2.CX P w) 1 _ _ _ (spF K mg 2 f_is_view) := ok_is_view_ fc k_is_view
  have bi_is_view := bi_is_view_ k_is_view
  refine def_ok Fd sc_is_case fun cdv A outer s H vs E hr => ?_
  have tk := takes_of (X := cxOf (L2.CX P w) P w K mg base ["value", "pair", "names", "view"] "is_case" (defScope s_is_case) f cdv A outer s H E) rfl rfl rfl rfl
  have ps := passes_of (X := cxOf (L2.CX P w) P w K mg base ["value", "pair", "names", "view"] "is_case" (defScope s_is_case) f cdv A outer s H E) rfl
  exact (ss_cons (s_if (PW.pt (w_or (t_not (t_val (c_isa isa_tuple b_isinstance b_tuple bt_tuple (c_var 0)))) (w_or1 (t_not (t_val (x_callB (call_All rfl) ru_all b_all bt_all (a_val (c_lc rfl sc_is_case.nd (i_any rfl (c_var 0)) (ok_by (own := [("pair", 1)]) (by rfl)) (by decide) (fun _ _ _ _ _ => (g_name 1 sc_is_case.nd)) (fun _ _ _ _ _ => ts_nil) (fun _ _ _ _ _ => (v_and (c_isa isa_tuple b_isinstance b_tuple bt_tuple (c_var 1)) (v_one (x_cmp (op_Eq (u64 hr)) ru_eq (x_callB call_Len ru_len b_len bt_len (a_val (c_var 1) a_nil)) c_int))))) a_nil)))))))
    (ss_one (s_ret c_bool))
    ss_nil)
    (ss_one (s_ret (v_and (c_call ok_is_family (Room.mono hr (by decide)) g_is_family k_is_family.kp bi_is_family tk (a_dat (c_call ok_family_of (Room.mono hr (by decide)) g_family_of k_family_of.kp bi_family_of tk (a_val (c_var 0) a_nil) (ln_val ln_nil)) a_nil) (ln_dat ln_nil)) (v_one (x_callB (call_All rfl) ru_all b_all bt_all (a_val (c_lc rfl sc_is_case.nd (i_any rfl (c_var 0)) (ok_by (own := [("names", 2), ("view", 3)]) (by rfl)) (by decide) (fun _ _ _ _ _ => (g_tup rfl rfl (gs_cons (g_name 2 sc_is_case.nd) (gs_cons (g_name 3 sc_is_case.nd) gs_nil)))) (fun _ _ _ _ _ => ts_nil) (fun _ _ _ _ _ => (c_call ok_is_view (Room.mono hr (by decide)) g_is_view k_is_view.kp bi_is_view Pv.takes0 (a_val (c_var 3) (a_val (c_var 2) a_nil)) (ln_val (ln_val ln_nil))))) a_nil)))))))
theorem bi_require_case_ {f : Addr} {fd : FuncData} (F : FnP K "require_case" s_require_case f fd) : Binds K fd ["value"] [] := F.bindsN fun _ _ _ _ _ _ us hl => match us, hl with | [_], _ => rfl
theorem ok_require_case_ (fc : Facts K mg) {f : Addr} {fd : FuncData} (Fd : FnP K "require_case" s_require_case f fd) : FnOk P w K mg base (L2.CX P w) 5 f fd ["value"] (spF K mg 1 f_require_case) := by
  obtain ⟨_, _, k_is_case, g_is_case⟩ := fc.d_is_case
  have ok_is_case : FnOk P w K mg base (L2.CX P w) 4 _ _ _ (spF K mg 1 f_is_case) := ok_is_case_ fc k_is_case
  have bi_is_case := bi_is_case_ k_is_case
  refine def_ok Fd sc_require_case fun cdv A outer s H vs E hr => ?_
  have tk := takes_of (X := cxOf (L2.CX P w) P w K mg base ["value"] "require_case" (defScope s_require_case) f cdv A outer s H E) rfl rfl rfl rfl
  have ps := passes_of (X := cxOf (L2.CX P w) P w K mg base ["value"] "require_case" (defScope s_require_case) f cdv A outer s H E) rfl
  exact (ss_one (s_if (t_not (t_val (c_call ok_is_case (Room.mono hr (by decide)) g_is_case k_is_case.kp bi_is_case tk (a_val (c_var 0) a_nil) (ln_val ln_nil))))
    (ss_one s_never)
    ss_nil))
theorem bi_open_events_ {f : Addr} {fd : FuncData} (F : FnP K "open_events" s_open_events f fd) : Binds K fd ["left", "links"] [] := F.bindsN fun _ _ _ _ _ _ us hl => match us, hl with | [_, _], _ => rfl
theorem ok_open_events_ (fc : Facts K mg) {f : Addr} {fd : FuncData} (Fd : FnP K "open_events" s_open_events f fd) : FnOk P w K mg base (L2.CX P w) 1 f fd ["left", "links"] (spF K mg 2 f_open_events) := by
  refine def_ok Fd sc_open_events fun cdv A outer s H vs E hr => ?_
  have tk := takes_of (X := cxOf (L2.CX P w) P w K mg base ["left", "links", "later", "event", "first", "second"] "open_events" (defScope s_open_events) f cdv A outer s H E) rfl rfl rfl rfl
  have ps := passes_of (X := cxOf (L2.CX P w) P w K mg base ["left", "links", "later", "event", "first", "second"] "open_events" (defScope s_open_events) f cdv A outer s H E) rfl
  exact (ss_cons (s_set 2 sc_open_events.nd (c_lc rfl sc_open_events.nd (i_any rfl (c_var 1)) (ok_by (own := [("first", 4), ("second", 5)]) (by rfl)) (by decide) (fun _ _ _ _ _ => (g_tup rfl rfl (gs_cons (g_name 4 sc_open_events.nd) (gs_cons (g_name 5 sc_open_events.nd) gs_nil)))) (fun _ _ _ _ _ => (ts_one (xt_cmp (op_In (u64 hr)) ru_in (c_var 4) (c_var 0)))) (fun _ _ _ _ _ => (c_var 5))))
    (ss_one (s_ret (c_lc rfl sc_open_events.nd (i_any rfl (c_var 0)) (ok_by (own := [("event", 3)]) (by rfl)) (by decide) (fun _ _ _ _ _ => (g_name 3 sc_open_events.nd)) (fun _ _ _ _ _ => (ts_one (xt_cmp (op_NotIn (u64 hr)) ru_notin (c_var 3) (c_var 2)))) (fun _ _ _ _ _ => (c_var 3))))))
theorem bi_arrange_ {f : Addr} {fd : FuncData} (F : FnP K "arrange" s_arrange f fd) : Binds K fd ["events", "links"] [] := F.bindsN fun _ _ _ _ _ _ us hl => match us, hl with | [_, _], _ => rfl
theorem ok_arrange_ (fc : Facts K mg) {f : Addr} {fd : FuncData} (Fd : FnP K "arrange" s_arrange f fd) : FnOk P w K mg base (L2.CX P w) 2 f fd ["events", "links"] (spF K mg 2 f_arrange) := by
  have b_list := fc.b_list
  have b_tuple := fc.b_tuple
  obtain ⟨_, _, k_open_events, g_open_events⟩ := fc.d_open_events
  have ok_open_events : FnOk P w K mg base (L2.CX P w) 1 _ _ _ (spF K mg 2 f_open_events) := ok_open_events_ fc k_open_events
  have bi_open_events := bi_open_events_ k_open_events
  refine def_ok Fd sc_arrange fun cdv A outer s H vs E hr => ?_
  have tk := takes_of (X := cxOf (L2.CX P w) P w K mg base ["events", "links", "left", "row", "ready"] "arrange" (defScope s_arrange) f cdv A outer s H E) rfl rfl rfl rfl
  have ps := passes_of (X := cxOf (L2.CX P w) P w K mg base ["events", "links", "left", "row", "ready"] "arrange" (defScope s_arrange) f cdv A outer s H E) rfl
  exact (ss_cons (s_set 2 sc_arrange.nd (x_callTy call_list_of ru_list b_list bt_list (a_val (c_var 0) a_nil)))
    (ss_cons (s_set 3 sc_arrange.nd (c_lst a_nil))
    (ss_cons (s_while 5000 ps (xt_cmp (op_Ne (u64 hr)) ru_ne (c_var 2) (c_lst a_nil))
    (ss_cons (s_set 4 sc_arrange.nd (c_call ok_open_events (Room.mono hr (by decide)) g_open_events k_open_events.kp bi_open_events tk (a_val (c_var 2) (a_val (c_var 1) a_nil)) (ln_val (ln_val ln_nil))))
    (ss_cons (s_if (xt_cmp (op_Eq (u64 hr)) ru_eq (c_var 4) (c_lst a_nil))
    (ss_one (s_ret c_none))
    ss_nil)
    (ss_cons (s_expr (c_mt rfl PySem.F.slot_list_append ty_append mt_append rm_append (c_var 3) (a_dat (x_ix (ix_any (u64 hr)) ru_ix (x_ix (ix_any (u64 hr)) ru_ix (c_var 4) c_int) c_int) a_nil)))
    (ss_one (s_expr (c_mt rfl PySem.F.slot_list_remove ty_remove (mt_remD (u100 hr)) rm_remove (c_var 2) (a_dat (x_ix (ix_any (u64 hr)) ru_ix (c_var 4) c_int) a_nil))))))))
    (ss_one (s_ret (x_callTy call_tuple_of ru_tuple b_tuple bt_tuple (a_val (c_var 3) a_nil)))))))
theorem bi_number_events_ {f : Addr} {fd : FuncData} (F : FnP K "number_events" s_number_events f fd) : Binds K fd ["names"] [] := F.bindsN fun _ _ _ _ _ _ us hl => match us, hl with | [_], _ => rfl
theorem ok_number_events_ (fc : Facts K mg) {f : Addr} {fd : FuncData} (Fd : FnP K "number_events" s_number_events f fd) : FnOk P w K mg base (L2.CX P w) 1 f fd ["names"] (spF K mg 1 f_number_events) := by
  refine def_ok Fd sc_number_events fun cdv A outer s H vs E hr => ?_
  have tk := takes_of (X := cxOf (L2.CX P w) P w K mg base ["names", "counts", "found", "name"] "number_events" (defScope s_number_events) f cdv A outer s H E) rfl rfl rfl rfl
  have ps := passes_of (X := cxOf (L2.CX P w) P w K mg base ["names", "counts", "found", "name"] "number_events" (defScope s_number_events) f cdv A outer s H E) rfl
  exact (ss_cons (s_set 1 sc_number_events.nd c_dk)
    (ss_cons (s_set 2 sc_number_events.nd (c_lst a_nil))
    (ss_cons (s_for ps rfl (i_any rfl (c_var 0)) (g_name 3 sc_number_events.nd)
    (ss_cons (s_asg (x_bin op_Add ru_add (c_get2 (u100 hr) (c_var 1) (c_var 3) c_int) c_int) (g_put (u100 hr) (c_var 1) (c_var 3)))
    (ss_one (s_expr (c_mt rfl PySem.F.slot_list_append ty_append mt_append rm_append (c_var 2) (a_dat (c_tup (a_dat (c_var 3) (a_dat (x_ix (ix_any (u64 hr)) ru_ix (c_var 1) (c_var 3)) a_nil))) a_nil))))))
    (ss_one (s_ret (c_var 2))))))
theorem bi_find_events_ {f : Addr} {fd : FuncData} (F : FnP K "find_events" s_find_events f fd) : Binds K fd ["case"] [] := F.bindsN fun _ _ _ _ _ _ us hl => match us, hl with | [_], _ => rfl
theorem ok_find_events_ (fc : Facts K mg) {f : Addr} {fd : FuncData} (Fd : FnP K "find_events" s_find_events f fd) : FnOk P w K mg base (L2.CX P w) 2 f fd ["case"] (spF K mg 1 f_find_events) := by
  have b_set := fc.b_set
  have b_sorted := fc.b_sorted
  obtain ⟨_, _, k_number_events, g_number_events⟩ := fc.d_number_events
  have ok_number_events : FnOk P w K mg base (L2.CX P w) 1 _ _ _ (spF K mg 1 f_number_events) := ok_number_events_ fc k_number_events
  have bi_number_events := bi_number_events_ k_number_events
  refine def_ok Fd sc_find_events fun cdv A outer s H vs E hr => ?_
  have tk := takes_of (X := cxOf (L2.CX P w) P w K mg base ["case", "found", "names", "view"] "find_events" (defScope s_find_events) f cdv A outer s H E) rfl rfl rfl rfl
  have ps := passes_of (X := cxOf (L2.CX P w) P w K mg base ["case", "found", "names", "view"] "find_events" (defScope s_find_events) f cdv A outer s H E) rfl
  exact (ss_cons (s_set 1 sc_find_events.nd (c_lst a_nil))
    (ss_cons (s_for ps rfl (i_any rfl (c_var 0)) (g_tup rfl rfl (gs_cons (g_name 2 sc_find_events.nd) (gs_cons (g_name 3 sc_find_events.nd) gs_nil)))
    (ss_one (s_expr (c_mt rfl PySem.F.slot_list_extend ty_extend mt_extend rm_extend (c_var 1) (a_dat (c_call ok_number_events (Room.mono hr (by decide)) g_number_events k_number_events.kp bi_number_events tk (a_val (c_var 3) a_nil) (ln_val ln_nil)) a_nil)))))
    (ss_one (s_ret (c_sset rfl rfl (u100 hr) b_sorted b_set (c_var 1))))))
theorem bi_view_links_ {f : Addr} {fd : FuncData} (F : FnP K "view_links" s_view_links f fd) : Binds K fd ["case"] [] := F.bindsN fun _ _ _ _ _ _ us hl => match us, hl with | [_], _ => rfl
theorem ok_view_links_ (fc : Facts K mg) {f : Addr} {fd : FuncData} (Fd : FnP K "view_links" s_view_links f fd) : FnOk P w K mg base (L2.CX P w) 2 f fd ["case"] (spF K mg 1 f_view_links) := by
  have b_list := fc.b_list
  have b_zip := fc.b_zip
  obtain ⟨_, _, k_number_events, g_number_events⟩ := fc.d_number_events
  have ok_number_events : FnOk P w K mg base (L2.CX P w) 1 _ _ _ (spF K mg 1 f_number_events) := ok_number_events_ fc k_number_events
  have bi_number_events := bi_number_events_ k_number_events
  refine def_ok Fd sc_view_links fun cdv A outer s H vs E hr => ?_
  have tk := takes_of (X := cxOf (L2.CX P w) P w K mg base ["case", "found", "names", "view", "seen"] "view_links" (defScope s_view_links) f cdv A outer s H E) rfl rfl rfl rfl
  have ps := passes_of (X := cxOf (L2.CX P w) P w K mg base ["case", "found", "names", "view", "seen"] "view_links" (defScope s_view_links) f cdv A outer s H E) rfl
  exact (ss_cons (s_set 1 sc_view_links.nd (c_lst a_nil))
    (ss_cons (s_for ps rfl (i_any rfl (c_var 0)) (g_tup rfl rfl (gs_cons (g_name 2 sc_view_links.nd) (gs_cons (g_name 3 sc_view_links.nd) gs_nil)))
    (ss_cons (s_set 4 sc_view_links.nd (c_call ok_number_events (Room.mono hr (by decide)) g_number_events k_number_events.kp bi_number_events tk (a_val (c_var 3) a_nil) (ln_val ln_nil)))
    (ss_one (s_expr (c_mt rfl PySem.F.slot_list_extend ty_extend mt_extend rm_extend (c_var 1) (a_dat (c_lzip rfl rfl b_list b_zip (a_val (c_var 4) (a_val (c_slice rfl (c_var 4) (o_pt c_int) o_no) a_nil))) a_nil))))))
    (ss_one (s_ret (c_var 1)))))
theorem bi_find_missing_ {f : Addr} {fd : FuncData} (F : FnP K "find_missing" s_find_missing f fd) : Binds K fd ["case", "observer"] [] := F.bindsN fun _ _ _ _ _ _ us hl => match us, hl with | [_, _], _ => rfl
theorem ok_find_missing_ (fc : Facts K mg) {f : Addr} {fd : FuncData} (Fd : FnP K "find_missing" s_find_missing f fd) : FnOk P w K mg base (L2.CX P w) 3 f fd ["case", "observer"] (spF K mg 2 f_find_missing) := by
  obtain ⟨_, _, k_number_events, g_number_events⟩ := fc.d_number_events
  have ok_number_events : FnOk P w K mg base (L2.CX P w) 1 _ _ _ (spF K mg 1 f_number_events) := ok_number_events_ fc k_number_events
  have bi_number_events := bi_number_events_ k_number_events
  obtain ⟨_, _, k_find_events, g_find_events⟩ := fc.d_find_events
  have ok_find_events : FnOk P w K mg base (L2.CX P w) 2 _ _ _ (spF K mg 1 f_find_events) := ok_find_events_ fc k_find_events
  have bi_find_events := bi_find_events_ k_find_events
  refine def_ok Fd sc_find_missing fun cdv A outer s H vs E hr => ?_
  have tk := takes_of (X := cxOf (L2.CX P w) P w K mg base ["case", "observer", "seen", "names", "view", "event"] "find_missing" (defScope s_find_missing) f cdv A outer s H E) rfl rfl rfl rfl
  have ps := passes_of (X := cxOf (L2.CX P w) P w K mg base ["case", "observer", "seen", "names", "view", "event"] "find_missing" (defScope s_find_missing) f cdv A outer s H E) rfl
  exact (ss_cons (s_asg (x_ix (ix_any (u64 hr)) ru_ix (c_var 0) (c_var 1)) (g_tup rfl rfl (gs_cons (g_name 3 sc_find_missing.nd) (gs_cons (g_name 4 sc_find_missing.nd) gs_nil))))
    (ss_cons (s_set 2 sc_find_missing.nd (c_call ok_number_events (Room.mono hr (by decide)) g_number_events k_number_events.kp bi_number_events tk (a_val (c_var 4) a_nil) (ln_val ln_nil)))
    (ss_one (s_ret (c_lc rfl sc_find_missing.nd (i_any rfl (c_call ok_find_events (Room.mono hr (by decide)) g_find_events k_find_events.kp bi_find_events tk (a_val (c_var 0) a_nil) (ln_val ln_nil))) (ok_by (own := [("event", 5)]) (by rfl)) (by decide) (fun _ _ _ _ _ => (g_name 5 sc_find_missing.nd)) (fun _ _ _ _ _ => (ts_one (PW.pt (w_and (xt_cmp (op_In (u64 hr)) ru_in (x_ix (ix_any (u64 hr)) ru_ix (c_var 5) c_int) (c_var 3)) (w_and1 (xt_cmp (op_NotIn (u64 hr)) ru_notin (c_var 5) (c_var 2))))))) (fun _ _ _ _ _ => (c_var 5)))))))
theorem bi_growing_links_ {f : Addr} {fd : FuncData} (F : FnP K "growing_links" s_growing_links f fd) : Binds K fd ["case"] [] := F.bindsN fun _ _ _ _ _ _ us hl => match us, hl with | [_], _ => rfl
theorem ok_growing_links_ (fc : Facts K mg) {f : Addr} {fd : FuncData} (Fd : FnP K "growing_links" s_growing_links f fd) : FnOk P w K mg base (L2.CX P w) 4 f fd ["case"] (spF K mg 1 f_growing_links) := by
  have b_enumerate := fc.b_enumerate
  obtain ⟨_, _, k_view_links, g_view_links⟩ := fc.d_view_links
  have ok_view_links : FnOk P w K mg base (L2.CX P w) 2 _ _ _ (spF K mg 1 f_view_links) := ok_view_links_ fc k_view_links
  have bi_view_links := bi_view_links_ k_view_links
  obtain ⟨_, _, k_number_events, g_number_events⟩ := fc.d_number_events
  have ok_number_events : FnOk P w K mg base (L2.CX P w) 1 _ _ _ (spF K mg 1 f_number_events) := ok_number_events_ fc k_number_events
  have bi_number_events := bi_number_events_ k_number_events
  obtain ⟨_, _, k_find_missing, g_find_missing⟩ := fc.d_find_missing
  have ok_find_missing : FnOk P w K mg base (L2.CX P w) 3 _ _ _ (spF K mg 2 f_find_missing) := ok_find_missing_ fc k_find_missing
  have bi_find_missing := bi_find_missing_ k_find_missing
  refine def_ok Fd sc_growing_links fun cdv A outer s H vs E hr => ?_
  have tk := takes_of (X := cxOf (L2.CX P w) P w K mg base ["case", "links", "observer", "names", "view", "last", "event"] "growing_links" (defScope s_growing_links) f cdv A outer s H E) rfl rfl rfl rfl
  have ps := passes_of (X := cxOf (L2.CX P w) P w K mg base ["case", "links", "observer", "names", "view", "last", "event"] "growing_links" (defScope s_growing_links) f cdv A outer s H E) rfl
  exact (ss_cons (s_set 1 sc_growing_links.nd (c_call ok_view_links (Room.mono hr (by decide)) g_view_links k_view_links.kp bi_view_links tk (a_val (c_var 0) a_nil) (ln_val ln_nil)))
    (ss_cons (s_for ps rfl (i_enum rfl b_enumerate (a_val (c_var 0) a_nil)) (g_tup rfl rfl (gs_cons (g_name 2 sc_growing_links.nd) (gs_cons (g_tup rfl rfl (gs_cons (g_name 3 sc_growing_links.nd) (gs_cons (g_name 4 sc_growing_links.nd) gs_nil))) gs_nil)))
    (ss_one (s_if (xt_cmp (op_Ne (u64 hr)) ru_ne (c_var 4) (c_tup a_nil))
    (ss_cons (s_set 5 sc_growing_links.nd (x_ix (ix_any (u64 hr)) ru_ix (c_call ok_number_events (Room.mono hr (by decide)) g_number_events k_number_events.kp bi_number_events tk (a_val (c_var 4) a_nil) (ln_val ln_nil)) (c_neg c_int)))
    (ss_one (s_expr (c_mt rfl PySem.F.slot_list_extend ty_extend mt_extend rm_extend (c_var 1) (a_dat (c_lc rfl sc_growing_links.nd (i_any rfl (c_call ok_find_missing (Room.mono hr (by decide)) g_find_missing k_find_missing.kp bi_find_missing tk (a_val (c_var 0) (a_val (c_var 2) a_nil)) (ln_val (ln_val ln_nil)))) (ok_by (own := [("event", 6)]) (by rfl)) (by decide) (fun _ _ _ _ _ => (g_name 6 sc_growing_links.nd)) (fun _ _ _ _ _ => ts_nil) (fun _ _ _ _ _ => (c_tup (a_dat (c_var 5) (a_dat (c_var 6) a_nil))))) a_nil)))))
    ss_nil)))
    (ss_one (s_ret (c_var 1)))))
theorem bi_find_growing_ {f : Addr} {fd : FuncData} (F : FnP K "find_growing" s_find_growing f fd) : Binds K fd ["case"] [] := F.bindsN fun _ _ _ _ _ _ us hl => match us, hl with | [_], _ => rfl
theorem ok_find_growing_ (fc : Facts K mg) {f : Addr} {fd : FuncData} (Fd : FnP K "find_growing" s_find_growing f fd) : FnOk P w K mg base (L2.CX P w) 5 f fd ["case"] (spF K mg 1 f_find_growing) := by
  obtain ⟨_, _, k_arrange, g_arrange⟩ := fc.d_arrange
  have ok_arrange : FnOk P w K mg base (L2.CX P w) 2 _ _ _ (spF K mg 2 f_arrange) := ok_arrange_ fc k_arrange
  have bi_arrange := bi_arrange_ k_arrange
  obtain ⟨_, _, k_find_events, g_find_events⟩ := fc.d_find_events
  have ok_find_events : FnOk P w K mg base (L2.CX P w) 2 _ _ _ (spF K mg 1 f_find_events) := ok_find_events_ fc k_find_events
  have bi_find_events := bi_find_events_ k_find_events
  obtain ⟨_, _, k_growing_links, g_growing_links⟩ := fc.d_growing_links
  have ok_growing_links : FnOk P w K mg base (L2.CX P w) 4 _ _ _ (spF K mg 1 f_growing_links) := ok_growing_links_ fc k_growing_links
  have bi_growing_links := bi_growing_links_ k_growing_links
  refine def_ok Fd sc_find_growing fun cdv A outer s H vs E hr => ?_
  have tk := takes_of (X := cxOf (L2.CX P w) P w K mg base ["case"] "find_growing" (defScope s_find_growing) f cdv A outer s H E) rfl rfl rfl rfl
  have ps := passes_of (X := cxOf (L2.CX P w) P w K mg base ["case"] "find_growing" (defScope s_find_growing) f cdv A outer s H E) rfl
  exact (ss_one (s_ret (c_call ok_arrange (Room.mono hr (by decide)) g_arrange k_arrange.kp bi_arrange tk (a_dat (c_call ok_find_events (Room.mono hr (by decide)) g_find_events k_find_events.kp bi_find_events tk (a_val (c_var 0) a_nil) (ln_val ln_nil)) (a_dat (c_call ok_growing_links (Room.mono hr (by decide)) g_growing_links k_growing_links.kp bi_growing_links tk (a_val (c_var 0) a_nil) (ln_val ln_nil)) a_nil)) (ln_dat (ln_dat ln_nil)))))
theorem bi_growing_log_ {f : Addr} {fd : FuncData} (F : FnP K "growing_log" s_growing_log f fd) : Binds K fd ["case"] [] := F.bindsN fun _ _ _ _ _ _ us hl => match us, hl with | [_], _ => rfl
theorem ok_growing_log_ (fc : Facts K mg) {f : Addr} {fd : FuncData} (Fd : FnP K "growing_log" s_growing_log f fd) : FnOk P w K mg base (L2.CX P w) 6 f fd ["case"] (spF K mg 1 f_growing_log) := by
  obtain ⟨_, _, k_require_case, g_require_case⟩ := fc.d_require_case
  have ok_require_case : FnOk P w K mg base (L2.CX P w) 5 _ _ _ (spF K mg 1 f_require_case) := ok_require_case_ fc k_require_case
  have bi_require_case := bi_require_case_ k_require_case
  obtain ⟨_, _, k_find_growing, g_find_growing⟩ := fc.d_find_growing
  have ok_find_growing : FnOk P w K mg base (L2.CX P w) 5 _ _ _ (spF K mg 1 f_find_growing) := ok_find_growing_ fc k_find_growing
  have bi_find_growing := bi_find_growing_ k_find_growing
  refine def_ok Fd sc_growing_log fun cdv A outer s H vs E hr => ?_
  have tk := takes_of (X := cxOf (L2.CX P w) P w K mg base ["case"] "growing_log" (defScope s_growing_log) f cdv A outer s H E) rfl rfl rfl rfl
  have ps := passes_of (X := cxOf (L2.CX P w) P w K mg base ["case"] "growing_log" (defScope s_growing_log) f cdv A outer s H E) rfl
  exact (ss_cons (s_expr (c_call ok_require_case (Room.mono hr (by decide)) g_require_case k_require_case.kp bi_require_case tk (a_val (c_var 0) a_nil) (ln_val ln_nil)))
    (ss_one (s_ret (c_call ok_find_growing (Room.mono hr (by decide)) g_find_growing k_find_growing.kp bi_find_growing tk (a_val (c_var 0) a_nil) (ln_val ln_nil)))))
theorem bi_steps_from_ {f : Addr} {fd : FuncData} (F : FnP K "steps_from" s_steps_from f fd) : Binds K fd ["case", "event"] [] := F.bindsN fun _ _ _ _ _ _ us hl => match us, hl with | [_, _], _ => rfl
theorem ok_steps_from_ (fc : Facts K mg) {f : Addr} {fd : FuncData} (Fd : FnP K "steps_from" s_steps_from f fd) : FnOk P w K mg base (L2.CX P w) 4 f fd ["case", "event"] (spF K mg 2 f_steps_from) := by
  have b_enumerate := fc.b_enumerate
  have b_sorted := fc.b_sorted
  obtain ⟨_, _, k_number_events, g_number_events⟩ := fc.d_number_events
  have ok_number_events : FnOk P w K mg base (L2.CX P w) 1 _ _ _ (spF K mg 1 f_number_events) := ok_number_events_ fc k_number_events
  have bi_number_events := bi_number_events_ k_number_events
  obtain ⟨_, _, k_find_missing, g_find_missing⟩ := fc.d_find_missing
  have ok_find_missing : FnOk P w K mg base (L2.CX P w) 3 _ _ _ (spF K mg 2 f_find_missing) := ok_find_missing_ fc k_find_missing
  have bi_find_missing := bi_find_missing_ k_find_missing
  refine def_ok Fd sc_steps_from fun cdv A outer s H vs E hr => ?_
  have tk := takes_of (X := cxOf (L2.CX P w) P w K mg base ["case", "event", "found", "observer", "seen", "names", "view", "later", "other"] "steps_from" (defScope s_steps_from) f cdv A outer s H E) rfl rfl rfl rfl
  have ps := passes_of (X := cxOf (L2.CX P w) P w K mg base ["case", "event", "found", "observer", "seen", "names", "view", "later", "other"] "steps_from" (defScope s_steps_from) f cdv A outer s H E) rfl
  exact (ss_cons (s_set 2 sc_steps_from.nd (c_lst a_nil))
    (ss_cons (s_for ps rfl (i_enum rfl b_enumerate (a_val (c_var 0) a_nil)) (g_tup rfl rfl (gs_cons (g_name 3 sc_steps_from.nd) (gs_cons (g_tup rfl rfl (gs_cons (g_name 5 sc_steps_from.nd) (gs_cons (g_name 6 sc_steps_from.nd) gs_nil))) gs_nil)))
    (ss_cons (s_set 4 sc_steps_from.nd (c_call ok_number_events (Room.mono hr (by decide)) g_number_events k_number_events.kp bi_number_events tk (a_val (c_var 6) a_nil) (ln_val ln_nil)))
    (ss_one (s_if (xt_cmp (op_In (u64 hr)) ru_in (c_var 1) (c_var 4))
    (ss_cons (s_set 7 sc_steps_from.nd (x_bin op_Add ru_add (c_slice rfl (c_var 4) (o_pt (x_bin op_Add ru_add (c_mr rfl PySem.F.slot_list_index ty_index (mt_index (u100 hr)) (c_var 4) (a_val (c_var 1) a_nil)) c_int)) o_no) (c_call ok_find_missing (Room.mono hr (by decide)) g_find_missing k_find_missing.kp bi_find_missing tk (a_val (c_var 0) (a_val (c_var 3) a_nil)) (ln_val (ln_val ln_nil)))))
    (ss_one (s_expr (c_mt rfl PySem.F.slot_list_extend ty_extend mt_extend rm_extend (c_var 2) (a_dat (c_lc rfl sc_steps_from.nd (i_any rfl (c_var 7)) (ok_by (own := [("other", 8)]) (by rfl)) (by decide) (fun _ _ _ _ _ => (g_name 8 sc_steps_from.nd)) (fun _ _ _ _ _ => ts_nil) (fun _ _ _ _ _ => (c_tup (a_dat (c_var 3) (a_dat (c_var 8) a_nil))))) a_nil)))))
    ss_nil))))
    (ss_one (s_ret (x_callB (call_srt (u100 hr)) ru_sorted b_sorted bt_sorted (a_val (c_var 2) a_nil))))))
theorem bi_is_step_ {f : Addr} {fd : FuncData} (F : FnP K "is_step" s_is_step f fd) : Binds K fd ["value"] [] := F.bindsN fun _ _ _ _ _ _ us hl => match us, hl with | [_], _ => rfl
theorem ok_is_step_ (fc : Facts K mg) {f : Addr} {fd : FuncData} (Fd : FnP K "is_step" s_is_step f fd) : FnOk P w K mg base (L2.CX P w) 3 f fd ["value"] (spF K mg 1 f_is_step) := by
  have b_isinstance := fc.b_isinstance
  have b_len := fc.b_len
  have b_str := fc.b_str
  have b_tuple := fc.b_tuple
  obtain ⟨_, _, k_is_between, g_is_between⟩ := fc.d_is_between
  have ok_is_between : FnOk P w K mg base (L2.CX P w) 2 _ _ _ (spF K mg 3 f_is_between) := ok_is_between_ fc k_is_between
  have bi_is_between := bi_is_between_ k_is_between
  refine def_ok Fd sc_is_step fun cdv A outer s H vs E hr => ?_
  have tk := takes_of (X := cxOf (L2.CX P w) P w K mg base ["value"] "is_step" (defScope s_is_step) f cdv A outer s H E) rfl rfl rfl rfl
  have ps := passes_of (X := cxOf (L2.CX P w) P w K mg base ["value"] "is_step" (defScope s_is_step) f cdv A outer s H E) rfl
  exact (ss_cons (s_if (PW.pt (w_or (t_not (t_val (c_isa isa_tuple b_isinstance b_tuple bt_tuple (c_var 0)))) (w_or (xt_cmp (op_Ne (u64 hr)) ru_ne (x_callB call_Len ru_len b_len bt_len (a_val (c_var 0) a_nil)) c_int) (w_or1 (t_not (t_val (c_isa isa_str b_isinstance b_str bt_str (x_ix (ix_any (u64 hr)) ru_ix (c_var 0) c_int))))))))
    (ss_one (s_ret c_bool))
    ss_nil)
    (ss_one (s_ret (v_and (c_call ok_is_between (Room.mono hr (by decide)) g_is_between k_is_between.kp bi_is_between tk (a_dat (x_ix (ix_any (u64 hr)) ru_ix (c_var 0) c_int) (a_dat c_int (a_dat c_int a_nil))) (ln_dat (ln_dat (ln_dat ln_nil)))) (v_one (c_call ok_is_between (Room.mono hr (by decide)) g_is_between k_is_between.kp bi_is_between tk (a_dat (x_ix (ix_any (u64 hr)) ru_ix (c_var 0) c_int) (a_dat c_int (a_dat c_int a_nil))) (ln_dat (ln_dat (ln_dat ln_nil)))))))))
theorem bi_is_growing_ring_ {f : Addr} {fd : FuncData} (F : FnP K "is_growing_ring" s_is_growing_ring f fd) : Binds K fd ["case", "value"] [] := F.bindsN fun _ _ _ _ _ _ us hl => match us, hl with | [_, _], _ => rfl
theorem ok_is_growing_ring_ (fc : Facts K mg) {f : Addr} {fd : FuncData} (Fd : FnP K "is_growing_ring" s_is_growing_ring f fd) : FnOk P w K mg base (L2.CX P w) 6 f fd ["case", "value"] (spF K mg 2 f_is_growing_ring) := by
  have b_all := fc.b_all
  have b_isinstance := fc.b_isinstance
  have b_len := fc.b_len
  have b_list := fc.b_list
  have b_set := fc.b_set
  have b_zip := fc.b_zip
  obtain ⟨_, _, k_require_case, g_require_case⟩ := fc.d_require_case
  have ok_require_case : FnOk P w K mg base (L2.CX P w) 5 _ _ _ (spF K mg 1 f_require_case) := ok_require_case_ fc k_require_case
  have bi_require_case := bi_require_case_ k_require_case
  obtain ⟨_, _, k_steps_from, g_steps_from⟩ := fc.d_steps_from
  have ok_steps_from : FnOk P w K mg base (L2.CX P w) 4 _ _ _ (spF K mg 2 f_steps_from) := ok_steps_from_ fc k_steps_from
  have bi_steps_from := bi_steps_from_ k_steps_from
  obtain ⟨_, _, k_is_step, g_is_step⟩ := fc.d_is_step
  have ok_is_step : FnOk P w K mg base (L2.CX P w) 3 _ _ _ (spF K mg 1 f_is_step) := ok_is_step_ fc k_is_step
  have bi_is_step := bi_is_step_ k_is_step
  obtain ⟨_, _, k_find_events, g_find_events⟩ := fc.d_find_events
  have ok_find_events : FnOk P w K mg base (L2.CX P w) 2 _ _ _ (spF K mg 1 f_find_events) := ok_find_events_ fc k_find_events
  have bi_find_events := bi_find_events_ k_find_events
  refine def_ok Fd sc_is_growing_ring fun cdv A outer s H vs E hr => ?_
  have tk := takes_of (X := cxOf (L2.CX P w) P w K mg base ["case", "value", "path", "following", "step", "other", "event"] "is_growing_ring" (defScope s_is_growing_ring) f cdv A outer s H E) rfl rfl rfl rfl
  have ps := passes_of (X := cxOf (L2.CX P w) P w K mg base ["case", "value", "path", "following", "step", "other", "event"] "is_growing_ring" (defScope s_is_growing_ring) f cdv A outer s H E) rfl
  exact (ss_cons (s_expr (c_call ok_require_case (Room.mono hr (by decide)) g_require_case k_require_case.kp bi_require_case tk (a_val (c_var 0) a_nil) (ln_val ln_nil)))
    (ss_cons (s_if (PW.pt (w_or (t_not (t_val (c_isa isa_list b_isinstance b_list bt_list (c_var 1)))) (w_or (xt_cmp op_lt ru_lt (x_callB call_Len ru_len b_len bt_len (a_val (c_var 1) a_nil)) c_int) (w_or1 (t_not (t_val (x_callB (call_All rfl) ru_all b_all bt_all (a_val (c_lc rfl sc_is_growing_ring.nd (i_any rfl (c_var 1)) (ok_by (own := [("step", 4)]) (by rfl)) (by decide) (fun _ _ _ _ _ => (g_name 4 sc_is_growing_ring.nd)) (fun _ _ _ _ _ => ts_nil) (fun _ _ _ _ _ => (c_call ok_is_step (Room.mono hr (by decide)) g_is_step k_is_step.kp bi_is_step Pv.takes0 (a_val (c_var 4) a_nil) (ln_val ln_nil)))) a_nil))))))))
    (ss_one (s_ret c_bool))
    ss_nil)
    (ss_cons (s_setLc 2 rfl sc_is_growing_ring.nd rfl rfl rfl (i_any rfl (c_var 1)) (ok_by (own := [("step", 4)]) (by rfl)) (by decide) (fun _ _ _ _ _ => (g_name 4 sc_is_growing_ring.nd)) (fun _ _ _ _ _ => ts_nil) (fun _ _ _ _ _ => (c_slice rfl (c_var 4) o_no (o_pt c_int))))
    (ss_cons (s_if (PW.pt (w_or (xt_cmp op_lt ru_lt (c_lset rfl rfl (u100 hr) b_len b_set (c_var 2)) (x_callB call_Len ru_len b_len bt_len (a_val (c_var 2) a_nil))) (w_or1 (t_not (t_val (x_callB (call_All rfl) ru_all b_all bt_all (a_val (c_lc rfl sc_is_growing_ring.nd (i_any rfl (c_var 2)) (ok_by (own := [("event", 6)]) (by rfl)) (by decide) (fun _ _ _ _ _ => (g_name 6 sc_is_growing_ring.nd)) (fun _ _ _ _ _ => ts_nil) (fun _ _ _ _ _ => (x_cmp (op_In (u64 hr)) ru_in (c_var 6) (c_call ok_find_events (Room.mono hr (by decide)) g_find_events k_find_events.kp bi_find_events Pv.takes0 (a_val (c_var 0) a_nil) (ln_val ln_nil))))) a_nil)))))))
    (ss_one (s_ret c_bool))
    ss_nil)
    (ss_cons (s_set 3 sc_is_growing_ring.nd (x_bin op_Add ru_add (c_slice rfl (c_var 2) (o_pt c_int) o_no) (c_slice rfl (c_var 2) o_no (o_pt c_int))))
    (ss_one (s_ret (x_callB (call_All rfl) ru_all b_all bt_all (a_val (c_lc rfl sc_is_growing_ring.nd (i_zip rfl b_zip (a_val (c_var 1) (a_val (c_var 3) a_nil))) (ok_by (own := [("step", 4), ("other", 5)]) (by rfl)) (by decide) (fun _ _ _ _ _ => (g_tup rfl rfl (gs_cons (g_name 4 sc_is_growing_ring.nd) (gs_cons (g_name 5 sc_is_growing_ring.nd) gs_nil)))) (fun _ _ _ _ _ => ts_nil) (fun _ _ _ _ _ => (x_cmp (op_In (u64 hr)) ru_in (c_tup (a_dat (x_ix (ix_any (u64 hr)) ru_ix (c_var 4) c_int) (a_dat (c_var 5) a_nil))) (c_call ok_steps_from (Room.mono hr (by decide)) g_steps_from k_steps_from.kp bi_steps_from Pv.takes0 (a_val (c_var 0) (a_dat (c_slice rfl (c_var 4) o_no (o_pt c_int)) a_nil)) (ln_val (ln_dat ln_nil)))))) a_nil)))))))))
theorem bi_find_way_back_ {f : Addr} {fd : FuncData} (F : FnP K "find_way_back" s_find_way_back f fd) : Binds K fd ["case", "first"] [] := F.bindsN fun _ _ _ _ _ _ us hl => match us, hl with | [_, _], _ => rfl
theorem ok_find_way_back_ (fc : Facts K mg) {f : Addr} {fd : FuncData} (Fd : FnP K "find_way_back" s_find_way_back f fd) : FnOk P w K mg base (L2.CX P w) 5 f fd ["case", "first"] (spF K mg 2 f_find_way_back) := by
  obtain ⟨_, _, k_steps_from, g_steps_from⟩ := fc.d_steps_from
  have ok_steps_from : FnOk P w K mg base (L2.CX P w) 4 _ _ _ (spF K mg 2 f_steps_from) := ok_steps_from_ fc k_steps_from
  have bi_steps_from := bi_steps_from_ k_steps_from
  refine def_ok Fd sc_find_way_back fun cdv A outer s H vs E hr => ?_
  have tk := takes_of (X := cxOf (L2.CX P w) P w K mg base ["case", "first", "ways", "waiting", "event", "observer", "other", "way"] "find_way_back" (defScope s_find_way_back) f cdv A outer s H E) rfl rfl rfl rfl
  have ps := passes_of (X := cxOf (L2.CX P w) P w K mg base ["case", "first", "ways", "waiting", "event", "observer", "other", "way"] "find_way_back" (defScope s_find_way_back) f cdv A outer s H E) rfl
  exact (ss_cons (s_set 2 sc_find_way_back.nd (c_d1t (u100 hr) (c_var 1) (c_lst a_nil)))
    (ss_cons (s_set 3 sc_find_way_back.nd (c_lst (a_dat (c_var 1) a_nil)))
    (ss_cons (s_while 5000 ps (xt_cmp (op_Ne (u64 hr)) ru_ne (c_var 3) (c_lst a_nil))
    (ss_cons (s_set 4 sc_find_way_back.nd (c_mt rfl PySem.F.slot_list_pop ty_pop mt_Pop rm_pop (c_var 3) (a_dat c_int a_nil)))
    (ss_one (s_for ps rfl (i_any rfl (c_call ok_steps_from (Room.mono hr (by decide)) g_steps_from k_steps_from.kp bi_steps_from tk (a_val (c_var 0) (a_val (c_var 4) a_nil)) (ln_val (ln_val ln_nil)))) (g_tup rfl rfl (gs_cons (g_name 5 sc_find_way_back.nd) (gs_cons (g_name 6 sc_find_way_back.nd) gs_nil)))
    (ss_cons (s_set 7 sc_find_way_back.nd (x_bin op_Add ru_add (x_ix (ix_any (u64 hr)) ru_ix (c_var 2) (c_var 4)) (c_lst (a_dat (x_bin op_Add ru_add (c_var 4) (c_tup (a_dat (c_var 5) a_nil))) a_nil))))
    (ss_cons (s_if (xt_cmp (op_Eq (u64 hr)) ru_eq (c_var 6) (c_var 1))
    (ss_one (s_ret (c_var 7)))
    ss_nil)
    (ss_one (s_if (xt_cmp (op_NotIn (u64 hr)) ru_notin (c_var 6) (c_var 2))
    (ss_cons (s_asg (c_var 7) (g_put (u100 hr) (c_var 2) (c_var 6)))
    (ss_one (s_expr (c_mt rfl PySem.F.slot_list_append ty_append mt_append rm_append (c_var 3) (a_dat (c_var 6) a_nil)))))
    ss_nil))))))))
    (ss_one (s_ret c_none)))))
theorem bi_find_growing_ring_ {f : Addr} {fd : FuncData} (F : FnP K "find_growing_ring" s_find_growing_ring f fd) : Binds K fd ["case"] [] := F.bindsN fun _ _ _ _ _ _ us hl => match us, hl with | [_], _ => rfl
theorem ok_find_growing_ring_ (fc : Facts K mg) {f : Addr} {fd : FuncData} (Fd : FnP K "find_growing_ring" s_find_growing_ring f fd) : FnOk P w K mg base (L2.CX P w) 6 f fd ["case"] (spF K mg 1 f_find_growing_ring) := by
  have b_len := fc.b_len
  obtain ⟨_, _, k_find_events, g_find_events⟩ := fc.d_find_events
  have ok_find_events : FnOk P w K mg base (L2.CX P w) 2 _ _ _ (spF K mg 1 f_find_events) := ok_find_events_ fc k_find_events
  have bi_find_events := bi_find_events_ k_find_events
  obtain ⟨_, _, k_find_way_back, g_find_way_back⟩ := fc.d_find_way_back
  have ok_find_way_back : FnOk P w K mg base (L2.CX P w) 5 _ _ _ (spF K mg 2 f_find_way_back) := ok_find_way_back_ fc k_find_way_back
  have bi_find_way_back := bi_find_way_back_ k_find_way_back
  refine def_ok Fd sc_find_growing_ring fun cdv A outer s H vs E hr => ?_
  have tk := takes_of (X := cxOf (L2.CX P w) P w K mg base ["case", "best", "event", "ring"] "find_growing_ring" (defScope s_find_growing_ring) f cdv A outer s H E) rfl rfl rfl rfl
  have ps := passes_of (X := cxOf (L2.CX P w) P w K mg base ["case", "best", "event", "ring"] "find_growing_ring" (defScope s_find_growing_ring) f cdv A outer s H E) rfl
  exact (ss_cons (s_set 1 sc_find_growing_ring.nd c_none)
    (ss_cons (s_for ps rfl (i_any rfl (c_call ok_find_events (Room.mono hr (by decide)) g_find_events k_find_events.kp bi_find_events tk (a_val (c_var 0) a_nil) (ln_val ln_nil))) (g_name 2 sc_find_growing_ring.nd)
    (ss_cons (s_set 3 sc_find_growing_ring.nd (c_call ok_find_way_back (Room.mono hr (by decide)) g_find_way_back k_find_way_back.kp bi_find_way_back tk (a_val (c_var 0) (a_val (c_var 2) a_nil)) (ln_val (ln_val ln_nil))))
    (ss_one (s_if (PW.pt (w_and (xt_cmp op_IsNot ru_isnot (c_var 3) c_none) (w_and1 (PW.pt (w_or (xt_cmp op_Is ru_is (c_var 1) c_none) (w_or1 (xt_cmp op_lt ru_lt (x_callB call_Len ru_len b_len bt_len (a_val (c_var 3) a_nil)) (x_callB call_Len ru_len b_len bt_len (a_val (c_var 1) a_nil)))))))))
    (ss_one (s_set 1 sc_find_growing_ring.nd (c_var 3)))
    ss_nil))))
    (ss_one (s_ret (c_var 1)))))
theorem bi_growing_ring_ {f : Addr} {fd : FuncData} (F : FnP K "growing_ring" s_growing_ring f fd) : Binds K fd ["case"] [] := F.bindsN fun _ _ _ _ _ _ us hl => match us, hl with | [_], _ => rfl
theorem ok_growing_ring_ (fc : Facts K mg) {f : Addr} {fd : FuncData} (Fd : FnP K "growing_ring" s_growing_ring f fd) : FnOk P w K mg base (L2.CX P w) 7 f fd ["case"] (spF K mg 1 f_growing_ring) := by
  obtain ⟨_, _, k_require_case, g_require_case⟩ := fc.d_require_case
  have ok_require_case : FnOk P w K mg base (L2.CX P w) 5 _ _ _ (spF K mg 1 f_require_case) := ok_require_case_ fc k_require_case
  have bi_require_case := bi_require_case_ k_require_case
  obtain ⟨_, _, k_find_growing_ring, g_find_growing_ring⟩ := fc.d_find_growing_ring
  have ok_find_growing_ring : FnOk P w K mg base (L2.CX P w) 6 _ _ _ (spF K mg 1 f_find_growing_ring) := ok_find_growing_ring_ fc k_find_growing_ring
  have bi_find_growing_ring := bi_find_growing_ring_ k_find_growing_ring
  refine def_ok Fd sc_growing_ring fun cdv A outer s H vs E hr => ?_
  have tk := takes_of (X := cxOf (L2.CX P w) P w K mg base ["case"] "growing_ring" (defScope s_growing_ring) f cdv A outer s H E) rfl rfl rfl rfl
  have ps := passes_of (X := cxOf (L2.CX P w) P w K mg base ["case"] "growing_ring" (defScope s_growing_ring) f cdv A outer s H E) rfl
  exact (ss_cons (s_expr (c_call ok_require_case (Room.mono hr (by decide)) g_require_case k_require_case.kp bi_require_case tk (a_val (c_var 0) a_nil) (ln_val ln_nil)))
    (ss_one (s_ret (c_call ok_find_growing_ring (Room.mono hr (by decide)) g_find_growing_ring k_find_growing_ring.kp bi_find_growing_ring tk (a_val (c_var 0) a_nil) (ln_val ln_nil)))))
theorem bi_law_ {f : Addr} {fd : FuncData} (F : FnP K "law" s_law f fd) : Binds K fd ["script"] [] := F.bindsN fun _ _ _ _ _ _ us hl => match us, hl with | [_], _ => rfl
theorem ok_law_ (fc : Facts K mg) {f : Addr} {fd : FuncData} (Fd : FnP K "law" s_law f fd) : FnOk P w K mg base (L2.CX P w) 8 f fd ["script"] (spF K mg 1 f_law) := by
  have b_len := fc.b_len
  have b_list := fc.b_list
  have b_range := fc.b_range
  obtain ⟨_, _, k__law_open, g__law_open⟩ := fc.d__law_open
  have ok__law_open : FnOk P w K mg base (L2.CX P w) 1 _ _ _ (spF K mg 1 f__law_open) := ok__law_open_ fc k__law_open
  have bi__law_open := bi__law_open_ k__law_open
  obtain ⟨_, _, k__law_one, g__law_one⟩ := fc.d__law_one
  have ok__law_one : FnOk P w K mg base (L2.CX P w) 3 _ _ _ (spF K mg 2 f__law_one) := ok__law_one_ fc k__law_one
  have bi__law_one := bi__law_one_ k__law_one
  obtain ⟨_, _, k_is_loose_ring, g_is_loose_ring⟩ := fc.d_is_loose_ring
  have ok_is_loose_ring : FnOk P w K mg base (L2.CX P w) 5 _ _ _ (spF K mg 2 f_is_loose_ring) := ok_is_loose_ring_ fc k_is_loose_ring
  have bi_is_loose_ring := bi_is_loose_ring_ k_is_loose_ring
  obtain ⟨_, _, k_growing_log, g_growing_log⟩ := fc.d_growing_log
  have ok_growing_log : FnOk P w K mg base (L2.CX P w) 6 _ _ _ (spF K mg 1 f_growing_log) := ok_growing_log_ fc k_growing_log
  have bi_growing_log := bi_growing_log_ k_growing_log
  obtain ⟨_, _, k_is_growing_ring, g_is_growing_ring⟩ := fc.d_is_growing_ring
  have ok_is_growing_ring : FnOk P w K mg base (L2.CX P w) 6 _ _ _ (spF K mg 2 f_is_growing_ring) := ok_is_growing_ring_ fc k_is_growing_ring
  have bi_is_growing_ring := bi_is_growing_ring_ k_is_growing_ring
  obtain ⟨_, _, k_growing_ring, g_growing_ring⟩ := fc.d_growing_ring
  have ok_growing_ring : FnOk P w K mg base (L2.CX P w) 7 _ _ _ (spF K mg 1 f_growing_ring) := ok_growing_ring_ fc k_growing_ring
  have bi_growing_ring := bi_growing_ring_ k_growing_ring
  refine def_ok Fd sc_law fun cdv A outer s H vs E hr => ?_
  have tk := takes_of (X := cxOf (L2.CX P w) P w K mg base ["script", "pen", "both", "full", "number", "small", "right", "at", "one", "two", "odd", "family", "ring"] "law" (defScope s_law) f cdv A outer s H E) rfl rfl rfl rfl
  have ps := passes_of (X := cxOf (L2.CX P w) P w K mg base ["script", "pen", "both", "full", "number", "small", "right", "at", "one", "two", "odd", "family", "ring"] "law" (defScope s_law) f cdv A outer s H E) rfl
  exact (ss_cons (s_set 1 sc_law.nd (c_call ok__law_open (Room.mono hr (by decide)) g__law_open k__law_open.kp bi__law_open tk (a_val (c_var 0) a_nil) (ln_val ln_nil)))
    (ss_cons (s_asg (c_call ok__law_one (Room.mono hr (by decide)) g__law_one k__law_one.kp bi__law_one tk (a_val (c_var 1) (a_dat (c_lst (a_dat (c_tup (a_dat c_str (a_dat c_str a_nil))) (a_dat (c_tup (a_dat c_str (a_dat c_str a_nil))) (a_dat (c_tup (a_dat c_str (a_dat c_str a_nil))) a_nil)))) a_nil)) (ln_val (ln_dat ln_nil))) (g_tup rfl rfl (gs_cons (g_name 8 sc_law.nd) (gs_cons (g_name 9 sc_law.nd) gs_nil))))
    (ss_cons (s_set 2 sc_law.nd (c_tup (a_dat (c_var 8) (a_dat (c_var 9) a_nil))))
    (ss_cons (s_set 3 sc_law.nd (c_tup (a_dat (c_tup (a_dat (c_var 2) (a_dat (x_bin op_Mul ru_mul (c_tup (a_dat (c_var 8) a_nil)) c_int) a_nil))) (a_dat (c_tup (a_dat (c_var 2) (a_dat (c_tup (a_dat (c_var 9) a_nil)) a_nil))) a_nil))))
    (ss_cons (s_if (PW.pt (w_or (xt_cmp op_IsNot ru_isnot (c_call ok_growing_log (Room.mono hr (by decide)) g_growing_log k_growing_log.kp bi_growing_log tk (a_val (c_var 3) a_nil) (ln_val ln_nil)) c_none) (w_or1 (xt_cmp (op_Ne (u64 hr)) ru_ne (x_callB call_Len ru_len b_len bt_len (a_val (c_call ok_growing_ring (Room.mono hr (by decide)) g_growing_ring k_growing_ring.kp bi_growing_ring tk (a_val (c_var 3) a_nil) (ln_val ln_nil)) a_nil)) c_int))))
    (ss_one (s_ret c_bool))
    ss_nil)
    (ss_cons (s_for ps rfl (i_rng2 b_range (a_val c_int (a_val c_int a_nil))) (g_name 4 sc_law.nd)
    (ss_one (s_if (xt_cmp op_IsNot ru_isnot (c_call ok_is_growing_ring (Room.mono hr (by decide)) g_is_growing_ring k_is_growing_ring.kp bi_is_growing_ring tk (a_val (c_var 3) (a_dat (c_lst (a_dat (c_tup (a_dat (c_var 8) (a_dat (c_var 4) (a_dat c_int a_nil)))) (a_dat (c_tup (a_dat (c_var 9) (a_dat c_int (a_dat c_int a_nil)))) a_nil))) a_nil)) (ln_val (ln_dat ln_nil))) c_bool)
    (ss_one (s_ret c_bool))
    ss_nil)))
    (ss_cons (s_set 5 sc_law.nd (c_tup (a_dat (c_tup (a_dat (c_var 2) (a_dat (c_tup (a_dat (c_var 8) a_nil)) a_nil))) (a_dat (c_tup (a_dat (c_var 2) (a_dat (c_tup (a_dat (c_var 9) a_nil)) a_nil))) a_nil))))
    (ss_cons (s_set 6 sc_law.nd (c_lst (a_dat (c_tup (a_dat (c_var 8) (a_dat c_int (a_dat c_int a_nil)))) (a_dat (c_tup (a_dat (c_var 9) (a_dat c_int (a_dat c_int a_nil)))) a_nil))))
    (ss_cons (s_for ps rfl (i_rng1 b_range (a_val c_int a_nil)) (g_name 7 sc_law.nd)
    (ss_one (s_for ps rfl (i_any rfl (c_tup (a_dat (x_bin op_Add ru_add (x_ix (ix_any (u64 hr)) ru_ix (c_var 6) (c_var 7)) (c_tup (a_dat c_int a_nil))) (a_dat (c_slice rfl (x_ix (ix_any (u64 hr)) ru_ix (c_var 6) (c_var 7)) o_no (o_pt c_int)) (a_dat (x_bin op_Add ru_add (x_ix (ix_any (u64 hr)) ru_ix (c_var 6) (c_var 7)) (x_ix (ix_any (u64 hr)) ru_ix (c_var 6) (c_var 7))) (a_dat (c_tup (a_dat (x_ix (ix_any (u64 hr)) ru_ix (c_var 6) (c_var 7)) a_nil)) (a_dat (x_callTy call_list_of ru_list b_list bt_list (a_val (x_ix (ix_any (u64 hr)) ru_ix (c_var 6) (c_var 7)) a_nil)) a_nil))))))) (g_name 10 sc_law.nd)
    (ss_one (s_if (xt_cmp op_IsNot ru_isnot (c_call ok_is_growing_ring (Room.mono hr (by decide)) g_is_growing_ring k_is_growing_ring.kp bi_is_growing_ring tk (a_val (c_var 5) (a_dat (x_bin op_Add ru_add (x_bin op_Add ru_add (c_slice rfl (c_var 6) o_no (o_pt (c_var 7))) (c_lst (a_dat (c_var 10) a_nil))) (c_slice rfl (c_var 6) (o_pt (x_bin op_Add ru_add (c_var 7) c_int)) o_no)) a_nil)) (ln_val (ln_dat ln_nil))) c_bool)
    (ss_one (s_ret c_bool))
    ss_nil)))))
    (ss_cons (s_if (PW.pt (w_or (xt_cmp op_IsNot ru_isnot (c_call ok_is_growing_ring (Room.mono hr (by decide)) g_is_growing_ring k_is_growing_ring.kp bi_is_growing_ring tk (a_val (c_var 5) (a_val (c_var 6) a_nil)) (ln_val (ln_val ln_nil))) c_bool) (w_or1 (xt_cmp op_IsNot ru_isnot (c_call ok_is_growing_ring (Room.mono hr (by decide)) g_is_growing_ring k_is_growing_ring.kp bi_is_growing_ring tk (a_val (c_var 3) (a_dat (c_lst (a_dat (c_tup (a_dat (c_var 8) (a_dat c_int (a_dat c_int a_nil)))) (a_dat (c_tup (a_dat (c_var 9) (a_dat c_int (a_dat c_int a_nil)))) a_nil))) a_nil)) (ln_val (ln_dat ln_nil))) c_bool))))
    (ss_one (s_ret c_bool))
    ss_nil)
    (ss_cons (s_par 11 12 rfl sc_law.nd (a_dat (c_tup (a_dat (c_var 2) (a_dat (c_var 2) a_nil))) (a_dat (c_tup (a_dat (c_tup (a_dat (c_var 8) (a_dat c_int a_nil))) (a_dat (c_tup (a_dat (c_var 9) (a_dat c_int a_nil))) a_nil))) a_nil)))
    (ss_cons (s_for ps rfl (i_rng1 b_range (a_val c_int a_nil)) (g_name 7 sc_law.nd)
    (ss_one (s_for ps rfl (i_any rfl (c_tup (a_dat (x_bin op_Add ru_add (x_ix (ix_any (u64 hr)) ru_ix (c_var 12) (c_var 7)) (c_tup (a_dat c_int a_nil))) (a_dat (c_slice rfl (x_ix (ix_any (u64 hr)) ru_ix (c_var 12) (c_var 7)) o_no (o_pt c_int)) (a_dat (x_bin op_Add ru_add (x_ix (ix_any (u64 hr)) ru_ix (c_var 12) (c_var 7)) (x_ix (ix_any (u64 hr)) ru_ix (c_var 12) (c_var 7))) (a_dat (x_callTy call_list_of ru_list b_list bt_list (a_val (x_ix (ix_any (u64 hr)) ru_ix (c_var 12) (c_var 7)) a_nil)) a_nil)))))) (g_name 10 sc_law.nd)
    (ss_one (s_if (xt_cmp op_IsNot ru_isnot (c_call ok_is_loose_ring (Room.mono hr (by decide)) g_is_loose_ring k_is_loose_ring.kp bi_is_loose_ring tk (a_val (c_var 11) (a_dat (x_bin op_Add ru_add (x_bin op_Add ru_add (c_slice rfl (c_var 12) o_no (o_pt (c_var 7))) (c_tup (a_dat (c_var 10) a_nil))) (c_slice rfl (c_var 12) (o_pt (x_bin op_Add ru_add (c_var 7) c_int)) o_no)) a_nil)) (ln_val (ln_dat ln_nil))) c_bool)
    (ss_one (s_ret c_bool))
    ss_nil)))))
    (ss_one (s_ret (x_cmp op_Is ru_is (c_call ok_is_loose_ring (Room.mono hr (by decide)) g_is_loose_ring k_is_loose_ring.kp bi_is_loose_ring tk (a_val (c_var 11) (a_val (c_var 12) a_nil)) (ln_val (ln_val ln_nil))) c_bool)))))))))))))))
end
end N92
set_option Elab.async false
set_option linter.all false
set_option maxRecDepth 100000
set_option maxHeartbeats 0
namespace N92
open PySem PySem.Spec PyProof.Rows L2 Pv
def dd__law_open : He.DefD := ⟨("_law_open", none), "_law_open", "_law_open", defArgs s__law_open, defBody s__law_open, defScope s__law_open, [], []⟩
def dd__law_spread : He.DefD := ⟨("_law_spread", none), "_law_spread", "_law_spread", defArgs s__law_spread, defBody s__law_spread, defScope s__law_spread, [], []⟩
def dd__law_take : He.DefD := ⟨("_law_take", none), "_law_take", "_law_take", defArgs s__law_take, defBody s__law_take, defScope s__law_take, [], []⟩
def dd__law_one : He.DefD := ⟨("_law_one", none), "_law_one", "_law_one", defArgs s__law_one, defBody s__law_one, defScope s__law_one, [], []⟩
def dd_is_name : He.DefD := ⟨("is_name", none), "is_name", "is_name", defArgs s_is_name, defBody s_is_name, defScope s_is_name, [], []⟩
def dd_is_name_set : He.DefD := ⟨("is_name_set", none), "is_name_set", "is_name_set", defArgs s_is_name_set, defBody s_is_name_set, defScope s_is_name_set, [], []⟩
def dd_names_of : He.DefD := ⟨("names_of", none), "names_of", "names_of", defArgs s_names_of, defBody s_names_of, defScope s_names_of, [], []⟩
def dd_is_family : He.DefD := ⟨("is_family", none), "is_family", "is_family", defArgs s_is_family, defBody s_is_family, defScope s_is_family, [], []⟩
def dd_require_family : He.DefD := ⟨("require_family", none), "require_family", "require_family", defArgs s_require_family, defBody s_require_family, defScope s_require_family, [], []⟩
def dd_seen_names : He.DefD := ⟨("seen_names", none), "seen_names", "seen_names", defArgs s_seen_names, defBody s_seen_names, defScope s_seen_names, [], []⟩
def dd_is_integer : He.DefD := ⟨("is_integer", none), "is_integer", "is_integer", defArgs s_is_integer, defBody s_is_integer, defScope s_is_integer, [], []⟩
def dd_is_between : He.DefD := ⟨("is_between", none), "is_between", "is_between", defArgs s_is_between, defBody s_is_between, defScope s_is_between, [], []⟩
def dd_is_pair : He.DefD := ⟨("is_pair", none), "is_pair", "is_pair", defArgs s_is_pair, defBody s_is_pair, defScope s_is_pair, [], []⟩
def dd_is_loose : He.DefD := ⟨("is_loose", none), "is_loose", "is_loose", defArgs s_is_loose, defBody s_is_loose, defScope s_is_loose, [], []⟩
def dd_is_loose_ring : He.DefD := ⟨("is_loose_ring", none), "is_loose_ring", "is_loose_ring", defArgs s_is_loose_ring, defBody s_is_loose_ring, defScope s_is_loose_ring, [], []⟩
def dd_family_of : He.DefD := ⟨("family_of", none), "family_of", "family_of", defArgs s_family_of, defBody s_family_of, defScope s_family_of, [], []⟩
def dd_is_view : He.DefD := ⟨("is_view", none), "is_view", "is_view", defArgs s_is_view, defBody s_is_view, defScope s_is_view, [], []⟩
def dd_is_case : He.DefD := ⟨("is_case", none), "is_case", "is_case", defArgs s_is_case, defBody s_is_case, defScope s_is_case, [], []⟩
def dd_require_case : He.DefD := ⟨("require_case", none), "require_case", "require_case", defArgs s_require_case, defBody s_require_case, defScope s_require_case, [], []⟩
def dd_open_events : He.DefD := ⟨("open_events", none), "open_events", "open_events", defArgs s_open_events, defBody s_open_events, defScope s_open_events, [], []⟩
def dd_arrange : He.DefD := ⟨("arrange", none), "arrange", "arrange", defArgs s_arrange, defBody s_arrange, defScope s_arrange, [], []⟩
def dd_number_events : He.DefD := ⟨("number_events", none), "number_events", "number_events", defArgs s_number_events, defBody s_number_events, defScope s_number_events, [], []⟩
def dd_find_events : He.DefD := ⟨("find_events", none), "find_events", "find_events", defArgs s_find_events, defBody s_find_events, defScope s_find_events, [], []⟩
def dd_view_links : He.DefD := ⟨("view_links", none), "view_links", "view_links", defArgs s_view_links, defBody s_view_links, defScope s_view_links, [], []⟩
def dd_find_missing : He.DefD := ⟨("find_missing", none), "find_missing", "find_missing", defArgs s_find_missing, defBody s_find_missing, defScope s_find_missing, [], []⟩
def dd_growing_links : He.DefD := ⟨("growing_links", none), "growing_links", "growing_links", defArgs s_growing_links, defBody s_growing_links, defScope s_growing_links, [], []⟩
def dd_find_growing : He.DefD := ⟨("find_growing", none), "find_growing", "find_growing", defArgs s_find_growing, defBody s_find_growing, defScope s_find_growing, [], []⟩
def dd_growing_log : He.DefD := ⟨("growing_log", none), "growing_log", "growing_log", defArgs s_growing_log, defBody s_growing_log, defScope s_growing_log, [], []⟩
def dd_steps_from : He.DefD := ⟨("steps_from", none), "steps_from", "steps_from", defArgs s_steps_from, defBody s_steps_from, defScope s_steps_from, [], []⟩
def dd_is_step : He.DefD := ⟨("is_step", none), "is_step", "is_step", defArgs s_is_step, defBody s_is_step, defScope s_is_step, [], []⟩
def dd_is_growing_ring : He.DefD := ⟨("is_growing_ring", none), "is_growing_ring", "is_growing_ring", defArgs s_is_growing_ring, defBody s_is_growing_ring, defScope s_is_growing_ring, [], []⟩
def dd_find_way_back : He.DefD := ⟨("find_way_back", none), "find_way_back", "find_way_back", defArgs s_find_way_back, defBody s_find_way_back, defScope s_find_way_back, [], []⟩
def dd_find_growing_ring : He.DefD := ⟨("find_growing_ring", none), "find_growing_ring", "find_growing_ring", defArgs s_find_growing_ring, defBody s_find_growing_ring, defScope s_find_growing_ring, [], []⟩
def dd_growing_ring : He.DefD := ⟨("growing_ring", none), "growing_ring", "growing_ring", defArgs s_growing_ring, defBody s_growing_ring, defScope s_growing_ring, [], []⟩
def dd_law : He.DefD := ⟨("law", none), "law", "law", defArgs s_law, defBody s_law, defScope s_law, [], []⟩
def hfn : List He.DefD := ([dd__law_open, dd__law_spread, dd__law_take, dd__law_one, dd_is_name, dd_is_name_set, dd_names_of, dd_is_family, dd_require_family, dd_seen_names, dd_is_integer, dd_is_between, dd_is_pair, dd_is_loose, dd_is_loose_ring, dd_family_of, dd_is_view, dd_is_case, dd_require_case, dd_open_events, dd_arrange, dd_number_events, dd_find_events, dd_view_links, dd_find_missing, dd_growing_links, dd_find_growing, dd_growing_log, dd_steps_from, dd_is_step] : List He.DefD) ++ ([dd_is_growing_ring, dd_find_way_back, dd_find_growing_ring, dd_growing_ring, dd_law] : List He.DefD)
def hfa : List He.Fa := ([.free "all", .free "bool", .free "enumerate", .free "int", .free "isinstance", .free "len", .free "list", .free "range", .free "set", .free "sorted", .free "str", .free "tuple", .free "zip", .int "LONGEST_NAME" 8, .int "LONGEST_VIEW" 20, .int "MOST_IN_SET" 6, .int "MOST_NAMES" 8, .int "MOST_OBSERVERS" 6, .str "SMALL" "abcdefghijklmnopqrstuvwxyz", .glo "_law_open", .glo "_law_spread", .glo "_law_take", .glo "_law_one", .glo "is_name", .glo "is_name_set", .glo "names_of", .glo "is_family", .glo "require_family", .glo "seen_names", .glo "is_integer"] : List He.Fa) ++ ([.glo "is_between", .glo "is_pair", .glo "is_loose", .glo "is_loose_ring", .glo "family_of", .glo "is_view", .glo "is_case", .glo "require_case", .glo "open_events", .glo "arrange", .glo "number_events", .glo "find_events", .glo "view_links", .glo "find_missing", .glo "growing_links", .glo "find_growing", .glo "growing_log", .glo "steps_from", .glo "is_step", .glo "is_growing_ring", .glo "find_way_back", .glo "find_growing_ring", .glo "growing_ring", .glo "law"] : List He.Fa)
def hloose : List PySem.Str := (["ViewError", "InvalidFamily", "InvalidCase", "SMALL", "LONGEST_NAME", "MOST_IN_SET", "MOST_OBSERVERS", "MOST_NAMES", "LONGEST_VIEW", "is_name", "is_name_set", "names_of", "is_family", "is_view", "family_of", "is_case", "require_family", "require_case", "number_events", "find_events", "is_integer", "is_between", "view_links", "open_events", "arrange", "find_missing", "growing_links", "find_growing", "steps_from", "find_way_back"] : List PySem.Str) ++ (["find_growing_ring", "is_step", "growing_log", "is_growing_ring", "growing_ring", "seen_names", "is_pair", "is_loose", "is_loose_ring", "_law_spread", "_law_open", "_law_take", "_law_one"] : List PySem.Str)
abbrev R : PySem.W.OpenRow := PySem.W.OpenLaw.row PySem.Challenge.rw_partviews_k92_growing_rings_at_their_edg
abbrev hk : PySem.W.Hook := He.hookD 4 hfa hfn
def ob (s : PySem.W.SharedT) : He.AlD := He.obsDG 4 hfa hfn (HandSHeadRun.getT s)
theorem ob_eq (s : PySem.W.SharedT) : ob s = hk.obs s.abs := He.obsDG_eq (HandSHeadRun.getT_eq s)
theorem run (w : World) : HandSHeadRun.RunEq R (PySem.W.view R.prog [51]) hk ob 6000 hloose w := by
  intro os
  kernel_rfl
theorem facts {K : PySem.W.Frag} {h : Heap} {mg : Str → Option Value} (X : K.In h) (G : h.Ns mainGlobals mg) (c : He.SaysD hfa hfn K) : Facts K mg where
  b_all := He.free_ok X G (c.fact 0 (f := .free "all") rfl)
  b_bool := He.free_ok X G (c.fact 1 (f := .free "bool") rfl)
  b_enumerate := He.free_ok X G (c.fact 2 (f := .free "enumerate") rfl)
  b_int := He.free_ok X G (c.fact 3 (f := .free "int") rfl)
  b_isinstance := He.free_ok X G (c.fact 4 (f := .free "isinstance") rfl)
  b_len := He.free_ok X G (c.fact 5 (f := .free "len") rfl)
  b_list := He.free_ok X G (c.fact 6 (f := .free "list") rfl)
  b_range := He.free_ok X G (c.fact 7 (f := .free "range") rfl)
  b_set := He.free_ok X G (c.fact 8 (f := .free "set") rfl)
  b_sorted := He.free_ok X G (c.fact 9 (f := .free "sorted") rfl)
  b_str := He.free_ok X G (c.fact 10 (f := .free "str") rfl)
  b_tuple := He.free_ok X G (c.fact 11 (f := .free "tuple") rfl)
  b_zip := He.free_ok X G (c.fact 12 (f := .free "zip") rfl)
  g_LONGEST_NAME := He.int_ok X G (c.fact 13 (f := .int "LONGEST_NAME" 8) rfl)
  g_LONGEST_VIEW := He.int_ok X G (c.fact 14 (f := .int "LONGEST_VIEW" 20) rfl)
  g_MOST_IN_SET := He.int_ok X G (c.fact 15 (f := .int "MOST_IN_SET" 6) rfl)
  g_MOST_NAMES := He.int_ok X G (c.fact 16 (f := .int "MOST_NAMES" 8) rfl)
  g_MOST_OBSERVERS := He.int_ok X G (c.fact 17 (f := .int "MOST_OBSERVERS" 6) rfl)
  g_SMALL := He.str_ok X G (c.fact 18 (f := .str "SMALL" "abcdefghijklmnopqrstuvwxyz") rfl)
  d__law_open := let ⟨fd, F⟩ := c.def_ 0 (d := dd__law_open) rfl; ⟨_, fd, F, He.glo_ok X G (c.fact 19 (f := .glo "_law_open") rfl)⟩
  d__law_spread := let ⟨fd, F⟩ := c.def_ 1 (d := dd__law_spread) rfl; ⟨_, fd, F, He.glo_ok X G (c.fact 20 (f := .glo "_law_spread") rfl)⟩
  d__law_take := let ⟨fd, F⟩ := c.def_ 2 (d := dd__law_take) rfl; ⟨_, fd, F, He.glo_ok X G (c.fact 21 (f := .glo "_law_take") rfl)⟩
  d__law_one := let ⟨fd, F⟩ := c.def_ 3 (d := dd__law_one) rfl; ⟨_, fd, F, He.glo_ok X G (c.fact 22 (f := .glo "_law_one") rfl)⟩
  d_is_name := let ⟨fd, F⟩ := c.def_ 4 (d := dd_is_name) rfl; ⟨_, fd, F, He.glo_ok X G (c.fact 23 (f := .glo "is_name") rfl)⟩
  d_is_name_set := let ⟨fd, F⟩ := c.def_ 5 (d := dd_is_name_set) rfl; ⟨_, fd, F, He.glo_ok X G (c.fact 24 (f := .glo "is_name_set") rfl)⟩
  d_names_of := let ⟨fd, F⟩ := c.def_ 6 (d := dd_names_of) rfl; ⟨_, fd, F, He.glo_ok X G (c.fact 25 (f := .glo "names_of") rfl)⟩
  d_is_family := let ⟨fd, F⟩ := c.def_ 7 (d := dd_is_family) rfl; ⟨_, fd, F, He.glo_ok X G (c.fact 26 (f := .glo "is_family") rfl)⟩
  d_require_family := let ⟨fd, F⟩ := c.def_ 8 (d := dd_require_family) rfl; ⟨_, fd, F, He.glo_ok X G (c.fact 27 (f := .glo "require_family") rfl)⟩
  d_seen_names := let ⟨fd, F⟩ := c.def_ 9 (d := dd_seen_names) rfl; ⟨_, fd, F, He.glo_ok X G (c.fact 28 (f := .glo "seen_names") rfl)⟩
  d_is_integer := let ⟨fd, F⟩ := c.def_ 10 (d := dd_is_integer) rfl; ⟨_, fd, F, He.glo_ok X G (c.fact 29 (f := .glo "is_integer") rfl)⟩
  d_is_between := let ⟨fd, F⟩ := c.def_ 11 (d := dd_is_between) rfl; ⟨_, fd, F, He.glo_ok X G (c.fact 30 (f := .glo "is_between") rfl)⟩
  d_is_pair := let ⟨fd, F⟩ := c.def_ 12 (d := dd_is_pair) rfl; ⟨_, fd, F, He.glo_ok X G (c.fact 31 (f := .glo "is_pair") rfl)⟩
  d_is_loose := let ⟨fd, F⟩ := c.def_ 13 (d := dd_is_loose) rfl; ⟨_, fd, F, He.glo_ok X G (c.fact 32 (f := .glo "is_loose") rfl)⟩
  d_is_loose_ring := let ⟨fd, F⟩ := c.def_ 14 (d := dd_is_loose_ring) rfl; ⟨_, fd, F, He.glo_ok X G (c.fact 33 (f := .glo "is_loose_ring") rfl)⟩
  d_family_of := let ⟨fd, F⟩ := c.def_ 15 (d := dd_family_of) rfl; ⟨_, fd, F, He.glo_ok X G (c.fact 34 (f := .glo "family_of") rfl)⟩
  d_is_view := let ⟨fd, F⟩ := c.def_ 16 (d := dd_is_view) rfl; ⟨_, fd, F, He.glo_ok X G (c.fact 35 (f := .glo "is_view") rfl)⟩
  d_is_case := let ⟨fd, F⟩ := c.def_ 17 (d := dd_is_case) rfl; ⟨_, fd, F, He.glo_ok X G (c.fact 36 (f := .glo "is_case") rfl)⟩
  d_require_case := let ⟨fd, F⟩ := c.def_ 18 (d := dd_require_case) rfl; ⟨_, fd, F, He.glo_ok X G (c.fact 37 (f := .glo "require_case") rfl)⟩
  d_open_events := let ⟨fd, F⟩ := c.def_ 19 (d := dd_open_events) rfl; ⟨_, fd, F, He.glo_ok X G (c.fact 38 (f := .glo "open_events") rfl)⟩
  d_arrange := let ⟨fd, F⟩ := c.def_ 20 (d := dd_arrange) rfl; ⟨_, fd, F, He.glo_ok X G (c.fact 39 (f := .glo "arrange") rfl)⟩
  d_number_events := let ⟨fd, F⟩ := c.def_ 21 (d := dd_number_events) rfl; ⟨_, fd, F, He.glo_ok X G (c.fact 40 (f := .glo "number_events") rfl)⟩
  d_find_events := let ⟨fd, F⟩ := c.def_ 22 (d := dd_find_events) rfl; ⟨_, fd, F, He.glo_ok X G (c.fact 41 (f := .glo "find_events") rfl)⟩
  d_view_links := let ⟨fd, F⟩ := c.def_ 23 (d := dd_view_links) rfl; ⟨_, fd, F, He.glo_ok X G (c.fact 42 (f := .glo "view_links") rfl)⟩
  d_find_missing := let ⟨fd, F⟩ := c.def_ 24 (d := dd_find_missing) rfl; ⟨_, fd, F, He.glo_ok X G (c.fact 43 (f := .glo "find_missing") rfl)⟩
  d_growing_links := let ⟨fd, F⟩ := c.def_ 25 (d := dd_growing_links) rfl; ⟨_, fd, F, He.glo_ok X G (c.fact 44 (f := .glo "growing_links") rfl)⟩
  d_find_growing := let ⟨fd, F⟩ := c.def_ 26 (d := dd_find_growing) rfl; ⟨_, fd, F, He.glo_ok X G (c.fact 45 (f := .glo "find_growing") rfl)⟩
  d_growing_log := let ⟨fd, F⟩ := c.def_ 27 (d := dd_growing_log) rfl; ⟨_, fd, F, He.glo_ok X G (c.fact 46 (f := .glo "growing_log") rfl)⟩
  d_steps_from := let ⟨fd, F⟩ := c.def_ 28 (d := dd_steps_from) rfl; ⟨_, fd, F, He.glo_ok X G (c.fact 47 (f := .glo "steps_from") rfl)⟩
  d_is_step := let ⟨fd, F⟩ := c.def_ 29 (d := dd_is_step) rfl; ⟨_, fd, F, He.glo_ok X G (c.fact 48 (f := .glo "is_step") rfl)⟩
  d_is_growing_ring := let ⟨fd, F⟩ := c.def_ 30 (d := dd_is_growing_ring) rfl; ⟨_, fd, F, He.glo_ok X G (c.fact 49 (f := .glo "is_growing_ring") rfl)⟩
  d_find_way_back := let ⟨fd, F⟩ := c.def_ 31 (d := dd_find_way_back) rfl; ⟨_, fd, F, He.glo_ok X G (c.fact 50 (f := .glo "find_way_back") rfl)⟩
  d_find_growing_ring := let ⟨fd, F⟩ := c.def_ 32 (d := dd_find_growing_ring) rfl; ⟨_, fd, F, He.glo_ok X G (c.fact 51 (f := .glo "find_growing_ring") rfl)⟩
  d_growing_ring := let ⟨fd, F⟩ := c.def_ 33 (d := dd_growing_ring) rfl; ⟨_, fd, F, He.glo_ok X G (c.fact 52 (f := .glo "growing_ring") rfl)⟩
theorem lawFacts {P : Program} {w : World} {K : PySem.W.Frag} {h : Heap} {mg : Str → Option Value} {f : Addr} (X : K.In h) (G : h.Ns mainGlobals mg) (hfa' : mg ("law" : Str) = some (.ref f)) (c : He.SaysD hfa hfn K) :
    ∃ fd : FuncData, (∀ (s : Shared) (v : Value), BindsTo s fd ⟨[v], []⟩ [("script", v)]) ∧ ∀ base : Heap, K.In base → base.Ns mainGlobals mg → FnOk P w K mg base (L2.CX P w) 8 f fd ["script"] (spF K mg 1 f_law) := by
  obtain ⟨fd, F⟩ := c.def_ 34 (d := dd_law) rfl
  have e := hfa'.symm.trans (He.glo_ok X G (c.fact 53 (f := .glo "law") rfl))
  cases e
  have b := FunD.bindsA (ps := ["script"]) F fun _ _ _ _ _ _ us hl => match us, hl with | [_], _ => rfl
  exact ⟨fd, fun s v => b s [v] rfl, fun base _ _ => ok_law_ (facts X G c) F⟩
/-- the law's promise: what is left to show of the function -/
theorem law_of (hval : ∀ ns : List Int, ns.length ≤ 63 → ∃ ρ, f_law [.c .bor (.z (ns.map PyData.int))] = .rt (.d (.bool true)) ρ) : PySem.Challenge.rw_partviews_k92_growing_rings_at_their_edg.Holds := by
  w_on; o_law
  refine HandSHeadRun.head_any (r := PySem.W.OpenLaw.row PySem.Challenge.rw_partviews_k92_growing_rings_at_their_edg) (q := PySem.W.view (PySem.W.OpenLaw.row PySem.Challenge.rw_partviews_k92_growing_rings_at_their_edg).prog [51]) (H := hk) (ob := ob) (M := 6000) (loose := hloose) (d := HandSHeadRun.topDef (PySem.W.OpenLaw.row PySem.Challenge.rw_partviews_k92_growing_rings_at_their_edg).prog 51) (kwd := []) ob_eq
    (by kernel_rfl) (fun s => by kernel_rfl) run (by kernel_rfl) (by kernel_rfl) (by kernel_rfl) (by rfl) (by first | assumption | decide +kernel) (by decide +kernel) ⟨rfl, rfl, rfl, rfl, rfl, by decide +kernel⟩ ?hw ?hc
  case hw => w_witness2
  case hc =>
    refine walk_ofW (l := PySem.Challenge.rw_partviews_k92_growing_rings_at_their_edg) (n := 63) (k := 8) (x := "script") rfl (by decide) (by kernel_rfl) ⟨rfl, by decide, by decide⟩ ?F
    intro w mg fa h Y G hmg0
    obtain ⟨K, KX, c⟩ := Y
    have hmg : mg ("law" : PySem.Str) = some (.ref fa) := by
      have e : (HandSHeadRun.topDef (PySem.W.OpenLaw.row PySem.Challenge.rw_partviews_k92_growing_rings_at_their_edg).prog 51).name = ("law" : PySem.Str) := by kernel_rfl
      rw [← e]
      exact hmg0
    obtain ⟨fd, hb, hF⟩ := lawFacts (P := (PySem.Challenge.rw_partviews_k92_growing_rings_at_their_edg).prog) (w := w) KX G hmg c
    exact ⟨K, fd, spF K mg 1 f_law, KX, hb, fun H a ns hl hO hS => entry hO hS (hval ns hl), hF⟩
end N92
set_option Elab.async false
set_option linter.all false
set_option maxRecDepth 100000
set_option maxHeartbeats 4000000
namespace Pv
open PySem PySem.Spec PyProof.Rows L2
def P_one : Pv.Fn := fDef 2
    (fRet (fX hIx (fVar 1) (fCall (some 0) P_take (aVal (fVar 0) (aDat (fNX hLen (aVal (fVar 1) aNil)) aNil)))))
abbrev penC (cells : List Int) (at' rest : Int) : Ct := .l [.list (cells.map PyData.int), .int at', .int rest]
theorem call_rt {p : Option Nat} {Fu : Pv.Fn} {g : FA} {ρ ρ1 : Pv.Env} {xs : List XV} {svs : List SV} {x : SV} {ps : Pv.Env} (ha : g ρ = .ok xs ρ1) (hal : alOk p xs = true) (hs : svsOf p xs ρ1 = some svs) (h : Fu svs = .rt x ps) :
    fCall p Fu g ρ = .ok (.v x) (backP p xs svs ps ρ1) := by
  unfold fCall
  rw [ha]
  show callF p Fu xs ρ1 = _
  unfold callF
  rw [if_pos hal, hs]
  simp only
  rw [h]
/-- what was lent comes back -/
theorem back0 {xs : List XV} {i : Nat} {m : Mo} {t t2 : Ct} {svs : List SV} {ps ρ : Pv.Env} (h1 : xs[0]? = some (.r i)) (h2 : svs[0]? = some (.c .pin t)) (h3 : ps[0]? = some (some (.c .pin t2))) (h4 : ρ[i]? = some (some (.c m t))) :
    backP (some 0) xs svs ps ρ = ρ.set i (some (.c m t2)) := by
  unfold backP
  simp only [h1, h2, h3, h4]
/-- one of a row -/
theorem one_ok {cells : List Int} {at' rest : Int} {items : List D} (hn : 0 < items.length) (hn2 : items.length < 1073741824) (h0 : 0 ≤ at') (h1 : at' ≤ 1000000) :
    ∃ (x : D) (at2 rest2 : Int) (ρ : Pv.Env), x ∈ items ∧ P_one [.c .pin (penC cells at' rest), .d (.list items)] = .rt (.d x) ρ ∧ at' ≤ at2 ∧ at2 ≤ at' + 1 ∧ ρ[0]? = some (some (.c .pin (penC cells at2 rest2))) := by
  obtain ⟨r, at2, rest2, ps, e, r0, r1, a1, a2, hp⟩ := take_ok (cells := cells) (rest := rest) (many := (items.length : Int)) h0 h1 (by omega) (by omega)
  obtain ⟨n, rfl⟩ : ∃ n : Nat, r = n := ⟨r.toNat, by omega⟩
  have hnl : n < items.length := by omega
  refine ⟨items[n], at2, rest2, [some (.c .pin (penC cells at2 rest2)), some (.d (.list items))], List.getElem_mem _, ?_, a1, a2, rfl⟩
  have q : fX hIx (fVar 1) (fCall (some 0) P_take (aVal (fVar 0) (aDat (fNX hLen (aVal (fVar 1) aNil)) aNil))) [some (.c .pin (penC cells at' rest)), some (.d (.list items))] = .ok (.v (.d items[n])) [some (.c .pin (penC cells at2 rest2)), some (.d (.list items))] := by
    have c : fCall (some 0) P_take (aVal (fVar 0) (aDat (fNX hLen (aVal (fVar 1) aNil)) aNil)) [some (.c .pin (penC cells at' rest)), some (.d (.list items))] = .ok (.v (.d (.int n))) [some (.c .pin (penC cells at2 rest2)), some (.d (.list items))] := by
      refine (call_rt (xs := [.r 0, .v (.d (.int items.length))]) rfl rfl rfl e).trans ?_
      rw [back0 rfl rfl hp rfl]
      rfl
    unfold fX
    rw [show fVar 1 [some (.c .pin (penC cells at' rest)), some (.d (.list items))] = .ok (.v (.d (.list items))) [some (.c .pin (penC cells at' rest)), some (.d (.list items))] from rfl]
    simp only [R.bind]
    rw [c]
    show (match (match atD items (n : Int) with
      | some d => some (SV.d d)
      | none => none) with
      | some s => R.ok (XV.v s) _
      | none => R.bad) = _
    rw [show atD items (n : Int) = some items[n] from by
      show nth items n = _
      rw [nth_eq, List.getElem?_eq_getElem hnl]]
  unfold P_one fDef
  show endF _ (fRet _ [some (.c .pin (penC cells at' rest)), some (.d (.list items))]) = _
  unfold fRet
  rw [q]
  rfl
def isT : RF → Bool
  | .rt (.d (.bool true)) _ => true
  | _ => false
theorem isT_ok : ∀ {r : RF}, isT r = true → ∃ ρ, r = .rt (.d (.bool true)) ρ
  | .rt (.d (.bool true)) ρ, _ => ⟨ρ, rfl⟩
  | .rt (.d (.bool false)) ρ, h => nomatch h
  | .rt (.d .none) ρ, h => nomatch h
  | .rt (.d (.int _)) ρ, h => nomatch h
  | .rt (.d (.str _)) ρ, h => nomatch h
  | .rt (.d (.list _)) ρ, h => nomatch h
  | .rt (.d (.tuple _)) ρ, h => nomatch h
  | .rt (.d (.dict _)) ρ, h => nomatch h
  | .rt (.c _ _) ρ, h => nomatch h
  | .al _ _, h => nomatch h
  | .exc _ _, h => nomatch h
  | .bad, h => nomatch h
theorem law_end {N : Nat} {A B C : FS} {ρ1 ρ2 : Pv.Env} {svs : List SV} (h1 : A (pad N svs) = .nx ρ1) (h2 : B ρ1 = .nx ρ2) (h3 : isT (endF svs (C ρ2)) = true) : ∃ ρ, fDef N (fSeq A (fSeq B C)) svs = .rt (.d (.bool true)) ρ := by
  obtain ⟨ρ, e⟩ := isT_ok h3
  refine ⟨ρ, ?_⟩
  unfold fDef
  rw [seq_nx h1 (seq_nx h2 rfl)]
  exact e
end Pv
namespace N92
open PySem PySem.Spec PyProof.Rows L2 Pv
theorem one_eq : f__law_one = P_one := rfl
theorem open_eq : f__law_open = P_open := rfl
def pairs92 : List D := [.tuple [.str "a", .str "b"], .tuple [.str "aa", .str "ab"], .tuple [.str "x", .str "xx"]]
def env1 (z pen : SV) : Pv.Env := [some z, some pen, none, none, none, none, none, none, none, none, none, none, none]
def env2 (z pen : SV) (a b : D) : Pv.Env := [some z, some pen, none, none, none, none, none, none, some (.d a), some (.d b), none, none, none]
theorem ev0 (zs : List D) (pen : Ct) : isT (endF [.c .bor (.z zs)] (law_t2 (env2 (.c .bor (.z zs)) (.c .own pen) (.str "a") (.str "b")))) = true := by
  kernel_rfl
theorem ev1 (zs : List D) (pen : Ct) : isT (endF [.c .bor (.z zs)] (law_t2 (env2 (.c .bor (.z zs)) (.c .own pen) (.str "aa") (.str "ab")))) = true := by
  kernel_rfl
theorem ev2 (zs : List D) (pen : Ct) : isT (endF [.c .bor (.z zs)] (law_t2 (env2 (.c .bor (.z zs)) (.c .own pen) (.str "x") (.str "xx")))) = true := by
  kernel_rfl
theorem hval (ns : List Int) (hl : ns.length ≤ 63) : ∃ ρ, f_law [.c .bor (.z (ns.map PyData.int))] = .rt (.d (.bool true)) ρ := by
  obtain ⟨cells, ρo, ho⟩ := open_ok ns hl
  obtain ⟨x, at2, rest2, ps, hx, h1, _, _, hp⟩ := one_ok (cells := cells) (at' := 0) (rest := 0) (items := pairs92) (by decide) (by decide) (by decide) (by decide)
  have hA : fAsg (fCall none f__law_open (aVal (fVar 0) aNil)) (setV 1) (pad 13 [.c .bor (.z (ns.map PyData.int))]) = .nx (env1 (.c .bor (.z (ns.map PyData.int))) (.c .own (penC cells 0 0))) := by
    have c : fCall none f__law_open (aVal (fVar 0) aNil) (pad 13 [.c .bor (.z (ns.map PyData.int))]) = .ok (.v (.c .own (penC cells 0 0))) (pad 13 [.c .bor (.z (ns.map PyData.int))]) := by
      rw [open_eq]
      exact call_rt (xs := [.r 0]) rfl rfl rfl ho
    unfold fAsg
    rw [c]
    rfl
  have hx' : x = .tuple [.str "a", .str "b"] ∨ x = .tuple [.str "aa", .str "ab"] ∨ x = .tuple [.str "x", .str "xx"] := by
    simpa [pairs92] using hx
  have hB : ∀ a b : D, x = .tuple [a, b] → fAsg (fCall (some 0) f__law_one (aVal (fVar 1) (aDat (fLst (aDat (fTup (aDat (fK (.str "a")) (aDat (fK (.str "b")) aNil))) (aDat (fTup (aDat (fK (.str "aa")) (aDat (fK (.str "ab")) aNil))) (aDat (fTup (aDat (fK (.str "x")) (aDat (fK (.str "xx")) aNil))) aNil)))) aNil))) (gTupF 2 (gsCons (setV 8) (gsCons (setV 9) gsNil))) (env1 (.c .bor (.z (ns.map PyData.int))) (.c .own (penC cells 0 0))) = .nx (env2 (.c .bor (.z (ns.map PyData.int))) (.c .own (penC cells at2 rest2)) a b) := by
    intro a b e
    subst e
    have c : fCall (some 0) f__law_one (aVal (fVar 1) (aDat (fLst (aDat (fTup (aDat (fK (.str "a")) (aDat (fK (.str "b")) aNil))) (aDat (fTup (aDat (fK (.str "aa")) (aDat (fK (.str "ab")) aNil))) (aDat (fTup (aDat (fK (.str "x")) (aDat (fK (.str "xx")) aNil))) aNil)))) aNil)) (env1 (.c .bor (.z (ns.map PyData.int))) (.c .own (penC cells 0 0))) = .ok (.v (.d (.tuple [a, b]))) (env1 (.c .bor (.z (ns.map PyData.int))) (.c .own (penC cells at2 rest2))) := by
      rw [one_eq]
      refine (call_rt (xs := [.r 1, .v (.d (.list pairs92))]) rfl rfl rfl h1).trans ?_
      rw [back0 rfl rfl hp rfl]
      rfl
    unfold fAsg
    rw [c]
    rfl
  have el : f_law = fDef 13 (fSeq law_s0 (fSeq law_s1 law_t2)) := rfl
  rw [el]
  rcases hx' with e | e | e
  · exact law_end hA (hB _ _ e) (ev0 _ _)
  · exact law_end hA (hB _ _ e) (ev1 _ _)
  · exact law_end hA (hB _ _ e) (ev2 _ _)
theorem holds : PySem.Challenge.rw_partviews_k92_growing_rings_at_their_edg.Holds := law_of hval
end N92
theorem PySem.Challenge.cw_partviews_k92_growing_rings_at_their_edg_holds : PySem.Challenge.rw_partviews_k92_growing_rings_at_their_edg.Holds := by
  exact N92.holds
