import PyProof.Rows.All
import Wide.All
import OpenK.AllK
import Wide.FinOn
import HandS.ForMost
import HandS.ForExc
import HandS.TryMany
import HandS.ExcInit
import HandS.ExcField
import KE.DataMinMax
import KE.SortData
import KE.DataCmp
import HandS.TupAny
import HandS.TupMul
import HandS.TupLe
import HandS.Deep
import HandS.Text
import PyProof.ListMulAny
import PyProof.EqAt
import PyProof.NeKinds
import HandS.Comp
import HandS.IsInst
import HandS.Defaults
import HandS.ExcIs
import KE.KExcIs
import KE.DataAny
import KE.LcSums
import HandS.TupLen
import KE.KTupSum
import HandS.ListItems
import PyProof.SeqIndex
import HandS.Style
import HandS.Ends
import HandS.Conv
import HandS.Zip
import HandS.Iter
import HandS.SetFor
import HandS.Strs
import HandS.IterVal
import KE.KDictPairs
import PyProof.ListStr
import PyProof.Rows.RegReprOcc
import PySem.Challenge.RW_intervalbench_k64_least_windows
set_option Elab.async false
set_option linter.all false
set_option maxRecDepth 100000
set_option maxHeartbeats 4000000
/-! Dk1: data, how values bear data, states of a def by data -/
namespace Dk
open PySem PySem.Spec L2
abbrev SS := List (Option V)

/-- data; tag a d: d, known to stand at the address a -/
inductive D where
  | none
  | bool (b : Bool)
  | int (i : Int)
  | str (s : Str)
  | list (xs : List D)
  | tuple (xs : List D)
  | dict (kvs : List (D × D))
  | dictT (kvs : List (D × D))
  | tag (a : Addr) (d : D)
/-- without the tag -/
def D.un : D → D
  | .tag _ d => d.un
  | d => d
mutual
def D.toP : D → PyData
  | .none => .none
  | .bool b => .bool b
  | .int i => .int i
  | .str x => .str x
  | .list xs => .list (D.toPL xs)
  | .tuple xs => .tuple (D.toPL xs)
  | .dict kvs => .dict (D.toPK kvs)
  | .dictT kvs => .dict (D.toPK kvs)
  | .tag _ d => d.toP
def D.toPL : List D → List PyData
  | [] => []
  | d :: ds => d.toP :: D.toPL ds
def D.toPK : List (D × D) → List (PyData × PyData)
  | [] => []
  | (k, d) :: r => (k.toP, d.toP) :: D.toPK r
end
def keyD : Key → D
  | .inl i => .int i
  | .inr s => .str s
def isDct : HO → Prop
  | .dK _ => True
  | _ => False
/-- what F holds F' holds, dicts perhaps held still -/
def SubH (F F' : Hp) : Prop := ∀ a o, F a = some o → F' a = some o ∨ (isDct o ∧ ∃ ob, F' a = some (.frz ob o))
theorem SubH.refl (F : Hp) : SubH F F := fun _ _ h => .inl h
theorem SubH.trans {F G H : Hp} (a : SubH F G) (b : SubH G H) : SubH F H := fun p o h => by
  rcases a p o h with h1 | ⟨h1, ob, h2⟩
  · exact b p o h1
  · rcases b p _ h2 with h3 | ⟨h3, _⟩
    · exact .inr ⟨h1, ob, h3⟩
    · exact h3.elim
theorem SubH.upd {F : Hp} {p : Addr} {o : HO} (h : F p = none) : SubH F (upd F p o) := fun a u e => by
  rw [upd_ne (ne_of_none e h)]; exact .inl e
theorem SubH.non {F H : Hp} (h : SubH F H) {p : Addr} {o : HO} (e : F p = some o) (n : ¬ isDct o) : H p = some o := by
  rcases h p o e with h1 | ⟨h1, _⟩
  · exact h1
  · exact absurd h1 n
theorem SubH.there {F H : Hp} (h : SubH F H) {p : Addr} {o : HO} (e : F p = some o) : ∃ u, H p = some u := by
  rcases h p o e with h1 | ⟨_, ob, h1⟩
  · exact ⟨_, h1⟩
  · exact ⟨_, h1⟩
theorem SubH.none {F H : Hp} (h : SubH F H) {p : Addr} (n : H p = none) : F p = none := by
  cases e : F p with
  | none => rfl
  | some o =>
    obtain ⟨u, e2⟩ := h.there e
    rw [e2] at n; cases n
def RdLe (F F' : Hp) : Prop := (∀ a u, Rd F a u → Rd F' a u) ∧ ∀ a o, F a = some o → ¬ isDct o → F' a = some o
theorem SubH.rd {F F' : Hp} (h : SubH F F') : RdLe F F' := ⟨fun a u r => by
  rcases r with r | ⟨o, r⟩
  · rcases h _ _ r with h1 | ⟨_, ob, h1⟩
    · exact .inl h1
    · exact .inr ⟨ob, h1⟩
  · exact .inr ⟨o, h.non r id⟩, fun a o e n => h.non e n⟩
theorem RdLe.rdl {F F' : Hp} (h : RdLe F F') : ∀ a u, Rd F a u → Rd F' a u := h.1

/-- a tuple object that is known whole: it has no dict -/
def PlT (F : Hp) (v : V) : Prop := ∃ (p : Addr) (o : Obj) (xs : List V) (its : Array Value) (n : Nat), v = .ref p ∧ F p = some (.frz o (.tup xs)) ∧ o.cls = .type "tuple" ∧ o.dict = none ∧ o.data = .seq its n
theorem PlT.le {F F' : Hp} (h : RdLe F F') {v : V} (p : PlT F v) : PlT F' v := by
  obtain ⟨a, o, xs, its, n, e, q, r⟩ := p
  exact ⟨a, o, xs, its, n, e, h.2 _ _ q id, r⟩
/-! data that hold no tag -/
mutual
def Rep0 (K : PySem.W.Frag) (F : Hp) : D → V → Prop
  | .none, v => v = .non
  | .bool b, v => v = .bl b
  | .int i, v => v = .int i
  | .str x, v => v = .str x
  | .list ds, v => ∃ a vs, v = .ref a ∧ SqL K F a vs ∧ Rep0L K F ds vs
  | .tuple ds, v => ∃ a vs, v = .ref a ∧ SqT K F a vs ∧ Rep0L K F ds vs
  | .dict kvs, v => ∃ a ks, v = .ref a ∧ Rd F a (.dK ks) ∧ Rep0K K F kvs ks
  | .dictT _, _ => False
  | .tag _ _, _ => False
def Rep0L (K : PySem.W.Frag) (F : Hp) : List D → List V → Prop
  | [], vs => vs = []
  | d :: ds, vs => ∃ v ws, vs = v :: ws ∧ Rep0 K F d v ∧ Rep0L K F ds ws
def Rep0K (K : PySem.W.Frag) (F : Hp) : List (D × D) → List (Key × V) → Prop
  | [], ks => ks = []
  | (k, d) :: r, ks => ∃ kk v ws, ks = (kk, v) :: ws ∧ k = keyD kk ∧ Rep0 K F d v ∧ Rep0K K F r ws
end
/-- the object at n, and what it holds stands without it -/
def Lone (K : PySem.W.Frag) (F : Hp) (n : Addr) : D → Prop
  | .list ds => ∃ F0 vs, RdLe F0 F ∧ F0 n = none ∧ F n = some (.lst vs) ∧ Rep0L K F0 ds vs
  | .dict kvs => ∃ F0 ks, RdLe F0 F ∧ F0 n = none ∧ Rd F n (.dK ks) ∧ Rep0K K F0 kvs ks
  | _ => False
theorem RdLe.trans {F G H : Hp} (a : RdLe F G) (b : RdLe G H) : RdLe F H := ⟨fun p u r => b.1 p u (a.1 p u r), fun p o e n => b.2 p o (a.2 p o e n) n⟩
theorem Lone.le {K : PySem.W.Frag} {F F' : Hp} (h : RdLe F F') {n : Addr} : ∀ {d : D}, Lone K F n d → Lone K F' n d
  | .list _, ⟨F0, vs, a, b, c, d⟩ => ⟨F0, vs, a.trans h, b, h.2 _ _ c id, d⟩
  | .dict _, ⟨F0, vs, a, b, c, d⟩ => ⟨F0, vs, a.trans h, b, h.1 _ _ c, d⟩
  | .none, x => x
  | .bool _, x => x
  | .int _, x => x
  | .str _, x => x
  | .tuple _, x => x
  | .dictT _, x => x
  | .tag _ _, x => x
/-- 0: a whole tuple; n + 1: the very object at n -/
def TagOk (K : PySem.W.Frag) (F : Hp) : Nat → D → V → Prop
  | 0, _, v => PlT F v
  | n + 1, d, v => v = .ref n ∧ Lone K F n d
theorem TagOk.le {K : PySem.W.Frag} {F F' : Hp} (h : RdLe F F') : ∀ {a : Nat} {d : D} {v : V}, TagOk K F a d v → TagOk K F' a d v
  | 0, _, _, r => PlT.le h r
  | _ + 1, _, _, r => ⟨r.1, r.2.le h⟩
mutual
def Rep (K : PySem.W.Frag) (F : Hp) : D → V → Prop
  | .none, v => v = .non
  | .bool b, v => v = .bl b
  | .int i, v => v = .int i
  | .str x, v => v = .str x
  | .list ds, v => ∃ a vs, v = .ref a ∧ SqL K F a vs ∧ RepL K F ds vs
  | .tuple ds, v => ∃ a vs, v = .ref a ∧ SqT K F a vs ∧ RepL K F ds vs
  | .dict kvs, v => ∃ a ks, v = .ref a ∧ Rd F a (.dK ks) ∧ RepK K F kvs ks
  | .dictT kvs, v => ∃ a ks, v = .ref a ∧ F a = some (.dT ks) ∧ RepT K F kvs ks
  | .tag a d, v => TagOk K F a d v ∧ Rep K F d v
def RepL (K : PySem.W.Frag) (F : Hp) : List D → List V → Prop
  | [], vs => vs = []
  | d :: ds, vs => ∃ v ws, vs = v :: ws ∧ Rep K F d v ∧ RepL K F ds ws
def RepK (K : PySem.W.Frag) (F : Hp) : List (D × D) → List (Key × V) → Prop
  | [], ks => ks = []
  | (k, d) :: r, ks => ∃ kk v ws, ks = (kk, v) :: ws ∧ k = keyD kk ∧ Rep K F d v ∧ RepK K F r ws
def RepT (K : PySem.W.Frag) (F : Hp) : List (D × D) → List (List Key × V) → Prop
  | [], ks => ks = []
  | (k, d) :: r, ks => ∃ kk v ws, ks = (kk, v) :: ws ∧ k = .tuple (kk.map keyD) ∧ Rep K F d v ∧ RepT K F r ws
end

theorem SqL.le {K : PySem.W.Frag} {F F' : Hp} (h : RdLe F F') {a : Addr} {xs : List V} (s : SqL K F a xs) : SqL K F' a xs := by
  rcases s with s | s
  · exact .inl (h.rdl _ _ s)
  · exact .inr s
theorem SqT.le {K : PySem.W.Frag} {F F' : Hp} (h : RdLe F F') {a : Addr} {xs : List V} (s : SqT K F a xs) : SqT K F' a xs := by
  rcases s with s | s
  · exact .inl (h.rdl _ _ s)
  · exact .inr s
mutual
theorem Rep.le {K : PySem.W.Frag} {F F' : Hp} (h : RdLe F F') : ∀ (d : D) (v : V), Rep K F d v → Rep K F' d v
  | .none, v, r => by unfold Rep at r ⊢; exact r
  | .bool b, v, r => by unfold Rep at r ⊢; exact r
  | .int i, v, r => by unfold Rep at r ⊢; exact r
  | .str x, v, r => by unfold Rep at r ⊢; exact r
  | .list ds, v, r => by
    unfold Rep at r ⊢
    obtain ⟨a, vs, e, s, l⟩ := r
    exact ⟨a, vs, e, SqL.le h s, RepL.le h ds vs l⟩
  | .tuple ds, v, r => by
    unfold Rep at r ⊢
    obtain ⟨a, vs, e, s, l⟩ := r
    exact ⟨a, vs, e, SqT.le h s, RepL.le h ds vs l⟩
  | .dict kvs, v, r => by
    unfold Rep at r ⊢
    obtain ⟨a, ks, e, r, q⟩ := r
    exact ⟨a, ks, e, h.rdl _ _ r, RepK.le h kvs ks q⟩
  | .dictT kvs, v, r => by
    unfold Rep at r ⊢
    obtain ⟨a, ks, e, r, q⟩ := r
    exact ⟨a, ks, e, h.2 _ _ r id, RepT.le h kvs ks q⟩
  | .tag a d, v, r => by
    unfold Rep at r ⊢
    exact ⟨r.1.le h, Rep.le h d v r.2⟩
theorem RepL.le {K : PySem.W.Frag} {F F' : Hp} (h : RdLe F F') : ∀ (ds : List D) (vs : List V), RepL K F ds vs → RepL K F' ds vs
  | [], vs, r => by unfold RepL at r ⊢; exact r
  | d :: ds, vs, r => by
    unfold RepL at r ⊢
    obtain ⟨v, ws, e, r1, r2⟩ := r
    exact ⟨v, ws, e, Rep.le h d v r1, RepL.le h ds ws r2⟩
theorem RepK.le {K : PySem.W.Frag} {F F' : Hp} (h : RdLe F F') : ∀ (ds : List (D × D)) (vs : List (Key × V)), RepK K F ds vs → RepK K F' ds vs
  | [], vs, r => by unfold RepK at r ⊢; exact r
  | (k, d) :: ds, vs, r => by
    unfold RepK at r ⊢
    obtain ⟨kk, v, ws, e, e2, r1, r2⟩ := r
    exact ⟨kk, v, ws, e, e2, Rep.le h d v r1, RepK.le h ds ws r2⟩
theorem RepT.le {K : PySem.W.Frag} {F F' : Hp} (h : RdLe F F') : ∀ (ds : List (D × D)) (vs : List (List Key × V)), RepT K F ds vs → RepT K F' ds vs
  | [], vs, r => by unfold RepT at r ⊢; exact r
  | (k, d) :: ds, vs, r => by
    unfold RepT at r ⊢
    obtain ⟨kk, v, ws, e, e2, r1, r2⟩ := r
    exact ⟨kk, v, ws, e, e2, Rep.le h d v r1, RepT.le h ds ws r2⟩
end
theorem Rep.un {K : PySem.W.Frag} {F : Hp} : ∀ {d : D} {v : V}, Rep K F d v → Rep K F d.un v
  | .none, _, r => r
  | .bool _, _, r => r
  | .int _, _, r => r
  | .str _, _, r => r
  | .list _, _, r => r
  | .tuple _, _, r => r
  | .dict _, _, r => r
  | .dictT _, _, r => r
  | .tag a d, v, r => by
    unfold Rep at r
    exact Rep.un (d := d) r.2
theorem RepL.un {K : PySem.W.Frag} {F : Hp} : ∀ {ds : List D} {vs : List V}, RepL K F ds vs → RepL K F (ds.map D.un) vs
  | [], _, r => by unfold RepL at r; subst r; unfold RepL; rfl
  | d :: ds, _, r => by
    unfold RepL at r
    obtain ⟨v, ws, rfl, r1, r2⟩ := r
    show RepL K F (d.un :: ds.map D.un) _
    unfold RepL
    exact ⟨v, ws, rfl, Rep.un r1, RepL.un r2⟩
theorem RepL.length {K : PySem.W.Frag} {F : Hp} : ∀ {ds : List D} {vs : List V}, RepL K F ds vs → vs.length = ds.length
  | [], _, r => by unfold RepL at r; subst r; rfl
  | d :: ds, _, r => by
    unfold RepL at r
    obtain ⟨v, ws, rfl, _, r2⟩ := r
    simp [RepL.length r2]
theorem RepL.get {K : PySem.W.Frag} {F : Hp} : ∀ {ds : List D} {vs : List V} {i : Nat} {d : D}, RepL K F ds vs → ds[i]? = some d → ∃ v, vs[i]? = some v ∧ Rep K F d v
  | [], _, _, _, _, e => by simp at e
  | x :: ds, _, 0, d, r, e => by
    unfold RepL at r
    obtain ⟨v, ws, rfl, r1, _⟩ := r
    simp at e; subst e
    exact ⟨v, rfl, r1⟩
  | x :: ds, _, i + 1, d, r, e => by
    unfold RepL at r
    obtain ⟨v, ws, rfl, _, r2⟩ := r
    obtain ⟨v', h1, h2⟩ := RepL.get (i := i) r2 (by simpa using e)
    exact ⟨v', by simpa using h1, h2⟩
theorem RepL.nil {K : PySem.W.Frag} {F : Hp} : RepL K F [] [] := by unfold RepL; rfl
theorem RepL.cons {K : PySem.W.Frag} {F : Hp} {d : D} {v : V} {ds : List D} {vs : List V} (h : Rep K F d v) (t : RepL K F ds vs) : RepL K F (d :: ds) (v :: vs) := by
  unfold RepL; exact ⟨v, vs, rfl, h, t⟩
theorem RepL.append {K : PySem.W.Frag} {F : Hp} : ∀ {ds es : List D} {vs ws : List V}, RepL K F ds vs → RepL K F es ws → RepL K F (ds ++ es) (vs ++ ws)
  | [], _, _, _, r, q => by unfold RepL at r; subst r; exact q
  | d :: ds, es, _, ws, r, q => by
    unfold RepL at r
    obtain ⟨v, vs, rfl, r1, r2⟩ := r
    exact RepL.cons r1 (RepL.append r2 q)
theorem RepL.drop {K : PySem.W.Frag} {F : Hp} : ∀ {ds : List D} {vs : List V} (n : Nat), RepL K F ds vs → RepL K F (ds.drop n) (vs.drop n)
  | _, _, 0, r => r
  | [], _, n + 1, r => by unfold RepL at r; subst r; exact RepL.nil
  | d :: ds, _, n + 1, r => by
    unfold RepL at r
    obtain ⟨v, vs, rfl, _, r2⟩ := r
    exact RepL.drop n r2
theorem RepL.take {K : PySem.W.Frag} {F : Hp} : ∀ {ds : List D} {vs : List V} (n : Nat), RepL K F ds vs → RepL K F (ds.take n) (vs.take n)
  | _, _, 0, r => by simpa using RepL.nil
  | [], _, n + 1, r => by unfold RepL at r; subst r; exact RepL.nil
  | d :: ds, _, n + 1, r => by
    unfold RepL at r
    obtain ⟨v, vs, rfl, r1, r2⟩ := r
    exact RepL.cons r1 (RepL.take n r2)
theorem RepL.set {K : PySem.W.Frag} {F : Hp} {d : D} {v : V} (h : Rep K F d v) : ∀ {ds : List D} {vs : List V} (n : Nat), RepL K F ds vs → RepL K F (ds.set n d) (vs.set n v)
  | [], _, n, r => by unfold RepL at r; subst r; exact RepL.nil
  | e :: ds, _, 0, r => by
    unfold RepL at r
    obtain ⟨u, vs, rfl, _, r2⟩ := r
    exact RepL.cons h r2
  | e :: ds, _, n + 1, r => by
    unfold RepL at r
    obtain ⟨u, vs, rfl, r1, r2⟩ := r
    exact RepL.cons r1 (RepL.set h n r2)

/-! ### slots -/
/-- the content of an object that is one slot's own -/
inductive Cl where
  | lst (ds : List D)
  | dct (kvs : List (D × D))
  | dcT (kvs : List (D × D))
/-- what a slot holds: nothing known; a datum; an object of its own; a caller's object; a def -/
inductive Sl where
  | emp | val (d : D) | own (c : Cl) | ref (c : Cl) | fn (x : Str)
def Cl.frz : Cl → D
  | .lst ds => .list ds
  | .dct kvs => .dict kvs
  | .dcT kvs => .dictT kvs
abbrev Env := List Sl

/-- what is protected: objects; the raw values of borrowed slots -/
structure Prot where
  H : Hp
  pin : Nat → Option V

def ClOk (K : PySem.W.Frag) (F H : Hp) (a : Addr) : Cl → Prop
  | .lst ds => ∃ vs, H a = some (.lst vs) ∧ RepL K F ds vs
  | .dct kvs => ∃ ks, H a = some (.dK ks) ∧ RepK K F kvs ks
  | .dcT kvs => ∃ ks, H a = some (.dT ks) ∧ RepT K F kvs ks
def SlOk (K : PySem.W.Frag) (mg : Str → Option Value) (P : Prot) (F H : Hp) : Option V → Sl → Prop
  | _, .emp => True
  | o, .val d => ∃ v, o = some v ∧ Rep K F d v
  | o, .own c => ∃ a, o = some (.ref a) ∧ F a = none ∧ P.H a = none ∧ ClOk K F H a c
  | o, .ref c => ∃ a, o = some (.ref a) ∧ F a = none ∧ P.H a = none ∧ ClOk K F H a c
  | o, .fn x => ∃ a, o = some (.ref a) ∧ mg x = some (.ref a)
def Sl.isOwn : Sl → Bool
  | .own _ => true
  | .ref _ => true
  | _ => false
def Sl.isRef : Sl → Bool
  | .ref _ => true
  | _ => false
/-- the slot i owns the object at a -/
def Owns (σ : SS) (ρ : Env) (i : Nat) (a : Addr) : Prop := (∃ sl, ρ[i]? = some sl ∧ sl.isOwn = true) ∧ σ[i]? = some (some (.ref a))

structure Stt (K : PySem.W.Frag) (mg : Str → Option Value) (P : Prot) (F H : Hp) (σ : SS) (ρ : Env) : Prop where
  sub : SubH F H
  keep : ∀ p o, P.H p = some o → H p = some o ∧ F p = none
  len : σ.length = ρ.length
  sl : ∀ (i : Nat) (s : Sl), ρ[i]? = some s → SlOk K mg P F H (σ.getD i none) s
  apart : ∀ (i j : Nat) (a : Addr), Owns σ ρ i a → Owns σ ρ j a → i = j
  pin : ∀ (i : Nat) (v : V), P.pin i = some v → σ[i]? = some (some v) ∧ ∃ s, ρ[i]? = some s ∧ s.isRef = true
/-- what an expression hands back -/
structure OutOk (K : PySem.W.Frag) (mg : Str → Option Value) (P : Prot) (F H : Hp) (σ : SS) (ρ : Env) (v : V) (o : Sl) : Prop where
  sl : SlOk K mg P F H (some v) o
  ne : o ≠ .emp
  nr : o.isRef = false
  free : o.isOwn = true → ∀ (i : Nat) (a : Addr), v = .ref a → ¬ Owns σ ρ i a
end Dk

set_option Elab.async false
set_option linter.all false
set_option maxRecDepth 100000
set_option maxHeartbeats 4000000
/-! Dk2: results, what is wanted behind them, expressions by data -/
namespace Dk
open PySem PySem.Spec L2

inductive R where
  | bad
  | ok (o : Sl) (ρ : Env)
  | exc (c : Str) (fs : List (Str × D)) (ρ : Env)
inductive SR where
  | bad
  | nx (ρ : Env)
  | ret (o : Sl) (ρ : Env)
  | brk (ρ : Env)
  | ct (ρ : Env)
  | exc (c : Str) (fs : List (Str × D)) (ρ : Env)
abbrev EX := Env → R
abbrev SX := Env → SR
def Sl.frz : Sl → Option D
  | .val d => some d
  | .own c => some c.frz
  | _ => none
def R.bind (r : R) (k : Sl → Env → R) : R := match r with
  | .ok o ρ => k o ρ
  | .bad => .bad
  | .exc c fs ρ => .exc c fs ρ
def R.bindV (r : R) (k : D → Env → R) : R := match r with
  | .ok o ρ => (match o.frz with | some d => k d ρ | none => .bad)
  | .bad => .bad
  | .exc c fs ρ => .exc c fs ρ
@[simp] theorem R.bind_ok (o : Sl) (ρ : Env) (k : Sl → Env → R) : (R.ok o ρ).bind k = k o ρ := Eq.trans rfl rfl
@[simp] theorem R.bind_exc (c : Str) (fs : List (Str × D)) (ρ : Env) (k : Sl → Env → R) : (R.exc c fs ρ).bind k = .exc c fs ρ := Eq.trans rfl rfl
@[simp] theorem R.bindV_val (d : D) (ρ : Env) (k : D → Env → R) : (R.ok (.val d) ρ).bindV k = k d ρ := Eq.trans rfl rfl
@[simp] theorem R.bindV_own (c : Cl) (ρ : Env) (k : D → Env → R) : (R.ok (.own c) ρ).bindV k = k c.frz ρ := Eq.trans rfl rfl
@[simp] theorem R.bindV_exc (c : Str) (fs : List (Str × D)) (ρ : Env) (k : D → Env → R) : (R.exc c fs ρ).bindV k = .exc c fs ρ := Eq.trans rfl rfl
@[simp] theorem R.bindV_bad (k : D → Env → R) : R.bad.bindV k = .bad := Eq.trans rfl rfl

section
variable {K : PySem.W.Frag} {mg : Str → Option Value} {P : Prot} {F F' H H' : Hp} {σ : SS} {ρ : Env}

theorem ClOk.le {a : Addr} {c : Cl} (h : SubH F F') (e : H' a = H a) (x : ClOk K F H a c) : ClOk K F' H' a c := by
  cases c with
  | lst ds =>
    obtain ⟨vs, h1, h2⟩ := x
    exact ⟨vs, e.trans h1, RepL.le h.rd ds vs h2⟩
  | dct kvs =>
    obtain ⟨ks, h1, h2⟩ := x
    exact ⟨ks, e.trans h1, RepK.le h.rd kvs ks h2⟩
  | dcT kvs =>
    obtain ⟨ks, h1, h2⟩ := x
    exact ⟨ks, e.trans h1, RepT.le h.rd kvs ks h2⟩
theorem ClOk.some {a : Addr} {c : Cl} (x : ClOk K F H a c) : ∃ o, H a = some o := by
  cases c with
  | lst ds => obtain ⟨vs, h1, _⟩ := x; exact ⟨_, h1⟩
  | dct kvs => obtain ⟨ks, h1, _⟩ := x; exact ⟨_, h1⟩
  | dcT kvs => obtain ⟨ks, h1, _⟩ := x; exact ⟨_, h1⟩
theorem SlOk.grow {o : Option V} {s : Sl} (h : SubH F F') (k : ∀ a, s.isOwn = true → o = some (.ref a) → F' a = none ∧ H' a = H a) (x : SlOk K mg P F H o s) : SlOk K mg P F' H' o s := by
  cases s with
  | emp => trivial
  | val d => obtain ⟨v, e, r⟩ := x; exact ⟨v, e, Rep.le h.rd d v r⟩
  | own c =>
    obtain ⟨a, e, _, h2, h3⟩ := x
    obtain ⟨k1, k2⟩ := k a rfl e
    exact ⟨a, e, k1, h2, h3.le h k2⟩
  | ref c =>
    obtain ⟨a, e, _, h2, h3⟩ := x
    obtain ⟨k1, k2⟩ := k a rfl e
    exact ⟨a, e, k1, h2, h3.le h k2⟩
  | fn y => exact x
theorem getD_of {i : Nat} {v : V} (e : σ[i]? = some (some v)) : σ.getD i none = some v := by
  simp [List.getD, e]
theorem of_getD {i : Nat} {v : V} (e : σ.getD i none = some v) : σ[i]? = some (some v) := by
  cases q : σ[i]? with
  | none => simp [List.getD, q] at e
  | some o => simp [List.getD, q] at e; rw [e]
theorem Stt.owned (st : Stt K mg P F H σ ρ) {i : Nat} {a : Addr} (o : Owns σ ρ i a) : F a = none ∧ P.H a = none ∧ ∃ u, H a = some u := by
  obtain ⟨⟨s, e, w⟩, q⟩ := o
  have x := st.sl i s e
  cases s with
  | own c =>
    obtain ⟨b, e1, h1, h2, h3⟩ := x
    rw [getD_of q] at e1; cases e1
    exact ⟨h1, h2, h3.some⟩
  | ref c =>
    obtain ⟨b, e1, h1, h2, h3⟩ := x
    rw [getD_of q] at e1; cases e1
    exact ⟨h1, h2, h3.some⟩
  | emp => cases w
  | val d => cases w
  | fn x => cases w
/-- the frozen part and the heap grow; what is owned or protected is as it was -/
theorem Stt.grow (st : Stt K mg P F H σ ρ) (h : SubH F F') (hs : SubH F' H') (kp : ∀ p o, P.H p = some o → H' p = some o ∧ F' p = none) (ko : ∀ i a, Owns σ ρ i a → F' a = none ∧ H' a = H a) : Stt K mg P F' H' σ ρ where
  sub := hs
  keep := kp
  len := st.len
  sl := fun i s e => (st.sl i s e).grow h fun a w q => ko i a ⟨⟨s, e, w⟩, of_getD q⟩
  apart := st.apart
  pin := st.pin
theorem Stt.fresh (st : Stt K mg P F H σ ρ) {p : Addr} (n : H p = none) : F p = none ∧ P.H p = none ∧ ∀ i, ¬ Owns σ ρ i p := by
  refine ⟨st.sub.none n, ?_, fun i o => ?_⟩
  · cases e : P.H p with
    | none => rfl
    | some o => rw [(st.keep p o e).1] at n; cases n
  · obtain ⟨_, _, u, e⟩ := st.owned o
    rw [e] at n; cases n
theorem Stt.alloc (st : Stt K mg P F H σ ρ) {p : Addr} {o : HO} (n : H p = none) : Stt K mg P F (upd H p o) σ ρ := by
  obtain ⟨_, h2, h3⟩ := st.fresh n
  refine st.grow (SubH.refl F) (st.sub.trans (SubH.upd n)) (fun q u e => ?_) fun i a w => ?_
  · obtain ⟨k1, k2⟩ := st.keep q u e
    exact ⟨(by rw [upd_ne (ne_of_none k1 n)]; exact k1), k2⟩
  · obtain ⟨k1, _, _⟩ := st.owned w
    exact ⟨k1, upd_ne fun z => h3 i (z ▸ w)⟩
theorem Stt.allocF (st : Stt K mg P F H σ ρ) {p : Addr} {o : HO} (n : H p = none) : Stt K mg P (upd F p o) (upd H p o) σ ρ ∧ SubH F (upd F p o) := by
  obtain ⟨h1, h2, h3⟩ := st.fresh n
  refine ⟨st.grow (SubH.upd h1) (fun q u e => ?_) (fun q u e => ?_) fun i a w => ?_, SubH.upd h1⟩
  · by_cases hq : q = p
    · subst hq; rw [upd_same] at e ⊢; exact .inl e
    · rw [upd_ne hq] at e ⊢; exact st.sub q u e
  · obtain ⟨k1, k2⟩ := st.keep q u e
    have hq : q ≠ p := ne_of_none k1 n
    exact ⟨by rw [upd_ne hq]; exact k1, by rw [upd_ne hq]; exact k2⟩
  · obtain ⟨k1, _, _⟩ := st.owned w
    have ha : a ≠ p := fun z => h3 i (z ▸ w)
    exact ⟨by rw [upd_ne ha]; exact k1, upd_ne ha⟩
/-- an owned object that stands in no slot becomes a datum -/
theorem Stt.freeze (st : Stt K mg P F H σ ρ) {v : V} {s : Sl} {d : D} (x : OutOk K mg P F H σ ρ v s) (e : s.frz = some d) : ∃ F', SubH F F' ∧ Stt K mg P F' H σ ρ ∧ Rep K F' d v := by
  cases s with
  | val d' =>
    cases e
    obtain ⟨u, e1, r⟩ := x.sl
    cases e1
    exact ⟨F, SubH.refl F, st, r⟩
  | own c =>
    cases e
    obtain ⟨a, e1, h1, h2, h3⟩ := x.sl
    cases e1
    obtain ⟨u, hu⟩ := h3.some
    have sb : SubH F (upd F a u) := SubH.upd h1
    refine ⟨upd F a u, sb, st.grow sb (fun q o e => ?_) (fun q o e => ?_) fun i b w => ?_, ?_⟩
    · by_cases hq : q = a
      · subst hq; rw [upd_same] at e; rw [hu]; exact .inl e
      · rw [upd_ne hq] at e; exact st.sub q o e
    · obtain ⟨k1, k2⟩ := st.keep q o e
      have hq : q ≠ a := fun z => by subst z; rw [h2] at e; cases e
      exact ⟨k1, by rw [upd_ne hq]; exact k2⟩
    · obtain ⟨k1, _, _⟩ := st.owned w
      have hb : b ≠ a := fun z => x.free rfl i a rfl (z ▸ w)
      exact ⟨by rw [upd_ne hb]; exact k1, rfl⟩
    · cases c with
      | lst ds =>
        obtain ⟨vs, h4, h5⟩ := h3
        rw [hu] at h4; cases h4
        show Rep K _ (.list ds) _
        unfold Rep
        exact ⟨a, vs, rfl, .inl (.inl upd_same), RepL.le sb.rd ds vs h5⟩
      | dct kvs =>
        show Rep K _ (.dict kvs) _
        unfold Rep
        obtain ⟨ks, h4, h5⟩ := h3
        rw [hu] at h4; cases h4
        exact ⟨a, ks, rfl, (.inl upd_same), RepK.le sb.rd kvs ks h5⟩
      | dcT kvs =>
        show Rep K _ (.dictT kvs) _
        unfold Rep
        obtain ⟨ks, h4, h5⟩ := h3
        rw [hu] at h4; cases h4
        exact ⟨a, ks, rfl, upd_same, RepT.le sb.rd kvs ks h5⟩
  | emp => cases e
  | ref c => cases e
  | fn x => cases e
theorem OutOk.val {v : V} {d : D} (r : Rep K F d v) : OutOk K mg P F H σ ρ v (.val d) := ⟨⟨v, rfl, r⟩, (by intro z; cases z), rfl, (fun z => by cases z)⟩
theorem OutOk.rep {v : V} {d : D} (x : OutOk K mg P F H σ ρ v (.val d)) : Rep K F d v := by
  obtain ⟨u, e, r⟩ := x.sl
  cases e; exact r
/-- a new list -/
theorem OutOk.newL {p : Addr} {vs : List V} {ds : List D} (st : Stt K mg P F H σ ρ) (n : H p = none) (r : RepL K F ds vs) : OutOk K mg P F (upd H p (.lst vs)) σ ρ (.ref p) (.own (.lst ds)) := by
  obtain ⟨h1, h2, h3⟩ := st.fresh n
  refine ⟨⟨p, rfl, h1, h2, vs, upd_same, r⟩, (by intro z; cases z), rfl, fun _ i a e w => ?_⟩
  cases e
  exact h3 i w

/-! ### what is wanted behind a result -/
def RepF (K : PySem.W.Frag) (F : Hp) (fs : List (Str × D)) (vs : List (Str × V)) : Prop := ∀ f d, fs.lookup f = some d → ∃ v, vs.lookup f = some v ∧ Rep K F d v
theorem RepF.le {fs : List (Str × D)} {vs : List (Str × V)} (h : SubH F F') (x : RepF K F fs vs) : RepF K F' fs vs := fun f d e => by
  obtain ⟨v, e1, r⟩ := x f d e
  exact ⟨v, e1, Rep.le h.rd d v r⟩
def ExcOk (K : PySem.W.Frag) (mg : Str → Option Value) (F : Hp) (C dd : Addr) (c : Str) (fs : List (Str × D)) : Prop := mg c = some (.ref C) ∧ ∃ vs, F dd = some (.xd vs) ∧ RepF K F fs vs
def Kont (K : PySem.W.Frag) (mg : Str → Option Value) (P : Prot) (F : Hp) (σ : SS) (ρ : Env) (o : Sl) (Q : VK) : Prop := ∀ F' H' v, SubH F F' → Stt K mg P F' H' σ ρ → OutOk K mg P F' H' σ ρ v o → Q v H'
def KontX (K : PySem.W.Frag) (mg : Str → Option Value) (P : Prot) (F : Hp) (σ : SS) (ρ : Env) (c : Str) (fs : List (Str × D)) (W : XK) : Prop := ∀ F' H' C dd, SubH F F' → Stt K mg P F' H' σ ρ → ExcOk K mg F' C dd c fs → W (.ref C) (some dd) H'
theorem Kont.le {o : Sl} {Q : VK} (h : SubH F F') (k : Kont K mg P F σ ρ o Q) : Kont K mg P F' σ ρ o Q := fun G H' v s => k G H' v (h.trans s)
theorem KontX.le {c : Str} {fs : List (Str × D)} {Q : XK} (h : SubH F F') (k : KontX K mg P F σ ρ c fs Q) : KontX K mg P F' σ ρ c fs Q := fun G H' C dd s => k G H' C dd (h.trans s)
def Post (K : PySem.W.Frag) (mg : Str → Option Value) (W : WX) (P : Prot) (F : Hp) (σ : SS) (r : R) (Q : VK) : Prop := match r with
  | .bad => False
  | .ok o ρ => Kont K mg P F σ ρ o Q
  | .exc c fs ρ => KontX K mg P F σ ρ c fs fun C d H' => W C d σ H'
theorem Post.le {W : WX} {r : R} {Q : VK} (h : SubH F F') (k : Post K mg W P F σ r Q) : Post K mg W P F' σ r Q := by
  cases r with
  | bad => exact k
  | ok o ρ => exact Kont.le h k
  | exc c fs ρ => exact fun G H' C dd s => k G H' C dd (h.trans s)
def DE (K : PySem.W.Frag) (mg : Str → Option Value) (W : WX) (t : TE) (f : EX) : Prop := ∀ P F H σ ρ Q, Stt K mg P F H σ ρ → Post K mg W P F σ (f ρ) Q → t σ H Q
theorem DE.bind {W : WX} {ta : TE} {fa : EX} {k : Sl → Env → R} {Q G : VK} (ha : DE K mg W ta fa) (st : Stt K mg P F H σ ρ) (h : Post K mg W P F σ ((fa ρ).bind k) Q)
    (hk : ∀ F1 H1 o ρ1 v, SubH F F1 → Stt K mg P F1 H1 σ ρ1 → OutOk K mg P F1 H1 σ ρ1 v o → Post K mg W P F1 σ (k o ρ1) Q → G v H1) : ta σ H G := by
  refine ha P F H σ ρ G st ?_
  cases e : fa ρ with
  | bad => rw [e] at h; exact h
  | ok o ρ1 =>
    rw [e] at h
    intro F1 H1 v sb st1 x
    exact hk F1 H1 o ρ1 v sb st1 x (Post.le sb h)
  | exc c fs ρ1 => rw [e] at h; exact h
theorem DE.bindV {W : WX} {ta : TE} {fa : EX} {k : D → Env → R} {Q G : VK} (ha : DE K mg W ta fa) (st : Stt K mg P F H σ ρ) (h : Post K mg W P F σ ((fa ρ).bindV k) Q)
    (hk : ∀ F1 H1 d ρ1 v, SubH F F1 → Stt K mg P F1 H1 σ ρ1 → Rep K F1 d v → Post K mg W P F1 σ (k d ρ1) Q → G v H1) : ta σ H G := by
  refine ha P F H σ ρ G st ?_
  cases e : fa ρ with
  | bad => rw [e] at h; exact h
  | ok o ρ1 =>
    rw [e] at h
    intro F1 H1 v sb st1 x
    cases z : o.frz with
    | none => simp only [R.bindV, z] at h; exact h.elim
    | some d =>
      simp only [R.bindV, z] at h
      obtain ⟨F2, sb2, st2, r⟩ := st1.freeze x z
      exact hk F2 H1 d ρ1 v (sb.trans sb2) st2 r (Post.le (sb.trans sb2) h)
  | exc c fs ρ1 => rw [e] at h; exact h
end

/-- an expression and its meaning by data -/
structure PD (X : Cx) (W : WX) (e : Expr) (f : EX) : Prop where
  ex : ∃ t, PE X e t ∧ DE X.K X.mg W t f
/-! ### names, constants -/
def eVar (i : Nat) : EX := fun ρ => match ρ[i]? with
  | some (.val d) => .ok (.val d) ρ
  | some (.fn x) => .ok (.fn x) ρ
  | _ => .bad
/-- the slot's own object is handed on: the slot is empty from then on -/
def eMove (i : Nat) : EX := fun ρ => match ρ[i]? with
  | some (.own c) => .ok (.own c) (ρ.set i .emp)
  | _ => .bad
def eC (d : D) : EX := fun ρ => .ok (.val d) ρ
section
variable {K : PySem.W.Frag} {mg : Str → Option Value} {W : WX}
theorem de_var (i : Nat) : DE K mg W (tVar i) (eVar i) := by
  intro P F H σ ρ Q st h
  unfold eVar at h
  cases e : ρ[i]? with
  | none => simp only [e] at h; exact h.elim
  | some s =>
    have x := st.sl i s e
    cases s with
    | val d =>
      simp only [e] at h
      obtain ⟨v, e1, r⟩ := x
      exact ⟨v, of_getD e1, h F H v (SubH.refl F) st (OutOk.val r)⟩
    | fn y =>
      simp only [e] at h
      obtain ⟨a, e1, r⟩ := x
      exact ⟨.ref a, of_getD e1, h F H (.ref a) (SubH.refl F) st ⟨⟨a, rfl, r⟩, (by intro z; cases z), rfl, (fun z => by cases z)⟩⟩
    | emp => simp only [e] at h; exact h.elim
    | own c => simp only [e] at h; exact h.elim
    | ref c => simp only [e] at h; exact h.elim
theorem Owns.of_set {σ : SS} {ρ : Env} {i j : Nat} {a : Addr} (o : Owns σ (ρ.set i .emp) j a) : Owns σ ρ j a ∧ j ≠ i := by
  obtain ⟨⟨s, e, w⟩, q⟩ := o
  by_cases h : i = j
  · subst h
    by_cases hl : i < ρ.length
    · rw [List.getElem?_set_self hl] at e; cases e; cases w
    · rw [List.getElem?_eq_none (by simpa using hl)] at e; cases e
  · rw [List.getElem?_set_ne h] at e
    exact ⟨⟨⟨s, e, w⟩, q⟩, fun z => h z.symm⟩
theorem Stt.drop {P : Prot} {F H : Hp} {σ : SS} {ρ : Env} (st : Stt K mg P F H σ ρ) (i : Nat) (hi : ∀ s, ρ[i]? = some s → s.isRef = false) : Stt K mg P F H σ (ρ.set i .emp) where
  sub := st.sub
  keep := st.keep
  len := by rw [List.length_set]; exact st.len
  sl := fun j s e => by
    by_cases h : i = j
    · subst h
      by_cases hl : i < ρ.length
      · rw [List.getElem?_set_self hl] at e; cases e; trivial
      · rw [List.getElem?_eq_none (by simpa using hl)] at e; cases e
    · rw [List.getElem?_set_ne h] at e; exact st.sl j s e
  apart := fun j k a o1 o2 => st.apart j k a o1.of_set.1 o2.of_set.1
  pin := fun j v e => by
    obtain ⟨h1, s, h2, h3⟩ := st.pin j v e
    refine ⟨h1, s, ?_, h3⟩
    by_cases h : i = j
    · subst h
      rw [hi s h2] at h3; cases h3
    · rw [List.getElem?_set_ne h]; exact h2
theorem de_move (i : Nat) : DE K mg W (tVar i) (eMove i) := by
  intro P F H σ ρ Q st h
  unfold eMove at h
  cases e : ρ[i]? with
  | none => simp only [e] at h; exact h.elim
  | some s =>
    have x := st.sl i s e
    cases s with
    | own c =>
      simp only [e] at h
      obtain ⟨a, e1, h1, h2, h3⟩ := x
      have q := of_getD e1
      refine ⟨.ref a, q, h F H (.ref a) (SubH.refl F) (st.drop i fun s z => ?_) ⟨⟨a, rfl, h1, h2, h3⟩, (by intro z; cases z), rfl, fun _ j b eb o => ?_⟩⟩
      · rw [e] at z; cases z; rfl
      · cases eb
        obtain ⟨o1, ne⟩ := o.of_set
        exact ne (st.apart j i a o1 ⟨⟨_, e, rfl⟩, q⟩)
    | fn y => simp only [e] at h; exact h.elim
    | emp => simp only [e] at h; exact h.elim
    | val d => simp only [e] at h; exact h.elim
    | ref c => simp only [e] at h; exact h.elim
theorem de_c {d : D} {v : V} (r : ∀ F, Rep K F d v) : DE K mg W (tC v) (eC d) := fun P F H σ ρ Q st h => h F H v (SubH.refl F) st (OutOk.val (r F))
end
section
variable {X : Cx} {W : WX}
theorem pd_var (i : Nat) {x : Str} {pos : Pos} (hN : X.N[i]? = some x := by rfl) (hv : Vis X.env.scope x := by first | exact Or.inl rfl | exact Or.inr (Or.inl rfl) | exact Or.inr (Or.inr rfl)) (hd : (x == ("__debug__" : Str)) = false := by decide)
    (hcd : (x == ("__classdict__" : Str)) = false := by decide) : PD X W (.Name x pos) (eVar i) := ⟨_, pe_var hN hv hd hcd, de_var i⟩
theorem pd_move (i : Nat) {x : Str} {pos : Pos} (hN : X.N[i]? = some x := by rfl) (hv : Vis X.env.scope x := by first | exact Or.inl rfl | exact Or.inr (Or.inl rfl) | exact Or.inr (Or.inr rfl)) (hd : (x == ("__debug__" : Str)) = false := by decide)
    (hcd : (x == ("__classdict__" : Str)) = false := by decide) : PD X W (.Name x pos) (eMove i) := ⟨_, pe_var hN hv hd hcd, de_move i⟩
theorem pd_int {i : Int} {j : Nat} {pos : Pos} : PD X W (.Constant (.int i) j pos) (eC (.int i)) := ⟨_, pe_int, de_c fun F => by unfold Rep; rfl⟩
theorem pd_bl {b : Bool} {j : Nat} {pos : Pos} : PD X W (.Constant (.bool b) j pos) (eC (.bool b)) := ⟨_, pe_bl, de_c fun F => by unfold Rep; rfl⟩
theorem pd_non {j : Nat} {pos : Pos} : PD X W (.Constant .none j pos) (eC .none) := ⟨_, pe_non, de_c fun F => by unfold Rep; rfl⟩
theorem pd_str {x : Str} {j : Nat} {pos : Pos} : PD X W (.Constant (.str x) j pos) (eC (.str x)) := ⟨_, pe_str, de_c fun F => by unfold Rep; rfl⟩
end

/-! ### operators by data -/
def rOf2 (K : PySem.W.Frag) (mg : Str → Option Value) (g : D → D → Option Sl) : R2 := fun x y H Q => ∃ P F σ ρ d e o, Stt K mg P F H σ ρ ∧ Rep K F d x ∧ Rep K F e y ∧ g d e = some o ∧ Kont K mg P F σ ρ o Q
def eOp (g : D → D → Option Sl) (fa fb : EX) : EX := fun ρ => (fa ρ).bindV fun d ρ1 => (fb ρ1).bindV fun e ρ2 => match g d.un e.un with
  | some o => .ok o ρ2
  | none => .bad
theorem de_op {K : PySem.W.Frag} {mg : Str → Option Value} {W : WX} {ta tb : TE} {fa fb : EX} {g : D → D → Option Sl} (ha : DE K mg W ta fa) (hb : DE K mg W tb fb) : DE K mg W (tOp (rOf2 K mg g) ta tb) (eOp g fa fb) := by
  intro P F H σ ρ Q st h
  refine ha.bindV st h fun F1 H1 d ρ1 v sb st1 r1 h1 => ?_
  refine hb.bindV st1 h1 fun F2 H2 e ρ2 u sb2 st2 r2 h2 => ?_
  cases z : g d.un e.un with
  | none => simp only [z] at h2; exact h2.elim
  | some o =>
    simp only [z] at h2
    exact ⟨P, F2, σ, ρ2, d.un, e.un, o, st2, (Rep.le sb2.rd d v r1).un, r2.un, z, h2⟩
theorem pd_op {X : Cx} {W : WX} {a b : Expr} {op : Operator} {pos : Pos} {fa fb : EX} {g : D → D → Option Sl} (ho : OpR X (binaryOp op) (rOf2 X.K X.mg g)) (ha : PD X W a fa) (hb : PD X W b fb) : PD X W (.BinOp a op b pos) (eOp g fa fb) := by
  obtain ⟨ta, pa, da⟩ := ha.ex
  obtain ⟨tb, pb, db⟩ := hb.ex
  exact ⟨_, pe_op ho pa pb, de_op da db⟩
theorem pd_cmp {X : Cx} {W : WX} {a b : Expr} {op : CmpOp} {pos : Pos} {fa fb : EX} {g : D → D → Option Sl} (ho : OpR X (compareOp op) (rOf2 X.K X.mg g)) (ha : PD X W a fa) (hb : PD X W b fb) (hm : behindInMarks op b = false := by rfl) : PD X W (.Compare a [op] [b] pos) (eOp g fa fb) := by
  obtain ⟨ta, pa, da⟩ := ha.ex
  obtain ⟨tb, pb, db⟩ := hb.ex
  exact ⟨_, pe_cmpR ho pa pb hm, de_op da db⟩
def rOf1 (K : PySem.W.Frag) (mg : Str → Option Value) (g : D → Option Sl) : V → Hp → VK → Prop := fun x H Q => ∃ P F σ ρ d o, Stt K mg P F H σ ρ ∧ Rep K F d x ∧ g d = some o ∧ Kont K mg P F σ ρ o Q
def eUn (g : D → Option Sl) (fa : EX) : EX := fun ρ => (fa ρ).bindV fun d ρ1 => match g d.un with
  | some o => .ok o ρ1
  | none => .bad
theorem de_un {K : PySem.W.Frag} {mg : Str → Option Value} {W : WX} {ta : TE} {fa : EX} {g : D → Option Sl} (ha : DE K mg W ta fa) : DE K mg W (tUn (rOf1 K mg g) ta) (eUn g fa) := by
  intro P F H σ ρ Q st h
  refine ha.bindV st h fun F1 H1 d ρ1 v sb st1 r1 h1 => ?_
  cases z : g d.un with
  | none => simp only [z] at h1; exact h1.elim
  | some o =>
    simp only [z] at h1
    exact ⟨P, F1, σ, ρ1, d.un, o, st1, r1.un, z, h1⟩
theorem pd_un {X : Cx} {W : WX} {a : Expr} {op : UnaryOp} {pos : Pos} {fa : EX} {g : D → Option Sl} (ho : UnR X (unaryOp op) (rOf1 X.K X.mg g)) (ha : PD X W a fa) : PD X W (.UnaryOp op a pos) (eUn g fa) := by
  obtain ⟨ta, pa, da⟩ := ha.ex
  exact ⟨_, pe_un ho pa, de_un da⟩
end Dk

set_option Elab.async false
set_option linter.all false
set_option maxRecDepth 100000
set_option maxHeartbeats 4000000
/-! Dk3: operators and comparisons by data -/
namespace Dk
open PySem PySem.Spec L2
section
variable {K : PySem.W.Frag} {mg : Str → Option Value} {P : Prot} {F H : Hp} {σ : SS} {ρ : Env} {v : V}
theorem rep_int {i : Int} (r : Rep K F (.int i) v) : v = .int i := by unfold Rep at r; exact r
theorem rep_str {i : Str} (r : Rep K F (.str i) v) : v = .str i := by unfold Rep at r; exact r
theorem rep_bool {i : Bool} (r : Rep K F (.bool i) v) : v = .bl i := by unfold Rep at r; exact r
theorem rep_none (r : Rep K F .none v) : v = .non := by unfold Rep at r; exact r
theorem rep_list {ds : List D} (r : Rep K F (.list ds) v) : ∃ a vs, v = .ref a ∧ SqL K F a vs ∧ RepL K F ds vs := by unfold Rep at r; exact r
theorem rep_tup {ds : List D} (r : Rep K F (.tuple ds) v) : ∃ a vs, v = .ref a ∧ SqT K F a vs ∧ RepL K F ds vs := by unfold Rep at r; exact r
theorem mk_int {i : Int} : Rep K F (.int i) (.int i) := by unfold Rep; rfl
theorem mk_str {i : Str} : Rep K F (.str i) (.str i) := by unfold Rep; rfl
theorem mk_bool {i : Bool} : Rep K F (.bool i) (.bl i) := by unfold Rep; rfl
theorem mk_none : Rep K F .none .non := by unfold Rep; rfl
theorem mk_list {a : Addr} {vs : List V} {ds : List D} (s : SqL K F a vs) (l : RepL K F ds vs) : Rep K F (.list ds) (.ref a) := by unfold Rep; exact ⟨a, vs, rfl, s, l⟩
theorem mk_tup {a : Addr} {vs : List V} {ds : List D} (s : SqT K F a vs) (l : RepL K F ds vs) : Rep K F (.tuple ds) (.ref a) := by unfold Rep; exact ⟨a, vs, rfl, s, l⟩
/-- an end: the state as it stands, a datum -/
theorem Kont.here {Q : VK} {d : D} (k : Kont K mg P F σ ρ (.val d) Q) (st : Stt K mg P F H σ ρ) (r : Rep K F d v) : Q v H := k F H v (SubH.refl F) st (OutOk.val r)
/-- an end: a new list -/
theorem Kont.newL {Q : VK} {ds : List D} {vs : List V} (k : Kont K mg P F σ ρ (.own (.lst ds)) Q) (st : Stt K mg P F H σ ρ) (r : RepL K F ds vs) : ∀ p, H p = none → Q (.ref p) (upd H p (.lst vs)) := fun p n =>
  k F _ _ (SubH.refl F) (st.alloc n) (OutOk.newL st n r)
/-- an end: a new dict -/
theorem Kont.newK {Q : VK} {kvs : List (D × D)} {ks : List (Key × V)} (k : Kont K mg P F σ ρ (.own (.dct kvs)) Q) (st : Stt K mg P F H σ ρ) (r : RepK K F kvs ks) : ∀ p, H p = none → Q (.ref p) (upd H p (.dK ks)) := fun p n => by
  obtain ⟨h1, h2, h3⟩ := st.fresh n
  exact k F _ _ (SubH.refl F) (st.alloc n) ⟨⟨p, rfl, h1, h2, ⟨ks, upd_same, r⟩⟩, (by intro z; cases z), rfl, fun _ i a e w => by cases e; exact h3 i w⟩
/-- an end: a new tuple -/
theorem Kont.newT {Q : VK} {ds : List D} {vs : List V} (k : Kont K mg P F σ ρ (.val (.tuple ds)) Q) (st : Stt K mg P F H σ ρ) (r : RepL K F ds vs) : ∀ p, H p = none → Q (.ref p) (upd H p (.tup vs)) := fun p n => by
  obtain ⟨st', sb⟩ := st.allocF (o := .tup vs) n
  exact k _ _ _ sb st' (OutOk.val (mk_tup (.inl (.inl upd_same)) (RepL.le sb.rd ds vs r)))
mutual
theorem Rep.dp (h : SubH F H) : ∀ (d : D) (v : V), d.toP.canLay0 = true → Rep K F d v → Dp K H v d.toP
  | .none, v, _, r => by rw [rep_none r]; exact .non
  | .bool b, v, _, r => by rw [rep_bool r]; exact .bl b
  | .int i, v, _, r => by rw [rep_int r]; exact .int i
  | .str x, v, _, r => by rw [rep_str r]; exact .str x
  | .list ds, v, c, r => by
    obtain ⟨a, vs, rfl, s, l⟩ := rep_list r
    exact .lst (SqL.le h.rd s) (Rep.dpL h ds vs (by simpa only [D.toP, PyData.canLay0] using c) l)
  | .tuple ds, v, c, r => by
    obtain ⟨a, vs, rfl, s, l⟩ := rep_tup r
    exact .tup (SqT.le h.rd s) (Rep.dpL h ds vs (by simpa only [D.toP, PyData.canLay0] using c) l)
  | .dict kvs, v, c, r => by simp [D.toP, PyData.canLay0] at c
  | .dictT kvs, v, c, r => by simp [D.toP, PyData.canLay0] at c
  | .tag a d, v, c, r => by
    unfold Rep at r
    exact Rep.dp h d v c r.2
theorem Rep.dpL (h : SubH F H) : ∀ (ds : List D) (vs : List V), PyData.canLayAll0 (D.toPL ds) = true → RepL K F ds vs → DpAll K H vs (D.toPL ds)
  | [], vs, _, r => by unfold RepL at r; subst r; exact .nil
  | d :: ds, vs, c, r => by
    unfold RepL at r
    obtain ⟨v, ws, rfl, r1, r2⟩ := r
    rw [D.toPL, PyData.canLayAll0, Bool.and_eq_true] at c
    exact .cons (Rep.dp h d v c.1 r1) (Rep.dpL h ds ws c.2 r2)
end
end

/-! ### dicts with ints and texts for keys -/
def toKey : D → Option Key
  | .int i => some (.inl i)
  | .str s => some (.inr s)
  | _ => none
theorem toKey_keyD (k : Key) : toKey (keyD k) = some k := by cases k <;> rfl
theorem key_rep {K : PySem.W.Frag} {F : Hp} {d : D} {kk : Key} {v : V} (h : toKey d = some kk) (r : Rep K F d v) : v = kV kk := by
  cases d with
  | int i => cases h; exact rep_int r
  | str i => cases h; exact rep_str r
  | none => cases h
  | bool b => cases h
  | list b => cases h
  | tuple b => cases h
  | dict b => cases h
  | dictT b => cases h
  | tag b c => cases h
def lookK (kvs : List (D × D)) (kk : Key) : Option D := (kvs.find? fun p => decide (toKey p.1 = some kk)).map (·.2)
def putKD (kvs : List (D × D)) (kk : Key) (d : D) : List (D × D) :=
  if (kvs.any fun p => decide (toKey p.1 = some kk)) = true then kvs.map (fun p => if toKey p.1 = some kk then (p.1, d) else p) else kvs ++ [(keyD kk, d)]
theorem rep_dict {K : PySem.W.Frag} {F : Hp} {kvs : List (D × D)} {v : V} (r : Rep K F (.dict kvs) v) : ∃ a ks, v = .ref a ∧ Rd F a (.dK ks) ∧ RepK K F kvs ks := by unfold Rep at r; exact r
theorem rep_look {K : PySem.W.Frag} {F : Hp} {kk : Key} : ∀ {kvs : List (D × D)} {ks : List (Key × V)}, RepK K F kvs ks → (∀ d, lookK kvs kk = some d → ∃ v, valV ks kk = some v ∧ Rep K F d v) ∧ (lookK kvs kk = none → valV ks kk = none)
  | [], _, r => by
    unfold RepK at r; subst r
    exact ⟨fun d e => (by cases e), fun _ => rfl⟩
  | (k, d) :: kvs, _, r => by
    unfold RepK at r
    obtain ⟨k2, v, ws, rfl, rfl, r1, r2⟩ := r
    obtain ⟨i1, i2⟩ := rep_look (kk := kk) r2
    by_cases h : k2 = kk
    · subst h
      have e1 : lookK ((keyD k2, d) :: kvs) k2 = some d := by simp [lookK, List.find?_cons, toKey_keyD]
      have e2 : valV ((k2, v) :: ws) k2 = some v := by simp [valV, List.find?_cons]
      rw [e1, e2]
      exact ⟨fun d' e => by cases e; exact ⟨v, rfl, r1⟩, fun e => by cases e⟩
    · have e1 : lookK ((keyD k2, d) :: kvs) kk = lookK kvs kk := by simp [lookK, List.find?_cons, toKey_keyD, h]
      have e2 : valV ((k2, v) :: ws) kk = valV ws kk := by simp [valV, List.find?_cons, h]
      rw [e1, e2]
      exact ⟨i1, i2⟩
theorem rep_any {K : PySem.W.Frag} {F : Hp} {kk : Key} : ∀ {kvs : List (D × D)} {ks : List (Key × V)}, RepK K F kvs ks → (kvs.any fun p => decide (toKey p.1 = some kk)) = ks.any fun p => decide (p.1 = kk)
  | [], _, r => by unfold RepK at r; subst r; rfl
  | (k, d) :: kvs, _, r => by
    unfold RepK at r
    obtain ⟨k2, v, ws, rfl, rfl, r1, r2⟩ := r
    simp [toKey_keyD, rep_any r2]
theorem rep_repl {K : PySem.W.Frag} {F : Hp} {kk : Key} {d : D} {v : V} (rv : Rep K F d v) : ∀ {kvs : List (D × D)} {ks : List (Key × V)}, RepK K F kvs ks → RepK K F (kvs.map fun p => if toKey p.1 = some kk then (p.1, d) else p) (ks.map fun p => if p.1 = kk then (p.1, v) else p)
  | [], _, r => by unfold RepK at r; subst r; unfold RepK; rfl
  | (k, d') :: kvs, _, r => by
    unfold RepK at r
    obtain ⟨k2, w, ws, rfl, rfl, r1, r2⟩ := r
    have ih := rep_repl (kk := kk) rv r2
    by_cases h : k2 = kk
    · subst h
      simp only [List.map_cons, toKey_keyD, if_true]
      unfold RepK
      exact ⟨k2, v, _, rfl, rfl, rv, ih⟩
    · have h2 : ¬ toKey (keyD k2) = some kk := by rw [toKey_keyD]; intro z; exact h (Option.some.inj z)
      simp only [List.map_cons, if_neg h, if_neg h2]
      unfold RepK
      exact ⟨k2, w, _, rfl, rfl, r1, ih⟩
theorem rep_snoc {K : PySem.W.Frag} {F : Hp} {kk : Key} {d : D} {v : V} (rv : Rep K F d v) : ∀ {kvs : List (D × D)} {ks : List (Key × V)}, RepK K F kvs ks → RepK K F (kvs ++ [(keyD kk, d)]) (ks ++ [(kk, v)])
  | [], _, r => by
    unfold RepK at r; subst r
    show RepK K F [(keyD kk, d)] [(kk, v)]
    unfold RepK
    exact ⟨kk, v, [], rfl, rfl, rv, by unfold RepK; rfl⟩
  | (k, d') :: kvs, _, r => by
    unfold RepK at r
    obtain ⟨k2, w, ws, rfl, rfl, r1, r2⟩ := r
    show RepK K F ((keyD k2, d') :: (kvs ++ [(keyD kk, d)])) ((k2, w) :: (ws ++ [(kk, v)]))
    unfold RepK
    exact ⟨k2, w, _, rfl, rfl, r1, rep_snoc rv r2⟩
theorem rep_put {K : PySem.W.Frag} {F : Hp} {kk : Key} {d : D} {v : V} {kvs : List (D × D)} {ks : List (Key × V)} (r : RepK K F kvs ks) (rv : Rep K F d v) : RepK K F (putKD kvs kk d) (putK ks kk v) := by
  unfold putKD putK
  rw [rep_any r]
  split
  · exact rep_repl rv r
  · exact rep_snoc rv r

def mulOk (i j : Int) : Prop := (-(2 ^ 64) < i ∧ i < 2 ^ 64) ∨ (-(2 ^ 64) < j ∧ j < 2 ^ 64)
instance (i j : Int) : Decidable (mulOk i j) := by unfold mulOk; infer_instance
def mulStrOk (x : Str) (n : Int) : Prop := MulOk x n
def addD : D → D → Option Sl
  | .int i, .int j => some (.val (.int (i + j)))
  | .str a, .str b => if a.length + b.length ≤ sizeLine then some (.val (.str (a ++ b))) else none
  | .list a, .list b => if a.length + b.length ≤ sizeLine then some (.own (.lst (a ++ b))) else none
  | .tuple a, .tuple b => if a.length + b.length ≤ sizeLine then some (.val (.tuple (a ++ b))) else none
  | _, _ => none
def subD : D → D → Option Sl
  | .int i, .int j => some (.val (.int (i - j)))
  | _, _ => none
def mulD : D → D → Option Sl
  | .int i, .int j => if mulOk i j then some (.val (.int (i * j))) else none
  | .str a, .int j => if 0 ≤ j ∧ j ≤ 1000000 ∧ a.length ≤ 16 then some (.val (.str (Txt.mul a j))) else none
  | .list a, .int j => if 0 ≤ j ∧ j ≤ 1000000 ∧ a.length ≤ 16 then some (.own (.lst (List.replicate j.toNat a).flatten)) else none
  | _, _ => none
def fdivD : D → D → Option Sl
  | .int i, .int j => if j ≠ 0 ∧ j.natAbs < 1073741824 then some (.val (.int (i.fdiv j))) else none
  | _, _ => none
def modD : D → D → Option Sl
  | .int i, .int j => if j ≠ 0 then some (.val (.int (i.fmod j))) else none
  | _, _ => none
def powD : D → D → Option Sl
  | .int i, .int j => if 0 ≤ j ∧ j ≤ 1000000 ∧ i.natAbs < 2 ^ 64 then some (.val (.int (i ^ j.toNat))) else none
  | _, _ => none
def shlD : D → D → Option Sl
  | .int i, .int j => if 0 ≤ j ∧ j ≤ 1000000 ∧ i.natAbs < 2 ^ 64 then some (.val (.int (i * 2 ^ j.toNat))) else none
  | _, _ => none
def shrD : D → D → Option Sl
  | .int i, .int j => if 0 ≤ j then some (.val (.int (i / 2 ^ j.toNat))) else none
  | _, _ => none
def andD : D → D → Option Sl
  | .int i, .int j => some (.val (.int (Builtin.bitAnd i j)))
  | _, _ => none
def orD : D → D → Option Sl
  | .int i, .int j => some (.val (.int (Builtin.bitOr i j)))
  | _, _ => none
def xorD : D → D → Option Sl
  | .int i, .int j => some (.val (.int (Builtin.bitXor i j)))
  | _, _ => none
/-- lists of unlike lengths -/
def lenNe : D → D → Bool
  | .list ds, .list es => ds.length != es.length
  | _, _ => false
theorem lenNe_of {d e : D} (h : lenNe d e = true) : ∃ ds es, d = .list ds ∧ e = .list es ∧ ds.length ≠ es.length := by
  unfold lenNe at h
  split at h
  · rename_i ds es
    exact ⟨ds, es, rfl, rfl, by simpa using h⟩
  · cases h
def eqD (d e : D) : Option Sl := if SeqAt.shaped d.toP = true ∧ SeqAt.shaped e.toP = true then some (.val (.bool (PyData.eqv d.toP e.toP))) else if lenNe d e = true then some (.val (.bool false)) else none
def neD (d e : D) : Option Sl := if SeqAt.shaped d.toP = true ∧ SeqAt.shaped e.toP = true then some (.val (.bool (!PyData.eqv d.toP e.toP))) else if lenNe d e = true then some (.val (.bool true)) else none
def ordOk (d e : D) : Prop := PySem.W.alike d.toP e.toP = true ∧ d.toP ≠ .none ∧ SeqAt.shaped d.toP = true ∧ SeqAt.shaped e.toP = true
open Classical in
noncomputable def ltD : D → D → Option Sl
  | .int i, .int j => some (.val (.bool (decide (i < j))))
  | d, e => if ordOk d e then some (.val (.bool (PySem.W.dataLt d.toP e.toP))) else none
open Classical in
noncomputable def gtD : D → D → Option Sl
  | .int i, .int j => some (.val (.bool (decide (j < i))))
  | d, e => if ordOk d e then some (.val (.bool (PySem.W.dataLt e.toP d.toP))) else none
open Classical in
noncomputable def leD : D → D → Option Sl
  | .int i, .int j => some (.val (.bool (decide (i ≤ j))))
  | d, e => if ordOk d e then some (.val (.bool (!PySem.W.dataLt e.toP d.toP))) else none
open Classical in
noncomputable def geD : D → D → Option Sl
  | .int i, .int j => some (.val (.bool (decide (j ≤ i))))
  | d, e => if ordOk d e then some (.val (.bool (!PySem.W.dataLt d.toP e.toP))) else none
def inB (d : D) : D → Option Bool
  | .list ds => if SeqAt.shaped d.toP = true ∧ SeqAt.shaped (D.list ds).toP = true then some ((D.toPL ds).any fun z => PyData.eqv z d.toP) else none
  | .tuple ds => if SeqAt.shaped d.toP = true ∧ SeqAt.shaped (D.tuple ds).toP = true then some ((D.toPL ds).any fun z => PyData.eqv z d.toP) else none
  | .str z => match d with
    | .str x => some (!(Builtin.Str.occurrences z x 0 z.length 1).isEmpty)
    | _ => none
  | .dict kvs => (toKey d).map fun kk => (lookK kvs kk).isSome
  | _ => none
def inD (d e : D) : Option Sl := (inB d e).map fun b => .val (.bool b)
def notInD (d e : D) : Option Sl := (inB d e).map fun b => .val (.bool (!b))
def isNoneB : D → Bool
  | .none => true
  | _ => false
def isD : D → D → Option Sl
  | d, .none => some (.val (.bool (isNoneB d)))
  | .bool a, .bool b => some (.val (.bool (decide (a = b))))
  | _, _ => none
def isNotD : D → D → Option Sl
  | d, .none => some (.val (.bool (!isNoneB d)))
  | .bool a, .bool b => some (.val (.bool (!decide (a = b))))
  | _, _ => none
def negD : D → Option Sl
  | .int i => some (.val (.int (-i)))
  | _ => none

section
variable {X : Cx}
theorem op_catG {pins : List (Addr × Obj)} {σ : SS} {H : Hp} {s : Shared} {l b : Addr} {xs zs : List V} {Q : VK} (I : Inv X pins σ H s) (h1 : SqL X.K H l xs) (h2 : SqL X.K H b zs) (hz : xs.length + zs.length ≤ sizeLine)
    (q : ∀ p, H p = none → Q (.ref p) (upd H p (.lst (xs ++ zs)))) : wpAny (model X.prog X.w) X.A (binaryOp .Add (.ref l) (.ref b)) (EP X pins σ Q) X.xe s := by
  obtain ⟨its, r, ⟨⟨cls, dd, data, sl⟩, n, e, hc, hd, hs⟩, z⟩ := I.list h1
  obtain ⟨its2, r2, ⟨⟨cls2, dd2, data2, sl2⟩, n2, e2, hc2, hd2, hs2⟩, z2⟩ := I.list h2
  simp only at hc hd hs hc2 hd2 hs2
  subst hc hd hs hc2 hd2 hs2
  have l1 := r.length
  have l2 := r2.length
  refine concat_meets ⟨_, e, rfl⟩ ⟨_, e2, rfl⟩ noFill_list_add seq_list_add PySem.F.slot_list_add PySem.F.entry_list_add (PySem.F.args_list_add_2 _ _) (PyProof.Rows.list_addW l b its.toArray its2.toArray n n2 none none sl sl2 (by rw [List.size_toArray, List.size_toArray]; omega)) ⟨e, e2, ?_⟩
  have ea : its.toArray ++ its2.toArray = (its ++ its2).toArray := by simp
  rw [ea]
  exact ⟨.ref _, _, I.lnew (t' := s.toks) (r.append r2) (by rw [List.length_append]; omega), rfl, q _ I.fresh⟩
theorem oadd : OpR X (binaryOp .Add) (rOf2 X.K X.mg addD) := by
  intro pins s σ H x y v u Q I rx ry h
  obtain ⟨P, F, σ', ρ, d, e, o, st, r1, r2, hg, k⟩ := h
  unfold addD at hg
  split at hg
  · cases hg
    rw [rep_int r1] at rx; rw [rep_int r2] at ry
    exact op_add pins s σ H _ _ v u Q I rx ry ⟨_, _, rfl, rfl, k.here st mk_int⟩
  · split at hg
    · rename_i hz
      cases hg
      rw [rep_str r1] at rx; rw [rep_str r2] at ry
      exact op_add_str pins s σ H _ _ v u Q I rx ry ⟨_, _, rfl, rfl, hz, k.here st mk_str⟩
    · cases hg
  · split at hg
    · rename_i hz
      cases hg
      obtain ⟨a, vs, rfl, s1, l1⟩ := rep_list r1
      obtain ⟨b, ws, rfl, s2, l2⟩ := rep_list r2
      cases rx; cases ry
      exact op_catG I (SqL.le st.sub.rd s1) (SqL.le st.sub.rd s2) (by rw [l1.length, l2.length]; exact hz) (k.newL st (l1.append l2))
    · cases hg
  · split at hg
    · rename_i as bs hz
      cases hg
      obtain ⟨a, vs, rfl, s1, l1⟩ := rep_tup r1
      obtain ⟨b, ws, rfl, s2, l2⟩ := rep_tup r2
      refine op_catA pins s σ H _ _ v u Q I rx ry ⟨a, b, vs, ws, rfl, rfl, SqT.le st.sub.rd s1, SqT.le st.sub.rd s2, by rw [l1.length, l2.length]; exact hz, fun e => ?_, fun _ e => ?_, fun _ _ => k.newT st (l1.append l2)⟩
      · subst e
        have ea : as = [] := by have := l1.length; cases as with | nil => rfl | cons _ _ => simp at this
        subst ea
        exact k.here st (mk_tup s2 l2)
      · subst e
        have ea : bs = [] := by have := l2.length; cases bs with | nil => rfl | cons _ _ => simp at this
        subst ea
        rw [List.append_nil] at k
        exact k.here st (mk_tup s1 l1)
    · cases hg
  · cases hg
theorem osub : OpR X (binaryOp .Sub) (rOf2 X.K X.mg subD) := by
  intro pins s σ H x y v u Q I rx ry h
  obtain ⟨P, F, σ', ρ, d, e, o, st, r1, r2, hg, k⟩ := h
  unfold subD at hg
  split at hg
  · cases hg
    rw [rep_int r1] at rx; rw [rep_int r2] at ry
    exact op_sub pins s σ H _ _ v u Q I rx ry ⟨_, _, rfl, rfl, k.here st mk_int⟩
  · cases hg
theorem opI_of {op : Operator} {C : Int → Int → Prop} {g : Int → Int → Int} {gD : D → D → Option Sl} (ho : OpR X (binaryOp op) (rI C fun i j => .int (g i j))) (hg : ∀ d e o, gD d e = some o → ∃ i j, d = .int i ∧ e = .int j ∧ C i j ∧ o = .val (.int (g i j))) :
    OpR X (binaryOp op) (rOf2 X.K X.mg gD) := by
  intro pins s σ H x y v u Q I rx ry h
  obtain ⟨P, F, σ', ρ, d, e, o, st, r1, r2, hgd, k⟩ := h
  obtain ⟨i, j, rfl, rfl, hC, rfl⟩ := hg d e o hgd
  rw [rep_int r1] at rx; rw [rep_int r2] at ry
  exact ho pins s σ H _ _ v u Q I rx ry ⟨i, j, rfl, rfl, hC, k.here st mk_int⟩
theorem opI0_of {op : Operator} {g : Int → Int → Int} {gD : D → D → Option Sl} (ho : OpR X (binaryOp op) (rI0 fun i j => .int (g i j))) (hg : ∀ d e o, gD d e = some o → ∃ i j, d = .int i ∧ e = .int j ∧ o = .val (.int (g i j))) :
    OpR X (binaryOp op) (rOf2 X.K X.mg gD) := by
  intro pins s σ H x y v u Q I rx ry h
  obtain ⟨P, F, σ', ρ, d, e, o, st, r1, r2, hgd, k⟩ := h
  obtain ⟨i, j, rfl, rfl, rfl⟩ := hg d e o hgd
  rw [rep_int r1] at rx; rw [rep_int r2] at ry
  exact ho pins s σ H _ _ v u Q I rx ry ⟨i, j, rfl, rfl, k.here st mk_int⟩
theorem ofdiv : OpR X (binaryOp .FloorDiv) (rOf2 X.K X.mg fdivD) := opI_of op_fdivN fun d e o h => by
  unfold fdivD at h
  split at h
  · split at h
    · rename_i hc; cases h; exact ⟨_, _, rfl, rfl, hc, rfl⟩
    · cases h
  · cases h
theorem omod : OpR X (binaryOp .Mod) (rOf2 X.K X.mg modD) := opI_of op_modN fun d e o h => by
  unfold modD at h
  split at h
  · split at h
    · rename_i hc; cases h; exact ⟨_, _, rfl, rfl, hc, rfl⟩
    · cases h
  · cases h
theorem opow : OpR X (binaryOp .Pow) (rOf2 X.K X.mg powD) := opI_of op_pow fun d e o h => by
  unfold powD at h
  split at h
  · split at h
    · rename_i hc; cases h; exact ⟨_, _, rfl, rfl, hc, rfl⟩
    · cases h
  · cases h
theorem oshl : OpR X (binaryOp .LShift) (rOf2 X.K X.mg shlD) := opI_of op_shl fun d e o h => by
  unfold shlD at h
  split at h
  · split at h
    · rename_i hc; cases h; exact ⟨_, _, rfl, rfl, hc, rfl⟩
    · cases h
  · cases h
theorem oshr : OpR X (binaryOp .RShift) (rOf2 X.K X.mg shrD) := opI_of op_shr fun d e o h => by
  unfold shrD at h
  split at h
  · split at h
    · rename_i hc; cases h; exact ⟨_, _, rfl, rfl, hc, rfl⟩
    · cases h
  · cases h
theorem oand : OpR X (binaryOp .BitAnd) (rOf2 X.K X.mg andD) := opI0_of op_and fun d e o h => by
  unfold andD at h
  split at h
  · cases h; exact ⟨_, _, rfl, rfl, rfl⟩
  · cases h
theorem oor : OpR X (binaryOp .BitOr) (rOf2 X.K X.mg orD) := opI0_of op_or fun d e o h => by
  unfold orD at h
  split at h
  · cases h; exact ⟨_, _, rfl, rfl, rfl⟩
  · cases h
theorem oxor : OpR X (binaryOp .BitXor) (rOf2 X.K X.mg xorD) := opI0_of op_xor fun d e o h => by
  unfold xorD at h
  split at h
  · cases h; exact ⟨_, _, rfl, rfl, rfl⟩
  · cases h
/-- a comparison that leaves the state, by what its values read as -/
theorem cmp_of {op : CmpOp} {gD : D → D → Option Sl}
    (ho : ∀ (pins : List (Addr × Obj)) (s : Shared) (σ : SS) (H F : Hp) (x y : V) (v u : Value) (d e : D) (o : Sl) (Q : VK), Inv X pins σ H s → RelV x v → RelV y u → SubH F H → Rep X.K F d x → Rep X.K F e y → gD d e = some o →
      ∃ b, o = .val (.bool b) ∧ (Q (.bl b) H → wpAny (model X.prog X.w) X.A (compareOp op v u) (EP X pins σ Q) X.xe s)) : OpR X (compareOp op) (rOf2 X.K X.mg gD) := by
  intro pins s σ H x y v u Q I rx ry h
  obtain ⟨P, F, σ', ρ, d, e, o, st, r1, r2, hgd, k⟩ := h
  obtain ⟨b, rfl, z⟩ := ho pins s σ H F x y v u d e o Q I rx ry st.sub r1 r2 hgd
  exact z (k.here st mk_bool)
theorem oeq (hu : X.A.units + 64 < cLine) : OpR X (compareOp .Eq) (rOf2 X.K X.mg eqD) := cmp_of fun pins s σ H F x y v u d e o Q I rx ry sb r1 r2 hg => by
  unfold eqD at hg
  split at hg
  · rename_i hc
    cases hg
    exact ⟨_, rfl, fun q => op_eqD hu pins s σ H x y v u Q I rx ry ⟨d.toP, e.toP, Rep.dp sb d x (SeqAt.canLay_of_shaped hc.1) r1, Rep.dp sb e y (SeqAt.canLay_of_shaped hc.2) r2, hc.1, hc.2, q⟩⟩
  · split at hg
    · rename_i hl
      cases hg
      obtain ⟨ds, es, rfl, rfl, hn⟩ := lenNe_of hl
      obtain ⟨a, vs, rfl, s1, l1⟩ := rep_list r1
      obtain ⟨b, ws, rfl, s2, l2⟩ := rep_list r2
      cases rx
      cases ry
      obtain ⟨i1, v1, p1, _⟩ := I.list (SqL.le sb.rd s1)
      obtain ⟨i2, v2, p2, _⟩ := I.list (SqL.le sb.rd s2)
      have e1 := v1.length
      have e2 := v2.length
      exact ⟨_, rfl, fun q => SeqAt.RcAt.lists_lengths p1.isList p2.isList (by have := l1.length; have := l2.length; simp; omega) (by omega) _ _ _ _ ⟨.bl _, H, I, rfl, q⟩⟩
    · cases hg
theorem one_ (hu : X.A.units + 64 < cLine) : OpR X (compareOp .NotEq) (rOf2 X.K X.mg neD) := cmp_of fun pins s σ H F x y v u d e o Q I rx ry sb r1 r2 hg => by
  unfold neD at hg
  split at hg
  · rename_i hc
    cases hg
    exact ⟨_, rfl, fun q => op_neD hu pins s σ H x y v u Q I rx ry ⟨d.toP, e.toP, Rep.dp sb d x (SeqAt.canLay_of_shaped hc.1) r1, Rep.dp sb e y (SeqAt.canLay_of_shaped hc.2) r2, hc.1, hc.2, q⟩⟩
  · split at hg
    · rename_i hl
      cases hg
      obtain ⟨ds, es, rfl, rfl, hn⟩ := lenNe_of hl
      obtain ⟨a, vs, rfl, s1, l1⟩ := rep_list r1
      obtain ⟨b, ws, rfl, s2, l2⟩ := rep_list r2
      cases rx
      cases ry
      obtain ⟨i1, v1, p1, _⟩ := I.list (SqL.le sb.rd s1)
      obtain ⟨i2, v2, p2, _⟩ := I.list (SqL.le sb.rd s2)
      have e1 := v1.length
      have e2 := v2.length
      exact ⟨_, rfl, fun q => SeqAt.RcNeAt.lists_lengths p1.isList p2.isList (by have := l1.length; have := l2.length; simp; omega) (by omega) _ _ _ _ ⟨.bl _, H, I, rfl, q⟩⟩
    · cases hg
theorem ord_room {d e : D} (hu : X.A.units + 64 < cLine) (hc : ordOk d e) : X.A.units + min d.toP.depth e.toP.depth < cLine := SeqAt.room_of_shaped hc.2.2.1 hu
theorem olt (hu : X.A.units + 64 < cLine) : OpR X (compareOp .Lt) (rOf2 X.K X.mg ltD) := cmp_of fun pins s σ H F x y v u d e o Q I rx ry sb r1 r2 hg => by
  unfold ltD at hg
  split at hg
  · cases hg
    rw [rep_int r1] at rx; rw [rep_int r2] at ry
    exact ⟨_, rfl, fun q => op_lt pins s σ H _ _ v u Q I rx ry ⟨_, _, rfl, rfl, q⟩⟩
  · split at hg
    · rename_i hc
      cases hg
      obtain ⟨as, q1⟩ := Dp.reads I d.toP x v (Rep.dp sb d x (SeqAt.canLay_of_shaped hc.2.2.1) r1) rx
      obtain ⟨bs, q2⟩ := Dp.reads I e.toP y u (Rep.dp sb e y (SeqAt.canLay_of_shaped hc.2.2.2) r2) ry
      exact ⟨_, rfl, fun q => PySem.W.lt_data q1 q2 hc.1 hc.2.1 (ord_room hu hc) ⟨.bl _, H, I, rfl, q⟩⟩
    · cases hg
theorem ogt (hu : X.A.units + 64 < cLine) : OpR X (compareOp .Gt) (rOf2 X.K X.mg gtD) := cmp_of fun pins s σ H F x y v u d e o Q I rx ry sb r1 r2 hg => by
  unfold gtD at hg
  split at hg
  · cases hg
    rw [rep_int r1] at rx; rw [rep_int r2] at ry
    exact ⟨_, rfl, fun q => op_gt pins s σ H _ _ v u Q I rx ry ⟨_, _, rfl, rfl, q⟩⟩
  · split at hg
    · rename_i hc
      cases hg
      obtain ⟨as, q1⟩ := Dp.reads I d.toP x v (Rep.dp sb d x (SeqAt.canLay_of_shaped hc.2.2.1) r1) rx
      obtain ⟨bs, q2⟩ := Dp.reads I e.toP y u (Rep.dp sb e y (SeqAt.canLay_of_shaped hc.2.2.2) r2) ry
      exact ⟨_, rfl, fun q => PySem.W.gt_data q1 q2 hc.1 hc.2.1 (ord_room hu hc) ⟨.bl _, H, I, rfl, q⟩⟩
    · cases hg
theorem ole (hu : X.A.units + 64 < cLine) : OpR X (compareOp .LtE) (rOf2 X.K X.mg leD) := cmp_of fun pins s σ H F x y v u d e o Q I rx ry sb r1 r2 hg => by
  unfold leD at hg
  split at hg
  · cases hg
    rw [rep_int r1] at rx; rw [rep_int r2] at ry
    exact ⟨_, rfl, fun q => op_le pins s σ H _ _ v u Q I rx ry ⟨_, _, rfl, rfl, q⟩⟩
  · split at hg
    · rename_i hc
      cases hg
      obtain ⟨as, q1⟩ := Dp.reads I d.toP x v (Rep.dp sb d x (SeqAt.canLay_of_shaped hc.2.2.1) r1) rx
      obtain ⟨bs, q2⟩ := Dp.reads I e.toP y u (Rep.dp sb e y (SeqAt.canLay_of_shaped hc.2.2.2) r2) ry
      exact ⟨_, rfl, fun q => PySem.W.le_data q1 q2 hc.1 hc.2.1 (ord_room hu hc) ⟨.bl _, H, I, rfl, q⟩⟩
    · cases hg
theorem oge (hu : X.A.units + 64 < cLine) : OpR X (compareOp .GtE) (rOf2 X.K X.mg geD) := cmp_of fun pins s σ H F x y v u d e o Q I rx ry sb r1 r2 hg => by
  unfold geD at hg
  split at hg
  · cases hg
    rw [rep_int r1] at rx; rw [rep_int r2] at ry
    exact ⟨_, rfl, fun q => op_ge pins s σ H _ _ v u Q I rx ry ⟨_, _, rfl, rfl, q⟩⟩
  · split at hg
    · rename_i hc
      cases hg
      obtain ⟨as, q1⟩ := Dp.reads I d.toP x v (Rep.dp sb d x (SeqAt.canLay_of_shaped hc.2.2.1) r1) rx
      obtain ⟨bs, q2⟩ := Dp.reads I e.toP y u (Rep.dp sb e y (SeqAt.canLay_of_shaped hc.2.2.2) r2) ry
      exact ⟨_, rfl, fun q => PySem.W.ge_data q1 q2 hc.1 hc.2.1 (ord_room hu hc) ⟨.bl _, H, I, rfl, q⟩⟩
    · cases hg
theorem in_room {d : PyData} {n : Nat} (hu : X.A.units + 65 < cLine) (hd : SeqAt.shaped d = true) : X.A.units + 1 + min n d.depth < cLine := by
  have := SeqAt.depth_of_shaped hd
  have : min n d.depth ≤ d.depth := Nat.min_le_right _ _
  omega
/-- a dict asked for a key -/
theorem rep_get {F H : Hp} {kvs : List (D × D)} {kk : Key} {d : D} {x y : V} (sb : SubH F H) (r : Rep X.K F (.dict kvs) x) (hk : toKey d = some kk) (r2 : Rep X.K F d y) : ∃ a o, x = .ref a ∧ DGet H a y o ∧ o.isSome = (lookK kvs kk).isSome ∧ ∀ e, lookK kvs kk = some e → ∃ v, o = some v ∧ Rep X.K F e v := by
  obtain ⟨a, ks, rfl, rd, rk⟩ := rep_dict r
  obtain ⟨i1, i2⟩ := rep_look (kk := kk) rk
  refine ⟨a, valV ks kk, rfl, .inl ⟨ks, kk, sb.rd.rdl _ _ rd, key_rep hk r2, rfl⟩, ?_, i1⟩
  cases h : lookK kvs kk with
  | none => rw [i2 h]; rfl
  | some e => obtain ⟨v, h1, _⟩ := i1 e h; rw [h1]; rfl
theorem oin (hu : X.A.units + 65 < cLine) : OpR X (compareOp .In) (rOf2 X.K X.mg inD) := cmp_of fun pins s σ H F x y v u d e o Q I rx ry sb r1 r2 hg => by
  unfold inD inB at hg
  split at hg
  · split at hg
    · rename_i hc
      cases hg
      refine ⟨_, rfl, fun q => op_inD hu pins s σ H x y v u Q I rx ry ⟨d.toP, _, Rep.dp sb d x (SeqAt.canLay_of_shaped hc.1) r1, Rep.dp sb _ y (SeqAt.canLay_of_shaped hc.2) r2, hc.1, hc.2, q⟩⟩
    · cases hg
  · split at hg
    · rename_i hc
      cases hg
      obtain ⟨as, q1⟩ := Dp.reads I d.toP x v (Rep.dp sb d x (SeqAt.canLay_of_shaped hc.1) r1) rx
      obtain ⟨bs, q2⟩ := Dp.reads I _ y u (Rep.dp sb _ y (SeqAt.canLay_of_shaped hc.2) r2) ry
      exact ⟨_, rfl, fun q => SeqAt.in_tuple_reads q2 q1 (by simpa only [D.toP, PyData.canLay0] using SeqAt.canLay_of_shaped hc.2) (SeqAt.canLay_of_shaped hc.1) (in_room hu hc.1) ⟨.bl _, H, I, rfl, q⟩⟩
    · cases hg
  · split at hg
    · cases hg
      rw [rep_str r1] at rx; rw [rep_str r2] at ry
      exact ⟨_, rfl, fun q => op_in_str pins s σ H _ _ v u Q I rx ry ⟨_, _, rfl, rfl, q⟩⟩
    · cases hg
  · rename_i kvs
    cases hk : toKey d with
    | none => simp only [hk, Option.map_none] at hg; cases hg
    | some kk =>
      simp only [hk, Option.map_some] at hg; cases hg
      obtain ⟨a, ov, rfl, g, e1, _⟩ := rep_get sb r2 hk r1
      obtain rfl : u = Value.ref a := ry
      refine ⟨_, rfl, fun q => d_in (by omega) I g rx fun s3 I3 => ⟨.bl ov.isSome, H, I3, rfl, ?_⟩⟩
      rw [e1]; exact q
  · cases hg
theorem onotIn (hu : X.A.units + 65 < cLine) : OpR X (compareOp .NotIn) (rOf2 X.K X.mg notInD) := cmp_of fun pins s σ H F x y v u d e o Q I rx ry sb r1 r2 hg => by
  unfold notInD inB at hg
  split at hg
  · split at hg
    · rename_i hc
      cases hg
      refine ⟨_, rfl, fun q => op_notInD hu pins s σ H x y v u Q I rx ry ⟨d.toP, _, Rep.dp sb d x (SeqAt.canLay_of_shaped hc.1) r1, Rep.dp sb _ y (SeqAt.canLay_of_shaped hc.2) r2, hc.1, hc.2, q⟩⟩
    · cases hg
  · split at hg
    · rename_i hc
      cases hg
      obtain ⟨as, q1⟩ := Dp.reads I d.toP x v (Rep.dp sb d x (SeqAt.canLay_of_shaped hc.1) r1) rx
      obtain ⟨bs, q2⟩ := Dp.reads I _ y u (Rep.dp sb _ y (SeqAt.canLay_of_shaped hc.2) r2) ry
      exact ⟨_, rfl, fun q => SeqAt.notIn_tuple_reads q2 q1 (by simpa only [D.toP, PyData.canLay0] using SeqAt.canLay_of_shaped hc.2) (SeqAt.canLay_of_shaped hc.1) (in_room hu hc.1) ⟨.bl _, H, I, rfl, q⟩⟩
    · cases hg
  · split at hg
    · cases hg
      rw [rep_str r1] at rx; rw [rep_str r2] at ry
      exact ⟨_, rfl, fun q => op_notIn_str pins s σ H _ _ v u Q I rx ry ⟨_, _, rfl, rfl, q⟩⟩
    · cases hg
  · rename_i kvs
    cases hk : toKey d with
    | none => simp only [hk, Option.map_none] at hg; cases hg
    | some kk =>
      simp only [hk, Option.map_some] at hg; cases hg
      obtain ⟨a, ov, rfl, g, e1, _⟩ := rep_get sb r2 hk r1
      obtain rfl : u = Value.ref a := ry
      refine ⟨_, rfl, fun q => d_notIn (by omega) I g rx fun s3 I3 => ⟨.bl (!ov.isSome), H, I3, rfl, ?_⟩⟩
      rw [e1]; exact q
  · cases hg
theorem isNone_rep {K : PySem.W.Frag} {F : Hp} {d : D} {x : V} (r : Rep K F d x) : decide (x = .non) = isNoneB d := by
  cases d with
  | none => rw [rep_none r]; rfl
  | bool b => rw [rep_bool r]; rfl
  | int b => rw [rep_int r]; rfl
  | str b => rw [rep_str r]; rfl
  | list b => obtain ⟨a, vs, rfl, _⟩ := rep_list r; rfl
  | tuple b => obtain ⟨a, vs, rfl, _⟩ := rep_tup r; rfl
  | dict b => unfold Rep at r; obtain ⟨a, ks, rfl, _⟩ := r; rfl
  | dictT b => unfold Rep at r; obtain ⟨a, ks, rfl, _⟩ := r; rfl
  | tag a d =>
    unfold Rep at r
    cases a with
    | zero => obtain ⟨⟨p, _, _, _, _, rfl, _⟩, r⟩ := r; rfl
    | succ n => obtain ⟨⟨rfl, _⟩, r⟩ := r; rfl
theorem ois : OpR X (compareOp .Is) (rOf2 X.K X.mg isD) := cmp_of fun pins s σ H F x y v u d e o Q I rx ry sb r1 r2 hg => by
  unfold isD at hg
  split at hg
  · cases hg
    rw [rep_none r2] at ry
    refine ⟨_, rfl, fun q => op_isN pins s σ H x _ v u Q I rx ry ⟨rfl, ?_⟩⟩
    rw [isNone_rep r1]; exact q
  · cases hg
    rw [rep_bool r1] at rx; rw [rep_bool r2] at ry
    exact ⟨_, rfl, fun q => op_is_bl pins s σ H _ _ v u Q I rx ry ⟨_, _, rfl, rfl, q⟩⟩
  · cases hg
theorem oisNot : OpR X (compareOp .IsNot) (rOf2 X.K X.mg isNotD) := cmp_of fun pins s σ H F x y v u d e o Q I rx ry sb r1 r2 hg => by
  unfold isNotD at hg
  split at hg
  · cases hg
    rw [rep_none r2] at ry
    refine ⟨_, rfl, fun q => op_notN pins s σ H x _ v u Q I rx ry ⟨rfl, ?_⟩⟩
    rw [isNone_rep r1]; exact q
  · cases hg
    rw [rep_bool r1] at rx; rw [rep_bool r2] at ry
    exact ⟨_, rfl, fun q => op_isnot_bl pins s σ H _ _ v u Q I rx ry ⟨_, _, rfl, rfl, q⟩⟩
  · cases hg
theorem oneg : UnR X (unaryOp .USub) (rOf1 X.K X.mg negD) := by
  intro pins s σ H x v Q I rx h
  obtain ⟨P, F, σ', ρ, d, o, st, r1, hg, k⟩ := h
  unfold negD at hg
  split at hg
  · cases hg
    rw [rep_int r1] at rx
    exact un_neg pins s σ H _ v Q I rx ⟨_, rfl, k.here st mk_int⟩
  · cases hg
end
theorem RepL.rep {K : PySem.W.Frag} {F : Hp} {ds : List D} {vs : List V} (r : RepL K F ds vs) : ∀ n : Nat, RepL K F (List.replicate n ds).flatten (List.replicate n vs).flatten
  | 0 => by simpa using RepL.nil
  | n + 1 => by
    rw [List.replicate_succ, List.replicate_succ, List.flatten_cons, List.flatten_cons]
    exact r.append (RepL.rep r n)
theorem Vals.rep {vs : List V} {us : List Value} (r : Vals vs us) : ∀ n : Nat, Vals (List.replicate n vs).flatten (List.replicate n us).flatten
  | 0 => by simpa using Paired.nil
  | n + 1 => by
    rw [List.replicate_succ, List.replicate_succ, List.flatten_cons, List.flatten_cons]
    exact Vals.append r (Vals.rep r n)
theorem rep_len {α : Type} (xs : List α) : ∀ n : Nat, (List.replicate n xs).flatten.length = n * xs.length
  | 0 => by simp
  | n + 1 => by rw [List.replicate_succ, List.flatten_cons, List.length_append, rep_len xs n, Nat.succ_mul]; omega
theorem op_mulG {X : Cx} {pins : List (Addr × Obj)} {σ : SS} {H : Hp} {s : Shared} {l : Addr} {xs : List V} {x : Int} {u : Tok} {Q : VK} (I : Inv X pins σ H s) (h1 : SqL X.K H l xs) (hlo : -(2 ^ 63 : Int) ≤ x) (hhi : x < 2 ^ 63) (hz : x.toNat * xs.length ≤ sizeLine)
    (q : ∀ p, H p = none → Q (.ref p) (upd H p (.lst (List.replicate x.toNat xs).flatten))) : wpAny (model X.prog X.w) X.A (binaryOp .Mult (.ref l) (.int x u)) (EP X pins σ Q) X.xe s := by
  obtain ⟨its, r, ⟨⟨cls, dd, data, sl⟩, n, e, hc, hd, hs⟩, z⟩ := I.list h1
  simp only at hc hd hs
  subst hc hd hs
  have l1 := r.length
  have hz' : its.toArray.size * x.toNat ≤ sizeLine := by rw [List.size_toArray, ← l1, Nat.mul_comm]; exact hz
  have hcap : ¬ its.toArray.size * x.toNat > (2 ^ 63 - 1) / 8 := by
    have : (sizeLine : Nat) ≤ (2 ^ 63 - 1) / 8 := by decide
    omega
  refine wpAny_binaryOp_repeat_ref (T := "list") (U := "int") (by decide) ⟨_, e, rfl⟩ (fun s' => PySem.typeIs_int s' x u) noFill_list_mul F.fills_int_mul F.slot_int_rmul repeat_list F.slot_int_index.lookup
    (call_meets F.slot_int_rmul (PySem.typeIs_int s x u) F.entry_int_rmul (F.args_int_rmul_2 _ _) (lm_int_rmul_list_any x u l its.toArray n none sl)
      ⟨e, rfl, ⟨_, e, rfl⟩, call_meets F.slot_list_mul ⟨_, e, rfl⟩ F.entry_list_mul (F.args_list_mul_2 _ _)
        (lm_list_mul_any l its.toArray n none sl x u (by simp [Builtin.List.listFitsIndex]; omega) hcap (by rw [notLongL hz']; exact Bool.false_ne_true))
        ⟨e, ?_⟩⟩)
  rw [PyProof.Rows.listMul_foldl_if]
  refine ⟨.ref _, _, I.lnew (t' := s.toks) (its := (List.replicate x.toNat its.toArray.toList).flatten) (ys := (List.replicate x.toNat xs).flatten) ?_ ?_, rfl, q _ I.fresh⟩
  · exact Vals.rep r x.toNat
  · rw [rep_len]; exact hz
theorem omul {X : Cx} : OpR X (binaryOp .Mult) (rOf2 X.K X.mg mulD) := by
  intro pins s σ H x y v u Q I rx ry h
  obtain ⟨P, F, σ', ρ, d, e, o, st, r1, r2, hg, k⟩ := h
  unfold mulD at hg
  split at hg
  · split at hg
    · rename_i hc
      cases hg
      rw [rep_int r1] at rx; rw [rep_int r2] at ry
      exact op_mul pins s σ H _ _ v u Q I rx ry ⟨_, _, rfl, rfl, hc, k.here st mk_int⟩
    · cases hg
  · split at hg
    · rename_i a j hc
      cases hg
      rw [rep_str r1] at rx; rw [rep_int r2] at ry
      obtain ⟨t, rfl⟩ := rx
      obtain ⟨t2, rfl⟩ := ry
      exact SB.mul (PyProof.Rows.mulOk_of 16 1000000 hc.2.2 (by omega) (by omega) (by decide) (by decide)) fun t' kk => ⟨.str _, H, I.tok _, ⟨_, rfl⟩, k.here st mk_str⟩
    · cases hg
  · split at hg
    · rename_i a j hc
      cases hg
      obtain ⟨b, vs, rfl, s1, l1⟩ := rep_list r1
      rw [rep_int r2] at ry
      cases rx
      obtain ⟨t2, rfl⟩ := ry
      refine op_mulG I (SqL.le st.sub.rd s1) (by omega) (by omega) ?_ (k.newL st (RepL.rep l1 j.toNat))
      rw [l1.length]
      have h1 : j.toNat ≤ 1000000 := by omega
      have h2 : a.length ≤ 16 := hc.2.2
      have := Nat.mul_le_mul h1 h2
      have e : sizeLine = 16777216 := sizeLine_eq
      omega
    · cases hg
  · cases hg
end Dk

set_option Elab.async false
set_option linter.all false
set_option maxRecDepth 100000
set_option maxHeartbeats 4000000
/-! Dk4: tests, displays, subscripts, slices, calls of built-ins by data -/
namespace Dk
open PySem PySem.Spec L2

/-! ### tests -/
def PostB (K : PySem.W.Frag) (mg : Str → Option Value) (W : WX) (P : Prot) (F : Hp) (σ : SS) (r : R) (Q : Bool → Hp → Prop) : Prop := match r with
  | .ok (.val (.bool b)) ρ => ∀ F' H', SubH F F' → Stt K mg P F' H' σ ρ → Q b H'
  | .exc c fs ρ => KontX K mg P F σ ρ c fs fun C d H' => W C d σ H'
  | _ => False
def DT (K : PySem.W.Frag) (mg : Str → Option Value) (W : WX) (t : TT) (f : EX) : Prop := ∀ P F H σ ρ Q, Stt K mg P F H σ ρ → PostB K mg W P F σ (f ρ) Q → t σ H Q
structure PTD (X : Cx) (W : WX) (e : Expr) (f : EX) : Prop where
  ex : ∃ t, PT X e t ∧ DT X.K X.mg W t f
def R.bindB (r : R) (k : Bool → Env → R) : R := match r with
  | .ok (.val (.bool b)) ρ => k b ρ
  | .exc c fs ρ => .exc c fs ρ
  | _ => .bad
@[simp] theorem R.bindB_ok (b : Bool) (ρ : Env) (k : Bool → Env → R) : (R.ok (.val (.bool b)) ρ).bindB k = k b ρ := Eq.trans rfl rfl
@[simp] theorem R.bindB_exc (c : Str) (fs : List (Str × D)) (ρ : Env) (k : Bool → Env → R) : (R.exc c fs ρ).bindB k = .exc c fs ρ := Eq.trans rfl rfl
section
variable {K : PySem.W.Frag} {mg : Str → Option Value} {W : WX} {P : Prot} {F H : Hp} {σ : SS} {ρ : Env}
theorem DT.bind {ta : TT} {fa : EX} {k : Bool → Env → R} {Q : VK} {G : Bool → Hp → Prop} (ha : DT K mg W ta fa) (st : Stt K mg P F H σ ρ) (h : Post K mg W P F σ ((fa ρ).bindB k) Q)
    (hk : ∀ F1 H1 b ρ1, SubH F F1 → Stt K mg P F1 H1 σ ρ1 → Post K mg W P F1 σ (k b ρ1) Q → G b H1) : ta σ H G := by
  refine ha P F H σ ρ G st ?_
  cases e : fa ρ with
  | bad => rw [e] at h; exact h
  | ok o ρ1 =>
    rw [e] at h
    cases o with
    | val d =>
      cases d with
      | bool b => intro F1 H1 sb st1; exact hk F1 H1 b ρ1 sb st1 (Post.le sb h)
      | none => exact h
      | int i => exact h
      | str i => exact h
      | list i => exact h
      | tuple i => exact h
      | dict i => exact h
      | dictT i => exact h
      | tag _ i => exact h
    | emp => exact h
    | own c => exact h
    | ref c => exact h
    | fn c => exact h
  | exc c fs ρ1 => rw [e] at h; exact h
/-- the same, wanted of a test -/
theorem DT.bindT {ta : TT} {fa : EX} {k : Bool → Env → R} {Q G : Bool → Hp → Prop} (ha : DT K mg W ta fa) (st : Stt K mg P F H σ ρ) (h : PostB K mg W P F σ ((fa ρ).bindB k) Q)
    (hk : ∀ F1 H1 b ρ1, SubH F F1 → Stt K mg P F1 H1 σ ρ1 → PostB K mg W P F1 σ (k b ρ1) Q → G b H1) : ta σ H G := by
  refine ha P F H σ ρ G st ?_
  cases e : fa ρ with
  | bad => rw [e] at h; exact h
  | ok o ρ1 =>
    rw [e] at h
    cases o with
    | val d =>
      cases d with
      | bool b =>
        intro F1 H1 sb st1
        refine hk F1 H1 b ρ1 sb st1 ?_
        show PostB K mg W P F1 σ (k b ρ1) Q
        have h' : PostB K mg W P F σ (k b ρ1) Q := h
        revert h'
        cases k b ρ1 with
        | bad => exact fun z => z
        | ok o ρ2 =>
          cases o with
          | val d =>
            cases d with
            | bool b => exact fun z F2 H2 s2 => z F2 H2 (sb.trans s2)
            | none => exact fun z => z
            | int i => exact fun z => z
            | str i => exact fun z => z
            | list i => exact fun z => z
            | tuple i => exact fun z => z
            | dict i => exact fun z => z
            | dictT i => exact fun z => z
            | tag _ i => exact fun z => z
          | emp => exact fun z => z
          | own c => exact fun z => z
          | ref c => exact fun z => z
          | fn c => exact fun z => z
        | exc c fs ρ2 => exact fun z F2 H2 C dd s2 => z F2 H2 C dd (sb.trans s2)
      | none => exact h
      | int i => exact h
      | str i => exact h
      | list i => exact h
      | tuple i => exact h
      | dict i => exact h
      | dictT i => exact h
      | tag _ i => exact h
    | emp => exact h
    | own c => exact h
    | ref c => exact h
    | fn c => exact h
  | exc c fs ρ1 => rw [e] at h; exact h
/-- an expression's meaning, asked as a test -/
theorem DE.toB {t : TE} {f : EX} (h : DE K mg W t f) : DT K mg W (tTest t) f := by
  intro P F H σ ρ Q st hp
  refine h P F H σ ρ _ st ?_
  cases e : f ρ with
  | bad => rw [e] at hp; exact hp
  | ok o ρ1 =>
    rw [e] at hp
    cases o with
    | val d =>
      cases d with
      | bool b =>
        intro F1 H1 v sb st1 x
        exact ⟨b, rep_bool x.rep, hp F1 H1 sb st1⟩
      | none => exact hp.elim
      | int i => exact hp.elim
      | str i => exact hp.elim
      | list i => exact hp.elim
      | tuple i => exact hp.elim
      | dict i => exact hp.elim
      | dictT i => exact hp.elim
      | tag _ i => exact hp.elim
    | emp => exact hp.elim
    | own c => exact hp.elim
    | ref c => exact hp.elim
    | fn c => exact hp.elim
  | exc c fs ρ1 => rw [e] at hp; exact hp
end
/-- a datum's truth -/
def truB : D → Option Bool
  | .none => some false
  | .bool b => some b
  | .int i => some (i != 0)
  | .str y => if y.length ≤ sizeLine then some ((y.length : Int) != 0) else none
  | .list xs => some (!xs.isEmpty)
  | .tuple xs => some (!xs.isEmpty)
  | .dict _ => none
  | .dictT _ => none
  | .tag _ _ => none
def eTru (f : EX) : EX := fun ρ => (f ρ).bindV fun d ρ1 => match truB d.un with
  | some b => .ok (.val (.bool b)) ρ1
  | none => .bad
def eNot (f : EX) : EX := fun ρ => (f ρ).bindB fun b ρ1 => .ok (.val (.bool (!b))) ρ1
def eAnd (f g : EX) : EX := fun ρ => (f ρ).bindB fun b ρ1 => if b = true then g ρ1 else .ok (.val (.bool false)) ρ1
def eOr (f g : EX) : EX := fun ρ => (f ρ).bindB fun b ρ1 => if b = true then .ok (.val (.bool true)) ρ1 else g ρ1
def eIf (c f g : EX) : EX := fun ρ => (c ρ).bindB fun b ρ1 => if b = true then f ρ1 else g ρ1
section
variable {K : PySem.W.Frag} {mg : Str → Option Value} {W : WX}
theorem isEmpty_rep {F : Hp} {ds : List D} {vs : List V} (r : RepL K F ds vs) : (!vs.isEmpty) = !ds.isEmpty := by
  have := r.length
  cases ds <;> cases vs <;> simp_all
theorem tru_rep {F H : Hp} {d : D} {v : V} {b : Bool} (sb : SubH F H) (r : Rep K F d v) (e : truB d = some b) : TruV K v H b := by
  cases d with
  | none => rw [rep_none r]; cases e; rfl
  | bool b => rw [rep_bool r]; cases e; rfl
  | int i => rw [rep_int r]; cases e; rfl
  | str y =>
    rw [rep_str r]
    by_cases hz : y.length ≤ sizeLine
    · simp only [truB, if_pos hz] at e; cases e; exact ⟨hz, rfl⟩
    · simp only [truB, if_neg hz] at e; cases e
  | list xs =>
    obtain ⟨a, vs, rfl, s, l⟩ := rep_list r
    cases e
    exact .inl ⟨vs, SqL.le sb.rd s, (isEmpty_rep l).symm⟩
  | tuple xs =>
    obtain ⟨a, vs, rfl, s, l⟩ := rep_tup r
    cases e
    exact .inr (.inl ⟨vs, SqT.le sb.rd s, (isEmpty_rep l).symm⟩)
  | dict xs => cases e
  | dictT xs => cases e
  | tag _ xs => cases e
theorem dt_tru {t : TE} {f : EX} (h : DE K mg W t f) : DT K mg W (fun σ H Q => t σ H fun x H' => ∃ k, TruV K x H' k ∧ Q k H') (eTru f) := by
  intro P F H σ ρ Q st hp
  refine h P F H σ ρ _ st ?_
  unfold eTru at hp
  cases e : f ρ with
  | bad => rw [e] at hp; exact hp
  | ok o ρ1 =>
    rw [e] at hp
    intro F1 H1 v sb st1 x
    cases z : o.frz with
    | none => simp only [R.bindV, z] at hp; exact hp.elim
    | some d =>
      simp only [R.bindV, z] at hp
      obtain ⟨F2, sb2, st2, r⟩ := st1.freeze x z
      cases y : truB d.un with
      | none => simp only [y] at hp; exact hp.elim
      | some b =>
        simp only [y] at hp
        exact ⟨b, tru_rep st2.sub r.un y, hp F2 H1 (sb.trans sb2) st2⟩
  | exc c fs ρ1 => rw [e] at hp; exact hp
theorem dt_not {t : TT} {f : EX} (h : DT K mg W t f) : DT K mg W (tNot t) (eNot f) := by
  intro P F H σ ρ Q st hp
  exact h.bindT st hp fun F1 H1 b ρ1 sb st1 h1 => h1 F1 H1 (SubH.refl _) st1
theorem dt_and {t u : TT} {f g : EX} (h : DT K mg W t f) (h2 : DT K mg W u g) : DT K mg W (tAnd t u) (eAnd f g) := by
  intro P F H σ ρ Q st hp
  refine h.bindT st hp fun F1 H1 b ρ1 sb st1 h1 => ?_
  cases b with
  | true => exact h2 P F1 H1 σ ρ1 Q st1 h1
  | false => exact h1 F1 H1 (SubH.refl _) st1
theorem dt_or {t u : TT} {f g : EX} (h : DT K mg W t f) (h2 : DT K mg W u g) : DT K mg W (tOr t u) (eOr f g) := by
  intro P F H σ ρ Q st hp
  refine h.bindT st hp fun F1 H1 b ρ1 sb st1 h1 => ?_
  cases b with
  | true => exact h1 F1 H1 (SubH.refl _) st1
  | false => exact h2 P F1 H1 σ ρ1 Q st1 h1
theorem de_if {t : TT} {ta tb : TE} {c f g : EX} (h : DT K mg W t c) (h1 : DE K mg W ta f) (h2 : DE K mg W tb g) : DE K mg W (tIf t ta tb) (eIf c f g) := by
  intro P F H σ ρ Q st hp
  refine h.bind st hp fun F1 H1 b ρ1 sb st1 q => ?_
  cases b with
  | true => exact h1 P F1 H1 σ ρ1 Q st1 q
  | false => exact h2 P F1 H1 σ ρ1 Q st1 q
/-- a bool's expression, bound as a bool -/
theorem DE.bindB {ta : TE} {fa : EX} {k : Bool → Env → R} {Q G : VK} {P : Prot} {F H : Hp} {σ : SS} {ρ : Env} (ha : DE K mg W ta fa) (st : Stt K mg P F H σ ρ) (h : Post K mg W P F σ ((fa ρ).bindB k) Q)
    (hk : ∀ F1 H1 b ρ1, SubH F F1 → Stt K mg P F1 H1 σ ρ1 → Post K mg W P F1 σ (k b ρ1) Q → G (.bl b) H1) : ta σ H G := by
  refine ha P F H σ ρ G st ?_
  cases e : fa ρ with
  | bad => rw [e] at h; exact h
  | ok o ρ1 =>
    rw [e] at h
    cases o with
    | val d =>
      cases d with
      | bool b =>
        intro F1 H1 v sb st1 x
        rw [rep_bool x.rep]
        exact hk F1 H1 b ρ1 sb st1 (Post.le sb h)
      | none => exact h.elim
      | int i => exact h.elim
      | str i => exact h.elim
      | list i => exact h.elim
      | tuple i => exact h.elim
      | dict i => exact h.elim
      | dictT i => exact h.elim
      | tag _ i => exact h.elim
    | emp => exact h.elim
    | own c => exact h.elim
    | ref c => exact h.elim
    | fn c => exact h.elim
  | exc c fs ρ1 => rw [e] at h; exact h
theorem de_and {t u : TE} {f g : EX} (h : DE K mg W t f) (h2 : DE K mg W u g) : DE K mg W (tAndV t u) (eAnd f g) := by
  intro P F H σ ρ Q st hp
  refine h.bindB st hp fun F1 H1 b ρ1 sb st1 h1 => ⟨b, rfl, ?_⟩
  cases b with
  | true => exact h2 P F1 H1 σ ρ1 Q st1 h1
  | false => exact h1 F1 H1 _ (SubH.refl _) st1 (OutOk.val mk_bool)
theorem de_or {t u : TE} {f g : EX} (h : DE K mg W t f) (h2 : DE K mg W u g) : DE K mg W (tOrV t u) (eOr f g) := by
  intro P F H σ ρ Q st hp
  refine h.bindB st hp fun F1 H1 b ρ1 sb st1 h1 => ⟨b, rfl, ?_⟩
  cases b with
  | true => exact h1 F1 H1 _ (SubH.refl _) st1 (OutOk.val mk_bool)
  | false => exact h2 P F1 H1 σ ρ1 Q st1 h1
theorem de_not {t : TE} {f : EX} (h : DE K mg W t f) : DE K mg W (tNotV t) (eNot f) := by
  intro P F H σ ρ Q st hp
  exact h.bindB st hp fun F1 H1 b ρ1 sb st1 h1 => ⟨b, rfl, h1 F1 H1 _ (SubH.refl _) st1 (OutOk.val mk_bool)⟩
end
section
variable {X : Cx} {W : WX} {a b c e : Expr} {rest : List Expr} {pos : Pos} {f g h fa fb fc : EX}
theorem ptd_tru (ha : PD X W a f) (he : ∀ whole, isTrue a X.env whole = (do let v ← whole; standAt a.pos; holding [v] (truthy v)) := by intro _; rfl) : PTD X W a (eTru f) := by
  obtain ⟨t, p, d⟩ := ha.ex
  exact ⟨_, pt_truth p he, dt_tru d⟩
theorem ptd_cmp {op : CmpOp} {gD : D → D → Option Sl} (ho : OpR X (compareOp op) (rOf2 X.K X.mg gD)) (ha : PD X W a fa) (hb : PD X W b fb) (hm : behindInMarks op b = false := by rfl) : PTD X W (.Compare a [op] [b] pos) (eOp gD fa fb) := by
  obtain ⟨ta, pa, da⟩ := ha.ex
  obtain ⟨tb, pb, db⟩ := hb.ex
  exact ⟨_, pt_cmpR ho pa pb hm, (de_op da db).toB⟩
theorem ptd_not (ha : PTD X W a f) : PTD X W (.UnaryOp .Not a pos) (eNot f) := by
  obtain ⟨t, p, d⟩ := ha.ex
  exact ⟨_, pt_not p, dt_not d⟩
/-- a chain of ands, ors, as a test -/
structure PWD (X : Cx) (W : WX) (e : Expr) (f : EX) : Prop where
  ex : ∃ t, PW X e t ∧ DT X.K X.mg W t f
theorem PWD.pt (h : PWD X W e f) : PTD X W e f := by
  obtain ⟨t, p, d⟩ := h.ex
  exact ⟨t, p.pt, d⟩
theorem pwd_and1 (ha : PTD X W a f) : PWD X W (.BoolOp .And [a] pos) f := by
  obtain ⟨t, p, d⟩ := ha.ex
  exact ⟨_, pw_and1 p, d⟩
theorem pwd_or1 (ha : PTD X W a f) : PWD X W (.BoolOp .Or [a] pos) f := by
  obtain ⟨t, p, d⟩ := ha.ex
  exact ⟨_, pw_or1 p, d⟩
theorem pwd_and (ha : PTD X W a f) (hb : PWD X W (.BoolOp .And (b :: rest) pos) g) : PWD X W (.BoolOp .And (a :: b :: rest) pos) (eAnd f g) := by
  obtain ⟨t, p, d⟩ := ha.ex
  obtain ⟨u, q, d2⟩ := hb.ex
  exact ⟨_, pw_and p q, dt_and d d2⟩
theorem pwd_or (ha : PTD X W a f) (hb : PWD X W (.BoolOp .Or (b :: rest) pos) g) : PWD X W (.BoolOp .Or (a :: b :: rest) pos) (eOr f g) := by
  obtain ⟨t, p, d⟩ := ha.ex
  obtain ⟨u, q, d2⟩ := hb.ex
  exact ⟨_, pw_or p q, dt_or d d2⟩
theorem pd_one {op : BoolOp} (ha : PD X W a f) : PD X W (.BoolOp op [a] pos) f := by
  obtain ⟨t, p, d⟩ := ha.ex
  exact ⟨_, pe_one p, d⟩
theorem pd_and (ha : PD X W a f) (hb : PD X W (.BoolOp .And (b :: rest) pos) g) : PD X W (.BoolOp .And (a :: b :: rest) pos) (eAnd f g) := by
  obtain ⟨t, p, d⟩ := ha.ex
  obtain ⟨u, q, d2⟩ := hb.ex
  exact ⟨_, pe_and p q, de_and d d2⟩
theorem pd_or (ha : PD X W a f) (hb : PD X W (.BoolOp .Or (b :: rest) pos) g) : PD X W (.BoolOp .Or (a :: b :: rest) pos) (eOr f g) := by
  obtain ⟨t, p, d⟩ := ha.ex
  obtain ⟨u, q, d2⟩ := hb.ex
  exact ⟨_, pe_or p q, de_or d d2⟩
theorem pd_not (ha : PD X W a f) : PD X W (.UnaryOp .Not a pos) (eNot f) := by
  obtain ⟨t, p, d⟩ := ha.ex
  exact ⟨_, pe_not p, de_not d⟩
theorem pd_if (hc : PTD X W c h) (ha : PD X W a f) (hb : PD X W b g) : PD X W (.IfExp c a b pos) (eIf h f g) := by
  obtain ⟨t, p, d⟩ := hc.ex
  obtain ⟨ta, pa, da⟩ := ha.ex
  obtain ⟨tb, pb, db⟩ := hb.ex
  exact ⟨_, pe_ifExp p pa pb, de_if d da db⟩
/-- a op b op2 c -/
def eChain (g1 g2 : D → D → Option Sl) (fa fb fc : EX) : EX := fun ρ => (fa ρ).bindV fun d ρ1 => (fb ρ1).bindV fun e ρ2 => match g1 d.un e.un with
  | some (.val (.bool b)) => if b = true then (fc ρ2).bindV fun z ρ3 => (match g2 e.un z.un with | some o => .ok o ρ3 | none => .bad) else .ok (.val (.bool false)) ρ2
  | _ => .bad
theorem de_chain {K : PySem.W.Frag} {mg : Str → Option Value} {ta tb tc : TE} {g1 g2 : D → D → Option Sl} (ha : DE K mg W ta fa) (hb : DE K mg W tb fb) (hc : DE K mg W tc fc) : DE K mg W (tChain (rOf2 K mg g1) (rOf2 K mg g2) ta tb tc) (eChain g1 g2 fa fb fc) := by
  intro P F H σ ρ Q st h
  refine ha.bindV st h fun F1 H1 d ρ1 v sb st1 r1 h1 => ?_
  refine hb.bindV st1 h1 fun F2 H2 e ρ2 u sb2 st2 r2 h2 => ?_
  cases z : g1 d.un e.un with
  | none => simp only [z] at h2; exact h2.elim
  | some o =>
    refine ⟨P, F2, σ, ρ2, d.un, e.un, o, st2, (Rep.le sb2.rd d v r1).un, r2.un, z, ?_⟩
    simp only [z] at h2
    split at h2
    · rename_i b eb
      cases eb
      intro F3 H3 w sb3 st3 x
      have ew := rep_bool x.rep
      subst ew
      refine ⟨b, rfl, ?_⟩
      cases b with
      | false => exact (Post.le sb3 h2) F3 H3 _ (SubH.refl _) st3 (OutOk.val mk_bool)
      | true =>
        simp only [if_true] at h2 ⊢
        refine hc.bindV st3 (Post.le sb3 h2) fun F4 H4 y ρ4 w4 sb4 st4 r4 h4 => ?_
        cases z2 : g2 e.un y.un with
        | none => simp only [z2] at h4; exact h4.elim
        | some o2 =>
          simp only [z2] at h4
          exact ⟨P, F4, σ, ρ4, e.un, y.un, o2, st4, (Rep.le (sb3.trans sb4).rd e u r2).un, r4.un, z2, h4⟩
    · exact h2.elim
theorem pd_chain {op op' : CmpOp} {g1 g2 : D → D → Option Sl} (ho : OpR X (compareOp op) (rOf2 X.K X.mg g1)) (ho' : OpR X (compareOp op') (rOf2 X.K X.mg g2)) (ha : PD X W a fa) (hb : PD X W b fb) (hc : PD X W c fc)
    (hm : lastMarks [op, op'] [b, c] = false := by with_unfolding_all rfl) : PD X W (.Compare a [op, op'] [b, c] pos) (eChain g1 g2 fa fb fc) := by
  obtain ⟨ta, pa, da⟩ := ha.ex
  obtain ⟨tb, pb, db⟩ := hb.ex
  obtain ⟨tc, pc, dc⟩ := hc.ex
  exact ⟨_, pe_chain ho ho' pa pb pc hm, de_chain da db dc⟩
theorem ptd_chain {op op' : CmpOp} {g1 g2 : D → D → Option Sl} (ho : OpR X (compareOp op) (rOf2 X.K X.mg g1)) (ho' : OpR X (compareOp op') (rOf2 X.K X.mg g2)) (ha : PD X W a fa) (hb : PD X W b fb) (hc : PD X W c fc)
    (hm : lastMarks [op, op'] [b, c] = false := by with_unfolding_all rfl) : PTD X W (.Compare a [op, op'] [b, c] pos) (eChain g1 g2 fa fb fc) := by
  obtain ⟨ta, pa, da⟩ := ha.ex
  obtain ⟨tb, pb, db⟩ := hb.ex
  obtain ⟨tc, pc, dc⟩ := hc.ex
  exact ⟨_, pt_chain ho ho' pa pb pc hm, (de_chain da db dc).toB⟩
end

/-! ### argument lists -/
def eArgs : List EX → Env → (List D → Env → R) → R
  | [], ρ, k => k [] ρ
  | f :: fs, ρ, k => (f ρ).bindV fun d ρ1 => eArgs fs ρ1 fun ds ρ2 => k (d :: ds) ρ2
def eArgsR : List EX → Env → R
  | [], ρ => .ok (.val (.list [])) ρ
  | f :: fs, ρ => (f ρ).bindV fun d ρ1 => (eArgsR fs ρ1).bindV fun e ρ2 => match e with
    | .list ds => .ok (.val (.list (d :: ds))) ρ2
    | _ => .bad
def R.bindL (r : R) (k : List D → Env → R) : R := match r with
  | .ok (.val (.list ds)) ρ => k ds ρ
  | .exc c fs ρ => .exc c fs ρ
  | _ => .bad
theorem R.bindV_bindL (r : R) (k : D → Env → R) (k2 : List D → Env → R) : (r.bindV k).bindL k2 = r.bindV fun d ρ => (k d ρ).bindL k2 := by
  cases r with
  | bad => rfl
  | exc c fs ρ => rfl
  | ok o ρ =>
    simp only [R.bindV]
    cases o.frz <;> rfl
theorem eArgsR_own : ∀ (fs : List EX) (ρ ρ2 : Env) (c : Cl), eArgsR fs ρ ≠ .ok (.own c) ρ2 := by
  intro fs
  induction fs with
  | nil => intro ρ ρ2 c h; cases h
  | cons f fs ih =>
    intro ρ ρ2 c h
    simp only [eArgsR] at h
    cases e1 : f ρ with
    | bad => rw [e1] at h; cases h
    | exc c fs ρ => rw [e1] at h; cases h
    | ok o ρ1 =>
      rw [e1] at h
      simp only [R.bindV] at h
      cases z : o.frz with
      | none => simp only [z] at h; cases h
      | some d =>
        simp only [z] at h
        cases e2 : eArgsR fs ρ1 with
        | bad => simp only [e2] at h; cases h
        | exc c fs ρ => simp only [e2] at h; cases h
        | ok o2 ρ3 =>
          simp only [e2] at h
          cases z2 : o2.frz with
          | none => simp only [z2] at h; cases h
          | some d2 =>
            simp only [z2] at h
            cases d2 <;> cases h
theorem eArgs_eq : ∀ (fs : List EX) (ρ : Env) (k : List D → Env → R), eArgs fs ρ k = (eArgsR fs ρ).bindL k
  | [], ρ, k => rfl
  | f :: fs, ρ, k => by
    show (f ρ).bindV (fun d ρ1 => eArgs fs ρ1 fun ds ρ2 => k (d :: ds) ρ2) = ((f ρ).bindV fun d ρ1 => (eArgsR fs ρ1).bindV fun e ρ2 => match e with
      | .list ds => .ok (.val (.list (d :: ds))) ρ2
      | _ => .bad).bindL k
    rw [R.bindV_bindL]
    congr 1
    funext d ρ1
    rw [eArgs_eq fs ρ1]
    cases e : eArgsR fs ρ1 with
    | bad => rfl
    | exc c fs ρ => rfl
    | ok o ρ2 =>
      cases o with
      | val x => cases x <;> rfl
      | own c =>
        exact absurd e (eArgsR_own _ _ _ _)
      | emp => rfl
      | ref c => rfl
      | fn c => rfl
def PostA (K : PySem.W.Frag) (mg : Str → Option Value) (W : WX) (P : Prot) (F : Hp) (σ : SS) (n : Nat) (r : R) (G : List V → Hp → Prop) : Prop := match r with
  | .ok (.val (.list ds)) ρ => ∀ F' H' vs, SubH F F' → Stt K mg P F' H' σ ρ → RepL K F' ds vs → ds.length = n → G vs H'
  | .exc c fs ρ => KontX K mg P F σ ρ c fs fun C d H' => W C d σ H'
  | _ => False
def DA (K : PySem.W.Frag) (mg : Str → Option Value) (W : WX) (ta : TA) (fs : List EX) : Prop := ∀ P F H σ ρ G, Stt K mg P F H σ ρ → PostA K mg W P F σ fs.length (eArgsR fs ρ) G → ta σ H G
structure PAD (X : Cx) (W : WX) (es : List Expr) (fs : List EX) : Prop where
  ex : ∃ t, PA X es t ∧ DA X.K X.mg W t fs
section
variable {K : PySem.W.Frag} {mg : Str → Option Value} {W : WX}
theorem DA.bind {ta : TA} {fs : List EX} (ha : DA K mg W ta fs) (P : Prot) (F H : Hp) (σ : SS) (ρ : Env) (k : List D → Env → R) (Q : VK) (G : List V → Hp → Prop) (st : Stt K mg P F H σ ρ) (h : Post K mg W P F σ (eArgs fs ρ k) Q)
    (hk : ∀ F1 H1 ds ρ1 vs, SubH F F1 → Stt K mg P F1 H1 σ ρ1 → RepL K F1 ds vs → ds.length = fs.length → Post K mg W P F1 σ (k ds ρ1) Q → G vs H1) : ta σ H G := by
  refine ha P F H σ ρ G st ?_
  rw [eArgs_eq] at h
  cases e : eArgsR fs ρ with
  | bad => rw [e] at h; exact h
  | exc c gs ρ1 => rw [e] at h; exact h
  | ok o ρ1 =>
    rw [e] at h
    cases o with
    | val d =>
      cases d with
      | list ds => intro F1 H1 vs sb st1 r hl; exact hk F1 H1 ds ρ1 vs sb st1 r hl (Post.le sb h)
      | none => exact h
      | bool i => exact h
      | int i => exact h
      | str i => exact h
      | tuple i => exact h
      | dict i => exact h
      | dictT i => exact h
      | tag _ i => exact h
    | emp => exact h
    | own c => exact h
    | ref c => exact h
    | fn c => exact h
theorem da_nil : DA K mg W tNil [] := fun P F H σ ρ G st h => h F H [] (SubH.refl F) st RepL.nil rfl
theorem da_cons {te : TE} {t : TA} {f : EX} {fs : List EX} (h1 : DE K mg W te f) (h2 : DA K mg W t fs) : DA K mg W (tCons te t) (f :: fs) := by
  intro P F H σ ρ G st h
  refine h1 P F H σ ρ _ st ?_
  simp only [eArgsR] at h
  cases e : f ρ with
  | bad => rw [e] at h; exact h
  | exc c gs ρ1 => rw [e] at h; exact h
  | ok o ρ1 =>
    rw [e] at h
    intro F1 H1 v sb st1 x
    simp only [R.bindV] at h
    cases z : o.frz with
    | none => simp only [z] at h; exact h.elim
    | some d =>
      simp only [z] at h
      obtain ⟨F2, sb2, st2, r⟩ := st1.freeze x z
      refine h2 P F2 H1 σ ρ1 _ st2 ?_
      cases e2 : eArgsR fs ρ1 with
      | bad => simp only [e2] at h; exact h
      | exc c gs ρ3 => simp only [e2] at h; exact fun G H' C dd s => h G H' C dd ((sb.trans sb2).trans s)
      | ok o2 ρ3 =>
        simp only [e2] at h
        cases z2 : o2.frz with
        | none => simp only [z2] at h; exact h.elim
        | some d2 =>
          simp only [z2] at h
          cases o2 with
          | val d3 =>
            cases z2
            cases d2 with
            | list ds =>
              simp only at h
              intro F3 H3 vs sb3 st3 r3 hl
              exact h F3 H3 (v :: vs) ((sb.trans sb2).trans sb3) st3 (RepL.cons (Rep.le sb3.rd d v r) r3) (by simp [hl])
            | none => exact h.elim
            | bool i => exact h.elim
            | int i => exact h.elim
            | str i => exact h.elim
            | tuple i => exact h.elim
            | dict i => exact h.elim
            | dictT i => exact h.elim
            | tag _ i => exact h.elim
          | own c => exact absurd e2 (eArgsR_own _ _ _ _)
          | emp => cases z2
          | ref c => cases z2
          | fn c => cases z2
def eTup (fs : List EX) : EX := fun ρ => eArgs fs ρ fun ds ρ1 => .ok (.val (.tuple ds)) ρ1
def eLst (fs : List EX) : EX := fun ρ => eArgs fs ρ fun ds ρ1 => .ok (.own (.lst ds)) ρ1
theorem de_tup {t : TA} {fs : List EX} (h : DA K mg W t fs) (hz : fs.length ≤ sizeLine) : DE K mg W (tTup t) (eTup fs) := by
  intro P F H σ ρ Q st hp
  refine h.bind P F H σ ρ _ Q _ st hp fun F1 H1 ds ρ1 vs sb st1 r hl q => ⟨by rw [r.length, hl]; exact hz, fun p n => ?_⟩
  exact Kont.newT q st1 r p n
theorem de_lst {t : TA} {fs : List EX} (h : DA K mg W t fs) (hz : fs.length ≤ sizeLine) : DE K mg W (tLst t) (eLst fs) := by
  intro P F H σ ρ Q st hp
  refine h.bind P F H σ ρ _ Q _ st hp fun F1 H1 ds ρ1 vs sb st1 r hl q => ⟨by rw [r.length, hl]; exact hz, fun p n => ?_⟩
  exact Kont.newL q st1 r p n
end
section
variable {X : Cx} {W : WX} {e : Expr} {es : List Expr} {f : EX} {fs : List EX} {pos : Pos}
theorem pad_nil : PAD X W [] [] := ⟨_, pa_nil, da_nil⟩
theorem pad_cons (h1 : PD X W e f) (h2 : PAD X W es fs) (hs : starEach (e :: es) X.env = (false, eval e X.env) :: starEach es X.env := by rfl) : PAD X W (e :: es) (f :: fs) := by
  obtain ⟨t, p, d⟩ := h1.ex
  obtain ⟨u, q, d2⟩ := h2.ex
  exact ⟨_, pa_cons p q hs, da_cons d d2⟩
theorem pd_tup {x1 : Nat} (h : PAD X W es fs) (hz : fs.length ≤ sizeLine := by show _ ≤ _; decide) : PD X W (.Tuple es x1 pos) (eTup fs) := by
  obtain ⟨t, p, d⟩ := h.ex
  exact ⟨_, pe_tup p, de_tup d hz⟩
theorem pd_lst (h : PAD X W es fs) (hz : fs.length ≤ sizeLine := by show _ ≤ _; decide) : PD X W (.List es pos) (eLst fs) := by
  obtain ⟨t, p, d⟩ := h.ex
  exact ⟨_, pe_lst p, de_lst d hz⟩
end

/-! ### subscripts, slices -/
theorem RepL.atI {K : PySem.W.Frag} {F : Hp} {ds : List D} {vs : List V} {i : Int} {d : D} (r : RepL K F ds vs) (e : atI ds i = some d) : ∃ v, atI vs i = some v ∧ Rep K F d v := by
  unfold L2.atI at e ⊢
  rw [r.length]
  cases q : ixN ds.length i with
  | none => rw [q] at e; cases e
  | some j =>
    rw [q] at e
    exact r.get e
def ixD : D → D → Option Sl
  | .list ds, .int i => (atI ds i).map .val
  | .tuple ds, .int i => (atI ds i).map .val
  | .str z, .int i => if z.length ≤ sizeLine then (atI z.cps.toList i).map fun c => .val (.str ⟨#[c]⟩) else none
  | .dict kvs, e => (toKey e).bind fun kk => (lookK kvs kk).map .val
  | _, _ => none
def rIxDk : R2 := fun x y H Q => ∃ a v, x = .ref a ∧ DGet H a y (some v) ∧ Q v H
open PyProof.Rows in
theorem ix_dk {X : Cx} (hu : X.A.units + 1 < cLine) : IxR X rIxDk := by
  intro value slice pins s σ H x y v u Q I rx ry h hs
  obtain ⟨a, z, rfl, g, q⟩ := h
  obtain rfl : v = Value.ref a := rx
  have ty := dict_typeIs I g
  have get := d_getItem (Q := EP X pins σ Q) (E := X.xe) hu I g ry fun w' s3 I3 r3 => ⟨z, H, I3, r3, q⟩
  unfold subscriptTail
  refine wpAny_bind ?_
  rw [getitemInPython_of_ne ty.not_modules]
  have tail : wpAny (model X.prog X.w) X.A (subscripted slice false (Value.ref a) u) (fun r t => wpAny (model X.prog X.w) X.A (letTemporaryGo value (Value.ref a) r >>= fun _ => pure r) (EP X pins σ Q) X.xe t) X.xe s := by
    rw [hs]
    exact wpAny_operating (wpAny_mono get (fun r t ht => wpAny_bind (wpAny_letTemporaryGo (wpAny_pure ht))) fun _ _ z => z)
  refine wpAny_bind (wpAny_specialOf ty PySem.F.slot_dict_getitem.lookup ?_)
  first
    | exact wpAny_pure (wpAny_bind tail)
    | exact wpAny_bind (wpAny_pure (wpAny_bind tail))
    | exact wpAny_bind tail
theorem pd_ix {X : Cx} {W : WX} {a b : Expr} {pos : Pos} {fa fb : EX} (hu : X.A.units + 69 < cLine) (ha : PD X W a fa) (hb : PD X W b fb) (hs : PlainIx b := by exact fun _ _ => rfl) : PD X W (.Subscript a b pos) (eOp ixD fa fb) := by
  obtain ⟨ta, pa, da⟩ := ha.ex
  obtain ⟨tb, pb, db⟩ := hb.ex
  refine ⟨_, pe_ix (ix_seq.or (ix_dk (by omega))) pa pb hs, ?_⟩
  intro P F H σ ρ Q st h
  refine da.bindV st h fun F1 H1 d ρ1 v sb st1 r1 h1 => ?_
  refine db.bindV st1 h1 fun F2 H2 e ρ2 u sb2 st2 r2 h2 => ?_
  have r1' := (Rep.le sb2.rd d v r1).un
  replace r2 := r2.un
  cases z : ixD d.un e.un with
  | none => simp only [z] at h2; exact h2.elim
  | some o =>
    simp only [z] at h2
    generalize d.un = d at *
    generalize e.un = e at *
    unfold ixD at z
    split at z
    · rename_i ds i
      obtain ⟨a, vs, rfl, s, l⟩ := rep_list r1'
      rw [rep_int r2]
      cases q : atI ds i with
      | none => rw [q] at z; cases z
      | some x =>
        rw [q] at z; cases z
        obtain ⟨w, e1, r⟩ := RepL.atI l q
        exact .inl (.inl ⟨a, vs, i, w, rfl, rfl, SqL.le st2.sub.rd s, e1, Kont.here h2 st2 r⟩)
    · rename_i ds i
      obtain ⟨a, vs, rfl, s, l⟩ := rep_tup r1'
      rw [rep_int r2]
      cases q : atI ds i with
      | none => rw [q] at z; cases z
      | some x =>
        rw [q] at z; cases z
        obtain ⟨w, e1, r⟩ := RepL.atI l q
        exact .inl (.inr (.inl ⟨a, vs, i, w, rfl, rfl, SqT.le st2.sub.rd s, e1, Kont.here h2 st2 r⟩))
    · rename_i y i
      split at z
      · rename_i hz
        rw [rep_str r1', rep_int r2]
        cases q : atI y.cps.toList i with
        | none => rw [q] at z; cases z
        | some x =>
          rw [q] at z; cases z
          exact .inl (.inr (.inr ⟨y, i, x, rfl, rfl, hz, q, Kont.here h2 st2 mk_str⟩))
      · cases z
    · rename_i kvs
      cases hk : toKey e with
      | none => simp only [hk, Option.bind_none] at z; cases z
      | some kk =>
        simp only [hk, Option.bind_some] at z
        cases hl : lookK kvs kk with
        | none => rw [hl] at z; cases z
        | some x =>
          rw [hl] at z; cases z
          obtain ⟨a2, o, rfl, g, _, e1⟩ := rep_get st2.sub r1' hk r2
          obtain ⟨w, rfl, r⟩ := e1 x hl
          exact .inr ⟨a2, w, rfl, g, Kont.here h2 st2 r⟩
    · cases z
/-- a slice's part: nothing, or an int -/
inductive Pt where
  | no
  | at (f : EX)
def ePt (p : Pt) (ρ : Env) (k : Option Int → Env → R) : R := match p with
  | .no => k none ρ
  | .at f => (f ρ).bindV fun d ρ1 => match d.un with
    | .int i => k (some i) ρ1
    | _ => .bad
def DO (K : PySem.W.Frag) (mg : Str → Option Value) (W : WX) (t : TO) (p : Pt) : Prop := ∀ P F H σ ρ (k : Option Int → Env → R) Q G, Stt K mg P F H σ ρ → Post K mg W P F σ (ePt p ρ k) Q →
  (∀ F1 H1 i ρ1, SubH F F1 → Stt K mg P F1 H1 σ ρ1 → Post K mg W P F1 σ (k i ρ1) Q → G i H1) → t σ H G
structure POD (X : Cx) (W : WX) (e : Option Expr) (p : Pt) : Prop where
  ex : ∃ t, PO X e t ∧ DO X.K X.mg W t p
theorem pod_no {X : Cx} {W : WX} : POD X W none .no := ⟨_, po_none, fun P F H σ ρ k Q G st h hk => hk F H none ρ (SubH.refl F) st h⟩
theorem pod_at {X : Cx} {W : WX} {e : Expr} {f : EX} (h : PD X W e f) : POD X W (some e) (.at f) := by
  obtain ⟨t, p, d⟩ := h.ex
  refine ⟨_, po_some p, fun P F H σ ρ k Q G st h hk => ?_⟩
  refine d.bindV st h fun F1 H1 d ρ1 v sb st1 r1 h1 => ?_
  replace r1 := r1.un
  generalize d.un = d at *
  cases d with
  | int i => rw [rep_int r1]; exact ⟨i, rfl, hk F1 H1 (some i) ρ1 sb st1 h1⟩
  | none => exact h1.elim
  | bool i => exact h1.elim
  | str i => exact h1.elim
  | list i => exact h1.elim
  | tuple i => exact h1.elim
  | dict i => exact h1.elim
  | dictT i => exact h1.elim
  | tag _ i => exact h1.elim
def cutL {α : Type} (xs : List α) (lo hi : Option Int) : List α := (xs.drop (HT.sIx xs.length 0 lo)).take (HT.sIx xs.length xs.length hi - HT.sIx xs.length 0 lo)
theorem RepL.cut {K : PySem.W.Frag} {F : Hp} {ds : List D} {vs : List V} {lo hi : Option Int} (r : RepL K F ds vs) : RepL K F (cutL ds lo hi) (cutV vs lo hi) := by
  unfold cutL cutV
  rw [r.length]
  exact (r.drop _).take _
def slD (d : D) (lo hi : Option Int) : Option Sl := match d with
  | .list ds => some (.own (.lst (cutL ds lo hi)))
  | .tuple ds => some (.val (.tuple (cutL ds lo hi)))
  | .str z => if z.length ≤ sizeLine then some (.val (.str (cutS z lo hi))) else none
  | _ => none
def eSl (f : EX) (lo hi : Pt) : EX := fun ρ => (f ρ).bindV fun d ρ1 => ePt lo ρ1 fun i ρ2 => ePt hi ρ2 fun j ρ3 => match slD d.un i j with
  | some o => .ok o ρ3
  | none => .bad
theorem cutL_whole {α : Type} {xs : List α} {lo hi : Option Int} (h : HT.sIx xs.length 0 lo = 0 ∧ HT.sIx xs.length xs.length hi = xs.length) : cutL xs lo hi = xs := by
  unfold cutL
  rw [h.1, h.2]
  simp
theorem pd_sl {X : Cx} {W : WX} {e : Expr} {lo hi : Option Expr} {p2 pos : Pos} {f : EX} {pl ph : Pt} (he : PD X W e f) (hl : POD X W lo pl) (hh : POD X W hi ph) : PD X W (.Subscript e (.Slice lo hi none p2) pos) (eSl f pl ph) := by
  obtain ⟨te, pe, de⟩ := he.ex
  obtain ⟨tl, pl', dl⟩ := hl.ex
  obtain ⟨th, ph', dh⟩ := hh.ex
  refine ⟨_, pe_slice (SlR.or sl_list (SlR.or sl_tupA sl_str)) pe pl' ph', ?_⟩
  intro P F H σ ρ Q st h
  refine de.bindV st h fun F1 H1 d ρ1 v sb st1 r1 h1 => ?_
  refine dl P F1 H1 σ ρ1 _ Q _ st1 h1 fun F2 H2 i ρ2 sb2 st2 h2 => ?_
  refine dh P F2 H2 σ ρ2 _ Q _ st2 h2 fun F3 H3 j ρ3 sb3 st3 h3 => ?_
  have r1' := (Rep.le (sb2.trans sb3).rd d v r1).un
  cases z : slD d.un i j with
  | none => simp only [z] at h3; exact h3.elim
  | some o =>
    simp only [z] at h3
    generalize d.un = d at *
    unfold slD at z
    split at z
    · rename_i ds
      cases z
      obtain ⟨a, vs, rfl, s, l⟩ := rep_list r1'
      exact .inl ⟨a, vs, rfl, SqL.le st3.sub.rd s, Kont.newL h3 st3 l.cut⟩
    · rename_i ds
      cases z
      obtain ⟨a, vs, rfl, s, l⟩ := rep_tup r1'
      refine .inr (.inl ⟨a, vs, rfl, SqT.le st3.sub.rd s, fun hw => ?_, fun _ => Kont.newT h3 st3 l.cut⟩)
      rw [l.length] at hw
      rw [cutL_whole hw] at h3
      exact Kont.here h3 st3 (mk_tup s l)
    · split at z
      · rename_i y hz
        cases z
        rw [rep_str r1']
        exact .inr (.inr ⟨y, rfl, hz, Kont.here h3 st3 mk_str⟩)
      · cases z
    · cases z

/-! ### calls of built-ins -/
def rOfN (K : PySem.W.Frag) (mg : Str → Option Value) (g : List D → Option Sl) : List V → Hp → VK → Prop := fun xs H Q => ∃ P F σ ρ ds o, Stt K mg P F H σ ρ ∧ RepL K F ds xs ∧ g ds = some o ∧ Kont K mg P F σ ρ o Q
def eCB (g : List D → Option Sl) (fs : List EX) : EX := fun ρ => eArgs fs ρ fun ds ρ1 => match g (ds.map D.un) with
  | some o => .ok o ρ1
  | none => .bad
theorem de_cb {K : PySem.W.Frag} {mg : Str → Option Value} {W : WX} {t : TA} {fs : List EX} {g : List D → Option Sl} (h : DA K mg W t fs) : DE K mg W (tCB (rOfN K mg g) t) (eCB g fs) := by
  intro P F H σ ρ Q st hp
  refine h.bind P F H σ ρ _ Q _ st hp fun F1 H1 ds ρ1 vs sb st1 r hl q => ?_
  cases z : g (ds.map D.un) with
  | none => simp only [z] at q; exact q.elim
  | some o =>
    simp only [z] at q
    exact ⟨P, F1, σ, ρ1, ds.map D.un, o, st1, r.un, z, q⟩
section
variable {X : Cx} {W : WX} {x : Str} {p pos : Pos} {e : Expr} {es : List Expr} {fs : List EX} {id T : String} {g : List D → Option Sl}
theorem pd_callB (hc : CallR X (.builtin id) (rOfN X.K X.mg g)) (hm : X.mg x = none) (hv : bootBuiltins x = some (.builtin id)) (ha : PAD X W (e :: es) fs) (hg : Gl X x := by rfl) (hn : x ≠ "__name__" := by decide) (hdb : (x == ("__debug__" : Str)) = false := by decide)
    (he : starEach (e :: es) X.env = (false, eval e X.env) :: starEach es X.env := by rfl) (hpl : (backTo pos (starEach es X.env)).any (·.1) = false := by rfl) : PD X W (.Call (.Name x p) (e :: es) [] pos) (eCB g fs) := by
  obtain ⟨t, pa, da⟩ := ha.ex
  exact ⟨_, pe_callB hc hg hm hv pa hn hdb he hpl, de_cb da⟩
theorem pd_callTy (hc : CallR X (.type T) (rOfN X.K X.mg g)) (hm : X.mg x = none) (hv : bootBuiltins x = some (.type T)) (ha : PAD X W (e :: es) fs) (hg : Gl X x := by rfl) (hn : x ≠ "__name__" := by decide) (hdb : (x == ("__debug__" : Str)) = false := by decide)
    (he : starEach (e :: es) X.env = (false, eval e X.env) :: starEach es X.env := by rfl) (hpl : (backTo pos (starEach es X.env)).any (·.1) = false := by rfl) : PD X W (.Call (.Name x p) (e :: es) [] pos) (eCB g fs) := by
  obtain ⟨t, pa, da⟩ := ha.ex
  exact ⟨_, pe_callTy hc hg hm hv pa hn hdb he hpl, de_cb da⟩
end
end Dk

set_option Elab.async false
set_option linter.all false
set_option maxRecDepth 100000
set_option maxHeartbeats 4000000
/-! Dk5: statements by data -/
namespace Dk
open PySem PySem.Spec L2

def R.bs (r : R) (k : Sl → Env → SR) : SR := match r with
  | .ok o ρ => k o ρ
  | .bad => .bad
  | .exc c fs ρ => .exc c fs ρ
def R.bsB (r : R) (k : Bool → Env → SR) : SR := match r with
  | .ok (.val (.bool b)) ρ => k b ρ
  | .exc c fs ρ => .exc c fs ρ
  | _ => .bad
@[simp] theorem R.bs_ok (o : Sl) (ρ : Env) (k : Sl → Env → SR) : (R.ok o ρ).bs k = k o ρ := Eq.trans rfl rfl
@[simp] theorem R.bs_exc (c : Str) (fs : List (Str × D)) (ρ : Env) (k : Sl → Env → SR) : (R.exc c fs ρ).bs k = .exc c fs ρ := Eq.trans rfl rfl
@[simp] theorem R.bsB_ok (b : Bool) (ρ : Env) (k : Bool → Env → SR) : (R.ok (.val (.bool b)) ρ).bsB k = k b ρ := Eq.trans rfl rfl
@[simp] theorem R.bsB_exc (c : Str) (fs : List (Str × D)) (ρ : Env) (k : Bool → Env → SR) : (R.exc c fs ρ).bsB k = .exc c fs ρ := Eq.trans rfl rfl
/-- a value as a slot keeps it: a datum, a def -/
def Sl.toVal : Sl → Option Sl
  | .val d => some (.val d)
  | .own c => some (.val c.frz)
  | .fn x => some (.fn x)
  | _ => none
section
variable {K : PySem.W.Frag} {mg : Str → Option Value} {W : WX} {P : Prot} {F F' H : Hp} {σ : SS} {ρ : Env}
def PostS (K : PySem.W.Frag) (mg : Str → Option Value) (W : WX) (P : Prot) (F : Hp) (r : SR) (D : Ends) : Prop := match r with
  | .bad => False
  | .nx ρ => ∀ F' H' σ', SubH F F' → Stt K mg P F' H' σ' ρ → D.nx σ' H'
  | .ret o ρ => ∀ F' H' σ' v, SubH F F' → Stt K mg P F' H' σ' ρ → OutOk K mg P F' H' σ' ρ v o → D.rt v H'
  | .brk ρ => ∀ F' H' σ', SubH F F' → Stt K mg P F' H' σ' ρ → D.bk σ' H'
  | .ct ρ => ∀ F' H' σ', SubH F F' → Stt K mg P F' H' σ' ρ → D.ct σ' H'
  | .exc c fs ρ => ∀ F' H' σ' C dd, SubH F F' → Stt K mg P F' H' σ' ρ → ExcOk K mg F' C dd c fs → W (.ref C) (some dd) σ' H'
theorem PostS.le {r : SR} {D : Ends} (h : SubH F F') (k : PostS K mg W P F r D) : PostS K mg W P F' r D := by
  cases r with
  | bad => exact k
  | nx ρ => exact fun G H' σ' s => k G H' σ' (h.trans s)
  | ret o ρ => exact fun G H' σ' v s => k G H' σ' v (h.trans s)
  | brk ρ => exact fun G H' σ' s => k G H' σ' (h.trans s)
  | ct ρ => exact fun G H' σ' s => k G H' σ' (h.trans s)
  | exc c fs ρ => exact fun G H' σ' C dd s => k G H' σ' C dd (h.trans s)
def DS (K : PySem.W.Frag) (mg : Str → Option Value) (W : WX) (t : TS) (f : SX) : Prop := ∀ P F H σ ρ D, Stt K mg P F H σ ρ → PostS K mg W P F (f ρ) D → t D σ H
theorem DE.bs {ta : TE} {fa : EX} {k : Sl → Env → SR} {D : Ends} {G : VK} (ha : DE K mg W ta fa) (st : Stt K mg P F H σ ρ) (h : PostS K mg W P F ((fa ρ).bs k) D)
    (hk : ∀ F1 H1 o ρ1 v, SubH F F1 → Stt K mg P F1 H1 σ ρ1 → OutOk K mg P F1 H1 σ ρ1 v o → PostS K mg W P F1 (k o ρ1) D → G v H1) : ta σ H G := by
  refine ha P F H σ ρ G st ?_
  cases e : fa ρ with
  | bad => rw [e] at h; exact h
  | ok o ρ1 =>
    rw [e] at h
    intro F1 H1 v sb st1 x
    exact hk F1 H1 o ρ1 v sb st1 x (PostS.le sb h)
  | exc c fs ρ1 => rw [e] at h; exact fun F1 H1 C dd sb st1 x => h F1 H1 σ C dd sb st1 x
theorem DT.bs {ta : TT} {fa : EX} {k : Bool → Env → SR} {D : Ends} {G : Bool → Hp → Prop} (ha : DT K mg W ta fa) (st : Stt K mg P F H σ ρ) (h : PostS K mg W P F ((fa ρ).bsB k) D)
    (hk : ∀ F1 H1 b ρ1, SubH F F1 → Stt K mg P F1 H1 σ ρ1 → PostS K mg W P F1 (k b ρ1) D → G b H1) : ta σ H G := by
  refine ha P F H σ ρ G st ?_
  cases e : fa ρ with
  | bad => rw [e] at h; exact h
  | ok o ρ1 =>
    rw [e] at h
    cases o with
    | val d =>
      cases d with
      | bool b => intro F1 H1 sb st1; exact hk F1 H1 b ρ1 sb st1 (PostS.le sb h)
      | none => exact h
      | int i => exact h
      | str i => exact h
      | list i => exact h
      | tuple i => exact h
      | dict i => exact h
      | dictT i => exact h
      | tag _ i => exact h
    | emp => exact h
    | own c => exact h
    | ref c => exact h
    | fn c => exact h
  | exc c fs ρ1 => rw [e] at h; exact fun F1 H1 C dd sb st1 x => h F1 H1 σ C dd sb st1 x
/-- to a value that a slot keeps -/
theorem Stt.toVal (st : Stt K mg P F H σ ρ) {v : V} {s s' : Sl} (x : OutOk K mg P F H σ ρ v s) (e : s.toVal = some s') : ∃ F', SubH F F' ∧ Stt K mg P F' H σ ρ ∧ OutOk K mg P F' H σ ρ v s' ∧ s'.isOwn = false := by
  cases s with
  | val d => cases e; exact ⟨F, SubH.refl F, st, x, rfl⟩
  | fn y => cases e; exact ⟨F, SubH.refl F, st, x, rfl⟩
  | own c =>
    cases e
    obtain ⟨F', sb, st', r⟩ := st.freeze x (d := c.frz) rfl
    exact ⟨F', sb, st', OutOk.val r, rfl⟩
  | emp => cases e
  | ref c => cases e
end

/-! ### stores -/
def setSl (i : Nat) (s : Sl) (ρ : Env) : Option Env := match ρ[i]? with
  | some (.ref _) => none
  | some _ => some (ρ.set i s)
  | none => none
section
variable {K : PySem.W.Frag} {mg : Str → Option Value} {W : WX} {P : Prot} {F H : Hp} {σ : SS} {ρ ρ' : Env}
theorem Owns.set_ne {i j : Nat} {a : Addr} {s : Sl} {o : Option V} (h : i ≠ j) (w : Owns (σ.set i o) (ρ.set i s) j a) : Owns σ ρ j a := by
  obtain ⟨⟨s', e, w'⟩, q⟩ := w
  rw [List.getElem?_set_ne h] at e
  rw [List.getElem?_set_ne h] at q
  exact ⟨⟨s', e, w'⟩, q⟩
theorem Stt.store (st : Stt K mg P F H σ ρ) {i : Nat} {s : Sl} {v : V} (hr : s.isRef = false) (x : SlOk K mg P F H (some v) s) (fr : s.isOwn = true → ∀ (j : Nat) (a : Addr), v = .ref a → ¬ Owns σ ρ j a) (e : setSl i s ρ = some ρ') : Stt K mg P F H (σ.set i (some v)) ρ' := by
  unfold setSl at e
  cases q : ρ[i]? with
  | none => simp only [q] at e; cases e
  | some s0 =>
    have hi : i < ρ.length := by
      rcases Nat.lt_or_ge i ρ.length with h | h
      · exact h
      · rw [List.getElem?_eq_none h] at q; cases q
    have hσ : i < σ.length := by rw [st.len]; exact hi
    have nr : s0.isRef = false ∧ ρ' = ρ.set i s := by
      cases s0 <;> simp only [q] at e <;> first | (cases e; exact ⟨rfl, rfl⟩) | cases e
    obtain ⟨nr, rfl⟩ := nr
    have own_i : ∀ a, Owns (σ.set i (some v)) (ρ.set i s) i a → s.isOwn = true ∧ v = .ref a := fun a w => by
      obtain ⟨⟨s', e1, w'⟩, q1⟩ := w
      rw [List.getElem?_set_self hi] at e1; cases e1
      rw [List.getElem?_set_self hσ] at q1; cases q1
      exact ⟨w', rfl⟩
    refine ⟨st.sub, st.keep, by simp [st.len], fun j s' e1 => ?_, fun j k a w1 w2 => ?_, fun j u e1 => ?_⟩
    · by_cases h : i = j
      · subst h
        rw [List.getElem?_set_self hi] at e1; cases e1
        rw [getD_of (v := v) (List.getElem?_set_self hσ)]
        exact x
      · rw [List.getElem?_set_ne h] at e1
        have := st.sl j s' e1
        rw [show (σ.set i (some v)).getD j none = σ.getD j none by simp [List.getD, List.getElem?_set_ne h]]
        exact this
    · by_cases h1 : i = j
      · subst h1
        by_cases h2 : i = k
        · exact h2
        · obtain ⟨z1, z2⟩ := own_i a w1
          exact absurd (w2.set_ne h2) (fr z1 k a z2)
      · by_cases h2 : i = k
        · subst h2
          obtain ⟨z1, z2⟩ := own_i a w2
          exact absurd (w1.set_ne h1) (fr z1 j a z2)
        · exact st.apart j k a (w1.set_ne h1) (w2.set_ne h2)
    · obtain ⟨z1, s', z2, z3⟩ := st.pin j u e1
      by_cases h : i = j
      · subst h
        rw [q] at z2; cases z2; rw [nr] at z3; cases z3
      · rw [List.getElem?_set_ne h, List.getElem?_set_ne h]
        exact ⟨z1, s', z2, z3⟩
end

/-! ### targets by data -/
/-- the slots but those of ts are as they were -/
def Agree (ts : List Nat) (σ σ' : SS) : Prop := σ'.length = σ.length ∧ ∀ j, j ∉ ts → σ'[j]? = σ[j]?
theorem Agree.refl (ts : List Nat) (σ : SS) : Agree ts σ σ := ⟨rfl, fun _ _ => rfl⟩
theorem Agree.trans {ts us : List Nat} {a b c : SS} (x : Agree ts a b) (y : Agree us b c) : Agree (ts ++ us) a c := ⟨y.1.trans x.1, fun j h => by
  rw [List.mem_append, not_or] at h
  exact (y.2 j h.2).trans (x.2 j h.1)⟩
/-- a store into a target, by data; ts: the slots it touches -/
structure Tg where
  h : D → Env → Option Env
  ts : List Nat
structure Tgs where
  h : List D → Env → Option Env
  ts : List Nat
def DG (K : PySem.W.Frag) (mg : Str → Option Value) (g : TG) (h : Tg) : Prop := ∀ P F H σ ρ ρ' d v Q, Stt K mg P F H σ ρ → Rep K F d v → h.h d ρ = some ρ' → (∀ σ', Stt K mg P F H σ' ρ' → Agree h.ts σ σ' → Q σ' H) → g v σ H Q
def DGs (K : PySem.W.Frag) (mg : Str → Option Value) (g : TGs) (h : Tgs) : Prop := ∀ P F H σ ρ ρ' ds vs Q, Stt K mg P F H σ ρ → RepL K F ds vs → h.h ds ρ = some ρ' → (∀ σ', Stt K mg P F H σ' ρ' → Agree h.ts σ σ' → Q σ' H) → g vs σ H Q
structure PGD (X : Cx) (tg : Expr) (h : Tg) : Prop where
  ex : ∃ g, PG X tg g ∧ DG X.K X.mg g h
structure PGsD (X : Cx) (tg : List Expr) (h : Tgs) : Prop where
  ex : ∃ g, PGs X tg g ∧ DGs X.K X.mg g h
def gN (i : Nat) : Tg := ⟨fun d ρ => setSl i (.val d) ρ, [i]⟩
def gsN : Tgs := ⟨fun ds ρ => match ds with
  | [] => some ρ
  | _ => none, []⟩
def gsC (h : Tg) (hs : Tgs) : Tgs := ⟨fun ds ρ => match ds with
  | d :: r => (h.h d ρ).bind fun ρ1 => hs.h r ρ1
  | [] => none, h.ts ++ hs.ts⟩
def gT (n : Nat) (hs : Tgs) : Tg := ⟨fun d ρ => match d.un with
  | .tuple ds => if ds.length = n then hs.h ds ρ else none
  | .list ds => if ds.length = n then hs.h ds ρ else none
  | _ => none, hs.ts⟩
section
variable {prog : Program} {w : World} {A : Around} {E : Value → Shared → Prop} {s : Shared}
open PyProof.Rows in
/-- a list taken apart into names -/
theorem draw_list {it t : Addr} {items : Array Value} (hne : t ≠ it) : ∀ (n i : Nat) (s : Shared) (Q : List Value → Shared → Prop), s.heap.IsListIter it t i → s.heap.IsList t items → i + n ≤ items.size →
    (∀ h', h'.IsListIter it t (i + n) → Heap.SameBut it s.heap h' → Q ((items.toList.drop i).take n) { s with heap := h' }) → wpAny (model prog w) A (draw (.ref it) n) Q E s
  | 0, i, s, Q, hit, _, _, hQ => by
    show wpAny _ _ (pure []) Q E s
    exact wpAny_pure (by simpa using hQ s.heap hit (Heap.SameBut.refl ..))
  | n + 1, i, s, Q, hit, ht, hle, hQ => by
    have hlt : i < items.size := by omega
    show wpAny _ _ (pyNext (.ref it) >>= _) Q E s
    refine wpAny_bind (wpAny_pyNext_list_item hit ht (x := items[i]) (by simp [hlt]) fun h₁ hit₁ hs₁ => ?_)
    refine wpAny_bind (wpAny_holding (draw_list hne n (i + 1) _ _ hit₁ (ht.extBut hs₁.extBut hne) (by omega) fun h₂ hit₂ hs₂ => wpAny_pure ?_))
    have hd : items.toList.drop i = items[i] :: items.toList.drop (i + 1) := by simp [List.drop_eq_getElem_cons, hlt]
    have := hQ h₂ (by rw [show i + (n + 1) = i + 1 + n by omega]; exact hit₂) (hs₁.trans hs₂)
    rw [hd, List.take_succ_cons] at this
    exact this
theorem unpackItems_list {t : Addr} {items : Array Value} {Q : List Value → Shared → Prop} (hh : A.handled = none) (ht : s.heap.IsList t items)
    (hQ : ∀ h', Heap.ExtBut s.heap.objs.size s.heap h' → Q items.toList { s with heap := h' }) : wpAny (model prog w) A (unpackItems (.ref t) items.size none) Q E s := by
  have hlt : t ≠ s.heap.objs.size := by obtain ⟨o, ho, _⟩ := ht; exact Nat.ne_of_lt (Heap.lt_size ho)
  unfold unpackItems
  refine wpAny_bind ?_
  · unfold notIterableAtAll
    refine wpAny_bind (wpAny_specialOf ht.typeIs slot_list_iter.lookup ?_)
    refine wpAny_pure ?_
    simp only [Bool.false_eq_true, if_false]
    refine wpAny_bind (wpAny_holding (wpAny_pyIter_list ht ?_))
    refine wpAny_bind (wpAny_holding (draw_list hlt items.size 0 _ _ ⟨_, Heap.get?_push_size _ rfl, rfl, rfl⟩ (ht.push _) (by omega) fun h₁ hit₁ hs₁ => ?_))
    have hall : List.take items.size (List.drop 0 items.toList) = items.toList := by
      rw [List.drop_zero]; exact List.take_of_length_le (by simp)
    rw [hall]
    rw [if_neg (by simp)]
    have ht₁ : h₁.IsList t items := (ht.push _).extBut hs₁.extBut hlt
    refine wpAny_bind (wpAny_holding (wpAny_pyNext_list_end hh hit₁ ht₁ (by simp) fun h₂ he₂ => ?_))
    simp only [Option.isSome_none, Bool.false_eq_true, if_false]
    refine wpAny_pure (hQ h₂ fun b o hb e => he₂ b o hb (hs₁.extBut b o hb (Heap.get?_push_of_some _ e)))
theorem assign_Tuple_list {env : PySem.Env} {elts : List Expr} {x1} {pos : Pos} {t : Addr} {items : Array Value} {Q : Unit → Shared → Prop} (hh : A.handled = none) (ht : s.heap.IsList t items)
    (hn : (assignEach elts env).length = items.size) (hstar : (assignEach elts env).findIdx? (·.1) = none)
    (h : ∀ h', Heap.ExtBut s.heap.objs.size s.heap h' → wpAny (model prog w) A (assignInOrder ((assignEach elts env).map (·.2)) items.toList) Q E { s with heap := h' }) :
    wpAny (model prog w) A (assign (.Tuple elts x1 pos) env (.ref t)) Q E s := by
  rw [PyProof.Rows.assign_Tuple]
  refine wpAny_bind (wpAny_standAt ?_)
  unfold unpack
  rw [hn, hstar]
  exact wpAny_bind (wpAny_holding (unpackItems_list hh ht h))
end
section
variable {X : Cx} {pos : Pos}
def gTupX (K : PySem.W.Frag) (n : Nat) (t : TGs) : TG := fun v σ H Q => ∃ a xs, v = .ref a ∧ (SqT K H a xs ∨ SqL K H a xs) ∧ xs.length = n ∧ t xs σ H Q
theorem pg_tupX {es : List Expr} {k : Nat} {t : TGs} {n : Nat} (hc : X.calm = true) (h : PGs X es t)
    (hn : (assignEach es X.env).length = n := by rfl) (hst : (assignEach es X.env).findIdx? (·.1) = none := by rfl) : PG X (.Tuple es k pos) (gTupX X.K n t) := by
  refine ⟨fun pins s σ H v u Q I r hw => ?_⟩
  obtain ⟨a, xs, e1, hq | hq, hl, hw⟩ := hw
  · exact (pg_tup hc h hn hst).run pins s σ H v u Q I r ⟨a, xs, e1, hq, hl, hw⟩
  · subst e1
    cases r
    obtain ⟨its, rv, ht, hz⟩ := I.list hq
    refine assign_Tuple_list (I.ok.hd hc) ht.isList (by simp [hn, ← hl, rv.length]) hst fun h' hx => ?_
    have I1 : Inv X pins σ H { s with heap := h' } := I.kept (t' := s.toks) fun b o e => hx b o (Nat.ne_of_lt (Heap.lt_size e)) e
    exact h.run pins _ σ H xs _ Q I1 (by simpa using rv) hw
end
section
variable {X : Cx} {pos : Pos}
theorem dg_name (K : PySem.W.Frag) (mg : Str → Option Value) (i : Nat) : DG K mg (gName i) (gN i) := fun P F H σ ρ ρ' d v Q st r e k => k _ (st.store (s := .val d) rfl ⟨v, rfl, r⟩ (fun z => by cases z) e) ⟨by simp, fun j hj => List.getElem?_set_ne (fun z => hj (by subst z; exact List.mem_cons_self))⟩
theorem pgd_name {i : Nat} {x : Str} (hN : X.N.Nodup) (hi : X.N[i]? = some x) (hx : Loc X.env.scope x) (hf : X.fn x = true ∨ X.env.scope.names.lookup x = some .local := by first | exact .inl rfl | exact .inr rfl | assumption) : PGD X (.Name x pos) (gN i) := ⟨_, pg_name hN hi hx hf, dg_name _ _ i⟩
theorem pgsd_nil : PGsD X [] gsN := ⟨_, pgs_nil, fun P F H σ ρ ρ' ds vs Q st r e k => by
  cases ds with
  | nil => cases e; unfold RepL at r; exact ⟨r, k σ st (Agree.refl _ _)⟩
  | cons _ _ => cases e⟩
theorem pgsd_cons {e : Expr} {es : List Expr} {h : Tg} {hs : Tgs} (h1 : PGD X e h) (h2 : PGsD X es hs) (hst : (assignEach (e :: es) X.env).map (·.2) = assign e X.env :: (assignEach es X.env).map (·.2) := by rfl) : PGsD X (e :: es) (gsC h hs) := by
  obtain ⟨g, p, d⟩ := h1.ex
  obtain ⟨u, q, d2⟩ := h2.ex
  refine ⟨_, pgs_cons p q hst, fun P F H σ ρ ρ' ds vs Q st r e k => ?_⟩
  cases ds with
  | nil => cases e
  | cons x ds =>
    unfold RepL at r
    obtain ⟨v, ws, rfl, r1, r2⟩ := r
    simp only [gsC] at e
    cases z : h.h x ρ with
    | none => rw [z] at e; cases e
    | some ρ1 =>
      rw [z] at e
      exact ⟨v, ws, rfl, d P F H σ ρ ρ1 x v _ st r1 z fun σ' st' a1 => d2 P F H σ' ρ1 ρ' ds ws Q st' r2 e fun σ2 st2 a2 => k σ2 st2 (a1.trans a2)⟩
theorem pgd_tup {es : List Expr} {k n : Nat} {hs : Tgs} (h : PGsD X es hs) (hc : X.calm = true := by rfl) (hn : (assignEach es X.env).length = n := by rfl) (hst : (assignEach es X.env).findIdx? (·.1) = none := by rfl) : PGD X (.Tuple es k pos) (gT n hs) := by
  obtain ⟨u, q, d⟩ := h.ex
  refine ⟨_, pg_tupX hc q hn hst, fun P F H σ ρ ρ' x v Q st r e kk => ?_⟩
  simp only [gT] at e
  replace r := r.un
  generalize x.un = x at *
  split at e
  · split at e
    · rename_i ds hl
      obtain ⟨a, vs, rfl, s, l⟩ := rep_tup r
      exact ⟨a, vs, rfl, .inl (SqT.le st.sub.rd s), by rw [l.length, hl], d P F H σ ρ ρ' ds vs Q st l e kk⟩
    · cases e
  · split at e
    · rename_i ds hl
      obtain ⟨a, vs, rfl, s, l⟩ := rep_list r
      exact ⟨a, vs, rfl, .inr (SqL.le st.sub.rd s), by rw [l.length, hl], d P F H σ ρ ρ' ds vs Q st l e kk⟩
    · cases e
  · cases e
end

/-! ### statements -/
def sNx : SX := fun ρ => .nx ρ
def sSeq (f g : SX) : SX := fun ρ => match f ρ with
  | .nx ρ' => g ρ'
  | r => r
def sAsg (i : Nat) (f : EX) : SX := fun ρ => (f ρ).bs fun o ρ1 => match o.toVal with
  | some s => (match setSl i s ρ1 with | some ρ2 => .nx ρ2 | none => .bad)
  | none => .bad
/-- the slot gets an object of its own -/
def sAsgO (i : Nat) (f : EX) : SX := fun ρ => (f ρ).bs fun o ρ1 => match o with
  | .own c => (match setSl i (.own c) ρ1 with | some ρ2 => .nx ρ2 | none => .bad)
  | _ => .bad
def sTgt (h : Tg) (f : EX) : SX := fun ρ => (f ρ).bs fun o ρ1 => match o.frz with
  | some d => (match h.h d ρ1 with | some ρ2 => .nx ρ2 | none => .bad)
  | none => .bad
def sDrop (f : EX) : SX := fun ρ => (f ρ).bs fun _ ρ1 => .nx ρ1
def sRet (f : EX) : SX := fun ρ => (f ρ).bs fun o ρ1 => .ret o ρ1
def sIf (c : EX) (f g : SX) : SX := fun ρ => (c ρ).bsB fun b ρ1 => if b = true then f ρ1 else g ρ1
def sBrk : SX := fun ρ => .brk ρ
def sCt : SX := fun ρ => .ct ρ
section
variable {K : PySem.W.Frag} {mg : Str → Option Value} {W : WX}
theorem ds_nx : DS K mg W tNext sNx := fun P F H σ ρ D st h => h F H σ (SubH.refl F) st
theorem ds_seq {t u : TS} {f g : SX} (h1 : DS K mg W t f) (h2 : DS K mg W u g) : DS K mg W (tSeq t u) (sSeq f g) := by
  intro P F H σ ρ D st h
  refine h1 P F H σ ρ _ st ?_
  unfold sSeq at h
  cases e : f ρ with
  | nx ρ' =>
    simp only [e] at h
    intro F1 H1 σ1 sb st1
    exact h2 P F1 H1 σ1 ρ' D st1 (PostS.le sb h)
  | bad => simp only [e] at h; exact h
  | ret o ρ' => simp only [e] at h; exact h
  | brk ρ' => simp only [e] at h; exact h
  | ct ρ' => simp only [e] at h; exact h
  | exc c fs ρ' => simp only [e] at h; exact h
theorem ds_asg {te : TE} {f : EX} (i : Nat) (h : DE K mg W te f) : DS K mg W (tAsg te (gName i)) (sAsg i f) := by
  intro P F H σ ρ D st hp
  refine h.bs st hp fun F1 H1 o ρ1 v sb st1 x q => ?_
  cases e : o.toVal with
  | none => simp only [e] at q; exact q.elim
  | some s =>
    simp only [e] at q
    cases z : setSl i s ρ1 with
    | none => simp only [z] at q; exact q.elim
    | some ρ2 =>
      simp only [z] at q
      obtain ⟨F2, sb2, st2, x2, no⟩ := st1.toVal x e
      exact q F2 H1 _ sb2 (st2.store x2.nr x2.sl (fun w => by rw [no] at w; cases w) z)
theorem ds_asgO {te : TE} {f : EX} (i : Nat) (h : DE K mg W te f) : DS K mg W (tAsg te (gName i)) (sAsgO i f) := by
  intro P F H σ ρ D st hp
  refine h.bs st hp fun F1 H1 o ρ1 v sb st1 x q => ?_
  cases o with
  | own c =>
    simp only at q
    cases z : setSl i (.own c) ρ1 with
    | none => simp only [z] at q; exact q.elim
    | some ρ2 =>
      simp only [z] at q
      exact q F1 H1 _ (SubH.refl F1) (st1.store rfl x.sl x.free z)
  | emp => exact q.elim
  | val d => exact q.elim
  | ref c => exact q.elim
  | fn c => exact q.elim
theorem ds_tgt {te : TE} {f : EX} {g : TG} {hh : Tg} (h : DE K mg W te f) (hg : DG K mg g hh) : DS K mg W (tAsg te g) (sTgt hh f) := by
  intro P F H σ ρ D st hp
  refine h.bs st hp fun F1 H1 o ρ1 v sb st1 x q => ?_
  cases e : o.frz with
  | none => simp only [e] at q; exact q.elim
  | some d =>
    simp only [e] at q
    cases z : hh.h d ρ1 with
    | none => simp only [z] at q; exact q.elim
    | some ρ2 =>
      simp only [z] at q
      obtain ⟨F2, sb2, st2, r⟩ := st1.freeze x e
      exact hg P F2 H1 σ ρ1 ρ2 d v _ st2 r z fun σ' st' _ => q F2 H1 σ' sb2 st'
theorem ds_drop {te : TE} {f : EX} (h : DE K mg W te f) : DS K mg W (tDrop te) (sDrop f) := by
  intro P F H σ ρ D st hp
  exact h.bs st hp fun F1 H1 o ρ1 v sb st1 x q => q F1 H1 σ (SubH.refl F1) st1
theorem ds_ret {te : TE} {f : EX} (h : DE K mg W te f) : DS K mg W (tRet te) (sRet f) := by
  intro P F H σ ρ D st hp
  exact h.bs st hp fun F1 H1 o ρ1 v sb st1 x q => q F1 H1 σ v (SubH.refl F1) st1 x
theorem ds_retN : DS K mg W tRetN (sRet (eC .none)) := fun P F H σ ρ D st h => h F H σ .non (SubH.refl F) st (OutOk.val mk_none)
theorem ds_if {tc : TT} {t u : TS} {c : EX} {f g : SX} (hc : DT K mg W tc c) (h1 : DS K mg W t f) (h2 : DS K mg W u g) : DS K mg W (tIfS tc t u) (sIf c f g) := by
  intro P F H σ ρ D st hp
  refine hc.bs st hp fun F1 H1 b ρ1 sb st1 q => ?_
  cases b with
  | true => exact h1 P F1 H1 σ ρ1 D st1 q
  | false => exact h2 P F1 H1 σ ρ1 D st1 q
theorem ds_brk : DS K mg W tBreak sBrk := fun P F H σ ρ D st h => h F H σ (SubH.refl F) st
theorem ds_ct : DS K mg W tCont sCt := fun P F H σ ρ D st h => h F H σ (SubH.refl F) st
end
structure PSD (X : Cx) (W : WX) (st : Stmt) (f : SX) : Prop where
  ex : ∃ t, PS X st t ∧ DS X.K X.mg W t f
structure PSsD (X : Cx) (W : WX) (st : List Stmt) (f : SX) : Prop where
  ex : ∃ t, PSs X st t ∧ DS X.K X.mg W t f
section
variable {X : Cx} {W : WX} {s : Stmt} {rest : List Stmt} {f g : SX} {e c : Expr} {fe fc : EX} {pos pos' : Pos} {x : Str} {a b : List Stmt}
theorem pssd_nil : PSsD X W [] sNx := ⟨_, pss_nil, ds_nx⟩
theorem pssd_cons (h1 : PSD X W s f) (h2 : PSsD X W rest g) : PSsD X W (s :: rest) (sSeq f g) := by
  obtain ⟨t, p, d⟩ := h1.ex
  obtain ⟨u, q, d2⟩ := h2.ex
  exact ⟨_, pss_cons p q, ds_seq d d2⟩
theorem pssd_one (h1 : PSD X W s f) : PSsD X W [s] f := by
  obtain ⟨t, p, d⟩ := h1.ex
  exact ⟨_, pss_one p, d⟩
theorem psd_pass : PSD X W (.Pass pos) sNx := ⟨_, ps_pass, ds_nx⟩
theorem psd_brk : PSD X W (.Break pos) sBrk := ⟨_, ps_break, ds_brk⟩
theorem psd_ct : PSD X W (.Continue pos) sCt := ⟨_, ps_continue, ds_ct⟩
theorem psd_asg (i : Nat) (hN : X.N.Nodup) (he : PD X W e fe) (hi : X.N[i]? = some x := by rfl) (hx : Loc X.env.scope x := by first | exact Or.inl rfl | exact Or.inr rfl) (hs : swapsWith e (some (.Name x pos')) pos.line X.env = pure false := by rfl) (hf : X.fn x = true ∨ X.env.scope.names.lookup x = some .local := by first | exact .inl rfl | exact .inr rfl | assumption) : PSD X W (.Assign [.Name x pos'] e pos) (sAsg i fe) := by
  obtain ⟨t, p, d⟩ := he.ex
  exact ⟨_, ps_set hN hi hx p hs hf, ds_asg i d⟩
theorem psd_asgO (i : Nat) (hN : X.N.Nodup) (he : PD X W e fe) (hi : X.N[i]? = some x := by rfl) (hx : Loc X.env.scope x := by first | exact Or.inl rfl | exact Or.inr rfl) (hs : swapsWith e (some (.Name x pos')) pos.line X.env = pure false := by rfl) (hf : X.fn x = true ∨ X.env.scope.names.lookup x = some .local := by first | exact .inl rfl | exact .inr rfl | assumption) : PSD X W (.Assign [.Name x pos'] e pos) (sAsgO i fe) := by
  obtain ⟨t, p, d⟩ := he.ex
  exact ⟨_, ps_set hN hi hx p hs hf, ds_asgO i d⟩
theorem psd_tgt {tg : Expr} {h : Tg} (he : PD X W e fe) (hg : PGD X tg h) (hs : swapsWithSole [tg] e pos.line X.env = pure false := by rfl) (hw : swappedStores [tg] e X.env = pure none := by rfl) (h1 : (assignEach [tg] X.env).map (·.2) = [assign tg X.env] := by rfl) : PSD X W (.Assign [tg] e pos) (sTgt h fe) := by
  obtain ⟨t, p, d⟩ := he.ex
  obtain ⟨u, q, d2⟩ := hg.ex
  exact ⟨_, ps_asg p q hs hw h1, ds_tgt d d2⟩
theorem psd_drop (he : PD X W e fe) (hs : swapsWith e none pos.line X.env = pure false := by rfl) : PSD X W (.Expr e pos) (sDrop fe) := by
  obtain ⟨t, p, d⟩ := he.ex
  exact ⟨_, ps_expr p hs, ds_drop d⟩
theorem psd_ret (he : PD X W e fe) : PSD X W (.Return (some e) pos) (sRet fe) := by
  obtain ⟨t, p, d⟩ := he.ex
  exact ⟨_, ps_ret p, ds_ret d⟩
theorem psd_retN : PSD X W (.Return none pos) (sRet (eC .none)) := ⟨_, ps_retN, ds_retN⟩
theorem psd_if (hc : PTD X W c fc) (ha : PSsD X W a f) (hb : PSsD X W b g) : PSD X W (.If c a b pos) (sIf fc f g) := by
  obtain ⟨t, p, d⟩ := hc.ex
  obtain ⟨ta, pa, da⟩ := ha.ex
  obtain ⟨tb, pb, db⟩ := hb.ex
  exact ⟨_, ps_if p pa pb, ds_if d da db⟩
end

/-! ### what is walked -/
/-- the iterator J yields the data ds, wherever F stands -/
def ItOk (K : PySem.W.Frag) (mg : Str → Option Value) (J : It) (F : Hp) (ds : List D) : Prop := ∀ P F' H σ ρ i, SubH F F' → Stt K mg P F' H σ ρ →
  (i = ds.length → J.stop i H) ∧ ∀ d, ds[i]? = some d → J.go i H ∧ ∀ x H', J.yld i H x H' → ∃ F'', SubH F' F'' ∧ Stt K mg P F'' H' σ ρ ∧ Rep K F'' d x
def PostI (K : PySem.W.Frag) (mg : Str → Option Value) (W : WX) (P : Prot) (F : Hp) (σ : SS) (r : R) (Q : It → Hp → Prop) : Prop := match r with
  | .ok (.val (.list ds)) ρ => ∀ F' H' J, SubH F F' → Stt K mg P F' H' σ ρ → ItOk K mg J F' ds → Q J H'
  | .exc c fs ρ => KontX K mg P F σ ρ c fs fun C d H' => W C d σ H'
  | _ => False
def DI (K : PySem.W.Frag) (mg : Str → Option Value) (W : WX) (wi : TI) (f : EX) : Prop := ∀ P F H σ ρ Q, Stt K mg P F H σ ρ → PostI K mg W P F σ (f ρ) Q → wi σ H Q
structure PID (X : Cx) (W : WX) (tg iter : Expr) (f : EX) : Prop where
  ex : ∃ wi, PI X tg iter wi ∧ DI X.K X.mg W wi f
/-- a dict is held still: its object is known from then on -/
theorem Inv.hold {X : Cx} {pins : List (Addr × Obj)} {σ : SS} {H : Hp} {s : Shared} {d : Addr} {ks : List (Key × V)} (I : Inv X pins σ H s) (h : H d = some (.dK ks)) : ∃ o, Inv X pins σ (upd H d (.frz o (.dK ks))) s := by
  obtain ⟨z, hd, vs, kv, o, es, ep, ho, r⟩ := I.hok d _ h
  refine ⟨o, ?_⟩
  have same : ∀ b u, H b = some u → (∀ k2, u ≠ .dK k2) → upd H d (.frz o (.dK ks)) b = some u := fun b u e n => by
    rw [upd_ne (fun q => by subst q; rw [h] at e; exact n ks (Option.some.inj e).symm)]; exact e
  have no : ∀ b, H b = none → upd H d (.frz o (.dK ks)) b = none := fun b e => by
    rw [upd_ne (fun q => by subst q; rw [h] at e; cases e)]; exact e
  refine { I with base := ⟨I.base.keep, I.base.slot, fun b ob e n hx => no b (I.base.free b ob e n hx), I.base.there, fun b xs e => same b _ (I.base.tups b xs e) (by intro _ q; cases q), fun b ob u e => same b _ (I.base.frzs b ob u e) (by intro _ q; cases q), fun b ps e => ?_⟩, free := no _ I.free, freeC := fun x c e => no c (I.freeC x c e), pin := fun p hp => ?_, hok := fun b u e => ?_ }
  · obtain ⟨more, q⟩ := I.base.tbls b ps e
    exact ⟨more, same b _ q (by intro _ q; cases q)⟩
  · obtain ⟨h1, h2, h3⟩ := I.pin p hp
    exact ⟨h1, no _ h2, h3⟩
  · have st : ∀ a u, ObjOk X.prog X.w H s.heap a u → ObjOk X.prog X.w (upd H d (.frz o (.dK ks))) s.heap a u := fun a u x => x.stay (fun _ _ _ q => q) (fun b q => same b _ q (by intro _ q; cases q)) fun b xs q => same b _ q (by intro _ q; cases q)
    by_cases hb : b = d
    · subst hb
      rw [upd_same] at e
      cases e
      exact ⟨ho, st _ _ (I.hok b _ h)⟩
    · rw [upd_ne hb] at e
      exact st _ _ (I.hok b u e)
/-- the data that a datum yields when it is walked -/
def itB : D → Option (List D)
  | .dict kvs => some (kvs.map (·.1))
  | .list ds => some ds
  | .tuple ds => some ds
  | .str x => some (x.cps.toList.map fun c => .str ⟨#[c]⟩)
  | _ => none
def iAny (f : EX) : EX := fun ρ => (f ρ).bindV fun d ρ1 => match itB d.un with
  | some ds => .ok (.val (.list ds)) ρ1
  | none => .bad
def wAny (K : PySem.W.Frag) (te : TE) : TI := fun σ H R => te σ H fun x H1 => (∃ a, x = .ref a ∧ (∃ xs, SqL K H1 a xs) ∧ R (Itl K a) H1) ∨ (∃ a, x = .ref a ∧ (∃ xs, SqT K H1 a xs) ∧ R (Itt K a) H1) ∨ (∃ y, x = .str y ∧ R (Its y) H1) ∨ ∃ a ks, x = .ref a ∧ ((H1 a = some (.dK ks) ∧ ∀ o, R (Itk a o ks) (upd H1 a (.frz o (.dK ks)))) ∨ ∃ o, H1 a = some (.frz o (.dK ks)) ∧ R (Itk a o ks) H1)
theorem pi_any {X : Cx} {tg l : Expr} {tl : TE} (hl : PE X l tl) : PI X tg l (wAny X.K tl) := by
  refine ⟨fun pins s σ H R I h => ?_⟩
  refine thn (hl.run pins s σ H _ I h) fun v s1 ⟨x, H1, I1, r1, q1⟩ => ?_
  have dk : ∀ a o ks H2, Inv X pins σ H2 s1 → v = .ref a → H2 a = some (.frz o (.dK ks)) → R (Itk a o ks) H2 → wpAny (model X.prog X.w) X.A (pyIter v) (PIE X pins σ tg R) X.xe s1 := by
    intro a o ks H2 I2 e hd q
    subst e
    obtain ⟨h1, h2, h3, es, ep, vs, h4, h5, _, _⟩ := I2.frzK hd
    refine iter_keys h1 h2 h3 h4 (pi_one (tk := s1.toks) I2 _ (turn_keys _ h4) ⟨_, Heap.get?_push_size _ rfl, rfl, ?_⟩ q)
    rw [h5] <;> rfl
  rcases q1 with ⟨a, e, ⟨xs, hq⟩, q⟩ | ⟨a, e, ⟨xs, hq⟩, q⟩ | ⟨y, e, q⟩ | ⟨a, ks, e, ⟨hd, q⟩ | ⟨o, hd, q⟩⟩
  rotate_left 3
  · subst e
    obtain ⟨o, I2⟩ := Inv.hold I1 hd
    exact dk a o ks _ I2 r1 upd_same (q o)
  · subst e
    exact dk a o ks _ I1 r1 hd q
  · subst e
    cases r1
    obtain ⟨its, rv, p, hz⟩ := I1.list hq
    refine wpAny_pyIter_list p.isList ?_
    refine ⟨s1.heap.objs.size, [s1.heap.objs.size], _, _, H1, rfl, I1.kept (t' := s1.toks) fun b o e => Heap.get?_push_of_some _ e, turn_list a _, ⟨_, Heap.get?_push_size _ rfl, rfl, rfl⟩, fun b hb => ?_, q⟩
    have e : b = s1.heap.objs.size := by simpa using hb
    subst e
    exact I1.fpOk (Nat.le_refl _) (I1.hok.fresh (Nat.le_refl _))
  · subst e
    cases r1
    obtain ⟨its, rv, p, hz⟩ := I1.tuple hq
    refine wpAny_pyIter_tuple (show s1.heap.IsTuple a its.toArray from p) ?_
    refine ⟨s1.heap.objs.size, [s1.heap.objs.size], _, _, H1, rfl, I1.kept (t' := s1.toks) fun b o e => Heap.get?_push_of_some _ e, turn_tuple a _, ⟨_, Heap.get?_push_size _ rfl, rfl, rfl⟩, fun b hb => ?_, q⟩
    have e : b = s1.heap.objs.size := by simpa using hb
    subst e
    exact I1.fpOk (Nat.le_refl _) (I1.hok.fresh (Nat.le_refl _))
  · subst e
    obtain ⟨t, rfl⟩ := r1
    cases ha : y.cps.all (· < 128)
    · exact wpAny_pyIter_wide ha (pi_one (tk := s1.toks) I1 _ (turn_str _ y t "str_iterator" (.inr rfl)) ⟨_, Heap.get?_push_size _ rfl, rfl, rfl⟩ q)
    · exact wpAny_pyIter_ascii ha (pi_one (tk := s1.toks) I1 _ (turn_str _ y t "str_ascii_iterator" (.inl rfl)) ⟨_, Heap.get?_push_size _ rfl, rfl, rfl⟩ q)
section
variable {K : PySem.W.Frag} {mg : Str → Option Value} {W : WX}
theorem itok_list {F : Hp} {a : Addr} {vs : List V} {ds : List D} (s : SqL K F a vs) (l : RepL K F ds vs) : ItOk K mg (Itl K a) F ds := by
  intro P F' H σ ρ i sb st
  have sH : SqL K H a vs := SqL.le (sb.trans st.sub).rd s
  refine ⟨fun e => ⟨vs, sH, by rw [l.length]; omega⟩, fun d e => ?_⟩
  obtain ⟨v, h1, h2⟩ := l.get e
  refine ⟨⟨vs, v, sH, h1⟩, fun x H' y => ?_⟩
  obtain ⟨rfl, q⟩ := y
  have ex : x = v := Option.some.inj ((q vs sH).symm.trans h1)
  subst ex
  exact ⟨F', SubH.refl _, st, Rep.le sb.rd d x h2⟩
theorem itok_tup {F : Hp} {a : Addr} {vs : List V} {ds : List D} (s : SqT K F a vs) (l : RepL K F ds vs) : ItOk K mg (Itt K a) F ds := by
  intro P F' H σ ρ i sb st
  have sH : SqT K H a vs := SqT.le (sb.trans st.sub).rd s
  refine ⟨fun e => ⟨vs, sH, by rw [l.length]; omega⟩, fun d e => ?_⟩
  obtain ⟨v, h1, h2⟩ := l.get e
  refine ⟨⟨vs, v, sH, h1⟩, fun x H' y => ?_⟩
  obtain ⟨rfl, q⟩ := y
  have ex : x = v := Option.some.inj ((q vs sH).symm.trans h1)
  subst ex
  exact ⟨F', SubH.refl _, st, Rep.le sb.rd d x h2⟩
theorem upd_id {H : Hp} {a : Addr} {u : HO} (h : H a = some u) : upd H a u = H := by
  funext b
  unfold upd
  split
  · rename_i e; rw [e]; exact h.symm
  · rfl
theorem Stt.hold {P : Prot} {F H : Hp} {σ : SS} {ρ : Env} {a : Addr} {ks : List (Key × V)} {o : Obj} (st : Stt K mg P F H σ ρ) (e : F a = some (.dK ks)) (g : H a = some (.dK ks) ∨ H a = some (.frz o (.dK ks))) : SubH F (upd F a (.frz o (.dK ks))) ∧ Stt K mg P (upd F a (.frz o (.dK ks))) (upd H a (.frz o (.dK ks))) σ ρ := by
  have sb : SubH F (upd F a (.frz o (.dK ks))) := fun p u q => by
    by_cases h : p = a
    · subst h
      rw [e] at q; cases q
      exact .inr ⟨trivial, o, upd_same⟩
    · rw [upd_ne h]; exact .inl q
  refine ⟨sb, st.grow sb (fun p u q => ?_) (fun p u q => ?_) fun i b w => ?_⟩
  · by_cases h : p = a
    · subst h
      rw [upd_same] at q ⊢; exact .inl q
    · rw [upd_ne h] at q ⊢; exact st.sub p u q
  · obtain ⟨h1, h2⟩ := st.keep p u q
    have h : p ≠ a := fun z => by subst z; rw [e] at h2; cases h2
    rw [upd_ne h, upd_ne h]; exact ⟨h1, h2⟩
  · have h : b ≠ a := fun z => by subst z; rw [(st.owned w).1] at e; cases e
    rw [upd_ne h, upd_ne h]; exact ⟨(st.owned w).1, rfl⟩
theorem rep_keys {F : Hp} : ∀ {kvs : List (D × D)} {ks : List (Key × V)}, RepK K F kvs ks → ks.length = kvs.length ∧ ∀ (i : Nat) (d : D), (kvs.map (·.1))[i]? = some d → ∃ k v, ks[i]? = some (k, v) ∧ d = keyD k
  | [], _, r => by unfold RepK at r; subst r; exact ⟨rfl, fun i d e => by simp at e⟩
  | (k, d) :: kvs, _, r => by
    unfold RepK at r
    obtain ⟨k2, v, ws, rfl, rfl, r1, r2⟩ := r
    obtain ⟨h1, h2⟩ := rep_keys r2
    refine ⟨by simp [h1], fun i e h => ?_⟩
    cases i with
    | zero => simp at h; exact ⟨k2, v, rfl, h.symm⟩
    | succ j =>
      obtain ⟨k3, v3, g1, g2⟩ := h2 j e (by simpa using h)
      exact ⟨k3, v3, by simpa using g1, g2⟩
theorem mk_key {F : Hp} (k : Key) : Rep K F (keyD k) (kV k) := by
  cases k with
  | inl i => exact mk_int
  | inr x => exact mk_str
theorem itok_keys {F : Hp} {a : Addr} {o : Obj} {kvs : List (D × D)} {ks : List (Key × V)} (e : F a = some (.frz o (.dK ks))) (r : RepK K F kvs ks) : ItOk K mg (Itk a o ks) F (kvs.map (·.1)) := by
  intro P F' H σ ρ i sb st
  have hH : H a = some (.frz o (.dK ks)) := (sb.trans st.sub).non e id
  obtain ⟨h1, h2⟩ := rep_keys r
  refine ⟨fun q => ⟨hH, by rw [h1]; simp at q; omega⟩, fun d q => ?_⟩
  obtain ⟨k, v, g1, rfl⟩ := h2 i d q
  refine ⟨⟨hH, (List.getElem?_eq_some_iff.mp g1).1⟩, fun x H' y => ?_⟩
  obtain ⟨rfl, k2, v2, g2, rfl⟩ := y
  rw [g1] at g2; cases g2
  exact ⟨F', SubH.refl _, st, mk_key k⟩
theorem itok_str {F : Hp} {y : Str} : ItOk K mg (Its y) F (y.cps.toList.map fun c => .str ⟨#[c]⟩) := by
  intro P F' H σ ρ i sb st
  refine ⟨fun e => ?_, fun d e => ?_⟩
  · have : i = y.cps.size := by simpa using e
    show y.cps.size ≤ i
    omega
  · rw [List.getElem?_map] at e
    cases q : y.cps.toList[i]? with
    | none => rw [q] at e; cases e
    | some c =>
      rw [q] at e; cases e
      have hc : y.cps[i]? = some c := by rw [← Array.getElem?_toList]; exact q
      have hi : i < y.cps.size := by
        rcases Nat.lt_or_ge i y.cps.size with h | h
        · exact h
        · rw [Array.getElem?_eq_none h] at hc; cases hc
      refine ⟨hi, fun x H' z => ?_⟩
      obtain ⟨rfl, c', h1, rfl⟩ := z
      rw [hc] at h1; cases h1
      exact ⟨F', SubH.refl _, st, mk_str⟩
end
section
variable {K : PySem.W.Frag} {mg : Str → Option Value} {W : WX} {P : Prot} {F F' H : Hp} {σ : SS} {ρ : Env}
theorem PostI.le {r : R} {Q : It → Hp → Prop} (h : SubH F F') (k : PostI K mg W P F σ r Q) : PostI K mg W P F' σ r Q := by
  cases r with
  | bad => exact k
  | ok o ρ =>
    cases o with
    | val d =>
      cases d with
      | list ds => exact fun G H' J s => k G H' J (h.trans s)
      | none => exact k
      | bool i => exact k
      | int i => exact k
      | str i => exact k
      | tuple i => exact k
      | dict i => exact k
      | dictT i => exact k
      | tag _ i => exact k
    | emp => exact k
    | own c => exact k
    | ref c => exact k
    | fn c => exact k
  | exc c fs ρ => exact fun G H' C dd s => k G H' C dd (h.trans s)
theorem DE.bindI {ta : TE} {fa : EX} {k : D → Env → R} {Q : It → Hp → Prop} {G : VK} (ha : DE K mg W ta fa) (st : Stt K mg P F H σ ρ) (h : PostI K mg W P F σ ((fa ρ).bindV k) Q)
    (hk : ∀ F1 H1 d ρ1 v, SubH F F1 → Stt K mg P F1 H1 σ ρ1 → Rep K F1 d v → PostI K mg W P F1 σ (k d ρ1) Q → G v H1) : ta σ H G := by
  refine ha P F H σ ρ G st ?_
  cases e : fa ρ with
  | bad => rw [e] at h; exact h
  | ok o ρ1 =>
    rw [e] at h
    intro F1 H1 v sb st1 x
    cases z : o.frz with
    | none => simp only [R.bindV, z] at h; exact h.elim
    | some d =>
      simp only [R.bindV, z] at h
      obtain ⟨F2, sb2, st2, r⟩ := st1.freeze x z
      exact hk F2 H1 d ρ1 v (sb.trans sb2) st2 r (PostI.le (sb.trans sb2) h)
  | exc c fs ρ1 => rw [e] at h; exact h
theorem di_any {te : TE} {f : EX} (h : DE K mg W te f) : DI K mg W (wAny K te) (iAny f) := by
  intro P F H σ ρ Q st hp
  refine h.bindI st hp fun F1 H1 d ρ1 v sb st1 r q => ?_
  replace r := r.un
  generalize d.un = d at *
  unfold itB at q
  cases d with
  | list ds =>
    obtain ⟨a, vs, rfl, s, l⟩ := rep_list r
    exact .inl ⟨a, rfl, ⟨vs, SqL.le st1.sub.rd s⟩, q F1 H1 _ (SubH.refl _) st1 (itok_list s l)⟩
  | tuple ds =>
    obtain ⟨a, vs, rfl, s, l⟩ := rep_tup r
    exact .inr (.inl ⟨a, rfl, ⟨vs, SqT.le st1.sub.rd s⟩, q F1 H1 _ (SubH.refl _) st1 (itok_tup s l)⟩)
  | str y =>
    rw [rep_str r]
    exact .inr (.inr (.inl ⟨y, rfl, q F1 H1 _ (SubH.refl _) st1 itok_str⟩))
  | none => exact q.elim
  | bool i => exact q.elim
  | int i => exact q.elim
  | dict kvs =>
    obtain ⟨a, ks, rfl, rd, rk⟩ := rep_dict r
    refine .inr (.inr (.inr ⟨a, ks, rfl, ?_⟩))
    rcases rd with e | ⟨o, e⟩
    · rcases st1.sub a _ e with g | ⟨_, o, g⟩
      · refine .inl ⟨g, fun o => ?_⟩
        obtain ⟨s1, s2⟩ := st1.hold (o := o) e (.inl g)
        exact q _ _ _ s1 s2 (itok_keys upd_same (RepK.le s1.rd _ _ rk))
      · refine .inr ⟨o, g, ?_⟩
        obtain ⟨s1, s2⟩ := st1.hold (o := o) e (.inr g)
        rw [upd_id g] at s2
        exact q _ _ _ s1 s2 (itok_keys upd_same (RepK.le s1.rd _ _ rk))
    · have g := st1.sub.non e id
      exact .inr ⟨o, g, q _ _ _ (SubH.refl _) st1 (itok_keys e rk)⟩
  | dictT i => exact q.elim
  | tag _ i => exact q.elim
end
theorem pid_any {X : Cx} {W : WX} {tg l : Expr} {f : EX} (h : PD X W l f) : PID X W tg l (iAny f) := by
  obtain ⟨t, p, d⟩ := h.ex
  exact ⟨_, pi_any p, di_any d⟩
/-- range(n), range(a, b) -/
def rngL (lo : Int) (n : Nat) : List D := (List.range n).map fun (i : Nat) => .int (lo + (i : Int))
def iRng1D (f : EX) : EX := fun ρ => eArgs [f] ρ fun ds ρ1 => match ds.map D.un with
  | [.int j] => if -(2 ^ 62) ≤ j ∧ j < 2 ^ 62 then .ok (.val (.list (rngL 0 j.toNat))) ρ1 else .bad
  | _ => .bad
def iRng2D (f g : EX) : EX := fun ρ => eArgs [f, g] ρ fun ds ρ1 => match ds.map D.un with
  | [.int i, .int j] => if -(2 ^ 62) ≤ i ∧ i < 2 ^ 62 ∧ -(2 ^ 62) ≤ j ∧ j < 2 ^ 62 then .ok (.val (.list (rngL i (j - i).toNat))) ρ1 else .bad
  | _ => .bad
section
variable {K : PySem.W.Frag} {mg : Str → Option Value} {W : WX} {P : Prot} {F F' H : Hp} {σ : SS} {ρ : Env}
theorem itok_rng {F : Hp} {lo : Int} {n : Nat} : ItOk K mg (Itr lo n) F (rngL lo n) := by
  intro P F' H σ ρ i sb st
  refine ⟨fun e => ?_, fun d e => ?_⟩
  · have : i = n := by simpa [rngL] using e
    show n ≤ i
    omega
  · unfold rngL at e
    rw [List.getElem?_map] at e
    cases q : (List.range n)[i]? with
    | none => rw [q] at e; cases e
    | some c =>
      rw [q] at e; cases e
      have hi : i < n := by
        rcases Nat.lt_or_ge i n with h | h
        · exact h
        · rw [List.getElem?_eq_none (by simpa using h)] at q; cases q
      have hc : c = i := by rw [List.getElem?_range hi] at q; exact (Option.some.inj q).symm
      subst hc
      refine ⟨hi, fun x H' z => ?_⟩
      obtain ⟨rfl, rfl⟩ := z
      exact ⟨F', SubH.refl _, st, mk_int⟩
/-- an argument list for a walk -/
theorem DA.bindI {ta : TA} {fs : List EX} {k : List D → Env → R} {Q : It → Hp → Prop} {G : List V → Hp → Prop} (ha : DA K mg W ta fs) (st : Stt K mg P F H σ ρ) (h : PostI K mg W P F σ (eArgs fs ρ k) Q)
    (hk : ∀ F1 H1 ds ρ1 vs, SubH F F1 → Stt K mg P F1 H1 σ ρ1 → RepL K F1 ds vs → ds.length = fs.length → PostI K mg W P F1 σ (k ds ρ1) Q → G vs H1) : ta σ H G := by
  refine ha P F H σ ρ G st ?_
  rw [eArgs_eq] at h
  cases e : eArgsR fs ρ with
  | bad => rw [e] at h; exact h
  | exc c gs ρ1 => rw [e] at h; exact h
  | ok o ρ1 =>
    rw [e] at h
    cases o with
    | val d =>
      cases d with
      | list ds => intro F1 H1 vs sb st1 r hl; exact hk F1 H1 ds ρ1 vs sb st1 r hl (PostI.le sb h)
      | none => exact h
      | bool i => exact h
      | int i => exact h
      | str i => exact h
      | tuple i => exact h
      | dict i => exact h
      | dictT i => exact h
      | tag _ i => exact h
    | emp => exact h
    | own c => exact h
    | ref c => exact h
    | fn c => exact h
theorem di_rng1 {ta : TA} {f : EX} (h : DA K mg W ta [f]) : DI K mg W (iRng1 ta) (iRng1D f) := by
  intro P F H σ ρ Q st hp
  refine h.bindI st hp fun F1 H1 ds ρ1 vs sb st1 r hl q => ?_
  replace r := r.un
  generalize ds.map D.un = ds at *
  split at q
  · split at q
    · rename_i j hc
      unfold RepL at r
      obtain ⟨v, ws, rfl, r1, r2⟩ := r
      unfold RepL at r2
      subst r2
      rw [rep_int r1]
      exact ⟨j, rfl, hc.1, hc.2, q F1 H1 _ (SubH.refl _) st1 itok_rng⟩
    · exact q.elim
  · exact q.elim
theorem di_rng2 {ta : TA} {f g : EX} (h : DA K mg W ta [f, g]) : DI K mg W (iRng2 ta) (iRng2D f g) := by
  intro P F H σ ρ Q st hp
  refine h.bindI st hp fun F1 H1 ds ρ1 vs sb st1 r hl q => ?_
  replace r := r.un
  generalize ds.map D.un = ds at *
  split at q
  · split at q
    · rename_i i j hc
      unfold RepL at r
      obtain ⟨v, ws, rfl, r1, r2⟩ := r
      unfold RepL at r2
      obtain ⟨v2, ws2, rfl, r3, r4⟩ := r2
      unfold RepL at r4
      subst r4
      rw [rep_int r1, rep_int r3]
      exact ⟨i, j, rfl, hc, q F1 H1 _ (SubH.refl _) st1 itok_rng⟩
    · exact q.elim
  · exact q.elim
end
section
variable {X : Cx} {W : WX} {tg a b : Expr} {p pos : Pos} {f g : EX}
theorem pid_rng1 (ha : PAD X W [a] [f]) (hm : X.mg "range" = none) (hg : Gl X "range" := by rfl) (hs : starEach [a] X.env = [(false, eval a X.env)] := by rfl) : PID X W tg (.Call (.Name "range" p) [a] [] pos) (iRng1D f) := by
  obtain ⟨t, pa, da⟩ := ha.ex
  exact ⟨_, pi_range1 hg hm pa hs, di_rng1 da⟩
theorem pid_rng2 (ha : PAD X W [a, b] [f, g]) (hm : X.mg "range" = none) (hg : Gl X "range" := by rfl) (hs : starEach [a, b] X.env = [(false, eval a X.env), (false, eval b X.env)] := by rfl) (hs2 : starEach [b] X.env = [(false, eval b X.env)] := by rfl) : PID X W tg (.Call (.Name "range" p) [a, b] [] pos) (iRng2D f g) := by
  obtain ⟨t, pa, da⟩ := ha.ex
  exact ⟨_, pi_range2 hg hm pa hs hs2, di_rng2 da⟩
end

/-! ### for, while -/
def forD (h : Tg) (body : SX) : List D → Env → SR
  | [], ρ => .nx ρ
  | d :: ds, ρ => match h.h d ρ with
    | none => .bad
    | some ρ1 => match body ρ1 with
      | .nx ρ2 => forD h body ds ρ2
      | .ct ρ2 => forD h body ds ρ2
      | .brk ρ2 => .nx ρ2
      | r => r
def sFor (fi : EX) (h : Tg) (body : SX) : SX := fun ρ => match fi ρ with
  | .ok (.val (.list ds)) ρ1 => forD h body ds ρ1
  | .exc c fs ρ1 => .exc c fs ρ1
  | _ => .bad
def whileD (c : EX) (body : SX) : Nat → Env → SR
  | 0, _ => .bad
  | n + 1, ρ => (c ρ).bsB fun b ρ1 => if b = true then (match body ρ1 with
      | .nx ρ2 => whileD c body n ρ2
      | .ct ρ2 => whileD c body n ρ2
      | .brk ρ2 => .nx ρ2
      | r => r) else .nx ρ1
def sWhile (n : Nat) (c : EX) (body : SX) : SX := fun ρ => whileD c body n ρ
section
variable {K : PySem.W.Frag} {mg : Str → Option Value} {W : WX}
theorem ds_for {wi : TI} {g : TG} {tb : TS} {fi : EX} {h : Tg} {body : SX} (hi : DI K mg W wi fi) (hg : DG K mg g h) (hb : DS K mg W tb body) : DS K mg W (tFor wi g tb) (sFor fi h body) := by
  intro P F H σ ρ D st hp
  refine hi P F H σ ρ _ st ?_
  unfold sFor at hp
  cases e : fi ρ with
  | bad => simp only [e] at hp; exact hp
  | exc c fs ρ1 => simp only [e] at hp; exact fun F1 H1 C dd sb st1 x => hp F1 H1 σ C dd sb st1 x
  | ok o ρ1 =>
    simp only [e] at hp
    cases o with
    | val d =>
      cases d with
      | list ds =>
        simp only at hp
        intro F1 H1 J sb st1 it
        refine ⟨fun i m σ' H' => ∃ F' ρ', m = ds.length - i ∧ i ≤ ds.length ∧ SubH F1 F' ∧ Stt K mg P F' H' σ' ρ' ∧ PostS K mg W P F' (forD h body (ds.drop i) ρ') D, ⟨ds.length, F1, ρ1, by omega, Nat.zero_le _, SubH.refl _, st1, PostS.le sb hp⟩, ?_⟩
        rintro i m σ' H' ⟨F', ρ', rfl, hi', sb', st', q⟩
        obtain ⟨i1, i2⟩ := it P F' H' σ' ρ' i sb' st'
        by_cases hlt : i < ds.length
        · obtain ⟨go, y⟩ := i2 ds[i] (by simp [hlt])
          rw [List.drop_eq_getElem_cons hlt] at q
          refine .inr ⟨go, fun σ2 H2 => ∃ F2 ρ2, SubH F1 F2 ∧ Stt K mg P F2 H2 σ2 ρ2 ∧ PostS K mg W P F2 (forD h body (ds.drop (i + 1)) ρ2) D, fun σ2 H2 ⟨F2, ρ2, s2, st2, q2⟩ => ⟨ds.length - (i + 1), by omega, F2, ρ2, rfl, hlt, s2, st2, q2⟩, fun x H2 yx => ?_⟩
          obtain ⟨F2, sb2, st2, r2⟩ := y x H2 yx
          simp only [forD] at q
          cases z : h.h ds[i] ρ' with
          | none => simp only [z] at q; exact q.elim
          | some ρ3 =>
            simp only [z] at q
            refine hg P F2 H2 σ' ρ' ρ3 ds[i] x _ st2 r2 z fun σ3 st3 _ => ?_
            refine hb P F2 H2 σ3 ρ3 _ st3 ?_
            have q' := PostS.le sb2 q
            cases w : body ρ3 with
            | bad => simp only [w] at q'; exact q'
            | nx ρ4 => simp only [w] at q'; exact fun F4 H4 σ4 s4 st4 => ⟨F4, ρ4, (sb'.trans sb2).trans s4, st4, PostS.le s4 q'⟩
            | ct ρ4 => simp only [w] at q'; exact fun F4 H4 σ4 s4 st4 => ⟨F4, ρ4, (sb'.trans sb2).trans s4, st4, PostS.le s4 q'⟩
            | brk ρ4 => simp only [w] at q'; exact q'
            | ret o ρ4 => simp only [w] at q'; exact q'
            | exc c fs ρ4 => simp only [w] at q'; exact q'
        · have ei : i = ds.length := by omega
          subst ei
          rw [List.drop_length] at q
          exact .inl ⟨i1 rfl, q F' H' σ' (SubH.refl _) st'⟩
      | none => exact hp.elim
      | bool i => exact hp.elim
      | int i => exact hp.elim
      | str i => exact hp.elim
      | tuple i => exact hp.elim
      | dict i => exact hp.elim
      | dictT i => exact hp.elim
      | tag _ i => exact hp.elim
    | emp => exact hp.elim
    | own c => exact hp.elim
    | ref c => exact hp.elim
    | fn c => exact hp.elim
theorem ds_while {tc : TT} {tb : TS} {c : EX} {body : SX} (n : Nat) (hc : DT K mg W tc c) (hb : DS K mg W tb body) : DS K mg W (tWhile tc tb) (sWhile n c body) := by
  intro P F H σ ρ D st hp
  refine ⟨fun m σ' H' => ∃ F' ρ', Stt K mg P F' H' σ' ρ' ∧ PostS K mg W P F' (whileD c body m ρ') D, ⟨n, F, ρ, st, hp⟩, ?_⟩
  rintro m σ' H' ⟨F', ρ', st', q⟩
  cases m with
  | zero => exact q.elim
  | succ m =>
    refine hc.bs st' q fun F1 H1 b ρ1 sb st1 q1 => ?_
    cases b with
    | false => exact q1 F1 H1 σ' (SubH.refl _) st1
    | true =>
      simp only [if_true] at q1 ⊢
      refine ⟨fun σ2 H2 => ∃ F2 ρ2, Stt K mg P F2 H2 σ2 ρ2 ∧ PostS K mg W P F2 (whileD c body m ρ2) D, fun σ2 H2 ⟨F2, ρ2, a, b⟩ => ⟨m, Nat.lt_succ_self m, F2, ρ2, a, b⟩, ?_⟩
      refine hb P F1 H1 σ' ρ1 _ st1 ?_
      cases w : body ρ1 with
      | bad => simp only [w] at q1; exact q1
      | nx ρ4 => simp only [w] at q1; exact fun F4 H4 σ4 s4 st4 => ⟨F4, ρ4, st4, PostS.le s4 q1⟩
      | ct ρ4 => simp only [w] at q1; exact fun F4 H4 σ4 s4 st4 => ⟨F4, ρ4, st4, PostS.le s4 q1⟩
      | brk ρ4 => simp only [w] at q1; exact q1
      | ret o ρ4 => simp only [w] at q1; exact q1
      | exc c fs ρ4 => simp only [w] at q1; exact q1
end
section
variable {X : Cx} {W : WX} {tg iter c : Expr} {body : List Stmt} {pos : Pos} {fi fc : EX} {h : Tg} {fb : SX}
theorem psd_for (hp : PassesOwn (model X.prog X.w) X.A X.env X.xe) (hi : PID X W tg iter fi) (hg : PGD X tg h) (hb : PSsD X W body fb) (hc : X.calm = true := by rfl)
    (hs : ∀ x, foldedSetIterable iter X.env x = pure x := by intro _; rfl) : PSD X W (.For tg iter body [] pos) (sFor fi h fb) := by
  obtain ⟨wi, pi, di⟩ := hi.ex
  obtain ⟨g, pg, dg⟩ := hg.ex
  obtain ⟨t, ps, ds⟩ := hb.ex
  exact ⟨_, ps_for hp hc pi pg ps hs, ds_for di dg ds⟩
theorem psd_while (n : Nat) (hp : PassesOwn (model X.prog X.w) X.A X.env X.xe) (hc : PTD X W c fc) (hb : PSsD X W body fb) : PSD X W (.While c body [] pos) (sWhile n fc fb) := by
  obtain ⟨t, pt, dt⟩ := hc.ex
  obtain ⟨u, ps, ds⟩ := hb.ex
  exact ⟨_, ps_while hp pt ps, ds_while n dt ds⟩
end
end Dk

set_option Elab.async false
set_option linter.all false
set_option maxRecDepth 100000
set_option maxHeartbeats 4000000
/-! Dk6: defs by data: what a def hands back, calls, bodies; objects of a slot changed -/
namespace Dk
open PySem PySem.Spec L2

inductive FR where
  | bad
  | ret (o : Sl) (as : List Sl)
  | exc (c : Str) (fs : List (Str × D)) (as : List Sl)
abbrev Den := List Sl → FR
/-- every borrowed argument's raw value is pinned -/
def PinOk (P : Prot) (vs : List V) (as : List Sl) : Prop := ∀ (i : Nat) (s : Sl) (v : V), as[i]? = some s → s.isRef = true → vs[i]? = some v → P.pin i = some v
def PostF (K : PySem.W.Frag) (mg : Str → Option Value) (P : Prot) (F : Hp) (vs : List V) (r : FR) (Q : VK) (E : XK) : Prop := match r with
  | .bad => False
  | .ret o as => Kont K mg P F (vs.map some) as o Q
  | .exc c fs as => KontX K mg P F (vs.map some) as c fs E
/-- a def's promise by its meaning -/
def spD (K : PySem.W.Frag) (mg : Str → Option Value) (n : Nat) (den : Den) : Sp := fun vs H Q E => vs.length = n ∧ ∃ P F as, Stt K mg P F H (vs.map some) as ∧ PinOk P vs as ∧ (∀ s ∈ as, ∀ c, s ≠ .own c) ∧ PostF K mg P F vs (den as) Q E
/-- what the arguments are behind a body: the borrowed ones as they are then, the others as they were -/
def back : List Sl → Env → List Sl
  | [], _ => []
  | s :: as, [] => s :: back as []
  | s :: as, r :: ρ => (if s.isRef = true then r else s) :: back as ρ
def denOf (m : Nat) (body : SX) : Den := fun as => match body (as ++ List.replicate (m - as.length) .emp) with
  | .ret o ρ => .ret o (back as ρ)
  | .nx ρ => .ret (.val .none) (back as ρ)
  | .exc c fs ρ => .exc c fs (back as ρ)
  | _ => .bad
theorem back_get : ∀ (as : List Sl) (ρ : Env) (i : Nat) (s : Sl), (back as ρ)[i]? = some s → ∃ s0, as[i]? = some s0 ∧ ((s0.isRef = true ∧ ρ[i]? = some s) ∨ (s = s0 ∧ (s0.isRef = false ∨ ρ[i]? = none)))
  | [], _, _, _, h => by simp [back] at h
  | s0 :: as, [], 0, s, h => by simp [back] at h; subst h; exact ⟨_, rfl, .inr ⟨rfl, .inr rfl⟩⟩
  | s0 :: as, [], i + 1, s, h => by
    simp [back] at h
    obtain ⟨s1, h1, h2⟩ := back_get as [] i s h
    exact ⟨s1, by simpa using h1, by simpa using h2⟩
  | s0 :: as, r :: ρ, 0, s, h => by
    simp [back] at h
    refine ⟨s0, rfl, ?_⟩
    by_cases c : s0.isRef = true
    · rw [if_pos c] at h; subst h; exact .inl ⟨c, rfl⟩
    · rw [if_neg c] at h; subst h; exact .inr ⟨rfl, .inl (by simpa using c)⟩
  | s0 :: as, r :: ρ, i + 1, s, h => by
    simp [back] at h
    obtain ⟨s1, h1, h2⟩ := back_get as ρ i s h
    exact ⟨s1, by simpa using h1, by simpa using h2⟩
theorem back_length : ∀ (as : List Sl) (ρ : Env), (back as ρ).length = as.length
  | [], _ => rfl
  | _ :: as, [] => by simp [back, back_length as []]
  | _ :: as, _ :: ρ => by simp [back, back_length as ρ]

section
variable {K : PySem.W.Frag} {mg : Str → Option Value} {P : Prot} {F H : Hp}
theorem start_get {N : List Str} {vs : List V} {i : Nat} : (L2.start N vs)[i]? = if i < vs.length then (vs.map some)[i]? else if i < vs.length + (N.length - vs.length) then some none else none := by
  unfold L2.start
  by_cases h : i < vs.length
  · rw [if_pos h, List.getElem?_append_left (by simpa using h)]
  · rw [if_neg h, List.getElem?_append_right (by simpa using h), List.getElem?_replicate]
    simp only [List.length_map]
    split <;> split <;> first | rfl | omega
/-- a body's start -/
theorem Stt.start {N : List Str} {vs : List V} {as : List Sl} (st : Stt K mg P F H (vs.map some) as) (hn : vs.length ≤ N.length) : Stt K mg P F H (L2.start N vs) (as ++ List.replicate (N.length - as.length) .emp) := by
  have hl : vs.length = as.length := by simpa using st.len
  have get : ∀ (i : Nat) (s : Sl), (as ++ List.replicate (N.length - as.length) Sl.emp)[i]? = some s → s.isOwn = true → as[i]? = some s := fun i s e w => by
    by_cases h : i < as.length
    · rw [List.getElem?_append_left h] at e; exact e
    · rw [List.getElem?_append_right (by omega), List.getElem?_replicate] at e
      split at e
      · cases e; cases w
      · cases e
  have own : ∀ i a, Owns (L2.start N vs) (as ++ List.replicate (N.length - as.length) .emp) i a → Owns (vs.map some) as i a := fun i a ⟨⟨s, e, w⟩, q⟩ => by
    have e' := get i s e w
    have hi : i < vs.length := by
      rcases Nat.lt_or_ge i as.length with h | h
      · omega
      · rw [List.getElem?_eq_none h] at e'; cases e'
    rw [start_get, if_pos hi] at q
    exact ⟨⟨s, e', w⟩, q⟩
  refine ⟨st.sub, st.keep, ?_, fun i s e => ?_, fun i j a w1 w2 => st.apart i j a (own i a w1) (own j a w2), fun i v e => ?_⟩
  · unfold L2.start; simp; omega
  · by_cases h : i < as.length
    · rw [List.getElem?_append_left h] at e
      have := st.sl i s e
      have z : (L2.start N vs).getD i none = (vs.map some).getD i none := by
        simp only [List.getD]
        rw [start_get, if_pos (by omega)]
      rw [z]; exact this
    · rw [List.getElem?_append_right (by omega), List.getElem?_replicate] at e
      split at e
      · cases e; trivial
      · cases e
  · obtain ⟨h1, s, h2, h3⟩ := st.pin i v e
    have hi : i < as.length := by
      rcases Nat.lt_or_ge i as.length with h | h
      · exact h
      · rw [List.getElem?_eq_none h] at h2; cases h2
    refine ⟨by rw [start_get, if_pos (by omega)]; exact h1, s, by rw [List.getElem?_append_left hi]; exact h2, h3⟩
/-- a body's end: the arguments' state -/
theorem Stt.back {F' H' : Hp} {σ' : SS} {ρ' : Env} {vs : List V} {as : List Sl} (st : Stt K mg P F H (vs.map some) as) (pn : PinOk P vs as) (no : ∀ s ∈ as, ∀ c, s ≠ .own c) (sb : SubH F F') (st' : Stt K mg P F' H' σ' ρ') :
    Stt K mg P F' H' (vs.map some) (back as ρ') ∧ ∀ i a, Owns (vs.map some) (Dk.back as ρ') i a → Owns σ' ρ' i a := by
  have hl : vs.length = as.length := by simpa using st.len
  have ref : ∀ (i : Nat) (s0 : Sl), as[i]? = some s0 → s0.isRef = true → ∃ v, vs[i]? = some v ∧ σ'[i]? = some (some v) ∧ ∃ s, ρ'[i]? = some s ∧ s.isRef = true := fun i s0 e w => by
    have hi : i < vs.length := by
      rcases Nat.lt_or_ge i as.length with h | h
      · omega
      · rw [List.getElem?_eq_none h] at e; cases e
    have ev : vs[i]? = some vs[i] := List.getElem?_eq_getElem hi
    obtain ⟨h1, h2⟩ := st'.pin i vs[i] (pn i s0 vs[i] e w ev)
    exact ⟨vs[i], ev, h1, h2⟩
  have own : ∀ i a, Owns (vs.map some) (Dk.back as ρ') i a → Owns σ' ρ' i a := fun i a ⟨⟨s, e, w⟩, q⟩ => by
    obtain ⟨s0, e0, h⟩ := back_get _ _ _ _ e
    rcases h with ⟨r0, e1⟩ | ⟨rfl, h⟩
    · obtain ⟨v, ev, es, s1, e2, r1⟩ := ref i s0 e0 r0
      rw [List.getElem?_map, ev] at q
      have : v = .ref a := by simpa using q
      subst this
      exact ⟨⟨s, e1, w⟩, es⟩
    · rcases h with h | h
      · cases s with
        | own c => exact absurd rfl (no _ (List.mem_of_getElem? e0) c)
        | ref c => cases h
        | emp => cases w
        | val d => cases w
        | fn x => cases w
      · obtain ⟨v, ev, es, s1, e2, r1⟩ := ref i s e0 (by
          cases s with
          | own c => exact absurd rfl (no _ (List.mem_of_getElem? e0) c)
          | ref c => rfl
          | emp => cases w
          | val d => cases w
          | fn x => cases w)
        rw [h] at e2; cases e2
  refine ⟨⟨st'.sub, st'.keep, by rw [back_length]; simpa using hl, fun i s e => ?_, fun i j a w1 w2 => st'.apart i j a (own i a w1) (own j a w2), fun i v e => ?_⟩, own⟩
  · obtain ⟨s0, e0, h⟩ := back_get _ _ _ _ e
    rcases h with ⟨r0, e1⟩ | ⟨rfl, h⟩
    · obtain ⟨v, ev, es, s1, e2, r1⟩ := ref i s0 e0 r0
      have x := st'.sl i s e1
      rw [getD_of es] at x
      have z : (vs.map some).getD i none = some v := by simp [List.getD, ev]
      rw [z]; exact x
    · have x := st.sl i s e0
      refine x.grow sb fun a w _ => ?_
      rcases h with h | h
      · cases s with
        | own c => exact absurd rfl (no _ (List.mem_of_getElem? e0) c)
        | ref c => cases h
        | emp => cases w
        | val d => cases w
        | fn x => cases w
      · cases s with
        | own c => exact absurd rfl (no _ (List.mem_of_getElem? e0) c)
        | ref c =>
          obtain ⟨v, ev, es, s1, e2, r1⟩ := ref i _ e0 rfl
          rw [h] at e2; cases e2
        | emp => cases w
        | val d => cases w
        | fn x => cases w
  · obtain ⟨h1, s, h2, h3⟩ := st'.pin i v e
    obtain ⟨h4, s0, h5, h6⟩ := st.pin i v e
    refine ⟨h4, s, ?_, h3⟩
    have : ∀ (as : List Sl) (ρ : Env) (i : Nat), as[i]? = some s0 → ρ[i]? = some s → (Dk.back as ρ)[i]? = some s := by
      intro as
      induction as with
      | nil => intro ρ i a; simp at a
      | cons x as ih =>
        intro ρ i a b
        cases ρ with
        | nil => simp at b
        | cons r ρ =>
          cases i with
          | zero =>
            simp at a b
            subst a; subst b
            simp [Dk.back, h6]
          | succ i =>
            simp at a b
            simpa [Dk.back] using ih ρ i a b
    exact this as ρ' i h5 h2
end
/-- THE RULE for a def's body: what it does by data is what the def promises -/
theorem body_ok {K : PySem.W.Frag} {mg : Str → Option Value} {P : Prot} {F H : Hp} {N : List Str} {vs : List V} {as : List Sl} {body : SX} {t : TS} {Q : VK} {E : XK} (hb : DS K mg (fun cls d _ H => E cls d H) t body)
    (hn : vs.length ≤ N.length) (st : Stt K mg P F H (vs.map some) as) (pn : PinOk P vs as) (no : ∀ s ∈ as, ∀ c, s ≠ .own c) (h : PostF K mg P F vs (denOf N.length body as) Q E) : t { nx := fun _ H' => Q .non H', rt := Q } (L2.start N vs) H := by
  refine hb P F H (L2.start N vs) _ _ (st.start hn) ?_
  unfold denOf at h
  cases e : body (as ++ List.replicate (N.length - as.length) .emp) with
  | bad => simp only [e] at h; exact h
  | brk ρ => simp only [e] at h; exact h.elim
  | ct ρ => simp only [e] at h; exact h.elim
  | nx ρ =>
    simp only [e] at h
    intro F' H' σ' sb st'
    obtain ⟨b1, b2⟩ := st.back pn no sb st'
    exact h F' H' .non sb b1 (OutOk.val mk_none)
  | ret o ρ =>
    simp only [e] at h
    intro F' H' σ' v sb st' x
    obtain ⟨b1, b2⟩ := st.back pn no sb st'
    exact h F' H' v sb b1 ⟨x.sl, x.ne, x.nr, fun w i a ea ow => x.free w i a ea (b2 i a ow)⟩
  | exc c fs ρ =>
    simp only [e] at h
    intro F' H' σ' C dd sb st' x
    obtain ⟨b1, b2⟩ := st.back pn no sb st'
    exact h F' H' C dd sb b1 x

/-- a def that keeps its meaning's promise: where it stands, how deep it calls -/
structure Callee (P : Program) (w : World) (K : PySem.W.Frag) (mg : Str → Option Value) (base : Heap) (x : Str) (ps : List Str) (k : Nat) (den : Den) : Prop where
  ex : ∃ (f : Addr) (fd : FuncData), FnOk P w K mg base (L2.CX P w) k f fd ps (spD K mg ps.length den) ∧ mg x = some (.ref f) ∧ PySem.W.keepIn K (.ref f) = true ∧ Binds K fd ps []
theorem Callee.mono {P : Program} {w : World} {K : PySem.W.Frag} {mg : Str → Option Value} {base : Heap} {x : Str} {ps : List Str} {j k : Nat} {den : Den} (c : Callee P w K mg base x ps j den) (h : j ≤ k) : Callee P w K mg base x ps k den := by
  obtain ⟨f, fd, F, a, b, d⟩ := c.ex
  exact ⟨f, fd, F.mono h, a, b, d⟩
/-- a def's text makes a callee of it -/
theorem callee_of {P : Program} {w : World} {K : PySem.W.Frag} {mg : Str → Option Value} {base : Heap} {x : Str} {st : Stmt} {f : Addr} {fd : FuncData} {N ps : List Str} {k : Nat} {body : SX} (F : Fun K x x st f fd) (hm : mg x = some (.ref f)) (S : FnScope N ps (defScope st))
    (hb : Binds K fd ps [])
    (h : ∀ (cdv : Value) (A : Around) (outer : List PySem.Env) (s : Shared) (H : Hp) (E : XK), Room k (A.deeper (PyProof.Rows.envOfC x (defScope st) s.heap.objs.size f cdv)) →
      PSsD (cxOf (L2.CX P w) P w K mg base N x (defScope st) f cdv A outer s H E) (fun cls d _ H => E cls d H) (defBody st) body) : Callee P w K mg base x ps (k + 1) (denOf N.length body) := by
  refine ⟨f, fd, F.okX S (fun vs H Q E h => h.1) (fun cdv A outer s H vs Q E hr hs => ?_), hm, F.kp, hb⟩
  obtain ⟨t, hp, hd⟩ := (h cdv A outer s H E hr).ex
  obtain ⟨hl, Pr, F', as, sst, pn, no, post⟩ := hs
  refine ⟨t, hp, body_ok hd ?_ sst pn no post⟩
  have := congrArg List.length S.pre
  rw [List.length_take] at this
  omega

/-! ### calls -/
inductive Ar where
  | v (f : EX)
  | r (i : Nat)
inductive CA where
  | bad
  | ok (l : List (Sl ⊕ Nat)) (ρ : Env)
  | exc (c : Str) (fs : List (Str × D)) (ρ : Env)
def R.toC (r : R) (k : Sl → Env → CA) : CA := match r with
  | .ok o ρ => (match o.toVal with | some s => k s ρ | none => .bad)
  | .bad => .bad
  | .exc c fs ρ => .exc c fs ρ
def CA.cons (x : Sl ⊕ Nat) : CA → CA
  | .ok l ρ => .ok (x :: l) ρ
  | r => r
@[simp] theorem R.toC_val (d : D) (ρ : Env) (k : Sl → Env → CA) : (R.ok (.val d) ρ).toC k = k (.val d) ρ := Eq.trans rfl rfl
@[simp] theorem R.toC_own (c : Cl) (ρ : Env) (k : Sl → Env → CA) : (R.ok (.own c) ρ).toC k = k (.val c.frz) ρ := Eq.trans rfl rfl
@[simp] theorem R.toC_fn (c : Str) (ρ : Env) (k : Sl → Env → CA) : (R.ok (.fn c) ρ).toC k = k (.fn c) ρ := Eq.trans rfl rfl
@[simp] theorem R.toC_exc (c : Str) (fs : List (Str × D)) (ρ : Env) (k : Sl → Env → CA) : (R.exc c fs ρ).toC k = .exc c fs ρ := Eq.trans rfl rfl
@[simp] theorem CA.cons_ok (x : Sl ⊕ Nat) (l : List (Sl ⊕ Nat)) (ρ : Env) : (CA.ok l ρ).cons x = .ok (x :: l) ρ := Eq.trans rfl rfl
@[simp] theorem CA.cons_exc (x : Sl ⊕ Nat) (c : Str) (fs : List (Str × D)) (ρ : Env) : (CA.exc c fs ρ).cons x = .exc c fs ρ := Eq.trans rfl rfl
def cArgs : List Ar → Env → CA
  | [], ρ => .ok [] ρ
  | .v f :: as, ρ => (f ρ).toC fun s ρ1 => (cArgs as ρ1).cons (.inl s)
  | .r i :: as, ρ => match ρ[i]? with
    | some (.own _) => (cArgs as ρ).cons (.inr i)
    | some (.ref _) => (cArgs as ρ).cons (.inr i)
    | _ => .bad
def mkAs : List (Sl ⊕ Nat) → Env → Option (List Sl)
  | [], _ => some []
  | .inl s :: l, ρ => (mkAs l ρ).map (s :: ·)
  | .inr i :: l, ρ => match ρ[i]? with
    | some (.own c) => (mkAs l ρ).map (.ref c :: ·)
    | some (.ref c) => (mkAs l ρ).map (.ref c :: ·)
    | _ => none
def refsOf : List (Sl ⊕ Nat) → List Nat
  | [] => []
  | .inl _ :: l => refsOf l
  | .inr i :: l => i :: refsOf l
/-- the slot's object has the content that the callee left -/
def upd1 (s : Sl) (a : Option Sl) : Sl := match s, a with
  | .own _, some (.ref c) => .own c
  | .ref _, some (.ref c) => .ref c
  | s, _ => s
def putB : List (Sl ⊕ Nat) → List Sl → Env → Env
  | [], _, ρ => ρ
  | .inl _ :: l, as, ρ => putB l as.tail ρ
  | .inr i :: l, as, ρ => putB l as.tail (match ρ[i]? with | some s => ρ.set i (upd1 s as.head?) | none => ρ)
def eCall (den : Den) (args : List Ar) : EX := fun ρ => match cArgs args ρ with
  | .bad => .bad
  | .exc c fs ρ1 => .exc c fs ρ1
  | .ok l ρ1 => if (refsOf l).Nodup then (match mkAs l ρ1 with
    | none => .bad
    | some as => match den as with
      | .bad => .bad
      | .ret o as' => .ok o (putB l as' ρ1)
      | .exc c fs as' => .exc c fs (putB l as' ρ1)) else .bad
section
variable {K : PySem.W.Frag} {mg : Str → Option Value} {W : WX} {P : Prot} {F H : Hp} {σ : SS} {ρ : Env}
/-- the evaluated arguments -/
inductive ARel (K : PySem.W.Frag) (mg : Str → Option Value) (P : Prot) (F H : Hp) (σ : SS) : List (Sl ⊕ Nat) → List V → Prop
  | nil : ARel K mg P F H σ [] []
  | inl {s : Sl} {l : List (Sl ⊕ Nat)} {v : V} {vs : List V} (x : SlOk K mg P F H (some v) s) (no : s.isOwn = false) (ne : s ≠ .emp) (t : ARel K mg P F H σ l vs) : ARel K mg P F H σ (.inl s :: l) (v :: vs)
  | inr {i : Nat} {l : List (Sl ⊕ Nat)} {v : V} {vs : List V} (e : σ[i]? = some (some v)) (t : ARel K mg P F H σ l vs) : ARel K mg P F H σ (.inr i :: l) (v :: vs)
theorem SlOk.plain {P' : Prot} {F' H' : Hp} {o : Option V} {s : Sl} (no : s.isOwn = false) (sb : SubH F F') (x : SlOk K mg P F H o s) : SlOk K mg P' F' H' o s := by
  cases s with
  | emp => trivial
  | val d => obtain ⟨v, e, r⟩ := x; exact ⟨v, e, Rep.le sb.rd d v r⟩
  | own c => cases no
  | ref c => cases no
  | fn y => exact x
def PostC (K : PySem.W.Frag) (mg : Str → Option Value) (W : WX) (P : Prot) (F : Hp) (σ : SS) (r : CA) (G : List V → Hp → Prop) : Prop := match r with
  | .ok l ρ => ∀ F' H' vs, SubH F F' → Stt K mg P F' H' σ ρ → ARel K mg P F' H' σ l vs → G vs H'
  | .exc c fs ρ => KontX K mg P F σ ρ c fs fun C d H' => W C d σ H'
  | .bad => False
def DC (K : PySem.W.Frag) (mg : Str → Option Value) (W : WX) (ta : TA) (as : List Ar) : Prop := ∀ P F H σ ρ G, Stt K mg P F H σ ρ → PostC K mg W P F σ (cArgs as ρ) G → ta σ H G
theorem dc_nil : DC K mg W tNil [] := fun P F H σ ρ G st h => h F H [] (SubH.refl F) st .nil
theorem dc_v {te : TE} {t : TA} {f : EX} {as : List Ar} (h1 : DE K mg W te f) (h2 : DC K mg W t as) : DC K mg W (tCons te t) (.v f :: as) := by
  intro P F H σ ρ G st h
  refine h1 P F H σ ρ _ st ?_
  simp only [cArgs] at h
  cases e : f ρ with
  | bad => rw [e] at h; exact h
  | exc c gs ρ1 => rw [e] at h; exact h
  | ok o ρ1 =>
    rw [e] at h
    intro F1 H1 v sb st1 x
    simp only [R.toC] at h
    cases z : o.toVal with
    | none => simp only [z] at h; exact h.elim
    | some s =>
      simp only [z] at h
      obtain ⟨F2, sb2, st2, x2, no⟩ := st1.toVal x z
      refine h2 P F2 H1 σ ρ1 _ st2 ?_
      cases e2 : cArgs as ρ1 with
      | bad => rw [e2] at h; exact h
      | exc c gs ρ3 => rw [e2] at h; exact fun G H' C dd s => h G H' C dd ((sb.trans sb2).trans s)
      | ok l ρ3 =>
        rw [e2] at h
        intro F3 H3 vs sb3 st3 r3
        exact h F3 H3 (v :: vs) ((sb.trans sb2).trans sb3) st3 (.inl (x2.sl.plain no sb3) no x2.ne r3)
theorem dc_r {t : TA} {as : List Ar} (i : Nat) (h2 : DC K mg W t as) : DC K mg W (tCons (tVar i) t) (.r i :: as) := by
  intro P F H σ ρ G st h
  have key : (∃ v, σ[i]? = some (some v)) ∧ PostC K mg W P F σ ((cArgs as ρ).cons (.inr i)) G := by
    simp only [cArgs] at h
    cases e : ρ[i]? with
    | none => simp only [e] at h; exact h.elim
    | some s =>
      have x := st.sl i s e
      cases s with
      | own c => simp only [e] at h; obtain ⟨a, e1, _⟩ := x; exact ⟨⟨_, of_getD e1⟩, h⟩
      | ref c => simp only [e] at h; obtain ⟨a, e1, _⟩ := x; exact ⟨⟨_, of_getD e1⟩, h⟩
      | emp => simp only [e] at h; exact h.elim
      | val d => simp only [e] at h; exact h.elim
      | fn y => simp only [e] at h; exact h.elim
  obtain ⟨⟨v, ev⟩, h⟩ := key
  refine ⟨v, ev, h2 P F H σ ρ _ st ?_⟩
  cases e2 : cArgs as ρ with
  | bad => rw [e2] at h; exact h
  | exc c gs ρ3 => rw [e2] at h; exact h
  | ok l ρ3 =>
    rw [e2] at h
    intro F3 H3 vs sb3 st3 r3
    exact h F3 H3 (v :: vs) sb3 st3 (.inr ev r3)

/-! the call's own step -/
theorem ARel.length {l : List (Sl ⊕ Nat)} {vs : List V} (r : ARel K mg P F H σ l vs) : vs.length = l.length := by
  induction r with
  | nil => rfl
  | inl x no ne t ih => simp [ih]
  | inr e t ih => simp [ih]
theorem ARel.get {l : List (Sl ⊕ Nat)} {vs : List V} (r : ARel K mg P F H σ l vs) : ∀ {k : Nat} {x : Sl ⊕ Nat}, l[k]? = some x → ∃ v, vs[k]? = some v ∧ (∀ s, x = .inl s → SlOk K mg P F H (some v) s ∧ s.isOwn = false ∧ s ≠ .emp) ∧ (∀ i, x = .inr i → σ[i]? = some (some v)) := by
  induction r with
  | nil => intro k x e; simp at e
  | @inl s l v vs x no ne t ih =>
    intro k y e
    cases k with
    | zero =>
      simp at e; subst e
      exact ⟨v, rfl, fun s' q => (by cases q; exact ⟨x, no, ne⟩), fun i q => by cases q⟩
    | succ k => simpa using ih (k := k) (by simpa using e)
  | @inr i l v vs e0 t ih =>
    intro k y e
    cases k with
    | zero =>
      simp at e; subst e
      exact ⟨v, rfl, fun s' q => (by cases q), fun j q => by cases q; exact e0⟩
    | succ k => simpa using ih (k := k) (by simpa using e)
theorem mkAs_get : ∀ {l : List (Sl ⊕ Nat)} {as : List Sl}, mkAs l ρ = some as → as.length = l.length ∧ ∀ (k : Nat) (x : Sl ⊕ Nat), l[k]? = some x → (∀ s, x = .inl s → as[k]? = some s) ∧ ∀ i, x = .inr i → ∃ c, as[k]? = some (.ref c) ∧ (ρ[i]? = some (.own c) ∨ ρ[i]? = some (.ref c))
  | [], as, h => by cases h; exact ⟨rfl, fun k x e => by simp at e⟩
  | .inl s :: l, as, h => by
    simp only [mkAs] at h
    cases e : mkAs l ρ with
    | none => rw [e] at h; cases h
    | some as' =>
      rw [e] at h; cases h
      obtain ⟨h1, h2⟩ := mkAs_get e
      refine ⟨by simp [h1], fun k x q => ?_⟩
      cases k with
      | zero => simp at q; subst q; exact ⟨fun s' z => by cases z; rfl, fun i z => by cases z⟩
      | succ k => simpa using h2 k x (by simpa using q)
  | .inr i :: l, as, h => by
    have key : ∃ c, (ρ[i]? = some (.own c) ∨ ρ[i]? = some (.ref c)) ∧ (mkAs l ρ).map (.ref c :: ·) = some as := by
      simp only [mkAs] at h
      cases e : ρ[i]? with
      | none => simp only [e] at h; cases h
      | some s =>
        cases s with
        | own c => simp only [e] at h; exact ⟨c, .inl rfl, h⟩
        | ref c => simp only [e] at h; exact ⟨c, .inr rfl, h⟩
        | emp => simp only [e] at h; cases h
        | val d => simp only [e] at h; cases h
        | fn y => simp only [e] at h; cases h
    obtain ⟨c, hc, h⟩ := key
    cases e : mkAs l ρ with
    | none => rw [e] at h; cases h
    | some as' =>
      rw [e] at h; cases h
      obtain ⟨h1, h2⟩ := mkAs_get e
      refine ⟨by simp [h1], fun k x q => ?_⟩
      cases k with
      | zero => simp at q; subst q; exact ⟨fun s' z => (by cases z), fun j z => (by cases z; exact ⟨c, rfl, hc⟩)⟩
      | succ k => simpa using h2 k x (by simpa using q)
theorem refs_mem : ∀ {l : List (Sl ⊕ Nat)} {i : Nat}, i ∈ refsOf l ↔ ∃ k : Nat, l[k]? = some (.inr i)
  | [], i => by simp [refsOf]
  | .inl s :: l, i => by
    simp only [refsOf]
    rw [refs_mem (l := l)]
    constructor
    · rintro ⟨k, e⟩; exact ⟨k + 1, by simpa using e⟩
    · rintro ⟨k, e⟩
      cases k with
      | zero => simp at e
      | succ k => exact ⟨k, by simpa using e⟩
  | .inr j :: l, i => by
    simp only [refsOf, List.mem_cons]
    rw [refs_mem (l := l)]
    constructor
    · rintro (rfl | ⟨k, e⟩)
      · exact ⟨0, rfl⟩
      · exact ⟨k + 1, by simpa using e⟩
    · rintro ⟨k, e⟩
      cases k with
      | zero => simp at e; exact .inl e.symm
      | succ k => exact .inr ⟨k, by simpa using e⟩
theorem refs_inj : ∀ {l : List (Sl ⊕ Nat)} {i k1 k2 : Nat}, (refsOf l).Nodup → l[k1]? = some (.inr i) → l[k2]? = some (.inr i) → k1 = k2
  | [], _, _, _, _, e, _ => by simp at e
  | .inl s :: l, i, 0, _, _, e, _ => by simp at e
  | .inl s :: l, i, _ + 1, 0, _, _, e => by simp at e
  | .inl s :: l, i, k1 + 1, k2 + 1, nd, e1, e2 => by
    have := refs_inj (l := l) (k1 := k1) (k2 := k2) nd (by simpa using e1) (by simpa using e2)
    omega
  | .inr j :: l, i, k1, k2, nd, e1, e2 => by
    simp only [refsOf, List.nodup_cons] at nd
    cases k1 with
    | zero =>
      simp at e1; subst e1
      cases k2 with
      | zero => rfl
      | succ k2 => exact absurd (refs_mem.mpr ⟨k2, by simpa using e2⟩) nd.1
    | succ k1 =>
      cases k2 with
      | zero => simp at e2; subst e2; exact absurd (refs_mem.mpr ⟨k1, by simpa using e1⟩) nd.1
      | succ k2 =>
        have := refs_inj (l := l) (k1 := k1) (k2 := k2) nd.2 (by simpa using e1) (by simpa using e2)
        omega
/-- the caller's state behind: kinds as they were, contents that hold -/
theorem Stt.swap {F' H' : Hp} {ρ' : Env} (st : Stt K mg P F H σ ρ) (hs : SubH F' H') (kp : ∀ p o, P.H p = some o → H' p = some o ∧ F' p = none) (hl : ρ'.length = ρ.length)
    (h : ∀ (i : Nat) (s2 : Sl), ρ'[i]? = some s2 → ∃ s1, ρ[i]? = some s1 ∧ s1.isOwn = s2.isOwn ∧ s1.isRef = s2.isRef ∧ SlOk K mg P F' H' (σ.getD i none) s2) : Stt K mg P F' H' σ ρ' := by
  have own : ∀ i a, Owns σ ρ' i a → Owns σ ρ i a := fun i a ⟨⟨s, e, w⟩, q⟩ => by
    obtain ⟨s1, e1, k1, _, _⟩ := h i s e
    exact ⟨⟨s1, e1, by rw [k1]; exact w⟩, q⟩
  refine ⟨hs, kp, by rw [hl]; exact st.len, fun i s e => (h i s e).choose_spec.2.2.2, fun i j a w1 w2 => st.apart i j a (own i a w1) (own j a w2), fun i v e => ?_⟩
  obtain ⟨h1, s, h2, h3⟩ := st.pin i v e
  have hi : i < ρ'.length := by
    rw [hl]
    rcases Nat.lt_or_ge i ρ.length with z | z
    · exact z
    · rw [List.getElem?_eq_none z] at h2; cases h2
  obtain ⟨s1, e1, _, k2, _⟩ := h i ρ'[i] (List.getElem?_eq_getElem hi)
  rw [h2] at e1; cases e1
  exact ⟨h1, ρ'[i], List.getElem?_eq_getElem hi, by rw [← k2]; exact h3⟩
theorem putB_length : ∀ (l : List (Sl ⊕ Nat)) (as : List Sl) (ρ : Env), (putB l as ρ).length = ρ.length
  | [], _, _ => rfl
  | .inl s :: l, as, ρ => putB_length l as.tail ρ
  | .inr i :: l, as, ρ => by
    simp only [putB]
    rw [putB_length]
    cases ρ[i]? <;> simp
theorem upd1_own (s : Sl) (a : Option Sl) : (upd1 s a).isOwn = s.isOwn ∧ (upd1 s a).isRef = s.isRef := by
  unfold upd1
  split <;> exact ⟨rfl, rfl⟩
/-- what the put back slots hold -/
theorem putB_get {F' H' : Hp} (base : Env) : ∀ (l : List (Sl ⊕ Nat)) (as : List Sl) (ρ : Env), (refsOf l).Nodup →
    (∀ (i : Nat) (s2 : Sl), ρ[i]? = some s2 → ∃ s1, base[i]? = some s1 ∧ s1.isOwn = s2.isOwn ∧ s1.isRef = s2.isRef ∧ (SlOk K mg P F' H' (σ.getD i none) s2 ∨ (s2 = s1 ∧ i ∈ refsOf l))) →
    (∀ (k i : Nat), l[k]? = some (.inr i) → ∃ c, as[k]? = some (.ref c) ∧ ∀ s1, base[i]? = some s1 → s1.isOwn = true ∧ SlOk K mg P F' H' (σ.getD i none) (upd1 s1 (some (.ref c)))) →
    ∀ (i : Nat) (s2 : Sl), (putB l as ρ)[i]? = some s2 → ∃ s1, base[i]? = some s1 ∧ s1.isOwn = s2.isOwn ∧ s1.isRef = s2.isRef ∧ SlOk K mg P F' H' (σ.getD i none) s2
  | [], as, ρ, nd, hρ, ha => fun i s2 e => by
    obtain ⟨s1, e1, k1, k2, q⟩ := hρ i s2 e
    rcases q with q | ⟨_, q⟩
    · exact ⟨s1, e1, k1, k2, q⟩
    · simp [refsOf] at q
  | .inl s :: l, as, ρ, nd, hρ, ha => fun i s2 e => putB_get base l as.tail ρ nd hρ (fun k j q => by
      obtain ⟨c, h1, h2⟩ := ha (k + 1) j (by simpa using q)
      exact ⟨c, by cases as <;> simp at h1 ⊢; exact h1, h2⟩) i s2 e
  | .inr j :: l, as, ρ, nd, hρ, ha => fun i0 s0 e0 => by
    simp only [refsOf, List.nodup_cons] at nd
    obtain ⟨c, hc1, hc2⟩ := ha 0 j rfl
    have hd : as.head? = some (.ref c) := by cases as <;> simp at hc1 ⊢; exact hc1
    refine putB_get base l as.tail _ nd.2 (fun i s2 e => ?_) (fun k j q => by
      obtain ⟨c, h1, h2⟩ := ha (k + 1) j (by simpa using q)
      exact ⟨c, by cases as <;> simp at h1 ⊢; exact h1, h2⟩) i0 s0 e0
    cases z : ρ[j]? with
    | none =>
      simp only [z] at e
      obtain ⟨s1, e1, k1, k2, q⟩ := hρ i s2 e
      refine ⟨s1, e1, k1, k2, ?_⟩
      rcases q with q | ⟨q1, q2⟩
      · exact .inl q
      · simp only [refsOf, List.mem_cons] at q2
        rcases q2 with q2 | q2
        · subst q2; rw [z] at e; cases e
        · exact .inr ⟨q1, q2⟩
    | some sj =>
      simp only [z] at e
      by_cases hij : j = i
      · subst hij
        have hl : j < ρ.length := by
          rcases Nat.lt_or_ge j ρ.length with h | h
          · exact h
          · rw [List.getElem?_eq_none h] at z; cases z
        rw [List.getElem?_set_self hl, hd] at e; cases e
        obtain ⟨s1, e1, k1, k2, q⟩ := hρ j sj z
        obtain ⟨u1, u2⟩ := upd1_own sj (some (.ref c))
        refine ⟨s1, e1, by rw [u1]; exact k1, by rw [u2]; exact k2, .inl ?_⟩
        obtain ⟨w1, w2⟩ := hc2 s1 e1
        cases sj with
        | own c0 =>
          cases s1 with
          | own _ => exact w2
          | ref _ => cases k2
          | emp => cases k1
          | val _ => cases k1
          | fn _ => cases k1
        | ref c0 =>
          cases s1 with
          | own _ => cases k2
          | ref _ => exact w2
          | emp => cases k1
          | val _ => cases k1
          | fn _ => cases k1
        | emp => rw [w1] at k1; cases k1
        | val d => rw [w1] at k1; cases k1
        | fn y => rw [w1] at k1; cases k1
      · rw [List.getElem?_set_ne hij] at e
        obtain ⟨s1, e1, k1, k2, q⟩ := hρ i s2 e
        refine ⟨s1, e1, k1, k2, ?_⟩
        rcases q with q | ⟨q1, q2⟩
        · exact .inl q
        · simp only [refsOf, List.mem_cons] at q2
          rcases q2 with rfl | q2
          · exact absurd rfl hij
          · exact .inr ⟨q1, q2⟩
open Classical in
/-- the callee's ground: all that isn't frozen and isn't handed to it -/
noncomputable def callP (F H : Hp) (σ : SS) (l : List (Sl ⊕ Nat)) (as : List Sl) (vs : List V) : Prot where
  H := fun p => if F p = none ∧ ¬ ∃ i ∈ refsOf l, σ[i]? = some (some (.ref p)) then H p else none
  pin := fun k => match as[k]? with
    | some s => if s.isRef = true then vs[k]? else none
    | none => none
theorem callP_none {l : List (Sl ⊕ Nat)} {as : List Sl} {vs : List V} {p : Addr} (h : (callP F H σ l as vs).H p = none) (hf : F p = none) (hr : ¬ ∃ i ∈ refsOf l, σ[i]? = some (some (.ref p))) : H p = none := by
  unfold callP at h
  simp only at h
  rw [if_pos ⟨hf, hr⟩] at h
  exact h
theorem callP_some {l : List (Sl ⊕ Nat)} {as : List Sl} {vs : List V} {p : Addr} {o : HO} (hf : F p = none) (hr : ¬ ∃ i ∈ refsOf l, σ[i]? = some (some (.ref p))) (h : H p = some o) : (callP F H σ l as vs).H p = some o := by
  unfold callP
  simp only
  rw [if_pos ⟨hf, hr⟩]
  exact h
theorem call_in {l : List (Sl ⊕ Nat)} {as : List Sl} {vs : List V} (st : Stt K mg P F H σ ρ) (r : ARel K mg P F H σ l vs) (nd : (refsOf l).Nodup) (e : mkAs l ρ = some as) :
    Stt K mg (callP F H σ l as vs) F H (vs.map some) as ∧ PinOk (callP F H σ l as vs) vs as ∧ (∀ s ∈ as, ∀ c, s ≠ .own c) := by
  obtain ⟨hl, hg⟩ := mkAs_get e
  have hv := r.length
  have at_ : ∀ (k : Nat) (s : Sl), as[k]? = some s → ∃ v, vs[k]? = some v ∧ ((l[k]? = some (.inl s) ∧ SlOk K mg P F H (some v) s ∧ s.isOwn = false) ∨ ∃ i c, l[k]? = some (.inr i) ∧ s = .ref c ∧ σ[i]? = some (some v) ∧ (ρ[i]? = some (.own c) ∨ ρ[i]? = some (.ref c))) := fun k s q => by
    have hk : k < l.length := by
      rw [← hl]
      rcases Nat.lt_or_ge k as.length with z | z
      · exact z
      · rw [List.getElem?_eq_none z] at q; cases q
    obtain ⟨v, ev, r1, r2⟩ := r.get (k := k) (List.getElem?_eq_getElem hk)
    obtain ⟨g1, g2⟩ := hg k l[k] (List.getElem?_eq_getElem hk)
    refine ⟨v, ev, ?_⟩
    cases z : l[k] with
    | inl s' =>
      have := g1 s' z
      rw [q] at this; cases this
      obtain ⟨x, no, _⟩ := r1 s z
      exact .inl ⟨by rw [List.getElem?_eq_getElem hk, z], x, no⟩
    | inr i =>
      obtain ⟨c, h1, h2⟩ := g2 i z
      rw [q] at h1; cases h1
      exact .inr ⟨i, c, by rw [List.getElem?_eq_getElem hk, z], rfl, r2 i z, h2⟩
  have own : ∀ (i : Nat) (c : Cl) (v : V), σ[i]? = some (some v) → (ρ[i]? = some (.own c) ∨ ρ[i]? = some (.ref c)) → ∃ a, v = .ref a ∧ F a = none ∧ ClOk K F H a c ∧ Owns σ ρ i a := fun i c v es h => by
    rcases h with h | h
    · obtain ⟨a, e1, h1, h2, h3⟩ := st.sl i _ h
      rw [getD_of es] at e1; cases e1
      exact ⟨a, rfl, h1, h3, ⟨⟨_, h, rfl⟩, es⟩⟩
    · obtain ⟨a, e1, h1, h2, h3⟩ := st.sl i _ h
      rw [getD_of es] at e1; cases e1
      exact ⟨a, rfl, h1, h3, ⟨⟨_, h, rfl⟩, es⟩⟩
  refine ⟨⟨st.sub, fun p o q => ?_, by simp [hv, hl], fun k s q => ?_, fun k1 k2 a w1 w2 => ?_, fun k v q => ?_⟩, fun k s v q w ev => ?_, fun s hs c z => ?_⟩
  · unfold callP at q
    simp only at q
    split at q
    · rename_i h; exact ⟨q, h.1⟩
    · cases q
  · obtain ⟨v, ev, h | ⟨i, c, h1, rfl, h3, h4⟩⟩ := at_ k s q
    · have z : (vs.map some).getD k none = some v := by simp [List.getD, ev]
      rw [z]; exact h.2.1.plain h.2.2 (SubH.refl F)
    · obtain ⟨a, rfl, f1, f2, f3⟩ := own i c v h3 h4
      have z : (vs.map some).getD k none = some (.ref a) := by simp [List.getD, ev]
      rw [z]
      refine ⟨a, rfl, f1, ?_, f2⟩
      unfold callP
      simp only
      rw [if_neg (fun w => w.2 ⟨i, refs_mem.mpr ⟨k, h1⟩, h3⟩)]
  · have one : ∀ k, Owns (vs.map some) as k a → ∃ i, l[k]? = some (.inr i) ∧ Owns σ ρ i a := fun k ⟨⟨s, q, w⟩, q2⟩ => by
      obtain ⟨v, ev, h | ⟨i, c, h1, rfl, h3, h4⟩⟩ := at_ k s q
      · rw [h.2.2] at w; cases w
      · rw [List.getElem?_map, ev] at q2
        have : v = .ref a := by simpa using q2
        subst this
        obtain ⟨a', e1, f1, f2, f3⟩ := own i c _ h3 h4
        cases e1
        exact ⟨i, h1, f3⟩
    obtain ⟨i1, q1, o1⟩ := one k1 w1
    obtain ⟨i2, q2, o2⟩ := one k2 w2
    have := st.apart i1 i2 a o1 o2
    subst this
    exact refs_inj nd q1 q2
  · unfold callP at q
    simp only at q
    split at q
    · rename_i s es
      split at q
      · rename_i w
        exact ⟨by rw [List.getElem?_map, q]; rfl, s, es, w⟩
      · cases q
    · cases q
  · unfold callP
    simp only [q, w, if_true]
    exact ev
  · obtain ⟨k, hk⟩ := List.mem_iff_getElem?.mp hs
    obtain ⟨v, ev, h | ⟨i, c', h1, h2, h3, h4⟩⟩ := at_ k s hk
    · rw [z] at h; cases h.2.2
    · rw [z] at h2; cases h2
theorem call_out {F' H' : Hp} {l : List (Sl ⊕ Nat)} {as as' : List Sl} {vs : List V} (st : Stt K mg P F H σ ρ) (r : ARel K mg P F H σ l vs) (nd : (refsOf l).Nodup) (e : mkAs l ρ = some as) (sb : SubH F F') (st' : Stt K mg (callP F H σ l as vs) F' H' (vs.map some) as') :
    Stt K mg P F' H' σ (putB l as' ρ) ∧ ∀ v o, OutOk K mg (callP F H σ l as vs) F' H' (vs.map some) as' v o → OutOk K mg P F' H' σ (putB l as' ρ) v o := by
  obtain ⟨hl, hg⟩ := mkAs_get e
  have hv := r.length
  have noref : ∀ {i : Nat} {a : Addr}, Owns σ ρ i a → i ∉ refsOf l → ¬ ∃ j ∈ refsOf l, σ[j]? = some (some (.ref a)) := fun {i a} w hi ⟨j, hj, ej⟩ => by
    obtain ⟨k, hk⟩ := refs_mem.mp hj
    obtain ⟨c, _, h4⟩ := (hg k _ hk).2 j rfl
    have : Owns σ ρ j a := by rcases h4 with h4 | h4 <;> exact ⟨⟨_, h4, rfl⟩, ej⟩
    exact hi (st.apart i j a w this ▸ hj)
  have nop : ∀ {p : Addr} {o : HO}, P.H p = some o → ¬ ∃ j ∈ refsOf l, σ[j]? = some (some (.ref p)) := fun {p o} q ⟨j, hj, ej⟩ => by
    obtain ⟨k, hk⟩ := refs_mem.mp hj
    obtain ⟨c, _, h4⟩ := (hg k _ hk).2 j rfl
    have : Owns σ ρ j p := by rcases h4 with h4 | h4 <;> exact ⟨⟨_, h4, rfl⟩, ej⟩
    obtain ⟨_, z, _⟩ := st.owned this
    rw [z] at q; cases q
  have kp : ∀ p o, P.H p = some o → H' p = some o ∧ F' p = none := fun p o q => by
    obtain ⟨h1, h2⟩ := st.keep p o q
    exact st'.keep p o (callP_some h2 (nop q) h1)
  have stt : Stt K mg P F' H' σ (putB l as' ρ) := by
    refine st.swap st'.sub kp (putB_length _ _ _) (putB_get ρ l as' ρ nd (fun i s q => ⟨s, q, rfl, rfl, ?_⟩) fun k i q => ?_)
    · by_cases hi : i ∈ refsOf l
      · exact .inr ⟨rfl, hi⟩
      · refine .inl ((st.sl i s q).grow sb fun a w ea => ?_)
        have ow : Owns σ ρ i a := ⟨⟨s, q, w⟩, of_getD ea⟩
        obtain ⟨z1, z2, u, z3⟩ := st.owned ow
        obtain ⟨y1, y2⟩ := st'.keep a u (callP_some z1 (noref ow hi) z3)
        exact ⟨y2, y1.trans z3.symm⟩
    · obtain ⟨c, ek, h4⟩ := (hg k _ q).2 i rfl
      obtain ⟨v, ev, _, r2⟩ := r.get q
      have es := r2 i rfl
      have hp : (callP F H σ l as vs).pin k = some v := by
        unfold callP
        simp only [ek]
        exact ev
      obtain ⟨p1, s', p2, p3⟩ := st'.pin k v hp
      cases s' with
      | ref c' =>
        refine ⟨c', p2, fun s1 e1 => ?_⟩
        have x := st'.sl k _ p2
        have z : (vs.map some).getD k none = some v := by simp [List.getD, ev]
        rw [z] at x
        obtain ⟨a, ea, x1, x2, x3⟩ := x
        cases ea
        rw [getD_of es]
        have ow : Owns σ ρ i a := by rcases h4 with h4 | h4 <;> exact ⟨⟨_, h4, rfl⟩, es⟩
        obtain ⟨_, z2, _⟩ := st.owned ow
        rcases h4 with h4 | h4
        · rw [e1] at h4; cases h4
          exact ⟨rfl, a, rfl, x1, z2, x3⟩
        · rw [e1] at h4; cases h4
          exact ⟨rfl, a, rfl, x1, z2, x3⟩
      | emp => cases p3
      | val d => cases p3
      | own c => cases p3
      | fn y => cases p3
  refine ⟨stt, fun v o x => ?_⟩
  -- an object of its own that comes back is the caller's: it was none of what stood
  have fresh : ∀ {a : Addr}, (callP F H σ l as vs).H a = none → v = .ref a → o.isOwn = true → F' a = none → P.H a = none ∧ ∀ i, ¬ Owns σ (putB l as' ρ) i a := fun {a} h1 ev w hf => by
    have hfa : F a = none := by
      cases q : F a with
      | none => rfl
      | some u => obtain ⟨w2, e2⟩ := sb.there q; rw [e2] at hf; cases hf
    refine ⟨?_, fun i ow => ?_⟩
    · cases q : P.H a with
      | none => rfl
      | some u =>
        obtain ⟨z1, z2⟩ := st.keep a u q
        rw [callP_some z2 (nop q) z1] at h1; cases h1
    · obtain ⟨⟨s2, e2, w2⟩, es⟩ := ow
      have : ∃ s1, ρ[i]? = some s1 ∧ s1.isOwn = true := by
        have hi : i < ρ.length := by
          rcases Nat.lt_or_ge i ρ.length with z | z
          · exact z
          · rw [List.getElem?_eq_none (by rw [putB_length]; exact z)] at e2; cases e2
        have sl2 := stt.sl i s2 e2
        refine ⟨ρ[i], List.getElem?_eq_getElem hi, ?_⟩
        have kinds : ∀ (l : List (Sl ⊕ Nat)) (as : List Sl) (ρ : Env) (i : Nat) (s1 s2 : Sl), ρ[i]? = some s1 → (putB l as ρ)[i]? = some s2 → s1.isOwn = s2.isOwn := by
          intro l
          induction l with
          | nil => intro as ρ i s1 s2 a b; rw [putB] at b; rw [a] at b; cases b; rfl
          | cons x l ih =>
            intro as ρ i s1 s2 a b
            cases x with
            | inl s => exact ih _ ρ i s1 s2 a b
            | inr j =>
              simp only [putB] at b
              cases z : ρ[j]? with
              | none => simp only [z] at b; exact ih _ ρ i s1 s2 a b
              | some sj =>
                simp only [z] at b
                by_cases hij : j = i
                · subst hij
                  rw [a] at z; cases z
                  have hl : j < ρ.length := by
                    rcases Nat.lt_or_ge j ρ.length with h | h
                    · exact h
                    · rw [List.getElem?_eq_none h] at a; cases a
                  exact (upd1_own s1 as.head?).1.symm.trans (ih _ (ρ.set j (upd1 s1 as.head?)) j (upd1 s1 as.head?) s2 (List.getElem?_set_self hl) b)
                · exact ih _ (ρ.set j _) i s1 s2 (by rw [List.getElem?_set_ne hij]; exact a) b
        rw [kinds l as' ρ i _ _ (List.getElem?_eq_getElem hi) e2]; exact w2
      obtain ⟨s1, e1, w1⟩ := this
      have ow1 : Owns σ ρ i a := ⟨⟨s1, e1, w1⟩, es⟩
      by_cases hi : i ∈ refsOf l
      · obtain ⟨k, hk⟩ := refs_mem.mp hi
        obtain ⟨v2, ev2, _, r2⟩ := r.get hk
        have := r2 i rfl
        rw [es] at this; cases this
        obtain ⟨c, ek, h4⟩ := (hg k _ hk).2 i rfl
        have hp : (callP F H σ l as vs).pin k = some (.ref a) := by
          unfold callP
          simp only [ek]
          exact ev2
        obtain ⟨p1, s', p2, p3⟩ := st'.pin k _ hp
        exact x.free w k a ev ⟨⟨s', p2, by cases s' <;> first | rfl | cases p3⟩, p1⟩
      · obtain ⟨z1, z2, u, z3⟩ := st.owned ow1
        rw [callP_some z1 (noref ow1 hi) z3] at h1; cases h1
  refine ⟨?_, x.ne, x.nr, fun w i a ev => ?_⟩
  · cases o with
    | emp => trivial
    | val d => exact x.sl
    | fn y => exact x.sl
    | ref c => exact absurd x.nr (by simp [Sl.isRef])
    | own c =>
      obtain ⟨a, ea, h1, h2, h3⟩ := x.sl
      cases ea
      exact ⟨a, rfl, h1, (fresh h2 rfl rfl h1).1, h3⟩
  · cases o with
    | own c =>
      obtain ⟨a', ea, h1, h2, h3⟩ := x.sl
      rw [ev] at ea; cases ea
      exact (fresh h2 ev rfl h1).2 i
    | emp => cases w
    | val d => cases w
    | fn y => cases w
    | ref c => exact absurd x.nr (by simp [Sl.isRef])
end
structure PCD (X : Cx) (W : WX) (es : List Expr) (as : List Ar) : Prop where
  ex : ∃ t, PA X es t ∧ DC X.K X.mg W t as
section
variable {X : Cx} {W : WX} {x : Str} {p pos : Pos} {e : Expr} {es : List Expr} {f : EX} {as : List Ar}
theorem pcd_nil : PCD X W [] [] := ⟨_, pa_nil, dc_nil⟩
theorem pcd_v (h1 : PD X W e f) (h2 : PCD X W es as) (hs : starEach (e :: es) X.env = (false, eval e X.env) :: starEach es X.env := by rfl) : PCD X W (e :: es) (.v f :: as) := by
  obtain ⟨t, p, d⟩ := h1.ex
  obtain ⟨u, q, d2⟩ := h2.ex
  exact ⟨_, pa_cons p q hs, dc_v d d2⟩
theorem pcd_r (i : Nat) (h2 : PCD X W es as) (hN : X.N[i]? = some x := by rfl) (hv : Vis X.env.scope x := by first | exact Or.inl rfl | exact Or.inr (Or.inl rfl) | exact Or.inr (Or.inr rfl)) (hd : (x == ("__debug__" : Str)) = false := by decide)
    (hcd : (x == ("__classdict__" : Str)) = false := by decide) (hs : starEach ((.Name x p) :: es) X.env = (false, eval (.Name x p) X.env) :: starEach es X.env := by rfl) : PCD X W ((.Name x p) :: es) (.r i :: as) := by
  obtain ⟨u, q, d2⟩ := h2.ex
  exact ⟨_, pa_cons (pe_var hN hv hd hcd) q hs, dc_r i d2⟩
theorem de_call {K : PySem.W.Frag} {mg : Str → Option Value} {ta : TA} {den : Den} {n : Nat} (h : DC K mg W ta as) (hn : as.length = n) : DE K mg W (tCallS (spD K mg n den) (WE W) ta) (eCall den as) := by
  intro P F H σ ρ Q st hp
  refine h P F H σ ρ _ st ?_
  unfold eCall at hp
  cases e : cArgs as ρ with
  | bad => simp only [e] at hp; exact hp
  | exc c gs ρ1 => simp only [e] at hp; exact hp
  | ok l ρ1 =>
    simp only [e] at hp
    intro F1 H1 vs sb st1 r
    have hl : l.length = as.length := by
      have : ∀ (as : List Ar) (ρ ρ1 : Env) (l : List (Sl ⊕ Nat)), cArgs as ρ = .ok l ρ1 → l.length = as.length := by
        intro as
        induction as with
        | nil => intro ρ ρ1 l z; cases z; rfl
        | cons a as ih =>
          intro ρ ρ1 l z
          have c1 : ∀ {x : Sl ⊕ Nat} {ρ : Env}, (cArgs as ρ).cons x = .ok l ρ1 → l.length = as.length + 1 := fun {x ρ} z => by
            cases q : cArgs as ρ with
            | bad => rw [q] at z; cases z
            | exc c gs ρ2 => rw [q] at z; cases z
            | ok l2 ρ2 => rw [q] at z; cases z; simp [ih _ _ _ q]
          cases a with
          | v f =>
            simp only [cArgs] at z
            cases q : f ρ with
            | bad => rw [q] at z; cases z
            | exc c gs ρ2 => rw [q] at z; cases z
            | ok o ρ2 =>
              rw [q] at z
              simp only [R.toC] at z
              cases y : o.toVal with
              | none => simp only [y] at z; cases z
              | some s => simp only [y] at z; exact c1 z
          | r i =>
            simp only [cArgs] at z
            cases q : ρ[i]? with
            | none => simp only [q] at z; cases z
            | some s =>
              cases s with
              | own c => simp only [q] at z; exact c1 z
              | ref c => simp only [q] at z; exact c1 z
              | emp => simp only [q] at z; cases z
              | val d => simp only [q] at z; cases z
              | fn y => simp only [q] at z; cases z
      exact this as ρ ρ1 l e
    split at hp
    · rename_i nd
      cases m : mkAs l ρ1 with
      | none => simp only [m] at hp; exact hp.elim
      | some sls =>
        simp only [m] at hp
        obtain ⟨c1, c2, c3⟩ := call_in st1 r nd m
        refine ⟨by rw [r.length, hl, hn], _, F1, sls, c1, c2, c3, ?_⟩
        cases d : den sls with
        | bad => simp only [d] at hp; exact hp.elim
        | ret o as' =>
          simp only [d] at hp
          intro F2 H2 v sb2 st2 x
          obtain ⟨o1, o2⟩ := call_out st1 r nd m sb2 st2
          exact hp F2 H2 v (sb.trans sb2) o1 (o2 v o x)
        | exc c gs as' =>
          simp only [d] at hp
          intro F2 H2 C dd sb2 st2 x
          obtain ⟨o1, o2⟩ := call_out st1 r nd m sb2 st2
          exact hp F2 H2 C dd (sb.trans sb2) o1 x
    · exact hp.elim
/-- f(..), f a def of the text -/
theorem pd_call {ps : List Str} {k : Nat} {den : Den} (C : Callee X.prog X.w X.K X.mg X.base x ps k den) (hr : Room k X.A) (tk : Takes X W) (ha : PCD X W (e :: es) as) (hn : as.length = ps.length := by rfl) (hg : Gl X x := by rfl)
    (hdb : (x == ("__debug__" : Str)) = false := by decide) (he : starEach (e :: es) X.env = (false, eval e X.env) :: starEach es X.env := by rfl) (hpl : (backTo pos (starEach es X.env)).any (·.1) = false := by rfl) : PD X W (.Call (.Name x p) (e :: es) [] pos) (eCall den as) := by
  obtain ⟨f, fd, F, hm, hk, hb⟩ := C.ex
  obtain ⟨t, pa, dc⟩ := ha.ex
  exact ⟨_, pe_callS F hr hg hm hk hb (fun σ => passAt tk σ) pa hdb he hpl, de_call dc hn⟩
end
end Dk

set_option Elab.async false
set_option linter.all false
set_option maxRecDepth 100000
set_option maxHeartbeats 4000000
/-! Dk7: list comprehensions by data -/
namespace Dk
open PySem PySem.Spec L2

/-! ### the reading of a meaning -/
def tD (K : PySem.W.Frag) (mg : Str → Option Value) (W : WX) (f : EX) : TE := fun σ H Q => ∃ P F ρ, Stt K mg P F H σ ρ ∧ Post K mg W P F σ (f ρ) Q
def tTD (K : PySem.W.Frag) (mg : Str → Option Value) (W : WX) (f : EX) : TT := fun σ H Q => ∃ P F ρ, Stt K mg P F H σ ρ ∧ PostB K mg W P F σ (f ρ) Q
def gD (K : PySem.W.Frag) (mg : Str → Option Value) (h : Tg) : TG := fun v σ H Q => ∃ P F ρ ρ' d, Stt K mg P F H σ ρ ∧ Rep K F d v ∧ h.h d ρ = some ρ' ∧ ∀ σ', Stt K mg P F H σ' ρ' → Agree h.ts σ σ' → Q σ' H
def wD (K : PySem.W.Frag) (mg : Str → Option Value) (W : WX) (f : EX) : TI := fun σ H Q => ∃ P F ρ, Stt K mg P F H σ ρ ∧ PostI K mg W P F σ (f ρ) Q
section
variable {X : Cx} {W : WX} {e tg : Expr} {f : EX} {h : Tg} {ifs : List Expr}
theorem PD.toPE (p : PD X W e f) : PE X e (tD X.K X.mg W f) := by
  obtain ⟨t, pe, de⟩ := p.ex
  exact ⟨fun pins s σ H Q I ⟨P, F, ρ, st, hp⟩ => pe.run pins s σ H Q I (de P F H σ ρ Q st hp)⟩
theorem de_tD (K : PySem.W.Frag) (mg : Str → Option Value) (W : WX) (f : EX) : DE K mg W (tD K mg W f) f := fun P F H σ ρ Q st hp => ⟨P, F, ρ, st, hp⟩
theorem dt_tTD (K : PySem.W.Frag) (mg : Str → Option Value) (W : WX) (f : EX) : DT K mg W (tTD K mg W f) f := fun P F H σ ρ Q st hp => ⟨P, F, ρ, st, hp⟩
theorem dg_gD (K : PySem.W.Frag) (mg : Str → Option Value) (h : Tg) : DG K mg (gD K mg h) h := fun P F H σ ρ ρ' d v Q st r e k => ⟨P, F, ρ, ρ', d, st, r, e, k⟩
theorem di_wD (K : PySem.W.Frag) (mg : Str → Option Value) (W : WX) (f : EX) : DI K mg W (wD K mg W f) f := fun P F H σ ρ Q st hp => ⟨P, F, ρ, st, hp⟩
theorem PGD.toPG (p : PGD X tg h) : PG X tg (gD X.K X.mg h) := by
  obtain ⟨g, pg, dg⟩ := p.ex
  exact ⟨fun pins s σ H v u Q I r ⟨P, F, ρ, ρ', d, st, rp, e, k⟩ => pg.run pins s σ H v u Q I r (dg P F H σ ρ ρ' d v Q st rp e k)⟩
theorem PID.toPI (p : PID X W tg e f) : PI X tg e (wD X.K X.mg W f) := by
  obtain ⟨wi, pi, di⟩ := p.ex
  exact ⟨fun pins s σ H Q I ⟨P, F, ρ, st, hp⟩ => pi.run pins s σ H Q I (di P F H σ ρ Q st hp)⟩
/-- a clause's tests -/
structure PTsD (X : Cx) (W : WX) (ifs : List Expr) (f : EX) : Prop where
  ex : ∃ t, PTs X ifs t ∧ DT X.K X.mg W t f
theorem PTsD.toPTs (p : PTsD X W ifs f) : PTs X ifs (tTD X.K X.mg W f) := by
  obtain ⟨t, pt, dt⟩ := p.ex
  exact ⟨fun pins s σ H Q I ⟨P, F, ρ, st, hp⟩ => pt.run pins s σ H Q I (dt P F H σ ρ Q st hp)⟩
def eYes : EX := fun ρ => .ok (.val (.bool true)) ρ
theorem ptsd_nil : PTsD X W [] eYes := ⟨_, pts_nil, fun P F H σ ρ Q st hp => hp F H (SubH.refl F) st⟩
theorem ptsd_one {c : Expr} (p : PTD X W c f) : PTsD X W [c] f := by
  obtain ⟨t, pt, dt⟩ := p.ex
  exact ⟨_, pts_one pt, dt⟩
end

/-! ### slots of a block -/
def wipeE (vs : List Nat) (ρ : Env) : Env := ρ.mapIdx fun i s => if i ∈ vs then .emp else s
def unwipe (vs : List Nat) (old ρ : Env) : Env := ρ.mapIdx fun i s => if i ∈ vs then old.getD i .emp else s
def clearB (vs : List Nat) (ρ : Env) : Bool := vs.all fun i => match ρ[i]? with
  | some s => !s.isOwn
  | none => true
def lcD (h : Tg) (tt elt : EX) (vs : List Nat) : List D → Env → List D → R
  | [], ρ, acc => .ok (.own (.lst acc)) ρ
  | d :: ds, ρ, acc => match h.h d ρ with
    | none => .bad
    | some ρ1 => match tt ρ1 with
      | .ok (.val (.bool b)) ρ2 => if b = true then (match elt ρ2 with
          | .ok o ρ3 => (match o.frz with
            | some y => lcD h tt elt vs ds (wipeE vs ρ3) (acc ++ [y])
            | none => .bad)
          | _ => .bad) else lcD h tt elt vs ds (wipeE vs ρ2) acc
      | _ => .bad
def R.unw (vs : List Nat) (old : Env) : R → R
  | .ok o ρ => .ok o (unwipe vs old ρ)
  | r => r
def eLc (fi : EX) (h : Tg) (tt elt : EX) (vs : List Nat) : EX := fun ρ => match fi ρ with
  | .ok (.val (.list ds)) ρ1 => if clearB vs ρ1 = true ∧ ds.length ≤ sizeLine then (lcD h tt elt vs ds (wipeE vs ρ1) []).unw vs ρ1 else .bad
  | .exc c fs ρ1 => .exc c fs ρ1
  | _ => .bad
theorem wipe_get {σ : SS} {vs : List Nat} {i : Nat} : (wipe σ vs)[i]? = if i ∈ vs then (if i < σ.length then some none else none) else σ[i]? := by
  induction vs with
  | nil => simp [wipe]
  | cons v vs ih =>
    unfold wipe
    by_cases h : v = i
    · subst h
      rw [if_pos List.mem_cons_self]
      by_cases hl : v < σ.length
      · rw [List.getElem?_set_self (by rw [wipe_length]; exact hl), if_pos hl]
      · rw [List.getElem?_eq_none (by simpa [wipe_length] using hl), if_neg hl]
    · rw [List.getElem?_set_ne h, ih]
      by_cases h2 : i ∈ vs
      · rw [if_pos h2, if_pos (List.mem_cons_of_mem _ h2)]
      · rw [if_neg h2, if_neg (fun z => by
          rcases List.mem_cons.mp z with z | z
          · exact h z.symm
          · exact h2 z)]
theorem wipe_agree {σ σ' : SS} {ts vs : List Nat} (a : Agree ts σ σ') (hs : ∀ i ∈ ts, i ∈ vs) : wipe σ' vs = wipe σ vs := by
  apply List.ext_getElem?
  intro i
  rw [wipe_get, wipe_get, a.1]
  by_cases h : i ∈ vs
  · rw [if_pos h, if_pos h]
  · rw [if_neg h, if_neg h]
    exact a.2 i fun z => h (hs i z)
theorem wipe_wipe (σ : SS) (vs : List Nat) : wipe (wipe σ vs) vs = wipe σ vs := by
  apply List.ext_getElem?
  intro i
  rw [wipe_get, wipe_get, wipe_length]
  by_cases h : i ∈ vs
  · rw [if_pos h, if_pos h]
  · rw [if_neg h, if_neg h]
theorem wipeE_get {ρ : Env} {vs : List Nat} {i : Nat} {s : Sl} (e : (wipeE vs ρ)[i]? = some s) : (i ∈ vs ∧ s = .emp) ∨ (i ∉ vs ∧ ρ[i]? = some s) := by
  unfold wipeE at e
  rw [List.getElem?_mapIdx] at e
  cases q : ρ[i]? with
  | none => rw [q] at e; cases e
  | some s0 =>
    rw [q] at e
    simp only [Option.map_some, Option.some.injEq] at e
    by_cases h : i ∈ vs
    · rw [if_pos h] at e; exact .inl ⟨h, e.symm⟩
    · rw [if_neg h] at e; exact .inr ⟨h, by rw [e]⟩
theorem unwipe_get {old ρ : Env} {vs : List Nat} {i : Nat} {s : Sl} (e : (unwipe vs old ρ)[i]? = some s) : (i ∈ vs ∧ s = old.getD i .emp) ∨ (i ∉ vs ∧ ρ[i]? = some s) := by
  unfold unwipe at e
  rw [List.getElem?_mapIdx] at e
  cases q : ρ[i]? with
  | none => rw [q] at e; cases e
  | some s0 =>
    rw [q] at e
    simp only [Option.map_some, Option.some.injEq] at e
    by_cases h : i ∈ vs
    · rw [if_pos h] at e; exact .inl ⟨h, e.symm⟩
    · rw [if_neg h] at e; exact .inr ⟨h, by rw [e]⟩
section
variable {K : PySem.W.Frag} {mg : Str → Option Value} {P : Prot} {F H : Hp} {σ : SS} {ρ : Env}
theorem clearB_get {vs : List Nat} (h : clearB vs ρ = true) {i : Nat} {s : Sl} (hi : i ∈ vs) (e : ρ[i]? = some s) : s.isOwn = false := by
  unfold clearB at h
  rw [List.all_eq_true] at h
  have := h i hi
  rw [e] at this
  simpa using this
/-- protected besides: the object at a -/
def Prot.also (P : Prot) (a : Addr) (o : HO) : Prot := { H := upd P.H a o, pin := P.pin }
theorem Owns.of_wipe {vs : List Nat} {i : Nat} {a : Addr} (w : Owns (wipe σ vs) (wipeE vs ρ) i a) : Owns σ ρ i a ∧ i ∉ vs := by
  obtain ⟨⟨s, e, k⟩, q⟩ := w
  rcases wipeE_get e with ⟨h, rfl⟩ | ⟨h, e'⟩
  · cases k
  · rw [wipe_get, if_neg h] at q
    exact ⟨⟨⟨s, e', k⟩, q⟩, h⟩
theorem SlOk.also {a : Addr} {u : HO} {o : Option V} {s : Sl} (hn : s.isOwn = true → o ≠ some (.ref a)) (x : SlOk K mg P F H o s) : SlOk K mg (P.also a u) F H o s := by
  cases s with
  | emp => trivial
  | val d => exact x
  | fn y => exact x
  | own c =>
    obtain ⟨b, e, h1, h2, h3⟩ := x
    refine ⟨b, e, h1, ?_, h3⟩
    show upd P.H a u b = none
    rw [upd_ne (fun z => hn rfl (by rw [e, z]))]; exact h2
  | ref c =>
    obtain ⟨b, e, h1, h2, h3⟩ := x
    refine ⟨b, e, h1, ?_, h3⟩
    show upd P.H a u b = none
    rw [upd_ne (fun z => hn rfl (by rw [e, z]))]; exact h2
theorem SlOk.unalso {a : Addr} {u : HO} {o : Option V} {s : Sl} (hn : P.H a = none) (x : SlOk K mg (P.also a u) F H o s) : SlOk K mg P F H o s := by
  have z : ∀ b, (P.also a u).H b = none → P.H b = none := fun b h => by
    by_cases hb : b = a
    · rw [hb]; exact hn
    · have h' : upd P.H a u b = none := h
      rw [upd_ne hb] at h'; exact h'
  cases s with
  | emp => trivial
  | val d => exact x
  | fn y => exact x
  | own c => obtain ⟨b, e, h1, h2, h3⟩ := x; exact ⟨b, e, h1, z b h2, h3⟩
  | ref c => obtain ⟨b, e, h1, h2, h3⟩ := x; exact ⟨b, e, h1, z b h2, h3⟩
/-- into a block: its own slots are empty, the new list at a is protected -/
theorem Stt.block {vs : List Nat} {a : Addr} {u : HO} (st : Stt K mg P F H σ ρ) (hc : clearB vs ρ = true) (ha : H a = some u) (hf : F a = none) (hn : ∀ i, ¬ Owns σ ρ i a) : Stt K mg (P.also a u) F H (wipe σ vs) (wipeE vs ρ) where
  sub := st.sub
  keep := fun p o q => by
    by_cases hp : p = a
    · subst hp
      have q' : upd P.H p u p = some o := q
      rw [upd_same] at q'; cases q'
      exact ⟨ha, hf⟩
    · have q' : upd P.H a u p = some o := q
      rw [upd_ne hp] at q'
      exact st.keep p o q'
  len := by rw [wipe_length]; simp [wipeE, st.len]
  sl := fun i s e => by
    rcases wipeE_get e with ⟨h, rfl⟩ | ⟨h, e'⟩
    · trivial
    · have z : (wipe σ vs).getD i none = σ.getD i none := by simp only [List.getD]; rw [wipe_get, if_neg h]
      rw [z]
      exact (st.sl i s e').also fun w q => hn i ⟨⟨s, e', w⟩, of_getD q⟩
  apart := fun i j b w1 w2 => st.apart i j b w1.of_wipe.1 w2.of_wipe.1
  pin := fun i v e => by
    obtain ⟨h1, s, h2, h3⟩ := st.pin i v e
    have hi : i ∉ vs := fun z => by
      have := clearB_get hc z h2
      cases s <;> first | (cases h3; done) | (cases this; done)
    refine ⟨by rw [wipe_get, if_neg hi]; exact h1, s, ?_, h3⟩
    unfold wipeE
    rw [List.getElem?_mapIdx, h2]
    simp [hi]
/-- between two turns: the block's slots are emptied again; the new list has grown -/
theorem Stt.again {vs : List Nat} {a : Addr} {u u' : HO} {σ0 : SS} (st : Stt K mg (P.also a u) F H σ ρ) (hw : wipe σ vs = wipe σ0 vs) (hc : ∀ i ∈ vs, P.pin i = none) (hn : P.H a = none) (hf : F a = none) :
    Stt K mg (P.also a u') F (upd H a u') (wipe σ0 vs) (wipeE vs ρ) where
  sub := fun p o q => by
    rw [upd_ne (fun z => by subst z; rw [hf] at q; cases q)]
    exact st.sub p o q
  keep := fun p o q => by
    by_cases hp : p = a
    · subst hp
      have q' : upd P.H p u' p = some o := q
      rw [upd_same] at q'; cases q'
      exact ⟨upd_same, hf⟩
    · have q' : upd P.H a u' p = some o := q
      rw [upd_ne hp] at q'
      obtain ⟨h1, h2⟩ := st.keep p o (show upd P.H a u p = some o by rw [upd_ne hp]; exact q')
      exact ⟨by rw [upd_ne hp]; exact h1, h2⟩
  len := by
    have : (wipe σ0 vs).length = σ.length := by rw [← hw, wipe_length]
    rw [this]; simp [wipeE, st.len]
  sl := fun i s e => by
    rcases wipeE_get e with ⟨h, rfl⟩ | ⟨h, e'⟩
    · trivial
    · have z : (wipe σ0 vs).getD i none = σ.getD i none := by rw [← hw]; simp only [List.getD]; rw [wipe_get, if_neg h]
      rw [z]
      have x := st.sl i s e'
      have na : s.isOwn = true → σ.getD i none ≠ some (.ref a) := fun w q => by
        obtain ⟨_, h2, _⟩ := st.owned ⟨⟨s, e', w⟩, of_getD q⟩
        have : upd P.H a u a = none := h2
        rw [upd_same] at this; cases this
      have x2 := (x.unalso hn).also (a := a) (u := u') na
      refine x2.grow (SubH.refl F) fun b w q => ?_
      have hb : b ≠ a := fun z => na w (by rw [q, z])
      obtain ⟨h1, _, _⟩ := st.owned ⟨⟨s, e', w⟩, of_getD q⟩
      exact ⟨h1, upd_ne hb⟩
  apart := fun i j b w1 w2 => by
    rw [← hw] at w1 w2
    exact st.apart i j b w1.of_wipe.1 w2.of_wipe.1
  pin := fun i v e => by
    obtain ⟨h1, s, h2, h3⟩ := st.pin i v e
    have hi : i ∉ vs := fun z => by
      have e' : P.pin i = some v := e
      rw [hc i z] at e'; cases e'
    refine ⟨by rw [← hw, wipe_get, if_neg hi]; exact h1, s, ?_, h3⟩
    unfold wipeE
    rw [List.getElem?_mapIdx, h2]
    simp [hi]
/-- out of a block -/
theorem Stt.unblock {vs : List Nat} {a : Addr} {u : HO} {F0 H0 : Hp} {ρ0 : Env} (st0 : Stt K mg P F0 H0 σ ρ0) (hc : clearB vs ρ0 = true) (sb : SubH F0 F) (st : Stt K mg (P.also a u) F H (wipe σ vs) ρ) (hn : P.H a = none) :
    Stt K mg P F H σ (unwipe vs ρ0 ρ) ∧ ∀ i, ¬ Owns σ (unwipe vs ρ0 ρ) i a := by
  have own : ∀ i b, Owns σ (unwipe vs ρ0 ρ) i b → Owns (wipe σ vs) ρ i b := fun i b ⟨⟨s, e, w⟩, q⟩ => by
    rcases unwipe_get e with ⟨h, rfl⟩ | ⟨h, e'⟩
    · cases z : ρ0[i]? with
      | none => simp only [List.getD, z] at w; cases w
      | some s0 =>
        have := clearB_get hc h z
        simp only [List.getD, z, Option.getD_some] at w
        rw [this] at w; cases w
    · exact ⟨⟨s, e', w⟩, by rw [wipe_get, if_neg h]; exact q⟩
  refine ⟨⟨st.sub, fun p o q => st.keep p o (show upd P.H a u p = some o by
      rw [upd_ne (fun z => by subst z; rw [hn] at q; cases q)]; exact q), ?_, fun i s e => ?_, fun i j b w1 w2 => st.apart i j b (own i b w1) (own j b w2), fun i v e => ?_⟩, fun i w => ?_⟩
  · have h1 := st.len
    rw [wipe_length] at h1
    simp [unwipe, h1]
  · rcases unwipe_get e with ⟨h, rfl⟩ | ⟨h, e'⟩
    · cases z : ρ0[i]? with
      | none => simp only [List.getD, z]; trivial
      | some s0 =>
        have no := clearB_get hc h z
        have x := st0.sl i s0 z
        have : ρ0.getD i .emp = s0 := by simp [List.getD, z]
        rw [this]
        exact x.grow sb fun b w => by rw [no] at w; cases w
    · have x := st.sl i s e'
      have z : (wipe σ vs).getD i none = σ.getD i none := by simp only [List.getD]; rw [wipe_get, if_neg h]
      rw [z] at x
      exact x.unalso hn
  · obtain ⟨h1, s, h2, h3⟩ := st.pin i v e
    obtain ⟨g1, s0, g2, g3⟩ := st0.pin i v e
    have hi : i ∉ vs := fun z => by
      have := clearB_get hc z g2
      cases s0 <;> first | (cases g3; done) | (cases this; done)
    refine ⟨g1, s, ?_, h3⟩
    unfold unwipe
    rw [List.getElem?_mapIdx, h2]
    simp [hi]
  · obtain ⟨_, z, _⟩ := st.owned (own i a w)
    have : upd P.H a u a = none := z
    rw [upd_same] at this; cases this
end
abbrev WF : WX := fun _ _ _ _ => False
section
variable {K : PySem.W.Frag} {mg : Str → Option Value} {W : WX}
theorem lc_go {P : Prot} {F1 H1 : Hp} {σ : SS} {ρ1 : Env} {Q : VK} {J : It} {ds : List D} {h : Tg} {tt elt : EX} {vs : List Nat} (hts : ∀ i ∈ h.ts, i ∈ vs) (st1 : Stt K mg P F1 H1 σ ρ1) (it : ItOk K mg J F1 ds) (hc : clearB vs ρ1 = true) (hz : ds.length ≤ sizeLine)
    (hp : Post K mg W P F1 σ ((lcD h tt elt vs ds (wipeE vs ρ1) []).unw vs ρ1) Q) : tLc (fun _ H R => R J H) (gD K mg h) (tTD K mg WF tt) (tD K mg WF elt) vs σ H1 Q := by
  intro a hna
  obtain ⟨fr1, fr2, fr3⟩ := st1.fresh hna
  have stA : Stt K mg P F1 (upd H1 a (.lst [])) σ ρ1 := st1.alloc hna
  have stB : Stt K mg (P.also a (.lst [])) F1 (upd H1 a (.lst [])) (wipe σ vs) (wipeE vs ρ1) := stA.block hc upd_same fr1 fr3
  have hpin : ∀ i ∈ vs, P.pin i = none := fun i hi => by
    cases q : P.pin i with
    | none => rfl
    | some v =>
      obtain ⟨_, s, h2, h3⟩ := st1.pin i v q
      have := clearB_get hc hi h2
      cases s <;> first | (cases h3; done) | (cases this; done)
  refine ⟨fun i m H' => ∃ F' ρ' acc accV, m = ds.length - i ∧ i ≤ ds.length ∧ acc.length ≤ i ∧ SubH F1 F' ∧ Stt K mg (P.also a (.lst accV)) F' H' (wipe σ vs) ρ' ∧ RepL K F' acc accV ∧ Post K mg W P F' σ ((lcD h tt elt vs (ds.drop i) ρ' acc).unw vs ρ1) Q,
    ⟨ds.length, F1, _, [], [], by omega, Nat.zero_le _, Nat.le_refl _, SubH.refl _, stB, RepL.nil, hp⟩, ?_⟩
  rintro i m H' ⟨F', ρ', acc, accV, rfl, hi', hacc, sb', st', rl, q⟩
  have hF' : F' a = none := (st'.keep a (.lst accV) upd_same).2
  have hH' : H' a = some (.lst accV) := (st'.keep a (.lst accV) upd_same).1
  obtain ⟨i1, i2⟩ := it (P.also a (.lst accV)) F' H' (wipe σ vs) ρ' i sb' st'
  by_cases hlt : i < ds.length
  · obtain ⟨go, y⟩ := i2 ds[i] (by simp [hlt])
    rw [List.drop_eq_getElem_cons hlt] at q
    refine .inr ⟨go, fun H2 => ∃ F2 ρ2 acc2 accV2, acc2.length ≤ i + 1 ∧ SubH F1 F2 ∧ Stt K mg (P.also a (.lst accV2)) F2 H2 (wipe σ vs) ρ2 ∧ RepL K F2 acc2 accV2 ∧ Post K mg W P F2 σ ((lcD h tt elt vs (ds.drop (i + 1)) ρ2 acc2).unw vs ρ1) Q,
      fun H2 ⟨F2, ρ2, acc2, accV2, z1, z2, z3, z4, z5⟩ => ⟨ds.length - (i + 1), by omega, F2, ρ2, acc2, accV2, rfl, hlt, z1, z2, z3, z4, z5⟩, fun x H2 yx => ?_⟩
    obtain ⟨F2, sb2, st2, r2⟩ := y x H2 yx
    simp only [lcD] at q
    cases z : h.h ds[i] ρ' with
    | none => simp only [z] at q; exact q.elim
    | some ρ3 =>
      simp only [z] at q
      refine ⟨_, F2, ρ', ρ3, ds[i], st2, r2, z, fun σ3 st3 ag => ⟨?_, ?_⟩⟩
      · rw [wipe_agree ag hts, wipe_wipe]
      · have hw3 : wipe σ3 vs = wipe σ vs := by rw [wipe_agree ag hts, wipe_wipe]
        refine ⟨_, F2, ρ3, st3, ?_⟩
        have q' := Post.le sb2 q
        cases w : tt ρ3 with
        | bad => simp only [w] at q'; exact q'.elim
        | exc c fs ρ4 => simp only [w] at q'; exact q'.elim
        | ok o ρ4 =>
          simp only [w] at q'
          cases o with
          | val dv =>
            cases dv with
            | bool b =>
              simp only at q'
              intro F4 H4 sb4 st4
              cases b with
              | false =>
                simp only [Bool.false_eq_true, if_false] at q' ⊢
                have hF4 : F4 a = none := (st4.keep a (.lst accV) upd_same).2
                have hH4 : H4 a = some (.lst accV) := (st4.keep a (.lst accV) upd_same).1
                refine ⟨F4, wipeE vs ρ4, acc, accV, by omega, (sb'.trans sb2).trans sb4, ?_, RepL.le (sb2.trans sb4).rd _ _ rl, Post.le sb4 q'⟩
                have := st4.again (u' := .lst accV) hw3 hpin fr2 hF4
                have eH : upd H4 a (.lst accV) = H4 := by
                  funext b
                  by_cases hb : b = a
                  · subst hb; rw [upd_same, hH4]
                  · rw [upd_ne hb]
                rw [eH] at this
                exact this
              | true =>
                simp only [if_true] at q' ⊢
                refine ⟨_, F4, ρ4, st4, ?_⟩
                have q4 := Post.le sb4 q'
                cases w2 : elt ρ4 with
                | bad => simp only [w2] at q4; exact q4.elim
                | exc c fs ρ5 => simp only [w2] at q4; exact q4.elim
                | ok o ρ5 =>
                  simp only [w2] at q4
                  intro F5 H5 v sb5 st5 x5
                  cases z5 : o.frz with
                  | none => simp only [z5] at q4; exact q4.elim
                  | some yv =>
                    simp only [z5] at q4
                    obtain ⟨F6, sb6, st6, r6⟩ := st5.freeze x5 z5
                    have hF6 : F6 a = none := (st6.keep a (.lst accV) upd_same).2
                    have hH6 : H5 a = some (.lst accV) := (st6.keep a (.lst accV) upd_same).1
                    have hl := rl.length
                    refine ⟨accV, hH6, by omega, F6, wipeE vs ρ5, acc ++ [yv], accV ++ [v], by simp; omega, (((sb'.trans sb2).trans sb4).trans sb5).trans sb6, ?_, ?_, Post.le (sb5.trans sb6) q4⟩
                    · exact st6.again hw3 hpin fr2 hF6
                    · exact (RepL.le (((sb2.trans sb4).trans sb5).trans sb6).rd _ _ rl).append (RepL.cons r6 RepL.nil)
            | none => exact q'.elim
            | int i => exact q'.elim
            | str i => exact q'.elim
            | list i => exact q'.elim
            | tuple i => exact q'.elim
            | dict i => exact q'.elim
            | dictT i => exact q'.elim
            | tag _ i => exact q'.elim
          | emp => exact q'.elim
          | own c => exact q'.elim
          | ref c => exact q'.elim
          | fn c => exact q'.elim
  · have ei : i = ds.length := by omega
    subst ei
    rw [List.drop_length] at q
    simp only [lcD, R.unw] at q
    obtain ⟨s1, s2⟩ := st1.unblock hc sb' st' fr2
    refine .inl ⟨i1 rfl, q F' H' _ (SubH.refl _) s1 ⟨⟨a, rfl, hF', fr2, accV, hH', rl⟩, (by intro z; cases z), rfl, fun _ i b eb w => ?_⟩⟩
    cases eb
    exact s2 i w
theorem de_lc {wi : TI} {fi : EX} {h : Tg} {tt elt : EX} {vs : List Nat} (hi : DI K mg W wi fi) (hts : ∀ i ∈ h.ts, i ∈ vs) : DE K mg W (tLc wi (gD K mg h) (tTD K mg WF tt) (tD K mg WF elt) vs) (eLc fi h tt elt vs) := by
  intro P F H σ ρ Q st hp
  refine hi P F H σ ρ _ st ?_
  unfold eLc at hp
  cases e : fi ρ with
  | bad => simp only [e] at hp; exact hp
  | exc c fs ρ1 => simp only [e] at hp; exact hp
  | ok o ρ1 =>
    simp only [e] at hp
    cases o with
    | val d =>
      cases d with
      | list ds =>
        simp only at hp
        split at hp
        · rename_i hcl
          obtain ⟨hc, hz⟩ := hcl
          intro F1 H1 J sb st1 it
          exact lc_go hts st1 it hc hz (Post.le sb hp)
        · exact hp.elim
      | none => exact hp.elim
      | bool i => exact hp.elim
      | int i => exact hp.elim
      | str i => exact hp.elim
      | tuple i => exact hp.elim
      | dict i => exact hp.elim
      | dictT i => exact hp.elim
      | tag _ i => exact hp.elim
    | emp => exact hp.elim
    | own c => exact hp.elim
    | ref c => exact hp.elim
    | fn c => exact hp.elim
end
section
variable {X : Cx} {W : WX} {elt tg iter : Expr} {ifs : List Expr} {scope : Scope} {own : List (Str × Nat)} {pos pos' : Pos} {fi tt fe : EX} {h : Tg}
theorem pd_lc (own : List (Str × Nat)) (hN : X.N.Nodup) (hi : PID X W tg iter fi) (ok : BlkOk X.N X.env.scope scope own)
    (hg : ∀ (s : Shared) (H : Hp) (C : Addr) (cl : List (Str × Addr)) (fp : List Addr), PGD (X.blk s H scope (PySem.compEnvC scope cl C X.env) fp) tg h) (ht : ∀ (s : Shared) (H : Hp) (C : Addr) (cl : List (Str × Addr)) (fp : List Addr), PTsD (X.blk s H scope (PySem.compEnvC scope cl C X.env) fp) WF ifs tt)
    (he : ∀ (s : Shared) (H : Hp) (C : Addr) (cl : List (Str × Addr)) (fp : List Addr), PD (X.blk s H scope (PySem.compEnvC scope cl C X.env) fp) WF elt fe) (hc : X.calm = true := by rfl) (hts : ∀ i ∈ h.ts, i ∈ own.map (·.2) := by decide)
    (hs : ∀ x, foldedSetIterable iter X.env x = pure x := by intro _; rfl) : PD X W (.ListComp elt [⟨tg, iter, ifs, 0⟩] scope pos) (eLc fi h tt fe (own.map (·.2))) := by
  obtain ⟨wi, pi, di⟩ := hi.ex
  exact ⟨_, pe_lc hc hN pi ok (fun s H C cl fp => (hg s H C cl fp).toPG) (fun s H C cl fp => (ht s H C cl fp).toPTs) (fun s H C cl fp => (he s H C cl fp).toPE) hs, de_lc di hts⟩
theorem psd_lc (i : Nat) (own : List (Str × Nat)) {y : Str} {py spos : Pos} (hN : X.N.Nodup) (hi : PID X W tg iter fi) (ok : BlkOk X.N X.env.scope scope own)
    (hg : ∀ (s : Shared) (H : Hp) (C : Addr) (cl : List (Str × Addr)) (fp : List Addr), PGD (X.blk s H scope (PySem.compEnvC scope cl C X.env) fp) tg h) (ht : ∀ (s : Shared) (H : Hp) (C : Addr) (cl : List (Str × Addr)) (fp : List Addr), PTsD (X.blk s H scope (PySem.compEnvC scope cl C X.env) fp) WF ifs tt)
    (he : ∀ (s : Shared) (H : Hp) (C : Addr) (cl : List (Str × Addr)) (fp : List Addr), PD (X.blk s H scope (PySem.compEnvC scope cl C X.env) fp) WF elt fe)
    (hsw : swapsWith (.ListComp elt [⟨tg, iter, ifs, 0⟩] scope pos) (some (.Name y py)) spos.line X.env = pure true) (hy : X.N[i]? = some y := by rfl) (hyl : X.env.scope.names.lookup y = some .local := by rfl) (hc : X.calm = true := by rfl) (hts : ∀ i ∈ h.ts, i ∈ own.map (·.2) := by decide)
    (hs : ∀ x, foldedSetIterable iter X.env x = pure x := by intro _; rfl) : PSD X W (.Assign [.Name y py] (.ListComp elt [⟨tg, iter, ifs, 0⟩] scope pos) spos) (sAsg i (eLc fi h tt fe (own.map (·.2)))) := by
  obtain ⟨wi, pi, di⟩ := hi.ex
  exact ⟨_, ps_setLc hc hN hy hyl hsw pi ok (fun s H C cl fp => (hg s H C cl fp).toPG) (fun s H C cl fp => (ht s H C cl fp).toPTs) (fun s H C cl fp => (he s H C cl fp).toPE) hs, ds_asg i (de_lc di hts)⟩
theorem psd_lcO (i : Nat) (own : List (Str × Nat)) {y : Str} {py spos : Pos} (hN : X.N.Nodup) (hi : PID X W tg iter fi) (ok : BlkOk X.N X.env.scope scope own)
    (hg : ∀ (s : Shared) (H : Hp) (C : Addr) (cl : List (Str × Addr)) (fp : List Addr), PGD (X.blk s H scope (PySem.compEnvC scope cl C X.env) fp) tg h) (ht : ∀ (s : Shared) (H : Hp) (C : Addr) (cl : List (Str × Addr)) (fp : List Addr), PTsD (X.blk s H scope (PySem.compEnvC scope cl C X.env) fp) WF ifs tt)
    (he : ∀ (s : Shared) (H : Hp) (C : Addr) (cl : List (Str × Addr)) (fp : List Addr), PD (X.blk s H scope (PySem.compEnvC scope cl C X.env) fp) WF elt fe)
    (hsw : swapsWith (.ListComp elt [⟨tg, iter, ifs, 0⟩] scope pos) (some (.Name y py)) spos.line X.env = pure true) (hy : X.N[i]? = some y := by rfl) (hyl : X.env.scope.names.lookup y = some .local := by rfl) (hc : X.calm = true := by rfl) (hts : ∀ i ∈ h.ts, i ∈ own.map (·.2) := by decide)
    (hs : ∀ x, foldedSetIterable iter X.env x = pure x := by intro _; rfl) : PSD X W (.Assign [.Name y py] (.ListComp elt [⟨tg, iter, ifs, 0⟩] scope pos) spos) (sAsgO i (eLc fi h tt fe (own.map (·.2)))) := by
  obtain ⟨wi, pi, di⟩ := hi.ex
  exact ⟨_, ps_setLc hc hN hy hyl hsw pi ok (fun s H C cl fp => (hg s H C cl fp).toPG) (fun s H C cl fp => (ht s H C cl fp).toPTs) (fun s H C cl fp => (he s H C cl fp).toPE) hs, ds_asgO i (de_lc di hts)⟩
end
end Dk

set_option Elab.async false
set_option linter.all false
set_option maxRecDepth 100000
set_option maxHeartbeats 4000000
/-! Dk8: a slot's own list changed; own objects read; isinstance -/
namespace Dk
open PySem PySem.Spec L2

/-! ### own objects read: a flat value of an expression over them -/
def flatD : D → Bool
  | .none => true
  | .bool _ => true
  | .int _ => true
  | .str _ => true
  | _ => false
mutual
/-- no list, no dict within: no object that may be changed -/
def solidD : D → Bool
  | .none => true
  | .bool _ => true
  | .int _ => true
  | .str _ => true
  | .tuple ds => solidL ds
  | .list _ => false
  | .dict _ => false
  | .dictT _ => false
  | .tag _ _ => false
def solidL : List D → Bool
  | [] => true
  | d :: ds => solidD d && solidL ds
end
mutual
theorem rep_solid {K : PySem.W.Frag} {F F' : Hp} (h : ∀ t vs, Rd F t (.tup vs) → Rd F' t (.tup vs)) : ∀ (d : D) (v : V), solidD d = true → Rep K F d v → Rep K F' d v
  | .none, v, _, r => by unfold Rep at r ⊢; exact r
  | .bool b, v, _, r => by unfold Rep at r ⊢; exact r
  | .int b, v, _, r => by unfold Rep at r ⊢; exact r
  | .str b, v, _, r => by unfold Rep at r ⊢; exact r
  | .tuple ds, v, c, r => by
    unfold solidD at c
    unfold Rep at r ⊢
    obtain ⟨a, vs, e, s, l⟩ := r
    refine ⟨a, vs, e, ?_, rep_solidL h ds vs c l⟩
    rcases s with s | s
    · exact .inl (h _ _ s)
    · exact .inr s
  | .list _, _, c, _ => by unfold solidD at c; cases c
  | .dict _, _, c, _ => by unfold solidD at c; cases c
  | .dictT _, _, c, _ => by unfold solidD at c; cases c
  | .tag _ _, _, c, _ => by unfold solidD at c; cases c
theorem rep_solidL {K : PySem.W.Frag} {F F' : Hp} (h : ∀ t vs, Rd F t (.tup vs) → Rd F' t (.tup vs)) : ∀ (ds : List D) (vs : List V), solidL ds = true → RepL K F ds vs → RepL K F' ds vs
  | [], vs, _, r => by unfold RepL at r ⊢; exact r
  | d :: ds, vs, c, r => by
    unfold solidL at c
    rw [Bool.and_eq_true] at c
    unfold RepL at r ⊢
    obtain ⟨v, ws, e, r1, r2⟩ := r
    exact ⟨v, ws, e, rep_solid h d v c.1 r1, rep_solidL h ds ws c.2 r2⟩
end
/-- dicts that were held still for a walk are let go -/
def Thawed (H H' H'' : Hp) : Prop := ∀ a, H'' a = H' a ∨ ((∀ ob u, H a ≠ some (.frz ob u)) ∧ ∃ ob u, H' a = some (.frz ob u) ∧ isDct u ∧ H'' a = some u)
theorem Inv.thaw {X : Cx} {pins : List (Addr × Obj)} {σ σ' : SS} {H H' H'' : Hp} {s0 s : Shared} (I0 : Inv X pins σ H s0) (I : Inv X pins σ' H' s) (T : Thawed H H' H'') : Inv X pins σ' H'' s := by
  have ex : ∀ a o, H' a = some o → (∀ ob u, o ≠ .frz ob u) → H'' a = some o := fun a o e n => by
    rcases T a with h | ⟨_, ob, u, h, _⟩
    · rw [h]; exact e
    · rw [e] at h; cases h; exact absurd rfl (n ob u)
  have no : ∀ a, H' a = none → H'' a = none := fun a e => by
    rcases T a with h | ⟨_, ob, u, h, _⟩
    · rw [h]; exact e
    · rw [e] at h; cases h
  refine { I with base := ⟨I.base.keep, I.base.slot, fun b o e n hx => no b (I.base.free b o e n hx), I.base.there, fun b xs e => ex b _ (I.base.tups b xs e) (by intro _ _ z; cases z), fun b o u e => ?_, fun b ps e => ?_⟩, free := no _ I.free, freeC := fun x c e => no c (I.freeC x c e), pin := fun p hp => ?_, hok := fun a o e => ?_ }
  · have h1 := I.base.frzs b o u e
    have h0 := I0.base.frzs b o u e
    rcases T b with h | ⟨n, _⟩
    · rw [h]; exact h1
    · exact absurd h0 (n o u)
  · obtain ⟨more, h⟩ := I.base.tbls b ps e
    exact ⟨more, ex b _ h (by intro _ _ z; cases z)⟩
  · obtain ⟨h1, h2, h3⟩ := I.pin p hp
    exact ⟨h1, no _ h2, h3⟩
  · have st : ∀ u, ObjOk X.prog X.w H' s.heap a u → ObjOk X.prog X.w H'' s.heap a u := fun u x => x.stay (fun _ _ _ q => q) (fun b q => ex b _ q (by intro _ _ z; cases z)) fun b xs q => ex b _ q (by intro _ _ z; cases z)
    rcases T a with h | ⟨_, ob, u, h, _, h2⟩
    · rw [h] at e; exact st o (I.hok a o e)
    · rw [h2] at e; cases e
      exact st _ (I.hok a _ h).2
def tThaw (t : TE) : TE := fun σ H Q => t σ H fun v H' => ∃ H'', Thawed H H' H'' ∧ Q v H''
theorem pe_thaw {X : Cx} {e : Expr} {t : TE} (p : PE X e t) : PE X e (tThaw t) := ⟨fun pins s σ H Q I h =>
  wpAny_mono (p.run pins s σ H _ I h) (fun v s' ⟨x, H1, I1, r, H2, T, q⟩ => ⟨x, H2, Inv.thaw I I1 T, r, q⟩) fun _ _ z => z⟩
def bor1 : Sl → Sl
  | .own c => .val c.frz
  | .ref c => .val c.frz
  | s => s
def eBor (f : EX) : EX := fun ρ => match f (ρ.map bor1) with
  | .ok (.val d) _ => if solidD d = true then .ok (.val d) ρ else .bad
  | .ok (.own (.lst ds)) _ => if solidL ds = true then .ok (.own (.lst ds)) ρ else .bad
  | _ => .bad
section
variable {K : PySem.W.Frag} {mg : Str → Option Value} {W : WX} {P : Prot} {F H : Hp} {σ : SS} {ρ : Env}
open Classical in
noncomputable def borF (F H : Hp) (σ : SS) (ρ : Env) : Hp := fun p => if ∃ i, Owns σ ρ i p then H p else F p
theorem ClOk.rep {a : Addr} {c : Cl} {F' : Hp} (h : SubH F F') (e : F' a = H a) (x : ClOk K F H a c) : Rep K F' c.frz (.ref a) := by
  cases c with
  | lst ds =>
    obtain ⟨vs, h1, h2⟩ := x
    exact mk_list (.inl (.inl (e.trans h1))) (RepL.le h.rd ds vs h2)
  | dct kvs =>
    show Rep K F' (.dict kvs) _
    unfold Rep
    obtain ⟨ks, h1, h2⟩ := x
    exact ⟨a, ks, rfl, .inl (e.trans h1), RepK.le h.rd kvs ks h2⟩
  | dcT kvs =>
    show Rep K F' (.dictT kvs) _
    unfold Rep
    obtain ⟨ks, h1, h2⟩ := x
    exact ⟨a, ks, rfl, e.trans h1, RepT.le h.rd kvs ks h2⟩
theorem bor1_own (s : Sl) : (bor1 s).isOwn = false := by cases s <;> rfl
theorem Stt.bor (st : Stt K mg P F H σ ρ) : Stt K mg { H := P.H, pin := fun _ => none } (borF F H σ ρ) H σ (ρ.map bor1) ∧ SubH F (borF F H σ ρ) ∧ ∀ i a, Owns σ ρ i a → borF F H σ ρ a = H a := by
  have own : ∀ i a, Owns σ ρ i a → borF F H σ ρ a = H a := fun i a w => by unfold borF; rw [if_pos ⟨i, w⟩]
  have sb : SubH F (borF F H σ ρ) := fun p o e => by
    unfold borF
    split
    · rename_i w
      obtain ⟨i, w⟩ := w
      rw [(st.owned w).1] at e; cases e
    · exact .inl e
  have noOwn : ∀ i a, ¬ Owns σ (ρ.map bor1) i a := fun i a ⟨⟨s, e, w⟩, _⟩ => by
    rw [List.getElem?_map] at e
    cases q : ρ[i]? with
    | none => rw [q] at e; cases e
    | some s0 => rw [q] at e; cases e; rw [bor1_own] at w; cases w
  refine ⟨⟨fun p o e => ?_, fun p o e => ?_, by simp [st.len], fun i s e => ?_, fun i j a w => absurd w (noOwn i a), fun i v e => by cases e⟩, sb, own⟩
  · unfold borF at e
    split at e
    · exact .inl e
    · exact st.sub p o e
  · obtain ⟨h1, h2⟩ := st.keep p o e
    refine ⟨h1, ?_⟩
    unfold borF
    split
    · rename_i w
      obtain ⟨i, w⟩ := w
      rw [(st.owned w).2.1] at e; cases e
    · exact h2
  · rw [List.getElem?_map] at e
    cases q : ρ[i]? with
    | none => rw [q] at e; cases e
    | some s0 =>
      rw [q] at e; cases e
      have x := st.sl i s0 q
      cases s0 with
      | emp => trivial
      | val d => obtain ⟨v, e1, r⟩ := x; exact ⟨v, e1, Rep.le sb.rd d v r⟩
      | fn y => exact x
      | own c =>
        obtain ⟨a, e1, h1, h2, h3⟩ := x
        exact ⟨_, e1, h3.rep sb (own i a ⟨⟨_, q, rfl⟩, of_getD e1⟩)⟩
      | ref c =>
        obtain ⟨a, e1, h1, h2, h3⟩ := x
        exact ⟨_, e1, h3.rep sb (own i a ⟨⟨_, q, rfl⟩, of_getD e1⟩)⟩
theorem rep_flat {F F' : Hp} {d : D} {v : V} (h : flatD d = true) (r : Rep K F d v) : Rep K F' d v := by
  cases d with
  | none => rw [rep_none r]; exact mk_none
  | bool b => rw [rep_bool r]; exact mk_bool
  | int b => rw [rep_int r]; exact mk_int
  | str b => rw [rep_str r]; exact mk_str
  | list b => cases h
  | tuple b => cases h
  | dict b => cases h
  | dictT b => cases h
  | tag _ b => cases h
open Classical in
noncomputable def resF (F F1 : Hp) (σ : SS) (ρ : Env) : Hp := fun p => if ∃ i, Owns σ ρ i p then F p else F1 p
open Classical in
noncomputable def resH (H H1 : Hp) (σ : SS) (ρ : Env) : Hp := fun p => if ∃ i, Owns σ ρ i p then H p else H1 p
theorem clKind {a : Addr} {c : Cl} (x : ClOk K F H a c) : ∃ o, H a = some o ∧ (isDct o ∨ (∃ vs, o = .lst vs) ∨ ∃ vs, o = .dT vs) := by
  cases c with
  | lst ds => obtain ⟨vs, h1, _⟩ := x; exact ⟨_, h1, .inr (.inl ⟨vs, rfl⟩)⟩
  | dct kvs => obtain ⟨ks, h1, _⟩ := x; exact ⟨_, h1, .inl trivial⟩
  | dcT kvs => obtain ⟨ks, h1, _⟩ := x; exact ⟨_, h1, .inr (.inr ⟨ks, rfl⟩)⟩
theorem Stt.kind (st : Stt K mg P F H σ ρ) {i : Nat} {a : Addr} (o : Owns σ ρ i a) : ∃ u, H a = some u ∧ (isDct u ∨ (∃ vs, u = .lst vs) ∨ ∃ vs, u = .dT vs) := by
  obtain ⟨⟨s, e, w⟩, q⟩ := o
  have x := st.sl i s e
  cases s with
  | own c =>
    obtain ⟨b, e1, _, _, h3⟩ := x
    rw [getD_of q] at e1; cases e1
    exact clKind h3
  | ref c =>
    obtain ⟨b, e1, _, _, h3⟩ := x
    rw [getD_of q] at e1; cases e1
    exact clKind h3
  | emp => cases w
  | val d => cases w
  | fn x => cases w
theorem de_bor {t : TE} {f : EX} (h : DE K mg W t f) : DE K mg W (tThaw t) (eBor f) := by
  intro P F H σ ρ Q st hp
  obtain ⟨b1, b2, b3⟩ := st.bor
  refine h _ _ H σ _ _ b1 ?_
  unfold eBor at hp
  -- the state behind, whatever came out
  have back : ∀ F1 H1 ρ1, SubH (borF F H σ ρ) F1 → Stt K mg { H := P.H, pin := fun _ => none } F1 H1 σ ρ1 →
      Thawed H H1 (resH H H1 σ ρ) ∧ SubH F (resF F F1 σ ρ) ∧ Stt K mg P (resF F F1 σ ρ) (resH H H1 σ ρ) σ ρ ∧ (∀ t vs, Rd F1 t (.tup vs) → Rd (resF F F1 σ ρ) t (.tup vs)) ∧
      ∀ a, F1 a = none → ¬ (∃ i, Owns σ ρ i a) ∧ resF F F1 σ ρ a = none ∧ resH H H1 σ ρ a = H1 a := by
    intro F1 H1 ρ1 sb st1
    have own1 : ∀ i a, Owns σ ρ i a → ∃ u, H a = some u ∧ (isDct u ∨ (∃ vs, u = .lst vs) ∨ ∃ vs, u = .dT vs) ∧ ((F1 a = some u ∧ H1 a = some u) ∨ (isDct u ∧ (∃ ob, H1 a = some (.frz ob u)) ∧ (F1 a = some u ∨ ∃ ob, F1 a = some (.frz ob u)))) := fun i a w => by
      obtain ⟨u, k1, k2⟩ := st.kind w
      refine ⟨u, k1, k2, ?_⟩
      rcases sb a u ((b3 i a w).trans k1) with g | ⟨g1, ob, g2⟩
      · rcases st1.sub a u g with g3 | ⟨g3, ob, g4⟩
        · exact .inl ⟨g, g3⟩
        · exact .inr ⟨g3, ⟨ob, g4⟩, .inl g⟩
      · exact .inr ⟨g1, ⟨ob, st1.sub.non g2 id⟩, .inr ⟨ob, g2⟩⟩
    refine ⟨fun a => ?_, fun a o e => ?_, st.grow (fun a o e => ?_) (fun a o e => ?_) (fun p o q => ?_) fun i a w => ?_, fun a vs r => ?_, fun a e => ?_⟩
    · unfold resH
      split
      · rename_i w
        obtain ⟨i, w⟩ := w
        obtain ⟨u, k1, k2, k3⟩ := own1 i a w
        rcases k3 with ⟨_, k3⟩ | ⟨k3, ⟨ob, k4⟩, _⟩
        · exact .inl (k1.trans k3.symm)
        · refine .inr ⟨fun ob2 u2 z => ?_, ob, u, k4, k3, k1⟩
          rw [k1] at z; cases z
          exact k3.elim
      · exact .inl rfl
    · unfold resF
      split
      · exact .inl e
      · exact b2.trans sb a o e
    · unfold resF
      split
      · exact .inl e
      · exact b2.trans sb a o e
    · unfold resF at e
      unfold resH
      split at e
      · rename_i w
        obtain ⟨i, w2⟩ := w
        rw [(st.owned w2).1] at e; cases e
      · rename_i w
        rw [if_neg w]; exact st1.sub a o e
    · obtain ⟨h1, h2⟩ := st.keep p o q
      have n : ¬ ∃ i, Owns σ ρ i p := fun ⟨i, w⟩ => by rw [(st.owned w).2.1] at q; cases q
      unfold resH resF
      rw [if_neg n, if_neg n]
      exact st1.keep p o q
    · unfold resH resF
      rw [if_pos ⟨i, w⟩, if_pos ⟨i, w⟩]
      exact ⟨(st.owned w).1, rfl⟩
    · have n : ¬ ∃ i, Owns σ ρ i a := fun ⟨i, w⟩ => by
        obtain ⟨u, k1, k2, k3⟩ := own1 i a w
        have nd : u ≠ .tup vs := by
          rcases k2 with k2 | ⟨_, k2⟩ | ⟨_, k2⟩
          · intro z; subst z; exact k2
          · intro z; subst z; cases k2
          · intro z; subst z; cases k2
        have nf : ∀ ob u', u ≠ .frz ob u' := by
          intro ob u'
          rcases k2 with k2 | ⟨_, k2⟩ | ⟨_, k2⟩
          · intro z; subst z; exact k2
          · intro z; subst z; cases k2
          · intro z; subst z; cases k2
        have hF : F1 a = some u ∨ ∃ ob, F1 a = some (.frz ob u) := by
          rcases k3 with ⟨k3, _⟩ | ⟨_, _, k3⟩
          · exact .inl k3
          · exact k3
        rcases hF with k | ⟨ob, k⟩ <;> rcases r with r | ⟨ob2, r⟩ <;> rw [k] at r
        · exact nd (Option.some.inj r)
        · exact nf _ _ (Option.some.inj r)
        · cases r
        · cases r; exact nd rfl
      unfold Rd resF
      rw [if_neg n]
      exact r
    · have n : ¬ ∃ i, Owns σ ρ i a := fun ⟨i, w⟩ => by
        obtain ⟨u, _, _, k3⟩ := own1 i a w
        rcases k3 with ⟨k3, _⟩ | ⟨_, _, k3 | ⟨ob, k3⟩⟩ <;> rw [k3] at e <;> cases e
      refine ⟨n, ?_, ?_⟩
      · unfold resF; rw [if_neg n]; exact e
      · unfold resH; rw [if_neg n]
  cases e : f (ρ.map bor1) with
  | bad => simp only [e] at hp; exact hp
  | exc c fs ρ1 => simp only [e] at hp; exact hp.elim
  | ok o ρ1 =>
    simp only [e] at hp
    cases o with
    | val d =>
      simp only at hp
      split at hp
      · rename_i hf
        intro F1 H1 v sb st1 x
        obtain ⟨r1, r2, r3, r4, _⟩ := back F1 H1 ρ1 sb st1
        exact ⟨_, r1, hp _ _ v r2 r3 (OutOk.val (rep_solid r4 d v hf x.rep))⟩
      · exact hp.elim
    | own c =>
      cases c with
      | lst ds =>
        simp only at hp
        split at hp
        · rename_i hf
          intro F1 H1 v sb st1 x
          obtain ⟨r1, r2, r3, r4, r5⟩ := back F1 H1 ρ1 sb st1
          obtain ⟨a, ea, x1, x2, vs, x3, x4⟩ := x.sl
          cases ea
          obtain ⟨y1, y2, y3⟩ := r5 a x1
          refine ⟨_, r1, hp _ _ _ r2 r3 ⟨⟨a, rfl, y2, x2, vs, y3.trans x3, rep_solidL r4 ds vs hf x4⟩, (by intro z; cases z), rfl, fun _ i b eb w => ?_⟩⟩
          cases eb
          exact y1 ⟨i, w⟩
        · exact hp.elim
      | dct kvs => exact hp.elim
      | dcT kvs => exact hp.elim
    | emp => exact hp.elim
    | ref c => exact hp.elim
    | fn c => exact hp.elim
end
theorem pd_bor {X : Cx} {W : WX} {e : Expr} {f : EX} (h : PD X W e f) : PD X W e (eBor f) := by
  obtain ⟨t, p, d⟩ := h.ex
  exact ⟨_, pe_thaw p, de_bor d⟩

/-! ### an own list is changed -/
def getL (ρ : Env) (i : Nat) : Option (List D) := match ρ[i]? with
  | some (.own (.lst c)) => some c
  | some (.ref (.lst c)) => some c
  | _ => none
def putC (ρ : Env) (i : Nat) (c : Cl) : Env := match ρ[i]? with
  | some (.own _) => ρ.set i (.own c)
  | some (.ref _) => ρ.set i (.ref c)
  | _ => ρ
def putL (ρ : Env) (i : Nat) (c : List D) : Env := putC ρ i (.lst c)
/-- x.m(..) upon the slot's own list: what is handed back, what the list is then -/
def eMeth (i : Nat) (g : List D → List D → Option (D × List D)) (fs : List EX) : EX := fun ρ => match getL ρ i with
  | none => .bad
  | some _ => eArgs fs ρ fun ds ρ1 => match getL ρ1 i with
    | none => .bad
    | some c => match g c ds with
      | some (o, c') => .ok (.val o) (putL ρ1 i c')
      | none => .bad
def RMut (K : PySem.W.Frag) (r : V → List V → Hp → VK → Prop) (g : List D → List D → Option (D × List D)) : Prop := ∀ (F H : Hp) (a : Addr) (c : List D) (xs : List V) (ds : List D) (vs : List V) (o : D) (c' : List D) (Q : VK), SubH F H → H a = some (.lst xs) → RepL K F c xs → RepL K F ds vs → g c ds = some (o, c') →
  (∀ (ys : List V) (v : V), RepL K F c' ys → Rep K F o v → Q v (upd H a (.lst ys))) → r (.ref a) vs H Q
section
variable {K : PySem.W.Frag} {mg : Str → Option Value} {W : WX} {P : Prot} {F H : Hp} {σ : SS} {ρ : Env}
theorem Stt.getL (st : Stt K mg P F H σ ρ) {i : Nat} {c : List D} (h : getL ρ i = some c) : ∃ a xs, σ[i]? = some (some (.ref a)) ∧ Owns σ ρ i a ∧ F a = none ∧ H a = some (.lst xs) ∧ RepL K F c xs := by
  unfold Dk.getL at h
  split at h
  · rename_i c' e
    cases h
    obtain ⟨a, e1, h1, h2, vs, h3, h4⟩ := st.sl i _ e
    exact ⟨a, vs, of_getD e1, ⟨⟨_, e, rfl⟩, of_getD e1⟩, h1, h3, h4⟩
  · rename_i c' e
    cases h
    obtain ⟨a, e1, h1, h2, vs, h3, h4⟩ := st.sl i _ e
    exact ⟨a, vs, of_getD e1, ⟨⟨_, e, rfl⟩, of_getD e1⟩, h1, h3, h4⟩
  · cases h
/-- the object that the slot i owns has another content -/
theorem Stt.mutate (st : Stt K mg P F H σ ρ) {i : Nat} {a : Addr} {u : HO} {c : Cl} (w : Owns σ ρ i a) (x : ClOk K F (upd H a u) a c) : Stt K mg P F (upd H a u) σ (putC ρ i c) := by
  obtain ⟨k1, k2, u0, k3⟩ := st.owned w
  have hl : (putC ρ i c).length = ρ.length := by unfold putC; split <;> simp
  refine st.swap (fun p o e => ?_) (fun p o e => ?_) hl fun j s2 e => ?_
  · rw [upd_ne (fun z => by subst z; rw [k1] at e; cases e)]; exact st.sub p o e
  · obtain ⟨h1, h2⟩ := st.keep p o e
    exact ⟨by rw [upd_ne (fun z => by subst z; rw [k2] at e; cases e)]; exact h1, h2⟩
  · obtain ⟨⟨si, e1, w1⟩, q⟩ := w
    have hi : i < ρ.length := by
      rcases Nat.lt_or_ge i ρ.length with z | z
      · exact z
      · rw [List.getElem?_eq_none z] at e1; cases e1
    by_cases hij : i = j
    · subst hij
      refine ⟨si, e1, ?_⟩
      cases si with
      | own c0 =>
        simp only [putC, e1] at e
        rw [List.getElem?_set_self hi] at e; cases e
        exact ⟨rfl, rfl, a, getD_of q, k1, k2, x⟩
      | ref c0 =>
        simp only [putC, e1] at e
        rw [List.getElem?_set_self hi] at e; cases e
        exact ⟨rfl, rfl, a, getD_of q, k1, k2, x⟩
      | emp => cases w1
      | val d => cases w1
      | fn y => cases w1
    · have e' : ρ[j]? = some s2 := by
        cases si with
        | own c0 => simp only [putC, e1] at e; rw [List.getElem?_set_ne hij] at e; exact e
        | ref c0 => simp only [putC, e1] at e; rw [List.getElem?_set_ne hij] at e; exact e
        | emp => cases w1
        | val d => cases w1
        | fn y => cases w1
      refine ⟨s2, e', rfl, rfl, (st.sl j s2 e').grow (SubH.refl F) fun b w2 eb => ?_⟩
      have wb : Owns σ ρ j b := ⟨⟨s2, e', w2⟩, of_getD eb⟩
      have hb : b ≠ a := fun z => hij (st.apart i j a ⟨⟨si, e1, w1⟩, q⟩ (z ▸ wb))
      exact ⟨(st.owned wb).1, upd_ne hb⟩
theorem de_meth {r : V → List V → Hp → VK → Prop} {g : List D → List D → Option (D × List D)} {t : TA} {fs : List EX} (i : Nat) (hr : RMut K r g) (h : DA K mg W t fs) : DE K mg W (tBM K "list" r (tVar i) t) (eMeth i g fs) := by
  intro P F H σ ρ Q st hp
  unfold eMeth at hp
  cases e : getL ρ i with
  | none => simp only [e] at hp; exact hp.elim
  | some c0 =>
    simp only [e] at hp
    obtain ⟨a, xs, es, w, h1, h2, h3⟩ := st.getL e
    refine ⟨.ref a, es, .inl ⟨rfl, xs, .inl (.inl h2)⟩, ?_⟩
    refine h.bind P F H σ ρ _ Q _ st hp fun F1 H1 ds ρ1 vs sb st1 rl hl q => ?_
    cases e1 : getL ρ1 i with
    | none => simp only [e1] at q; exact q.elim
    | some c =>
      simp only [e1] at q
      obtain ⟨a', ys, es', w', g1, g2, g3⟩ := st1.getL e1
      rw [es] at es'; cases es'
      cases z : g c ds with
      | none => simp only [z] at q; exact q.elim
      | some oc =>
        obtain ⟨o, c'⟩ := oc
        simp only [z] at q
        refine hr F1 H1 a c ys ds vs o c' Q st1.sub g2 g3 rl z fun zs v rz ro => ?_
        exact q F1 _ v (SubH.refl F1) (st1.mutate w' ⟨zs, upd_same, rz⟩) (OutOk.val ro)
theorem de_meth0 {r : V → List V → Hp → VK → Prop} {g : List D → List D → Option (D × List D)} (i : Nat) (hr : RMut K r g) : DE K mg W (tBM0 K "list" r (tVar i)) (eMeth i g []) := by
  intro P F H σ ρ Q st hp
  unfold eMeth at hp
  cases e : getL ρ i with
  | none => simp only [e] at hp; exact hp.elim
  | some c =>
    simp only [e, eArgs] at hp
    obtain ⟨a, xs, es, w, h1, h2, h3⟩ := st.getL e
    refine ⟨.ref a, es, .inl ⟨rfl, xs, .inl (.inl h2)⟩, ?_⟩
    cases z : g c [] with
    | none => simp only [z] at hp; exact hp.elim
    | some oc =>
      obtain ⟨o, c'⟩ := oc
      simp only [z] at hp
      refine hr F H a c xs [] [] o c' Q st.sub h2 h3 RepL.nil z fun zs v rz ro => ?_
      exact hp F _ v (SubH.refl F) (st.mutate w ⟨zs, upd_same, rz⟩) (OutOk.val ro)
end
def mAppend : List D → List D → Option (D × List D)
  | c, [d] => if c.length < sizeLine then some (.none, c ++ [d]) else none
  | _, _ => none
def mPop : List D → List D → Option (D × List D)
  | c, [] => (c[c.length - 1]?).map fun d => (d, c.dropLast)
  | _, _ => none
def mPopAt : List D → List D → Option (D × List D)
  | c, [.int i] => if -(2 ^ 63) ≤ i ∧ i < 2 ^ 63 then (match seqIndex? i c.length with
    | some k => (c[k]?).map fun d => (d, c.eraseIdx k)
    | none => none) else none
  | _, _ => none
def mReverse : List D → List D → Option (D × List D)
  | c, [] => some (.none, c.reverse)
  | _, _ => none
theorem RepL.one {K : PySem.W.Frag} {F : Hp} {d : D} {vs : List V} (r : RepL K F [d] vs) : ∃ v, vs = [v] ∧ Rep K F d v := by
  unfold RepL at r
  obtain ⟨v, ws, rfl, h1, h2⟩ := r
  unfold RepL at h2
  subst h2
  exact ⟨v, rfl, h1⟩
theorem RepL.two {K : PySem.W.Frag} {F : Hp} {d e : D} {vs : List V} (r : RepL K F [d, e] vs) : ∃ v u, vs = [v, u] ∧ Rep K F d v ∧ Rep K F e u := by
  unfold RepL at r
  obtain ⟨v, ws, rfl, h1, h2⟩ := r
  obtain ⟨u, rfl, h3⟩ := h2.one
  exact ⟨v, u, rfl, h1, h3⟩
theorem RepL.zero {K : PySem.W.Frag} {F : Hp} {vs : List V} (r : RepL K F [] vs) : vs = [] := by unfold RepL at r; exact r
theorem RepL.dropLast {K : PySem.W.Frag} {F : Hp} : ∀ {ds : List D} {vs : List V}, RepL K F ds vs → RepL K F ds.dropLast vs.dropLast := fun {ds vs} r => by
  rw [List.dropLast_eq_take, List.dropLast_eq_take, r.length]
  exact r.take _
theorem RepL.eraseIdx {K : PySem.W.Frag} {F : Hp} : ∀ {ds : List D} {vs : List V} (k : Nat), RepL K F ds vs → RepL K F (ds.eraseIdx k) (vs.eraseIdx k)
  | [], _, _, r => by rw [r.zero]; exact RepL.nil
  | d :: ds, _, 0, r => by
    unfold RepL at r
    obtain ⟨v, ws, rfl, h1, h2⟩ := r
    exact h2
  | d :: ds, _, k + 1, r => by
    unfold RepL at r
    obtain ⟨v, ws, rfl, h1, h2⟩ := r
    exact RepL.cons h1 (RepL.eraseIdx k h2)
theorem RepL.reverse {K : PySem.W.Frag} {F : Hp} : ∀ {ds : List D} {vs : List V}, RepL K F ds vs → RepL K F ds.reverse vs.reverse
  | [], _, r => by rw [r.zero]; exact RepL.nil
  | d :: ds, _, r => by
    unfold RepL at r
    obtain ⟨v, ws, rfl, h1, h2⟩ := r
    rw [List.reverse_cons, List.reverse_cons]
    exact (RepL.reverse h2).append (RepL.cons h1 RepL.nil)
section
variable {K : PySem.W.Frag}
theorem rm_append : RMut K rAppend mAppend := by
  intro F H a c xs ds vs o c' Q sb hH rc rd hg k
  unfold mAppend at hg
  split at hg
  · split at hg
    · rename_i d hz
      cases hg
      obtain ⟨v, rfl, rv⟩ := rd.one
      exact ⟨a, xs, v, rfl, rfl, hH, by rw [rc.length]; exact hz, k _ _ (rc.append (RepL.cons rv RepL.nil)) mk_none⟩
    · cases hg
  · cases hg
theorem rm_pop0 : RMut K rPop mPop := by
  intro F H a c xs ds vs o c' Q sb hH rc rd hg k
  unfold mPop at hg
  split at hg
  · have := rd.zero
    subst this
    cases z : c[c.length - 1]? with
    | none => rw [z] at hg; cases hg
    | some d =>
      rw [z] at hg; cases hg
      obtain ⟨v, e1, rv⟩ := rc.get z
      exact ⟨a, xs, v, rfl, rfl, hH, by rw [rc.length]; exact e1, k _ _ rc.dropLast rv⟩
  · cases hg
theorem rm_popAt : RMut K rPopAt mPopAt := by
  intro F H a c xs ds vs o c' Q sb hH rc rd hg k
  unfold mPopAt at hg
  split at hg
  · split at hg
    · rename_i i hc
      obtain ⟨v, rfl, rv⟩ := rd.one
      rw [rep_int rv]
      cases z : seqIndex? i c.length with
      | none => rw [z] at hg; cases hg
      | some j =>
        rw [z] at hg
        cases y : c[j]? with
        | none => simp only [y] at hg; cases hg
        | some d =>
          simp only [y] at hg; cases hg
          obtain ⟨v, e1, rv⟩ := rc.get y
          exact ⟨a, xs, i, j, v, rfl, rfl, hH, hc.1, hc.2, by rw [rc.length]; exact z, e1, k _ _ (rc.eraseIdx j) rv⟩
    · cases hg
  · cases hg
theorem rm_reverse : RMut K rReverse mReverse := by
  intro F H a c xs ds vs o c' Q sb hH rc rd hg k
  unfold mReverse at hg
  split at hg
  · cases hg
    have := rd.zero
    subst this
    exact ⟨a, xs, rfl, rfl, hH, k _ _ rc.reverse mk_none⟩
  · cases hg
end
section
variable {X : Cx} {W : WX} {x : Str} {e : Expr} {es : List Expr} {p apos cpos : Pos} {fs : List EX} {name : Str} {id : String} {r : V → List V → Hp → VK → Prop} {g : List D → List D → Option (D × List D)}
theorem pd_meth (i : Nat) (slot : Slot "list" name id) (hty : typeOf (.builtin id) = pure (.type "method_descriptor")) (hm : MtR X id r) (hr : RMut X.K r g) (ha : PAD X W (e :: es) fs)
    (hN : X.N[i]? = some x := by rfl) (hv : Vis X.env.scope x := by first | exact Or.inl rfl | exact Or.inr (Or.inl rfl) | exact Or.inr (Or.inr rfl)) (hd : (x == ("__debug__" : Str)) = false := by decide) (hcd : (x == ("__classdict__" : Str)) = false := by decide)
    (hbase : attributeBase (.Name x p) name X.env (eval (.Name x p) X.env) = eval (.Name x p) X.env := by rfl)
    (hfew : ((backTo cpos (starEach (e :: es) X.env)).all (fun x => !x.1) && (backToKw cpos (keywordEach [] X.env)).all (fun x => x.1.isSome)
      && decide ((e :: es).length + ([] : List Keyword).length + (if ([] : List Keyword).isEmpty then 0 else 1) < 30)) = true := by rfl)
    (hline : (apos.endLine == cpos.line) = true := by rfl) (hs : starEach (e :: es) X.env = (false, eval e X.env) :: starEach es X.env := by rfl) (hplain : (backTo cpos (starEach es X.env)).any (·.1) = false := by rfl) :
    PD X W (.Call (.Attribute (.Name x p) name apos) (e :: es) [] cpos) (eMeth i g fs) := by
  obtain ⟨t, pa, da⟩ := ha.ex
  exact ⟨_, pe_bm PySem.F.plainAttrs_list slot hty hm (pe_var hN hv hd hcd) pa hbase hfew hline hs hplain, de_meth i hr da⟩
theorem pd_meth0 (i : Nat) (slot : Slot "list" name id) (hty : typeOf (.builtin id) = pure (.type "method_descriptor")) (hm : MtR X id r) (hr : RMut X.K r g)
    (hN : X.N[i]? = some x := by rfl) (hv : Vis X.env.scope x := by first | exact Or.inl rfl | exact Or.inr (Or.inl rfl) | exact Or.inr (Or.inr rfl)) (hd : (x == ("__debug__" : Str)) = false := by decide) (hcd : (x == ("__classdict__" : Str)) = false := by decide)
    (hbase : attributeBase (.Name x p) name X.env (eval (.Name x p) X.env) = eval (.Name x p) X.env := by rfl) (hline : (apos.endLine == cpos.line) = true := by rfl) :
    PD X W (.Call (.Attribute (.Name x p) name apos) [] [] cpos) (eMeth i g []) := by
  exact ⟨_, pe_bm0 PySem.F.plainAttrs_list slot hty hm (pe_var hN hv hd hcd) hbase hline, de_meth0 i hr⟩
end
/-- x[k] = e, x a slot's own list -/
def sSetIx (i : Nat) (f fk : EX) : SX := fun ρ => (f ρ).bs fun o ρ1 => match o.frz with
  | none => .bad
  | some d => (match getL ρ1 i with
    | none => .bad
    | some _ => (fk ρ1).bs fun ok ρ2 => match ok with
      | .val (.int k) => (match getL ρ2 i with
        | none => .bad
        | some c => match ixN c.length k with
          | some j => .nx (putL ρ2 i (c.set j d))
          | none => .bad)
      | _ => .bad)
theorem psd_setIx {X : Cx} {W : WX} {x : Str} {k e : Expr} {p p2 pos : Pos} {f fk : EX} (i : Nat) (he : PD X W e f) (hk : PD X W k fk)
    (hN : X.N[i]? = some x := by rfl) (hv : Vis X.env.scope x := by first | exact Or.inl rfl | exact Or.inr (Or.inl rfl) | exact Or.inr (Or.inr rfl)) (hd : (x == ("__debug__" : Str)) = false := by decide) (hcd : (x == ("__classdict__" : Str)) = false := by decide)
    (h1 : (assignEach [.Subscript (.Name x p) k p2] X.env).map (·.2) = [assign (.Subscript (.Name x p) k p2) X.env] := by rfl)
    (hpa : ∀ v, assign (.Subscript (.Name x p) k p2) X.env v = (do
      let ov ← holding [v] (eval (.Name x p) X.env)
      let iv ← holding [v, ov] (eval k X.env)
      standAt p2
      holding [v, ov, iv] (setItem ov iv v)
      release [v, ov, iv] []) := by intro _; rfl)
    (hs : swapsWithSole [.Subscript (.Name x p) k p2] e pos.line X.env = pure false := by rfl) (hw : swappedStores [.Subscript (.Name x p) k p2] e X.env = pure none := by rfl) : PSD X W (.Assign [.Subscript (.Name x p) k p2] e pos) (sSetIx i f fk) := by
  obtain ⟨te, pe, de⟩ := he.ex
  refine ⟨_, ps_asg pe (pg_sub (t := rSetL) (pe_var hN hv hd hcd) hk.toPE set_list hpa) hs hw h1, ?_⟩
  intro P F H σ ρ D st hp
  refine de.bs st hp fun F1 H1 o ρ1 v sb st1 xo q => ?_
  cases z : o.frz with
  | none => simp only [z] at q; exact q.elim
  | some d =>
    simp only [z] at q
    obtain ⟨F2, sb2, st2, r⟩ := st1.freeze xo z
    cases e1 : getL ρ1 i with
    | none => simp only [e1] at q; exact q.elim
    | some c0 =>
      simp only [e1] at q
      obtain ⟨a, xs, es, w, g1, g2, g3⟩ := st2.getL e1
      refine ⟨.ref a, es, ?_⟩
      refine (de_tD X.K X.mg W fk).bs st2 (PostS.le sb2 q) fun F3 H3 o2 ρ2 v2 sb3 st3 x2 q2 => ?_
      cases o2 with
      | val dk =>
        cases dk with
        | int k =>
          simp only at q2
          cases e2 : getL ρ2 i with
          | none => simp only [e2] at q2; exact q2.elim
          | some c =>
            simp only [e2] at q2
            obtain ⟨a', ys, es', w', k1, k2, k3⟩ := st3.getL e2
            rw [es] at es'; cases es'
            cases e3 : ixN c.length k with
            | none => simp only [e3] at q2; exact q2.elim
            | some j =>
              simp only [e3] at q2
              have ek := rep_int x2.rep
              refine ⟨a, ys, k, j, rfl, ek, k2, by rw [k3.length]; exact e3, ?_⟩
              exact q2 F3 _ σ (SubH.refl F3) (st3.mutate w' ⟨_, upd_same, RepL.set (Rep.le sb3.rd d v r) j k3⟩)
        | none => exact q2.elim
        | bool i => exact q2.elim
        | str i => exact q2.elim
        | list i => exact q2.elim
        | tuple i => exact q2.elim
        | dict i => exact q2.elim
        | dictT i => exact q2.elim
        | tag _ i => exact q2.elim
      | emp => exact q2.elim
      | own c => exact q2.elim
      | ref c => exact q2.elim
      | fn c => exact q2.elim
end Dk

set_option Elab.async false
set_option linter.all false
set_option maxRecDepth 100000
set_option maxHeartbeats 4000000
/-! Dk9: calls by place and by name, defaults; own errors raised -/
namespace Dk
open PySem PySem.Spec L2 PyProof.Rows

/-! ### calls by place, by name, with defaults -/
/-- a flat datum's value -/
def D.flatV : D → V
  | .int i => .int i
  | .bool b => .bl b
  | .str x => .str x
  | _ => .non
theorem flatV_rep {K : PySem.W.Frag} {F : Hp} {d : D} (h : flatD d = true) : Rep K F d d.flatV := by
  cases d with
  | none => exact mk_none
  | bool b => exact mk_bool
  | int b => exact mk_int
  | str b => exact mk_str
  | list b => cases h
  | tuple b => cases h
  | dict b => cases h
  | dictT b => cases h
  | tag _ b => cases h
/-- where a parameter's value comes from: the i-th value that is written; the j-th default d -/
inductive Src where
  | a (i : Nat)
  | d (j : Nat) (x : D)
def pickL (l : List (Sl ⊕ Nat)) : List Src → Option (List (Sl ⊕ Nat))
  | [] => some []
  | .a i :: r => match l[i]? with
    | some x => (pickL l r).map (x :: ·)
    | none => none
  | .d _ x :: r => (pickL l r).map (.inl (.val x) :: ·)
def pickV (vs : List V) : List Src → List V
  | [] => []
  | .a i :: r => vs.getD i .non :: pickV vs r
  | .d _ x :: r => x.flatV :: pickV vs r
def pickU (us its : List Value) : List Src → List Value
  | [] => []
  | .a i :: r => us.getD i .none :: pickU us its r
  | .d j _ :: r => its.getD j .none :: pickU us its r
def flatEq : D → D → Bool
  | .none, .none => true
  | .bool a, .bool b => a == b
  | .int a, .int b => a == b
  | .str a, .str b => a == b
  | _, _ => false
def dfltOk (dvs : List D) : List Src → Bool
  | [] => true
  | .a _ :: r => dfltOk dvs r
  | .d j x :: r => (match dvs[j]? with | some y => flatEq x y | none => false) && dfltOk dvs r
theorem flatEq_ok : ∀ {x y : D}, flatEq x y = true → x = y := fun {x y} h => by
  cases x <;> cases y <;> simp_all [flatEq]
theorem vals_getD {vs : List V} {us : List Value} (r : Vals vs us) : ∀ i : Nat, RelV (vs.getD i .non) (us.getD i .none) := by
  induction r with
  | nil => intro i; simp [List.getD]; exact rfl
  | cons h t ih =>
    intro i
    cases i with
    | zero => simpa [List.getD] using h
    | succ i => simpa [List.getD] using ih i
theorem vals_pick {dvs : List D} {vs : List V} {us its : List Value} (r : Vals vs us) (rd : Vals (dvs.map D.flatV) its) : ∀ srcs : List Src, dfltOk dvs srcs = true → Vals (pickV vs srcs) (pickU us its srcs)
  | [], _ => .nil
  | .a i :: s, h => .cons (vals_getD r i) (vals_pick r rd s h)
  | .d j x :: s, h => by
    simp only [dfltOk, Bool.and_eq_true] at h
    refine .cons ?_ (vals_pick r rd s h.2)
    cases e : dvs[j]? with
    | none => rw [e] at h; cases h.1
    | some y =>
      rw [e] at h
      have : x = y := flatEq_ok h.1
      subst this
      have q := vals_getD rd j
      have z : (dvs.map D.flatV).getD j .non = x.flatV := by simp [List.getD, e]
      rw [z] at q; exact q
/-- how the arguments go to the parameters: n by place, ks by name, m defaults -/
def Bnd (par : Arguments) (m n : Nat) (ks ps : List Str) (srcs : List Src) : Prop := ∀ (x qual : Str) (body : List Stmt) (scope : Scope) (kV doc pm : Value) (an : Option Addr) (cdv ct : Value) (us ws its : List Value), us.length = n → ws.length = ks.length → its.length = m →
  (m = 0 → bindArgs (PySem.W.fnOf x qual par body scope .none kV doc pm an cdv ct) ⟨us, ks.zip ws⟩ = pure (ps.zip (pickU (us ++ ws) its srcs))) ∧
  (m ≠ 0 → ∀ T : Addr, ∃ kk, bindArgs (PySem.W.fnOf x qual par body scope (.ref T) kV doc pm an cdv ct) ⟨us, ks.zip ws⟩ = seqItems? (.ref T) >>= kk ∧ kk (some its.toArray) = pure (ps.zip (pickU (us ++ ws) its srcs)))
/-- a def that keeps its meaning's promise: where it stands, its parameters and defaults, how deep it calls -/
structure CalD (P : Program) (w : World) (K : PySem.W.Frag) (mg : Str → Option Value) (base : Heap) (x : Str) (par : Arguments) (dvs : List D) (ps : List Str) (k : Nat) (den : Den) : Prop where
  ex : ∃ (f : Addr) (fd : FuncData) (nm qual : Str) (body : List Stmt) (scope : Scope), FnOk P w K mg base (L2.CX P w) k f fd ps (spD K mg ps.length den) ∧ mg x = some (.ref f) ∧ PySem.W.keepIn K (.ref f) = true ∧ FunD K nm qual par body scope (dvs.map D.flatV) [] f fd
theorem CalD.mono {P : Program} {w : World} {K : PySem.W.Frag} {mg : Str → Option Value} {base : Heap} {x : Str} {par : Arguments} {dvs : List D} {ps : List Str} {j k : Nat} {den : Den} (c : CalD P w K mg base x par dvs ps j den) (h : j ≤ k) : CalD P w K mg base x par dvs ps k den := by
  obtain ⟨f, fd, nm, qual, body, scope, F, a, b, d⟩ := c.ex
  exact ⟨f, fd, nm, qual, body, scope, F.mono h, a, b, d⟩
theorem calD_of {P : Program} {w : World} {K : PySem.W.Frag} {mg : Str → Option Value} {base : Heap} {x qual : Str} {st : Stmt} {f : Addr} {fd : FuncData} {N ps : List Str} {dvs : List D} {k : Nat} {body : SX} (F : FunD K x qual (defArgs st) (defBody st) (defScope st) (dvs.map D.flatV) [] f fd) (hm : mg x = some (.ref f)) (S : FnScope N ps (defScope st))
    (h : ∀ (cdv : Value) (A : Around) (outer : List PySem.Env) (s : Shared) (H : Hp) (E : XK), Room k (A.deeper (PyProof.Rows.envOfC qual (defScope st) s.heap.objs.size f cdv)) →
      PSsD (cxOf (L2.CX P w) P w K mg base N qual (defScope st) f cdv A outer s H E) (fun cls d _ H => E cls d H) (defBody st) body) : CalD P w K mg base x (defArgs st) dvs ps (k + 1) (denOf N.length body) := by
  refine ⟨f, fd, x, qual, _, _, F.ok S (fun vs H Q E h => h.1) (fun cdv A outer s H vs Q E hr hs => ?_), hm, F.kp, F⟩
  obtain ⟨t, hp, hd⟩ := (h cdv A outer s H E hr).ex
  obtain ⟨hl, Pr, F', as, sst, pn, no, post⟩ := hs
  refine ⟨t, hp, body_ok hd ?_ sst pn no post⟩
  have := congrArg List.length S.pre
  rw [List.length_take] at this
  omega
theorem FunD.kbn {K : PySem.W.Frag} {x qual : Str} {par : Arguments} {body : List Stmt} {scope : Scope} {dvs : List D} {f : Addr} {fd : FuncData} {ps ks : List Str} {n : Nat} {srcs : List Src} (F : FunD K x qual par body scope (dvs.map D.flatV) [] f fd) (hb : Bnd par dvs.length n ks ps srcs) (ho : dfltOk dvs srcs = true) :
    ∃ its : List Value, KBn K fd ps n ks (fun us ws => pickU (us ++ ws) its srcs) (fun vs zs => pickV (vs ++ zs) srcs) := by
  obtain ⟨oc, od, dV, kV, doc, pm, an, cdv, ct, osl, rfl, lk, hcd, hD, hK⟩ := F.ex
  rcases hD with ⟨e, rfl⟩ | ⟨ne, T, o, its, m, rfl, lT, oT, rT⟩
  · have e0 : dvs = [] := by simpa using e
    subst e0
    refine ⟨[], ⟨fun s us ws X l1 l2 => ?_, fun r1 r2 => vals_pick (dvs := []) (r1.append r2) .nil srcs ho⟩⟩
    exact BindsTo.of_looks fun M => .of_pure ((hb x qual body scope kV doc pm an cdv ct us ws [] l1 l2 rfl).1 rfl)
  · have hl : its.length = dvs.length := by rw [← rT.length]; simp
    have n0 : dvs.length ≠ 0 := fun z => ne (by simpa using List.length_eq_zero_iff.mp z)
    refine ⟨its, ⟨fun s us ws X l1 l2 => ?_, fun r1 r2 => vals_pick (r1.append r2) rT srcs ho⟩⟩
    obtain ⟨kk, e1, e2⟩ := (hb x qual body scope kV doc pm an cdv ct us ws its l1 l2 hl).2 n0 T
    refine BindsTo.of_looks fun M => ?_
    rw [e1]
    exact looks_items X lT oT (.of_pure e2)
/-- the call's meaning: the arguments from the left, then as the parameters want them -/
def eCallG (den : Den) (args : List Ar) (srcs : List Src) : EX := fun ρ => match cArgs args ρ with
  | .bad => .bad
  | .exc c fs ρ1 => .exc c fs ρ1
  | .ok l0 ρ1 => match pickL l0 srcs with
    | none => .bad
    | some l => if (refsOf l).Nodup then (match mkAs l ρ1 with
      | none => .bad
      | some as => match den as with
        | .bad => .bad
        | .ret o as' => .ok o (putB l as' ρ1)
        | .exc c fs as' => .exc c fs (putB l as' ρ1)) else .bad
def tCallG (n m : Nat) (sp : Sp) (gV : List V → List V → List V) (E : L2.St → XK) (t tk : TA) : TE := fun σ H Q => t σ H fun vs H1 => tk σ H1 fun zs H2 => vs.length = n ∧ zs.length = m ∧ sp (gV vs zs) H2 Q (E σ)
section
variable {X : Cx} {CX : CXT} {k n : Nat} {f : Addr} {fd : FuncData} {ps ks : List Str} {sp : Sp} {E : L2.St → XK} {x : Str} {p pos : Pos} {e : Expr} {es : List Expr} {kws : List Keyword} {t tk : TA} {g : List Value → List Value → List Value} {gV : List V → List V → List V}
theorem run_fnG {pins : List (Addr × Obj)} {σ : L2.St} {H : Hp} {s : Shared} {Q : VK} {us ws : List Value} {vs zs : List V} (F : FnOk X.prog X.w X.K X.mg X.base CX k f fd ps sp) (hr : Room k X.A) (hb : KBn X.K fd ps n ks g gV) (hx : PassesAt CX X σ (E σ))
    (I : Inv X pins σ H s) (r : Vals vs us) (rz : Vals zs ws) (l1 : vs.length = n) (l2 : zs.length = ks.length) (h : sp (gV vs zs) H Q (E σ)) : wpAny (model X.prog X.w) X.A (call (.ref f) us (ks.zip ws)) (EP X pins σ Q) X.xe s := by
  have r2 := hb.rel r rz
  refine wpAny_call (codeAny_mono (F.run X.A X.stack s H ⟨us, ks.zip ws⟩ (g us ws) (gV vs zs) Q (E σ) hr I.env0 (hb.to s us ws I.kIn (r.length.symm.trans l1) (rz.length.symm.trans l2)) r2 h) fun r s' hq => ?_)
  cases r with
  | error e => exact hx pins H s e s' I hq
  | ok fl =>
    cases fl with
    | ret u => exact I.after hq
    | next => exact False.elim hq
    | brk => exact False.elim hq
    | cont => exact False.elim hq
theorem pe_callG (F : FnOk X.prog X.w X.K X.mg X.base CX k f fd ps sp) (hr : Room k X.A) (hg : Gl X x) (hm : X.mg x = some (.ref f)) (hk : PySem.W.keepIn X.K (.ref f) = true) (hb : KBn X.K fd ps n ks g gV) (hx : ∀ σ, PassesAt CX X σ (E σ))
    (ha : PA X (e :: es) t) (hkw : PK X kws tk) (hall : (backToKw pos (keywordEach kws X.env)).all (·.1.isSome) = true := by rfl) (hks : (backToKw pos (keywordEach kws X.env)).filterMap (·.1) = ks := by rfl)
    (hdb : (x == ("__debug__" : Str)) = false := by decide) (he : starEach (e :: es) X.env = (false, eval e X.env) :: starEach es X.env := by rfl)
    (hpl : ((backTo pos (starEach (e :: es) X.env)).any (·.1) || (backToKw pos (keywordEach kws X.env)).any (·.1.isNone)) = false := by rfl) :
    PE X (.Call (.Name x p) (e :: es) kws pos) (tCallG n ks.length sp gV E t tk) := by
  refine ⟨fun pins s σ H Q I h => ?_⟩
  refine wpAny_Call_Name_kw (ld_glob I hg hm ?_ hdb)
  refine PySem.W.callWith_KW (h₀ := X.base) I.ok.mod.kin hk hall (thn (ha.run pos pins s σ H _ I h) fun us s1 ⟨vs, H1, I1, r, q⟩ => ?_) hpl he
  refine thn (hkw.run pos pins s1 σ H1 _ I1 q) fun ws s2 ⟨zs, H2, I2, rz, l1, l2, q2⟩ => ⟨I2.kIn, ?_⟩
  rw [hks]
  exact run_fnG F hr hb (hx σ) I2 r rz l1 l2 q2
theorem pe_callG0 (F : FnOk X.prog X.w X.K X.mg X.base CX k f fd ps sp) (hr : Room k X.A) (hg : Gl X x) (hm : X.mg x = some (.ref f)) (hk : PySem.W.keepIn X.K (.ref f) = true) (hb : KBn X.K fd ps 0 ks g gV) (hx : ∀ σ, PassesAt CX X σ (E σ))
    (hkw : PK X kws tk) (hall : (backToKw pos (keywordEach kws X.env)).all (·.1.isSome) = true := by rfl) (hks : (backToKw pos (keywordEach kws X.env)).filterMap (·.1) = ks := by rfl)
    (hdb : (x == ("__debug__" : Str)) = false := by decide)
    (hpl : ((backTo pos (starEach [] X.env)).any (·.1) || (backToKw pos (keywordEach kws X.env)).any (·.1.isNone)) = false := by rfl) :
    PE X (.Call (.Name x p) [] kws pos) (tCallG 0 ks.length sp gV E tNil tk) := by
  refine ⟨fun pins s σ H Q I h => ?_⟩
  refine wpAny_Call_Name_kw (ld_glob I hg hm ?_ hdb)
  refine PySem.W.callWith_KW0 (h₀ := X.base) I.ok.mod.kin hk hall ?_ hpl
  refine thn (hkw.run pos pins s σ H _ I h) fun ws s2 ⟨zs, H2, I2, rz, l1, l2, q2⟩ => ⟨I2.kIn, ?_⟩
  rw [hks]
  exact run_fnG (us := []) (vs := []) F hr hb (hx σ) I2 .nil rz l1 l2 q2
end
structure PKD (X : Cx) (W : WX) (kws : List Keyword) (as : List Ar) : Prop where
  ex : ∃ t, PK X kws t ∧ DC X.K X.mg W t as
theorem pkd_nil {X : Cx} {W : WX} : PKD X W [] [] := ⟨_, pk_nil, dc_nil⟩
theorem pkd_v {X : Cx} {W : WX} {e : Expr} {kws : List Keyword} {f : EX} {as : List Ar} {nm : Option Str} {kpos : Pos} (h1 : PD X W e f) (h2 : PKD X W kws as) : PKD X W (⟨nm, e, kpos⟩ :: kws) (.v f :: as) := by
  obtain ⟨t, p, d⟩ := h1.ex
  obtain ⟨u, q, d2⟩ := h2.ex
  exact ⟨_, pk_cons p q, dc_v d d2⟩
theorem pkd_r {X : Cx} {W : WX} {x : Str} {p : Pos} {kws : List Keyword} {as : List Ar} {nm : Option Str} {kpos : Pos} (i : Nat) (h2 : PKD X W kws as) (hN : X.N[i]? = some x := by rfl) (hv : Vis X.env.scope x := by first | exact Or.inl rfl | exact Or.inr (Or.inl rfl) | exact Or.inr (Or.inr rfl)) (hd : (x == ("__debug__" : Str)) = false := by decide)
    (hcd : (x == ("__classdict__" : Str)) = false := by decide) : PKD X W (⟨nm, .Name x p, kpos⟩ :: kws) (.r i :: as) := by
  obtain ⟨u, q, d2⟩ := h2.ex
  exact ⟨_, pk_cons (pe_var hN hv hd hcd) q, dc_r i d2⟩
section
variable {K : PySem.W.Frag} {mg : Str → Option Value} {W : WX} {P : Prot} {F H : Hp} {σ : SS} {ρ : Env}
def CA.bindC (r : CA) (k : List (Sl ⊕ Nat) → Env → CA) : CA := match r with
  | .ok l ρ => k l ρ
  | r => r
theorem cArgs_append : ∀ (as bs : List Ar) (ρ : Env), cArgs (as ++ bs) ρ = (cArgs as ρ).bindC fun l ρ1 => match cArgs bs ρ1 with
    | .ok l2 ρ2 => .ok (l ++ l2) ρ2
    | r => r
  | [], bs, ρ => by
    show cArgs bs ρ = _
    simp only [cArgs, CA.bindC]
    cases cArgs bs ρ <;> rfl
  | .v f :: as, bs, ρ => by
    simp only [List.cons_append, cArgs]
    cases e : f ρ with
    | bad => rfl
    | exc c fs ρ1 => rfl
    | ok o ρ1 =>
      simp only [R.toC]
      cases z : o.toVal with
      | none => rfl
      | some s =>
        simp only
        rw [cArgs_append as bs ρ1]
        cases cArgs as ρ1 with
        | bad => rfl
        | exc c fs ρ2 => rfl
        | ok l ρ2 =>
          simp only [CA.bindC, CA.cons]
          cases cArgs bs ρ2 <;> rfl
  | .r i :: as, bs, ρ => by
    simp only [List.cons_append, cArgs]
    have key : (cArgs (as ++ bs) ρ).cons (.inr i) = ((cArgs as ρ).cons (.inr i)).bindC fun l ρ1 => match cArgs bs ρ1 with
        | .ok l2 ρ2 => .ok (l ++ l2) ρ2
        | r => r := by
      rw [cArgs_append as bs ρ]
      cases cArgs as ρ with
      | bad => rfl
      | exc c fs ρ2 => rfl
      | ok l ρ2 =>
        simp only [CA.bindC, CA.cons]
        cases cArgs bs ρ2 <;> rfl
    cases e : ρ[i]? with
    | none => rfl
    | some s =>
      cases s with
      | own c => exact key
      | ref c => exact key
      | emp => rfl
      | val d => rfl
      | fn y => rfl
theorem ARel.append {l l2 : List (Sl ⊕ Nat)} {vs vs2 : List V} (r : ARel K mg P F H σ l vs) (r2 : ARel K mg P F H σ l2 vs2) : ARel K mg P F H σ (l ++ l2) (vs ++ vs2) := by
  induction r with
  | nil => exact r2
  | inl x no ne t ih => exact .inl x no ne ih
  | inr e t ih => exact .inr e ih
theorem ARel.grow {F' H' : Hp} {l : List (Sl ⊕ Nat)} {vs : List V} (sb : SubH F F') (r : ARel K mg P F H σ l vs) : ARel K mg P F' H' σ l vs := by
  induction r with
  | nil => exact .nil
  | inl x no ne t ih => exact .inl (x.plain no sb) no ne ih
  | inr e t ih => exact .inr e ih
theorem ARel.pick {l : List (Sl ⊕ Nat)} {vs : List V} (r : ARel K mg P F H σ l vs) : ∀ (srcs : List Src) (l' : List (Sl ⊕ Nat)), (∀ j x, Src.d j x ∈ srcs → flatD x = true) → pickL l srcs = some l' → ARel K mg P F H σ l' (pickV vs srcs)
  | [], l', _, h => by cases h; exact .nil
  | .a i :: s, l', hd, h => by
    simp only [pickL] at h
    cases e : l[i]? with
    | none => simp only [e] at h; cases h
    | some x =>
      simp only [e] at h
      cases e2 : pickL l s with
      | none => rw [e2] at h; cases h
      | some t =>
        rw [e2] at h; cases h
        obtain ⟨v, ev, h1, h2⟩ := r.get e
        have ih := ARel.pick r s t (fun j y m => hd j y (List.mem_cons_of_mem _ m)) e2
        have z : vs.getD i .non = v := by simp [List.getD, ev]
        simp only [pickV, z]
        cases x with
        | inl s' =>
          obtain ⟨q1, q2, q3⟩ := h1 s' rfl
          exact .inl q1 q2 q3 ih
        | inr j => exact .inr (h2 j rfl) ih
  | .d j x :: s, l', hd, h => by
    simp only [pickL] at h
    cases e2 : pickL l s with
    | none => rw [e2] at h; cases h
    | some t =>
      rw [e2] at h; cases h
      have ih := ARel.pick r s t (fun j y m => hd j y (List.mem_cons_of_mem _ m)) e2
      exact .inl ⟨_, rfl, flatV_rep (hd j x List.mem_cons_self)⟩ rfl (by intro z; cases z) ih
theorem cArgs_len : ∀ (as : List Ar) (ρ ρ1 : Env) (l : List (Sl ⊕ Nat)), cArgs as ρ = .ok l ρ1 → l.length = as.length := by
  intro as
  induction as with
  | nil => intro ρ ρ1 l z; cases z; rfl
  | cons a as ih =>
    intro ρ ρ1 l z
    have c1 : ∀ {x : Sl ⊕ Nat} {ρ : Env}, (cArgs as ρ).cons x = .ok l ρ1 → l.length = as.length + 1 := fun {x ρ} z => by
      cases q : cArgs as ρ with
      | bad => rw [q] at z; cases z
      | exc c gs ρ2 => rw [q] at z; cases z
      | ok l2 ρ2 => rw [q] at z; cases z; simp [ih _ _ _ q]
    cases a with
    | v f =>
      simp only [cArgs] at z
      cases q : f ρ with
      | bad => rw [q] at z; cases z
      | exc c gs ρ2 => rw [q] at z; cases z
      | ok o ρ2 =>
        rw [q] at z
        simp only [R.toC] at z
        cases y : o.toVal with
        | none => simp only [y] at z; cases z
        | some s => simp only [y] at z; exact c1 z
    | r i =>
      simp only [cArgs] at z
      cases q : ρ[i]? with
      | none => simp only [q] at z; cases z
      | some s =>
        cases s with
        | own c => simp only [q] at z; exact c1 z
        | ref c => simp only [q] at z; exact c1 z
        | emp => simp only [q] at z; cases z
        | val d => simp only [q] at z; cases z
        | fn y => simp only [q] at z; cases z
theorem pickV_len (vs : List V) : ∀ srcs : List Src, (pickV vs srcs).length = srcs.length
  | [] => rfl
  | .a i :: s => by simp [pickV, pickV_len vs s]
  | .d j x :: s => by simp [pickV, pickV_len vs s]
theorem de_callG {ta tk : TA} {den : Den} {as bs : List Ar} {srcs : List Src} {n m N : Nat} (h : DC K mg W ta as) (h2 : DC K mg W tk bs) (hn : as.length = n) (hm : bs.length = m) (hs : srcs.length = N) (hd : ∀ j x, Src.d j x ∈ srcs → flatD x = true) :
    DE K mg W (tCallG n m (spD K mg N den) (fun vs zs => pickV (vs ++ zs) srcs) (WE W) ta tk) (eCallG den (as ++ bs) srcs) := by
  intro P F H σ ρ Q st hp
  refine h P F H σ ρ _ st ?_
  unfold eCallG at hp
  rw [cArgs_append] at hp
  cases e : cArgs as ρ with
  | bad => simp only [e, CA.bindC] at hp; exact hp
  | exc c gs ρ1 => simp only [e, CA.bindC] at hp; exact hp
  | ok l ρ1 =>
    simp only [e, CA.bindC] at hp
    intro F1 H1 vs sb st1 r
    refine h2 P F1 H1 σ ρ1 _ st1 ?_
    cases e2 : cArgs bs ρ1 with
    | bad => simp only [e2] at hp; exact hp
    | exc c gs ρ2 => simp only [e2] at hp; exact fun G H' C dd s => hp G H' C dd (sb.trans s)
    | ok l2 ρ2 =>
      simp only [e2] at hp
      intro F2 H2 zs sb2 st2 r2
      have rr : ARel K mg P F2 H2 σ (l ++ l2) (vs ++ zs) := (r.grow sb2).append r2
      cases e3 : pickL (l ++ l2) srcs with
      | none => simp only [e3] at hp; exact hp.elim
      | some l3 =>
        simp only [e3] at hp
        have r3 := rr.pick srcs l3 hd e3
        refine ⟨by rw [r.length, cArgs_len _ _ _ _ e, hn], by rw [r2.length, cArgs_len _ _ _ _ e2, hm], ?_⟩
        split at hp
        · rename_i nd
          cases mm : mkAs l3 ρ2 with
          | none => simp only [mm] at hp; exact hp.elim
          | some sls =>
            simp only [mm] at hp
            obtain ⟨c1, c2, c3⟩ := call_in st2 r3 nd mm
            refine ⟨by rw [pickV_len, hs], _, F2, sls, c1, c2, c3, ?_⟩
            cases d : den sls with
            | bad => simp only [d] at hp; exact hp.elim
            | ret o as' =>
              simp only [d] at hp
              intro F3 H3 v sb3 st3 x
              obtain ⟨o1, o2⟩ := call_out st2 r3 nd mm sb3 st3
              exact hp F3 H3 v ((sb.trans sb2).trans sb3) o1 (o2 v o x)
            | exc c gs as' =>
              simp only [d] at hp
              intro F3 H3 C dd sb3 st3 x
              obtain ⟨o1, o2⟩ := call_out st2 r3 nd mm sb3 st3
              exact hp F3 H3 C dd ((sb.trans sb2).trans sb3) o1 x
        · exact hp.elim
end
def srcsFlat (srcs : List Src) : Bool := srcs.all fun s => match s with
  | .a _ => true
  | .d _ x => flatD x
theorem srcsFlat_ok {srcs : List Src} (h : srcsFlat srcs = true) : ∀ j x, Src.d j x ∈ srcs → flatD x = true := fun j x m => by
  have := List.all_eq_true.mp h _ m
  exact this
section
variable {X : Cx} {W : WX} {x : Str} {p pos : Pos} {e : Expr} {es : List Expr} {kws : List Keyword} {as bs : List Ar} {par : Arguments} {dvs : List D} {ps ks : List Str} {k n : Nat} {den : Den} {srcs : List Src}
/-- f(e, .., k = v, ..), f a def of the text -/
theorem pd_callG (C : CalD X.prog X.w X.K X.mg X.base x par dvs ps k den) (hb : Bnd par dvs.length as.length ks ps srcs) (hr : Room k X.A) (tk : Takes X W) (ha : PCD X W (e :: es) as) (hk : PKD X W kws bs) (ho : dfltOk dvs srcs = true := by rfl) (hsf : srcsFlat srcs = true := by rfl) (hl : srcs.length = ps.length := by rfl) (hbl : bs.length = ks.length := by rfl) (hg : Gl X x := by rfl)
    (hall : (backToKw pos (keywordEach kws X.env)).all (·.1.isSome) = true := by rfl) (hks : (backToKw pos (keywordEach kws X.env)).filterMap (·.1) = ks := by rfl)
    (hdb : (x == ("__debug__" : Str)) = false := by decide) (he : starEach (e :: es) X.env = (false, eval e X.env) :: starEach es X.env := by rfl)
    (hpl : ((backTo pos (starEach (e :: es) X.env)).any (·.1) || (backToKw pos (keywordEach kws X.env)).any (·.1.isNone)) = false := by rfl) : PD X W (.Call (.Name x p) (e :: es) kws pos) (eCallG den (as ++ bs) srcs) := by
  obtain ⟨f, fd, nm, qual, body, scope, F, hm, hkp, FD⟩ := C.ex
  obtain ⟨its, kb⟩ := FunD.kbn FD hb ho
  obtain ⟨t, pa, da⟩ := ha.ex
  obtain ⟨t2, pk, dk⟩ := hk.ex
  exact ⟨_, pe_callG F hr hg hm hkp kb (fun σ => passAt tk σ) pa pk hall hks hdb he hpl, de_callG da dk rfl hbl hl (srcsFlat_ok hsf)⟩
theorem pd_callG0 (C : CalD X.prog X.w X.K X.mg X.base x par dvs ps k den) (hb : Bnd par dvs.length 0 ks ps srcs) (hr : Room k X.A) (tk : Takes X W) (hk : PKD X W kws bs) (ho : dfltOk dvs srcs = true := by rfl) (hsf : srcsFlat srcs = true := by rfl) (hl : srcs.length = ps.length := by rfl) (hbl : bs.length = ks.length := by rfl) (hg : Gl X x := by rfl)
    (hall : (backToKw pos (keywordEach kws X.env)).all (·.1.isSome) = true := by rfl) (hks : (backToKw pos (keywordEach kws X.env)).filterMap (·.1) = ks := by rfl)
    (hdb : (x == ("__debug__" : Str)) = false := by decide)
    (hpl : ((backTo pos (starEach [] X.env)).any (·.1) || (backToKw pos (keywordEach kws X.env)).any (·.1.isNone)) = false := by rfl) : PD X W (.Call (.Name x p) [] kws pos) (eCallG den bs srcs) := by
  obtain ⟨f, fd, nm, qual, body, scope, F, hm, hkp, FD⟩ := C.ex
  obtain ⟨its, kb⟩ := FunD.kbn FD hb ho
  obtain ⟨t2, pk, dk⟩ := hk.ex
  exact ⟨_, pe_callG0 F hr hg hm hkp kb (fun σ => passAt tk σ) pk hall hks hdb hpl, de_callG (as := []) dc_nil dk rfl hbl hl (srcsFlat_ok hsf)⟩
end
end Dk

set_option Elab.async false
set_option linter.all false
set_option maxRecDepth 100000
set_option maxHeartbeats 4000000
/-! Dk10: own errors raised, caught -/
namespace Dk
open PySem PySem.Spec L2 PyProof.Rows

/-! ### own error classes -/
/-- __init__'s promise: the fields flds get the arguments -/
def spI (K : PySem.W.Frag) (flds : List Str) : Sp := fun vs H Q E => ∃ (a C : Addr) (ys : List V), vs = .ref a :: ys ∧ ys.length = flds.length ∧ OexC K C ∧ (∀ f ∈ flds, PySem.W.findIn K (.ref C) f = some none) ∧ H a = some (exo a C none) ∧
  ∀ dx, H dx = none → dx ≠ a → Q .non (upd (upd H dx (exd dx (flds.zip ys).reverse)) a (exo a C (some dx)))
structure ExcD (P : Program) (w : World) (K : PySem.W.Frag) (mg : Str → Option Value) (base : Heap) (c : Str) (flds : List Str) (k : Nat) : Prop where
  ex : ∃ (C fI : Addr) (fd : FuncData) (ps : List Str), OexC K C ∧ PySem.W.findIn K (.ref C) "__init__" = some (some (.ref fI)) ∧ PySem.W.typeIn K (.ref fI) = some (.type "function") ∧ FnOk P w K mg base (L2.CX P w) k fI fd ps (spI K flds) ∧ Binds K fd ps [] ∧ mg c = some (.ref C) ∧
    (∀ f ∈ flds, PySem.W.findIn K (.ref C) f = some none)
  sh : (∃ g, flds = [g]) ∨ ∃ i j, i ≠ j ∧ flds = [i, j]
theorem init1_ok {P : Program} {w : World} {K : PySem.W.Frag} {mg : Str → Option Value} {base : Heap} {qual : Str} {st : Stmt} {f : Addr} {fd : FuncData} {N ps : List Str} {k : Nat} {g : Str} (F : Fun K "__init__" qual st f fd) (S : FnScope N ps (defScope st)) (hps : ps.length = 2)
    (hbody : ∀ (cdv : Value) (A : Around) (outer : List PySem.Env) (s : Shared) (H : Hp) (E : XK), PSs (cxOf (L2.CX P w) P w K mg base N qual (defScope st) f cdv A outer s H E) (defBody st) (tOst K g (tVar 0) (tVar 1))) : FnOk P w K mg base (L2.CX P w) (k + 1) f fd ps (spI K [g]) := by
  have F' := F
  obtain ⟨oc, od, kV, doc, pm, an, cdv, ct, osl, rfl, lk, hcd⟩ := F'.ex
  refine fn_of lk hcd S (fun vs H Q E h => ?_) fun A outer s H vs Q E hr h => ?_
  · obtain ⟨a, C, ys, rfl, hl, _⟩ := h
    rw [List.length_cons, hl, hps]; rfl
  · obtain ⟨a, C, ys, rfl, hl, T, hno, ha, hq⟩ := h
    match ys, hl with
    | [y], _ =>
      refine ⟨_, hbody _ A outer s H E, ?_⟩
      have e1 : (L2.start N [.ref a, y])[1]? = some (some y) := rfl
      have e0 : (L2.start N [.ref a, y])[0]? = some (some (.ref a)) := rfl
      exact ⟨y, e1, .ref a, e0, a, C, rfl, T, hno g (by simp), .inl ⟨ha, fun dx n ne => hq dx n ne⟩⟩
theorem init2_ok {P : Program} {w : World} {K : PySem.W.Frag} {mg : Str → Option Value} {base : Heap} {qual : Str} {st : Stmt} {f : Addr} {fd : FuncData} {N ps : List Str} {k : Nat} {g g2 : Str} (F : Fun K "__init__" qual st f fd) (S : FnScope N ps (defScope st)) (hps : ps.length = 3)
    (hbody : ∀ (cdv : Value) (A : Around) (outer : List PySem.Env) (s : Shared) (H : Hp) (E : XK), PSs (cxOf (L2.CX P w) P w K mg base N qual (defScope st) f cdv A outer s H E) (defBody st) (tSeq (tOst K g (tVar 0) (tVar 1)) (tOst K g2 (tVar 0) (tVar 2)))) : FnOk P w K mg base (L2.CX P w) (k + 1) f fd ps (spI K [g, g2]) := by
  have F' := F
  obtain ⟨oc, od, kV, doc, pm, an, cdv, ct, osl, rfl, lk, hcd⟩ := F'.ex
  refine fn_of lk hcd S (fun vs H Q E h => ?_) fun A outer s H vs Q E hr h => ?_
  · obtain ⟨a, C, ys, rfl, hl, _⟩ := h
    rw [List.length_cons, hl, hps]; rfl
  · obtain ⟨a, C, ys, rfl, hl, T, hno, ha, hq⟩ := h
    match ys, hl with
    | [y, y2], _ =>
      refine ⟨_, hbody _ A outer s H E, ?_⟩
      have e1 : (L2.start N [.ref a, y, y2])[1]? = some (some y) := rfl
      have e2 : (L2.start N [.ref a, y, y2])[2]? = some (some y2) := rfl
      have e0 : (L2.start N [.ref a, y, y2])[0]? = some (some (.ref a)) := rfl
      refine ⟨y, e1, .ref a, e0, a, C, rfl, T, hno g (by simp), .inl ⟨ha, fun dx n ne => ?_⟩⟩
      refine ⟨y2, e2, .ref a, e0, a, C, rfl, T, hno g2 (by simp), .inr ⟨dx, [(g, y)], upd_same, by rw [upd_ne ne, upd_same], by simp, ?_⟩⟩
      have := hq dx n ne
      have eH : upd (upd (upd H dx (exd dx [(g, y)])) a (exo a C (some dx))) dx (exd dx [(g2, y2), (g, y)]) = upd (upd H dx (exd dx ([g, g2].zip [y, y2]).reverse)) a (exo a C (some dx)) := by
        funext b
        by_cases hb : b = dx
        · subst hb; rw [upd_same, upd_ne ne, upd_same]; rfl
        · rw [upd_ne hb]
          by_cases hc : b = a
          · subst hc; rw [upd_same, upd_same]
          · rw [upd_ne hc, upd_ne hc, upd_ne hb, upd_ne hb]
      rw [eH]; exact this
def sRaise (c : Str) (flds : List Str) (fs : List EX) : SX := fun ρ => match eArgsR fs ρ with
  | .ok (.val (.list ds)) ρ1 => .exc c (flds.zip ds) ρ1
  | .exc c' gs ρ1 => .exc c' gs ρ1
  | _ => .bad
theorem repF_zip {K : PySem.W.Frag} {F : Hp} {flds : List Str} {ds : List D} {vs : List V} (sh : (∃ g, flds = [g]) ∨ ∃ i j, i ≠ j ∧ flds = [i, j]) (r : RepL K F ds vs) (hl : ds.length = flds.length) : RepF K F (flds.zip ds) (flds.zip vs).reverse := by
  intro f d e
  rcases sh with ⟨g, rfl⟩ | ⟨i, j, ne, rfl⟩
  · match ds, hl with
    | [d0], _ =>
      obtain ⟨v, rfl, rv⟩ := r.one
      simp only [List.zip_cons_cons, List.zip_nil_right, List.lookup] at e
      refine ⟨v, ?_, ?_⟩
      · simp only [List.zip_cons_cons, List.zip_nil_right, List.reverse_singleton, List.lookup]
        split at e
        · rfl
        · cases e
      · split at e
        · cases e; exact rv
        · cases e
  · match ds, hl with
    | [d0, d1], _ =>
      obtain ⟨v, u, rfl, rv, ru⟩ := r.two
      have hrev : ([i, j].zip [v, u]).reverse = [(j, u), (i, v)] := rfl
      rw [hrev]
      simp only [List.zip_cons_cons, List.zip_nil_right, List.lookup] at e ⊢
      by_cases h1 : f = i
      · subst h1
        have h2 : (f == j) = false := by simpa using ne
        simp at e; subst e
        exact ⟨v, by simp [h2], rv⟩
      · have h2 : (f == i) = false := by simpa using h1
        simp only [h2] at e
        by_cases h3 : f = j
        · subst h3; simp at e; subst e; exact ⟨u, by simp, ru⟩
        · have h4 : (f == j) = false := by simpa using h3
          simp [h4] at e
section
variable {X : Cx} {W : WX}
/-- raise C(e, ..) -/
theorem psd_raise {c : Str} {flds : List Str} {k : Nat} {e : Expr} {es : List Expr} {fs : List EX} {p pos pos' : Pos} (E : ExcD X.prog X.w X.K X.mg X.base c flds k) (hr : Room (k + 1) X.A) (tk : Takes X W) (ha : PAD X W (e :: es) fs) (hn : fs.length = flds.length := by rfl) (hc : X.calm = true := by rfl) (hg : Gl X c := by rfl)
    (hdb : (c == ("__debug__" : Str)) = false := by decide) (he : starEach (e :: es) X.env = (false, eval e X.env) :: starEach es X.env := by rfl) (hpl : (backTo pos' (starEach es X.env)).any (·.1) = false := by rfl) :
    PSD X W (.Raise (some (.Call (.Name c p) (e :: es) [] pos')) none pos) (sRaise c flds fs) := by
  obtain ⟨C, fI, fd, ps, T, iC, tI, F, hb, hm, hno⟩ := E.ex
  obtain ⟨ta, pa, da⟩ := ha.ex
  refine ⟨_, ps_raise hc tk (pmk_oex T iC tI F hr hb .nil (fun pins σ H s e s' I c => (takes_none5 (X := X)) e s' (XE.of_call I (fun _ _ _ h => h) c)) hg hm pa hdb he hpl), ?_⟩
  intro P F0 H σ ρ D st hp
  refine da P F0 H σ ρ _ st ?_
  unfold sRaise at hp
  cases e1 : eArgsR fs ρ with
  | bad => simp only [e1] at hp; exact hp
  | exc c' gs ρ1 => simp only [e1] at hp; exact fun F1 H1 C' dd sb st1 x => hp F1 H1 σ C' dd sb st1 x
  | ok o ρ1 =>
    simp only [e1] at hp
    cases o with
    | val d =>
      cases d with
      | list ds =>
        simp only at hp
        intro F1 H1 vs sb st1 r hl
        have hlv : vs.length = flds.length := by rw [r.length, hl, hn]
        refine ⟨?_, fun a na => ?_⟩
        · rcases E.sh with ⟨g, h⟩ | ⟨i, j, _, h⟩ <;> rw [hlv, h] <;> simp
        · refine ⟨a, C, vs, by rw [List.append_nil], hlv, T, hno, upd_same, fun dx ndx nea => ⟨rfl, dx, _, upd_same, by rw [upd_ne nea, upd_same], ?_, ?_⟩⟩
          · rw [upd_ne nea] at ndx; exact ndx
          · rw [upd_ne nea] at ndx
            have eH : upd (del (upd (upd (upd H1 a (exo a C none)) dx (exd dx (flds.zip vs).reverse)) a (exo a C (some dx))) a) dx (.xd (flds.zip vs).reverse) = upd H1 dx (.xd (flds.zip vs).reverse) := by
              funext b
              by_cases hb : b = dx
              · subst hb; rw [upd_same, upd_same]
              · rw [upd_ne hb, upd_ne hb]
                by_cases hc : b = a
                · subst hc; rw [del_same, na]
                · rw [del_ne hc, upd_ne hc, upd_ne hb, upd_ne hc]
            rw [eH]
            obtain ⟨st2, sb2⟩ := st1.allocF (o := .xd (flds.zip vs).reverse) ndx
            refine hp _ _ σ C dx (sb.trans sb2) st2 ⟨hm, _, upd_same, ?_⟩
            exact (repF_zip E.sh r (hl.trans hn)).le sb2
      | none => exact hp.elim
      | bool i => exact hp.elim
      | int i => exact hp.elim
      | str i => exact hp.elim
      | tuple i => exact hp.elim
      | dict i => exact hp.elim
      | dictT i => exact hp.elim
      | tag _ i => exact hp.elim
    | emp => exact hp.elim
    | own c => exact hp.elim
    | ref c => exact hp.elim
    | fn c => exact hp.elim
end

/-! ### several except clauses, with names -/
def endsOut (oi : Option Nat) (D : Ends) : Ends := match oi with
  | none => D
  | some i => { nx := fun σ' H' => D.nx (σ'.set i none) H', rt := D.rt, bk := fun σ' H' => D.bk (σ'.set i none) H', ct := fun σ' H' => D.ct (σ'.set i none) H' }
def slotIn (oi : Option Nat) (a : Addr) (σ : L2.St) : L2.St := match oi with
  | none => σ
  | some i => σ.set i (some (.ref a))
def wManyA (K : PySem.W.Frag) (Wout : WX) (D : Ends) : List (Value × Option Nat × (Addr → Value → Option Addr → TS)) → WX
  | [] => Wout
  | (c, oi, ts) :: r => fun cls d σ H => ∃ b, PySem.W.exmOne K cls c = some b ∧ (b = true → ∀ a, H a = none → ts a cls d (endsOut oi D) (slotIn oi a σ) H) ∧ (b = false → wManyA K Wout D r cls d σ H)
inductive HdsA (X : Cx) : List ExceptHandler → List (Value × Option Nat × (Addr → Value → Option Addr → TS)) → Prop
  | nil : HdsA X [] []
  | no {x : Str} {c : Value} {ts : Addr → Value → Option Addr → TS} {b₀ : Stmt} {suite : List Stmt} {np pos' : Pos} {hds : List ExceptHandler} {l : List (Value × Option Nat × (Addr → Value → Option Addr → TS))} (hc : Names X x c)
      (hsu : ∀ (a : Addr) (oe : Obj) (cls : Value) (d : Option Addr) (pn : List (Addr × Obj)), Zc cls d oe → (∃ vs, oe.data = .fields vs) → PSs (X.suite a ((a, oe) :: pn)) (b₀ :: suite) (ts a cls d)) (r : HdsA X hds l) :
      HdsA X (.ExceptHandler (some (.Name x np)) none (b₀ :: suite) pos' :: hds) ((c, none, ts) :: l)
  | as {x n : Str} {i : Nat} {c : Value} {ts : Addr → Value → Option Addr → TS} {b₀ : Stmt} {suite : List Stmt} {np pos' : Pos} {hds : List ExceptHandler} {l : List (Value × Option Nat × (Addr → Value → Option Addr → TS))} (hN : X.N.Nodup) (hi : X.N[i]? = some n) (hln : X.env.kindOf n = some .local) (hc : Names X x c)
      (hsu : ∀ (a : Addr) (oe : Obj) (cls : Value) (d : Option Addr) (pn : List (Addr × Obj)), Zc cls d oe → (∃ vs, oe.data = .fields vs) → PSs (X.suite a ((a, oe) :: pn)) (b₀ :: suite) (ts a cls d)) (r : HdsA X hds l) :
      HdsA X (.ExceptHandler (some (.Name x np)) (some n) (b₀ :: suite) pos' :: hds) ((c, some i, ts) :: l)
section
variable {X : Cx} {body : List Stmt} {h₀ : ExceptHandler} {hds : List ExceptHandler} {l : List (Value × Option Nat × (Addr → Value → Option Addr → TS))} {pos : Pos} {tb : WX → TS} {Wout : WX}
theorem ps_try_manyA (hs : X.stack = X.env :: X.outer) (hf : X.env.frame = some X.env.locals) (tk : Takes X Wout)
    (hb : ∀ (W : WX) (pn : List (Addr × Obj)) (xe : Value → Shared → Prop), Takes (X.tr pn xe) W → PassesOwn (model X.prog X.w) X.A X.env xe → PSs (X.tr pn xe) body (tb W))
    (hh : HdsA X (h₀ :: hds) l) : PS X (.Try body (h₀ :: hds) [] [] pos) (fun D σ H => tb (wManyA X.K Wout D l) D σ H) := by
  refine ⟨fun pins s σ H D I h => ?_⟩
  have ok := I.ok
  have hfr : X.A.frames = some (X.env :: X.outer) := by rw [ok.frames, hs]
  refine wpAny_Try_except ?_
  refine wpAny_mono ((hb (wManyA X.K Wout D l) (X.pn ++ pins) (fun e s₁ => wpAny (model X.prog X.w) X.A (noteFrame e X.env) (fun _ s₂ => wpAny (model X.prog X.w) X.A (setFlight e none) (fun _ s₃ =>
    wpAny (model X.prog X.w) X.A (handleBy e X.env (h₀ :: hds)) (SP X pins D) X.xe s₃) X.xe s₂) X.xe s₁) (fun u s' xx => ?_) PassesOwn.looking).run [] s σ H D (I.toTry _) h) (fun f s1 hsp => ?_) (fun e s1 he => he)
  · obtain ⟨a, B, sI, pins', σ', H', cls, d, rfl, J', nb, up, sky, na, os, ag, w⟩ := xx
    have J : Inv X pins σ' H' sI := J'.ofTry ok
    have sky' : Sky B (X.env :: X.outer) a (Zc cls d) X.env.locals s'.heap := by rw [← hs]; exact sky
    show wpAny (model X.prog X.w) X.A (noteFrame (.ref a) X.env) _ _ _
    refine Sky.land Zc.steady hfr hf sky' fun h3 fl3 up3 => ?_
    have J3 : Inv X pins σ' H' { s' with heap := h3 } := J.landed nb fl3.1 (up.trans up3) os ag
    obtain ⟨oe3, vs3, he3, hz3, hd3⟩ := fl3.there
    have notFr : ∀ {h : Heap} {o : Obj} {vs : Array Value}, h.FunFrames B (X.env :: X.outer) → h.get? a = some o → o.data = .fields vs → a ∉ frs (X.env :: X.outer) := fun {h o vs} ff e dd hm => by
      obtain ⟨_, o', e', hnf⟩ := ff.mem hm
      rw [e] at e'; cases e'
      exact hnf _ dd
    have nfr := notFr fl3.2.2.1 he3 hd3
    have nL : a ≠ X.env.locals := fun z => nfr (List.mem_filterMap.mpr ⟨X.env, List.mem_cons_self, by rw [hf, z]⟩)
    have nF : a ∉ X.fs := fun hm => by
      obtain ⟨e, he, q⟩ := List.mem_filterMap.mp hm
      exact nfr (List.mem_filterMap.mpr ⟨e, List.mem_cons_of_mem _ he, q⟩)
    have S3 := J3.suite he3 hd3 na nL nF
    have test : ∀ {x : Str} {c : Value} {np : Pos} {Q : Value → Shared → Prop} {E : Value → Shared → Prop}, Names X x c → Q c { s' with heap := h3 } → wpAny (model X.prog X.w) (X.A.mark (some (.ref a))) (eval (.Name x np) X.env) Q E { s' with heap := h3 } := fun {x c np Q E} hc q => by
      obtain ⟨hg, hdbg, hm | ⟨hm, hv, hnn⟩⟩ := hc
      · exact ld_glob (X := X.suite a ((a, oe3) :: (X.pn ++ pins))) S3 hg hm q hdbg
      · exact ld_blt (X := X.suite a ((a, oe3) :: (X.pn ++ pins))) S3 hg hm hv q hnn hdbg
    have LT : PySem.W.Looks (model X.prog X.w) h3 (typeOf (.ref a)) cls := fun A Q E s k q => wpAny_typeOf_ref (k _ _ he3) (by rw [hz3.1]; exact q)
    have go : ∀ {hds' : List ExceptHandler} {l' : List (Value × Option Nat × (Addr → Value → Option Addr → TS))}, HdsA X hds' l' → wManyA X.K Wout D l' cls d σ' H' →
        wpAny (model X.prog X.w) X.A (handleBy (.ref a) X.env hds') (SP X pins D) X.xe { s' with heap := h3 } := by
      intro hds' l' hk
      induction hk with
      | nil =>
        intro w
        refine wpAny_handleBy_nil ?_
        obtain ⟨k1, k2, k3, oe, vs, T, oT, ts', he, hz, hd, h1, hr⟩ := id fl3
        unfold PySem.passOn
        refine wpAny_bind (wpAny_field he hd h1 ?_)
        rw [if_neg (show ¬ ((Value.ref T == Value.none) = true) from by simp)]
        have fin : wpAny (model X.prog X.w) X.A (setFlight (.ref a) X.env.frame) (fun _ s4 => wpAny (model X.prog X.w) X.A (throw (.ref a) : Sem Flow) (SP X pins D) X.xe s4) X.xe { s' with heap := h3 } := by
          rw [hf]
          refine HandSPX.setFlight_upZ fl3 fun h4 hh4 up4 => wpAny_throw (tk _ _ ?_)
          exact ⟨a, B, sI, pins, σ', H', cls, d, rfl, J, nb, (up.trans up3).trans up4, .inr (.inr (by rw [hs]; exact hh4)), na, os, ag, w⟩
        first
          | exact wpAny_bind (wpAny_pure (wpAny_bind fin))
          | exact wpAny_bind fin
      | @no x c ts b₀ suite np pos' hds2 l2 hc hsu r ih =>
        intro w
        obtain ⟨b, hb1, hyes, hno⟩ := w
        refine wpAny_handleBy_cons (codeAny_handlers_test ?_) (by intro q; cases q)
        have LM := PySem.W.exm_one (M := model X.prog X.w) (J3.kIn) LT hb1
        refine test hc (LM.here ?_)
        cases b with
        | true =>
          refine codeAny_handlers_suite ?_
          refine HandSPX.lands_againZ fl3 fun h4 fl4 up4 => ?_
          have J4 : Inv X pins σ' H' { s' with heap := h4 } := J.landed nb fl4.1 ((up.trans up3).trans up4) os ag
          obtain ⟨oe4, vs4, he4, hz4, hd4⟩ := fl4.there
          have S4 := J4.suite he4 hd4 na nL nF
          refine wpAny_mono ((hsu a oe4 cls d (X.pn ++ pins) hz4 ⟨_, hd4⟩).run [] _ _ H' _ S4 (hyes rfl a na)) (fun f s6 hsp => ?_) (fun _ _ z => False.elim z)
          cases f with
          | next =>
            obtain ⟨σ6, H6, S6, q6⟩ := hsp
            exact ⟨_, _, S6.unsuite ok, q6⟩
          | brk =>
            obtain ⟨σ6, H6, S6, q6⟩ := hsp
            exact ⟨_, _, S6.unsuite ok, q6⟩
          | cont =>
            obtain ⟨σ6, H6, S6, q6⟩ := hsp
            exact ⟨_, _, S6.unsuite ok, q6⟩
          | ret u =>
            obtain ⟨v6, σ6, H6, S6, r6, q6⟩ := hsp
            exact ⟨_, _, _, S6.unsuite ok, r6, q6⟩
        | false =>
          show wpAny _ X.A (handleBy (.ref a) X.env hds2) _ _ _
          exact ih (hno rfl)
      | @as x n i c ts b₀ suite np pos' hds2 l2 hN hi hln hc hsu r ih =>
        intro w
        obtain ⟨b, hb1, hyes, hno⟩ := w
        refine wpAny_handleBy_cons (codeAny_handlers_test ?_) (by intro q; cases q)
        have LM := PySem.W.exm_one (M := model X.prog X.w) (J3.kIn) LT hb1
        refine test hc (LM.here ?_)
        have hloc : Loc X.env.scope n := .inl hln
        cases b with
        | true =>
          refine codeAny_handlers_suite_as ?_
          refine HandSPX.lands_againZ fl3 fun h4 fl4 up4 => ?_
          have J4 : Inv X pins σ' H' { s' with heap := h4 } := J.landed nb fl4.1 ((up.trans up3).trans up4) os ag
          obtain ⟨oe4, vs4, he4, hz4, hd4⟩ := fl4.there
          have S4 := J4.suite he4 hd4 na nL nF
          refine store_ok (X := X.suite a ((a, oe4) :: (X.pn ++ pins))) (v := .ref a) S4 hN hi hloc rfl (fun s5 S5 => ?_) (.inr hln)
          refine wpAny_mono ((hsu a oe4 cls d (X.pn ++ pins) hz4 ⟨_, hd4⟩).run [] s5 _ H' _ S5 (hyes rfl a na)) (fun f s6 hsp => ?_) (fun _ _ z => False.elim z)
          have end_ : ∀ {σ6 : L2.St} {H6 : Hp} {Q : Shared → Prop}, Inv (X.suite a ((a, oe4) :: (X.pn ++ pins))) [] σ6 H6 s6 → (∀ s7, Inv X pins (σ6.set i none) H6 s7 → Q s7) →
              wpAny (model X.prog X.w) X.A (do bindName X.env n .none; unbindBehindTheSuite X.env n pos') (fun _ s7 => Q s7) X.xe s6 := fun {σ6 H6 Q} S6 hq => gone_ok (S6.unsuite ok) hN hi hln hq
          cases f with
          | next =>
            obtain ⟨σ6, H6, S6, q6⟩ := hsp
            exact end_ S6 fun s7 J7 => ⟨_, _, J7, q6⟩
          | brk =>
            obtain ⟨σ6, H6, S6, q6⟩ := hsp
            exact end_ S6 fun s7 J7 => ⟨_, _, J7, q6⟩
          | cont =>
            obtain ⟨σ6, H6, S6, q6⟩ := hsp
            exact end_ S6 fun s7 J7 => ⟨_, _, J7, q6⟩
          | ret u =>
            obtain ⟨v6, σ6, H6, S6, r6, q6⟩ := hsp
            exact end_ S6 fun s7 J7 => ⟨_, _, _, J7, r6, q6⟩
        | false =>
          show wpAny _ X.A (handleBy (.ref a) X.env hds2) _ _ _
          exact ih (hno rfl)
    exact go hh w
  · cases f with
    | next =>
      obtain ⟨σ', H', J', q⟩ := hsp
      exact wpAny_execs_nil ⟨σ', H', J'.ofTry ok, q⟩
    | brk =>
      obtain ⟨σ', H', J', q⟩ := hsp
      exact ⟨σ', H', J'.ofTry ok, q⟩
    | cont =>
      obtain ⟨σ', H', J', q⟩ := hsp
      exact ⟨σ', H', J'.ofTry ok, q⟩
    | ret u =>
      obtain ⟨v, σ', H', J', r, q⟩ := hsp
      exact ⟨v, σ', H', J'.ofTry ok, r, q⟩
end
end Dk

set_option Elab.async false
set_option linter.all false
set_option maxRecDepth 100000
set_option maxHeartbeats 4000000
/-! Dk11: try by data -/
namespace Dk
open PySem PySem.Spec L2 PyProof.Rows

/-! ### what a suite says of the error that it holds -/
abbrev GX := Str → List (Str × D) → Option Sl
/-- slot i holds the error at a: its class named c, its fields fs -/
def ExAt (K : PySem.W.Frag) (mg : Str → Option Value) (F : Hp) (σ : SS) (a : Addr) (cls : Value) (d : Option Addr) (i : Nat) (c : Str) (fs : List (Str × D)) : Prop :=
  σ[i]? = some (some (.ref a)) ∧ ∃ (C dd : Addr), cls = .ref C ∧ d = some dd ∧ ExcOk K mg F C dd c fs
theorem ExAt.le {K : PySem.W.Frag} {mg : Str → Option Value} {F F' : Hp} {σ : SS} {a : Addr} {cls : Value} {d : Option Addr} {i : Nat} {c : Str} {fs : List (Str × D)} (h : SubH F F') (x : ExAt K mg F σ a cls d i c fs) : ExAt K mg F' σ a cls d i c fs := by
  obtain ⟨h1, C, dd, e1, e2, m, vs, hf, r⟩ := x
  exact ⟨h1, C, dd, e1, e2, m, vs, h.non hf id, r.le h⟩
def DXe (K : PySem.W.Frag) (mg : Str → Option Value) (a : Addr) (cls : Value) (d : Option Addr) (i : Nat) (t : TE) (g : GX) : Prop := ∀ P F H σ ρ Q c fs o, Stt K mg P F H σ ρ → ExAt K mg F σ a cls d i c fs → g c fs = some o → Kont K mg P F σ ρ o Q → t σ H Q
/-- within a suite -/
structure PXe (X : Cx) (a : Addr) (cls : Value) (d : Option Addr) (i : Nat) (e : Expr) (g : GX) : Prop where
  ex : ∃ t, PE X e t ∧ DXe X.K X.mg a cls d i t g
def gC_ (d : D) : GX := fun _ _ => some (.val d)
/-- the field f, if the class is the one named c0 -/
def gFld (c0 f : Str) : GX := fun c fs => if c = c0 then (fs.lookup f).map .val else none
section
variable {X : Cx} {a : Addr} {cls : Value} {d : Option Addr} {i : Nat}
theorem pxe_c {e : Expr} {v : V} {dd : D} (p : PE X e (tC v)) (r : ∀ F, Rep X.K F dd v) : PXe X a cls d i e (gC_ dd) := ⟨_, p, fun P F H σ ρ Q c fs o st ex hg k => by cases hg; exact k F H v (SubH.refl F) st (OutOk.val (r F))⟩
theorem pxe_str {x : Str} {j : Nat} {pos : Pos} : PXe X a cls d i (.Constant (.str x) j pos) (gC_ (.str x)) := pxe_c pe_str fun F => mk_str
theorem pxe_non {j : Nat} {pos : Pos} : PXe X a cls d i (.Constant .none j pos) (gC_ .none) := pxe_c pe_non fun F => mk_none
theorem pxe_bl {b : Bool} {j : Nat} {pos : Pos} : PXe X a cls d i (.Constant (.bool b) j pos) (gC_ (.bool b)) := pxe_c pe_bl fun F => mk_bool
theorem pxe_int {b : Int} {j : Nat} {pos : Pos} : PXe X a cls d i (.Constant (.int b) j pos) (gC_ (.int b)) := pxe_c pe_int fun F => mk_int
/-- what the fields' class must have -/
structure XfD (K : PySem.W.Frag) (mg : Str → Option Value) (c0 f : Str) : Prop where
  ex : ∃ C : Addr, mg c0 = some (.ref C) ∧ XfC K C ∧ PySem.W.findIn K (.ref C) f = some none
theorem pxe_fld {n c0 f : Str} {oe : Obj} {pn : List (Addr × Obj)} {p pos : Pos} (T : XfD X.K X.mg c0 f) (hz : Zc cls d oe) (hf : ∃ vs, oe.data = .fields vs) (hN : X.N[i]? = some n) (hv : Vis X.env.scope n) (hb : attributeBase (.Name n p) f X.env (eval (.Name n p) X.env) = eval (.Name n p) X.env := by rfl) (hdb : (n == ("__debug__" : Str)) = false := by decide) (hcd : (n == ("__classdict__" : Str)) = false := by decide) :
    PXe (X.suite a ((a, oe) :: pn)) a cls d i (.Attribute (.Name n p) f pos) (gFld c0 f) := by
  obtain ⟨C, hm, T, hno⟩ := T.ex
  refine ⟨_, pe_xf T hno hz hf (pe_var (X := X.suite a ((a, oe) :: pn)) hN hv hdb hcd) hb, ?_⟩
  intro P F H σ ρ Q c fs o st ex hg k
  obtain ⟨h1, C', dd, e1, e2, m, vs, hfd, r⟩ := ex
  unfold gFld at hg
  split at hg
  · rename_i ec
    subst ec
    have : some (Value.ref C') = some (.ref C) := m.symm.trans hm
    cases this
    cases q : fs.lookup f with
    | none => rw [q] at hg; cases hg
    | some x =>
      rw [q] at hg; cases hg
      obtain ⟨v, l, rv⟩ := r f x q
      exact ⟨.ref a, h1, rfl, e1, dd, vs, v, e2, st.sub.non hfd id, l, k F H v (SubH.refl F) st (OutOk.val rv)⟩
  · cases hg
/-- argument lists within a suite -/
abbrev GXs := Str → List (Str × D) → Option (List D)
def gNil : GXs := fun _ _ => some []
def gCons (g : GX) (gs : GXs) : GXs := fun c fs => match g c fs with
  | some o => (match o.frz with | some d => (gs c fs).map (d :: ·) | none => none)
  | none => none
def DXs (K : PySem.W.Frag) (mg : Str → Option Value) (a : Addr) (cls : Value) (d : Option Addr) (i n : Nat) (t : TA) (g : GXs) : Prop := ∀ P F H σ ρ G c fs ds, Stt K mg P F H σ ρ → ExAt K mg F σ a cls d i c fs → g c fs = some ds → (∀ F' H' vs, SubH F F' → Stt K mg P F' H' σ ρ → RepL K F' ds vs → ds.length = n → G vs H') → t σ H G
structure PXs (X : Cx) (a : Addr) (cls : Value) (d : Option Addr) (i n : Nat) (es : List Expr) (g : GXs) : Prop where
  ex : ∃ t, PA X es t ∧ DXs X.K X.mg a cls d i n t g
theorem pxs_nil : PXs X a cls d i 0 [] gNil := ⟨_, pa_nil, fun P F H σ ρ G c fs ds st ex hg k => by cases hg; exact k F H [] (SubH.refl F) st RepL.nil rfl⟩
theorem pxs_cons {e : Expr} {es : List Expr} {g : GX} {gs : GXs} {n : Nat} (h1 : PXe X a cls d i e g) (h2 : PXs X a cls d i n es gs) (hs : starEach (e :: es) X.env = (false, eval e X.env) :: starEach es X.env := by rfl) : PXs X a cls d i (n + 1) (e :: es) (gCons g gs) := by
  obtain ⟨t, p, q⟩ := h1.ex
  obtain ⟨u, p2, q2⟩ := h2.ex
  refine ⟨_, pa_cons p p2 hs, ?_⟩
  intro P F H σ ρ G c fs ds st ex hg k
  unfold gCons at hg
  cases e1 : g c fs with
  | none => simp only [e1] at hg; cases hg
  | some o =>
    simp only [e1] at hg
    cases e2 : o.frz with
    | none => simp only [e2] at hg; cases hg
    | some y =>
      simp only [e2] at hg
      cases e3 : gs c fs with
      | none => rw [e3] at hg; cases hg
      | some ys =>
        rw [e3] at hg; cases hg
        refine q P F H σ ρ _ c fs o st ex e1 fun F1 H1 v sb st1 x => ?_
        obtain ⟨F2, sb2, st2, r⟩ := st1.freeze x e2
        refine q2 P F2 H1 σ ρ _ c fs ys st2 (ex.le (sb.trans sb2)) e3 fun F3 H3 vs sb3 st3 rs hl => ?_
        exact k F3 H3 (v :: vs) ((sb.trans sb2).trans sb3) st3 (RepL.cons (Rep.le sb3.rd y v r) rs) (by simp [hl])
def gLst (gs : GXs) : GX := fun c fs => (gs c fs).map fun ds => .own (.lst ds)
def gTup (gs : GXs) : GX := fun c fs => (gs c fs).map fun ds => .val (.tuple ds)
theorem pxe_lst {es : List Expr} {gs : GXs} {n : Nat} {pos : Pos} (h : PXs X a cls d i n es gs) (hz : n ≤ sizeLine := by show _ ≤ _; decide) : PXe X a cls d i (.List es pos) (gLst gs) := by
  obtain ⟨t, p, q⟩ := h.ex
  refine ⟨_, pe_lst p, ?_⟩
  intro P F H σ ρ Q c fs o st ex hg k
  unfold gLst at hg
  cases e1 : gs c fs with
  | none => rw [e1] at hg; cases hg
  | some ds =>
    rw [e1] at hg; cases hg
    refine q P F H σ ρ _ c fs ds st ex e1 fun F1 H1 vs sb st1 r hl => ⟨by rw [r.length, hl]; exact hz, fun p np => ?_⟩
    exact Kont.newL (Kont.le sb k) st1 r p np
theorem pxe_tup {es : List Expr} {gs : GXs} {n x1 : Nat} {pos : Pos} (h : PXs X a cls d i n es gs) (hz : n ≤ sizeLine := by show _ ≤ _; decide) : PXe X a cls d i (.Tuple es x1 pos) (gTup gs) := by
  obtain ⟨t, p, q⟩ := h.ex
  refine ⟨_, pe_tup p, ?_⟩
  intro P F H σ ρ Q c fs o st ex hg k
  unfold gTup at hg
  cases e1 : gs c fs with
  | none => rw [e1] at hg; cases hg
  | some ds =>
    rw [e1] at hg; cases hg
    refine q P F H σ ρ _ c fs ds st ex e1 fun F1 H1 vs sb st1 r hl => ⟨by rw [r.length, hl]; exact hz, fun p np => ?_⟩
    exact Kont.newT (Kont.le sb k) st1 r p np
/-! isinstance(e, C) -/
/-- what the table of classes says: whether instances of the class named c are instances of cv -/
structure IsaD (K : PySem.W.Frag) (mg : Str → Option Value) (cv : Value) (m : Str → Option Bool) : Prop where
  ex : ∀ (c : Str) (b : Bool), m c = some b → ∃ C : Addr, mg c = some (.ref C) ∧ ExcC K C ∧ (PySem.W.clsIn K C).isSome = true ∧ PySem.W.kitOne K (.ref C) cv = some b
def gIsa (m : Str → Option Bool) : GX := fun c _ => (m c).map fun b => .val (.bool b)
def rIsX (K : PySem.W.Frag) (mg : Str → Option Value) (a : Addr) (cls : Value) (d : Option Addr) (cv : Value) (m : Str → Option Bool) : List V → Hp → VK → Prop := fun xs H Q => ∃ (c : V) (F : Hp) (nm : Str) (b : Bool) (C dd : Addr) (vs : List (Str × V)), xs = [.ref a, c] ∧ (∀ u, RelV c u → u = cv) ∧ cls = .ref C ∧ d = some dd ∧ mg nm = some (.ref C) ∧ H dd = some (.xd vs) ∧ m nm = some b ∧ Q (.bl b) H
theorem call_isX {oe : Obj} {pn : List (Addr × Obj)} {cv : Value} {m : Str → Option Bool} (T : IsaD X.K X.mg cv m) (hz : Zc cls d oe) (hf : ∃ vs, oe.data = .fields vs) :
    CallR (X.suite a ((a, oe) :: pn)) (.builtin "isinstance") (rIsX X.K X.mg a cls d cv m) := by
  intro pins s σ H xs us Q I r h
  obtain ⟨c, F, nm, b, C, dd, vs, rfl, hcv, rfl, rfl, hm, hdd, hb, q⟩ := h
  cases r with
  | cons rx rr =>
    cases rr with
    | cons rt rr =>
      cases rr
      cases rx
      have ec := hcv _ rt
      subst ec
      obtain ⟨C', hm', E, hc, ek⟩ := T.ex nm b hb
      rw [hm] at hm'; cases hm'
      obtain ⟨hget, _⟩ := I.pin (a, oe) (List.mem_append.mpr (.inl List.mem_cons_self))
      obtain ⟨vs', hv⟩ := hf
      have hx : ObjOk X.prog X.w H s.heap dd (.xd vs) := I.hok dd _ hdd
      obtain ⟨mA, hns, hr⟩ := hx
      obtain ⟨od, ho, hl⟩ := lookIn_ns hns
      have J : PySem.W.InstAt s.heap a oe C (some od) := ⟨hget, hz.1, by unfold PySem.W.notCls; rw [hv] <;> rfl, by rw [hz.2]; exact ho⟩
      exact PySem.W.kia_one (PySem.W.kitx_exc hc E.hg E.hk E.hs E.ha E.hn E.ht E.hm) I.kIn J ek (fun z => nomatch z) fun tk => ⟨.bl b, H, I.kept (t' := tk) fun _ _ z => z, rfl, q⟩
theorem pxe_isa {n x2 : Str} {C2 : Addr} {oe : Obj} {pn : List (Addr × Obj)} {p p1 p2 pos : Pos} {m : Str → Option Bool} (T : IsaD X.K X.mg (.ref C2) m) (hm2 : X.mg x2 = some (.ref C2)) (hg2 : Gl X x2) (hm : X.mg "isinstance" = none) (hg : Gl X "isinstance") (hz : Zc cls d oe) (hf : ∃ vs, oe.data = .fields vs) (hN : X.N[i]? = some n) (hv : Vis X.env.scope n)
    (hs : starEach [.Name n p1, .Name x2 p2] X.env = (false, eval (.Name n p1) X.env) :: starEach [.Name x2 p2] X.env := by rfl) (hs2 : starEach [.Name x2 p2] X.env = (false, eval (.Name x2 p2) X.env) :: starEach [] X.env := by rfl) (hpl : (backTo pos (starEach [.Name x2 p2] X.env)).any (·.1) = false := by rfl)
    (hdb : (n == ("__debug__" : Str)) = false := by decide) (hcd : (n == ("__classdict__" : Str)) = false := by decide) (hdb2 : (x2 == ("__debug__" : Str)) = false := by decide) :
    PXe (X.suite a ((a, oe) :: pn)) a cls d i (.Call (.Name "isinstance" p) [.Name n p1, .Name x2 p2] [] pos) (gIsa m) := by
  have pa : PA (X.suite a ((a, oe) :: pn)) [.Name n p1, .Name x2 p2] (tCons (tVar i) (tCons (tC (.ref C2)) tNil)) := pa_cons (pe_var hN hv hdb hcd) (pa_cons (pe_glob (X := X.suite a ((a, oe) :: pn)) hg2 hm2 rfl hdb2) pa_nil hs2) hs
  refine ⟨_, pe_callB (call_isX T hz hf) hg hm PyProof.Rows.Boot.isinstance pa (by decide) (by decide) hs hpl, ?_⟩
  intro P F H σ ρ Q c fs o st ex hgg k
  obtain ⟨h1, C', dd, e1, e2, mm, vs, hfd, r⟩ := ex
  unfold gIsa at hgg
  cases q : m c with
  | none => rw [q] at hgg; cases hgg
  | some b =>
    rw [q] at hgg; cases hgg
    exact ⟨.ref a, h1, .ref C2, F, c, b, C', dd, vs, rfl, fun u hu => hu, e1, e2, mm, st.sub.non hfd id, q, k F H _ (SubH.refl F) st (OutOk.val mk_bool)⟩
def gAnd (g h : GX) : GX := fun c fs => match g c fs with
  | some (.val (.bool true)) => h c fs
  | some (.val (.bool false)) => some (.val (.bool false))
  | _ => none
theorem pxe_one {op : BoolOp} {e : Expr} {g : GX} {pos : Pos} (h : PXe X a cls d i e g) : PXe X a cls d i (.BoolOp op [e] pos) g := by
  obtain ⟨t, p, q⟩ := h.ex
  exact ⟨_, pe_one p, q⟩
theorem pxe_and {e e2 : Expr} {rest : List Expr} {g h : GX} {pos : Pos} (h1 : PXe X a cls d i e g) (h2 : PXe X a cls d i (.BoolOp .And (e2 :: rest) pos) h) : PXe X a cls d i (.BoolOp .And (e :: e2 :: rest) pos) (gAnd g h) := by
  obtain ⟨t, p, q⟩ := h1.ex
  obtain ⟨u, p2, q2⟩ := h2.ex
  refine ⟨_, pe_and p p2, ?_⟩
  intro P F H σ ρ Q c fs o st ex hg k
  unfold gAnd at hg
  split at hg
  · rename_i e1
    refine q P F H σ ρ _ c fs _ st ex e1 fun F1 H1 v sb st1 x => ⟨true, rep_bool x.rep, ?_⟩
    exact q2 P F1 H1 σ ρ _ c fs _ st1 (ex.le sb) hg (Kont.le sb k)
  · rename_i e1
    cases hg
    exact q P F H σ ρ _ c fs _ st ex e1 fun F1 H1 v sb st1 x => ⟨false, rep_bool x.rep, k F1 H1 _ sb st1 (OutOk.val mk_bool)⟩
  · cases hg
def gIf (g h1 h2 : GX) : GX := fun c fs => match g c fs with
  | some (.val (.bool b)) => if b = true then h1 c fs else h2 c fs
  | _ => none
theorem pxe_if {e e1 e2 : Expr} {g h1 h2 : GX} {pos : Pos} (h : PXe X a cls d i e g) (ha : PXe X a cls d i e1 h1) (hb : PXe X a cls d i e2 h2) (he : ∀ whole, isTrue e X.env whole = (do let v ← whole; standAt e.pos; holding [v] (truthy v)) := by intro _; rfl) : PXe X a cls d i (.IfExp e e1 e2 pos) (gIf g h1 h2) := by
  obtain ⟨t, p, q⟩ := h.ex
  obtain ⟨t1, p1, q1⟩ := ha.ex
  obtain ⟨t2, p2, q2⟩ := hb.ex
  refine ⟨_, pe_ifExp (pt_truth p he) p1 p2, ?_⟩
  intro P F H σ ρ Q c fs o st ex hg k
  unfold gIf at hg
  split at hg
  · rename_i b eb
    refine q P F H σ ρ _ c fs _ st ex eb fun F1 H1 v sb st1 x => ⟨b, by rw [rep_bool x.rep]; exact rfl, ?_⟩
    cases b with
    | true => exact q1 P F1 H1 σ ρ _ c fs _ st1 (ex.le sb) hg (Kont.le sb k)
    | false => exact q2 P F1 H1 σ ρ _ c fs _ st1 (ex.le sb) hg (Kont.le sb k)
  · cases hg
end

/-! ### the statement -/
structure Hd where
  m : Str → Option Bool
  s : Str → List (Str × D) → Env → SR
def handleD : List Hd → Str → List (Str × D) → Env → SR
  | [], c, fs, ρ => .exc c fs ρ
  | h :: hs, c, fs, ρ => match h.m c with
    | some true => h.s c fs ρ
    | some false => handleD hs c fs ρ
    | none => .bad
def sTry (hs : List Hd) (body : SX) : SX := fun ρ => match body ρ with
  | .exc c fs ρ1 => handleD hs c fs ρ1
  | r => r
def hdNo (m : Str → Option Bool) (f : SX) : Hd := ⟨m, fun _ _ ρ => match f ρ with
  | .exc _ _ _ => .bad
  | r => r⟩
def hdAs (m : Str → Option Bool) (i : Nat) (g : GX) : Hd := ⟨m, fun c fs ρ => match setSl i .emp ρ with
  | some ρ' => (match g c fs with | some o => .ret o ρ' | none => .bad)
  | none => .bad⟩
structure MatchD (K : PySem.W.Frag) (mg : Str → Option Value) (cv : Value) (m : Str → Option Bool) : Prop where
  ok : ∀ (c : Str) (b : Bool), m c = some b → ∀ C : Addr, mg c = some (.ref C) → PySem.W.exmOne K (.ref C) cv = some b
inductive HdsD (X : Cx) : List ExceptHandler → List Hd → Prop
  | nil : HdsD X [] []
  | no {x : Str} {cv : Value} {m : Str → Option Bool} {f : SX} {b₀ : Stmt} {suite : List Stmt} {np pos' : Pos} {hds : List ExceptHandler} {l : List Hd} (hc : Names X x cv) (hm : MatchD X.K X.mg cv m)
      (hsu : ∀ (a : Addr) (oe : Obj) (cls : Value) (d : Option Addr) (pn : List (Addr × Obj)), Zc cls d oe → (∃ vs, oe.data = .fields vs) → PSsD (X.suite a ((a, oe) :: pn)) WF (b₀ :: suite) f) (r : HdsD X hds l) :
      HdsD X (.ExceptHandler (some (.Name x np)) none (b₀ :: suite) pos' :: hds) (hdNo m f :: l)
  | as {x n : Str} {i : Nat} {cv : Value} {m : Str → Option Bool} {e : Expr} {g : GX} {np p2 pos' : Pos} {hds : List ExceptHandler} {l : List Hd} (hN : X.N.Nodup) (hi : X.N[i]? = some n) (hln : X.env.kindOf n = some .local) (hc : Names X x cv) (hm : MatchD X.K X.mg cv m)
      (hsu : ∀ (a : Addr) (oe : Obj) (cls : Value) (d : Option Addr) (pn : List (Addr × Obj)), Zc cls d oe → (∃ vs, oe.data = .fields vs) → PXe (X.suite a ((a, oe) :: pn)) a cls d i e g) (r : HdsD X hds l) :
      HdsD X (.ExceptHandler (some (.Name x np)) (some n) [.Return (some e) p2] pos' :: hds) (hdAs m i g :: l)
def tsD (K : PySem.W.Frag) (mg : Str → Option Value) (W : WX) (f : SX) : TS := fun D σ H => ∃ P F ρ, Stt K mg P F H σ ρ ∧ PostS K mg W P F (f ρ) D
theorem PSsD.toPSs {X : Cx} {W : WX} {l : List Stmt} {f : SX} (p : PSsD X W l f) : PSs X l (tsD X.K X.mg W f) := by
  obtain ⟨t, ps, ds⟩ := p.ex
  exact ⟨fun pins s σ H D I ⟨P, F, ρ, st, h⟩ => ps.run pins s σ H D I (ds P F H σ ρ D st h)⟩
def txD (K : PySem.W.Frag) (mg : Str → Option Value) (i : Nat) (g : GX) (a : Addr) (cls : Value) (d : Option Addr) : TS := fun D σ H => ∃ P F ρ c fs o, Stt K mg P F H σ ρ ∧ ExAt K mg F σ a cls d i c fs ∧ g c fs = some o ∧
  Kont K mg P F σ ρ o D.rt
theorem hds_ok {X : Cx} {hds : List ExceptHandler} {hs : List Hd} (h : HdsD X hds hs) : ∃ l, HdsA X hds l ∧ ∀ (Wout : WX) (En : Ends) (P : Prot) (F H : Hp) (σ : SS) (ρ : Env) (c : Str) (fs : List (Str × D)) (C dd : Addr), Stt X.K X.mg P F H σ ρ → ExcOk X.K X.mg F C dd c fs →
    PostS X.K X.mg Wout P F (handleD hs c fs ρ) En → wManyA X.K Wout En l (.ref C) (some dd) σ H := by
  induction h with
  | nil => exact ⟨[], .nil, fun Wout D P F H σ ρ c fs C dd st ex h => h F H σ C dd (SubH.refl F) st ex⟩
  | @no x cv m f b₀ suite np pos' hds l hc hm hsu r ih =>
    obtain ⟨l', hl, ih⟩ := ih
    refine ⟨_, .no (ts := fun _ _ _ => tsD X.K X.mg WF f) hc (fun a oe cls d pn hz hf => (hsu a oe cls d pn hz hf).toPSs) hl, fun Wout D P F H σ ρ c fs C dd st ex h => ?_⟩
    simp only [handleD, hdNo] at h
    cases e : m c with
    | none => simp only [e] at h; exact h.elim
    | some b =>
      refine ⟨b, hm.ok c b e C ex.1, fun eb a na => ?_, fun eb => ?_⟩
      · subst eb
        simp only [e] at h
        refine ⟨P, F, ρ, st, ?_⟩
        cases w : f ρ with
        | bad => simp only [w] at h; exact h
        | nx ρ' => simp only [w] at h; exact h
        | ret o ρ' => simp only [w] at h; exact h
        | brk ρ' => simp only [w] at h; exact h
        | ct ρ' => simp only [w] at h; exact h
        | exc c' fs' ρ' => simp only [w] at h; exact h.elim
      · subst eb
        simp only [e] at h
        exact ih Wout D P F H σ ρ c fs C dd st ex h
  | @as x n i cv m e g np p2 pos' hds l hN hi hln hc hm hsu r ih =>
    obtain ⟨l', hl, ih⟩ := ih
    refine ⟨_, .as (ts := txD X.K X.mg i g) hN hi hln hc (fun a oe cls d pn hz hf => ?_) hl, fun Wout D P F H σ ρ c fs C dd st ex h => ?_⟩
    · obtain ⟨t, pe, dx⟩ := (hsu a oe cls d pn hz hf).ex
      exact ⟨fun pins s σ H D I ⟨P, F, ρ, c, fs, o, st, ex, hg, k⟩ => (pss_one (ps_ret (pos := p2) pe)).run pins s σ H D I (dx P F H σ ρ _ c fs o st ex hg k)⟩
    · simp only [handleD, hdAs] at h
      cases e : m c with
      | none => simp only [e] at h; exact h.elim
      | some b =>
        refine ⟨b, hm.ok c b e C ex.1, fun eb a na => ?_, fun eb => ?_⟩
        · subst eb
          simp only [e] at h
          cases e1 : setSl i .emp ρ with
          | none => simp only [e1] at h; exact h.elim
          | some ρ' =>
            simp only [e1] at h
            cases e2 : g c fs with
            | none => simp only [e2] at h; exact h.elim
            | some o =>
              simp only [e2] at h
              have st' : Stt X.K X.mg P F H (σ.set i (some (.ref a))) ρ' := st.store (s := .emp) rfl trivial (fun z => by cases z) e1
              refine ⟨P, F, ρ', c, fs, o, st', ⟨?_, C, dd, rfl, rfl, ex⟩, e2, fun F' H' v sb st2 x => h F' H' _ v sb st2 x⟩
              have hi' : i < σ.length := by
                rw [st.len]
                unfold setSl at e1
                rcases Nat.lt_or_ge i ρ.length with z | z
                · exact z
                · rw [List.getElem?_eq_none z] at e1; cases e1
              exact List.getElem?_set_self hi'
        · subst eb
          simp only [e] at h
          exact ih Wout D P F H σ ρ c fs C dd st ex h
theorem psd_try {X : Cx} {Wout : WX} {body : List Stmt} {h₀ : ExceptHandler} {hds : List ExceptHandler} {hs : List Hd} {fb : SX} {pos : Pos} (tk : Takes X Wout)
    (hb : ∀ (W : WX) (pn : List (Addr × Obj)) (xe : Value → Shared → Prop), Takes (X.tr pn xe) W → PassesOwn (model X.prog X.w) X.A X.env xe → PSsD (X.tr pn xe) W body fb)
    (hh : HdsD X (h₀ :: hds) hs) (hst : X.stack = X.env :: X.outer := by rfl) (hf : X.env.frame = some X.env.locals := by rfl) : PSD X Wout (.Try body (h₀ :: hds) [] [] pos) (sTry hs fb) := by
  obtain ⟨l, ha, hl⟩ := hds_ok hh
  refine ⟨_, ps_try_manyA (tb := fun W => tsD X.K X.mg W fb) hst hf tk (fun W pn xe t p => (hb W pn xe t p).toPSs) ha, ?_⟩
  intro P F H σ ρ D st hp
  refine ⟨P, F, ρ, st, ?_⟩
  unfold sTry at hp
  cases e : fb ρ with
  | bad => simp only [e] at hp; exact hp
  | nx ρ' => simp only [e] at hp; exact hp
  | ret o ρ' => simp only [e] at hp; exact hp
  | brk ρ' => simp only [e] at hp; exact hp
  | ct ρ' => simp only [e] at hp; exact hp
  | exc c fs ρ' =>
    simp only [e] at hp
    intro F1 H1 σ1 C dd sb st1 ex
    exact hl Wout D P F1 H1 σ1 ρ' c fs C dd st1 ex (PostS.le sb hp)
end Dk

set_option Elab.async false
set_option linter.all false
set_option maxRecDepth 100000
set_option maxHeartbeats 4000000
/-! Dk12: built-ins by data -/
namespace Dk
open PySem PySem.Spec L2 PyProof.Rows

/-! ### types -/
def tyD : D → String
  | .none => "NoneType"
  | .bool _ => "bool"
  | .int _ => "int"
  | .str _ => "str"
  | .list _ => "list"
  | .tuple _ => "tuple"
  | .dict _ => "dict"
  | .dictT _ => "dict"
  | .tag _ d => tyD d
inductive Ty where
  | bool | int | str | list | tuple | dict
def Ty.nm : Ty → String
  | .bool => "bool"
  | .int => "int"
  | .str => "str"
  | .list => "list"
  | .tuple => "tuple"
  | .dict => "dict"
/-- d is an instance of T (d without a tag) -/
def isT : Ty → D → Bool
  | .bool, .bool _ => true
  | .int, .bool _ => true
  | .int, .int _ => true
  | .str, .str _ => true
  | .list, .list _ => true
  | .tuple, .tuple _ => true
  | .dict, .dict _ => true
  | .dict, .dictT _ => true
  | _, _ => false
def isTs (ts : List Ty) (d : D) : Bool := ts.any fun t => isT t d
theorem kit6 (T : Ty) (d : D) (h : ∀ a e, d ≠ .tag a e) : kitB (tyD d) T.nm = some (isT T d) := by
  cases d with
  | tag a e => exact absurd rfl (h a e)
  | none => cases T <;> decide +kernel
  | bool b =>
    rw [show isT T (.bool b) = isT T (.bool true) from by cases T <;> rfl]
    cases T <;> (show kitB "bool" _ = some _) <;> decide +kernel
  | int b =>
    rw [show isT T (.int b) = isT T (.int 0) from by cases T <;> rfl]
    cases T <;> (show kitB "int" _ = some _) <;> decide +kernel
  | str b =>
    rw [show isT T (.str b) = isT T (.str ⟨#[]⟩) from by cases T <;> rfl]
    cases T <;> (show kitB "str" _ = some _) <;> decide +kernel
  | list b =>
    rw [show isT T (.list b) = isT T (.list []) from by cases T <;> rfl]
    cases T <;> (show kitB "list" _ = some _) <;> decide +kernel
  | tuple b =>
    rw [show isT T (.tuple b) = isT T (.tuple []) from by cases T <;> rfl]
    cases T <;> (show kitB "tuple" _ = some _) <;> decide +kernel
  | dict b =>
    rw [show isT T (.dict b) = isT T (.dict []) from by cases T <;> rfl]
    cases T <;> (show kitB "dict" _ = some _) <;> decide +kernel
  | dictT b =>
    rw [show isT T (.dictT b) = isT T (.dict []) from by cases T <;> rfl]
    cases T <;> (show kitB "dict" _ = some _) <;> decide +kernel
theorem un_ne_tag : ∀ (d : D) (a : Addr) (e : D), d.un ≠ .tag a e
  | .tag _ d, a, e => un_ne_tag d a e
  | .none, _, _ => by intro h; cases h
  | .bool _, _, _ => by intro h; cases h
  | .int _, _, _ => by intro h; cases h
  | .str _, _, _ => by intro h; cases h
  | .list _, _, _ => by intro h; cases h
  | .tuple _, _, _ => by intro h; cases h
  | .dict _, _, _ => by intro h; cases h
  | .dictT _, _, _ => by intro h; cases h
section
variable {K : PySem.W.Frag} {mg : Str → Option Value} {W : WX} {P : Prot} {F H : Hp} {σ : SS} {ρ : Env}
theorem sqL_ty {a : Addr} {xs : List V} (s : SqL K H a xs) : TyX K H (.ref a) (.type "list") := by
  rcases s with (s | ⟨o, s⟩) | ⟨o, its, n, h1, h2, _⟩
  · exact .base (.lst s)
  · exact .base (.frz s)
  · exact .kList h1 h2
theorem sqT_ty {a : Addr} {xs : List V} (s : SqT K H a xs) : TyX K H (.ref a) (.type "tuple") := by
  rcases s with (s | ⟨o, s⟩) | ⟨o, its, n, h1, h2, _⟩
  · exact .base (.tup s)
  · exact .fTuple s
  · exact .kTuple h1 h2
theorem rep_ty (sb : SubH F H) {d : D} {v : V} (h : ∀ a e, d ≠ .tag a e) (r : Rep K F d v) : TyX K H v (.type (tyD d)) := by
  cases d with
  | tag a e => exact absurd rfl (h a e)
  | none => rw [rep_none r]; exact .base .non
  | bool b => rw [rep_bool r]; exact .base (.bl b)
  | int b => rw [rep_int r]; exact .base (.int b)
  | str b => rw [rep_str r]; exact .base (.str b)
  | list b => obtain ⟨a, vs, rfl, s, _⟩ := rep_list r; exact sqL_ty (SqL.le sb.rd s)
  | tuple b => obtain ⟨a, vs, rfl, s, _⟩ := rep_tup r; exact sqT_ty (SqT.le sb.rd s)
  | dict b =>
    unfold Rep at r
    obtain ⟨a, ks, rfl, r, _⟩ := r
    rcases sb.rd.rdl _ _ r with r | ⟨ob, r⟩
    · exact .base (.dK r)
    · exact .fDict r
  | dictT b =>
    unfold Rep at r
    obtain ⟨a, ks, rfl, r, _⟩ := r
    exact .base (.dT (sb.non r id))
def eIsi (ts : List Ty) (f : EX) : EX := fun ρ => (f ρ).bindV fun d ρ1 => .ok (.val (.bool (isTs ts d.un))) ρ1
theorem boot6 (T : Ty) : bootBuiltins (Str.ofString T.nm) = some (.type T.nm) := by
  cases T
  · exact PyProof.Rows.Boot.bool
  · exact PyProof.Rows.Boot.int
  · exact PyProof.Rows.Boot.str
  · exact PyProof.Rows.Boot.list
  · exact PyProof.Rows.Boot.tuple
  · exact PyProof.Rows.Boot.dict
theorem nm_ok (T : Ty) : (Str.ofString T.nm) ≠ "__name__" ∧ ((Str.ofString T.nm) == ("__debug__" : Str)) = false := by cases T <;> exact ⟨by decide, by decide⟩
end
section
variable {X : Cx} {W : WX} {e : Expr} {p p1 p2 p3 pos : Pos} {f : EX}
theorem pd_isi1 (T : Ty) (he : PD X W e f) (hm : X.mg "isinstance" = none) (hmT : X.mg (Str.ofString T.nm) = none) (hg : Gl X "isinstance" := by rfl) (hgT : Gl X (Str.ofString T.nm) := by rfl)
    (hs : starEach [e, .Name (Str.ofString T.nm) p1] X.env = (false, eval e X.env) :: starEach [.Name (Str.ofString T.nm) p1] X.env := by rfl) (hs2 : starEach [.Name (Str.ofString T.nm) p1] X.env = (false, eval (.Name (Str.ofString T.nm) p1) X.env) :: starEach [] X.env := by rfl)
    (hpl : (backTo pos (starEach [.Name (Str.ofString T.nm) p1] X.env)).any (·.1) = false := by rfl) : PD X W (.Call (.Name "isinstance" p) [e, .Name (Str.ofString T.nm) p1] [] pos) (eIsi [T] f) := by
  obtain ⟨te, pe, de⟩ := he.ex
  obtain ⟨n1, n2⟩ := nm_ok T
  refine ⟨_, pe_callB call_isi hg hm PyProof.Rows.Boot.isinstance (pa_cons pe (pa_cons (pe_bltn (v := .ty T.nm) hgT hmT (boot6 T) rfl n1 n2) pa_nil hs2) hs) (by decide) (by decide) hs hpl, ?_⟩
  intro P F H σ ρ Q st hp
  refine de.bindV st hp fun F1 H1 d ρ1 v sb st1 r h1 => ?_
  have nt := un_ne_tag d
  exact ⟨v, .ty T.nm, _, _, _, rfl, .ty T.nm, rep_ty st1.sub nt r.un, kit_ty (kit6 T _ nt), h1 F1 H1 _ (SubH.refl _) st1 (OutOk.val (by simp only [isTs, List.any_cons, List.any_nil, Bool.or_false]; exact mk_bool))⟩
theorem kitAny2 {K : PySem.W.Frag} (T S : Ty) (d : D) (h : ∀ a e, d ≠ .tag a e) : PySem.W.kitAny K (.type (tyD d)) [.type T.nm, .type S.nm] = some (isTs [T, S] d) := by
  refine kitAny_cons (kit_ty (kit6 T d h)) (fun e => ?_) fun e => by simp [isTs, e]
  refine kitAny_cons (kit_ty (kit6 S d h)) (fun e2 => ?_) fun e2 => by simp [isTs, e2]
  rw [kitAny_nil]
  simp [isTs, e, e2]
/-- isinstance(e, (T, S)) -/
theorem pd_isi2 {n : Nat} (T S : Ty) (he : PD X W e f) (hm : X.mg "isinstance" = none) (hmT : X.mg (Str.ofString T.nm) = none) (hmS : X.mg (Str.ofString S.nm) = none) (hg : Gl X "isinstance" := by rfl) (hgT : Gl X (Str.ofString T.nm) := by rfl) (hgS : Gl X (Str.ofString S.nm) := by rfl)
    (hs : starEach [e, .Tuple [.Name (Str.ofString T.nm) p1, .Name (Str.ofString S.nm) p2] n p3] X.env = (false, eval e X.env) :: starEach [.Tuple [.Name (Str.ofString T.nm) p1, .Name (Str.ofString S.nm) p2] n p3] X.env := by rfl)
    (hs2 : starEach [.Tuple [.Name (Str.ofString T.nm) p1, .Name (Str.ofString S.nm) p2] n p3] X.env = (false, eval (.Tuple [.Name (Str.ofString T.nm) p1, .Name (Str.ofString S.nm) p2] n p3) X.env) :: starEach [] X.env := by rfl)
    (hs3 : starEach [.Name (Str.ofString T.nm) p1, .Name (Str.ofString S.nm) p2] X.env = (false, eval (.Name (Str.ofString T.nm) p1) X.env) :: starEach [.Name (Str.ofString S.nm) p2] X.env := by rfl)
    (hs4 : starEach [.Name (Str.ofString S.nm) p2] X.env = (false, eval (.Name (Str.ofString S.nm) p2) X.env) :: starEach [] X.env := by rfl)
    (hpl : (backTo pos (starEach [.Tuple [.Name (Str.ofString T.nm) p1, .Name (Str.ofString S.nm) p2] n p3] X.env)).any (·.1) = false := by rfl) :
    PD X W (.Call (.Name "isinstance" p) [e, .Tuple [.Name (Str.ofString T.nm) p1, .Name (Str.ofString S.nm) p2] n p3] [] pos) (eIsi [T, S] f) := by
  obtain ⟨te, pe, de⟩ := he.ex
  obtain ⟨n1, n2⟩ := nm_ok T
  obtain ⟨n3, n4⟩ := nm_ok S
  have pt := pe_tup (x1 := n) (pos := p3) (pa_cons (pe_bltn (pos := p1) (v := .ty T.nm) hgT hmT (boot6 T) rfl n1 n2) (pa_cons (pe_bltn (pos := p2) (v := .ty S.nm) hgS hmS (boot6 S) rfl n3 n4) pa_nil hs4) hs3)
  refine ⟨_, pe_callB call_isiT hg hm PyProof.Rows.Boot.isinstance (pa_cons pe (pa_cons pt pa_nil hs2) hs) (by decide) (by decide) hs hpl, ?_⟩
  intro P F H σ ρ Q st hp
  refine de.bindV st hp fun F1 H1 d ρ1 v sb st1 r h1 => ?_
  have nt := un_ne_tag d
  refine ⟨by show 2 ≤ sizeLine; decide, fun q nq => ?_⟩
  have st2 : Stt X.K X.mg P F1 (upd H1 q (.tup [.ty T.nm, .ty S.nm])) σ ρ1 := st1.alloc nq
  exact ⟨v, q, _, _, _, _, rfl, upd_same, .cons (.ty T.nm) (.cons (.ty S.nm) .nil), rep_ty st2.sub nt r.un, kitAny2 T S _ nt, h1 F1 _ _ (SubH.refl _) st2 (OutOk.val mk_bool)⟩
end

/-! ### len, int, abs, sum, all, list, tuple, min, max -/
def lenD : List D → Option Sl
  | [.list ds] => some (.val (.int ds.length))
  | [.tuple ds] => some (.val (.int ds.length))
  | [.str x] => if x.length ≤ sizeLine then some (.val (.int x.length)) else none
  | [.dict kvs] => some (.val (.int kvs.length))
  | [.dictT kvs] => some (.val (.int kvs.length))
  | _ => none
theorem RepK.length {K : PySem.W.Frag} {F : Hp} : ∀ {kvs : List (D × D)} {ks : List (Key × V)}, RepK K F kvs ks → ks.length = kvs.length
  | [], _, r => by unfold RepK at r; subst r; rfl
  | (k, d) :: kvs, _, r => by
    unfold RepK at r
    obtain ⟨kk, v, ws, rfl, _, _, r2⟩ := r
    simp [RepK.length r2]
theorem RepT.length {K : PySem.W.Frag} {F : Hp} : ∀ {kvs : List (D × D)} {ks : List (List Key × V)}, RepT K F kvs ks → ks.length = kvs.length
  | [], _, r => by unfold RepT at r; subst r; rfl
  | (k, d) :: kvs, _, r => by
    unfold RepT at r
    obtain ⟨kk, v, ws, rfl, _, _, r2⟩ := r
    simp [RepT.length r2]
section
variable {X : Cx}
theorem clen : CallR X (.builtin "len") (rOfN X.K X.mg lenD) := by
  intro pins s σ H xs us Q I rv h
  obtain ⟨P, F, σ', ρ, ds, o, st, rs, hg, k⟩ := h
  unfold lenD at hg
  split at hg
  · cases hg
    obtain ⟨v, rfl, r⟩ := rs.one
    obtain ⟨a, vs, rfl, s1, l1⟩ := rep_list r
    exact call_len pins s σ H _ us Q I rv ⟨_, _, rfl, .inl ⟨vs, SqL.le st.sub.rd s1, rfl⟩, by rw [l1.length]; exact k.here st mk_int⟩
  · cases hg
    obtain ⟨v, rfl, r⟩ := rs.one
    obtain ⟨a, vs, rfl, s1, l1⟩ := rep_tup r
    exact call_len pins s σ H _ us Q I rv ⟨_, _, rfl, .inr ⟨vs, SqT.le st.sub.rd s1, rfl⟩, by rw [l1.length]; exact k.here st mk_int⟩
  · split at hg
    · rename_i hz
      cases hg
      obtain ⟨v, rfl, r⟩ := rs.one
      rw [rep_str r] at rv
      exact call_len pins s σ H _ us Q I rv ⟨_, _, rfl, ⟨hz, rfl⟩, k.here st mk_int⟩
    · cases hg
  · cases hg
    obtain ⟨v, rfl, r⟩ := rs.one
    unfold Rep at r
    obtain ⟨a, ks, rfl, r1, r2⟩ := r
    obtain ⟨u, rfl, ru⟩ := vals1 rv
    cases ru
    rw [← r2.length] at k
    exact d_len I (st.sub.rd.rdl _ _ r1) fun t s' I' => ⟨.int ks.length, H, I', ⟨t, rfl⟩, k.here st mk_int⟩
  · cases hg
    obtain ⟨v, rfl, r⟩ := rs.one
    unfold Rep at r
    obtain ⟨a, ks, rfl, r1, r2⟩ := r
    rw [← r2.length] at k
    exact call_len_dT pins s σ H _ us Q I rv ⟨a, ks, rfl, st.sub.non r1 id, k.here st mk_int⟩
  · cases hg
/-- one int, and the like -/
def intD : List D → Option Sl
  | [.int i] => some (.val (.int i))
  | [.bool b] => some (.val (.int (if b then 1 else 0)))
  | _ => none
theorem cint : CallR X (.type "int") (rOfN X.K X.mg intD) := by
  intro pins s σ H xs us Q I rv h
  obtain ⟨P, F, σ', ρ, ds, o, st, rs, hg, k⟩ := h
  unfold intD at hg
  split at hg
  · cases hg
    obtain ⟨v, rfl, r⟩ := rs.one
    rw [rep_int r] at rv
    exact call_int1 pins s σ H _ us Q I rv (.inl ⟨_, rfl, k.here st mk_int⟩)
  · cases hg
    obtain ⟨v, rfl, r⟩ := rs.one
    rw [rep_bool r] at rv
    exact call_int1 pins s σ H _ us Q I rv (.inr ⟨_, rfl, k.here st mk_int⟩)
  · cases hg
def absD : List D → Option Sl
  | [.int i] => some (.val (.int (if i < 0 then -i else i)))
  | _ => none
theorem cabs : CallR X (.builtin "abs") (rOfN X.K X.mg absD) := by
  intro pins s σ H xs us Q I rv h
  obtain ⟨P, F, σ', ρ, ds, o, st, rs, hg, k⟩ := h
  unfold absD at hg
  split at hg
  · cases hg
    obtain ⟨v, rfl, r⟩ := rs.one
    rw [rep_int r] at rv
    exact call_abs pins s σ H _ us Q I rv ⟨_, rfl, k.here st mk_int⟩
  · cases hg
def max2D : List D → Option Sl
  | [.int i, .int j] => some (.val (.int (if j > i then j else i)))
  | _ => none
def min2D : List D → Option Sl
  | [.int i, .int j] => some (.val (.int (if j < i then j else i)))
  | _ => none
theorem cmax2 (hc : X.calm = true) : CallR X (.builtin "max") (rOfN X.K X.mg max2D) := by
  intro pins s σ H xs us Q I rv h
  obtain ⟨P, F, σ', ρ, ds, o, st, rs, hg, k⟩ := h
  unfold max2D at hg
  split at hg
  · cases hg
    obtain ⟨v, u, rfl, r, r2⟩ := rs.two
    rw [rep_int r, rep_int r2] at rv
    exact call_max2 hc pins s σ H _ us Q I rv ⟨_, _, rfl, k.here st mk_int⟩
  · cases hg
theorem cmin2 (hc : X.calm = true) : CallR X (.builtin "min") (rOfN X.K X.mg min2D) := by
  intro pins s σ H xs us Q I rv h
  obtain ⟨P, F, σ', ρ, ds, o, st, rs, hg, k⟩ := h
  unfold min2D at hg
  split at hg
  · cases hg
    obtain ⟨v, u, rfl, r, r2⟩ := rs.two
    rw [rep_int r, rep_int r2] at rv
    exact call_min2 hc pins s σ H _ us Q I rv ⟨_, _, rfl, k.here st mk_int⟩
  · cases hg
def listD : List D → Option Sl
  | [.list ds] => some (.own (.lst ds))
  | [.tuple ds] => some (.own (.lst ds))
  | _ => none
theorem clist : CallR X (.type "list") (rOfN X.K X.mg listD) := by
  intro pins s σ H xs us Q I rv h
  obtain ⟨P, F, σ', ρ, ds, o, st, rs, hg, k⟩ := h
  unfold listD at hg
  split at hg
  · cases hg
    obtain ⟨v, rfl, r⟩ := rs.one
    obtain ⟨a, vs, rfl, s1, l1⟩ := rep_list r
    exact call_list_of pins s σ H _ us Q I rv ⟨a, vs, rfl, .inl (SqL.le st.sub.rd s1), k.newL st l1⟩
  · cases hg
    obtain ⟨v, rfl, r⟩ := rs.one
    obtain ⟨a, vs, rfl, s1, l1⟩ := rep_tup r
    exact call_list_of pins s σ H _ us Q I rv ⟨a, vs, rfl, .inr (SqT.le st.sub.rd s1), k.newL st l1⟩
  · cases hg
def tupleD : List D → Option Sl
  | [.list ds] => some (.val (.tuple ds))
  | [.tuple ds] => some (.val (.tuple ds))
  | _ => none
theorem ctuple : CallR X (.type "tuple") (rOfN X.K X.mg tupleD) := by
  intro pins s σ H xs us Q I rv h
  obtain ⟨P, F, σ', ρ, ds, o, st, rs, hg, k⟩ := h
  unfold tupleD at hg
  split at hg
  · cases hg
    obtain ⟨v, rfl, r⟩ := rs.one
    obtain ⟨a, vs, rfl, s1, l1⟩ := rep_list r
    exact call_tuple_of pins s σ H _ us Q I rv ⟨a, vs, rfl, .inl ⟨SqL.le st.sub.rd s1, k.newT st l1⟩⟩
  · cases hg
    obtain ⟨v, rfl, r⟩ := rs.one
    obtain ⟨a, vs, rfl, s1, l1⟩ := rep_tup r
    exact call_tuple_of pins s σ H _ us Q I rv ⟨a, vs, rfl, .inr ⟨SqT.le st.sub.rd s1, k.here st (mk_tup s1 l1)⟩⟩
  · cases hg
/-! all, any of lists of bools; sum of lists of ints -/
def boolsOf : List D → Option (List Bool)
  | [] => some []
  | .bool b :: ds => (boolsOf ds).map (b :: ·)
  | _ => none
def intsOf : List D → Option (List Int)
  | [] => some []
  | .int b :: ds => (intsOf ds).map (b :: ·)
  | _ => none
def allD : List D → Option Sl
  | [.list ds] => (boolsOf ds).map fun bs => .val (.bool (bs.all id))
  | _ => none
def anyD : List D → Option Sl
  | [.list ds] => (boolsOf ds).map fun bs => .val (.bool (bs.any id))
  | _ => none
def sumD : List D → Option Sl
  | [.list ds] => (intsOf ds).map fun bs => .val (.int bs.sum)
  | [.tuple ds] => (intsOf ds).map fun bs => .val (.int bs.sum)
  | _ => none
theorem boolsOf_vals {F : Hp} : ∀ {ds : List D} {bs : List Bool} {vs : List V}, boolsOf ds = some bs → RepL X.K F ds vs → vs = bs.map V.bl
  | [], bs, vs, h, r => by cases h; rw [r.zero]; rfl
  | .bool b :: ds, bs, vs, h, r => by
    simp only [boolsOf] at h
    cases e : boolsOf ds with
    | none => rw [e] at h; cases h
    | some cs =>
      rw [e] at h; cases h
      unfold RepL at r
      obtain ⟨v, ws, rfl, r1, r2⟩ := r
      rw [rep_bool r1, boolsOf_vals e r2]; rfl
  | .none :: ds, bs, vs, h, r => by cases h
  | .int _ :: ds, bs, vs, h, r => by cases h
  | .str _ :: ds, bs, vs, h, r => by cases h
  | .list _ :: ds, bs, vs, h, r => by cases h
  | .tuple _ :: ds, bs, vs, h, r => by cases h
  | .dict _ :: ds, bs, vs, h, r => by cases h
  | .dictT _ :: ds, bs, vs, h, r => by cases h
  | .tag _ _ :: ds, bs, vs, h, r => by cases h
theorem intsOf_vals {F : Hp} : ∀ {ds : List D} {bs : List Int} {vs : List V}, intsOf ds = some bs → RepL X.K F ds vs → vs = bs.map V.int
  | [], bs, vs, h, r => by cases h; rw [r.zero]; rfl
  | .int b :: ds, bs, vs, h, r => by
    simp only [intsOf] at h
    cases e : intsOf ds with
    | none => rw [e] at h; cases h
    | some cs =>
      rw [e] at h; cases h
      unfold RepL at r
      obtain ⟨v, ws, rfl, r1, r2⟩ := r
      rw [rep_int r1, intsOf_vals e r2]; rfl
  | .none :: ds, bs, vs, h, r => by cases h
  | .bool _ :: ds, bs, vs, h, r => by cases h
  | .str _ :: ds, bs, vs, h, r => by cases h
  | .list _ :: ds, bs, vs, h, r => by cases h
  | .tuple _ :: ds, bs, vs, h, r => by cases h
  | .dict _ :: ds, bs, vs, h, r => by cases h
  | .dictT _ :: ds, bs, vs, h, r => by cases h
  | .tag _ _ :: ds, bs, vs, h, r => by cases h
theorem bools_reads {h : Heap} : ∀ {bs : List Bool} {its : List Value}, Vals (bs.map V.bl) its → ∃ as, ReadsAll h its (bs.map PyData.bool) as
  | [], its, r => by cases r; exact ⟨_, .nil⟩
  | b :: bs, its, r => by
    cases r with
    | cons r1 r2 =>
      cases r1
      obtain ⟨as, q⟩ := bools_reads (h := h) r2
      exact ⟨_, .cons (.bool b) q⟩
theorem ints_are : ∀ {bs : List Int} {its : List Value}, Vals (bs.map V.int) its → IntsAre its bs
  | [], its, r => by cases r; exact .nil
  | b :: bs, its, r => by
    cases r with
    | cons r1 r2 =>
      obtain ⟨t, rfl⟩ := r1
      exact .cons b t (ints_are r2)
theorem bools_plain : ∀ bs : List Bool, PyData.plainAll (bs.map PyData.bool) = true
  | [] => rfl
  | b :: bs => by simp [PyData.plainAll, PyData.plain, bools_plain bs]
theorem truthy_bools (bs : List Bool) : (bs.map PyData.bool).all PyData.truthy = bs.all id ∧ (bs.map PyData.bool).any PyData.truthy = bs.any id := by
  constructor
  · rw [List.all_map]; rfl
  · rw [List.any_map]; rfl
theorem call_all_ (hc : X.calm = true) : CallR X (.builtin "all") (rOfN X.K X.mg allD) := by
  intro pins s σ H xs us Q I rv h
  obtain ⟨P, F, σ', ρ, ds, o, st, rs, hg, k⟩ := h
  unfold allD at hg
  split at hg
  · rename_i es
    cases e : boolsOf es with
    | none => rw [e] at hg; cases hg
    | some bs =>
      rw [e] at hg; cases hg
      obtain ⟨v, rfl, r⟩ := rs.one
      obtain ⟨a, vs, rfl, s1, l1⟩ := rep_list r
      have ev := boolsOf_vals e l1
      subst ev
      obtain ⟨u, rfl, ru⟩ := vals1 rv
      cases ru
      obtain ⟨its, r', pl, hz⟩ := I.list (SqL.le st.sub.rd s1)
      obtain ⟨as, rd⟩ := bools_reads (h := s.heap) r'
      refine PySem.W.all_list_data (I.ok.hd hc) pl.isList rd (bools_plain bs) (fun x hx => ?_) fun h' tk kp => ?_
      · obtain ⟨b, _, rfl⟩ := List.mem_map.mp hx; trivial
      · rw [(truthy_bools bs).1]
        exact ⟨.bl _, H, I.kept (t' := tk) kp, rfl, k.here st mk_bool⟩
  · cases hg
theorem call_any_ (hc : X.calm = true) : CallR X (.builtin "any") (rOfN X.K X.mg anyD) := by
  intro pins s σ H xs us Q I rv h
  obtain ⟨P, F, σ', ρ, ds, o, st, rs, hg, k⟩ := h
  unfold anyD at hg
  split at hg
  · rename_i es
    cases e : boolsOf es with
    | none => rw [e] at hg; cases hg
    | some bs =>
      rw [e] at hg; cases hg
      obtain ⟨v, rfl, r⟩ := rs.one
      obtain ⟨a, vs, rfl, s1, l1⟩ := rep_list r
      have ev := boolsOf_vals e l1
      subst ev
      obtain ⟨u, rfl, ru⟩ := vals1 rv
      cases ru
      obtain ⟨its, r', pl, hz⟩ := I.list (SqL.le st.sub.rd s1)
      obtain ⟨as, rd⟩ := bools_reads (h := s.heap) r'
      refine PySem.W.any_list_data (I.ok.hd hc) pl.isList rd (bools_plain bs) (fun x hx => ?_) fun h' tk kp => ?_
      · obtain ⟨b, _, rfl⟩ := List.mem_map.mp hx; trivial
      · rw [(truthy_bools bs).2]
        exact ⟨.bl _, H, I.kept (t' := tk) kp, rfl, k.here st mk_bool⟩
  · cases hg
theorem csum (hc : X.calm = true) : CallR X (.builtin "sum") (rOfN X.K X.mg sumD) := by
  intro pins s σ H xs us Q I rv h
  obtain ⟨P, F, σ', ρ, ds, o, st, rs, hg, k⟩ := h
  unfold sumD at hg
  split at hg
  · rename_i es
    cases e : intsOf es with
    | none => rw [e] at hg; cases hg
    | some bs =>
      rw [e] at hg; cases hg
      obtain ⟨v, rfl, r⟩ := rs.one
      obtain ⟨a, vs, rfl, s1, l1⟩ := rep_list r
      have ev := intsOf_vals e l1
      subst ev
      obtain ⟨u, rfl, ru⟩ := vals1 rv
      cases ru
      obtain ⟨its, r', pl, hz⟩ := I.list (SqL.le st.sub.rd s1)
      have hi := ints_are r'
      obtain ⟨ys, hx⟩ := hi.allInts.items
      have hl' := pl.isList
      rw [hx] at hl'
      refine sum_intListG (I.ok.hd hc) hl' fun h' tk t' kp => ?_
      have e1 : bs = ys.toList.map (·.1) := by
        rw [← nums_intItems, ← hx]
        exact (show numsOf its.toArray.toList = bs from hi.numsOf).symm
      have e2 : preSum (numAt ys) ys.size = bs.sum := by
        rw [preSum_eq, List.take_of_length_le (by simp), e1]
      rw [e2]
      exact ⟨.int _, H, I.kept (t' := tk) kp, ⟨_, rfl⟩, k.here st mk_int⟩
  · rename_i es
    cases e : intsOf es with
    | none => rw [e] at hg; cases hg
    | some bs =>
      rw [e] at hg; cases hg
      obtain ⟨v, rfl, r⟩ := rs.one
      obtain ⟨a, vs, rfl, s1, l1⟩ := rep_tup r
      have ev := intsOf_vals e l1
      subst ev
      obtain ⟨u, rfl, ru⟩ := vals1 rv
      cases ru
      obtain ⟨its, r', pl, hz⟩ := I.tuple (SqT.le st.sub.rd s1)
      have hi := ints_are r'
      obtain ⟨ys, hx⟩ := hi.allInts.items
      have hl' : s.heap.IsTuple a its.toArray := pl
      rw [hx] at hl'
      refine PySem.W.ktm_sumG (I.ok.hd hc) hl' fun h' tk t' kp => ?_
      have e1 : bs = ys.toList.map (·.1) := by
        rw [← nums_intItems, ← hx]
        exact (show numsOf its.toArray.toList = bs from hi.numsOf).symm
      have e2 : preSum (numAt ys) ys.size = bs.sum := by
        rw [preSum_eq, List.take_of_length_le (by simp), e1]
      rw [e2]
      exact ⟨.int _, H, I.kept (t' := tk) kp, ⟨_, rfl⟩, k.here st mk_int⟩
  · cases hg
end
end Dk

set_option Elab.async false
set_option linter.all false
set_option maxRecDepth 100000
set_option maxHeartbeats 4000000
/-! Dk13: global data; index; items; dict displays -/
namespace Dk
open PySem PySem.Spec L2 PyProof.Rows

/-! ### data that stand in the written part -/
mutual
def chkV (K : PySem.W.Frag) : D → Value → Bool
  | .none, u => match u with | .none => true | _ => false
  | .bool b, u => match u with | .bool c => b == c | _ => false
  | .int i, u => match u with | .int j _ => i == j | _ => false
  | .str x, u => match u with | .str y _ => x == y | _ => false
  | .tuple ds, u => match u with
    | .ref a => match K.lookup a with
      | some ⟨cls, _, .seq its _, _⟩ => cls == .type "tuple" && (decide (its.size ≤ sizeLine) && chkL K ds its.toList)
      | _ => false
    | _ => false
  | .list ds, u => match u with
    | .ref a => match K.lookup a with
      | some ⟨cls, none, .seq its _, _⟩ => cls == .type "list" && (decide (its.size ≤ sizeLine) && chkL K ds its.toList)
      | _ => false
    | _ => false
  | .dict _, _ => false
  | .dictT _, _ => false
  | .tag _ _, _ => false
def chkL (K : PySem.W.Frag) : List D → List Value → Bool
  | [], us => us.isEmpty
  | d :: ds, us => match us with
    | [] => false
    | u :: us => chkV K d u && chkL K ds us
end
mutual
theorem chkV_ok {K : PySem.W.Frag} : ∀ (d : D) (u : Value), chkV K d u = true → ∃ v, RelV v u ∧ ∀ F, Rep K F d v
  | .none, u, h => by
    unfold chkV at h
    cases u <;> first | (cases h; done) | exact ⟨.non, rfl, fun F => mk_none⟩
  | .bool b, u, h => by
    unfold chkV at h
    cases u <;> first | (cases h; done) | exact ⟨.bl b, by rw [eq_of_beq h]; rfl, fun F => mk_bool⟩
  | .int b, u, h => by
    unfold chkV at h
    cases u <;> first | (cases h; done) | exact ⟨.int b, by rw [eq_of_beq h]; exact ⟨_, rfl⟩, fun F => mk_int⟩
  | .str b, u, h => by
    unfold chkV at h
    cases u <;> first | (cases h; done) | exact ⟨.str b, by rw [eq_of_beq h]; exact ⟨_, rfl⟩, fun F => mk_str⟩
  | .tuple ds, u, h => by
    unfold chkV at h
    cases u with
    | ref a =>
      simp only at h
      split at h
      · rename_i cls dd its n sl e
        simp only [Bool.and_eq_true, decide_eq_true_eq] at h
        obtain ⟨vs, r, q⟩ := chkL_ok ds its.toList h.2.2
        exact ⟨.ref a, rfl, fun F => mk_tup (.inr ⟨_, its, n, e, eq_of_beq h.1, rfl, h.2.1, r⟩) (q F)⟩
      · cases h
    | _ => cases h
  | .list ds, u, h => by
    unfold chkV at h
    cases u with
    | ref a =>
      simp only at h
      split at h
      · rename_i cls its n sl e
        simp only [Bool.and_eq_true, decide_eq_true_eq] at h
        obtain ⟨vs, r, q⟩ := chkL_ok ds its.toList h.2.2
        exact ⟨.ref a, rfl, fun F => mk_list (.inr ⟨_, its, n, e, eq_of_beq h.1, rfl, rfl, h.2.1, r⟩) (q F)⟩
      · cases h
    | _ => cases h
  | .dict _, u, h => by unfold chkV at h; cases h
  | .dictT _, u, h => by unfold chkV at h; cases h
  | .tag _ _, u, h => by unfold chkV at h; cases h
theorem chkL_ok {K : PySem.W.Frag} : ∀ (ds : List D) (us : List Value), chkL K ds us = true → ∃ vs, Vals vs us ∧ ∀ F, RepL K F ds vs
  | [], us, h => by
    unfold chkL at h
    have : us = [] := by simpa using h
    subst this
    exact ⟨[], .nil, fun F => RepL.nil⟩
  | d :: ds, us, h => by
    unfold chkL at h
    cases us with
    | nil => cases h
    | cons u us =>
      simp only [Bool.and_eq_true] at h
      obtain ⟨v, r, q⟩ := chkV_ok d u h.1
      obtain ⟨vs, r2, q2⟩ := chkL_ok ds us h.2
      exact ⟨v :: vs, .cons r r2, fun F => RepL.cons (q F) (q2 F)⟩
end
/-- the global x is the datum d -/
structure GloD (K : PySem.W.Frag) (mg : Str → Option Value) (x : Str) (d : D) : Prop where
  ex : ∃ (v : V) (u : Value), mg x = some u ∧ RelV v u ∧ ∀ F, Rep K F d v
theorem gloD_of {K : PySem.W.Frag} {mg : Str → Option Value} {x : Str} {d : D} {u : Value} (hm : mg x = some u) (h : chkV K d u = true) : GloD K mg x d := by
  obtain ⟨v, r, q⟩ := chkV_ok d u h
  exact ⟨v, u, hm, r, q⟩
section
variable {X : Cx} {W : WX} {x : Str} {d : D} {pos : Pos}
theorem pd_glob (G : GloD X.K X.mg x d) (hg : Gl X x := by rfl) (hd : (x == ("__debug__" : Str)) = false := by decide) : PD X W (.Name x pos) (eC d) := by
  obtain ⟨v, u, hm, r, q⟩ := G.ex
  exact ⟨_, pe_glob hg hm r hd, de_c q⟩
/-- a def of the text, as a value -/
theorem pd_fn {f : Addr} (hm : X.mg x = some (.ref f)) (hg : Gl X x := by rfl) (hd : (x == ("__debug__" : Str)) = false := by decide) : PD X W (.Name x pos) (fun ρ => .ok (.fn x) ρ) := by
  exact ⟨_, pe_glob (v := .ref f) hg hm rfl hd, fun P F H σ ρ Q st h => h F H (.ref f) (SubH.refl F) st ⟨⟨f, rfl, hm⟩, (by intro z; cases z), rfl, (fun z => by cases z)⟩⟩
end

/-! ### index -/
theorem find_split {α : Type} {p : α → Bool} : ∀ {xs : List α} {j : Nat}, xs.findIdx? p = some j → ∃ z, xs[j]? = some z ∧ p z = true ∧ ∀ m z', m < j → xs[m]? = some z' → p z' = false := fun {xs j} h => by
  rw [List.findIdx?_eq_some_iff_getElem] at h
  obtain ⟨hj, h1, h2⟩ := h
  refine ⟨xs[j], List.getElem?_eq_getElem hj, h1, fun m z' hm e => ?_⟩
  obtain ⟨hm', rfl⟩ := List.getElem?_eq_some_iff.mp e
  simpa using h2 m hm
/-- l.index(x), of data without dicts -/
def indexD (ds : List D) (d : D) : Option Sl := if SeqAt.shaped d.toP = true ∧ SeqAt.shaped (.list (D.toPL ds)) = true then ((D.toPL ds).findIdx? fun z => PyData.eqv z d.toP).map fun j => .val (.int (j : Nat)) else none
def eIdx (fa fb : EX) : EX := fun ρ => (fa ρ).bindV fun d ρ1 => match d.un with
  | .list ds => (fb ρ1).bindV fun e ρ2 => (match indexD ds e with | some o => .ok o ρ2 | none => .bad)
  | _ => .bad
/-- T.index(x), T a global tuple -/
def eIdxT (ds : List D) (fb : EX) : EX := fun ρ => (fb ρ).bindV fun e ρ2 => match indexD ds e with
  | some o => .ok o ρ2
  | none => .bad
section
variable {X : Cx} {W : WX} {a b : Expr} {p apos cpos : Pos} {fa fb : EX}
theorem pd_idx (hu : X.A.units + 65 < cLine) (ha : PD X W a fa) (hb : PD X W b fb)
    (hbase : attributeBase a "index" X.env (eval a X.env) = eval a X.env := by rfl)
    (hfew : ((backTo cpos (starEach [b] X.env)).all (fun x => !x.1) && (backToKw cpos (keywordEach [] X.env)).all (fun x => x.1.isSome)
      && decide ([b].length + ([] : List Keyword).length + (if ([] : List Keyword).isEmpty then 0 else 1) < 30)) = true := by rfl)
    (hline : (apos.endLine == cpos.line) = true := by rfl) (hs : starEach [b] X.env = (false, eval b X.env) :: starEach [] X.env := by rfl) (hplain : (backTo cpos (starEach [] X.env)).any (·.1) = false := by rfl) :
    PD X W (.Call (.Attribute a "index" apos) [b] [] cpos) (eIdx fa fb) := by
  obtain ⟨ta, pa, da⟩ := ha.ex
  obtain ⟨tb, pb, db⟩ := hb.ex
  refine ⟨_, pe_bm PySem.F.plainAttrs_list PySem.F.slot_list_index PySem.F.type_list_index (mt_indexD hu) pa (pa_cons pb pa_nil hs) hbase hfew hline hs hplain, ?_⟩
  intro P F H σ ρ Q st h
  refine da.bindV st h fun F1 H1 d ρ1 v sb st1 r1 h1 => ?_
  have r1u := r1.un
  cases hd : d.un with
  | list ds =>
    rw [hd] at r1u
    simp only [hd] at h1
    obtain ⟨a0, vs, rfl, s1, l1⟩ := rep_list r1u
    refine ⟨.inl ⟨rfl, vs, SqL.le st1.sub.rd s1⟩, ?_⟩
    refine db.bindV st1 h1 fun F2 H2 e ρ2 u sb2 st2 r2 h2 => ?_
    cases z : indexD ds e with
    | none => simp only [z] at h2; exact h2.elim
    | some o =>
      simp only [z] at h2
      unfold indexD at z
      split at z
      · rename_i hc
        cases z2 : (D.toPL ds).findIdx? fun z => PyData.eqv z e.toP with
        | none => rw [z2] at z; cases z
        | some j =>
          rw [z2] at z; cases z
          obtain ⟨y, hy, hye, hno⟩ := find_split z2
          refine ⟨a0, u, e.toP, D.toPL ds, j, y, rfl, rfl, ?_, Rep.dp st2.sub e u (SeqAt.canLay_of_shaped hc.1) r2, hc.2, hc.1, hy, hye, hno, h2 F2 H2 _ (SubH.refl _) st2 (OutOk.val mk_int)⟩
          exact Rep.dp st2.sub (.list ds) _ (SeqAt.canLay_of_shaped hc.2) (mk_list (SqL.le sb2.rd s1) (RepL.le sb2.rd _ _ l1))
      · cases z
  | none => simp only [hd] at h1; exact h1.elim
  | bool i => simp only [hd] at h1; exact h1.elim
  | int i => simp only [hd] at h1; exact h1.elim
  | str i => simp only [hd] at h1; exact h1.elim
  | tuple i => simp only [hd] at h1; exact h1.elim
  | dict i => simp only [hd] at h1; exact h1.elim
  | dictT i => simp only [hd] at h1; exact h1.elim
  | tag _ i => simp only [hd] at h1; exact h1.elim
/-- the written tuple T, and what its index rules ask -/
structure GTup (K : PySem.W.Frag) (mg : Str → Option Value) (x : Str) (ds : List D) : Prop where
  ex : ∃ (T : Addr) (o : Obj) (vs : List V), mg x = some (.ref T) ∧ K.lookup T = some o ∧ o.cls = .type "tuple" ∧ o.dict = none ∧ SqT K (fun _ => none) T vs ∧ ∀ F, RepL K F ds vs
theorem gtup_of {K : PySem.W.Frag} {mg : Str → Option Value} {x : Str} {ds : List D} {T : Addr} {its : Array Value} {n : Nat} {sl : Array (Option Value)} (hm : mg x = some (.ref T)) (hk : K.lookup T = some ⟨.type "tuple", none, .seq its n, sl⟩) (hz : its.size ≤ sizeLine) (h : chkL K ds its.toList = true) : GTup K mg x ds := by
  obtain ⟨vs, r, q⟩ := chkL_ok ds its.toList h
  exact ⟨T, _, vs, hm, hk, rfl, rfl, .inr ⟨_, its, n, hk, rfl, rfl, hz, r⟩, q⟩
theorem GTup.glo {K : PySem.W.Frag} {mg : Str → Option Value} {x : Str} {ds : List D} (G : GTup K mg x ds) : GloD K mg x (.tuple ds) := by
  obtain ⟨T, o, vs, hm, hk, hc, hd, hs, hr⟩ := G.ex
  refine ⟨.ref T, .ref T, hm, rfl, fun F => mk_tup ?_ (hr F)⟩
  rcases hs with (h | ⟨_, h⟩) | h
  · cases h
  · cases h
  · exact .inr h
theorem mt_tupIndexD (hu : X.A.units + 65 < cLine) : MtR X "tuple.index" (fun x xs H Q => ∃ (a : Addr) (y : V) (d : PyData) (ds : List PyData) (j : Nat), x = V.ref a ∧ xs = [y] ∧ Dp X.K H (V.ref a) (.tuple ds) ∧ Dp X.K H y d ∧
  SeqAt.shaped (.list ds) = true ∧ SeqAt.shaped d = true ∧ ds.findIdx? (fun z => PyData.eqv z d) = some j ∧ Q (.int (j : Nat)) H) := by
  intro pins s σ H x xs v us Q I rx rxs h
  obtain ⟨a, y, d, ds, j, rfl, rfl, hl, hy, sl, sd, hj, q⟩ := h
  cases rx
  cases rxs with
  | cons ry rt =>
    rename_i uy ut
    cases rt
    obtain ⟨bs, r1⟩ := Dp.reads I d y uy hy ry
    have hxs : PyData.canLayAll0 ds = true := SeqAt.canLay_of_shaped sl
    have hroom : X.A.units + 1 + min (PyData.depthAll ds) d.depth < cLine := room_in_shaped sd hu
    cases hl with
    | tup hs ha =>
      obtain ⟨its, rv, pl, hlen⟩ := I.tuple hs
      obtain ⟨as, h4⟩ := Dp.readsAll I ds _ its ha rv
      have hn : its.length = ds.length := SeqAt.ReadsAll.length ds its as h4
      have hmap : its.map (SeqAt.readOf s.heap) = ds := SeqAt.readsAll_map ds its as hxs h4
      have heq := SeqAt.items_eqAt (A := X.A) (vs := its.toArray) (show ReadsAll s.heap its.toArray.toList ds as from h4) r1 hxs (SeqAt.canLay_of_shaped sd) hroom
      have hIE : SeqAt.ItemsEq X.A.in1 s its (ds.map fun z => PyData.eqv z d) uy true := by
        refine ⟨by simp [hn], fun i h1 h2 => ?_⟩
        have e := heq its[i] (by simp)
        have e2 : SeqAt.readOf s.heap its[i] = ds[i]'(by omega) := by
          have : (its.map (SeqAt.readOf s.heap))[i]? = ds[i]? := by rw [hmap]
          rw [List.getElem?_map, List.getElem?_eq_getElem h1, List.getElem?_eq_getElem (by omega)] at this
          exact Option.some.inj this
        rw [e2] at e
        have e3 : decide ((ds.map fun z => PyData.eqv z d)[i] = true) = PyData.eqv (ds[i]'(by omega)) d := by simp
        rw [e3]; exact e
      have hidx : (ds.map fun z => PyData.eqv z d).idxOf true = j := by
        rw [List.findIdx?_eq_some_iff_getElem] at hj
        obtain ⟨hj0, hj1, hj2⟩ := hj
        have : (ds.map fun z => PyData.eqv z d).findIdx (· == true) = j := by
          rw [List.findIdx_eq (by simpa using hj0)]
          refine ⟨by simpa using hj1, fun m hm => ?_⟩
          have := hj2 m hm
          simpa using this
        exact this
      have hmem : true ∈ ds.map fun z => PyData.eqv z d := by
        rw [List.findIdx?_eq_some_iff_getElem] at hj
        obtain ⟨hj0, hj1, _⟩ := hj
        exact List.mem_map.mpr ⟨ds[j], List.getElem_mem hj0, hj1⟩
      refine SeqAt.call_tuple_index pl hIE hmem ?_
      rw [hidx]
      exact ⟨.int (j : Nat), H, I.tok _, ⟨_, rfl⟩, q⟩
theorem pd_idxT {x : Str} {ds : List D} (G : GTup X.K X.mg x ds) (hu : X.A.units + 65 < cLine) (hb : PD X W b fb) (hg : Gl X x := by rfl) (hdb : (x == ("__debug__" : Str)) = false := by decide)
    (hbase : attributeBase (.Name x p) "index" X.env (eval (.Name x p) X.env) = eval (.Name x p) X.env := by rfl)
    (hfew : ((backTo cpos (starEach [b] X.env)).all (fun x => !x.1) && (backToKw cpos (keywordEach [] X.env)).all (fun x => x.1.isSome)
      && decide ([b].length + ([] : List Keyword).length + (if ([] : List Keyword).isEmpty then 0 else 1) < 30)) = true := by rfl)
    (hline : (apos.endLine == cpos.line) = true := by rfl) (hs : starEach [b] X.env = (false, eval b X.env) :: starEach [] X.env := by rfl) (hplain : (backTo cpos (starEach [] X.env)).any (·.1) = false := by rfl) :
    PD X W (.Call (.Attribute (.Name x p) "index" apos) [b] [] cpos) (eIdxT ds fb) := by
  obtain ⟨T, ob, vs, hm, hk, hc, hd, hs', hr⟩ := G.ex
  obtain ⟨tb, pb, db⟩ := hb.ex
  have hK : SqT X.K (fun _ => none) T vs := hs'
  have hsq : ∀ H : Hp, SqT X.K H T vs := fun H => by
    rcases hK with (h | ⟨_, h⟩) | h
    · cases h
    · cases h
    · exact .inr h
  refine ⟨_, pe_bm PySem.F.plainAttrs_tuple PySem.F.slot_tuple_index PySem.F.type_tuple_index (mt_tupIndexD hu) (pe_glob (v := .ref T) hg hm rfl hdb) (pa_cons pb pa_nil hs) hbase hfew hline hs hplain, ?_⟩
  intro P F H σ ρ Q st h
  refine ⟨.inr (.inl ⟨rfl, ob, hk, hc, hd⟩), ?_⟩
  refine db.bindV st h fun F2 H2 e ρ2 u sb2 st2 r2 h2 => ?_
  cases z : indexD ds e with
  | none => simp only [z] at h2; exact h2.elim
  | some o =>
    simp only [z] at h2
    unfold indexD at z
    split at z
    · rename_i hc
      cases z2 : (D.toPL ds).findIdx? fun z => PyData.eqv z e.toP with
      | none => rw [z2] at z; cases z
      | some j =>
        rw [z2] at z; cases z
        refine ⟨T, u, e.toP, D.toPL ds, j, rfl, rfl, ?_, Rep.dp st2.sub e u (SeqAt.canLay_of_shaped hc.1) r2, hc.2, hc.1, z2, h2 F2 H2 _ (SubH.refl _) st2 (OutOk.val mk_int)⟩
        exact Rep.dp st2.sub (.tuple ds) _ (by simpa only [D.toP, PyData.canLay0] using SeqAt.canLay_of_shaped hc.2) (mk_tup (hsq F2) (hr F2))
    · cases z
end

/-! ### list(d.items()), dicts of constants -/
def itemsD (kvs : List (D × D)) : List D := kvs.map fun p => .tuple [p.1, p.2]
/-- a key that is no tuple -/
def plainKey : D → Bool
  | .int _ => true
  | .str _ => true
  | _ => false
def eItems (f : EX) : EX := fun ρ => (f ρ).bindV fun d ρ1 => match d.un with
  | .dict kvs => .ok (.own (.lst (itemsD kvs))) ρ1
  | _ => .bad
theorem rep_key {K : PySem.W.Frag} {F : Hp} (k : Key) : Rep K F (keyD k) (kV k) := by
  cases k with
  | inl i => exact mk_int
  | inr x => exact mk_str
open Classical in
noncomputable def addF (F H : Hp) (ts : List Addr) : Hp := fun b => if b ∈ ts then H b else F b
section
variable {K : PySem.W.Frag} {mg : Str → Option Value} {P : Prot} {F H H' : Hp} {σ : SS} {ρ : Env} {ts : List Addr}
theorem addF_sub (st : Stt K mg P F H σ ρ) (hk : ∀ b o, H b = some o → H' b = some o) (hn : ∀ t ∈ ts, H t = none) : SubH F (addF F H' ts) ∧ Stt K mg P (addF F H' ts) H' σ ρ := by
  have nt : ∀ {b : Addr} {o : HO}, H b = some o → b ∉ ts := fun {b o} e m => by rw [hn b m] at e; cases e
  have sb : SubH F (addF F H' ts) := fun b o e => by
    obtain ⟨u, hu⟩ := st.sub.there e
    unfold addF
    rw [if_neg (nt hu)]; exact .inl e
  refine ⟨sb, st.grow sb (fun b o e => ?_) (fun b o e => ?_) fun i a w => ?_⟩
  · unfold addF at e
    split at e
    · exact .inl e
    · rcases st.sub b o e with g | ⟨g1, ob, g2⟩
      · exact .inl (hk b o g)
      · exact .inr ⟨g1, ob, hk b _ g2⟩
  · obtain ⟨h1, h2⟩ := st.keep b o e
    refine ⟨hk b o h1, ?_⟩
    unfold addF
    rw [if_neg (nt h1)]; exact h2
  · obtain ⟨h1, h2, u, h3⟩ := st.owned w
    refine ⟨?_, (hk a u h3).trans h3.symm⟩
    unfold addF
    rw [if_neg (nt h3)]; exact h1
theorem items_rep {F' : Hp} (sb : SubH F F') : ∀ {kvs : List (D × D)} {ks : List (Key × V)} {ts : List Addr}, RepK K F kvs ks → Paired (fun (t : Addr) (q : Key × V) => F' t = some (.tup [kV q.1, q.2])) ts ks → RepL K F' (itemsD kvs) (ts.map V.ref)
  | [], _, _, r, p => by
    unfold RepK at r; subst r; cases p
    exact RepL.nil
  | (k, d) :: kvs, _, _, r, p => by
    unfold RepK at r
    obtain ⟨kk, v, ws, rfl, rfl, r1, r2⟩ := r
    cases p with
    | cons h t =>
      refine RepL.cons (mk_tup (.inl (.inl h)) (RepL.cons (rep_key kk) (RepL.cons (Rep.le sb.rd d v r1) RepL.nil))) (items_rep sb r2 t)
end
section
variable {X : Cx} {W : WX} {e : Expr} {p apos cpos pos : Pos} {f : EX}
def rItemsR : V → Hp → VK → Prop := fun x H Q => ∃ (d : Addr) (kvs : List (Key × V)), x = .ref d ∧ Rd H d (.dK kvs) ∧
  ∀ (H' : Hp) (p : Addr) (ts : List Addr), (∀ b o, H b = some o → H' b = some o) → H p = none → (∀ t ∈ ts, H t = none) → p ∉ ts → H' p = some (.lst (ts.map V.ref)) → Paired (fun (t : Addr) (q : Key × V) => H' t = some (.tup [kV q.1, q.2])) ts kvs → Q (.ref p) H'
def tItemsR (te : TE) : TE := fun σ H Q => te σ H fun x H1 => rItemsR x H1 Q
/-- the pairs of a dict as a new list, also of one that is held still -/
theorem pe_itemsR {te : TE} (hc : X.calm = true) (he : PE X e te) (hg : Gl X "list") (hm : X.mg "list" = none) (hv : bootBuiltins "list" = some (.type "list")) (hbase : attributeBase e "items" X.env (eval e X.env) = eval e X.env) (hline : (apos.endLine == cpos.line) = true)
    (hs : starEach [.Call (.Attribute e "items" apos) [] [] cpos] X.env = (false, eval (.Call (.Attribute e "items" apos) [] [] cpos) X.env) :: starEach [] X.env) :
    PE X (.Call (.Name "list" p) [.Call (.Attribute e "items" apos) [] [] cpos] [] pos) (tItemsR te) := by
  refine ⟨fun pins s σ H Q I hq => wpAny_Call_Name_kw (ld_blt I hg hm hv (PyProof.Rows.callWith_type1 ?_ hs rfl))⟩
  rw [hs]
  show wpAny _ _ (spliced ((false, eval (.Call (.Attribute e "items" apos) [] [] cpos) X.env) :: backTo pos (starEach [] X.env))) _ _ s
  refine Calls.spliced_cons (wpAny_Call_method (T := "dict") (id := "dict.items") hbase rfl hline F.plainAttrs_dict F.slot_dict_items F.type_dict_items (thn (he.run pins s σ H _ I hq) fun u t ⟨x, G, J, rx, d, kvs, ex, hd, q⟩ => ?_))
  subst ex
  obtain rfl : u = Value.ref d := rx
  obtain ⟨z1, z2, vs, kv, ob⟩ := dk_rd J.hok hd
  obtain ⟨ep, at_⟩ := ob.dictAt
  have hl : kvs.length = vs.length := Paired.length kv
  have J2 : Inv X pins σ G { t with heap := t.heap.push { cls := .type "dict_items", data := .fields #[.ref d] } } := J.kept (t' := t.toks) fun b o q => Heap.get?_push_of_some _ q
  refine ⟨ob.typeIs, ob.mapOf.noDict, ?_⟩
  show wpAny _ _ (callWith cpos (.builtin "dict.items") [.ref d] [] []) _ X.xe t
  refine method_meetsIn F.slot_dict_items F.entry_dict_items rfl (PySem.evalArgs_none ⟨rfl, ob.typeIs, F.args_dict_items_1 _, _, meets_dict_items (mixKind X.prog X.w) d z2, ⟨vs, ob⟩, Calls.spliced_nil ?_⟩)
  refine PySem.W.kdx_call (knd := mixKind X.prog X.w) (kvs := vs) (ep := ep) (J.ok.hd hc) ⟨_, Heap.get?_push_size _ rfl, rfl, rfl⟩ (at_.push _) (by omega) fun h' tk acc c as hk hS hl hG hacc => ?_
  obtain ⟨H', k1, k2, k3, k4, k5, k6, J3⟩ := LiI.items_laid (tk := tk) J2 z1 kv hk hS hl hG hacc
  exact ⟨.ref _, H', J3, rfl, q H' _ as k1 k2 k3 k4 k5 k6⟩
theorem pd_items (he : PD X W e f) (hm : X.mg "list" = none) (hc : X.calm = true := by rfl) (hg : Gl X "list" := by rfl) (hbase : attributeBase e "items" X.env (eval e X.env) = eval e X.env := by rfl) (hline : (apos.endLine == cpos.line) = true := by rfl)
    (hs : starEach [.Call (.Attribute e "items" apos) [] [] cpos] X.env = (false, eval (.Call (.Attribute e "items" apos) [] [] cpos) X.env) :: starEach [] X.env := by rfl) :
    PD X W (.Call (.Name "list" p) [.Call (.Attribute e "items" apos) [] [] cpos] [] pos) (eItems f) := by
  obtain ⟨te, pe, de⟩ := he.ex
  refine ⟨_, pe_itemsR hc pe hg hm PyProof.Rows.Boot.list hbase hline hs, ?_⟩
  intro P F H σ ρ Q st hp
  refine de.bindV st hp fun F1 H1 d ρ1 v sb st1 r h1 => ?_
  have ru := r.un
  cases hd : d.un with
  | dict kvs =>
    simp only [hd] at h1
    rw [hd] at ru
    unfold Rep at ru
    obtain ⟨a, ks, rfl, r1, r2⟩ := ru
    refine ⟨a, ks, rfl, st1.sub.rd.rdl _ _ r1, fun H' q ts hK hq hts hqt hl hp => ?_⟩
    obtain ⟨sb2, st2⟩ := addF_sub st1 hK hts
    have hF : ∀ t ∈ ts, addF F1 H' ts t = H' t := fun t ht => by unfold addF; rw [if_pos ht]
    have hp2 : Paired (fun (t : Addr) (q : Key × V) => addF F1 H' ts t = some (.tup [kV q.1, q.2])) ts ks := by
      have : ∀ {ts' : List Addr} {ks' : List (Key × V)}, (∀ t ∈ ts', t ∈ ts) → Paired (fun (t : Addr) (q : Key × V) => H' t = some (.tup [kV q.1, q.2])) ts' ks' → Paired (fun (t : Addr) (q : Key × V) => addF F1 H' ts t = some (.tup [kV q.1, q.2])) ts' ks' := by
        intro ts' ks' hm p
        induction p with
        | nil => exact .nil
        | cons h t ih => exact .cons (by rw [hF _ (hm _ List.mem_cons_self)]; exact h) (ih fun t ht => hm t (List.mem_cons_of_mem _ ht))
      exact this (fun _ h => h) hp
    have rl := items_rep sb2 r2 hp2
    obtain ⟨fr1, fr2, fr3⟩ := st1.fresh hq
    refine h1 _ H' _ sb2 st2 ⟨⟨q, rfl, ?_, fr2, _, hl, rl⟩, (by intro z; cases z), rfl, fun _ i b eb w => ?_⟩
    · unfold addF; rw [if_neg hqt]; exact fr1
    · cases eb; exact fr3 i w
  | none => simp only [hd] at h1; exact h1.elim
  | bool i => simp only [hd] at h1; exact h1.elim
  | int i => simp only [hd] at h1; exact h1.elim
  | str i => simp only [hd] at h1; exact h1.elim
  | list i => simp only [hd] at h1; exact h1.elim
  | tuple i => simp only [hd] at h1; exact h1.elim
  | dictT i => simp only [hd] at h1; exact h1.elim
  | tag _ i => simp only [hd] at h1; exact h1.elim
/-! displays of constants -/
theorem pd_dct0 : PD X W (.Dict [] [] pos) (fun ρ => .ok (.own (.dct [])) ρ) := ⟨_, pe_dnewK, fun P F H σ ρ Q st h p n => by
  obtain ⟨h1, h2, h3⟩ := st.fresh n
  exact h F _ _ (SubH.refl F) (st.alloc n) ⟨⟨p, rfl, h1, h2, ⟨[], upd_same, by unfold RepK; rfl⟩⟩, (by intro z; cases z), rfl, fun _ i a e w => by cases e; exact h3 i w⟩⟩
theorem pd_dct0T : PD X W (.Dict [] [] pos) (fun ρ => .ok (.own (.dcT [])) ρ) := ⟨_, pe_dnewT, fun P F H σ ρ Q st h p n => by
  obtain ⟨h1, h2, h3⟩ := st.fresh n
  exact h F _ _ (SubH.refl F) (st.alloc n) ⟨⟨p, rfl, h1, h2, ⟨[], upd_same, by unfold RepT; rfl⟩⟩, (by intro z; cases z), rfl, fun _ i a e w => by cases e; exact h3 i w⟩⟩
/-- {'a': 1} -/
theorem pd_dctSI {x : Str} {i : Int} {j1 j2 : Nat} {p1 p2 : Pos} : PD X W (.Dict [some (.Constant (.str x) j1 p1)] [.Constant (.int i) j2 p2] pos) (fun ρ => .ok (.own (.dct [(.str x, .int i)])) ρ) :=
  ⟨_, pe_disp (pps_cons pe_str pe_int pps_nil) rfl rfl (by simp) (by simp), fun P F H σ ρ Q st h p n => by
    obtain ⟨h1, h2, h3⟩ := st.fresh n
    refine ⟨upd_same, [(.inr x, .int i)], rfl, by simp, ?_⟩
    have eH : upd (upd H p (.dK [])) p (.dK (mergeK [] [(.inr x, .int i)])) = upd H p (.dK [(.inr x, .int i)]) := by
      funext b
      by_cases hb : b = p
      · subst hb; rw [upd_same, upd_same]; rfl
      · rw [upd_ne hb, upd_ne hb, upd_ne hb]
    rw [eH]
    refine h F _ _ (SubH.refl F) (st.alloc n) ⟨⟨p, rfl, h1, h2, ⟨_, upd_same, ?_⟩⟩, (by intro z; cases z), rfl, fun _ i a e w => by cases e; exact h3 i w⟩
    unfold RepK RepK
    exact ⟨.inr x, .int i, [], rfl, rfl, mk_int, rfl⟩⟩
end
end Dk

set_option Elab.async false
set_option linter.all false
set_option maxRecDepth 100000
set_option maxHeartbeats 4000000
/-! Dk14: small things for the printed walks -/
namespace Dk
open PySem PySem.Spec L2 PyProof.Rows
theorem room9 {k : Nat} {A : Around} (r : Room k A) : A.units + 69 < cLine := by have := r.un; omega
theorem room5 {k : Nat} {A : Around} (r : Room k A) : A.units + 65 < cLine := by have := r.un; omega
theorem ptd_of {X : Cx} {W : WX} {e : Expr} {f : EX} (h : PD X W e f) (he : ∀ whole, isTrue e X.env whole = (do let v ← whole; standAt e.pos; holding [v] (truthy v)) := by intro _; rfl) : PTD X W e (eTru f) := ptd_tru h he
theorem calD_bad {P : Program} {w : World} {K : PySem.W.Frag} {mg : Str → Option Value} {base : Heap} {x qual : Str} {st : Stmt} {f : Addr} {fd : FuncData} {N ps : List Str} {dvs : List D} {k : Nat} {den : Den} (F : FunD K x qual (defArgs st) (defBody st) (defScope st) (dvs.map D.flatV) [] f fd) (hm : mg x = some (.ref f)) (S : FnScope N ps (defScope st)) (hb : ∀ as, den as = .bad) :
    CalD P w K mg base x (defArgs st) dvs ps (k + 1) den := by
  refine ⟨f, fd, x, qual, _, _, F.ok S (fun vs H Q E h => h.1) (fun cdv A outer s H vs Q E hr hs => ?_), hm, F.kp, F⟩
  obtain ⟨hl, Pr, F', as, sst, pn, no, post⟩ := hs
  rw [hb as] at post
  exact post.elim
def blkB (N : List Str) (sc scope : Scope) (own : List (Str × Nat)) : Bool :=
  (match scope.kind with | .function => true | _ => false) &&
  (scope.names.all (fun y => match scope.names.lookup y.1, y.2 with | some .local, .local => true | some .cell, .cell => true | some .free, .free => true | some .globalImplicit, .globalImplicit => true | some .globalExplicit, .globalExplicit => true | _, _ => false) &&
  (own.all (fun p => N[p.2]? == some p.1) &&
  (scope.names.all (fun y => match y.2 with | .free => (match sc.names.lookup y.1 with | some .cell => true | some .free => true | _ => false) | _ => true) &&
  scope.names.all (fun y => match y.2 with | .local => (own.map (·.1)).contains y.1 || !N.contains y.1 | .cell => (own.map (·.1)).contains y.1 || !N.contains y.1 | _ => true))))
theorem blk_ok {N : List Str} {sc scope : Scope} {own : List (Str × Nat)} (h : blkB N sc scope own = true) : BlkOk N sc scope own := by
  unfold blkB at h
  simp only [Bool.and_eq_true, List.all_eq_true] at h
  obtain ⟨h1, h2, h3, h4, h5⟩ := h
  refine ⟨?_, fun y hy => ?_, fun p hp => ?_, fun y hy e => ?_, fun y hy e => ?_⟩
  · cases hk : scope.kind <;> rw [hk] at h1 <;> first | rfl | cases h1
  · have := h2 y hy
    cases e1 : scope.names.lookup y.1 with
    | none => rw [e1] at this; cases this
    | some k =>
      rw [e1] at this
      cases k <;> cases e2 : y.2 <;> rw [e2] at this <;> first | rfl | cases this
  · simpa using h3 p hp
  · have := h4 y hy
    rw [e] at this
    cases e1 : sc.names.lookup y.1 with
    | none => rw [e1] at this; cases this
    | some k => rw [e1] at this; cases k <;> first | exact .inl rfl | exact .inr rfl | cases this
  · have := h5 y hy
    rcases e with e | e <;> rw [e] at this <;> simpa [List.contains_eq_mem] using this
end Dk

set_option Elab.async false
set_option linter.all false
set_option maxRecDepth 100000
set_option maxHeartbeats 4000000
/-! Dk15: a, b = e, f : the slots may get objects of their own -/
namespace Dk
open PySem PySem.Spec L2 PyProof.Rows

inductive OR where
  | bad
  | ok (os : List Sl) (ρ : Env)
  | exc (c : Str) (fs : List (Str × D)) (ρ : Env)
def OR.cons (s : Sl) : OR → OR
  | .ok os ρ => .ok (s :: os) ρ
  | r => r
def R.toO (r : R) (k : Sl → Env → OR) : OR := match r with
  | .ok o ρ => k o ρ
  | .bad => .bad
  | .exc c fs ρ => .exc c fs ρ
@[simp] theorem R.toO_ok (o : Sl) (ρ : Env) (k : Sl → Env → OR) : (R.ok o ρ).toO k = k o ρ := Eq.trans rfl rfl
@[simp] theorem OR.cons_ok (s : Sl) (os : List Sl) (ρ : Env) : (OR.ok os ρ).cons s = .ok (s :: os) ρ := Eq.trans rfl rfl
def wantsOwn : Sl → Option Sl
  | .own c => some (.own c)
  | _ => none
/-- the values of fs from the left, each as its slot wants it -/
def outsR : List (Bool × EX) → Env → OR
  | [], ρ => .ok [] ρ
  | (b, f) :: fs, ρ => (f ρ).toO fun o ρ1 => match (if b = true then wantsOwn o else o.toVal) with
      | some s => (outsR fs ρ1).cons s
      | none => .bad
section
variable {K : PySem.W.Frag} {mg : Str → Option Value} {W : WX} {P : Prot} {F H : Hp} {σ : SS} {ρ : Env}
theorem Stt.also (st : Stt K mg P F H σ ρ) {a : Addr} {u : HO} (ha : H a = some u) (hf : F a = none) (hn : ∀ i, ¬ Owns σ ρ i a) : Stt K mg (P.also a u) F H σ ρ where
  sub := st.sub
  keep := fun p o q => by
    by_cases hp : p = a
    · subst hp
      have q' : upd P.H p u p = some o := q
      rw [upd_same] at q'; cases q'
      exact ⟨ha, hf⟩
    · have q' : upd P.H a u p = some o := q
      rw [upd_ne hp] at q'
      exact st.keep p o q'
  len := st.len
  sl := fun i s e => (st.sl i s e).also fun w q => hn i ⟨⟨s, e, w⟩, of_getD q⟩
  apart := st.apart
  pin := st.pin
theorem Stt.unalso {a : Addr} {u : HO} (st : Stt K mg (P.also a u) F H σ ρ) (hn : P.H a = none) : Stt K mg P F H σ ρ where
  sub := st.sub
  keep := fun p o q => st.keep p o (show upd P.H a u p = some o by rw [upd_ne (fun z => by subst z; rw [hn] at q; cases q)]; exact q)
  len := st.len
  sl := fun i s e => (st.sl i s e).unalso hn
  apart := st.apart
  pin := st.pin
theorem OutOk.unalso {a : Addr} {u : HO} {v : V} {o : Sl} (x : OutOk K mg (P.also a u) F H σ ρ v o) (hn : P.H a = none) : OutOk K mg P F H σ ρ v o := ⟨x.sl.unalso hn, x.ne, x.nr, x.free⟩
/-- values, each as its slot wants it; own objects differ -/
inductive Outs (K : PySem.W.Frag) (mg : Str → Option Value) (P : Prot) (F H : Hp) (σ : SS) (ρ : Env) : List V → List Sl → Prop
  | nil : Outs K mg P F H σ ρ [] []
  | cons {v : V} {o : Sl} {vs : List V} {os : List Sl} (x : OutOk K mg P F H σ ρ v o) (t : Outs K mg P F H σ ρ vs os) (ap : o.isOwn = true → ∀ (j : Nat) (a : Addr) (s : Sl), v = .ref a → vs[j]? = some (.ref a) → os[j]? = some s → s.isOwn = false) : Outs K mg P F H σ ρ (v :: vs) (o :: os)
theorem Outs.unalso {a : Addr} {u : HO} {vs : List V} {os : List Sl} (x : Outs K mg (P.also a u) F H σ ρ vs os) (hn : P.H a = none) : Outs K mg P F H σ ρ vs os := by
  induction x with
  | nil => exact .nil
  | cons x t ap ih => exact .cons (x.unalso hn) ih ap
theorem Outs.get {vs : List V} {os : List Sl} (x : Outs K mg P F H σ ρ vs os) : ∀ {j : Nat} {v : V} {s : Sl}, vs[j]? = some v → os[j]? = some s → OutOk K mg P F H σ ρ v s := by
  induction x with
  | nil => intro j v s e; simp at e
  | cons x t ap ih =>
    intro j v s e1 e2
    cases j with
    | zero => simp at e1 e2; subst e1; subst e2; exact x
    | succ j => exact ih (by simpa using e1) (by simpa using e2)
theorem Outs.length {vs : List V} {os : List Sl} (x : Outs K mg P F H σ ρ vs os) : vs.length = os.length := by
  induction x with
  | nil => rfl
  | cons x t ap ih => simp [ih]
def PostO (K : PySem.W.Frag) (mg : Str → Option Value) (W : WX) (P : Prot) (F : Hp) (σ : SS) (n : Nat) (r : OR) (G : List V → Hp → Prop) : Prop := match r with
  | .bad => False
  | .ok os ρ => ∀ F1 H1 vs, SubH F F1 → Stt K mg P F1 H1 σ ρ → Outs K mg P F1 H1 σ ρ vs os → os.length = n → G vs H1
  | .exc c fs ρ => KontX K mg P F σ ρ c fs fun C d H' => W C d σ H'
def DOs (K : PySem.W.Frag) (mg : Str → Option Value) (W : WX) (ta : TA) (fs : List (Bool × EX)) : Prop := ∀ P F H σ ρ G, Stt K mg P F H σ ρ → PostO K mg W P F σ fs.length (outsR fs ρ) G → ta σ H G
theorem dos_nil : DOs K mg W tNil [] := fun P F H σ ρ G st h => h F H [] (SubH.refl F) st .nil rfl
theorem dos_cons {te : TE} {t : TA} {b : Bool} {f : EX} {fs : List (Bool × EX)} (h1 : DE K mg W te f) (h2 : DOs K mg W t fs) : DOs K mg W (tCons te t) ((b, f) :: fs) := by
  intro P F H σ ρ G st h
  refine h1 P F H σ ρ _ st ?_
  simp only [outsR] at h
  cases e : f ρ with
  | bad => rw [e] at h; exact h
  | exc c gs ρ1 => rw [e] at h; exact h
  | ok o ρ1 =>
    rw [e] at h
    simp only [R.toO_ok] at h
    intro F1 H1 v sb st1 x
    cases b with
    | true =>
      simp only [if_true] at h
      cases o with
      | own c =>
        simp only [wantsOwn] at h
        obtain ⟨a, ev, e1, e2, e3⟩ := x.sl
        cases ev
        obtain ⟨u, hu⟩ := e3.some
        have stA := st1.also hu e1 (fun i w => x.free rfl i a rfl w)
        refine h2 (P.also a u) F1 H1 σ ρ1 _ stA ?_
        cases e5 : outsR fs ρ1 with
        | bad => rw [e5] at h; exact h
        | exc c' gs ρ2 => rw [e5] at h; exact fun F2 H2 C dd sb2 st2 y => h F2 H2 C dd (sb.trans sb2) (st2.unalso e2) y
        | ok os ρ2 =>
          rw [e5] at h
          intro F2 H2 vs sb2 st2 xs hl
          obtain ⟨ka, kf⟩ := st2.keep a u (show upd P.H a u a = some u from upd_same)
          have ne2 : ∀ i, ¬ Owns σ ρ2 i a := fun i w => by
            obtain ⟨_, z, _⟩ := st2.owned w
            have : upd P.H a u a = none := z
            rw [upd_same] at this; cases this
          have x2 : OutOk K mg P F2 H2 σ ρ2 (.ref a) (.own c) := ⟨⟨a, rfl, kf, e2, e3.le sb2 (ka.trans hu.symm)⟩, (by intro z; cases z), rfl, fun _ i b eb w => by cases eb; exact ne2 i w⟩
          refine h F2 H2 (.ref a :: vs) (sb.trans sb2) (st2.unalso e2) (.cons x2 (xs.unalso e2) fun _ j b s eb e6 e7 => ?_) (by simp [hl])
          cases eb
          have y := xs.get e6 e7
          cases s with
          | own c' =>
            obtain ⟨b, eb, _, z, _⟩ := y.sl
            cases eb
            have : upd P.H a u a = none := z
            rw [upd_same] at this; cases this
          | ref c' => cases y.nr
          | emp => rfl
          | val d => rfl
          | fn y => rfl
      | emp => exact h.elim
      | val d => exact h.elim
      | ref c => exact h.elim
      | fn c => exact h.elim
    | false =>
      simp only [Bool.false_eq_true, if_false] at h
      cases z : o.toVal with
      | none => simp only [z] at h; exact h.elim
      | some s =>
        simp only [z] at h
        obtain ⟨F2, sb2, st2, x2, no⟩ := st1.toVal x z
        refine h2 P F2 H1 σ ρ1 _ st2 ?_
        cases e5 : outsR fs ρ1 with
        | bad => rw [e5] at h; exact h
        | exc c' gs ρ2 => rw [e5] at h; exact fun F3 H3 C dd sb3 st3 y => h F3 H3 C dd ((sb.trans sb2).trans sb3) st3 y
        | ok os ρ2 =>
          rw [e5] at h
          intro F3 H3 vs sb3 st3 xs hl
          exact h F3 H3 (v :: vs) ((sb.trans sb2).trans sb3) st3 (.cons ⟨x2.sl.plain no sb3, x2.ne, x2.nr, fun w => by rw [no] at w; cases w⟩ xs fun w => by rw [no] at w; cases w) (by simp [hl])
/-- the stores, from the left -/
def storeE : List Nat → List Sl → Env → Option Env
  | [], [], ρ => some ρ
  | i :: is, s :: os, ρ => (setSl i s ρ).bind fun ρ1 => storeE is os ρ1
  | _, _, _ => none
def setAll : List Nat → List V → SS → SS
  | i :: is, v :: vs, σ => setAll is vs (σ.set i (some v))
  | _, _, σ => σ
theorem Outs.store : ∀ {is : List Nat} {vs : List V} {os : List Sl} {σ : SS} {ρ ρ' : Env}, Stt K mg P F H σ ρ → Outs K mg P F H σ ρ vs os → storeE is os ρ = some ρ' → Stt K mg P F H (setAll is vs σ) ρ' := by
  intro is
  induction is with
  | nil =>
    intro vs os σ ρ ρ' st x e
    cases x with
    | nil => cases e; exact st
    | cons _ _ _ => cases e
  | cons i is ih =>
    intro vs os σ ρ ρ' st x e
    cases x with
    | nil => cases e
    | @cons v o vs os x t ap =>
      simp only [storeE] at e
      cases z : setSl i o ρ with
      | none => rw [z] at e; cases e
      | some ρ1 =>
        rw [z] at e
        have st1 := st.store x.nr x.sl x.free z
        refine ih st1 ?_ e
        -- the others are still right
        have hρ1 : ρ1 = ρ.set i o ∧ i < ρ.length := by
          unfold setSl at z
          cases q : ρ[i]? with
          | none => simp only [q] at z; cases z
          | some s0 =>
            have hi : i < ρ.length := by
              rcases Nat.lt_or_ge i ρ.length with h | h
              · exact h
              · rw [List.getElem?_eq_none h] at q; cases q
            cases s0 <;> simp only [q] at z <;> first | (cases z; exact ⟨rfl, hi⟩) | cases z
        obtain ⟨rfl, hi⟩ := hρ1
        have key : ∀ {vs : List V} {os : List Sl}, Outs K mg P F H σ ρ vs os → (o.isOwn = true → ∀ (j : Nat) (a : Addr) (s : Sl), v = .ref a → vs[j]? = some (.ref a) → os[j]? = some s → s.isOwn = false) → Outs K mg P F H (σ.set i (some v)) (ρ.set i o) vs os := by
          intro vs os t
          induction t with
          | nil => intro _; exact .nil
          | @cons v' o' vs os y t ap' ih' =>
            intro hap
            refine .cons ⟨y.sl, y.ne, y.nr, fun w j a eb ow => ?_⟩ (ih' fun w j a s e1 e2 e3 => hap w (j + 1) a s e1 (by simpa using e2) (by simpa using e3)) ap'
            by_cases hij : i = j
            · subst hij
              obtain ⟨⟨s, e1, w1⟩, q1⟩ := ow
              rw [List.getElem?_set_self hi] at e1; cases e1
              rw [List.getElem?_set_self (by rw [st.len]; exact hi)] at q1
              have ev : v = .ref a := by simpa using q1
              have := hap w1 0 a o' ev (by simp [eb]) rfl
              rw [this] at w; cases w
            · exact y.free w j a eb (ow.set_ne hij)
        exact key t ap
/-- a, b = e, f -/
def sPar (is : List Nat) (fs : List (Bool × EX)) : SX := fun ρ => match outsR fs ρ with
  | .bad => .bad
  | .exc c gs ρ1 => .exc c gs ρ1
  | .ok os ρ1 => match storeE is os ρ1 with
    | some ρ2 => .nx ρ2
    | none => .bad
theorem DOs.par {ta : TA} {fs : List (Bool × EX)} {is : List Nat} {En : Ends} {G : List V → Hp → Prop} (h : DOs K mg W ta fs) (st : Stt K mg P F H σ ρ) (hp : PostS K mg W P F (sPar is fs ρ) En)
    (hk : ∀ F1 H1 vs ρ1 ρ2, SubH F F1 → Stt K mg P F1 H1 σ ρ1 → Stt K mg P F1 H1 (setAll is vs σ) ρ2 → vs.length = fs.length → (∀ F' H' σ', SubH F1 F' → Stt K mg P F' H' σ' ρ2 → En.nx σ' H') → G vs H1) : ta σ H G := by
  refine h P F H σ ρ _ st ?_
  unfold sPar at hp
  cases e : outsR fs ρ with
  | bad => simp only [e] at hp; exact hp
  | exc c gs ρ1 => simp only [e] at hp; exact fun F1 H1 C dd sb st1 x => hp F1 H1 σ C dd sb st1 x
  | ok os ρ1 =>
    simp only [e] at hp
    intro F1 H1 vs sb st1 xs hl
    cases z : storeE is os ρ1 with
    | none => simp only [z] at hp; exact hp.elim
    | some ρ2 =>
      simp only [z] at hp
      exact hk F1 H1 vs ρ1 ρ2 sb st1 (xs.store st1 z) (by rw [xs.length, hl]) fun F' H' σ' s st' => hp F' H' σ' (sb.trans s) st'
end
structure POD_ (X : Cx) (W : WX) (es : List Expr) (fs : List (Bool × EX)) : Prop where
  ex : ∃ t, PA X es t ∧ DOs X.K X.mg W t fs
section
variable {X : Cx} {W : WX} {e : Expr} {es : List Expr} {f : EX} {fs : List (Bool × EX)}
theorem pos_nil : POD_ X W [] [] := ⟨_, pa_nil, dos_nil⟩
theorem pos_cons (b : Bool) (h1 : PD X W e f) (h2 : POD_ X W es fs) (hs : starEach (e :: es) X.env = (false, eval e X.env) :: starEach es X.env := by rfl) : POD_ X W (e :: es) ((b, f) :: fs) := by
  obtain ⟨t, p, d⟩ := h1.ex
  obtain ⟨u, q, d2⟩ := h2.ex
  exact ⟨_, pa_cons p q hs, dos_cons d d2⟩
theorem psd_par2 {i j : Nat} {x y : Str} {a b : Expr} {px py pt pos pt2 : Pos} {kt k2 : Nat} (hN : X.N.Nodup) (h : POD_ X W [a, b] fs) (hlen : fs.length = 2 := by rfl) (hc : X.calm = true := by rfl) (hi : X.N[i]? = some x := by rfl) (hj : X.N[j]? = some y := by rfl) (hij : i ≠ j := by decide)
    (hx : X.env.scope.names.lookup x = some .local := by rfl) (hy : X.env.scope.names.lookup y = some .local := by rfl)
    (hw : swappedStores [.Tuple [.Name x px, .Name y py] kt pt] (.Tuple [a, b] k2 pt2) X.env = pure (some [x, y]) := by rfl)
    (hs : swapsWithSole [.Tuple [.Name x px, .Name y py] kt pt] (.Tuple [a, b] k2 pt2) pos.line X.env = pure false := by rfl) : PSD X W (.Assign [.Tuple [.Name x px, .Name y py] kt pt] (.Tuple [a, b] k2 pt2) pos) (sPar [i, j] fs) := by
  obtain ⟨t, p, d⟩ := h.ex
  refine ⟨_, ps_par hc hN hi hj hij hx hy p hw hs, ?_⟩
  intro P F H σ ρ En st hp
  refine d.par st hp fun F1 H1 vs ρ1 ρ2 sb st1 st2 hl k => ?_
  match vs, hl.trans hlen with
  | [v, w], _ => exact ⟨v, w, rfl, k F1 H1 _ (SubH.refl _) st2⟩
theorem psd_par3 {i j l : Nat} {x y z : Str} {a b c : Expr} {px py pz pt pos pt2 : Pos} {kt k2 : Nat} (hN : X.N.Nodup) (h : POD_ X W [a, b, c] fs) (hlen : fs.length = 3 := by rfl) (hc : X.calm = true := by rfl) (hi : X.N[i]? = some x := by rfl) (hj : X.N[j]? = some y := by rfl) (hl : X.N[l]? = some z := by rfl) (hij : i ≠ j := by decide) (hil : i ≠ l := by decide) (hjl : j ≠ l := by decide)
    (hx : X.env.scope.names.lookup x = some .local := by rfl) (hy : X.env.scope.names.lookup y = some .local := by rfl) (hz : X.env.scope.names.lookup z = some .local := by rfl)
    (hw : swappedStores [.Tuple [.Name x px, .Name y py, .Name z pz] kt pt] (.Tuple [a, b, c] k2 pt2) X.env = pure (some [x, y, z]) := by rfl)
    (hs : swapsWithSole [.Tuple [.Name x px, .Name y py, .Name z pz] kt pt] (.Tuple [a, b, c] k2 pt2) pos.line X.env = pure false := by rfl) : PSD X W (.Assign [.Tuple [.Name x px, .Name y py, .Name z pz] kt pt] (.Tuple [a, b, c] k2 pt2) pos) (sPar [i, j, l] fs) := by
  obtain ⟨t, p, d⟩ := h.ex
  refine ⟨_, ps_par3 hc hN hi hj hl hij hil hjl hx hy hz p hw hs, ?_⟩
  intro P F H σ ρ En st hp
  refine d.par st hp fun F1 H1 vs ρ1 ρ2 sb st1 st2 hl k => ?_
  match vs, hl.trans hlen with
  | [v, w, u], _ => exact ⟨v, w, u, rfl, k F1 H1 _ (SubH.refl _) st2⟩
/-! the same through a tuple (a name is captured, or more than three) -/
def gsL : List Nat → TGs
  | [] => L2.gNil
  | i :: is => L2.gCons (gName i) (gsL is)
theorem gsL_ok : ∀ {is : List Nat} {vs : List V} {σ : SS} {H : Hp} {Q : L2.St → Hp → Prop}, vs.length = is.length → Q (setAll is vs σ) H → gsL is vs σ H Q
  | [], vs, σ, H, Q, hl, h => by
    have : vs = [] := List.length_eq_zero_iff.mp hl
    subst this
    exact ⟨rfl, h⟩
  | i :: is, [], σ, H, Q, hl, h => by simp at hl
  | i :: is, v :: vs, σ, H, Q, hl, h => ⟨v, vs, rfl, gsL_ok (is := is) (by simpa using hl) h⟩
structure PGn (X : Cx) (tg : List Expr) (is : List Nat) : Prop where
  ok : PGs X tg (gsL is)
theorem pgn_nil : PGn X [] [] := ⟨pgs_nil⟩
theorem pgn_cons {i : Nat} {x : Str} {pos : Pos} {tg : List Expr} {is : List Nat} (hN : X.N.Nodup) (h : PGn X tg is) (hi : X.N[i]? = some x := by rfl) (hx : Loc X.env.scope x := by first | exact Or.inl rfl | exact Or.inr rfl) (hf : X.fn x = true ∨ X.env.scope.names.lookup x = some .local := by first | exact .inl rfl | exact .inr rfl | assumption)
    (hst : (assignEach (.Name x pos :: tg) X.env).map (·.2) = assign (.Name x pos) X.env :: (assignEach tg X.env).map (·.2) := by rfl) : PGn X (.Name x pos :: tg) (i :: is) := ⟨pgs_cons (pg_name hN hi hx hf) h.ok hst⟩
theorem psd_parT {tg : List Expr} {is : List Nat} {kt k2 : Nat} {pt pt2 pos : Pos} (hg : PGn X tg is) (h : POD_ X W es fs) (hlen : fs.length = is.length := by rfl) (hz : fs.length ≤ sizeLine := by show _ ≤ _; decide) (hc : X.calm = true := by rfl) (hn : (assignEach tg X.env).length = is.length := by rfl) (hst : (assignEach tg X.env).findIdx? (·.1) = none := by rfl)
    (hs : swapsWithSole [.Tuple tg kt pt] (.Tuple es k2 pt2) pos.line X.env = pure false := by rfl) (hw : swappedStores [.Tuple tg kt pt] (.Tuple es k2 pt2) X.env = pure none := by rfl) (h1 : (assignEach [.Tuple tg kt pt] X.env).map (·.2) = [assign (.Tuple tg kt pt) X.env] := by rfl) :
    PSD X W (.Assign [.Tuple tg kt pt] (.Tuple es k2 pt2) pos) (sPar is fs) := by
  obtain ⟨t, p, d⟩ := h.ex
  refine ⟨_, ps_asg (pe_tup p) (pg_tup hc hg.ok hn hst) hs hw h1, ?_⟩
  intro P F H σ ρ En st hp
  refine d.par st hp fun F1 H1 vs ρ1 ρ2 sb st1 st2 hl k => ⟨by rw [hl]; exact hz, fun q nq => ?_⟩
  refine ⟨q, vs, rfl, .inl (.inl upd_same), hl.trans hlen, gsL_ok (hl.trans hlen) ?_⟩
  exact k F1 _ _ (SubH.refl _) (st2.alloc nq)
end
end Dk

set_option Elab.async false
set_option linter.all false
set_option maxRecDepth 100000
set_option maxHeartbeats 4000000
/-! Dk16: what the written part says; the end -/
namespace Dk
open PySem PySem.Spec L2 PyProof.Rows
section
variable {P : Program} {w : World} {K : PySem.W.Frag} {mg : Str → Option Value} {base : Heap}
theorem chk_flat : ∀ {ds : List D} {us : List Value}, ds.all flatD = true → chkL K ds us = true → Vals (ds.map D.flatV) us
  | [], us, _, h => by
    unfold chkL at h
    have : us = [] := by simpa using h
    subst this
    exact .nil
  | d :: ds, us, hf, h => by
    simp only [List.all_cons, Bool.and_eq_true] at hf
    unfold chkL at h
    cases us with
    | nil => cases h
    | cons u us =>
      simp only [Bool.and_eq_true] at h
      refine .cons ?_ (chk_flat hf.2 h.2)
      have h1 := h.1
      cases d with
      | none => unfold chkV at h1; cases u <;> first | (simp at h1; done) | rfl
      | bool b => unfold chkV at h1; cases u <;> first | (simp at h1; done) | (rw [eq_of_beq h1]; rfl)
      | int b => unfold chkV at h1; cases u <;> first | (simp at h1; done) | (rw [eq_of_beq h1]; exact ⟨_, rfl⟩)
      | str b => unfold chkV at h1; cases u <;> first | (simp at h1; done) | (rw [eq_of_beq h1]; exact ⟨_, rfl⟩)
      | list b => cases hf.1
      | tuple b => cases hf.1
      | dict b => cases hf.1
      | dictT b => cases hf.1
      | tag _ b => cases hf.1
theorem funD0 {x qual : Str} {st : Stmt} {f : Addr} {oc : Value} {od an : Option Addr} {osl : Array (Option Value)} {kV doc pm cdv ct : Value} (l : K.lookup f = some ⟨oc, od, .func (PySem.W.fnOf x qual (defArgs st) (defBody st) (defScope st) .none kV doc pm an cdv ct), osl⟩)
    (c : PySem.W.codeIn K cdv qual = true) (k : PySem.W.keepIn K (.ref f) = true) : FunD K x qual (defArgs st) (defBody st) (defScope st) (([] : List D).map D.flatV) [] f (PySem.W.fnOf x qual (defArgs st) (defBody st) (defScope st) .none kV doc pm an cdv ct) :=
  ⟨⟨oc, od, .none, kV, doc, pm, an, cdv, ct, osl, rfl, l, c, .inl ⟨rfl, rfl⟩, .inl rfl⟩, k⟩
theorem funD1 {x qual : Str} {st : Stmt} {f T : Addr} {oc tc : Value} {od an td : Option Addr} {osl tsl : Array (Option Value)} {kV doc pm cdv ct : Value} {its : Array Value} {n : Nat} {dvs : List D} (l : K.lookup f = some ⟨oc, od, .func (PySem.W.fnOf x qual (defArgs st) (defBody st) (defScope st) (.ref T) kV doc pm an cdv ct), osl⟩)
    (c : PySem.W.codeIn K cdv qual = true) (k : PySem.W.keepIn K (.ref f) = true) (lT : K.lookup T = some ⟨tc, td, .seq its n, tsl⟩) (hf : dvs.all flatD = true) (hc : chkL K dvs its.toList = true) (ne : dvs ≠ []) :
    FunD K x qual (defArgs st) (defBody st) (defScope st) (dvs.map D.flatV) [] f (PySem.W.fnOf x qual (defArgs st) (defBody st) (defScope st) (.ref T) kV doc pm an cdv ct) :=
  ⟨⟨oc, od, .ref T, kV, doc, pm, an, cdv, ct, osl, rfl, l, c, .inr ⟨fun e => ne (by simpa using e), T, _, its.toList, n, rfl, lT, by simp, chk_flat hf hc⟩, .inl rfl⟩, k⟩
/-- what is asked of a class of errors of the text -/
theorem oexC_mk {C N : Addr} {nm q : Str} {bs bm : List Value} {sn : List Str} {sub : List Value} {ab : Bool} {col : Option Bool} {dd : Option Addr} {m0 m1 m2 m3 m5 : Option Value}
    (xL : K.lookup C = some (excClassObj nm q C N bs bm true sn sub ab col dd m0 m1 m2 m3 m5 "ValueError.__new__")) (hb : PySem.HandSPX.refsVE bm = true) (sa : PySem.W.findIn K (.ref C) "__setattr__" = some (some (.builtin "object.__setattr__"))) (eC : PySem.W.subIn K (.ref C) (.type "BaseException") = some true)
    (tC : PySem.W.typeIn K (.ref C) = some (.type "type")) (kC : PySem.W.keepIn K (.ref C) = true) : OexC K C := ⟨⟨nm, q, N, bs, bm, sn, sub, ab, col, dd, m0, m1, m2, m3, m5, xL, hb⟩, sa, eC, tC, kC⟩
theorem excD1 {c : Str} {g : Str} {C fI : Addr} {fd : FuncData} {qual : Str} {st : Stmt} {N : List Str} {a b : Str} (T : OexC K C) (iC : PySem.W.findIn K (.ref C) "__init__" = some (some (.ref fI))) (tI : PySem.W.typeIn K (.ref fI) = some (.type "function"))
    (F : Fun K "__init__" qual st fI fd) (S : FnScope N [a, b] (defScope st)) (hb : Binds K fd [a, b] []) (hm : mg c = some (.ref C)) (hno : PySem.W.findIn K (.ref C) g = some none)
    (hbody : ∀ (cdv : Value) (A : Around) (outer : List PySem.Env) (s : Shared) (H : Hp) (E : XK), PSs (cxOf (L2.CX P w) P w K mg base N qual (defScope st) fI cdv A outer s H E) (defBody st) (tOst K g (tVar 0) (tVar 1))) : ExcD P w K mg base c [g] 1 :=
  ⟨⟨C, fI, fd, [a, b], T, iC, tI, init1_ok F S rfl hbody, hb, hm, fun f hf => by simp at hf; rw [hf]; exact hno⟩, .inl ⟨g, rfl⟩⟩
theorem excD2 {c : Str} {g g2 : Str} {C fI : Addr} {fd : FuncData} {qual : Str} {st : Stmt} {N : List Str} {a b d : Str} (T : OexC K C) (iC : PySem.W.findIn K (.ref C) "__init__" = some (some (.ref fI))) (tI : PySem.W.typeIn K (.ref fI) = some (.type "function"))
    (F : Fun K "__init__" qual st fI fd) (S : FnScope N [a, b, d] (defScope st)) (hb : Binds K fd [a, b, d] []) (hm : mg c = some (.ref C)) (hno : PySem.W.findIn K (.ref C) g = some none) (hno2 : PySem.W.findIn K (.ref C) g2 = some none) (ne : g ≠ g2)
    (hbody : ∀ (cdv : Value) (A : Around) (outer : List PySem.Env) (s : Shared) (H : Hp) (E : XK), PSs (cxOf (L2.CX P w) P w K mg base N qual (defScope st) fI cdv A outer s H E) (defBody st) (tSeq (tOst K g (tVar 0) (tVar 1)) (tOst K g2 (tVar 0) (tVar 2)))) : ExcD P w K mg base c [g, g2] 1 :=
  ⟨⟨C, fI, fd, [a, b, d], T, iC, tI, init2_ok F S rfl hbody, hb, hm, fun f hf => by
    simp at hf
    rcases hf with rfl | rfl
    · exact hno
    · exact hno2⟩, .inr ⟨g, g2, ne, rfl⟩⟩
/-- the law's promise -/
def spLaw (K : PySem.W.Frag) : Sp := fun vs H Q _ => ∃ (a : Addr) (ns : List Int), vs = [.ref a] ∧ SqL K H a (ns.map V.int) ∧ ns.length ≤ 63 ∧ ∀ H', Q (.bl true) H'
theorem ints_rep {F : Hp} : ∀ ns : List Int, RepL K F (ns.map D.int) (ns.map V.int)
  | [] => RepL.nil
  | n :: ns => RepL.cons mk_int (ints_rep ns)
theorem law_imp {den : Den} (hl : ∀ ns : List Int, ns.length ≤ 63 → ∃ as, den [.val (.list (ns.map D.int))] = .ret (.val (.bool true)) as) : ∀ vs H Q E, spLaw K vs H Q E → spD K mg 1 den vs H Q E := by
  rintro vs H Q E ⟨a, ns, rfl, hS, hz, q⟩
  obtain ⟨as, e⟩ := hl ns hz
  have st : Stt K mg ⟨fun _ => none, fun _ => none⟩ H H ([V.ref a].map some) [.val (.list (ns.map D.int))] := by
    refine ⟨SubH.refl H, fun p o z => (by cases z), rfl, fun i s z => ?_, fun i j b w => ?_, fun i v z => (by cases z)⟩
    · match i, z with
      | 0, z => cases z; exact ⟨.ref a, rfl, mk_list hS (ints_rep ns)⟩
      | i + 1, z => simp at z
    · obtain ⟨⟨s, z, w⟩, _⟩ := w
      match i, z with
      | 0, z => cases z; cases w
      | i + 1, z => simp at z
  refine ⟨rfl, _, H, _, st, fun i s v z w => ?_, fun s hs c => ?_, ?_⟩
  · match i, z with
    | 0, z => cases z; cases w
    | i + 1, z => simp at z
  · simp at hs; subst hs; intro z; cases z
  · rw [e]
    intro F' H' v sb st x
    rw [rep_bool x.rep]
    exact q H'
theorem law_end {x : Str} {par : Arguments} {k : Nat} {den : Den} {fa : Addr} {s1 : Str} (hfa : mg x = some (.ref fa)) (hb : ∀ fd nm qual body scope, FunD K nm qual par body scope [] [] fa fd → ∀ (s : Shared) (u : Value), BindsTo s fd ⟨[u], []⟩ [(s1, u)]) (fd : FuncData) {qual : Str} {st : Stmt} (hpar : par = defArgs st)
    (F : FunD K x qual (defArgs st) (defBody st) (defScope st) (([] : List D).map D.flatV) [] fa fd) (hlaw : ∀ base, K.In base → base.Ns mainGlobals mg → CalD P w K mg base x par [] [s1] k den) (hl : ∀ ns : List Int, ns.length ≤ 63 → ∃ as, den [.val (.list (ns.map D.int))] = .ret (.val (.bool true)) as) :
    ∃ fd : FuncData, (∀ (s : Shared) (u : Value), BindsTo s fd ⟨[u], []⟩ [(s1, u)]) ∧ ∀ base : Heap, K.In base → base.Ns mainGlobals mg → FnOk P w K mg base (L2.CX P w) k fa fd [s1] (spLaw K) := by
  subst hpar
  refine ⟨fd, hb fd _ _ _ _ F, fun base hK hN => ?_⟩
  obtain ⟨f, fd2, nm, qual2, body, scope, F2, hm, hk, FD⟩ := (hlaw base hK hN).ex
  have ef : f = fa := by
    have := hm.symm.trans hfa
    cases this; rfl
  subst ef
  have efd : fd2 = fd := by
    obtain ⟨oc, od, dV, kV, doc, pm, an, cdv, ct, osl, e1, l1, _⟩ := FD.ex
    obtain ⟨oc', od', dV', kV', doc', pm', an', cdv', ct', osl', e2, l2, _⟩ := F.ex
    have := l1.symm.trans l2
    cases this
    rfl
  subst efd
  exact F2.imp (law_imp hl)
theorem lookup_mem {α : Type} {c : Str} {x : α} : ∀ {l : List (Str × α)}, l.lookup c = some x → (c, x) ∈ l
  | [], h => by cases h
  | (a, y) :: l, h => by
    simp only [List.lookup] at h
    split at h
    · rename_i e
      have : c = a := by simpa using e
      cases h; subst this
      exact List.mem_cons_self
    · exact List.mem_cons_of_mem _ (lookup_mem h)
def isaOf (tbl : List (Str × List Str)) (h c : Str) : Option Bool := (tbl.lookup c).map fun l => decide (h ∈ l)
theorem match_of {tbl : List (Str × List Str)} {hn : Str} {cv : Value} (h : ∀ p ∈ tbl, ∃ C : Addr, mg p.1 = some (.ref C) ∧ PySem.W.exmOne K (.ref C) cv = some (decide (hn ∈ p.2))) : MatchD K mg cv (isaOf tbl hn) := by
  refine ⟨fun c b e C hm => ?_⟩
  unfold isaOf at e
  cases q : tbl.lookup c with
  | none => rw [q] at e; cases e
  | some l =>
    rw [q] at e; cases e
    obtain ⟨C', h1, h2⟩ := h (c, l) (lookup_mem q)
    rw [hm] at h1; cases h1
    exact h2
theorem isa_of {tbl : List (Str × List Str)} {hn : Str} {cv : Value} (h : ∀ p ∈ tbl, ∃ C : Addr, mg p.1 = some (.ref C) ∧ ExcC K C ∧ (PySem.W.clsIn K C).isSome = true ∧ PySem.W.kitOne K (.ref C) cv = some (decide (hn ∈ p.2))) : IsaD K mg cv (isaOf tbl hn) := by
  refine ⟨fun c b e => ?_⟩
  unfold isaOf at e
  cases q : tbl.lookup c with
  | none => rw [q] at e; cases e
  | some l =>
    rw [q] at e; cases e
    exact h (c, l) (lookup_mem q)
theorem all_nil {α : Type} {p : α → Prop} : ∀ x ∈ ([] : List α), p x := fun x h => by cases h
theorem all_cons {α : Type} {p : α → Prop} {a : α} {l : List α} (h : p a) (t : ∀ x ∈ l, p x) : ∀ x ∈ a :: l, p x := fun x m => by
  rcases List.mem_cons.mp m with rfl | m
  · exact h
  · exact t x m
theorem hCX_ (P : Program) (w : World) (H : Hp) (s : Shared) (e : Value) (s' : Shared) (h : L2.CX P w [] H s (fun _ _ _ => False) e s') : False := by
  obtain ⟨_, _, _, _, _, _, _, _, _, _, _, _, h⟩ := h
  exact h
end
end Dk

set_option Elab.async false
set_option linter.all false
set_option maxRecDepth 100000
set_option maxHeartbeats 4000000
/-! Dk17: evaluating meanings by simp: every step waits for what stands left of it -/
namespace Dk
open PySem PySem.Spec L2 PyProof.Rows
/-- an equation that simp takes as a step of its own -/
theorem nrfl {α : Sort _} {a b : α} (h : a = b) : a = b := h
section
variable {ρ ρ' : Env} {f g h fa fb fc c : EX} {p q : SX} {fs : List EX} {i j n : Nat} {d e : D} {r r' : R} {s s' : SR} {o o' : Sl} {cn : Str} {xs : List (Str × D)} {P : Prop} [Decidable P] {b : Bool}
/-! merging -/
@[simp] theorem ite_ok : (if P then R.ok o ρ else R.ok o' ρ) = R.ok (if P then o else o') ρ := by split <;> rfl
@[simp] theorem ite_val : (if P then Sl.val d else Sl.val e) = Sl.val (if P then d else e) := by split <;> rfl
@[simp] theorem ite_bool {a b : Bool} : (if P then D.bool a else D.bool b) = D.bool (if P then a else b) := by split <;> rfl
@[simp] theorem ite_int {a b : Int} : (if P then D.int a else D.int b) = D.int (if P then a else b) := by split <;> rfl
@[simp] theorem ite_str {a b : Str} : (if P then D.str a else D.str b) = D.str (if P then a else b) := by split <;> rfl
@[simp] theorem ite_ofString {a b : String} : (if P then Str.ofString a else Str.ofString b) = Str.ofString (if P then a else b) := by split <;> rfl
@[simp] theorem ite_ret : (if P then SR.ret o ρ else SR.ret o' ρ) = SR.ret (if P then o else o') ρ := by split <;> rfl
@[simp] theorem ite_nx : (if P then SR.nx ρ else SR.nx ρ') = SR.nx (if P then ρ else ρ') := by split <;> rfl
@[simp] theorem ite_tup {a b : List D} : (if P then D.tuple a else D.tuple b) = D.tuple (if P then a else b) := by split <;> rfl
@[simp] theorem ite_same {α : Sort _} {x : α} : (if P then x else x) = x := by split <;> rfl
/-! R -/
@[simp] theorem bindV_bad {k : D → Env → R} : R.bad.bindV k = .bad := nrfl rfl
@[simp] theorem bindV_ite {k : D → Env → R} : (if P then r else r').bindV k = if P then r.bindV k else r'.bindV k := by split <;> rfl
@[simp] theorem bindB_bad {k : Bool → Env → R} : R.bad.bindB k = .bad := nrfl rfl
@[simp] theorem bindB_ite {k : Bool → Env → R} : (if P then r else r').bindB k = if P then r.bindB k else r'.bindB k := by split <;> rfl
@[simp] theorem bs_bad {k : Sl → Env → SR} : R.bad.bs k = .bad := nrfl rfl
@[simp] theorem bs_ite {k : Sl → Env → SR} : (if P then r else r').bs k = if P then r.bs k else r'.bs k := by split <;> rfl
@[simp] theorem bsB_bad {k : Bool → Env → SR} : R.bad.bsB k = .bad := nrfl rfl
@[simp] theorem bsB_ite {k : Bool → Env → SR} : (if P then r else r').bsB k = if P then r.bsB k else r'.bsB k := by split <;> rfl
@[simp] theorem toC_bad {k : Sl → Env → CA} : R.bad.toC k = .bad := nrfl rfl
@[simp] theorem toC_ite {k : Sl → Env → CA} : (if P then r else r').toC k = if P then r.toC k else r'.toC k := by split <;> rfl
@[simp] theorem toO_bad {k : Sl → Env → OR} : R.bad.toO k = .bad := nrfl rfl
@[simp] theorem toO_exc {k : Sl → Env → OR} : (R.exc cn xs ρ).toO k = .exc cn xs ρ := nrfl rfl
@[simp] theorem toO_ite {k : Sl → Env → OR} : (if P then r else r').toO k = if P then r.toO k else r'.toO k := by split <;> rfl
def R.ofO (o : Option Sl) (ρ : Env) : R := match o with
  | some o => .ok o ρ
  | none => .bad
@[simp] theorem ofO_some : R.ofO (some o) ρ = .ok o ρ := nrfl rfl
@[simp] theorem ofO_none : R.ofO none ρ = .bad := nrfl rfl
@[simp] theorem ofO_ite {a b : Option Sl} : R.ofO (if P then a else b) ρ = if P then R.ofO a ρ else R.ofO b ρ := by split <;> rfl
/-! data -/
@[simp] theorem frz_val : (Sl.val d).frz = some d := nrfl rfl
@[simp] theorem frz_own (c : Cl) : (Sl.own c).frz = some c.frz := nrfl rfl
@[simp] theorem frz_lst (ds : List D) : (Cl.lst ds).frz = .list ds := nrfl rfl
@[simp] theorem frz_dct (ds : List (D × D)) : (Cl.dct ds).frz = .dict ds := nrfl rfl
@[simp] theorem frz_dcT (ds : List (D × D)) : (Cl.dcT ds).frz = .dictT ds := nrfl rfl
@[simp] theorem toVal_val : (Sl.val d).toVal = some (.val d) := nrfl rfl
@[simp] theorem toVal_own (c : Cl) : (Sl.own c).toVal = some (.val c.frz) := nrfl rfl
@[simp] theorem toVal_fn (x : Str) : (Sl.fn x).toVal = some (.fn x) := nrfl rfl
@[simp] theorem un_none : D.un .none = .none := nrfl rfl
@[simp] theorem un_bool (b : Bool) : D.un (.bool b) = .bool b := nrfl rfl
@[simp] theorem un_int (b : Int) : D.un (.int b) = .int b := nrfl rfl
@[simp] theorem un_str (b : Str) : D.un (.str b) = .str b := nrfl rfl
@[simp] theorem un_list (b : List D) : D.un (.list b) = .list b := nrfl rfl
@[simp] theorem un_tuple (b : List D) : D.un (.tuple b) = .tuple b := nrfl rfl
@[simp] theorem un_dict (b : List (D × D)) : D.un (.dict b) = .dict b := nrfl rfl
@[simp] theorem un_dictT (b : List (D × D)) : D.un (.dictT b) = .dictT b := nrfl rfl
@[simp] theorem un_tag (a : Addr) : D.un (.tag a d) = d.un := nrfl rfl
@[simp] theorem un_ite : D.un (if P then d else e) = if P then d.un else e.un := by split <;> rfl
@[simp] theorem un_un : ∀ d : D, d.un.un = d.un
  | .tag _ d => un_un d
  | .none => rfl
  | .bool _ => rfl
  | .int _ => rfl
  | .str _ => rfl
  | .list _ => rfl
  | .tuple _ => rfl
  | .dict _ => rfl
  | .dictT _ => rfl
/-! expressions -/
def slR (s : Option Sl) (ρ : Env) : R := match s with
  | some (.val d) => .ok (.val d) ρ
  | some (.fn x) => .ok (.fn x) ρ
  | _ => .bad
@[simp] theorem slR_val : slR (some (.val d)) ρ = .ok (.val d) ρ := nrfl rfl
@[simp] theorem slR_fn {x : Str} : slR (some (.fn x)) ρ = .ok (.fn x) ρ := nrfl rfl
@[simp] theorem eVar_def : eVar i ρ = slR ρ[i]? ρ := nrfl rfl
def mvR (s : Option Sl) (i : Nat) (ρ : Env) : R := match s with
  | some (.own c) => .ok (.own c) (ρ.set i .emp)
  | _ => .bad
@[simp] theorem mvR_own {c : Cl} : mvR (some (.own c)) i ρ = .ok (.own c) (ρ.set i .emp) := nrfl rfl
@[simp] theorem eMove_def : eMove i ρ = mvR ρ[i]? i ρ := nrfl rfl
@[simp] theorem eC_def : eC d ρ = .ok (.val d) ρ := nrfl rfl
def kOpR (gg : D → D → Option Sl) (d : D) : D → Env → R := fun e ρ => R.ofO (gg d.un e.un) ρ
def kOpL (gg : D → D → Option Sl) (fb : EX) : D → Env → R := fun d ρ => (fb ρ).bindV (kOpR gg d)
@[simp] theorem kOpR_def {gg : D → D → Option Sl} : kOpR gg d e ρ = R.ofO (gg d.un e.un) ρ := nrfl rfl
@[simp] theorem kOpL_def {gg : D → D → Option Sl} : kOpL gg fb d ρ = (fb ρ).bindV (kOpR gg d) := nrfl rfl
theorem bindV_congr {k k' : D → Env → R} (h : ∀ d ρ, k d ρ = k' d ρ) : r.bindV k = r.bindV k' := by
  have : k = k' := by funext d ρ; exact h d ρ
  rw [this]
theorem bindB_congr {k k' : Bool → Env → R} (h : ∀ d ρ, k d ρ = k' d ρ) : r.bindB k = r.bindB k' := by
  have : k = k' := by funext d ρ; exact h d ρ
  rw [this]
@[simp] theorem eOp_def {gg : D → D → Option Sl} : eOp gg fa fb ρ = (fa ρ).bindV (kOpL gg fb) := by
  unfold eOp
  refine bindV_congr fun d ρ => bindV_congr fun e ρ => ?_
  show _ = R.ofO _ _
  cases gg d.un e.un <;> rfl
def kUn (gg : D → Option Sl) : D → Env → R := fun d ρ => R.ofO (gg d.un) ρ
@[simp] theorem kUn_def {gg : D → Option Sl} : kUn gg d ρ = R.ofO (gg d.un) ρ := nrfl rfl
@[simp] theorem eUn_def {gg : D → Option Sl} : eUn gg fa ρ = (fa ρ).bindV (kUn gg) := by
  unfold eUn
  refine bindV_congr fun d ρ => ?_
  show _ = R.ofO _ _
  cases gg d.un <;> rfl
def R.ofB (o : Option Bool) (ρ : Env) : R := match o with
  | some b => .ok (.val (.bool b)) ρ
  | none => .bad
@[simp] theorem ofB_some : R.ofB (some b) ρ = .ok (.val (.bool b)) ρ := nrfl rfl
@[simp] theorem ofB_none : R.ofB none ρ = .bad := nrfl rfl
def kTru : D → Env → R := fun d ρ => R.ofB (truB d.un) ρ
@[simp] theorem kTru_def : kTru d ρ = R.ofB (truB d.un) ρ := nrfl rfl
@[simp] theorem eTru_def : eTru f ρ = (f ρ).bindV kTru := by
  unfold eTru
  refine bindV_congr fun d ρ => ?_
  show _ = R.ofB _ _
  cases truB d.un <;> rfl
def kNot : Bool → Env → R := fun b ρ => .ok (.val (.bool (!b))) ρ
@[simp] theorem kNot_def : kNot b ρ = .ok (.val (.bool (!b))) ρ := nrfl rfl
@[simp] theorem eNot_def : eNot f ρ = (f ρ).bindB kNot := nrfl rfl
def kAnd (g : EX) : Bool → Env → R := fun b ρ => if b = true then g ρ else .ok (.val (.bool false)) ρ
@[simp] theorem kAnd_def : kAnd g b ρ = if b = true then g ρ else .ok (.val (.bool false)) ρ := nrfl rfl
@[simp] theorem eAnd_def : eAnd f g ρ = (f ρ).bindB (kAnd g) := nrfl rfl
def kOr (g : EX) : Bool → Env → R := fun b ρ => if b = true then .ok (.val (.bool true)) ρ else g ρ
@[simp] theorem kOr_def : kOr g b ρ = if b = true then .ok (.val (.bool true)) ρ else g ρ := nrfl rfl
@[simp] theorem eOr_def : eOr f g ρ = (f ρ).bindB (kOr g) := nrfl rfl
def kIf (f g : EX) : Bool → Env → R := fun b ρ => if b = true then f ρ else g ρ
@[simp] theorem kIf_def : kIf f g b ρ = if b = true then f ρ else g ρ := nrfl rfl
@[simp] theorem eIf_def : eIf c f g ρ = (c ρ).bindB (kIf f g) := nrfl rfl
def kCh2 (g2 : D → D → Option Sl) (fc : EX) (e : D) : Bool → Env → R := fun b ρ => if b = true then (fc ρ).bindV (kOpR g2 e) else .ok (.val (.bool false)) ρ
@[simp] theorem kCh2_def {g2 : D → D → Option Sl} : kCh2 g2 fc e b ρ = if b = true then (fc ρ).bindV (kOpR g2 e) else .ok (.val (.bool false)) ρ := nrfl rfl
def kCh1 (g1 g2 : D → D → Option Sl) (fc : EX) (d : D) : D → Env → R := fun e ρ => (R.ofO (g1 d.un e.un) ρ).bindB (kCh2 g2 fc e)
@[simp] theorem kCh1_def {g1 g2 : D → D → Option Sl} : kCh1 g1 g2 fc d e ρ = (R.ofO (g1 d.un e.un) ρ).bindB (kCh2 g2 fc e) := nrfl rfl
def kCh0 (g1 g2 : D → D → Option Sl) (fb fc : EX) : D → Env → R := fun d ρ => (fb ρ).bindV (kCh1 g1 g2 fc d)
@[simp] theorem kCh0_def {g1 g2 : D → D → Option Sl} : kCh0 g1 g2 fb fc d ρ = (fb ρ).bindV (kCh1 g1 g2 fc d) := nrfl rfl
@[simp] theorem eChain_def {g1 g2 : D → D → Option Sl} : eChain g1 g2 fa fb fc ρ = (fa ρ).bindV (kCh0 g1 g2 fb fc) := by
  unfold eChain
  refine bindV_congr fun d ρ => bindV_congr fun e ρ => ?_
  show _ = (R.ofO (g1 d.un e.un) ρ).bindB _
  cases g1 d.un e.un with
  | none => rfl
  | some o =>
    cases o with
    | val x =>
      cases x with
      | bool b =>
        simp only [ofO_some, R.bindB_ok, kCh2]
        cases b with
        | false => rfl
        | true =>
          simp only [if_true]
          refine bindV_congr fun z ρ => ?_
          show _ = R.ofO _ _
          cases g2 e.un z.un <;> rfl
      | _ => rfl
    | _ => rfl
def kArgB (d : D) : List D → Env → R := fun ds ρ => .ok (.val (.list (d :: ds))) ρ
@[simp] theorem kArgB_def {ds : List D} : kArgB d ds ρ = .ok (.val (.list (d :: ds))) ρ := nrfl rfl
def kArgA (fs : List EX) : D → Env → R := fun d ρ => (eArgsR fs ρ).bindL (kArgB d)
@[simp] theorem kArgA_def : kArgA fs d ρ = (eArgsR fs ρ).bindL (kArgB d) := nrfl rfl
@[simp] theorem bindL_ok {k : List D → Env → R} {ds : List D} : (R.ok (.val (.list ds)) ρ).bindL k = k ds ρ := nrfl rfl
@[simp] theorem bindL_exc {k : List D → Env → R} : (R.exc cn xs ρ).bindL k = .exc cn xs ρ := nrfl rfl
@[simp] theorem bindL_bad {k : List D → Env → R} : R.bad.bindL k = .bad := nrfl rfl
@[simp] theorem bindL_ite {k : List D → Env → R} : (if P then r else r').bindL k = if P then r.bindL k else r'.bindL k := by split <;> rfl
@[simp] theorem eArgsR_nil : eArgsR [] ρ = .ok (.val (.list [])) ρ := nrfl rfl
@[simp] theorem eArgsR_cons' : eArgsR (f :: fs) ρ = (f ρ).bindV (kArgA fs) := by
  show (f ρ).bindV _ = _
  refine bindV_congr fun d ρ => ?_
  show _ = (eArgsR fs ρ).bindL (kArgB d)
  cases h : eArgsR fs ρ with
  | bad => rfl
  | exc c fs ρ => rfl
  | ok o ρ2 =>
    cases o with
    | val x => cases x <;> rfl
    | own c => exact absurd h (eArgsR_own _ _ _ _)
    | _ => rfl
def kTup : List D → Env → R := fun ds ρ => .ok (.val (.tuple ds)) ρ
@[simp] theorem kTup_def {ds : List D} : kTup ds ρ = .ok (.val (.tuple ds)) ρ := nrfl rfl
@[simp] theorem eTup_def : eTup fs ρ = (eArgsR fs ρ).bindL kTup := eArgs_eq _ _ _
def kLst : List D → Env → R := fun ds ρ => .ok (.own (.lst ds)) ρ
@[simp] theorem kLst_def {ds : List D} : kLst ds ρ = .ok (.own (.lst ds)) ρ := nrfl rfl
@[simp] theorem eLst_def : eLst fs ρ = (eArgsR fs ρ).bindL kLst := eArgs_eq _ _ _
def kCB (gg : List D → Option Sl) : List D → Env → R := fun ds ρ => R.ofO (gg (ds.map D.un)) ρ
@[simp] theorem kCB_def {gg : List D → Option Sl} {ds : List D} : kCB gg ds ρ = R.ofO (gg (ds.map D.un)) ρ := nrfl rfl
theorem bindL_congr {k k' : List D → Env → R} (h : ∀ d ρ, k d ρ = k' d ρ) : r.bindL k = r.bindL k' := by
  have : k = k' := by funext d ρ; exact h d ρ
  rw [this]
@[simp] theorem eCB_def {gg : List D → Option Sl} : eCB gg fs ρ = (eArgsR fs ρ).bindL (kCB gg) := by
  rw [show eCB gg fs ρ = _ from eArgs_eq _ _ _]
  refine bindL_congr fun ds ρ => ?_
  show _ = R.ofO _ _
  cases gg (ds.map D.un) <;> rfl
def kPt (k : Option Int → Env → R) : D → Env → R := fun d ρ => match d.un with
  | .int i => k (some i) ρ
  | _ => .bad
@[simp] theorem kPt_def {k : Option Int → Env → R} {i : Int} (hd : d.un = .int i) : kPt k d ρ = k (some i) ρ := by unfold kPt; rw [hd]
@[simp] theorem kPt_int {k : Option Int → Env → R} {i : Int} : kPt k (.int i) ρ = k (some i) ρ := nrfl rfl
@[simp] theorem ePt_no (k : Option Int → Env → R) : ePt .no ρ k = k none ρ := nrfl rfl
@[simp] theorem ePt_at (k : Option Int → Env → R) : ePt (.at f) ρ k = (f ρ).bindV (kPt k) := nrfl rfl
def kSlC (d : D) (i : Option Int) : Option Int → Env → R := fun j ρ => R.ofO (slD d.un i j) ρ
@[simp] theorem kSlC_def {i j : Option Int} : kSlC d i j ρ = R.ofO (slD d.un i j) ρ := nrfl rfl
def kSlB (d : D) (hi : Pt) : Option Int → Env → R := fun i ρ => ePt hi ρ (kSlC d i)
@[simp] theorem kSlB_def {hi : Pt} {i : Option Int} : kSlB d hi i ρ = ePt hi ρ (kSlC d i) := nrfl rfl
def kSlA (lo hi : Pt) : D → Env → R := fun d ρ => ePt lo ρ (kSlB d hi)
@[simp] theorem kSlA_def {lo hi : Pt} : kSlA lo hi d ρ = ePt lo ρ (kSlB d hi) := nrfl rfl
@[simp] theorem eSl_def {lo hi : Pt} : eSl f lo hi ρ = (f ρ).bindV (kSlA lo hi) := by
  unfold eSl
  refine bindV_congr fun d ρ => ?_
  have h : ∀ (k k' : Option Int → Env → R) (p : Pt) (ρ : Env), (∀ i ρ, k i ρ = k' i ρ) → ePt p ρ k = ePt p ρ k' := fun k k' p ρ h => by
    have : k = k' := by funext i ρ; exact h i ρ
    rw [this]
  refine h _ _ lo ρ fun i ρ => h _ _ hi ρ fun j ρ => ?_
  show _ = R.ofO _ _
  cases slD d.un i j <;> rfl
def kIsi (ts : List Ty) : D → Env → R := fun d ρ => .ok (.val (.bool (isTs ts d.un))) ρ
@[simp] theorem kIsi_def {ts : List Ty} : kIsi ts d ρ = .ok (.val (.bool (isTs ts d.un))) ρ := nrfl rfl
@[simp] theorem eIsi_def {ts : List Ty} : eIsi ts f ρ = (f ρ).bindV (kIsi ts) := nrfl rfl
def kIdxB (ds : List D) : D → Env → R := fun e ρ => R.ofO (indexD ds e) ρ
@[simp] theorem kIdxB_def {ds : List D} : kIdxB ds e ρ = R.ofO (indexD ds e) ρ := nrfl rfl
def kIdxA (fb : EX) : D → Env → R := fun d ρ => match d.un with
  | .list ds => (fb ρ).bindV (kIdxB ds)
  | _ => .bad
@[simp] theorem kIdxA_def {ds : List D} : kIdxA fb (.list ds) ρ = (fb ρ).bindV (kIdxB ds) := nrfl rfl
@[simp] theorem eIdx_def : eIdx fa fb ρ = (fa ρ).bindV (kIdxA fb) := by
  unfold eIdx
  refine bindV_congr fun d ρ => ?_
  unfold kIdxA
  cases d.un with
  | list ds =>
    dsimp only
    refine bindV_congr fun e ρ => ?_
    show _ = R.ofO _ _
    cases indexD ds e <;> rfl
  | _ => dsimp only
@[simp] theorem eIdxT_def {ds : List D} : eIdxT ds fb ρ = (fb ρ).bindV (kIdxB ds) := by
  unfold eIdxT
  refine bindV_congr fun e ρ => ?_
  show _ = R.ofO _ _
  cases indexD ds e <;> rfl
def kItems : D → Env → R := fun d ρ => match d.un with
  | .dict kvs => .ok (.own (.lst (itemsD kvs))) ρ
  | _ => .bad
@[simp] theorem kItems_def {kvs : List (D × D)} : kItems (.dict kvs) ρ = .ok (.own (.lst (itemsD kvs))) ρ := nrfl rfl
@[simp] theorem eItems_def : eItems f ρ = (f ρ).bindV kItems := nrfl rfl
def R.flat (r : R) (ρ : Env) : R := match r with
  | .ok (.val d) _ => if solidD d = true then .ok (.val d) ρ else .bad
  | .ok (.own (.lst ds)) _ => if solidL ds = true then .ok (.own (.lst ds)) ρ else .bad
  | _ => .bad
@[simp] theorem flat_ok : (R.ok (.val d) ρ').flat ρ = if solidD d = true then .ok (.val d) ρ else .bad := nrfl rfl
@[simp] theorem flat_own {ds : List D} : (R.ok (.own (.lst ds)) ρ').flat ρ = if solidL ds = true then .ok (.own (.lst ds)) ρ else .bad := nrfl rfl
@[simp] theorem solidD_none : solidD .none = true := nrfl rfl
@[simp] theorem solidD_bool (b : Bool) : solidD (.bool b) = true := nrfl rfl
@[simp] theorem solidD_int (b : Int) : solidD (.int b) = true := nrfl rfl
@[simp] theorem solidD_str (b : Str) : solidD (.str b) = true := nrfl rfl
@[simp] theorem solidD_tuple (ds : List D) : solidD (.tuple ds) = solidL ds := nrfl (by rw [solidD])
@[simp] theorem solidL_nil : solidL [] = true := nrfl (by rw [solidL])
@[simp] theorem solidL_cons (d : D) (ds : List D) : solidL (d :: ds) = (solidD d && solidL ds) := nrfl (by rw [solidL])
theorem solidL_all : ∀ {ds : List D}, (∀ d ∈ ds, solidD d = true) → solidL ds = true
  | [], _ => solidL_nil
  | d :: ds, h => by rw [solidL_cons, h d List.mem_cons_self, solidL_all fun x hx => h x (List.mem_cons_of_mem _ hx)]; rfl
theorem solidL_map {α : Type} {f : α → D} {xs : List α} (h : ∀ a ∈ xs, solidD (f a) = true) : solidL (xs.map f) = true := solidL_all fun d hd => by
  obtain ⟨a, ha, rfl⟩ := List.mem_map.mp hd
  exact h a ha
@[simp] theorem solidD_ite : solidD (if P then d else e) = if P then solidD d else solidD e := by split <;> rfl
@[simp] theorem flat_ite : (if P then r else r').flat ρ = if P then r.flat ρ else r'.flat ρ := by split <;> rfl
@[simp] theorem eBor_def : eBor f ρ = (f (ρ.map bor1)).flat ρ := nrfl rfl
@[simp] theorem bor1_val : bor1 (.val d) = .val d := nrfl rfl
@[simp] theorem bor1_emp : bor1 .emp = .emp := nrfl rfl
@[simp] theorem bor1_fn (x : Str) : bor1 (.fn x) = .fn x := nrfl rfl
@[simp] theorem bor1_own' (c : Cl) : bor1 (.own c) = .val c.frz := nrfl rfl
@[simp] theorem bor1_ref (c : Cl) : bor1 (.ref c) = .val c.frz := nrfl rfl
@[simp] theorem flatD_none : flatD .none = true := nrfl rfl
@[simp] theorem flatD_bool (b : Bool) : flatD (.bool b) = true := nrfl rfl
@[simp] theorem flatD_int (b : Int) : flatD (.int b) = true := nrfl rfl
@[simp] theorem flatD_str (b : Str) : flatD (.str b) = true := nrfl rfl
@[simp] theorem flatD_ite : flatD (if P then d else e) = if P then flatD d else flatD e := by split <;> rfl
/-! own lists -/
def slL (s : Option Sl) : Option (List D) := match s with
  | some (.own (.lst c)) => some c
  | some (.ref (.lst c)) => some c
  | _ => none
@[simp] theorem slL_own {c : List D} : slL (some (.own (.lst c))) = some c := nrfl rfl
@[simp] theorem slL_ref {c : List D} : slL (some (.ref (.lst c))) = some c := nrfl rfl
@[simp] theorem getL_def : getL ρ i = slL ρ[i]? := by
  unfold getL slL
  cases ρ[i]? with
  | none => rfl
  | some s => cases s with
    | own c => cases c <;> rfl
    | ref c => cases c <;> rfl
    | _ => rfl
def slP (s : Option Sl) (ρ : Env) (i : Nat) (c : List D) : Env := match s with
  | some (.own _) => ρ.set i (.own (.lst c))
  | some (.ref _) => ρ.set i (.ref (.lst c))
  | _ => ρ
@[simp] theorem slP_own {c : Cl} {l : List D} : slP (some (.own c)) ρ i l = ρ.set i (.own (.lst l)) := nrfl rfl
@[simp] theorem slP_ref {c : Cl} {l : List D} : slP (some (.ref c)) ρ i l = ρ.set i (.ref (.lst l)) := nrfl rfl
@[simp] theorem putL_def {c : List D} : putL ρ i c = slP ρ[i]? ρ i c := by
  unfold putL putC slP
  cases ρ[i]? with
  | none => rfl
  | some s => cases s <;> rfl
def mOut (x : Option (D × List D)) (ρ : Env) (i : Nat) : R := match x with
  | some (o, c') => .ok (.val o) (putL ρ i c')
  | none => .bad
@[simp] theorem mOut_some {x : D} {c : List D} : mOut (some (x, c)) ρ i = .ok (.val x) (putL ρ i c) := nrfl rfl
@[simp] theorem mOut_none : mOut none ρ i = .bad := nrfl rfl
@[simp] theorem mOut_ite {a b : Option (D × List D)} : mOut (if P then a else b) ρ i = if P then mOut a ρ i else mOut b ρ i := by split <;> rfl
def kMethL (gg : List D → List D → Option (D × List D)) (i : Nat) (ds : List D) (ρ : Env) (c : Option (List D)) : R := match c with
  | some c => mOut (gg c ds) ρ i
  | none => .bad
@[simp] theorem kMethL_some {gg : List D → List D → Option (D × List D)} {ds c : List D} : kMethL gg i ds ρ (some c) = mOut (gg c ds) ρ i := nrfl rfl
def kMeth (gg : List D → List D → Option (D × List D)) (i : Nat) : List D → Env → R := fun ds ρ => kMethL gg i ds ρ (getL ρ i)
@[simp] theorem kMeth_def {gg : List D → List D → Option (D × List D)} {ds : List D} : kMeth gg i ds ρ = kMethL gg i ds ρ (getL ρ i) := nrfl rfl
def guardL (c : Option (List D)) (r : R) : R := match c with
  | some _ => r
  | none => .bad
@[simp] theorem guardL_some {c : List D} : guardL (some c) r = r := nrfl rfl
@[simp] theorem eMeth_def {gg : List D → List D → Option (D × List D)} : eMeth i gg fs ρ = guardL (getL ρ i) ((eArgsR fs ρ).bindL (kMeth gg i)) := by
  unfold eMeth guardL
  cases getL ρ i with
  | none => rfl
  | some c =>
    simp only
    rw [eArgs_eq]
    refine bindL_congr fun ds ρ => ?_
    unfold kMeth kMethL
    cases getL ρ i with
    | none => rfl
    | some c =>
      simp only [mOut] <;> (cases gg c ds <;> rfl)
/-! statements -/
def SR.seq (s : SR) (q : SX) : SR := match s with
  | .nx ρ' => q ρ'
  | r => r
@[simp] theorem seq_nx : (SR.nx ρ).seq q = q ρ := nrfl rfl
@[simp] theorem seq_ret : (SR.ret o ρ).seq q = .ret o ρ := nrfl rfl
@[simp] theorem seq_bad : SR.bad.seq q = .bad := nrfl rfl
@[simp] theorem seq_brk : (SR.brk ρ).seq q = .brk ρ := nrfl rfl
@[simp] theorem seq_ct : (SR.ct ρ).seq q = .ct ρ := nrfl rfl
@[simp] theorem seq_exc : (SR.exc cn xs ρ).seq q = .exc cn xs ρ := nrfl rfl
@[simp] theorem seq_ite : (if P then s else s').seq q = if P then s.seq q else s'.seq q := by split <;> rfl
@[simp] theorem sNx_def : sNx ρ = .nx ρ := nrfl rfl
@[simp] theorem sSeq_def : sSeq p q ρ = (p ρ).seq q := by unfold sSeq SR.seq; cases p ρ <;> rfl
def SR.ofE (o : Option Env) : SR := match o with
  | some ρ => .nx ρ
  | none => .bad
@[simp] theorem ofE_some : SR.ofE (some ρ) = .nx ρ := nrfl rfl
@[simp] theorem ofE_none : SR.ofE none = .bad := nrfl rfl
def asgO (i : Nat) (s : Option Sl) (ρ : Env) : SR := match s with
  | some s => SR.ofE (setSl i s ρ)
  | none => .bad
@[simp] theorem asgO_some : asgO i (some o) ρ = SR.ofE (setSl i o ρ) := nrfl rfl
def kAsg (i : Nat) : Sl → Env → SR := fun o ρ => asgO i o.toVal ρ
@[simp] theorem kAsg_def : kAsg i o ρ = asgO i o.toVal ρ := nrfl rfl
theorem bs_congr {k k' : Sl → Env → SR} (h : ∀ d ρ, k d ρ = k' d ρ) : r.bs k = r.bs k' := by
  have : k = k' := by funext d ρ; exact h d ρ
  rw [this]
@[simp] theorem sAsg_def : sAsg i f ρ = (f ρ).bs (kAsg i) := by
  unfold sAsg
  refine bs_congr fun o ρ => ?_
  unfold kAsg asgO SR.ofE
  cases o.toVal with
  | none => rfl
  | some s => simp only <;> (cases setSl i s ρ <;> rfl)
def kAsgO (i : Nat) : Sl → Env → SR := fun o ρ => asgO i (wantsOwn o) ρ
@[simp] theorem wantsOwn_own (c : Cl) : wantsOwn (.own c) = some (.own c) := nrfl rfl
@[simp] theorem kAsgO_def : kAsgO i o ρ = asgO i (wantsOwn o) ρ := nrfl rfl
@[simp] theorem sAsgO_def : sAsgO i f ρ = (f ρ).bs (kAsgO i) := by
  unfold sAsgO
  refine bs_congr fun o ρ => ?_
  unfold kAsgO asgO SR.ofE wantsOwn
  cases o with
  | own c => simp only <;> (cases setSl i (.own c) ρ <;> rfl)
  | _ => rfl
def tgtO (t : Tg) (s : Option D) (ρ : Env) : SR := match s with
  | some d => SR.ofE (t.h d ρ)
  | none => .bad
@[simp] theorem tgtO_some {t : Tg} : tgtO t (some d) ρ = SR.ofE (t.h d ρ) := nrfl rfl
def kTgt (t : Tg) : Sl → Env → SR := fun o ρ => tgtO t o.frz ρ
@[simp] theorem kTgt_def {t : Tg} : kTgt t o ρ = tgtO t o.frz ρ := nrfl rfl
@[simp] theorem sTgt_def {t : Tg} : sTgt t f ρ = (f ρ).bs (kTgt t) := by
  unfold sTgt
  refine bs_congr fun o ρ => ?_
  unfold kTgt tgtO SR.ofE
  cases o.frz with
  | none => rfl
  | some d => simp only <;> (cases t.h d ρ <;> rfl)
def kDrop : Sl → Env → SR := fun _ ρ => .nx ρ
@[simp] theorem kDrop_def : kDrop o ρ = .nx ρ := nrfl rfl
@[simp] theorem sDrop_def : sDrop f ρ = (f ρ).bs kDrop := nrfl rfl
def kRet : Sl → Env → SR := fun o ρ => .ret o ρ
@[simp] theorem kRet_def : kRet o ρ = .ret o ρ := nrfl rfl
@[simp] theorem sRet_def : sRet f ρ = (f ρ).bs kRet := nrfl rfl
def kIfS (p q : SX) : Bool → Env → SR := fun b ρ => if b = true then p ρ else q ρ
@[simp] theorem kIfS_def : kIfS p q b ρ = if b = true then p ρ else q ρ := nrfl rfl
@[simp] theorem sIf_def : sIf c p q ρ = (c ρ).bsB (kIfS p q) := nrfl rfl
@[simp] theorem sBrk_def : sBrk ρ = .brk ρ := nrfl rfl
@[simp] theorem sCt_def : sCt ρ = .ct ρ := nrfl rfl
def R.raise (r : R) (cn : Str) (fl : List Str) : SR := match r with
  | .ok (.val (.list ds)) ρ1 => .exc cn (fl.zip ds) ρ1
  | .exc c' gs ρ1 => .exc c' gs ρ1
  | _ => .bad
@[simp] theorem raise_ok {fl : List Str} {ds : List D} : (R.ok (.val (.list ds)) ρ).raise cn fl = .exc cn (fl.zip ds) ρ := nrfl rfl
@[simp] theorem sRaise_def {fl : List Str} : sRaise cn fl fs ρ = (eArgsR fs ρ).raise cn fl := nrfl rfl
def setIx (i : Nat) (d : D) (k : Int) (ρ : Env) (c : Option (List D)) : SR := match c with
  | some c => (match ixN c.length k with
    | some j => .nx (putL ρ i (c.set j d))
    | none => .bad)
  | none => .bad
def ixO (o : Option Nat) (i : Nat) (d : D) (ρ : Env) (c : List D) : SR := match o with
  | some j => .nx (putL ρ i (c.set j d))
  | none => .bad
@[simp] theorem ixO_some {c : List D} : ixO (some j) i d ρ c = .nx (putL ρ i (c.set j d)) := nrfl rfl
@[simp] theorem setIx_some {k : Int} {c : List D} : setIx i d k ρ (some c) = ixO (ixN c.length k) i d ρ c := nrfl rfl
def kSetB (i : Nat) (d : D) : Sl → Env → SR := fun ok ρ => match ok with
  | .val (.int k) => setIx i d k ρ (getL ρ i)
  | _ => .bad
@[simp] theorem kSetB_def {k : Int} : kSetB i d (.val (.int k)) ρ = setIx i d k ρ (getL ρ i) := nrfl rfl
def guardS (c : Option (List D)) (r : SR) : SR := match c with
  | some _ => r
  | none => .bad
@[simp] theorem guardS_some {c : List D} : guardS (some c) s = s := nrfl rfl
def setD (i : Nat) (g : EX) (d : Option D) (ρ : Env) : SR := match d with
  | some d => guardS (getL ρ i) ((g ρ).bs (kSetB i d))
  | none => .bad
@[simp] theorem setD_some : setD i g (some d) ρ = guardS (getL ρ i) ((g ρ).bs (kSetB i d)) := nrfl rfl
def kSetA (i : Nat) (g : EX) : Sl → Env → SR := fun o ρ => setD i g o.frz ρ
@[simp] theorem kSetA_def : kSetA i g o ρ = setD i g o.frz ρ := nrfl rfl
@[simp] theorem sSetIx_def : sSetIx i f g ρ = (f ρ).bs (kSetA i g) := by
  unfold sSetIx
  refine bs_congr fun o ρ => ?_
  unfold kSetA setD
  cases o.frz with
  | none => rfl
  | some d =>
    simp only
    unfold guardS
    cases getL ρ i with
    | none => rfl
    | some c =>
      refine bs_congr fun ok ρ => ?_
      unfold kSetB setIx
      cases ok with
      | val x =>
        cases x with
        | int k => simp only <;> (cases getL ρ i <;> rfl)
        | _ => rfl
      | _ => rfl
def SR.try_ (s : SR) (hs : List Hd) : SR := match s with
  | .exc c fs ρ1 => handleD hs c fs ρ1
  | r => r
@[simp] theorem try_exc {hs : List Hd} : (SR.exc cn xs ρ).try_ hs = handleD hs cn xs ρ := nrfl rfl
@[simp] theorem try_nx {hs : List Hd} : (SR.nx ρ).try_ hs = .nx ρ := nrfl rfl
@[simp] theorem try_ret {hs : List Hd} : (SR.ret o ρ).try_ hs = .ret o ρ := nrfl rfl
@[simp] theorem try_ct {hs : List Hd} : (SR.ct ρ).try_ hs = .ct ρ := nrfl rfl
@[simp] theorem try_brk {hs : List Hd} : (SR.brk ρ).try_ hs = .brk ρ := nrfl rfl
@[simp] theorem try_ite {hs : List Hd} : (if P then s else s').try_ hs = if P then s.try_ hs else s'.try_ hs := by split <;> rfl
@[simp] theorem sTry_def {hs : List Hd} : sTry hs p ρ = (p ρ).try_ hs := by unfold sTry SR.try_; cases p ρ <;> rfl
def OR.cons' (r : OR) (s : Sl) : OR := match r with
  | .ok os ρ => .ok (s :: os) ρ
  | r => r
@[simp] theorem ocons_ok {os : List Sl} : (OR.ok os ρ).cons' o = .ok (o :: os) ρ := nrfl rfl
@[simp] theorem ocons_exc : (OR.exc cn xs ρ).cons' o = .exc cn xs ρ := nrfl rfl
@[simp] theorem ocons_ite {a b : OR} : (if P then a else b).cons' o = if P then a.cons' o else b.cons' o := by split <;> rfl
@[simp] theorem outsR_nil : outsR [] ρ = .ok [] ρ := nrfl rfl
def kOutO (fs : List (Bool × EX)) (s : Option Sl) (ρ : Env) : OR := match s with
  | some s => (outsR fs ρ).cons' s
  | none => .bad
@[simp] theorem kOutO_some {fs : List (Bool × EX)} : kOutO fs (some o) ρ = (outsR fs ρ).cons' o := nrfl rfl
def kOut (b : Bool) (fs : List (Bool × EX)) : Sl → Env → OR := fun o ρ => kOutO fs (if b = true then wantsOwn o else o.toVal) ρ
@[simp] theorem kOut_def {b : Bool} {fs : List (Bool × EX)} : kOut b fs o ρ = kOutO fs (if b = true then wantsOwn o else o.toVal) ρ := nrfl rfl
@[simp] theorem outsR_cons {b : Bool} {fs : List (Bool × EX)} : outsR ((b, f) :: fs) ρ = (f ρ).toO (kOut b fs) := by
  show (f ρ).toO _ = _
  have : ∀ (k k' : Sl → Env → OR), (∀ o ρ, k o ρ = k' o ρ) → (f ρ).toO k = (f ρ).toO k' := fun k k' h => by
    have : k = k' := by funext d ρ; exact h d ρ
    rw [this]
  refine this _ _ fun o ρ => ?_
  unfold kOut kOutO
  cases (if b = true then wantsOwn o else o.toVal) with
  | none => rfl
  | some s => simp only <;> (cases outsR fs ρ <;> rfl)
def OR.par (r : OR) (is : List Nat) : SR := match r with
  | .bad => .bad
  | .exc c gs ρ1 => .exc c gs ρ1
  | .ok os ρ1 => SR.ofE (storeE is os ρ1)
@[simp] theorem par_ok {is : List Nat} {os : List Sl} : (OR.ok os ρ).par is = SR.ofE (storeE is os ρ) := nrfl rfl
@[simp] theorem par_exc {is : List Nat} : (OR.exc cn xs ρ).par is = .exc cn xs ρ := nrfl rfl
@[simp] theorem par_ite {is : List Nat} {a b : OR} : (if P then a else b).par is = if P then a.par is else b.par is := by split <;> rfl
@[simp] theorem sPar_def {is : List Nat} {fs : List (Bool × EX)} : sPar is fs ρ = (outsR fs ρ).par is := by
  unfold sPar OR.par
  cases outsR fs ρ with
  | ok os ρ => simp only; unfold SR.ofE; cases storeE is os ρ <;> rfl
  | _ => rfl
@[simp] theorem storeE_nil : storeE [] [] ρ = some ρ := nrfl rfl
@[simp] theorem storeE_cons {is : List Nat} {s : Sl} {os : List Sl} : storeE (i :: is) (s :: os) ρ = (setSl i s ρ).bind (storeE is os) := nrfl rfl
def slS (s : Option Sl) (i : Nat) (o : Sl) (ρ : Env) : Option Env := match s with
  | some (.ref _) => none
  | some _ => some (ρ.set i o)
  | none => none
@[simp] theorem slS_val : slS (some (.val d)) i o ρ = some (ρ.set i o) := nrfl rfl
@[simp] theorem slS_emp : slS (some .emp) i o ρ = some (ρ.set i o) := nrfl rfl
@[simp] theorem slS_own {c : Cl} : slS (some (.own c)) i o ρ = some (ρ.set i o) := nrfl rfl
@[simp] theorem slS_fn {c : Str} : slS (some (.fn c)) i o ρ = some (ρ.set i o) := nrfl rfl
@[simp] theorem setSl_def {s : Sl} : setSl i s ρ = slS ρ[i]? i s ρ := by
  unfold setSl slS
  cases ρ[i]? with
  | none => rfl
  | some s => cases s <;> rfl
/-! calls -/
def SR.toF (s : SR) (as : List Sl) : FR := match s with
  | .ret o ρ => .ret o (back as ρ)
  | .nx ρ => .ret (.val .none) (back as ρ)
  | .exc c fs ρ => .exc c fs (back as ρ)
  | _ => .bad
@[simp] theorem toF_ret {as : List Sl} : (SR.ret o ρ).toF as = .ret o (back as ρ) := nrfl rfl
@[simp] theorem toF_nx {as : List Sl} : (SR.nx ρ).toF as = .ret (.val .none) (back as ρ) := nrfl rfl
@[simp] theorem toF_exc {as : List Sl} : (SR.exc cn xs ρ).toF as = .exc cn xs (back as ρ) := nrfl rfl
@[simp] theorem toF_ite {as : List Sl} : (if P then s else s').toF as = if P then s.toF as else s'.toF as := by split <;> rfl
@[simp] theorem ite_fret {as : List Sl} : (if P then FR.ret o as else FR.ret o' as) = FR.ret (if P then o else o') as := by split <;> rfl
@[simp] theorem denOf_def {m : Nat} {as : List Sl} : denOf m p as = (p (as ++ List.replicate (m - as.length) .emp)).toF as := by
  unfold denOf SR.toF
  cases p (as ++ List.replicate (m - as.length) .emp) <;> rfl
@[simp] theorem back_nil : back [] ρ = [] := by cases ρ <;> rfl
@[simp] theorem back_cons {s r : Sl} {as : List Sl} : back (s :: as) (r :: ρ) = (if s.isRef = true then r else s) :: back as ρ := nrfl rfl
@[simp] theorem isRef_val : (Sl.val d).isRef = false := nrfl rfl
@[simp] theorem isRef_fn (x : Str) : (Sl.fn x).isRef = false := nrfl rfl
@[simp] theorem isRef_ref (c : Cl) : (Sl.ref c).isRef = true := nrfl rfl
@[simp] theorem isRef_own (c : Cl) : (Sl.own c).isRef = false := nrfl rfl
@[simp] theorem isRef_emp : Sl.emp.isRef = false := nrfl rfl
@[simp] theorem isOwn_val : (Sl.val d).isOwn = false := nrfl rfl
@[simp] theorem isOwn_fn (x : Str) : (Sl.fn x).isOwn = false := nrfl rfl
@[simp] theorem isOwn_ref (c : Cl) : (Sl.ref c).isOwn = true := nrfl rfl
@[simp] theorem isOwn_own (c : Cl) : (Sl.own c).isOwn = true := nrfl rfl
@[simp] theorem isOwn_emp : Sl.emp.isOwn = false := nrfl rfl
def CA.cons' (r : CA) (x : Sl ⊕ Nat) : CA := match r with
  | .ok l ρ => .ok (x :: l) ρ
  | r => r
@[simp] theorem ccons_ok {x : Sl ⊕ Nat} {l : List (Sl ⊕ Nat)} : (CA.ok l ρ).cons' x = .ok (x :: l) ρ := nrfl rfl
@[simp] theorem ccons_exc {x : Sl ⊕ Nat} : (CA.exc cn xs ρ).cons' x = .exc cn xs ρ := nrfl rfl
@[simp] theorem ccons_ite {x : Sl ⊕ Nat} {a b : CA} : (if P then a else b).cons' x = if P then a.cons' x else b.cons' x := by split <;> rfl
@[simp] theorem cArgs_nil : cArgs [] ρ = .ok [] ρ := nrfl rfl
def kCA (as : List Ar) : Sl → Env → CA := fun s ρ => (cArgs as ρ).cons' (.inl s)
@[simp] theorem kCA_def {as : List Ar} : kCA as o ρ = (cArgs as ρ).cons' (.inl o) := nrfl rfl
@[simp] theorem cArgs_v {as : List Ar} : cArgs (.v f :: as) ρ = (f ρ).toC (kCA as) := by
  show (f ρ).toC _ = _
  have : ∀ (k k' : Sl → Env → CA), (∀ o ρ, k o ρ = k' o ρ) → (f ρ).toC k = (f ρ).toC k' := fun k k' h => by
    have : k = k' := by funext d ρ; exact h d ρ
    rw [this]
  refine this _ _ fun o ρ => ?_
  unfold kCA
  cases cArgs as ρ <;> rfl
def cR (s : Option Sl) (i : Nat) (r : CA) : CA := match s with
  | some (.own _) => r.cons' (.inr i)
  | some (.ref _) => r.cons' (.inr i)
  | _ => .bad
@[simp] theorem cR_own {c : Cl} {r : CA} : cR (some (.own c)) i r = r.cons' (.inr i) := nrfl rfl
@[simp] theorem cR_ref {c : Cl} {r : CA} : cR (some (.ref c)) i r = r.cons' (.inr i) := nrfl rfl
@[simp] theorem cArgs_r {as : List Ar} : cArgs (.r i :: as) ρ = cR ρ[i]? i (cArgs as ρ) := by
  simp only [cArgs]
  unfold cR
  cases ρ[i]? with
  | none => rfl
  | some s =>
    cases s with
    | own c => cases cArgs as ρ <;> rfl
    | ref c => cases cArgs as ρ <;> rfl
    | _ => rfl
def consO {α : Type} (x : Option α) (r : Option (List α)) : Option (List α) := match x with
  | some x => r.map (x :: ·)
  | none => none
@[simp] theorem consO_some {α : Type} {x : α} {r : List α} : consO (some x) (some r) = some (x :: r) := nrfl rfl
@[simp] theorem pickL_nil {l : List (Sl ⊕ Nat)} : pickL l [] = some [] := nrfl rfl
@[simp] theorem pickL_a {l : List (Sl ⊕ Nat)} {r : List Src} : pickL l (.a i :: r) = consO l[i]? (pickL l r) := by
  simp only [pickL]
  unfold consO
  cases l[i]? <;> rfl
@[simp] theorem pickL_d {l : List (Sl ⊕ Nat)} {r : List Src} : pickL l (.d j d :: r) = consO (some (.inl (.val d))) (pickL l r) := nrfl rfl
@[simp] theorem refsOf_nil : refsOf [] = [] := nrfl rfl
@[simp] theorem refsOf_inl {s : Sl} {l : List (Sl ⊕ Nat)} : refsOf (.inl s :: l) = refsOf l := nrfl rfl
@[simp] theorem refsOf_inr {l : List (Sl ⊕ Nat)} : refsOf (.inr i :: l) = i :: refsOf l := nrfl rfl
def slA (s : Option Sl) : Option Sl := match s with
  | some (.own c) => some (.ref c)
  | some (.ref c) => some (.ref c)
  | _ => none
@[simp] theorem slA_own {c : Cl} : slA (some (.own c)) = some (.ref c) := nrfl rfl
@[simp] theorem slA_ref {c : Cl} : slA (some (.ref c)) = some (.ref c) := nrfl rfl
@[simp] theorem mkAs_nil : mkAs [] ρ = some [] := nrfl rfl
@[simp] theorem mkAs_inl {s : Sl} {l : List (Sl ⊕ Nat)} : mkAs (.inl s :: l) ρ = consO (some s) (mkAs l ρ) := nrfl rfl
@[simp] theorem mkAs_inr {l : List (Sl ⊕ Nat)} : mkAs (.inr i :: l) ρ = consO (slA ρ[i]?) (mkAs l ρ) := by
  simp only [mkAs]
  unfold slA consO
  cases ρ[i]? with
  | none => rfl
  | some s => cases s <;> rfl
def slU (s : Option Sl) (i : Nat) (a : Option Sl) (ρ : Env) : Env := match s with
  | some s => ρ.set i (upd1 s a)
  | none => ρ
@[simp] theorem slU_some {s : Sl} {a : Option Sl} : slU (some s) i a ρ = ρ.set i (upd1 s a) := nrfl rfl
@[simp] theorem putB_nil {as : List Sl} : putB [] as ρ = ρ := nrfl rfl
@[simp] theorem putB_inl {s : Sl} {l : List (Sl ⊕ Nat)} {as : List Sl} : putB (.inl s :: l) as ρ = putB l as.tail ρ := nrfl rfl
@[simp] theorem putB_inr {l : List (Sl ⊕ Nat)} {as : List Sl} : putB (.inr i :: l) as ρ = putB l as.tail (slU ρ[i]? i as.head? ρ) := by
  simp only [putB]
  unfold slU
  cases ρ[i]? <;> rfl
@[simp] theorem upd1_own' {c c' : Cl} : upd1 (.own c) (some (.ref c')) = .own c' := nrfl rfl
@[simp] theorem upd1_ref {c c' : Cl} : upd1 (.ref c) (some (.ref c')) = .ref c' := nrfl rfl
def FR.toR (r : FR) (l : List (Sl ⊕ Nat)) (ρ : Env) : R := match r with
  | .bad => .bad
  | .ret o as' => .ok o (putB l as' ρ)
  | .exc c fs as' => .exc c fs (putB l as' ρ)
@[simp] theorem toR_ret {as : List Sl} {l : List (Sl ⊕ Nat)} : (FR.ret o as).toR l ρ = .ok o (putB l as ρ) := nrfl rfl
@[simp] theorem toR_exc {as : List Sl} {l : List (Sl ⊕ Nat)} : (FR.exc cn xs as).toR l ρ = .exc cn xs (putB l as ρ) := nrfl rfl
@[simp] theorem toR_ite {a b : FR} {l : List (Sl ⊕ Nat)} : (if P then a else b).toR l ρ = if P then a.toR l ρ else b.toR l ρ := by split <;> rfl
def callA (den : Den) (l : List (Sl ⊕ Nat)) (ρ : Env) (as : Option (List Sl)) : R := match as with
  | some as => (den as).toR l ρ
  | none => .bad
@[simp] theorem callA_some {den : Den} {l : List (Sl ⊕ Nat)} {as : List Sl} : callA den l ρ (some as) = (den as).toR l ρ := nrfl rfl
def callL (den : Den) (ρ : Env) (l : Option (List (Sl ⊕ Nat))) : R := match l with
  | some l => if (refsOf l).Nodup then callA den l ρ (mkAs l ρ) else .bad
  | none => .bad
@[simp] theorem callL_some {den : Den} {l : List (Sl ⊕ Nat)} : callL den ρ (some l) = if (refsOf l).Nodup then callA den l ρ (mkAs l ρ) else .bad := nrfl rfl
def CA.call (r : CA) (den : Den) (srcs : List Src) : R := match r with
  | .bad => .bad
  | .exc c fs ρ1 => .exc c fs ρ1
  | .ok l0 ρ1 => callL den ρ1 (pickL l0 srcs)
@[simp] theorem call_ok {den : Den} {srcs : List Src} {l : List (Sl ⊕ Nat)} : (CA.ok l ρ).call den srcs = callL den ρ (pickL l srcs) := nrfl rfl
@[simp] theorem call_exc {den : Den} {srcs : List Src} : (CA.exc cn xs ρ).call den srcs = .exc cn xs ρ := nrfl rfl
@[simp] theorem call_ite {den : Den} {srcs : List Src} {a b : CA} : (if P then a else b).call den srcs = if P then a.call den srcs else b.call den srcs := by split <;> rfl
@[simp] theorem eCallG_def {den : Den} {args : List Ar} {srcs : List Src} : eCallG den args srcs ρ = (cArgs args ρ).call den srcs := by
  unfold eCallG CA.call
  cases cArgs args ρ with
  | ok l ρ1 =>
    simp only
    unfold callL
    cases pickL l srcs with
    | none => rfl
    | some l =>
      simp only
      split
      · unfold callA
        cases mkAs l ρ1 with
        | none => rfl
        | some as => simp only; unfold FR.toR; cases den as <;> rfl
      · rfl
  | _ => rfl
/-! targets, walks -/
@[simp] theorem gN_h : (gN i).h d ρ = setSl i (.val d) ρ := nrfl rfl
@[simp] theorem gsN_h : gsN.h [] ρ = some ρ := nrfl rfl
@[simp] theorem gsC_h {t : Tg} {ts : Tgs} {ds : List D} : (gsC t ts).h (d :: ds) ρ = (t.h d ρ).bind (ts.h ds) := nrfl rfl
def gTo (ts : Tgs) (n : Nat) (d : D) (ρ : Env) : Option Env := match d with
  | .tuple ds => if ds.length = n then ts.h ds ρ else none
  | .list ds => if ds.length = n then ts.h ds ρ else none
  | _ => none
@[simp] theorem gTo_list {ts : Tgs} {ds : List D} : gTo ts n (.list ds) ρ = if ds.length = n then ts.h ds ρ else none := nrfl rfl
@[simp] theorem gTo_tuple {ts : Tgs} {ds : List D} : gTo ts n (.tuple ds) ρ = if ds.length = n then ts.h ds ρ else none := nrfl rfl
@[simp] theorem gT_h {ts : Tgs} : (gT n ts).h d ρ = gTo ts n d.un ρ := by
  show (match d.un with | .tuple ds => if ds.length = n then ts.h ds ρ else none | .list ds => if ds.length = n then ts.h ds ρ else none | _ => none) = _
  unfold gTo
  cases d.un <;> rfl
def kAny : D → Env → R := fun d ρ => match itB d.un with
  | some ds => .ok (.val (.list ds)) ρ
  | none => .bad
@[simp] theorem kAny_list {ds : List D} : kAny (.list ds) ρ = .ok (.val (.list ds)) ρ := nrfl rfl
@[simp] theorem kAny_tuple {ds : List D} : kAny (.tuple ds) ρ = .ok (.val (.list ds)) ρ := nrfl rfl
@[simp] theorem kAny_str {x : Str} : kAny (.str x) ρ = .ok (.val (.list (x.cps.toList.map fun c => .str ⟨#[c]⟩))) ρ := nrfl rfl
@[simp] theorem iAny_def : iAny f ρ = (f ρ).bindV kAny := nrfl rfl
def kRng1 : List D → Env → R := fun ds ρ => match ds.map D.un with
  | [.int j] => if -(2 ^ 62) ≤ j ∧ j < 2 ^ 62 then .ok (.val (.list (rngL 0 j.toNat))) ρ else .bad
  | _ => .bad
theorem kRng1_def {j : Int} : kRng1 [.int j] ρ = if -(2 ^ 62) ≤ j ∧ j < 2 ^ 62 then .ok (.val (.list (rngL 0 j.toNat))) ρ else .bad := rfl
theorem big62 {j : Int} (h0 : -1000000000 ≤ j) (h : j ≤ 1000000000) : -(2 ^ 62 : Int) ≤ j ∧ j < 2 ^ 62 := by
  have e : (2 ^ 62 : Int) = 4611686018427387904 := by decide
  rw [e]
  exact ⟨by omega, by omega⟩
/-- small enough for a range's end -/
def SmallI (j : Int) : Prop := -1000000000 ≤ j ∧ j ≤ 1000000000
theorem smI (j : Int) (h1 : -1000000000 ≤ j) (h2 : j ≤ 1000000000) : SmallI j := ⟨h1, h2⟩
theorem smL (j : Int) (h : decide (-1000000000 ≤ j ∧ j ≤ 1000000000) = true := by rfl) : SmallI j := by
  have := of_decide_eq_true h
  exact this
theorem smN {n : Nat} (h : n ≤ 1000000000) : SmallI (n : Int) := ⟨by omega, by omega⟩
@[simp] theorem kRng1_ok {j : Int} (h : SmallI j) : kRng1 [.int j] ρ = .ok (.val (.list (rngL 0 j.toNat))) ρ := by
  rw [kRng1_def, if_pos (big62 h.1 h.2)]
@[simp] theorem iRng1D_def : iRng1D f ρ = (eArgsR [f] ρ).bindL kRng1 := eArgs_eq _ _ _
def kRng2 : List D → Env → R := fun ds ρ => match ds.map D.un with
  | [.int i, .int j] => if -(2 ^ 62) ≤ i ∧ i < 2 ^ 62 ∧ -(2 ^ 62) ≤ j ∧ j < 2 ^ 62 then .ok (.val (.list (rngL i (j - i).toNat))) ρ else .bad
  | _ => .bad
theorem kRng2_def {i j : Int} : kRng2 [.int i, .int j] ρ = if -(2 ^ 62) ≤ i ∧ i < 2 ^ 62 ∧ -(2 ^ 62) ≤ j ∧ j < 2 ^ 62 then .ok (.val (.list (rngL i (j - i).toNat))) ρ else .bad := rfl
@[simp] theorem kRng2_ok {i j : Int} (h : SmallI i) (h2 : SmallI j) : kRng2 [.int i, .int j] ρ = .ok (.val (.list (rngL i (j - i).toNat))) ρ := by
  obtain ⟨a, b⟩ := big62 h.1 h.2
  obtain ⟨c, d⟩ := big62 h2.1 h2.2
  rw [kRng2_def, if_pos ⟨a, b, c, d⟩]
@[simp] theorem iRng2D_def : iRng2D f g ρ = (eArgsR [f, g] ρ).bindL kRng2 := eArgs_eq _ _ _
def R.for_ (r : R) (t : Tg) (p : SX) : SR := match r with
  | .ok (.val (.list ds)) ρ1 => forD t p ds ρ1
  | .exc c fs ρ1 => .exc c fs ρ1
  | _ => .bad
@[simp] theorem for_ok {t : Tg} {ds : List D} : (R.ok (.val (.list ds)) ρ).for_ t p = forD t p ds ρ := nrfl rfl
@[simp] theorem for_exc {t : Tg} : (R.exc cn xs ρ).for_ t p = .exc cn xs ρ := nrfl rfl
@[simp] theorem for_ite {t : Tg} : (if P then r else r').for_ t p = if P then r.for_ t p else r'.for_ t p := by split <;> rfl
@[simp] theorem sFor_def {t : Tg} : sFor f t p ρ = (f ρ).for_ t p := by unfold sFor R.for_; cases f ρ <;> rfl
end
end Dk

set_option Elab.async false
set_option linter.all false
set_option maxRecDepth 100000
set_option maxHeartbeats 4000000
/-! Dk18: operators by simp -/
namespace Dk
open PySem PySem.Spec L2 PyProof.Rows
section
variable {i j : Int} {a b : Bool} {x y : Str} {ds es : List D} {d e : D}
theorem ofString_inj {s t : String} : (Str.ofString s = Str.ofString t) = (s = t) := by
  apply propext
  constructor
  · intro h
    rw [Str.ofString_eq_toList, Str.ofString_eq_toList] at h
    simp only [Str.mk.injEq] at h
    have h2 : s.toList.map Char.toNat = t.toList.map Char.toNat := by simpa using h
    have h3 : s.toList = t.toList := by
      have inj : ∀ (l m : List Char), l.map Char.toNat = m.map Char.toNat → l = m := by
        intro l
        induction l with
        | nil => intro m h; cases m <;> simp_all
        | cons c l ih =>
          intro m h
          cases m with
          | nil => simp at h
          | cons c' m =>
            simp only [List.map_cons, List.cons.injEq] at h
            have : c = c' := Char.ext (UInt32.toNat_inj.mp h.1)
            rw [this, ih m h.2]
      exact inj _ _ h2
    exact String.toList_inj.mp h3
  · intro h; rw [h]
theorem canLay_ofString (s : String) : PyData.canLay0 (.str (Str.ofString s)) = true := by
  show PyData.strOk (Str.ofString s) = true
  unfold PyData.strOk
  rw [Str.ofString_eq_toList]
  rw [Array.all_eq_true']
  intro c hc
  simp at hc
  obtain ⟨ch, _, rfl⟩ := hc
  have := ch.valid
  simp
  unfold UInt32.isValidChar Nat.isValidChar at this
  show ch.val.toNat < 1114112
  omega
@[simp] theorem addD_int : addD (.int i) (.int j) = some (.val (.int (i + j))) := nrfl rfl
@[simp] theorem addD_list : addD (.list ds) (.list es) = if ds.length + es.length ≤ sizeLine then some (.own (.lst (ds ++ es))) else none := nrfl rfl
@[simp] theorem addD_tuple : addD (.tuple ds) (.tuple es) = if ds.length + es.length ≤ sizeLine then some (.val (.tuple (ds ++ es))) else none := nrfl rfl
@[simp] theorem addD_str : addD (.str x) (.str y) = if x.length + y.length ≤ sizeLine then some (.val (.str (x ++ y))) else none := nrfl rfl
@[simp] theorem subD_int : subD (.int i) (.int j) = some (.val (.int (i - j))) := nrfl rfl
@[simp] theorem mulD_int : mulD (.int i) (.int j) = if mulOk i j then some (.val (.int (i * j))) else none := nrfl rfl
@[simp] theorem mulD_list : mulD (.list ds) (.int j) = if 0 ≤ j ∧ j ≤ 1000000 ∧ ds.length ≤ 16 then some (.own (.lst (List.replicate j.toNat ds).flatten)) else none := nrfl rfl
@[simp] theorem fdivD_int : fdivD (.int i) (.int j) = if j ≠ 0 ∧ j.natAbs < 1073741824 then some (.val (.int (i.fdiv j))) else none := nrfl rfl
@[simp] theorem modD_int : modD (.int i) (.int j) = if j ≠ 0 then some (.val (.int (i.fmod j))) else none := nrfl rfl
@[simp] theorem powD_int : powD (.int i) (.int j) = if 0 ≤ j ∧ j ≤ 1000000 ∧ i.natAbs < 2 ^ 64 then some (.val (.int (i ^ j.toNat))) else none := nrfl rfl
@[simp] theorem negD_int : negD (.int i) = some (.val (.int (-i))) := nrfl rfl
theorem shp (h : d.toP.canLay0 = true) (h2 : d.toP.depth ≤ 64) : SeqAt.shaped d.toP = true := by
  unfold SeqAt.shaped
  rw [h, decide_eq_true h2]; rfl
@[simp] theorem shp_int : SeqAt.shaped (D.int i).toP = true := nrfl rfl
@[simp] theorem shp_bool : SeqAt.shaped (D.bool a).toP = true := nrfl rfl
@[simp] theorem shp_none : SeqAt.shaped D.none.toP = true := nrfl rfl
@[simp] theorem shp_str (s : String) : SeqAt.shaped (D.str (Str.ofString s)).toP = true := shp (canLay_ofString s) (Nat.zero_le _)
@[simp] theorem eqv_int : PyData.eqv (D.int i).toP (D.int j).toP = decide (i = j) := by
  show (i == j) = decide (i = j)
  by_cases h : i = j <;> simp [h]
@[simp] theorem eqv_bool : PyData.eqv (D.bool a).toP (D.bool b).toP = (a == b) := nrfl rfl
@[simp] theorem eqv_none : PyData.eqv D.none.toP D.none.toP = true := nrfl rfl
@[simp] theorem eqv_str : PyData.eqv (D.str x).toP (D.str y).toP = decide (x = y) := by
  show (x == y) = decide (x = y)
  by_cases h : x = y <;> simp [h]
@[simp] theorem eqD_int : eqD (.int i) (.int j) = some (.val (.bool (decide (i = j)))) := by unfold eqD; rw [if_pos ⟨shp_int, shp_int⟩, eqv_int]
@[simp] theorem eqD_bool : eqD (.bool a) (.bool b) = some (.val (.bool (a == b))) := by unfold eqD; rw [if_pos ⟨shp_bool, shp_bool⟩, eqv_bool]
@[simp] theorem eqD_str (s t : String) : eqD (.str (Str.ofString s)) (.str (Str.ofString t)) = some (.val (.bool (decide (s = t)))) := by unfold eqD; rw [if_pos ⟨shp_str s, shp_str t⟩, eqv_str]; simp only [ofString_inj]
@[simp] theorem neD_int : neD (.int i) (.int j) = some (.val (.bool (!decide (i = j)))) := by unfold neD; rw [if_pos ⟨shp_int, shp_int⟩, eqv_int]
@[simp] theorem neD_bool : neD (.bool a) (.bool b) = some (.val (.bool (!(a == b)))) := by unfold neD; rw [if_pos ⟨shp_bool, shp_bool⟩, eqv_bool]
@[simp] theorem neD_str (s t : String) : neD (.str (Str.ofString s)) (.str (Str.ofString t)) = some (.val (.bool (!decide (s = t)))) := by unfold neD; rw [if_pos ⟨shp_str s, shp_str t⟩, eqv_str]; simp only [ofString_inj]
@[simp] theorem ltD_int : ltD (.int i) (.int j) = some (.val (.bool (decide (i < j)))) := nrfl rfl
@[simp] theorem gtD_int : gtD (.int i) (.int j) = some (.val (.bool (decide (j < i)))) := nrfl rfl
@[simp] theorem leD_int : leD (.int i) (.int j) = some (.val (.bool (decide (i ≤ j)))) := nrfl rfl
@[simp] theorem geD_int : geD (.int i) (.int j) = some (.val (.bool (decide (j ≤ i)))) := nrfl rfl
@[simp] theorem isD_none : isD d .none = some (.val (.bool (isNoneB d))) := by cases d <;> rfl
@[simp] theorem isD_bool : isD (.bool a) (.bool b) = some (.val (.bool (decide (a = b)))) := nrfl rfl
@[simp] theorem isNotD_none : isNotD d .none = some (.val (.bool (!isNoneB d))) := by cases d <;> rfl
@[simp] theorem isNotD_bool : isNotD (.bool a) (.bool b) = some (.val (.bool (!decide (a = b)))) := nrfl rfl
@[simp] theorem truB_bool : truB (.bool a) = some a := nrfl rfl
@[simp] theorem truB_int : truB (.int i) = some (i != 0) := nrfl rfl
@[simp] theorem truB_none : truB .none = some false := nrfl rfl
@[simp] theorem lenD_list : lenD [.list ds] = some (.val (.int ds.length)) := nrfl rfl
@[simp] theorem lenD_tuple : lenD [.tuple ds] = some (.val (.int ds.length)) := nrfl rfl
@[simp] theorem lenD_dict (kvs : List (D × D)) : lenD [.dict kvs] = some (.val (.int kvs.length)) := nrfl rfl
@[simp] theorem lenD_str : lenD [.str x] = if x.length ≤ sizeLine then some (.val (.int x.length)) else none := nrfl rfl
@[simp] theorem intD_int : intD [.int i] = some (.val (.int i)) := nrfl rfl
@[simp] theorem intD_bool : intD [.bool a] = some (.val (.int (if a then 1 else 0))) := nrfl rfl
@[simp] theorem absD_int : absD [.int i] = some (.val (.int (if i < 0 then -i else i))) := nrfl rfl
@[simp] theorem max2D_int : max2D [.int i, .int j] = some (.val (.int (if j > i then j else i))) := nrfl rfl
@[simp] theorem min2D_int : min2D [.int i, .int j] = some (.val (.int (if j < i then j else i))) := nrfl rfl
@[simp] theorem listD_list : listD [.list ds] = some (.own (.lst ds)) := nrfl rfl
@[simp] theorem listD_tuple : listD [.tuple ds] = some (.own (.lst ds)) := nrfl rfl
@[simp] theorem tupleD_list : tupleD [.list ds] = some (.val (.tuple ds)) := nrfl rfl
@[simp] theorem tupleD_tuple : tupleD [.tuple ds] = some (.val (.tuple ds)) := nrfl rfl
@[simp] theorem allD_list : allD [.list ds] = (boolsOf ds).map fun bs => .val (.bool (bs.all id)) := nrfl rfl
@[simp] theorem anyD_list : anyD [.list ds] = (boolsOf ds).map fun bs => .val (.bool (bs.any id)) := nrfl rfl
@[simp] theorem sumD_list : sumD [.list ds] = (intsOf ds).map fun bs => .val (.int bs.sum) := nrfl rfl
@[simp] theorem boolsOf_map {α : Type} (f : α → Bool) : ∀ l : List α, boolsOf (l.map fun a => D.bool (f a)) = some (l.map f)
  | [] => rfl
  | a :: l => by simp [boolsOf, boolsOf_map f l]
@[simp] theorem intsOf_map {α : Type} (f : α → Int) : ∀ l : List α, intsOf (l.map fun a => D.int (f a)) = some (l.map f)
  | [] => rfl
  | a :: l => by simp [intsOf, intsOf_map f l]
@[simp] theorem intsOf_int (l : List Int) : intsOf (l.map D.int) = some l := by
  have := intsOf_map (fun z : Int => z) l
  simpa using this
@[simp] theorem ixD_list : ixD (.list ds) (.int i) = (atI ds i).map .val := nrfl rfl
@[simp] theorem ixD_tuple : ixD (.tuple ds) (.int i) = (atI ds i).map .val := nrfl rfl
theorem atI_def {α : Type} (xs : List α) (i : Int) : atI xs i = (ixN xs.length i).bind fun j => xs[j]? := rfl
@[simp] theorem atI_nat {α : Type} (xs : List α) (n : Nat) : atI xs (n : Int) = xs[n]? := by
  unfold L2.atI L2.ixN
  rw [if_pos (Int.natCast_nonneg n)]
  by_cases h : (n : Int) < xs.length
  · rw [if_pos h]; simp
  · rw [if_neg h]
    rw [List.getElem?_eq_none (by omega)]; rfl
@[simp] theorem atI_0 {α : Type} (xs : List α) : atI xs 0 = xs[0]? := atI_nat xs 0
@[simp] theorem atI_1 {α : Type} (xs : List α) : atI xs 1 = xs[1]? := atI_nat xs 1
@[simp] theorem atI_2 {α : Type} (xs : List α) : atI xs 2 = xs[2]? := atI_nat xs 2
@[simp] theorem atI_3 {α : Type} (xs : List α) : atI xs 3 = xs[3]? := atI_nat xs 3
theorem atI_pos {α : Type} (xs : List α) {i : Int} (h : 0 ≤ i) : atI xs i = xs[i.toNat]? := by
  obtain ⟨n, rfl⟩ := Int.eq_ofNat_of_zero_le h
  simp
@[simp] theorem atI_m1 {α : Type} (xs : List α) : atI xs (-1) = xs[xs.length - 1]? := by
  unfold L2.atI L2.ixN
  rw [if_neg (by decide)]
  by_cases h : -(xs.length : Int) ≤ -1
  · rw [if_pos h]
    have : ((-1 : Int) + xs.length).toNat = xs.length - 1 := by omega
    simp [this]
  · rw [if_neg h]
    have : xs.length = 0 := by omega
    have : xs = [] := List.length_eq_zero_iff.mp this
    subst this; rfl
theorem ixN_nat {n m : Nat} (h : m < n) : ixN n (m : Int) = some m := by
  unfold L2.ixN
  rw [if_pos (Int.natCast_nonneg m), if_pos (by omega)]; simp
@[simp] theorem isTs_one {t : Ty} : isTs [t] d = isT t d := by simp [isTs]
@[simp] theorem isTs_two {t u : Ty} : isTs [t, u] d = (isT t d || isT u d) := by simp [isTs]
@[simp] theorem mAppend_one : mAppend ds [d] = if ds.length < sizeLine then some (.none, ds ++ [d]) else none := nrfl rfl
@[simp] theorem mPop_nil : mPop ds [] = (ds[ds.length - 1]?).map fun d => (d, ds.dropLast) := nrfl rfl
@[simp] theorem mPopAt_int : mPopAt ds [.int i] = if -(2 ^ 63) ≤ i ∧ i < 2 ^ 63 then (match seqIndex? i ds.length with
    | some k => (ds[k]?).map fun d => (d, ds.eraseIdx k)
    | none => none) else none := rfl
@[simp] theorem slD_list {lo hi : Option Int} : slD (.list ds) lo hi = some (.own (.lst (cutL ds lo hi))) := nrfl rfl
@[simp] theorem slD_tuple {lo hi : Option Int} : slD (.tuple ds) lo hi = some (.val (.tuple (cutL ds lo hi))) := nrfl rfl

/-! comprehensions -/
theorem unwipe_wipe (vs : List Nat) (ρ : Env) : unwipe vs ρ (wipeE vs ρ) = ρ := by
  apply List.ext_getElem?
  intro i
  unfold unwipe wipeE
  rw [List.getElem?_mapIdx, List.getElem?_mapIdx]
  cases h : ρ[i]? with
  | none => rfl
  | some s =>
    simp only [Option.map_some]
    by_cases hi : i ∈ vs
    · simp [hi, List.getD, h]
    · simp [hi]
def lcOut (vs : List Nat) (r : R) : Option (Option D × Env) := match r with
  | .ok o ρ => o.frz.map fun y => (some y, wipeE vs ρ)
  | _ => none
def lcTest (elt : EX) (vs : List Nat) (r : R) : Option (Option D × Env) := match r with
  | .ok (.val (.bool b)) ρ => if b = true then lcOut vs (elt ρ) else some (none, wipeE vs ρ)
  | _ => none
def lcTg (tt elt : EX) (vs : List Nat) (r : Option Env) : Option (Option D × Env) := match r with
  | some ρ => lcTest elt vs (tt ρ)
  | none => none
/-- one turn of a comprehension -/
def lcStep (h : Tg) (tt elt : EX) (vs : List Nat) (d : D) (ρ : Env) : Option (Option D × Env) := lcTg tt elt vs (h.h d ρ)
@[simp] theorem lcStep_def {h : Tg} {tt elt : EX} {vs : List Nat} {ρ : Env} : lcStep h tt elt vs d ρ = lcTg tt elt vs (h.h d ρ) := nrfl rfl
@[simp] theorem lcTg_some {tt elt : EX} {vs : List Nat} {ρ : Env} : lcTg tt elt vs (some ρ) = lcTest elt vs (tt ρ) := nrfl rfl
@[simp] theorem lcTest_ok {elt : EX} {vs : List Nat} {ρ : Env} : lcTest elt vs (.ok (.val (.bool b)) ρ) = if b = true then lcOut vs (elt ρ) else some (none, wipeE vs ρ) := nrfl rfl
@[simp] theorem lcOut_ok {vs : List Nat} {ρ : Env} {o : Sl} : lcOut vs (.ok o ρ) = o.frz.map fun y => (some y, wipeE vs ρ) := nrfl rfl
@[simp] theorem eYes_def {ρ : Env} : eYes ρ = .ok (.val (.bool true)) ρ := nrfl rfl
theorem lcD_cons {h : Tg} {tt elt : EX} {vs : List Nat} {ρ : Env} {acc : List D} : lcD h tt elt vs (d :: ds) ρ acc = match lcStep h tt elt vs d ρ with
    | some (some y, ρ') => lcD h tt elt vs ds ρ' (acc ++ [y])
    | some (none, ρ') => lcD h tt elt vs ds ρ' acc
    | none => .bad := by
  simp only [lcD, lcStep, lcTg]
  cases h.h d ρ with
  | none => rfl
  | some ρ1 =>
    simp only [lcTest]
    cases tt ρ1 with
    | ok o ρ2 =>
      cases o with
      | val x =>
        cases x with
        | bool b =>
          cases b with
          | false => rfl
          | true =>
            simp only [if_true, lcOut]
            cases elt ρ2 with
            | ok o ρ3 => simp only; cases o.frz <;> rfl
            | _ => rfl
        | _ => dsimp only
      | _ => rfl
    | _ => rfl
theorem lcD_map {α : Type} {h : Tg} {tt elt : EX} {vs : List Nat} {ρ : Env} (f g : α → D) (p : α → Bool) : ∀ (xs : List α) (acc : List D), (∀ a ∈ xs, lcStep h tt elt vs (f a) ρ = some (if p a = true then some (g a) else none, ρ)) →
    lcD h tt elt vs (xs.map f) ρ acc = .ok (.own (.lst (acc ++ (xs.filter p).map g))) ρ
  | [], acc, _ => by simp [lcD]
  | a :: xs, acc, hs => by
    have e := hs a List.mem_cons_self
    have ih := fun acc => lcD_map (h := h) (tt := tt) (elt := elt) (vs := vs) (ρ := ρ) f g p xs acc fun x hx => hs x (List.mem_cons_of_mem _ hx)
    rw [List.map_cons, lcD_cons, e]
    cases hp : p a with
    | true => simp only [if_true, ih]; simp [hp]
    | false => simp only [Bool.false_eq_true, if_false, ih]; simp [hp]
/-- a comprehension whose turns leave the state -/
theorem eLc_map {α : Type} {fi : EX} {h : Tg} {tt elt : EX} {vs : List Nat} {ρ : Env} (xs : List α) (f g : α → D) (p : α → Bool) (hfi : fi ρ = .ok (.val (.list (xs.map f))) ρ) (hl : xs.length ≤ sizeLine) (hc : clearB vs ρ = true)
    (hs : ∀ a ∈ xs, lcStep h tt elt vs (f a) (wipeE vs ρ) = some (if p a = true then some (g a) else none, wipeE vs ρ)) :
    eLc fi h tt elt vs ρ = .ok (.own (.lst ((xs.filter p).map g))) ρ := by
  unfold eLc
  simp only [hfi, hc, List.length_map, hl, true_and, if_true]
  rw [lcD_map f g p xs [] hs]
  simp only [List.nil_append, R.unw, unwipe_wipe]
/-- the same without a test -/
theorem eLc_all {α : Type} {fi : EX} {h : Tg} {tt elt : EX} {vs : List Nat} {ρ : Env} (xs : List α) (f g : α → D) (hfi : fi ρ = .ok (.val (.list (xs.map f))) ρ) (hl : xs.length ≤ sizeLine) (hc : clearB vs ρ = true)
    (hs : ∀ a ∈ xs, lcStep h tt elt vs (f a) (wipeE vs ρ) = some (some (g a), wipeE vs ρ)) :
    eLc fi h tt elt vs ρ = .ok (.own (.lst (xs.map g))) ρ := by
  rw [eLc_map xs f g (fun _ => true) hfi hl hc fun a ha => by rw [hs a ha]; simp]
  rw [List.filter_eq_self.mpr (fun _ _ => rfl)]
end
end Dk

set_option Elab.async false
set_option linter.all false
set_option maxRecDepth 100000
set_option maxHeartbeats 4000000
/-! Dk19: what the laws share: cells, boxes, digits -/
namespace Dk
open PySem PySem.Spec L2 PyProof.Rows
/-- _law_take -/
noncomputable def takeB (p q r : Int) : SX :=
  (sSeq (sIf (eAnd (eTru (eBor (eOp ixD (eVar 0) (eC (.int 1))))) (eOp gtD (eBor (eOp ixD (eVar 0) (eC (.int 0)))) (eC (.int 0)))) (sSeq (sAsg 3 (eOp modD (eCB intD [(eBor (eOp ixD (eVar 0) (eC (.int 0))))]) (eVar 1)))
  (sSeq (sSetIx 0 (eOp fdivD (eBor (eOp ixD (eVar 0) (eC (.int 0)))) (eVar 1)) (eC (.int 0)))
  (sRet (eVar 3)))) sNx)
  (sSeq (sSetIx 0 (eOp addD (eBor (eOp ixD (eVar 0) (eC (.int 3)))) (eC (.int 1))) (eC (.int 3)))
  (sSeq (sAsg 2 (eOp modD (eCB intD [(eOp powD (eOp addD (eOp addD (eBor (eOp ixD (eVar 0) (eC (.int 2)))) (eOp mulD (eC (.int p)) (eBor (eOp ixD (eVar 0) (eC (.int 3)))))) (eC (.int q))) (eC (.int 5)))]) (eC (.int 2147483647))))
  (sRet (eOp modD (eCB intD [(eOp fdivD (eOp modD (eCB intD [(eOp powD (eOp addD (eOp mulD (eVar 2) (eC (.int 48271))) (eOp mulD (eC (.int r)) (eBor (eOp ixD (eVar 0) (eC (.int 3)))))) (eC (.int 3)))]) (eC (.int 2147483587))) (eC (.int 64)))]) (eVar 1))))))
noncomputable def takeDen (p q r : Int) : Den := denOf 4 (takeB p q r)
/-- a box: its list -/
def boxL (a : Int) (b : Bool) (c n : Int) : List D := [.int a, .bool b, .int c, .int n]
/-- a box that was asked at most m times -/
def BOk (m : Nat) (l : List D) : Prop := ∃ a b c n, l = boxL a b c n ∧ 0 ≤ a ∧ 0 ≤ c ∧ c < 2147483648 ∧ 0 ≤ n ∧ n ≤ m
theorem BOk.mono {m k : Nat} {l : List D} (h : BOk m l) (hk : m ≤ k) : BOk k l := by
  obtain ⟨a, b, c, n, h1, h2, h3, h4, h5, h6⟩ := h
  exact ⟨a, b, c, n, h1, h2, h3, h4, h5, by omega⟩
def smallC (p q r : Int) : Prop := 0 ≤ p ∧ p < 2 ^ 30 ∧ 0 ≤ q ∧ q < 2 ^ 30 ∧ 0 ≤ r ∧ r < 2 ^ 30
theorem fmod_pos {x y : Int} (h : 0 < y) : 0 ≤ x.fmod y ∧ x.fmod y < y := by
  rw [Int.fmod_eq_emod_of_nonneg x (by omega)]
  exact ⟨Int.emod_nonneg x (by omega), Int.emod_lt_of_pos x h⟩
theorem take_ok {p q r : Int} (hc : smallC p q r) {m : Nat} {l : List D} (h : BOk m l) (hm : m < 1000000000) {many : Int} (h1 : 1 ≤ many) (h2 : many < 1073741824) :
    ∃ d l', takeDen p q r [.ref (.lst l), .val (.int many)] = .ret (.val (.int d)) [.ref (.lst l'), .val (.int many)] ∧ 0 ≤ d ∧ d < many ∧ BOk (m + 1) l' := by
  obtain ⟨a, b, c, n, rfl, ha, hc1, hc2, hn1, hn2⟩ := h
  obtain ⟨p1, p2, q1, q2, r1, r2⟩ := hc
  by_cases hb : b = true ∧ 0 < a
  · obtain ⟨rfl, h0⟩ := hb
    refine ⟨a.fmod many, boxL (a.fdiv many) true c n, ?_, (fmod_pos (by omega)).1, (fmod_pos (by omega)).2, _, _, _, _, rfl, Int.fdiv_nonneg ha (by omega), hc1, hc2, hn1, by omega⟩
    have e1 : ¬ many = 0 := by omega
    have e2 : many.natAbs < 1073741824 := by omega
    have e3 : ixN 4 0 = some 0 := rfl
    simp [takeDen, takeB, boxL, h0, e1, e2, e3]
  · have e0 : ixN 4 3 = some 3 := rfl
    have e1 : ¬ many = 0 := by omega
    have hp : mulOk p (n + 1) := .inl ⟨by omega, by omega⟩
    have hpn : 0 ≤ p * (n + 1) ∧ p * (n + 1) < 1073741824 * 1000000001 := ⟨Int.mul_nonneg p1 (by omega), by
      have h5 : p * (n + 1) ≤ 1073741824 * (n + 1) := Int.mul_le_mul_of_nonneg_right (by omega) (by omega)
      have h6 : (1073741824 : Int) * (n + 1) < 1073741824 * 1000000001 := Int.mul_lt_mul_of_pos_left (by omega) (by omega)
      omega⟩
    have hr : mulOk r (n + 1) := .inl ⟨by omega, by omega⟩
    have hrn : 0 ≤ r * (n + 1) ∧ r * (n + 1) < 1073741824 * 1000000001 := ⟨Int.mul_nonneg r1 (by omega), by
      have h5 : r * (n + 1) ≤ 1073741824 * (n + 1) := Int.mul_le_mul_of_nonneg_right (by omega) (by omega)
      have h6 : (1073741824 : Int) * (n + 1) < 1073741824 * 1000000001 := Int.mul_lt_mul_of_pos_left (by omega) (by omega)
      omega⟩
    have b1 : (c + p * (n + 1) + q).natAbs < 18446744073709551616 := by omega
    obtain ⟨x1, x2⟩ := fmod_pos (x := (c + p * (n + 1) + q) ^ 5) (y := 2147483647) (by decide)
    have hx : ((c + p * (n + 1) + q) ^ (5 : Int).toNat).fmod 2147483647 = ((c + p * (n + 1) + q) ^ 5).fmod 2147483647 := rfl
    have b2 : (((c + p * (n + 1) + q) ^ 5).fmod 2147483647 * 48271 + r * (n + 1)).natAbs < 18446744073709551616 := by omega
    have hm2 : mulOk (((c + p * (n + 1) + q) ^ 5).fmod 2147483647) 48271 := .inr ⟨by omega, by omega⟩
    refine ⟨((((((c + p * (n + 1) + q) ^ 5).fmod 2147483647 * 48271 + r * (n + 1)) ^ 3).fmod 2147483587).fdiv 64).fmod many, boxL a b c (n + 1), ?_, (fmod_pos (by omega)).1, (fmod_pos (by omega)).2, a, b, c, n + 1, rfl, ha, hc1, hc2, by omega, by omega⟩
    · cases b with
      | false => simp [takeDen, takeB, boxL, e0, e1, hp, hr, hx, b1, b2, hm2]
      | true =>
        have h0 : ¬ 0 < a := fun h => hb ⟨rfl, h⟩
        simp [takeDen, takeB, boxL, h0, e0, e1, hp, hr, hx, b1, b2, hm2]
end Dk

set_option Elab.async false
set_option linter.all false
set_option maxRecDepth 100000
set_option maxHeartbeats 4000000
/-! Dk20: the laws' cells, boxes, comparison -/
namespace Dk
open PySem PySem.Spec L2 PyProof.Rows
noncomputable def boxB : SX :=
  (sRet (eLst [(eCB absD [(eVar 0)]), (eOp geD (eCB absD [(eVar 0)]) (eOp powD (eC (.int 10)) (eC (.int 18)))), (eOp modD (eCB intD [(eCB absD [(eVar 0)])]) (eC (.int 2147483629))), (eC (.int 0))]))
theorem box_ok (z : Int) : ∃ l, denOf 1 boxB [.val (.int z)] = .ret (.own (.lst l)) [.val (.int z)] ∧ BOk 0 l := by
  obtain ⟨a, ha⟩ : ∃ a, a = (if z < 0 then -z else z) := ⟨_, rfl⟩
  have h0 : 0 ≤ a := by rw [ha]; split <;> omega
  refine ⟨boxL a (decide (10 ^ 18 ≤ a)) (a.fmod 2147483629) 0, ?_, a, _, _, 0, rfl, h0, (fmod_pos (by decide)).1, by have := (fmod_pos (x := a) (y := 2147483629) (by decide)).2; omega, by omega, by omega⟩
  simp [boxB, boxL, ← ha]
noncomputable def cellB (c : Int) : SX :=
  (sRet (eIf (eOp ltD (eVar 1) (eCB lenD [(eVar 0)])) (eOp ixD (eVar 0) (eVar 1)) (eOp addD (eOp mulD (eC (.int c)) (eVar 1)) (eOp modD (eCB intD [(eCB sumD [(eSl (eVar 0) .no (.at (eC (.int 1))))])]) (eC (.int 1000003))))))
theorem cut_map {α β : Type} (f : α → β) (xs : List α) (lo hi : Option Int) : cutL (xs.map f) lo hi = (cutL xs lo hi).map f := by
  unfold cutL
  simp [List.map_drop, List.map_take]
theorem cell_ok (c : Int) (ns : List Int) (k : Nat) (hk : k < 1000000) : ∃ z, denOf 2 (cellB c) [.val (.list (ns.map D.int)), .val (.int k)] = .ret (.val (.int z)) [.val (.list (ns.map D.int)), .val (.int k)] := by
  by_cases h : k < ns.length
  · refine ⟨ns[k], ?_⟩
    have : ((k : Int) < ns.length) := by omega
    simp [cellB, this, h]
  · refine ⟨c * k + (cutL ns none (some 1)).sum.fmod 1000003, ?_⟩
    have h1 : ¬ ((k : Int) < ns.length) := by omega
    have h2 : mulOk c k := .inr ⟨by omega, by omega⟩
    simp [cellB, h1, h2, cut_map]

/-! ### data without tags -/
mutual
def D.strip : D → D
  | .list xs => .list (D.stripL xs)
  | .tuple xs => .tuple (D.stripL xs)
  | .dict kvs => .dict (D.stripK kvs)
  | .dictT kvs => .dictT (D.stripK kvs)
  | .tag _ d => d.strip
  | .none => .none
  | .bool b => .bool b
  | .int i => .int i
  | .str s => .str s
def D.stripL : List D → List D
  | [] => []
  | d :: ds => d.strip :: D.stripL ds
def D.stripK : List (D × D) → List (D × D)
  | [] => []
  | (k, d) :: r => (k, d.strip) :: D.stripK r
end
theorem stripL_map : ∀ ds : List D, D.stripL ds = ds.map D.strip
  | [] => rfl
  | d :: ds => by simp [D.stripL, stripL_map ds]
theorem strip_un : ∀ d : D, d.un.strip = d.strip
  | .tag a d => by
    have := strip_un d
    simpa [D.strip] using this
  | .none => rfl
  | .bool _ => rfl
  | .int _ => rfl
  | .str _ => rfl
  | .list _ => rfl
  | .tuple _ => rfl
  | .dict _ => rfl
  | .dictT _ => rfl
theorem itemsD_strip : ∀ kvs : List (D × D), (∀ p ∈ kvs, ∃ k, p.1 = keyD k) → (itemsD kvs).map D.strip = itemsD (D.stripK kvs)
  | [], _ => rfl
  | (k, d) :: r, h => by
    obtain ⟨kk, e⟩ := h (k, d) List.mem_cons_self
    simp only at e
    have ih := itemsD_strip r fun p hp => h p (List.mem_cons_of_mem _ hp)
    have : (keyD kk).strip = keyD kk := by cases kk <;> rfl
    simp only [itemsD, List.map_cons, D.stripK, D.strip, D.stripL, e, this] at ih ⊢
    rw [ih]
/-- data that the comparison goes through: n deep at most -/
def Fit : Nat → D → Prop
  | 0, _ => False
  | n + 1, d => match d with
    | .str s => s.length ≤ 1000000 ∧ (PyData.str s).canLay0 = true
    | .list ds => ds.length ≤ 1000000 ∧ ∀ x ∈ ds, Fit n x
    | .tuple ds => ds.length ≤ 1000000 ∧ ∀ x ∈ ds, Fit n x
    | .dict kvs => (∀ p ∈ kvs, ∃ k, p.1 = keyD k) ∧ Fit n (.list (itemsD kvs))
    | .dictT _ => False
    | .tag _ _ => False
    | _ => True

/-! _law_same -/
noncomputable def sameEnd (rc : Den) : EX := (eOp eqD (eLc (iRng1D (eCB lenD [(eVar 1)])) (gN 2) (eNot (eTru (eCallG rc [(.v (eOp ixD (eVar 0) (eVar 2))), (.v (eOp ixD (eVar 1) (eVar 2)))] [.a 0, .a 1]))) (eVar 2) [2]) (eLst []))
noncomputable def sameStr : EX := (eOp eqD (eLc (iRng1D (eCB lenD [(eVar 1)])) (gN 2) (eOp neD (eSl (eVar 0) (.at (eVar 2)) (.at (eOp addD (eVar 2) (eC (.int 1))))) (eOp ixD (eVar 1) (eVar 2))) (eVar 2) [2]) (eLst []))
noncomputable def sameB (rc : Den) : SX :=
  (sSeq (sIf (eOr (eOp isD (eVar 1) (eC .none)) (eTru (eIsi [.bool] (eVar 1)))) (sRet (eIf (eOp isD (eVar 1) (eC .none)) (eOp isD (eVar 0) (eC .none)) (eAnd (eIsi [.bool] (eVar 0)) (eOp eqD (eOp isD (eVar 0) (eC (.bool true))) (eOp isD (eVar 1) (eC (.bool true))))))) sNx)
  (sSeq (sIf (eTru (eIsi [.int] (eVar 1))) (sRet (eAnd (eIsi [.int] (eVar 0)) (eAnd (eNot (eIsi [.bool] (eVar 0))) (eOp eqD (eOp subD (eCB intD [(eVar 0)]) (eVar 1)) (eC (.int 0)))))) sNx)
  (sSeq (sIf (eTru (eIsi [.str] (eVar 1))) (sRet (eAnd (eIsi [.str] (eVar 0)) (eAnd (eOp eqD (eCB lenD [(eVar 0)]) (eCB lenD [(eVar 1)])) sameStr))) sNx)
  (sSeq (sIf (eTru (eIsi [.dict] (eVar 1))) (sRet (eAnd (eIsi [.dict] (eVar 0)) (eCallG rc [(.v (eItems (eVar 0))), (.v (eItems (eVar 1)))] [.a 0, .a 1]))) sNx)
  (sSeq (sIf (eOr (eOp neD (eIsi [.list] (eVar 0)) (eIsi [.list] (eVar 1))) (eOp neD (eIsi [.tuple] (eVar 0)) (eIsi [.tuple] (eVar 1)))) (sRet (eC (.bool false))) sNx)
  (sSeq (sIf (eOr (eNot (eTru (eIsi [.list, .tuple] (eVar 0)))) (eOp neD (eCB lenD [(eVar 0)]) (eCB lenD [(eVar 1)]))) (sRet (eC (.bool false))) sNx)
  (sRet (sameEnd rc))))))))
noncomputable def sameDen : Nat → Den
  | 0 => fun _ => .bad
  | n + 1 => denOf 3 (sameB (sameDen n))
theorem rngL_len (lo : Int) (n : Nat) : (rngL lo n).length = n := by unfold rngL; rw [List.length_map, List.length_range]
theorem le_line {n : Nat} (h : n ≤ 1000000) : n ≤ sizeLine := Nat.le_trans h (by rw [sizeLine_eq]; exact of_decide_eq_true rfl)
theorem rngL_0 (n : Nat) : rngL 0 n = (List.range n).map fun i : Nat => D.int i := by
  unfold rngL
  refine List.map_congr_left fun i _ => ?_
  rw [Int.zero_add]
theorem rng_none {f : Nat → D} (n : Nat) : ((List.range n).filter fun _ => false).map f = [] := by
  rw [List.filter_eq_nil_iff.mpr (fun _ _ => by simp)]; rfl
theorem rngL_none (lo : Int) (n : Nat) : ((rngL lo n).filter fun _ => false).map id = [] := by
  rw [List.filter_eq_nil_iff.mpr (fun _ _ => by simp)]; rfl
@[simp] theorem eqD_nil : eqD (.list []) (.list []) = some (.val (.bool true)) := nrfl rfl
theorem same_list {rc : Den} {t d : D} {es ds : List D} (h1 : t.un = .list es ∨ t.un = .tuple es) (h2 : d.un = .list ds ∨ d.un = .tuple ds) (hl : es.length = ds.length) (hz : ds.length ≤ 1000000)
    (hr : ∀ (i : Nat) (x y : D), es[i]? = some x → ds[i]? = some y → rc [.val x, .val y] = .ret (.val (.bool true)) [.val x, .val y]) :
    sameEnd rc [.val t, .val d, .emp] = .ok (.val (.bool true)) [.val t, .val d, .emp] := by
  have hlen : lenD [d.un] = some (.val (.int ds.length)) := by rcases h2 with h | h <;> rw [h] <;> rfl
  have hx : ∀ i : Nat, ixD t.un (.int i) = (es[i]?).map .val := fun i => by rcases h1 with h | h <;> rw [h] <;> simp
  have hy : ∀ i : Nat, ixD d.un (.int i) = (ds[i]?).map .val := fun i => by rcases h2 with h | h <;> rw [h] <;> simp
  have hrng := smN (Nat.le_trans hz (of_decide_eq_true rfl : 1000000 ≤ 1000000000))
  have e1 := eLc_map (fi := iRng1D (eCB lenD [(eVar 1)])) (h := gN 2) (tt := eNot (eTru (eCallG rc [(.v (eOp ixD (eVar 0) (eVar 2))), (.v (eOp ixD (eVar 1) (eVar 2)))] [.a 0, .a 1]))) (elt := eVar 2) (vs := [2]) (ρ := [.val t, .val d, .emp]) (List.range ds.length) (fun i : Nat => .int i) (fun i : Nat => .int i) (fun _ => false)
    (by simp [hlen, hrng, rngL_0]) (by rw [List.length_range]; exact le_line hz) (by simp [clearB])
    (fun i hi => by
      rw [List.mem_range] at hi
      have hi2 : i < es.length := by omega
      have q := hr i es[i] ds[i] (List.getElem?_eq_getElem hi2) (List.getElem?_eq_getElem hi)
      simp [wipeE, hx, hy, hi, hi2, q])
  rw [rng_none] at e1
  simp [sameEnd, e1]
theorem sIx_nat {n i d : Nat} (h : i ≤ n) : HT.sIx n d (some (i : Int)) = i := by
  rw [HT.sIx_nat, Nat.min_eq_left h]
theorem cut_one {s : Str} {i : Nat} (h : i < s.cps.size) : cutS s (some (i : Int)) (some ((i : Int) + 1)) = ⟨#[s.cps[i]]⟩ := by
  have e1 : HT.sIx s.length 0 (some (i : Int)) = i := sIx_nat (Nat.le_of_lt h)
  have e2 : HT.sIx s.length s.length (some ((i : Int) + 1)) = i + 1 := sIx_nat (i := i + 1) h
  unfold cutS
  rw [e1, e2, Nat.add_sub_cancel_left]
  have : (s.cps.toList.drop i).take 1 = [s.cps[i]] := by
    rw [List.drop_eq_getElem_cons (by simpa using h)]
    simp
  rw [this]
theorem same_str {t d : D} {s : Str} (h1 : t.un = .str s) (h2 : d.un = .str s) (hz : s.length ≤ 1000000) (hc : (PyData.str s).canLay0 = true) : sameStr [.val t, .val d, .emp] = .ok (.val (.bool true)) [.val t, .val d, .emp] := by
  have hL : s.length ≤ sizeLine := le_line hz
  have hrng := smN (Nat.le_trans hz (of_decide_eq_true rfl : 1000000 ≤ 1000000000))
  have hlen : lenD [d.un] = some (.val (.int s.length)) := by rw [h2]; simp [hL]
  have e1 := eLc_map (fi := iRng1D (eCB lenD [(eVar 1)])) (h := gN 2) (tt := (eOp neD (eSl (eVar 0) (.at (eVar 2)) (.at (eOp addD (eVar 2) (eC (.int 1))))) (eOp ixD (eVar 1) (eVar 2)))) (elt := eVar 2) (vs := [2]) (ρ := [.val t, .val d, .emp]) (List.range s.length) (fun i : Nat => .int i) (fun i : Nat => .int i) (fun _ => false)
    (by simp [hlen, hrng, rngL_0]) (by rw [List.length_range]; exact hL) (by simp [clearB])
    (fun i hi => by
      rw [List.mem_range] at hi
      have hi' : i < s.cps.size := hi
      have q1 : slD (.str s) (some (i : Int)) (some ((i : Int) + 1)) = some (.val (.str ⟨#[s.cps[i]]⟩)) := by
        show (if s.length ≤ sizeLine then some (Sl.val (.str (cutS s (some (i : Int)) (some ((i : Int) + 1))))) else none) = _
        rw [if_pos hL, cut_one hi']
      have q2 : ixD (.str s) (.int i) = some (.val (.str ⟨#[s.cps[i]]⟩)) := by
        show (if s.length ≤ sizeLine then (atI s.cps.toList (i : Int)).map (fun c => Sl.val (.str ⟨#[c]⟩)) else none) = _
        rw [if_pos hL, atI_nat]
        simp [hi']
      have q3 : neD (.str ⟨#[s.cps[i]]⟩) (.str ⟨#[s.cps[i]]⟩) = some (.val (.bool false)) := by
        have sh : SeqAt.shaped (D.str ⟨#[s.cps[i]]⟩).toP = true := shp (by
          show PyData.strOk ⟨#[s.cps[i]]⟩ = true
          have hc' : PyData.strOk s = true := hc
          unfold PyData.strOk at hc' ⊢
          rw [Array.all_eq_true'] at hc' ⊢
          intro c hm
          have : c = s.cps[i] := by simpa using hm
          subst this
          exact hc' _ (Array.getElem_mem hi')) (Nat.zero_le _)
        unfold neD
        rw [if_pos ⟨sh, sh⟩, eqv_str]
        simp
      simp [wipeE, h1, h2, q1, q2, q3])
  rw [rng_none] at e1
  simp [sameStr, e1]
theorem strip_list {t : D} {xs : List D} (h : t.strip = .list xs) : ∃ es, t.un = .list es ∧ es.map D.strip = xs := by
  rw [← strip_un] at h
  have nt := un_ne_tag t
  cases e : t.un with
  | list es => rw [e] at h; simp only [D.strip, D.list.injEq] at h; exact ⟨es, rfl, by rw [← stripL_map]; exact h⟩
  | tag a d => exact absurd e (nt a d)
  | _ => rw [e] at h; simp [D.strip] at h
theorem strip_tuple {t : D} {xs : List D} (h : t.strip = .tuple xs) : ∃ es, t.un = .tuple es ∧ es.map D.strip = xs := by
  rw [← strip_un] at h
  have nt := un_ne_tag t
  cases e : t.un with
  | tuple es => rw [e] at h; simp only [D.strip, D.tuple.injEq] at h; exact ⟨es, rfl, by rw [← stripL_map]; exact h⟩
  | tag a d => exact absurd e (nt a d)
  | _ => rw [e] at h; simp [D.strip] at h
theorem strip_dict {t : D} {xs : List (D × D)} (h : t.strip = .dict xs) : ∃ es, t.un = .dict es ∧ D.stripK es = xs := by
  rw [← strip_un] at h
  have nt := un_ne_tag t
  cases e : t.un with
  | dict es => rw [e] at h; simp only [D.strip, D.dict.injEq] at h; exact ⟨es, rfl, h⟩
  | tag a d => exact absurd e (nt a d)
  | _ => rw [e] at h; simp [D.strip] at h
theorem strip_int {t : D} {i : Int} (h : t.strip = .int i) : t.un = .int i := by
  rw [← strip_un] at h
  have nt := un_ne_tag t
  cases e : t.un with
  | tag a d => exact absurd e (nt a d)
  | _ => rw [e] at h; simp_all [D.strip]
theorem strip_bool {t : D} {i : Bool} (h : t.strip = .bool i) : t.un = .bool i := by
  rw [← strip_un] at h
  have nt := un_ne_tag t
  cases e : t.un with
  | tag a d => exact absurd e (nt a d)
  | _ => rw [e] at h; simp_all [D.strip]
theorem strip_str {t : D} {i : Str} (h : t.strip = .str i) : t.un = .str i := by
  rw [← strip_un] at h
  have nt := un_ne_tag t
  cases e : t.un with
  | tag a d => exact absurd e (nt a d)
  | _ => rw [e] at h; simp_all [D.strip]
theorem strip_none {t : D} (h : t.strip = .none) : t.un = .none := by
  rw [← strip_un] at h
  have nt := un_ne_tag t
  cases e : t.un with
  | tag a d => exact absurd e (nt a d)
  | none => rfl
  | _ => rw [e] at h; simp_all [D.strip]
theorem stripK_keys : ∀ {es ks : List (D × D)}, D.stripK es = ks → (∀ p ∈ ks, ∃ k, p.1 = keyD k) → ∀ p ∈ es, ∃ k, p.1 = keyD k
  | [], _, _, _ => fun p h => by cases h
  | (k, d) :: r, ks, e, h => by
    subst e
    intro p hp
    rcases List.mem_cons.mp hp with rfl | hp
    · exact h (k, d.strip) List.mem_cons_self
    · exact stripK_keys (es := r) rfl (fun q hq => h q (List.mem_cons_of_mem _ hq)) p hp
/-- the law's comparison: equal data, but for tags -/
theorem same_ok : ∀ (n : Nat) (c t d : D), Fit n c → t.strip = c → d.strip = c → sameDen n [.val t, .val d] = .ret (.val (.bool true)) [.val t, .val d]
  | 0, _, _, _, f, _, _ => f.elim
  | n + 1, .none, t, d, f, ht, hd => by
    have h1 := strip_none ht
    have h2 := strip_none hd
    simp [sameDen, sameB, h1, h2, isNoneB]
  | n + 1, .bool b, t, d, f, ht, hd => by
    have h1 := strip_bool ht
    have h2 := strip_bool hd
    simp [sameDen, sameB, h1, h2, isNoneB, isT]
  | n + 1, .int b, t, d, f, ht, hd => by
    have h1 := strip_int ht
    have h2 := strip_int hd
    simp [sameDen, sameB, h1, h2, isNoneB, isT]
  | n + 1, .list xs, t, d, f, ht, hd => by
    obtain ⟨es, h1, e1⟩ := strip_list ht
    obtain ⟨ds, h2, e2⟩ := strip_list hd
    obtain ⟨hz, hf⟩ : xs.length ≤ 1000000 ∧ ∀ x ∈ xs, Fit n x := f
    have l1 : es.length = xs.length := by rw [← e1]; simp
    have l2 : ds.length = xs.length := by rw [← e2]; simp
    have key := same_list (rc := sameDen n) (t := t) (d := d) (.inl h1) (.inl h2) (l1.trans l2.symm) (by omega) fun i x y hx hy => by
      have e3 : xs[i]? = some x.strip := by rw [← e1, List.getElem?_map, hx]; rfl
      have e4 : xs[i]? = some y.strip := by rw [← e2, List.getElem?_map, hy]; rfl
      have e5 : y.strip = x.strip := by rw [e3] at e4; exact (Option.some.inj e4).symm
      exact same_ok n x.strip x y (hf _ (List.mem_of_getElem? e3)) rfl e5
    have hl : (es.length : Int) = ds.length := by omega
    simp [sameDen, sameB, h1, h2, isNoneB, isT, hl, key]
  | n + 1, .tuple xs, t, d, f, ht, hd => by
    obtain ⟨es, h1, e1⟩ := strip_tuple ht
    obtain ⟨ds, h2, e2⟩ := strip_tuple hd
    obtain ⟨hz, hf⟩ : xs.length ≤ 1000000 ∧ ∀ x ∈ xs, Fit n x := f
    have l1 : es.length = xs.length := by rw [← e1]; simp
    have l2 : ds.length = xs.length := by rw [← e2]; simp
    have key := same_list (rc := sameDen n) (t := t) (d := d) (.inr h1) (.inr h2) (l1.trans l2.symm) (by omega) fun i x y hx hy => by
      have e3 : xs[i]? = some x.strip := by rw [← e1, List.getElem?_map, hx]; rfl
      have e4 : xs[i]? = some y.strip := by rw [← e2, List.getElem?_map, hy]; rfl
      have e5 : y.strip = x.strip := by rw [e3] at e4; exact (Option.some.inj e4).symm
      exact same_ok n x.strip x y (hf _ (List.mem_of_getElem? e3)) rfl e5
    have hl : (es.length : Int) = ds.length := by omega
    simp [sameDen, sameB, h1, h2, isNoneB, isT, hl, key]
  | n + 1, .dict xs, t, d, f, ht, hd => by
    obtain ⟨es, h1, e1⟩ := strip_dict ht
    obtain ⟨ds, h2, e2⟩ := strip_dict hd
    obtain ⟨hk, hf⟩ : (∀ p ∈ xs, ∃ k, p.1 = keyD k) ∧ Fit n (.list (itemsD xs)) := f
    have i1 : (D.list (itemsD es)).strip = .list (itemsD xs) := by
      simp only [D.strip, D.list.injEq]; rw [stripL_map, itemsD_strip es (stripK_keys e1 hk), e1]
    have i2 : (D.list (itemsD ds)).strip = .list (itemsD xs) := by
      simp only [D.strip, D.list.injEq]; rw [stripL_map, itemsD_strip ds (stripK_keys e2 hk), e2]
    have key := same_ok n _ _ _ hf i1 i2
    simp [sameDen, sameB, h1, h2, isNoneB, isT, kItems, key]
  | n + 1, .str s, t, d, f, ht, hd => by
    have h1 := strip_str ht
    have h2 := strip_str hd
    obtain ⟨hz, hc⟩ : s.length ≤ 1000000 ∧ (PyData.str s).canLay0 = true := f
    have key := same_str h1 h2 hz hc
    have hL : s.length ≤ sizeLine := le_line hz
    simp [sameDen, sameB, h1, h2, isNoneB, isT, hL, key]
  | n + 1, .dictT _, _, _, f, _, _ => f.elim
  | n + 1, .tag _ _, _, _, f, _, _ => f.elim
end Dk

set_option Elab.async false
set_option linter.all false
set_option maxRecDepth 100000
set_option maxHeartbeats 4000000
/-! Dk21: sorted, max, min of lists by data; list(range) -/
namespace Dk
open PySem PySem.Spec L2 PyProof.Rows PySem.W
def D.dle (x y : D) : Bool := PySem.W.dataLe false D.toP x y
def sortOk (ds : List D) : Prop := (∀ d ∈ ds, SeqAt.shaped d.toP = true) ∧ PySem.W.AllAlike (ds.map D.toP) ∧ PySem.W.Sortable (ds.map D.toP)
open Classical in
noncomputable def sortedD : List D → Option Sl
  | [.list ds] => if sortOk ds then some (.own (.lst (ds.mergeSort D.dle))) else none
  | _ => none
theorem each_zip {R : Value → V × D → Prop} : ∀ {us : List Value} {vs : List V} {ds : List D}, Vals vs us → vs.length = ds.length → (∀ u v d, RelV v u → (v, d) ∈ vs.zip ds → R u (v, d)) → EachIs R us (vs.zip ds)
  | us, vs, [], h, hl, _ => by
    have : vs = [] := List.length_eq_zero_iff.mp hl
    subst this
    cases h
    exact .nil
  | us, vs, d :: ds, h, hl, q => by
    cases vs with
    | nil => cases hl
    | cons v vs =>
      cases h with
      | cons h1 h2 =>
        rw [List.zip_cons_cons]
        exact .cons (q _ _ _ h1 (by rw [List.zip_cons_cons]; exact List.mem_cons_self)) (each_zip h2 (by simpa using hl) fun u v' d' r m => q u v' d' r (by rw [List.zip_cons_cons]; exact List.mem_cons_of_mem _ m))
theorem RepL.of_zip {K : PySem.W.Frag} {F : Hp} : ∀ {ds : List D} {vs : List V}, RepL K F ds vs → ∀ p ∈ vs.zip ds, Rep K F p.2 p.1
  | [], _, r, p, h => by simp at h
  | d :: ds, _, r, p, h => by
    unfold RepL at r
    obtain ⟨v, ws, rfl, r1, r2⟩ := r
    rw [List.zip_cons_cons] at h
    rcases List.mem_cons.mp h with rfl | h
    · exact r1
    · exact r2.of_zip p h
theorem RepL.of_pairs {K : PySem.W.Frag} {F : Hp} : ∀ {ps : List (V × D)}, (∀ p ∈ ps, Rep K F p.2 p.1) → RepL K F (ps.map (·.2)) (ps.map (·.1))
  | [], _ => RepL.nil
  | p :: ps, h => RepL.cons (h p List.mem_cons_self) (RepL.of_pairs fun q hq => h q (List.mem_cons_of_mem _ hq))
theorem vals_pairs : ∀ {us : List Value} {ps : List (V × D)}, EachIs (fun u p => RelV p.1 u) us ps → Vals (ps.map (·.1)) us
  | _, _, .nil => .nil
  | _, _, .cons h t => .cons h (vals_pairs t)
theorem zip_sort {vs : List V} {ds : List D} (h : vs.length = ds.length) : ((vs.zip ds).mergeSort (PySem.W.dataLe false fun p => p.2.toP)).map (·.2) = ds.mergeSort D.dle := by
  have e := List.map_mergeSort (r := PySem.W.dataLe false fun p : V × D => p.2.toP) (s := D.dle) (f := fun p => p.2) (l := vs.zip ds) (fun a _ b _ => rfl)
  rw [List.map_snd_zip (by omega)] at e
  exact e
section
variable {X : Cx}
theorem csorted (hu : X.A.units + 69 < cLine) : CallR X (.builtin "sorted") (rOfN X.K X.mg sortedD) := by
  intro pins s σ H xs us Q I rv h
  obtain ⟨P, F, σ', ρ, ds, o, st, rs, hg, k⟩ := h
  unfold sortedD at hg
  split at hg
  · rename_i es
    split at hg
    · rename_i hc
      cases hg
      obtain ⟨v, rfl, r⟩ := rs.one
      obtain ⟨a, vs, rfl, s1, l1⟩ := rep_list r
      obtain ⟨u, rfl, ru⟩ := vals1 rv
      cases ru
      obtain ⟨its, r', pl, hz⟩ := I.list (SqL.le st.sub.rd s1)
      have hl := l1.length
      have hp := l1.of_zip
      have es2 : (vs.zip es).map (fun p => p.2.toP) = es.map D.toP := by
        rw [show (fun p : V × D => p.2.toP) = D.toP ∘ (·.2) from rfl, ← List.map_map, List.map_snd_zip (by omega)]
      have hm : ∀ p ∈ vs.zip es, SeqAt.shaped p.2.toP = true := fun p h => hc.1 _ (List.of_mem_zip h).2
      refine PySem.W.sorted_data (R := fun u p => RelV p.1 u) (enc := fun p : V × D => p.2.toP) (bs := vs.zip es) pl.isList (each_zip r' hl fun _ _ _ q _ => q) (each_zip r' hl fun u v d q m => ?_) (by rw [es2]; exact hc.2.1) (by rw [es2]; exact hc.2.2) (by rw [List.length_zip, hl, Nat.min_self]; omega) (fun p h => ?_) fun out ho eo => ?_
      · exact Dp.reads I d.toP v u (Rep.dp st.sub d v (SeqAt.canLay_of_shaped (hm _ m)) (hp _ m)) q
      · have := hm p h
        unfold SeqAt.shaped at this
        simp only [Bool.and_eq_true, decide_eq_true_eq] at this
        omega
      · obtain ⟨ep, he'⟩ := PyProof.Rows.sortedAll_at s.heap its out.toArray
        have hv := vals_pairs eo
        have hr : RepL X.K F (es.mergeSort D.dle) (((vs.zip es).mergeSort (PySem.W.dataLe false fun p => p.2.toP)).map (·.1)) := by
          rw [← zip_sort hl]
          exact RepL.of_pairs fun p h => hp p (List.mem_mergeSort.mp h)
        have hlen : (((vs.zip es).mergeSort (PySem.W.dataLe false fun p => p.2.toP)).map (·.1)).length ≤ sizeLine := by
          rw [List.length_map, List.length_mergeSort, List.length_zip, hl, Nat.min_self]; omega
        exact ⟨.ref _, upd H (s.heap.objs.size + 1) (.lst _), I.laid (t' := s.toks) (fun _ _ => PyProof.Rows.sortedAll_old) (Nat.le_succ _) ⟨hlen, out, ep, hv, he'⟩, rfl, k.newL st hr _ (I.hok.fresh (Nat.le_succ _))⟩
    · cases hg
  · cases hg
end
/-! max, min of one list or tuple -/
def maxF (x : D) (xs : List D) : D := xs.foldl (fun a y => if PySem.W.dataLt a.toP y.toP then y else a) x
def minF (x : D) (xs : List D) : D := xs.foldl (fun a y => if PySem.W.dataLt y.toP a.toP then y else a) x
theorem maxF_toP : ∀ (xs : List D) (x : D), (maxF x xs).toP = PySem.W.maxD x.toP (xs.map D.toP)
  | [], x => rfl
  | y :: ys, x => by
    show (maxF (if PySem.W.dataLt x.toP y.toP then y else x) ys).toP = PySem.W.maxD (if PySem.W.dataLt x.toP y.toP then y.toP else x.toP) (ys.map D.toP)
    rw [maxF_toP ys]
    split <;> rfl
theorem minF_toP : ∀ (xs : List D) (x : D), (minF x xs).toP = PySem.W.minD x.toP (xs.map D.toP)
  | [], x => rfl
  | y :: ys, x => by
    show (minF (if PySem.W.dataLt y.toP x.toP then y else x) ys).toP = PySem.W.minD (if PySem.W.dataLt y.toP x.toP then y.toP else x.toP) (ys.map D.toP)
    rw [minF_toP ys]
    split <;> rfl
theorem maxF_mem : ∀ (xs : List D) (x : D), maxF x xs ∈ x :: xs
  | [], x => List.mem_cons_self
  | y :: ys, x => by
    have h := maxF_mem ys (if PySem.W.dataLt x.toP y.toP then y else x)
    show maxF (if PySem.W.dataLt x.toP y.toP then y else x) ys ∈ _
    rcases List.mem_cons.mp h with h | h
    · rw [h]; split <;> simp
    · exact List.mem_cons_of_mem _ (List.mem_cons_of_mem _ h)
theorem minF_mem : ∀ (xs : List D) (x : D), minF x xs ∈ x :: xs
  | [], x => List.mem_cons_self
  | y :: ys, x => by
    have h := minF_mem ys (if PySem.W.dataLt y.toP x.toP then y else x)
    show minF (if PySem.W.dataLt y.toP x.toP then y else x) ys ∈ _
    rcases List.mem_cons.mp h with h | h
    · rw [h]; split <;> simp
    · exact List.mem_cons_of_mem _ (List.mem_cons_of_mem _ h)
def bestOk (ds : List D) : Prop := (∀ d ∈ ds, SeqAt.shaped d.toP = true) ∧ (∀ d ∈ ds, ∀ e ∈ ds, PySem.W.alike d.toP e.toP = true) ∧ (∀ d ∈ ds, d.toP ≠ .none) ∧ (∀ d ∈ ds, ∀ e ∈ ds, d.toP = e.toP → d = e)
open Classical in
noncomputable def maxLD : List D → Option Sl
  | [.list (x :: xs)] => if bestOk (x :: xs) then some (.val (maxF x xs)) else none
  | [.tuple (x :: xs)] => if bestOk (x :: xs) then some (.val (maxF x xs)) else none
  | _ => none
open Classical in
noncomputable def minLD : List D → Option Sl
  | [.list (x :: xs)] => if bestOk (x :: xs) then some (.val (minF x xs)) else none
  | [.tuple (x :: xs)] => if bestOk (x :: xs) then some (.val (minF x xs)) else none
  | _ => none
theorem reads_all {X : Cx} {pins : List (Addr × Obj)} {σ : SS} {H F : Hp} {s : Shared} (I : Inv X pins σ H s) (sb : SubH F H) : ∀ (ds : List D) (vs : List V) (us : List Value), (∀ d ∈ ds, SeqAt.shaped d.toP = true) → RepL X.K F ds vs → Vals vs us → ∃ as, ReadsAll s.heap us (ds.map D.toP) as
  | [], vs, us, _, r, rv => by
    unfold RepL at r; subst r
    cases rv
    exact ⟨[], .nil⟩
  | d :: ds, vs, us, h, r, rv => by
    unfold RepL at r
    obtain ⟨v, ws, rfl, r1, r2⟩ := r
    cases rv with
    | cons h1 h2 =>
      obtain ⟨as, q⟩ := Dp.reads I d.toP v _ (Rep.dp sb d v (SeqAt.canLay_of_shaped (h d List.mem_cons_self)) r1) h1
      obtain ⟨bs, q2⟩ := reads_all I sb ds ws _ (fun e he => h e (List.mem_cons_of_mem _ he)) r2 h2
      exact ⟨as ++ bs, .cons q q2⟩
theorem vals_at : ∀ {vs : List V} {us : List Value} {i : Nat} {u : Value}, Vals vs us → us[i]? = some u → ∃ v, vs[i]? = some v ∧ RelV v u
  | _, _, _, _, .nil, e => by simp at e
  | _, _, 0, _, .cons h _, e => by simp at e; subst e; exact ⟨_, rfl, h⟩
  | _, _, i + 1, _, .cons _ t, e => by
    obtain ⟨v, h1, h2⟩ := vals_at (i := i) t (by simpa using e)
    exact ⟨v, by simpa using h1, h2⟩
theorem depth_all : ∀ (ds : List D), (∀ d ∈ ds, SeqAt.shaped d.toP = true) → PyData.depthAll (ds.map D.toP) ≤ 64
  | [], _ => by show (0 : Nat) ≤ 64; decide
  | d :: ds, h => by
    have h1 := h d List.mem_cons_self
    unfold SeqAt.shaped at h1
    simp only [Bool.and_eq_true, decide_eq_true_eq] at h1
    have h2 := depth_all ds fun e he => h e (List.mem_cons_of_mem _ he)
    show max d.toP.depth (PyData.depthAll (ds.map D.toP)) ≤ 64
    omega
/-- the item that the call tells is the best one -/
theorem best_is {X : Cx} {pins : List (Addr × Obj)} {σ : SS} {H F : Hp} {s : Shared} (I : Inv X pins σ H s) (sb : SubH F H) {ds : List D} {vs : List V} {us : List Value} (ok : bestOk ds) (r : RepL X.K F ds vs) (rv : Vals vs us) {b : D} (hb : b ∈ ds) {i : Nat} {u : Value} (hi : us[i]? = some u)
    {h' : Heap} {as : List Addr} (kp : ∀ b o, s.heap.get? b = some o → h'.get? b = some o) (q : Reads h' u b.toP as) : ∃ v, RelV v u ∧ Rep X.K F b v := by
  obtain ⟨v, h1, h2⟩ := vals_at rv hi
  have hlen := r.length
  have hlt : i < ds.length := by
    have := (List.getElem?_eq_some_iff.mp h1).1
    omega
  obtain ⟨w, h3, h4⟩ := r.get (i := i) (d := ds[i]) (by simp [hlt])
  rw [h1] at h3; cases h3
  have hmem : ds[i] ∈ ds := List.getElem_mem hlt
  obtain ⟨cs, q2⟩ := Dp.reads I ds[i].toP v _ (Rep.dp sb _ v (SeqAt.canLay_of_shaped (ok.1 _ hmem)) h4) h2
  have e := PySem.W.alike_unique _ _ _ _ _ (ok.2.1 _ hmem _ hb) (PySem.W.reads_keeps kp q2) q
  rw [← ok.2.2.2 _ hmem _ hb e]
  exact ⟨v, h2, h4⟩
section
variable {X : Cx}
theorem cmaxL (hc : X.calm = true) (hu : X.A.units + 69 < cLine) : CallR X (.builtin "max") (rOfN X.K X.mg maxLD) := by
  intro pins s σ H xs us Q I rv h
  obtain ⟨P, F, σ', ρ, ds, o, st, rs, hg, k⟩ := h
  unfold maxLD at hg
  split at hg
  · rename_i y ys
    split at hg
    · rename_i ok
      cases hg
      obtain ⟨v, rfl, r⟩ := rs.one
      obtain ⟨a, vs, rfl, s1, l1⟩ := rep_list r
      obtain ⟨u, rfl, ru⟩ := vals1 rv
      cases ru
      obtain ⟨its, r', pl, hz⟩ := I.list (SqL.le st.sub.rd s1)
      obtain ⟨as, q⟩ := reads_all I st.sub _ vs its ok.1 l1 r'
      have hd := depth_all _ ok.1
      refine PySem.W.max_list_data (x := y.toP) (xs := ys.map D.toP) (I.ok.hd hc) pl.isList q ⟨fun x hx y' hy' => ?_, fun x hx => ?_⟩ (by simp only [List.map_cons] at hd; omega) fun i u h' tk bs hi hr kp => ?_
      · obtain ⟨d, m1, rfl⟩ := List.mem_map.mp (show x ∈ (y :: ys).map D.toP from hx)
        obtain ⟨e, m2, rfl⟩ := List.mem_map.mp (show y' ∈ (y :: ys).map D.toP from hy')
        exact ok.2.1 _ m1 _ m2
      · obtain ⟨d, m1, rfl⟩ := List.mem_map.mp (show x ∈ (y :: ys).map D.toP from hx)
        exact ok.2.2.1 _ m1
      · rw [← maxF_toP] at hr
        obtain ⟨v, g1, g2⟩ := best_is I st.sub ok l1 r' (maxF_mem ys y) (by simpa using hi) kp hr
        exact ⟨v, H, I.kept (t' := tk) kp, g1, k.here st g2⟩
    · cases hg
  · rename_i y ys
    split at hg
    · rename_i ok
      cases hg
      obtain ⟨v, rfl, r⟩ := rs.one
      obtain ⟨a, vs, rfl, s1, l1⟩ := rep_tup r
      obtain ⟨u, rfl, ru⟩ := vals1 rv
      cases ru
      obtain ⟨its, r', pl, hz⟩ := I.tuple (SqT.le st.sub.rd s1)
      obtain ⟨as, q⟩ := reads_all I st.sub _ vs its ok.1 l1 r'
      have hd := depth_all _ ok.1
      refine PySem.W.max_tuple_data (x := y.toP) (xs := ys.map D.toP) (I.ok.hd hc) pl q ⟨fun x hx y' hy' => ?_, fun x hx => ?_⟩ (by simp only [List.map_cons] at hd; omega) fun i u h' tk bs hi hr kp => ?_
      · obtain ⟨d, m1, rfl⟩ := List.mem_map.mp (show x ∈ (y :: ys).map D.toP from hx)
        obtain ⟨e, m2, rfl⟩ := List.mem_map.mp (show y' ∈ (y :: ys).map D.toP from hy')
        exact ok.2.1 _ m1 _ m2
      · obtain ⟨d, m1, rfl⟩ := List.mem_map.mp (show x ∈ (y :: ys).map D.toP from hx)
        exact ok.2.2.1 _ m1
      · rw [← maxF_toP] at hr
        obtain ⟨v, g1, g2⟩ := best_is I st.sub ok l1 r' (maxF_mem ys y) (by simpa using hi) kp hr
        exact ⟨v, H, I.kept (t' := tk) kp, g1, k.here st g2⟩
    · cases hg
  · cases hg
theorem cminL (hc : X.calm = true) (hu : X.A.units + 69 < cLine) : CallR X (.builtin "min") (rOfN X.K X.mg minLD) := by
  intro pins s σ H xs us Q I rv h
  obtain ⟨P, F, σ', ρ, ds, o, st, rs, hg, k⟩ := h
  unfold minLD at hg
  split at hg
  · rename_i y ys
    split at hg
    · rename_i ok
      cases hg
      obtain ⟨v, rfl, r⟩ := rs.one
      obtain ⟨a, vs, rfl, s1, l1⟩ := rep_list r
      obtain ⟨u, rfl, ru⟩ := vals1 rv
      cases ru
      obtain ⟨its, r', pl, hz⟩ := I.list (SqL.le st.sub.rd s1)
      obtain ⟨as, q⟩ := reads_all I st.sub _ vs its ok.1 l1 r'
      have hd := depth_all _ ok.1
      refine PySem.W.min_list_data (x := y.toP) (xs := ys.map D.toP) (I.ok.hd hc) pl.isList q ⟨fun x hx y' hy' => ?_, fun x hx => ?_⟩ (by simp only [List.map_cons] at hd; omega) fun i u h' tk bs hi hr kp => ?_
      · obtain ⟨d, m1, rfl⟩ := List.mem_map.mp (show x ∈ (y :: ys).map D.toP from hx)
        obtain ⟨e, m2, rfl⟩ := List.mem_map.mp (show y' ∈ (y :: ys).map D.toP from hy')
        exact ok.2.1 _ m1 _ m2
      · obtain ⟨d, m1, rfl⟩ := List.mem_map.mp (show x ∈ (y :: ys).map D.toP from hx)
        exact ok.2.2.1 _ m1
      · rw [← minF_toP] at hr
        obtain ⟨v, g1, g2⟩ := best_is I st.sub ok l1 r' (minF_mem ys y) (by simpa using hi) kp hr
        exact ⟨v, H, I.kept (t' := tk) kp, g1, k.here st g2⟩
    · cases hg
  · rename_i y ys
    split at hg
    · rename_i ok
      cases hg
      obtain ⟨v, rfl, r⟩ := rs.one
      obtain ⟨a, vs, rfl, s1, l1⟩ := rep_tup r
      obtain ⟨u, rfl, ru⟩ := vals1 rv
      cases ru
      obtain ⟨its, r', pl, hz⟩ := I.tuple (SqT.le st.sub.rd s1)
      obtain ⟨as, q⟩ := reads_all I st.sub _ vs its ok.1 l1 r'
      have hd := depth_all _ ok.1
      refine PySem.W.min_tuple_data (x := y.toP) (xs := ys.map D.toP) (I.ok.hd hc) pl q ⟨fun x hx y' hy' => ?_, fun x hx => ?_⟩ (by simp only [List.map_cons] at hd; omega) fun i u h' tk bs hi hr kp => ?_
      · obtain ⟨d, m1, rfl⟩ := List.mem_map.mp (show x ∈ (y :: ys).map D.toP from hx)
        obtain ⟨e, m2, rfl⟩ := List.mem_map.mp (show y' ∈ (y :: ys).map D.toP from hy')
        exact ok.2.1 _ m1 _ m2
      · obtain ⟨d, m1, rfl⟩ := List.mem_map.mp (show x ∈ (y :: ys).map D.toP from hx)
        exact ok.2.2.1 _ m1
      · rw [← minF_toP] at hr
        obtain ⟨v, g1, g2⟩ := best_is I st.sub ok l1 r' (minF_mem ys y) (by simpa using hi) kp hr
        exact ⟨v, H, I.kept (t' := tk) kp, g1, k.here st g2⟩
    · cases hg
  · cases hg
end
end Dk

set_option Elab.async false
set_option linter.all false
set_option maxRecDepth 100000
set_option maxHeartbeats 4000000
/-! Dk22: list(range), enumerate, zip, the values and items of a dict, extend, comprehensions that read own objects -/
namespace Dk
open PySem PySem.Spec L2 PyProof.Rows PySem.W
section
variable {K : PySem.W.Frag} {mg : Str → Option Value} {W : WX} {P : Prot} {F F' H : Hp} {σ : SS} {ρ : Env}
/-! a list of a range -/
theorem repL_rng (lo : Int) : ∀ n : Nat, RepL K F (rngL lo n) ((List.range n).map fun i => V.int (lo + (i : Nat))) := by
  intro n
  have : ∀ l : List Nat, RepL K F (l.map fun (i : Nat) => D.int (lo + (i : Int))) (l.map fun i => V.int (lo + (i : Nat))) := by
    intro l
    induction l with
    | nil => exact RepL.nil
    | cons a l ih => exact RepL.cons mk_int ih
  exact this _
open Classical in
/-- (decided classically: the kernel is not to unfold the bound) -/
noncomputable def lsRng (lo hi : Int) : Option Sl := if -(2 ^ 62) ≤ lo ∧ lo < 2 ^ 62 ∧ -(2 ^ 62) ≤ hi ∧ hi < 2 ^ 62 ∧ (hi - lo).toNat ≤ 2 ^ 24 then some (.own (.lst (rngL lo (hi - lo).toNat))) else none
noncomputable def eLsR1 (f : EX) : EX := fun ρ => (f ρ).bindV fun d ρ1 => match d.un with
  | .int n => (match lsRng 0 n with
    | some o => .ok o ρ1
    | none => .bad)
  | _ => .bad
noncomputable def eLsR2 (f g : EX) : EX := fun ρ => (f ρ).bindV fun d ρ1 => (g ρ1).bindV fun e ρ2 => match d.un, e.un with
  | .int m, .int n => (match lsRng m n with
    | some o => .ok o ρ2
    | none => .bad)
  | _, _ => .bad
theorem lsRng_ok {lo hi : Int} {o : Sl} {H : Hp} {Q : VK} (e : lsRng lo hi = some o) (st : Stt K mg P F H σ ρ) (h : Kont K mg P F σ ρ o Q) : RgOk lo hi ∧ ∀ q, H q = none → Q (.ref q) (upd H q (.lst (rgV lo hi))) := by
  unfold lsRng at e
  split at e
  · rename_i hc
    cases e
    exact ⟨hc, fun q hq => h.newL st (repL_rng lo _) q hq⟩
  · cases e
theorem de_lsR1 {ta : TE} {f : EX} (ha : DE K mg W ta f) : DE K mg W (tLstRg (tRg1 ta)) (eLsR1 f) := by
  intro P F H σ ρ Q st hp
  refine ha.bindV st hp fun F1 H1 d ρ1 v sb st1 r h1 => ?_
  have r' := r.un
  cases hd : d.un with
  | int n =>
    simp only [hd] at h1
    rw [hd] at r'
    cases e : lsRng 0 n with
    | none => simp only [e] at h1; exact h1.elim
    | some o =>
      simp only [e] at h1
      exact ⟨n, rep_int r', lsRng_ok e st1 h1⟩
  | none => simp only [hd] at h1; exact h1.elim
  | bool i => simp only [hd] at h1; exact h1.elim
  | str i => simp only [hd] at h1; exact h1.elim
  | list i => simp only [hd] at h1; exact h1.elim
  | tuple i => simp only [hd] at h1; exact h1.elim
  | dict i => simp only [hd] at h1; exact h1.elim
  | dictT i => simp only [hd] at h1; exact h1.elim
  | tag _ i => simp only [hd] at h1; exact h1.elim
theorem de_lsR2 {ta tb : TE} {f g : EX} (ha : DE K mg W ta f) (hb : DE K mg W tb g) : DE K mg W (tLstRg (tRg2 ta tb)) (eLsR2 f g) := by
  intro P F H σ ρ Q st hp
  refine ha.bindV st hp fun F1 H1 d ρ1 v sb st1 r h1 => ?_
  refine hb.bindV st1 h1 fun F2 H2 e ρ2 u sb2 st2 r2 h2 => ?_
  have ra := r.un
  have rb := r2.un
  split at h2
  · rename_i m n e1 e2
    rw [e1] at ra
    rw [e2] at rb
    split at h2
    · rename_i o e
      exact ⟨m, n, rep_int ra, rep_int rb, lsRng_ok e st2 h2⟩
    · exact h2.elim
  · exact h2.elim
end
section
variable {X : Cx} {W : WX} {a b : Expr} {p p2 pos pos2 : Pos} {f g : EX}
theorem pd_lsR1 (ha : PD X W a f) (hm : X.mg "list" = none) (hm2 : X.mg "range" = none) (hc : X.calm = true := by rfl) (hg : Gl X "list" := by rfl) (hg2 : Gl X "range" := by rfl) (na : starEach [a] X.env = (false, eval a X.env) :: starEach [] X.env := by rfl)
    (nb : starEach [.Call (.Name "range" p2) [a] [] pos2] X.env = (false, eval (.Call (.Name "range" p2) [a] [] pos2) X.env) :: starEach [] X.env := by rfl) : PD X W (.Call (.Name "list" p) [.Call (.Name "range" p2) [a] [] pos2] [] pos) (eLsR1 f) := by
  obtain ⟨t, pa, da⟩ := ha.ex
  exact ⟨_, pe_listRg hc hg hm (prg_1 hg2 hm2 pa na) nb, de_lsR1 da⟩
theorem pd_lsR2 (ha : PD X W a f) (hb : PD X W b g) (hm : X.mg "list" = none) (hm2 : X.mg "range" = none) (hc : X.calm = true := by rfl) (hg : Gl X "list" := by rfl) (hg2 : Gl X "range" := by rfl) (na : starEach [a, b] X.env = (false, eval a X.env) :: starEach [b] X.env := by rfl) (nb : starEach [b] X.env = (false, eval b X.env) :: starEach [] X.env := by rfl)
    (hp : (backTo pos2 (starEach [b] X.env)).any (·.1) = false := by rfl) (nc : starEach [.Call (.Name "range" p2) [a, b] [] pos2] X.env = (false, eval (.Call (.Name "range" p2) [a, b] [] pos2) X.env) :: starEach [] X.env := by rfl) :
    PD X W (.Call (.Name "list" p) [.Call (.Name "range" p2) [a, b] [] pos2] [] pos) (eLsR2 f g) := by
  obtain ⟨t, pa, da⟩ := ha.ex
  obtain ⟨u, pb, db⟩ := hb.ex
  exact ⟨_, pe_listRg hc hg hm (prg_2 hg2 hm2 pa pb na nb hp) nc, de_lsR2 da db⟩
end
/-! enumerate, zip -/
def enumD (ds : List D) : List D := ds.mapIdx fun i d => .tuple [.int (i : Nat), d]
def zipD (ds es : List D) : List D := List.zipWith (fun d e => .tuple [d, e]) ds es
def iEnumD (f : EX) : EX := fun ρ => eArgs [f] ρ fun ds ρ1 => match ds.map D.un with
  | [.list xs] => .ok (.val (.list (enumD xs))) ρ1
  | _ => .bad
def iZipD (f g : EX) : EX := fun ρ => eArgs [f, g] ρ fun ds ρ1 => match ds.map D.un with
  | [.list xs, .list ys] => .ok (.val (.list (zipD xs ys))) ρ1
  | [.tuple xs, .tuple ys] => .ok (.val (.list (zipD xs ys))) ρ1
  | _ => .bad
section
variable {K : PySem.W.Frag} {mg : Str → Option Value} {W : WX} {P : Prot} {F F' H : Hp} {σ : SS} {ρ : Env}
/-- a turn that lays a new tuple -/
theorem lay2 {F1 : Hp} {T : Addr} {x y : V} {d e : D} (st : Stt K mg P F1 H σ ρ) (n : H T = none) (r1 : Rep K F1 d x) (r2 : Rep K F1 e y) : ∃ F'', SubH F1 F'' ∧ Stt K mg P F'' (upd H T (.tup [x, y])) σ ρ ∧ Rep K F'' (.tuple [d, e]) (.ref T) := by
  obtain ⟨s1, s2⟩ := st.allocF (o := .tup [x, y]) n
  exact ⟨_, s2, s1, mk_tup (.inl (.inl upd_same)) (RepL.cons (Rep.le s2.rd _ _ r1) (RepL.cons (Rep.le s2.rd _ _ r2) RepL.nil))⟩
theorem itok_enum {a : Addr} {vs : List V} {ds : List D} (s : SqL K F a vs) (l : RepL K F ds vs) : ItOk K mg (Ite K a) F (enumD ds) := by
  intro P F' H σ ρ i sb st
  have sH : SqL K H a vs := SqL.le (sb.trans st.sub).rd s
  refine ⟨fun e => ⟨vs, sH, by rw [l.length]; simp [enumD] at e; omega⟩, fun d e => ?_⟩
  unfold enumD at e
  rw [List.getElem?_mapIdx] at e
  cases q : ds[i]? with
  | none => rw [q] at e; cases e
  | some c =>
    rw [q] at e; cases e
    obtain ⟨v, h1, h2⟩ := l.get q
    refine ⟨⟨vs, v, sH, h1⟩, fun x H' y => ?_⟩
    obtain ⟨T, z, rfl, n, rfl, g⟩ := y
    have ez : z = v := Option.some.inj ((g vs sH).symm.trans h1)
    subst ez
    exact lay2 st n mk_int (Rep.le sb.rd _ _ h2)
theorem zip_get {ds es : List D} {i : Nat} {c : D} (e : (zipD ds es)[i]? = some c) : ∃ d d', ds[i]? = some d ∧ es[i]? = some d' ∧ c = .tuple [d, d'] := by
  unfold zipD at e
  rw [List.getElem?_zipWith] at e
  cases q : ds[i]? with
  | none => rw [q] at e; cases e
  | some d =>
    cases q2 : es[i]? with
    | none => rw [q, q2] at e; cases e
    | some d' => rw [q, q2] at e; cases e; exact ⟨d, d', rfl, rfl, rfl⟩
theorem itok_zipL {a b : Addr} {vs ws : List V} {ds es : List D} (s : SqL K F a vs) (l : RepL K F ds vs) (s' : SqL K F b ws) (l' : RepL K F es ws) : ItOk K mg (Itz K a b) F (zipD ds es) := by
  intro P F' H σ ρ i sb st
  have sH : SqL K H a vs := SqL.le (sb.trans st.sub).rd s
  have sH' : SqL K H b ws := SqL.le (sb.trans st.sub).rd s'
  refine ⟨fun e => ⟨vs, ws, sH, sH', by rw [l.length, l'.length]; simp [zipD] at e; omega⟩, fun d e => ?_⟩
  obtain ⟨d1, d2, q1, q2, rfl⟩ := zip_get e
  obtain ⟨v, h1, h2⟩ := l.get q1
  obtain ⟨w, h3, h4⟩ := l'.get q2
  refine ⟨⟨vs, ws, v, w, sH, sH', h1, h3⟩, fun x H' y => ?_⟩
  obtain ⟨T, z, z', rfl, n, rfl, g, g'⟩ := y
  have ez : z = v := Option.some.inj ((g vs sH).symm.trans h1)
  have ez' : z' = w := Option.some.inj ((g' ws sH').symm.trans h3)
  subst ez ez'
  exact lay2 st n (Rep.le sb.rd _ _ h2) (Rep.le sb.rd _ _ h4)
theorem itok_zipT {a b : Addr} {vs ws : List V} {ds es : List D} (s : SqT K F a vs) (l : RepL K F ds vs) (s' : SqT K F b ws) (l' : RepL K F es ws) : ItOk K mg (RZ.ItzT K a b) F (zipD ds es) := by
  intro P F' H σ ρ i sb st
  have sH : SqT K H a vs := SqT.le (sb.trans st.sub).rd s
  have sH' : SqT K H b ws := SqT.le (sb.trans st.sub).rd s'
  refine ⟨fun e => ⟨vs, ws, sH, sH', by rw [l.length, l'.length]; simp [zipD] at e; omega⟩, fun d e => ?_⟩
  obtain ⟨d1, d2, q1, q2, rfl⟩ := zip_get e
  obtain ⟨v, h1, h2⟩ := l.get q1
  obtain ⟨w, h3, h4⟩ := l'.get q2
  refine ⟨⟨vs, ws, v, w, sH, sH', h1, h3⟩, fun x H' y => ?_⟩
  obtain ⟨T, z, z', rfl, n, rfl, g, g'⟩ := y
  have ez : z = v := Option.some.inj ((g vs sH).symm.trans h1)
  have ez' : z' = w := Option.some.inj ((g' ws sH').symm.trans h3)
  subst ez ez'
  exact lay2 st n (Rep.le sb.rd _ _ h2) (Rep.le sb.rd _ _ h4)
theorem di_enum {ta : TA} {f : EX} (h : DA K mg W ta [f]) : DI K mg W (iEnum K ta) (iEnumD f) := by
  intro P F H σ ρ Q st hp
  refine h.bindI st hp fun F1 H1 ds ρ1 vs sb st1 r hl q => ?_
  replace r := r.un
  generalize ds.map D.un = ds at *
  split at q
  · obtain ⟨v, rfl, r1⟩ := r.one
    obtain ⟨a, ws, rfl, s, l⟩ := rep_list r1
    exact ⟨a, ws, rfl, SqL.le st1.sub.rd s, q F1 H1 _ (SubH.refl _) st1 (itok_enum s l)⟩
  · exact q.elim
theorem di_zip {ta : TA} {f g : EX} (h : DA K mg W ta [f, g]) : DI K mg W (RZ.iZipA K ta) (iZipD f g) := by
  intro P F H σ ρ Q st hp
  refine h.bindI st hp fun F1 H1 ds ρ1 vs sb st1 r hl q => ?_
  replace r := r.un
  generalize ds.map D.un = ds at *
  split at q
  · obtain ⟨v, w, rfl, r1, r2⟩ := r.two
    obtain ⟨a, ws, rfl, s, l⟩ := rep_list r1
    obtain ⟨b, us, rfl, s', l'⟩ := rep_list r2
    exact ⟨a, b, ws, us, rfl, .inl ⟨SqL.le st1.sub.rd s, SqL.le st1.sub.rd s', q F1 H1 _ (SubH.refl _) st1 (itok_zipL s l s' l')⟩⟩
  · obtain ⟨v, w, rfl, r1, r2⟩ := r.two
    obtain ⟨a, ws, rfl, s, l⟩ := rep_tup r1
    obtain ⟨b, us, rfl, s', l'⟩ := rep_tup r2
    exact ⟨a, b, ws, us, rfl, .inr ⟨SqT.le st1.sub.rd s, SqT.le st1.sub.rd s', q F1 H1 _ (SubH.refl _) st1 (itok_zipT s l s' l')⟩⟩
  · exact q.elim
end
section
variable {X : Cx} {W : WX} {a b : Expr} {p pos tpos : Pos} {elts : List Expr} {kk : Nat} {f g : EX}
theorem pid_enum (ha : PAD X W [a] [f]) (hm : X.mg "enumerate" = none) (hg : Gl X "enumerate" := by rfl) (hs : starEach [a] X.env = [(false, eval a X.env)] := by rfl) : PID X W (.Tuple elts kk tpos) (.Call (.Name "enumerate" p) [a] [] pos) (iEnumD f) := by
  obtain ⟨t, pa, da⟩ := ha.ex
  exact ⟨_, pi_enum hg hm pa hs, di_enum da⟩
theorem pid_zip (ha : PAD X W [a, b] [f, g]) (hm : X.mg "zip" = none) (hg : Gl X "zip" := by rfl) (hs : starEach [a, b] X.env = (false, eval a X.env) :: starEach [b] X.env := by rfl) (hpl : (backTo pos (starEach [b] X.env)).any (·.1) = false := by rfl) : PID X W (.Tuple elts kk tpos) (.Call (.Name "zip" p) [a, b] [] pos) (iZipD f g) := by
  obtain ⟨t, pa, da⟩ := ha.ex
  exact ⟨_, RZ.pi_zipA hg hm pa hs hpl, di_zip da⟩
end
/-! the values, the items of a dict -/
def tHold (td : TE) : TE := fun σ H Q => td σ H fun x H1 => ∃ d ks, x = .ref d ∧ ((H1 d = some (.dK ks) ∧ ∀ o, Q x (upd H1 d (.frz o (.dK ks)))) ∨ ∃ o, H1 d = some (.frz o (.dK ks)) ∧ Q x H1)
theorem pe_hold {X : Cx} {e : Expr} {td : TE} (p : PE X e td) : PE X e (tHold td) := ⟨fun pins s σ H Q I h =>
  wpAny_mono (p.run pins s σ H _ I h) (fun v s' ⟨x, H1, I1, r, d, ks, ex, q⟩ => by
    subst ex
    rcases q with ⟨hd, q⟩ | ⟨o, hd, q⟩
    · obtain ⟨o, I2⟩ := Inv.hold I1 hd
      exact ⟨_, _, I2, r, q o⟩
    · exact ⟨_, _, I1, r, q⟩) fun _ _ z => z⟩
def iValsD (f : EX) : EX := fun ρ => (f ρ).bindV fun d ρ1 => match d.un with
  | .dict kvs => .ok (.val (.list (kvs.map (·.2)))) ρ1
  | _ => .bad
def iItemsD (f : EX) : EX := fun ρ => (f ρ).bindV fun d ρ1 => match d.un with
  | .dict kvs => .ok (.val (.list (kvs.map fun p => .tuple [p.1, p.2]))) ρ1
  | _ => .bad
section
variable {K : PySem.W.Frag} {mg : Str → Option Value} {W : WX} {P : Prot} {F F' H : Hp} {σ : SS} {ρ : Env}
theorem rep_items : ∀ {kvs : List (D × D)} {ks : List (Key × V)}, RepK K F kvs ks → ks.length = kvs.length ∧ ∀ (i : Nat) (p : D × D), kvs[i]? = some p → ∃ k v, ks[i]? = some (k, v) ∧ p.1 = keyD k ∧ Rep K F p.2 v
  | [], _, r => by unfold RepK at r; subst r; exact ⟨rfl, fun i d e => by simp at e⟩
  | (k, d) :: kvs, _, r => by
    unfold RepK at r
    obtain ⟨k2, v, ws, rfl, rfl, r1, r2⟩ := r
    obtain ⟨h1, h2⟩ := rep_items r2
    refine ⟨by simp [h1], fun i e h => ?_⟩
    cases i with
    | zero => simp at h; subst h; exact ⟨k2, v, rfl, rfl, r1⟩
    | succ j =>
      obtain ⟨k3, v3, g1, g2, g3⟩ := h2 j e (by simpa using h)
      exact ⟨k3, v3, by simpa using g1, g2, g3⟩
theorem itok_vals {a : Addr} {o : Obj} {kvs : List (D × D)} {ks : List (Key × V)} (e : F a = some (.frz o (.dK ks))) (r : RepK K F kvs ks) : ItOk K mg (Itd a o ks) F (kvs.map (·.2)) := by
  intro P F' H σ ρ i sb st
  have hH : H a = some (.frz o (.dK ks)) := (sb.trans st.sub).non e id
  obtain ⟨h1, h2⟩ := rep_items r
  refine ⟨fun q => ⟨hH, by rw [h1]; simp at q; omega⟩, fun d q => ?_⟩
  rw [List.getElem?_map] at q
  cases w : kvs[i]? with
  | none => rw [w] at q; cases q
  | some p =>
    rw [w] at q; cases q
    obtain ⟨k, v, g1, g2, g3⟩ := h2 i p w
    refine ⟨⟨hH, (List.getElem?_eq_some_iff.mp g1).1⟩, fun x H' y => ?_⟩
    obtain ⟨rfl, k2, g4⟩ := y
    rw [g1] at g4; cases g4
    exact ⟨F', SubH.refl _, st, Rep.le sb.rd _ _ g3⟩
theorem itok_items {a : Addr} {o : Obj} {kvs : List (D × D)} {ks : List (Key × V)} (e : F a = some (.frz o (.dK ks))) (r : RepK K F kvs ks) : ItOk K mg (Iti a o ks) F (kvs.map fun p => .tuple [p.1, p.2]) := by
  intro P F' H σ ρ i sb st
  have hH : H a = some (.frz o (.dK ks)) := (sb.trans st.sub).non e id
  obtain ⟨h1, h2⟩ := rep_items r
  refine ⟨fun q => ⟨hH, by rw [h1]; simp at q; omega⟩, fun d q => ?_⟩
  rw [List.getElem?_map] at q
  cases w : kvs[i]? with
  | none => rw [w] at q; cases q
  | some p =>
    rw [w] at q; cases q
    obtain ⟨k, v, g1, g2, g3⟩ := h2 i p w
    refine ⟨⟨hH, (List.getElem?_eq_some_iff.mp g1).1⟩, fun x H' y => ?_⟩
    obtain ⟨T, k2, v2, g4, rfl, n, rfl⟩ := y
    rw [g1] at g4; cases g4
    refine lay2 st n ?_ (Rep.le sb.rd _ _ g3)
    rw [g2]; exact mk_key k
theorem di_hold {te : TE} {f : EX} (h : DE K mg W te f) {g : List (D × D) → List D} {It' : Addr → Obj → List (Key × V) → It} (hg : ∀ (F : Hp) (a : Addr) (o : Obj) (kvs : List (D × D)) (ks : List (Key × V)), F a = some (.frz o (.dK ks)) → RepK K F kvs ks → ItOk K mg (It' a o ks) F (g kvs)) :
    DI K mg W (fun σ H R => tHold te σ H fun x H1 => ∃ d o ks, x = .ref d ∧ H1 d = some (.frz o (.dK ks)) ∧ R (It' d o ks) H1) (fun ρ => (f ρ).bindV fun d ρ1 => match d.un with
      | .dict kvs => .ok (.val (.list (g kvs))) ρ1
      | _ => .bad) := by
  intro P F H σ ρ Q st hp
  refine h.bindI st hp fun F1 H1 d ρ1 v sb st1 r q => ?_
  have r' := r.un
  cases hd : d.un with
  | dict kvs =>
    rw [hd] at r'
    simp only [hd] at q
    obtain ⟨a, ks, rfl, rd, rk⟩ := rep_dict r'
    refine ⟨a, ks, rfl, ?_⟩
    rcases rd with e | ⟨o, e⟩
    · rcases st1.sub a _ e with g1 | ⟨_, o, g1⟩
      · refine .inl ⟨g1, fun o => ⟨a, o, ks, rfl, upd_same, ?_⟩⟩
        obtain ⟨s1, s2⟩ := st1.hold (o := o) e (.inl g1)
        exact q _ _ _ s1 s2 (hg _ _ _ _ _ upd_same (RepK.le s1.rd _ _ rk))
      · refine .inr ⟨o, g1, a, o, ks, rfl, g1, ?_⟩
        obtain ⟨s1, s2⟩ := st1.hold (o := o) e (.inr g1)
        rw [upd_id g1] at s2
        exact q _ _ _ s1 s2 (hg _ _ _ _ _ upd_same (RepK.le s1.rd _ _ rk))
    · have g1 := st1.sub.non e id
      exact .inr ⟨o, g1, a, o, ks, rfl, g1, q _ _ _ (SubH.refl _) st1 (hg _ _ _ _ _ e rk)⟩
  | none => simp only [hd] at q; exact q.elim
  | bool i => simp only [hd] at q; exact q.elim
  | int i => simp only [hd] at q; exact q.elim
  | str i => simp only [hd] at q; exact q.elim
  | list i => simp only [hd] at q; exact q.elim
  | tuple i => simp only [hd] at q; exact q.elim
  | dictT i => simp only [hd] at q; exact q.elim
  | tag _ i => simp only [hd] at q; exact q.elim
end
section
variable {X : Cx} {W : WX} {e tg : Expr} {apos cpos tpos : Pos} {elts : List Expr} {kk : Nat} {f : EX}
theorem pid_vals (he : PD X W e f) (hbase : attributeBase e "values" X.env (eval e X.env) = eval e X.env := by rfl) (hline : (apos.endLine == cpos.line) = true := by rfl) : PID X W tg (.Call (.Attribute e "values" apos) [] [] cpos) (iValsD f) := by
  obtain ⟨t, pe, de⟩ := he.ex
  exact ⟨_, pi_values (pe_hold pe) hbase hline, di_hold de fun F a o kvs ks h1 h2 => itok_vals h1 h2⟩
theorem pid_items (he : PD X W e f) (hbase : attributeBase e "items" X.env (eval e X.env) = eval e X.env := by rfl) (hline : (apos.endLine == cpos.line) = true := by rfl) : PID X W (.Tuple elts kk tpos) (.Call (.Attribute e "items" apos) [] [] cpos) (iItemsD f) := by
  obtain ⟨t, pe, de⟩ := he.ex
  exact ⟨_, pi_items (pe_hold pe) hbase hline, di_hold de fun F a o kvs ks h1 h2 => itok_items h1 h2⟩
end
end Dk

set_option Elab.async false
set_option linter.all false
set_option maxRecDepth 100000
set_option maxHeartbeats 4000000
/-! Dk23: own dicts written, extend, join, get, dict of pairs; comprehensions assigned that read own objects -/
namespace Dk
open PySem PySem.Spec L2 PyProof.Rows PySem.W
section
variable {X : Cx} {W : WX} {elt tg iter : Expr} {ifs : List Expr} {scope : Scope} {own : List (Str × Nat)} {pos pos' : Pos} {fi tt fe : EX} {h : Tg}
/-- an assignment to a name: behind its value dicts are let go -/
theorem ps_thaw {st : Stmt} {te : TE} {i : Nat} (p : PS X st (tAsg te (gName i))) : PS X st (tAsg (tThaw te) (gName i)) := ⟨fun pins s σ H D I h => by
  have h' : tAsg te (gName i) { D with nx := fun σ' H' => ∃ H'', Thawed H H' H'' ∧ D.nx σ' H'' } σ H := h
  refine wpAny_mono (p.run pins s σ H _ I h') (fun f s' q => ?_) fun _ _ z => z
  cases f with
  | next =>
    obtain ⟨σ', H', I', H'', T, q⟩ := q
    exact ⟨σ', H'', Inv.thaw I I' T, q⟩
  | brk => exact q
  | cont => exact q
  | ret u => exact q⟩
theorem psd_lcB (i : Nat) (own : List (Str × Nat)) {y : Str} {py spos : Pos} (hN : X.N.Nodup) (hi : PID X W tg iter fi) (ok : BlkOk X.N X.env.scope scope own)
    (hg : ∀ (s : Shared) (H : Hp) (C : Addr) (cl : List (Str × Addr)) (fp : List Addr), PGD (X.blk s H scope (PySem.compEnvC scope cl C X.env) fp) tg h) (ht : ∀ (s : Shared) (H : Hp) (C : Addr) (cl : List (Str × Addr)) (fp : List Addr), PTsD (X.blk s H scope (PySem.compEnvC scope cl C X.env) fp) WF ifs tt)
    (he : ∀ (s : Shared) (H : Hp) (C : Addr) (cl : List (Str × Addr)) (fp : List Addr), PD (X.blk s H scope (PySem.compEnvC scope cl C X.env) fp) WF elt fe)
    (hsw : swapsWith (.ListComp elt [⟨tg, iter, ifs, 0⟩] scope pos) (some (.Name y py)) spos.line X.env = pure true) (hy : X.N[i]? = some y := by rfl) (hyl : X.env.scope.names.lookup y = some .local := by rfl) (hc : X.calm = true := by rfl) (hts : ∀ i ∈ h.ts, i ∈ own.map (·.2) := by decide)
    (hs : ∀ x, foldedSetIterable iter X.env x = pure x := by intro _; rfl) : PSD X W (.Assign [.Name y py] (.ListComp elt [⟨tg, iter, ifs, 0⟩] scope pos) spos) (sAsg i (eBor (eLc fi h tt fe (own.map (·.2))))) := by
  obtain ⟨wi, pi, di⟩ := hi.ex
  exact ⟨_, ps_thaw (ps_setLc hc hN hy hyl hsw pi ok (fun s H C cl fp => (hg s H C cl fp).toPG) (fun s H C cl fp => (ht s H C cl fp).toPTs) (fun s H C cl fp => (he s H C cl fp).toPE) hs), ds_asg i (de_bor (de_lc di hts))⟩
theorem psd_lcOB (i : Nat) (own : List (Str × Nat)) {y : Str} {py spos : Pos} (hN : X.N.Nodup) (hi : PID X W tg iter fi) (ok : BlkOk X.N X.env.scope scope own)
    (hg : ∀ (s : Shared) (H : Hp) (C : Addr) (cl : List (Str × Addr)) (fp : List Addr), PGD (X.blk s H scope (PySem.compEnvC scope cl C X.env) fp) tg h) (ht : ∀ (s : Shared) (H : Hp) (C : Addr) (cl : List (Str × Addr)) (fp : List Addr), PTsD (X.blk s H scope (PySem.compEnvC scope cl C X.env) fp) WF ifs tt)
    (he : ∀ (s : Shared) (H : Hp) (C : Addr) (cl : List (Str × Addr)) (fp : List Addr), PD (X.blk s H scope (PySem.compEnvC scope cl C X.env) fp) WF elt fe)
    (hsw : swapsWith (.ListComp elt [⟨tg, iter, ifs, 0⟩] scope pos) (some (.Name y py)) spos.line X.env = pure true) (hy : X.N[i]? = some y := by rfl) (hyl : X.env.scope.names.lookup y = some .local := by rfl) (hc : X.calm = true := by rfl) (hts : ∀ i ∈ h.ts, i ∈ own.map (·.2) := by decide)
    (hs : ∀ x, foldedSetIterable iter X.env x = pure x := by intro _; rfl) : PSD X W (.Assign [.Name y py] (.ListComp elt [⟨tg, iter, ifs, 0⟩] scope pos) spos) (sAsgO i (eBor (eLc fi h tt fe (own.map (·.2))))) := by
  obtain ⟨wi, pi, di⟩ := hi.ex
  exact ⟨_, ps_thaw (ps_setLc hc hN hy hyl hsw pi ok (fun s H C cl fp => (hg s H C cl fp).toPG) (fun s H C cl fp => (ht s H C cl fp).toPTs) (fun s H C cl fp => (he s H C cl fp).toPE) hs), ds_asgO i (de_bor (de_lc di hts))⟩
end
/-! own dicts written -/
def getD_ (ρ : Env) (i : Nat) : Option (List (D × D)) := match ρ[i]? with
  | some (.own (.dct c)) => some c
  | some (.ref (.dct c)) => some c
  | _ => none
section
variable {K : PySem.W.Frag} {mg : Str → Option Value} {W : WX} {P : Prot} {F H : Hp} {σ : SS} {ρ : Env}
theorem Stt.getD_ (st : Stt K mg P F H σ ρ) {i : Nat} {c : List (D × D)} (h : getD_ ρ i = some c) : ∃ a ks, σ[i]? = some (some (.ref a)) ∧ Owns σ ρ i a ∧ F a = none ∧ H a = some (.dK ks) ∧ RepK K F c ks := by
  unfold Dk.getD_ at h
  split at h
  · rename_i c' e
    cases h
    obtain ⟨a, e1, h1, h2, vs, h3, h4⟩ := st.sl i _ e
    exact ⟨a, vs, of_getD e1, ⟨⟨_, e, rfl⟩, of_getD e1⟩, h1, h3, h4⟩
  · rename_i c' e
    cases h
    obtain ⟨a, e1, h1, h2, vs, h3, h4⟩ := st.sl i _ e
    exact ⟨a, vs, of_getD e1, ⟨⟨_, e, rfl⟩, of_getD e1⟩, h1, h3, h4⟩
  · cases h
end
/-- d[k] = e, d a slot's own dict -/
def sPutK (i : Nat) (f fk : EX) : SX := fun ρ => (f ρ).bs fun o ρ1 => match o.frz with
  | none => .bad
  | some d => (match getD_ ρ1 i with
    | none => .bad
    | some _ => (fk ρ1).bs fun ok ρ2 => match ok with
      | .val e => (match getD_ ρ2 i, toKey e.un with
        | some c, some kk => if c.length < sizeLine then .nx (putC ρ2 i (.dct (putKD c kk d))) else .bad
        | _, _ => .bad)
      | _ => .bad)
theorem RepK.length' {K : PySem.W.Frag} {F : Hp} {c : List (D × D)} {ks : List (Key × V)} (r : RepK K F c ks) : ks.length = c.length := (rep_keys r).1
theorem psd_putK {X : Cx} {W : WX} {x : Str} {k e : Expr} {p p2 pos : Pos} {f fk : EX} (i : Nat) (hu : X.A.units + 69 < cLine) (he : PD X W e f) (hk : PD X W k fk)
    (hN : X.N[i]? = some x := by rfl) (hv : Vis X.env.scope x := by first | exact Or.inl rfl | exact Or.inr (Or.inl rfl) | exact Or.inr (Or.inr rfl)) (hd : (x == ("__debug__" : Str)) = false := by decide) (hcd : (x == ("__classdict__" : Str)) = false := by decide)
    (hs : swapsWith e (some (.Subscript (.Name x p) k p2)) pos.line X.env = pure false := by rfl) : PSD X W (.Assign [.Subscript (.Name x p) k p2] e pos) (sPutK i f fk) := by
  obtain ⟨te, pe, de⟩ := he.ex
  refine ⟨_, ps_dput (by omega) (pe_var hN hv hd hcd) hk.toPE pe hs, ?_⟩
  intro P F H σ ρ D st hp
  refine de.bs st hp fun F1 H1 o ρ1 v sb st1 xo q => ?_
  cases z : o.frz with
  | none => simp only [z] at q; exact q.elim
  | some d =>
    simp only [z] at q
    obtain ⟨F2, sb2, st2, r⟩ := st1.freeze xo z
    cases e1 : getD_ ρ1 i with
    | none => simp only [e1] at q; exact q.elim
    | some c0 =>
      simp only [e1] at q
      obtain ⟨a, xs, es, w, g1, g2, g3⟩ := st2.getD_ e1
      refine ⟨.ref a, es, ?_⟩
      refine (de_tD X.K X.mg W fk).bs st2 (PostS.le sb2 q) fun F3 H3 o2 ρ2 v2 sb3 st3 x2 q2 => ?_
      cases o2 with
      | val dk =>
        simp only at q2
        cases e2 : getD_ ρ2 i with
        | none => simp only [e2] at q2; exact q2.elim
        | some c =>
          cases e3 : toKey dk.un with
          | none => simp only [e2, e3] at q2; exact q2.elim
          | some kk =>
            simp only [e2, e3] at q2
            split at q2
            · rename_i hl
              obtain ⟨a', ys, es', w', k1, k2, k3⟩ := st3.getD_ e2
              rw [es] at es'; cases es'
              have hk2 := key_rep e3 x2.rep.un
              subst hk2
              refine ⟨a, _, rfl, DPut.k k2 (by rw [k3.length']; exact hl), ?_⟩
              exact q2 F3 _ σ (SubH.refl F3) (st3.mutate w' ⟨_, upd_same, rep_put k3 (Rep.le sb3.rd _ _ r)⟩)
            · exact q2.elim
      | emp => exact q2.elim
      | own c => exact q2.elim
      | ref c => exact q2.elim
      | fn c => exact q2.elim
/-! extend -/
theorem extendW (l b : Addr) (xs ys : Array Value) (m n : Nat) (dd : Option Addr) (sl : Array (Option Value)) (h0 : ¬(!xs.isEmpty && Builtin.List.listTooLong (xs.size + ys.size)) = true) (h1 : xs.size ≤ sizeLine) (h2 : xs.size + ys.size ≤ sizeLine + 1) :
    Meets (Builtin.«list.extend» ⟨[.ref l, .ref b], []⟩) (fun _ R t => t.heap.get? l = some { cls := .type "list", dict := none, data := .seq xs m, slots := #[] } ∧ t.heap.get? b = some { cls := .type "list", dict := dd, data := .seq ys n, slots := sl } ∧
      R (.ok (.ret Value.none)) { t with heap := t.heap.update l (Obj.mapSeq fun x => x ++ ys), toks := t.toks }) :=
  .of_wp fun prog w A R t h => by
    obtain ⟨q0, q1, q2, q3, q4⟩ := t
    obtain ⟨hl, hb, h⟩ := h
    have g1 := AutoSeq1.idx_int
    have g2 := AutoSeq1.sub_tuple_tuple
    have g3 := AutoSeq1.sub_list_list
    have g4 := AutoSeq1.sub_tuple_list
    have g5 := AutoSeq1.sub_list_tuple
    have sz : (xs ++ ys).size ≤ sizeLine + 1 := by rw [Array.size_append]; exact h2
    wp_walk using (wpAny_updateSeq hl rfl (hz := h1) (_hz' := sz)), wpAny_loadPart' hl, wpAny_loadPart' hb
    exact ⟨_, rfl, h⟩
def rExtG (K : PySem.W.Frag) : V → List V → Hp → VK → Prop := fun x vs H Q => ∃ l b xs zs, x = .ref l ∧ vs = [.ref b] ∧ H l = some (.lst xs) ∧ SqL K H b zs ∧ xs.length + zs.length ≤ sizeLine ∧ Q .non (upd H l (.lst (xs ++ zs)))
theorem mt_extG {X : Cx} : MtM X "list.extend" (rExtG X.K) := by
  intro pins s σ H x vs v us Q I rx rv h
  obtain ⟨l, b, xs, zs, rfl, rfl, hH, hB, hz, q⟩ := h
  cases rx
  obtain ⟨u, rfl, ru⟩ := rv.one
  cases ru
  obtain ⟨z, its, n, r, hl, e⟩ := I.lstM hH
  obtain ⟨its2, r2, ⟨⟨cls2, dd2, data2, sl2⟩, n2, e2, hc2, hd2, hs2⟩, z2⟩ := I.list hB
  simp only at hc2 hd2 hs2
  subst hc2 hd2 hs2
  have l1 := r.length
  have l2 := r2.length
  have fit : its.toArray.size + its2.toArray.size ≤ sizeLine := by simp only [List.size_toArray]; omega
  have short : ¬ (!its.toArray.isEmpty && Builtin.List.listTooLong (its.toArray.size + its2.toArray.size)) = true := by
    rw [notLongL fit, Bool.and_false]; decide
  refine call_meets PySem.F.slot_list_extend ⟨_, e, rfl⟩ PySem.F.entry_list_extend (PySem.F.args_list_extend_2 _ _) (extendW l b its.toArray its2.toArray n n2 none sl2 short (by omega) (by omega)) ⟨e, e2, ?_⟩
  refine ⟨.non, _, I.lset (its' := its ++ its2) hH e (by simp) (r.append r2) ?_, rfl, q⟩
  rw [List.length_append]; exact hz
def mExtend : List D → List D → Option (D × List D)
  | c, [.list ds] => if c.length + ds.length ≤ sizeLine then some (.none, c ++ ds) else none
  | _, _ => none
theorem rm_extend {K : PySem.W.Frag} : RMut K (rExtG K) mExtend := by
  intro F H a c xs ds vs o c' Q sb hH rc rd hg k
  unfold mExtend at hg
  split at hg
  · rename_i c0 es
    split at hg
    · rename_i hz
      cases hg
      obtain ⟨v, rfl, rv⟩ := rd.one
      obtain ⟨b, ws, rfl, s, l⟩ := rep_list rv
      exact ⟨a, b, xs, ws, rfl, rfl, hH, SqL.le sb.rd s, by rw [rc.length, l.length]; exact hz, k _ _ (rc.append l) mk_none⟩
    · cases hg
  · cases hg
/-! join -/
def strsOf : List D → Option (List Str)
  | [] => some []
  | .str x :: ds => (strsOf ds).map (x :: ·)
  | _ => none
theorem strsOf_vals {K : PySem.W.Frag} {F : Hp} : ∀ {ds : List D} {ys : List Str} {vs : List V}, strsOf ds = some ys → RepL K F ds vs → vs = ys.map V.str
  | [], ys, vs, e, r => by
    unfold RepL at r; subst r
    cases e; rfl
  | d :: ds, ys, vs, e, r => by
    unfold RepL at r
    obtain ⟨v, ws, rfl, r1, r2⟩ := r
    cases d with
    | str x =>
      rw [strsOf] at e
      cases q : strsOf ds with
      | none => rw [q] at e; cases e
      | some zs =>
        rw [q] at e; cases e
        rw [rep_str r1, strsOf_vals q r2]; rfl
    | none => cases e
    | bool b => cases e
    | int b => cases e
    | list b => cases e
    | tuple b => cases e
    | dict b => cases e
    | dictT b => cases e
    | tag b c => cases e
def joinD : D → D → Option Sl
  | .str a, .list ds => (strsOf ds).bind fun ys => if (ys.map (·.length)).sum + ys.length * a.length ≤ 16777216 then some (.val (.str (Txt.join a ys))) else none
  | .str a, .tuple ds => (strsOf ds).bind fun ys => if (ys.map (·.length)).sum + ys.length * a.length ≤ 16777216 then some (.val (.str (Txt.join a ys))) else none
  | _, _ => none
def eJoin (f g : EX) : EX := fun ρ => (f ρ).bindV fun d ρ1 => match d.un with
  | .str a => (g ρ1).bindV fun e ρ2 => (match joinD (.str a) e.un with
    | some o => .ok o ρ2
    | none => .bad)
  | _ => .bad
theorem pd_join {X : Cx} {W : WX} {o e : Expr} {apos pos : Pos} {f g : EX} (ho : PD X W o f) (he : PD X W e g) (hs : starEach [e] X.env = [(false, eval e X.env)] := by rfl) (hbase : attributeBase o "join" X.env (eval o X.env) = eval o X.env := by rfl) (hline : (apos.endLine == pos.line) = true := by rfl) :
    PD X W (.Call (.Attribute o "join" apos) [e] [] pos) (eJoin f g) := by
  obtain ⟨to, po, dO⟩ := ho.ex
  obtain ⟨te, pe, de⟩ := he.ex
  refine ⟨_, pe_join po pe hs hbase hline, ?_⟩
  intro P F H σ ρ Q st hp
  refine dO.bindV st hp fun F1 H1 d ρ1 v sb st1 r h1 => ?_
  have r' := r.un
  split at h1
  · rename_i a hd
    rw [hd] at r'
    have ev := rep_str r'
    subst ev
    refine ⟨⟨a, rfl⟩, ?_⟩
    refine de.bindV st1 h1 fun F2 H2 e2 ρ2 u sb2 st2 r2 h2 => ?_
    have r2' := r2.un
    split at h2
    · rename_i o hj
      unfold joinD at hj
      split at hj
      · rename_i a' ds ea hd2
        cases ea
        rw [hd2] at r2'
        obtain ⟨b, ws, rfl, s, l⟩ := rep_list r2'
        cases q : strsOf ds with
        | none => rw [q] at hj; cases hj
        | some ys =>
          rw [q] at hj
          simp only [Option.bind_some] at hj
          split at hj
          · rename_i hz
            cases hj
            rw [strsOf_vals q l] at s
            exact ⟨a, b, ys, rfl, rfl, .inl (SqL.le st2.sub.rd s), hz, h2.here st2 mk_str⟩
          · cases hj
      · rename_i a' ds ea hd2
        cases ea
        rw [hd2] at r2'
        obtain ⟨b, ws, rfl, s, l⟩ := rep_tup r2'
        cases q : strsOf ds with
        | none => rw [q] at hj; cases hj
        | some ys =>
          rw [q] at hj
          simp only [Option.bind_some] at hj
          split at hj
          · rename_i hz
            cases hj
            rw [strsOf_vals q l] at s
            exact ⟨a, b, ys, rfl, rfl, .inr (SqT.le st2.sub.rd s), hz, h2.here st2 mk_str⟩
          · cases hj
      · cases hj
    · exact h2.elim
  · exact h1.elim
/-! d.get(k, x) -/
def eGet2 (f fk fx : EX) : EX := fun ρ => (f ρ).bindV fun d ρ1 => match d.un with
  | .dict kvs => (fk ρ1).bindV fun e ρ2 => (fx ρ2).bindV fun x ρ3 => (match toKey e.un with
    | some kk => .ok (.val ((lookK kvs kk).getD x)) ρ3
    | none => .bad)
  | _ => .bad
theorem pd_get2 {X : Cx} {W : WX} {o e f : Expr} {apos cpos : Pos} {fo fe ff : EX} (hu : X.A.units + 69 < cLine) (ho : PD X W o fo) (he : PD X W e fe) (hf : PD X W f ff) (m : M2 X o "get" apos e f cpos := by exact ⟨rfl, rfl, rfl, rfl⟩) :
    PD X W (.Call (.Attribute o "get" apos) [e, f] [] cpos) (eGet2 fo fe ff) := by
  obtain ⟨to, po, dO⟩ := ho.ex
  obtain ⟨te, pe, de⟩ := he.ex
  obtain ⟨tf, pf, df⟩ := hf.ex
  refine ⟨_, pe_dget2 (by omega) po pe pf m, ?_⟩
  intro P F H σ ρ Q st hp
  refine dO.bindV st hp fun F1 H1 d ρ1 v sb st1 r h1 => ?_
  have r' := r.un
  split at h1
  · rename_i kvs hd
    rw [hd] at r'
    obtain ⟨a, ks, rfl, rd, rk⟩ := rep_dict r'
    refine ⟨a, rfl, .inl ⟨ks, st1.sub.rd.rdl _ _ rd⟩, ?_⟩
    refine de.bindV st1 h1 fun F2 H2 e2 ρ2 u sb2 st2 r2 h2 => ?_
    refine df.bindV st2 h2 fun F3 H3 x ρ3 w sb3 st3 r3 h3 => ?_
    split at h3
    · rename_i kk hk
      have rr : Rep X.K F3 (.dict kvs) (.ref a) := Rep.le (sb2.trans sb3).rd _ _ r'
      obtain ⟨a2, o, ea, g, e1, e4⟩ := rep_get st3.sub rr hk (Rep.le sb3.rd _ _ r2.un)
      cases ea
      refine ⟨o, g, ?_⟩
      cases hl : lookK kvs kk with
      | none =>
        rw [hl] at e1 h3
        cases o with
        | none => exact h3.here st3 r3
        | some y => cases e1
      | some y =>
        rw [hl] at h3
        obtain ⟨v2, rfl, r4⟩ := e4 y hl
        exact h3.here st3 r4
    · exact h3.elim
  · exact h1.elim
end Dk

set_option Elab.async false
set_option linter.all false
set_option maxRecDepth 100000
set_option maxHeartbeats 4000000
/-! Dk24: list comprehensions with two generators -/
namespace Dk
open PySem PySem.Spec L2
def lcI (h : Tg) (tt elt : EX) (vs : List Nat) : List D → Env → List D → Option (List D × Env)
  | [], ρ, acc => some (acc, ρ)
  | d :: ds, ρ, acc => match h.h d ρ with
    | none => none
    | some ρ1 => match tt ρ1 with
      | .ok (.val (.bool b)) ρ2 => if b = true then (match elt ρ2 with
          | .ok o ρ3 => (match o.frz with
            | some y => lcI h tt elt vs ds (wipeE vs ρ3) (acc ++ [y])
            | none => none)
          | _ => none) else lcI h tt elt vs ds (wipeE vs ρ2) acc
      | _ => none
def lcD2 (h : Tg) (tt fi1 : EX) (h1 : Tg) (tt1 elt : EX) (vs vs1 : List Nat) : List D → Env → List D → R
  | [], ρ, acc => .ok (.own (.lst acc)) ρ
  | d :: ds, ρ, acc => match h.h d ρ with
    | none => .bad
    | some ρ1 => match tt ρ1 with
      | .ok (.val (.bool b)) ρ2 => if b = true then (match fi1 ρ2 with
          | .ok (.val (.list es)) ρ3 => if clearB vs1 ρ3 = true ∧ acc.length + es.length ≤ sizeLine then (match lcI h1 tt1 elt vs1 es (wipeE vs1 ρ3) acc with
              | some (acc', ρ4) => lcD2 h tt fi1 h1 tt1 elt vs vs1 ds (wipeE vs ρ4) acc'
              | none => .bad) else .bad
          | _ => .bad) else lcD2 h tt fi1 h1 tt1 elt vs vs1 ds (wipeE vs ρ2) acc
      | _ => .bad
def eLc2 (fi : EX) (h : Tg) (tt fi1 : EX) (h1 : Tg) (tt1 elt : EX) (vs vs1 : List Nat) : EX := fun ρ => match fi ρ with
  | .ok (.val (.list ds)) ρ1 => if clearB vs ρ1 = true then (lcD2 h tt fi1 h1 tt1 elt vs vs1 ds (wipeE vs ρ1) []).unw vs ρ1 else .bad
  | .exc c fs ρ1 => .exc c fs ρ1
  | _ => .bad
theorem wipe_sub {σ : SS} {vs vs1 : List Nat} (h : ∀ i ∈ vs1, i ∈ vs) : wipe (wipe σ vs1) vs = wipe σ vs := by
  apply List.ext_getElem?
  intro i
  rw [wipe_get, wipe_get, wipe_length, wipe_get]
  by_cases hi : i ∈ vs
  · rw [if_pos hi, if_pos hi]
  · rw [if_neg hi, if_neg hi, if_neg fun z => hi (h i z)]
theorem upd_back {H : Hp} {a : Addr} {u : HO} (h : H a = some u) : upd H a u = H := upd_id h
section
variable {K : PySem.W.Frag} {mg : Str → Option Value} {W : WX} {P : Prot}
/-- a test's outcome -/
theorem post_bool {F : Hp} {σ : SS} {r : R} {T : R → Prop} (hT : ∀ b ρ, r = .ok (.val (.bool b)) ρ → T r) (hn : ∀ r', (∀ b ρ, r' ≠ .ok (.val (.bool b)) ρ) → r = r' → T r) : T r := by
  by_cases h : ∃ b ρ, r = .ok (.val (.bool b)) ρ
  · obtain ⟨b, ρ, e⟩ := h; exact hT b ρ e
  · exact hn r (fun b ρ e => h ⟨b, ρ, e⟩) rfl
theorem de_lc2 {wi : TI} {fi : EX} {h h1 : Tg} {tt fi1 tt1 elt : EX} {vs vs1 : List Nat} (hi : DI K mg W wi fi) (hts : ∀ i ∈ h.ts, i ∈ vs) (hts1 : ∀ i ∈ h1.ts, i ∈ vs1) (hsub : ∀ i ∈ vs1, i ∈ vs) :
    DE K mg W (tLc2 wi (gD K mg h) (tTD K mg WF tt) (wD K mg WF fi1) (gD K mg h1) (tTD K mg WF tt1) (tD K mg WF elt) vs vs1) (eLc2 fi h tt fi1 h1 tt1 elt vs vs1) := by
  intro P F H σ ρ Q st hp
  refine hi P F H σ ρ _ st ?_
  unfold eLc2 at hp
  cases e : fi ρ with
  | bad => simp only [e] at hp; exact hp
  | exc c fs ρ1 => simp only [e] at hp; exact hp
  | ok o ρ1 =>
    simp only [e] at hp
    cases o with
    | val d =>
      cases d with
      | list ds =>
        simp only at hp
        split at hp
        · rename_i hc
          intro F1 H1 J sb st1 it a hna
          obtain ⟨fr1, fr2, fr3⟩ := st1.fresh hna
          have stA : Stt K mg P F1 (upd H1 a (.lst [])) σ ρ1 := st1.alloc hna
          have stB : Stt K mg (P.also a (.lst [])) F1 (upd H1 a (.lst [])) (wipe σ vs) (wipeE vs ρ1) := stA.block hc upd_same fr1 fr3
          have hpin : ∀ i ∈ vs, P.pin i = none := fun i hi => by
            cases q : P.pin i with
            | none => rfl
            | some v =>
              obtain ⟨_, s, h2, h3⟩ := st1.pin i v q
              have := clearB_get hc hi h2
              cases s <;> first | (cases h3; done) | (cases this; done)
          refine ⟨fun i m H' => ∃ F' ρ' acc accV, m = ds.length - i ∧ i ≤ ds.length ∧ SubH F1 F' ∧ Stt K mg (P.also a (.lst accV)) F' H' (wipe σ vs) ρ' ∧ RepL K F' acc accV ∧ Post K mg W P F' σ ((lcD2 h tt fi1 h1 tt1 elt vs vs1 (ds.drop i) ρ' acc).unw vs ρ1) Q,
            ⟨ds.length, F1, _, [], [], by omega, Nat.zero_le _, SubH.refl _, stB, RepL.nil, Post.le sb hp⟩, ?_⟩
          rintro i m H' ⟨F', ρ', acc, accV, rfl, hi', sb', st', rl, q⟩
          have hF' : F' a = none := (st'.keep a (.lst accV) upd_same).2
          have hH' : H' a = some (.lst accV) := (st'.keep a (.lst accV) upd_same).1
          obtain ⟨i1, i2⟩ := it (P.also a (.lst accV)) F' H' (wipe σ vs) ρ' i sb' st'
          by_cases hlt : i < ds.length
          · obtain ⟨go, y⟩ := i2 ds[i] (by simp [hlt])
            rw [List.drop_eq_getElem_cons hlt] at q
            refine .inr ⟨go, fun H2 => ∃ F2 ρ2 acc2 accV2, SubH F1 F2 ∧ Stt K mg (P.also a (.lst accV2)) F2 H2 (wipe σ vs) ρ2 ∧ RepL K F2 acc2 accV2 ∧ Post K mg W P F2 σ ((lcD2 h tt fi1 h1 tt1 elt vs vs1 (ds.drop (i + 1)) ρ2 acc2).unw vs ρ1) Q,
              fun H2 ⟨F2, ρ2, acc2, accV2, z2, z3, z4, z5⟩ => ⟨ds.length - (i + 1), by omega, F2, ρ2, acc2, accV2, rfl, hlt, z2, z3, z4, z5⟩, fun x H2 yx => ?_⟩
            obtain ⟨F2, sb2, st2, r2⟩ := y x H2 yx
            simp only [lcD2] at q
            cases z : h.h ds[i] ρ' with
            | none => simp only [z] at q; exact q.elim
            | some ρ3 =>
              simp only [z] at q
              refine ⟨_, F2, ρ', ρ3, ds[i], st2, r2, z, fun σ3 st3 ag => ⟨?_, ?_⟩⟩
              · rw [wipe_agree ag hts, wipe_wipe]
              · have hw3 : wipe σ3 vs = wipe σ vs := by rw [wipe_agree ag hts, wipe_wipe]
                refine ⟨_, F2, ρ3, st3, ?_⟩
                have q' := Post.le sb2 q
                cases w : tt ρ3 with
                | bad => simp only [w] at q'; exact q'.elim
                | exc c fs ρ4 => simp only [w] at q'; exact q'.elim
                | ok o ρ4 =>
                  simp only [w] at q'
                  cases o with
                  | val dv =>
                    cases dv with
                    | bool b =>
                      simp only at q'
                      intro F4 H4 sb4 st4
                      cases b with
                      | false =>
                        simp only [Bool.false_eq_true, if_false] at q' ⊢
                        have hF4 : F4 a = none := (st4.keep a (.lst accV) upd_same).2
                        have hH4 : H4 a = some (.lst accV) := (st4.keep a (.lst accV) upd_same).1
                        refine ⟨F4, wipeE vs ρ4, acc, accV, (sb'.trans sb2).trans sb4, ?_, RepL.le (sb2.trans sb4).rd _ _ rl, Post.le sb4 q'⟩
                        have := st4.again (u' := .lst accV) hw3 hpin fr2 hF4
                        rw [upd_back hH4] at this
                        exact this
                      | true =>
                        simp only [if_true] at q' ⊢
                        refine ⟨_, F4, ρ4, st4, ?_⟩
                        have q4 := Post.le sb4 q'
                        cases w1 : fi1 ρ4 with
                        | bad => simp only [w1] at q4; exact q4.elim
                        | exc c fs ρ5 => simp only [w1] at q4; exact q4.elim
                        | ok o1 ρ5 =>
                          simp only [w1] at q4
                          cases o1 with
                          | val d1 =>
                            cases d1 with
                            | list es =>
                              simp only at q4
                              split at q4
                              · rename_i hcz
                                obtain ⟨hc1, hz1⟩ := hcz
                                cases wl : lcI h1 tt1 elt vs1 es (wipeE vs1 ρ5) acc with
                                | none => simp only [wl] at q4; exact q4.elim
                                | some pr =>
                                  obtain ⟨accf, ρf⟩ := pr
                                  simp only [wl] at q4
                                  intro F5 H5 J1 sb5 st5 it1
                                  have hF5 : F5 a = none := (st5.keep a (.lst accV) upd_same).2
                                  have hH5 : H5 a = some (.lst accV) := (st5.keep a (.lst accV) upd_same).1
                                  have hp1 : ∀ i ∈ vs1, P.pin i = none := fun i hi => hpin i (hsub i hi)
                                  have stI : Stt K mg (P.also a (.lst accV)) F5 H5 (wipe σ3 vs1) (wipeE vs1 ρ5) := by
                                    have := st5.again (u' := .lst accV) (σ0 := σ3) rfl hp1 fr2 hF5
                                    rw [upd_back hH5] at this
                                    exact this
                                  have rl5 : RepL K F5 acc accV := RepL.le ((sb2.trans sb4).trans sb5).rd _ _ rl
                                  refine ⟨fun j k H' => ∃ F' ρ' acc' accV', k = es.length - j ∧ j ≤ es.length ∧ acc'.length ≤ acc.length + j ∧ SubH F5 F' ∧ Stt K mg (P.also a (.lst accV')) F' H' (wipe σ3 vs1) ρ' ∧ RepL K F' acc' accV' ∧ lcI h1 tt1 elt vs1 (es.drop j) ρ' acc' = some (accf, ρf),
                                    ⟨es.length, F5, _, acc, accV, by omega, Nat.zero_le _, Nat.le_refl _, SubH.refl _, stI, rl5, wl⟩, ?_⟩
                                  rintro j k H6 ⟨F6, ρ6, acc6, accV6, rfl, hj', hacc6, sb6, st6, rl6, q6⟩
                                  have hF6 : F6 a = none := (st6.keep a (.lst accV6) upd_same).2
                                  have hH6 : H6 a = some (.lst accV6) := (st6.keep a (.lst accV6) upd_same).1
                                  obtain ⟨j1, j2⟩ := it1 (P.also a (.lst accV6)) F6 H6 (wipe σ3 vs1) ρ6 j sb6 st6
                                  by_cases hlt1 : j < es.length
                                  · obtain ⟨go1, y1⟩ := j2 es[j] (by simp [hlt1])
                                    rw [List.drop_eq_getElem_cons hlt1] at q6
                                    refine .inr ⟨go1, fun H7 => ∃ F7 ρ7 acc7 accV7, acc7.length ≤ acc.length + (j + 1) ∧ SubH F5 F7 ∧ Stt K mg (P.also a (.lst accV7)) F7 H7 (wipe σ3 vs1) ρ7 ∧ RepL K F7 acc7 accV7 ∧ lcI h1 tt1 elt vs1 (es.drop (j + 1)) ρ7 acc7 = some (accf, ρf),
                                      fun H7 ⟨F7, ρ7, acc7, accV7, z1, z2, z3, z4, z5⟩ => ⟨es.length - (j + 1), by omega, F7, ρ7, acc7, accV7, rfl, hlt1, z1, z2, z3, z4, z5⟩, fun x7 H7 yx7 => ?_⟩
                                    obtain ⟨F7, sb7, st7, r7⟩ := y1 x7 H7 yx7
                                    simp only [lcI] at q6
                                    cases z7 : h1.h es[j] ρ6 with
                                    | none => simp only [z7] at q6; cases q6
                                    | some ρ8 =>
                                      simp only [z7] at q6
                                      refine ⟨_, F7, ρ6, ρ8, es[j], st7, r7, z7, fun σ8 st8 ag8 => ⟨?_, ?_⟩⟩
                                      · rw [wipe_agree ag8 hts1, wipe_wipe]
                                      · have hw8 : wipe σ8 vs1 = wipe σ3 vs1 := by rw [wipe_agree ag8 hts1, wipe_wipe]
                                        refine ⟨_, F7, ρ8, st8, ?_⟩
                                        cases w8 : tt1 ρ8 with
                                        | bad => simp only [w8] at q6; cases q6
                                        | exc c fs ρ9 => simp only [w8] at q6; cases q6
                                        | ok o8 ρ9 =>
                                          simp only [w8] at q6
                                          cases o8 with
                                          | val d8 =>
                                            cases d8 with
                                            | bool b8 =>
                                              simp only at q6
                                              intro F9 H9 sb9 st9
                                              have hF9 : F9 a = none := (st9.keep a (.lst accV6) upd_same).2
                                              have hH9 : H9 a = some (.lst accV6) := (st9.keep a (.lst accV6) upd_same).1
                                              cases b8 with
                                              | false =>
                                                simp only [Bool.false_eq_true, if_false] at q6 ⊢
                                                refine ⟨F9, wipeE vs1 ρ9, acc6, accV6, by omega, (sb6.trans sb7).trans sb9, ?_, RepL.le (sb7.trans sb9).rd _ _ rl6, q6⟩
                                                have := st9.again (u' := .lst accV6) hw8 hp1 fr2 hF9
                                                rw [upd_back hH9] at this
                                                exact this
                                              | true =>
                                                simp only [if_true] at q6 ⊢
                                                refine ⟨_, F9, ρ9, st9, ?_⟩
                                                cases w9 : elt ρ9 with
                                                | bad => simp only [w9] at q6; cases q6
                                                | exc c fs ρ10 => simp only [w9] at q6; cases q6
                                                | ok o9 ρ10 =>
                                                  simp only [w9] at q6
                                                  intro F10 H10 v10 sb10 st10 x10
                                                  cases z10 : o9.frz with
                                                  | none => simp only [z10] at q6; cases q6
                                                  | some yv =>
                                                    simp only [z10] at q6
                                                    obtain ⟨F11, sb11, st11, r11⟩ := st10.freeze x10 z10
                                                    have hF11 : F11 a = none := (st11.keep a (.lst accV6) upd_same).2
                                                    have hH11 : H10 a = some (.lst accV6) := (st11.keep a (.lst accV6) upd_same).1
                                                    have hl := rl6.length
                                                    refine ⟨accV6, hH11, by omega, F11, wipeE vs1 ρ10, acc6 ++ [yv], accV6 ++ [v10], by simp; omega, (((sb6.trans sb7).trans sb9).trans sb10).trans sb11, ?_, ?_, q6⟩
                                                    · exact st11.again hw8 hp1 fr2 hF11
                                                    · exact (RepL.le (((sb7.trans sb9).trans sb10).trans sb11).rd _ _ rl6).append (RepL.cons r11 RepL.nil)
                                            | none => cases q6
                                            | int i => cases q6
                                            | str i => cases q6
                                            | list i => cases q6
                                            | tuple i => cases q6
                                            | dict i => cases q6
                                            | dictT i => cases q6
                                            | tag _ i => cases q6
                                          | emp => cases q6
                                          | own c => cases q6
                                          | ref c => cases q6
                                          | fn c => cases q6
                                  · have ej : j = es.length := by omega
                                    subst ej
                                    rw [List.drop_length] at q6
                                    simp only [lcI, Option.some.injEq, Prod.mk.injEq] at q6
                                    obtain ⟨rfl, rfl⟩ := q6
                                    refine .inl ⟨j1 rfl, F6, wipeE vs ρ6, acc6, accV6, (((sb'.trans sb2).trans sb4).trans sb5).trans sb6, ?_, rl6, Post.le (sb5.trans sb6) q4⟩
                                    have := st6.again (u' := .lst accV6) (σ0 := σ) (vs := vs) (by rw [wipe_sub hsub, hw3]) hpin fr2 hF6
                                    rw [upd_back hH6] at this
                                    exact this
                              · exact q4.elim
                            | none => exact q4.elim
                            | bool i => exact q4.elim
                            | int i => exact q4.elim
                            | str i => exact q4.elim
                            | tuple i => exact q4.elim
                            | dict i => exact q4.elim
                            | dictT i => exact q4.elim
                            | tag _ i => exact q4.elim
                          | emp => exact q4.elim
                          | own c => exact q4.elim
                          | ref c => exact q4.elim
                          | fn c => exact q4.elim
                    | none => exact q'.elim
                    | int i => exact q'.elim
                    | str i => exact q'.elim
                    | list i => exact q'.elim
                    | tuple i => exact q'.elim
                    | dict i => exact q'.elim
                    | dictT i => exact q'.elim
                    | tag _ i => exact q'.elim
                  | emp => exact q'.elim
                  | own c => exact q'.elim
                  | ref c => exact q'.elim
                  | fn c => exact q'.elim
          · have ei : i = ds.length := by omega
            subst ei
            rw [List.drop_length] at q
            simp only [lcD2, R.unw] at q
            obtain ⟨s1, s2⟩ := st1.unblock hc sb' st' fr2
            refine .inl ⟨i1 rfl, q F' H' _ (SubH.refl _) s1 ⟨⟨a, rfl, hF', fr2, accV, hH', rl⟩, (by intro z; cases z), rfl, fun _ i b eb w => ?_⟩⟩
            cases eb
            exact s2 i w
        · exact hp.elim
      | none => exact hp.elim
      | bool i => exact hp.elim
      | int i => exact hp.elim
      | str i => exact hp.elim
      | tuple i => exact hp.elim
      | dict i => exact hp.elim
      | dictT i => exact hp.elim
      | tag _ i => exact hp.elim
    | emp => exact hp.elim
    | own c => exact hp.elim
    | ref c => exact hp.elim
    | fn c => exact hp.elim
end
section
variable {X : Cx} {W : WX} {elt tg iter tg1 iter1 : Expr} {ifs ifs1 : List Expr} {scope : Scope} {own : List (Str × Nat)} {pos pos' : Pos} {fi tt fe fi1 tt1 : EX} {h h1 : Tg}
theorem pd_lc2 (own : List (Str × Nat)) (vs1 : List Nat) (hN : X.N.Nodup) (hi : PID X W tg iter fi) (ok : BlkOk X.N X.env.scope scope own)
    (hg : ∀ (s : Shared) (H : Hp) (C : Addr) (cl : List (Str × Addr)) (fp : List Addr), PGD (X.blk s H scope (PySem.compEnvC scope cl C X.env) fp) tg h) (ht : ∀ (s : Shared) (H : Hp) (C : Addr) (cl : List (Str × Addr)) (fp : List Addr), PTsD (X.blk s H scope (PySem.compEnvC scope cl C X.env) fp) WF ifs tt)
    (hi1 : ∀ (s : Shared) (H : Hp) (C : Addr) (cl : List (Str × Addr)) (fp : List Addr), PID (X.blk s H scope (PySem.compEnvC scope cl C X.env) fp) WF tg1 iter1 fi1)
    (hg1 : ∀ (s : Shared) (H : Hp) (C : Addr) (cl : List (Str × Addr)) (fp : List Addr), PGD (X.blk s H scope (PySem.compEnvC scope cl C X.env) fp) tg1 h1) (ht1 : ∀ (s : Shared) (H : Hp) (C : Addr) (cl : List (Str × Addr)) (fp : List Addr), PTsD (X.blk s H scope (PySem.compEnvC scope cl C X.env) fp) WF ifs1 tt1)
    (he : ∀ (s : Shared) (H : Hp) (C : Addr) (cl : List (Str × Addr)) (fp : List Addr), PD (X.blk s H scope (PySem.compEnvC scope cl C X.env) fp) WF elt fe) (hc : X.calm = true := by rfl) (hts : ∀ i ∈ h.ts, i ∈ own.map (·.2) := by decide) (hts1 : ∀ i ∈ h1.ts, i ∈ vs1 := by decide) (hv : ∀ i ∈ vs1, i ∈ own.map (·.2) := by decide)
    (hs : ∀ x, foldedSetIterable iter X.env x = pure x := by intro _; rfl) (hs1 : ∀ env x, foldedSetIterable iter1 env x = pure x := by intro _ _; rfl) : PD X W (.ListComp elt [⟨tg, iter, ifs, 0⟩, ⟨tg1, iter1, ifs1, 0⟩] scope pos) (eLc2 fi h tt fi1 h1 tt1 fe (own.map (·.2)) vs1) := by
  obtain ⟨wi, pi, di⟩ := hi.ex
  exact ⟨_, pe_lc2 hc hN pi ok hv (fun s H C cl fp => (hg s H C cl fp).toPG) (fun s H C cl fp => (ht s H C cl fp).toPTs) (fun s H C cl fp => (hi1 s H C cl fp).toPI) (fun s H C cl fp => (hg1 s H C cl fp).toPG) (fun s H C cl fp => (ht1 s H C cl fp).toPTs) (fun s H C cl fp => (he s H C cl fp).toPE) hs hs1, de_lc2 di hts hts1 hv⟩
end
end Dk

set_option Elab.async false
set_option linter.all false
set_option maxRecDepth 100000
set_option maxHeartbeats 4000000
/-! Dk25: sorted(set(xs)), len(set(xs)) of hin -/
namespace Dk
open PySem PySem.Spec L2 PyProof.Rows PySem.W
abbrev freshS (w : World) : Obj := { cls := .type "set", dict := none, data := .set #[] 0 (.fresh 0 0 (!w.params.followText "set-order")) }
section
variable {P : Program} {w : World} {A : Around} {E : Value → Shared → Prop} {s : Shared}
set_option maxHeartbeats 6400000 in
/-- set(xs) of a list of hin -/
theorem set_of_list {l : Addr} {xs : Array Value} (ns : List Int) {Q : Value → Shared → Prop} (hh : A.handled = none) (isl : s.heap.IsList l xs) (hin : IntsAre xs.toList ns) (few : ns.length + 1 < scanBound)
    (fin : ∀ (g : Heap) (tk c : Nat), SetR w g s.heap.objs.size (fun j => decide (j ∈ ns)) c → c ≤ ns.length → (∀ b o, s.heap.get? b = some o → g.get? b = some o) → Q (.ref s.heap.objs.size) { s with heap := g, toks := tk }) :
    wpAny (model P w) A (call (.type "set") [.ref l]) Q E s := by
  have len : xs.size = ns.length := by have q := IntsAre.length hin; rw [Array.length_toList] at q; exact q
  obtain ⟨cm, tm, hmro⟩ := F.called_set.mro
  have k1 := F.called_set.made
  have k2 := F.called_set.sub
  refine wpAny_call (codeAny_of_tree (wpAny_pure ⟨Code.quiet_builtin _ (by decide +kernel), codeAny_builtin F.entry_type_call ?_⟩))
  rw [Around.under_plain (weight_type_call_type "set" [.ref l] []) rfl]
  have k3 := F.called_set.notType
  have k4 := F.called_set.canCreate
  have k5 := F.typeCall_set_1 (.ref l)
  repeat (any_goals (first | assumption | wp_step))
  refine codeAny_mono (code_set_led1 (.ref l) (E := E) (Q₁ := fun ob t => ob = .ref s.heap.objs.size ∧ t = { s with heap := s.heap.push (freshS w) }) ⟨rfl, rfl⟩) fun r t hr => ?_
  cases r with
  | error e => exact hr
  | ok fl =>
    cases fl with
    | ret ob =>
      obtain ⟨rfl, rfl⟩ := hr
      have at0 : (s.heap.push (freshS w)).get? s.heap.objs.size = some (freshS w) := Heap.get?_push_size _ rfl
      have ty0 : Shared.TypeIs { s with heap := s.heap.push (freshS w) } (.ref s.heap.objs.size) "set" := ⟨_, at0, rfl⟩
      have k6 := F.called_set.init.lookup
      have k7 := F.called_set.init.bind (.ref s.heap.objs.size)
      repeat (any_goals (first | assumption | wp_step))
      refine codeAny_mono (codeAny_call_builtin (R := wants (fun r t => r = .none ∧ ∃ g tk c, t = { s with heap := g, toks := tk } ∧ SetR w g s.heap.objs.size (fun j => decide (j ∈ ns)) c ∧ c ≤ ns.length ∧ (∀ b o, s.heap.get? b = some o → g.get? b = some o)) E) F.called_set.init.plain F.entry_set_init (check_set_init_1 ty0 ?_)) fun r2 t2 hr2 => ?_
      · obtain ⟨⟨oc, od, odt, osl⟩, ho, e1, n0, e2⟩ := isl
        simp only at e1 e2
        subst e1 e2
        have ho' : (s.heap.push (freshS w)).get? l = some { cls := .type "list", dict := od, data := .seq xs n0, slots := osl } := Heap.get?_push_of_some _ ho
        have k8 := F.sub_list_set
        have k9 := F.sub_list_frozenset
        have k10 : (Value.type "list" == Value.type "dict") = false := by decide
        have is0 : (s.heap.push (freshS w)).IsList l xs := ⟨_, ho', rfl, n0, rfl⟩
        unfold Builtin.«set.__init__» noKeywords Builtin.Frozenset.updateFrom
        generalize hPI : pyIter = PI
        wp_walk
        subst hPI
        refine wpAny_pyIter_list is0 (wpAny_bind (wpAny_runValue ?_))
        have lt0 : l < s.heap.objs.size := Heap.lt_size ho
        have hh3 : A.in1.in1.in1.handled = none := by simp [hh]
        have sz : (s.heap.push (freshS w)).objs.size = s.heap.objs.size + 1 := Heap.size_push ..
        have ne0 : l ≠ (s.heap.push (freshS w)).objs.size := by rw [sz]; exact Nat.ne_of_lt (Nat.lt_succ_of_lt lt0)
        have off : s.heap.objs.size ∉ [(s.heap.push (freshS w)).objs.size, l] := by
          rw [sz]
          intro z
          rcases List.mem_cons.mp z with z | z
          · exact absurd z (Nat.ne_of_lt (Nat.lt_succ_self _))
          · exact absurd (List.mem_singleton.mp z) (Nat.ne_of_gt lt0)
        have val : ∀ (i : Nat) (v : Value), xs[i]? = some v → ∃ k t, ns[i]? = some k ∧ v = .int k t := fun i v hv => by
          have hi : i < ns.length := by rw [← len]; exact (Array.getElem?_eq_some_iff.mp hv).1
          obtain ⟨t, e⟩ := PyProof.Rows.IntsAre.int_at hin i v (by rw [Array.getElem?_toList]; exact hv)
          exact ⟨ns[i], t, List.getElem?_eq_getElem hi, by rw [e, List.getD_eq_getElem?_getD, List.getElem?_eq_getElem hi] <;> rfl⟩
        refine set_update_ints ((Walks.list hh3 _ l ne0 xs).toS) s.heap.objs.size off ns len few val (xs.size - 0) 0 _ (by omega) (Nat.zero_le _) ⟨⟨_, Heap.get?_push_size _ rfl, rfl, rfl⟩, (is0.push _)⟩ ?start ?stop
        case start =>
          exact ⟨0, Nat.le_refl 0, setR_new_at (Heap.get?_push_of_some _ at0)⟩
        case stop =>
          intro t c mv hc hS
          obtain ⟨g, g2, d2, tk2, os2⟩ := t
          have eg : g2 = s.gens := mv.gens
          have ed : d2 = s.drawn := mv.drawn
          have eo : os2 = s.os := mv.os
          subst eg ed eo
          refine wpAny_pure ?_
          show wpAny _ _ (ret Value.none) _ _ _
          rw [len] at hc
          refine wpAny_pure ⟨rfl, g, tk2, c, rfl, hS, hc, fun b o e => ?_⟩
          have hb := Heap.lt_size e
          refine mv.heap b o (fun z => ?_) (Heap.get?_push_of_some _ (Heap.get?_push_of_some _ e))
          rcases List.mem_cons.mp z with z | z
          · exact absurd z (Nat.ne_of_lt hb)
          · exact absurd (List.mem_singleton.mp z) (by rw [sz]; exact Nat.ne_of_lt (Nat.lt_succ_of_lt hb))
      · cases r2 with
        | error e => exact hr2
        | ok fl2 =>
          cases fl2 with
          | ret r =>
            obtain ⟨rfl, g, tk, c, rfl, hS, hc, hk⟩ := hr2
            repeat (any_goals (first | assumption | wp_step))
            exact fin _ _ _ hS hc hk
          | _ => exact hr2.elim
    | _ => exact hr.elim
end
end Dk

set_option Elab.async false
set_option linter.all false
set_option maxRecDepth 100000
set_option maxHeartbeats 4000000
/-! Dk26: sorted(set(xs)), len(set(xs)) of ints, by data -/
namespace Dk
open PySem PySem.Spec L2 PyProof.Rows PySem.W
/-- the different ones, ascending -/
def sortU (ns : List Int) : List Int := ns.eraseDups.mergeSort fun a b => decide (a ≤ b)
theorem asc_unique : ∀ {xs ys : List Int}, xs.Pairwise (· < ·) → ys.Pairwise (· < ·) → (∀ k, k ∈ xs ↔ k ∈ ys) → xs = ys
  | [], [], _, _, _ => rfl
  | [], y :: ys, _, _, h => absurd ((h y).mpr List.mem_cons_self) (by simp)
  | x :: xs, [], _, _, h => absurd ((h x).mp List.mem_cons_self) (by simp)
  | x :: xs, y :: ys, hx, hy, h => by
    obtain ⟨hx1, hx2⟩ := List.pairwise_cons.mp hx
    obtain ⟨hy1, hy2⟩ := List.pairwise_cons.mp hy
    have e : x = y := by
      rcases List.mem_cons.mp ((h x).mp List.mem_cons_self) with a | a
      · exact a
      · rcases List.mem_cons.mp ((h y).mpr List.mem_cons_self) with b | b
        · exact b.symm
        · have h1 : y < x := hy1 x a
          have h2 : x < y := hx1 y b
          omega
    subst e
    congr 1
    refine asc_unique hx2 hy2 fun k => ⟨fun hk => ?_, fun hk => ?_⟩
    · rcases List.mem_cons.mp ((h k).mp (List.mem_cons_of_mem _ hk)) with a | a
      · have : x < k := hx1 k hk
        omega
      · exact a
    · rcases List.mem_cons.mp ((h k).mpr (List.mem_cons_of_mem _ hk)) with a | a
      · have : x < k := hy1 k hk
        omega
      · exact a
theorem sortU_mem (ns : List Int) (k : Int) : k ∈ sortU ns ↔ k ∈ ns := by
  unfold sortU
  rw [List.mem_mergeSort, List.mem_eraseDups]
theorem nodup_eraseDups (ns : List Int) : ns.eraseDups.Nodup := by
  have : ∀ (n : Nat) (ns : List Int), ns.length ≤ n → ns.eraseDups.Nodup := by
    intro n
    induction n with
    | zero =>
      intro ns h
      have : ns = [] := List.length_eq_zero_iff.mp (by omega)
      subst this
      simp
    | succ n ih =>
      intro ns h
      cases ns with
      | nil => simp
      | cons a as =>
        rw [List.eraseDups_cons]
        refine List.nodup_cons.mpr ⟨fun hm => ?_, ih _ ?_⟩
        · rw [List.mem_eraseDups, List.mem_filter] at hm
          simp at hm
        · have := List.length_filter_le (fun b => !b == a) as
          simp only [List.length_cons] at h
          omega
  exact this _ ns (Nat.le_refl _)
theorem sortU_nodup (ns : List Int) : (sortU ns).Nodup := (List.mergeSort_perm _ _).nodup_iff.mpr (nodup_eraseDups ns)
theorem sortU_asc (ns : List Int) : (sortU ns).Pairwise (· < ·) := by
  have h1 : (sortU ns).Pairwise (fun a b => decide (a ≤ b) = true) := List.pairwise_mergeSort (fun a b c h1 h2 => by simp at *; omega) (fun a b => by simp; omega) _
  have h2 : (sortU ns).Pairwise (· ≠ ·) := sortU_nodup ns
  refine (h1.and h2).imp fun {a b} h => ?_
  obtain ⟨h3, h4⟩ := h
  have h3 := of_decide_eq_true h3
  omega
theorem sortU_len {ns ms : List Int} (hn : ms.Nodup) (h : ∀ k, k ∈ ms ↔ k ∈ ns) : ms.length = (sortU ns).length :=
  ((List.perm_ext_iff_of_nodup hn (sortU_nodup ns)).mpr fun k => by rw [h k, sortU_mem]).length_eq
def tSetI (K : PySem.W.Frag) (k : List Int → HO → Addr → Hp → VK → Prop) (ta : TE) : TE := fun σ H Q => ta σ H fun x H1 => ∃ (l : Addr) (ns : List Int), x = .ref l ∧ (SqL K H1 l (ns.map V.int) ∨ SqT K H1 l (ns.map V.int)) ∧ ns.length < 64 ∧ ∀ (φ : HO) (p : Addr), H1 p = none → k ns φ p H1 Q
def kSorted : List Int → HO → Addr → Hp → VK → Prop := fun ns φ p H1 Q => ∀ q, upd H1 p φ q = none → Q (.ref q) (upd (upd H1 p φ) q (.lst ((sortU ns).map V.int)))
def kCount : List Int → HO → Addr → Hp → VK → Prop := fun ns φ p H1 Q => Q (.int ((sortU ns).length : Nat)) (upd H1 p φ)
theorem vals_as_ints : ∀ {ns : List Int} {us : List Value}, Vals (ns.map V.int) us → IntsAre us ns
  | [], _, .nil => .nil
  | n :: ns, _, .cons r t => by
    obtain ⟨k, rfl⟩ := r
    exact .cons n k (vals_as_ints t)
theorem setR_len {w : World} {h : Heap} {a : Addr} {ns : List Int} {c : Nat} (R : SetR w h a (fun j => decide (j ∈ ns)) c) : c = (sortU ns).length := by
  obtain ⟨o, es, ep, t, _, _, _, _, nd, hm, _, _, hn, _, _⟩ := R
  have := sortU_len (ns := ns) nd fun k => by rw [← hm k]; simp
  rw [List.length_map, Array.length_toList] at this
  omega
section
variable {X : Cx} {a : Expr} {ta : TE} {p p2 q pos : Pos}
/-- the set is made, whatever is asked of it -/
theorem set_made {pins : List (Addr × Obj)} {σ : SS} {H1 : Hp} {t : Shared} {l : Addr} {ns : List Int} (hc : X.calm = true) (I : Inv X pins σ H1 t) (hq : SqL X.K H1 l (ns.map V.int) ∨ SqT X.K H1 l (ns.map V.int)) (hl : ns.length < 64) {R : Value → Shared → Prop}
    (k : ∀ (b : Addr) (c : Nat) (t' : Shared), Inv X pins σ (upd H1 b (SetO X.w b (fun j => decide (j ∈ ns)) c)) t' → H1 b = none → c = (sortU ns).length → c < 64 → SetR X.w t'.heap b (fun j => decide (j ∈ ns)) c → R (.ref b) t') :
    wpAny (model X.prog X.w) X.A (call (.type "set") [.ref l]) R X.xe t := by
  have few : ns.length + 1 < scanBound := by unfold scanBound; omega
  have hn := I.hok.fresh (Nat.le_refl t.heap.objs.size)
  rcases hq with hq | hq
  · obtain ⟨its, r, pl, hz⟩ := I.list hq
    refine set_of_list ns (I.ok.hd hc) pl.isList (by simpa using vals_as_ints r) few fun g tk c hS hcl hk => ?_
    exact k _ c _ (I.laid (t' := tk) hk (Nat.le_refl _) (setO_new hS)) hn (setR_len hS) (by omega) hS
  · obtain ⟨its, r, pl, hz⟩ := I.tuple hq
    refine call_set_tupI ns (I.ok.hd hc) pl (by simpa using vals_as_ints r) few fun g tk c hS hcl hk => ?_
    exact k _ c _ (I.laid (t' := tk) hk (Nat.le_refl _) (setO_new hS)) hn (setR_len hS) (by omega) hS
theorem pe_sortedSetI (hc : X.calm = true) (hg : Gl X "sorted") (hm : X.mg "sorted" = none) (hg2 : Gl X "set") (hm2 : X.mg "set" = none) (ha : PE X a ta) (na : starEach [a] X.env = (false, eval a X.env) :: starEach [] X.env) :
    PE X (.Call (.Name "sorted" p) [.Call (.Name "set" p2) [a] [] q] [] pos) (tSetI X.K kSorted ta) := by
  refine ⟨fun pins s σ H Q I h => Call_ (ld_blt I hg hm Boot.sorted (callWith_builtin1 (args_cons (Call_ (ld_blt I hg2 hm2 boot_set (callWith_type1 (args_cons (thn (ha.run pins s σ H _ I h) fun v t ⟨x, H1, I1, r1, q1⟩ => args_nil ?_) na) na rfl))) rfl) rfl rfl))⟩
  obtain ⟨l, ns, rfl, hq, hl, q1⟩ := q1
  cases r1
  refine set_made hc I1 hq hl fun b c t' I2 hn hc1 hc2 _ => args_nil ?_
  refine cr_sortedSet hc pins t' σ _ [.ref b] [Value.ref b] Q I2 (.cons rfl .nil) ⟨b, _, c, rfl, upd_same, hc2, fun ms p' hs hmm hlen hp => ?_⟩
  have e : ms = sortU ns := asc_unique hs (sortU_asc ns) fun k => by rw [hmm k, sortU_mem]; simp
  subst e
  exact q1 _ b hn p' hp
theorem pe_lenSetI' (hc : X.calm = true) (hg : Gl X "len") (hm : X.mg "len" = none) (hg2 : Gl X "set") (hm2 : X.mg "set" = none) (ha : PE X a ta) (na : starEach [a] X.env = (false, eval a X.env) :: starEach [] X.env) :
    PE X (.Call (.Name "len" p) [.Call (.Name "set" p2) [a] [] q] [] pos) (tSetI X.K kCount ta) := by
  refine ⟨fun pins s σ H Q I h => Call_ (ld_blt I hg hm boot_len (callWith_builtin1 (args_cons (Call_ (ld_blt I hg2 hm2 boot_set (callWith_type1 (args_cons (thn (ha.run pins s σ H _ I h) fun v t ⟨x, H1, I1, r1, q1⟩ => args_nil ?_) na) na rfl))) rfl) rfl rfl))⟩
  obtain ⟨l, ns, rfl, hq, hl, q1⟩ := q1
  cases r1
  refine set_made hc I1 hq hl fun b c t' I2 hn hc1 hc2 R => args_nil ?_
  obtain ⟨o, es, ep, tb, ho, hex, hd, _, _, _, _, hf, hn2, _, _⟩ := R
  refine call_len_set ho hex hd hf (by rw [hn2]; omega) ⟨.int c, _, I2.tok _, ⟨_, by rw [hn2]⟩, ?_⟩
  rw [hc1]
  exact q1 _ b hn
end
def intsOf' : D → Option (List Int)
  | .list ds => intsOf ds
  | .tuple ds => intsOf ds
  | _ => none
def eSortedSet (f : EX) : EX := fun ρ => (f ρ).bindV fun d ρ1 => match intsOf' d.un with
  | some ns => if ns.length < 64 then .ok (.own (.lst ((sortU ns).map D.int))) ρ1 else .bad
  | none => .bad
def eLenSet (f : EX) : EX := fun ρ => (f ρ).bindV fun d ρ1 => match intsOf' d.un with
  | some ns => if ns.length < 64 then .ok (.val (.int ((sortU ns).length : Nat))) ρ1 else .bad
  | none => .bad
section
variable {K : PySem.W.Frag} {mg : Str → Option Value} {W : WX}
theorem ints_reps {F : Hp} : ∀ {ds : List D} {ns : List Int} {vs : List V}, intsOf ds = some ns → RepL K F ds vs → vs = ns.map V.int
  | [], ns, vs, e, r => by
    unfold RepL at r; subst r
    cases e; rfl
  | d :: ds, ns, vs, e, r => by
    unfold RepL at r
    obtain ⟨v, ws, rfl, r1, r2⟩ := r
    cases d with
    | int x =>
      rw [intsOf] at e
      cases q : intsOf ds with
      | none => rw [q] at e; cases e
      | some zs =>
        rw [q] at e; cases e
        rw [rep_int r1, ints_reps q r2]; rfl
    | none => cases e
    | bool b => cases e
    | str b => cases e
    | list b => cases e
    | tuple b => cases e
    | dict b => cases e
    | dictT b => cases e
    | tag b c => cases e
theorem rep_ints' {F : Hp} {d : D} {ns : List Int} {v : V} (e : intsOf' d = some ns) (r : Rep K F d v) : ∃ l, v = .ref l ∧ (SqL K F l (ns.map V.int) ∨ SqT K F l (ns.map V.int)) := by
  unfold intsOf' at e
  split at e
  · obtain ⟨a, vs, rfl, s, l⟩ := rep_list r
    have := ints_reps e l
    subst this
    exact ⟨a, rfl, .inl s⟩
  · obtain ⟨a, vs, rfl, s, l⟩ := rep_tup r
    have := ints_reps e l
    subst this
    exact ⟨a, rfl, .inr s⟩
  · cases e
theorem repL_ints {F : Hp} : ∀ ns : List Int, RepL K F (ns.map D.int) (ns.map V.int)
  | [] => RepL.nil
  | n :: ns => RepL.cons mk_int (repL_ints ns)
theorem de_sortedSet {ta : TE} {f : EX} (ha : DE K mg W ta f) : DE K mg W (tSetI K kSorted ta) (eSortedSet f) := by
  intro P F H σ ρ Q st hp
  refine ha.bindV st hp fun F1 H1 d ρ1 v sb st1 r h1 => ?_
  split at h1
  · rename_i ns e
    split at h1
    · rename_i hl
      obtain ⟨l, rfl, s⟩ := rep_ints' e r.un
      refine ⟨l, ns, rfl, s.imp (SqL.le st1.sub.rd) (SqT.le st1.sub.rd), hl, fun φ p hn q hq => ?_⟩
      exact h1.newL (st1.alloc hn) (repL_ints _) q hq
    · exact h1.elim
  · exact h1.elim
theorem de_lenSet {ta : TE} {f : EX} (ha : DE K mg W ta f) : DE K mg W (tSetI K kCount ta) (eLenSet f) := by
  intro P F H σ ρ Q st hp
  refine ha.bindV st hp fun F1 H1 d ρ1 v sb st1 r h1 => ?_
  split at h1
  · rename_i ns e
    split at h1
    · rename_i hl
      obtain ⟨l, rfl, s⟩ := rep_ints' e r.un
      refine ⟨l, ns, rfl, s.imp (SqL.le st1.sub.rd) (SqT.le st1.sub.rd), hl, fun φ p hn => ?_⟩
      exact h1.here (st1.alloc hn) mk_int
    · exact h1.elim
  · exact h1.elim
end
section
variable {X : Cx} {W : WX} {a : Expr} {p p2 q pos : Pos} {f : EX}
theorem pd_sortedSet (ha : PD X W a f) (hm : X.mg "sorted" = none) (hm2 : X.mg "set" = none) (hc : X.calm = true := by rfl) (hg : Gl X "sorted" := by rfl) (hg2 : Gl X "set" := by rfl) (na : starEach [a] X.env = (false, eval a X.env) :: starEach [] X.env := by rfl) :
    PD X W (.Call (.Name "sorted" p) [.Call (.Name "set" p2) [a] [] q] [] pos) (eSortedSet f) := by
  obtain ⟨t, pa, da⟩ := ha.ex
  exact ⟨_, pe_sortedSetI hc hg hm hg2 hm2 pa na, de_sortedSet da⟩
theorem pd_lenSet (ha : PD X W a f) (hm : X.mg "len" = none) (hm2 : X.mg "set" = none) (hc : X.calm = true := by rfl) (hg : Gl X "len" := by rfl) (hg2 : Gl X "set" := by rfl) (na : starEach [a] X.env = (false, eval a X.env) :: starEach [] X.env := by rfl) :
    PD X W (.Call (.Name "len" p) [.Call (.Name "set" p2) [a] [] q] [] pos) (eLenSet f) := by
  obtain ⟨t, pa, da⟩ := ha.ex
  exact ⟨_, pe_lenSetI' hc hg hm hg2 hm2 pa na, de_lenSet da⟩
end
end Dk

set_option Elab.async false
set_option linter.all false
set_option maxRecDepth 100000
set_option maxHeartbeats 4000000
/-! Dk27: a zip kept in a name, then walked by the comprehension that is handed back -/
namespace Dk
open PySem PySem.Spec L2 PyProof.Rows PySem.W
section
variable {X : Cx} {pins : List (Addr × Obj)} {σ : SS} {H H' : Hp} {s : Shared} {h' : Heap}
theorem Inv.laidM {t' : Nat} (I : Inv X pins σ H s) (k : ∀ b u, s.heap.get? b = some u → h'.get? b = some u) (h1 : ∀ b, b < s.heap.objs.size → H' b = H b) (h2 : ∀ b u, s.heap.objs.size ≤ b → H' b = some u → ObjOk X.prog X.w H' h' b u) :
    Inv X pins σ H' { s with heap := h', toks := t' } := by
  have lt : ∀ b u, H b = some u → b < s.heap.objs.size := fun b u e => (I.hok b u e).lt
  have same : ∀ b u, H b = some u → H' b = some u := fun b u e => by rw [h1 b (lt b u e)]; exact e
  refine I.un ⟨fun b o e _ _ _ => k b o e, fun b o e _ _ _ => ⟨o.slots, k b o e⟩, fun b o e n _ => by rw [h1 b (Heap.lt_size e)]; exact n, fun b o e _ => ⟨o, k b o e⟩, fun b xs e => same b _ e, fun b o u e => same b _ e, fun b ps e => ⟨#[], by rw [same b _ e]; simp⟩⟩ fun b u e => ?_
  by_cases hb : b < s.heap.objs.size
  · rw [h1 b hb] at e
    exact (I.hok b u e).stay (fun _ o _ q => k _ o q) (fun c z => same c _ z) fun c xs z => same c _ z
  · exact h2 b u (Nat.le_of_not_lt hb) e
theorem FpOk.le {b : Addr} (f : FpOk X pins H b) (n : H' b = none) : FpOk X pins H' b := ⟨n, f.2⟩
end
def ZO (z TI TO : Addr) : HO := .ext fun h => IsZip h z TI TO .none
def PO (T : Addr) (x y : Value) : HO := .ext fun h => IsPair h T x y
def LIO (it a : Addr) : HO := .ext fun h => h.IsListIter it a 0
def zipH (H : Hp) (z TI TO i1 i2 a b : Addr) : Hp := upd (upd (upd (upd (upd H i1 (LIO i1 a)) i2 (LIO i2 b)) TI (PO TI (.ref i1) (.ref i2))) TO (PO TO .none .none)) z (ZO z TI TO)
theorem zipH_off {H : Hp} {z TI TO i1 i2 a b p : Addr} (h1 : p ≠ z) (h2 : p ≠ TI) (h3 : p ≠ TO) (h4 : p ≠ i1) (h5 : p ≠ i2) : zipH H z TI TO i1 i2 a b p = H p := by
  unfold zipH
  rw [upd_ne h1, upd_ne h3, upd_ne h2, upd_ne h5, upd_ne h4]
def tZipV (K : PySem.W.Frag) (n : Nat) (ta : TA) : TE := fun σ H Q => ta σ H fun vs H1 => ∃ a b xs ys, vs = [.ref a, .ref b] ∧ SqL K H1 a xs ∧ SqL K H1 b ys ∧
  ∀ z TI TO i1 i2, n ≤ z ∧ n ≤ TI ∧ n ≤ TO ∧ n ≤ i1 ∧ n ≤ i2 → H1 z = none ∧ H1 TI = none ∧ H1 TO = none ∧ H1 i1 = none ∧ H1 i2 = none → ZipApart z TI TO i1 i2 a b → Q (.ref z) (zipH H1 z TI TO i1 i2 a b)
theorem pe_zipV {X : Cx} {e e2 : Expr} {ta : TA} {p pos : Pos} (hg : Gl X "zip") (hm : X.mg "zip" = none) (ha : PA X [e, e2] ta)
    (hs : starEach [e, e2] X.env = (false, eval e X.env) :: starEach [e2] X.env := by rfl) (hpl : (backTo pos (starEach [e2] X.env)).any (·.1) = false := by rfl) :
    PE X (.Call (.Name "zip" p) [e, e2] [] pos) (tZipV X.K X.s_0.heap.objs.size ta) := by
  refine ⟨fun pins s σ H Q I h => ?_⟩
  refine Call_ (ld_blt I hg hm PyProof.Rows.boot_zip (PyProof.Rows.callWith_type1 (thn (ha.run pos pins s σ H _ I h) fun us s1 ⟨vs, H1, I1, r1, q1⟩ => ?_) hs hpl))
  obtain ⟨a, b, xs, ys, ex, hqx, hqy, q⟩ := q1
  subst ex
  cases r1 with
  | cons r rr =>
    cases rr with
    | cons r' rr =>
      cases rr
      cases r
      cases r'
      obtain ⟨its, rv, p1, _⟩ := I1.list hqx
      obtain ⟨its2, rv2, p2, _⟩ := I1.list hqy
      refine call_zip_2 p1.isList p2.isList fun h' hz hTI hTO h1 h2 hsz hk => ?_
      generalize hn : s1.heap.objs.size = n at *
      have none_ : ∀ c, n ≤ c → H1 c = none := fun c hc => I1.hok.fresh (hn ▸ hc)
      have sz := I1.sz
      rw [hn] at sz
      refine ⟨.ref (n + 4), _, Inv.laidM (t' := s1.toks) (H' := zipH H1 (n + 4) (n + 2) (n + 3) n (n + 1) a b) I1 hk (fun c hc => ?_) (fun c u hc e => ?_), rfl, q (n + 4) (n + 2) (n + 3) n (n + 1) ⟨by omega, by omega, by omega, sz, by omega⟩ ⟨none_ _ (by omega), none_ _ (by omega), none_ _ (by omega), none_ _ (by omega), none_ _ (by omega)⟩ (PySem.W.ktu_apart n a b (hn ▸ p1.lt) (hn ▸ p2.lt))⟩
      · rw [hn] at hc
        exact zipH_off (Nat.ne_of_lt (Nat.lt_of_lt_of_le hc (by omega))) (Nat.ne_of_lt (Nat.lt_of_lt_of_le hc (by omega))) (Nat.ne_of_lt (Nat.lt_of_lt_of_le hc (by omega))) (Nat.ne_of_lt hc) (Nat.ne_of_lt (Nat.lt_of_lt_of_le hc (by omega)))
      · rw [hn] at hc
        by_cases c4 : c = n + 4
        · subst c4
          have : u = ZO (n + 4) (n + 2) (n + 3) := by
            unfold zipH at e; rw [upd_same] at e; exact (Option.some.inj e).symm
          subst this
          exact ⟨hz, ⟨_, hz⟩, fun _ _ g1 k => k _ g1⟩
        by_cases c3 : c = n + 3
        · subst c3
          have : u = PO (n + 3) .none .none := by
            unfold zipH at e; rw [upd_ne c4, upd_same] at e; exact (Option.some.inj e).symm
          subst this
          exact ⟨hTO, ⟨_, hTO⟩, fun _ _ g1 k => k _ g1⟩
        by_cases c2 : c = n + 2
        · subst c2
          have : u = PO (n + 2) (.ref n) (.ref (n + 1)) := by
            unfold zipH at e; rw [upd_ne c4, upd_ne c3, upd_same] at e; exact (Option.some.inj e).symm
          subst this
          exact ⟨hTI, ⟨_, hTI⟩, fun _ _ g1 k => k _ g1⟩
        by_cases c1 : c = n + 1
        · subst c1
          have : u = LIO (n + 1) b := by
            unfold zipH at e; rw [upd_ne c4, upd_ne c3, upd_ne c2, upd_same] at e; exact (Option.some.inj e).symm
          subst this
          exact ⟨h2, ⟨_, h2.choose_spec.1⟩, fun _ _ g1 k => g1.at k⟩
        by_cases c0 : c = n
        · subst c0
          have : u = LIO c a := by
            unfold zipH at e; rw [upd_ne c4, upd_ne c3, upd_ne c2, upd_ne c1, upd_same] at e; exact (Option.some.inj e).symm
          subst this
          exact ⟨h1, ⟨_, h1.choose_spec.1⟩, fun _ _ g1 k => g1.at k⟩
        · rw [zipH_off c4 c2 c3 c0 c1, none_ c hc] at e
          cases e
def iZv (K : PySem.W.Frag) (n k : Nat) : TI := fun σ H R => ∃ z TI TO i1 i2 a b H0, σ[k]? = some (some (.ref z)) ∧ H = zipH H0 z TI TO i1 i2 a b ∧ (n ≤ z ∧ n ≤ TI ∧ n ≤ TO ∧ n ≤ i1 ∧ n ≤ i2) ∧ (H0 z = none ∧ H0 TI = none ∧ H0 TO = none ∧ H0 i1 = none ∧ H0 i2 = none) ∧ ZipApart z TI TO i1 i2 a b ∧ R (Itz K a b) H0
theorem pi_zv {X : Cx} {elts : List Expr} {kk : Nat} {tpos p : Pos} {k : Nat} {x : Str} (hN : X.N[k]? = some x) (hv : Vis X.env.scope x) (hd : (x == ("__debug__" : Str)) = false := by decide) (hcd : (x == ("__classdict__" : Str)) = false := by decide) :
    PI X (.Tuple elts kk tpos) (.Name x p) (iZv X.K X.s_0.heap.objs.size k) := by
  refine ⟨fun pins s σ H R I h => ?_⟩
  obtain ⟨z, TI, TO, i1, i2, a, b, H0, hs, rfl, ⟨n0, n1, n2, n3, n4⟩, ⟨f0, f1, f2, f3, f4⟩, D, q⟩ := h
  refine thn ((pe_var (pos := p) (i := k) hN hv hd hcd).run pins s σ _ (fun v H1 => v = .ref z ∧ H1 = zipH H0 z TI TO i1 i2 a b) I ⟨.ref z, hs, rfl, rfl⟩) fun u s1 ⟨v, H1, I1, r1, ev, eH⟩ => ?_
  subst ev eH
  cases r1
  have e0 : zipH H0 z TI TO i1 i2 a b z = some (ZO z TI TO) := by unfold zipH; rw [upd_same]
  have e1 : zipH H0 z TI TO i1 i2 a b TO = some (PO TO .none .none) := by unfold zipH; rw [upd_ne D.TOz, upd_same]
  have e2 : zipH H0 z TI TO i1 i2 a b TI = some (PO TI (.ref i1) (.ref i2)) := by unfold zipH; rw [upd_ne D.TIz, upd_ne D.TITO, upd_same]
  have e3 : zipH H0 z TI TO i1 i2 a b i2 = some (LIO i2 b) := by unfold zipH; rw [upd_ne D.i2z, upd_ne D.TOi2.symm, upd_ne D.TIi2.symm, upd_same]
  have e4 : zipH H0 z TI TO i1 i2 a b i1 = some (LIO i1 a) := by unfold zipH; rw [upd_ne D.i1z, upd_ne D.TOi1.symm, upd_ne D.TIi1.symm, upd_ne D.i12, upd_same]
  have g0 : IsZip s1.heap z TI TO .none := (I1.hok _ _ e0).1
  have g1 : IsPair s1.heap TO .none .none := (I1.hok _ _ e1).1
  have g2 : IsPair s1.heap TI (.ref i1) (.ref i2) := (I1.hok _ _ e2).1
  have g3 : s1.heap.IsListIter i2 b 0 := (I1.hok _ _ e3).1
  have g4 : s1.heap.IsListIter i1 a 0 := (I1.hok _ _ e4).1
  refine wpAny_pyIter_zip g0 ?_
  have J1 := ItX.inv_drop I1 e0
  have p1 := ItX.inv_fp I1 e0 n0
  have e1' : ItX.dropH (zipH H0 z TI TO i1 i2 a b) z TO = some (PO TO .none .none) := by rw [ItX.dropH_ne D.TOz]; exact e1
  have J2 := ItX.inv_drop J1 e1'
  have p2 := ItX.inv_fp J1 e1' n2
  have e2' : ItX.dropH (ItX.dropH (zipH H0 z TI TO i1 i2 a b) z) TO TI = some (PO TI (.ref i1) (.ref i2)) := by rw [ItX.dropH_ne D.TITO, ItX.dropH_ne D.TIz]; exact e2
  have J3 := ItX.inv_drop J2 e2'
  have p3 := ItX.inv_fp J2 e2' n1
  have e3' : ItX.dropH (ItX.dropH (ItX.dropH (zipH H0 z TI TO i1 i2 a b) z) TO) TI i2 = some (LIO i2 b) := by rw [ItX.dropH_ne D.TIi2.symm, ItX.dropH_ne D.TOi2.symm, ItX.dropH_ne D.i2z]; exact e3
  have J4 := ItX.inv_drop J3 e3'
  have p4 := ItX.inv_fp J3 e3' n4
  have e4' : ItX.dropH (ItX.dropH (ItX.dropH (ItX.dropH (zipH H0 z TI TO i1 i2 a b) z) TO) TI) i2 i1 = some (LIO i1 a) := by rw [ItX.dropH_ne D.i12, ItX.dropH_ne D.TIi1.symm, ItX.dropH_ne D.TOi1.symm, ItX.dropH_ne D.i1z]; exact e4
  have J5 := ItX.inv_drop J4 e4'
  have p5 := ItX.inv_fp J4 e4' n3
  have eH : ItX.dropH (ItX.dropH (ItX.dropH (ItX.dropH (ItX.dropH (zipH H0 z TI TO i1 i2 a b) z) TO) TI) i2) i1 = H0 := by
    unfold zipH
    rw [ItX.dropH_upd (by rw [upd_ne D.TOz.symm, upd_ne D.TIz.symm, upd_ne D.i2z.symm, upd_ne D.i1z.symm]; exact f0)]
    rw [ItX.dropH_upd (by rw [upd_ne D.TITO.symm, upd_ne D.TOi2, upd_ne D.TOi1]; exact f2)]
    rw [ItX.dropH_upd (by rw [upd_ne D.TIi2, upd_ne D.TIi1]; exact f1)]
    rw [ItX.dropH_upd (by rw [upd_ne D.i12.symm]; exact f4)]
    rw [ItX.dropH_upd f3]
  rw [eH] at J5
  refine ⟨z, [z, TI, TO, i1, i2], _, _, H0, rfl, J5, turn_zip D, ⟨g0, g2, ⟨_, _, g1⟩, g4, g3⟩, fun c hc => ?_, q⟩
  have e' : c = z ∨ c = TI ∨ c = TO ∨ c = i1 ∨ c = i2 := by simpa using hc
  rcases e' with rfl | rfl | rfl | rfl | rfl
  · exact FpOk.le p1 f0
  · exact FpOk.le p3 f1
  · exact FpOk.le p2 f2
  · exact FpOk.le p5 f3
  · exact FpOk.le p4 f4
/-! by data -/
def R.bsV (r : R) (k : D → Env → SR) : SR := match r with
  | .ok o ρ => (match o.frz with
    | some d => k d ρ
    | none => .bad)
  | .bad => .bad
  | .exc c fs ρ => .exc c fs ρ
def sZipK (i : Nat) (h : Tg) (tt elt : EX) (vs : List Nat) (d e : D) (ρ : Env) : SR := match d.un, e.un with
  | .list xs, .list ys => (match setSl i .emp ρ with
    | some ρ2 => if clearB vs ρ2 = true ∧ (zipD xs ys).length ≤ sizeLine then sRet (fun _ => (lcD h tt elt vs (zipD xs ys) (wipeE vs ρ2) []).unw vs ρ2) ρ2 else .bad
    | none => .bad)
  | _, _ => .bad
/-- x = zip(f, g); return [.. for .. in x] -/
def sZip (i : Nat) (f g : EX) (h : Tg) (tt elt : EX) (vs : List Nat) : SX := fun ρ => (f ρ).bsV fun d ρ1 => (g ρ1).bsV fun e ρ2 => sZipK i h tt elt vs d e ρ2
section
variable {K : PySem.W.Frag} {mg : Str → Option Value} {W : WX} {P : Prot} {F F' H : Hp} {σ : SS} {ρ : Env}
theorem DA.bs2 {ta : TA} {f g : EX} {k : D → D → Env → SR} {D0 : Ends} {G : List V → Hp → Prop} (ha : DA K mg W ta [f, g]) (st : Stt K mg P F H σ ρ) (h : PostS K mg W P F ((f ρ).bsV fun d ρ1 => (g ρ1).bsV fun e ρ2 => k d e ρ2) D0)
    (hk : ∀ F1 H1 d e ρ1 vs, SubH F F1 → Stt K mg P F1 H1 σ ρ1 → RepL K F1 [d, e] vs → PostS K mg W P F1 (k d e ρ1) D0 → G vs H1) : ta σ H G := by
  refine ha P F H σ ρ G st ?_
  simp only [eArgsR]
  cases e1 : f ρ with
  | bad => rw [e1] at h; exact h
  | exc c fs ρ1 => rw [e1] at h; exact fun F1 H1 C dd sb st1 x => h F1 H1 σ C dd sb st1 x
  | ok o ρ1 =>
    rw [e1] at h
    simp only [R.bsV, R.bindV] at h ⊢
    cases z : o.frz with
    | none => simp only [z] at h; exact h.elim
    | some d =>
      simp only [z] at h ⊢
      cases e2 : g ρ1 with
      | bad => rw [e2] at h; exact h
      | exc c fs ρ2 => rw [e2] at h; exact fun F1 H1 C dd sb st1 x => h F1 H1 σ C dd sb st1 x
      | ok o2 ρ2 =>
        rw [e2] at h
        simp only at h ⊢
        cases z2 : o2.frz with
        | none => simp only [z2] at h; exact h.elim
        | some e =>
          simp only [z2] at h
          show PostA K mg W P F σ 2 (.ok (.val (.list [d, e])) ρ2) G
          intro F1 H1 vs sb st1 r _
          exact hk F1 H1 d e ρ2 vs sb st1 r (PostS.le sb h)
theorem itz_go {a b : Addr} {vs ws : List V} {ds es : List D} {F : Hp} (s : SqL K F a vs) (l : RepL K F ds vs) (s' : SqL K F b ws) (l' : RepL K F es ws) : ItOk K mg (Itz K a b) F (zipD ds es) := itok_zipL s l s' l'
theorem setSl_emp {i : Nat} {ρ ρ2 : Env} {v : V} (st : Stt K mg P F H σ ρ) (e : setSl i .emp ρ = some ρ2) : Stt K mg P F H (σ.set i (some v)) ρ2 := st.store (s := .emp) rfl trivial (fun z => by cases z) e
theorem sub_zipH {F H : Hp} {z TI TO i1 i2 a b : Addr} (sb : SubH F H) (f : H z = none ∧ H TI = none ∧ H TO = none ∧ H i1 = none ∧ H i2 = none) : SubH F (zipH H z TI TO i1 i2 a b) := by
  intro p u e
  have ne : ∀ q, H q = none → p ≠ q := fun q hq z => by
    subst z
    rcases sb p u e with h | ⟨_, o, h⟩
    · rw [hq] at h; cases h
    · rw [hq] at h; cases h
  rw [zipH_off (ne _ f.1) (ne _ f.2.1) (ne _ f.2.2.1) (ne _ f.2.2.2.1) (ne _ f.2.2.2.2)]
  exact sb p u e
theorem ds_zip {ta : TA} {f g : EX} {h : Tg} {tt elt : EX} {vs : List Nat} (n i : Nat) (ha : DA K mg W ta [f, g]) (hts : ∀ i ∈ h.ts, i ∈ vs) :
    DS K mg W (tSeq (tAsg (tZipV K n ta) (gName i)) (tRet (tLc (iZv K n i) (gD K mg h) (tTD K mg WF tt) (tD K mg WF elt) vs))) (sZip i f g h tt elt vs) := by
  intro P F H σ ρ D0 st hp
  unfold tSeq tAsg tZipV
  refine ha.bs2 st hp fun F1 H1 d e ρ1 ws sb st1 r q => ?_
  replace r := r.un
  simp only [List.map] at r
  unfold sZipK at q
  generalize d.un = d' at *
  generalize e.un = e' at *
  split at q
  · rename_i xs ys
    obtain ⟨v, w, rfl, r1, r2⟩ := r.two
    obtain ⟨a, us, rfl, s1, l1⟩ := rep_list r1
    obtain ⟨b, us2, rfl, s2, l2⟩ := rep_list r2
    split at q
    · rename_i ρ2 e2
      split at q
      · rename_i hc
        refine ⟨a, b, us, us2, rfl, SqL.le st1.sub.rd s1, SqL.le st1.sub.rd s2, fun z TI TO i1 i2 hn hf D => ?_⟩
        show tLc (iZv K n i) (gD K mg h) (tTD K mg WF tt) (tD K mg WF elt) vs (σ.set i (some (V.ref z))) (zipH H1 z TI TO i1 i2 a b) D0.rt
        have st2 : Stt K mg P F1 H1 (σ.set i (some (.ref z))) ρ2 := setSl_emp st1 e2
        have hi : (σ.set i (some (.ref z)))[i]? = some (some (.ref z)) := by
          have : i < σ.length := by
            rw [st1.len]
            unfold setSl at e2
            cases q1 : ρ1[i]? with
            | none => rw [q1] at e2; cases e2
            | some s => exact (List.getElem?_eq_some_iff.mp q1).1
          exact List.getElem?_set_self this
        refine ⟨z, TI, TO, i1, i2, a, b, H1, hi, rfl, hn, hf, D, ?_⟩
        refine lc_go (W := W) hts st2 (itok_zipL s1 l1 s2 l2) hc.1 hc.2 ?_
        unfold sRet at q
        cases e3 : R.unw vs ρ2 (lcD h tt elt vs (zipD xs ys) (wipeE vs ρ2) []) with
        | bad => rw [e3] at q; exact q
        | ok o ρ3 => rw [e3] at q; exact fun F' H' v sb' st' x => q F' H' _ v sb' st' x
        | exc c fs ρ3 => rw [e3] at q; exact fun F' H' C dd sb' st' x => q F' H' _ C dd sb' st' x
      · exact q.elim
    · exact q.elim
  · exact q.elim
end
section
variable {X : Cx} {W : WX} {a b elt : Expr} {elts : List Expr} {kk : Nat} {tpos p p2 pos pos2 pos3 pos4 pos5 : Pos} {x : Str} {ifs : List Expr} {scope : Scope} {f g tt fe : EX} {h : Tg}
theorem pssd_zip (i : Nat) (own : List (Str × Nat)) (hN : X.N.Nodup) (ha : PAD X W [a, b] [f, g]) (hm : X.mg "zip" = none) (ok : BlkOk X.N X.env.scope scope own)
    (hgt : ∀ (s : Shared) (H : Hp) (C : Addr) (cl : List (Str × Addr)) (fp : List Addr), PGD (X.blk s H scope (PySem.compEnvC scope cl C X.env) fp) (.Tuple elts kk tpos) h) (ht : ∀ (s : Shared) (H : Hp) (C : Addr) (cl : List (Str × Addr)) (fp : List Addr), PTsD (X.blk s H scope (PySem.compEnvC scope cl C X.env) fp) WF ifs tt)
    (he : ∀ (s : Shared) (H : Hp) (C : Addr) (cl : List (Str × Addr)) (fp : List Addr), PD (X.blk s H scope (PySem.compEnvC scope cl C X.env) fp) WF elt fe)
    (hg : Gl X "zip" := by rfl) (hsp : starEach [a, b] X.env = (false, eval a X.env) :: starEach [b] X.env := by rfl) (hpl : (backTo pos (starEach [b] X.env)).any (·.1) = false := by rfl)
    (hi : X.N[i]? = some x := by rfl) (hx : Loc X.env.scope x := by first | exact Or.inl rfl | exact Or.inr rfl) (hv : Vis X.env.scope x := by first | exact Or.inl rfl | exact Or.inr rfl)
    (hsw : swapsWith (.Call (.Name "zip" p) [a, b] [] pos) (some (.Name x pos2)) pos3.line X.env = pure false := by rfl) (hf : X.fn x = true ∨ X.env.scope.names.lookup x = some .local := by first | exact .inl rfl | exact .inr rfl | assumption)
    (hd : (x == ("__debug__" : Str)) = false := by decide) (hcd : (x == ("__classdict__" : Str)) = false := by decide) (hc : X.calm = true := by rfl) (hts : ∀ i ∈ h.ts, i ∈ own.map (·.2) := by decide)
    (hs : ∀ y, foldedSetIterable (.Name x p2) X.env y = pure y := by intro _; rfl) :
    PSsD X W [.Assign [.Name x pos2] (.Call (.Name "zip" p) [a, b] [] pos) pos3, .Return (some (.ListComp elt [⟨.Tuple elts kk tpos, .Name x p2, ifs, 0⟩] scope pos4)) pos5] (sZip i f g h tt fe (own.map (·.2))) := by
  obtain ⟨t, pa, da⟩ := ha.ex
  exact ⟨_, pss_cons (ps_set hN hi hx (pe_zipV hg hm pa hsp hpl) hsw hf) (pss_one (ps_ret (pe_lc hc hN (pi_zv hi hv hd hcd) ok (fun s H C cl fp => (hgt s H C cl fp).toPG) (fun s H C cl fp => (ht s H C cl fp).toPTs) (fun s H C cl fp => (he s H C cl fp).toPE) hs))), ds_zip _ i da hts⟩
end
end Dk

set_option Elab.async false
set_option linter.all false
set_option maxRecDepth 100000
set_option maxHeartbeats 4000000
/-! Dk28: tuple(list) whose object is known whole; dict of a list, such a tuple, of pairs -/
namespace Dk
open PySem PySem.Spec L2 PyProof.Rows PySem.W
/-- a tuple's object, whole -/
def TupO (o : Obj) : Prop := o.cls = .type "tuple" ∧ o.dict = none ∧ ∃ its n, o.data = .seq its n
def rTupP (K : PySem.W.Frag) : List V → Hp → VK → Prop := fun xs H Q => ∃ p ys, xs = [.ref p] ∧ SqL K H p ys ∧ ∀ l o, H l = none → TupO o → Q (.ref l) (upd H l (.frz o (.tup ys)))
theorem call_tupP {X : Cx} : CallR X (.type "tuple") (rTupP X.K) := by
  intro pins s σ H xs us Q I r h
  obtain ⟨p, ys, rfl, hq, q⟩ := h
  obtain ⟨u, rfl, rx⟩ := vals1 r
  cases rx
  obtain ⟨its, r', pl, hz⟩ := I.list hq
  have hlen := r'.length
  refine call_tuple_list pl.isList (fun h' kp => ?_) (by simp only [List.size_toArray] <;> omega)
  have I1 : Inv X pins σ H { s with heap := h' } := I.kept (t' := s.toks) kp
  have I2 : Inv X pins σ (upd H h'.objs.size (.frz { cls := .type "tuple", data := .seq its.toArray } (.tup ys))) { s with heap := h'.push { cls := .type "tuple", data := .seq its.toArray } } :=
    I1.laid (t' := s.toks) (fun b o e => Heap.get?_push_of_some _ e) (Nat.le_refl _) ⟨Heap.get?_push_size _ rfl, (show ObjOk X.prog X.w _ _ _ (.tup ys) from ⟨hz, its, r', IsTup.new _ _⟩)⟩
  exact ⟨.ref h'.objs.size, _, I2, rfl, q _ _ (I1.hok.fresh (Nat.le_refl _)) ⟨rfl, rfl, _, _, rfl⟩⟩
def eTupP (f : EX) : EX := fun ρ => (f ρ).bindV fun d ρ1 => match d.un with
  | .list ds => .ok (.val (.tag 0 (.tuple ds))) ρ1
  | _ => .bad
theorem pd_tupP {X : Cx} {W : WX} {p pos : Pos} {e : Expr} {f : EX} (hm : X.mg "tuple" = none) (ha : PD X W e f) (hg : Gl X "tuple" := by rfl)
    (he : starEach [e] X.env = (false, eval e X.env) :: starEach [] X.env := by rfl) (hpl : (backTo pos (starEach [] X.env)).any (·.1) = false := by rfl) : PD X W (.Call (.Name "tuple" p) [e] [] pos) (eTupP f) := by
  obtain ⟨t, pa, da⟩ := ha.ex
  refine ⟨_, pe_callTy call_tupP hg hm (by rfl) (pa_cons pa pa_nil he) (by decide) (by decide) he hpl, ?_⟩
  intro P F H σ ρ Q st hp
  show t σ H _
  refine da.bindV st hp fun F1 H1 d ρ1 v sb st1 r h1 => ?_
  replace r := r.un
  generalize d.un = d at *
  cases d with
  | list ds =>
    obtain ⟨a, vs, rfl, s, l⟩ := rep_list r
    refine ⟨a, vs, rfl, SqL.le st1.sub.rd s, fun q o n tp => ?_⟩
    obtain ⟨t1, t2, its, k, t3⟩ := tp
    obtain ⟨st', sb'⟩ := st1.allocF (o := .frz o (.tup vs)) n
    refine h1 _ _ _ sb' st' (OutOk.val ?_)
    unfold Rep
    exact ⟨⟨q, o, vs, its, k, rfl, upd_same, t1, t2, t3⟩, mk_tup (.inl (.inr ⟨o, upd_same⟩)) (RepL.le sb'.rd ds vs l)⟩
  | none => exact h1.elim
  | bool i => exact h1.elim
  | int i => exact h1.elim
  | str i => exact h1.elim
  | tuple i => exact h1.elim
  | dict i => exact h1.elim
  | dictT i => exact h1.elim
  | tag _ i => exact h1.elim
/-! dict(pairs) -/
def pairD (d : D) : Option (Key × D) := match d.un with
  | .tuple [k, v] => (toKey k.un).map fun kk => (kk, v)
  | _ => none
def pairsD : List D → Option (List (Key × D))
  | [] => some []
  | d :: ds => (match pairD d with
    | some p => (pairsD ds).map (p :: ·)
    | none => none)
def mergeD (kvs : List (Key × D)) : List (D × D) := kvs.foldl (fun acc p => putKD acc p.1 p.2) []
def dictD (d : D) : Option (List (Key × D)) := match d with
  | .tag 0 e => (match e.un with
    | .tuple ds => pairsD ds
    | _ => none)
  | .list ds => pairsD ds
  | _ => none
def eDict (f : EX) : EX := fun ρ => (f ρ).bindV fun d ρ1 => match dictD d with
  | some kvs => .ok (.own (.dct (mergeD kvs))) ρ1
  | none => .bad
section
variable {K : PySem.W.Frag} {mg : Str → Option Value} {W : WX} {P : Prot} {F F' H : Hp} {σ : SS} {ρ : Env}
def PairOk (K : PySem.W.Frag) (H : Hp) (p : Addr) (kv : Key × V) : Prop := SqT K H p [kV kv.1, kv.2]
theorem toKey_rep {d : D} {v : V} {kk : Key} (e : toKey d = some kk) (r : Rep K F d v) : v = kV kk := by
  cases d with
  | int i => cases e; exact rep_int r
  | str i => cases e; exact rep_str r
  | none => cases e
  | bool b => cases e
  | list b => cases e
  | tuple b => cases e
  | dict b => cases e
  | dictT b => cases e
  | tag b c => cases e
theorem pairs_rep : ∀ {ds : List D} {kvs : List (Key × D)} {vs : List V}, pairsD ds = some kvs → RepL K F ds vs → SubH F H → ∃ (ps : List Addr) (kws : List (Key × V)), vs = ps.map V.ref ∧ Paired (PairOk K H) ps kws ∧ Paired (fun (a : Key × D) (b : Key × V) => a.1 = b.1 ∧ Rep K F a.2 b.2) kvs kws
  | [], _, _, e, r, _ => by
    cases e
    rw [r.zero]
    exact ⟨[], [], rfl, .nil, .nil⟩
  | d :: ds, kvs, vs, e, r, sb => by
    unfold RepL at r
    obtain ⟨v, ws, rfl, r1, r2⟩ := r
    simp only [pairsD] at e
    cases e1 : pairD d with
    | none => simp only [e1] at e; cases e
    | some p =>
      simp only [e1] at e
      cases e2 : pairsD ds with
      | none => rw [e2] at e; cases e
      | some kr =>
        rw [e2] at e; cases e
        obtain ⟨ps, kws, rfl, h1, h2⟩ := pairs_rep e2 r2 sb
        unfold pairD at e1
        have r1 := r1.un
        generalize d.un = d at *
        split at e1
        · rename_i k x
          obtain ⟨a, us, rfl, s, l⟩ := rep_tup r1
          obtain ⟨u, w, rfl, r3, r4⟩ := l.two
          cases e3 : toKey k.un with
          | none => rw [e3] at e1; cases e1
          | some kk =>
            rw [e3] at e1; cases e1
            have eu := toKey_rep e3 r3.un
            subst eu
            exact ⟨a :: ps, (kk, w) :: kws, rfl, .cons (SqT.le sb.rd s) h1, .cons ⟨rfl, r4⟩ h2⟩
        · cases e1
theorem merge_rep : ∀ {kvs : List (Key × D)} {kws : List (Key × V)} {acc : List (D × D)} {ac : List (Key × V)}, Paired (fun (a : Key × D) (b : Key × V) => a.1 = b.1 ∧ Rep K F a.2 b.2) kvs kws → RepK K F acc ac → RepK K F (kvs.foldl (fun acc p => putKD acc p.1 p.2) acc) (mergeK ac kws)
  | _, _, _, _, .nil, r => r
  | _, _, _, _, .cons (a := p) (b := q) h t, r => by
    have := rep_put (kk := p.1) r h.2
    rw [h.1] at this
    show RepK K F (List.foldl _ (putKD _ p.1 p.2) _) (mergeK (putK _ q.1 q.2) _)
    rw [h.1]
    exact merge_rep t this
end
def rDict (K : PySem.W.Frag) : List V → Hp → VK → Prop := fun xs H Q => ∃ (a : Addr) (ps : List Addr) (kvs : List (Key × V)), xs = [.ref a] ∧
  (SqL K H a (ps.map V.ref) ∨ (SqT K H a (ps.map V.ref) ∧ PlT H (.ref a))) ∧ Paired (PairOk K H) ps kvs ∧ ∀ p, H p = none → Q (.ref p) (upd H p (.dK (mergeK [] kvs)))
theorem call_dictQ {X : Cx} (hcalm : X.calm = true) : CallR X (.type "dict") (rDict X.K) := by
  intro pins s σ H xs us Q I r q
  obtain ⟨a, ps, kvs, ex, hq, hp, q⟩ := q
  rcases hq with hq | ⟨hq, pl⟩
  · exact call_dictP hcalm pins s σ H xs us Q I r ⟨a, ps, kvs, ex, hq, hp, q⟩
  subst ex
  obtain ⟨u, eu, rx⟩ := vals1 r
  subst eu
  cases rx
  obtain ⟨its, rv, pt, hz⟩ := I.tuple hq
  have ei := refs_at rv
  subst ei
  rw [List.length_map] at hz
  obtain ⟨prs, rel, hl, hpr⟩ := pairs_of I hp
  obtain ⟨b, o, xs, arr, n, eb, hf, hc, hd, hdat⟩ := pl
  cases eb
  have ho : s.heap.get? a = some o := (I.hok _ _ hf).1
  obtain ⟨o2, ho2, _, n2, hd2⟩ := pt
  rw [ho] at ho2; cases ho2
  have ex : ∀ j : Nat, ∃ u : Value, ∀ q, prs[j]? = some q → ∃ b, ps[j]? = some b ∧ IsTup s.heap b #[u, q.2] ∧ keyIs q.1 u = true := fun j => by
    cases e : prs[j]? with
    | none => exact ⟨.none, fun q h => by cases h⟩
    | some q =>
      obtain ⟨b, u, h1, h2, h3⟩ := hpr j q e
      exact ⟨u, fun q' h => by cases h; exact ⟨b, h1, h2, h3⟩⟩
  obtain ⟨uf, huf⟩ := Classical.axiomOfChoice ex
  let qs : List (Value × Value) := prs.mapIdx fun j q => (uf j, q.2)
  have qlen : qs.length = ps.length := by simp [qs, hl]
  have qget : ∀ (j : Nat) (k v : Value), qs[j]? = some (k, v) → ∃ q, prs[j]? = some q ∧ k = uf j ∧ v = q.2 := fun j k v e => by
    simp only [qs, List.getElem?_mapIdx] at e
    cases e2 : prs[j]? with
    | none => rw [e2] at e; cases e
    | some q => rw [e2] at e; cases e; exact ⟨q, rfl, rfl, rfl⟩
  have ok : PlainSeq "tuple" s.heap a (ps.map Value.ref).toArray ∧ PairItems s.heap (ps.map Value.ref).toArray (fun j => ps.getD j 0) qs := by
    refine ⟨⟨o, n2, ho, hc, hd, hd2⟩, by simp [qlen], fun j k v e => ?_⟩
    obtain ⟨q, e2, rfl, rfl⟩ := qget j k v e
    obtain ⟨b, h1, h2, h3⟩ := huf j q e2
    refine ⟨by simp [h1, List.getD], .inl ?_⟩
    simp only [List.getD, h1, Option.getD_some]
    exact h2
  refine PySem.call_dict_pairs (knd := mixKind X.prog X.w) (kvs := prs) (PairArg.tuple (prog := X.prog) (w := X.w) a (ps.map Value.ref).toArray (fun j => ps.getD j 0) qs) (I.ok.hd hcalm) ok ⟨by rw [qlen, hl], fun i key v e => ?_⟩ (by rw [qlen]; exact hz) fun h' tk hd' k => ?_
  · obtain ⟨q, e2, rfl, rfl⟩ := qget i key v e
    obtain ⟨b, h1, h2, h3⟩ := huf i q e2
    exact ⟨q.1, e2, h3⟩
  · have hm : (s.heap.objs.size == sysModules) = false := beq_eq_false_iff_ne.mpr (Nat.ne_of_gt I.big)
    have hlen : (mergeK [] kvs).length ≤ sizeLine := by
      refine Nat.le_trans (length_mergeK kvs []) ?_
      rw [List.length_nil, Nat.zero_add, rel.length, hl]
      exact hz
    exact ⟨.ref s.heap.objs.size, upd H s.heap.objs.size (.dK (mergeK [] kvs)), I.laid (t' := tk) (fun b o e => k b o (fun z => nomatch z) e) (Nat.le_refl _) (show ObjOk X.prog X.w _ _ _ (.dK (mergeK [] kvs)) from ⟨hlen, hm, merged [] prs, KV.merge rel .nil, hd'⟩), rfl, q _ (I.hok.fresh (Nat.le_refl _))⟩
theorem pd_dict {X : Cx} {W : WX} {p pos : Pos} {e : Expr} {f : EX} (hm : X.mg "dict" = none) (ha : PD X W e f) (hc : X.calm = true := by rfl) (hg : Gl X "dict" := by rfl)
    (he : starEach [e] X.env = (false, eval e X.env) :: starEach [] X.env := by rfl) (hpl : (backTo pos (starEach [] X.env)).any (·.1) = false := by rfl) : PD X W (.Call (.Name "dict" p) [e] [] pos) (eDict f) := by
  obtain ⟨t, pa, da⟩ := ha.ex
  refine ⟨_, pe_callTy (call_dictQ hc) hg hm (by rfl) (pa_cons pa pa_nil he) (by decide) (by decide) he hpl, ?_⟩
  intro P F H σ ρ Q st hp
  show t σ H _
  refine da.bindV st hp fun F1 H1 d ρ1 v sb st1 r h1 => ?_
  cases e1 : dictD d with
  | none => simp only [e1] at h1; exact h1.elim
  | some kvs =>
    simp only [e1] at h1
    have fin : ∀ (a : Addr) (vs : List V) (ds : List D), pairsD ds = some kvs → RepL X.K F1 ds vs → v = .ref a → (SqL X.K H1 a vs ∨ (SqT X.K H1 a vs ∧ PlT H1 (.ref a))) → rDict X.K [v] H1 Q := fun a vs ds e2 l ev hq => by
      obtain ⟨ps, kws, rfl, g1, g2⟩ := pairs_rep e2 l st1.sub
      refine ⟨a, ps, kws, by rw [ev], hq, g1, fun q n => ?_⟩
      exact Kont.newK h1 st1 (merge_rep g2 (by unfold RepK; rfl)) q n
    cases d with
    | list ds =>
      obtain ⟨a, vs, rfl, s, l⟩ := rep_list r
      exact fin a vs ds e1 l rfl (.inl (SqL.le st1.sub.rd s))
    | tag z d =>
      cases z with
      | succ n => cases e1
      | zero =>
        unfold Rep at r
        obtain ⟨pt0, r⟩ := r
        have pt : PlT F1 v := pt0
        clear pt0
        replace r := r.un
        simp only [dictD] at e1
        generalize d.un = d at *
        cases d with
        | tuple ds =>
          obtain ⟨a, vs, rfl, s, l⟩ := rep_tup r
          exact fin a vs ds e1 l rfl (.inr ⟨SqT.le st1.sub.rd s, pt.le st1.sub.rd⟩)
        | none => cases e1
        | bool i => cases e1
        | int i => cases e1
        | str i => cases e1
        | list i => cases e1
        | dict i => cases e1
        | dictT i => cases e1
        | tag _ i => cases e1
    | none => cases e1
    | bool i => cases e1
    | int i => cases e1
    | str i => cases e1
    | tuple i => cases e1
    | dict i => cases e1
    | dictT i => cases e1
/-! tests that read own objects -/
def tThawB (t : TT) : TT := fun σ H Q => t σ H fun b H' => ∃ H'', Thawed H H' H'' ∧ Q b H''
theorem pt_thaw {X : Cx} {e : Expr} {t : TT} (p : PT X e t) : PT X e (tThawB t) := ⟨fun pins s σ H Q I h =>
  wpAny_mono (p.run pins s σ H _ I h) (fun b s' ⟨H1, I1, H2, T, q⟩ => ⟨H2, Inv.thaw I I1 T, q⟩) fun _ _ z => z⟩
def tOfT (t : TT) : TE := fun σ H Q => t σ H fun b H' => Q (.bl b) H'
def onlyB (f : EX) : EX := fun ρ => match f ρ with
  | .ok (.val (.bool b)) ρ1 => .ok (.val (.bool b)) ρ1
  | .exc c fs ρ1 => .exc c fs ρ1
  | _ => .bad
section
variable {K : PySem.W.Frag} {mg : Str → Option Value} {W : WX}
theorem de_ofT {t : TT} {f : EX} (h : DT K mg W t f) : DE K mg W (tOfT t) (onlyB f) := by
  intro P F H σ ρ Q st hp
  refine h P F H σ ρ _ st ?_
  unfold onlyB at hp
  cases e : f ρ with
  | bad => rw [e] at hp; exact hp
  | exc c fs ρ1 => rw [e] at hp; exact hp
  | ok o ρ1 =>
    rw [e] at hp
    cases o with
    | val d =>
      cases d with
      | bool b => intro F' H' sb st'; exact hp F' H' _ sb st' (OutOk.val mk_bool)
      | none => exact hp.elim
      | int i => exact hp.elim
      | str i => exact hp.elim
      | list i => exact hp.elim
      | tuple i => exact hp.elim
      | dict i => exact hp.elim
      | dictT i => exact hp.elim
      | tag _ i => exact hp.elim
    | emp => exact hp.elim
    | own c => exact hp.elim
    | ref c => exact hp.elim
    | fn c => exact hp.elim
theorem dt_bor {t : TT} {f : EX} (h : DT K mg W t f) : DT K mg W (tThawB t) (eBor f) := by
  intro P F H σ ρ Q st hp
  have k := de_bor (de_ofT h) P F H σ ρ (fun v H' => ∃ b, v = .bl b ∧ Q b H') st ?_
  · have e : (fun (b : Bool) (H' : Hp) => ∃ H'', Thawed H H' H'' ∧ ∃ b', V.bl b = V.bl b' ∧ Q b' H'') = fun b H' => ∃ H'', Thawed H H' H'' ∧ Q b H'' := by
      funext b H'
      apply propext
      constructor
      · rintro ⟨H2, T, b', e, q⟩; cases e; exact ⟨H2, T, q⟩
      · rintro ⟨H2, T, q⟩; exact ⟨H2, T, b, rfl, q⟩
    unfold tThaw tOfT at k
    unfold tThawB
    rw [e] at k
    exact k
  · unfold eBor at hp ⊢
    unfold onlyB
    cases e : f (ρ.map bor1) with
    | bad => simp only [e] at hp ⊢; exact hp
    | exc c fs ρ1 => simp only [e] at hp; exact hp.elim
    | ok o ρ1 =>
      simp only [e] at hp
      cases o with
      | val d =>
        cases d with
        | bool b =>
          simp only [solidD, if_true] at hp ⊢
          exact fun F' H' v sb st' x => ⟨b, rep_bool x.rep, hp F' H' sb st'⟩
        | none => simp only [solidD, if_true] at hp; exact hp.elim
        | int i => simp only [solidD, if_true] at hp; exact hp.elim
        | str i => simp only [solidD, if_true] at hp; exact hp.elim
        | list i => simp only [solidD, Bool.false_eq_true, if_false] at hp; exact hp.elim
        | tuple i =>
          simp only at hp
          split at hp <;> exact hp.elim
        | dict i => simp only [solidD, Bool.false_eq_true, if_false] at hp; exact hp.elim
        | dictT i => simp only [solidD, Bool.false_eq_true, if_false] at hp; exact hp.elim
        | tag _ i =>
          simp only at hp
          split at hp <;> exact hp.elim
      | own c =>
        cases c with
        | lst ds =>
          simp only at hp
          split at hp <;> exact hp.elim
        | dct kvs => exact hp.elim
        | dcT kvs => exact hp.elim
      | emp => exact hp.elim
      | ref c => exact hp.elim
      | fn c => exact hp.elim
end
theorem ptd_bor {X : Cx} {W : WX} {e : Expr} {f : EX} (h : PTD X W e f) : PTD X W e (eBor f) := by
  obtain ⟨t, p, d⟩ := h.ex
  exact ⟨_, pt_thaw p, dt_bor d⟩
end Dk

set_option Elab.async false
set_option linter.all false
set_option maxRecDepth 100000
set_option maxHeartbeats 4000000
/-! Dk29: texts in plain laws; loops -/
namespace Dk
open PySem PySem.Spec L2 PyProof.Rows
abbrev S (s : String) : D := .str (Str.ofString s)
theorem toPL_map : ∀ ds : List D, D.toPL ds = ds.map D.toP
  | [] => rfl
  | d :: ds => by simp [D.toPL, toPL_map ds]
theorem lay_strs : ∀ l : List String, PyData.canLayAll0 (D.toPL (l.map S)) = true ∧ PyData.depthAll (D.toPL (l.map S)) = 0
  | [] => ⟨rfl, rfl⟩
  | s :: l => by
    obtain ⟨h1, h2⟩ := lay_strs l
    constructor
    · show (PyData.canLay0 (.str (Str.ofString s)) && PyData.canLayAll0 (D.toPL (l.map S))) = true
      rw [canLay_ofString, h1]; rfl
    · show max 0 (PyData.depthAll (D.toPL (l.map S))) = 0
      rw [h2]; rfl
theorem shp_tup (l : List String) : SeqAt.shaped (D.tuple (l.map S)).toP = true := by
  obtain ⟨h1, h2⟩ := lay_strs l
  refine shp (by show PyData.canLayAll0 (D.toPL (l.map S)) = true; exact h1) (by show PyData.depthAll (D.toPL (l.map S)) + 1 ≤ 64; rw [h2]; decide)
theorem shp_lst (l : List String) : SeqAt.shaped (D.list (l.map S)).toP = true := by
  obtain ⟨h1, h2⟩ := lay_strs l
  refine shp (by show PyData.canLayAll0 (D.toPL (l.map S)) = true; exact h1) (by show PyData.depthAll (D.toPL (l.map S)) + 1 ≤ 64; rw [h2]; decide)
theorem any_strs (s : String) (l : List String) : ((D.toPL (l.map S)).any fun z => PyData.eqv z (S s).toP) = decide (s ∈ l) := by
  rw [toPL_map, List.map_map, List.any_map]
  rw [Bool.eq_iff_iff, List.any_eq_true, decide_eq_true_iff]
  constructor
  · rintro ⟨x, hx, h⟩
    have : x = s := by
      have h' : PyData.eqv (S x).toP (S s).toP = true := h
      rw [eqv_str] at h'
      simpa [ofString_inj] using h'
    rw [← this]; exact hx
  · intro h
    refine ⟨s, h, ?_⟩
    show PyData.eqv (S s).toP (S s).toP = true
    rw [eqv_str]; simp
@[simp] theorem inD_tup (s : String) (l : List String) : inD (S s) (.tuple (l.map S)) = some (.val (.bool (decide (s ∈ l)))) := by
  unfold inD inB
  dsimp only
  rw [if_pos ⟨shp_str s, shp_tup l⟩, any_strs]; rfl
@[simp] theorem inD_lst (s : String) (l : List String) : inD (S s) (.list (l.map S)) = some (.val (.bool (decide (s ∈ l)))) := by
  unfold inD inB
  dsimp only
  rw [if_pos ⟨shp_str s, shp_lst l⟩, any_strs]; rfl
@[simp] theorem notInD_tup (s : String) (l : List String) : notInD (S s) (.tuple (l.map S)) = some (.val (.bool (!decide (s ∈ l)))) := by
  unfold notInD inB
  dsimp only
  rw [if_pos ⟨shp_str s, shp_tup l⟩, any_strs]; rfl
@[simp] theorem notInD_lst (s : String) (l : List String) : notInD (S s) (.list (l.map S)) = some (.val (.bool (!decide (s ∈ l)))) := by
  unfold notInD inB
  dsimp only
  rw [if_pos ⟨shp_str s, shp_lst l⟩, any_strs]; rfl
theorem eqv_strs : ∀ l m : List String, PyData.eqvAll (D.toPL (l.map S)) (D.toPL (m.map S)) = decide (l = m)
  | [], [] => by simp [D.toPL, PyData.eqvAll]
  | [], m :: ms => by simp [D.toPL, PyData.eqvAll]
  | l :: ls, [] => by simp [D.toPL, PyData.eqvAll]
  | l :: ls, m :: ms => by
    have h := eqv_strs ls ms
    show (PyData.eqv (S l).toP (S m).toP && PyData.eqvAll (D.toPL (ls.map S)) (D.toPL (ms.map S))) = _
    rw [h, eqv_str]
    by_cases h1 : l = m <;> by_cases h2 : ls = ms <;> simp [h1, h2, ofString_inj]
@[simp] theorem eqD_tups (l m : List String) : eqD (.tuple (l.map S)) (.tuple (m.map S)) = some (.val (.bool (decide (l = m)))) := by
  unfold eqD
  rw [if_pos ⟨shp_tup l, shp_tup m⟩]
  show some (Sl.val (.bool (PyData.eqvAll (D.toPL (l.map S)) (D.toPL (m.map S))))) = _
  rw [eqv_strs]

theorem in2 (s a b : String) : inD (S s) (.tuple [S a, S b]) = some (.val (.bool (decide (s = a ∨ s = b)))) := by
  have := inD_tup s [a, b]
  simpa using this
theorem in3 (s a b c : String) : inD (S s) (.tuple [S a, S b, S c]) = some (.val (.bool (decide (s = a ∨ s = b ∨ s = c)))) := by
  have := inD_tup s [a, b, c]
  simpa using this
theorem in5 (s a b c d e : String) : inD (S s) (.tuple [S a, S b, S c, S d, S e]) = some (.val (.bool (decide (s = a ∨ s = b ∨ s = c ∨ s = d ∨ s = e)))) := by
  have := inD_tup s [a, b, c, d, e]
  simpa using this
theorem notIn4 (s a b c d : String) : notInD (S s) (.tuple [S a, S b, S c, S d]) = some (.val (.bool (!decide (s = a ∨ s = b ∨ s = c ∨ s = d)))) := by
  have := notInD_tup s [a, b, c, d]
  simpa using this
/-! loops -/
theorem forD_fold {α β : Type} {h : Tg} {body : SX} (I : β → Env → Prop) (step : β → α → β) (f : α → D) : ∀ (xs : List α), (∀ a ∈ xs, ∀ b ρ, I b ρ → ∃ ρ1 ρ2, h.h (f a) ρ = some ρ1 ∧ body ρ1 = .nx ρ2 ∧ I (step b a) ρ2) → ∀ b0 ρ0, I b0 ρ0 → ∃ ρ', forD h body (xs.map f) ρ0 = .nx ρ' ∧ I (xs.foldl step b0) ρ'
  | [], _, b0, ρ0, h0 => ⟨ρ0, rfl, h0⟩
  | a :: xs, hs, b0, ρ0, h0 => by
    obtain ⟨ρ1, ρ2, e1, e2, h2⟩ := hs a List.mem_cons_self b0 ρ0 h0
    obtain ⟨ρ', e3, h3⟩ := forD_fold I step f xs (fun x hx => hs x (List.mem_cons_of_mem _ hx)) _ ρ2 h2
    refine ⟨ρ', ?_, h3⟩
    simp only [List.map_cons, forD, e1, e2]
    exact e3
theorem foldl_app {α : Type} (g : α → D) : ∀ (xs : List α) (acc : List D), xs.foldl (fun acc a => acc ++ [g a]) acc = acc ++ xs.map g
  | [], acc => by simp
  | a :: xs, acc => by simp [foldl_app g xs]
theorem forD_inv {t : Tg} {p : SX} (I : Nat → Env → Prop) : ∀ (ds : List D) (k : Nat) (ρ : Env), I k ρ →
    (∀ d ∈ ds, ∀ j ρ, I j ρ → j < k + ds.length → ∃ ρ1 ρ2, t.h d ρ = some ρ1 ∧ p ρ1 = .nx ρ2 ∧ I (j + 1) ρ2) → ∃ ρ', I (k + ds.length) ρ' ∧ forD t p ds ρ = .nx ρ'
  | [], k, ρ, h0, _ => ⟨ρ, h0, rfl⟩
  | d :: ds, k, ρ, h0, hs => by
    obtain ⟨ρ1, ρ2, e1, e2, h1⟩ := hs d List.mem_cons_self k ρ h0 (by simp)
    obtain ⟨ρ', h2, e3⟩ := forD_inv I ds (k + 1) ρ2 h1 fun x hx j ρ hj hlt => hs x (List.mem_cons_of_mem _ hx) j ρ hj (by simp only [List.length_cons]; omega)
    refine ⟨ρ', by rw [show k + (d :: ds).length = k + 1 + ds.length by simp only [List.length_cons]; omega]; exact h2, ?_⟩
    unfold forD
    simp only [e1, e2, e3]
theorem slS_nr {x : Sl} {i : Nat} {s : Sl} {ρ : Env} (h : x.isRef = false) : slS (some x) i s ρ = some (ρ.set i s) := by
  cases x <;> first | rfl | cases h
@[simp] theorem atI_4 {α : Type} (xs : List α) : atI xs 4 = xs[4]? := atI_nat xs 4
@[simp] theorem atI_5 {α : Type} (xs : List α) : atI xs 5 = xs[5]? := atI_nat xs 5
theorem neD_nil (ds : List D) : neD (.list ds) (.list []) = some (.val (.bool (!ds.isEmpty))) := by
  unfold neD
  split
  · cases ds <;> rfl
  · rename_i h
    cases ds with
    | nil => exact absurd ⟨shp rfl (by decide), shp rfl (by decide)⟩ h
    | cons d ds => rfl
theorem eqD_nil' (ds : List D) : eqD (.list ds) (.list []) = some (.val (.bool ds.isEmpty)) := by
  unfold eqD
  split
  · cases ds <;> rfl
  · rename_i h
    cases ds with
    | nil => exact absurd ⟨shp rfl (by decide), shp rfl (by decide)⟩ h
    | cons d ds => rfl
/-! list(range), zip, dict, get by simp -/
section
variable {f g : EX} {ρ : Env} {d e : D}
noncomputable def kLs1 : D → Env → R := fun d ρ => match d.un with
  | .int n => R.ofO (lsRng 0 n) ρ
  | _ => .bad
@[simp] theorem kLs1_int {n : Int} : kLs1 (.int n) ρ = R.ofO (lsRng 0 n) ρ := nrfl rfl
@[simp] theorem eLsR1_def : eLsR1 f ρ = (f ρ).bindV kLs1 := by
  unfold eLsR1
  refine bindV_congr fun d ρ => ?_
  unfold kLs1
  cases d.un with
  | int n => dsimp only; cases lsRng 0 n <;> rfl
  | _ => rfl
noncomputable def kLs2b (d : D) : D → Env → R := fun e ρ => match d.un, e.un with
  | .int m, .int n => R.ofO (lsRng m n) ρ
  | _, _ => .bad
noncomputable def kLs2a (g : EX) : D → Env → R := fun d ρ => (g ρ).bindV (kLs2b d)
@[simp] theorem kLs2b_int {m n : Int} : kLs2b (.int m) (.int n) ρ = R.ofO (lsRng m n) ρ := nrfl rfl
@[simp] theorem kLs2a_def : kLs2a g d ρ = (g ρ).bindV (kLs2b d) := nrfl rfl
@[simp] theorem eLsR2_def : eLsR2 f g ρ = (f ρ).bindV (kLs2a g) := by
  unfold eLsR2
  refine bindV_congr fun d ρ => bindV_congr fun e ρ => ?_
  unfold kLs2b
  cases d.un <;> rfl
def kDict : D → Env → R := fun d ρ => match dictD d with
  | some kvs => .ok (.own (.dct (mergeD kvs))) ρ
  | none => .bad
@[simp] theorem eDict_def : eDict f ρ = (f ρ).bindV kDict := nrfl rfl
theorem kDict_some {kvs : List (Key × D)} (h : dictD d = some kvs) : kDict d ρ = .ok (.own (.dct (mergeD kvs))) ρ := by
  unfold kDict; rw [h]
def kGet3 (kvs : List (D × D)) (e : D) : D → Env → R := fun x ρ => match toKey e.un with
  | some kk => .ok (.val ((lookK kvs kk).getD x)) ρ
  | none => .bad
def kGet2 (kvs : List (D × D)) (fx : EX) : D → Env → R := fun e ρ => (fx ρ).bindV (kGet3 kvs e)
def kGet1 (fk fx : EX) : D → Env → R := fun d ρ => match d.un with
  | .dict kvs => (fk ρ).bindV (kGet2 kvs fx)
  | _ => .bad
@[simp] theorem kGet1_dict {kvs : List (D × D)} {fk fx : EX} : kGet1 fk fx (.dict kvs) ρ = (fk ρ).bindV (kGet2 kvs fx) := nrfl rfl
@[simp] theorem kGet2_def {kvs : List (D × D)} {fx : EX} : kGet2 kvs fx e ρ = (fx ρ).bindV (kGet3 kvs e) := nrfl rfl
theorem kGet3_some {kvs : List (D × D)} {x : D} {kk : Key} (h : toKey e.un = some kk) : kGet3 kvs e x ρ = .ok (.val ((lookK kvs kk).getD x)) ρ := by
  unfold kGet3; rw [h]
@[simp] theorem eGet2_def {fk fx : EX} : eGet2 f fk fx ρ = (f ρ).bindV (kGet1 fk fx) := by
  unfold eGet2
  refine bindV_congr fun d ρ => ?_
  unfold kGet1
  cases d.un <;> try rfl
@[simp] theorem kAny_tag {a : Addr} : kAny (.tag a d) ρ = kAny d ρ := nrfl rfl
def kTupP : D → Env → R := fun d ρ => match d.un with
  | .list ds => .ok (.val (.tag 0 (.tuple ds))) ρ
  | _ => .bad
@[simp] theorem kTupP_list {ds : List D} : kTupP (.list ds) ρ = .ok (.val (.tag 0 (.tuple ds))) ρ := nrfl rfl
@[simp] theorem eTupP_def : eTupP f ρ = (f ρ).bindV kTupP := nrfl rfl
end
end Dk

set_option Elab.async false
set_option linter.all false
set_option maxRecDepth 100000
set_option maxHeartbeats 4000000
/-! Dk30: equal data compare equal -/
namespace Dk
open PySem PySem.Spec L2 PyProof.Rows
def Ok (n : Nat) (d : D) : Prop := Fit n d.strip
theorem same_self {n : Nat} {d : D} (h : Ok n d) : sameDen n [.val d, .val d] = .ret (.val (.bool true)) [.val d, .val d] := same_ok n d.strip d d h rfl rfl
theorem same_strip {n : Nat} {t d : D} (h : Ok n d) (e : t.strip = d.strip) : sameDen n [.val t, .val d] = .ret (.val (.bool true)) [.val t, .val d] := same_ok n d.strip t d h e rfl
theorem ok_str {n : Nat} (s : String) (h : (Str.ofString s).length ≤ 1000000) : Ok (n + 1) (S s) := ⟨h, canLay_ofString s⟩
theorem ok_int {n : Nat} (i : Int) : Ok (n + 1) (.int i) := trivial
theorem ok_bool {n : Nat} (b : Bool) : Ok (n + 1) (.bool b) := trivial
theorem ok_none {n : Nat} : Ok (n + 1) .none := trivial
theorem ok_list {n : Nat} {ds : List D} (hl : ds.length ≤ 1000000) (h : ∀ d ∈ ds, Ok n d) : Ok (n + 1) (.list ds) := by
  show Fit (n + 1) (.list (D.stripL ds))
  rw [stripL_map]
  refine ⟨by rw [List.length_map]; exact hl, fun x hx => ?_⟩
  obtain ⟨d, hd, rfl⟩ := List.mem_map.mp hx
  exact h d hd
theorem ok_tuple {n : Nat} {ds : List D} (hl : ds.length ≤ 1000000) (h : ∀ d ∈ ds, Ok n d) : Ok (n + 1) (.tuple ds) := by
  show Fit (n + 1) (.tuple (D.stripL ds))
  rw [stripL_map]
  refine ⟨by rw [List.length_map]; exact hl, fun x hx => ?_⟩
  obtain ⟨d, hd, rfl⟩ := List.mem_map.mp hx
  exact h d hd
theorem ok_tag {n : Nat} {a : Addr} {d : D} (h : Ok n d) : Ok n (.tag a d) := h
theorem ok_dict0 {n : Nat} : Ok (n + 2) (.dict []) := by
  show (∀ p ∈ ([] : List (D × D)), ∃ k, p.1 = keyD k) ∧ (([] : List D).length ≤ 1000000 ∧ ∀ x ∈ ([] : List D), Fit n x)
  exact ⟨fun p hp => (by cases hp), by simp, fun x hx => (by cases hx)⟩
theorem ok_mono : ∀ {n : Nat} {d : D}, Fit n d → Fit (n + 1) d
  | 0, _, h => h.elim
  | n + 1, d, h => by
    cases d with
    | none => trivial
    | bool b => trivial
    | int b => trivial
    | str s => exact h
    | list ds => exact ⟨h.1, fun x hx => ok_mono (h.2 x hx)⟩
    | tuple ds => exact ⟨h.1, fun x hx => ok_mono (h.2 x hx)⟩
    | dict kvs => exact ⟨h.1, ok_mono (d := .list (itemsD kvs)) h.2⟩
    | dictT kvs => exact h
    | tag a d => exact h
theorem Ok.mono {n m : Nat} {d : D} (h : Ok n d) (hm : n ≤ m) : Ok m d := by
  induction hm with
  | refl => exact h
  | step _ ih => exact ok_mono ih
theorem ok_two {n : Nat} {c d : D} (h : Ok n c) (g : Ok n d) : Ok (n + 1) (.list [c, d]) := ok_list (by simp) fun x hx => by
  simp only [List.mem_cons, List.not_mem_nil, or_false] at hx
  rcases hx with rfl | rfl
  · exact h
  · exact g
theorem ok_three {n : Nat} {c d e : D} (h : Ok n c) (g : Ok n d) (k : Ok n e) : Ok (n + 1) (.list [c, d, e]) := ok_list (by simp) fun x hx => by
  simp only [List.mem_cons, List.not_mem_nil, or_false] at hx
  rcases hx with rfl | rfl | rfl
  · exact h
  · exact g
  · exact k
/-- decided -/
def fitB : Nat → D → Bool
  | 0, _ => false
  | n + 1, d => match d with
    | .str s => decide (s.length ≤ 1000000) && PyData.strOk s
    | .list ds => decide (ds.length ≤ 1000000) && ds.all (fitB n)
    | .tuple ds => decide (ds.length ≤ 1000000) && ds.all (fitB n)
    | .dict kvs => kvs.isEmpty && decide (1 ≤ n)
    | .dictT _ => false
    | .tag _ _ => false
    | _ => true
theorem ok_of : ∀ {n : Nat} {d : D}, fitB n d = true → Ok n d
  | 0, _, h => by cases h
  | n + 1, d, h => by
    cases d with
    | none => trivial
    | bool b => trivial
    | int b => trivial
    | str s =>
      simp only [fitB, Bool.and_eq_true, decide_eq_true_eq] at h
      exact h
    | list ds =>
      simp only [fitB, Bool.and_eq_true, decide_eq_true_eq, List.all_eq_true] at h
      exact ok_list h.1 fun x hx => ok_of (h.2 x hx)
    | tuple ds =>
      simp only [fitB, Bool.and_eq_true, decide_eq_true_eq, List.all_eq_true] at h
      exact ok_tuple h.1 fun x hx => ok_of (h.2 x hx)
    | dict kvs =>
      simp only [fitB, Bool.and_eq_true, decide_eq_true_eq, List.isEmpty_iff] at h
      obtain ⟨rfl, h2⟩ := h
      obtain ⟨k, rfl⟩ : ∃ k, n = k + 1 := ⟨n - 1, by omega⟩
      exact ok_dict0
    | dictT kvs => cases h
    | tag a d => cases h
end Dk

set_option Elab.async false
set_option linter.all false
set_option maxRecDepth 100000
set_option maxHeartbeats 4000000
/-! Dk31: the very object: data without tags; the object at a tag, without and with more -/
namespace Dk
open PySem PySem.Spec L2 PyProof.Rows
mutual
def noTag : D → Bool
  | .list ds => noTagL ds
  | .tuple ds => noTagL ds
  | .dict kvs => noTagK kvs
  | .dictT _ => false
  | .tag _ _ => false
  | .none => true
  | .bool _ => true
  | .int _ => true
  | .str _ => true
def noTagL : List D → Bool
  | [] => true
  | d :: ds => noTag d && noTagL ds
def noTagK : List (D × D) → Bool
  | [] => true
  | (_, d) :: r => noTag d && noTagK r
end
section
variable {K : PySem.W.Frag} {mg : Str → Option Value} {W : WX} {P : Prot} {F F' H : Hp} {σ : SS} {ρ : Env}
mutual
theorem rep0_of : ∀ {d : D} {v : V}, noTag d = true → Rep K F d v → Rep0 K F d v
  | .none, _, _, r => by unfold Rep at r; unfold Rep0; exact r
  | .bool _, _, _, r => by unfold Rep at r; unfold Rep0; exact r
  | .int _, _, _, r => by unfold Rep at r; unfold Rep0; exact r
  | .str _, _, _, r => by unfold Rep at r; unfold Rep0; exact r
  | .list ds, _, h, r => by
    unfold Rep at r; unfold Rep0
    obtain ⟨a, vs, e, s, l⟩ := r
    exact ⟨a, vs, e, s, rep0_ofL (by simpa only [noTag] using h) l⟩
  | .tuple ds, _, h, r => by
    unfold Rep at r; unfold Rep0
    obtain ⟨a, vs, e, s, l⟩ := r
    exact ⟨a, vs, e, s, rep0_ofL (by simpa only [noTag] using h) l⟩
  | .dict kvs, _, h, r => by
    unfold Rep at r; unfold Rep0
    obtain ⟨a, vs, e, s, l⟩ := r
    exact ⟨a, vs, e, s, rep0_ofK (by simpa only [noTag] using h) l⟩
  | .dictT _, _, h, _ => by simp [noTag] at h
  | .tag _ _, _, h, _ => by simp [noTag] at h
theorem rep0_ofL : ∀ {ds : List D} {vs : List V}, noTagL ds = true → RepL K F ds vs → Rep0L K F ds vs
  | [], _, _, r => by unfold RepL at r; unfold Rep0L; exact r
  | d :: ds, _, h, r => by
    simp only [noTagL, Bool.and_eq_true] at h
    unfold RepL at r; unfold Rep0L
    obtain ⟨v, ws, e, r1, r2⟩ := r
    exact ⟨v, ws, e, rep0_of h.1 r1, rep0_ofL h.2 r2⟩
theorem rep0_ofK : ∀ {ds : List (D × D)} {vs : List (Key × V)}, noTagK ds = true → RepK K F ds vs → Rep0K K F ds vs
  | [], _, _, r => by unfold RepK at r; unfold Rep0K; exact r
  | (k, d) :: ds, _, h, r => by
    simp only [noTagK, Bool.and_eq_true] at h
    unfold RepK at r; unfold Rep0K
    obtain ⟨kk, v, ws, e, e2, r1, r2⟩ := r
    exact ⟨kk, v, ws, e, e2, rep0_of h.1 r1, rep0_ofK h.2 r2⟩
end
mutual
theorem rep_of0 : ∀ {d : D} {v : V}, Rep0 K F d v → Rep K F d v
  | .none, _, r => by unfold Rep0 at r; unfold Rep; exact r
  | .bool _, _, r => by unfold Rep0 at r; unfold Rep; exact r
  | .int _, _, r => by unfold Rep0 at r; unfold Rep; exact r
  | .str _, _, r => by unfold Rep0 at r; unfold Rep; exact r
  | .list ds, _, r => by
    unfold Rep0 at r; unfold Rep
    obtain ⟨a, vs, e, s, l⟩ := r
    exact ⟨a, vs, e, s, rep_of0L l⟩
  | .tuple ds, _, r => by
    unfold Rep0 at r; unfold Rep
    obtain ⟨a, vs, e, s, l⟩ := r
    exact ⟨a, vs, e, s, rep_of0L l⟩
  | .dict kvs, _, r => by
    unfold Rep0 at r; unfold Rep
    obtain ⟨a, vs, e, s, l⟩ := r
    exact ⟨a, vs, e, s, rep_of0K l⟩
  | .dictT _, _, r => by unfold Rep0 at r; exact r.elim
  | .tag _ _, _, r => by unfold Rep0 at r; exact r.elim
theorem rep_of0L : ∀ {ds : List D} {vs : List V}, Rep0L K F ds vs → RepL K F ds vs
  | [], _, r => by unfold Rep0L at r; unfold RepL; exact r
  | d :: ds, _, r => by
    unfold Rep0L at r; unfold RepL
    obtain ⟨v, ws, e, r1, r2⟩ := r
    exact ⟨v, ws, e, rep_of0 r1, rep_of0L r2⟩
theorem rep_of0K : ∀ {ds : List (D × D)} {vs : List (Key × V)}, Rep0K K F ds vs → RepK K F ds vs
  | [], _, r => by unfold Rep0K at r; unfold RepK; exact r
  | (k, d) :: ds, _, r => by
    unfold Rep0K at r; unfold RepK
    obtain ⟨kk, v, ws, e, e2, r1, r2⟩ := r
    exact ⟨kk, v, ws, e, e2, rep_of0 r1, rep_of0K r2⟩
end
/-- what can be tagged -/
def Cl.noTag : Cl → Bool
  | .lst ds => noTagL ds
  | .dct kvs => noTagK kvs
  | .dcT _ => false
/-- an owned object becomes a datum that bears its place -/
theorem Stt.freezeT (st : Stt K mg P F H σ ρ) {v : V} {c : Cl} (x : OutOk K mg P F H σ ρ v (.own c)) (hn : c.noTag = true) : ∃ (a : Addr) (F' : Hp), F a = none ∧ SubH F F' ∧ Stt K mg P F' H σ ρ ∧ Rep K F' (.tag (a + 1) c.frz) v := by
  obtain ⟨a, e1, h1, h2, h3⟩ := x.sl
  cases e1
  obtain ⟨u, hu⟩ := h3.some
  have sb : SubH F (upd F a u) := SubH.upd h1
  refine ⟨a, upd F a u, h1, sb, st.grow sb (fun q o e => ?_) (fun q o e => ?_) fun i b w => ?_, ?_⟩
  · by_cases hq : q = a
    · subst hq; rw [upd_same] at e; rw [hu]; exact .inl e
    · rw [upd_ne hq] at e; exact st.sub q o e
  · obtain ⟨k1, k2⟩ := st.keep q o e
    have hq : q ≠ a := fun z => by subst z; rw [h2] at e; cases e
    exact ⟨k1, by rw [upd_ne hq]; exact k2⟩
  · obtain ⟨k1, _, _⟩ := st.owned w
    have hb : b ≠ a := fun z => x.free rfl i a rfl (z ▸ w)
    exact ⟨by rw [upd_ne hb]; exact k1, rfl⟩
  · cases c with
    | lst ds =>
      obtain ⟨vs, h4, h5⟩ := h3
      rw [hu] at h4; cases h4
      show Rep K _ (.tag (a + 1) (.list ds)) _
      unfold Rep
      refine ⟨⟨rfl, F, vs, sb.rd, h1, upd_same, rep0_ofL hn h5⟩, ?_⟩
      unfold Rep
      exact ⟨a, vs, rfl, .inl (.inl upd_same), RepL.le sb.rd ds vs h5⟩
    | dct kvs =>
      obtain ⟨ks, h4, h5⟩ := h3
      rw [hu] at h4; cases h4
      show Rep K _ (.tag (a + 1) (.dict kvs)) _
      unfold Rep
      refine ⟨⟨rfl, F, ks, sb.rd, h1, .inl upd_same, rep0_ofK hn h5⟩, ?_⟩
      unfold Rep
      exact ⟨a, ks, rfl, (.inl upd_same), RepK.le sb.rd kvs ks h5⟩
    | dcT kvs => cases hn
theorem SubH.of_rd {F G : Hp} (h : RdLe F G) : SubH F G := fun a o e => by
  by_cases hd : isDct o
  · rcases h.1 a o (.inl e) with h1 | ⟨ob, h1⟩
    · exact .inl h1
    · exact .inr ⟨hd, ob, h1⟩
  · exact .inl (h.2 a o e hd)
/-- without one object -/
def cut (F : Hp) (n : Addr) : Hp := fun p => if p = n then none else F p
theorem cut_at {F : Hp} {n : Addr} : cut F n n = none := if_pos rfl
theorem cut_ne {F : Hp} {n p : Addr} (h : p ≠ n) : cut F n p = F p := if_neg h
theorem cut_some {F : Hp} {n p : Addr} {o : HO} (h : cut F n p = some o) : p ≠ n ∧ F p = some o := by
  by_cases e : p = n
  · subst e; rw [cut_at] at h; cases h
  · rw [cut_ne e] at h; exact ⟨e, h⟩
theorem cut_rd {F0 F : Hp} {n : Addr} (h : RdLe F0 F) (hn : F0 n = none) : RdLe F0 (cut F n) := by
  constructor
  · intro a u r
    have ha : a ≠ n := by
      rintro rfl
      rcases r with r | ⟨ob, r⟩ <;> rw [hn] at r <;> cases r
    rcases h.1 a u r with q | ⟨ob, q⟩
    · exact .inl (by rw [cut_ne ha]; exact q)
    · exact .inr ⟨ob, by rw [cut_ne ha]; exact q⟩
  · intro a o e d
    have ha : a ≠ n := by rintro rfl; rw [hn] at e; cases e
    rw [cut_ne ha]
    exact h.2 a o e d
theorem cut_sub {F H : Hp} {n : Addr} (h : SubH F H) : SubH (cut F n) H := fun a o e => h a o (cut_some e).2
end
end Dk

set_option Elab.async false
set_option linter.all false
set_option maxRecDepth 100000
set_option maxHeartbeats 4000000
/-! Dk32: defs that tell the very object by growing it -/
namespace Dk
open PySem PySem.Spec L2 PyProof.Rows
/-- a suite that leaves the names alone -/
def PostN (K : PySem.W.Frag) (mg : Str → Option Value) (P : Prot) (F : Hp) (σ : SS) (r : SR) (D : Ends) : Prop := match r with
  | .nx ρ => ∀ F' H', SubH F F' → Stt K mg P F' H' σ ρ → D.nx σ H'
  | _ => False
def DN (K : PySem.W.Frag) (mg : Str → Option Value) (t : TS) (f : SX) : Prop := ∀ P F H σ ρ D, Stt K mg P F H σ ρ → PostN K mg P F σ (f ρ) D → t D σ H
section
variable {K : PySem.W.Frag} {mg : Str → Option Value} {W : WX} {P : Prot} {F F' H : Hp} {σ : SS} {ρ : Env}
theorem PostN.le {r : SR} {D : Ends} (h : SubH F F') (k : PostN K mg P F σ r D) : PostN K mg P F' σ r D := by
  cases r with
  | nx ρ => exact fun G H' s => k G H' (h.trans s)
  | _ => exact k
theorem dn_nx : DN K mg tNext sNx := fun P F H σ ρ D st h => h F H (SubH.refl F) st
theorem dn_drop {t : TE} {f : EX} (hf : DE K mg W t f) : DN K mg (tDrop t) (sDrop f) := by
  intro P F H σ ρ D st h
  refine hf P F H σ ρ _ st ?_
  unfold sDrop R.bs at h
  cases e : f ρ with
  | bad => simp only [e] at h; exact h.elim
  | ok o ρ1 =>
    simp only [e] at h
    intro F1 H1 v sb st1 x
    exact h F1 H1 sb st1
  | exc c fs ρ1 => simp only [e] at h; exact h.elim
theorem dn_if {tc : TT} {t u : TS} {c : EX} {f g : SX} (hc : DT K mg W tc c) (hf : DN K mg t f) (hg : DN K mg u g) : DN K mg (tIfS tc t u) (sIf c f g) := by
  intro P F H σ ρ D st h
  refine hc P F H σ ρ _ st ?_
  unfold sIf R.bsB at h
  cases e : c ρ with
  | bad => simp only [e] at h; exact h.elim
  | exc c fs ρ1 => simp only [e] at h; exact h.elim
  | ok o ρ1 =>
    cases o with
    | val d =>
      cases d with
      | bool b =>
        simp only [e] at h
        intro F1 H1 sb st1
        cases b with
        | true => exact hf P F1 H1 σ ρ1 D st1 (PostN.le sb h)
        | false => exact hg P F1 H1 σ ρ1 D st1 (PostN.le sb h)
      | _ => simp only [e] at h; exact h.elim
    | _ => simp only [e] at h; exact h.elim
theorem dn_seq {t u : TS} {f g : SX} (h1 : DN K mg t f) (h2 : DN K mg u g) : DN K mg (tSeq t u) (sSeq f g) := by
  intro P F H σ ρ D st h
  refine h1 P F H σ ρ { D with nx := u D } st ?_
  unfold sSeq at h
  cases e : f ρ with
  | nx ρ1 =>
    simp only [e] at h
    exact fun F1 H1 sb st1 => h2 P F1 H1 σ ρ1 D st1 (PostN.le sb h)
  | _ => simp only [e] at h; exact h.elim
/-! the contract -/
def callS (same : Den) : EX := eCallG same [(.v (eVar 0)), (.v (eVar 1))] [.a 0, .a 1]
/-- d, at n, is told the same, grows, is told the same again -/
def Grows (same : Den) (mid : SX) (n : Nat) (d : D) : Prop := same [.val (.tag (n + 1) d), .val (.tag (n + 1) d)] = .ret (.val (.bool true)) [.val (.tag (n + 1) d), .val (.tag (n + 1) d)] ∧
  ∃ ds ds', d = .list ds ∧ mid [.emp, .own (.lst ds)] = .nx [.emp, .own (.lst ds')] ∧ same [.val (.list ds'), .val (.list ds')] = .ret (.val (.bool true)) [.val (.list ds'), .val (.list ds')]
def Left (P : Prot) (F H' : Hp) (n : Addr) : Prop := (∀ p o, P.H p = some o → H' p = some o) ∧ SubH (cut F n) H'
def spT (K : PySem.W.Frag) (mg : Str → Option Value) (same : Den) (mid : SX) (vs : List V) (H : Hp) (Q : VK) : Prop :=
  ∃ (P : Prot) (F : Hp) (n : Nat) (d : D), P.pin = (fun _ => none) ∧ vs = [.ref n, .ref n] ∧ Stt K mg P F H [some (.ref n), some (.ref n)] [.val (.tag (n + 1) d), .val (.tag (n + 1) d)] ∧ Grows same mid n d ∧ ∀ H', Left P F H' n → Q (.bl true) H'
theorem callS_ok {same : Den} {x y b : D} (h : same [.val x, .val y] = .ret (.val b) [.val x, .val y]) : callS same [.val x, .val y] = .ok (.val b) [.val x, .val y] := by
  unfold callS
  simp [h]
theorem grown {t1 : TT} {tm ta : TS} {t4 : TE} {same : Den} {mid : SX} {EE : Ends} {n : Nat} {d : D} (d1 : DT K mg W t1 (eNot (eTru (callS same)))) (dm : DN K mg tm mid) (d4 : DE K mg W t4 (callS same))
    (hp : P.pin = fun _ => none) (st : Stt K mg P F H [some (.ref n), some (.ref n)] [.val (.tag (n + 1) d), .val (.tag (n + 1) d)]) (g : Grows same mid n d) (q : ∀ H', Left P F H' n → EE.rt (.bl true) H') :
    (tSeq (tIfS t1 ta tNext) (tSeq tm (tRet t4))) EE [some (.ref n), some (.ref n)] H := by
  obtain ⟨g1, ds, ds', rfl, g2, g3⟩ := g
  refine d1 P F H _ _ _ st ?_
  have e1 : eNot (eTru (callS same)) [.val (.tag (n + 1) (.list ds)), .val (.tag (n + 1) (.list ds))] = .ok (.val (.bool false)) [.val (.tag (n + 1) (.list ds)), .val (.tag (n + 1) (.list ds))] := by
    have := callS_ok g1
    simp [this]
  rw [e1]
  intro F1 H1 sb1 st1
  show tSeq tm (tRet t4) EE _ H1
  have r := (OutOk.rep (K := K) (mg := mg) (P := P) (F := F1) (H := H1) (σ := [some (.ref n), some (.ref n)]) (ρ := [.val (.tag (n + 1) (.list ds)), .val (.tag (n + 1) (.list ds))]) (v := .ref n) (d := .tag (n + 1) (.list ds)) ⟨st1.sl 0 _ rfl, (by intro z; cases z), rfl, (fun z => by cases z)⟩)
  unfold Rep at r
  obtain ⟨⟨_, F0, vs, h1, h2, h3, h4⟩, _⟩ := r
  have hPn : P.H n = none := by
    cases e : P.H n with
    | none => rfl
    | some o => rw [(st1.keep n o e).2] at h3; cases h3
  have stm : Stt K mg P (cut F1 n) H1 [some (.ref n), some (.ref n)] [.emp, .own (.lst ds)] := by
    refine ⟨cut_sub st1.sub, fun p o e => ?_, rfl, fun i s e => ?_, fun i j a w1 w2 => ?_, fun i v e => by rw [hp] at e; cases e⟩
    · obtain ⟨k1, k2⟩ := st1.keep p o e
      refine ⟨k1, ?_⟩
      unfold cut
      split
      · rfl
      · exact k2
    · match i with
      | 0 => cases e; trivial
      | 1 =>
        cases e
        exact ⟨n, rfl, cut_at, hPn, vs, st1.sub.non h3 id, RepL.le (cut_rd h1 h2) ds vs (rep_of0L h4)⟩
      | i + 2 => cases e
    · have one : ∀ k, Owns [some (V.ref n), some (V.ref n)] [.emp, .own (.lst ds)] k a → k = 1 := fun k w => by
        obtain ⟨⟨s, e, z⟩, _⟩ := w
        match k with
        | 0 => cases e; cases z
        | 1 => rfl
        | k + 2 => cases e
      rw [one i w1, one j w2]
  refine dm P (cut F1 n) H1 _ _ { EE with nx := tRet t4 EE } stm ?_
  rw [g2]
  intro F3 H3 sb3 st3
  show t4 _ H3 EE.rt
  obtain ⟨a, ea, k1, k2, vs3, k3, k4⟩ := st3.sl 1 _ rfl
  have ea' : a = n := by cases ea; rfl
  subst ea'
  have sbu : SubH F3 (upd F3 a (.lst vs3)) := SubH.upd k1
  have rl : Rep K (upd F3 a (.lst vs3)) (.list ds') (.ref a) := by
    unfold Rep
    exact ⟨a, vs3, rfl, .inl (.inl upd_same), RepL.le sbu.rd ds' vs3 k4⟩
  have st4 : Stt K mg P (upd F3 a (.lst vs3)) H3 [some (.ref a), some (.ref a)] [.val (.list ds'), .val (.list ds')] := by
    refine ⟨fun p o e => ?_, fun p o e => ?_, rfl, fun i s e => ?_, fun i j b w1 w2 => ?_, fun i v e => by rw [hp] at e; cases e⟩
    · by_cases hq : p = a
      · subst hq; rw [upd_same] at e; cases e; exact .inl k3
      · rw [upd_ne hq] at e; exact st3.sub p o e
    · obtain ⟨z1, z2⟩ := st3.keep p o e
      have hq : p ≠ a := fun z => by subst z; rw [k2] at e; cases e
      exact ⟨z1, by rw [upd_ne hq]; exact z2⟩
    · match i with
      | 0 => cases e; exact ⟨_, rfl, rl⟩
      | 1 => cases e; exact ⟨_, rfl, rl⟩
      | i + 2 => cases e
    · obtain ⟨⟨s, e, z⟩, _⟩ := w1
      match i with
      | 0 => cases e; cases z
      | 1 => cases e; cases z
      | i + 2 => cases e
  refine d4 P (upd F3 a (.lst vs3)) H3 _ _ _ st4 ?_
  rw [callS_ok g3]
  intro F5 H5 v sb5 st5 x
  have ev : v = .bl true := rep_bool x.rep
  rw [ev]
  refine q H5 ⟨fun p o e => (st5.keep p o e).1, ?_⟩
  have c1 : SubH (cut F a) (cut F1 a) := fun p o e => by
    obtain ⟨z1, z2⟩ := cut_some e
    rw [cut_ne z1]
    exact sb1 p o z2
  exact (((c1.trans sb3).trans sbu).trans sb5).trans st5.sub
end
end Dk

set_option Elab.async false
set_option linter.all false
set_option maxRecDepth 100000
set_option maxHeartbeats 4000000
/-! Dk33: x = copy(..); y = ..; if c or not very(y[..], x): the object is told and gone -/
namespace Dk
open PySem PySem.Spec L2 PyProof.Rows
def flatC : Cl → Bool
  | .lst ds => ds.all flatD
  | _ => false
def slotOk (ρ0 : Env) (k : Nat) : Sl → Prop
  | .own c => flatC c = true
  | .ref c => flatC c = true
  | s => ρ0[k]? = some s
def endOk (i j : Nat) (ρ0 ρ : Env) : Prop := ∀ (k : Nat) (s : Sl), ρ[k]? = some s → ((k = i ∨ k = j) → s.isOwn = false) ∧ (k ≠ i → k ≠ j → slotOk ρ0 k s)
section
variable {K : PySem.W.Frag} {mg : Str → Option Value} {W : WX} {P : Prot} {F F' H : Hp} {σ : SS} {ρ : Env}
theorem flat_move {d : D} {v : V} (h : flatD d = true) (r : Rep K F d v) : Rep K F' d v := by
  cases d with
  | none => unfold Rep at r ⊢; exact r
  | bool b => unfold Rep at r ⊢; exact r
  | int b => unfold Rep at r ⊢; exact r
  | str b => unfold Rep at r ⊢; exact r
  | list b => cases h
  | tuple b => cases h
  | dict b => cases h
  | dictT b => cases h
  | tag a b => cases h
theorem flat_moveL : ∀ {ds : List D} {vs : List V}, ds.all flatD = true → RepL K F ds vs → RepL K F' ds vs
  | [], _, _, r => by unfold RepL at r ⊢; exact r
  | d :: ds, _, h, r => by
    simp only [List.all_cons, Bool.and_eq_true] at h
    unfold RepL at r ⊢
    obtain ⟨v, ws, e, r1, r2⟩ := r
    exact ⟨v, ws, e, flat_move h.1 r1, flat_moveL h.2 r2⟩
theorem getD_set_ne {σ : SS} {i k : Nat} {o : Option V} (h : k ≠ i) : (σ.set i o).getD k none = σ.getD k none := by
  simp [List.getD, List.getElem?_set_ne (Ne.symm h)]
theorem Stt.dropTo {F7 H7 H' : Hp} {σ4 : SS} {ρ7 : Env} {i j : Nat} {a : Addr} {x y : Sl} {as : List Sl} {vs : List V} {v w : V} (st : Stt K mg P F H σ ρ) (h4 : σ4 = (σ.set i (some v)).set j (some w)) (st7 : Stt K mg P F7 H7 σ4 ρ7) (sb : SubH F F7) (ha : F a = none)
    (lf : Left (callP F7 H7 σ4 [.inl x, .inl y] as vs) F7 H' a) (he : endOk i j ρ ρ7) : Stt K mg P F H' σ4 ((ρ7.set i .emp).set j .emp) := by
  have keepH : ∀ p o, F7 p = none → H7 p = some o → H' p = some o := fun p o e1 e2 => lf.1 p o (callP_some e1 (by simp [refsOf]) e2)
  have get : ∀ (k : Nat) (s : Sl), ((ρ7.set i .emp).set j .emp)[k]? = some s → ((k = i ∨ k = j) ∧ s = .emp) ∨ (k ≠ i ∧ k ≠ j ∧ ρ7[k]? = some s) := fun k s e => by
    by_cases hj : k = j
    · subst hj
      rw [List.getElem?_set] at e
      simp only [if_true] at e
      split at e
      · cases e; exact .inl ⟨.inr rfl, rfl⟩
      · cases e
    · rw [List.getElem?_set_ne (Ne.symm hj)] at e
      by_cases hi : k = i
      · subst hi
        rw [List.getElem?_set] at e
        simp only [if_true] at e
        split at e
        · cases e; exact .inl ⟨.inl rfl, rfl⟩
        · cases e
      · rw [List.getElem?_set_ne (Ne.symm hi)] at e
        exact .inr ⟨hi, hj, e⟩
  have own : ∀ (k : Nat) (b : Addr), Owns σ4 ((ρ7.set i .emp).set j .emp) k b → Owns σ4 ρ7 k b := fun k b ⟨⟨s, e, z⟩, q⟩ => by
    rcases get k s e with ⟨_, rfl⟩ | ⟨_, _, e2⟩
    · cases z
    · exact ⟨⟨s, e2, z⟩, q⟩
  refine ⟨fun p o e => ?_, fun p o e => ?_, by rw [st7.len]; simp, fun k s e => ?_, fun k1 k2 b w1 w2 => st7.apart k1 k2 b (own k1 b w1) (own k2 b w2), fun k u e => ?_⟩
  · have hp : p ≠ a := by rintro rfl; rw [ha] at e; cases e
    rcases sb p o e with z | ⟨z1, ob, z2⟩
    · exact lf.2 p o (by rw [cut_ne hp]; exact z)
    · have := lf.2 p _ (by rw [cut_ne hp]; exact z2)
      rcases this with q | ⟨q, _⟩
      · exact .inr ⟨z1, ob, q⟩
      · exact q.elim
  · obtain ⟨z1, z2⟩ := st7.keep p o e
    exact ⟨keepH p o z2 z1, (st.keep p o e).2⟩
  · rcases get k s e with ⟨_, rfl⟩ | ⟨hi, hj, e2⟩
    · trivial
    · have hs : σ4.getD k none = σ.getD k none := by rw [h4, getD_set_ne hj, getD_set_ne hi]
      have ok := (he k s e2).2 hi hj
      cases s with
      | emp => trivial
      | val d =>
        have := st.sl k _ ok
        rw [hs]
        exact this
      | fn z =>
        have := st.sl k _ ok
        rw [hs]
        exact this
      | own c =>
        obtain ⟨b, q1, q2, q3, q4⟩ := st7.sl k _ e2
        refine ⟨b, q1, sb.none q2, q3, ?_⟩
        cases c with
        | lst ds =>
          obtain ⟨us, q5, q6⟩ := q4
          exact ⟨us, keepH b _ q2 q5, flat_moveL ok q6⟩
        | dct z => cases ok
        | dcT z => cases ok
      | ref c =>
        obtain ⟨b, q1, q2, q3, q4⟩ := st7.sl k _ e2
        refine ⟨b, q1, sb.none q2, q3, ?_⟩
        cases c with
        | lst ds =>
          obtain ⟨us, q5, q6⟩ := q4
          exact ⟨us, keepH b _ q2 q5, flat_moveL ok q6⟩
        | dct z => cases ok
        | dcT z => cases ok
  · obtain ⟨z1, s, z2, z3⟩ := st7.pin k u e
    refine ⟨z1, s, ?_, z3⟩
    have hk : ¬ (k = i ∨ k = j) := fun z => by
      have := (he k s z2).1 z
      cases s <;> simp_all [Sl.isOwn, Sl.isRef]
    rw [List.getElem?_set_ne (fun z => hk (.inr z.symm)), List.getElem?_set_ne (fun z => hk (.inl z.symm))]
    exact z2
/-! the block -/
def spV (K : PySem.W.Frag) (mg : Str → Option Value) (den same : Den) (mid : SX) : Sp := fun vs H Q E => spD K mg 2 den vs H Q E ∨ spT K mg same mid vs H Q
def tVery (sp : Sp) (E : L2.St → XK) (ta : TA) : TE := fun σ H Q => ta σ H fun vs H1 => vs.length = 2 ∧ sp vs H1 Q (E σ)
def tTruth (K : PySem.W.Frag) (t : TE) : TT := fun σ H Q => t σ H fun x H' => ∃ k, TruV K x H' k ∧ Q k H'
noncomputable def regTail (j : Nat) (e2 c ex ey : EX) (k : Env → D → D → SR) (ρ2 : Env) : SR := (e2 ρ2).bs fun o ρ3 => match o.toVal with
  | some s => (match setSl j s ρ3 with
    | some ρ4 => (c ρ4).bsB fun b ρ5 => if b = true then .bad else (match cArgs [.v ex, .v ey] ρ5 with
      | .ok [.inl (.val dx), .inl (.val dy)] ρ7 => k ρ7 dx dy
      | _ => .bad)
    | none => .bad)
  | none => .bad
open Classical in
noncomputable def kTag (same : Den) (mid : SX) (i j a : Nat) (d : D) (ρ0 : Env) : Env → D → D → SR := fun ρ7 dx dy =>
  if dx = .tag (a + 1) d ∧ dy = .tag (a + 1) d ∧ Grows same mid a d ∧ endOk i j ρ0 ρ7 then .nx ((ρ7.set i .emp).set j .emp) else .bad
def kVal (den : Den) : Env → D → D → SR := fun ρ7 dx dy => match den [.val dx, .val dy] with
  | .ret (.val (.bool true)) _ => .nx ρ7
  | _ => .bad
open Classical in
noncomputable def region (den same : Den) (mid : SX) (i j : Nat) (f e2 c ex ey : EX) : SX := fun ρ => match f ρ with
  | .ok (.own cl) ρ1 => if cl.noTag = true then (if h : ∃ ρe, ∀ a, (match setSl i (.val (.tag (a + 1) cl.frz)) ρ1 with
      | some ρ2 => regTail j e2 c ex ey (kTag same mid i j a cl.frz ρ) ρ2
      | none => .bad) = .nx ρe then .nx h.choose else .bad) else .bad
  | .ok (.val d) ρ1 => (match setSl i (.val d) ρ1 with
      | some ρ2 => (match regTail j e2 c ex ey (kVal den) ρ2 with
        | .nx ρe => .nx ρe
        | _ => .bad)
      | none => .bad)
  | _ => .bad
theorem tru_bl {H : Hp} {b k : Bool} (h : k = b) : TruV K (.bl b) H k := by
  subst h
  exact rfl
theorem tail_ok {te2 : TE} {tc : TT} {ta : TA} {tr : TS} {e2 c ex ey : EX} {k : Env → D → D → SR} {j : Nat} {F2 H2 : Hp} {σ2 : SS} {ρ2 ρe : Env} {sp : Sp} {EE : L2.St → XK} {D : Ends} (d2 : DE K mg W te2 e2) (dc : DT K mg W tc c) (da : DC K mg W ta [.v ex, .v ey])
    (st2 : Stt K mg P F2 H2 σ2 ρ2) (h : regTail j e2 c ex ey k ρ2 = .nx ρe)
    (hk : ∀ F7 H7 w ρ7 dx dy v1 v2, SubH F2 F7 → Stt K mg P F7 H7 (σ2.set j (some w)) ρ7 → ARel K mg P F7 H7 (σ2.set j (some w)) [.inl (.val dx), .inl (.val dy)] [v1, v2] → k ρ7 dx dy = .nx ρe →
      ∃ b, b = true ∧ sp [v1, v2] H7 (fun x H' => ∃ kk, TruV K x H' kk ∧ if (!kk) = true then tr D (σ2.set j (some w)) H' else D.nx (σ2.set j (some w)) H') (EE (σ2.set j (some w)))) :
    tAsg te2 (gName j) { D with nx := (tIfS (tOr tc (tNot (tTruth K (tVery sp EE ta)))) tr tNext) D } σ2 H2 := by
  refine d2 P F2 H2 σ2 ρ2 _ st2 ?_
  unfold regTail R.bs at h
  cases e : e2 ρ2 with
  | bad => simp only [e] at h; cases h
  | exc cc fs ρ3 => simp only [e] at h; cases h
  | ok o ρ3 =>
    simp only [e] at h
    intro F3 H3 w sb3 st3 x3
    cases e1 : o.toVal with
    | none => simp only [e1] at h; cases h
    | some s =>
      simp only [e1] at h
      cases z : setSl j s ρ3 with
      | none => simp only [z] at h; cases h
      | some ρ4 =>
        simp only [z] at h
        obtain ⟨F4, sb4, st4, x4, no⟩ := st3.toVal x3 e1
        have st4' := st4.store x4.nr x4.sl (fun w => by rw [no] at w; cases w) z
        show tc (σ2.set j (some w)) H3 _
        refine dc P F4 H3 _ ρ4 _ st4' ?_
        unfold R.bsB at h
        cases ec : c ρ4 with
        | bad => simp only [ec] at h; cases h
        | exc cc fs ρ5 => simp only [ec] at h; cases h
        | ok oc ρ5 =>
          cases oc with
          | val dc' =>
            cases dc' with
            | bool b =>
              simp only [ec] at h
              cases b with
              | true => simp only [if_true] at h; cases h
              | false =>
                simp only [Bool.false_eq_true, if_false] at h
                intro F5 H5 sb5 st5
                show ta (σ2.set j (some w)) H5 _
                refine da P F5 H5 _ ρ5 _ st5 ?_
                cases ea : cArgs [.v ex, .v ey] ρ5 with
                | bad => simp only [ea] at h; cases h
                | exc cc fs ρ6 => simp only [ea] at h; cases h
                | ok l ρ7 =>
                  rw [ea] at h
                  intro F7 H7 vs sb7 st7 rl
                  match l, h, rl with
                  | [.inl (.val dx), .inl (.val dy)], h, rl =>
                    have hl : vs.length = 2 := by have := rl.length; simpa using this
                    obtain ⟨v1, v2, rfl⟩ : ∃ v1 v2, vs = [v1, v2] := by
                      match vs, hl with
                      | [v1, v2], _ => exact ⟨v1, v2, rfl⟩
                    obtain ⟨b, hb, q⟩ := hk F7 H7 w ρ7 dx dy v1 v2 (((sb3.trans sb4).trans sb5).trans sb7) st7 rl h
                    exact ⟨rfl, q⟩
            | _ => simp only [ec] at h; cases h
          | _ => simp only [ec] at h; cases h
end
end Dk

set_option Elab.async false
set_option linter.all false
set_option maxRecDepth 100000
set_option maxHeartbeats 4000000
/-! Dk34: the block's soundness; a def that tells the very object -/
namespace Dk
open PySem PySem.Spec L2 PyProof.Rows
section
variable {K : PySem.W.Frag} {mg : Str → Option Value} {W : WX} {P : Prot} {F F' H : Hp} {σ : SS} {ρ : Env}
theorem arel_two {dx dy : D} {v1 v2 : V} (r : ARel K mg P F H σ [.inl (.val dx), .inl (.val dy)] [v1, v2]) : Rep K F dx v1 ∧ Rep K F dy v2 := by
  cases r with
  | inl x _ _ t =>
    cases t with
    | inl y _ _ _ =>
      obtain ⟨a, e1, q1⟩ := x
      obtain ⟨b, e2, q2⟩ := y
      cases e1; cases e2
      exact ⟨q1, q2⟩
theorem rep_tag {a : Nat} {d : D} {v : V} (r : Rep K F (.tag (a + 1) d) v) : v = .ref a := by
  unfold Rep at r
  exact r.1.1
theorem ds_region {te1 te2 : TE} {tc : TT} {ta : TA} {tr : TS} {den same : Den} {mid : SX} {f e2 c ex ey : EX} {i j : Nat} {EE : L2.St → XK} (d1 : DE K mg W te1 f) (d2 : DE K mg W te2 e2) (dc : DT K mg W tc c) (da : DC K mg W ta [.v ex, .v ey]) :
    DS K mg W (tSeq (tAsg te1 (gName i)) (tSeq (tAsg te2 (gName j)) (tIfS (tOr tc (tNot (tTruth K (tVery (spV K mg den same mid) EE ta)))) tr tNext))) (region den same mid i j f e2 c ex ey) := by
  intro P F H σ ρ D st h
  refine d1 P F H σ ρ _ st ?_
  unfold region at h
  cases e : f ρ with
  | bad => simp only [e] at h; exact h.elim
  | exc cc fs ρ1 => simp only [e] at h; exact h.elim
  | ok o ρ1 =>
    cases o with
    | own cl =>
      simp only [e] at h
      by_cases hn : cl.noTag = true
      · rw [if_pos hn] at h
        split at h
        · rename_i hx
          have ha := hx.choose_spec
          generalize hx.choose = ρe at *
          intro F1 H1 v sb1 st1 x
          obtain ⟨a, F1', hFa, sb1', st1', rep⟩ := st1.freezeT x hn
          have q := ha a
          cases z : setSl i (.val (.tag (a + 1) cl.frz)) ρ1 with
          | none => simp only [z] at q; cases q
          | some ρ2 =>
            simp only [z] at q
            have st2 := st1'.store (s := .val (.tag (a + 1) cl.frz)) rfl ⟨v, rfl, rep⟩ (fun z => by cases z) z
            refine tail_ok (D := D) d2 dc da st2 q fun F7 H7 w ρ7 dx dy v1 v2 sb7 st7 rl hk => ?_
            unfold kTag at hk
            split at hk
            · rename_i hc
              obtain ⟨rfl, rfl, g, eo⟩ := hc
              injection hk with hk
              obtain ⟨r1, r2⟩ := arel_two rl
              have e1 := rep_tag r1
              have e2' := rep_tag r2
              subst e1 e2'
              have ci := call_in (as := [.val (.tag (a + 1) cl.frz), .val (.tag (a + 1) cl.frz)]) st7 rl (by simp [refsOf]) rfl
              refine ⟨true, rfl, .inr ⟨_, F7, a, cl.frz, ?_, rfl, ci.1, g, fun H' lf => ⟨true, tru_bl rfl, ?_⟩⟩⟩
              · unfold callP
                dsimp only
                funext k
                match k with
                | 0 => rfl
                | 1 => rfl
                | k + 2 => rfl
              · have sbA : SubH F F7 := (sb1.trans sb1').trans sb7
                have fin := Stt.dropTo st rfl st7 sbA (sb1.none hFa) lf eo
                rw [hk] at fin
                exact h F H' _ (SubH.refl F) fin
            · cases hk
        · exact h.elim
      · rw [if_neg hn] at h; exact h.elim
    | val d =>
      simp only [e] at h
      intro F1 H1 v sb1 st1 x
      cases z : setSl i (.val d) ρ1 with
      | none => simp only [z] at h; exact h.elim
      | some ρ2 =>
        simp only [z] at h
        have st2 := st1.store (s := .val d) rfl x.sl (fun z => by cases z) z
        cases q : regTail j e2 c ex ey (kVal den) ρ2 with
        | nx ρe =>
          rw [q] at h
          simp only at h
          refine tail_ok (D := D) d2 dc da st2 q fun F7 H7 w ρ7 dx dy v1 v2 sb7 st7 rl hk => ?_
          unfold kVal at hk
          split at hk
          · rename_i as' hden
            injection hk with hk
            have nd : (refsOf [.inl (Sl.val dx), .inl (Sl.val dy)]).Nodup := by simp [refsOf]
            have mm : mkAs [.inl (Sl.val dx), .inl (Sl.val dy)] ρ7 = some [.val dx, .val dy] := rfl
            obtain ⟨c1, c2, c3⟩ := call_in st7 rl nd mm
            refine ⟨true, rfl, .inl ⟨rfl, _, F7, [.val dx, .val dy], c1, c2, c3, ?_⟩⟩
            rw [hden]
            intro F8 H8 v8 sb8 st8 x8
            obtain ⟨o1, o2⟩ := call_out st7 rl nd mm sb8 st8
            have ev : v8 = .bl true := rep_bool x8.rep
            subst ev
            refine ⟨true, tru_bl rfl, ?_⟩
            have pb : putB [.inl (Sl.val dx), .inl (Sl.val dy)] as' ρ7 = ρ7 := by
              match as' with
              | [] => rfl
              | [_] => rfl
              | _ :: _ :: _ => rfl
            rw [pb, hk] at o1
            exact h F8 H8 _ ((sb1.trans sb7).trans sb8) o1
          · cases hk
        | _ => rw [q] at h; exact h.elim
    | emp => simp only [e] at h; exact h.elim
    | ref cl => simp only [e] at h; exact h.elim
    | fn y => simp only [e] at h; exact h.elim

end
/-! a def that tells the very object -/
structure VeryD (P : Program) (w : World) (K : PySem.W.Frag) (mg : Str → Option Value) (base : Heap) (x : Str) (par : Arguments) (ps : List Str) (k : Nat) (den same : Den) (mid : SX) : Prop where
  ex : ∃ (f : Addr) (fd : FuncData) (nm qual : Str) (body : List Stmt) (scope : Scope), FnOk P w K mg base (L2.CX P w) k f fd ps (spV K mg den same mid) ∧ mg x = some (.ref f) ∧ PySem.W.keepIn K (.ref f) = true ∧ FunD K nm qual par body scope (([] : List D).map D.flatV) [] f fd
/-- the suite in its parts -/
structure Parts (X : Cx) (W : WX) (body : List Stmt) (same : Den) (mid : SX) : Prop where
  ex : ∃ (t1 : TT) (ta tm : TS) (t4 : TE), PSs X body (tSeq (tIfS t1 ta tNext) (tSeq tm (tRet t4))) ∧ DT X.K X.mg W t1 (eNot (eTru (callS same))) ∧ DN X.K X.mg tm mid ∧ DE X.K X.mg W t4 (callS same)
theorem parts_one {X : Cx} {W : WX} {same : Den} {c1 c2 e3 app : Expr} {a1 : List Stmt} {fa : SX} {g : EX} {fc : EX} {p1 p2 p3 p4 : Pos} (h1 : PTD X W c1 (eNot (eTru (callS same)))) (ha : PSsD X W a1 fa) (h2 : PTD X W c2 fc) (h3 : PD X W app g) (h4 : PD X W e3 (callS same))
    (hs : swapsWith app none p3.line X.env = pure false := by rfl) : Parts X W [.If c1 a1 [] p1, .If c2 [.Expr app p3] [] p2, .Return (some e3) p4] same (sIf fc (sDrop g) sNx) := by
  obtain ⟨t1, q1, d1⟩ := h1.ex
  obtain ⟨ta, qa, _⟩ := ha.ex
  obtain ⟨t2, q2, d2⟩ := h2.ex
  obtain ⟨t3, q3, d3⟩ := h3.ex
  obtain ⟨t4, q4, d4⟩ := h4.ex
  exact ⟨t1, ta, _, t4, pss_cons (ps_if q1 qa pss_nil) (pss_cons (ps_if q2 (pss_one (ps_expr q3 hs)) pss_nil) (pss_one (ps_ret q4))), d1, dn_if d2 (dn_drop d3) dn_nx, d4⟩
theorem veryD_of {P : Program} {w : World} {K : PySem.W.Frag} {mg : Str → Option Value} {base : Heap} {x qual : Str} {st : Stmt} {f : Addr} {fd : FuncData} {N ps : List Str} {k : Nat} {body : SX} {same : Den} {mid : SX} (F : FunD K x qual (defArgs st) (defBody st) (defScope st) (([] : List D).map D.flatV) [] f fd) (hm : mg x = some (.ref f)) (S : FnScope N ps (defScope st))
    (hN : N.length = 2) (hps : ps.length = 2)
    (h : ∀ (cdv : Value) (A : Around) (outer : List PySem.Env) (s : Shared) (H : Hp) (E : XK), Room k (A.deeper (PyProof.Rows.envOfC qual (defScope st) s.heap.objs.size f cdv)) →
      PSsD (cxOf (L2.CX P w) P w K mg base N qual (defScope st) f cdv A outer s H E) (fun cls d _ H => E cls d H) (defBody st) body ∧
      Parts (cxOf (L2.CX P w) P w K mg base N qual (defScope st) f cdv A outer s H E) (fun cls d _ H => E cls d H) (defBody st) same mid) : VeryD P w K mg base x (defArgs st) ps (k + 1) (denOf N.length body) same mid := by
  refine ⟨f, fd, x, qual, _, _, F.ok S (fun vs H Q E h => ?_) (fun cdv A outer s H vs Q E hr hs => ?_), hm, F.kp, F⟩
  · rcases h with h | ⟨_, _, n, _, _, rfl, _⟩
    · rw [hps]; exact h.1
    · rw [hps]; rfl
  · obtain ⟨h1, h2⟩ := h cdv A outer s H E hr
    rcases hs with hs | ⟨Pr, F', n, d, hp, rfl, sst, g, q⟩
    · obtain ⟨t, hp, hd⟩ := h1.ex
      obtain ⟨hl, Pr, F', as, sst, pn, no, post⟩ := hs
      refine ⟨t, hp, body_ok hd ?_ sst pn no post⟩
      rw [hl, hN]
      exact Nat.le_refl _
    · obtain ⟨t1, ta, tm, t4, qs, d1, dm, d4⟩ := h2.ex
      refine ⟨_, qs, ?_⟩
      have e0 : L2.start N [V.ref n, V.ref n] = [some (.ref n), some (.ref n)] := by
        unfold L2.start
        rw [hN]; rfl
      rw [e0]
      exact grown (EE := { nx := fun _ H' => Q .non H', rt := Q }) d1 dm d4 hp sst g q
theorem pe_conv {X : Cx} {e : Expr} {t u : TE} (p : PE X e t) (h : ∀ σ H Q, u σ H Q → t σ H Q) : PE X e u := ⟨fun pins s σ H Q I q => p.run pins s σ H Q I (h σ H Q q)⟩
section
variable {X : Cx} {W : WX} {fn : Str} {par : Arguments} {ps : List Str} {k : Nat} {den same : Den} {mid : SX} {e1 e2 c ex ey : Expr} {a3 rest : List Stmt} {f g fc fx fy : EX} {fa gr : SX} {x1 y1 : Str} {p1 p2 p3 p4 p5 p6 p7 pA pB : Pos}
theorem pe_very {ta : TA} (vd : VeryD X.prog X.w X.K X.mg X.base fn par ps k den same mid) (hb : Bnd par 0 2 [] ps [.a 0, .a 1]) (hr : Room k X.A) (tk : Takes X W) (pa : PA X [ex, ey] ta) (hg : Gl X fn) (hdb : (fn == ("__debug__" : Str)) = false)
    (he : starEach [ex, ey] X.env = (false, eval ex X.env) :: starEach [ey] X.env) (hall : (backToKw p4 (keywordEach [] X.env)).all (·.1.isSome) = true) (hks : (backToKw p4 (keywordEach [] X.env)).filterMap (·.1) = [])
    (hpl : ((backTo p4 (starEach [ex, ey] X.env)).any (·.1) || (backToKw p4 (keywordEach [] X.env)).any (·.1.isNone)) = false) : PE X (.Call (.Name fn p3) [ex, ey] [] p4) (tVery (spV X.K X.mg den same mid) (WE W) ta) := by
  obtain ⟨f, fd, nm, qual, body, scope, F, hm, hkp, FD⟩ := vd.ex
  obtain ⟨its, kb⟩ := FunD.kbn (dvs := []) FD hb rfl
  refine pe_conv (pe_callG F hr hg hm hkp kb (fun σ => passAt tk σ) pa pk_nil hall hks hdb he hpl) fun σ H Q h => ?_
  unfold tVery at h
  unfold tCallG
  have e : (fun (vs : List V) (H1 : Hp) => vs.length = 2 ∧ spV X.K X.mg den same mid vs H1 Q (WE W σ)) = (fun vs H1 => tNil σ H1 fun zs H2 => vs.length = 2 ∧ zs.length = ([] : List Str).length ∧ spV X.K X.mg den same mid (pickV (vs ++ zs) [.a 0, .a 1]) H2 Q (WE W σ)) := by
    funext vs H1
    apply propext
    show _ ↔ (vs.length = 2 ∧ ([] : List V).length = 0 ∧ spV X.K X.mg den same mid (pickV (vs ++ []) [.a 0, .a 1]) H1 Q (WE W σ))
    constructor
    · rintro ⟨h1, h2⟩
      refine ⟨h1, rfl, ?_⟩
      match vs, h1 with
      | [a, b], _ => exact h2
    · rintro ⟨h1, _, h2⟩
      refine ⟨h1, ?_⟩
      match vs, h1 with
      | [a, b], _ => exact h2
  rw [← e]
  exact h
/-- x = ..; y = ..; if c or not very(ex, ey): .. -/
theorem pssd_very (i j : Nat) (vd : VeryD X.prog X.w X.K X.mg X.base fn par ps k den same mid) (hb : Bnd par 0 2 [] ps [.a 0, .a 1]) (hr : Room k X.A) (tk : Takes X W) (hN : X.N.Nodup) (he1 : PD X W e1 f) (he2 : PD X W e2 g) (hc : PTD X W c fc) (hxx : PD X W ex fx) (hyy : PD X W ey fy) (ha : PSsD X W a3 fa) (hrest : PSsD X W rest gr)
    (hi : X.N[i]? = some x1 := by rfl) (hx : Loc X.env.scope x1 := by first | exact Or.inl rfl | exact Or.inr rfl) (hs : swapsWith e1 (some (.Name x1 p1)) pA.line X.env = pure false := by rfl) (hf : X.fn x1 = true ∨ X.env.scope.names.lookup x1 = some .local := by first | exact Or.inl rfl | exact Or.inr rfl)
    (hj : X.N[j]? = some y1 := by rfl) (hy : Loc X.env.scope y1 := by first | exact Or.inl rfl | exact Or.inr rfl) (hs2 : swapsWith e2 (some (.Name y1 p2)) pB.line X.env = pure false := by rfl) (hf2 : X.fn y1 = true ∨ X.env.scope.names.lookup y1 = some .local := by first | exact Or.inl rfl | exact Or.inr rfl)
    (hg : Gl X fn := by rfl) (hdb : (fn == ("__debug__" : Str)) = false := by decide) (he : starEach [ex, ey] X.env = (false, eval ex X.env) :: starEach [ey] X.env := by rfl) (hall : (backToKw p4 (keywordEach [] X.env)).all (·.1.isSome) = true := by rfl) (hks : (backToKw p4 (keywordEach [] X.env)).filterMap (·.1) = [] := by rfl)
    (hpl : ((backTo p4 (starEach [ex, ey] X.env)).any (·.1) || (backToKw p4 (keywordEach [] X.env)).any (·.1.isNone)) = false := by rfl)
    (hst : starEach [ey] X.env = (false, eval ey X.env) :: starEach [] X.env := by rfl) (htr : ∀ whole, isTrue (.Call (.Name fn p3) [ex, ey] [] p4) X.env whole = (do let v ← whole; standAt (Expr.Call (.Name fn p3) [ex, ey] [] p4).pos; holding [v] (truthy v)) := by intro _; rfl) :
    PSsD X W (.Assign [.Name x1 p1] e1 pA :: .Assign [.Name y1 p2] e2 pB :: .If (.BoolOp .Or [c, .UnaryOp .Not (.Call (.Name fn p3) [ex, ey] [] p4) p5] p6) a3 [] p7 :: rest) (sSeq (region den same mid i j f g fc fx fy) gr) := by
  obtain ⟨t1, q1, d1⟩ := he1.ex
  obtain ⟨t2, q2, d2⟩ := he2.ex
  obtain ⟨tc, qc, dc⟩ := hc.ex
  obtain ⟨tx, qx, dx⟩ := hxx.ex
  obtain ⟨ty, qy, dy⟩ := hyy.ex
  obtain ⟨tr, qr, _⟩ := ha.ex
  obtain ⟨u, qu, du⟩ := hrest.ex
  have pa : PA X [ex, ey] (tCons tx (tCons ty tNil)) := pa_cons qx (pa_cons qy pa_nil hst) he
  have pv := pe_very (p3 := p3) (p4 := p4) vd hb hr tk pa hg hdb he hall hks hpl
  refine ⟨_, pss_cons (ps_set hN hi hx q1 hs hf) (pss_cons (ps_set hN hj hy q2 hs2 hf2) (pss_cons (ps_if ((pw_or qc (pw_or1 (pt_not (pt_truth pv htr)))).pt) qr pss_nil) qu)), ?_⟩
  have big := ds_seq (ds_region (i := i) (j := j) (tr := tr) (EE := WE W) (den := den) (same := same) (mid := mid) d1 d2 dc (dc_v dx (dc_v dy dc_nil))) du
  exact big
end
end Dk

set_option Elab.async false
set_option linter.all false
set_option maxRecDepth 100000
set_option maxHeartbeats 4000000
/-! Dk35: text.count(text), list(text), a def called by a name that holds it -/
namespace Dk
open PySem PySem.Spec L2 PyProof.Rows
def kCount2 (a : Str) : D → Env → R := fun e ρ => match e.un with
  | .str b => .ok (.val (.int (Txt.count a b))) ρ
  | _ => .bad
def kCount1 (g : EX) : D → Env → R := fun d ρ => match d.un with
  | .str a => (g ρ).bindV (kCount2 a)
  | _ => .bad
def eCount (f g : EX) : EX := fun ρ => (f ρ).bindV (kCount1 g)
@[simp] theorem eCount_def {f g : EX} {ρ : Env} : eCount f g ρ = (f ρ).bindV (kCount1 g) := nrfl rfl
@[simp] theorem kCount1_str {g : EX} {ρ : Env} {a : Str} : kCount1 g (.str a) ρ = (g ρ).bindV (kCount2 a) := nrfl rfl
@[simp] theorem kCount2_str {ρ : Env} {a b : Str} : kCount2 a (.str b) ρ = .ok (.val (.int (Txt.count a b))) ρ := nrfl rfl
theorem pd_count {X : Cx} {W : WX} {o e : Expr} {apos pos : Pos} {f g : EX} (ho : PD X W o f) (he : PD X W e g) (hs : starEach [e] X.env = [(false, eval e X.env)] := by rfl) (hbase : attributeBase o "count" X.env (eval o X.env) = eval o X.env := by rfl) (hline : (apos.endLine == pos.line) = true := by rfl) :
    PD X W (.Call (.Attribute o "count" apos) [e] [] pos) (eCount f g) := by
  obtain ⟨to, po, dO⟩ := ho.ex
  obtain ⟨te, pe, de⟩ := he.ex
  refine ⟨_, pe_m1 PySem.F.slot_str_count PySem.F.type_str_count mt_count po pe hs hbase hline, ?_⟩
  intro P F H σ ρ Q st hp
  refine dO.bindV st hp fun F1 H1 d ρ1 v sb st1 r h1 => ?_
  have r' := r.un
  unfold kCount1 at h1
  split at h1
  · rename_i a hd
    rw [hd] at r'
    have ev := rep_str r'
    subst ev
    refine ⟨⟨a, rfl⟩, ?_⟩
    refine de.bindV st1 h1 fun F2 H2 e2 ρ2 u sb2 st2 r2 h2 => ?_
    have r2' := r2.un
    unfold kCount2 at h2
    split at h2
    · rename_i b hd2
      rw [hd2] at r2'
      have ev := rep_str r2'
      subst ev
      exact ⟨a, b, rfl, rfl, h2.here st2 mk_int⟩
    · exact h2.elim
  · exact h1.elim
/-! list(text) -/
def signsD (x : Str) : List D := x.cps.toList.map fun c => .str ⟨#[c]⟩
theorem signs_vals {x : Str} {acc : List Value} (h : acc.length = x.cps.size) (h2 : ∀ (j : Nat) (v : Value), acc[j]? = some v → ∃ c u, x.cps[j]? = some c ∧ v = .str ⟨#[c]⟩ u) : Vals (x.cps.toList.map fun c => V.str ⟨#[c]⟩) acc := by
  have hl : x.cps.toList.length = x.cps.size := by simp
  have g : ∀ (j : Nat) (v : Value), acc[j]? = some v → ∃ c u, x.cps.toList[j]? = some c ∧ v = .str ⟨#[c]⟩ u := fun j v e => by
    obtain ⟨c, u, a, b⟩ := h2 j v e
    exact ⟨c, u, by rw [Array.getElem?_toList]; exact a, b⟩
  rw [← hl] at h
  generalize x.cps.toList = cs at *
  clear h2 hl
  induction cs generalizing acc with
  | nil =>
    have : acc = [] := List.length_eq_zero_iff.mp (by simpa using h)
    subst this
    exact .nil
  | cons c cs ih =>
    match acc, h with
    | v :: acc, h =>
      obtain ⟨c', u, e1, e2⟩ := g 0 v rfl
      simp at e1
      subst e1
      exact .cons ⟨u, e2⟩ (ih (by simpa using h) fun j w e => by
        obtain ⟨c2, u2, a, b⟩ := g (j + 1) w (by simpa using e)
        exact ⟨c2, u2, by simpa using a, b⟩)
theorem signs_rep {K : PySem.W.Frag} {F : Hp} : ∀ cs : List Nat, RepL K F (cs.map fun c => D.str ⟨#[c]⟩) (cs.map fun c => V.str ⟨#[c]⟩)
  | [] => RepL.nil
  | c :: cs => RepL.cons mk_str (signs_rep cs)
section
variable {X : Cx}
theorem call_list_txt (hc : X.calm = true) : CallR X (.type "list") (fun xs H Q => ∃ x : Str, xs = [.str x] ∧ x.cps.size ≤ sizeLine ∧ ∀ p, H p = none → Q (.ref p) (upd H p (.lst (x.cps.toList.map fun c => V.str ⟨#[c]⟩)))) := by
  intro pins s σ H xs us Q I r q
  obtain ⟨x, ex, hz, q⟩ := q
  subst ex
  obtain ⟨u, eu, rx⟩ := vals1 r
  subst eu
  obtain ⟨t, rfl⟩ := rx
  refine PySem.call_list_str (I.ok.hd hc) x t (fun h' tk acc c' hk hS hacc => ?_) hz
  have hv : Vals (x.cps.toList.map fun c => V.str ⟨#[c]⟩) acc.toList := signs_vals (by rw [Array.length_toList]; exact hacc.1) fun j v e => hacc.2 j v (by rw [← Array.getElem?_toList]; exact e)
  refine ⟨.ref s.heap.objs.size, upd H s.heap.objs.size (.lst (x.cps.toList.map fun c => V.str ⟨#[c]⟩)), I.laid (t' := tk) hk (Nat.le_refl _)
    (show ObjOk X.prog X.w _ _ _ (.lst (x.cps.toList.map fun c => V.str ⟨#[c]⟩)) from ⟨by rw [List.length_map, Array.length_toList]; exact hz, acc.toList, c', hv, by rw [Array.toArray_toList]; exact hS⟩), rfl, q _ (I.hok.fresh (Nat.le_refl _))⟩
def listSD : List D → Option Sl
  | [.list ds] => some (.own (.lst ds))
  | [.tuple ds] => some (.own (.lst ds))
  | [.str x] => if x.length ≤ sizeLine then some (.own (.lst (signsD x))) else none
  | _ => none
@[simp] theorem listSD_list {ds : List D} : listSD [.list ds] = some (.own (.lst ds)) := nrfl rfl
@[simp] theorem listSD_tuple {ds : List D} : listSD [.tuple ds] = some (.own (.lst ds)) := nrfl rfl
@[simp] theorem listSD_str {x : Str} : listSD [.str x] = if x.length ≤ sizeLine then some (.own (.lst (signsD x))) else none := nrfl rfl
theorem clistS (hc : X.calm = true) : CallR X (.type "list") (rOfN X.K X.mg listSD) := by
  intro pins s σ H xs us Q I rv h
  obtain ⟨P, F, σ', ρ, ds, o, st, rs, hg, k⟩ := h
  unfold listSD at hg
  split at hg
  · cases hg
    obtain ⟨v, rfl, r⟩ := rs.one
    obtain ⟨a, vs, rfl, s1, l1⟩ := rep_list r
    exact call_list_of pins s σ H _ us Q I rv ⟨a, vs, rfl, .inl (SqL.le st.sub.rd s1), k.newL st l1⟩
  · cases hg
    obtain ⟨v, rfl, r⟩ := rs.one
    obtain ⟨a, vs, rfl, s1, l1⟩ := rep_tup r
    exact call_list_of pins s σ H _ us Q I rv ⟨a, vs, rfl, .inr (SqT.le st.sub.rd s1), k.newL st l1⟩
  · rename_i x
    split at hg
    · rename_i hz
      cases hg
      obtain ⟨v, rfl, r⟩ := rs.one
      have ev := rep_str r
      subst ev
      exact call_list_txt hc pins s σ H _ us Q I rv ⟨x, rfl, hz, k.newL st (signs_rep _)⟩
    · cases hg
  · cases hg
end
/-! a def by a name that holds it -/
section
variable {X : Cx} {CX : CXT} {k n : Nat} {f : Addr} {fd : FuncData} {ps ks : List Str} {sp : Sp} {E : L2.St → XK} {x : Str} {p pos : Pos} {e : Expr} {es : List Expr} {kws : List Keyword} {t tk : TA} {g : List Value → List Value → List Value} {gV : List V → List V → List V}
theorem pe_callGL (i : Nat) (F : FnOk X.prog X.w X.K X.mg X.base CX k f fd ps sp) (hr : Room k X.A) (hN : X.N[i]? = some x) (hv : Vis X.env.scope x) (hk : PySem.W.keepIn X.K (.ref f) = true) (hb : KBn X.K fd ps n ks g gV) (hx : ∀ σ, PassesAt CX X σ (E σ))
    (ha : PA X (e :: es) t) (hkw : PK X kws tk) (hall : (backToKw pos (keywordEach kws X.env)).all (·.1.isSome) = true) (hks : (backToKw pos (keywordEach kws X.env)).filterMap (·.1) = ks)
    (hd : (x == ("__debug__" : Str)) = false) (hcd : (x == ("__classdict__" : Str)) = false) (he : starEach (e :: es) X.env = (false, eval e X.env) :: starEach es X.env)
    (hpl : ((backTo pos (starEach (e :: es) X.env)).any (·.1) || (backToKw pos (keywordEach kws X.env)).any (·.1.isNone)) = false) :
    PE X (.Call (.Name x p) (e :: es) kws pos) (fun σ H Q => σ[i]? = some (some (.ref f)) ∧ tCallG n ks.length sp gV E t tk σ H Q) := by
  refine ⟨fun pins s σ H Q I h => ?_⟩
  obtain ⟨hs, h⟩ := h
  refine wpAny_Call_Name_kw (thn ((pe_var (pos := p) (i := i) hN hv hd hcd).run pins s σ H (fun v H1 => v = .ref f ∧ H1 = H) I ⟨.ref f, hs, rfl, rfl⟩) fun u s0 ⟨v, H0, I0, r0, q0⟩ => ?_)
  obtain ⟨ev, eH⟩ := q0
  subst ev
  rw [eH] at I0
  obtain rfl : u = Value.ref f := r0
  refine PySem.W.callWith_KW (h₀ := X.base) I0.ok.mod.kin hk hall (thn (ha.run pos pins s0 σ H _ I0 h) fun us s1 ⟨vs, H1, I1, r, q⟩ => ?_) hpl he
  refine thn (hkw.run pos pins s1 σ H1 _ I1 q) fun ws s2 ⟨zs, H2, I2, rz, l1, l2, q2⟩ => ⟨I2.kIn, ?_⟩
  rw [hks]
  exact run_fnG F hr hb (hx σ) I2 r rz l1 l2 q2
theorem pe_callGL0 (i : Nat) (F : FnOk X.prog X.w X.K X.mg X.base CX k f fd ps sp) (hr : Room k X.A) (hN : X.N[i]? = some x) (hv : Vis X.env.scope x) (hk : PySem.W.keepIn X.K (.ref f) = true) (hb : KBn X.K fd ps 0 ks g gV) (hx : ∀ σ, PassesAt CX X σ (E σ))
    (hkw : PK X kws tk) (hall : (backToKw pos (keywordEach kws X.env)).all (·.1.isSome) = true) (hks : (backToKw pos (keywordEach kws X.env)).filterMap (·.1) = ks)
    (hd : (x == ("__debug__" : Str)) = false) (hcd : (x == ("__classdict__" : Str)) = false)
    (hpl : ((backTo pos (starEach [] X.env)).any (·.1) || (backToKw pos (keywordEach kws X.env)).any (·.1.isNone)) = false) :
    PE X (.Call (.Name x p) [] kws pos) (fun σ H Q => σ[i]? = some (some (.ref f)) ∧ tCallG 0 ks.length sp gV E tNil tk σ H Q) := by
  refine ⟨fun pins s σ H Q I h => ?_⟩
  obtain ⟨hs, h⟩ := h
  refine wpAny_Call_Name_kw (thn ((pe_var (pos := p) (i := i) hN hv hd hcd).run pins s σ H (fun v H1 => v = .ref f ∧ H1 = H) I ⟨.ref f, hs, rfl, rfl⟩) fun u s0 ⟨v, H0, I0, r0, q0⟩ => ?_)
  obtain ⟨ev, eH⟩ := q0
  subst ev
  rw [eH] at I0
  obtain rfl : u = Value.ref f := r0
  refine PySem.W.callWith_KW0 (h₀ := X.base) I0.ok.mod.kin hk hall ?_ hpl
  refine thn (hkw.run pos pins s0 σ H _ I0 h) fun ws s2 ⟨zs, H2, I2, rz, l1, l2, q2⟩ => ⟨I2.kIn, ?_⟩
  rw [hks]
  exact run_fnG (us := []) (vs := []) F hr hb (hx σ) I2 .nil rz l1 l2 q2
end
/-- the name i holds the def y: then it is called so -/
def eIfFn (i : Nat) (y : Str) (f g : EX) : EX := fun ρ => match ρ[i]? with
  | some (.fn z) => if z = y then f ρ else g ρ
  | _ => .bad
def eNoFn : EX := fun _ => .bad
@[simp] theorem eIfFn_def {i : Nat} {y z : Str} {f g : EX} {ρ : Env} (h : ρ[i]? = some (.fn z)) : eIfFn i y f g ρ = if z = y then f ρ else g ρ := by
  unfold eIfFn
  rw [h]
section
variable {X : Cx} {W : WX} {x y : Str} {p pos : Pos} {e : Expr} {es : List Expr} {kws : List Keyword} {as bs : List Ar} {par : Arguments} {dvs : List D} {ps ks : List Str} {k n : Nat} {den : Den} {srcs : List Src} {gg : EX}
theorem pd_noFn {e : Expr} : PD X W e eNoFn := ⟨fun _ _ _ => False, ⟨fun _ _ _ _ _ _ h => h.elim⟩, fun _ _ _ _ _ _ _ h => h⟩
/-- c(e, .., k = v, ..), c a name that may hold the def y; else as gg says -/
theorem pd_callV (i : Nat) (C : CalD X.prog X.w X.K X.mg X.base y par dvs ps k den) (hb : Bnd par dvs.length as.length ks ps srcs) (hr : Room k X.A) (tk : Takes X W) (ha : PCD X W (e :: es) as) (hk : PKD X W kws bs) (hgg : PD X W (.Call (.Name x p) (e :: es) kws pos) gg) (ho : dfltOk dvs srcs = true := by rfl) (hsf : srcsFlat srcs = true := by rfl) (hl : srcs.length = ps.length := by rfl) (hbl : bs.length = ks.length := by rfl)
    (hN : X.N[i]? = some x := by rfl) (hv : Vis X.env.scope x := by first | exact Or.inl rfl | exact Or.inr (Or.inl rfl) | exact Or.inr (Or.inr rfl))
    (hall : (backToKw pos (keywordEach kws X.env)).all (·.1.isSome) = true := by rfl) (hks : (backToKw pos (keywordEach kws X.env)).filterMap (·.1) = ks := by rfl)
    (hdb : (x == ("__debug__" : Str)) = false := by decide) (hcd : (x == ("__classdict__" : Str)) = false := by decide) (he : starEach (e :: es) X.env = (false, eval e X.env) :: starEach es X.env := by rfl)
    (hpl : ((backTo pos (starEach (e :: es) X.env)).any (·.1) || (backToKw pos (keywordEach kws X.env)).any (·.1.isNone)) = false := by rfl) : PD X W (.Call (.Name x p) (e :: es) kws pos) (eIfFn i y (eCallG den (as ++ bs) srcs) gg) := by
  obtain ⟨f, fd, nm, qual, body, scope, F, hm, hkp, FD⟩ := C.ex
  obtain ⟨its, kb⟩ := FunD.kbn FD hb ho
  obtain ⟨t, pa, da⟩ := ha.ex
  obtain ⟨t2, pk, dk⟩ := hk.ex
  obtain ⟨t3, p3, d3⟩ := hgg.ex
  have p1 := pe_callGL i F hr hN hv hkp kb (fun σ => passAt tk σ) pa pk hall hks hdb hcd he hpl (p := p)
  have d1 := de_callG (K := X.K) (mg := X.mg) (W := W) (den := den) da dk rfl hbl hl (srcsFlat_ok hsf)
  refine ⟨fun σ H Q => (σ[i]? = some (some (.ref f)) ∧ tCallG as.length ks.length (spD X.K X.mg ps.length den) (fun vs zs => pickV (vs ++ zs) srcs) (WE W) t t2 σ H Q) ∨ t3 σ H Q, ⟨fun pins s σ H Q I h => ?_⟩, fun P F0 H σ ρ Q st hp => ?_⟩
  · rcases h with h | h
    · exact p1.run pins s σ H Q I h
    · exact p3.run pins s σ H Q I h
  · unfold eIfFn at hp
    cases z : ρ[i]? with
    | none => simp only [z] at hp; exact hp.elim
    | some s =>
      cases s with
      | fn w =>
        simp only [z] at hp
        split at hp
        · rename_i hw
          subst hw
          obtain ⟨a, e1, e2⟩ := st.sl i _ z
          rw [hm] at e2
          cases e2
          exact .inl ⟨of_getD e1, d1 P F0 H σ ρ Q st hp⟩
        · exact .inr (d3 P F0 H σ ρ Q st hp)
      | _ => simp only [z] at hp; exact hp.elim
theorem pd_callV0 (i : Nat) (C : CalD X.prog X.w X.K X.mg X.base y par dvs ps k den) (hb : Bnd par dvs.length 0 ks ps srcs) (hr : Room k X.A) (tk : Takes X W) (hk : PKD X W kws bs) (hgg : PD X W (.Call (.Name x p) [] kws pos) gg) (ho : dfltOk dvs srcs = true := by rfl) (hsf : srcsFlat srcs = true := by rfl) (hl : srcs.length = ps.length := by rfl) (hbl : bs.length = ks.length := by rfl)
    (hN : X.N[i]? = some x := by rfl) (hv : Vis X.env.scope x := by first | exact Or.inl rfl | exact Or.inr (Or.inl rfl) | exact Or.inr (Or.inr rfl))
    (hall : (backToKw pos (keywordEach kws X.env)).all (·.1.isSome) = true := by rfl) (hks : (backToKw pos (keywordEach kws X.env)).filterMap (·.1) = ks := by rfl)
    (hdb : (x == ("__debug__" : Str)) = false := by decide) (hcd : (x == ("__classdict__" : Str)) = false := by decide)
    (hpl : ((backTo pos (starEach [] X.env)).any (·.1) || (backToKw pos (keywordEach kws X.env)).any (·.1.isNone)) = false := by rfl) : PD X W (.Call (.Name x p) [] kws pos) (eIfFn i y (eCallG den ([] ++ bs) srcs) gg) := by
  obtain ⟨f, fd, nm, qual, body, scope, F, hm, hkp, FD⟩ := C.ex
  obtain ⟨its, kb⟩ := FunD.kbn FD hb ho
  obtain ⟨t2, pk, dk⟩ := hk.ex
  obtain ⟨t3, p3, d3⟩ := hgg.ex
  have p1 := pe_callGL0 i F hr hN hv hkp kb (fun σ => passAt tk σ) pk hall hks hdb hcd hpl (p := p)
  have d1 := de_callG (K := X.K) (mg := X.mg) (W := W) (den := den) dc_nil dk rfl hbl hl (srcsFlat_ok hsf)
  refine ⟨fun σ H Q => (σ[i]? = some (some (.ref f)) ∧ tCallG 0 ks.length (spD X.K X.mg ps.length den) (fun vs zs => pickV (vs ++ zs) srcs) (WE W) tNil t2 σ H Q) ∨ t3 σ H Q, ⟨fun pins s σ H Q I h => ?_⟩, fun P F0 H σ ρ Q st hp => ?_⟩
  · rcases h with h | h
    · exact p1.run pins s σ H Q I h
    · exact p3.run pins s σ H Q I h
  · unfold eIfFn at hp
    cases z : ρ[i]? with
    | none => simp only [z] at hp; exact hp.elim
    | some s =>
      cases s with
      | fn w =>
        simp only [z] at hp
        split at hp
        · rename_i hw
          subst hw
          obtain ⟨a, e1, e2⟩ := st.sl i _ z
          rw [hm] at e2
          cases e2
          exact .inl ⟨of_getD e1, d1 P F0 H σ ρ Q st hp⟩
        · exact .inr (d3 P F0 H σ ρ Q st hp)
      | _ => simp only [z] at hp; exact hp.elim
end
end Dk

set_option Elab.async false
set_option linter.all false
set_option maxRecDepth 100000
set_option maxHeartbeats 4000000
/-! Dk36: a def as a value -/
namespace Dk
open PySem PySem.Spec L2 PyProof.Rows
def eFn (y : Str) : EX := fun ρ => .ok (.fn y) ρ
@[simp] theorem eFn_def {y : Str} {ρ : Env} : eFn y ρ = .ok (.fn y) ρ := nrfl rfl
theorem pd_fnC {X : Cx} {W : WX} {y : Str} {par : Arguments} {dvs : List D} {ps : List Str} {k : Nat} {den : Den} {pos : Pos} (C : CalD X.prog X.w X.K X.mg X.base y par dvs ps k den) (hg : Gl X y := by rfl) (hd : (y == ("__debug__" : Str)) = false := by decide) : PD X W (.Name y pos) (eFn y) := by
  obtain ⟨f, fd, nm, qual, body, scope, F, hm, hkp, FD⟩ := C.ex
  exact pd_fn hm hg hd
end Dk

set_option Elab.async false
set_option linter.all false
set_option maxRecDepth 100000
set_option maxHeartbeats 1000000
/-! Dk37: two generators, ranges, pairs of numbers, loops that return, by simp and plain Lean -/
namespace Dk
open PySem PySem.Spec L2 PyProof.Rows
/-! comprehensions with two generators -/
theorem lcI_cons {h : Tg} {tt elt : EX} {vs : List Nat} {ρ : Env} {acc : List D} {d : D} {ds : List D} : lcI h tt elt vs (d :: ds) ρ acc = match lcStep h tt elt vs d ρ with
    | some (some y, ρ') => lcI h tt elt vs ds ρ' (acc ++ [y])
    | some (none, ρ') => lcI h tt elt vs ds ρ' acc
    | none => none := by
  simp only [lcI, lcStep, lcTg]
  cases h.h d ρ with
  | none => rfl
  | some ρ1 =>
    simp only [lcTest]
    cases tt ρ1 with
    | ok o ρ2 =>
      cases o with
      | val x =>
        cases x with
        | bool b =>
          cases b with
          | false => rfl
          | true =>
            simp only [if_true, lcOut]
            cases elt ρ2 with
            | ok o ρ3 => simp only; cases o.frz <;> rfl
            | _ => rfl
        | _ => dsimp only
      | _ => rfl
    | _ => rfl
theorem lcI_map {α : Type} {h : Tg} {tt elt : EX} {vs : List Nat} {ρ : Env} (f g : α → D) (p : α → Bool) : ∀ (xs : List α) (acc : List D), (∀ a ∈ xs, lcStep h tt elt vs (f a) ρ = some (if p a = true then some (g a) else none, ρ)) →
    lcI h tt elt vs (xs.map f) ρ acc = some (acc ++ (xs.filter p).map g, ρ)
  | [], acc, _ => by simp [lcI]
  | a :: xs, acc, hs => by
    have e := hs a List.mem_cons_self
    have ih := fun acc => lcI_map (h := h) (tt := tt) (elt := elt) (vs := vs) (ρ := ρ) f g p xs acc fun x hx => hs x (List.mem_cons_of_mem _ hx)
    rw [List.map_cons, lcI_cons, e]
    cases hp : p a with
    | true => simp only [if_true, ih]; simp [hp]
    | false => simp only [Bool.false_eq_true, if_false, ih]; simp [hp]
theorem lcD2_all {α β : Type} {h h1 : Tg} {fi1 elt : EX} {vs vs1 : List Nat} {ρ : Env} (f : α → D) (ys : α → List β) (fe : α → β → D) (g : α → β → D) : ∀ (xs : List α) (acc : List D), acc.length + (xs.flatMap ys).length ≤ sizeLine →
    (∀ a ∈ xs, ∃ ρ1, h.h (f a) ρ = some ρ1 ∧ fi1 ρ1 = .ok (.val (.list ((ys a).map (fe a)))) ρ1 ∧ clearB vs1 ρ1 = true ∧ wipeE vs (wipeE vs1 ρ1) = ρ ∧ ∀ b ∈ ys a, lcStep h1 eYes elt vs1 (fe a b) (wipeE vs1 ρ1) = some (some (g a b), wipeE vs1 ρ1)) →
    lcD2 h eYes fi1 h1 eYes elt vs vs1 (xs.map f) ρ acc = .ok (.own (.lst (acc ++ xs.flatMap fun a => (ys a).map (g a)))) ρ
  | [], acc, _, _ => by simp [lcD2]
  | a :: xs, acc, hz, hs => by
    obtain ⟨ρ1, e1, e2, e3, e4, e5⟩ := hs a List.mem_cons_self
    have e6 := lcI_map (tt := eYes) (fe a) (g a) (fun _ => true) (ys a) acc (fun b hb => by rw [e5 b hb]; simp)
    rw [List.filter_eq_self.mpr (fun _ _ => rfl)] at e6
    simp only [List.flatMap_cons, List.length_append] at hz
    have ih := lcD2_all (h := h) (h1 := h1) (fi1 := fi1) (elt := elt) (vs := vs) (vs1 := vs1) (ρ := ρ) f ys fe g xs (acc ++ (ys a).map (g a)) (by rw [List.length_append, List.length_map]; omega) (fun x hx => hs x (List.mem_cons_of_mem _ hx))
    simp only [List.map_cons, lcD2, e1, eYes_def, if_true, e2]
    rw [if_pos ⟨e3, by rw [List.length_map]; omega⟩, e6]
    simp only [e4, ih]
    simp
theorem eLc2_all {α β : Type} {fi fi1 : EX} {h h1 : Tg} {elt : EX} {vs vs1 : List Nat} {ρ : Env} (xs : List α) (f : α → D) (ys : α → List β) (fe : α → β → D) (g : α → β → D) (hfi : fi ρ = .ok (.val (.list (xs.map f))) ρ) (hc : clearB vs ρ = true) (hz : (xs.flatMap ys).length ≤ sizeLine)
    (hs : ∀ a ∈ xs, ∃ ρ1, h.h (f a) (wipeE vs ρ) = some ρ1 ∧ fi1 ρ1 = .ok (.val (.list ((ys a).map (fe a)))) ρ1 ∧ clearB vs1 ρ1 = true ∧ wipeE vs (wipeE vs1 ρ1) = wipeE vs ρ ∧ ∀ b ∈ ys a, lcStep h1 eYes elt vs1 (fe a b) (wipeE vs1 ρ1) = some (some (g a b), wipeE vs1 ρ1)) :
    eLc2 fi h eYes fi1 h1 eYes elt vs vs1 ρ = .ok (.own (.lst (xs.flatMap fun a => (ys a).map (g a)))) ρ := by
  have := lcD2_all f ys fe g xs [] (by simpa using hz) hs
  unfold eLc2
  simp only [hfi, hc, if_true, this]
  simp [R.unw, unwipe_wipe]
theorem all_rep (n : Nat) : boolsOf (List.replicate n (D.bool true)) = some (List.replicate n true) := by
  induction n with
  | zero => rfl
  | succ n ih => rw [List.replicate_succ]; simp [boolsOf, ih, List.replicate_succ]
theorem all_true {α : Type} (l : List α) : allD [.list (l.map fun _ => D.bool true)] = some (.val (.bool true)) := by
  rw [List.map_const', allD_list, all_rep]
  simp
theorem allD_bools {α : Type} (p : α → Bool) (l : List α) : allD [.list (l.map fun a => D.bool (p a))] = some (.val (.bool (l.all p))) := by
  rw [allD_list, boolsOf_map]
  simp [List.all_map]
/-! loops that may return -/
theorem forD_some {α β : Type} {h : Tg} {body : SX} (I : Env → Prop) (g : α → Option β) (f : α → D) (r : β → D) : ∀ xs : List α, (∀ a ∈ xs, ∀ ρ, I ρ → ∃ ρ1, h.h (f a) ρ = some ρ1 ∧ (match g a with
    | some d => ∃ ρ2, body ρ1 = .ret (.val (r d)) ρ2 ∧ I ρ2
    | none => ∃ ρ2, body ρ1 = .nx ρ2 ∧ I ρ2)) → ∀ ρ, I ρ → (match xs.findSome? g with
    | some d => ∃ ρ2, forD h body (xs.map f) ρ = .ret (.val (r d)) ρ2 ∧ I ρ2
    | none => ∃ ρ2, forD h body (xs.map f) ρ = .nx ρ2 ∧ I ρ2)
  | [], _, ρ, hi => ⟨ρ, rfl, hi⟩
  | a :: xs, hs, ρ, hi => by
    obtain ⟨ρ1, e1, e2⟩ := hs a List.mem_cons_self ρ hi
    rw [List.findSome?_cons]
    cases e : g a with
    | some d =>
      rw [e] at e2
      obtain ⟨ρ2, e3, h2⟩ := e2
      refine ⟨ρ2, ?_, h2⟩
      simp only [List.map_cons, forD, e1, e3]
    | none =>
      rw [e] at e2
      obtain ⟨ρ2, e3, h2⟩ := e2
      have ih := forD_some I g f r xs (fun x hx => hs x (List.mem_cons_of_mem _ hx)) ρ2 h2
      have e4 : forD h body ((a :: xs).map f) ρ = forD h body (xs.map f) ρ2 := by simp only [List.map_cons, forD, e1, e3]
      rw [e4]
      exact ih
theorem range_find {β : Type} (f : Nat → Option β) : ∀ n : Nat, (match (List.range n).findSome? f with
    | some b => ∃ k, k < n ∧ f k = some b ∧ ∀ j, j < k → f j = none
    | none => ∀ k, k < n → f k = none)
  | 0 => fun k h => absurd h (Nat.not_lt_zero k)
  | n + 1 => by
    have ih := range_find f n
    rw [List.range_succ, List.findSome?_append]
    cases e : (List.range n).findSome? f with
    | some b =>
      rw [e] at ih
      obtain ⟨k, h1, h2, h3⟩ := ih
      exact ⟨k, by omega, h2, h3⟩
    | none =>
      rw [e] at ih
      simp only [Option.none_or, List.findSome?_cons, List.findSome?_nil]
      cases e2 : f n with
      | some b => exact ⟨n, by omega, e2, ih⟩
      | none =>
        intro k hk
        rcases Nat.lt_or_ge k n with h | h
        · exact ih k h
        · rw [show k = n by omega]; exact e2
/-! pairs of numbers -/
def prD (p : Nat × Nat) : D := .tuple [.int p.1, .int p.2]
def ltP (p q : Nat × Nat) : Bool := decide (p.1 < q.1) || (decide (p.1 = q.1) && decide (p.2 < q.2))
theorem lt_prD (p q : Nat × Nat) : PySem.W.dataLt (prD p).toP (prD q).toP = ltP p q := by
  have e : ∀ z : Nat × Nat, PySem.W.keyToks (prD z).toP = [.inl 1, .inl (z.1 : Int), .inl 1, .inl (z.2 : Int), .inl 0] := fun z => rfl
  show PyProof.Rows.lexLt PyProof.Rows.itemOrd (PySem.W.keyToks (prD p).toP) (PySem.W.keyToks (prD q).toP) = _
  rw [e, e]
  unfold ltP
  by_cases h1 : p.1 < q.1
  · have h2 : (p.1 : Int) < q.1 := by omega
    simp [PyProof.Rows.lexLt, PyProof.Rows.itemLt, h1, h2]
  · by_cases h3 : q.1 < p.1
    · have h4 : (q.1 : Int) < p.1 := by omega
      have h5 : ¬ (p.1 : Int) < q.1 := by omega
      have h6 : p.1 ≠ q.1 := by omega
      simp [PyProof.Rows.lexLt, PyProof.Rows.itemLt, h1, h3, h6]
    · have h6 : p.1 = q.1 := by omega
      by_cases h7 : p.2 < q.2
      · simp [PyProof.Rows.lexLt, PyProof.Rows.itemLt, h6, h7]
      · simp [PyProof.Rows.lexLt, PyProof.Rows.itemLt, h6, h7]
def minP : Nat × Nat → List (Nat × Nat) → Nat × Nat
  | x, [] => x
  | x, y :: ys => minP (if ltP y x then y else x) ys
theorem minF_prD : ∀ (xs : List (Nat × Nat)) (x : Nat × Nat), minF (prD x) (xs.map prD) = prD (minP x xs)
  | [], x => rfl
  | y :: ys, x => by
    show minF (if PySem.W.dataLt (prD y).toP (prD x).toP then prD y else prD x) (ys.map prD) = _
    rw [lt_prD]
    have : (if ltP y x = true then prD y else prD x) = prD (if ltP y x = true then y else x) := by split <;> rfl
    rw [this, minF_prD ys]
    rfl
theorem minP_mem : ∀ (xs : List (Nat × Nat)) (x : Nat × Nat), minP x xs ∈ x :: xs
  | [], x => List.mem_cons_self
  | y :: ys, x => by
    have h := minP_mem ys (if ltP y x then y else x)
    show minP (if ltP y x then y else x) ys ∈ _
    rcases List.mem_cons.mp h with h | h
    · rw [h]; split <;> simp
    · exact List.mem_cons_of_mem _ (List.mem_cons_of_mem _ h)
def leP (p q : Nat × Nat) : Prop := p.1 < q.1 ∨ (p.1 = q.1 ∧ p.2 ≤ q.2)
theorem leP_trans {p q r : Nat × Nat} (a : leP p q) (b : leP q r) : leP p r := by
  unfold leP at *; omega
theorem leP_lt {p q : Nat × Nat} : ltP p q = true → leP p q := by
  unfold ltP leP; simp; omega
theorem leP_not {p q : Nat × Nat} : ¬ ltP p q = true → leP q p := by
  unfold ltP leP; simp; omega
theorem minP_le : ∀ (xs : List (Nat × Nat)) (x : Nat × Nat), ∀ z ∈ x :: xs, leP (minP x xs) z
  | [], x, z, h => by
    simp at h; subst h
    exact .inr ⟨rfl, Nat.le_refl _⟩
  | y :: ys, x, z, h => by
    have ih := minP_le ys (if ltP y x then y else x)
    show leP (minP (if ltP y x then y else x) ys) z
    have h0 := ih _ List.mem_cons_self
    rcases List.mem_cons.mp h with rfl | h
    · by_cases c : ltP y z = true
      · rw [if_pos c] at h0 ⊢; exact leP_trans h0 (leP_lt c)
      · rw [if_neg c] at h0 ⊢; exact h0
    · rcases List.mem_cons.mp h with rfl | h
      · by_cases c : ltP z x = true
        · rw [if_pos c] at h0 ⊢; exact h0
        · rw [if_neg c] at h0 ⊢; exact leP_trans h0 (leP_not c)
      · exact ih z (List.mem_cons_of_mem _ h)
theorem best_prD (l : List (Nat × Nat)) : bestOk (l.map prD) := by
  refine ⟨fun d hd => ?_, fun d hd e he => ?_, fun d hd => ?_, fun d hd e he h => ?_⟩
  · obtain ⟨p, _, rfl⟩ := List.mem_map.mp hd
    exact shp rfl (show 1 ≤ 64 by decide)
  · obtain ⟨p, _, rfl⟩ := List.mem_map.mp hd
    obtain ⟨q, _, rfl⟩ := List.mem_map.mp he
    rfl
  · obtain ⟨p, _, rfl⟩ := List.mem_map.mp hd
    intro z; cases z
  · obtain ⟨p, _, rfl⟩ := List.mem_map.mp hd
    obtain ⟨q, _, rfl⟩ := List.mem_map.mp he
    have h' : PyData.tuple [.int p.1, .int p.2] = .tuple [.int q.1, .int q.2] := h
    injection h' with h'
    injection h' with h1 h2
    injection h2 with h2 _
    injection h1 with h1
    injection h2 with h2
    unfold prD
    rw [h1, h2]
theorem minLD_prD (x : Nat × Nat) (xs : List (Nat × Nat)) : minLD [.list ((x :: xs).map prD)] = some (.val (prD (minP x xs))) := by
  rw [List.map_cons]
  unfold minLD
  dsimp only
  rw [if_pos (show bestOk (prD x :: xs.map prD) from best_prD (x :: xs)), minF_prD]
end Dk

set_option Elab.async false
set_option linter.all false
set_option maxRecDepth 100000
set_option maxHeartbeats 1000000
/-! Dk38: the comparison of the sixties' laws -/
namespace Dk
open PySem PySem.Spec L2 PyProof.Rows
noncomputable def sameDct (rc : Den) : EX := (eOp eqD (eLc (iAny (eVar 1)) (gN 3) (eOr (eOp notInD (eVar 3) (eVar 0)) (eNot (eTru (eCallG rc [(.v (eOp ixD (eVar 0) (eVar 3))), (.v (eOp ixD (eVar 1) (eVar 3)))] [.a 0, .a 1])))) (eVar 3) [3]) (eLst []))
noncomputable def same6B (rc : Den) : SX :=
  (sSeq (sIf (eOp isD (eVar 1) (eC .none)) (sRet (eOp isD (eVar 0) (eC .none))) sNx)
  (sSeq (sIf (eTru (eIsi [.bool] (eVar 1))) (sRet (eAnd (eIsi [.bool] (eVar 0)) (eOp eqD (eOp isD (eVar 0) (eC (.bool true))) (eOp isD (eVar 1) (eC (.bool true)))))) sNx)
  (sSeq (sIf (eTru (eIsi [.int] (eVar 1))) (sRet (eAnd (eIsi [.int] (eVar 0)) (eAnd (eNot (eIsi [.bool] (eVar 0))) (eOp eqD (eOp subD (eCB intD [(eVar 0)]) (eVar 1)) (eC (.int 0)))))) sNx)
  (sSeq (sIf (eTru (eIsi [.str] (eVar 1))) (sRet (eAnd (eIsi [.str] (eVar 0)) (eAnd (eOp eqD (eCB lenD [(eVar 0)]) (eCB lenD [(eVar 1)])) sameStr))) sNx)
  (sSeq (sIf (eTru (eIsi [.dict] (eVar 1))) (sRet (eAnd (eIsi [.dict] (eVar 0)) (eAnd (eOp eqD (eCB lenD [(eVar 0)]) (eCB lenD [(eVar 1)])) (sameDct rc)))) sNx)
  (sSeq (sIf (eOr (eNot (eTru (eIsi [.list, .tuple] (eVar 1)))) (eNot (eTru (eIsi [.list, .tuple] (eVar 0))))) (sRet (eC (.bool false))) sNx)
  (sSeq (sIf (eOr (eOp neD (eIsi [.list] (eVar 0)) (eIsi [.list] (eVar 1))) (eOp neD (eCB lenD [(eVar 0)]) (eCB lenD [(eVar 1)]))) (sRet (eC (.bool false))) sNx)
  (sRet (sameEnd rc)))))))))
noncomputable def same6 : Nat → Den
  | 0 => fun _ => .bad
  | n + 1 => denOf 4 (same6B (same6 n))
theorem same_list6 {rc : Den} {t d : D} {es ds : List D} (h1 : t.un = .list es ∨ t.un = .tuple es) (h2 : d.un = .list ds ∨ d.un = .tuple ds) (hl : es.length = ds.length) (hz : ds.length ≤ 1000000)
    (hr : ∀ (i : Nat) (x y : D), es[i]? = some x → ds[i]? = some y → rc [.val x, .val y] = .ret (.val (.bool true)) [.val x, .val y]) :
    sameEnd rc [.val t, .val d, .emp, .emp] = .ok (.val (.bool true)) [.val t, .val d, .emp, .emp] := by
  have hlen : lenD [d.un] = some (.val (.int ds.length)) := by rcases h2 with h | h <;> rw [h] <;> rfl
  have hx : ∀ i : Nat, ixD t.un (.int i) = (es[i]?).map .val := fun i => by rcases h1 with h | h <;> rw [h] <;> simp
  have hy : ∀ i : Nat, ixD d.un (.int i) = (ds[i]?).map .val := fun i => by rcases h2 with h | h <;> rw [h] <;> simp
  have hrng := smN (Nat.le_trans hz (of_decide_eq_true rfl : 1000000 ≤ 1000000000))
  have e1 := eLc_map (fi := iRng1D (eCB lenD [(eVar 1)])) (h := gN 2) (tt := eNot (eTru (eCallG rc [(.v (eOp ixD (eVar 0) (eVar 2))), (.v (eOp ixD (eVar 1) (eVar 2)))] [.a 0, .a 1]))) (elt := eVar 2) (vs := [2]) (ρ := [.val t, .val d, .emp, .emp]) (List.range ds.length) (fun i : Nat => .int i) (fun i : Nat => .int i) (fun _ => false)
    (by simp [hlen, hrng, rngL_0]) (by rw [List.length_range]; exact le_line hz) (by simp [clearB])
    (fun i hi => by
      rw [List.mem_range] at hi
      have hi2 : i < es.length := by omega
      have q := hr i es[i] ds[i] (List.getElem?_eq_getElem hi2) (List.getElem?_eq_getElem hi)
      simp [wipeE, hx, hy, hi, hi2, q])
  rw [rng_none] at e1
  simp [sameEnd, e1]
theorem same_str6 {t d : D} {s : Str} (h1 : t.un = .str s) (h2 : d.un = .str s) (hz : s.length ≤ 1000000) (hc : (PyData.str s).canLay0 = true) : sameStr [.val t, .val d, .emp, .emp] = .ok (.val (.bool true)) [.val t, .val d, .emp, .emp] := by
  have hL : s.length ≤ sizeLine := le_line hz
  have hrng := smN (Nat.le_trans hz (of_decide_eq_true rfl : 1000000 ≤ 1000000000))
  have hlen : lenD [d.un] = some (.val (.int s.length)) := by rw [h2]; simp [hL]
  have e1 := eLc_map (fi := iRng1D (eCB lenD [(eVar 1)])) (h := gN 2) (tt := (eOp neD (eSl (eVar 0) (.at (eVar 2)) (.at (eOp addD (eVar 2) (eC (.int 1))))) (eOp ixD (eVar 1) (eVar 2)))) (elt := eVar 2) (vs := [2]) (ρ := [.val t, .val d, .emp, .emp]) (List.range s.length) (fun i : Nat => .int i) (fun i : Nat => .int i) (fun _ => false)
    (by simp [hlen, hrng, rngL_0]) (by rw [List.length_range]; exact hL) (by simp [clearB])
    (fun i hi => by
      rw [List.mem_range] at hi
      have hi' : i < s.cps.size := hi
      have q1 : slD (.str s) (some (i : Int)) (some ((i : Int) + 1)) = some (.val (.str ⟨#[s.cps[i]]⟩)) := by
        show (if s.length ≤ sizeLine then some (Sl.val (.str (cutS s (some (i : Int)) (some ((i : Int) + 1))))) else none) = _
        rw [if_pos hL, cut_one hi']
      have q2 : ixD (.str s) (.int i) = some (.val (.str ⟨#[s.cps[i]]⟩)) := by
        show (if s.length ≤ sizeLine then (atI s.cps.toList (i : Int)).map (fun c => Sl.val (.str ⟨#[c]⟩)) else none) = _
        rw [if_pos hL, atI_nat]
        simp [hi']
      have q3 : neD (.str ⟨#[s.cps[i]]⟩) (.str ⟨#[s.cps[i]]⟩) = some (.val (.bool false)) := by
        have sh : SeqAt.shaped (D.str ⟨#[s.cps[i]]⟩).toP = true := shp (by
          show PyData.strOk ⟨#[s.cps[i]]⟩ = true
          have hc' : PyData.strOk s = true := hc
          unfold PyData.strOk at hc' ⊢
          rw [Array.all_eq_true'] at hc' ⊢
          intro c hm
          have : c = s.cps[i] := by simpa using hm
          subst this
          exact hc' _ (Array.getElem_mem hi')) (Nat.zero_le _)
        unfold neD
        rw [if_pos ⟨sh, sh⟩, eqv_str]
        simp
      simp [wipeE, h1, h2, q1, q2, q3])
  rw [rng_none] at e1
  simp [sameStr, e1]
theorem stripK_len : ∀ es : List (D × D), (D.stripK es).length = es.length
  | [] => rfl
  | (k, d) :: r => by simp [D.stripK, stripK_len r]
theorem lookK_nil (kk : Key) : lookK [] kk = none := rfl
theorem lookK_cons (k d : D) (r : List (D × D)) (kk : Key) : lookK ((k, d) :: r) kk = if toKey k = some kk then some d else lookK r kk := by
  unfold lookK
  rw [List.find?_cons]
  by_cases h : toKey k = some kk <;> simp [h]
theorem lookK_strip : ∀ (es : List (D × D)) (kk : Key), (lookK es kk).map D.strip = lookK (D.stripK es) kk
  | [], _ => rfl
  | (k, d) :: r, kk => by
    simp only [D.stripK, lookK_cons]
    split
    · rfl
    · exact lookK_strip r kk
theorem lookK_mem : ∀ {es : List (D × D)} {kk : Key} {d : D}, lookK es kk = some d → ∃ q ∈ es, q.2 = d
  | (k, x) :: r, kk, d, h => by
    rw [lookK_cons] at h
    split at h
    · cases h; exact ⟨_, List.mem_cons_self, rfl⟩
    · obtain ⟨q, hq, e⟩ := lookK_mem h
      exact ⟨q, List.mem_cons_of_mem _ hq, e⟩
theorem lookK_has : ∀ {es : List (D × D)} {kk : Key}, (∃ p ∈ es, toKey p.1 = some kk) → ∃ d, lookK es kk = some d
  | (k, x) :: r, kk, h => by
    rw [lookK_cons]
    split
    · exact ⟨_, rfl⟩
    · rename_i c
      obtain ⟨p, hp, e⟩ := h
      rcases List.mem_cons.mp hp with rfl | hp
      · exact absurd e c
      · exact lookK_has ⟨p, hp, e⟩
theorem fit_mono : ∀ (n : Nat) (d : D), Fit n d → Fit (n + 1) d
  | 0, _, h => h.elim
  | n + 1, d, h => by
    cases d with
    | list ds => exact ⟨h.1, fun x hx => fit_mono n x (h.2 x hx)⟩
    | tuple ds => exact ⟨h.1, fun x hx => fit_mono n x (h.2 x hx)⟩
    | dict kvs => exact ⟨h.1, fit_mono n _ h.2⟩
    | str s => exact h
    | dictT z => exact h.elim
    | tag a d => exact h.elim
    | none => trivial
    | bool b => trivial
    | int i => trivial
theorem fit_dict {n : Nat} {kvs : List (D × D)} (h : Fit (n + 1) (.dict kvs)) : (∀ p ∈ kvs, ∃ k, p.1 = keyD k) ∧ kvs.length ≤ 1000000 ∧ ∀ p ∈ kvs, Fit n p.2 := by
  obtain ⟨h1, h2⟩ := h
  cases n with
  | zero => exact h2.elim
  | succ n =>
    obtain ⟨h3, h4⟩ := h2
    refine ⟨h1, by simpa [itemsD] using h3, fun p hp => ?_⟩
    have h5 := h4 (.tuple [p.1, p.2]) (List.mem_map.mpr ⟨p, hp, rfl⟩)
    cases n with
    | zero => exact h5.elim
    | succ n => exact fit_mono _ _ (fit_mono _ _ (h5.2 p.2 (by simp)))
theorem same_dict6 {rc : Den} {t d : D} {es ds : List (D × D)} (h1 : t.un = .dict es) (h2 : d.un = .dict ds) (hk : D.stripK es = D.stripK ds) (hz : ds.length ≤ 1000000) (hd : ∀ p ∈ ds, ∃ k, p.1 = keyD k)
    (hr : ∀ (kk : Key) (x y : D), lookK es kk = some x → lookK ds kk = some y → rc [.val x, .val y] = .ret (.val (.bool true)) [.val x, .val y]) :
    sameDct rc [.val t, .val d, .emp, .emp] = .ok (.val (.bool true)) [.val t, .val d, .emp, .emp] := by
  have hi : kAny d [.val t, .val d, .emp, .emp] = .ok (.val (.list (ds.map (·.1)))) [.val t, .val d, .emp, .emp] := by
    unfold kAny
    rw [h2]; rfl
  have e1 := eLc_map (fi := iAny (eVar 1)) (h := gN 3) (tt := (eOr (eOp notInD (eVar 3) (eVar 0)) (eNot (eTru (eCallG rc [(.v (eOp ixD (eVar 0) (eVar 3))), (.v (eOp ixD (eVar 1) (eVar 3)))] [.a 0, .a 1]))))) (elt := eVar 3) (vs := [3]) (ρ := [.val t, .val d, .emp, .emp]) ds (·.1) (·.1) (fun _ => false)
    (by simp [hi]) (le_line hz) (by simp [clearB])
    (fun p hp => by
      obtain ⟨kk, ek⟩ := hd p hp
      have tk : toKey p.1 = some kk := by rw [ek]; exact toKey_keyD kk
      obtain ⟨y, hy⟩ := lookK_has (es := ds) (kk := kk) ⟨p, hp, tk⟩
      obtain ⟨x, hx⟩ : ∃ x, lookK es kk = some x := by
        have e3 := lookK_strip es kk
        rw [hk, ← lookK_strip, hy] at e3
        cases e : lookK es kk with
        | none => rw [e] at e3; cases e3
        | some x => exact ⟨x, rfl⟩
      have q1 : notInD p.1 t.un = some (.val (.bool false)) := by rw [h1]; unfold notInD inB; simp [tk, hx]
      have q2 : ixD t.un p.1 = some (.val x) := by rw [h1]; show (toKey p.1).bind (fun kk => (lookK es kk).map Sl.val) = _; rw [tk]; simp [hx]
      have q3 : ixD d.un p.1 = some (.val y) := by rw [h2]; show (toKey p.1).bind (fun kk => (lookK ds kk).map Sl.val) = _; rw [tk]; simp [hy]
      have pu : p.1.un = p.1 := by rw [ek]; cases kk <;> rfl
      have q := hr kk x y hx hy
      simp [wipeE, pu, q1, q2, q3, q])
  rw [show (ds.filter fun _ => false).map (·.1) = [] by rw [List.filter_eq_nil_iff.mpr (fun _ _ => by simp)]; rfl] at e1
  simp [sameDct, e1]
theorem same6_ok : ∀ (n : Nat) (c t d : D), Fit n c → t.strip = c → d.strip = c → same6 n [.val t, .val d] = .ret (.val (.bool true)) [.val t, .val d]
  | 0, _, _, _, f, _, _ => f.elim
  | n + 1, .none, t, d, f, ht, hd => by
    have h1 := strip_none ht
    have h2 := strip_none hd
    simp [same6, same6B, h1, h2, isNoneB]
  | n + 1, .bool b, t, d, f, ht, hd => by
    have h1 := strip_bool ht
    have h2 := strip_bool hd
    simp [same6, same6B, h1, h2, isNoneB, isT]
  | n + 1, .int b, t, d, f, ht, hd => by
    have h1 := strip_int ht
    have h2 := strip_int hd
    simp [same6, same6B, h1, h2, isNoneB, isT]
  | n + 1, .list xs, t, d, f, ht, hd => by
    obtain ⟨es, h1, e1⟩ := strip_list ht
    obtain ⟨ds, h2, e2⟩ := strip_list hd
    obtain ⟨hz, hf⟩ : xs.length ≤ 1000000 ∧ ∀ x ∈ xs, Fit n x := f
    have l1 : es.length = xs.length := by rw [← e1]; simp
    have l2 : ds.length = xs.length := by rw [← e2]; simp
    have key := same_list6 (rc := same6 n) (t := t) (d := d) (.inl h1) (.inl h2) (l1.trans l2.symm) (by omega) fun i x y hx hy => by
      have e3 : xs[i]? = some x.strip := by rw [← e1, List.getElem?_map, hx]; rfl
      have e4 : xs[i]? = some y.strip := by rw [← e2, List.getElem?_map, hy]; rfl
      have e5 : y.strip = x.strip := by rw [e3] at e4; exact (Option.some.inj e4).symm
      exact same6_ok n x.strip x y (hf _ (List.mem_of_getElem? e3)) rfl e5
    have hl : (es.length : Int) = ds.length := by omega
    simp [same6, same6B, h1, h2, isNoneB, isT, hl, key]
  | n + 1, .tuple xs, t, d, f, ht, hd => by
    obtain ⟨es, h1, e1⟩ := strip_tuple ht
    obtain ⟨ds, h2, e2⟩ := strip_tuple hd
    obtain ⟨hz, hf⟩ : xs.length ≤ 1000000 ∧ ∀ x ∈ xs, Fit n x := f
    have l1 : es.length = xs.length := by rw [← e1]; simp
    have l2 : ds.length = xs.length := by rw [← e2]; simp
    have key := same_list6 (rc := same6 n) (t := t) (d := d) (.inr h1) (.inr h2) (l1.trans l2.symm) (by omega) fun i x y hx hy => by
      have e3 : xs[i]? = some x.strip := by rw [← e1, List.getElem?_map, hx]; rfl
      have e4 : xs[i]? = some y.strip := by rw [← e2, List.getElem?_map, hy]; rfl
      have e5 : y.strip = x.strip := by rw [e3] at e4; exact (Option.some.inj e4).symm
      exact same6_ok n x.strip x y (hf _ (List.mem_of_getElem? e3)) rfl e5
    have hl : (es.length : Int) = ds.length := by omega
    simp [same6, same6B, h1, h2, isNoneB, isT, hl, key]
  | n + 1, .dict xs, t, d, f, ht, hd => by
    obtain ⟨es, h1, e1⟩ := strip_dict ht
    obtain ⟨ds, h2, e2⟩ := strip_dict hd
    obtain ⟨hk, hz, hf⟩ := fit_dict f
    have l1 : es.length = xs.length := by rw [← e1, stripK_len]
    have l2 : ds.length = xs.length := by rw [← e2, stripK_len]
    have hl : (es.length : Int) = ds.length := by omega
    have key := same_dict6 (rc := same6 n) h1 h2 (by rw [e1, e2]) (by omega) (fun p hp => stripK_keys e2 hk p hp) fun kk x y hx hy => by
      have e3 := lookK_strip es kk
      have e4 := lookK_strip ds kk
      rw [hx, e1] at e3
      rw [hy, e2, ← e3] at e4
      have e5 : y.strip = x.strip := Option.some.inj e4
      obtain ⟨q, hq, hq2⟩ := lookK_mem e3.symm
      exact same6_ok n x.strip x y (by rw [← hq2]; exact hf q hq) rfl e5
    simp [same6, same6B, h1, h2, isNoneB, isT, hl, key]
  | n + 1, .str s, t, d, f, ht, hd => by
    have h1 := strip_str ht
    have h2 := strip_str hd
    obtain ⟨hz, hc⟩ : s.length ≤ 1000000 ∧ (PyData.str s).canLay0 = true := f
    have key := same_str6 h1 h2 hz hc
    have hL : s.length ≤ sizeLine := le_line hz
    simp [same6, same6B, h1, h2, isNoneB, isT, hL, key]
  | n + 1, .dictT _, _, _, f, _, _ => f.elim
  | n + 1, .tag _ _, _, _, f, _, _ => f.elim
end Dk

set_option Elab.async false
set_option linter.all false
set_option maxRecDepth 100000
set_option maxHeartbeats 1000000
/-! Dk39: loops, comprehensions with state, joins -/
namespace Dk
open PySem PySem.Spec L2 PyProof.Rows
theorem pickN {α : Type} (xs : List α) {t : Int} (h0 : 0 ≤ t) (h1 : t < xs.length) : ∃ w, atI xs t = some w ∧ w ∈ xs := by
  obtain ⟨n, rfl⟩ := Int.eq_ofNat_of_zero_le h0
  have hn : n < xs.length := by omega
  refine ⟨xs[n], by rw [Dk.atI_nat]; simp [hn], List.getElem_mem hn⟩
theorem lcD_out {α β σ : Type} {h : Tg} {tt elt : EX} {vs : List Nat} (f : α → D) (g : β → D) (O : β → Prop) (E : σ → Dk.Env) (I : Nat → σ → Prop) : ∀ (xs : List α) (k : Nat) (s : σ) (acc : List D), I k s →
    (∀ a ∈ xs, ∀ j s, I j s → j < k + xs.length → ∃ z s', O z ∧ lcStep h tt elt vs (f a) (E s) = some (some (g z), E s') ∧ I (j + 1) s') →
    ∃ (zs : List β) (s' : σ), zs.length = xs.length ∧ (∀ z ∈ zs, O z) ∧ I (k + xs.length) s' ∧ lcD h tt elt vs (xs.map f) (E s) acc = .ok (.own (.lst (acc ++ zs.map g))) (E s')
  | [], k, s, acc, h0, _ => ⟨[], s, rfl, by simp, h0, by simp [lcD]⟩
  | a :: xs, k, s, acc, h0, hs => by
    obtain ⟨z, s1, hz, e, h1⟩ := hs a List.mem_cons_self k s h0 (by simp)
    obtain ⟨zs, s', y0, y1, y2, y3⟩ := lcD_out (h := h) (tt := tt) (elt := elt) (vs := vs) f g O E I xs (k + 1) s1 (acc ++ [g z]) h1 fun x hx j s hj hlt => hs x (List.mem_cons_of_mem _ hx) j s hj (by simp only [List.length_cons]; omega)
    have hk : k + 1 + xs.length = k + (a :: xs).length := by simp only [List.length_cons]; omega
    refine ⟨z :: zs, s', by simp [y0], fun w hw => ?_, hk ▸ y2, ?_⟩
    · rcases List.mem_cons.mp hw with rfl | hw
      · exact hz
      · exact y1 w hw
    · rw [List.map_cons, lcD_cons, e]
      simp only [y3]
      simp
/-- a comprehension that changes things as it goes -/
theorem eLc_out {α β σ : Type} {fi : EX} {h : Tg} {tt elt : EX} {vs : List Nat} {ρ ρ0 : Dk.Env} (xs : List α) (f : α → D) (g : β → D) (O : β → Prop) (E : σ → Dk.Env) (I : Nat → σ → Prop) (k : Nat) (s : σ)
    (hfi : fi ρ = .ok (.val (.list (xs.map f))) ρ0) (hl : xs.length ≤ sizeLine) (hc : clearB vs ρ0 = true) (hw : wipeE vs ρ0 = E s) (h0 : I k s)
    (hs : ∀ a ∈ xs, ∀ j s, I j s → j < k + xs.length → ∃ z s', O z ∧ lcStep h tt elt vs (f a) (E s) = some (some (g z), E s') ∧ I (j + 1) s') :
    ∃ (zs : List β) (s' : σ), zs.length = xs.length ∧ (∀ z ∈ zs, O z) ∧ I (k + xs.length) s' ∧ eLc fi h tt elt vs ρ = .ok (.own (.lst (zs.map g))) (unwipe vs ρ0 (E s')) := by
  obtain ⟨zs, s', y0, y1, y2, y3⟩ := lcD_out (h := h) (tt := tt) (elt := elt) (vs := vs) f g O E I xs k s [] h0 hs
  refine ⟨zs, s', y0, y1, y2, ?_⟩
  unfold eLc
  simp only [hfi, hc, List.length_map, hl, true_and, if_true, hw, y3, R.unw, List.nil_append]
/-- a loop that ends -/
theorem whileD_inv {c : EX} {body : SX} (I : Nat → Env → Prop) (J : Env → Prop) (hs : ∀ m ρ, I m ρ → (c ρ = .ok (.val (.bool false)) ρ ∧ J ρ) ∨ (∃ ρ2 m', c ρ = .ok (.val (.bool true)) ρ ∧ body ρ = .nx ρ2 ∧ m' < m ∧ I m' ρ2)) :
    ∀ (fuel m : Nat) (ρ : Env), I m ρ → m < fuel → ∃ ρ', whileD c body fuel ρ = .nx ρ' ∧ J ρ'
  | 0, m, ρ, _, h => by omega
  | fuel + 1, m, ρ, hI, h => by
    rcases hs m ρ hI with ⟨e, j⟩ | ⟨ρ2, m', e1, e2, e3, e4⟩
    · exact ⟨ρ, by simp only [whileD, e, R.bsB_ok]; rfl, j⟩
    · obtain ⟨ρ', a, b⟩ := whileD_inv I J hs fuel m' ρ2 e4 (by omega)
      exact ⟨ρ', by simp only [whileD, e1, R.bsB_ok, if_true, e2, a], b⟩
theorem sWhile_inv {c : EX} {body : SX} (I : Nat → Env → Prop) (J : Env → Prop) (hs : ∀ m ρ, I m ρ → (c ρ = .ok (.val (.bool false)) ρ ∧ J ρ) ∨ (∃ ρ2 m', c ρ = .ok (.val (.bool true)) ρ ∧ body ρ = .nx ρ2 ∧ m' < m ∧ I m' ρ2))
    (fuel m : Nat) (ρ : Env) (h : I m ρ) (hm : m < fuel) : ∃ ρ', sWhile fuel c body ρ = .nx ρ' ∧ J ρ' := whileD_inv I J hs fuel m ρ h hm
theorem eJoin_ok {f g : EX} {ρ ρ1 ρ2 : Env} {a : Str} {ds : List D} {o : Sl} (h1 : f ρ = .ok (.val (.str a)) ρ1) (h2 : g ρ1 = .ok (.own (.lst ds)) ρ2) (h3 : joinD (.str a) (.list ds) = some o) : eJoin f g ρ = .ok o ρ2 := by
  unfold eJoin
  rw [h1]
  simp [h2, h3]
theorem bok_len {m : Nat} {l : List D} (h : BOk m l) : True := trivial
end Dk

set_option Elab.async false
set_option linter.all false
set_option maxRecDepth 100000
set_option maxHeartbeats 1000000
/-! Dk40: the block with the very object, by simp -/
namespace Dk
open PySem PySem.Spec L2 PyProof.Rows
theorem region_own {den same : Den} {mid : SX} {i j : Nat} {f e2 c ex ey : EX} {ρ ρ1 ρe : Env} {cl : Cl} (h : f ρ = .ok (.own cl) ρ1) (hn : cl.noTag = true)
    (hk : ∀ a, ∃ ρ2, setSl i (.val (.tag (a + 1) cl.frz)) ρ1 = some ρ2 ∧ regTail j e2 c ex ey (kTag same mid i j a cl.frz ρ) ρ2 = .nx ρe) : region den same mid i j f e2 c ex ey ρ = .nx ρe := by
  have hk' : ∀ a, (match setSl i (.val (.tag (a + 1) cl.frz)) ρ1 with
      | some ρ2 => regTail j e2 c ex ey (kTag same mid i j a cl.frz ρ) ρ2
      | none => .bad) = .nx ρe := fun a => by
    obtain ⟨ρ2, e1, e2⟩ := hk a
    rw [e1]; exact e2
  unfold region
  simp only [h, hn, if_true]
  split
  · rename_i hx
    have h1 := hx.choose_spec 0
    have h2 := hk' 0
    have h3 : SR.nx hx.choose = SR.nx ρe := h1.symm.trans h2
    exact h3
  · rename_i hx
    exact absurd ⟨ρe, hk'⟩ hx
theorem region_val {den same : Den} {mid : SX} {i j : Nat} {f e2 c ex ey : EX} {ρ ρ1 ρ2 ρe : Env} {d : D} (h : f ρ = .ok (.val d) ρ1) (hs : setSl i (.val d) ρ1 = some ρ2) (hk : regTail j e2 c ex ey (kVal den) ρ2 = .nx ρe) : region den same mid i j f e2 c ex ey ρ = .nx ρe := by
  unfold region
  simp only [h, hs, hk]
theorem regTail_ok {j : Nat} {e2 c ex ey : EX} {k : Env → D → D → SR} {ρ2 ρ3 ρ4 ρ5 ρ7 : Env} {o s : Sl} {dx dy : D} {r : SR} (h1 : e2 ρ2 = .ok o ρ3) (h2 : o.toVal = some s) (h3 : setSl j s ρ3 = some ρ4) (h4 : c ρ4 = .ok (.val (.bool false)) ρ5) (h5 : cArgs [.v ex, .v ey] ρ5 = .ok [.inl (.val dx), .inl (.val dy)] ρ7) (h6 : k ρ7 dx dy = r) : regTail j e2 c ex ey k ρ2 = r := by
  unfold regTail R.bs
  simp only [h1, h2, h3, h4, R.bsB_ok, Bool.false_eq_true, if_false, h5, h6]
theorem kTag_ok {same : Den} {mid : SX} {i j a : Nat} {d dx dy : D} {ρ0 ρ7 : Env} (h1 : dx = .tag (a + 1) d) (h2 : dy = .tag (a + 1) d) (h3 : Grows same mid a d) (h4 : endOk i j ρ0 ρ7) : kTag same mid i j a d ρ0 ρ7 dx dy = .nx ((ρ7.set i .emp).set j .emp) := by
  unfold kTag
  rw [if_pos ⟨h1, h2, h3, h4⟩]
theorem kVal_ok {den : Den} {ρ7 : Env} {dx dy : D} {as : List Sl} (h : den [.val dx, .val dy] = .ret (.val (.bool true)) as) : kVal den ρ7 dx dy = .nx ρ7 := by
  unfold kVal
  rw [h]
end Dk

set_option Elab.async false
set_option linter.all false
set_option maxRecDepth 100000
set_option maxHeartbeats 4000000
/-! printed by gen.py: the denotations -/
namespace L64
open PySem PySem.Spec L2 Dk PyProof.Rows
def isa_ (h : Str) : Str → Option Bool := isaOf [((Str.ofString "InvalidLetters"), [(Str.ofString "InvalidLetters"), (Str.ofString "IntervalError")]), ((Str.ofString "InvalidRow"), [(Str.ofString "InvalidRow"), (Str.ofString "IntervalError")])] h
/- _law_box(great): 0=great -/
noncomputable def body__law_box : SX :=
  (sRet (eLst [(eCB absD [(eVar 0)]), (eOp geD (eCB absD [(eVar 0)]) (eOp powD (eC (.int 10)) (eC (.int 18)))), (eOp modD (eCB intD [(eCB absD [(eVar 0)])]) (eC (.int 2147483629))), (eC (.int 0))]))
noncomputable def den__law_box : Den := denOf 1 body__law_box
/- _law_cell(script, k): 0=script 1=k -/
noncomputable def body__law_cell : SX :=
  (sRet (eIf (eOp ltD (eVar 1) (eCB lenD [(eVar 0)])) (eOp ixD (eVar 0) (eVar 1)) (eOp addD (eOp mulD (eC (.int 7487)) (eVar 1)) (eOp modD (eCB intD [(eCB sumD [(eSl (eVar 0) .no (.at (eC (.int 1))))])]) (eC (.int 1000003))))))
noncomputable def den__law_cell : Den := denOf 2 body__law_cell
/- _law_take(box, many): 0=box 1=many 2=mixed 3=digit -/
noncomputable def body__law_take : SX :=
  (sSeq (sIf (eAnd (eTru (eBor (eOp ixD (eVar 0) (eC (.int 1))))) (eOp gtD (eBor (eOp ixD (eVar 0) (eC (.int 0)))) (eC (.int 0)))) (sSeq (sAsg 3 (eOp modD (eCB intD [(eBor (eOp ixD (eVar 0) (eC (.int 0))))]) (eVar 1)))
  (sSeq (sSetIx 0 (eOp fdivD (eBor (eOp ixD (eVar 0) (eC (.int 0)))) (eVar 1)) (eC (.int 0)))
  (sRet (eVar 3)))) sNx)
  (sSeq (sSetIx 0 (eOp addD (eBor (eOp ixD (eVar 0) (eC (.int 3)))) (eC (.int 1))) (eC (.int 3)))
  (sSeq (sAsg 2 (eOp modD (eCB intD [(eOp powD (eOp addD (eOp addD (eBor (eOp ixD (eVar 0) (eC (.int 2)))) (eOp mulD (eC (.int 15488863)) (eBor (eOp ixD (eVar 0) (eC (.int 3)))))) (eC (.int 179432927))) (eC (.int 5)))]) (eC (.int 2147483647))))
  (sRet (eOp modD (eCB intD [(eOp fdivD (eOp modD (eCB intD [(eOp powD (eOp addD (eOp mulD (eVar 2) (eC (.int 48271))) (eOp mulD (eC (.int 105167)) (eBor (eOp ixD (eVar 0) (eC (.int 3)))))) (eC (.int 3)))]) (eC (.int 2147483587))) (eC (.int 64)))]) (eVar 1))))))
noncomputable def den__law_take : Den := denOf 4 body__law_take
/- _law_letters(box, most): 0=box 1=most 2=kinds 3=length 4=way 5=found 6=letter -/
noncomputable def body__law_letters : SX :=
  (sSeq (sPar [2, 3] [(false, (eOp addD (eC (.int 1)) (eCallG den__law_take [(.r 0), (.v (eC (.int 6)))] [.a 0, .a 1]))), (false, (eOp ixD (eLst [(eCallG den__law_take [(.r 0), (.v (eC (.int 9)))] [.a 0, .a 1]), (eCallG den__law_take [(.r 0), (.v (eOp addD (eVar 1) (eC (.int 1))))] [.a 0, .a 1]), (eVar 1)]) (eCallG den__law_take [(.r 0), (.v (eC (.int 3)))] [.a 0, .a 1])))])
  (sSeq (sPar [3, 4, 5] [(false, (eCB min2D [(eVar 3), (eVar 1)])), (false, (eCallG den__law_take [(.r 0), (.v (eC (.int 3)))] [.a 0, .a 1])), (false, (eC (.str (Str.ofString ""))))])
  (sSeq (sWhile 100000 (eOp ltD (eCB lenD [(eVar 5)]) (eVar 3)) (sSeq (sAsg 6 (eOp ixD (eC (.str (Str.ofString "abcdef"))) (eCallG den__law_take [(.r 0), (.v (eVar 2))] [.a 0, .a 1])))
  (sAsg 5 (eOp addD (eVar 5) (eIf (eOp gtD (eVar 4) (eC (.int 0))) (eVar 6) (eOp mulD (eVar 6) (eOp addD (eC (.int 1)) (eCallG den__law_take [(.r 0), (.v (eC (.int 4)))] [.a 0, .a 1]))))))))
  (sRet (eSl (eVar 5) .no (.at (eVar 3)))))))
noncomputable def den__law_letters : Den := denOf 7 body__law_letters
/- are_letters(value, most): 0=value 1=most 2=sign -/
noncomputable def body_are_letters : SX :=
  (sRet (eAnd (eIsi [.str] (eVar 0)) (eAnd (eOp leD (eCB lenD [(eVar 0)]) (eVar 1)) (eCB allD [(eLc (iAny (eVar 0)) (gN 2) eYes (eOp inD (eVar 2) (eC (.str (Str.ofString "abcdef")))) [2])]))))
noncomputable def den_are_letters : Den := denOf 3 body_are_letters
/- check_row(row): 0=row -/
noncomputable def body_check_row : SX :=
  (sIf (eNot (eTru (eCallG den_are_letters [(.v (eVar 0)), (.v (eC (.int 60)))] [.a 0, .a 1]))) (sRaise (Str.ofString "InvalidRow") [(Str.ofString "given")] [(eVar 0)]) sNx)
noncomputable def den_check_row : Den := denOf 1 body_check_row
/- check_both(row, letters): 0=row 1=letters -/
noncomputable def body_check_both : SX :=
  (sSeq (sDrop (eCallG den_check_row [(.v (eVar 0))] [.a 0]))
  (sIf (eNot (eTru (eCallG den_are_letters [(.v (eVar 1)), (.v (eC (.int 12)))] [.a 0, .a 1]))) (sRaise (Str.ofString "InvalidLetters") [(Str.ofString "given")] [(eVar 1)]) sNx))
noncomputable def den_check_both : Den := denOf 2 body_check_both
/- has_all(row, letters): 0=row 1=letters 2=letter -/
noncomputable def body_has_all : SX :=
  (sRet (eCB allD [(eLc (iAny (eVar 1)) (gN 2) eYes (eOp geD (eCount (eVar 0) (eVar 2)) (eCount (eVar 1) (eVar 2))) [2])]))
noncomputable def den_has_all : Den := denOf 3 body_has_all
/- windows_of(row): 0=row 1=many 2=low 3=high -/
noncomputable def body_windows_of : SX :=
  (sSeq (sAsg 1 (eCB lenD [(eVar 0)]))
  (sRet (eLc2 (iRng1D (eVar 1)) (gN 2) eYes (iRng2D (eOp addD (eVar 2) (eC (.int 1))) (eOp addD (eVar 1) (eC (.int 1)))) (gN 3) eYes (eTup [(eOp subD (eVar 3) (eVar 2)), (eVar 2)]) [2, 3] [3])))
noncomputable def den_windows_of : Den := denOf 4 body_windows_of
/- least_window(row, letters): 0=row 1=letters 2=found 3=length 4=low -/
noncomputable def body_least_window : SX :=
  (sSeq (sDrop (eCallG den_check_both [(.v (eVar 0)), (.v (eVar 1))] [.a 0, .a 1]))
  (sSeq (sIf (eOp eqD (eVar 1) (eC (.str (Str.ofString "")))) (sRet (eTup [(eC (.int 0)), (eC (.int 0))])) sNx)
  (sSeq (sAsg 2 (eLc (iAny (eCallG den_windows_of [(.v (eVar 0))] [.a 0])) (gT 2 (gsC (gN 3) (gsC (gN 4) gsN))) (eTru (eCallG den_has_all [(.v (eSl (eVar 0) (.at (eVar 4)) (.at (eOp addD (eVar 4) (eVar 3))))), (.v (eVar 1))] [.a 0, .a 1])) (eTup [(eVar 3), (eVar 4)]) [3, 4]))
  (sRet (eIf (eOp neD (eVar 2) (eLst [])) (eCB minLD [(eVar 2)]) (eC .none))))))
noncomputable def den_least_window : Den := denOf 5 body_least_window
/- window_bar(row, letters): 0=row 1=letters 2=found 3=letter -/
noncomputable def body_window_bar : SX :=
  (sSeq (sDrop (eCallG den_check_both [(.v (eVar 0)), (.v (eVar 1))] [.a 0, .a 1]))
  (sSeq (sAsg 2 (eLc (iAny (eC (.str (Str.ofString "abcdef")))) (gN 3) (eOp ltD (eCount (eVar 0) (eVar 3)) (eCount (eVar 1) (eVar 3))) (eVar 3) [3]))
  (sRet (eIf (eOp neD (eVar 2) (eLst [])) (eOp ixD (eVar 2) (eC (.int 0))) (eC .none)))))
noncomputable def den_window_bar : Den := denOf 4 body_window_bar
/- _law_asked(word, row, letters, by_name): 0=word 1=row 2=letters 3=by_name 4=e 5=call -/
noncomputable def body__law_asked : SX :=
  (sTry (hdAs (isa_ (Str.ofString "InvalidRow")) 4 (gLst (gCons (gC_ (.str (Str.ofString "row"))) (gCons (gFld (Str.ofString "InvalidRow") (Str.ofString "given")) gNil))) :: (hdAs (isa_ (Str.ofString "InvalidLetters")) 4 (gIf (gIsa (isa_ (Str.ofString "IntervalError"))) (gLst (gCons (gC_ (.str (Str.ofString "letters"))) (gCons (gFld (Str.ofString "InvalidLetters") (Str.ofString "given")) gNil))) (gLst (gCons (gC_ (.str (Str.ofString "told"))) (gCons (gC_ .none) gNil)))) :: [])) (sSeq (sAsg 5 (eIf (eOp eqD (eVar 0) (eC (.str (Str.ofString "window")))) (eFn (Str.ofString "least_window")) (eFn (Str.ofString "window_bar"))))
  (sRet (eLst [(eC (.str (Str.ofString "told"))), (eIf (eTru (eVar 3)) (eIfFn 5 (Str.ofString "least_window") (eCallG den_least_window [(.v (eVar 2)), (.v (eVar 1))] [.a 1, .a 0]) (eIfFn 5 (Str.ofString "window_bar") (eCallG den_window_bar [(.v (eVar 2)), (.v (eVar 1))] [.a 1, .a 0]) eNoFn)) (eIfFn 5 (Str.ofString "least_window") (eCallG den_least_window [(.v (eVar 1)), (.v (eVar 2))] [.a 0, .a 1]) (eIfFn 5 (Str.ofString "window_bar") (eCallG den_window_bar [(.v (eVar 1)), (.v (eVar 2))] [.a 0, .a 1]) eNoFn)))]))))
noncomputable def den__law_asked : Den := denOf 6 body__law_asked
/- _law_has(some, letters): 0=some 1=letters 2=letter -/
noncomputable def body__law_has : SX :=
  (sRet (eOp eqD (eLc (iAny (eC (.str (Str.ofString "abcdef")))) (gN 2) (eOp ltD (eCount (eVar 0) (eVar 2)) (eCount (eVar 1) (eVar 2))) (eVar 2) [2]) (eLst [])))
noncomputable def den__law_has : Den := denOf 3 body__law_has
/- _law_least(row, letters): 0=row 1=letters 2=length 3=low -/
noncomputable def body__law_least : SX :=
  (sSeq (sFor (iRng1D (eOp addD (eCB lenD [(eVar 0)]) (eC (.int 1)))) (gN 2) (sFor (iRng1D (eOp addD (eOp subD (eCB lenD [(eVar 0)]) (eVar 2)) (eC (.int 1)))) (gN 3) (sIf (eTru (eCallG den__law_has [(.v (eSl (eVar 0) (.at (eVar 3)) (.at (eOp addD (eVar 3) (eVar 2))))), (.v (eVar 1))] [.a 0, .a 1])) (sRet (eTup [(eVar 2), (eVar 3)])) sNx)))
  (sRet (eC .none)))
noncomputable def den__law_least : Den := denOf 4 body__law_least
/- _law_same(told, due): 0=told 1=due 2=k 3=key -/
noncomputable def body__law_same (rc : Den) : SX :=
  (sSeq (sIf (eOp isD (eVar 1) (eC .none)) (sRet (eOp isD (eVar 0) (eC .none))) sNx)
  (sSeq (sIf (eTru (eIsi [.bool] (eVar 1))) (sRet (eAnd (eIsi [.bool] (eVar 0)) (eOp eqD (eOp isD (eVar 0) (eC (.bool true))) (eOp isD (eVar 1) (eC (.bool true)))))) sNx)
  (sSeq (sIf (eTru (eIsi [.int] (eVar 1))) (sRet (eAnd (eIsi [.int] (eVar 0)) (eAnd (eNot (eIsi [.bool] (eVar 0))) (eOp eqD (eOp subD (eCB intD [(eVar 0)]) (eVar 1)) (eC (.int 0)))))) sNx)
  (sSeq (sIf (eTru (eIsi [.str] (eVar 1))) (sRet (eAnd (eIsi [.str] (eVar 0)) (eAnd (eOp eqD (eCB lenD [(eVar 0)]) (eCB lenD [(eVar 1)])) (eOp eqD (eLc (iRng1D (eCB lenD [(eVar 1)])) (gN 2) (eOp neD (eSl (eVar 0) (.at (eVar 2)) (.at (eOp addD (eVar 2) (eC (.int 1))))) (eOp ixD (eVar 1) (eVar 2))) (eVar 2) [2]) (eLst []))))) sNx)
  (sSeq (sIf (eTru (eIsi [.dict] (eVar 1))) (sRet (eAnd (eIsi [.dict] (eVar 0)) (eAnd (eOp eqD (eCB lenD [(eVar 0)]) (eCB lenD [(eVar 1)])) (eOp eqD (eLc (iAny (eVar 1)) (gN 3) (eOr (eOp notInD (eVar 3) (eVar 0)) (eNot (eTru (eCallG rc [(.v (eOp ixD (eVar 0) (eVar 3))), (.v (eOp ixD (eVar 1) (eVar 3)))] [.a 0, .a 1])))) (eVar 3) [3]) (eLst []))))) sNx)
  (sSeq (sIf (eOr (eNot (eTru (eIsi [.list, .tuple] (eVar 1)))) (eNot (eTru (eIsi [.list, .tuple] (eVar 0))))) (sRet (eC (.bool false))) sNx)
  (sSeq (sIf (eOr (eOp neD (eIsi [.list] (eVar 0)) (eIsi [.list] (eVar 1))) (eOp neD (eCB lenD [(eVar 0)]) (eCB lenD [(eVar 1)]))) (sRet (eC (.bool false))) sNx)
  (sRet (eOp eqD (eLc (iRng1D (eCB lenD [(eVar 1)])) (gN 2) (eNot (eTru (eCallG rc [(.v (eOp ixD (eVar 0) (eVar 2))), (.v (eOp ixD (eVar 1) (eVar 2)))] [.a 0, .a 1]))) (eVar 2) [2]) (eLst []))))))))))
noncomputable def den__law_same : Nat → Den
  | 0 => fun _ => .bad
  | n + 1 => denOf 4 (body__law_same (den__law_same n))
/- _law_pair_right(row, letters, by_name): 0=row 1=letters 2=by_name 3=due 4=missing 5=turn 6=some 7=told 8=letter -/
noncomputable def body__law_pair_right : SX :=
  (sSeq (sAsg 3 (eCallG den__law_least [(.v (eVar 0)), (.v (eVar 1))] [.a 0, .a 1]))
  (sSeq (sAsg 4 (eLc (iAny (eC (.str (Str.ofString "abcdef")))) (gN 8) (eOp ltD (eCount (eVar 0) (eVar 8)) (eCount (eVar 1) (eVar 8))) (eVar 8) [8]))
  (sSeq (sIf (eOp neD (eOp isD (eVar 3) (eC .none)) (eOp neD (eVar 4) (eLst []))) (sRet (eC (.bool false))) sNx)
  (sSeq (sFor (iAny (eLst [(eVar 2), (eNot (eVar 2))])) (gN 5) (sSeq (sAsg 7 (eLst [(eCallG den__law_asked [(.v (eC (.str (Str.ofString "window")))), (.v (eVar 0)), (.v (eVar 1)), (.v (eVar 5))] [.a 0, .a 1, .a 2, .a 3]), (eCallG den__law_asked [(.v (eC (.str (Str.ofString "bar")))), (.v (eVar 0)), (.v (eVar 1)), (.v (eVar 5))] [.a 0, .a 1, .a 2, .a 3])]))
  (sIf (eNot (eTru (eCallG (den__law_same 8) [(.v (eVar 7)), (.v (eLst [(eLst [(eC (.str (Str.ofString "told"))), (eVar 3)]), (eLst [(eC (.str (Str.ofString "told"))), (eIf (eOp neD (eVar 4) (eLst [])) (eOp ixD (eVar 4) (eC (.int 0))) (eC .none))])]))] [.a 0, .a 1]))) (sRet (eC (.bool false))) sNx)))
  (sSeq (sIf (eOr (eOp isD (eVar 3) (eC .none)) (eOp eqD (eOp ixD (eVar 3) (eC (.int 0))) (eC (.int 0)))) (sRet (eC (.bool true))) sNx)
  (sSeq (sAsg 6 (eSl (eVar 0) (.at (eOp ixD (eVar 3) (eC (.int 1)))) (.at (eOp addD (eOp ixD (eVar 3) (eC (.int 1))) (eOp ixD (eVar 3) (eC (.int 0)))))))
  (sRet (eAnd (eCallG den__law_has [(.v (eVar 6)), (.v (eVar 1))] [.a 0, .a 1]) (eAnd (eNot (eCallG den__law_has [(.v (eSl (eVar 6) (.at (eC (.int 1))) .no)), (.v (eVar 1))] [.a 0, .a 1])) (eNot (eCallG den__law_has [(.v (eSl (eVar 6) .no (.at (eUn negD (eC (.int 1)))))), (.v (eVar 1))] [.a 0, .a 1])))))))))))
noncomputable def den__law_pair_right : Den := denOf 9 body__law_pair_right
/- _law_blamed(given, value): 0=given 1=value -/
noncomputable def mid__law_blamed : SX := (sIf (eBor (eTru (eIsi [.list] (eVar 1)))) (sDrop (eMeth 1 mAppend [(eC (.int 7))])) sNx)
noncomputable def body__law_blamed : SX :=
  (sSeq (sIf (eNot (eTru (eCallG (den__law_same 8) [(.v (eVar 0)), (.v (eVar 1))] [.a 0, .a 1]))) (sRet (eC (.bool false))) sNx)
  (sSeq (sIf (eTru (eIsi [.list] (eVar 1))) (sDrop (eMeth 1 mAppend [(eC (.int 7))])) sNx)
  (sRet (eCallG (den__law_same 8) [(.v (eVar 0)), (.v (eVar 1))] [.a 0, .a 1]))))
noncomputable def den__law_blamed : Den := denOf 2 body__law_blamed
/- _law_copy(value): 0=value -/
noncomputable def body__law_copy : SX :=
  (sRet (eIf (eTru (eIsi [.list] (eVar 0))) (eCB listSD [(eVar 0)]) (eVar 0)))
noncomputable def den__law_copy : Den := denOf 1 body__law_copy
/- _law_no_row(box): 0=box -/
noncomputable def body__law_no_row : SX :=
  (sRet (eOp ixD (eLst [(eC .none), (eC (.int 7)), (eLst [(eC (.str (Str.ofString "a")))]), (eTup [(eC (.str (Str.ofString "a")))]), (eC (.str (Str.ofString "abg"))), (eC (.str (Str.ofString "A"))), (eC (.str (Str.ofString "a b"))), (eOp mulD (eC (.str (Str.ofString "a"))) (eC (.int 61))), (fun ρ => .ok (.own (.dct [((.str (Str.ofString "a")), (.int 1))])) ρ), (eC (.bool true)), (eC (.str (Str.ofString "ab\n")))]) (eCallG den__law_take [(.r 0), (.v (eC (.int 11)))] [.a 0, .a 1])))
noncomputable def den__law_no_row : Den := denOf 1 body__law_no_row
/- _law_refused(box, by_name): 0=box 1=by_name 2=odd 3=which 4=wrong 5=told -/
noncomputable def body__law_refused : SX :=
  (sSeq (sAsg 2 (eLst [(eC .none), (eC (.int 7)), (eLst [(eC (.str (Str.ofString "a")))]), (eTup [(eC (.str (Str.ofString "a")))]), (eC (.str (Str.ofString "abg"))), (eC (.str (Str.ofString "A"))), (eC (.str (Str.ofString "a b"))), (eOp mulD (eC (.str (Str.ofString "a"))) (eC (.int 13))), (fun ρ => .ok (.own (.dct [((.str (Str.ofString "a")), (.int 1))])) ρ), (eC (.bool true))]))
  (sSeq (sFor (iRng1D (eC (.int 6))) (gN 3) (sSeq (region den__law_blamed (den__law_same 8) mid__law_blamed 4 5 (eCallG den__law_copy [(.v (eIf (eOp ltD (eVar 3) (eC (.int 3))) (eCallG den__law_no_row [(.r 0)] [.a 0]) (eOp ixD (eVar 2) (eCallG den__law_take [(.r 0), (.v (eC (.int 10)))] [.a 0, .a 1]))))] [.a 0])
  (eCallG den__law_asked [(.v (eOp ixD (eLst [(eC (.str (Str.ofString "window"))), (eC (.str (Str.ofString "bar")))]) (eOp andD (eVar 3) (eC (.int 1))))), (.v (eIf (eOp ltD (eVar 3) (eC (.int 3))) (eVar 4) (eC (.str (Str.ofString "abc"))))), (.v (eIf (eOp ltD (eVar 3) (eC (.int 3))) (eC .none) (eVar 4))), (.v (eVar 1))] [.a 0, .a 1, .a 2, .a 3])
  (eOp neD (eOp ixD (eVar 5) (eC (.int 0))) (eIf (eOp ltD (eVar 3) (eC (.int 3))) (eC (.str (Str.ofString "row"))) (eC (.str (Str.ofString "letters")))))
  (eOp ixD (eVar 5) (eC (.int 1))) (eVar 4))
  (sAsg 1 (eNot (eVar 1)))))
  (sRet (eC (.bool true)))))
noncomputable def den__law_refused : Den := denOf 6 body__law_refused
/- _law_wanted(box, row): 0=box 1=row 2=found 3=mixed 4=way 5=low 6=turn -/
noncomputable def body__law_wanted : SX :=
  (sSeq (sPar [4, 5] [(false, (eCallG den__law_take [(.r 0), (.v (eC (.int 4)))] [.a 0, .a 1])), (false, (eCallG den__law_take [(.r 0), (.v (eOp addD (eCB lenD [(eVar 1)]) (eC (.int 1))))] [.a 0, .a 1]))])
  (sSeq (sAsg 2 (eSl (eVar 1) (.at (eVar 5)) (.at (eOp addD (eVar 5) (eCallG den__law_take [(.r 0), (.v (eC (.int 13)))] [.a 0, .a 1])))))
  (sSeq (sIf (eOp eqD (eVar 4) (eC (.int 0))) (sAsg 2 (eJoin (eC (.str (Str.ofString ""))) (eLc (iRng1D (eCallG den__law_take [(.r 0), (.v (eC (.int 7)))] [.a 0, .a 1])) (gN 6) eYes (eOp ixD (eC (.str (Str.ofString "abcdef"))) (eCallG den__law_take [(.r 0), (.v (eC (.int 6)))] [.a 0, .a 1])) [6]))) sNx)
  (sSeq (sIf (eAnd (eOp eqD (eVar 4) (eC (.int 1))) (eOp ltD (eCB lenD [(eVar 2)]) (eC (.int 12)))) (sAsg 2 (eOp addD (eVar 2) (eOp ixD (eC (.str (Str.ofString "abcdef"))) (eCallG den__law_take [(.r 0), (.v (eC (.int 6)))] [.a 0, .a 1])))) sNx)
  (sSeq (sAsgO 3 (eCB listSD [(eVar 2)]))
  (sRet (eJoin (eC (.str (Str.ofString ""))) (eLc (iRng1D (eCB lenD [(eVar 2)])) (gN 6) eYes (eMeth 3 mPopAt [(eCallG den__law_take [(.r 0), (.v (eBor (eCB lenD [(eVar 3)])))] [.a 0, .a 1])]) [6]))))))))
noncomputable def den__law_wanted : Den := denOf 7 body__law_wanted
/- law(script): 0=script 1=k 2=box 3=by_name 4=turn 5=row 6=again -/
noncomputable def body_law : SX :=
  (sSeq (sFor (iRng1D (eCB max2D [(eC (.int 2)), (eCB min2D [(eC (.int 4)), (eCB lenD [(eVar 0)])])])) (gN 1) (sSeq (sAsgO 2 (eCallG den__law_box [(.v (eCallG den__law_cell [(.v (eVar 0)), (.v (eVar 1))] [.a 0, .a 1]))] [.a 0]))
  (sSeq (sAsg 3 (eOp eqD (eCallG den__law_take [(.r 2), (.v (eC (.int 2)))] [.a 0, .a 1]) (eC (.int 0))))
  (sSeq (sFor (iRng1D (eC (.int 3))) (gN 4) (sSeq (sAsg 5 (eCallG den__law_letters [(.r 2), (.v (eOp ixD (eLst [(eC (.int 12)), (eC (.int 30)), (eC (.int 60))]) (eVar 4)))] [.a 0, .a 1]))
  (sFor (iRng1D (eC (.int 2))) (gN 6) (sIf (eNot (eTru (eCallG den__law_pair_right [(.v (eVar 5)), (.v (eCallG den__law_wanted [(.r 2), (.v (eVar 5))] [.a 0, .a 1])), (.v (eOp eqD (eVar 3) (eOp eqD (eVar 6) (eC (.int 0)))))] [.a 0, .a 1, .a 2]))) (sRet (eC (.bool false))) sNx))))
  (sIf (eOr (eNot (eTru (eCallG den__law_pair_right [(.v (eVar 5)), (.v (eC (.str (Str.ofString "")))), (.v (eVar 3))] [.a 0, .a 1, .a 2]))) (eOr (eNot (eTru (eCallG den__law_pair_right [(.v (eC (.str (Str.ofString "")))), (.v (eC (.str (Str.ofString "a")))), (.v (eVar 3))] [.a 0, .a 1, .a 2]))) (eNot (eTru (eCallG den__law_refused [(.r 2), (.v (eVar 3))] [.a 0, .a 1]))))) (sRet (eC (.bool false))) sNx)))))
  (sRet (eC (.bool true))))
noncomputable def den_law : Den := denOf 7 body_law
end L64

set_option Elab.async false
set_option linter.all false
set_option maxRecDepth 100000
set_option maxHeartbeats 4000000
/-! printed by gen.py: the walk -/
namespace L64
open PySem PySem.Spec L2 Dk PyProof.Rows
def topS (i : Nat) : Stmt := PySem.Challenge.pw_intervalbench_k64_least_windows.main.body.getD i (.Pass ⟨0, 0, 0, 0⟩)
def clsBody : Stmt → List Stmt
  | .ClassDef (body := b) .. => b
  | _ => []
def initS (i : Nat) : Stmt := (clsBody (topS i)).getD 0 (.Pass ⟨0, 0, 0, 0⟩)
theorem sc__law_box : FnScope [(Str.ofString "great")] [(Str.ofString "great")] (defScope (topS 18)) := ⟨rfl, rfl, rfl, by decide +kernel, rfl, by decide +kernel, by decide +kernel⟩
theorem sc__law_cell : FnScope [(Str.ofString "script"), (Str.ofString "k")] [(Str.ofString "script"), (Str.ofString "k")] (defScope (topS 17)) := ⟨rfl, rfl, rfl, by decide +kernel, rfl, by decide +kernel, by decide +kernel⟩
theorem sc__law_take : FnScope [(Str.ofString "box"), (Str.ofString "many"), (Str.ofString "mixed"), (Str.ofString "digit")] [(Str.ofString "box"), (Str.ofString "many")] (defScope (topS 19)) := ⟨rfl, rfl, rfl, by decide +kernel, rfl, by decide +kernel, by decide +kernel⟩
theorem sc__law_letters : FnScope [(Str.ofString "box"), (Str.ofString "most"), (Str.ofString "kinds"), (Str.ofString "length"), (Str.ofString "way"), (Str.ofString "found"), (Str.ofString "letter")] [(Str.ofString "box"), (Str.ofString "most")] (defScope (topS 23)) := ⟨rfl, rfl, rfl, by decide +kernel, rfl, by decide +kernel, by decide +kernel⟩
theorem sc_are_letters : FnScope [(Str.ofString "value"), (Str.ofString "most"), (Str.ofString "sign")] [(Str.ofString "value"), (Str.ofString "most")] (defScope (topS 9)) := ⟨rfl, rfl, rfl, by decide +kernel, rfl, by decide +kernel, by decide +kernel⟩
theorem sc_check_row : FnScope [(Str.ofString "row")] [(Str.ofString "row")] (defScope (topS 10)) := ⟨rfl, rfl, rfl, by decide +kernel, rfl, by decide +kernel, by decide +kernel⟩
theorem sc_check_both : FnScope [(Str.ofString "row"), (Str.ofString "letters")] [(Str.ofString "row"), (Str.ofString "letters")] (defScope (topS 11)) := ⟨rfl, rfl, rfl, by decide +kernel, rfl, by decide +kernel, by decide +kernel⟩
theorem sc_has_all : FnScope [(Str.ofString "row"), (Str.ofString "letters"), (Str.ofString "letter")] [(Str.ofString "row"), (Str.ofString "letters")] (defScope (topS 13)) := ⟨rfl, rfl, rfl, by decide +kernel, rfl, by decide +kernel, by decide +kernel⟩
theorem sc_windows_of : FnScope [(Str.ofString "row"), (Str.ofString "many"), (Str.ofString "low"), (Str.ofString "high")] [(Str.ofString "row")] (defScope (topS 12)) := ⟨rfl, rfl, rfl, by decide +kernel, rfl, by decide +kernel, by decide +kernel⟩
theorem sc_least_window : FnScope [(Str.ofString "row"), (Str.ofString "letters"), (Str.ofString "found"), (Str.ofString "length"), (Str.ofString "low")] [(Str.ofString "row"), (Str.ofString "letters")] (defScope (topS 14)) := ⟨rfl, rfl, rfl, by decide +kernel, rfl, by decide +kernel, by decide +kernel⟩
theorem sc_window_bar : FnScope [(Str.ofString "row"), (Str.ofString "letters"), (Str.ofString "found"), (Str.ofString "letter")] [(Str.ofString "row"), (Str.ofString "letters")] (defScope (topS 15)) := ⟨rfl, rfl, rfl, by decide +kernel, rfl, by decide +kernel, by decide +kernel⟩
theorem sc__law_asked : FnScope [(Str.ofString "word"), (Str.ofString "row"), (Str.ofString "letters"), (Str.ofString "by_name"), (Str.ofString "e"), (Str.ofString "call")] [(Str.ofString "word"), (Str.ofString "row"), (Str.ofString "letters"), (Str.ofString "by_name")] (defScope (topS 28)) := ⟨rfl, rfl, rfl, by decide +kernel, rfl, by decide +kernel, by decide +kernel⟩
theorem sc__law_has : FnScope [(Str.ofString "some"), (Str.ofString "letters"), (Str.ofString "letter")] [(Str.ofString "some"), (Str.ofString "letters")] (defScope (topS 26)) := ⟨rfl, rfl, rfl, by decide +kernel, rfl, by decide +kernel, by decide +kernel⟩
theorem sc__law_least : FnScope [(Str.ofString "row"), (Str.ofString "letters"), (Str.ofString "length"), (Str.ofString "low")] [(Str.ofString "row"), (Str.ofString "letters")] (defScope (topS 27)) := ⟨rfl, rfl, rfl, by decide +kernel, rfl, by decide +kernel, by decide +kernel⟩
theorem sc__law_same : FnScope [(Str.ofString "told"), (Str.ofString "due"), (Str.ofString "k"), (Str.ofString "key")] [(Str.ofString "told"), (Str.ofString "due")] (defScope (topS 20)) := ⟨rfl, rfl, rfl, by decide +kernel, rfl, by decide +kernel, by decide +kernel⟩
theorem sc__law_pair_right : FnScope [(Str.ofString "row"), (Str.ofString "letters"), (Str.ofString "by_name"), (Str.ofString "due"), (Str.ofString "missing"), (Str.ofString "turn"), (Str.ofString "some"), (Str.ofString "told"), (Str.ofString "letter")] [(Str.ofString "row"), (Str.ofString "letters"), (Str.ofString "by_name")] (defScope (topS 29)) := ⟨rfl, rfl, rfl, by decide +kernel, rfl, by decide +kernel, by decide +kernel⟩
theorem sc__law_blamed : FnScope [(Str.ofString "given"), (Str.ofString "value")] [(Str.ofString "given"), (Str.ofString "value")] (defScope (topS 22)) := ⟨rfl, rfl, rfl, by decide +kernel, rfl, by decide +kernel, by decide +kernel⟩
theorem sc__law_copy : FnScope [(Str.ofString "value")] [(Str.ofString "value")] (defScope (topS 21)) := ⟨rfl, rfl, rfl, by decide +kernel, rfl, by decide +kernel, by decide +kernel⟩
theorem sc__law_no_row : FnScope [(Str.ofString "box")] [(Str.ofString "box")] (defScope (topS 24)) := ⟨rfl, rfl, rfl, by decide +kernel, rfl, by decide +kernel, by decide +kernel⟩
theorem sc__law_refused : FnScope [(Str.ofString "box"), (Str.ofString "by_name"), (Str.ofString "odd"), (Str.ofString "which"), (Str.ofString "wrong"), (Str.ofString "told")] [(Str.ofString "box"), (Str.ofString "by_name")] (defScope (topS 30)) := ⟨rfl, rfl, rfl, by decide +kernel, rfl, by decide +kernel, by decide +kernel⟩
theorem sc__law_wanted : FnScope [(Str.ofString "box"), (Str.ofString "row"), (Str.ofString "found"), (Str.ofString "mixed"), (Str.ofString "way"), (Str.ofString "low"), (Str.ofString "turn")] [(Str.ofString "box"), (Str.ofString "row")] (defScope (topS 25)) := ⟨rfl, rfl, rfl, by decide +kernel, rfl, by decide +kernel, by decide +kernel⟩
theorem sc_law : FnScope [(Str.ofString "script"), (Str.ofString "k"), (Str.ofString "box"), (Str.ofString "by_name"), (Str.ofString "turn"), (Str.ofString "row"), (Str.ofString "again")] [(Str.ofString "script")] (defScope (topS 31)) := ⟨rfl, rfl, rfl, by decide +kernel, rfl, by decide +kernel, by decide +kernel⟩
theorem bn__law_take_2 : Bnd (defArgs (topS 19)) 0 2 [] [(Str.ofString "box"), (Str.ofString "many")] [.a 0, .a 1] := by
  intro x qual body scope kV doc pm an cdv ct us ws its h1 h2 h3
  match us, h1, ws, h2, its, h3 with
  | [u0, u1], _, [], _, [], _ => exact ⟨fun h => by with_unfolding_all rfl, fun h T => absurd rfl h⟩
theorem bn_are_letters_2 : Bnd (defArgs (topS 9)) 0 2 [] [(Str.ofString "value"), (Str.ofString "most")] [.a 0, .a 1] := by
  intro x qual body scope kV doc pm an cdv ct us ws its h1 h2 h3
  match us, h1, ws, h2, its, h3 with
  | [u0, u1], _, [], _, [], _ => exact ⟨fun h => by with_unfolding_all rfl, fun h T => absurd rfl h⟩
theorem bn_check_row_1 : Bnd (defArgs (topS 10)) 0 1 [] [(Str.ofString "row")] [.a 0] := by
  intro x qual body scope kV doc pm an cdv ct us ws its h1 h2 h3
  match us, h1, ws, h2, its, h3 with
  | [u0], _, [], _, [], _ => exact ⟨fun h => by with_unfolding_all rfl, fun h T => absurd rfl h⟩
theorem bn_check_both_2 : Bnd (defArgs (topS 11)) 0 2 [] [(Str.ofString "row"), (Str.ofString "letters")] [.a 0, .a 1] := by
  intro x qual body scope kV doc pm an cdv ct us ws its h1 h2 h3
  match us, h1, ws, h2, its, h3 with
  | [u0, u1], _, [], _, [], _ => exact ⟨fun h => by with_unfolding_all rfl, fun h T => absurd rfl h⟩
theorem bn_windows_of_1 : Bnd (defArgs (topS 12)) 0 1 [] [(Str.ofString "row")] [.a 0] := by
  intro x qual body scope kV doc pm an cdv ct us ws its h1 h2 h3
  match us, h1, ws, h2, its, h3 with
  | [u0], _, [], _, [], _ => exact ⟨fun h => by with_unfolding_all rfl, fun h T => absurd rfl h⟩
theorem bn_has_all_2 : Bnd (defArgs (topS 13)) 0 2 [] [(Str.ofString "row"), (Str.ofString "letters")] [.a 0, .a 1] := by
  intro x qual body scope kV doc pm an cdv ct us ws its h1 h2 h3
  match us, h1, ws, h2, its, h3 with
  | [u0, u1], _, [], _, [], _ => exact ⟨fun h => by with_unfolding_all rfl, fun h T => absurd rfl h⟩
theorem bn_window_bar_0_letters_row : Bnd (defArgs (topS 15)) 0 0 [(Str.ofString "letters"), (Str.ofString "row")] [(Str.ofString "row"), (Str.ofString "letters")] [.a 1, .a 0] := by
  intro x qual body scope kV doc pm an cdv ct us ws its h1 h2 h3
  match us, h1, ws, h2, its, h3 with
  | [], _, [w0, w1], _, [], _ => exact ⟨fun h => by with_unfolding_all rfl, fun h T => absurd rfl h⟩
theorem bn_least_window_0_letters_row : Bnd (defArgs (topS 14)) 0 0 [(Str.ofString "letters"), (Str.ofString "row")] [(Str.ofString "row"), (Str.ofString "letters")] [.a 1, .a 0] := by
  intro x qual body scope kV doc pm an cdv ct us ws its h1 h2 h3
  match us, h1, ws, h2, its, h3 with
  | [], _, [w0, w1], _, [], _ => exact ⟨fun h => by with_unfolding_all rfl, fun h T => absurd rfl h⟩
theorem bn_window_bar_2 : Bnd (defArgs (topS 15)) 0 2 [] [(Str.ofString "row"), (Str.ofString "letters")] [.a 0, .a 1] := by
  intro x qual body scope kV doc pm an cdv ct us ws its h1 h2 h3
  match us, h1, ws, h2, its, h3 with
  | [u0, u1], _, [], _, [], _ => exact ⟨fun h => by with_unfolding_all rfl, fun h T => absurd rfl h⟩
theorem bn_least_window_2 : Bnd (defArgs (topS 14)) 0 2 [] [(Str.ofString "row"), (Str.ofString "letters")] [.a 0, .a 1] := by
  intro x qual body scope kV doc pm an cdv ct us ws its h1 h2 h3
  match us, h1, ws, h2, its, h3 with
  | [u0, u1], _, [], _, [], _ => exact ⟨fun h => by with_unfolding_all rfl, fun h T => absurd rfl h⟩
theorem bn__law_has_2 : Bnd (defArgs (topS 26)) 0 2 [] [(Str.ofString "some"), (Str.ofString "letters")] [.a 0, .a 1] := by
  intro x qual body scope kV doc pm an cdv ct us ws its h1 h2 h3
  match us, h1, ws, h2, its, h3 with
  | [u0, u1], _, [], _, [], _ => exact ⟨fun h => by with_unfolding_all rfl, fun h T => absurd rfl h⟩
theorem bn__law_same_2 : Bnd (defArgs (topS 20)) 0 2 [] [(Str.ofString "told"), (Str.ofString "due")] [.a 0, .a 1] := by
  intro x qual body scope kV doc pm an cdv ct us ws its h1 h2 h3
  match us, h1, ws, h2, its, h3 with
  | [u0, u1], _, [], _, [], _ => exact ⟨fun h => by with_unfolding_all rfl, fun h T => absurd rfl h⟩
theorem bn__law_least_2 : Bnd (defArgs (topS 27)) 0 2 [] [(Str.ofString "row"), (Str.ofString "letters")] [.a 0, .a 1] := by
  intro x qual body scope kV doc pm an cdv ct us ws its h1 h2 h3
  match us, h1, ws, h2, its, h3 with
  | [u0, u1], _, [], _, [], _ => exact ⟨fun h => by with_unfolding_all rfl, fun h T => absurd rfl h⟩
theorem bn__law_asked_4 : Bnd (defArgs (topS 28)) 0 4 [] [(Str.ofString "word"), (Str.ofString "row"), (Str.ofString "letters"), (Str.ofString "by_name")] [.a 0, .a 1, .a 2, .a 3] := by
  intro x qual body scope kV doc pm an cdv ct us ws its h1 h2 h3
  match us, h1, ws, h2, its, h3 with
  | [u0, u1, u2, u3], _, [], _, [], _ => exact ⟨fun h => by with_unfolding_all rfl, fun h T => absurd rfl h⟩
theorem bn__law_no_row_1 : Bnd (defArgs (topS 24)) 0 1 [] [(Str.ofString "box")] [.a 0] := by
  intro x qual body scope kV doc pm an cdv ct us ws its h1 h2 h3
  match us, h1, ws, h2, its, h3 with
  | [u0], _, [], _, [], _ => exact ⟨fun h => by with_unfolding_all rfl, fun h T => absurd rfl h⟩
theorem bn__law_copy_1 : Bnd (defArgs (topS 21)) 0 1 [] [(Str.ofString "value")] [.a 0] := by
  intro x qual body scope kV doc pm an cdv ct us ws its h1 h2 h3
  match us, h1, ws, h2, its, h3 with
  | [u0], _, [], _, [], _ => exact ⟨fun h => by with_unfolding_all rfl, fun h T => absurd rfl h⟩
theorem bn__law_blamed_2 : Bnd (defArgs (topS 22)) 0 2 [] [(Str.ofString "given"), (Str.ofString "value")] [.a 0, .a 1] := by
  intro x qual body scope kV doc pm an cdv ct us ws its h1 h2 h3
  match us, h1, ws, h2, its, h3 with
  | [u0, u1], _, [], _, [], _ => exact ⟨fun h => by with_unfolding_all rfl, fun h T => absurd rfl h⟩
theorem bn__law_cell_2 : Bnd (defArgs (topS 17)) 0 2 [] [(Str.ofString "script"), (Str.ofString "k")] [.a 0, .a 1] := by
  intro x qual body scope kV doc pm an cdv ct us ws its h1 h2 h3
  match us, h1, ws, h2, its, h3 with
  | [u0, u1], _, [], _, [], _ => exact ⟨fun h => by with_unfolding_all rfl, fun h T => absurd rfl h⟩
theorem bn__law_box_1 : Bnd (defArgs (topS 18)) 0 1 [] [(Str.ofString "great")] [.a 0] := by
  intro x qual body scope kV doc pm an cdv ct us ws its h1 h2 h3
  match us, h1, ws, h2, its, h3 with
  | [u0], _, [], _, [], _ => exact ⟨fun h => by with_unfolding_all rfl, fun h T => absurd rfl h⟩
theorem bn__law_letters_2 : Bnd (defArgs (topS 23)) 0 2 [] [(Str.ofString "box"), (Str.ofString "most")] [.a 0, .a 1] := by
  intro x qual body scope kV doc pm an cdv ct us ws its h1 h2 h3
  match us, h1, ws, h2, its, h3 with
  | [u0, u1], _, [], _, [], _ => exact ⟨fun h => by with_unfolding_all rfl, fun h T => absurd rfl h⟩
theorem bn__law_wanted_2 : Bnd (defArgs (topS 25)) 0 2 [] [(Str.ofString "box"), (Str.ofString "row")] [.a 0, .a 1] := by
  intro x qual body scope kV doc pm an cdv ct us ws its h1 h2 h3
  match us, h1, ws, h2, its, h3 with
  | [u0, u1], _, [], _, [], _ => exact ⟨fun h => by with_unfolding_all rfl, fun h T => absurd rfl h⟩
theorem bn__law_pair_right_3 : Bnd (defArgs (topS 29)) 0 3 [] [(Str.ofString "row"), (Str.ofString "letters"), (Str.ofString "by_name")] [.a 0, .a 1, .a 2] := by
  intro x qual body scope kV doc pm an cdv ct us ws its h1 h2 h3
  match us, h1, ws, h2, its, h3 with
  | [u0, u1, u2], _, [], _, [], _ => exact ⟨fun h => by with_unfolding_all rfl, fun h T => absurd rfl h⟩
theorem bn__law_refused_2 : Bnd (defArgs (topS 30)) 0 2 [] [(Str.ofString "box"), (Str.ofString "by_name")] [.a 0, .a 1] := by
  intro x qual body scope kV doc pm an cdv ct us ws its h1 h2 h3
  match us, h1, ws, h2, its, h3 with
  | [u0, u1], _, [], _, [], _ => exact ⟨fun h => by with_unfolding_all rfl, fun h T => absurd rfl h⟩
structure Txt (P : Program) (w : World) (K : PySem.W.Frag) (mg : Str → Option Value) (base : Heap) (kx : Nat) (C_IntervalError C_InvalidLetters C_InvalidRow : Addr) : Prop where
  b_abs : mg (Str.ofString "abs") = none
  b_all : mg (Str.ofString "all") = none
  b_bool : mg (Str.ofString "bool") = none
  b_dict : mg (Str.ofString "dict") = none
  b_int : mg (Str.ofString "int") = none
  b_isinstance : mg (Str.ofString "isinstance") = none
  b_len : mg (Str.ofString "len") = none
  b_list : mg (Str.ofString "list") = none
  b_max : mg (Str.ofString "max") = none
  b_min : mg (Str.ofString "min") = none
  b_range : mg (Str.ofString "range") = none
  b_str : mg (Str.ofString "str") = none
  b_sum : mg (Str.ofString "sum") = none
  b_tuple : mg (Str.ofString "tuple") = none
  g_LETTERS : GloD K mg (Str.ofString "LETTERS") (.str (Str.ofString "abcdef"))
  g_MOST_LETTERS : GloD K mg (Str.ofString "MOST_LETTERS") (.int 12)
  g_MOST_ROW : GloD K mg (Str.ofString "MOST_ROW") (.int 60)
  x_InvalidLetters : ExcD P w K mg base (Str.ofString "InvalidLetters") [(Str.ofString "given")] kx
  x_InvalidRow : ExcD P w K mg base (Str.ofString "InvalidRow") [(Str.ofString "given")] kx
  cl : True
  n_IntervalError : mg (Str.ofString "IntervalError") = some (.ref C_IntervalError)
  n_InvalidLetters : mg (Str.ofString "InvalidLetters") = some (.ref C_InvalidLetters)
  n_InvalidRow : mg (Str.ofString "InvalidRow") = some (.ref C_InvalidRow)
  m_InvalidLetters : MatchD K mg (.ref C_InvalidLetters) (isa_ (Str.ofString "InvalidLetters"))
  m_InvalidRow : MatchD K mg (.ref C_InvalidRow) (isa_ (Str.ofString "InvalidRow"))
  i_IntervalError : IsaD K mg (.ref C_IntervalError) (isa_ (Str.ofString "IntervalError"))
  f_InvalidLetters_given : XfD K mg (Str.ofString "InvalidLetters") (Str.ofString "given")
  f_InvalidRow_given : XfD K mg (Str.ofString "InvalidRow") (Str.ofString "given")
section
variable {P : Program} {w : World} {K : PySem.W.Frag} {mg : Str → Option Value} {base : Heap} {C_IntervalError C_InvalidLetters C_InvalidRow : Addr}
theorem ok__law_box (T : Txt P w K mg base 1 C_IntervalError C_InvalidLetters C_InvalidRow) {f : Addr} {fd : FuncData} (F : FunD K (Str.ofString "_law_box") (Str.ofString "_law_box") (defArgs (topS 18)) (defBody (topS 18)) (defScope (topS 18)) (([] : List D).map D.flatV) [] f fd) (hm : mg (Str.ofString "_law_box") = some (.ref f))  : CalD P w K mg base (Str.ofString "_law_box") (defArgs (topS 18)) [] [(Str.ofString "great")] 1 den__law_box := by
  refine calD_of F hm sc__law_box fun cdv A outer s H E hr => ?_
  have hu := hr.units
  have hu5 := room5 hr; have hu9 := room9 hr
  exact (pssd_one (psd_ret (pd_lst (pad_cons (pd_callB cabs T.b_abs PyProof.Rows.Boot.abs (pad_cons (pd_var 0) pad_nil)) (pad_cons (pd_cmp (oge hu) (pd_callB cabs T.b_abs PyProof.Rows.Boot.abs (pad_cons (pd_var 0) pad_nil)) (pd_op opow pd_int pd_int)) (pad_cons (pd_op omod (pd_callTy cint T.b_int PyProof.Rows.Boot.int (pad_cons (pd_callB cabs T.b_abs PyProof.Rows.Boot.abs (pad_cons (pd_var 0) pad_nil)) pad_nil)) pd_int) (pad_cons pd_int pad_nil)))))))
theorem ok__law_cell (T : Txt P w K mg base 1 C_IntervalError C_InvalidLetters C_InvalidRow) {f : Addr} {fd : FuncData} (F : FunD K (Str.ofString "_law_cell") (Str.ofString "_law_cell") (defArgs (topS 17)) (defBody (topS 17)) (defScope (topS 17)) (([] : List D).map D.flatV) [] f fd) (hm : mg (Str.ofString "_law_cell") = some (.ref f))  : CalD P w K mg base (Str.ofString "_law_cell") (defArgs (topS 17)) [] [(Str.ofString "script"), (Str.ofString "k")] 1 den__law_cell := by
  refine calD_of F hm sc__law_cell fun cdv A outer s H E hr => ?_
  have hu := hr.units
  have hu5 := room5 hr; have hu9 := room9 hr
  exact (pssd_one (psd_ret (pd_if (ptd_cmp (olt hu) (pd_var 1) (pd_callB clen T.b_len PyProof.Rows.Boot.len (pad_cons (pd_var 0) pad_nil))) (pd_ix hu9 (pd_var 0) (pd_var 1)) (pd_op oadd (pd_op omul pd_int (pd_var 1)) (pd_op omod (pd_callTy cint T.b_int PyProof.Rows.Boot.int (pad_cons (pd_callB (csum rfl) T.b_sum PyProof.Rows.Boot.sum (pad_cons (pd_sl (pd_var 0) pod_no (pod_at pd_int)) pad_nil)) pad_nil)) pd_int)))))
theorem ok__law_take (T : Txt P w K mg base 1 C_IntervalError C_InvalidLetters C_InvalidRow) {f : Addr} {fd : FuncData} (F : FunD K (Str.ofString "_law_take") (Str.ofString "_law_take") (defArgs (topS 19)) (defBody (topS 19)) (defScope (topS 19)) (([] : List D).map D.flatV) [] f fd) (hm : mg (Str.ofString "_law_take") = some (.ref f))  : CalD P w K mg base (Str.ofString "_law_take") (defArgs (topS 19)) [] [(Str.ofString "box"), (Str.ofString "many")] 1 den__law_take := by
  refine calD_of F hm sc__law_take fun cdv A outer s H E hr => ?_
  have hu := hr.units
  have hu5 := room5 hr; have hu9 := room9 hr
  exact (pssd_cons (psd_if ((pwd_and (ptd_tru (pd_bor (pd_ix hu9 (pd_var 0) pd_int))) (pwd_and1 (ptd_cmp (ogt hu) (pd_bor (pd_ix hu9 (pd_var 0) pd_int)) pd_int)))).pt (pssd_cons (psd_asg 3 sc__law_take.nd (pd_op omod (pd_callTy cint T.b_int PyProof.Rows.Boot.int (pad_cons (pd_bor (pd_ix hu9 (pd_var 0) pd_int)) pad_nil)) (pd_var 1)))
    (pssd_cons (psd_setIx 0 (pd_op ofdiv (pd_bor (pd_ix hu9 (pd_var 0) pd_int)) (pd_var 1)) pd_int)
    (pssd_one (psd_ret (pd_var 3))))) pssd_nil)
    (pssd_cons (psd_setIx 0 (pd_op oadd (pd_bor (pd_ix hu9 (pd_var 0) pd_int)) pd_int) pd_int)
    (pssd_cons (psd_asg 2 sc__law_take.nd (pd_op omod (pd_callTy cint T.b_int PyProof.Rows.Boot.int (pad_cons (pd_op opow (pd_op oadd (pd_op oadd (pd_bor (pd_ix hu9 (pd_var 0) pd_int)) (pd_op omul pd_int (pd_bor (pd_ix hu9 (pd_var 0) pd_int)))) pd_int) pd_int) pad_nil)) pd_int))
    (pssd_one (psd_ret (pd_op omod (pd_callTy cint T.b_int PyProof.Rows.Boot.int (pad_cons (pd_op ofdiv (pd_op omod (pd_callTy cint T.b_int PyProof.Rows.Boot.int (pad_cons (pd_op opow (pd_op oadd (pd_op omul (pd_var 2) pd_int) (pd_op omul pd_int (pd_bor (pd_ix hu9 (pd_var 0) pd_int)))) pd_int) pad_nil)) pd_int) pd_int) pad_nil)) (pd_var 1)))))))
theorem ok__law_letters (T : Txt P w K mg base 1 C_IntervalError C_InvalidLetters C_InvalidRow) {f : Addr} {fd : FuncData} (F : FunD K (Str.ofString "_law_letters") (Str.ofString "_law_letters") (defArgs (topS 23)) (defBody (topS 23)) (defScope (topS 23)) (([] : List D).map D.flatV) [] f fd) (hm : mg (Str.ofString "_law_letters") = some (.ref f)) (c__law_take : CalD P w K mg base (Str.ofString "_law_take") (defArgs (topS 19)) [] [(Str.ofString "box"), (Str.ofString "many")] 1 den__law_take) : CalD P w K mg base (Str.ofString "_law_letters") (defArgs (topS 23)) [] [(Str.ofString "box"), (Str.ofString "most")] 2 den__law_letters := by
  refine calD_of F hm sc__law_letters fun cdv A outer s H E hr => ?_
  have hu := hr.units
  have hu5 := room5 hr; have hu9 := room9 hr
  exact (pssd_cons (psd_par2 sc__law_letters.nd (pos_cons false (pd_op oadd pd_int (pd_callG c__law_take bn__law_take_2 (hr.mono (by decide)) (takes_of rfl rfl rfl rfl) (pcd_r 0 (pcd_v pd_int pcd_nil)) pkd_nil)) (pos_cons false (pd_ix hu9 (pd_lst (pad_cons (pd_callG c__law_take bn__law_take_2 (hr.mono (by decide)) (takes_of rfl rfl rfl rfl) (pcd_r 0 (pcd_v pd_int pcd_nil)) pkd_nil) (pad_cons (pd_callG c__law_take bn__law_take_2 (hr.mono (by decide)) (takes_of rfl rfl rfl rfl) (pcd_r 0 (pcd_v (pd_op oadd (pd_var 1) pd_int) pcd_nil)) pkd_nil) (pad_cons (pd_var 1) pad_nil)))) (pd_callG c__law_take bn__law_take_2 (hr.mono (by decide)) (takes_of rfl rfl rfl rfl) (pcd_r 0 (pcd_v pd_int pcd_nil)) pkd_nil)) pos_nil)))
    (pssd_cons (psd_par3 sc__law_letters.nd (pos_cons false (pd_callB (cmin2 rfl) T.b_min PyProof.Rows.Boot.min (pad_cons (pd_var 3) (pad_cons (pd_var 1) pad_nil))) (pos_cons false (pd_callG c__law_take bn__law_take_2 (hr.mono (by decide)) (takes_of rfl rfl rfl rfl) (pcd_r 0 (pcd_v pd_int pcd_nil)) pkd_nil) (pos_cons false pd_str pos_nil))))
    (pssd_cons (psd_while 100000 (passes_of rfl) (ptd_cmp (olt hu) (pd_callB clen T.b_len PyProof.Rows.Boot.len (pad_cons (pd_var 5) pad_nil)) (pd_var 3)) (pssd_cons (psd_asg 6 sc__law_letters.nd (pd_ix hu9 pd_str (pd_callG c__law_take bn__law_take_2 (hr.mono (by decide)) (takes_of rfl rfl rfl rfl) (pcd_r 0 (pcd_v (pd_var 2) pcd_nil)) pkd_nil)))
    (pssd_one (psd_asg 5 sc__law_letters.nd (pd_op oadd (pd_var 5) (pd_if (ptd_cmp (ogt hu) (pd_var 4) pd_int) (pd_var 6) (pd_op omul (pd_var 6) (pd_op oadd pd_int (pd_callG c__law_take bn__law_take_2 (hr.mono (by decide)) (takes_of rfl rfl rfl rfl) (pcd_r 0 (pcd_v pd_int pcd_nil)) pkd_nil)))))))))
    (pssd_one (psd_ret (pd_sl (pd_var 5) pod_no (pod_at (pd_var 3))))))))
theorem ok_are_letters (T : Txt P w K mg base 1 C_IntervalError C_InvalidLetters C_InvalidRow) {f : Addr} {fd : FuncData} (F : FunD K (Str.ofString "are_letters") (Str.ofString "are_letters") (defArgs (topS 9)) (defBody (topS 9)) (defScope (topS 9)) (([] : List D).map D.flatV) [] f fd) (hm : mg (Str.ofString "are_letters") = some (.ref f))  : CalD P w K mg base (Str.ofString "are_letters") (defArgs (topS 9)) [] [(Str.ofString "value"), (Str.ofString "most")] 1 den_are_letters := by
  refine calD_of F hm sc_are_letters fun cdv A outer s H E hr => ?_
  have hu := hr.units
  have hu5 := room5 hr; have hu9 := room9 hr
  exact (pssd_one (psd_ret (pd_and (pd_isi1 .str (pd_var 0) T.b_isinstance T.b_str) (pd_and (pd_cmp (ole hu) (pd_callB clen T.b_len PyProof.Rows.Boot.len (pad_cons (pd_var 0) pad_nil)) (pd_var 1)) (pd_one (pd_callB (call_all_ rfl) T.b_all PyProof.Rows.Boot.all (pad_cons (pd_lc [((Str.ofString "sign"), 2)] sc_are_letters.nd (pid_any (pd_var 0)) (blk_ok (by kernel_rfl)) (fun s H C cl fp => (pgd_name (i := 2) sc_are_letters.nd rfl (by first | exact Or.inl rfl | exact Or.inr rfl))) (fun s H C cl fp => ptsd_nil) (fun s H C cl fp => (pd_cmp (oin hu5) (pd_var 2) (pd_glob T.g_LETTERS)))) pad_nil)))))))
theorem ok_check_row (T : Txt P w K mg base 1 C_IntervalError C_InvalidLetters C_InvalidRow) {f : Addr} {fd : FuncData} (F : FunD K (Str.ofString "check_row") (Str.ofString "check_row") (defArgs (topS 10)) (defBody (topS 10)) (defScope (topS 10)) (([] : List D).map D.flatV) [] f fd) (hm : mg (Str.ofString "check_row") = some (.ref f)) (c_are_letters : CalD P w K mg base (Str.ofString "are_letters") (defArgs (topS 9)) [] [(Str.ofString "value"), (Str.ofString "most")] 1 den_are_letters) : CalD P w K mg base (Str.ofString "check_row") (defArgs (topS 10)) [] [(Str.ofString "row")] 3 den_check_row := by
  refine calD_of F hm sc_check_row fun cdv A outer s H E hr => ?_
  have hu := hr.units
  have hu5 := room5 hr; have hu9 := room9 hr
  exact (pssd_one (psd_if (ptd_not (ptd_tru (pd_callG c_are_letters bn_are_letters_2 (hr.mono (by decide)) (takes_of rfl rfl rfl rfl) (pcd_v (pd_var 0) (pcd_v (pd_glob T.g_MOST_ROW) pcd_nil)) pkd_nil))) (pssd_one (psd_raise T.x_InvalidRow (hr.mono (by decide)) (takes_of rfl rfl rfl rfl) (pad_cons (pd_var 0) pad_nil))) pssd_nil))
theorem ok_check_both (T : Txt P w K mg base 1 C_IntervalError C_InvalidLetters C_InvalidRow) {f : Addr} {fd : FuncData} (F : FunD K (Str.ofString "check_both") (Str.ofString "check_both") (defArgs (topS 11)) (defBody (topS 11)) (defScope (topS 11)) (([] : List D).map D.flatV) [] f fd) (hm : mg (Str.ofString "check_both") = some (.ref f)) (c_are_letters : CalD P w K mg base (Str.ofString "are_letters") (defArgs (topS 9)) [] [(Str.ofString "value"), (Str.ofString "most")] 1 den_are_letters) (c_check_row : CalD P w K mg base (Str.ofString "check_row") (defArgs (topS 10)) [] [(Str.ofString "row")] 3 den_check_row) : CalD P w K mg base (Str.ofString "check_both") (defArgs (topS 11)) [] [(Str.ofString "row"), (Str.ofString "letters")] 4 den_check_both := by
  refine calD_of F hm sc_check_both fun cdv A outer s H E hr => ?_
  have hu := hr.units
  have hu5 := room5 hr; have hu9 := room9 hr
  exact (pssd_cons (psd_drop (pd_callG c_check_row bn_check_row_1 (hr.mono (by decide)) (takes_of rfl rfl rfl rfl) (pcd_v (pd_var 0) pcd_nil) pkd_nil))
    (pssd_one (psd_if (ptd_not (ptd_tru (pd_callG c_are_letters bn_are_letters_2 (hr.mono (by decide)) (takes_of rfl rfl rfl rfl) (pcd_v (pd_var 1) (pcd_v (pd_glob T.g_MOST_LETTERS) pcd_nil)) pkd_nil))) (pssd_one (psd_raise T.x_InvalidLetters (hr.mono (by decide)) (takes_of rfl rfl rfl rfl) (pad_cons (pd_var 1) pad_nil))) pssd_nil)))
theorem ok_has_all (T : Txt P w K mg base 1 C_IntervalError C_InvalidLetters C_InvalidRow) {f : Addr} {fd : FuncData} (F : FunD K (Str.ofString "has_all") (Str.ofString "has_all") (defArgs (topS 13)) (defBody (topS 13)) (defScope (topS 13)) (([] : List D).map D.flatV) [] f fd) (hm : mg (Str.ofString "has_all") = some (.ref f))  : CalD P w K mg base (Str.ofString "has_all") (defArgs (topS 13)) [] [(Str.ofString "row"), (Str.ofString "letters")] 1 den_has_all := by
  refine calD_of F hm sc_has_all fun cdv A outer s H E hr => ?_
  have hu := hr.units
  have hu5 := room5 hr; have hu9 := room9 hr
  exact (pssd_one (psd_ret (pd_callB (call_all_ rfl) T.b_all PyProof.Rows.Boot.all (pad_cons (pd_lc [((Str.ofString "letter"), 2)] sc_has_all.nd (pid_any (pd_var 1)) (blk_ok (by kernel_rfl)) (fun s H C cl fp => (pgd_name (i := 2) sc_has_all.nd rfl (by first | exact Or.inl rfl | exact Or.inr rfl))) (fun s H C cl fp => ptsd_nil) (fun s H C cl fp => (pd_cmp (oge hu) (pd_count (pd_var 0) (pd_var 2)) (pd_count (pd_var 1) (pd_var 2))))) pad_nil))))
theorem ok_windows_of (T : Txt P w K mg base 1 C_IntervalError C_InvalidLetters C_InvalidRow) {f : Addr} {fd : FuncData} (F : FunD K (Str.ofString "windows_of") (Str.ofString "windows_of") (defArgs (topS 12)) (defBody (topS 12)) (defScope (topS 12)) (([] : List D).map D.flatV) [] f fd) (hm : mg (Str.ofString "windows_of") = some (.ref f))  : CalD P w K mg base (Str.ofString "windows_of") (defArgs (topS 12)) [] [(Str.ofString "row")] 1 den_windows_of := by
  refine calD_of F hm sc_windows_of fun cdv A outer s H E hr => ?_
  have hu := hr.units
  have hu5 := room5 hr; have hu9 := room9 hr
  exact (pssd_cons (psd_asg 1 sc_windows_of.nd (pd_callB clen T.b_len PyProof.Rows.Boot.len (pad_cons (pd_var 0) pad_nil)))
    (pssd_one (psd_ret (pd_lc2 [((Str.ofString "low"), 2), ((Str.ofString "high"), 3)] [3] sc_windows_of.nd (pid_rng1 (pad_cons (pd_var 1) pad_nil) T.b_range) (blk_ok (by kernel_rfl)) (fun s H C cl fp => (pgd_name (i := 2) sc_windows_of.nd rfl (by first | exact Or.inl rfl | exact Or.inr rfl))) (fun s H C cl fp => ptsd_nil) (fun s H C cl fp => (pid_rng2 (pad_cons (pd_op oadd (pd_var 2) pd_int) (pad_cons (pd_op oadd (pd_var 1) pd_int) pad_nil)) T.b_range)) (fun s H C cl fp => (pgd_name (i := 3) sc_windows_of.nd rfl (by first | exact Or.inl rfl | exact Or.inr rfl))) (fun s H C cl fp => ptsd_nil) (fun s H C cl fp => (pd_tup (pad_cons (pd_op osub (pd_var 3) (pd_var 2)) (pad_cons (pd_var 2) pad_nil))))))))
theorem ok_least_window (T : Txt P w K mg base 1 C_IntervalError C_InvalidLetters C_InvalidRow) {f : Addr} {fd : FuncData} (F : FunD K (Str.ofString "least_window") (Str.ofString "least_window") (defArgs (topS 14)) (defBody (topS 14)) (defScope (topS 14)) (([] : List D).map D.flatV) [] f fd) (hm : mg (Str.ofString "least_window") = some (.ref f)) (c_check_both : CalD P w K mg base (Str.ofString "check_both") (defArgs (topS 11)) [] [(Str.ofString "row"), (Str.ofString "letters")] 4 den_check_both) (c_has_all : CalD P w K mg base (Str.ofString "has_all") (defArgs (topS 13)) [] [(Str.ofString "row"), (Str.ofString "letters")] 1 den_has_all) (c_windows_of : CalD P w K mg base (Str.ofString "windows_of") (defArgs (topS 12)) [] [(Str.ofString "row")] 1 den_windows_of) : CalD P w K mg base (Str.ofString "least_window") (defArgs (topS 14)) [] [(Str.ofString "row"), (Str.ofString "letters")] 5 den_least_window := by
  refine calD_of F hm sc_least_window fun cdv A outer s H E hr => ?_
  have hu := hr.units
  have hu5 := room5 hr; have hu9 := room9 hr
  exact (pssd_cons (psd_drop (pd_callG c_check_both bn_check_both_2 (hr.mono (by decide)) (takes_of rfl rfl rfl rfl) (pcd_v (pd_var 0) (pcd_v (pd_var 1) pcd_nil)) pkd_nil))
    (pssd_cons (psd_if (ptd_cmp (oeq hu) (pd_var 1) pd_str) (pssd_one (psd_ret (pd_tup (pad_cons pd_int (pad_cons pd_int pad_nil))))) pssd_nil)
    (pssd_cons (psd_lc 2 [((Str.ofString "length"), 3), ((Str.ofString "low"), 4)] sc_least_window.nd (pid_any (pd_callG c_windows_of bn_windows_of_1 (hr.mono (by decide)) (takes_of rfl rfl rfl rfl) (pcd_v (pd_var 0) pcd_nil) pkd_nil)) (blk_ok (by kernel_rfl)) (fun s H C cl fp => (pgd_tup (pgsd_cons (pgd_name (i := 3) sc_least_window.nd rfl (by first | exact Or.inl rfl | exact Or.inr rfl)) (pgsd_cons (pgd_name (i := 4) sc_least_window.nd rfl (by first | exact Or.inl rfl | exact Or.inr rfl)) pgsd_nil)))) (fun s H C cl fp => (ptsd_one (ptd_tru (pd_callG c_has_all bn_has_all_2 (hr.mono (by decide)) takes_none5 (pcd_v (pd_sl (pd_var 0) (pod_at (pd_var 4)) (pod_at (pd_op oadd (pd_var 4) (pd_var 3)))) (pcd_v (pd_var 1) pcd_nil)) pkd_nil)))) (fun s H C cl fp => (pd_tup (pad_cons (pd_var 3) (pad_cons (pd_var 4) pad_nil)))) (sw_true rfl rfl rfl rfl))
    (pssd_one (psd_ret (pd_if (ptd_cmp (one_ hu) (pd_var 2) (pd_lst pad_nil)) (pd_callB (cminL rfl hu9) T.b_min PyProof.Rows.Boot.min (pad_cons (pd_var 2) pad_nil)) pd_non))))))
theorem ok_window_bar (T : Txt P w K mg base 1 C_IntervalError C_InvalidLetters C_InvalidRow) {f : Addr} {fd : FuncData} (F : FunD K (Str.ofString "window_bar") (Str.ofString "window_bar") (defArgs (topS 15)) (defBody (topS 15)) (defScope (topS 15)) (([] : List D).map D.flatV) [] f fd) (hm : mg (Str.ofString "window_bar") = some (.ref f)) (c_check_both : CalD P w K mg base (Str.ofString "check_both") (defArgs (topS 11)) [] [(Str.ofString "row"), (Str.ofString "letters")] 4 den_check_both) : CalD P w K mg base (Str.ofString "window_bar") (defArgs (topS 15)) [] [(Str.ofString "row"), (Str.ofString "letters")] 5 den_window_bar := by
  refine calD_of F hm sc_window_bar fun cdv A outer s H E hr => ?_
  have hu := hr.units
  have hu5 := room5 hr; have hu9 := room9 hr
  exact (pssd_cons (psd_drop (pd_callG c_check_both bn_check_both_2 (hr.mono (by decide)) (takes_of rfl rfl rfl rfl) (pcd_v (pd_var 0) (pcd_v (pd_var 1) pcd_nil)) pkd_nil))
    (pssd_cons (psd_lc 2 [((Str.ofString "letter"), 3)] sc_window_bar.nd (pid_any (pd_glob T.g_LETTERS)) (blk_ok (by kernel_rfl)) (fun s H C cl fp => (pgd_name (i := 3) sc_window_bar.nd rfl (by first | exact Or.inl rfl | exact Or.inr rfl))) (fun s H C cl fp => (ptsd_one (ptd_cmp (olt hu) (pd_count (pd_var 0) (pd_var 3)) (pd_count (pd_var 1) (pd_var 3))))) (fun s H C cl fp => (pd_var 3)) (sw_true rfl rfl rfl rfl))
    (pssd_one (psd_ret (pd_if (ptd_cmp (one_ hu) (pd_var 2) (pd_lst pad_nil)) (pd_ix hu9 (pd_var 2) pd_int) pd_non)))))
theorem ok__law_asked (T : Txt P w K mg base 1 C_IntervalError C_InvalidLetters C_InvalidRow) {f : Addr} {fd : FuncData} (F : FunD K (Str.ofString "_law_asked") (Str.ofString "_law_asked") (defArgs (topS 28)) (defBody (topS 28)) (defScope (topS 28)) (([] : List D).map D.flatV) [] f fd) (hm : mg (Str.ofString "_law_asked") = some (.ref f)) (c_least_window : CalD P w K mg base (Str.ofString "least_window") (defArgs (topS 14)) [] [(Str.ofString "row"), (Str.ofString "letters")] 5 den_least_window) (c_window_bar : CalD P w K mg base (Str.ofString "window_bar") (defArgs (topS 15)) [] [(Str.ofString "row"), (Str.ofString "letters")] 5 den_window_bar) : CalD P w K mg base (Str.ofString "_law_asked") (defArgs (topS 28)) [] [(Str.ofString "word"), (Str.ofString "row"), (Str.ofString "letters"), (Str.ofString "by_name")] 6 den__law_asked := by
  refine calD_of F hm sc__law_asked fun cdv A outer s H E hr => ?_
  have hu := hr.units
  have hu5 := room5 hr; have hu9 := room9 hr
  exact (pssd_one (psd_try (takes_of rfl rfl rfl rfl) (fun W pn xe tk hp => (pssd_cons (psd_asg 5 sc__law_asked.nd (pd_if (ptd_cmp (oeq hu) (pd_var 0) pd_str) (pd_fnC c_least_window) (pd_fnC c_window_bar)))
    (pssd_one (psd_ret (pd_lst (pad_cons pd_str (pad_cons (pd_if (ptd_tru (pd_var 3)) (pd_callV0 5 c_least_window bn_least_window_0_letters_row (hr.mono (by decide)) tk (pkd_v (pd_var 2) (pkd_v (pd_var 1) pkd_nil)) (pd_callV0 5 c_window_bar bn_window_bar_0_letters_row (hr.mono (by decide)) tk (pkd_v (pd_var 2) (pkd_v (pd_var 1) pkd_nil)) pd_noFn)) (pd_callV 5 c_least_window bn_least_window_2 (hr.mono (by decide)) tk (pcd_v (pd_var 1) (pcd_v (pd_var 2) pcd_nil)) pkd_nil (pd_callV 5 c_window_bar bn_window_bar_2 (hr.mono (by decide)) tk (pcd_v (pd_var 1) (pcd_v (pd_var 2) pcd_nil)) pkd_nil pd_noFn))) pad_nil))))))) (.as sc__law_asked.nd rfl rfl ⟨rfl, by decide, .inl T.n_InvalidRow⟩ T.m_InvalidRow (fun a oe cls d pn hz hf => (pxe_lst (pxs_cons pxe_str (pxs_cons (pxe_fld T.f_InvalidRow_given hz hf rfl (by first | exact Or.inl rfl | exact Or.inr (Or.inl rfl) | exact Or.inr (Or.inr rfl))) pxs_nil)))) (.as sc__law_asked.nd rfl rfl ⟨rfl, by decide, .inl T.n_InvalidLetters⟩ T.m_InvalidLetters (fun a oe cls d pn hz hf => (pxe_if (pxe_isa T.i_IntervalError T.n_IntervalError rfl T.b_isinstance rfl hz hf rfl (by first | exact Or.inl rfl | exact Or.inr (Or.inl rfl) | exact Or.inr (Or.inr rfl))) (pxe_lst (pxs_cons pxe_str (pxs_cons (pxe_fld T.f_InvalidLetters_given hz hf rfl (by first | exact Or.inl rfl | exact Or.inr (Or.inl rfl) | exact Or.inr (Or.inr rfl))) pxs_nil))) (pxe_lst (pxs_cons pxe_str (pxs_cons pxe_non pxs_nil))))) .nil))))
theorem ok__law_has (T : Txt P w K mg base 1 C_IntervalError C_InvalidLetters C_InvalidRow) {f : Addr} {fd : FuncData} (F : FunD K (Str.ofString "_law_has") (Str.ofString "_law_has") (defArgs (topS 26)) (defBody (topS 26)) (defScope (topS 26)) (([] : List D).map D.flatV) [] f fd) (hm : mg (Str.ofString "_law_has") = some (.ref f))  : CalD P w K mg base (Str.ofString "_law_has") (defArgs (topS 26)) [] [(Str.ofString "some"), (Str.ofString "letters")] 1 den__law_has := by
  refine calD_of F hm sc__law_has fun cdv A outer s H E hr => ?_
  have hu := hr.units
  have hu5 := room5 hr; have hu9 := room9 hr
  exact (pssd_one (psd_ret (pd_cmp (oeq hu) (pd_lc [((Str.ofString "letter"), 2)] sc__law_has.nd (pid_any pd_str) (blk_ok (by kernel_rfl)) (fun s H C cl fp => (pgd_name (i := 2) sc__law_has.nd rfl (by first | exact Or.inl rfl | exact Or.inr rfl))) (fun s H C cl fp => (ptsd_one (ptd_cmp (olt hu) (pd_count (pd_var 0) (pd_var 2)) (pd_count (pd_var 1) (pd_var 2))))) (fun s H C cl fp => (pd_var 2))) (pd_lst pad_nil))))
theorem ok__law_least (T : Txt P w K mg base 1 C_IntervalError C_InvalidLetters C_InvalidRow) {f : Addr} {fd : FuncData} (F : FunD K (Str.ofString "_law_least") (Str.ofString "_law_least") (defArgs (topS 27)) (defBody (topS 27)) (defScope (topS 27)) (([] : List D).map D.flatV) [] f fd) (hm : mg (Str.ofString "_law_least") = some (.ref f)) (c__law_has : CalD P w K mg base (Str.ofString "_law_has") (defArgs (topS 26)) [] [(Str.ofString "some"), (Str.ofString "letters")] 1 den__law_has) : CalD P w K mg base (Str.ofString "_law_least") (defArgs (topS 27)) [] [(Str.ofString "row"), (Str.ofString "letters")] 2 den__law_least := by
  refine calD_of F hm sc__law_least fun cdv A outer s H E hr => ?_
  have hu := hr.units
  have hu5 := room5 hr; have hu9 := room9 hr
  exact (pssd_cons (psd_for (passes_of rfl) (pid_rng1 (pad_cons (pd_op oadd (pd_callB clen T.b_len PyProof.Rows.Boot.len (pad_cons (pd_var 0) pad_nil)) pd_int) pad_nil) T.b_range) (pgd_name (i := 2) sc__law_least.nd rfl (by first | exact Or.inl rfl | exact Or.inr rfl)) (pssd_one (psd_for (passes_of rfl) (pid_rng1 (pad_cons (pd_op oadd (pd_op osub (pd_callB clen T.b_len PyProof.Rows.Boot.len (pad_cons (pd_var 0) pad_nil)) (pd_var 2)) pd_int) pad_nil) T.b_range) (pgd_name (i := 3) sc__law_least.nd rfl (by first | exact Or.inl rfl | exact Or.inr rfl)) (pssd_one (psd_if (ptd_tru (pd_callG c__law_has bn__law_has_2 (hr.mono (by decide)) (takes_of rfl rfl rfl rfl) (pcd_v (pd_sl (pd_var 0) (pod_at (pd_var 3)) (pod_at (pd_op oadd (pd_var 3) (pd_var 2)))) (pcd_v (pd_var 1) pcd_nil)) pkd_nil)) (pssd_one (psd_ret (pd_tup (pad_cons (pd_var 2) (pad_cons (pd_var 3) pad_nil))))) pssd_nil)))))
    (pssd_one (psd_ret pd_non)))
theorem ok__law_same (T : Txt P w K mg base 1 C_IntervalError C_InvalidLetters C_InvalidRow) {f : Addr} {fd : FuncData} (F : FunD K (Str.ofString "_law_same") (Str.ofString "_law_same") (defArgs (topS 20)) (defBody (topS 20)) (defScope (topS 20)) (([] : List D).map D.flatV) [] f fd) (hm : mg (Str.ofString "_law_same") = some (.ref f))  : ∀ n : Nat, CalD P w K mg base (Str.ofString "_law_same") (defArgs (topS 20)) [] [(Str.ofString "told"), (Str.ofString "due")] (n + 1) (den__law_same n)
  | 0 => calD_bad F hm sc__law_same (fun as => rfl)
  | n + 1 => by
    have c__law_same := ok__law_same T F hm  n
    refine calD_of F hm sc__law_same fun cdv A outer s H E hr => ?_
    have hu := hr.units
    have hu5 := room5 hr; have hu9 := room9 hr
    exact (pssd_cons (psd_if (ptd_cmp ois (pd_var 1) pd_non) (pssd_one (psd_ret (pd_cmp ois (pd_var 0) pd_non))) pssd_nil)
      (pssd_cons (psd_if (ptd_tru (pd_isi1 .bool (pd_var 1) T.b_isinstance T.b_bool)) (pssd_one (psd_ret (pd_and (pd_isi1 .bool (pd_var 0) T.b_isinstance T.b_bool) (pd_one (pd_cmp (oeq hu) (pd_cmp ois (pd_var 0) pd_bl) (pd_cmp ois (pd_var 1) pd_bl)))))) pssd_nil)
      (pssd_cons (psd_if (ptd_tru (pd_isi1 .int (pd_var 1) T.b_isinstance T.b_int)) (pssd_one (psd_ret (pd_and (pd_isi1 .int (pd_var 0) T.b_isinstance T.b_int) (pd_and (pd_not (pd_isi1 .bool (pd_var 0) T.b_isinstance T.b_bool)) (pd_one (pd_cmp (oeq hu) (pd_op osub (pd_callTy cint T.b_int PyProof.Rows.Boot.int (pad_cons (pd_var 0) pad_nil)) (pd_var 1)) pd_int)))))) pssd_nil)
      (pssd_cons (psd_if (ptd_tru (pd_isi1 .str (pd_var 1) T.b_isinstance T.b_str)) (pssd_one (psd_ret (pd_and (pd_isi1 .str (pd_var 0) T.b_isinstance T.b_str) (pd_and (pd_cmp (oeq hu) (pd_callB clen T.b_len PyProof.Rows.Boot.len (pad_cons (pd_var 0) pad_nil)) (pd_callB clen T.b_len PyProof.Rows.Boot.len (pad_cons (pd_var 1) pad_nil))) (pd_one (pd_cmp (oeq hu) (pd_lc [((Str.ofString "k"), 2)] sc__law_same.nd (pid_rng1 (pad_cons (pd_callB clen T.b_len PyProof.Rows.Boot.len (pad_cons (pd_var 1) pad_nil)) pad_nil) T.b_range) (blk_ok (by kernel_rfl)) (fun s H C cl fp => (pgd_name (i := 2) sc__law_same.nd rfl (by first | exact Or.inl rfl | exact Or.inr rfl))) (fun s H C cl fp => (ptsd_one (ptd_cmp (one_ hu) (pd_sl (pd_var 0) (pod_at (pd_var 2)) (pod_at (pd_op oadd (pd_var 2) pd_int))) (pd_ix hu9 (pd_var 1) (pd_var 2))))) (fun s H C cl fp => (pd_var 2))) (pd_lst pad_nil))))))) pssd_nil)
      (pssd_cons (psd_if (ptd_tru (pd_isi1 .dict (pd_var 1) T.b_isinstance T.b_dict)) (pssd_one (psd_ret (pd_and (pd_isi1 .dict (pd_var 0) T.b_isinstance T.b_dict) (pd_and (pd_cmp (oeq hu) (pd_callB clen T.b_len PyProof.Rows.Boot.len (pad_cons (pd_var 0) pad_nil)) (pd_callB clen T.b_len PyProof.Rows.Boot.len (pad_cons (pd_var 1) pad_nil))) (pd_one (pd_cmp (oeq hu) (pd_lc [((Str.ofString "key"), 3)] sc__law_same.nd (pid_any (pd_var 1)) (blk_ok (by kernel_rfl)) (fun s H C cl fp => (pgd_name (i := 3) sc__law_same.nd rfl (by first | exact Or.inl rfl | exact Or.inr rfl))) (fun s H C cl fp => (ptsd_one ((pwd_or (ptd_cmp (onotIn hu5) (pd_var 3) (pd_var 0)) (pwd_or1 (ptd_not (ptd_tru (pd_callG c__law_same bn__law_same_2 (hr.mono (by omega)) takes_none5 (pcd_v (pd_ix hu9 (pd_var 0) (pd_var 3)) (pcd_v (pd_ix hu9 (pd_var 1) (pd_var 3)) pcd_nil)) pkd_nil)))))).pt)) (fun s H C cl fp => (pd_var 3))) (pd_lst pad_nil))))))) pssd_nil)
      (pssd_cons (psd_if ((pwd_or (ptd_not (ptd_tru (pd_isi2 .list .tuple (pd_var 1) T.b_isinstance T.b_list T.b_tuple))) (pwd_or1 (ptd_not (ptd_tru (pd_isi2 .list .tuple (pd_var 0) T.b_isinstance T.b_list T.b_tuple)))))).pt (pssd_one (psd_ret pd_bl)) pssd_nil)
      (pssd_cons (psd_if ((pwd_or (ptd_cmp (one_ hu) (pd_isi1 .list (pd_var 0) T.b_isinstance T.b_list) (pd_isi1 .list (pd_var 1) T.b_isinstance T.b_list)) (pwd_or1 (ptd_cmp (one_ hu) (pd_callB clen T.b_len PyProof.Rows.Boot.len (pad_cons (pd_var 0) pad_nil)) (pd_callB clen T.b_len PyProof.Rows.Boot.len (pad_cons (pd_var 1) pad_nil)))))).pt (pssd_one (psd_ret pd_bl)) pssd_nil)
      (pssd_one (psd_ret (pd_cmp (oeq hu) (pd_lc [((Str.ofString "k"), 2)] sc__law_same.nd (pid_rng1 (pad_cons (pd_callB clen T.b_len PyProof.Rows.Boot.len (pad_cons (pd_var 1) pad_nil)) pad_nil) T.b_range) (blk_ok (by kernel_rfl)) (fun s H C cl fp => (pgd_name (i := 2) sc__law_same.nd rfl (by first | exact Or.inl rfl | exact Or.inr rfl))) (fun s H C cl fp => (ptsd_one (ptd_not (ptd_tru (pd_callG c__law_same bn__law_same_2 (hr.mono (by omega)) takes_none5 (pcd_v (pd_ix hu9 (pd_var 0) (pd_var 2)) (pcd_v (pd_ix hu9 (pd_var 1) (pd_var 2)) pcd_nil)) pkd_nil))))) (fun s H C cl fp => (pd_var 2))) (pd_lst pad_nil)))))))))))
theorem ok__law_pair_right (T : Txt P w K mg base 1 C_IntervalError C_InvalidLetters C_InvalidRow) {f : Addr} {fd : FuncData} (F : FunD K (Str.ofString "_law_pair_right") (Str.ofString "_law_pair_right") (defArgs (topS 29)) (defBody (topS 29)) (defScope (topS 29)) (([] : List D).map D.flatV) [] f fd) (hm : mg (Str.ofString "_law_pair_right") = some (.ref f)) (c__law_asked : CalD P w K mg base (Str.ofString "_law_asked") (defArgs (topS 28)) [] [(Str.ofString "word"), (Str.ofString "row"), (Str.ofString "letters"), (Str.ofString "by_name")] 6 den__law_asked) (c__law_has : CalD P w K mg base (Str.ofString "_law_has") (defArgs (topS 26)) [] [(Str.ofString "some"), (Str.ofString "letters")] 1 den__law_has) (c__law_least : CalD P w K mg base (Str.ofString "_law_least") (defArgs (topS 27)) [] [(Str.ofString "row"), (Str.ofString "letters")] 2 den__law_least) (c__law_same : CalD P w K mg base (Str.ofString "_law_same") (defArgs (topS 20)) [] [(Str.ofString "told"), (Str.ofString "due")] 9 (den__law_same 8)) : CalD P w K mg base (Str.ofString "_law_pair_right") (defArgs (topS 29)) [] [(Str.ofString "row"), (Str.ofString "letters"), (Str.ofString "by_name")] 10 den__law_pair_right := by
  refine calD_of F hm sc__law_pair_right fun cdv A outer s H E hr => ?_
  have hu := hr.units
  have hu5 := room5 hr; have hu9 := room9 hr
  exact (pssd_cons (psd_asg 3 sc__law_pair_right.nd (pd_callG c__law_least bn__law_least_2 (hr.mono (by decide)) (takes_of rfl rfl rfl rfl) (pcd_v (pd_var 0) (pcd_v (pd_var 1) pcd_nil)) pkd_nil))
    (pssd_cons (psd_lc 4 [((Str.ofString "letter"), 8)] sc__law_pair_right.nd (pid_any pd_str) (blk_ok (by kernel_rfl)) (fun s H C cl fp => (pgd_name (i := 8) sc__law_pair_right.nd rfl (by first | exact Or.inl rfl | exact Or.inr rfl))) (fun s H C cl fp => (ptsd_one (ptd_cmp (olt hu) (pd_count (pd_var 0) (pd_var 8)) (pd_count (pd_var 1) (pd_var 8))))) (fun s H C cl fp => (pd_var 8)) (sw_true rfl rfl rfl rfl))
    (pssd_cons (psd_if (ptd_cmp (one_ hu) (pd_cmp ois (pd_var 3) pd_non) (pd_cmp (one_ hu) (pd_var 4) (pd_lst pad_nil))) (pssd_one (psd_ret pd_bl)) pssd_nil)
    (pssd_cons (psd_for (passes_of rfl) (pid_any (pd_lst (pad_cons (pd_var 2) (pad_cons (pd_not (pd_var 2)) pad_nil)))) (pgd_name (i := 5) sc__law_pair_right.nd rfl (by first | exact Or.inl rfl | exact Or.inr rfl)) (pssd_cons (psd_asg 7 sc__law_pair_right.nd (pd_lst (pad_cons (pd_callG c__law_asked bn__law_asked_4 (hr.mono (by decide)) (takes_of rfl rfl rfl rfl) (pcd_v pd_str (pcd_v (pd_var 0) (pcd_v (pd_var 1) (pcd_v (pd_var 5) pcd_nil)))) pkd_nil) (pad_cons (pd_callG c__law_asked bn__law_asked_4 (hr.mono (by decide)) (takes_of rfl rfl rfl rfl) (pcd_v pd_str (pcd_v (pd_var 0) (pcd_v (pd_var 1) (pcd_v (pd_var 5) pcd_nil)))) pkd_nil) pad_nil))))
    (pssd_one (psd_if (ptd_not (ptd_tru (pd_callG c__law_same bn__law_same_2 (hr.mono (by decide)) (takes_of rfl rfl rfl rfl) (pcd_v (pd_var 7) (pcd_v (pd_lst (pad_cons (pd_lst (pad_cons pd_str (pad_cons (pd_var 3) pad_nil))) (pad_cons (pd_lst (pad_cons pd_str (pad_cons (pd_if (ptd_cmp (one_ hu) (pd_var 4) (pd_lst pad_nil)) (pd_ix hu9 (pd_var 4) pd_int) pd_non) pad_nil))) pad_nil))) pcd_nil)) pkd_nil))) (pssd_one (psd_ret pd_bl)) pssd_nil))))
    (pssd_cons (psd_if ((pwd_or (ptd_cmp ois (pd_var 3) pd_non) (pwd_or1 (ptd_cmp (oeq hu) (pd_ix hu9 (pd_var 3) pd_int) pd_int)))).pt (pssd_one (psd_ret pd_bl)) pssd_nil)
    (pssd_cons (psd_asg 6 sc__law_pair_right.nd (pd_sl (pd_var 0) (pod_at (pd_ix hu9 (pd_var 3) pd_int)) (pod_at (pd_op oadd (pd_ix hu9 (pd_var 3) pd_int) (pd_ix hu9 (pd_var 3) pd_int)))))
    (pssd_one (psd_ret (pd_and (pd_callG c__law_has bn__law_has_2 (hr.mono (by decide)) (takes_of rfl rfl rfl rfl) (pcd_v (pd_var 6) (pcd_v (pd_var 1) pcd_nil)) pkd_nil) (pd_and (pd_not (pd_callG c__law_has bn__law_has_2 (hr.mono (by decide)) (takes_of rfl rfl rfl rfl) (pcd_v (pd_sl (pd_var 6) (pod_at pd_int) pod_no) (pcd_v (pd_var 1) pcd_nil)) pkd_nil)) (pd_one (pd_not (pd_callG c__law_has bn__law_has_2 (hr.mono (by decide)) (takes_of rfl rfl rfl rfl) (pcd_v (pd_sl (pd_var 6) pod_no (pod_at (pd_un oneg pd_int))) (pcd_v (pd_var 1) pcd_nil)) pkd_nil)))))))))))))
theorem ok__law_blamed (T : Txt P w K mg base 1 C_IntervalError C_InvalidLetters C_InvalidRow) {f : Addr} {fd : FuncData} (F : FunD K (Str.ofString "_law_blamed") (Str.ofString "_law_blamed") (defArgs (topS 22)) (defBody (topS 22)) (defScope (topS 22)) (([] : List D).map D.flatV) [] f fd) (hm : mg (Str.ofString "_law_blamed") = some (.ref f)) (c__law_same : CalD P w K mg base (Str.ofString "_law_same") (defArgs (topS 20)) [] [(Str.ofString "told"), (Str.ofString "due")] 9 (den__law_same 8)) : VeryD P w K mg base (Str.ofString "_law_blamed") (defArgs (topS 22)) [(Str.ofString "given"), (Str.ofString "value")] 10 den__law_blamed (den__law_same 8) mid__law_blamed := by
  refine veryD_of F hm sc__law_blamed rfl rfl fun cdv A outer s H E hr => ?_
  have hu := hr.units
  have hu5 := room5 hr; have hu9 := room9 hr
  exact ⟨(pssd_cons (psd_if (ptd_not (ptd_tru (pd_callG c__law_same bn__law_same_2 (hr.mono (by decide)) (takes_of rfl rfl rfl rfl) (pcd_v (pd_var 0) (pcd_v (pd_var 1) pcd_nil)) pkd_nil))) (pssd_one (psd_ret pd_bl)) pssd_nil)
    (pssd_cons (psd_if (ptd_tru (pd_isi1 .list (pd_var 1) T.b_isinstance T.b_list)) (pssd_one (psd_drop (pd_meth 1 PySem.F.slot_list_append PySem.F.type_list_append mt_append rm_append (pad_cons pd_int pad_nil)))) pssd_nil)
    (pssd_one (psd_ret (pd_callG c__law_same bn__law_same_2 (hr.mono (by decide)) (takes_of rfl rfl rfl rfl) (pcd_v (pd_var 0) (pcd_v (pd_var 1) pcd_nil)) pkd_nil))))), by unfold mid__law_blamed; exact (parts_one (ptd_not (ptd_tru (pd_callG c__law_same bn__law_same_2 (hr.mono (by decide)) (takes_of rfl rfl rfl rfl) (pcd_v (pd_var 0) (pcd_v (pd_var 1) pcd_nil)) pkd_nil))) (pssd_one (psd_ret pd_bl)) (ptd_bor (ptd_tru (pd_isi1 .list (pd_var 1) T.b_isinstance T.b_list))) (pd_meth 1 PySem.F.slot_list_append PySem.F.type_list_append mt_append rm_append (pad_cons pd_int pad_nil)) (pd_callG c__law_same bn__law_same_2 (hr.mono (by decide)) (takes_of rfl rfl rfl rfl) (pcd_v (pd_var 0) (pcd_v (pd_var 1) pcd_nil)) pkd_nil))⟩
theorem ok__law_copy (T : Txt P w K mg base 1 C_IntervalError C_InvalidLetters C_InvalidRow) {f : Addr} {fd : FuncData} (F : FunD K (Str.ofString "_law_copy") (Str.ofString "_law_copy") (defArgs (topS 21)) (defBody (topS 21)) (defScope (topS 21)) (([] : List D).map D.flatV) [] f fd) (hm : mg (Str.ofString "_law_copy") = some (.ref f))  : CalD P w K mg base (Str.ofString "_law_copy") (defArgs (topS 21)) [] [(Str.ofString "value")] 1 den__law_copy := by
  refine calD_of F hm sc__law_copy fun cdv A outer s H E hr => ?_
  have hu := hr.units
  have hu5 := room5 hr; have hu9 := room9 hr
  exact (pssd_one (psd_ret (pd_if (ptd_tru (pd_isi1 .list (pd_var 0) T.b_isinstance T.b_list)) (pd_callTy (clistS rfl) T.b_list PyProof.Rows.Boot.list (pad_cons (pd_var 0) pad_nil)) (pd_var 0))))
theorem ok__law_no_row (T : Txt P w K mg base 1 C_IntervalError C_InvalidLetters C_InvalidRow) {f : Addr} {fd : FuncData} (F : FunD K (Str.ofString "_law_no_row") (Str.ofString "_law_no_row") (defArgs (topS 24)) (defBody (topS 24)) (defScope (topS 24)) (([] : List D).map D.flatV) [] f fd) (hm : mg (Str.ofString "_law_no_row") = some (.ref f)) (c__law_take : CalD P w K mg base (Str.ofString "_law_take") (defArgs (topS 19)) [] [(Str.ofString "box"), (Str.ofString "many")] 1 den__law_take) : CalD P w K mg base (Str.ofString "_law_no_row") (defArgs (topS 24)) [] [(Str.ofString "box")] 2 den__law_no_row := by
  refine calD_of F hm sc__law_no_row fun cdv A outer s H E hr => ?_
  have hu := hr.units
  have hu5 := room5 hr; have hu9 := room9 hr
  exact (pssd_one (psd_ret (pd_ix hu9 (pd_lst (pad_cons pd_non (pad_cons pd_int (pad_cons (pd_lst (pad_cons pd_str pad_nil)) (pad_cons (pd_tup (pad_cons pd_str pad_nil)) (pad_cons pd_str (pad_cons pd_str (pad_cons pd_str (pad_cons (pd_op omul pd_str pd_int) (pad_cons pd_dctSI (pad_cons pd_bl (pad_cons pd_str pad_nil)))))))))))) (pd_callG c__law_take bn__law_take_2 (hr.mono (by decide)) (takes_of rfl rfl rfl rfl) (pcd_r 0 (pcd_v pd_int pcd_nil)) pkd_nil))))
theorem ok__law_refused (T : Txt P w K mg base 1 C_IntervalError C_InvalidLetters C_InvalidRow) {f : Addr} {fd : FuncData} (F : FunD K (Str.ofString "_law_refused") (Str.ofString "_law_refused") (defArgs (topS 30)) (defBody (topS 30)) (defScope (topS 30)) (([] : List D).map D.flatV) [] f fd) (hm : mg (Str.ofString "_law_refused") = some (.ref f)) (c__law_asked : CalD P w K mg base (Str.ofString "_law_asked") (defArgs (topS 28)) [] [(Str.ofString "word"), (Str.ofString "row"), (Str.ofString "letters"), (Str.ofString "by_name")] 6 den__law_asked) (c__law_blamed : VeryD P w K mg base (Str.ofString "_law_blamed") (defArgs (topS 22)) [(Str.ofString "given"), (Str.ofString "value")] 10 den__law_blamed (den__law_same 8) mid__law_blamed) (c__law_copy : CalD P w K mg base (Str.ofString "_law_copy") (defArgs (topS 21)) [] [(Str.ofString "value")] 1 den__law_copy) (c__law_no_row : CalD P w K mg base (Str.ofString "_law_no_row") (defArgs (topS 24)) [] [(Str.ofString "box")] 2 den__law_no_row) (c__law_take : CalD P w K mg base (Str.ofString "_law_take") (defArgs (topS 19)) [] [(Str.ofString "box"), (Str.ofString "many")] 1 den__law_take) : CalD P w K mg base (Str.ofString "_law_refused") (defArgs (topS 30)) [] [(Str.ofString "box"), (Str.ofString "by_name")] 11 den__law_refused := by
  refine calD_of F hm sc__law_refused fun cdv A outer s H E hr => ?_
  have hu := hr.units
  have hu5 := room5 hr; have hu9 := room9 hr
  exact (pssd_cons (psd_asg 2 sc__law_refused.nd (pd_lst (pad_cons pd_non (pad_cons pd_int (pad_cons (pd_lst (pad_cons pd_str pad_nil)) (pad_cons (pd_tup (pad_cons pd_str pad_nil)) (pad_cons pd_str (pad_cons pd_str (pad_cons pd_str (pad_cons (pd_op omul pd_str pd_int) (pad_cons pd_dctSI (pad_cons pd_bl pad_nil))))))))))))
    (pssd_cons (psd_for (passes_of rfl) (pid_rng1 (pad_cons pd_int pad_nil) T.b_range) (pgd_name (i := 3) sc__law_refused.nd rfl (by first | exact Or.inl rfl | exact Or.inr rfl)) (pssd_very 4 5 c__law_blamed bn__law_blamed_2 (hr.mono (by decide)) (takes_of rfl rfl rfl rfl) sc__law_refused.nd (pd_callG c__law_copy bn__law_copy_1 (hr.mono (by decide)) (takes_of rfl rfl rfl rfl) (pcd_v (pd_if (ptd_cmp (olt hu) (pd_var 3) pd_int) (pd_callG c__law_no_row bn__law_no_row_1 (hr.mono (by decide)) (takes_of rfl rfl rfl rfl) (pcd_r 0 pcd_nil) pkd_nil) (pd_ix hu9 (pd_var 2) (pd_callG c__law_take bn__law_take_2 (hr.mono (by decide)) (takes_of rfl rfl rfl rfl) (pcd_r 0 (pcd_v pd_int pcd_nil)) pkd_nil))) pcd_nil) pkd_nil)
    (pd_callG c__law_asked bn__law_asked_4 (hr.mono (by decide)) (takes_of rfl rfl rfl rfl) (pcd_v (pd_ix hu9 (pd_lst (pad_cons pd_str (pad_cons pd_str pad_nil))) (pd_op oand (pd_var 3) pd_int)) (pcd_v (pd_if (ptd_cmp (olt hu) (pd_var 3) pd_int) (pd_var 4) pd_str) (pcd_v (pd_if (ptd_cmp (olt hu) (pd_var 3) pd_int) pd_non (pd_var 4)) (pcd_v (pd_var 1) pcd_nil)))) pkd_nil)
    (ptd_cmp (one_ hu) (pd_ix hu9 (pd_var 5) pd_int) (pd_if (ptd_cmp (olt hu) (pd_var 3) pd_int) pd_str pd_str))
    (pd_ix hu9 (pd_var 5) pd_int) (pd_var 4) (pssd_one (psd_ret pd_bl))
    (pssd_one (psd_asg 1 sc__law_refused.nd (pd_not (pd_var 1))))))
    (pssd_one (psd_ret pd_bl))))
theorem ok__law_wanted (T : Txt P w K mg base 1 C_IntervalError C_InvalidLetters C_InvalidRow) {f : Addr} {fd : FuncData} (F : FunD K (Str.ofString "_law_wanted") (Str.ofString "_law_wanted") (defArgs (topS 25)) (defBody (topS 25)) (defScope (topS 25)) (([] : List D).map D.flatV) [] f fd) (hm : mg (Str.ofString "_law_wanted") = some (.ref f)) (c__law_take : CalD P w K mg base (Str.ofString "_law_take") (defArgs (topS 19)) [] [(Str.ofString "box"), (Str.ofString "many")] 1 den__law_take) : CalD P w K mg base (Str.ofString "_law_wanted") (defArgs (topS 25)) [] [(Str.ofString "box"), (Str.ofString "row")] 2 den__law_wanted := by
  refine calD_of F hm sc__law_wanted fun cdv A outer s H E hr => ?_
  have hu := hr.units
  have hu5 := room5 hr; have hu9 := room9 hr
  exact (pssd_cons (psd_par2 sc__law_wanted.nd (pos_cons false (pd_callG c__law_take bn__law_take_2 (hr.mono (by decide)) (takes_of rfl rfl rfl rfl) (pcd_r 0 (pcd_v pd_int pcd_nil)) pkd_nil) (pos_cons false (pd_callG c__law_take bn__law_take_2 (hr.mono (by decide)) (takes_of rfl rfl rfl rfl) (pcd_r 0 (pcd_v (pd_op oadd (pd_callB clen T.b_len PyProof.Rows.Boot.len (pad_cons (pd_var 1) pad_nil)) pd_int) pcd_nil)) pkd_nil) pos_nil)))
    (pssd_cons (psd_asg 2 sc__law_wanted.nd (pd_sl (pd_var 1) (pod_at (pd_var 5)) (pod_at (pd_op oadd (pd_var 5) (pd_callG c__law_take bn__law_take_2 (hr.mono (by decide)) (takes_of rfl rfl rfl rfl) (pcd_r 0 (pcd_v pd_int pcd_nil)) pkd_nil)))))
    (pssd_cons (psd_if (ptd_cmp (oeq hu) (pd_var 4) pd_int) (pssd_one (psd_asg 2 sc__law_wanted.nd (pd_join pd_str (pd_lc [((Str.ofString "turn"), 6)] sc__law_wanted.nd (pid_rng1 (pad_cons (pd_callG c__law_take bn__law_take_2 (hr.mono (by decide)) (takes_of rfl rfl rfl rfl) (pcd_r 0 (pcd_v pd_int pcd_nil)) pkd_nil) pad_nil) T.b_range) (blk_ok (by kernel_rfl)) (fun s H C cl fp => (pgd_name (i := 6) sc__law_wanted.nd rfl (by first | exact Or.inl rfl | exact Or.inr rfl))) (fun s H C cl fp => ptsd_nil) (fun s H C cl fp => (pd_ix hu9 pd_str (pd_callG c__law_take bn__law_take_2 (hr.mono (by decide)) takes_none5 (pcd_r 0 (pcd_v pd_int pcd_nil)) pkd_nil))))))) pssd_nil)
    (pssd_cons (psd_if ((pwd_and (ptd_cmp (oeq hu) (pd_var 4) pd_int) (pwd_and1 (ptd_cmp (olt hu) (pd_callB clen T.b_len PyProof.Rows.Boot.len (pad_cons (pd_var 2) pad_nil)) pd_int)))).pt (pssd_one (psd_asg 2 sc__law_wanted.nd (pd_op oadd (pd_var 2) (pd_ix hu9 pd_str (pd_callG c__law_take bn__law_take_2 (hr.mono (by decide)) (takes_of rfl rfl rfl rfl) (pcd_r 0 (pcd_v pd_int pcd_nil)) pkd_nil))))) pssd_nil)
    (pssd_cons (psd_asgO 3 sc__law_wanted.nd (pd_callTy (clistS rfl) T.b_list PyProof.Rows.Boot.list (pad_cons (pd_var 2) pad_nil)))
    (pssd_one (psd_ret (pd_join pd_str (pd_lc [((Str.ofString "turn"), 6)] sc__law_wanted.nd (pid_rng1 (pad_cons (pd_callB clen T.b_len PyProof.Rows.Boot.len (pad_cons (pd_var 2) pad_nil)) pad_nil) T.b_range) (blk_ok (by kernel_rfl)) (fun s H C cl fp => (pgd_name (i := 6) sc__law_wanted.nd rfl (by first | exact Or.inl rfl | exact Or.inr rfl))) (fun s H C cl fp => ptsd_nil) (fun s H C cl fp => (pd_meth 3 PySem.F.slot_list_pop PySem.F.type_list_pop mt_popAt rm_popAt (pad_cons (pd_callG c__law_take bn__law_take_2 (hr.mono (by decide)) takes_none5 (pcd_r 0 (pcd_v (pd_bor (pd_callB clen T.b_len PyProof.Rows.Boot.len (pad_cons (pd_var 3) pad_nil))) pcd_nil)) pkd_nil) pad_nil))))))))))))
theorem ok_law (T : Txt P w K mg base 1 C_IntervalError C_InvalidLetters C_InvalidRow) {f : Addr} {fd : FuncData} (F : FunD K (Str.ofString "law") (Str.ofString "law") (defArgs (topS 31)) (defBody (topS 31)) (defScope (topS 31)) (([] : List D).map D.flatV) [] f fd) (hm : mg (Str.ofString "law") = some (.ref f)) (c__law_box : CalD P w K mg base (Str.ofString "_law_box") (defArgs (topS 18)) [] [(Str.ofString "great")] 1 den__law_box) (c__law_cell : CalD P w K mg base (Str.ofString "_law_cell") (defArgs (topS 17)) [] [(Str.ofString "script"), (Str.ofString "k")] 1 den__law_cell) (c__law_letters : CalD P w K mg base (Str.ofString "_law_letters") (defArgs (topS 23)) [] [(Str.ofString "box"), (Str.ofString "most")] 2 den__law_letters) (c__law_pair_right : CalD P w K mg base (Str.ofString "_law_pair_right") (defArgs (topS 29)) [] [(Str.ofString "row"), (Str.ofString "letters"), (Str.ofString "by_name")] 10 den__law_pair_right) (c__law_refused : CalD P w K mg base (Str.ofString "_law_refused") (defArgs (topS 30)) [] [(Str.ofString "box"), (Str.ofString "by_name")] 11 den__law_refused) (c__law_take : CalD P w K mg base (Str.ofString "_law_take") (defArgs (topS 19)) [] [(Str.ofString "box"), (Str.ofString "many")] 1 den__law_take) (c__law_wanted : CalD P w K mg base (Str.ofString "_law_wanted") (defArgs (topS 25)) [] [(Str.ofString "box"), (Str.ofString "row")] 2 den__law_wanted) : CalD P w K mg base (Str.ofString "law") (defArgs (topS 31)) [] [(Str.ofString "script")] 12 den_law := by
  refine calD_of F hm sc_law fun cdv A outer s H E hr => ?_
  have hu := hr.units
  have hu5 := room5 hr; have hu9 := room9 hr
  exact (pssd_cons (psd_for (passes_of rfl) (pid_rng1 (pad_cons (pd_callB (cmax2 rfl) T.b_max PyProof.Rows.Boot.max (pad_cons pd_int (pad_cons (pd_callB (cmin2 rfl) T.b_min PyProof.Rows.Boot.min (pad_cons pd_int (pad_cons (pd_callB clen T.b_len PyProof.Rows.Boot.len (pad_cons (pd_var 0) pad_nil)) pad_nil))) pad_nil))) pad_nil) T.b_range) (pgd_name (i := 1) sc_law.nd rfl (by first | exact Or.inl rfl | exact Or.inr rfl)) (pssd_cons (psd_asgO 2 sc_law.nd (pd_callG c__law_box bn__law_box_1 (hr.mono (by decide)) (takes_of rfl rfl rfl rfl) (pcd_v (pd_callG c__law_cell bn__law_cell_2 (hr.mono (by decide)) (takes_of rfl rfl rfl rfl) (pcd_v (pd_var 0) (pcd_v (pd_var 1) pcd_nil)) pkd_nil) pcd_nil) pkd_nil))
    (pssd_cons (psd_asg 3 sc_law.nd (pd_cmp (oeq hu) (pd_callG c__law_take bn__law_take_2 (hr.mono (by decide)) (takes_of rfl rfl rfl rfl) (pcd_r 2 (pcd_v pd_int pcd_nil)) pkd_nil) pd_int))
    (pssd_cons (psd_for (passes_of rfl) (pid_rng1 (pad_cons pd_int pad_nil) T.b_range) (pgd_name (i := 4) sc_law.nd rfl (by first | exact Or.inl rfl | exact Or.inr rfl)) (pssd_cons (psd_asg 5 sc_law.nd (pd_callG c__law_letters bn__law_letters_2 (hr.mono (by decide)) (takes_of rfl rfl rfl rfl) (pcd_r 2 (pcd_v (pd_ix hu9 (pd_lst (pad_cons pd_int (pad_cons pd_int (pad_cons pd_int pad_nil)))) (pd_var 4)) pcd_nil)) pkd_nil))
    (pssd_one (psd_for (passes_of rfl) (pid_rng1 (pad_cons pd_int pad_nil) T.b_range) (pgd_name (i := 6) sc_law.nd rfl (by first | exact Or.inl rfl | exact Or.inr rfl)) (pssd_one (psd_if (ptd_not (ptd_tru (pd_callG c__law_pair_right bn__law_pair_right_3 (hr.mono (by decide)) (takes_of rfl rfl rfl rfl) (pcd_v (pd_var 5) (pcd_v (pd_callG c__law_wanted bn__law_wanted_2 (hr.mono (by decide)) (takes_of rfl rfl rfl rfl) (pcd_r 2 (pcd_v (pd_var 5) pcd_nil)) pkd_nil) (pcd_v (pd_cmp (oeq hu) (pd_var 3) (pd_cmp (oeq hu) (pd_var 6) pd_int)) pcd_nil))) pkd_nil))) (pssd_one (psd_ret pd_bl)) pssd_nil))))))
    (pssd_one (psd_if ((pwd_or (ptd_not (ptd_tru (pd_callG c__law_pair_right bn__law_pair_right_3 (hr.mono (by decide)) (takes_of rfl rfl rfl rfl) (pcd_v (pd_var 5) (pcd_v pd_str (pcd_v (pd_var 3) pcd_nil))) pkd_nil))) (pwd_or (ptd_not (ptd_tru (pd_callG c__law_pair_right bn__law_pair_right_3 (hr.mono (by decide)) (takes_of rfl rfl rfl rfl) (pcd_v pd_str (pcd_v pd_str (pcd_v (pd_var 3) pcd_nil))) pkd_nil))) (pwd_or1 (ptd_not (ptd_tru (pd_callG c__law_refused bn__law_refused_2 (hr.mono (by decide)) (takes_of rfl rfl rfl rfl) (pcd_r 2 (pcd_v (pd_var 3) pcd_nil)) pkd_nil))))))).pt (pssd_one (psd_ret pd_bl)) pssd_nil))))))
    (pssd_one (psd_ret pd_bl)))
end
theorem sI_InvalidLetters : FnScope [(Str.ofString "self"), (Str.ofString "given")] [(Str.ofString "self"), (Str.ofString "given")] (defScope (initS 2)) := ⟨rfl, rfl, rfl, by decide +kernel, rfl, by decide +kernel, by decide +kernel⟩
theorem sI_InvalidRow : FnScope [(Str.ofString "self"), (Str.ofString "given")] [(Str.ofString "self"), (Str.ofString "given")] (defScope (initS 4)) := ⟨rfl, rfl, rfl, by decide +kernel, rfl, by decide +kernel, by decide +kernel⟩
set_option maxHeartbeats 0 in
theorem all_mk {P : Program} {w : World} {K : PySem.W.Frag} {h : Heap} {mg : Str → Option Value} {fa : Addr} (X : K.In h) (G : h.Ns mainGlobals mg) (hfa : mg "law" = some (.ref fa))
    {f__law_box : Addr} {oc__law_box kV__law_box dc__law_box pm__law_box cd__law_box ct__law_box : Value} {od__law_box an__law_box : Option Addr} {sl__law_box : Array (Option Value)} {f__law_cell : Addr} {oc__law_cell kV__law_cell dc__law_cell pm__law_cell cd__law_cell ct__law_cell : Value} {od__law_cell an__law_cell : Option Addr} {sl__law_cell : Array (Option Value)} {f__law_take : Addr} {oc__law_take kV__law_take dc__law_take pm__law_take cd__law_take ct__law_take : Value} {od__law_take an__law_take : Option Addr} {sl__law_take : Array (Option Value)} {f__law_letters : Addr} {oc__law_letters kV__law_letters dc__law_letters pm__law_letters cd__law_letters ct__law_letters : Value} {od__law_letters an__law_letters : Option Addr} {sl__law_letters : Array (Option Value)} {f_are_letters : Addr} {oc_are_letters kV_are_letters dc_are_letters pm_are_letters cd_are_letters ct_are_letters : Value} {od_are_letters an_are_letters : Option Addr} {sl_are_letters : Array (Option Value)} {f_check_row : Addr} {oc_check_row kV_check_row dc_check_row pm_check_row cd_check_row ct_check_row : Value} {od_check_row an_check_row : Option Addr} {sl_check_row : Array (Option Value)} {f_check_both : Addr} {oc_check_both kV_check_both dc_check_both pm_check_both cd_check_both ct_check_both : Value} {od_check_both an_check_both : Option Addr} {sl_check_both : Array (Option Value)} {f_has_all : Addr} {oc_has_all kV_has_all dc_has_all pm_has_all cd_has_all ct_has_all : Value} {od_has_all an_has_all : Option Addr} {sl_has_all : Array (Option Value)} {f_windows_of : Addr} {oc_windows_of kV_windows_of dc_windows_of pm_windows_of cd_windows_of ct_windows_of : Value} {od_windows_of an_windows_of : Option Addr} {sl_windows_of : Array (Option Value)} {f_least_window : Addr} {oc_least_window kV_least_window dc_least_window pm_least_window cd_least_window ct_least_window : Value} {od_least_window an_least_window : Option Addr} {sl_least_window : Array (Option Value)} {f_window_bar : Addr} {oc_window_bar kV_window_bar dc_window_bar pm_window_bar cd_window_bar ct_window_bar : Value} {od_window_bar an_window_bar : Option Addr} {sl_window_bar : Array (Option Value)} {f__law_asked : Addr} {oc__law_asked kV__law_asked dc__law_asked pm__law_asked cd__law_asked ct__law_asked : Value} {od__law_asked an__law_asked : Option Addr} {sl__law_asked : Array (Option Value)} {f__law_has : Addr} {oc__law_has kV__law_has dc__law_has pm__law_has cd__law_has ct__law_has : Value} {od__law_has an__law_has : Option Addr} {sl__law_has : Array (Option Value)} {f__law_least : Addr} {oc__law_least kV__law_least dc__law_least pm__law_least cd__law_least ct__law_least : Value} {od__law_least an__law_least : Option Addr} {sl__law_least : Array (Option Value)} {f__law_same : Addr} {oc__law_same kV__law_same dc__law_same pm__law_same cd__law_same ct__law_same : Value} {od__law_same an__law_same : Option Addr} {sl__law_same : Array (Option Value)} {f__law_pair_right : Addr} {oc__law_pair_right kV__law_pair_right dc__law_pair_right pm__law_pair_right cd__law_pair_right ct__law_pair_right : Value} {od__law_pair_right an__law_pair_right : Option Addr} {sl__law_pair_right : Array (Option Value)} {f__law_blamed : Addr} {oc__law_blamed kV__law_blamed dc__law_blamed pm__law_blamed cd__law_blamed ct__law_blamed : Value} {od__law_blamed an__law_blamed : Option Addr} {sl__law_blamed : Array (Option Value)} {f__law_copy : Addr} {oc__law_copy kV__law_copy dc__law_copy pm__law_copy cd__law_copy ct__law_copy : Value} {od__law_copy an__law_copy : Option Addr} {sl__law_copy : Array (Option Value)} {f__law_no_row : Addr} {oc__law_no_row kV__law_no_row dc__law_no_row pm__law_no_row cd__law_no_row ct__law_no_row : Value} {od__law_no_row an__law_no_row : Option Addr} {sl__law_no_row : Array (Option Value)} {f__law_refused : Addr} {oc__law_refused kV__law_refused dc__law_refused pm__law_refused cd__law_refused ct__law_refused : Value} {od__law_refused an__law_refused : Option Addr} {sl__law_refused : Array (Option Value)} {f__law_wanted : Addr} {oc__law_wanted kV__law_wanted dc__law_wanted pm__law_wanted cd__law_wanted ct__law_wanted : Value} {od__law_wanted an__law_wanted : Option Addr} {sl__law_wanted : Array (Option Value)} {f_law : Addr} {oc_law kV_law dc_law pm_law cd_law ct_law : Value} {od_law an_law : Option Addr} {sl_law : Array (Option Value)} {u_LETTERS : Value} {u_MOST_LETTERS : Value} {u_MOST_ROW : Value} {N_InvalidLetters : Addr} {nm_InvalidLetters q_InvalidLetters : Str} {bs_InvalidLetters bm_InvalidLetters sub_InvalidLetters : List Value} {sn_InvalidLetters : List Str} {ab_InvalidLetters : Bool} {col_InvalidLetters : Option Bool} {dd_InvalidLetters : Option Addr} {m0_InvalidLetters m1_InvalidLetters m2_InvalidLetters m3_InvalidLetters m5_InvalidLetters : Option Value} {f_IInvalidLetters : Addr} {oc_IInvalidLetters kV_IInvalidLetters dc_IInvalidLetters pm_IInvalidLetters cd_IInvalidLetters ct_IInvalidLetters : Value} {od_IInvalidLetters an_IInvalidLetters : Option Addr} {sl_IInvalidLetters : Array (Option Value)} {N_InvalidRow : Addr} {nm_InvalidRow q_InvalidRow : Str} {bs_InvalidRow bm_InvalidRow sub_InvalidRow : List Value} {sn_InvalidRow : List Str} {ab_InvalidRow : Bool} {col_InvalidRow : Option Bool} {dd_InvalidRow : Option Addr} {m0_InvalidRow m1_InvalidRow m2_InvalidRow m3_InvalidRow m5_InvalidRow : Option Value} {f_IInvalidRow : Addr} {oc_IInvalidRow kV_IInvalidRow dc_IInvalidRow pm_IInvalidRow cd_IInvalidRow ct_IInvalidRow : Value} {od_IInvalidRow an_IInvalidRow : Option Addr} {sl_IInvalidRow : Array (Option Value)} {C_IntervalError C_InvalidLetters C_InvalidRow : Addr}
    (a__law_box : PySem.W.nsIn K mainGlobals (Str.ofString "_law_box") = some (some (.ref f__law_box)))
    (l__law_box : K.lookup f__law_box = some ⟨oc__law_box, od__law_box, .func (PySem.W.fnOf (Str.ofString "_law_box") (Str.ofString "_law_box") (defArgs (topS 18)) (defBody (topS 18)) (defScope (topS 18)) .none kV__law_box dc__law_box pm__law_box an__law_box cd__law_box ct__law_box), sl__law_box⟩)
    (c__law_box : PySem.W.codeIn K cd__law_box (Str.ofString "_law_box") = true)
    (k__law_box : PySem.W.keepIn K (.ref f__law_box) = true)
    (a__law_cell : PySem.W.nsIn K mainGlobals (Str.ofString "_law_cell") = some (some (.ref f__law_cell)))
    (l__law_cell : K.lookup f__law_cell = some ⟨oc__law_cell, od__law_cell, .func (PySem.W.fnOf (Str.ofString "_law_cell") (Str.ofString "_law_cell") (defArgs (topS 17)) (defBody (topS 17)) (defScope (topS 17)) .none kV__law_cell dc__law_cell pm__law_cell an__law_cell cd__law_cell ct__law_cell), sl__law_cell⟩)
    (c__law_cell : PySem.W.codeIn K cd__law_cell (Str.ofString "_law_cell") = true)
    (k__law_cell : PySem.W.keepIn K (.ref f__law_cell) = true)
    (a__law_take : PySem.W.nsIn K mainGlobals (Str.ofString "_law_take") = some (some (.ref f__law_take)))
    (l__law_take : K.lookup f__law_take = some ⟨oc__law_take, od__law_take, .func (PySem.W.fnOf (Str.ofString "_law_take") (Str.ofString "_law_take") (defArgs (topS 19)) (defBody (topS 19)) (defScope (topS 19)) .none kV__law_take dc__law_take pm__law_take an__law_take cd__law_take ct__law_take), sl__law_take⟩)
    (c__law_take : PySem.W.codeIn K cd__law_take (Str.ofString "_law_take") = true)
    (k__law_take : PySem.W.keepIn K (.ref f__law_take) = true)
    (a__law_letters : PySem.W.nsIn K mainGlobals (Str.ofString "_law_letters") = some (some (.ref f__law_letters)))
    (l__law_letters : K.lookup f__law_letters = some ⟨oc__law_letters, od__law_letters, .func (PySem.W.fnOf (Str.ofString "_law_letters") (Str.ofString "_law_letters") (defArgs (topS 23)) (defBody (topS 23)) (defScope (topS 23)) .none kV__law_letters dc__law_letters pm__law_letters an__law_letters cd__law_letters ct__law_letters), sl__law_letters⟩)
    (c__law_letters : PySem.W.codeIn K cd__law_letters (Str.ofString "_law_letters") = true)
    (k__law_letters : PySem.W.keepIn K (.ref f__law_letters) = true)
    (a_are_letters : PySem.W.nsIn K mainGlobals (Str.ofString "are_letters") = some (some (.ref f_are_letters)))
    (l_are_letters : K.lookup f_are_letters = some ⟨oc_are_letters, od_are_letters, .func (PySem.W.fnOf (Str.ofString "are_letters") (Str.ofString "are_letters") (defArgs (topS 9)) (defBody (topS 9)) (defScope (topS 9)) .none kV_are_letters dc_are_letters pm_are_letters an_are_letters cd_are_letters ct_are_letters), sl_are_letters⟩)
    (c_are_letters : PySem.W.codeIn K cd_are_letters (Str.ofString "are_letters") = true)
    (k_are_letters : PySem.W.keepIn K (.ref f_are_letters) = true)
    (a_check_row : PySem.W.nsIn K mainGlobals (Str.ofString "check_row") = some (some (.ref f_check_row)))
    (l_check_row : K.lookup f_check_row = some ⟨oc_check_row, od_check_row, .func (PySem.W.fnOf (Str.ofString "check_row") (Str.ofString "check_row") (defArgs (topS 10)) (defBody (topS 10)) (defScope (topS 10)) .none kV_check_row dc_check_row pm_check_row an_check_row cd_check_row ct_check_row), sl_check_row⟩)
    (c_check_row : PySem.W.codeIn K cd_check_row (Str.ofString "check_row") = true)
    (k_check_row : PySem.W.keepIn K (.ref f_check_row) = true)
    (a_check_both : PySem.W.nsIn K mainGlobals (Str.ofString "check_both") = some (some (.ref f_check_both)))
    (l_check_both : K.lookup f_check_both = some ⟨oc_check_both, od_check_both, .func (PySem.W.fnOf (Str.ofString "check_both") (Str.ofString "check_both") (defArgs (topS 11)) (defBody (topS 11)) (defScope (topS 11)) .none kV_check_both dc_check_both pm_check_both an_check_both cd_check_both ct_check_both), sl_check_both⟩)
    (c_check_both : PySem.W.codeIn K cd_check_both (Str.ofString "check_both") = true)
    (k_check_both : PySem.W.keepIn K (.ref f_check_both) = true)
    (a_has_all : PySem.W.nsIn K mainGlobals (Str.ofString "has_all") = some (some (.ref f_has_all)))
    (l_has_all : K.lookup f_has_all = some ⟨oc_has_all, od_has_all, .func (PySem.W.fnOf (Str.ofString "has_all") (Str.ofString "has_all") (defArgs (topS 13)) (defBody (topS 13)) (defScope (topS 13)) .none kV_has_all dc_has_all pm_has_all an_has_all cd_has_all ct_has_all), sl_has_all⟩)
    (c_has_all : PySem.W.codeIn K cd_has_all (Str.ofString "has_all") = true)
    (k_has_all : PySem.W.keepIn K (.ref f_has_all) = true)
    (a_windows_of : PySem.W.nsIn K mainGlobals (Str.ofString "windows_of") = some (some (.ref f_windows_of)))
    (l_windows_of : K.lookup f_windows_of = some ⟨oc_windows_of, od_windows_of, .func (PySem.W.fnOf (Str.ofString "windows_of") (Str.ofString "windows_of") (defArgs (topS 12)) (defBody (topS 12)) (defScope (topS 12)) .none kV_windows_of dc_windows_of pm_windows_of an_windows_of cd_windows_of ct_windows_of), sl_windows_of⟩)
    (c_windows_of : PySem.W.codeIn K cd_windows_of (Str.ofString "windows_of") = true)
    (k_windows_of : PySem.W.keepIn K (.ref f_windows_of) = true)
    (a_least_window : PySem.W.nsIn K mainGlobals (Str.ofString "least_window") = some (some (.ref f_least_window)))
    (l_least_window : K.lookup f_least_window = some ⟨oc_least_window, od_least_window, .func (PySem.W.fnOf (Str.ofString "least_window") (Str.ofString "least_window") (defArgs (topS 14)) (defBody (topS 14)) (defScope (topS 14)) .none kV_least_window dc_least_window pm_least_window an_least_window cd_least_window ct_least_window), sl_least_window⟩)
    (c_least_window : PySem.W.codeIn K cd_least_window (Str.ofString "least_window") = true)
    (k_least_window : PySem.W.keepIn K (.ref f_least_window) = true)
    (a_window_bar : PySem.W.nsIn K mainGlobals (Str.ofString "window_bar") = some (some (.ref f_window_bar)))
    (l_window_bar : K.lookup f_window_bar = some ⟨oc_window_bar, od_window_bar, .func (PySem.W.fnOf (Str.ofString "window_bar") (Str.ofString "window_bar") (defArgs (topS 15)) (defBody (topS 15)) (defScope (topS 15)) .none kV_window_bar dc_window_bar pm_window_bar an_window_bar cd_window_bar ct_window_bar), sl_window_bar⟩)
    (c_window_bar : PySem.W.codeIn K cd_window_bar (Str.ofString "window_bar") = true)
    (k_window_bar : PySem.W.keepIn K (.ref f_window_bar) = true)
    (a__law_asked : PySem.W.nsIn K mainGlobals (Str.ofString "_law_asked") = some (some (.ref f__law_asked)))
    (l__law_asked : K.lookup f__law_asked = some ⟨oc__law_asked, od__law_asked, .func (PySem.W.fnOf (Str.ofString "_law_asked") (Str.ofString "_law_asked") (defArgs (topS 28)) (defBody (topS 28)) (defScope (topS 28)) .none kV__law_asked dc__law_asked pm__law_asked an__law_asked cd__law_asked ct__law_asked), sl__law_asked⟩)
    (c__law_asked : PySem.W.codeIn K cd__law_asked (Str.ofString "_law_asked") = true)
    (k__law_asked : PySem.W.keepIn K (.ref f__law_asked) = true)
    (a__law_has : PySem.W.nsIn K mainGlobals (Str.ofString "_law_has") = some (some (.ref f__law_has)))
    (l__law_has : K.lookup f__law_has = some ⟨oc__law_has, od__law_has, .func (PySem.W.fnOf (Str.ofString "_law_has") (Str.ofString "_law_has") (defArgs (topS 26)) (defBody (topS 26)) (defScope (topS 26)) .none kV__law_has dc__law_has pm__law_has an__law_has cd__law_has ct__law_has), sl__law_has⟩)
    (c__law_has : PySem.W.codeIn K cd__law_has (Str.ofString "_law_has") = true)
    (k__law_has : PySem.W.keepIn K (.ref f__law_has) = true)
    (a__law_least : PySem.W.nsIn K mainGlobals (Str.ofString "_law_least") = some (some (.ref f__law_least)))
    (l__law_least : K.lookup f__law_least = some ⟨oc__law_least, od__law_least, .func (PySem.W.fnOf (Str.ofString "_law_least") (Str.ofString "_law_least") (defArgs (topS 27)) (defBody (topS 27)) (defScope (topS 27)) .none kV__law_least dc__law_least pm__law_least an__law_least cd__law_least ct__law_least), sl__law_least⟩)
    (c__law_least : PySem.W.codeIn K cd__law_least (Str.ofString "_law_least") = true)
    (k__law_least : PySem.W.keepIn K (.ref f__law_least) = true)
    (a__law_same : PySem.W.nsIn K mainGlobals (Str.ofString "_law_same") = some (some (.ref f__law_same)))
    (l__law_same : K.lookup f__law_same = some ⟨oc__law_same, od__law_same, .func (PySem.W.fnOf (Str.ofString "_law_same") (Str.ofString "_law_same") (defArgs (topS 20)) (defBody (topS 20)) (defScope (topS 20)) .none kV__law_same dc__law_same pm__law_same an__law_same cd__law_same ct__law_same), sl__law_same⟩)
    (c__law_same : PySem.W.codeIn K cd__law_same (Str.ofString "_law_same") = true)
    (k__law_same : PySem.W.keepIn K (.ref f__law_same) = true)
    (a__law_pair_right : PySem.W.nsIn K mainGlobals (Str.ofString "_law_pair_right") = some (some (.ref f__law_pair_right)))
    (l__law_pair_right : K.lookup f__law_pair_right = some ⟨oc__law_pair_right, od__law_pair_right, .func (PySem.W.fnOf (Str.ofString "_law_pair_right") (Str.ofString "_law_pair_right") (defArgs (topS 29)) (defBody (topS 29)) (defScope (topS 29)) .none kV__law_pair_right dc__law_pair_right pm__law_pair_right an__law_pair_right cd__law_pair_right ct__law_pair_right), sl__law_pair_right⟩)
    (c__law_pair_right : PySem.W.codeIn K cd__law_pair_right (Str.ofString "_law_pair_right") = true)
    (k__law_pair_right : PySem.W.keepIn K (.ref f__law_pair_right) = true)
    (a__law_blamed : PySem.W.nsIn K mainGlobals (Str.ofString "_law_blamed") = some (some (.ref f__law_blamed)))
    (l__law_blamed : K.lookup f__law_blamed = some ⟨oc__law_blamed, od__law_blamed, .func (PySem.W.fnOf (Str.ofString "_law_blamed") (Str.ofString "_law_blamed") (defArgs (topS 22)) (defBody (topS 22)) (defScope (topS 22)) .none kV__law_blamed dc__law_blamed pm__law_blamed an__law_blamed cd__law_blamed ct__law_blamed), sl__law_blamed⟩)
    (c__law_blamed : PySem.W.codeIn K cd__law_blamed (Str.ofString "_law_blamed") = true)
    (k__law_blamed : PySem.W.keepIn K (.ref f__law_blamed) = true)
    (a__law_copy : PySem.W.nsIn K mainGlobals (Str.ofString "_law_copy") = some (some (.ref f__law_copy)))
    (l__law_copy : K.lookup f__law_copy = some ⟨oc__law_copy, od__law_copy, .func (PySem.W.fnOf (Str.ofString "_law_copy") (Str.ofString "_law_copy") (defArgs (topS 21)) (defBody (topS 21)) (defScope (topS 21)) .none kV__law_copy dc__law_copy pm__law_copy an__law_copy cd__law_copy ct__law_copy), sl__law_copy⟩)
    (c__law_copy : PySem.W.codeIn K cd__law_copy (Str.ofString "_law_copy") = true)
    (k__law_copy : PySem.W.keepIn K (.ref f__law_copy) = true)
    (a__law_no_row : PySem.W.nsIn K mainGlobals (Str.ofString "_law_no_row") = some (some (.ref f__law_no_row)))
    (l__law_no_row : K.lookup f__law_no_row = some ⟨oc__law_no_row, od__law_no_row, .func (PySem.W.fnOf (Str.ofString "_law_no_row") (Str.ofString "_law_no_row") (defArgs (topS 24)) (defBody (topS 24)) (defScope (topS 24)) .none kV__law_no_row dc__law_no_row pm__law_no_row an__law_no_row cd__law_no_row ct__law_no_row), sl__law_no_row⟩)
    (c__law_no_row : PySem.W.codeIn K cd__law_no_row (Str.ofString "_law_no_row") = true)
    (k__law_no_row : PySem.W.keepIn K (.ref f__law_no_row) = true)
    (a__law_refused : PySem.W.nsIn K mainGlobals (Str.ofString "_law_refused") = some (some (.ref f__law_refused)))
    (l__law_refused : K.lookup f__law_refused = some ⟨oc__law_refused, od__law_refused, .func (PySem.W.fnOf (Str.ofString "_law_refused") (Str.ofString "_law_refused") (defArgs (topS 30)) (defBody (topS 30)) (defScope (topS 30)) .none kV__law_refused dc__law_refused pm__law_refused an__law_refused cd__law_refused ct__law_refused), sl__law_refused⟩)
    (c__law_refused : PySem.W.codeIn K cd__law_refused (Str.ofString "_law_refused") = true)
    (k__law_refused : PySem.W.keepIn K (.ref f__law_refused) = true)
    (a__law_wanted : PySem.W.nsIn K mainGlobals (Str.ofString "_law_wanted") = some (some (.ref f__law_wanted)))
    (l__law_wanted : K.lookup f__law_wanted = some ⟨oc__law_wanted, od__law_wanted, .func (PySem.W.fnOf (Str.ofString "_law_wanted") (Str.ofString "_law_wanted") (defArgs (topS 25)) (defBody (topS 25)) (defScope (topS 25)) .none kV__law_wanted dc__law_wanted pm__law_wanted an__law_wanted cd__law_wanted ct__law_wanted), sl__law_wanted⟩)
    (c__law_wanted : PySem.W.codeIn K cd__law_wanted (Str.ofString "_law_wanted") = true)
    (k__law_wanted : PySem.W.keepIn K (.ref f__law_wanted) = true)
    (a_law : PySem.W.nsIn K mainGlobals (Str.ofString "law") = some (some (.ref f_law)))
    (l_law : K.lookup f_law = some ⟨oc_law, od_law, .func (PySem.W.fnOf (Str.ofString "law") (Str.ofString "law") (defArgs (topS 31)) (defBody (topS 31)) (defScope (topS 31)) .none kV_law dc_law pm_law an_law cd_law ct_law), sl_law⟩)
    (c_law : PySem.W.codeIn K cd_law (Str.ofString "law") = true)
    (k_law : PySem.W.keepIn K (.ref f_law) = true)
    (z_abs : PySem.W.nsIn K mainGlobals (Str.ofString "abs") = some none)
    (z_all : PySem.W.nsIn K mainGlobals (Str.ofString "all") = some none)
    (z_bool : PySem.W.nsIn K mainGlobals (Str.ofString "bool") = some none)
    (z_dict : PySem.W.nsIn K mainGlobals (Str.ofString "dict") = some none)
    (z_int : PySem.W.nsIn K mainGlobals (Str.ofString "int") = some none)
    (z_isinstance : PySem.W.nsIn K mainGlobals (Str.ofString "isinstance") = some none)
    (z_len : PySem.W.nsIn K mainGlobals (Str.ofString "len") = some none)
    (z_list : PySem.W.nsIn K mainGlobals (Str.ofString "list") = some none)
    (z_max : PySem.W.nsIn K mainGlobals (Str.ofString "max") = some none)
    (z_min : PySem.W.nsIn K mainGlobals (Str.ofString "min") = some none)
    (z_range : PySem.W.nsIn K mainGlobals (Str.ofString "range") = some none)
    (z_str : PySem.W.nsIn K mainGlobals (Str.ofString "str") = some none)
    (z_sum : PySem.W.nsIn K mainGlobals (Str.ofString "sum") = some none)
    (z_tuple : PySem.W.nsIn K mainGlobals (Str.ofString "tuple") = some none)
    (g_LETTERS : PySem.W.nsIn K mainGlobals (Str.ofString "LETTERS") = some (some u_LETTERS))
    (h_LETTERS : chkV K (.str (Str.ofString "abcdef")) u_LETTERS = true)
    (g_MOST_LETTERS : PySem.W.nsIn K mainGlobals (Str.ofString "MOST_LETTERS") = some (some u_MOST_LETTERS))
    (h_MOST_LETTERS : chkV K (.int 12) u_MOST_LETTERS = true)
    (g_MOST_ROW : PySem.W.nsIn K mainGlobals (Str.ofString "MOST_ROW") = some (some u_MOST_ROW))
    (h_MOST_ROW : chkV K (.int 60) u_MOST_ROW = true)
    (aC_IntervalError : PySem.W.nsIn K mainGlobals (Str.ofString "IntervalError") = some (some (.ref C_IntervalError)))
    (eC_IntervalError : PySem.W.subIn K (.ref C_IntervalError) (.type "BaseException") = some true)
    (tC_IntervalError : PySem.W.typeIn K (.ref C_IntervalError) = some (.type "type"))
    (hC_IntervalError : PySem.W.hasDictIn K C_IntervalError = true)
    (aC_InvalidLetters : PySem.W.nsIn K mainGlobals (Str.ofString "InvalidLetters") = some (some (.ref C_InvalidLetters)))
    (eC_InvalidLetters : PySem.W.subIn K (.ref C_InvalidLetters) (.type "BaseException") = some true)
    (tC_InvalidLetters : PySem.W.typeIn K (.ref C_InvalidLetters) = some (.type "type"))
    (hC_InvalidLetters : PySem.W.hasDictIn K C_InvalidLetters = true)
    (xL_InvalidLetters : K.lookup C_InvalidLetters = some (excClassObj nm_InvalidLetters q_InvalidLetters C_InvalidLetters N_InvalidLetters bs_InvalidLetters bm_InvalidLetters true sn_InvalidLetters sub_InvalidLetters ab_InvalidLetters col_InvalidLetters dd_InvalidLetters m0_InvalidLetters m1_InvalidLetters m2_InvalidLetters m3_InvalidLetters m5_InvalidLetters "ValueError.__new__"))
    (hb_InvalidLetters : PySem.HandSPX.refsVE bm_InvalidLetters = true)
    (sa_InvalidLetters : PySem.W.findIn K (.ref C_InvalidLetters) "__setattr__" = some (some (.builtin "object.__setattr__")))
    (kC_InvalidLetters : PySem.W.keepIn K (.ref C_InvalidLetters) = true)
    (i_InvalidLetters : PySem.W.findIn K (.ref C_InvalidLetters) "__init__" = some (some (.ref f_IInvalidLetters)))
    (ti_InvalidLetters : PySem.W.typeIn K (.ref f_IInvalidLetters) = some (.type "function"))
    (l_IInvalidLetters : K.lookup f_IInvalidLetters = some ⟨oc_IInvalidLetters, od_IInvalidLetters, .func (PySem.W.fnOf (Str.ofString "__init__") (Str.ofString "InvalidLetters.__init__") (defArgs (initS 2)) (defBody (initS 2)) (defScope (initS 2)) .none kV_IInvalidLetters dc_IInvalidLetters pm_IInvalidLetters an_IInvalidLetters cd_IInvalidLetters ct_IInvalidLetters), sl_IInvalidLetters⟩)
    (c_IInvalidLetters : PySem.W.codeIn K cd_IInvalidLetters (Str.ofString "InvalidLetters.__init__") = true)
    (k_IInvalidLetters : PySem.W.keepIn K (.ref f_IInvalidLetters) = true)
    (no_InvalidLetters_given : PySem.W.findIn K (.ref C_InvalidLetters) (Str.ofString "given") = some none)
    (ga_InvalidLetters : PySem.W.findIn K (.ref C_InvalidLetters) "__getattribute__" = some (some (.builtin "BaseException.__getattribute__")))
    (gg_InvalidLetters : PySem.W.findIn K (.ref C_InvalidLetters) "__getattr__" = some none)
    (cl_InvalidLetters : PySem.W.findIn K (.ref C_InvalidLetters) "__class__" = some (some (.builtin "object.__class__")))
    (mr_InvalidLetters : PySem.W.mroIn K C_InvalidLetters (.type "object") = some true)
    (is_InvalidLetters : (PySem.W.clsIn K C_InvalidLetters).isSome = true)
    (aC_InvalidRow : PySem.W.nsIn K mainGlobals (Str.ofString "InvalidRow") = some (some (.ref C_InvalidRow)))
    (eC_InvalidRow : PySem.W.subIn K (.ref C_InvalidRow) (.type "BaseException") = some true)
    (tC_InvalidRow : PySem.W.typeIn K (.ref C_InvalidRow) = some (.type "type"))
    (hC_InvalidRow : PySem.W.hasDictIn K C_InvalidRow = true)
    (xL_InvalidRow : K.lookup C_InvalidRow = some (excClassObj nm_InvalidRow q_InvalidRow C_InvalidRow N_InvalidRow bs_InvalidRow bm_InvalidRow true sn_InvalidRow sub_InvalidRow ab_InvalidRow col_InvalidRow dd_InvalidRow m0_InvalidRow m1_InvalidRow m2_InvalidRow m3_InvalidRow m5_InvalidRow "ValueError.__new__"))
    (hb_InvalidRow : PySem.HandSPX.refsVE bm_InvalidRow = true)
    (sa_InvalidRow : PySem.W.findIn K (.ref C_InvalidRow) "__setattr__" = some (some (.builtin "object.__setattr__")))
    (kC_InvalidRow : PySem.W.keepIn K (.ref C_InvalidRow) = true)
    (i_InvalidRow : PySem.W.findIn K (.ref C_InvalidRow) "__init__" = some (some (.ref f_IInvalidRow)))
    (ti_InvalidRow : PySem.W.typeIn K (.ref f_IInvalidRow) = some (.type "function"))
    (l_IInvalidRow : K.lookup f_IInvalidRow = some ⟨oc_IInvalidRow, od_IInvalidRow, .func (PySem.W.fnOf (Str.ofString "__init__") (Str.ofString "InvalidRow.__init__") (defArgs (initS 4)) (defBody (initS 4)) (defScope (initS 4)) .none kV_IInvalidRow dc_IInvalidRow pm_IInvalidRow an_IInvalidRow cd_IInvalidRow ct_IInvalidRow), sl_IInvalidRow⟩)
    (c_IInvalidRow : PySem.W.codeIn K cd_IInvalidRow (Str.ofString "InvalidRow.__init__") = true)
    (k_IInvalidRow : PySem.W.keepIn K (.ref f_IInvalidRow) = true)
    (no_InvalidRow_given : PySem.W.findIn K (.ref C_InvalidRow) (Str.ofString "given") = some none)
    (ga_InvalidRow : PySem.W.findIn K (.ref C_InvalidRow) "__getattribute__" = some (some (.builtin "BaseException.__getattribute__")))
    (gg_InvalidRow : PySem.W.findIn K (.ref C_InvalidRow) "__getattr__" = some none)
    (cl_InvalidRow : PySem.W.findIn K (.ref C_InvalidRow) "__class__" = some (some (.builtin "object.__class__")))
    (mr_InvalidRow : PySem.W.mroIn K C_InvalidRow (.type "object") = some true)
    (is_InvalidRow : (PySem.W.clsIn K C_InvalidRow).isSome = true)
    (sp_ : PySem.W.specialIn K (.builtin "object.__class__") "__get__" = some (some (.builtin "getset_descriptor.__get__")))
    (tk_ : PySem.W.takesIn K (.builtin "object.__class__") = some true)
    (s_InvalidLetters_InvalidLetters : PySem.W.subIn K (.ref C_InvalidLetters) (.ref C_InvalidLetters) = some true)
    (s_InvalidRow_InvalidLetters : PySem.W.subIn K (.ref C_InvalidRow) (.ref C_InvalidLetters) = some false)
    (s_InvalidLetters_InvalidRow : PySem.W.subIn K (.ref C_InvalidLetters) (.ref C_InvalidRow) = some false)
    (s_InvalidRow_InvalidRow : PySem.W.subIn K (.ref C_InvalidRow) (.ref C_InvalidRow) = some true)
    (o_InvalidLetters_IntervalError : PySem.W.kitOne K (.ref C_InvalidLetters) (.ref C_IntervalError) = some true)
    (o_InvalidRow_IntervalError : PySem.W.kitOne K (.ref C_InvalidRow) (.ref C_IntervalError) = some true)
    (hl : ∀ ns : List Int, ns.length ≤ 63 → ∃ as, den_law [.val (.list (ns.map D.int))] = .ret (.val (.bool true)) as) :
    ∃ fd : FuncData, (∀ (s : Shared) (u : Value), BindsTo s fd ⟨[u], []⟩ [((Str.ofString "script"), u)]) ∧ ∀ base : Heap, K.In base → base.Ns mainGlobals mg → FnOk P w K mg base (L2.CX P w) 12 fa fd [(Str.ofString "script")] (spLaw K) := by
  have e := hfa.symm.trans (PySem.W.mg_of X G a_law)
  cases e
  have F__law_box := funD0 (st := topS 18) l__law_box c__law_box k__law_box
  have F__law_cell := funD0 (st := topS 17) l__law_cell c__law_cell k__law_cell
  have F__law_take := funD0 (st := topS 19) l__law_take c__law_take k__law_take
  have F__law_letters := funD0 (st := topS 23) l__law_letters c__law_letters k__law_letters
  have F_are_letters := funD0 (st := topS 9) l_are_letters c_are_letters k_are_letters
  have F_check_row := funD0 (st := topS 10) l_check_row c_check_row k_check_row
  have F_check_both := funD0 (st := topS 11) l_check_both c_check_both k_check_both
  have F_has_all := funD0 (st := topS 13) l_has_all c_has_all k_has_all
  have F_windows_of := funD0 (st := topS 12) l_windows_of c_windows_of k_windows_of
  have F_least_window := funD0 (st := topS 14) l_least_window c_least_window k_least_window
  have F_window_bar := funD0 (st := topS 15) l_window_bar c_window_bar k_window_bar
  have F__law_asked := funD0 (st := topS 28) l__law_asked c__law_asked k__law_asked
  have F__law_has := funD0 (st := topS 26) l__law_has c__law_has k__law_has
  have F__law_least := funD0 (st := topS 27) l__law_least c__law_least k__law_least
  have F__law_same := funD0 (st := topS 20) l__law_same c__law_same k__law_same
  have F__law_pair_right := funD0 (st := topS 29) l__law_pair_right c__law_pair_right k__law_pair_right
  have F__law_blamed := funD0 (st := topS 22) l__law_blamed c__law_blamed k__law_blamed
  have F__law_copy := funD0 (st := topS 21) l__law_copy c__law_copy k__law_copy
  have F__law_no_row := funD0 (st := topS 24) l__law_no_row c__law_no_row k__law_no_row
  have F__law_refused := funD0 (st := topS 30) l__law_refused c__law_refused k__law_refused
  have F__law_wanted := funD0 (st := topS 25) l__law_wanted c__law_wanted k__law_wanted
  have F_law := funD0 (st := topS 31) l_law c_law k_law
  refine law_end (s1 := (Str.ofString "script")) hfa (fun fd nm qual body scope F s u => FunD.bindsA (ps := [(Str.ofString "script")]) F (fun kV doc pm an cdv ct us hl => match us, hl with | [_], _ => by with_unfolding_all rfl) s [u] rfl) _ rfl F_law (fun base hK hN => ?_) hl
  have T : Txt P w K mg base 1 C_IntervalError C_InvalidLetters C_InvalidRow := {
    b_abs := PySem.W.mg_none_of X G z_abs,
    b_all := PySem.W.mg_none_of X G z_all,
    b_bool := PySem.W.mg_none_of X G z_bool,
    b_dict := PySem.W.mg_none_of X G z_dict,
    b_int := PySem.W.mg_none_of X G z_int,
    b_isinstance := PySem.W.mg_none_of X G z_isinstance,
    b_len := PySem.W.mg_none_of X G z_len,
    b_list := PySem.W.mg_none_of X G z_list,
    b_max := PySem.W.mg_none_of X G z_max,
    b_min := PySem.W.mg_none_of X G z_min,
    b_range := PySem.W.mg_none_of X G z_range,
    b_str := PySem.W.mg_none_of X G z_str,
    b_sum := PySem.W.mg_none_of X G z_sum,
    b_tuple := PySem.W.mg_none_of X G z_tuple,
    g_LETTERS := gloD_of (PySem.W.mg_of X G g_LETTERS) h_LETTERS,
    g_MOST_LETTERS := gloD_of (PySem.W.mg_of X G g_MOST_LETTERS) h_MOST_LETTERS,
    g_MOST_ROW := gloD_of (PySem.W.mg_of X G g_MOST_ROW) h_MOST_ROW,
    x_InvalidLetters := excD1 (oexC_mk xL_InvalidLetters hb_InvalidLetters sa_InvalidLetters eC_InvalidLetters tC_InvalidLetters kC_InvalidLetters) i_InvalidLetters ti_InvalidLetters (fun_mk (st := initS 2) l_IInvalidLetters c_IInvalidLetters k_IInvalidLetters) sI_InvalidLetters ((fun_mk (st := initS 2) l_IInvalidLetters c_IInvalidLetters k_IInvalidLetters).binds (ps := [(Str.ofString "self"), (Str.ofString "given")]) fun _ _ _ _ _ _ us hl => match us, hl with | [_, _], _ => by with_unfolding_all rfl) (PySem.W.mg_of X G aC_InvalidLetters) no_InvalidLetters_given (fun cdv A outer s H E => pss_one (ps_ost (pe_var (i := 0) rfl (by first | exact Or.inl rfl | exact Or.inr (Or.inl rfl) | exact Or.inr (Or.inr rfl))) (pe_var (i := 1) rfl (by first | exact Or.inl rfl | exact Or.inr (Or.inl rfl) | exact Or.inr (Or.inr rfl))))),
    x_InvalidRow := excD1 (oexC_mk xL_InvalidRow hb_InvalidRow sa_InvalidRow eC_InvalidRow tC_InvalidRow kC_InvalidRow) i_InvalidRow ti_InvalidRow (fun_mk (st := initS 4) l_IInvalidRow c_IInvalidRow k_IInvalidRow) sI_InvalidRow ((fun_mk (st := initS 4) l_IInvalidRow c_IInvalidRow k_IInvalidRow).binds (ps := [(Str.ofString "self"), (Str.ofString "given")]) fun _ _ _ _ _ _ us hl => match us, hl with | [_, _], _ => by with_unfolding_all rfl) (PySem.W.mg_of X G aC_InvalidRow) no_InvalidRow_given (fun cdv A outer s H E => pss_one (ps_ost (pe_var (i := 0) rfl (by first | exact Or.inl rfl | exact Or.inr (Or.inl rfl) | exact Or.inr (Or.inr rfl))) (pe_var (i := 1) rfl (by first | exact Or.inl rfl | exact Or.inr (Or.inl rfl) | exact Or.inr (Or.inr rfl))))),
    cl := trivial,
    n_IntervalError := PySem.W.mg_of X G aC_IntervalError,
    n_InvalidLetters := PySem.W.mg_of X G aC_InvalidLetters,
    n_InvalidRow := PySem.W.mg_of X G aC_InvalidRow,
    m_InvalidLetters := match_of (all_cons ⟨_, PySem.W.mg_of X G aC_InvalidLetters, (PySem.W.exm_ref eC_InvalidLetters hC_InvalidLetters tC_InvalidLetters s_InvalidLetters_InvalidLetters).trans (by decide)⟩ (all_cons ⟨_, PySem.W.mg_of X G aC_InvalidRow, (PySem.W.exm_ref eC_InvalidLetters hC_InvalidLetters tC_InvalidLetters s_InvalidRow_InvalidLetters).trans (by decide)⟩ all_nil)),
    m_InvalidRow := match_of (all_cons ⟨_, PySem.W.mg_of X G aC_InvalidLetters, (PySem.W.exm_ref eC_InvalidRow hC_InvalidRow tC_InvalidRow s_InvalidLetters_InvalidRow).trans (by decide)⟩ (all_cons ⟨_, PySem.W.mg_of X G aC_InvalidRow, (PySem.W.exm_ref eC_InvalidRow hC_InvalidRow tC_InvalidRow s_InvalidRow_InvalidRow).trans (by decide)⟩ all_nil)),
    i_IntervalError := isa_of (all_cons ⟨_, PySem.W.mg_of X G aC_InvalidLetters, ⟨ga_InvalidLetters, gg_InvalidLetters, eC_InvalidLetters, hC_InvalidLetters, cl_InvalidLetters, sp_, tk_, mr_InvalidLetters⟩, is_InvalidLetters, o_InvalidLetters_IntervalError.trans (by decide)⟩ (all_cons ⟨_, PySem.W.mg_of X G aC_InvalidRow, ⟨ga_InvalidRow, gg_InvalidRow, eC_InvalidRow, hC_InvalidRow, cl_InvalidRow, sp_, tk_, mr_InvalidRow⟩, is_InvalidRow, o_InvalidRow_IntervalError.trans (by decide)⟩ all_nil)),
    f_InvalidLetters_given := ⟨_, PySem.W.mg_of X G aC_InvalidLetters, ⟨ga_InvalidLetters, gg_InvalidLetters, eC_InvalidLetters, hC_InvalidLetters⟩, no_InvalidLetters_given⟩,
    f_InvalidRow_given := ⟨_, PySem.W.mg_of X G aC_InvalidRow, ⟨ga_InvalidRow, gg_InvalidRow, eC_InvalidRow, hC_InvalidRow⟩, no_InvalidRow_given⟩ }
  have d__law_box := ok__law_box T F__law_box (PySem.W.mg_of X G a__law_box) 
  have d__law_cell := ok__law_cell T F__law_cell (PySem.W.mg_of X G a__law_cell) 
  have d__law_take := ok__law_take T F__law_take (PySem.W.mg_of X G a__law_take) 
  have d__law_letters := ok__law_letters T F__law_letters (PySem.W.mg_of X G a__law_letters) d__law_take
  have d_are_letters := ok_are_letters T F_are_letters (PySem.W.mg_of X G a_are_letters) 
  have d_check_row := ok_check_row T F_check_row (PySem.W.mg_of X G a_check_row) d_are_letters
  have d_check_both := ok_check_both T F_check_both (PySem.W.mg_of X G a_check_both) d_are_letters d_check_row
  have d_has_all := ok_has_all T F_has_all (PySem.W.mg_of X G a_has_all) 
  have d_windows_of := ok_windows_of T F_windows_of (PySem.W.mg_of X G a_windows_of) 
  have d_least_window := ok_least_window T F_least_window (PySem.W.mg_of X G a_least_window) d_check_both d_has_all d_windows_of
  have d_window_bar := ok_window_bar T F_window_bar (PySem.W.mg_of X G a_window_bar) d_check_both
  have d__law_asked := ok__law_asked T F__law_asked (PySem.W.mg_of X G a__law_asked) d_least_window d_window_bar
  have d__law_has := ok__law_has T F__law_has (PySem.W.mg_of X G a__law_has) 
  have d__law_least := ok__law_least T F__law_least (PySem.W.mg_of X G a__law_least) d__law_has
  have d__law_same := ok__law_same T F__law_same (PySem.W.mg_of X G a__law_same)  8
  have d__law_pair_right := ok__law_pair_right T F__law_pair_right (PySem.W.mg_of X G a__law_pair_right) d__law_asked d__law_has d__law_least d__law_same
  have d__law_blamed := ok__law_blamed T F__law_blamed (PySem.W.mg_of X G a__law_blamed) d__law_same
  have d__law_copy := ok__law_copy T F__law_copy (PySem.W.mg_of X G a__law_copy) 
  have d__law_no_row := ok__law_no_row T F__law_no_row (PySem.W.mg_of X G a__law_no_row) d__law_take
  have d__law_refused := ok__law_refused T F__law_refused (PySem.W.mg_of X G a__law_refused) d__law_asked d__law_blamed d__law_copy d__law_no_row d__law_take
  have d__law_wanted := ok__law_wanted T F__law_wanted (PySem.W.mg_of X G a__law_wanted) d__law_take
  have d_law := ok_law T F_law (PySem.W.mg_of X G a_law) d__law_box d__law_cell d__law_letters d__law_pair_right d__law_refused d__law_take d__law_wanted
  exact d_law
end L64

set_option Elab.async false
set_option linter.all false
set_option maxRecDepth 100000
set_option maxHeartbeats 1000000
namespace L64
open PySem PySem.Spec L2 Dk PyProof.Rows
theorem take_eq : den__law_take = takeDen 15488863 179432927 105167 := rfl
theorem box_eq : den__law_box = denOf 1 boxB := rfl
theorem cell_eq : den__law_cell = denOf 2 (cellB 7487) := rfl
theorem smallc : smallC 15488863 179432927 105167 := by unfold smallC; decide
/-! texts as rows of signs -/
def tx (l : List Nat) : Str := ⟨l.toArray⟩
abbrev T (l : List Nat) : D := .str (tx l)
def abc : List Nat := [97, 98, 99, 100, 101, 102]
theorem abc_str : Str.ofString "abcdef" = tx abc := by decide +kernel
theorem nil_str : Str.ofString "" = tx [] := by decide +kernel
@[simp] theorem tx_len (l : List Nat) : (tx l).length = l.length := by show l.toArray.size = _; simp
@[simp] theorem tx_list (l : List Nat) : (tx l).cps.toList = l := by simp [tx]
theorem tx_inj {l m : List Nat} : tx l = tx m ↔ l = m := by
  constructor
  · intro h
    have := congrArg (fun s : Str => s.cps.toList) h
    simpa using this
  · rintro rfl; rfl
def sg (c : Nat) : D := T [c]
theorem it_tx (l : List Nat) : itB (T l) = some (l.map sg) := by
  show some ((tx l).cps.toList.map fun c => D.str ⟨#[c]⟩) = _
  rw [tx_list]; rfl
theorem in_tx (c : Nat) (l : List Nat) : inD (T [c]) (T l) = some (.val (.bool (decide (c ∈ l)))) := by
  unfold inD inB
  dsimp only
  have := StrLaws.found_one (tx l) c
  rw [tx_list] at this
  rw [show tx [c] = ⟨#[c]⟩ from rfl, this]
  rfl
theorem count_tx (c : Nat) (l : List Nat) : Txt.count (tx l) (tx [c]) = cnt c l := by
  have := count_cnt (tx l) c
  rw [tx_list] at this
  exact this
theorem cnt_app (c : Nat) : ∀ l m : List Nat, cnt c (l ++ m) = cnt c l + cnt c m
  | [], m => by rw [cnt_nil]; simp
  | a :: l, m => by rw [List.cons_append, cnt_cons, cnt_cons, cnt_app c l m]; omega
theorem cnt_pos (c : Nat) : ∀ l : List Nat, 0 ≤ cnt c l
  | [] => by rw [cnt_nil]; omega
  | a :: l => by
    have := cnt_pos c l
    rw [cnt_cons]; split <;> omega
theorem cnt_not {c : Nat} : ∀ {l : List Nat}, c ∉ l → cnt c l = 0
  | [], _ => cnt_nil c
  | a :: l, h => by
    rw [cnt_cons, cnt_not (l := l) (fun m => h (List.mem_cons_of_mem _ m)), if_neg (fun e => h (by rw [e]; exact List.mem_cons_self))]; omega
theorem cnt_mem {c : Nat} : ∀ {l : List Nat}, c ∈ l → 1 ≤ cnt c l
  | a :: l, h => by
    have := cnt_pos c l
    rw [cnt_cons]
    rcases List.mem_cons.mp h with rfl | h
    · simp; omega
    · have := cnt_mem h
      split <;> omega
/-- a stretch -/
def cutN (l : List Nat) (i k : Nat) : List Nat := (l.drop i).take k
theorem cut_at {l : List Nat} {i k : Nat} (h : i + k ≤ l.length) : cutS (tx l) (some (i : Int)) (some ((i : Int) + (k : Int))) = tx (cutN l i k) := by
  have e1 : HT.sIx (tx l).length 0 (some (i : Int)) = i := sIx_nat (by rw [tx_len]; omega)
  have e2 : HT.sIx (tx l).length (tx l).length (some ((i : Int) + (k : Int))) = i + k := by
    rw [← Int.natCast_add]
    exact sIx_nat (by rw [tx_len]; omega)
  unfold cutS
  rw [e1, e2, tx_list, Nat.add_sub_cancel_left]
  rfl
theorem sl_at {l : List Nat} {i k : Nat} (hl : l.length ≤ 1000000) (h : i + k ≤ l.length) : slD (T l) (some (i : Int)) (some ((i : Int) + (k : Int))) = some (.val (T (cutN l i k))) := by
  show (if (tx l).length ≤ sizeLine then some (Sl.val (D.str (cutS (tx l) (some (i : Int)) (some ((i : Int) + (k : Int)))))) else none) = _
  rw [if_pos (by rw [tx_len]; exact le_line hl), cut_at h]
/-- any stretch, as Python cuts it -/
theorem sl_any {l : List Nat} (hl : l.length ≤ 1000000) (lo hi : Option Int) : ∃ m : List Nat, slD (T l) lo hi = some (.val (T m)) ∧ m.length ≤ l.length ∧ (∀ c ∈ m, c ∈ l) ∧ m = (l.drop (HT.sIx l.length 0 lo)).take (HT.sIx l.length l.length hi - HT.sIx l.length 0 lo) := by
  refine ⟨_, ?_, ?_, ?_, rfl⟩
  · show (if (tx l).length ≤ sizeLine then some (Sl.val (D.str (cutS (tx l) lo hi))) else none) = _
    rw [if_pos (by rw [tx_len]; exact le_line hl)]
    unfold cutS
    rw [tx_len, tx_list]
    rfl
  · rw [List.length_take, List.length_drop]; omega
  · intro c hc
    exact List.mem_of_mem_drop (List.mem_of_mem_take hc)
theorem add_tx (l m : List Nat) : tx l ++ tx m = tx (l ++ m) := by
  show Str.append _ _ = _
  unfold Str.append tx
  simp
theorem shp_tx {l : List Nat} (h : ∀ c ∈ l, c < 1114112) : SeqAt.shaped (T l).toP = true := shp (by
  show PyData.strOk (tx l) = true
  unfold PyData.strOk
  rw [Array.all_eq_true']
  intro c hc
  have : c ∈ l := by
    have h2 : c ∈ (tx l).cps.toList := by rw [Array.mem_toList_iff]; exact hc
    rwa [tx_list] at h2
  have := h c this
  simpa using this) (Nat.zero_le _)
theorem eq_tx {l m : List Nat} (h1 : ∀ c ∈ l, c < 1114112) (h2 : ∀ c ∈ m, c < 1114112) : eqD (T l) (T m) = some (.val (.bool (decide (l = m)))) := by
  unfold eqD
  rw [if_pos ⟨shp_tx h1, shp_tx h2⟩, eqv_str]
  congr 3
  exact decide_eq_decide.mpr tx_inj
def Abc (l : List Nat) : Prop := ∀ c ∈ l, c ∈ abc
theorem abc_small {l : List Nat} (h : Abc l) : ∀ c ∈ l, c < 1114112 := fun c hc => by
  have := h c hc
  simp [abc] at this
  omega
/-! are_letters -/
theorem are_tx (l : List Nat) (m : Int) (hl : l.length ≤ 1000000) : den_are_letters [.val (T l), .val (.int m)] = .ret (.val (.bool (decide ((l.length : Int) ≤ m) && l.all fun c => decide (c ∈ abc)))) [.val (T l), .val (.int m)] := by
  have hz := le_line hl
  have hi : ∀ ρ, kAny (T l) ρ = .ok (.val (.list (l.map sg))) ρ := fun ρ => by
    unfold kAny
    rw [show (T l).un = T l from rfl, it_tx]
  have e1 := eLc_all (fi := iAny (eVar 0)) (h := gN 2) (tt := eYes) (elt := eOp inD (eVar 2) (eC (.str (Str.ofString "abcdef")))) (vs := [2]) (ρ := [.val (T l), .val (.int m), .emp]) l sg (fun c => D.bool (decide (c ∈ abc))) (by simp [hi]) hz (by simp [clearB]) (fun c hc => by
    have := in_tx c abc
    simp [wipeE, abc_str, sg, this])
  by_cases g : (l.length : Int) ≤ m
  · simp [den_are_letters, body_are_letters, isT, hz, g, e1, List.all_map]
  · simp [den_are_letters, body_are_letters, isT, hz, g]
theorem are_ok {l : List Nat} {m : Int} (h : Abc l) (hm : (l.length : Int) ≤ m) (hl : l.length ≤ 1000000) : den_are_letters [.val (T l), .val (.int m)] = .ret (.val (.bool true)) [.val (T l), .val (.int m)] := by
  rw [are_tx l m hl]
  have : (l.all fun c => decide (c ∈ abc)) = true := List.all_eq_true.mpr fun c hc => decide_eq_true (h c hc)
  rw [this, decide_eq_true hm]; rfl
theorem are_no {d : D} {m : Int} (h : isT .str d.un = false) : den_are_letters [.val d, .val (.int m)] = .ret (.val (.bool false)) [.val d, .val (.int m)] := by
  simp [den_are_letters, body_are_letters, h]
/-! counts -/
def hasB (s w : List Nat) : Bool := abc.all fun c => !decide (cnt c s < cnt c w)
theorem has_iff {s w : List Nat} : hasB s w = true ↔ ∀ c ∈ abc, cnt c w ≤ cnt c s := by
  unfold hasB
  rw [List.all_eq_true]
  constructor
  · intro h c hc
    have := h c hc
    simp at this
    exact this
  · intro h c hc
    have := h c hc
    simp
    exact this
theorem has_all {s w : List Nat} (hw : Abc w) (hl : w.length ≤ 1000000) : den_has_all [.val (T s), .val (T w)] = .ret (.val (.bool (hasB s w))) [.val (T s), .val (T w)] := by
  have hi : ∀ ρ, kAny (T w) ρ = .ok (.val (.list (w.map sg))) ρ := fun ρ => by
    unfold kAny
    rw [show (T w).un = T w from rfl, it_tx]
  have e1 := eLc_all (fi := iAny (eVar 1)) (h := gN 2) (tt := eYes) (elt := eOp geD (eCount (eVar 0) (eVar 2)) (eCount (eVar 1) (eVar 2))) (vs := [2]) (ρ := [.val (T s), .val (T w), .emp]) w sg (fun c => D.bool (decide (cnt c w ≤ cnt c s))) (by simp [hi]) (le_line hl) (by simp [clearB]) (fun c hc => by
    simp [wipeE, sg, count_tx])
  have e2 : (w.all fun c => decide (cnt c w ≤ cnt c s)) = hasB s w := by
    rw [Bool.eq_iff_iff, has_iff, List.all_eq_true]
    constructor
    · intro h c hc
      by_cases m : c ∈ w
      · simpa using h c m
      · rw [cnt_not m]; exact cnt_pos c s
    · intro h c hc
      simpa using h c (hw c hc)
  simp [den_has_all, body_has_all, e1]
  simpa using e2
theorem kAny_abc : (Str.ofString "abcdef").cps.toList.map (fun c => D.str ⟨#[c]⟩) = abc.map sg := by
  rw [abc_str, tx_list]; rfl
theorem abc_line : abc.length ≤ sizeLine := le_line (by decide)
def missing (s w : List Nat) : List Nat := abc.filter fun c => decide (cnt c s < cnt c w)
theorem missing_nil {s w : List Nat} : (missing s w).isEmpty = hasB s w := by
  unfold missing hasB
  rw [Bool.eq_iff_iff, List.isEmpty_iff, List.filter_eq_nil_iff, List.all_eq_true]
  constructor
  · intro h c hc
    have := h c hc
    simpa using this
  · intro h c hc
    have := h c hc
    simpa using this
theorem law_has (s w : List Nat) : den__law_has [.val (T s), .val (T w)] = .ret (.val (.bool (hasB s w))) [.val (T s), .val (T w)] := by
  have e1 := eLc_map (fi := iAny (eC (.str (Str.ofString "abcdef")))) (h := gN 2) (tt := eOp ltD (eCount (eVar 0) (eVar 2)) (eCount (eVar 1) (eVar 2))) (elt := eVar 2) (vs := [2]) (ρ := [.val (T s), .val (T w), .emp]) abc sg sg (fun c => decide (cnt c s < cnt c w)) (by simp [kAny_abc]) abc_line (by simp [clearB]) (fun c hc => by
    by_cases g : cnt c s < cnt c w <;> simp [wipeE, sg, count_tx, g])
  have e2 := eqD_nil' ((missing s w).map sg)
  have e3 : ((missing s w).map sg).isEmpty = hasB s w := by rw [← missing_nil]; cases missing s w <;> rfl
  rw [e3] at e2
  unfold missing at e2
  simp only [den__law_has, body__law_has]
  generalize hE : eLc (iAny (eC (.str (Str.ofString "abcdef")))) (gN 2) (eOp ltD (eCount (eVar 0) (eVar 2)) (eCount (eVar 1) (eVar 2))) (eVar 2) [2] = Z at *
  simp [e1, e2]
end L64

set_option Elab.async false
set_option linter.all false
set_option maxRecDepth 100000
set_option maxHeartbeats 1000000
namespace L64
open PySem PySem.Spec L2 Dk PyProof.Rows
theorem cutN_len {l : List Nat} {i k : Nat} (h : i + k ≤ l.length) : (cutN l i k).length = k := by
  unfold cutN; rw [List.length_take, List.length_drop]; omega
def Pw (l w : List Nat) (q : Nat × Nat) : Prop := q.2 + q.1 ≤ l.length ∧ hasB (cutN l q.2 q.1) w = true
def Least (l w : List Nat) : Option (Nat × Nat) → Prop
  | none => ∀ q, ¬ Pw l w q
  | some p => Pw l w p ∧ ∀ q, Pw l w q → leP p q
theorem least_unique {l w : List Nat} {o o' : Option (Nat × Nat)} (h : Least l w o) (h' : Least l w o') : o = o' := by
  cases o with
  | none =>
    cases o' with
    | none => rfl
    | some p => exact absurd h'.1 (h p)
  | some p =>
    cases o' with
    | none => exact absurd h.1 (h' p)
    | some q =>
      have a := h.2 q h'.1
      have b := h'.2 p h.1
      unfold leP at a b
      have e1 : p.1 = q.1 := by omega
      have e2 : p.2 = q.2 := by omega
      cases p; cases q; simp_all
def oD : Option (Nat × Nat) → D
  | none => .none
  | some p => prD p
/-! the law's search -/
def at1 (l w : List Nat) (len low : Nat) : Option (Nat × Nat) := if hasB (cutN l low len) w then some (len, low) else none
def at2 (l w : List Nat) (len : Nat) : Option (Nat × Nat) := (List.range (l.length - len + 1)).findSome? (at1 l w len)
def least (l w : List Nat) : Option (Nat × Nat) := (List.range (l.length + 1)).findSome? (at2 l w)
theorem least_ok (l w : List Nat) : Least l w (least l w) := by
  have in1 : ∀ len, match at2 l w len with
      | some p => p.1 = len ∧ p.2 ≤ l.length - len ∧ hasB (cutN l p.2 len) w = true ∧ ∀ j, j < p.2 → hasB (cutN l j len) w = false
      | none => ∀ j, j ≤ l.length - len → hasB (cutN l j len) w = false := by
    intro len
    have h := range_find (at1 l w len) (l.length - len + 1)
    have hn : ∀ j, at1 l w len j = none → hasB (cutN l j len) w = false := fun j e => by
      unfold at1 at e
      split at e
      · cases e
      · rename_i g; simpa using g
    unfold at2
    cases e : (List.range (l.length - len + 1)).findSome? (at1 l w len) with
    | none =>
      rw [e] at h
      exact fun j hj => hn j (h j (by omega))
    | some p =>
      rw [e] at h
      obtain ⟨k, h1, h2, h3⟩ := h
      unfold at1 at h2
      split at h2
      · rename_i g
        cases h2
        exact ⟨rfl, by show k ≤ _; omega, g, fun j hj => hn j (h3 j hj)⟩
      · cases h2
  have h := range_find (at2 l w) (l.length + 1)
  unfold least
  cases e : (List.range (l.length + 1)).findSome? (at2 l w) with
  | none =>
    rw [e] at h
    intro q hq
    have i1 := in1 q.1
    rw [h q.1 (by have := hq.1; omega)] at i1
    have := i1 q.2 (by have := hq.1; omega)
    rw [hq.2] at this
    cases this
  | some p =>
    rw [e] at h
    obtain ⟨k, h1, h2, h3⟩ := h
    have i1 := in1 k
    rw [h2] at i1
    obtain ⟨q1, q2, q3, q4⟩ := i1
    refine ⟨⟨by omega, by rw [q1]; exact q3⟩, fun q hq => ?_⟩
    unfold leP
    have hq1 := hq.1
    rcases Nat.lt_trichotomy q.1 k with g | g | g
    · exfalso
      have i2 := in1 q.1
      rw [h3 q.1 g] at i2
      have := i2 q.2 (by omega)
      rw [hq.2] at this
      cases this
    · refine .inr ⟨by omega, ?_⟩
      rcases Nat.lt_or_ge q.2 p.2 with c | c
      · exfalso
        have := q4 q.2 c
        have h2 := hq.2
        rw [g, this] at h2
        cases h2
      · exact c
    · exact .inl (by omega)
def J (l w : List Nat) (ρ : Dk.Env) : Prop := ∃ o2 o3 : Sl, o2.isRef = false ∧ o3.isRef = false ∧ ρ = [.val (T l), .val (T w), o2, o3]
def J1 (l w : List Nat) (len : Nat) (ρ : Dk.Env) : Prop := ∃ o3 : Sl, o3.isRef = false ∧ ρ = [.val (T l), .val (T w), .val (.int len), o3]
noncomputable def leB1 : SX := (sIf (eTru (eCallG den__law_has [(.v (eSl (eVar 0) (.at (eVar 3)) (.at (eOp addD (eVar 3) (eVar 2))))), (.v (eVar 1))] [.a 0, .a 1])) (sRet (eTup [(eVar 2), (eVar 3)])) sNx)
noncomputable def leB2 : SX := (sFor (iRng1D (eOp addD (eOp subD (eCB lenD [(eVar 0)]) (eVar 2)) (eC (.int 1)))) (gN 3) leB1)
theorem leB1_ok {l w : List Nat} {len low : Nat} (hl : l.length ≤ 1000) (h : low + len ≤ l.length) : leB1 [.val (T l), .val (T w), .val (.int len), .val (.int low)] = if hasB (cutN l low len) w then .ret (.val (prD (len, low))) [.val (T l), .val (T w), .val (.int len), .val (.int low)] else .nx [.val (T l), .val (T w), .val (.int len), .val (.int low)] := by
  have s := sl_at (l := l) (i := low) (k := len) (by omega) h
  have q := law_has (cutN l low len) w
  cases g : hasB (cutN l low len) w <;> rw [g] at q <;> simp [leB1, s, q, Dk.prD]
theorem law_least {l w : List Nat} (hl : l.length ≤ 1000) : den__law_least [.val (T l), .val (T w)] = .ret (.val (oD (least l w))) [.val (T l), .val (T w)] := by
  have hz : l.length ≤ sizeLine := le_line (by omega)
  have inner : ∀ len : Nat, len ≤ l.length → ∀ ρ, J1 l w len ρ → (match at2 l w len with
      | some d => ∃ ρ2, leB2 ρ = .ret (.val (prD d)) ρ2 ∧ J1 l w len ρ2
      | none => ∃ ρ2, leB2 ρ = .nx ρ2 ∧ J1 l w len ρ2) := fun len hlen ρ hρ => by
    have h := forD_some (h := gN 3) (body := leB1) (J1 l w len) (at1 l w len) (fun (i : Nat) => D.int i) prD (List.range (l.length - len + 1)) (fun low hlow ρ hI => by
      obtain ⟨o3, h3, rfl⟩ := hI
      rw [List.mem_range] at hlow
      refine ⟨[.val (T l), .val (T w), .val (.int len), .val (.int low)], by simp [slS_nr h3], ?_⟩
      have e := leB1_ok (w := w) hl (show low + len ≤ l.length by omega)
      unfold at1
      cases g : hasB (cutN l low len) w with
      | true => rw [g] at e; exact ⟨_, e, .val (.int low), rfl, rfl⟩
      | false => rw [g] at e; exact ⟨_, e, .val (.int low), rfl, rfl⟩) ρ hρ
    obtain ⟨o3, h3, rfl⟩ := hρ
    have sm : SmallI ((l.length : Int) - len + 1) := smI _ (by omega) (by omega)
    have hc : ((l.length : Int) - len + 1).toNat = l.length - len + 1 := by omega
    have e0 : leB2 [.val (T l), .val (T w), .val (.int len), o3] = forD (gN 3) leB1 ((List.range (l.length - len + 1)).map fun (i : Nat) => D.int i) [.val (T l), .val (T w), .val (.int len), o3] := by
      rw [← rngL_0]
      simp [leB2, hz, sm, hc]
    rw [e0]
    unfold at2
    cases g : (List.range (l.length - len + 1)).findSome? (at1 l w len) with
    | none => rw [g] at h; exact h
    | some d => rw [g] at h; exact h
  have outer := forD_some (h := gN 2) (body := leB2) (J l w) (at2 l w) (fun (i : Nat) => D.int i) prD (List.range (l.length + 1)) (fun len hlen ρ hI => by
    obtain ⟨o2, o3, h2, h3, rfl⟩ := hI
    rw [List.mem_range] at hlen
    refine ⟨[.val (T l), .val (T w), .val (.int len), o3], by simp [slS_nr h2], ?_⟩
    have q := inner len (by omega) _ ⟨o3, h3, rfl⟩
    cases g : at2 l w len with
    | none =>
      rw [g] at q
      obtain ⟨ρ2, e, o, ho, rfl⟩ := q
      exact ⟨_, e, .val (.int len), o, rfl, ho, rfl⟩
    | some d =>
      rw [g] at q
      obtain ⟨ρ2, e, o, ho, rfl⟩ := q
      exact ⟨_, e, .val (.int len), o, rfl, ho, rfl⟩) [.val (T l), .val (T w), .emp, .emp] ⟨.emp, .emp, rfl, rfl, rfl⟩
  have sm : SmallI ((l.length : Int) + 1) := smI _ (by omega) (by omega)
  have hc : ((l.length : Int) + 1).toNat = l.length + 1 := by omega
  have hbody : body__law_least = (sSeq (sFor (iRng1D (eOp addD (eCB lenD [(eVar 0)]) (eC (.int 1)))) (gN 2) leB2) (sRet (eC .none))) := rfl
  unfold den__law_least
  rw [hbody]
  rw [← rngL_0] at outer
  unfold least
  cases g : (List.range (l.length + 1)).findSome? (at2 l w) with
  | none =>
    rw [g] at outer
    obtain ⟨ρ2, e, o, o', _, _, rfl⟩ := outer
    simp [hz, sm, hc, e, oD]
  | some d =>
    rw [g] at outer
    obtain ⟨ρ2, e, o, o', _, _, rfl⟩ := outer
    simp [hz, sm, hc, e, oD]
/-! the program's -/
def wins (n : Nat) : List (Nat × Nat) := (List.range n).flatMap fun i => (List.range (n - i)).map fun k => (k + 1, i)
theorem wins_mem {n : Nat} {q : Nat × Nat} : q ∈ wins n ↔ 1 ≤ q.1 ∧ q.2 + q.1 ≤ n := by
  unfold wins
  simp only [List.mem_flatMap, List.mem_map, List.mem_range]
  constructor
  · rintro ⟨i, hi, k, hk, rfl⟩
    simp; omega
  · rintro ⟨h1, h2⟩
    refine ⟨q.2, by omega, q.1 - 1, by omega, ?_⟩
    cases q
    simp at *
    omega
theorem wins_len (n : Nat) (h : n ≤ 100) : (wins n).length ≤ 10000 := by
  have : ∀ l : List Nat, ((l.flatMap fun i => (List.range (n - i)).map fun k => (k + 1, i)) : List (Nat × Nat)).length ≤ l.length * 100 := by
    intro l
    induction l with
    | nil => simp
    | cons a l ih =>
      simp only [List.flatMap_cons, List.length_append, List.length_map, List.length_range, List.length_cons]
      omega
  have := this (List.range n)
  rw [List.length_range] at this
  unfold wins
  omega
theorem windows_ok {l : List Nat} (hl : l.length ≤ 100) : den_windows_of [.val (T l)] = .ret (.own (.lst ((wins l.length).map prD))) [.val (T l)] := by
  have hz : l.length ≤ sizeLine := le_line (by omega)
  have sm : SmallI (l.length : Int) := smI _ (by omega) (by omega)
  have e := eLc2_all (fi := (iRng1D (eVar 1))) (h := gN 2) (fi1 := (iRng2D (eOp addD (eVar 2) (eC (.int 1))) (eOp addD (eVar 1) (eC (.int 1))))) (h1 := gN 3) (elt := (eTup [(eOp subD (eVar 3) (eVar 2)), (eVar 2)])) (vs := [2, 3]) (vs1 := [3]) (ρ := [.val (T l), .val (.int l.length), .emp, .emp])
    (List.range l.length) (fun (i : Nat) => D.int i) (fun i => List.range (l.length - i)) (fun (i k : Nat) => D.int ((i : Int) + 1 + k)) (fun i k => prD (k + 1, i))
    (by simp [sm, rngL_0]) (by simp [clearB]) (le_line (by
      have := wins_len l.length hl
      have e : ((List.range l.length).flatMap fun i => List.range (l.length - i)).length = (wins l.length).length := by
        unfold wins; simp [List.length_flatMap]
      omega))
    (fun i hi => by
      rw [List.mem_range] at hi
      refine ⟨[.val (T l), .val (.int l.length), .val (.int i), .emp], by simp [wipeE], ?_, by simp [clearB], by simp [wipeE], fun k hk => ?_⟩
      · have s1 : SmallI ((i : Int) + 1) := smI _ (by omega) (by omega)
        have s2 : SmallI ((l.length : Int) + 1) := smI _ (by omega) (by omega)
        have : ((l.length : Int) + 1 - ((i : Int) + 1)).toNat = l.length - i := by omega
        simp [s1, s2]
        unfold rngL
        rw [this]
      · have : (i : Int) + 1 + k - i = k + 1 := by omega
        simp [wipeE, Dk.prD, this])
  simp [den_windows_of, body_windows_of, hz, e, wins, List.map_flatMap]
  rfl
end L64

set_option Elab.async false
set_option linter.all false
set_option maxRecDepth 100000
set_option maxHeartbeats 1000000
namespace L64
open PySem PySem.Spec L2 Dk PyProof.Rows
/-! what the functions tell -/
def Row (m : Nat) (l : List Nat) : Prop := Abc l ∧ l.length ≤ m
def NoL (m : Int) (d : D) : Prop := den_are_letters [.val d, .val (.int m)] = .ret (.val (.bool false)) [.val d, .val (.int m)]
theorem row_ok {l : List Nat} (h : Row 60 l) : den_check_row [.val (T l)] = .ret (.val .none) [.val (T l)] := by
  have := are_ok (m := 60) h.1 (by have := h.2; omega) (by have := h.2; omega)
  simp [den_check_row, body_check_row, this]
theorem row_no {d : D} (h : NoL 60 d) : den_check_row [.val d] = .exc (Str.ofString "InvalidRow") [(Str.ofString "given", d)] [.val d] := by
  unfold NoL at h
  simp [den_check_row, body_check_row, h]
theorem both_ok {l w : List Nat} (h : Row 60 l) (hw : Row 12 w) : den_check_both [.val (T l), .val (T w)] = .ret (.val .none) [.val (T l), .val (T w)] := by
  have := are_ok (m := 12) hw.1 (by have := hw.2; omega) (by have := hw.2; omega)
  simp [den_check_both, body_check_both, row_ok h, this]
theorem both_no1 {d e : D} (h : NoL 60 d) : den_check_both [.val d, .val e] = .exc (Str.ofString "InvalidRow") [(Str.ofString "given", d)] [.val d, .val e] := by
  simp [den_check_both, body_check_both, row_no h]
theorem both_no2 {l : List Nat} {e : D} (h : Row 60 l) (he : NoL 12 e) : den_check_both [.val (T l), .val e] = .exc (Str.ofString "InvalidLetters") [(Str.ofString "given", e)] [.val (T l), .val e] := by
  unfold NoL at he
  simp [den_check_both, body_check_both, row_ok h, he]
theorem has_nil (s : List Nat) : hasB s [] = true := has_iff.mpr fun c _ => by rw [cnt_nil]; exact cnt_pos c s
theorem nil_has {w : List Nat} (hw : Abc w) (h : hasB [] w = true) : w = [] := by
  cases w with
  | nil => rfl
  | cons a w =>
    have h1 := has_iff.mp h a (hw a List.mem_cons_self)
    have h2 := cnt_mem (c := a) (l := a :: w) List.mem_cons_self
    rw [cnt_nil] at h1
    omega
theorem least_nil (l : List Nat) : least l [] = some (0, 0) := by
  refine least_unique (least_ok l []) ⟨⟨by simp, has_nil _⟩, fun q _ => ?_⟩
  unfold leP; simp; omega
def good (l w : List Nat) : List (Nat × Nat) := (wins l.length).filter fun q => hasB (cutN l q.2 q.1) w
theorem least_cons {l w : List Nat} (hw : Abc w) (hne : w ≠ []) : least l w = match good l w with
    | [] => none
    | x :: xs => some (minP x xs) := by
  have pg : ∀ q, Pw l w q → q ∈ good l w := fun q hq => by
    unfold good
    rw [List.mem_filter, wins_mem]
    refine ⟨⟨?_, hq.1⟩, hq.2⟩
    rcases Nat.eq_zero_or_pos q.1 with e | e
    · exfalso
      have := hq.2
      rw [e] at this
      unfold cutN at this
      rw [List.take_zero] at this
      exact hne (nil_has hw this)
    · exact e
  have gp : ∀ q, q ∈ good l w → Pw l w q := fun q hq => by
    unfold good at hq
    rw [List.mem_filter, wins_mem] at hq
    exact ⟨hq.1.2, hq.2⟩
  cases e : good l w with
  | nil =>
    refine least_unique (least_ok l w) fun q hq => ?_
    have := pg q hq
    rw [e] at this
    cases this
  | cons x xs =>
    refine least_unique (least_ok l w) ⟨gp _ (by rw [e]; exact minP_mem xs x), fun q hq => minP_le xs x q (by rw [← e]; exact pg q hq)⟩
theorem window_ok {l w : List Nat} (h : Row 60 l) (hw : Row 12 w) : den_least_window [.val (T l), .val (T w)] = .ret (.val (oD (least l w))) [.val (T l), .val (T w)] := by
  have b := both_ok h hw
  have q := eq_tx (abc_small hw.1) (m := []) (by simp)
  have h60 := h.2
  by_cases hne : w = []
  · subst hne
    rw [least_nil]
    simp [den_least_window, body_least_window, b, nil_str, q, oD, Dk.prD]
  · have wo := windows_ok (l := l) (by omega)
    have wl := wins_len l.length (by omega)
    have e1 := eLc_map (fi := iAny (eCallG den_windows_of [(.v (eVar 0))] [.a 0])) (h := gT 2 (gsC (gN 3) (gsC (gN 4) gsN))) (tt := eTru (eCallG den_has_all [(.v (eSl (eVar 0) (.at (eVar 4)) (.at (eOp addD (eVar 4) (eVar 3))))), (.v (eVar 1))] [.a 0, .a 1])) (elt := eTup [(eVar 3), (eVar 4)]) (vs := [3, 4]) (ρ := [.val (T l), .val (T w), .emp, .emp, .emp])
      (wins l.length) Dk.prD Dk.prD (fun q => hasB (cutN l q.2 q.1) w) (by simp [wo]) (le_line (by omega)) (by simp [clearB]) (fun q hq => by
        have hq := wins_mem.mp hq
        have s := sl_at (l := l) (i := q.2) (k := q.1) (by omega) hq.2
        have hh := has_all (s := cutN l q.2 q.1) hw.1 (by have := hw.2; omega)
        cases g : hasB (cutN l q.2 q.1) w <;> rw [g] at hh <;> simp [wipeE, Dk.prD, s, hh])
    rw [least_cons hw.1 hne]
    have e2 : (wins l.length).filter (fun q => hasB (cutN l q.2 q.1) w) = good l w := rfl
    rw [e2] at e1
    cases eg : good l w with
    | nil =>
      rw [eg] at e1
      simp [den_least_window, body_least_window, b, nil_str, q, hne, e1, oD, neD_nil]
    | cons x xs =>
      rw [eg] at e1
      have m := minLD_prD x xs
      rw [List.map_cons] at e1 m
      simp [den_least_window, body_least_window, b, nil_str, q, hne, e1, oD, neD_nil, m]
theorem bar_ok {l w : List Nat} (h : Row 60 l) (hw : Row 12 w) : den_window_bar [.val (T l), .val (T w)] = .ret (.val (match missing l w with | [] => .none | c :: _ => sg c)) [.val (T l), .val (T w)] := by
  have b := both_ok h hw
  have e1 := eLc_map (fi := iAny (eC (.str (Str.ofString "abcdef")))) (h := gN 3) (tt := eOp ltD (eCount (eVar 0) (eVar 3)) (eCount (eVar 1) (eVar 3))) (elt := eVar 3) (vs := [3]) (ρ := [.val (T l), .val (T w), .emp, .emp]) abc sg sg (fun c => decide (cnt c l < cnt c w)) (by simp [kAny_abc]) abc_line (by simp [clearB]) (fun c hc => by
    by_cases g : cnt c l < cnt c w <;> simp [wipeE, sg, count_tx, g])
  have e2 : abc.filter (fun c => decide (cnt c l < cnt c w)) = missing l w := rfl
  rw [e2] at e1
  cases eg : missing l w with
  | nil =>
    rw [eg] at e1
    simp [den_window_bar, body_window_bar, b, e1, neD_nil]
  | cons x xs =>
    rw [eg] at e1
    simp [den_window_bar, body_window_bar, b, e1, neD_nil]
end L64

set_option Elab.async false
set_option linter.all false
set_option maxRecDepth 100000
set_option maxHeartbeats 1000000
namespace L64
open PySem PySem.Spec L2 Dk PyProof.Rows
/-! _law_asked -/
abbrev S (s : String) : D := .str (Str.ofString s)
def barD (l w : List Nat) : D := match missing l w with | [] => .none | c :: _ => sg c
def barP (m : List Nat) : D := match m with | [] => .none | c :: _ => sg c
theorem asked_win {l w : List Nat} (h : Row 60 l) (hw : Row 12 w) (b : Bool) : den__law_asked [.val (S "window"), .val (T l), .val (T w), .val (.bool b)] = .ret (.own (.lst [S "told", oD (least l w)])) [.val (S "window"), .val (T l), .val (T w), .val (.bool b)] := by
  have e := window_ok h hw
  cases b <;> simp [den__law_asked, body__law_asked, e, ofString_inj]
theorem asked_bar {l w : List Nat} (h : Row 60 l) (hw : Row 12 w) (b : Bool) : den__law_asked [.val (S "bar"), .val (T l), .val (T w), .val (.bool b)] = .ret (.own (.lst [S "told", barD l w])) [.val (S "bar"), .val (T l), .val (T w), .val (.bool b)] := by
  have e := bar_ok h hw
  have e : den_window_bar [.val (T l), .val (T w)] = .ret (.val (barD l w)) [.val (T l), .val (T w)] := e
  cases b <;> simp [den__law_asked, body__law_asked, e, ofString_inj]
theorem win_no1 {d e : D} (h : NoL 60 d) : den_least_window [.val d, .val e] = .exc (Str.ofString "InvalidRow") [(Str.ofString "given", d)] [.val d, .val e] := by
  simp [den_least_window, body_least_window, both_no1 h]
theorem bar_no1 {d e : D} (h : NoL 60 d) : den_window_bar [.val d, .val e] = .exc (Str.ofString "InvalidRow") [(Str.ofString "given", d)] [.val d, .val e] := by
  simp [den_window_bar, body_window_bar, both_no1 h]
theorem win_no2 {l : List Nat} {e : D} (h : Row 60 l) (he : NoL 12 e) : den_least_window [.val (T l), .val e] = .exc (Str.ofString "InvalidLetters") [(Str.ofString "given", e)] [.val (T l), .val e] := by
  simp [den_least_window, body_least_window, both_no2 h he]
theorem bar_no2 {l : List Nat} {e : D} (h : Row 60 l) (he : NoL 12 e) : den_window_bar [.val (T l), .val e] = .exc (Str.ofString "InvalidLetters") [(Str.ofString "given", e)] [.val (T l), .val e] := by
  simp [den_window_bar, body_window_bar, both_no2 h he]
theorem isa1 : isa_ (Str.ofString "InvalidRow") (Str.ofString "InvalidRow") = some true := by decide +kernel
theorem isa2 : isa_ (Str.ofString "InvalidRow") (Str.ofString "InvalidLetters") = some false := by decide +kernel
theorem isa3 : isa_ (Str.ofString "InvalidLetters") (Str.ofString "InvalidLetters") = some true := by decide +kernel
theorem isa4 : isa_ (Str.ofString "IntervalError") (Str.ofString "InvalidLetters") = some true := by decide +kernel
theorem hd_yes {m : Str → Option Bool} {i : Nat} {g : GX} {hs : List Hd} {c : Str} {fs : List (Str × D)} {ρ ρ' : Dk.Env} {o : Sl} (h : m c = some true) (h1 : setSl i .emp ρ = some ρ') (h2 : g c fs = some o) : handleD (hdAs m i g :: hs) c fs ρ = .ret o ρ' := by
  simp only [handleD, hdAs, h, h1, h2]
theorem hd_nay {h : Hd} {hs : List Hd} {c : Str} {fs : List (Str × D)} {ρ : Dk.Env} (e : h.m c = some false) : handleD (h :: hs) c fs ρ = handleD hs c fs ρ := by
  simp only [handleD, e]
theorem g_row (d : D) : (Dk.gLst (Dk.gCons (gC_ (S "row")) (Dk.gCons (gFld (Str.ofString "InvalidRow") (Str.ofString "given")) Dk.gNil))) (Str.ofString "InvalidRow") [(Str.ofString "given", d)] = some (.own (.lst [S "row", d])) := by
  simp [Dk.gLst, Dk.gCons, gC_, gFld, Dk.gNil, Sl.frz]
theorem g_let (d : D) : (gIf (gIsa (isa_ (Str.ofString "IntervalError"))) (Dk.gLst (Dk.gCons (gC_ (S "letters")) (Dk.gCons (gFld (Str.ofString "InvalidLetters") (Str.ofString "given")) Dk.gNil))) (Dk.gLst (Dk.gCons (gC_ (S "told")) (Dk.gCons (gC_ .none) Dk.gNil)))) (Str.ofString "InvalidLetters") [(Str.ofString "given", d)] = some (.own (.lst [S "letters", d])) := by
  simp [gIf, gIsa, isa4, Dk.gLst, Dk.gCons, gC_, gFld, Dk.gNil, Sl.frz]
theorem hand_r (d : D) (a b c e : Sl) (x : Sl) (hs : List Hd) : handleD (hdAs (isa_ (Str.ofString "InvalidRow")) 4 (Dk.gLst (Dk.gCons (gC_ (S "row")) (Dk.gCons (gFld (Str.ofString "InvalidRow") (Str.ofString "given")) Dk.gNil))) :: hs) (Str.ofString "InvalidRow") [(Str.ofString "given", d)] [a, b, c, e, .emp, x] = .ret (.own (.lst [S "row", d])) [a, b, c, e, .emp, x] :=
  hd_yes isa1 rfl (g_row d)
theorem hand_l (d : D) (a b c e : Sl) (x : Sl) (hs : List Hd) (g : GX) : handleD (hdAs (isa_ (Str.ofString "InvalidRow")) 4 g :: hdAs (isa_ (Str.ofString "InvalidLetters")) 4 (gIf (gIsa (isa_ (Str.ofString "IntervalError"))) (Dk.gLst (Dk.gCons (gC_ (S "letters")) (Dk.gCons (gFld (Str.ofString "InvalidLetters") (Str.ofString "given")) Dk.gNil))) (Dk.gLst (Dk.gCons (gC_ (S "told")) (Dk.gCons (gC_ .none) Dk.gNil)))) :: hs) (Str.ofString "InvalidLetters") [(Str.ofString "given", d)] [a, b, c, e, .emp, x] = .ret (.own (.lst [S "letters", d])) [a, b, c, e, .emp, x] := by
  rw [hd_nay (h := hdAs (isa_ (Str.ofString "InvalidRow")) 4 g) (show isa_ _ _ = _ from isa2)]
  exact hd_yes isa3 rfl (g_let d)
inductive Word : D → Prop
  | w : Word (S "window")
  | b : Word (S "bar")
theorem asked_no1 {s d e : D} (hs : Word s) (h : NoL 60 d) (b : Bool) : den__law_asked [.val s, .val d, .val e, .val (.bool b)] = .ret (.own (.lst [S "row", d])) [.val s, .val d, .val e, .val (.bool b)] := by
  have e1 := win_no1 (e := e) h
  have e2 := bar_no1 (e := e) h
  cases hs <;> cases b <;> simp [den__law_asked, body__law_asked, e1, e2, hand_r, ofString_inj]
theorem asked_no2 {s : D} {l : List Nat} {e : D} (hs : Word s) (h : Row 60 l) (he : NoL 12 e) (b : Bool) : den__law_asked [.val s, .val (T l), .val e, .val (.bool b)] = .ret (.own (.lst [S "letters", e])) [.val s, .val (T l), .val e, .val (.bool b)] := by
  have e1 := win_no2 h he
  have e2 := bar_no2 h he
  cases hs <;> cases b <;> simp [den__law_asked, body__law_asked, e1, e2, hand_l, ofString_inj]
end L64

set_option Elab.async false
set_option linter.all false
set_option maxRecDepth 100000
set_option maxHeartbeats 1000000
namespace L64
open PySem PySem.Spec L2 Dk PyProof.Rows
theorem same_eq : ∀ n : Nat, den__law_same n = same6 n
  | 0 => rfl
  | n + 1 => by
    show denOf 4 (body__law_same (den__law_same n)) = denOf 4 (same6B (same6 n))
    rw [same_eq n]; rfl
theorem take1 {m : Nat} {l : List D} (h : BOk m l) (many : Int) (hm : m < 1000000000 := by omega) (h1 : 1 ≤ many := by omega) (h2 : many < 1073741824 := by omega) :
    ∃ d l', den__law_take [.ref (.lst l), .val (.int many)] = .ret (.val (.int d)) [.ref (.lst l'), .val (.int many)] ∧ 0 ≤ d ∧ d < many ∧ BOk (m + 1) l' := by
  rw [take_eq]; exact take_ok smallc h hm h1 h2
/-! texts by chance -/
theorem ix_tx {l : List Nat} {i : Int} (hl : l.length ≤ 1000000) (h0 : 0 ≤ i) (h1 : i < l.length) : ∃ c ∈ l, ixD (T l) (.int i) = some (.val (T [c])) := by
  obtain ⟨k, rfl⟩ := Int.eq_ofNat_of_zero_le h0
  have hk : k < l.length := by omega
  refine ⟨l[k], List.getElem_mem hk, ?_⟩
  show (if (tx l).length ≤ sizeLine then (atI (tx l).cps.toList (k : Int)).map (fun c => Sl.val (.str ⟨#[c]⟩)) else none) = _
  rw [if_pos (by rw [tx_len]; exact le_line hl), tx_list, Dk.atI_nat]
  simp [hk, tx]
theorem foldl_app (c : Nat) : ∀ (n : Nat) (a : Array Nat), ((List.replicate n #[c]).foldl (· ++ ·) a).toList = a.toList ++ List.replicate n c
  | 0, a => by simp
  | n + 1, a => by
    rw [List.replicate_succ, List.foldl_cons, foldl_app c n, Array.toList_append, List.replicate_succ]
    simp
theorem mul_tx (c : Nat) {n : Int} (h : 1 ≤ n) : Txt.mul (tx [c]) n = tx (List.replicate n.toNat c) := by
  unfold Txt.mul
  rw [if_neg (by omega)]
  have e1 : (tx [c]).length = 1 := rfl
  rw [e1]
  by_cases h1 : n = 1
  · subst h1; rfl
  · rw [if_neg (by simpa using h1)]
    have := foldl_app c n.toNat #[]
    show (⟨_⟩ : Str) = ⟨_⟩
    congr 1
    apply Array.toList_inj.mp
    rw [show (tx [c]).cps = #[c] from rfl, this]
    simp
theorem muld_tx (c : Nat) {n : Int} (h : 1 ≤ n) (h2 : n ≤ 1000000) : mulD (T [c]) (.int n) = some (.val (T (List.replicate n.toNat c))) := by
  show (if 0 ≤ n ∧ n ≤ 1000000 ∧ (tx [c]).length ≤ 16 then some (Sl.val (.str (Txt.mul (tx [c]) n))) else none) = _
  rw [if_pos ⟨by omega, h2, by show 1 ≤ 16; decide⟩, mul_tx c h]
theorem abc_rep {c : Nat} (h : c ∈ abc) (n : Nat) : Abc (List.replicate n c) := fun x hx => by
  rw [List.mem_replicate] at hx
  rw [hx.2]; exact h
theorem abc_app {l m : List Nat} (h : Abc l) (g : Abc m) : Abc (l ++ m) := fun x hx => by
  rcases List.mem_append.mp hx with a | a
  · exact h x a
  · exact g x a
noncomputable def ltC : EX := (eOp ltD (eCB lenD [(eVar 5)]) (eVar 3))
noncomputable def ltB : SX := (sSeq (sAsg 6 (eOp ixD (eC (.str (Str.ofString "abcdef"))) (eCallG den__law_take [(.r 0), (.v (eVar 2))] [.a 0, .a 1])))
  (sAsg 5 (eOp addD (eVar 5) (eIf (eOp gtD (eVar 4) (eC (.int 0))) (eVar 6) (eOp mulD (eVar 6) (eOp addD (eC (.int 1)) (eCallG den__law_take [(.r 0), (.v (eC (.int 4)))] [.a 0, .a 1])))))))
def Ilt (b : Nat) (most kinds want way : Int) (m : Nat) (ρ : Dk.Env) : Prop := ∃ (l : List D) (f : List Nat) (o6 : Sl), o6.isRef = false ∧ Abc f ∧ f.length ≤ 64 ∧ (want - f.length).toNat = m ∧ BOk (b + 2 * (64 - m)) l ∧ ρ = [.ref (.lst l), .val (.int most), .val (.int kinds), .val (.int want), .val (.int way), .val (T f), o6]
def Jlt (b : Nat) (most kinds want way : Int) (ρ : Dk.Env) : Prop := ∃ (l : List D) (f : List Nat) (o6 : Sl), o6.isRef = false ∧ Abc f ∧ f.length ≤ 64 ∧ BOk (b + 128) l ∧ ρ = [.ref (.lst l), .val (.int most), .val (.int kinds), .val (.int want), .val (.int way), .val (T f), o6]
theorem ltB_ok {b : Nat} {most kinds want way : Int} (hk0 : 1 ≤ kinds) (hk1 : kinds ≤ 6) (hw : want ≤ 60) (hb : b < 950000000) (m : Nat) (ρ : Dk.Env) (h : Ilt b most kinds want way m ρ) :
    (ltC ρ = .ok (.val (.bool false)) ρ ∧ Jlt b most kinds want way ρ) ∨ (∃ ρ2 m', ltC ρ = .ok (.val (.bool true)) ρ ∧ ltB ρ = .nx ρ2 ∧ m' < m ∧ Ilt b most kinds want way m' ρ2) := by
  obtain ⟨l, f, o6, h6, ha, hf, hm, hl, rfl⟩ := h
  have hz : f.length ≤ sizeLine := le_line (by omega)
  by_cases g : (f.length : Int) < want
  · right
    obtain ⟨t1, l1, e1, a1, b1, k1⟩ := take1 hl kinds
    obtain ⟨c, hc, ec⟩ := ix_tx (l := abc) (i := t1) (by decide) a1 (by show t1 < 6; omega)
    by_cases gw : way > 0
    · refine ⟨[.ref (.lst l1), .val (.int most), .val (.int kinds), .val (.int want), .val (.int way), .val (T (f ++ [c])), .val (T [c])], (want - ((f ++ [c]).length : Nat)).toNat, by simp [ltC, hz, g], ?_, by simp; omega, l1, f ++ [c], _, rfl, abc_app ha (fun x hx => by rw [List.mem_singleton] at hx; rw [hx]; exact hc), by simp; omega, rfl, k1.mono (by simp; omega), rfl⟩
      have hz2 : f.length + 1 ≤ sizeLine := le_line (by omega)
      simp [ltB, abc_str, e1, ec, slS_nr h6, gw, add_tx, hz2]
    · obtain ⟨t2, l2, e2, a2, b2, k2⟩ := take1 k1 4
      have em := muld_tx c (n := 1 + t2) (by omega) (by omega)
      refine ⟨[.ref (.lst l2), .val (.int most), .val (.int kinds), .val (.int want), .val (.int way), .val (T (f ++ List.replicate (1 + t2).toNat c)), .val (T [c])], (want - ((f ++ List.replicate (1 + t2).toNat c).length : Nat)).toNat, by simp [ltC, hz, g], ?_, by simp; omega, l2, _, _, rfl, abc_app ha (abc_rep hc _), by simp; omega, rfl, k2.mono (by simp; omega), rfl⟩
      have hz2 : f.length + (1 + t2).toNat ≤ sizeLine := le_line (by omega)
      simp [ltB, abc_str, e1, ec, slS_nr h6, gw, e2, em, add_tx, hz2]
  · left
    exact ⟨by simp [ltC, hz, g], l, f, o6, h6, ha, hf, hl.mono (by omega), rfl⟩
theorem letters_ok {m : Nat} {l : List D} {most : Int} (h : BOk m l) (hm : m < 900000000) (h1 : 1 ≤ most) (h2 : most ≤ 60) :
    ∃ (f : List Nat) (l' : List D), Row most.toNat f ∧ BOk (m + 200) l' ∧ den__law_letters [.ref (.lst l), .val (.int most)] = .ret (.val (T f)) [.ref (.lst l'), .val (.int most)] := by
  obtain ⟨t1, l1, e1, a1, b1, k1⟩ := take1 h 6
  obtain ⟨t2, l2, e2, a2, b2, k2⟩ := take1 k1 9
  obtain ⟨t3, l3, e3, a3, b3, k3⟩ := take1 k2 (most + 1)
  obtain ⟨t4, l4, e4, a4, b4, k4⟩ := take1 k3 3
  obtain ⟨w, x1, x2⟩ := pickN [t2, t3, most] a4 b4
  have hw : 0 ≤ w := by
    simp only [List.mem_cons, List.not_mem_nil, or_false] at x2
    rcases x2 with rfl | rfl | rfl <;> omega
  obtain ⟨w2, hw2⟩ : ∃ w2, w2 = (if most < w then most else w) := ⟨_, rfl⟩
  have hb2 : 0 ≤ w2 ∧ w2 ≤ most := by rw [hw2]; split <;> omega
  obtain ⟨t5, l5, e5, a5, b5, k5⟩ := take1 k4 3
  have x1' : atI [D.int t2, D.int t3, D.int most] t4 = some (.int w) := by
    obtain ⟨k, rfl⟩ := Int.eq_ofNat_of_zero_le a4
    rw [Dk.atI_nat] at x1 ⊢
    have := congrArg (Option.map D.int) x1
    rw [← List.getElem?_map] at this
    exact this
  obtain ⟨ρ', e6, l6, f, o6, h6, ha, hf, k6, rfl⟩ := sWhile_inv (c := ltC) (body := ltB) (Ilt (m + 5) most (1 + t1) w2 t5) (Jlt (m + 5) most (1 + t1) w2 t5) (fun j ρ hI => ltB_ok (by omega) (by omega) (by omega) (by omega) j ρ hI) 100000 w2.toNat
    [.ref (.lst l5), .val (.int most), .val (.int (1 + t1)), .val (.int w2), .val (.int t5), .val (T []), .emp] ⟨l5, [], .emp, rfl, (fun x hx => absurd hx List.not_mem_nil : Abc []), by simp, by simp, k5.mono (by omega), rfl⟩ (by omega)
  obtain ⟨q, eq, q1, q2, q3⟩ := sl_any (l := f) (by omega) none (some w2)
  refine ⟨q, l6, ⟨fun c hc => ha c (q2 c hc), ?_⟩, k6.mono (by omega), ?_⟩
  · obtain ⟨n, rfl⟩ := Int.eq_ofNat_of_zero_le hb2.1
    rw [q3, List.length_take, HT.sIx_nat]
    omega
  have hbody : body__law_letters = (sSeq (sPar [2, 3] [(false, (eOp addD (eC (.int 1)) (eCallG den__law_take [(.r 0), (.v (eC (.int 6)))] [.a 0, .a 1]))), (false, (eOp ixD (eLst [(eCallG den__law_take [(.r 0), (.v (eC (.int 9)))] [.a 0, .a 1]), (eCallG den__law_take [(.r 0), (.v (eOp addD (eVar 1) (eC (.int 1))))] [.a 0, .a 1]), (eVar 1)]) (eCallG den__law_take [(.r 0), (.v (eC (.int 3)))] [.a 0, .a 1])))])
  (sSeq (sPar [3, 4, 5] [(false, (eCB min2D [(eVar 3), (eVar 1)])), (false, (eCallG den__law_take [(.r 0), (.v (eC (.int 3)))] [.a 0, .a 1])), (false, (eC (.str (Str.ofString ""))))])
  (sSeq (sWhile 100000 ltC ltB) (sRet (eSl (eVar 5) .no (.at (eVar 3))))))) := rfl
  unfold den__law_letters
  rw [hbody]
  simp [e1, e2, e3, e4, x1', ← hw2, e5, nil_str, e6, eq]
end L64

set_option Elab.async false
set_option linter.all false
set_option maxRecDepth 100000
set_option maxHeartbeats 1000000
namespace L64
open PySem PySem.Spec L2 Dk PyProof.Rows
theorem join_tx : ∀ zs : List Nat, Str.join (tx []) (zs.map fun c => tx [c]) = tx zs
  | [] => rfl
  | [c] => rfl
  | c :: d :: zs => by
    have ih := join_tx (d :: zs)
    rw [List.map_cons] at ih
    show tx [c] ++ tx [] ++ Str.join (tx []) (tx [d] :: zs.map fun c => tx [c]) = _
    rw [ih, add_tx, add_tx]
    rfl
theorem strs_sg : ∀ zs : List Nat, strsOf (zs.map sg) = some (zs.map fun c => tx [c])
  | [] => rfl
  | c :: zs => by
    show (strsOf (zs.map sg)).map (tx [c] :: ·) = _
    rw [strs_sg zs]; rfl
theorem joinD_sg (zs : List Nat) (h : zs.length ≤ 1000) : joinD (T []) (.list (zs.map sg)) = some (.val (T zs)) := by
  show ((strsOf (zs.map sg)).bind fun ys => if (ys.map (·.length)).sum + ys.length * (tx []).length ≤ 16777216 then some (Sl.val (.str (Txt.join (tx []) ys))) else none) = _
  rw [strs_sg, Option.bind_some]
  have e : (zs.map fun c => tx [c]).map (·.length) = List.replicate zs.length 1 := by
    rw [List.map_map]
    rw [show ((fun x : Str => x.length) ∘ fun c => tx [c]) = fun _ => 1 from rfl, List.map_const']
  rw [e, List.sum_replicate_nat]
  rw [if_pos (by rw [show (tx []).length = 0 from rfl]; simp; omega)]
  have : Txt.join (tx []) (zs.map fun c => tx [c]) = tx zs := by
    show Builtin.Str.glued _ _ = _
    rw [StrLaws.glued_eq_join]
    exact join_tx zs
  rw [this]
theorem signs_T (l : List Nat) : signsD (tx l) = l.map sg := by
  unfold signsD
  rw [tx_list]; rfl
noncomputable def wtJ : EX := (eJoin (eC (.str (Str.ofString ""))) (eLc (iRng1D (eCallG den__law_take [(.r 0), (.v (eC (.int 7)))] [.a 0, .a 1])) (gN 6) eYes (eOp ixD (eC (.str (Str.ofString "abcdef"))) (eCallG den__law_take [(.r 0), (.v (eC (.int 6)))] [.a 0, .a 1])) [6]))
theorem wtJ_ok {m : Nat} {l : List D} (h : BOk m l) (hm : m < 950000000) (r f o3 o4 o5 : Sl) (h3 : o3.isRef = false) :
    ∃ (zs : List Nat) (l' : List D), Row 6 zs ∧ BOk (m + 10) l' ∧ wtJ [.ref (.lst l), r, f, o3, o4, o5, .emp] = .ok (.val (T zs)) [.ref (.lst l'), r, f, o3, o4, o5, .emp] := by
  obtain ⟨t1, l1, e1, a1, b1, k1⟩ := take1 h 7
  have s1 : SmallI t1 := smI _ (by omega) (by omega)
  obtain ⟨zs, l2, y0, y1, y2, y3⟩ := eLc_out (fi := iRng1D (eCallG den__law_take [(.r 0), (.v (eC (.int 7)))] [.a 0, .a 1])) (h := gN 6) (tt := eYes) (elt := eOp ixD (eC (.str (Str.ofString "abcdef"))) (eCallG den__law_take [(.r 0), (.v (eC (.int 6)))] [.a 0, .a 1])) (vs := [6]) (ρ := [.ref (.lst l), r, f, o3, o4, o5, .emp]) (ρ0 := [.ref (.lst l1), r, f, o3, o4, o5, .emp])
    (List.range t1.toNat) (fun (i : Nat) => D.int i) sg (fun c => c ∈ abc) (fun l : List D => [.ref (.lst l), r, f, o3, o4, o5, .emp]) (fun j l => BOk (m + 1 + j) l) 0 l1
    (by simp [e1, s1, rngL_0]) (le_line (by simp; omega)) (by simp [clearB]) (by simp [wipeE]) k1 (fun i hi j s hs hj => by
      rw [List.length_range] at hj
      obtain ⟨t2, l2, e2, a2, b2, k2⟩ := take1 hs 6
      obtain ⟨c, hc, ec⟩ := ix_tx (l := abc) (i := t2) (by decide) a2 (by show t2 < 6; omega)
      exact ⟨c, l2, hc, by simp [abc_str, e2, ec, wipeE, sg], k2⟩)
  rw [List.length_range] at y0 y2
  refine ⟨zs, l2, ⟨y1, by omega⟩, y2.mono (by omega), ?_⟩
  refine eJoin_ok (a := tx []) (ρ1 := [.ref (.lst l), r, f, o3, o4, o5, .emp]) (ds := zs.map sg) (by simp [nil_str]) ?_ (joinD_sg zs (by omega))
  rw [y3]
  simp [unwipe]
noncomputable def wtM : EX := (eJoin (eC (.str (Str.ofString ""))) (eLc (iRng1D (eCB lenD [(eVar 2)])) (gN 6) eYes (eMeth 3 mPopAt [(eCallG den__law_take [(.r 0), (.v (eBor (eCB lenD [(eVar 3)])))] [.a 0, .a 1])]) [6]))
theorem seq_at {k n : Nat} (h : k < n) : seqIndex? (k : Int) n = some k := by
  have h0 : ¬ ((k : Int) < 0) := by omega
  simp only [seqIndex?, if_neg h0]
  simp [h]
theorem erase_sg : ∀ (l : List Nat) (k : Nat), (l.map sg).eraseIdx k = (l.eraseIdx k).map sg
  | [], _ => rfl
  | a :: l, 0 => rfl
  | a :: l, k + 1 => by simp [erase_sg l k]
theorem wtM_ok {m : Nat} {l : List D} (h : BOk m l) (hm : m < 950000000) (r : Sl) (f : List Nat) (o4 o5 : Sl) (hf : Row 12 f) :
    ∃ (zs : List Nat) (l' : List D) (mx : List Nat), Row 12 zs ∧ BOk (m + 12) l' ∧ wtM [.ref (.lst l), r, .val (T f), .own (.lst (f.map sg)), o4, o5, .emp] = .ok (.val (T zs)) [.ref (.lst l'), r, .val (T f), .own (.lst (mx.map sg)), o4, o5, .emp] := by
  have h12 := hf.2
  have hz : f.length ≤ sizeLine := le_line (by omega)
  have s1 : SmallI (f.length : Int) := smI _ (by omega) (by omega)
  obtain ⟨zs, ⟨l2, mx⟩, y0, y1, y2, y3⟩ := eLc_out (fi := (iRng1D (eCB lenD [(eVar 2)]))) (h := gN 6) (tt := eYes) (elt := (eMeth 3 mPopAt [(eCallG den__law_take [(.r 0), (.v (eBor (eCB lenD [(eVar 3)])))] [.a 0, .a 1])])) (vs := [6]) (ρ := [.ref (.lst l), r, .val (T f), .own (.lst (f.map sg)), o4, o5, .emp]) (ρ0 := [.ref (.lst l), r, .val (T f), .own (.lst (f.map sg)), o4, o5, .emp])
    (List.range f.length) (fun (i : Nat) => D.int i) sg (fun c => c ∈ abc) (fun s : List D × List Nat => [.ref (.lst s.1), r, .val (T f), .own (.lst (s.2.map sg)), o4, o5, .emp]) (fun j s => BOk (m + j) s.1 ∧ s.2.length + j = f.length ∧ Abc s.2) 0 (l, f)
    (by simp [hz, s1, rngL_0]) (by simp; exact hz) (by simp [clearB]) (by simp [wipeE]) ⟨h, by simp, hf.1⟩ (fun i hi j s hs hj => by
      obtain ⟨s, mx⟩ := s
      obtain ⟨q1, q2, q3⟩ := hs
      rw [List.length_range] at hj
      simp only at q1 q2 q3
      have hmz : mx.length ≤ sizeLine := le_line (by omega)
      obtain ⟨t2, l2, e2, a2, b2, k2⟩ := take1 q1 (mx.length : Int)
      obtain ⟨k, rfl⟩ := Int.eq_ofNat_of_zero_le a2
      have hk : k < mx.length := by omega
      have sq := seq_at hk
      have b1 : (-9223372036854775808 : Int) ≤ (k : Int) ∧ (k : Int) < 9223372036854775808 := by omega
      refine ⟨mx[k], (l2, mx.eraseIdx k), q3 _ (List.getElem_mem hk), ?_, k2, ?_, fun c hc => q3 c (List.mem_of_mem_eraseIdx hc)⟩
      · simp [e2, wipeE, hmz, b1, sq, hk, erase_sg]
      · simp only [List.length_eraseIdx, hk, if_true]; omega)
  rw [List.length_range] at y0 y2
  refine ⟨zs, l2, mx, ⟨y1, by omega⟩, y2.1.mono (by omega), ?_⟩
  refine eJoin_ok (a := tx []) (ρ1 := [.ref (.lst l), r, .val (T f), .own (.lst (f.map sg)), o4, o5, .emp]) (ds := zs.map sg) (by simp [nil_str]) ?_ (joinD_sg zs (by omega))
  rw [y3]
  simp [unwipe]
noncomputable def wt1 : SX := (sIf (eOp eqD (eVar 4) (eC (.int 0))) (sAsg 2 wtJ) sNx)
noncomputable def wt2 : SX := (sIf (eAnd (eOp eqD (eVar 4) (eC (.int 1))) (eOp ltD (eCB lenD [(eVar 2)]) (eC (.int 12)))) (sAsg 2 (eOp addD (eVar 2) (eOp ixD (eC (.str (Str.ofString "abcdef"))) (eCallG den__law_take [(.r 0), (.v (eC (.int 6)))] [.a 0, .a 1])))) sNx)
theorem wanted_ok {m : Nat} {l : List D} (h : BOk m l) (hm : m < 900000000) {r : List Nat} (hr : Row 60 r) :
    ∃ (w : List Nat) (l' : List D), Row 12 w ∧ BOk (m + 40) l' ∧ den__law_wanted [.ref (.lst l), .val (T r)] = .ret (.val (T w)) [.ref (.lst l'), .val (T r)] := by
  have h60 := hr.2
  have hz : r.length ≤ sizeLine := le_line (by omega)
  obtain ⟨way, l1, e1, a1, b1, k1⟩ := take1 h 4
  obtain ⟨low, l2, e2, a2, b2, k2⟩ := take1 k1 ((r.length : Int) + 1)
  obtain ⟨t3, l3, e3, a3, b3, k3⟩ := take1 k2 13
  obtain ⟨f, ef, q1, q2, q3⟩ := sl_any (l := r) (by omega) (some low) (some (low + t3))
  have hf : Row 12 f := by
    refine ⟨fun c hc => hr.1 c (q2 c hc), ?_⟩
    obtain ⟨n, rfl⟩ := Int.eq_ofNat_of_zero_le a2
    obtain ⟨k, rfl⟩ := Int.eq_ofNat_of_zero_le a3
    rw [q3, List.length_take, ← Int.natCast_add, HT.sIx_nat, HT.sIx_nat]
    omega
  have mid : ∃ (f2 : List Nat) (l4 : List D), Row 12 f2 ∧ BOk (m + 3 + 11) l4 ∧
      sSeq wt1 wt2 [.ref (.lst l3), .val (T r), .val (T f), .emp, .val (.int way), .val (.int low), .emp] = .nx [.ref (.lst l4), .val (T r), .val (T f2), .emp, .val (.int way), .val (.int low), .emp] := by
    by_cases g0 : way = 0
    · subst g0
      obtain ⟨zs, l4, c1, c2, c3⟩ := wtJ_ok k3 (by omega) (.val (T r)) (.val (T f)) .emp (.val (.int 0)) (.val (.int low)) rfl
      refine ⟨zs, l4, ⟨c1.1, by have := c1.2; omega⟩, c2.mono (by omega), ?_⟩
      simp [wt1, wt2, c3]
    · by_cases g1 : way = 1 ∧ f.length < 12
      · obtain ⟨rfl, g1⟩ := g1
        obtain ⟨t4, l4, e4, a4, b4, k4⟩ := take1 k3 6
        obtain ⟨c, hc, ec⟩ := ix_tx (l := abc) (i := t4) (by decide) a4 (by show t4 < 6; omega)
        have hz2 : f.length ≤ sizeLine := le_line (by omega)
        have hz3 : f.length + 1 ≤ sizeLine := le_line (by omega)
        have g2 : (f.length : Int) < 12 := by omega
        refine ⟨f ++ [c], l4, ⟨abc_app hf.1 (fun x hx => by rw [List.mem_singleton] at hx; rw [hx]; exact hc), by simp; omega⟩, k4.mono (by omega), ?_⟩
        simp [wt1, wt2, hz2, g2, abc_str, e4, ec, hz3, add_tx]
      · have hz2 : f.length ≤ sizeLine := le_line (by have := hf.2; omega)
        refine ⟨f, l3, hf, k3.mono (by omega), ?_⟩
        by_cases g2 : way = 1
        · have g3 : ¬ ((f.length : Int) < 12) := by omega
          simp [wt1, wt2, g0, g2, hz2, g3]
        · simp [wt1, wt2, g0, g2]
  obtain ⟨f2, l4, hf2, k4, e4⟩ := mid
  obtain ⟨w, l5, mx, hw, k5, e5⟩ := wtM_ok k4 (by omega) (.val (T r)) f2 (.val (.int way)) (.val (.int low)) hf2
  refine ⟨w, l5, hw, k5.mono (by omega), ?_⟩
  have hbody : body__law_wanted = (sSeq (sPar [4, 5] [(false, (eCallG den__law_take [(.r 0), (.v (eC (.int 4)))] [.a 0, .a 1])), (false, (eCallG den__law_take [(.r 0), (.v (eOp addD (eCB lenD [(eVar 1)]) (eC (.int 1))))] [.a 0, .a 1]))])
  (sSeq (sAsg 2 (eSl (eVar 1) (.at (eVar 5)) (.at (eOp addD (eVar 5) (eCallG den__law_take [(.r 0), (.v (eC (.int 13)))] [.a 0, .a 1])))))
  (sSeq wt1
  (sSeq wt2
  (sSeq (sAsgO 3 (eCB listSD [(eVar 2)]))
  (sRet wtM)))))) := rfl
  obtain ⟨ρ1, e41, e42⟩ : ∃ ρ1, wt1 [.ref (.lst l3), .val (T r), .val (T f), .emp, .val (.int way), .val (.int low), .emp] = .nx ρ1 ∧ wt2 ρ1 = .nx [.ref (.lst l4), .val (T r), .val (T f2), .emp, .val (.int way), .val (.int low), .emp] := by
    unfold sSeq at e4
    split at e4
    · rename_i ρ1 h1; exact ⟨ρ1, h1, e4⟩
    · rename_i x hx; exact absurd e4 (hx _)
  have hz4 : f2.length ≤ sizeLine := le_line (by have := hf2.2; omega)
  unfold den__law_wanted
  rw [hbody]
  simp [e1, e2, hz, e3, ef, e41, e42, hz4, signs_T, e5]
end L64

set_option Elab.async false
set_option linter.all false
set_option maxRecDepth 100000
set_option maxHeartbeats 1000000
namespace L64
open PySem PySem.Spec L2 Dk PyProof.Rows
/-! _law_pair_right -/
theorem cnt_le_app (c : Nat) (a b d : List Nat) : cnt c b ≤ cnt c (a ++ b ++ d) := by
  have h1 := cnt_pos c a
  have h2 := cnt_pos c d
  rw [cnt_app, cnt_app]; omega
theorem cutN_split (l : List Nat) (i k : Nat) : l = l.take i ++ cutN l i k ++ (l.drop i).drop k := by
  unfold cutN
  rw [List.append_assoc, List.take_append_drop, List.take_append_drop]
theorem cnt_cut (c : Nat) (l : List Nat) (i k : Nat) : cnt c (cutN l i k) ≤ cnt c l := by
  have := cnt_le_app c (l.take i) (cutN l i k) ((l.drop i).drop k)
  rw [← cutN_split] at this
  exact this
theorem cutN_all (l : List Nat) : cutN l 0 l.length = l := by
  unfold cutN; rw [List.drop_zero, List.take_length]
theorem least_none {l w : List Nat} : (least l w).isNone = !hasB l w := by
  have h := least_ok l w
  cases e : least l w with
  | none =>
    rw [e] at h
    cases g : hasB l w with
    | false => rfl
    | true => exact absurd ⟨by simp, by show hasB (cutN l 0 l.length) w = true; rw [cutN_all]; exact g⟩ (h (l.length, 0))
  | some p =>
    rw [e] at h
    have h2 := has_iff.mp h.1.2
    have : hasB l w = true := has_iff.mpr fun c hc => by
      have := h2 c hc
      have := cnt_cut c l p.2 p.1
      omega
    rw [this]; rfl
theorem least_some {l w : List Nat} {p : Nat × Nat} (h : least l w = some p) (hp : 1 ≤ p.1) :
    p.2 + p.1 ≤ l.length ∧ hasB (cutN l p.2 p.1) w = true ∧ hasB (cutN l (p.2 + 1) (p.1 - 1)) w = false ∧ hasB (cutN l p.2 (p.1 - 1)) w = false := by
  have o := least_ok l w
  rw [h] at o
  obtain ⟨⟨o1, o2⟩, o3⟩ := o
  refine ⟨o1, o2, ?_, ?_⟩
  · cases g : hasB (cutN l (p.2 + 1) (p.1 - 1)) w with
    | false => rfl
    | true =>
      have := o3 (p.1 - 1, p.2 + 1) ⟨by show p.2 + 1 + (p.1 - 1) ≤ _; omega, g⟩
      unfold leP at this
      simp only at this
      omega
  · cases g : hasB (cutN l p.2 (p.1 - 1)) w with
    | false => rfl
    | true =>
      have := o3 (p.1 - 1, p.2) ⟨by show p.2 + (p.1 - 1) ≤ _; omega, g⟩
      unfold leP at this
      simp only at this
      omega
theorem sl_tail {s : List Nat} (h : s.length ≤ 1000) : slD (T s) (some 1) none = some (.val (T (s.drop 1))) := by
  obtain ⟨q, e, _, _, q3⟩ := sl_any (l := s) (by omega) (some 1) none
  rw [e, q3]
  have e1 : HT.sIx s.length 0 (some 1) = min 1 s.length := HT.sIx_nat s.length 0 1
  have e2 : HT.sIx s.length s.length none = s.length := rfl
  rw [e1, e2]
  congr 3
  rw [List.take_of_length_le (by rw [List.length_drop]; omega)]
  cases s <;> simp
theorem sl_init {s : List Nat} (h : s.length ≤ 1000) (h1 : 1 ≤ s.length) : slD (T s) none (some (-1)) = some (.val (T (s.take (s.length - 1)))) := by
  obtain ⟨q, e, _, _, q3⟩ := sl_any (l := s) (by omega) none (some (-1))
  rw [e, q3]
  have e1 : HT.sIx s.length 0 none = 0 := rfl
  have e2 : HT.sIx s.length s.length (some (-1)) = s.length - 1 := by
    simp [HT.sIx]; omega
  rw [e1, e2]
  rfl
theorem lay_tx {l : List Nat} (h : ∀ c ∈ l, c < 1114112) : (PyData.str (tx l)).canLay0 = true := by
  show PyData.strOk (tx l) = true
  unfold PyData.strOk
  rw [Array.all_eq_true']
  intro c hc
  have : c ∈ l := by
    have h2 : c ∈ (tx l).cps.toList := by rw [Array.mem_toList_iff]; exact hc
    rwa [tx_list] at h2
  have := h c this
  simpa using this
theorem fit_T {n : Nat} {l : List Nat} (h : Abc l) (hl : l.length ≤ 1000) : Fit (n + 1) (T l) := ⟨by rw [tx_len]; omega, lay_tx (abc_small h)⟩
theorem fit_sg {n c : Nat} (h : c ∈ abc) : Fit (n + 1) (sg c) := fit_T (l := [c]) (fun x hx => by rw [List.mem_singleton] at hx; rw [hx]; exact h) (by simp)
theorem fit_S {n : Nat} (s : String) (h : (Str.ofString s).length ≤ 1000) : Fit (n + 1) (S s) := ⟨by omega, canLay_ofString s⟩
theorem same_self {n : Nat} {d : D} (h : Fit n d) (hs : d.strip = d) : den__law_same n [.val d, .val d] = .ret (.val (.bool true)) [.val d, .val d] := by
  rw [same_eq]; exact same6_ok n d d d h hs hs
theorem fit_oD {n : Nat} (o : Option (Nat × Nat)) : Fit (n + 2) (oD o) := by
  cases o with
  | none => trivial
  | some p =>
    refine ⟨by simp, fun x hx => ?_⟩
    simp only [List.mem_cons, List.not_mem_nil, or_false] at hx
    rcases hx with rfl | rfl <;> trivial
theorem oD_strip (o : Option (Nat × Nat)) : (oD o).strip = oD o := by
  cases o <;> rfl
theorem mem_missing {l w : List Nat} {c : Nat} (h : c ∈ missing l w) : c ∈ abc := (List.mem_filter.mp h).1
theorem fit_bar {n : Nat} (l w : List Nat) : Fit (n + 1) (barD l w) := by
  unfold barD
  split
  · trivial
  · rename_i c r e
    exact fit_sg (mem_missing (l := l) (w := w) (by rw [e]; exact List.mem_cons_self))
theorem bar_strip (l w : List Nat) : (barD l w).strip = barD l w := by
  unfold barD; split <;> rfl
theorem fit_two {n : Nat} {a b : D} (h1 : Fit n a) (h2 : Fit n b) : Fit (n + 1) (.list [a, b]) := by
  refine ⟨by simp, fun x hx => ?_⟩
  simp only [List.mem_cons, List.not_mem_nil, or_false] at hx
  rcases hx with rfl | rfl <;> assumption
theorem told_len : (Str.ofString "told").length ≤ 1000 := by decide +kernel
theorem same_told (l w : List Nat) : den__law_same 8 [.val (.list [.list [S "told", oD (least l w)], .list [S "told", barD l w]]), .val (.list [.list [S "told", oD (least l w)], .list [S "told", barD l w]])] = .ret (.val (.bool true)) [.val (.list [.list [S "told", oD (least l w)], .list [S "told", barD l w]]), .val (.list [.list [S "told", oD (least l w)], .list [S "told", barD l w]])] := by
  refine same_self (fit_two (fit_two (fit_S _ told_len) (fit_oD _)) (fit_two (fit_S _ told_len) (fit_bar _ _))) ?_
  simp [D.strip, D.stripL, oD_strip, bar_strip]
noncomputable def prB : SX := (sSeq (sAsg 7 (eLst [(eCallG den__law_asked [(.v (eC (.str (Str.ofString "window")))), (.v (eVar 0)), (.v (eVar 1)), (.v (eVar 5))] [.a 0, .a 1, .a 2, .a 3]), (eCallG den__law_asked [(.v (eC (.str (Str.ofString "bar")))), (.v (eVar 0)), (.v (eVar 1)), (.v (eVar 5))] [.a 0, .a 1, .a 2, .a 3])]))
  (sIf (eNot (eTru (eCallG (den__law_same 8) [(.v (eVar 7)), (.v (eLst [(eLst [(eC (.str (Str.ofString "told"))), (eVar 3)]), (eLst [(eC (.str (Str.ofString "told"))), (eIf (eOp neD (eVar 4) (eLst [])) (eOp ixD (eVar 4) (eC (.int 0))) (eC .none))])]))] [.a 0, .a 1]))) (sRet (eC (.bool false))) sNx))
theorem prB_ok {l w : List Nat} (h : Row 60 l) (hw : Row 12 w) (b t : Bool) (o5 o6 o7 : Sl) (h5 : o5.isRef = false) (h7 : o7.isRef = false) :
    prB [.val (T l), .val (T w), .val (.bool b), .val (oD (least l w)), .val (.list ((missing l w).map sg)), .val (.bool t), o6, o7, .emp] = .nx [.val (T l), .val (T w), .val (.bool b), .val (oD (least l w)), .val (.list ((missing l w).map sg)), .val (.bool t), o6, .val (.list [.list [S "told", oD (least l w)], .list [S "told", barD l w]]), .emp] := by
  have e1 := asked_win h hw t
  have e2 := asked_bar h hw t
  have e3 := same_told l w
  have u1 : ∀ x : D, barD l w = x → barD l w = x := fun _ h => h
  cases em : missing l w with
  | nil =>
    have eb : barD l w = .none := by unfold barD; rw [em]
    rw [eb] at e2 e3 ⊢
    simp [prB, e1, e2, slS_nr h7, neD_nil, e3]
  | cons c r =>
    have eb : barD l w = sg c := by unfold barD; rw [em]
    rw [eb] at e2 e3 ⊢
    simp [prB, e1, e2, slS_nr h7, neD_nil, e3]
theorem oD_ix {p : Nat × Nat} : ixD (oD (some p)) (.int 0) = some (.val (.int p.1)) ∧ ixD (oD (some p)) (.int 1) = some (.val (.int p.2)) := ⟨rfl, rfl⟩
theorem pair_ok {l w : List Nat} (h : Row 60 l) (hw : Row 12 w) (b : Bool) : den__law_pair_right [.val (T l), .val (T w), .val (.bool b)] = .ret (.val (.bool true)) [.val (T l), .val (T w), .val (.bool b)] := by
  have h60 := h.2
  have e1 := law_least (l := l) (w := w) (by omega)
  have e2 := eLc_map (fi := iAny (eC (.str (Str.ofString "abcdef")))) (h := gN 8) (tt := eOp ltD (eCount (eVar 0) (eVar 8)) (eCount (eVar 1) (eVar 8))) (elt := eVar 8) (vs := [8]) (ρ := [.val (T l), .val (T w), .val (.bool b), .val (oD (least l w)), .emp, .emp, .emp, .emp, .emp]) abc sg sg (fun c => decide (cnt c l < cnt c w)) (by simp [kAny_abc]) abc_line (by simp [clearB]) (fun c hc => by
    by_cases g : cnt c l < cnt c w <;> simp [wipeE, sg, count_tx, g])
  rw [show abc.filter (fun c => decide (cnt c l < cnt c w)) = missing l w from rfl] at e2
  have e3 : isD (oD (least l w)) .none = some (.val (.bool (!hasB l w))) := by
    rw [← least_none]
    cases least l w <;> rfl
  have e4 : neD (.list ((missing l w).map sg)) (.list []) = some (.val (.bool (!hasB l w))) := by
    rw [neD_nil, ← missing_nil]
    cases missing l w <;> rfl
  have p1 := prB_ok h hw b b .emp .emp .emp rfl rfl
  have p2 := prB_ok h hw b (!b) (.val (.bool b)) .emp (.val (.list [.list [S "told", oD (least l w)], .list [S "told", barD l w]])) rfl rfl
  have hbody : body__law_pair_right = (sSeq (sAsg 3 (eCallG den__law_least [(.v (eVar 0)), (.v (eVar 1))] [.a 0, .a 1]))
  (sSeq (sAsg 4 (eLc (iAny (eC (.str (Str.ofString "abcdef")))) (gN 8) (eOp ltD (eCount (eVar 0) (eVar 8)) (eCount (eVar 1) (eVar 8))) (eVar 8) [8]))
  (sSeq (sIf (eOp neD (eOp isD (eVar 3) (eC .none)) (eOp neD (eVar 4) (eLst []))) (sRet (eC (.bool false))) sNx)
  (sSeq (sFor (iAny (eLst [(eVar 2), (eNot (eVar 2))])) (gN 5) prB)
  (sSeq (sIf (eOr (eOp isD (eVar 3) (eC .none)) (eOp eqD (eOp ixD (eVar 3) (eC (.int 0))) (eC (.int 0)))) (sRet (eC (.bool true))) sNx)
  (sSeq (sAsg 6 (eSl (eVar 0) (.at (eOp ixD (eVar 3) (eC (.int 1)))) (.at (eOp addD (eOp ixD (eVar 3) (eC (.int 1))) (eOp ixD (eVar 3) (eC (.int 0)))))))
  (sRet (eAnd (eCallG den__law_has [(.v (eVar 6)), (.v (eVar 1))] [.a 0, .a 1]) (eAnd (eNot (eCallG den__law_has [(.v (eSl (eVar 6) (.at (eC (.int 1))) .no)), (.v (eVar 1))] [.a 0, .a 1])) (eNot (eCallG den__law_has [(.v (eSl (eVar 6) .no (.at (eUn negD (eC (.int 1)))))), (.v (eVar 1))] [.a 0, .a 1]))))))))))) := rfl
  have du : (oD (least l w)).un = oD (least l w) := by cases least l w <;> rfl
  have fin : ∀ p, least l w = some p → 1 ≤ p.1 → (eAnd (eCallG den__law_has [(.v (eVar 6)), (.v (eVar 1))] [.a 0, .a 1]) (eAnd (eNot (eCallG den__law_has [(.v (eSl (eVar 6) (.at (eC (.int 1))) .no)), (.v (eVar 1))] [.a 0, .a 1])) (eNot (eCallG den__law_has [(.v (eSl (eVar 6) .no (.at (eUn negD (eC (.int 1)))))), (.v (eVar 1))] [.a 0, .a 1])))) [.val (T l), .val (T w), .val (.bool b), .val (oD (least l w)), .val (.list ((missing l w).map sg)), .val (.bool !b), .val (T (cutN l p.2 p.1)), .val (.list [.list [S "told", oD (least l w)], .list [S "told", barD l w]]), .emp] = .ok (.val (.bool true)) [.val (T l), .val (T w), .val (.bool b), .val (oD (least l w)), .val (.list ((missing l w).map sg)), .val (.bool !b), .val (T (cutN l p.2 p.1)), .val (.list [.list [S "told", oD (least l w)], .list [S "told", barD l w]]), .emp] := fun p eo hp => by
    obtain ⟨o1, o2, o3, o4⟩ := least_some eo hp
    have len := cutN_len o1
    have s1 := sl_tail (s := cutN l p.2 p.1) (by omega)
    have s2 := sl_init (s := cutN l p.2 p.1) (by omega) (by omega)
    have c1 : (cutN l p.2 p.1).drop 1 = cutN l (p.2 + 1) (p.1 - 1) := by
      unfold cutN
      rw [List.drop_take, List.drop_drop]
    have c2 : (cutN l p.2 p.1).take ((cutN l p.2 p.1).length - 1) = cutN l p.2 (p.1 - 1) := by
      rw [len]; unfold cutN
      rw [List.take_take, Nat.min_eq_left (by omega)]
    rw [c1] at s1
    rw [c2] at s2
    have q1 := law_has (cutN l p.2 p.1) w
    have q2 := law_has (cutN l (p.2 + 1) (p.1 - 1)) w
    have q3 := law_has (cutN l p.2 (p.1 - 1)) w
    rw [o2] at q1
    rw [o3] at q2
    rw [o4] at q3
    generalize oD (least l w) = d
    generalize barD l w = d2
    generalize (missing l w).map sg = d3
    simp [q1, s1, q2, s2, q3]
  unfold den__law_pair_right
  rw [hbody]
  generalize hZ : (eAnd (eCallG den__law_has [(.v (eVar 6)), (.v (eVar 1))] [.a 0, .a 1]) (eAnd (eNot (eCallG den__law_has [(.v (eSl (eVar 6) (.at (eC (.int 1))) .no)), (.v (eVar 1))] [.a 0, .a 1])) (eNot (eCallG den__law_has [(.v (eSl (eVar 6) .no (.at (eUn negD (eC (.int 1)))))), (.v (eVar 1))] [.a 0, .a 1])))) = Z at *
  have ixs : ∀ p, least l w = some p → ixD (oD (least l w)) (.int 0) = some (.val (.int p.1)) ∧ ixD (oD (least l w)) (.int 1) = some (.val (.int p.2)) := fun p e => by rw [e]; exact oD_ix
  have sls : ∀ p, least l w = some p → slD (T l) (some (p.2 : Int)) (some ((p.2 : Int) + (p.1 : Int))) = some (.val (T (cutN l p.2 p.1))) := fun p e => by
    have o := least_ok l w
    rw [e] at o
    exact sl_at (by omega) o.1.1
  have ln := least_none (l := l) (w := w)
  generalize hm : (missing l w).map sg = d3 at *
  generalize barD l w = d2 at *
  cases eo : least l w with
  | none =>
    rw [eo] at ln
    have hh : hasB l w = false := by
      cases g : hasB l w with
      | false => rfl
      | true => rw [g] at ln; cases ln
    rw [hh] at e3 e4
    generalize oD (least l w) = d at *
    simp [e1, e2, e3, e4, p1, p2, forD, du]
  | some p =>
    rw [eo] at ln
    have hh : hasB l w = true := by
      cases g : hasB l w with
      | true => rfl
      | false => rw [g] at ln; cases ln
    rw [hh] at e3 e4
    obtain ⟨i1, i2⟩ := ixs p eo
    have sl := sls p eo
    by_cases hp : 1 ≤ p.1
    · have f := fin p eo hp
      generalize oD (least l w) = d at *
      have hp0 : ¬ ((p.1 : Int) = 0) := by omega
      simp [e1, e2, e3, e4, p1, p2, forD, du, i1, i2, hp0, sl, f]
    · have hp0 : (p.1 : Int) = 0 := by omega
      rw [hp0] at i1
      generalize oD (least l w) = d at *
      simp [e1, e2, e3, e4, p1, p2, forD, du, i1]
end L64

set_option Elab.async false
set_option linter.all false
set_option maxRecDepth 100000
set_option maxHeartbeats 1000000
namespace L64
open PySem PySem.Spec L2 Dk PyProof.Rows
/-! what is refused -/
abbrev lA : D := .list [S "a"]
structure Flat (d : D) : Prop where
  nl : isT .list d.un = false
  fit : Fit 8 d
  st : d.strip = d
def rowL : List D := [.none, .int 7, lA, .tuple [S "a"], S "abg", S "A", S "a b", T (List.replicate 61 97), .dict [(S "a", .int 1)], .bool true, S "ab\n"]
def letL : List D := [.none, .int 7, lA, .tuple [S "a"], S "abg", S "A", S "a b", T (List.replicate 13 97), .dict [(S "a", .int 1)], .bool true]
def Odd (m : Int) (d : D) : Prop := d = lA ∨ (NoL m d ∧ Flat d)
theorem no_tx {l : List Nat} {m : Int} (hl : l.length ≤ 1000000) (h : (decide ((l.length : Int) ≤ m) && l.all fun c => decide (c ∈ abc)) = false) : NoL m (T l) := by
  have := are_tx l m hl
  rw [h] at this
  exact this
theorem s_abg : Str.ofString "abg" = tx [97, 98, 103] := by decide +kernel
theorem s_A : Str.ofString "A" = tx [65] := by decide +kernel
theorem s_a : Str.ofString "a" = tx [97] := by decide +kernel
theorem s_a_b : Str.ofString "a b" = tx [97, 32, 98] := by decide +kernel
theorem s_abn : Str.ofString "ab\n" = tx [97, 98, 10] := by decide +kernel
theorem s_abc : Str.ofString "abc" = tx [97, 98, 99] := by decide +kernel
theorem fit_tx {n : Nat} {l : List Nat} (h : ∀ c ∈ l, c < 1114112) (hl : l.length ≤ 1000) : Fit (n + 1) (T l) := ⟨by rw [tx_len]; omega, lay_tx h⟩
theorem odd_tx {l : List Nat} {m : Int} (hl : l.length ≤ 1000) (hc : ∀ c ∈ l, c < 1114112) (h : (decide ((l.length : Int) ≤ m) && l.all fun c => decide (c ∈ abc)) = false) : Odd m (T l) :=
  .inr ⟨no_tx (by omega) h, rfl, fit_tx hc hl, rfl⟩
theorem odd_S {s : String} {l : List Nat} {m : Int} (e : Str.ofString s = tx l) (hl : l.length ≤ 1000) (hc : ∀ c ∈ l, c < 1114112) (h : (decide ((l.length : Int) ≤ m) && l.all fun c => decide (c ∈ abc)) = false) : Odd m (S s) := by
  show Odd m (.str (Str.ofString s))
  rw [e]; exact odd_tx hl hc h
theorem len_a : (Str.ofString "a").length ≤ 1000 := by decide +kernel
theorem odd_row : ∀ d ∈ rowL, Odd 60 d := by
  intro d hd
  simp only [rowL, List.mem_cons, List.not_mem_nil, or_false] at hd
  rcases hd with rfl | rfl | rfl | rfl | rfl | rfl | rfl | rfl | rfl | rfl | rfl
  · exact .inr ⟨are_no rfl, rfl, trivial, rfl⟩
  · exact .inr ⟨are_no rfl, rfl, trivial, rfl⟩
  · exact .inl rfl
  · exact .inr ⟨are_no rfl, rfl, ⟨by decide, fun x hx => by rw [List.mem_singleton] at hx; rw [hx]; exact fit_S _ len_a⟩, rfl⟩
  · exact odd_S s_abg (by decide) (by decide) (by decide)
  · exact odd_S s_A (by decide) (by decide) (by decide)
  · exact odd_S s_a_b (by decide) (by decide) (by decide)
  · exact odd_tx (by decide) (by decide) (by decide)
  · refine .inr ⟨are_no rfl, rfl, ⟨fun p hp => ?_, by decide, fun x hx => ?_⟩, rfl⟩
    · rw [List.mem_singleton] at hp; rw [hp]; exact ⟨.inr _, rfl⟩
    · simp only [itemsD, List.map_cons, List.map_nil, List.mem_singleton] at hx
      rw [hx]
      refine ⟨by decide, fun x hx => ?_⟩
      simp only [List.mem_cons, List.not_mem_nil, or_false] at hx
      rcases hx with rfl | rfl
      · exact fit_S _ len_a
      · trivial
  · exact .inr ⟨are_no rfl, rfl, trivial, rfl⟩
  · exact odd_S s_abn (by decide) (by decide) (by decide)
theorem odd_let : ∀ d ∈ letL, Odd 12 d := by
  intro d hd
  simp only [letL, List.mem_cons, List.not_mem_nil, or_false] at hd
  rcases hd with rfl | rfl | rfl | rfl | rfl | rfl | rfl | rfl | rfl | rfl
  · exact .inr ⟨are_no rfl, rfl, trivial, rfl⟩
  · exact .inr ⟨are_no rfl, rfl, trivial, rfl⟩
  · exact .inl rfl
  · exact .inr ⟨are_no rfl, rfl, ⟨by decide, fun x hx => by rw [List.mem_singleton] at hx; rw [hx]; exact fit_S _ len_a⟩, rfl⟩
  · exact odd_S s_abg (by decide) (by decide) (by decide)
  · exact odd_S s_A (by decide) (by decide) (by decide)
  · exact odd_S s_a_b (by decide) (by decide) (by decide)
  · exact odd_tx (by decide) (by decide) (by decide)
  · refine .inr ⟨are_no rfl, rfl, ⟨fun p hp => ?_, by decide, fun x hx => ?_⟩, rfl⟩
    · rw [List.mem_singleton] at hp; rw [hp]; exact ⟨.inr _, rfl⟩
    · simp only [itemsD, List.map_cons, List.map_nil, List.mem_singleton] at hx
      rw [hx]
      refine ⟨by decide, fun x hx => ?_⟩
      simp only [List.mem_cons, List.not_mem_nil, or_false] at hx
      rcases hx with rfl | rfl
      · exact fit_S _ len_a
      · trivial
  · exact .inr ⟨are_no rfl, rfl, trivial, rfl⟩
theorem mul_a (n : Int) (h : 1 ≤ n) (h2 : n ≤ 1000) : mulD (S "a") (.int n) = some (.val (T (List.replicate n.toNat 97))) := by
  show mulD (.str (Str.ofString "a")) (.int n) = _
  rw [s_a]; exact muld_tx 97 h (by omega)
theorem no_row_ok {m : Nat} {l : List D} (h : BOk m l) (hm : m < 950000000) : ∃ (d : D) (l' : List D), Odd 60 d ∧ BOk (m + 1) l' ∧ den__law_no_row [.ref (.lst l)] = .ret (.val d) [.ref (.lst l')] := by
  obtain ⟨t1, l1, e1, a1, b1, k1⟩ := take1 h 11
  obtain ⟨d, x1, x2⟩ := pickN rowL a1 b1
  refine ⟨d, l1, odd_row d x2, k1, ?_⟩
  have q := mul_a 61 (by decide) (by decide)
  rw [show (61 : Int).toNat = 61 from rfl] at q
  unfold rowL lA at x1
  generalize T (List.replicate 61 97) = t61 at *
  simp [den__law_no_row, body__law_no_row, q, e1, x1]
theorem copy_no {d : D} (h : isT .list d.un = false) : den__law_copy [.val d] = .ret (.val d) [.val d] := by
  simp [den__law_copy, body__law_copy, h]
theorem copy_l : den__law_copy [.val lA] = .ret (.own (.lst [S "a"])) [.val lA] := by
  simp [den__law_copy, body__law_copy, isT]
theorem blamed_no {d : D} (h : Flat d) : den__law_blamed [.val d, .val d] = .ret (.val (.bool true)) [.val d, .val d] := by
  have e := same_self h.fit h.st
  simp [den__law_blamed, body__law_blamed, e, h.nl]
theorem fit_lA {n : Nat} : Fit (n + 2) lA := ⟨by decide, fun x hx => by rw [List.mem_singleton] at hx; rw [hx]; exact fit_S _ len_a⟩
theorem grows_lA (a : Nat) : Grows (den__law_same 8) mid__law_blamed a lA := by
  constructor
  · rw [same_eq]
    exact same6_ok 8 lA _ _ fit_lA rfl rfl
  · refine ⟨[S "a"], [S "a", .int 7], rfl, ?_, ?_⟩
    · have one : 1 < sizeLine := by rw [sizeLine_eq]; exact of_decide_eq_true rfl
      simp [mid__law_blamed, isT, one]
    · refine same_self ⟨by decide, fun x hx => ?_⟩ rfl
      simp only [List.mem_cons, List.not_mem_nil, or_false] at hx
      rcases hx with rfl | rfl
      · exact fit_S _ len_a
      · trivial
end L64

set_option Elab.async false
set_option linter.all false
set_option maxRecDepth 100000
set_option maxHeartbeats 1000000
namespace L64
open PySem PySem.Spec L2 Dk PyProof.Rows
noncomputable def rfF : EX := (eCallG den__law_copy [(.v (eIf (eOp ltD (eVar 3) (eC (.int 3))) (eCallG den__law_no_row [(.r 0)] [.a 0]) (eOp ixD (eVar 2) (eCallG den__law_take [(.r 0), (.v (eC (.int 10)))] [.a 0, .a 1]))))] [.a 0])
noncomputable def rfE : EX := (eCallG den__law_asked [(.v (eOp ixD (eLst [(eC (.str (Str.ofString "window"))), (eC (.str (Str.ofString "bar")))]) (eOp andD (eVar 3) (eC (.int 1))))), (.v (eIf (eOp ltD (eVar 3) (eC (.int 3))) (eVar 4) (eC (.str (Str.ofString "abc"))))), (.v (eIf (eOp ltD (eVar 3) (eC (.int 3))) (eC .none) (eVar 4))), (.v (eVar 1))] [.a 0, .a 1, .a 2, .a 3])
noncomputable def rfC : EX := (eOp neD (eOp ixD (eVar 5) (eC (.int 0))) (eIf (eOp ltD (eVar 3) (eC (.int 3))) (eC (.str (Str.ofString "row"))) (eC (.str (Str.ofString "letters")))))
noncomputable def rfB : SX := (sSeq (region den__law_blamed (den__law_same 8) mid__law_blamed 4 5 rfF rfE rfC (eOp ixD (eVar 5) (eC (.int 1))) (eVar 4))
  (sAsg 1 (eNot (eVar 1))))
/-- the word asked -/
theorem word_ok (k : Nat) (hk : k < 6) : ∃ w, Word w ∧ andD (.int k) (.int 1) = some (.val (.int (k % 2 : Nat))) ∧ atI [S "window", S "bar"] ((k % 2 : Nat) : Int) = some w := by
  have : k = 0 ∨ k = 1 ∨ k = 2 ∨ k = 3 ∨ k = 4 ∨ k = 5 := by omega
  rcases this with rfl | rfl | rfl | rfl | rfl | rfl
  · exact ⟨_, .w, rfl, rfl⟩
  · exact ⟨_, .b, rfl, rfl⟩
  · exact ⟨_, .w, rfl, rfl⟩
  · exact ⟨_, .b, rfl, rfl⟩
  · exact ⟨_, .w, rfl, rfl⟩
  · exact ⟨_, .b, rfl, rfl⟩
theorem no_tag {m : Int} (a : Nat) : NoL m (.tag a lA) := are_no rfl
theorem row_abc : Row 60 [97, 98, 99] := ⟨fun c hc => by simp [abc] at *; omega, by decide⟩
/-- what stands in place of the thing refused, and the answer -/
def sayD (k : Nat) (x : D) : List D := if k < 3 then [S "row", x] else [S "letters", x]
theorem rfE_ok {k : Nat} (hk : k < 6) {x : D} (h : NoL (if k < 3 then 60 else 12) x) (B N : Sl) (b : Bool) (o5 : Sl) : rfE [B, .val (.bool b), N, .val (.int k), .val x, o5] = .ok (.own (.lst (sayD k x))) [B, .val (.bool b), N, .val (.int k), .val x, o5] := by
  obtain ⟨w, hw, e1, e2⟩ := word_ok k hk
  have u := e2
  generalize hj : ((k % 2 : Nat) : Int) = j at *
  by_cases g : k < 3
  · rw [if_pos g] at h
    have e3 := asked_no1 (e := .none) hw h b
    have g' : (k : Int) < 3 := by omega
    simp [rfE, sayD, g, g', e1, e2, e3]
  · rw [if_neg g] at h
    have e3 : den__law_asked [.val w, .val (.str (Str.ofString "abc")), .val x, .val (.bool b)] = .ret (.own (.lst [S "letters", x])) [.val w, .val (.str (Str.ofString "abc")), .val x, .val (.bool b)] := by
      rw [s_abc]; exact asked_no2 hw row_abc h b
    have g' : ¬ (k : Int) < 3 := by omega
    simp [rfE, sayD, g, g', e1, e2, e3]
theorem rfC_ok {k : Nat} {x : D} (B N : Sl) (b : Bool) : rfC [B, .val (.bool b), N, .val (.int k), .val x, .val (.list (sayD k x))] = .ok (.val (.bool false)) [B, .val (.bool b), N, .val (.int k), .val x, .val (.list (sayD k x))] := by
  by_cases g : k < 3
  · have g' : (k : Int) < 3 := by omega
    simp [rfC, sayD, g, g']
  · have g' : ¬ (k : Int) < 3 := by omega
    simp [rfC, sayD, g, g']
theorem rfA_ok {k : Nat} {x : D} (B N : Sl) (b : Bool) : cArgs [.v (eOp ixD (eVar 5) (eC (.int 1))), .v (eVar 4)] [B, .val (.bool b), N, .val (.int k), .val x, .val (.list (sayD k x))] = .ok [.inl (.val x), .inl (.val x)] [B, .val (.bool b), N, .val (.int k), .val x, .val (.list (sayD k x))] := by
  by_cases g : k < 3 <;> simp [sayD, g]
theorem bok_flat {m : Nat} {l : List D} (h : BOk m l) : l.all flatD = true := by
  obtain ⟨a, b, c, n, rfl, _⟩ := h
  rfl
/-- what the odd thing is, and whether it is a list of its own -/
theorem rfF_ok {m : Nat} {l : List D} {k : Nat} (h : BOk m l) (hm : m < 900000000) (hk : k < 6) (b : Bool) (o4 o5 : Sl) :
    ∃ (d : D) (l' : List D), BOk (m + 1) l' ∧ ((d = lA ∧ rfF [.ref (.lst l), .val (.bool b), .val (.list letL), .val (.int k), o4, o5] = .ok (.own (.lst [S "a"])) [.ref (.lst l'), .val (.bool b), .val (.list letL), .val (.int k), o4, o5]) ∨ (NoL (if k < 3 then 60 else 12) d ∧ Flat d ∧ rfF [.ref (.lst l), .val (.bool b), .val (.list letL), .val (.int k), o4, o5] = .ok (.val d) [.ref (.lst l'), .val (.bool b), .val (.list letL), .val (.int k), o4, o5])) := by
  have key : ∃ (d : D) (l' : List D), BOk (m + 1) l' ∧ Odd (if k < 3 then 60 else 12) d ∧ (eIf (eOp ltD (eVar 3) (eC (.int 3))) (eCallG den__law_no_row [(.r 0)] [.a 0]) (eOp ixD (eVar 2) (eCallG den__law_take [(.r 0), (.v (eC (.int 10)))] [.a 0, .a 1]))) [.ref (.lst l), .val (.bool b), .val (.list letL), .val (.int k), o4, o5] = .ok (.val d) [.ref (.lst l'), .val (.bool b), .val (.list letL), .val (.int k), o4, o5] := by
    by_cases g : k < 3
    · obtain ⟨d, l1, q1, q2, q3⟩ := no_row_ok h (by omega)
      have g' : (k : Int) < 3 := by omega
      refine ⟨d, l1, q2, by rw [if_pos g]; exact q1, ?_⟩
      simp [g', q3]
    · obtain ⟨t1, l1, e1, a1, b1, k1⟩ := take1 h 10
      obtain ⟨d, x1, x2⟩ := pickN letL a1 b1
      have g' : ¬ (k : Int) < 3 := by omega
      refine ⟨d, l1, k1, by rw [if_neg g]; exact odd_let d x2, ?_⟩
      simp [g', e1, x1]
  obtain ⟨d, l', q1, q2, q3⟩ := key
  refine ⟨d, l', q1, ?_⟩
  rcases q2 with rfl | ⟨q2, q4⟩
  · have c := copy_l
    refine .inl ⟨rfl, ?_⟩
    unfold rfF
    generalize (eIf (eOp ltD (eVar 3) (eC (.int 3))) (eCallG den__law_no_row [(.r 0)] [.a 0]) (eOp ixD (eVar 2) (eCallG den__law_take [(.r 0), (.v (eC (.int 10)))] [.a 0, .a 1]))) = Z at *
    simp [q3, c]
  · have c := copy_no q4.nl
    refine .inr ⟨q2, q4, ?_⟩
    unfold rfF
    generalize (eIf (eOp ltD (eVar 3) (eC (.int 3))) (eCallG den__law_no_row [(.r 0)] [.a 0]) (eOp ixD (eVar 2) (eCallG den__law_take [(.r 0), (.v (eC (.int 10)))] [.a 0, .a 1]))) = Z at *
    simp [q3, c]
def Irf (m : Nat) (j : Nat) (ρ : Dk.Env) : Prop := ∃ (l : List D) (b : Bool) (o3 o4 o5 : Sl), BOk (m + j) l ∧ o3.isRef = false ∧ o4.isRef = false ∧ o4.isOwn = false ∧ o5.isRef = false ∧ o5.isOwn = false ∧ ρ = [.ref (.lst l), .val (.bool b), .val (.list letL), o3, o4, o5]
theorem rfB_ok {m : Nat} {j k : Nat} {ρ : Dk.Env} (hk : k < 6) (hj : m + j < 900000000) (h : Irf m j ρ) : ∃ ρ1 ρ2, (gN 3).h (.int k) ρ = some ρ1 ∧ rfB ρ1 = .nx ρ2 ∧ Irf m (j + 1) ρ2 := by
  obtain ⟨l, b, o3, o4, o5, hb, h3, h4, h4o, h5, h5o, rfl⟩ := h
  obtain ⟨d, l', q1, q2⟩ := rfF_ok hb hj hk b o4 o5
  have g3 : (gN 3).h (.int k) [.ref (.lst l), .val (.bool b), .val (.list letL), o3, o4, o5] = some [.ref (.lst l), .val (.bool b), .val (.list letL), .val (.int k), o4, o5] := by simp [slS_nr h3]
  rcases q2 with ⟨rfl, q2⟩ | ⟨q2, q3, q4⟩
  · refine ⟨_, [.ref (.lst l'), .val (.bool !b), .val (.list letL), .val (.int k), .emp, .emp], g3, ?_, ⟨l', _, _, _, _, q1, rfl, rfl, rfl, rfl, rfl, rfl⟩⟩
    have r := region_own (den := den__law_blamed) (same := den__law_same 8) (mid := mid__law_blamed) (i := 4) (j := 5) (e2 := rfE) (c := rfC) (ex := (eOp ixD (eVar 5) (eC (.int 1)))) (ey := (eVar 4)) (ρe := [.ref (.lst l'), .val (.bool b), .val (.list letL), .val (.int k), .emp, .emp]) q2 rfl fun a => by
      refine ⟨[.ref (.lst l'), .val (.bool b), .val (.list letL), .val (.int k), .val (.tag (a + 1) lA), o5], by simp [slS_nr h4], ?_⟩
      refine regTail_ok (rfE_ok hk (no_tag _) _ _ b o5) (toVal_own _) (ρ4 := [.ref (.lst l'), .val (.bool b), .val (.list letL), .val (.int k), .val (.tag (a + 1) lA), .val (.list (sayD k (.tag (a + 1) lA)))]) (by simp [slS_nr h5]) (rfC_ok _ _ b) (rfA_ok _ _ b) ?_
      refine (kTag_ok rfl rfl (grows_lA a) ?_).trans rfl
      intro n s e
      match n, e with
      | 0, e => cases e; exact ⟨fun z => by omega, fun _ _ => bok_flat q1⟩
      | 1, e => cases e; exact ⟨fun z => by omega, fun _ _ => rfl⟩
      | 2, e => cases e; exact ⟨fun z => by omega, fun _ _ => rfl⟩
      | 3, e => cases e; exact ⟨fun z => by omega, fun _ _ => rfl⟩
      | 4, e => cases e; exact ⟨fun _ => rfl, fun z => absurd rfl z⟩
      | 5, e => cases e; exact ⟨fun _ => rfl, fun _ z => absurd rfl z⟩
      | n + 6, e => cases e
    simp [rfB, r]
  · refine ⟨_, [.ref (.lst l'), .val (.bool !b), .val (.list letL), .val (.int k), .val d, .val (.list (sayD k d))], g3, ?_, ⟨l', _, _, _, _, q1, rfl, rfl, rfl, rfl, rfl, rfl⟩⟩
    have r := region_val (den := den__law_blamed) (same := den__law_same 8) (mid := mid__law_blamed) (i := 4) (j := 5) (e2 := rfE) (c := rfC) (ex := (eOp ixD (eVar 5) (eC (.int 1)))) (ey := (eVar 4)) (ρe := [.ref (.lst l'), .val (.bool b), .val (.list letL), .val (.int k), .val d, .val (.list (sayD k d))]) q4 (ρ2 := [.ref (.lst l'), .val (.bool b), .val (.list letL), .val (.int k), .val d, o5]) (by simp [slS_nr h4])
      (regTail_ok (rfE_ok hk q2 _ _ b o5) (toVal_own _) (ρ4 := [.ref (.lst l'), .val (.bool b), .val (.list letL), .val (.int k), .val d, .val (.list (sayD k d))]) (by simp [slS_nr h5]) (rfC_ok _ _ b) (rfA_ok _ _ b) (kVal_ok (blamed_no q3)))
    simp [rfB, r]
end L64

set_option Elab.async false
set_option linter.all false
set_option maxRecDepth 100000
set_option maxHeartbeats 1000000
namespace L64
open PySem PySem.Spec L2 Dk PyProof.Rows
theorem refused_ok {m : Nat} {l : List D} (h : BOk m l) (hm : m < 800000000) (b : Bool) : ∃ l', BOk (m + 6) l' ∧ den__law_refused [.ref (.lst l), .val (.bool b)] = .ret (.val (.bool true)) [.ref (.lst l'), .val (.bool b)] := by
  obtain ⟨ρ', ⟨l2, b2, o3, o4, o5, k2, h3, h4, h4o, h5, h5o, rfl⟩, e⟩ := forD_inv (t := gN 3) (p := rfB) (Irf m) (rngL 0 6) 0 [.ref (.lst l), .val (.bool b), .val (.list letL), .emp, .emp, .emp] ⟨l, b, .emp, .emp, .emp, h, rfl, rfl, rfl, rfl, rfl, rfl⟩ (fun d hd j ρ hI hj => by
    rw [rngL_len] at hj
    unfold rngL at hd
    obtain ⟨i, hi, rfl⟩ := List.mem_map.mp hd
    have := List.mem_range.mp hi
    rw [Int.zero_add]
    exact rfB_ok (by omega) (by omega) hI)
  rw [rngL_len] at k2
  refine ⟨l2, k2.mono (by omega), ?_⟩
  have hbody : body__law_refused = (sSeq (sAsg 2 (eLst [(eC .none), (eC (.int 7)), (eLst [(eC (.str (Str.ofString "a")))]), (eTup [(eC (.str (Str.ofString "a")))]), (eC (.str (Str.ofString "abg"))), (eC (.str (Str.ofString "A"))), (eC (.str (Str.ofString "a b"))), (eOp mulD (eC (.str (Str.ofString "a"))) (eC (.int 13))), (fun ρ => .ok (.own (.dct [((.str (Str.ofString "a")), (.int 1))])) ρ), (eC (.bool true))]))
  (sSeq (sFor (iRng1D (eC (.int 6))) (gN 3) rfB)
  (sRet (eC (.bool true))))) := rfl
  have q := mul_a 13 (by decide) (by decide)
  rw [show (13 : Int).toNat = 13 from rfl] at q
  have q1 : SmallI 6 := smL 6
  have z1 : (6 : Int).toNat = 6 := rfl
  unfold letL lA at e
  unfold den__law_refused
  rw [hbody]
  generalize T (List.replicate 13 97) = t13 at *
  simp [q, q1, z1, e]
/-! law -/
noncomputable def lwA : SX := (sIf (eNot (eTru (eCallG den__law_pair_right [(.v (eVar 5)), (.v (eCallG den__law_wanted [(.r 2), (.v (eVar 5))] [.a 0, .a 1])), (.v (eOp eqD (eVar 3) (eOp eqD (eVar 6) (eC (.int 0)))))] [.a 0, .a 1, .a 2]))) (sRet (eC (.bool false))) sNx)
noncomputable def lwC : SX := (sIf (eOr (eNot (eTru (eCallG den__law_pair_right [(.v (eVar 5)), (.v (eC (.str (Str.ofString "")))), (.v (eVar 3))] [.a 0, .a 1, .a 2]))) (eOr (eNot (eTru (eCallG den__law_pair_right [(.v (eC (.str (Str.ofString "")))), (.v (eC (.str (Str.ofString "a")))), (.v (eVar 3))] [.a 0, .a 1, .a 2]))) (eNot (eTru (eCallG den__law_refused [(.r 2), (.v (eVar 3))] [.a 0, .a 1]))))) (sRet (eC (.bool false))) sNx)
noncomputable def lwB : SX := (sSeq (sFor (iRng1D (eC (.int 3))) (gN 4) (sSeq (sAsg 5 (eCallG den__law_letters [(.r 2), (.v (eOp ixD (eLst [(eC (.int 12)), (eC (.int 30)), (eC (.int 60))]) (eVar 4)))] [.a 0, .a 1])) (sFor (iRng1D (eC (.int 2))) (gN 6) lwA))) lwC)
noncomputable def lwT : SX := (sSeq (sAsg 5 (eCallG den__law_letters [(.r 2), (.v (eOp ixD (eLst [(eC (.int 12)), (eC (.int 30)), (eC (.int 60))]) (eVar 4)))] [.a 0, .a 1])) (sFor (iRng1D (eC (.int 2))) (gN 6) lwA))
def Ia (m : Nat) (N : D) (o1 o4 : Sl) (b : Bool) (r : List Nat) (j : Nat) (ρ : Dk.Env) : Prop := ∃ (l : List D) (o6 : Sl), BOk (m + 40 * j) l ∧ o6.isRef = false ∧ ρ = [.val N, o1, .own (.lst l), .val (.bool b), o4, .val (T r), o6]
theorem lwA_ok {m : Nat} {N : D} {o1 o4 : Sl} {b : Bool} {r : List Nat} {j k : Nat} {ρ : Dk.Env} (hr : Row 60 r) (hm : m + 40 * j < 800000000) (h : Ia m N o1 o4 b r j ρ) : ∃ ρ1 ρ2, (gN 6).h (.int k) ρ = some ρ1 ∧ lwA ρ1 = .nx ρ2 ∧ Ia m N o1 o4 b r (j + 1) ρ2 := by
  obtain ⟨l, o6, hb, h6, rfl⟩ := h
  obtain ⟨w, l', hw, k1, e1⟩ := wanted_ok hb (by omega) hr
  have e2 := pair_ok hr hw (b == decide ((k : Int) = 0))
  refine ⟨[.val N, o1, .own (.lst l), .val (.bool b), o4, .val (T r), .val (.int k)], [.val N, o1, .own (.lst l'), .val (.bool b), o4, .val (T r), .val (.int k)], by simp [slS_nr h6], ?_, ⟨l', _, k1.mono (by omega), rfl, rfl⟩⟩
  simp [lwA, e1]
  simp at e2
  simp [e2]
def It (m : Nat) (N : D) (o1 : Sl) (b : Bool) (j : Nat) (ρ : Dk.Env) : Prop := ∃ (l : List D) (o4 o5 o6 : Sl), BOk (m + 400 * j) l ∧ o4.isRef = false ∧ (j = 0 → o5.isRef = false) ∧ (1 ≤ j → ∃ r, Row 60 r ∧ o5 = .val (T r)) ∧ o6.isRef = false ∧ ρ = [.val N, o1, .own (.lst l), .val (.bool b), o4, o5, o6]
theorem lwT_ok {m : Nat} {N : D} {o1 : Sl} {b : Bool} {j k : Nat} {ρ : Dk.Env} (hk : k < 3) (hm : m + 400 * j < 700000000) (h : It m N o1 b j ρ) : ∃ ρ1 ρ2, (gN 4).h (.int k) ρ = some ρ1 ∧ lwT ρ1 = .nx ρ2 ∧ It m N o1 b (j + 1) ρ2 := by
  obtain ⟨l, o4, o5, o6, hb, h4, h50, h51, h6, rfl⟩ := h
  have h5 : o5.isRef = false := by
    by_cases g : j = 0
    · exact h50 g
    · obtain ⟨r, _, rfl⟩ := h51 (by omega); rfl
  obtain ⟨most, m1, m2, m3⟩ : ∃ most : Int, 1 ≤ most ∧ most ≤ 60 ∧ atI [D.int 12, D.int 30, D.int 60] (k : Int) = some (.int most) := by
    have : k = 0 ∨ k = 1 ∨ k = 2 := by omega
    rcases this with rfl | rfl | rfl
    · exact ⟨12, by decide, by decide, rfl⟩
    · exact ⟨30, by decide, by decide, rfl⟩
    · exact ⟨60, by decide, by decide, rfl⟩
  obtain ⟨r, l1, hr, k1, e1⟩ := letters_ok hb (by omega) m1 m2
  have hr60 : Row 60 r := ⟨hr.1, by have := hr.2; omega⟩
  obtain ⟨ρ', ⟨l2, q6, k2, g6, rfl⟩, e2⟩ := forD_inv (t := gN 6) (p := lwA) (Ia (m + 400 * j + 200) N o1 (.val (.int k)) b r) (rngL 0 2) 0 [.val N, o1, .own (.lst l1), .val (.bool b), .val (.int k), .val (T r), o6] ⟨l1, o6, k1, h6, rfl⟩ (fun d hd i ρ hI hi => by
    rw [rngL_len] at hi
    unfold rngL at hd
    obtain ⟨z, hz, rfl⟩ := List.mem_map.mp hd
    rw [Int.zero_add]
    exact lwA_ok hr60 (by omega) hI)
  rw [rngL_len] at k2
  refine ⟨[.val N, o1, .own (.lst l), .val (.bool b), .val (.int k), o5, o6], [.val N, o1, .own (.lst l2), .val (.bool b), .val (.int k), .val (T r), q6], by simp [slS_nr h4], ?_, ⟨l2, _, _, _, k2.mono (by omega), rfl, fun z => by omega, fun _ => ⟨r, hr60, rfl⟩, g6, rfl⟩⟩
  have q1 : SmallI 2 := smL 2
  have z1 : (2 : Int).toNat = 2 := rfl
  simp [lwT, m3, e1, slS_nr h5, q1, z1, e2]
def Il (ns : List Int) (_ : Nat) (ρ : Dk.Env) : Prop := ∃ x1 x2 x3 x4 x5 x6 : Sl, x1.isRef = false ∧ x2.isRef = false ∧ x3.isRef = false ∧ x4.isRef = false ∧ x5.isRef = false ∧ x6.isRef = false ∧ ρ = [.val (.list (ns.map D.int)), x1, x2, x3, x4, x5, x6]
noncomputable def lwL : SX := (sSeq (sAsgO 2 (eCallG den__law_box [(.v (eCallG den__law_cell [(.v (eVar 0)), (.v (eVar 1))] [.a 0, .a 1]))] [.a 0]))
  (sSeq (sAsg 3 (eOp eqD (eCallG den__law_take [(.r 2), (.v (eC (.int 2)))] [.a 0, .a 1]) (eC (.int 0))))
  (sSeq (sFor (iRng1D (eC (.int 3))) (gN 4) lwT) lwC)))
theorem lwL_ok (ns : List Int) (i : Nat) (hi : i < 1000000) (j : Nat) (ρ : Dk.Env) (h : Il ns j ρ) : ∃ ρ1 ρ2, (gN 1).h (.int i) ρ = some ρ1 ∧ lwL ρ1 = .nx ρ2 ∧ Il ns (j + 1) ρ2 := by
  obtain ⟨x1, x2, x3, x4, x5, x6, h1, h2, h3, h4, h5, h6, rfl⟩ := h
  obtain ⟨z, ez⟩ := cell_ok 7487 ns i hi
  obtain ⟨l, el, hl⟩ := box_ok z
  rw [← box_eq] at el
  rw [← cell_eq] at ez
  obtain ⟨t, l1, e1, a1, b1, k1⟩ := take1 hl 2
  generalize hb : decide (t = 0) = b
  obtain ⟨ρ', ⟨l2, o4, o5, o6, k2, q4, _, q5, q6, rfl⟩, e2⟩ := forD_inv (t := gN 4) (p := lwT) (It 1 (.list (ns.map D.int)) (.val (.int i)) b) (rngL 0 3) 0 [.val (.list (ns.map D.int)), .val (.int i), .own (.lst l1), .val (.bool b), x4, x5, x6] ⟨l1, x4, x5, x6, k1.mono (by omega), h4, fun _ => h5, fun z => by omega, h6, rfl⟩ (fun d hd j ρ hI hj => by
    rw [rngL_len] at hj
    unfold rngL at hd
    obtain ⟨z, hz, rfl⟩ := List.mem_map.mp hd
    have := List.mem_range.mp hz
    rw [Int.zero_add]
    exact lwT_ok (by omega) (by omega) hI)
  rw [rngL_len] at k2 q5
  obtain ⟨r, hr, rfl⟩ := q5 (by omega)
  have p1 : den__law_pair_right [.val (T r), .val (.str (Str.ofString "")), .val (.bool b)] = .ret (.val (.bool true)) [.val (T r), .val (.str (Str.ofString "")), .val (.bool b)] := by
    rw [nil_str]; exact pair_ok hr ⟨fun x hx => absurd hx List.not_mem_nil, by simp⟩ b
  have p2 : den__law_pair_right [.val (.str (Str.ofString "")), .val (.str (Str.ofString "a")), .val (.bool b)] = .ret (.val (.bool true)) [.val (.str (Str.ofString "")), .val (.str (Str.ofString "a")), .val (.bool b)] := by
    rw [nil_str, s_a]
    exact pair_ok ⟨fun x hx => absurd hx List.not_mem_nil, by simp⟩ ⟨fun x hx => by rw [List.mem_singleton] at hx; rw [hx]; decide, by simp⟩ b
  obtain ⟨l3, k3, e3⟩ := refused_ok k2 (by omega) b
  refine ⟨[.val (.list (ns.map D.int)), .val (.int i), x2, x3, x4, x5, x6], [.val (.list (ns.map D.int)), .val (.int i), .own (.lst l3), .val (.bool b), o4, .val (T r), o6], by simp [slS_nr h1], ?_, ⟨_, _, _, _, _, _, rfl, rfl, rfl, q4, rfl, q6, rfl⟩⟩
  have q1 : SmallI 3 := smL 3
  have z1 : (3 : Int).toNat = 3 := rfl
  simp [lwL, ez, el, slS_nr h2, e1, hb, slS_nr h3, q1, z1, e2, lwC, p1, p2, e3]
theorem law_true (ns : List Int) (hns : ns.length ≤ 63) : ∃ as, den_law [.val (.list (ns.map D.int))] = .ret (.val (.bool true)) as := by
  obtain ⟨k, hk⟩ : ∃ k : Int, k = (if (if ns.length < (4 : Int) then (ns.length : Int) else 4) > (2 : Int) then (if ns.length < (4 : Int) then (ns.length : Int) else 4) else 2) := ⟨_, rfl⟩
  have hk2 : 2 ≤ k ∧ k ≤ 5 := by rw [hk]; repeat' split; all_goals omega
  obtain ⟨ρ1, ⟨x1, x2, x3, x4, x5, x6, h1, h2, h3, h4, h5, h6, rfl⟩, e1⟩ := forD_inv (t := gN 1) (p := lwL) (Il ns) (rngL 0 k.toNat) 0 [.val (.list (ns.map D.int)), .emp, .emp, .emp, .emp, .emp, .emp] ⟨_, _, _, _, _, _, rfl, rfl, rfl, rfl, rfl, rfl, rfl⟩ (fun d hd j ρ hI hj => by
    unfold rngL at hd
    obtain ⟨i, hi, rfl⟩ := List.mem_map.mp hd
    have := List.mem_range.mp hi
    rw [Int.zero_add]
    exact lwL_ok ns i (by omega) j ρ hI)
  have hbody : body_law = (sSeq (sFor (iRng1D (eCB max2D [(eC (.int 2)), (eCB min2D [(eC (.int 4)), (eCB lenD [(eVar 0)])])])) (gN 1) lwL) (sRet (eC (.bool true)))) := rfl
  unfold den_law
  rw [hbody]
  have q1 : SmallI k := smI k (by omega) (by omega)
  refine ⟨[.val (.list (ns.map D.int))], ?_⟩
  simp [← hk, q1, e1]
end L64

set_option Elab.async false
set_option linter.all false
set_option maxRecDepth 100000
set_option maxHeartbeats 4000000
open PySem PySem.W PyProof.Rows
set_option maxHeartbeats 0 in
theorem PySem.Challenge.cw_intervalbench_k64_least_windows_holds : PySem.Challenge.rw_intervalbench_k64_least_windows.Holds := by
  w_on; o_law; k_head; (case hw => w_witness2)
  k_fill
  refine L2.walk_of (l := PySem.Challenge.rw_intervalbench_k64_least_windows) (n := 63) (k := 12) (x := "script") (CX := fun w => L2.CX PySem.Challenge.pw_intervalbench_k64_least_windows w) (sp := fun w => Dk.spLaw _) rfl (by decide) rfl ⟨rfl, by decide, by decide⟩ (fun w h Y => PySem.W.kIn_of Y) ?F (fun w H a ns hz _ hS => ⟨a, ns, rfl, hS, hz, fun _ => rfl⟩) (fun w H s e s2 h => Dk.hCX_ _ w H s e s2 h)
  case F =>
    intro w mg fa h KX G hmg
    refine' L64.all_mk KX G hmg ?a__law_box ?l__law_box ?c__law_box ?k__law_box ?a__law_cell ?l__law_cell ?c__law_cell ?k__law_cell ?a__law_take ?l__law_take ?c__law_take ?k__law_take ?a__law_letters ?l__law_letters ?c__law_letters ?k__law_letters ?a_are_letters ?l_are_letters ?c_are_letters ?k_are_letters ?a_check_row ?l_check_row ?c_check_row ?k_check_row ?a_check_both ?l_check_both ?c_check_both ?k_check_both ?a_has_all ?l_has_all ?c_has_all ?k_has_all ?a_windows_of ?l_windows_of ?c_windows_of ?k_windows_of ?a_least_window ?l_least_window ?c_least_window ?k_least_window ?a_window_bar ?l_window_bar ?c_window_bar ?k_window_bar ?a__law_asked ?l__law_asked ?c__law_asked ?k__law_asked ?a__law_has ?l__law_has ?c__law_has ?k__law_has ?a__law_least ?l__law_least ?c__law_least ?k__law_least ?a__law_same ?l__law_same ?c__law_same ?k__law_same ?a__law_pair_right ?l__law_pair_right ?c__law_pair_right ?k__law_pair_right ?a__law_blamed ?l__law_blamed ?c__law_blamed ?k__law_blamed ?a__law_copy ?l__law_copy ?c__law_copy ?k__law_copy ?a__law_no_row ?l__law_no_row ?c__law_no_row ?k__law_no_row ?a__law_refused ?l__law_refused ?c__law_refused ?k__law_refused ?a__law_wanted ?l__law_wanted ?c__law_wanted ?k__law_wanted ?a_law ?l_law ?c_law ?k_law ?z_abs ?z_all ?z_bool ?z_dict ?z_int ?z_isinstance ?z_len ?z_list ?z_max ?z_min ?z_range ?z_str ?z_sum ?z_tuple ?g_LETTERS ?h_LETTERS ?g_MOST_LETTERS ?h_MOST_LETTERS ?g_MOST_ROW ?h_MOST_ROW ?aC_IntervalError ?eC_IntervalError ?tC_IntervalError ?hC_IntervalError ?aC_InvalidLetters ?eC_InvalidLetters ?tC_InvalidLetters ?hC_InvalidLetters ?xL_InvalidLetters ?hb_InvalidLetters ?sa_InvalidLetters ?kC_InvalidLetters ?i_InvalidLetters ?ti_InvalidLetters ?l_IInvalidLetters ?c_IInvalidLetters ?k_IInvalidLetters ?no_InvalidLetters_given ?ga_InvalidLetters ?gg_InvalidLetters ?cl_InvalidLetters ?mr_InvalidLetters ?is_InvalidLetters ?aC_InvalidRow ?eC_InvalidRow ?tC_InvalidRow ?hC_InvalidRow ?xL_InvalidRow ?hb_InvalidRow ?sa_InvalidRow ?kC_InvalidRow ?i_InvalidRow ?ti_InvalidRow ?l_IInvalidRow ?c_IInvalidRow ?k_IInvalidRow ?no_InvalidRow_given ?ga_InvalidRow ?gg_InvalidRow ?cl_InvalidRow ?mr_InvalidRow ?is_InvalidRow ?sp_ ?tk_ ?s_InvalidLetters_InvalidLetters ?s_InvalidRow_InvalidLetters ?s_InvalidLetters_InvalidRow ?s_InvalidRow_InvalidRow ?o_InvalidLetters_IntervalError ?o_InvalidRow_IntervalError L64.law_true
    (case a__law_box => k_is)
    (case l__law_box => k_is)
    (case c__law_box => k_is)
    (case k__law_box => k_is)
    (case a__law_cell => k_is)
    (case l__law_cell => k_is)
    (case c__law_cell => k_is)
    (case k__law_cell => k_is)
    (case a__law_take => k_is)
    (case l__law_take => k_is)
    (case c__law_take => k_is)
    (case k__law_take => k_is)
    (case a__law_letters => k_is)
    (case l__law_letters => k_is)
    (case c__law_letters => k_is)
    (case k__law_letters => k_is)
    (case a_are_letters => k_is)
    (case l_are_letters => k_is)
    (case c_are_letters => k_is)
    (case k_are_letters => k_is)
    (case a_check_row => k_is)
    (case l_check_row => k_is)
    (case c_check_row => k_is)
    (case k_check_row => k_is)
    (case a_check_both => k_is)
    (case l_check_both => k_is)
    (case c_check_both => k_is)
    (case k_check_both => k_is)
    (case a_has_all => k_is)
    (case l_has_all => k_is)
    (case c_has_all => k_is)
    (case k_has_all => k_is)
    (case a_windows_of => k_is)
    (case l_windows_of => k_is)
    (case c_windows_of => k_is)
    (case k_windows_of => k_is)
    (case a_least_window => k_is)
    (case l_least_window => k_is)
    (case c_least_window => k_is)
    (case k_least_window => k_is)
    (case a_window_bar => k_is)
    (case l_window_bar => k_is)
    (case c_window_bar => k_is)
    (case k_window_bar => k_is)
    (case a__law_asked => k_is)
    (case l__law_asked => k_is)
    (case c__law_asked => k_is)
    (case k__law_asked => k_is)
    (case a__law_has => k_is)
    (case l__law_has => k_is)
    (case c__law_has => k_is)
    (case k__law_has => k_is)
    (case a__law_least => k_is)
    (case l__law_least => k_is)
    (case c__law_least => k_is)
    (case k__law_least => k_is)
    (case a__law_same => k_is)
    (case l__law_same => k_is)
    (case c__law_same => k_is)
    (case k__law_same => k_is)
    (case a__law_pair_right => k_is)
    (case l__law_pair_right => k_is)
    (case c__law_pair_right => k_is)
    (case k__law_pair_right => k_is)
    (case a__law_blamed => k_is)
    (case l__law_blamed => k_is)
    (case c__law_blamed => k_is)
    (case k__law_blamed => k_is)
    (case a__law_copy => k_is)
    (case l__law_copy => k_is)
    (case c__law_copy => k_is)
    (case k__law_copy => k_is)
    (case a__law_no_row => k_is)
    (case l__law_no_row => k_is)
    (case c__law_no_row => k_is)
    (case k__law_no_row => k_is)
    (case a__law_refused => k_is)
    (case l__law_refused => k_is)
    (case c__law_refused => k_is)
    (case k__law_refused => k_is)
    (case a__law_wanted => k_is)
    (case l__law_wanted => k_is)
    (case c__law_wanted => k_is)
    (case k__law_wanted => k_is)
    (case a_law => k_is)
    (case l_law => k_is)
    (case c_law => k_is)
    (case k_law => k_is)
    (case z_abs => k_is)
    (case z_all => k_is)
    (case z_bool => k_is)
    (case z_dict => k_is)
    (case z_int => k_is)
    (case z_isinstance => k_is)
    (case z_len => k_is)
    (case z_list => k_is)
    (case z_max => k_is)
    (case z_min => k_is)
    (case z_range => k_is)
    (case z_str => k_is)
    (case z_sum => k_is)
    (case z_tuple => k_is)
    (case g_LETTERS => k_is)
    (case h_LETTERS => kernel_rfl)
    (case g_MOST_LETTERS => k_is)
    (case h_MOST_LETTERS => kernel_rfl)
    (case g_MOST_ROW => k_is)
    (case h_MOST_ROW => kernel_rfl)
    (case aC_IntervalError => k_is)
    (case eC_IntervalError => k_is)
    (case tC_IntervalError => k_is)
    (case hC_IntervalError => k_is)
    (case aC_InvalidLetters => k_is)
    (case eC_InvalidLetters => k_is)
    (case tC_InvalidLetters => k_is)
    (case hC_InvalidLetters => k_is)
    (case xL_InvalidLetters => k_is)
    (case hb_InvalidLetters => kernel_rfl)
    (case sa_InvalidLetters => k_is)
    (case kC_InvalidLetters => k_is)
    (case i_InvalidLetters => k_is)
    (case ti_InvalidLetters => k_is)
    (case l_IInvalidLetters => k_is)
    (case c_IInvalidLetters => k_is)
    (case k_IInvalidLetters => k_is)
    (case no_InvalidLetters_given => k_is)
    (case ga_InvalidLetters => k_is)
    (case gg_InvalidLetters => k_is)
    (case cl_InvalidLetters => k_is)
    (case mr_InvalidLetters => k_is)
    (case is_InvalidLetters => kernel_rfl)
    (case aC_InvalidRow => k_is)
    (case eC_InvalidRow => k_is)
    (case tC_InvalidRow => k_is)
    (case hC_InvalidRow => k_is)
    (case xL_InvalidRow => k_is)
    (case hb_InvalidRow => kernel_rfl)
    (case sa_InvalidRow => k_is)
    (case kC_InvalidRow => k_is)
    (case i_InvalidRow => k_is)
    (case ti_InvalidRow => k_is)
    (case l_IInvalidRow => k_is)
    (case c_IInvalidRow => k_is)
    (case k_IInvalidRow => k_is)
    (case no_InvalidRow_given => k_is)
    (case ga_InvalidRow => k_is)
    (case gg_InvalidRow => k_is)
    (case cl_InvalidRow => k_is)
    (case mr_InvalidRow => k_is)
    (case is_InvalidRow => kernel_rfl)
    (case sp_ => k_is)
    (case tk_ => k_is)
    (case s_InvalidLetters_InvalidLetters => (first | k_is | kernel_rfl))
    (case s_InvalidRow_InvalidLetters => (first | k_is | kernel_rfl))
    (case s_InvalidLetters_InvalidRow => (first | k_is | kernel_rfl))
    (case s_InvalidRow_InvalidRow => (first | k_is | kernel_rfl))
    (case o_InvalidLetters_IntervalError => kernel_rfl)
    (case o_InvalidRow_IntervalError => kernel_rfl)
