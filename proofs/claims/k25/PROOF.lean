import PyProof.Rows.All
import Wide.All
import OpenK.AllK
import Wide.FinOn
import HandS.ForMost
import HandS.ForExc
import HandS.TryMany
import HandS.ExcInit
import HandS.ExcField
import KE.DataMinMax
import KE.SortData
import KE.DataCmp
import HandS.TupAny
import HandS.TupMul
import HandS.TupLe
import HandS.Deep
import HandS.Text
import PyProof.ListMulAny
import HandS.Comp
import HandS.IsInst
import HandS.Defaults
import HandS.ExcIs
import KE.KExcIs
import KE.DataAny
import KE.LcSums
import HandS.TupLen
import KE.KTupSum
import HandS.ListItems
import PyProof.SeqIndex
import HandS.Style
import HandS.Ends
import PySem.Challenge.RW_intervalbench_k25_names_and_relations
set_option Elab.async false
set_option linter.all false
set_option maxRecDepth 100000
set_option maxHeartbeats 4000000
/-! Dk1: data, how values bear data, states of a def by data -/
namespace Dk
open PySem PySem.Spec L2
abbrev SS := List (Option V)

/-- data; tag a d: d, known to stand at the address a -/
inductive D where
  | none
  | bool (b : Bool)
  | int (i : Int)
  | str (s : Str)
  | list (xs : List D)
  | tuple (xs : List D)
  | dict (kvs : List (D × D))
  | dictT (kvs : List (D × D))
  | tag (a : Addr) (d : D)
/-- without the tag -/
def D.un : D → D
  | .tag _ d => d.un
  | d => d
mutual
def D.toP : D → PyData
  | .none => .none
  | .bool b => .bool b
  | .int i => .int i
  | .str x => .str x
  | .list xs => .list (D.toPL xs)
  | .tuple xs => .tuple (D.toPL xs)
  | .dict kvs => .dict (D.toPK kvs)
  | .dictT kvs => .dict (D.toPK kvs)
  | .tag _ d => d.toP
def D.toPL : List D → List PyData
  | [] => []
  | d :: ds => d.toP :: D.toPL ds
def D.toPK : List (D × D) → List (PyData × PyData)
  | [] => []
  | (k, d) :: r => (k.toP, d.toP) :: D.toPK r
end
def keyD : Key → D
  | .inl i => .int i
  | .inr s => .str s
def SubH (F F' : Hp) : Prop := ∀ a o, F a = some o → F' a = some o
theorem SubH.refl (F : Hp) : SubH F F := fun _ _ h => h
theorem SubH.trans {F G H : Hp} (a : SubH F G) (b : SubH G H) : SubH F H := fun p o h => b p o (a p o h)
theorem SubH.upd {F : Hp} {p : Addr} {o : HO} (h : F p = none) : SubH F (upd F p o) := fun a u e => by
  rw [upd_ne (ne_of_none e h)]; exact e
theorem SubH.none {F H : Hp} (h : SubH F H) {p : Addr} (n : H p = none) : F p = none := by
  cases e : F p with
  | none => rfl
  | some o => rw [h p o e] at n; cases n
def RdLe (F F' : Hp) : Prop := SubH F F'
theorem SubH.rd {F F' : Hp} (h : SubH F F') : RdLe F F' := h
theorem RdLe.rdl {F F' : Hp} (h : RdLe F F') : ∀ a u, Rd F a u → Rd F' a u := fun a u r => by
  rcases r with r | ⟨o, r⟩
  · exact .inl (h _ _ r)
  · exact .inr ⟨o, h _ _ r⟩

mutual
def Rep (K : PySem.W.Frag) (F : Hp) : D → V → Prop
  | .none, v => v = .non
  | .bool b, v => v = .bl b
  | .int i, v => v = .int i
  | .str x, v => v = .str x
  | .list ds, v => ∃ a vs, v = .ref a ∧ SqL K F a vs ∧ RepL K F ds vs
  | .tuple ds, v => ∃ a vs, v = .ref a ∧ SqT K F a vs ∧ RepL K F ds vs
  | .dict kvs, v => ∃ a ks, v = .ref a ∧ F a = some (.dK ks) ∧ RepK K F kvs ks
  | .dictT kvs, v => ∃ a ks, v = .ref a ∧ F a = some (.dT ks) ∧ RepT K F kvs ks
  | .tag a d, v => v = .ref a ∧ Rep K F d v
def RepL (K : PySem.W.Frag) (F : Hp) : List D → List V → Prop
  | [], vs => vs = []
  | d :: ds, vs => ∃ v ws, vs = v :: ws ∧ Rep K F d v ∧ RepL K F ds ws
def RepK (K : PySem.W.Frag) (F : Hp) : List (D × D) → List (Key × V) → Prop
  | [], ks => ks = []
  | (k, d) :: r, ks => ∃ kk v ws, ks = (kk, v) :: ws ∧ k = keyD kk ∧ Rep K F d v ∧ RepK K F r ws
def RepT (K : PySem.W.Frag) (F : Hp) : List (D × D) → List (List Key × V) → Prop
  | [], ks => ks = []
  | (k, d) :: r, ks => ∃ kk v ws, ks = (kk, v) :: ws ∧ k = .tuple (kk.map keyD) ∧ Rep K F d v ∧ RepT K F r ws
end

theorem SqL.le {K : PySem.W.Frag} {F F' : Hp} (h : RdLe F F') {a : Addr} {xs : List V} (s : SqL K F a xs) : SqL K F' a xs := by
  rcases s with s | s
  · exact .inl (h.rdl _ _ s)
  · exact .inr s
theorem SqT.le {K : PySem.W.Frag} {F F' : Hp} (h : RdLe F F') {a : Addr} {xs : List V} (s : SqT K F a xs) : SqT K F' a xs := by
  rcases s with s | s
  · exact .inl (h.rdl _ _ s)
  · exact .inr s
mutual
theorem Rep.le {K : PySem.W.Frag} {F F' : Hp} (h : RdLe F F') : ∀ (d : D) (v : V), Rep K F d v → Rep K F' d v
  | .none, v, r => by unfold Rep at r ⊢; exact r
  | .bool b, v, r => by unfold Rep at r ⊢; exact r
  | .int i, v, r => by unfold Rep at r ⊢; exact r
  | .str x, v, r => by unfold Rep at r ⊢; exact r
  | .list ds, v, r => by
    unfold Rep at r ⊢
    obtain ⟨a, vs, e, s, l⟩ := r
    exact ⟨a, vs, e, SqL.le h s, RepL.le h ds vs l⟩
  | .tuple ds, v, r => by
    unfold Rep at r ⊢
    obtain ⟨a, vs, e, s, l⟩ := r
    exact ⟨a, vs, e, SqT.le h s, RepL.le h ds vs l⟩
  | .dict kvs, v, r => by
    unfold Rep at r ⊢
    obtain ⟨a, ks, e, r, q⟩ := r
    exact ⟨a, ks, e, h _ _ r, RepK.le h kvs ks q⟩
  | .dictT kvs, v, r => by
    unfold Rep at r ⊢
    obtain ⟨a, ks, e, r, q⟩ := r
    exact ⟨a, ks, e, h _ _ r, RepT.le h kvs ks q⟩
  | .tag a d, v, r => by
    unfold Rep at r ⊢
    exact ⟨r.1, Rep.le h d v r.2⟩
theorem RepL.le {K : PySem.W.Frag} {F F' : Hp} (h : RdLe F F') : ∀ (ds : List D) (vs : List V), RepL K F ds vs → RepL K F' ds vs
  | [], vs, r => by unfold RepL at r ⊢; exact r
  | d :: ds, vs, r => by
    unfold RepL at r ⊢
    obtain ⟨v, ws, e, r1, r2⟩ := r
    exact ⟨v, ws, e, Rep.le h d v r1, RepL.le h ds ws r2⟩
theorem RepK.le {K : PySem.W.Frag} {F F' : Hp} (h : RdLe F F') : ∀ (ds : List (D × D)) (vs : List (Key × V)), RepK K F ds vs → RepK K F' ds vs
  | [], vs, r => by unfold RepK at r ⊢; exact r
  | (k, d) :: ds, vs, r => by
    unfold RepK at r ⊢
    obtain ⟨kk, v, ws, e, e2, r1, r2⟩ := r
    exact ⟨kk, v, ws, e, e2, Rep.le h d v r1, RepK.le h ds ws r2⟩
theorem RepT.le {K : PySem.W.Frag} {F F' : Hp} (h : RdLe F F') : ∀ (ds : List (D × D)) (vs : List (List Key × V)), RepT K F ds vs → RepT K F' ds vs
  | [], vs, r => by unfold RepT at r ⊢; exact r
  | (k, d) :: ds, vs, r => by
    unfold RepT at r ⊢
    obtain ⟨kk, v, ws, e, e2, r1, r2⟩ := r
    exact ⟨kk, v, ws, e, e2, Rep.le h d v r1, RepT.le h ds ws r2⟩
end
theorem Rep.un {K : PySem.W.Frag} {F : Hp} : ∀ {d : D} {v : V}, Rep K F d v → Rep K F d.un v
  | .none, _, r => r
  | .bool _, _, r => r
  | .int _, _, r => r
  | .str _, _, r => r
  | .list _, _, r => r
  | .tuple _, _, r => r
  | .dict _, _, r => r
  | .dictT _, _, r => r
  | .tag a d, v, r => by
    unfold Rep at r
    exact Rep.un (d := d) r.2
theorem RepL.un {K : PySem.W.Frag} {F : Hp} : ∀ {ds : List D} {vs : List V}, RepL K F ds vs → RepL K F (ds.map D.un) vs
  | [], _, r => by unfold RepL at r; subst r; unfold RepL; rfl
  | d :: ds, _, r => by
    unfold RepL at r
    obtain ⟨v, ws, rfl, r1, r2⟩ := r
    show RepL K F (d.un :: ds.map D.un) _
    unfold RepL
    exact ⟨v, ws, rfl, Rep.un r1, RepL.un r2⟩
theorem RepL.length {K : PySem.W.Frag} {F : Hp} : ∀ {ds : List D} {vs : List V}, RepL K F ds vs → vs.length = ds.length
  | [], _, r => by unfold RepL at r; subst r; rfl
  | d :: ds, _, r => by
    unfold RepL at r
    obtain ⟨v, ws, rfl, _, r2⟩ := r
    simp [RepL.length r2]
theorem RepL.get {K : PySem.W.Frag} {F : Hp} : ∀ {ds : List D} {vs : List V} {i : Nat} {d : D}, RepL K F ds vs → ds[i]? = some d → ∃ v, vs[i]? = some v ∧ Rep K F d v
  | [], _, _, _, _, e => by simp at e
  | x :: ds, _, 0, d, r, e => by
    unfold RepL at r
    obtain ⟨v, ws, rfl, r1, _⟩ := r
    simp at e; subst e
    exact ⟨v, rfl, r1⟩
  | x :: ds, _, i + 1, d, r, e => by
    unfold RepL at r
    obtain ⟨v, ws, rfl, _, r2⟩ := r
    obtain ⟨v', h1, h2⟩ := RepL.get (i := i) r2 (by simpa using e)
    exact ⟨v', by simpa using h1, h2⟩
theorem RepL.nil {K : PySem.W.Frag} {F : Hp} : RepL K F [] [] := by unfold RepL; rfl
theorem RepL.cons {K : PySem.W.Frag} {F : Hp} {d : D} {v : V} {ds : List D} {vs : List V} (h : Rep K F d v) (t : RepL K F ds vs) : RepL K F (d :: ds) (v :: vs) := by
  unfold RepL; exact ⟨v, vs, rfl, h, t⟩
theorem RepL.append {K : PySem.W.Frag} {F : Hp} : ∀ {ds es : List D} {vs ws : List V}, RepL K F ds vs → RepL K F es ws → RepL K F (ds ++ es) (vs ++ ws)
  | [], _, _, _, r, q => by unfold RepL at r; subst r; exact q
  | d :: ds, es, _, ws, r, q => by
    unfold RepL at r
    obtain ⟨v, vs, rfl, r1, r2⟩ := r
    exact RepL.cons r1 (RepL.append r2 q)
theorem RepL.drop {K : PySem.W.Frag} {F : Hp} : ∀ {ds : List D} {vs : List V} (n : Nat), RepL K F ds vs → RepL K F (ds.drop n) (vs.drop n)
  | _, _, 0, r => r
  | [], _, n + 1, r => by unfold RepL at r; subst r; exact RepL.nil
  | d :: ds, _, n + 1, r => by
    unfold RepL at r
    obtain ⟨v, vs, rfl, _, r2⟩ := r
    exact RepL.drop n r2
theorem RepL.take {K : PySem.W.Frag} {F : Hp} : ∀ {ds : List D} {vs : List V} (n : Nat), RepL K F ds vs → RepL K F (ds.take n) (vs.take n)
  | _, _, 0, r => by simpa using RepL.nil
  | [], _, n + 1, r => by unfold RepL at r; subst r; exact RepL.nil
  | d :: ds, _, n + 1, r => by
    unfold RepL at r
    obtain ⟨v, vs, rfl, r1, r2⟩ := r
    exact RepL.cons r1 (RepL.take n r2)
theorem RepL.set {K : PySem.W.Frag} {F : Hp} {d : D} {v : V} (h : Rep K F d v) : ∀ {ds : List D} {vs : List V} (n : Nat), RepL K F ds vs → RepL K F (ds.set n d) (vs.set n v)
  | [], _, n, r => by unfold RepL at r; subst r; exact RepL.nil
  | e :: ds, _, 0, r => by
    unfold RepL at r
    obtain ⟨u, vs, rfl, _, r2⟩ := r
    exact RepL.cons h r2
  | e :: ds, _, n + 1, r => by
    unfold RepL at r
    obtain ⟨u, vs, rfl, r1, r2⟩ := r
    exact RepL.cons r1 (RepL.set h n r2)

/-! ### slots -/
/-- the content of an object that is one slot's own -/
inductive Cl where
  | lst (ds : List D)
  | dct (kvs : List (D × D))
  | dcT (kvs : List (D × D))
/-- what a slot holds: nothing known; a datum; an object of its own; a caller's object; a def -/
inductive Sl where
  | emp | val (d : D) | own (c : Cl) | ref (c : Cl) | fn (x : Str)
def Cl.frz : Cl → D
  | .lst ds => .list ds
  | .dct kvs => .dict kvs
  | .dcT kvs => .dictT kvs
abbrev Env := List Sl

/-- what is protected: objects; the raw values of borrowed slots -/
structure Prot where
  H : Hp
  pin : Nat → Option V

def ClOk (K : PySem.W.Frag) (F H : Hp) (a : Addr) : Cl → Prop
  | .lst ds => ∃ vs, H a = some (.lst vs) ∧ RepL K F ds vs
  | .dct kvs => ∃ ks, H a = some (.dK ks) ∧ RepK K F kvs ks
  | .dcT kvs => ∃ ks, H a = some (.dT ks) ∧ RepT K F kvs ks
def SlOk (K : PySem.W.Frag) (mg : Str → Option Value) (P : Prot) (F H : Hp) : Option V → Sl → Prop
  | _, .emp => True
  | o, .val d => ∃ v, o = some v ∧ Rep K F d v
  | o, .own c => ∃ a, o = some (.ref a) ∧ F a = none ∧ P.H a = none ∧ ClOk K F H a c
  | o, .ref c => ∃ a, o = some (.ref a) ∧ F a = none ∧ P.H a = none ∧ ClOk K F H a c
  | o, .fn x => ∃ a, o = some (.ref a) ∧ mg x = some (.ref a)
def Sl.isOwn : Sl → Bool
  | .own _ => true
  | .ref _ => true
  | _ => false
def Sl.isRef : Sl → Bool
  | .ref _ => true
  | _ => false
/-- the slot i owns the object at a -/
def Owns (σ : SS) (ρ : Env) (i : Nat) (a : Addr) : Prop := (∃ sl, ρ[i]? = some sl ∧ sl.isOwn = true) ∧ σ[i]? = some (some (.ref a))

structure Stt (K : PySem.W.Frag) (mg : Str → Option Value) (P : Prot) (F H : Hp) (σ : SS) (ρ : Env) : Prop where
  sub : SubH F H
  keep : ∀ p o, P.H p = some o → H p = some o ∧ F p = none
  len : σ.length = ρ.length
  sl : ∀ (i : Nat) (s : Sl), ρ[i]? = some s → SlOk K mg P F H (σ.getD i none) s
  apart : ∀ (i j : Nat) (a : Addr), Owns σ ρ i a → Owns σ ρ j a → i = j
  pin : ∀ (i : Nat) (v : V), P.pin i = some v → σ[i]? = some (some v) ∧ ∃ s, ρ[i]? = some s ∧ s.isRef = true
/-- what an expression hands back -/
structure OutOk (K : PySem.W.Frag) (mg : Str → Option Value) (P : Prot) (F H : Hp) (σ : SS) (ρ : Env) (v : V) (o : Sl) : Prop where
  sl : SlOk K mg P F H (some v) o
  ne : o ≠ .emp
  nr : o.isRef = false
  free : o.isOwn = true → ∀ (i : Nat) (a : Addr), v = .ref a → ¬ Owns σ ρ i a
end Dk

set_option Elab.async false
set_option linter.all false
set_option maxRecDepth 100000
set_option maxHeartbeats 4000000
/-! Dk2: results, what is wanted behind them, expressions by data -/
namespace Dk
open PySem PySem.Spec L2

inductive R where
  | bad
  | ok (o : Sl) (ρ : Env)
  | exc (c : Str) (fs : List (Str × D)) (ρ : Env)
inductive SR where
  | bad
  | nx (ρ : Env)
  | ret (o : Sl) (ρ : Env)
  | brk (ρ : Env)
  | ct (ρ : Env)
  | exc (c : Str) (fs : List (Str × D)) (ρ : Env)
abbrev EX := Env → R
abbrev SX := Env → SR
def Sl.frz : Sl → Option D
  | .val d => some d
  | .own c => some c.frz
  | _ => none
def R.bind (r : R) (k : Sl → Env → R) : R := match r with
  | .ok o ρ => k o ρ
  | .bad => .bad
  | .exc c fs ρ => .exc c fs ρ
def R.bindV (r : R) (k : D → Env → R) : R := match r with
  | .ok o ρ => (match o.frz with | some d => k d ρ | none => .bad)
  | .bad => .bad
  | .exc c fs ρ => .exc c fs ρ
@[simp] theorem R.bind_ok (o : Sl) (ρ : Env) (k : Sl → Env → R) : (R.ok o ρ).bind k = k o ρ := Eq.trans rfl rfl
@[simp] theorem R.bind_exc (c : Str) (fs : List (Str × D)) (ρ : Env) (k : Sl → Env → R) : (R.exc c fs ρ).bind k = .exc c fs ρ := Eq.trans rfl rfl
@[simp] theorem R.bindV_val (d : D) (ρ : Env) (k : D → Env → R) : (R.ok (.val d) ρ).bindV k = k d ρ := Eq.trans rfl rfl
@[simp] theorem R.bindV_own (c : Cl) (ρ : Env) (k : D → Env → R) : (R.ok (.own c) ρ).bindV k = k c.frz ρ := Eq.trans rfl rfl
@[simp] theorem R.bindV_exc (c : Str) (fs : List (Str × D)) (ρ : Env) (k : D → Env → R) : (R.exc c fs ρ).bindV k = .exc c fs ρ := Eq.trans rfl rfl
@[simp] theorem R.bindV_bad (k : D → Env → R) : R.bad.bindV k = .bad := Eq.trans rfl rfl

section
variable {K : PySem.W.Frag} {mg : Str → Option Value} {P : Prot} {F F' H H' : Hp} {σ : SS} {ρ : Env}

theorem ClOk.le {a : Addr} {c : Cl} (h : SubH F F') (e : H' a = H a) (x : ClOk K F H a c) : ClOk K F' H' a c := by
  cases c with
  | lst ds =>
    obtain ⟨vs, h1, h2⟩ := x
    exact ⟨vs, e.trans h1, RepL.le h.rd ds vs h2⟩
  | dct kvs =>
    obtain ⟨ks, h1, h2⟩ := x
    exact ⟨ks, e.trans h1, RepK.le h.rd kvs ks h2⟩
  | dcT kvs =>
    obtain ⟨ks, h1, h2⟩ := x
    exact ⟨ks, e.trans h1, RepT.le h.rd kvs ks h2⟩
theorem ClOk.some {a : Addr} {c : Cl} (x : ClOk K F H a c) : ∃ o, H a = some o := by
  cases c with
  | lst ds => obtain ⟨vs, h1, _⟩ := x; exact ⟨_, h1⟩
  | dct kvs => obtain ⟨ks, h1, _⟩ := x; exact ⟨_, h1⟩
  | dcT kvs => obtain ⟨ks, h1, _⟩ := x; exact ⟨_, h1⟩
theorem SlOk.grow {o : Option V} {s : Sl} (h : SubH F F') (k : ∀ a, s.isOwn = true → o = some (.ref a) → F' a = none ∧ H' a = H a) (x : SlOk K mg P F H o s) : SlOk K mg P F' H' o s := by
  cases s with
  | emp => trivial
  | val d => obtain ⟨v, e, r⟩ := x; exact ⟨v, e, Rep.le h.rd d v r⟩
  | own c =>
    obtain ⟨a, e, _, h2, h3⟩ := x
    obtain ⟨k1, k2⟩ := k a rfl e
    exact ⟨a, e, k1, h2, h3.le h k2⟩
  | ref c =>
    obtain ⟨a, e, _, h2, h3⟩ := x
    obtain ⟨k1, k2⟩ := k a rfl e
    exact ⟨a, e, k1, h2, h3.le h k2⟩
  | fn y => exact x
theorem getD_of {i : Nat} {v : V} (e : σ[i]? = some (some v)) : σ.getD i none = some v := by
  simp [List.getD, e]
theorem of_getD {i : Nat} {v : V} (e : σ.getD i none = some v) : σ[i]? = some (some v) := by
  cases q : σ[i]? with
  | none => simp [List.getD, q] at e
  | some o => simp [List.getD, q] at e; rw [e]
theorem Stt.owned (st : Stt K mg P F H σ ρ) {i : Nat} {a : Addr} (o : Owns σ ρ i a) : F a = none ∧ P.H a = none ∧ ∃ u, H a = some u := by
  obtain ⟨⟨s, e, w⟩, q⟩ := o
  have x := st.sl i s e
  cases s with
  | own c =>
    obtain ⟨b, e1, h1, h2, h3⟩ := x
    rw [getD_of q] at e1; cases e1
    exact ⟨h1, h2, h3.some⟩
  | ref c =>
    obtain ⟨b, e1, h1, h2, h3⟩ := x
    rw [getD_of q] at e1; cases e1
    exact ⟨h1, h2, h3.some⟩
  | emp => cases w
  | val d => cases w
  | fn x => cases w
/-- the frozen part and the heap grow; what is owned or protected is as it was -/
theorem Stt.grow (st : Stt K mg P F H σ ρ) (h : SubH F F') (hs : SubH F' H') (kp : ∀ p o, P.H p = some o → H' p = some o ∧ F' p = none) (ko : ∀ i a, Owns σ ρ i a → F' a = none ∧ H' a = H a) : Stt K mg P F' H' σ ρ where
  sub := hs
  keep := kp
  len := st.len
  sl := fun i s e => (st.sl i s e).grow h fun a w q => ko i a ⟨⟨s, e, w⟩, of_getD q⟩
  apart := st.apart
  pin := st.pin
theorem Stt.fresh (st : Stt K mg P F H σ ρ) {p : Addr} (n : H p = none) : F p = none ∧ P.H p = none ∧ ∀ i, ¬ Owns σ ρ i p := by
  refine ⟨st.sub.none n, ?_, fun i o => ?_⟩
  · cases e : P.H p with
    | none => rfl
    | some o => rw [(st.keep p o e).1] at n; cases n
  · obtain ⟨_, _, u, e⟩ := st.owned o
    rw [e] at n; cases n
theorem Stt.alloc (st : Stt K mg P F H σ ρ) {p : Addr} {o : HO} (n : H p = none) : Stt K mg P F (upd H p o) σ ρ := by
  obtain ⟨_, h2, h3⟩ := st.fresh n
  refine st.grow (SubH.refl F) (st.sub.trans (SubH.upd n)) (fun q u e => ?_) fun i a w => ?_
  · obtain ⟨k1, k2⟩ := st.keep q u e
    exact ⟨SubH.upd n q u k1, k2⟩
  · obtain ⟨k1, _, _⟩ := st.owned w
    exact ⟨k1, upd_ne fun z => h3 i (z ▸ w)⟩
theorem Stt.allocF (st : Stt K mg P F H σ ρ) {p : Addr} {o : HO} (n : H p = none) : Stt K mg P (upd F p o) (upd H p o) σ ρ ∧ SubH F (upd F p o) := by
  obtain ⟨h1, h2, h3⟩ := st.fresh n
  refine ⟨st.grow (SubH.upd h1) (fun q u e => ?_) (fun q u e => ?_) fun i a w => ?_, SubH.upd h1⟩
  · by_cases hq : q = p
    · subst hq; rw [upd_same] at e ⊢; exact e
    · rw [upd_ne hq] at e ⊢; exact st.sub q u e
  · obtain ⟨k1, k2⟩ := st.keep q u e
    have hq : q ≠ p := ne_of_none k1 n
    exact ⟨by rw [upd_ne hq]; exact k1, by rw [upd_ne hq]; exact k2⟩
  · obtain ⟨k1, _, _⟩ := st.owned w
    have ha : a ≠ p := fun z => h3 i (z ▸ w)
    exact ⟨by rw [upd_ne ha]; exact k1, upd_ne ha⟩
/-- an owned object that stands in no slot becomes a datum -/
theorem Stt.freeze (st : Stt K mg P F H σ ρ) {v : V} {s : Sl} {d : D} (x : OutOk K mg P F H σ ρ v s) (e : s.frz = some d) : ∃ F', SubH F F' ∧ Stt K mg P F' H σ ρ ∧ Rep K F' d v := by
  cases s with
  | val d' =>
    cases e
    obtain ⟨u, e1, r⟩ := x.sl
    cases e1
    exact ⟨F, SubH.refl F, st, r⟩
  | own c =>
    cases e
    obtain ⟨a, e1, h1, h2, h3⟩ := x.sl
    cases e1
    obtain ⟨u, hu⟩ := h3.some
    have sb : SubH F (upd F a u) := SubH.upd h1
    refine ⟨upd F a u, sb, st.grow sb (fun q o e => ?_) (fun q o e => ?_) fun i b w => ?_, ?_⟩
    · by_cases hq : q = a
      · subst hq; rw [upd_same] at e; rw [hu]; exact e
      · rw [upd_ne hq] at e; exact st.sub q o e
    · obtain ⟨k1, k2⟩ := st.keep q o e
      have hq : q ≠ a := fun z => by subst z; rw [h2] at e; cases e
      exact ⟨k1, by rw [upd_ne hq]; exact k2⟩
    · obtain ⟨k1, _, _⟩ := st.owned w
      have hb : b ≠ a := fun z => x.free rfl i a rfl (z ▸ w)
      exact ⟨by rw [upd_ne hb]; exact k1, rfl⟩
    · cases c with
      | lst ds =>
        obtain ⟨vs, h4, h5⟩ := h3
        rw [hu] at h4; cases h4
        show Rep K _ (.list ds) _
        unfold Rep
        exact ⟨a, vs, rfl, .inl (.inl upd_same), RepL.le sb.rd ds vs h5⟩
      | dct kvs =>
        show Rep K _ (.dict kvs) _
        unfold Rep
        obtain ⟨ks, h4, h5⟩ := h3
        rw [hu] at h4; cases h4
        exact ⟨a, ks, rfl, upd_same, RepK.le sb.rd kvs ks h5⟩
      | dcT kvs =>
        show Rep K _ (.dictT kvs) _
        unfold Rep
        obtain ⟨ks, h4, h5⟩ := h3
        rw [hu] at h4; cases h4
        exact ⟨a, ks, rfl, upd_same, RepT.le sb.rd kvs ks h5⟩
  | emp => cases e
  | ref c => cases e
  | fn x => cases e
theorem OutOk.val {v : V} {d : D} (r : Rep K F d v) : OutOk K mg P F H σ ρ v (.val d) := ⟨⟨v, rfl, r⟩, (by intro z; cases z), rfl, (fun z => by cases z)⟩
theorem OutOk.rep {v : V} {d : D} (x : OutOk K mg P F H σ ρ v (.val d)) : Rep K F d v := by
  obtain ⟨u, e, r⟩ := x.sl
  cases e; exact r
/-- a new list -/
theorem OutOk.newL {p : Addr} {vs : List V} {ds : List D} (st : Stt K mg P F H σ ρ) (n : H p = none) (r : RepL K F ds vs) : OutOk K mg P F (upd H p (.lst vs)) σ ρ (.ref p) (.own (.lst ds)) := by
  obtain ⟨h1, h2, h3⟩ := st.fresh n
  refine ⟨⟨p, rfl, h1, h2, vs, upd_same, r⟩, (by intro z; cases z), rfl, fun _ i a e w => ?_⟩
  cases e
  exact h3 i w

/-! ### what is wanted behind a result -/
def RepF (K : PySem.W.Frag) (F : Hp) (fs : List (Str × D)) (vs : List (Str × V)) : Prop := ∀ f d, fs.lookup f = some d → ∃ v, vs.lookup f = some v ∧ Rep K F d v
theorem RepF.le {fs : List (Str × D)} {vs : List (Str × V)} (h : SubH F F') (x : RepF K F fs vs) : RepF K F' fs vs := fun f d e => by
  obtain ⟨v, e1, r⟩ := x f d e
  exact ⟨v, e1, Rep.le h.rd d v r⟩
def ExcOk (K : PySem.W.Frag) (mg : Str → Option Value) (F : Hp) (C dd : Addr) (c : Str) (fs : List (Str × D)) : Prop := mg c = some (.ref C) ∧ ∃ vs, F dd = some (.xd vs) ∧ RepF K F fs vs
def Kont (K : PySem.W.Frag) (mg : Str → Option Value) (P : Prot) (F : Hp) (σ : SS) (ρ : Env) (o : Sl) (Q : VK) : Prop := ∀ F' H' v, SubH F F' → Stt K mg P F' H' σ ρ → OutOk K mg P F' H' σ ρ v o → Q v H'
def KontX (K : PySem.W.Frag) (mg : Str → Option Value) (P : Prot) (F : Hp) (σ : SS) (ρ : Env) (c : Str) (fs : List (Str × D)) (W : XK) : Prop := ∀ F' H' C dd, SubH F F' → Stt K mg P F' H' σ ρ → ExcOk K mg F' C dd c fs → W (.ref C) (some dd) H'
theorem Kont.le {o : Sl} {Q : VK} (h : SubH F F') (k : Kont K mg P F σ ρ o Q) : Kont K mg P F' σ ρ o Q := fun G H' v s => k G H' v (h.trans s)
theorem KontX.le {c : Str} {fs : List (Str × D)} {Q : XK} (h : SubH F F') (k : KontX K mg P F σ ρ c fs Q) : KontX K mg P F' σ ρ c fs Q := fun G H' C dd s => k G H' C dd (h.trans s)
def Post (K : PySem.W.Frag) (mg : Str → Option Value) (W : WX) (P : Prot) (F : Hp) (σ : SS) (r : R) (Q : VK) : Prop := match r with
  | .bad => False
  | .ok o ρ => Kont K mg P F σ ρ o Q
  | .exc c fs ρ => KontX K mg P F σ ρ c fs fun C d H' => W C d σ H'
theorem Post.le {W : WX} {r : R} {Q : VK} (h : SubH F F') (k : Post K mg W P F σ r Q) : Post K mg W P F' σ r Q := by
  cases r with
  | bad => exact k
  | ok o ρ => exact Kont.le h k
  | exc c fs ρ => exact fun G H' C dd s => k G H' C dd (h.trans s)
def DE (K : PySem.W.Frag) (mg : Str → Option Value) (W : WX) (t : TE) (f : EX) : Prop := ∀ P F H σ ρ Q, Stt K mg P F H σ ρ → Post K mg W P F σ (f ρ) Q → t σ H Q
theorem DE.bind {W : WX} {ta : TE} {fa : EX} {k : Sl → Env → R} {Q G : VK} (ha : DE K mg W ta fa) (st : Stt K mg P F H σ ρ) (h : Post K mg W P F σ ((fa ρ).bind k) Q)
    (hk : ∀ F1 H1 o ρ1 v, SubH F F1 → Stt K mg P F1 H1 σ ρ1 → OutOk K mg P F1 H1 σ ρ1 v o → Post K mg W P F1 σ (k o ρ1) Q → G v H1) : ta σ H G := by
  refine ha P F H σ ρ G st ?_
  cases e : fa ρ with
  | bad => rw [e] at h; exact h
  | ok o ρ1 =>
    rw [e] at h
    intro F1 H1 v sb st1 x
    exact hk F1 H1 o ρ1 v sb st1 x (Post.le sb h)
  | exc c fs ρ1 => rw [e] at h; exact h
theorem DE.bindV {W : WX} {ta : TE} {fa : EX} {k : D → Env → R} {Q G : VK} (ha : DE K mg W ta fa) (st : Stt K mg P F H σ ρ) (h : Post K mg W P F σ ((fa ρ).bindV k) Q)
    (hk : ∀ F1 H1 d ρ1 v, SubH F F1 → Stt K mg P F1 H1 σ ρ1 → Rep K F1 d v → Post K mg W P F1 σ (k d ρ1) Q → G v H1) : ta σ H G := by
  refine ha P F H σ ρ G st ?_
  cases e : fa ρ with
  | bad => rw [e] at h; exact h
  | ok o ρ1 =>
    rw [e] at h
    intro F1 H1 v sb st1 x
    cases z : o.frz with
    | none => simp only [R.bindV, z] at h; exact h.elim
    | some d =>
      simp only [R.bindV, z] at h
      obtain ⟨F2, sb2, st2, r⟩ := st1.freeze x z
      exact hk F2 H1 d ρ1 v (sb.trans sb2) st2 r (Post.le (sb.trans sb2) h)
  | exc c fs ρ1 => rw [e] at h; exact h
end

/-- an expression and its meaning by data -/
structure PD (X : Cx) (W : WX) (e : Expr) (f : EX) : Prop where
  ex : ∃ t, PE X e t ∧ DE X.K X.mg W t f
/-! ### names, constants -/
def eVar (i : Nat) : EX := fun ρ => match ρ[i]? with
  | some (.val d) => .ok (.val d) ρ
  | some (.fn x) => .ok (.fn x) ρ
  | _ => .bad
/-- the slot's own object is handed on: the slot is empty from then on -/
def eMove (i : Nat) : EX := fun ρ => match ρ[i]? with
  | some (.own c) => .ok (.own c) (ρ.set i .emp)
  | _ => .bad
def eC (d : D) : EX := fun ρ => .ok (.val d) ρ
section
variable {K : PySem.W.Frag} {mg : Str → Option Value} {W : WX}
theorem de_var (i : Nat) : DE K mg W (tVar i) (eVar i) := by
  intro P F H σ ρ Q st h
  unfold eVar at h
  cases e : ρ[i]? with
  | none => simp only [e] at h; exact h.elim
  | some s =>
    have x := st.sl i s e
    cases s with
    | val d =>
      simp only [e] at h
      obtain ⟨v, e1, r⟩ := x
      exact ⟨v, of_getD e1, h F H v (SubH.refl F) st (OutOk.val r)⟩
    | fn y =>
      simp only [e] at h
      obtain ⟨a, e1, r⟩ := x
      exact ⟨.ref a, of_getD e1, h F H (.ref a) (SubH.refl F) st ⟨⟨a, rfl, r⟩, (by intro z; cases z), rfl, (fun z => by cases z)⟩⟩
    | emp => simp only [e] at h; exact h.elim
    | own c => simp only [e] at h; exact h.elim
    | ref c => simp only [e] at h; exact h.elim
theorem Owns.of_set {σ : SS} {ρ : Env} {i j : Nat} {a : Addr} (o : Owns σ (ρ.set i .emp) j a) : Owns σ ρ j a ∧ j ≠ i := by
  obtain ⟨⟨s, e, w⟩, q⟩ := o
  by_cases h : i = j
  · subst h
    by_cases hl : i < ρ.length
    · rw [List.getElem?_set_self hl] at e; cases e; cases w
    · rw [List.getElem?_eq_none (by simpa using hl)] at e; cases e
  · rw [List.getElem?_set_ne h] at e
    exact ⟨⟨⟨s, e, w⟩, q⟩, fun z => h z.symm⟩
theorem Stt.drop {P : Prot} {F H : Hp} {σ : SS} {ρ : Env} (st : Stt K mg P F H σ ρ) (i : Nat) (hi : ∀ s, ρ[i]? = some s → s.isRef = false) : Stt K mg P F H σ (ρ.set i .emp) where
  sub := st.sub
  keep := st.keep
  len := by rw [List.length_set]; exact st.len
  sl := fun j s e => by
    by_cases h : i = j
    · subst h
      by_cases hl : i < ρ.length
      · rw [List.getElem?_set_self hl] at e; cases e; trivial
      · rw [List.getElem?_eq_none (by simpa using hl)] at e; cases e
    · rw [List.getElem?_set_ne h] at e; exact st.sl j s e
  apart := fun j k a o1 o2 => st.apart j k a o1.of_set.1 o2.of_set.1
  pin := fun j v e => by
    obtain ⟨h1, s, h2, h3⟩ := st.pin j v e
    refine ⟨h1, s, ?_, h3⟩
    by_cases h : i = j
    · subst h
      rw [hi s h2] at h3; cases h3
    · rw [List.getElem?_set_ne h]; exact h2
theorem de_move (i : Nat) : DE K mg W (tVar i) (eMove i) := by
  intro P F H σ ρ Q st h
  unfold eMove at h
  cases e : ρ[i]? with
  | none => simp only [e] at h; exact h.elim
  | some s =>
    have x := st.sl i s e
    cases s with
    | own c =>
      simp only [e] at h
      obtain ⟨a, e1, h1, h2, h3⟩ := x
      have q := of_getD e1
      refine ⟨.ref a, q, h F H (.ref a) (SubH.refl F) (st.drop i fun s z => ?_) ⟨⟨a, rfl, h1, h2, h3⟩, (by intro z; cases z), rfl, fun _ j b eb o => ?_⟩⟩
      · rw [e] at z; cases z; rfl
      · cases eb
        obtain ⟨o1, ne⟩ := o.of_set
        exact ne (st.apart j i a o1 ⟨⟨_, e, rfl⟩, q⟩)
    | fn y => simp only [e] at h; exact h.elim
    | emp => simp only [e] at h; exact h.elim
    | val d => simp only [e] at h; exact h.elim
    | ref c => simp only [e] at h; exact h.elim
theorem de_c {d : D} {v : V} (r : ∀ F, Rep K F d v) : DE K mg W (tC v) (eC d) := fun P F H σ ρ Q st h => h F H v (SubH.refl F) st (OutOk.val (r F))
end
section
variable {X : Cx} {W : WX}
theorem pd_var (i : Nat) {x : Str} {pos : Pos} (hN : X.N[i]? = some x := by rfl) (hv : Vis X.env.scope x := by first | exact Or.inl rfl | exact Or.inr (Or.inl rfl) | exact Or.inr (Or.inr rfl)) (hd : (x == ("__debug__" : Str)) = false := by decide)
    (hcd : (x == ("__classdict__" : Str)) = false := by decide) : PD X W (.Name x pos) (eVar i) := ⟨_, pe_var hN hv hd hcd, de_var i⟩
theorem pd_move (i : Nat) {x : Str} {pos : Pos} (hN : X.N[i]? = some x := by rfl) (hv : Vis X.env.scope x := by first | exact Or.inl rfl | exact Or.inr (Or.inl rfl) | exact Or.inr (Or.inr rfl)) (hd : (x == ("__debug__" : Str)) = false := by decide)
    (hcd : (x == ("__classdict__" : Str)) = false := by decide) : PD X W (.Name x pos) (eMove i) := ⟨_, pe_var hN hv hd hcd, de_move i⟩
theorem pd_int {i : Int} {j : Nat} {pos : Pos} : PD X W (.Constant (.int i) j pos) (eC (.int i)) := ⟨_, pe_int, de_c fun F => by unfold Rep; rfl⟩
theorem pd_bl {b : Bool} {j : Nat} {pos : Pos} : PD X W (.Constant (.bool b) j pos) (eC (.bool b)) := ⟨_, pe_bl, de_c fun F => by unfold Rep; rfl⟩
theorem pd_non {j : Nat} {pos : Pos} : PD X W (.Constant .none j pos) (eC .none) := ⟨_, pe_non, de_c fun F => by unfold Rep; rfl⟩
theorem pd_str {x : Str} {j : Nat} {pos : Pos} : PD X W (.Constant (.str x) j pos) (eC (.str x)) := ⟨_, pe_str, de_c fun F => by unfold Rep; rfl⟩
end

/-! ### operators by data -/
def rOf2 (K : PySem.W.Frag) (mg : Str → Option Value) (g : D → D → Option Sl) : R2 := fun x y H Q => ∃ P F σ ρ d e o, Stt K mg P F H σ ρ ∧ Rep K F d x ∧ Rep K F e y ∧ g d e = some o ∧ Kont K mg P F σ ρ o Q
def eOp (g : D → D → Option Sl) (fa fb : EX) : EX := fun ρ => (fa ρ).bindV fun d ρ1 => (fb ρ1).bindV fun e ρ2 => match g d.un e.un with
  | some o => .ok o ρ2
  | none => .bad
theorem de_op {K : PySem.W.Frag} {mg : Str → Option Value} {W : WX} {ta tb : TE} {fa fb : EX} {g : D → D → Option Sl} (ha : DE K mg W ta fa) (hb : DE K mg W tb fb) : DE K mg W (tOp (rOf2 K mg g) ta tb) (eOp g fa fb) := by
  intro P F H σ ρ Q st h
  refine ha.bindV st h fun F1 H1 d ρ1 v sb st1 r1 h1 => ?_
  refine hb.bindV st1 h1 fun F2 H2 e ρ2 u sb2 st2 r2 h2 => ?_
  cases z : g d.un e.un with
  | none => simp only [z] at h2; exact h2.elim
  | some o =>
    simp only [z] at h2
    exact ⟨P, F2, σ, ρ2, d.un, e.un, o, st2, (Rep.le sb2.rd d v r1).un, r2.un, z, h2⟩
theorem pd_op {X : Cx} {W : WX} {a b : Expr} {op : Operator} {pos : Pos} {fa fb : EX} {g : D → D → Option Sl} (ho : OpR X (binaryOp op) (rOf2 X.K X.mg g)) (ha : PD X W a fa) (hb : PD X W b fb) : PD X W (.BinOp a op b pos) (eOp g fa fb) := by
  obtain ⟨ta, pa, da⟩ := ha.ex
  obtain ⟨tb, pb, db⟩ := hb.ex
  exact ⟨_, pe_op ho pa pb, de_op da db⟩
theorem pd_cmp {X : Cx} {W : WX} {a b : Expr} {op : CmpOp} {pos : Pos} {fa fb : EX} {g : D → D → Option Sl} (ho : OpR X (compareOp op) (rOf2 X.K X.mg g)) (ha : PD X W a fa) (hb : PD X W b fb) (hm : behindInMarks op b = false := by rfl) : PD X W (.Compare a [op] [b] pos) (eOp g fa fb) := by
  obtain ⟨ta, pa, da⟩ := ha.ex
  obtain ⟨tb, pb, db⟩ := hb.ex
  exact ⟨_, pe_cmpR ho pa pb hm, de_op da db⟩
def rOf1 (K : PySem.W.Frag) (mg : Str → Option Value) (g : D → Option Sl) : V → Hp → VK → Prop := fun x H Q => ∃ P F σ ρ d o, Stt K mg P F H σ ρ ∧ Rep K F d x ∧ g d = some o ∧ Kont K mg P F σ ρ o Q
def eUn (g : D → Option Sl) (fa : EX) : EX := fun ρ => (fa ρ).bindV fun d ρ1 => match g d.un with
  | some o => .ok o ρ1
  | none => .bad
theorem de_un {K : PySem.W.Frag} {mg : Str → Option Value} {W : WX} {ta : TE} {fa : EX} {g : D → Option Sl} (ha : DE K mg W ta fa) : DE K mg W (tUn (rOf1 K mg g) ta) (eUn g fa) := by
  intro P F H σ ρ Q st h
  refine ha.bindV st h fun F1 H1 d ρ1 v sb st1 r1 h1 => ?_
  cases z : g d.un with
  | none => simp only [z] at h1; exact h1.elim
  | some o =>
    simp only [z] at h1
    exact ⟨P, F1, σ, ρ1, d.un, o, st1, r1.un, z, h1⟩
theorem pd_un {X : Cx} {W : WX} {a : Expr} {op : UnaryOp} {pos : Pos} {fa : EX} {g : D → Option Sl} (ho : UnR X (unaryOp op) (rOf1 X.K X.mg g)) (ha : PD X W a fa) : PD X W (.UnaryOp op a pos) (eUn g fa) := by
  obtain ⟨ta, pa, da⟩ := ha.ex
  exact ⟨_, pe_un ho pa, de_un da⟩
end Dk

set_option Elab.async false
set_option linter.all false
set_option maxRecDepth 100000
set_option maxHeartbeats 4000000
/-! Dk3: operators and comparisons by data -/
namespace Dk
open PySem PySem.Spec L2
section
variable {K : PySem.W.Frag} {mg : Str → Option Value} {P : Prot} {F H : Hp} {σ : SS} {ρ : Env} {v : V}
theorem rep_int {i : Int} (r : Rep K F (.int i) v) : v = .int i := by unfold Rep at r; exact r
theorem rep_str {i : Str} (r : Rep K F (.str i) v) : v = .str i := by unfold Rep at r; exact r
theorem rep_bool {i : Bool} (r : Rep K F (.bool i) v) : v = .bl i := by unfold Rep at r; exact r
theorem rep_none (r : Rep K F .none v) : v = .non := by unfold Rep at r; exact r
theorem rep_list {ds : List D} (r : Rep K F (.list ds) v) : ∃ a vs, v = .ref a ∧ SqL K F a vs ∧ RepL K F ds vs := by unfold Rep at r; exact r
theorem rep_tup {ds : List D} (r : Rep K F (.tuple ds) v) : ∃ a vs, v = .ref a ∧ SqT K F a vs ∧ RepL K F ds vs := by unfold Rep at r; exact r
theorem mk_int {i : Int} : Rep K F (.int i) (.int i) := by unfold Rep; rfl
theorem mk_str {i : Str} : Rep K F (.str i) (.str i) := by unfold Rep; rfl
theorem mk_bool {i : Bool} : Rep K F (.bool i) (.bl i) := by unfold Rep; rfl
theorem mk_none : Rep K F .none .non := by unfold Rep; rfl
theorem mk_list {a : Addr} {vs : List V} {ds : List D} (s : SqL K F a vs) (l : RepL K F ds vs) : Rep K F (.list ds) (.ref a) := by unfold Rep; exact ⟨a, vs, rfl, s, l⟩
theorem mk_tup {a : Addr} {vs : List V} {ds : List D} (s : SqT K F a vs) (l : RepL K F ds vs) : Rep K F (.tuple ds) (.ref a) := by unfold Rep; exact ⟨a, vs, rfl, s, l⟩
/-- an end: the state as it stands, a datum -/
theorem Kont.here {Q : VK} {d : D} (k : Kont K mg P F σ ρ (.val d) Q) (st : Stt K mg P F H σ ρ) (r : Rep K F d v) : Q v H := k F H v (SubH.refl F) st (OutOk.val r)
/-- an end: a new list -/
theorem Kont.newL {Q : VK} {ds : List D} {vs : List V} (k : Kont K mg P F σ ρ (.own (.lst ds)) Q) (st : Stt K mg P F H σ ρ) (r : RepL K F ds vs) : ∀ p, H p = none → Q (.ref p) (upd H p (.lst vs)) := fun p n =>
  k F _ _ (SubH.refl F) (st.alloc n) (OutOk.newL st n r)
/-- an end: a new tuple -/
theorem Kont.newT {Q : VK} {ds : List D} {vs : List V} (k : Kont K mg P F σ ρ (.val (.tuple ds)) Q) (st : Stt K mg P F H σ ρ) (r : RepL K F ds vs) : ∀ p, H p = none → Q (.ref p) (upd H p (.tup vs)) := fun p n => by
  obtain ⟨st', sb⟩ := st.allocF (o := .tup vs) n
  exact k _ _ _ sb st' (OutOk.val (mk_tup (.inl (.inl upd_same)) (RepL.le sb.rd ds vs r)))
mutual
theorem Rep.dp (h : SubH F H) : ∀ (d : D) (v : V), d.toP.canLay0 = true → Rep K F d v → Dp K H v d.toP
  | .none, v, _, r => by rw [rep_none r]; exact .non
  | .bool b, v, _, r => by rw [rep_bool r]; exact .bl b
  | .int i, v, _, r => by rw [rep_int r]; exact .int i
  | .str x, v, _, r => by rw [rep_str r]; exact .str x
  | .list ds, v, c, r => by
    obtain ⟨a, vs, rfl, s, l⟩ := rep_list r
    exact .lst (SqL.le h.rd s) (Rep.dpL h ds vs (by simpa only [D.toP, PyData.canLay0] using c) l)
  | .tuple ds, v, c, r => by
    obtain ⟨a, vs, rfl, s, l⟩ := rep_tup r
    exact .tup (SqT.le h.rd s) (Rep.dpL h ds vs (by simpa only [D.toP, PyData.canLay0] using c) l)
  | .dict kvs, v, c, r => by simp [D.toP, PyData.canLay0] at c
  | .dictT kvs, v, c, r => by simp [D.toP, PyData.canLay0] at c
  | .tag a d, v, c, r => by
    unfold Rep at r
    exact Rep.dp h d v c r.2
theorem Rep.dpL (h : SubH F H) : ∀ (ds : List D) (vs : List V), PyData.canLayAll0 (D.toPL ds) = true → RepL K F ds vs → DpAll K H vs (D.toPL ds)
  | [], vs, _, r => by unfold RepL at r; subst r; exact .nil
  | d :: ds, vs, c, r => by
    unfold RepL at r
    obtain ⟨v, ws, rfl, r1, r2⟩ := r
    rw [D.toPL, PyData.canLayAll0, Bool.and_eq_true] at c
    exact .cons (Rep.dp h d v c.1 r1) (Rep.dpL h ds ws c.2 r2)
end
end

def mulOk (i j : Int) : Prop := (-(2 ^ 64) < i ∧ i < 2 ^ 64) ∨ (-(2 ^ 64) < j ∧ j < 2 ^ 64)
instance (i j : Int) : Decidable (mulOk i j) := by unfold mulOk; infer_instance
def mulStrOk (x : Str) (n : Int) : Prop := MulOk x n
def addD : D → D → Option Sl
  | .int i, .int j => some (.val (.int (i + j)))
  | .str a, .str b => if a.length + b.length ≤ sizeLine then some (.val (.str (a ++ b))) else none
  | .list a, .list b => if a.length + b.length ≤ sizeLine then some (.own (.lst (a ++ b))) else none
  | .tuple a, .tuple b => if a.length + b.length ≤ sizeLine then some (.val (.tuple (a ++ b))) else none
  | _, _ => none
def subD : D → D → Option Sl
  | .int i, .int j => some (.val (.int (i - j)))
  | _, _ => none
def mulD : D → D → Option Sl
  | .int i, .int j => if mulOk i j then some (.val (.int (i * j))) else none
  | .str a, .int j => if 0 ≤ j ∧ j ≤ 1000000 ∧ a.length ≤ 16 then some (.val (.str (Txt.mul a j))) else none
  | .list a, .int j => if 0 ≤ j ∧ j ≤ 1000000 ∧ a.length ≤ 16 then some (.own (.lst (List.replicate j.toNat a).flatten)) else none
  | _, _ => none
def fdivD : D → D → Option Sl
  | .int i, .int j => if j ≠ 0 ∧ j.natAbs < 1073741824 then some (.val (.int (i.fdiv j))) else none
  | _, _ => none
def modD : D → D → Option Sl
  | .int i, .int j => if j ≠ 0 then some (.val (.int (i.fmod j))) else none
  | _, _ => none
def powD : D → D → Option Sl
  | .int i, .int j => if 0 ≤ j ∧ j ≤ 1000000 ∧ i.natAbs < 2 ^ 64 then some (.val (.int (i ^ j.toNat))) else none
  | _, _ => none
def shlD : D → D → Option Sl
  | .int i, .int j => if 0 ≤ j ∧ j ≤ 1000000 ∧ i.natAbs < 2 ^ 64 then some (.val (.int (i * 2 ^ j.toNat))) else none
  | _, _ => none
def shrD : D → D → Option Sl
  | .int i, .int j => if 0 ≤ j then some (.val (.int (i / 2 ^ j.toNat))) else none
  | _, _ => none
def andD : D → D → Option Sl
  | .int i, .int j => some (.val (.int (Builtin.bitAnd i j)))
  | _, _ => none
def orD : D → D → Option Sl
  | .int i, .int j => some (.val (.int (Builtin.bitOr i j)))
  | _, _ => none
def xorD : D → D → Option Sl
  | .int i, .int j => some (.val (.int (Builtin.bitXor i j)))
  | _, _ => none
/-- == and !=: data that hold no dict -/
def eqD (d e : D) : Option Sl := if SeqAt.shaped d.toP = true ∧ SeqAt.shaped e.toP = true then some (.val (.bool (PyData.eqv d.toP e.toP))) else none
def neD (d e : D) : Option Sl := if SeqAt.shaped d.toP = true ∧ SeqAt.shaped e.toP = true then some (.val (.bool (!PyData.eqv d.toP e.toP))) else none
def ordOk (d e : D) : Prop := PySem.W.alike d.toP e.toP = true ∧ d.toP ≠ .none ∧ SeqAt.shaped d.toP = true ∧ SeqAt.shaped e.toP = true
open Classical in
noncomputable def ltD : D → D → Option Sl
  | .int i, .int j => some (.val (.bool (decide (i < j))))
  | d, e => if ordOk d e then some (.val (.bool (PySem.W.dataLt d.toP e.toP))) else none
open Classical in
noncomputable def gtD : D → D → Option Sl
  | .int i, .int j => some (.val (.bool (decide (j < i))))
  | d, e => if ordOk d e then some (.val (.bool (PySem.W.dataLt e.toP d.toP))) else none
open Classical in
noncomputable def leD : D → D → Option Sl
  | .int i, .int j => some (.val (.bool (decide (i ≤ j))))
  | d, e => if ordOk d e then some (.val (.bool (!PySem.W.dataLt e.toP d.toP))) else none
open Classical in
noncomputable def geD : D → D → Option Sl
  | .int i, .int j => some (.val (.bool (decide (j ≤ i))))
  | d, e => if ordOk d e then some (.val (.bool (!PySem.W.dataLt d.toP e.toP))) else none
def inB (d : D) : D → Option Bool
  | .list ds => if SeqAt.shaped d.toP = true ∧ SeqAt.shaped (D.list ds).toP = true then some ((D.toPL ds).any fun z => PyData.eqv z d.toP) else none
  | .tuple ds => if SeqAt.shaped d.toP = true ∧ SeqAt.shaped (D.tuple ds).toP = true then some ((D.toPL ds).any fun z => PyData.eqv z d.toP) else none
  | .str z => match d with
    | .str x => some (!(Builtin.Str.occurrences z x 0 z.length 1).isEmpty)
    | _ => none
  | _ => none
def inD (d e : D) : Option Sl := (inB d e).map fun b => .val (.bool b)
def notInD (d e : D) : Option Sl := (inB d e).map fun b => .val (.bool (!b))
def isNoneB : D → Bool
  | .none => true
  | _ => false
def isD : D → D → Option Sl
  | d, .none => some (.val (.bool (isNoneB d)))
  | .bool a, .bool b => some (.val (.bool (decide (a = b))))
  | _, _ => none
def isNotD : D → D → Option Sl
  | d, .none => some (.val (.bool (!isNoneB d)))
  | .bool a, .bool b => some (.val (.bool (!decide (a = b))))
  | _, _ => none
def negD : D → Option Sl
  | .int i => some (.val (.int (-i)))
  | _ => none

section
variable {X : Cx}
theorem op_catG {pins : List (Addr × Obj)} {σ : SS} {H : Hp} {s : Shared} {l b : Addr} {xs zs : List V} {Q : VK} (I : Inv X pins σ H s) (h1 : SqL X.K H l xs) (h2 : SqL X.K H b zs) (hz : xs.length + zs.length ≤ sizeLine)
    (q : ∀ p, H p = none → Q (.ref p) (upd H p (.lst (xs ++ zs)))) : wpAny (model X.prog X.w) X.A (binaryOp .Add (.ref l) (.ref b)) (EP X pins σ Q) X.xe s := by
  obtain ⟨its, r, ⟨⟨cls, dd, data, sl⟩, n, e, hc, hd, hs⟩, z⟩ := I.list h1
  obtain ⟨its2, r2, ⟨⟨cls2, dd2, data2, sl2⟩, n2, e2, hc2, hd2, hs2⟩, z2⟩ := I.list h2
  simp only at hc hd hs hc2 hd2 hs2
  subst hc hd hs hc2 hd2 hs2
  have l1 := r.length
  have l2 := r2.length
  refine concat_meets ⟨_, e, rfl⟩ ⟨_, e2, rfl⟩ noFill_list_add seq_list_add PySem.F.slot_list_add PySem.F.entry_list_add (PySem.F.args_list_add_2 _ _) (PyProof.Rows.list_addW l b its.toArray its2.toArray n n2 none none sl sl2 (by rw [List.size_toArray, List.size_toArray]; omega)) ⟨e, e2, ?_⟩
  have ea : its.toArray ++ its2.toArray = (its ++ its2).toArray := by simp
  rw [ea]
  exact ⟨.ref _, _, I.lnew (t' := s.toks) (r.append r2) (by rw [List.length_append]; omega), rfl, q _ I.fresh⟩
theorem oadd : OpR X (binaryOp .Add) (rOf2 X.K X.mg addD) := by
  intro pins s σ H x y v u Q I rx ry h
  obtain ⟨P, F, σ', ρ, d, e, o, st, r1, r2, hg, k⟩ := h
  unfold addD at hg
  split at hg
  · cases hg
    rw [rep_int r1] at rx; rw [rep_int r2] at ry
    exact op_add pins s σ H _ _ v u Q I rx ry ⟨_, _, rfl, rfl, k.here st mk_int⟩
  · split at hg
    · rename_i hz
      cases hg
      rw [rep_str r1] at rx; rw [rep_str r2] at ry
      exact op_add_str pins s σ H _ _ v u Q I rx ry ⟨_, _, rfl, rfl, hz, k.here st mk_str⟩
    · cases hg
  · split at hg
    · rename_i hz
      cases hg
      obtain ⟨a, vs, rfl, s1, l1⟩ := rep_list r1
      obtain ⟨b, ws, rfl, s2, l2⟩ := rep_list r2
      cases rx; cases ry
      exact op_catG I (SqL.le st.sub.rd s1) (SqL.le st.sub.rd s2) (by rw [l1.length, l2.length]; exact hz) (k.newL st (l1.append l2))
    · cases hg
  · split at hg
    · rename_i as bs hz
      cases hg
      obtain ⟨a, vs, rfl, s1, l1⟩ := rep_tup r1
      obtain ⟨b, ws, rfl, s2, l2⟩ := rep_tup r2
      refine op_catA pins s σ H _ _ v u Q I rx ry ⟨a, b, vs, ws, rfl, rfl, SqT.le st.sub.rd s1, SqT.le st.sub.rd s2, by rw [l1.length, l2.length]; exact hz, fun e => ?_, fun _ e => ?_, fun _ _ => k.newT st (l1.append l2)⟩
      · subst e
        have ea : as = [] := by have := l1.length; cases as with | nil => rfl | cons _ _ => simp at this
        subst ea
        exact k.here st (mk_tup s2 l2)
      · subst e
        have ea : bs = [] := by have := l2.length; cases bs with | nil => rfl | cons _ _ => simp at this
        subst ea
        rw [List.append_nil] at k
        exact k.here st (mk_tup s1 l1)
    · cases hg
  · cases hg
theorem osub : OpR X (binaryOp .Sub) (rOf2 X.K X.mg subD) := by
  intro pins s σ H x y v u Q I rx ry h
  obtain ⟨P, F, σ', ρ, d, e, o, st, r1, r2, hg, k⟩ := h
  unfold subD at hg
  split at hg
  · cases hg
    rw [rep_int r1] at rx; rw [rep_int r2] at ry
    exact op_sub pins s σ H _ _ v u Q I rx ry ⟨_, _, rfl, rfl, k.here st mk_int⟩
  · cases hg
theorem opI_of {op : Operator} {C : Int → Int → Prop} {g : Int → Int → Int} {gD : D → D → Option Sl} (ho : OpR X (binaryOp op) (rI C fun i j => .int (g i j))) (hg : ∀ d e o, gD d e = some o → ∃ i j, d = .int i ∧ e = .int j ∧ C i j ∧ o = .val (.int (g i j))) :
    OpR X (binaryOp op) (rOf2 X.K X.mg gD) := by
  intro pins s σ H x y v u Q I rx ry h
  obtain ⟨P, F, σ', ρ, d, e, o, st, r1, r2, hgd, k⟩ := h
  obtain ⟨i, j, rfl, rfl, hC, rfl⟩ := hg d e o hgd
  rw [rep_int r1] at rx; rw [rep_int r2] at ry
  exact ho pins s σ H _ _ v u Q I rx ry ⟨i, j, rfl, rfl, hC, k.here st mk_int⟩
theorem opI0_of {op : Operator} {g : Int → Int → Int} {gD : D → D → Option Sl} (ho : OpR X (binaryOp op) (rI0 fun i j => .int (g i j))) (hg : ∀ d e o, gD d e = some o → ∃ i j, d = .int i ∧ e = .int j ∧ o = .val (.int (g i j))) :
    OpR X (binaryOp op) (rOf2 X.K X.mg gD) := by
  intro pins s σ H x y v u Q I rx ry h
  obtain ⟨P, F, σ', ρ, d, e, o, st, r1, r2, hgd, k⟩ := h
  obtain ⟨i, j, rfl, rfl, rfl⟩ := hg d e o hgd
  rw [rep_int r1] at rx; rw [rep_int r2] at ry
  exact ho pins s σ H _ _ v u Q I rx ry ⟨i, j, rfl, rfl, k.here st mk_int⟩
theorem ofdiv : OpR X (binaryOp .FloorDiv) (rOf2 X.K X.mg fdivD) := opI_of op_fdivN fun d e o h => by
  unfold fdivD at h
  split at h
  · split at h
    · rename_i hc; cases h; exact ⟨_, _, rfl, rfl, hc, rfl⟩
    · cases h
  · cases h
theorem omod : OpR X (binaryOp .Mod) (rOf2 X.K X.mg modD) := opI_of op_modN fun d e o h => by
  unfold modD at h
  split at h
  · split at h
    · rename_i hc; cases h; exact ⟨_, _, rfl, rfl, hc, rfl⟩
    · cases h
  · cases h
theorem opow : OpR X (binaryOp .Pow) (rOf2 X.K X.mg powD) := opI_of op_pow fun d e o h => by
  unfold powD at h
  split at h
  · split at h
    · rename_i hc; cases h; exact ⟨_, _, rfl, rfl, hc, rfl⟩
    · cases h
  · cases h
theorem oshl : OpR X (binaryOp .LShift) (rOf2 X.K X.mg shlD) := opI_of op_shl fun d e o h => by
  unfold shlD at h
  split at h
  · split at h
    · rename_i hc; cases h; exact ⟨_, _, rfl, rfl, hc, rfl⟩
    · cases h
  · cases h
theorem oshr : OpR X (binaryOp .RShift) (rOf2 X.K X.mg shrD) := opI_of op_shr fun d e o h => by
  unfold shrD at h
  split at h
  · split at h
    · rename_i hc; cases h; exact ⟨_, _, rfl, rfl, hc, rfl⟩
    · cases h
  · cases h
theorem oand : OpR X (binaryOp .BitAnd) (rOf2 X.K X.mg andD) := opI0_of op_and fun d e o h => by
  unfold andD at h
  split at h
  · cases h; exact ⟨_, _, rfl, rfl, rfl⟩
  · cases h
theorem oor : OpR X (binaryOp .BitOr) (rOf2 X.K X.mg orD) := opI0_of op_or fun d e o h => by
  unfold orD at h
  split at h
  · cases h; exact ⟨_, _, rfl, rfl, rfl⟩
  · cases h
theorem oxor : OpR X (binaryOp .BitXor) (rOf2 X.K X.mg xorD) := opI0_of op_xor fun d e o h => by
  unfold xorD at h
  split at h
  · cases h; exact ⟨_, _, rfl, rfl, rfl⟩
  · cases h
/-- a comparison that leaves the state, by what its values read as -/
theorem cmp_of {op : CmpOp} {gD : D → D → Option Sl}
    (ho : ∀ (pins : List (Addr × Obj)) (s : Shared) (σ : SS) (H F : Hp) (x y : V) (v u : Value) (d e : D) (o : Sl) (Q : VK), Inv X pins σ H s → RelV x v → RelV y u → SubH F H → Rep X.K F d x → Rep X.K F e y → gD d e = some o →
      ∃ b, o = .val (.bool b) ∧ (Q (.bl b) H → wpAny (model X.prog X.w) X.A (compareOp op v u) (EP X pins σ Q) X.xe s)) : OpR X (compareOp op) (rOf2 X.K X.mg gD) := by
  intro pins s σ H x y v u Q I rx ry h
  obtain ⟨P, F, σ', ρ, d, e, o, st, r1, r2, hgd, k⟩ := h
  obtain ⟨b, rfl, z⟩ := ho pins s σ H F x y v u d e o Q I rx ry st.sub r1 r2 hgd
  exact z (k.here st mk_bool)
theorem oeq (hu : X.A.units + 64 < cLine) : OpR X (compareOp .Eq) (rOf2 X.K X.mg eqD) := cmp_of fun pins s σ H F x y v u d e o Q I rx ry sb r1 r2 hg => by
  unfold eqD at hg
  split at hg
  · rename_i hc
    cases hg
    exact ⟨_, rfl, fun q => op_eqD hu pins s σ H x y v u Q I rx ry ⟨d.toP, e.toP, Rep.dp sb d x (SeqAt.canLay_of_shaped hc.1) r1, Rep.dp sb e y (SeqAt.canLay_of_shaped hc.2) r2, hc.1, hc.2, q⟩⟩
  · cases hg
theorem one_ (hu : X.A.units + 64 < cLine) : OpR X (compareOp .NotEq) (rOf2 X.K X.mg neD) := cmp_of fun pins s σ H F x y v u d e o Q I rx ry sb r1 r2 hg => by
  unfold neD at hg
  split at hg
  · rename_i hc
    cases hg
    exact ⟨_, rfl, fun q => op_neD hu pins s σ H x y v u Q I rx ry ⟨d.toP, e.toP, Rep.dp sb d x (SeqAt.canLay_of_shaped hc.1) r1, Rep.dp sb e y (SeqAt.canLay_of_shaped hc.2) r2, hc.1, hc.2, q⟩⟩
  · cases hg
theorem ord_room {d e : D} (hu : X.A.units + 64 < cLine) (hc : ordOk d e) : X.A.units + min d.toP.depth e.toP.depth < cLine := SeqAt.room_of_shaped hc.2.2.1 hu
theorem olt (hu : X.A.units + 64 < cLine) : OpR X (compareOp .Lt) (rOf2 X.K X.mg ltD) := cmp_of fun pins s σ H F x y v u d e o Q I rx ry sb r1 r2 hg => by
  unfold ltD at hg
  split at hg
  · cases hg
    rw [rep_int r1] at rx; rw [rep_int r2] at ry
    exact ⟨_, rfl, fun q => op_lt pins s σ H _ _ v u Q I rx ry ⟨_, _, rfl, rfl, q⟩⟩
  · split at hg
    · rename_i hc
      cases hg
      obtain ⟨as, q1⟩ := Dp.reads I d.toP x v (Rep.dp sb d x (SeqAt.canLay_of_shaped hc.2.2.1) r1) rx
      obtain ⟨bs, q2⟩ := Dp.reads I e.toP y u (Rep.dp sb e y (SeqAt.canLay_of_shaped hc.2.2.2) r2) ry
      exact ⟨_, rfl, fun q => PySem.W.lt_data q1 q2 hc.1 hc.2.1 (ord_room hu hc) ⟨.bl _, H, I, rfl, q⟩⟩
    · cases hg
theorem ogt (hu : X.A.units + 64 < cLine) : OpR X (compareOp .Gt) (rOf2 X.K X.mg gtD) := cmp_of fun pins s σ H F x y v u d e o Q I rx ry sb r1 r2 hg => by
  unfold gtD at hg
  split at hg
  · cases hg
    rw [rep_int r1] at rx; rw [rep_int r2] at ry
    exact ⟨_, rfl, fun q => op_gt pins s σ H _ _ v u Q I rx ry ⟨_, _, rfl, rfl, q⟩⟩
  · split at hg
    · rename_i hc
      cases hg
      obtain ⟨as, q1⟩ := Dp.reads I d.toP x v (Rep.dp sb d x (SeqAt.canLay_of_shaped hc.2.2.1) r1) rx
      obtain ⟨bs, q2⟩ := Dp.reads I e.toP y u (Rep.dp sb e y (SeqAt.canLay_of_shaped hc.2.2.2) r2) ry
      exact ⟨_, rfl, fun q => PySem.W.gt_data q1 q2 hc.1 hc.2.1 (ord_room hu hc) ⟨.bl _, H, I, rfl, q⟩⟩
    · cases hg
theorem ole (hu : X.A.units + 64 < cLine) : OpR X (compareOp .LtE) (rOf2 X.K X.mg leD) := cmp_of fun pins s σ H F x y v u d e o Q I rx ry sb r1 r2 hg => by
  unfold leD at hg
  split at hg
  · cases hg
    rw [rep_int r1] at rx; rw [rep_int r2] at ry
    exact ⟨_, rfl, fun q => op_le pins s σ H _ _ v u Q I rx ry ⟨_, _, rfl, rfl, q⟩⟩
  · split at hg
    · rename_i hc
      cases hg
      obtain ⟨as, q1⟩ := Dp.reads I d.toP x v (Rep.dp sb d x (SeqAt.canLay_of_shaped hc.2.2.1) r1) rx
      obtain ⟨bs, q2⟩ := Dp.reads I e.toP y u (Rep.dp sb e y (SeqAt.canLay_of_shaped hc.2.2.2) r2) ry
      exact ⟨_, rfl, fun q => PySem.W.le_data q1 q2 hc.1 hc.2.1 (ord_room hu hc) ⟨.bl _, H, I, rfl, q⟩⟩
    · cases hg
theorem oge (hu : X.A.units + 64 < cLine) : OpR X (compareOp .GtE) (rOf2 X.K X.mg geD) := cmp_of fun pins s σ H F x y v u d e o Q I rx ry sb r1 r2 hg => by
  unfold geD at hg
  split at hg
  · cases hg
    rw [rep_int r1] at rx; rw [rep_int r2] at ry
    exact ⟨_, rfl, fun q => op_ge pins s σ H _ _ v u Q I rx ry ⟨_, _, rfl, rfl, q⟩⟩
  · split at hg
    · rename_i hc
      cases hg
      obtain ⟨as, q1⟩ := Dp.reads I d.toP x v (Rep.dp sb d x (SeqAt.canLay_of_shaped hc.2.2.1) r1) rx
      obtain ⟨bs, q2⟩ := Dp.reads I e.toP y u (Rep.dp sb e y (SeqAt.canLay_of_shaped hc.2.2.2) r2) ry
      exact ⟨_, rfl, fun q => PySem.W.ge_data q1 q2 hc.1 hc.2.1 (ord_room hu hc) ⟨.bl _, H, I, rfl, q⟩⟩
    · cases hg
theorem in_room {d : PyData} {n : Nat} (hu : X.A.units + 65 < cLine) (hd : SeqAt.shaped d = true) : X.A.units + 1 + min n d.depth < cLine := by
  have := SeqAt.depth_of_shaped hd
  have : min n d.depth ≤ d.depth := Nat.min_le_right _ _
  omega
theorem oin (hu : X.A.units + 65 < cLine) : OpR X (compareOp .In) (rOf2 X.K X.mg inD) := cmp_of fun pins s σ H F x y v u d e o Q I rx ry sb r1 r2 hg => by
  unfold inD inB at hg
  split at hg
  · split at hg
    · rename_i hc
      cases hg
      refine ⟨_, rfl, fun q => op_inD hu pins s σ H x y v u Q I rx ry ⟨d.toP, _, Rep.dp sb d x (SeqAt.canLay_of_shaped hc.1) r1, Rep.dp sb _ y (SeqAt.canLay_of_shaped hc.2) r2, hc.1, hc.2, q⟩⟩
    · cases hg
  · split at hg
    · rename_i hc
      cases hg
      obtain ⟨as, q1⟩ := Dp.reads I d.toP x v (Rep.dp sb d x (SeqAt.canLay_of_shaped hc.1) r1) rx
      obtain ⟨bs, q2⟩ := Dp.reads I _ y u (Rep.dp sb _ y (SeqAt.canLay_of_shaped hc.2) r2) ry
      exact ⟨_, rfl, fun q => SeqAt.in_tuple_reads q2 q1 (by simpa only [D.toP, PyData.canLay0] using SeqAt.canLay_of_shaped hc.2) (SeqAt.canLay_of_shaped hc.1) (in_room hu hc.1) ⟨.bl _, H, I, rfl, q⟩⟩
    · cases hg
  · split at hg
    · cases hg
      rw [rep_str r1] at rx; rw [rep_str r2] at ry
      exact ⟨_, rfl, fun q => op_in_str pins s σ H _ _ v u Q I rx ry ⟨_, _, rfl, rfl, q⟩⟩
    · cases hg
  · cases hg
theorem onotIn (hu : X.A.units + 65 < cLine) : OpR X (compareOp .NotIn) (rOf2 X.K X.mg notInD) := cmp_of fun pins s σ H F x y v u d e o Q I rx ry sb r1 r2 hg => by
  unfold notInD inB at hg
  split at hg
  · split at hg
    · rename_i hc
      cases hg
      refine ⟨_, rfl, fun q => op_notInD hu pins s σ H x y v u Q I rx ry ⟨d.toP, _, Rep.dp sb d x (SeqAt.canLay_of_shaped hc.1) r1, Rep.dp sb _ y (SeqAt.canLay_of_shaped hc.2) r2, hc.1, hc.2, q⟩⟩
    · cases hg
  · split at hg
    · rename_i hc
      cases hg
      obtain ⟨as, q1⟩ := Dp.reads I d.toP x v (Rep.dp sb d x (SeqAt.canLay_of_shaped hc.1) r1) rx
      obtain ⟨bs, q2⟩ := Dp.reads I _ y u (Rep.dp sb _ y (SeqAt.canLay_of_shaped hc.2) r2) ry
      exact ⟨_, rfl, fun q => SeqAt.notIn_tuple_reads q2 q1 (by simpa only [D.toP, PyData.canLay0] using SeqAt.canLay_of_shaped hc.2) (SeqAt.canLay_of_shaped hc.1) (in_room hu hc.1) ⟨.bl _, H, I, rfl, q⟩⟩
    · cases hg
  · split at hg
    · cases hg
      rw [rep_str r1] at rx; rw [rep_str r2] at ry
      exact ⟨_, rfl, fun q => op_notIn_str pins s σ H _ _ v u Q I rx ry ⟨_, _, rfl, rfl, q⟩⟩
    · cases hg
  · cases hg
theorem isNone_rep {K : PySem.W.Frag} {F : Hp} {d : D} {x : V} (r : Rep K F d x) : decide (x = .non) = isNoneB d := by
  cases d with
  | none => rw [rep_none r]; rfl
  | bool b => rw [rep_bool r]; rfl
  | int b => rw [rep_int r]; rfl
  | str b => rw [rep_str r]; rfl
  | list b => obtain ⟨a, vs, rfl, _⟩ := rep_list r; rfl
  | tuple b => obtain ⟨a, vs, rfl, _⟩ := rep_tup r; rfl
  | dict b => unfold Rep at r; obtain ⟨a, ks, rfl, _⟩ := r; rfl
  | dictT b => unfold Rep at r; obtain ⟨a, ks, rfl, _⟩ := r; rfl
  | tag a d => unfold Rep at r; obtain ⟨rfl, r⟩ := r; rfl
theorem ois : OpR X (compareOp .Is) (rOf2 X.K X.mg isD) := cmp_of fun pins s σ H F x y v u d e o Q I rx ry sb r1 r2 hg => by
  unfold isD at hg
  split at hg
  · cases hg
    rw [rep_none r2] at ry
    refine ⟨_, rfl, fun q => op_isN pins s σ H x _ v u Q I rx ry ⟨rfl, ?_⟩⟩
    rw [isNone_rep r1]; exact q
  · cases hg
    rw [rep_bool r1] at rx; rw [rep_bool r2] at ry
    exact ⟨_, rfl, fun q => op_is_bl pins s σ H _ _ v u Q I rx ry ⟨_, _, rfl, rfl, q⟩⟩
  · cases hg
theorem oisNot : OpR X (compareOp .IsNot) (rOf2 X.K X.mg isNotD) := cmp_of fun pins s σ H F x y v u d e o Q I rx ry sb r1 r2 hg => by
  unfold isNotD at hg
  split at hg
  · cases hg
    rw [rep_none r2] at ry
    refine ⟨_, rfl, fun q => op_notN pins s σ H x _ v u Q I rx ry ⟨rfl, ?_⟩⟩
    rw [isNone_rep r1]; exact q
  · cases hg
    rw [rep_bool r1] at rx; rw [rep_bool r2] at ry
    exact ⟨_, rfl, fun q => op_isnot_bl pins s σ H _ _ v u Q I rx ry ⟨_, _, rfl, rfl, q⟩⟩
  · cases hg
theorem oneg : UnR X (unaryOp .USub) (rOf1 X.K X.mg negD) := by
  intro pins s σ H x v Q I rx h
  obtain ⟨P, F, σ', ρ, d, o, st, r1, hg, k⟩ := h
  unfold negD at hg
  split at hg
  · cases hg
    rw [rep_int r1] at rx
    exact un_neg pins s σ H _ v Q I rx ⟨_, rfl, k.here st mk_int⟩
  · cases hg
end
theorem RepL.rep {K : PySem.W.Frag} {F : Hp} {ds : List D} {vs : List V} (r : RepL K F ds vs) : ∀ n : Nat, RepL K F (List.replicate n ds).flatten (List.replicate n vs).flatten
  | 0 => by simpa using RepL.nil
  | n + 1 => by
    rw [List.replicate_succ, List.replicate_succ, List.flatten_cons, List.flatten_cons]
    exact r.append (RepL.rep r n)
theorem Vals.rep {vs : List V} {us : List Value} (r : Vals vs us) : ∀ n : Nat, Vals (List.replicate n vs).flatten (List.replicate n us).flatten
  | 0 => by simpa using Paired.nil
  | n + 1 => by
    rw [List.replicate_succ, List.replicate_succ, List.flatten_cons, List.flatten_cons]
    exact Vals.append r (Vals.rep r n)
theorem rep_len {α : Type} (xs : List α) : ∀ n : Nat, (List.replicate n xs).flatten.length = n * xs.length
  | 0 => by simp
  | n + 1 => by rw [List.replicate_succ, List.flatten_cons, List.length_append, rep_len xs n, Nat.succ_mul]; omega
theorem op_mulG {X : Cx} {pins : List (Addr × Obj)} {σ : SS} {H : Hp} {s : Shared} {l : Addr} {xs : List V} {x : Int} {u : Tok} {Q : VK} (I : Inv X pins σ H s) (h1 : SqL X.K H l xs) (hlo : -(2 ^ 63 : Int) ≤ x) (hhi : x < 2 ^ 63) (hz : x.toNat * xs.length ≤ sizeLine)
    (q : ∀ p, H p = none → Q (.ref p) (upd H p (.lst (List.replicate x.toNat xs).flatten))) : wpAny (model X.prog X.w) X.A (binaryOp .Mult (.ref l) (.int x u)) (EP X pins σ Q) X.xe s := by
  obtain ⟨its, r, ⟨⟨cls, dd, data, sl⟩, n, e, hc, hd, hs⟩, z⟩ := I.list h1
  simp only at hc hd hs
  subst hc hd hs
  have l1 := r.length
  have hz' : its.toArray.size * x.toNat ≤ sizeLine := by rw [List.size_toArray, ← l1, Nat.mul_comm]; exact hz
  have hcap : ¬ its.toArray.size * x.toNat > (2 ^ 63 - 1) / 8 := by
    have : (sizeLine : Nat) ≤ (2 ^ 63 - 1) / 8 := by decide
    omega
  refine wpAny_binaryOp_repeat_ref (T := "list") (U := "int") (by decide) ⟨_, e, rfl⟩ (fun s' => PySem.typeIs_int s' x u) noFill_list_mul F.fills_int_mul F.slot_int_rmul repeat_list F.slot_int_index.lookup
    (call_meets F.slot_int_rmul (PySem.typeIs_int s x u) F.entry_int_rmul (F.args_int_rmul_2 _ _) (lm_int_rmul_list_any x u l its.toArray n none sl)
      ⟨e, rfl, ⟨_, e, rfl⟩, call_meets F.slot_list_mul ⟨_, e, rfl⟩ F.entry_list_mul (F.args_list_mul_2 _ _)
        (lm_list_mul_any l its.toArray n none sl x u (by simp [Builtin.List.listFitsIndex]; omega) hcap (by rw [notLongL hz']; exact Bool.false_ne_true))
        ⟨e, ?_⟩⟩)
  rw [PyProof.Rows.listMul_foldl_if]
  refine ⟨.ref _, _, I.lnew (t' := s.toks) (its := (List.replicate x.toNat its.toArray.toList).flatten) (ys := (List.replicate x.toNat xs).flatten) ?_ ?_, rfl, q _ I.fresh⟩
  · exact Vals.rep r x.toNat
  · rw [rep_len]; exact hz
theorem omul {X : Cx} : OpR X (binaryOp .Mult) (rOf2 X.K X.mg mulD) := by
  intro pins s σ H x y v u Q I rx ry h
  obtain ⟨P, F, σ', ρ, d, e, o, st, r1, r2, hg, k⟩ := h
  unfold mulD at hg
  split at hg
  · split at hg
    · rename_i hc
      cases hg
      rw [rep_int r1] at rx; rw [rep_int r2] at ry
      exact op_mul pins s σ H _ _ v u Q I rx ry ⟨_, _, rfl, rfl, hc, k.here st mk_int⟩
    · cases hg
  · split at hg
    · rename_i a j hc
      cases hg
      rw [rep_str r1] at rx; rw [rep_int r2] at ry
      obtain ⟨t, rfl⟩ := rx
      obtain ⟨t2, rfl⟩ := ry
      exact SB.mul (PyProof.Rows.mulOk_of 16 1000000 hc.2.2 (by omega) (by omega) (by decide) (by decide)) fun t' kk => ⟨.str _, H, I.tok _, ⟨_, rfl⟩, k.here st mk_str⟩
    · cases hg
  · split at hg
    · rename_i a j hc
      cases hg
      obtain ⟨b, vs, rfl, s1, l1⟩ := rep_list r1
      rw [rep_int r2] at ry
      cases rx
      obtain ⟨t2, rfl⟩ := ry
      refine op_mulG I (SqL.le st.sub.rd s1) (by omega) (by omega) ?_ (k.newL st (RepL.rep l1 j.toNat))
      rw [l1.length]
      have h1 : j.toNat ≤ 1000000 := by omega
      have h2 : a.length ≤ 16 := hc.2.2
      have := Nat.mul_le_mul h1 h2
      have e : sizeLine = 16777216 := sizeLine_eq
      omega
    · cases hg
  · cases hg
end Dk

set_option Elab.async false
set_option linter.all false
set_option maxRecDepth 100000
set_option maxHeartbeats 4000000
/-! Dk4: tests, displays, subscripts, slices, calls of built-ins by data -/
namespace Dk
open PySem PySem.Spec L2

/-! ### tests -/
def PostB (K : PySem.W.Frag) (mg : Str → Option Value) (W : WX) (P : Prot) (F : Hp) (σ : SS) (r : R) (Q : Bool → Hp → Prop) : Prop := match r with
  | .ok (.val (.bool b)) ρ => ∀ F' H', SubH F F' → Stt K mg P F' H' σ ρ → Q b H'
  | .exc c fs ρ => KontX K mg P F σ ρ c fs fun C d H' => W C d σ H'
  | _ => False
def DT (K : PySem.W.Frag) (mg : Str → Option Value) (W : WX) (t : TT) (f : EX) : Prop := ∀ P F H σ ρ Q, Stt K mg P F H σ ρ → PostB K mg W P F σ (f ρ) Q → t σ H Q
structure PTD (X : Cx) (W : WX) (e : Expr) (f : EX) : Prop where
  ex : ∃ t, PT X e t ∧ DT X.K X.mg W t f
def R.bindB (r : R) (k : Bool → Env → R) : R := match r with
  | .ok (.val (.bool b)) ρ => k b ρ
  | .exc c fs ρ => .exc c fs ρ
  | _ => .bad
@[simp] theorem R.bindB_ok (b : Bool) (ρ : Env) (k : Bool → Env → R) : (R.ok (.val (.bool b)) ρ).bindB k = k b ρ := Eq.trans rfl rfl
@[simp] theorem R.bindB_exc (c : Str) (fs : List (Str × D)) (ρ : Env) (k : Bool → Env → R) : (R.exc c fs ρ).bindB k = .exc c fs ρ := Eq.trans rfl rfl
section
variable {K : PySem.W.Frag} {mg : Str → Option Value} {W : WX} {P : Prot} {F H : Hp} {σ : SS} {ρ : Env}
theorem DT.bind {ta : TT} {fa : EX} {k : Bool → Env → R} {Q : VK} {G : Bool → Hp → Prop} (ha : DT K mg W ta fa) (st : Stt K mg P F H σ ρ) (h : Post K mg W P F σ ((fa ρ).bindB k) Q)
    (hk : ∀ F1 H1 b ρ1, SubH F F1 → Stt K mg P F1 H1 σ ρ1 → Post K mg W P F1 σ (k b ρ1) Q → G b H1) : ta σ H G := by
  refine ha P F H σ ρ G st ?_
  cases e : fa ρ with
  | bad => rw [e] at h; exact h
  | ok o ρ1 =>
    rw [e] at h
    cases o with
    | val d =>
      cases d with
      | bool b => intro F1 H1 sb st1; exact hk F1 H1 b ρ1 sb st1 (Post.le sb h)
      | none => exact h
      | int i => exact h
      | str i => exact h
      | list i => exact h
      | tuple i => exact h
      | dict i => exact h
      | dictT i => exact h
      | tag _ i => exact h
    | emp => exact h
    | own c => exact h
    | ref c => exact h
    | fn c => exact h
  | exc c fs ρ1 => rw [e] at h; exact h
/-- the same, wanted of a test -/
theorem DT.bindT {ta : TT} {fa : EX} {k : Bool → Env → R} {Q G : Bool → Hp → Prop} (ha : DT K mg W ta fa) (st : Stt K mg P F H σ ρ) (h : PostB K mg W P F σ ((fa ρ).bindB k) Q)
    (hk : ∀ F1 H1 b ρ1, SubH F F1 → Stt K mg P F1 H1 σ ρ1 → PostB K mg W P F1 σ (k b ρ1) Q → G b H1) : ta σ H G := by
  refine ha P F H σ ρ G st ?_
  cases e : fa ρ with
  | bad => rw [e] at h; exact h
  | ok o ρ1 =>
    rw [e] at h
    cases o with
    | val d =>
      cases d with
      | bool b =>
        intro F1 H1 sb st1
        refine hk F1 H1 b ρ1 sb st1 ?_
        show PostB K mg W P F1 σ (k b ρ1) Q
        have h' : PostB K mg W P F σ (k b ρ1) Q := h
        revert h'
        cases k b ρ1 with
        | bad => exact fun z => z
        | ok o ρ2 =>
          cases o with
          | val d =>
            cases d with
            | bool b => exact fun z F2 H2 s2 => z F2 H2 (sb.trans s2)
            | none => exact fun z => z
            | int i => exact fun z => z
            | str i => exact fun z => z
            | list i => exact fun z => z
            | tuple i => exact fun z => z
            | dict i => exact fun z => z
            | dictT i => exact fun z => z
            | tag _ i => exact fun z => z
          | emp => exact fun z => z
          | own c => exact fun z => z
          | ref c => exact fun z => z
          | fn c => exact fun z => z
        | exc c fs ρ2 => exact fun z F2 H2 C dd s2 => z F2 H2 C dd (sb.trans s2)
      | none => exact h
      | int i => exact h
      | str i => exact h
      | list i => exact h
      | tuple i => exact h
      | dict i => exact h
      | dictT i => exact h
      | tag _ i => exact h
    | emp => exact h
    | own c => exact h
    | ref c => exact h
    | fn c => exact h
  | exc c fs ρ1 => rw [e] at h; exact h
/-- an expression's meaning, asked as a test -/
theorem DE.toB {t : TE} {f : EX} (h : DE K mg W t f) : DT K mg W (tTest t) f := by
  intro P F H σ ρ Q st hp
  refine h P F H σ ρ _ st ?_
  cases e : f ρ with
  | bad => rw [e] at hp; exact hp
  | ok o ρ1 =>
    rw [e] at hp
    cases o with
    | val d =>
      cases d with
      | bool b =>
        intro F1 H1 v sb st1 x
        exact ⟨b, rep_bool x.rep, hp F1 H1 sb st1⟩
      | none => exact hp.elim
      | int i => exact hp.elim
      | str i => exact hp.elim
      | list i => exact hp.elim
      | tuple i => exact hp.elim
      | dict i => exact hp.elim
      | dictT i => exact hp.elim
      | tag _ i => exact hp.elim
    | emp => exact hp.elim
    | own c => exact hp.elim
    | ref c => exact hp.elim
    | fn c => exact hp.elim
  | exc c fs ρ1 => rw [e] at hp; exact hp
end
/-- a datum's truth -/
def truB : D → Option Bool
  | .none => some false
  | .bool b => some b
  | .int i => some (i != 0)
  | .str y => if y.length ≤ sizeLine then some ((y.length : Int) != 0) else none
  | .list xs => some (!xs.isEmpty)
  | .tuple xs => some (!xs.isEmpty)
  | .dict _ => none
  | .dictT _ => none
  | .tag _ _ => none
def eTru (f : EX) : EX := fun ρ => (f ρ).bindV fun d ρ1 => match truB d.un with
  | some b => .ok (.val (.bool b)) ρ1
  | none => .bad
def eNot (f : EX) : EX := fun ρ => (f ρ).bindB fun b ρ1 => .ok (.val (.bool (!b))) ρ1
def eAnd (f g : EX) : EX := fun ρ => (f ρ).bindB fun b ρ1 => if b = true then g ρ1 else .ok (.val (.bool false)) ρ1
def eOr (f g : EX) : EX := fun ρ => (f ρ).bindB fun b ρ1 => if b = true then .ok (.val (.bool true)) ρ1 else g ρ1
def eIf (c f g : EX) : EX := fun ρ => (c ρ).bindB fun b ρ1 => if b = true then f ρ1 else g ρ1
section
variable {K : PySem.W.Frag} {mg : Str → Option Value} {W : WX}
theorem isEmpty_rep {F : Hp} {ds : List D} {vs : List V} (r : RepL K F ds vs) : (!vs.isEmpty) = !ds.isEmpty := by
  have := r.length
  cases ds <;> cases vs <;> simp_all
theorem tru_rep {F H : Hp} {d : D} {v : V} {b : Bool} (sb : SubH F H) (r : Rep K F d v) (e : truB d = some b) : TruV K v H b := by
  cases d with
  | none => rw [rep_none r]; cases e; rfl
  | bool b => rw [rep_bool r]; cases e; rfl
  | int i => rw [rep_int r]; cases e; rfl
  | str y =>
    rw [rep_str r]
    by_cases hz : y.length ≤ sizeLine
    · simp only [truB, if_pos hz] at e; cases e; exact ⟨hz, rfl⟩
    · simp only [truB, if_neg hz] at e; cases e
  | list xs =>
    obtain ⟨a, vs, rfl, s, l⟩ := rep_list r
    cases e
    exact .inl ⟨vs, SqL.le sb.rd s, (isEmpty_rep l).symm⟩
  | tuple xs =>
    obtain ⟨a, vs, rfl, s, l⟩ := rep_tup r
    cases e
    exact .inr (.inl ⟨vs, SqT.le sb.rd s, (isEmpty_rep l).symm⟩)
  | dict xs => cases e
  | dictT xs => cases e
  | tag _ xs => cases e
theorem dt_tru {t : TE} {f : EX} (h : DE K mg W t f) : DT K mg W (fun σ H Q => t σ H fun x H' => ∃ k, TruV K x H' k ∧ Q k H') (eTru f) := by
  intro P F H σ ρ Q st hp
  refine h P F H σ ρ _ st ?_
  unfold eTru at hp
  cases e : f ρ with
  | bad => rw [e] at hp; exact hp
  | ok o ρ1 =>
    rw [e] at hp
    intro F1 H1 v sb st1 x
    cases z : o.frz with
    | none => simp only [R.bindV, z] at hp; exact hp.elim
    | some d =>
      simp only [R.bindV, z] at hp
      obtain ⟨F2, sb2, st2, r⟩ := st1.freeze x z
      cases y : truB d.un with
      | none => simp only [y] at hp; exact hp.elim
      | some b =>
        simp only [y] at hp
        exact ⟨b, tru_rep st2.sub r.un y, hp F2 H1 (sb.trans sb2) st2⟩
  | exc c fs ρ1 => rw [e] at hp; exact hp
theorem dt_not {t : TT} {f : EX} (h : DT K mg W t f) : DT K mg W (tNot t) (eNot f) := by
  intro P F H σ ρ Q st hp
  exact h.bindT st hp fun F1 H1 b ρ1 sb st1 h1 => h1 F1 H1 (SubH.refl _) st1
theorem dt_and {t u : TT} {f g : EX} (h : DT K mg W t f) (h2 : DT K mg W u g) : DT K mg W (tAnd t u) (eAnd f g) := by
  intro P F H σ ρ Q st hp
  refine h.bindT st hp fun F1 H1 b ρ1 sb st1 h1 => ?_
  cases b with
  | true => exact h2 P F1 H1 σ ρ1 Q st1 h1
  | false => exact h1 F1 H1 (SubH.refl _) st1
theorem dt_or {t u : TT} {f g : EX} (h : DT K mg W t f) (h2 : DT K mg W u g) : DT K mg W (tOr t u) (eOr f g) := by
  intro P F H σ ρ Q st hp
  refine h.bindT st hp fun F1 H1 b ρ1 sb st1 h1 => ?_
  cases b with
  | true => exact h1 F1 H1 (SubH.refl _) st1
  | false => exact h2 P F1 H1 σ ρ1 Q st1 h1
theorem de_if {t : TT} {ta tb : TE} {c f g : EX} (h : DT K mg W t c) (h1 : DE K mg W ta f) (h2 : DE K mg W tb g) : DE K mg W (tIf t ta tb) (eIf c f g) := by
  intro P F H σ ρ Q st hp
  refine h.bind st hp fun F1 H1 b ρ1 sb st1 q => ?_
  cases b with
  | true => exact h1 P F1 H1 σ ρ1 Q st1 q
  | false => exact h2 P F1 H1 σ ρ1 Q st1 q
/-- a bool's expression, bound as a bool -/
theorem DE.bindB {ta : TE} {fa : EX} {k : Bool → Env → R} {Q G : VK} {P : Prot} {F H : Hp} {σ : SS} {ρ : Env} (ha : DE K mg W ta fa) (st : Stt K mg P F H σ ρ) (h : Post K mg W P F σ ((fa ρ).bindB k) Q)
    (hk : ∀ F1 H1 b ρ1, SubH F F1 → Stt K mg P F1 H1 σ ρ1 → Post K mg W P F1 σ (k b ρ1) Q → G (.bl b) H1) : ta σ H G := by
  refine ha P F H σ ρ G st ?_
  cases e : fa ρ with
  | bad => rw [e] at h; exact h
  | ok o ρ1 =>
    rw [e] at h
    cases o with
    | val d =>
      cases d with
      | bool b =>
        intro F1 H1 v sb st1 x
        rw [rep_bool x.rep]
        exact hk F1 H1 b ρ1 sb st1 (Post.le sb h)
      | none => exact h.elim
      | int i => exact h.elim
      | str i => exact h.elim
      | list i => exact h.elim
      | tuple i => exact h.elim
      | dict i => exact h.elim
      | dictT i => exact h.elim
      | tag _ i => exact h.elim
    | emp => exact h.elim
    | own c => exact h.elim
    | ref c => exact h.elim
    | fn c => exact h.elim
  | exc c fs ρ1 => rw [e] at h; exact h
theorem de_and {t u : TE} {f g : EX} (h : DE K mg W t f) (h2 : DE K mg W u g) : DE K mg W (tAndV t u) (eAnd f g) := by
  intro P F H σ ρ Q st hp
  refine h.bindB st hp fun F1 H1 b ρ1 sb st1 h1 => ⟨b, rfl, ?_⟩
  cases b with
  | true => exact h2 P F1 H1 σ ρ1 Q st1 h1
  | false => exact h1 F1 H1 _ (SubH.refl _) st1 (OutOk.val mk_bool)
theorem de_or {t u : TE} {f g : EX} (h : DE K mg W t f) (h2 : DE K mg W u g) : DE K mg W (tOrV t u) (eOr f g) := by
  intro P F H σ ρ Q st hp
  refine h.bindB st hp fun F1 H1 b ρ1 sb st1 h1 => ⟨b, rfl, ?_⟩
  cases b with
  | true => exact h1 F1 H1 _ (SubH.refl _) st1 (OutOk.val mk_bool)
  | false => exact h2 P F1 H1 σ ρ1 Q st1 h1
theorem de_not {t : TE} {f : EX} (h : DE K mg W t f) : DE K mg W (tNotV t) (eNot f) := by
  intro P F H σ ρ Q st hp
  exact h.bindB st hp fun F1 H1 b ρ1 sb st1 h1 => ⟨b, rfl, h1 F1 H1 _ (SubH.refl _) st1 (OutOk.val mk_bool)⟩
end
section
variable {X : Cx} {W : WX} {a b c e : Expr} {rest : List Expr} {pos : Pos} {f g h fa fb fc : EX}
theorem ptd_tru (ha : PD X W a f) (he : ∀ whole, isTrue a X.env whole = (do let v ← whole; standAt a.pos; holding [v] (truthy v)) := by intro _; rfl) : PTD X W a (eTru f) := by
  obtain ⟨t, p, d⟩ := ha.ex
  exact ⟨_, pt_truth p he, dt_tru d⟩
theorem ptd_cmp {op : CmpOp} {gD : D → D → Option Sl} (ho : OpR X (compareOp op) (rOf2 X.K X.mg gD)) (ha : PD X W a fa) (hb : PD X W b fb) (hm : behindInMarks op b = false := by rfl) : PTD X W (.Compare a [op] [b] pos) (eOp gD fa fb) := by
  obtain ⟨ta, pa, da⟩ := ha.ex
  obtain ⟨tb, pb, db⟩ := hb.ex
  exact ⟨_, pt_cmpR ho pa pb hm, (de_op da db).toB⟩
theorem ptd_not (ha : PTD X W a f) : PTD X W (.UnaryOp .Not a pos) (eNot f) := by
  obtain ⟨t, p, d⟩ := ha.ex
  exact ⟨_, pt_not p, dt_not d⟩
/-- a chain of ands, ors, as a test -/
structure PWD (X : Cx) (W : WX) (e : Expr) (f : EX) : Prop where
  ex : ∃ t, PW X e t ∧ DT X.K X.mg W t f
theorem PWD.pt (h : PWD X W e f) : PTD X W e f := by
  obtain ⟨t, p, d⟩ := h.ex
  exact ⟨t, p.pt, d⟩
theorem pwd_and1 (ha : PTD X W a f) : PWD X W (.BoolOp .And [a] pos) f := by
  obtain ⟨t, p, d⟩ := ha.ex
  exact ⟨_, pw_and1 p, d⟩
theorem pwd_or1 (ha : PTD X W a f) : PWD X W (.BoolOp .Or [a] pos) f := by
  obtain ⟨t, p, d⟩ := ha.ex
  exact ⟨_, pw_or1 p, d⟩
theorem pwd_and (ha : PTD X W a f) (hb : PWD X W (.BoolOp .And (b :: rest) pos) g) : PWD X W (.BoolOp .And (a :: b :: rest) pos) (eAnd f g) := by
  obtain ⟨t, p, d⟩ := ha.ex
  obtain ⟨u, q, d2⟩ := hb.ex
  exact ⟨_, pw_and p q, dt_and d d2⟩
theorem pwd_or (ha : PTD X W a f) (hb : PWD X W (.BoolOp .Or (b :: rest) pos) g) : PWD X W (.BoolOp .Or (a :: b :: rest) pos) (eOr f g) := by
  obtain ⟨t, p, d⟩ := ha.ex
  obtain ⟨u, q, d2⟩ := hb.ex
  exact ⟨_, pw_or p q, dt_or d d2⟩
theorem pd_one {op : BoolOp} (ha : PD X W a f) : PD X W (.BoolOp op [a] pos) f := by
  obtain ⟨t, p, d⟩ := ha.ex
  exact ⟨_, pe_one p, d⟩
theorem pd_and (ha : PD X W a f) (hb : PD X W (.BoolOp .And (b :: rest) pos) g) : PD X W (.BoolOp .And (a :: b :: rest) pos) (eAnd f g) := by
  obtain ⟨t, p, d⟩ := ha.ex
  obtain ⟨u, q, d2⟩ := hb.ex
  exact ⟨_, pe_and p q, de_and d d2⟩
theorem pd_or (ha : PD X W a f) (hb : PD X W (.BoolOp .Or (b :: rest) pos) g) : PD X W (.BoolOp .Or (a :: b :: rest) pos) (eOr f g) := by
  obtain ⟨t, p, d⟩ := ha.ex
  obtain ⟨u, q, d2⟩ := hb.ex
  exact ⟨_, pe_or p q, de_or d d2⟩
theorem pd_not (ha : PD X W a f) : PD X W (.UnaryOp .Not a pos) (eNot f) := by
  obtain ⟨t, p, d⟩ := ha.ex
  exact ⟨_, pe_not p, de_not d⟩
theorem pd_if (hc : PTD X W c h) (ha : PD X W a f) (hb : PD X W b g) : PD X W (.IfExp c a b pos) (eIf h f g) := by
  obtain ⟨t, p, d⟩ := hc.ex
  obtain ⟨ta, pa, da⟩ := ha.ex
  obtain ⟨tb, pb, db⟩ := hb.ex
  exact ⟨_, pe_ifExp p pa pb, de_if d da db⟩
/-- a op b op2 c -/
def eChain (g1 g2 : D → D → Option Sl) (fa fb fc : EX) : EX := fun ρ => (fa ρ).bindV fun d ρ1 => (fb ρ1).bindV fun e ρ2 => match g1 d.un e.un with
  | some (.val (.bool b)) => if b = true then (fc ρ2).bindV fun z ρ3 => (match g2 e.un z.un with | some o => .ok o ρ3 | none => .bad) else .ok (.val (.bool false)) ρ2
  | _ => .bad
theorem de_chain {K : PySem.W.Frag} {mg : Str → Option Value} {ta tb tc : TE} {g1 g2 : D → D → Option Sl} (ha : DE K mg W ta fa) (hb : DE K mg W tb fb) (hc : DE K mg W tc fc) : DE K mg W (tChain (rOf2 K mg g1) (rOf2 K mg g2) ta tb tc) (eChain g1 g2 fa fb fc) := by
  intro P F H σ ρ Q st h
  refine ha.bindV st h fun F1 H1 d ρ1 v sb st1 r1 h1 => ?_
  refine hb.bindV st1 h1 fun F2 H2 e ρ2 u sb2 st2 r2 h2 => ?_
  cases z : g1 d.un e.un with
  | none => simp only [z] at h2; exact h2.elim
  | some o =>
    refine ⟨P, F2, σ, ρ2, d.un, e.un, o, st2, (Rep.le sb2.rd d v r1).un, r2.un, z, ?_⟩
    simp only [z] at h2
    split at h2
    · rename_i b eb
      cases eb
      intro F3 H3 w sb3 st3 x
      have ew := rep_bool x.rep
      subst ew
      refine ⟨b, rfl, ?_⟩
      cases b with
      | false => exact (Post.le sb3 h2) F3 H3 _ (SubH.refl _) st3 (OutOk.val mk_bool)
      | true =>
        simp only [if_true] at h2 ⊢
        refine hc.bindV st3 (Post.le sb3 h2) fun F4 H4 y ρ4 w4 sb4 st4 r4 h4 => ?_
        cases z2 : g2 e.un y.un with
        | none => simp only [z2] at h4; exact h4.elim
        | some o2 =>
          simp only [z2] at h4
          exact ⟨P, F4, σ, ρ4, e.un, y.un, o2, st4, (Rep.le (sb3.trans sb4).rd e u r2).un, r4.un, z2, h4⟩
    · exact h2.elim
theorem pd_chain {op op' : CmpOp} {g1 g2 : D → D → Option Sl} (ho : OpR X (compareOp op) (rOf2 X.K X.mg g1)) (ho' : OpR X (compareOp op') (rOf2 X.K X.mg g2)) (ha : PD X W a fa) (hb : PD X W b fb) (hc : PD X W c fc)
    (hm : lastMarks [op, op'] [b, c] = false := by with_unfolding_all rfl) : PD X W (.Compare a [op, op'] [b, c] pos) (eChain g1 g2 fa fb fc) := by
  obtain ⟨ta, pa, da⟩ := ha.ex
  obtain ⟨tb, pb, db⟩ := hb.ex
  obtain ⟨tc, pc, dc⟩ := hc.ex
  exact ⟨_, pe_chain ho ho' pa pb pc hm, de_chain da db dc⟩
theorem ptd_chain {op op' : CmpOp} {g1 g2 : D → D → Option Sl} (ho : OpR X (compareOp op) (rOf2 X.K X.mg g1)) (ho' : OpR X (compareOp op') (rOf2 X.K X.mg g2)) (ha : PD X W a fa) (hb : PD X W b fb) (hc : PD X W c fc)
    (hm : lastMarks [op, op'] [b, c] = false := by with_unfolding_all rfl) : PTD X W (.Compare a [op, op'] [b, c] pos) (eChain g1 g2 fa fb fc) := by
  obtain ⟨ta, pa, da⟩ := ha.ex
  obtain ⟨tb, pb, db⟩ := hb.ex
  obtain ⟨tc, pc, dc⟩ := hc.ex
  exact ⟨_, pt_chain ho ho' pa pb pc hm, (de_chain da db dc).toB⟩
end

/-! ### argument lists -/
def eArgs : List EX → Env → (List D → Env → R) → R
  | [], ρ, k => k [] ρ
  | f :: fs, ρ, k => (f ρ).bindV fun d ρ1 => eArgs fs ρ1 fun ds ρ2 => k (d :: ds) ρ2
def eArgsR : List EX → Env → R
  | [], ρ => .ok (.val (.list [])) ρ
  | f :: fs, ρ => (f ρ).bindV fun d ρ1 => (eArgsR fs ρ1).bindV fun e ρ2 => match e with
    | .list ds => .ok (.val (.list (d :: ds))) ρ2
    | _ => .bad
def R.bindL (r : R) (k : List D → Env → R) : R := match r with
  | .ok (.val (.list ds)) ρ => k ds ρ
  | .exc c fs ρ => .exc c fs ρ
  | _ => .bad
theorem R.bindV_bindL (r : R) (k : D → Env → R) (k2 : List D → Env → R) : (r.bindV k).bindL k2 = r.bindV fun d ρ => (k d ρ).bindL k2 := by
  cases r with
  | bad => rfl
  | exc c fs ρ => rfl
  | ok o ρ =>
    simp only [R.bindV]
    cases o.frz <;> rfl
theorem eArgsR_own : ∀ (fs : List EX) (ρ ρ2 : Env) (c : Cl), eArgsR fs ρ ≠ .ok (.own c) ρ2 := by
  intro fs
  induction fs with
  | nil => intro ρ ρ2 c h; cases h
  | cons f fs ih =>
    intro ρ ρ2 c h
    simp only [eArgsR] at h
    cases e1 : f ρ with
    | bad => rw [e1] at h; cases h
    | exc c fs ρ => rw [e1] at h; cases h
    | ok o ρ1 =>
      rw [e1] at h
      simp only [R.bindV] at h
      cases z : o.frz with
      | none => simp only [z] at h; cases h
      | some d =>
        simp only [z] at h
        cases e2 : eArgsR fs ρ1 with
        | bad => simp only [e2] at h; cases h
        | exc c fs ρ => simp only [e2] at h; cases h
        | ok o2 ρ3 =>
          simp only [e2] at h
          cases z2 : o2.frz with
          | none => simp only [z2] at h; cases h
          | some d2 =>
            simp only [z2] at h
            cases d2 <;> cases h
theorem eArgs_eq : ∀ (fs : List EX) (ρ : Env) (k : List D → Env → R), eArgs fs ρ k = (eArgsR fs ρ).bindL k
  | [], ρ, k => rfl
  | f :: fs, ρ, k => by
    show (f ρ).bindV (fun d ρ1 => eArgs fs ρ1 fun ds ρ2 => k (d :: ds) ρ2) = ((f ρ).bindV fun d ρ1 => (eArgsR fs ρ1).bindV fun e ρ2 => match e with
      | .list ds => .ok (.val (.list (d :: ds))) ρ2
      | _ => .bad).bindL k
    rw [R.bindV_bindL]
    congr 1
    funext d ρ1
    rw [eArgs_eq fs ρ1]
    cases e : eArgsR fs ρ1 with
    | bad => rfl
    | exc c fs ρ => rfl
    | ok o ρ2 =>
      cases o with
      | val x => cases x <;> rfl
      | own c =>
        exact absurd e (eArgsR_own _ _ _ _)
      | emp => rfl
      | ref c => rfl
      | fn c => rfl
def PostA (K : PySem.W.Frag) (mg : Str → Option Value) (W : WX) (P : Prot) (F : Hp) (σ : SS) (n : Nat) (r : R) (G : List V → Hp → Prop) : Prop := match r with
  | .ok (.val (.list ds)) ρ => ∀ F' H' vs, SubH F F' → Stt K mg P F' H' σ ρ → RepL K F' ds vs → ds.length = n → G vs H'
  | .exc c fs ρ => KontX K mg P F σ ρ c fs fun C d H' => W C d σ H'
  | _ => False
def DA (K : PySem.W.Frag) (mg : Str → Option Value) (W : WX) (ta : TA) (fs : List EX) : Prop := ∀ P F H σ ρ G, Stt K mg P F H σ ρ → PostA K mg W P F σ fs.length (eArgsR fs ρ) G → ta σ H G
structure PAD (X : Cx) (W : WX) (es : List Expr) (fs : List EX) : Prop where
  ex : ∃ t, PA X es t ∧ DA X.K X.mg W t fs
section
variable {K : PySem.W.Frag} {mg : Str → Option Value} {W : WX}
theorem DA.bind {ta : TA} {fs : List EX} (ha : DA K mg W ta fs) (P : Prot) (F H : Hp) (σ : SS) (ρ : Env) (k : List D → Env → R) (Q : VK) (G : List V → Hp → Prop) (st : Stt K mg P F H σ ρ) (h : Post K mg W P F σ (eArgs fs ρ k) Q)
    (hk : ∀ F1 H1 ds ρ1 vs, SubH F F1 → Stt K mg P F1 H1 σ ρ1 → RepL K F1 ds vs → ds.length = fs.length → Post K mg W P F1 σ (k ds ρ1) Q → G vs H1) : ta σ H G := by
  refine ha P F H σ ρ G st ?_
  rw [eArgs_eq] at h
  cases e : eArgsR fs ρ with
  | bad => rw [e] at h; exact h
  | exc c gs ρ1 => rw [e] at h; exact h
  | ok o ρ1 =>
    rw [e] at h
    cases o with
    | val d =>
      cases d with
      | list ds => intro F1 H1 vs sb st1 r hl; exact hk F1 H1 ds ρ1 vs sb st1 r hl (Post.le sb h)
      | none => exact h
      | bool i => exact h
      | int i => exact h
      | str i => exact h
      | tuple i => exact h
      | dict i => exact h
      | dictT i => exact h
      | tag _ i => exact h
    | emp => exact h
    | own c => exact h
    | ref c => exact h
    | fn c => exact h
theorem da_nil : DA K mg W tNil [] := fun P F H σ ρ G st h => h F H [] (SubH.refl F) st RepL.nil rfl
theorem da_cons {te : TE} {t : TA} {f : EX} {fs : List EX} (h1 : DE K mg W te f) (h2 : DA K mg W t fs) : DA K mg W (tCons te t) (f :: fs) := by
  intro P F H σ ρ G st h
  refine h1 P F H σ ρ _ st ?_
  simp only [eArgsR] at h
  cases e : f ρ with
  | bad => rw [e] at h; exact h
  | exc c gs ρ1 => rw [e] at h; exact h
  | ok o ρ1 =>
    rw [e] at h
    intro F1 H1 v sb st1 x
    simp only [R.bindV] at h
    cases z : o.frz with
    | none => simp only [z] at h; exact h.elim
    | some d =>
      simp only [z] at h
      obtain ⟨F2, sb2, st2, r⟩ := st1.freeze x z
      refine h2 P F2 H1 σ ρ1 _ st2 ?_
      cases e2 : eArgsR fs ρ1 with
      | bad => simp only [e2] at h; exact h
      | exc c gs ρ3 => simp only [e2] at h; exact fun G H' C dd s => h G H' C dd ((sb.trans sb2).trans s)
      | ok o2 ρ3 =>
        simp only [e2] at h
        cases z2 : o2.frz with
        | none => simp only [z2] at h; exact h.elim
        | some d2 =>
          simp only [z2] at h
          cases o2 with
          | val d3 =>
            cases z2
            cases d2 with
            | list ds =>
              simp only at h
              intro F3 H3 vs sb3 st3 r3 hl
              exact h F3 H3 (v :: vs) ((sb.trans sb2).trans sb3) st3 (RepL.cons (Rep.le sb3.rd d v r) r3) (by simp [hl])
            | none => exact h.elim
            | bool i => exact h.elim
            | int i => exact h.elim
            | str i => exact h.elim
            | tuple i => exact h.elim
            | dict i => exact h.elim
            | dictT i => exact h.elim
            | tag _ i => exact h.elim
          | own c => exact absurd e2 (eArgsR_own _ _ _ _)
          | emp => cases z2
          | ref c => cases z2
          | fn c => cases z2
def eTup (fs : List EX) : EX := fun ρ => eArgs fs ρ fun ds ρ1 => .ok (.val (.tuple ds)) ρ1
def eLst (fs : List EX) : EX := fun ρ => eArgs fs ρ fun ds ρ1 => .ok (.own (.lst ds)) ρ1
theorem de_tup {t : TA} {fs : List EX} (h : DA K mg W t fs) (hz : fs.length ≤ sizeLine) : DE K mg W (tTup t) (eTup fs) := by
  intro P F H σ ρ Q st hp
  refine h.bind P F H σ ρ _ Q _ st hp fun F1 H1 ds ρ1 vs sb st1 r hl q => ⟨by rw [r.length, hl]; exact hz, fun p n => ?_⟩
  exact Kont.newT q st1 r p n
theorem de_lst {t : TA} {fs : List EX} (h : DA K mg W t fs) (hz : fs.length ≤ sizeLine) : DE K mg W (tLst t) (eLst fs) := by
  intro P F H σ ρ Q st hp
  refine h.bind P F H σ ρ _ Q _ st hp fun F1 H1 ds ρ1 vs sb st1 r hl q => ⟨by rw [r.length, hl]; exact hz, fun p n => ?_⟩
  exact Kont.newL q st1 r p n
end
section
variable {X : Cx} {W : WX} {e : Expr} {es : List Expr} {f : EX} {fs : List EX} {pos : Pos}
theorem pad_nil : PAD X W [] [] := ⟨_, pa_nil, da_nil⟩
theorem pad_cons (h1 : PD X W e f) (h2 : PAD X W es fs) (hs : starEach (e :: es) X.env = (false, eval e X.env) :: starEach es X.env := by rfl) : PAD X W (e :: es) (f :: fs) := by
  obtain ⟨t, p, d⟩ := h1.ex
  obtain ⟨u, q, d2⟩ := h2.ex
  exact ⟨_, pa_cons p q hs, da_cons d d2⟩
theorem pd_tup {x1 : Nat} (h : PAD X W es fs) (hz : fs.length ≤ sizeLine := by show _ ≤ _; decide) : PD X W (.Tuple es x1 pos) (eTup fs) := by
  obtain ⟨t, p, d⟩ := h.ex
  exact ⟨_, pe_tup p, de_tup d hz⟩
theorem pd_lst (h : PAD X W es fs) (hz : fs.length ≤ sizeLine := by show _ ≤ _; decide) : PD X W (.List es pos) (eLst fs) := by
  obtain ⟨t, p, d⟩ := h.ex
  exact ⟨_, pe_lst p, de_lst d hz⟩
end

/-! ### subscripts, slices -/
theorem RepL.atI {K : PySem.W.Frag} {F : Hp} {ds : List D} {vs : List V} {i : Int} {d : D} (r : RepL K F ds vs) (e : atI ds i = some d) : ∃ v, atI vs i = some v ∧ Rep K F d v := by
  unfold L2.atI at e ⊢
  rw [r.length]
  cases q : ixN ds.length i with
  | none => rw [q] at e; cases e
  | some j =>
    rw [q] at e
    exact r.get e
def ixD : D → D → Option Sl
  | .list ds, .int i => (atI ds i).map .val
  | .tuple ds, .int i => (atI ds i).map .val
  | .str z, .int i => if z.length ≤ sizeLine then (atI z.cps.toList i).map fun c => .val (.str ⟨#[c]⟩) else none
  | _, _ => none
theorem pd_ix {X : Cx} {W : WX} {a b : Expr} {pos : Pos} {fa fb : EX} (ha : PD X W a fa) (hb : PD X W b fb) (hs : PlainIx b := by exact fun _ _ => rfl) : PD X W (.Subscript a b pos) (eOp ixD fa fb) := by
  obtain ⟨ta, pa, da⟩ := ha.ex
  obtain ⟨tb, pb, db⟩ := hb.ex
  refine ⟨_, pe_ix ix_seq pa pb hs, ?_⟩
  intro P F H σ ρ Q st h
  refine da.bindV st h fun F1 H1 d ρ1 v sb st1 r1 h1 => ?_
  refine db.bindV st1 h1 fun F2 H2 e ρ2 u sb2 st2 r2 h2 => ?_
  have r1' := (Rep.le sb2.rd d v r1).un
  replace r2 := r2.un
  cases z : ixD d.un e.un with
  | none => simp only [z] at h2; exact h2.elim
  | some o =>
    simp only [z] at h2
    generalize d.un = d at *
    generalize e.un = e at *
    unfold ixD at z
    split at z
    · rename_i ds i
      obtain ⟨a, vs, rfl, s, l⟩ := rep_list r1'
      rw [rep_int r2]
      cases q : atI ds i with
      | none => rw [q] at z; cases z
      | some x =>
        rw [q] at z; cases z
        obtain ⟨w, e1, r⟩ := RepL.atI l q
        exact .inl ⟨a, vs, i, w, rfl, rfl, SqL.le st2.sub.rd s, e1, Kont.here h2 st2 r⟩
    · rename_i ds i
      obtain ⟨a, vs, rfl, s, l⟩ := rep_tup r1'
      rw [rep_int r2]
      cases q : atI ds i with
      | none => rw [q] at z; cases z
      | some x =>
        rw [q] at z; cases z
        obtain ⟨w, e1, r⟩ := RepL.atI l q
        exact .inr (.inl ⟨a, vs, i, w, rfl, rfl, SqT.le st2.sub.rd s, e1, Kont.here h2 st2 r⟩)
    · rename_i y i
      split at z
      · rename_i hz
        rw [rep_str r1', rep_int r2]
        cases q : atI y.cps.toList i with
        | none => rw [q] at z; cases z
        | some x =>
          rw [q] at z; cases z
          exact .inr (.inr ⟨y, i, x, rfl, rfl, hz, q, Kont.here h2 st2 mk_str⟩)
      · cases z
    · cases z
/-- a slice's part: nothing, or an int -/
inductive Pt where
  | no
  | at (f : EX)
def ePt (p : Pt) (ρ : Env) (k : Option Int → Env → R) : R := match p with
  | .no => k none ρ
  | .at f => (f ρ).bindV fun d ρ1 => match d.un with
    | .int i => k (some i) ρ1
    | _ => .bad
def DO (K : PySem.W.Frag) (mg : Str → Option Value) (W : WX) (t : TO) (p : Pt) : Prop := ∀ P F H σ ρ (k : Option Int → Env → R) Q G, Stt K mg P F H σ ρ → Post K mg W P F σ (ePt p ρ k) Q →
  (∀ F1 H1 i ρ1, SubH F F1 → Stt K mg P F1 H1 σ ρ1 → Post K mg W P F1 σ (k i ρ1) Q → G i H1) → t σ H G
structure POD (X : Cx) (W : WX) (e : Option Expr) (p : Pt) : Prop where
  ex : ∃ t, PO X e t ∧ DO X.K X.mg W t p
theorem pod_no {X : Cx} {W : WX} : POD X W none .no := ⟨_, po_none, fun P F H σ ρ k Q G st h hk => hk F H none ρ (SubH.refl F) st h⟩
theorem pod_at {X : Cx} {W : WX} {e : Expr} {f : EX} (h : PD X W e f) : POD X W (some e) (.at f) := by
  obtain ⟨t, p, d⟩ := h.ex
  refine ⟨_, po_some p, fun P F H σ ρ k Q G st h hk => ?_⟩
  refine d.bindV st h fun F1 H1 d ρ1 v sb st1 r1 h1 => ?_
  replace r1 := r1.un
  generalize d.un = d at *
  cases d with
  | int i => rw [rep_int r1]; exact ⟨i, rfl, hk F1 H1 (some i) ρ1 sb st1 h1⟩
  | none => exact h1.elim
  | bool i => exact h1.elim
  | str i => exact h1.elim
  | list i => exact h1.elim
  | tuple i => exact h1.elim
  | dict i => exact h1.elim
  | dictT i => exact h1.elim
  | tag _ i => exact h1.elim
def cutL {α : Type} (xs : List α) (lo hi : Option Int) : List α := (xs.drop (HT.sIx xs.length 0 lo)).take (HT.sIx xs.length xs.length hi - HT.sIx xs.length 0 lo)
theorem RepL.cut {K : PySem.W.Frag} {F : Hp} {ds : List D} {vs : List V} {lo hi : Option Int} (r : RepL K F ds vs) : RepL K F (cutL ds lo hi) (cutV vs lo hi) := by
  unfold cutL cutV
  rw [r.length]
  exact (r.drop _).take _
def slD (d : D) (lo hi : Option Int) : Option Sl := match d with
  | .list ds => some (.own (.lst (cutL ds lo hi)))
  | .tuple ds => some (.val (.tuple (cutL ds lo hi)))
  | .str z => if z.length ≤ sizeLine then some (.val (.str (cutS z lo hi))) else none
  | _ => none
def eSl (f : EX) (lo hi : Pt) : EX := fun ρ => (f ρ).bindV fun d ρ1 => ePt lo ρ1 fun i ρ2 => ePt hi ρ2 fun j ρ3 => match slD d.un i j with
  | some o => .ok o ρ3
  | none => .bad
theorem cutL_whole {α : Type} {xs : List α} {lo hi : Option Int} (h : HT.sIx xs.length 0 lo = 0 ∧ HT.sIx xs.length xs.length hi = xs.length) : cutL xs lo hi = xs := by
  unfold cutL
  rw [h.1, h.2]
  simp
theorem pd_sl {X : Cx} {W : WX} {e : Expr} {lo hi : Option Expr} {p2 pos : Pos} {f : EX} {pl ph : Pt} (he : PD X W e f) (hl : POD X W lo pl) (hh : POD X W hi ph) : PD X W (.Subscript e (.Slice lo hi none p2) pos) (eSl f pl ph) := by
  obtain ⟨te, pe, de⟩ := he.ex
  obtain ⟨tl, pl', dl⟩ := hl.ex
  obtain ⟨th, ph', dh⟩ := hh.ex
  refine ⟨_, pe_slice (SlR.or sl_list (SlR.or sl_tupA sl_str)) pe pl' ph', ?_⟩
  intro P F H σ ρ Q st h
  refine de.bindV st h fun F1 H1 d ρ1 v sb st1 r1 h1 => ?_
  refine dl P F1 H1 σ ρ1 _ Q _ st1 h1 fun F2 H2 i ρ2 sb2 st2 h2 => ?_
  refine dh P F2 H2 σ ρ2 _ Q _ st2 h2 fun F3 H3 j ρ3 sb3 st3 h3 => ?_
  have r1' := (Rep.le (sb2.trans sb3).rd d v r1).un
  cases z : slD d.un i j with
  | none => simp only [z] at h3; exact h3.elim
  | some o =>
    simp only [z] at h3
    generalize d.un = d at *
    unfold slD at z
    split at z
    · rename_i ds
      cases z
      obtain ⟨a, vs, rfl, s, l⟩ := rep_list r1'
      exact .inl ⟨a, vs, rfl, SqL.le st3.sub.rd s, Kont.newL h3 st3 l.cut⟩
    · rename_i ds
      cases z
      obtain ⟨a, vs, rfl, s, l⟩ := rep_tup r1'
      refine .inr (.inl ⟨a, vs, rfl, SqT.le st3.sub.rd s, fun hw => ?_, fun _ => Kont.newT h3 st3 l.cut⟩)
      rw [l.length] at hw
      rw [cutL_whole hw] at h3
      exact Kont.here h3 st3 (mk_tup s l)
    · split at z
      · rename_i y hz
        cases z
        rw [rep_str r1']
        exact .inr (.inr ⟨y, rfl, hz, Kont.here h3 st3 mk_str⟩)
      · cases z
    · cases z

/-! ### calls of built-ins -/
def rOfN (K : PySem.W.Frag) (mg : Str → Option Value) (g : List D → Option Sl) : List V → Hp → VK → Prop := fun xs H Q => ∃ P F σ ρ ds o, Stt K mg P F H σ ρ ∧ RepL K F ds xs ∧ g ds = some o ∧ Kont K mg P F σ ρ o Q
def eCB (g : List D → Option Sl) (fs : List EX) : EX := fun ρ => eArgs fs ρ fun ds ρ1 => match g (ds.map D.un) with
  | some o => .ok o ρ1
  | none => .bad
theorem de_cb {K : PySem.W.Frag} {mg : Str → Option Value} {W : WX} {t : TA} {fs : List EX} {g : List D → Option Sl} (h : DA K mg W t fs) : DE K mg W (tCB (rOfN K mg g) t) (eCB g fs) := by
  intro P F H σ ρ Q st hp
  refine h.bind P F H σ ρ _ Q _ st hp fun F1 H1 ds ρ1 vs sb st1 r hl q => ?_
  cases z : g (ds.map D.un) with
  | none => simp only [z] at q; exact q.elim
  | some o =>
    simp only [z] at q
    exact ⟨P, F1, σ, ρ1, ds.map D.un, o, st1, r.un, z, q⟩
section
variable {X : Cx} {W : WX} {x : Str} {p pos : Pos} {e : Expr} {es : List Expr} {fs : List EX} {id T : String} {g : List D → Option Sl}
theorem pd_callB (hc : CallR X (.builtin id) (rOfN X.K X.mg g)) (hm : X.mg x = none) (hv : bootBuiltins x = some (.builtin id)) (ha : PAD X W (e :: es) fs) (hg : Gl X x := by rfl) (hn : x ≠ "__name__" := by decide) (hdb : (x == ("__debug__" : Str)) = false := by decide)
    (he : starEach (e :: es) X.env = (false, eval e X.env) :: starEach es X.env := by rfl) (hpl : (backTo pos (starEach es X.env)).any (·.1) = false := by rfl) : PD X W (.Call (.Name x p) (e :: es) [] pos) (eCB g fs) := by
  obtain ⟨t, pa, da⟩ := ha.ex
  exact ⟨_, pe_callB hc hg hm hv pa hn hdb he hpl, de_cb da⟩
theorem pd_callTy (hc : CallR X (.type T) (rOfN X.K X.mg g)) (hm : X.mg x = none) (hv : bootBuiltins x = some (.type T)) (ha : PAD X W (e :: es) fs) (hg : Gl X x := by rfl) (hn : x ≠ "__name__" := by decide) (hdb : (x == ("__debug__" : Str)) = false := by decide)
    (he : starEach (e :: es) X.env = (false, eval e X.env) :: starEach es X.env := by rfl) (hpl : (backTo pos (starEach es X.env)).any (·.1) = false := by rfl) : PD X W (.Call (.Name x p) (e :: es) [] pos) (eCB g fs) := by
  obtain ⟨t, pa, da⟩ := ha.ex
  exact ⟨_, pe_callTy hc hg hm hv pa hn hdb he hpl, de_cb da⟩
end
end Dk

set_option Elab.async false
set_option linter.all false
set_option maxRecDepth 100000
set_option maxHeartbeats 4000000
/-! Dk5: statements by data -/
namespace Dk
open PySem PySem.Spec L2

def R.bs (r : R) (k : Sl → Env → SR) : SR := match r with
  | .ok o ρ => k o ρ
  | .bad => .bad
  | .exc c fs ρ => .exc c fs ρ
def R.bsB (r : R) (k : Bool → Env → SR) : SR := match r with
  | .ok (.val (.bool b)) ρ => k b ρ
  | .exc c fs ρ => .exc c fs ρ
  | _ => .bad
@[simp] theorem R.bs_ok (o : Sl) (ρ : Env) (k : Sl → Env → SR) : (R.ok o ρ).bs k = k o ρ := Eq.trans rfl rfl
@[simp] theorem R.bs_exc (c : Str) (fs : List (Str × D)) (ρ : Env) (k : Sl → Env → SR) : (R.exc c fs ρ).bs k = .exc c fs ρ := Eq.trans rfl rfl
@[simp] theorem R.bsB_ok (b : Bool) (ρ : Env) (k : Bool → Env → SR) : (R.ok (.val (.bool b)) ρ).bsB k = k b ρ := Eq.trans rfl rfl
@[simp] theorem R.bsB_exc (c : Str) (fs : List (Str × D)) (ρ : Env) (k : Bool → Env → SR) : (R.exc c fs ρ).bsB k = .exc c fs ρ := Eq.trans rfl rfl
/-- a value as a slot keeps it: a datum, a def -/
def Sl.toVal : Sl → Option Sl
  | .val d => some (.val d)
  | .own c => some (.val c.frz)
  | .fn x => some (.fn x)
  | _ => none
section
variable {K : PySem.W.Frag} {mg : Str → Option Value} {W : WX} {P : Prot} {F F' H : Hp} {σ : SS} {ρ : Env}
def PostS (K : PySem.W.Frag) (mg : Str → Option Value) (W : WX) (P : Prot) (F : Hp) (r : SR) (D : Ends) : Prop := match r with
  | .bad => False
  | .nx ρ => ∀ F' H' σ', SubH F F' → Stt K mg P F' H' σ' ρ → D.nx σ' H'
  | .ret o ρ => ∀ F' H' σ' v, SubH F F' → Stt K mg P F' H' σ' ρ → OutOk K mg P F' H' σ' ρ v o → D.rt v H'
  | .brk ρ => ∀ F' H' σ', SubH F F' → Stt K mg P F' H' σ' ρ → D.bk σ' H'
  | .ct ρ => ∀ F' H' σ', SubH F F' → Stt K mg P F' H' σ' ρ → D.ct σ' H'
  | .exc c fs ρ => ∀ F' H' σ' C dd, SubH F F' → Stt K mg P F' H' σ' ρ → ExcOk K mg F' C dd c fs → W (.ref C) (some dd) σ' H'
theorem PostS.le {r : SR} {D : Ends} (h : SubH F F') (k : PostS K mg W P F r D) : PostS K mg W P F' r D := by
  cases r with
  | bad => exact k
  | nx ρ => exact fun G H' σ' s => k G H' σ' (h.trans s)
  | ret o ρ => exact fun G H' σ' v s => k G H' σ' v (h.trans s)
  | brk ρ => exact fun G H' σ' s => k G H' σ' (h.trans s)
  | ct ρ => exact fun G H' σ' s => k G H' σ' (h.trans s)
  | exc c fs ρ => exact fun G H' σ' C dd s => k G H' σ' C dd (h.trans s)
def DS (K : PySem.W.Frag) (mg : Str → Option Value) (W : WX) (t : TS) (f : SX) : Prop := ∀ P F H σ ρ D, Stt K mg P F H σ ρ → PostS K mg W P F (f ρ) D → t D σ H
theorem DE.bs {ta : TE} {fa : EX} {k : Sl → Env → SR} {D : Ends} {G : VK} (ha : DE K mg W ta fa) (st : Stt K mg P F H σ ρ) (h : PostS K mg W P F ((fa ρ).bs k) D)
    (hk : ∀ F1 H1 o ρ1 v, SubH F F1 → Stt K mg P F1 H1 σ ρ1 → OutOk K mg P F1 H1 σ ρ1 v o → PostS K mg W P F1 (k o ρ1) D → G v H1) : ta σ H G := by
  refine ha P F H σ ρ G st ?_
  cases e : fa ρ with
  | bad => rw [e] at h; exact h
  | ok o ρ1 =>
    rw [e] at h
    intro F1 H1 v sb st1 x
    exact hk F1 H1 o ρ1 v sb st1 x (PostS.le sb h)
  | exc c fs ρ1 => rw [e] at h; exact fun F1 H1 C dd sb st1 x => h F1 H1 σ C dd sb st1 x
theorem DT.bs {ta : TT} {fa : EX} {k : Bool → Env → SR} {D : Ends} {G : Bool → Hp → Prop} (ha : DT K mg W ta fa) (st : Stt K mg P F H σ ρ) (h : PostS K mg W P F ((fa ρ).bsB k) D)
    (hk : ∀ F1 H1 b ρ1, SubH F F1 → Stt K mg P F1 H1 σ ρ1 → PostS K mg W P F1 (k b ρ1) D → G b H1) : ta σ H G := by
  refine ha P F H σ ρ G st ?_
  cases e : fa ρ with
  | bad => rw [e] at h; exact h
  | ok o ρ1 =>
    rw [e] at h
    cases o with
    | val d =>
      cases d with
      | bool b => intro F1 H1 sb st1; exact hk F1 H1 b ρ1 sb st1 (PostS.le sb h)
      | none => exact h
      | int i => exact h
      | str i => exact h
      | list i => exact h
      | tuple i => exact h
      | dict i => exact h
      | dictT i => exact h
      | tag _ i => exact h
    | emp => exact h
    | own c => exact h
    | ref c => exact h
    | fn c => exact h
  | exc c fs ρ1 => rw [e] at h; exact fun F1 H1 C dd sb st1 x => h F1 H1 σ C dd sb st1 x
/-- to a value that a slot keeps -/
theorem Stt.toVal (st : Stt K mg P F H σ ρ) {v : V} {s s' : Sl} (x : OutOk K mg P F H σ ρ v s) (e : s.toVal = some s') : ∃ F', SubH F F' ∧ Stt K mg P F' H σ ρ ∧ OutOk K mg P F' H σ ρ v s' ∧ s'.isOwn = false := by
  cases s with
  | val d => cases e; exact ⟨F, SubH.refl F, st, x, rfl⟩
  | fn y => cases e; exact ⟨F, SubH.refl F, st, x, rfl⟩
  | own c =>
    cases e
    obtain ⟨F', sb, st', r⟩ := st.freeze x (d := c.frz) rfl
    exact ⟨F', sb, st', OutOk.val r, rfl⟩
  | emp => cases e
  | ref c => cases e
end

/-! ### stores -/
def setSl (i : Nat) (s : Sl) (ρ : Env) : Option Env := match ρ[i]? with
  | some (.ref _) => none
  | some _ => some (ρ.set i s)
  | none => none
section
variable {K : PySem.W.Frag} {mg : Str → Option Value} {W : WX} {P : Prot} {F H : Hp} {σ : SS} {ρ ρ' : Env}
theorem Owns.set_ne {i j : Nat} {a : Addr} {s : Sl} {o : Option V} (h : i ≠ j) (w : Owns (σ.set i o) (ρ.set i s) j a) : Owns σ ρ j a := by
  obtain ⟨⟨s', e, w'⟩, q⟩ := w
  rw [List.getElem?_set_ne h] at e
  rw [List.getElem?_set_ne h] at q
  exact ⟨⟨s', e, w'⟩, q⟩
theorem Stt.store (st : Stt K mg P F H σ ρ) {i : Nat} {s : Sl} {v : V} (hr : s.isRef = false) (x : SlOk K mg P F H (some v) s) (fr : s.isOwn = true → ∀ (j : Nat) (a : Addr), v = .ref a → ¬ Owns σ ρ j a) (e : setSl i s ρ = some ρ') : Stt K mg P F H (σ.set i (some v)) ρ' := by
  unfold setSl at e
  cases q : ρ[i]? with
  | none => simp only [q] at e; cases e
  | some s0 =>
    have hi : i < ρ.length := by
      rcases Nat.lt_or_ge i ρ.length with h | h
      · exact h
      · rw [List.getElem?_eq_none h] at q; cases q
    have hσ : i < σ.length := by rw [st.len]; exact hi
    have nr : s0.isRef = false ∧ ρ' = ρ.set i s := by
      cases s0 <;> simp only [q] at e <;> first | (cases e; exact ⟨rfl, rfl⟩) | cases e
    obtain ⟨nr, rfl⟩ := nr
    have own_i : ∀ a, Owns (σ.set i (some v)) (ρ.set i s) i a → s.isOwn = true ∧ v = .ref a := fun a w => by
      obtain ⟨⟨s', e1, w'⟩, q1⟩ := w
      rw [List.getElem?_set_self hi] at e1; cases e1
      rw [List.getElem?_set_self hσ] at q1; cases q1
      exact ⟨w', rfl⟩
    refine ⟨st.sub, st.keep, by simp [st.len], fun j s' e1 => ?_, fun j k a w1 w2 => ?_, fun j u e1 => ?_⟩
    · by_cases h : i = j
      · subst h
        rw [List.getElem?_set_self hi] at e1; cases e1
        rw [getD_of (v := v) (List.getElem?_set_self hσ)]
        exact x
      · rw [List.getElem?_set_ne h] at e1
        have := st.sl j s' e1
        rw [show (σ.set i (some v)).getD j none = σ.getD j none by simp [List.getD, List.getElem?_set_ne h]]
        exact this
    · by_cases h1 : i = j
      · subst h1
        by_cases h2 : i = k
        · exact h2
        · obtain ⟨z1, z2⟩ := own_i a w1
          exact absurd (w2.set_ne h2) (fr z1 k a z2)
      · by_cases h2 : i = k
        · subst h2
          obtain ⟨z1, z2⟩ := own_i a w2
          exact absurd (w1.set_ne h1) (fr z1 j a z2)
        · exact st.apart j k a (w1.set_ne h1) (w2.set_ne h2)
    · obtain ⟨z1, s', z2, z3⟩ := st.pin j u e1
      by_cases h : i = j
      · subst h
        rw [q] at z2; cases z2; rw [nr] at z3; cases z3
      · rw [List.getElem?_set_ne h, List.getElem?_set_ne h]
        exact ⟨z1, s', z2, z3⟩
end

/-! ### targets by data -/
/-- the slots but those of ts are as they were -/
def Agree (ts : List Nat) (σ σ' : SS) : Prop := σ'.length = σ.length ∧ ∀ j, j ∉ ts → σ'[j]? = σ[j]?
theorem Agree.refl (ts : List Nat) (σ : SS) : Agree ts σ σ := ⟨rfl, fun _ _ => rfl⟩
theorem Agree.trans {ts us : List Nat} {a b c : SS} (x : Agree ts a b) (y : Agree us b c) : Agree (ts ++ us) a c := ⟨y.1.trans x.1, fun j h => by
  rw [List.mem_append, not_or] at h
  exact (y.2 j h.2).trans (x.2 j h.1)⟩
/-- a store into a target, by data; ts: the slots it touches -/
structure Tg where
  h : D → Env → Option Env
  ts : List Nat
structure Tgs where
  h : List D → Env → Option Env
  ts : List Nat
def DG (K : PySem.W.Frag) (mg : Str → Option Value) (g : TG) (h : Tg) : Prop := ∀ P F H σ ρ ρ' d v Q, Stt K mg P F H σ ρ → Rep K F d v → h.h d ρ = some ρ' → (∀ σ', Stt K mg P F H σ' ρ' → Agree h.ts σ σ' → Q σ' H) → g v σ H Q
def DGs (K : PySem.W.Frag) (mg : Str → Option Value) (g : TGs) (h : Tgs) : Prop := ∀ P F H σ ρ ρ' ds vs Q, Stt K mg P F H σ ρ → RepL K F ds vs → h.h ds ρ = some ρ' → (∀ σ', Stt K mg P F H σ' ρ' → Agree h.ts σ σ' → Q σ' H) → g vs σ H Q
structure PGD (X : Cx) (tg : Expr) (h : Tg) : Prop where
  ex : ∃ g, PG X tg g ∧ DG X.K X.mg g h
structure PGsD (X : Cx) (tg : List Expr) (h : Tgs) : Prop where
  ex : ∃ g, PGs X tg g ∧ DGs X.K X.mg g h
def gN (i : Nat) : Tg := ⟨fun d ρ => setSl i (.val d) ρ, [i]⟩
def gsN : Tgs := ⟨fun ds ρ => match ds with
  | [] => some ρ
  | _ => none, []⟩
def gsC (h : Tg) (hs : Tgs) : Tgs := ⟨fun ds ρ => match ds with
  | d :: r => (h.h d ρ).bind fun ρ1 => hs.h r ρ1
  | [] => none, h.ts ++ hs.ts⟩
def gT (n : Nat) (hs : Tgs) : Tg := ⟨fun d ρ => match d.un with
  | .tuple ds => if ds.length = n then hs.h ds ρ else none
  | _ => none, hs.ts⟩
section
variable {X : Cx} {pos : Pos}
theorem dg_name (K : PySem.W.Frag) (mg : Str → Option Value) (i : Nat) : DG K mg (gName i) (gN i) := fun P F H σ ρ ρ' d v Q st r e k => k _ (st.store (s := .val d) rfl ⟨v, rfl, r⟩ (fun z => by cases z) e) ⟨by simp, fun j hj => List.getElem?_set_ne (fun z => hj (by subst z; exact List.mem_cons_self))⟩
theorem pgd_name {i : Nat} {x : Str} (hN : X.N.Nodup) (hi : X.N[i]? = some x) (hx : Loc X.env.scope x) (hf : X.fn x = true ∨ X.env.scope.names.lookup x = some .local := by first | exact .inl rfl | exact .inr rfl | assumption) : PGD X (.Name x pos) (gN i) := ⟨_, pg_name hN hi hx hf, dg_name _ _ i⟩
theorem pgsd_nil : PGsD X [] gsN := ⟨_, pgs_nil, fun P F H σ ρ ρ' ds vs Q st r e k => by
  cases ds with
  | nil => cases e; unfold RepL at r; exact ⟨r, k σ st (Agree.refl _ _)⟩
  | cons _ _ => cases e⟩
theorem pgsd_cons {e : Expr} {es : List Expr} {h : Tg} {hs : Tgs} (h1 : PGD X e h) (h2 : PGsD X es hs) (hst : (assignEach (e :: es) X.env).map (·.2) = assign e X.env :: (assignEach es X.env).map (·.2) := by rfl) : PGsD X (e :: es) (gsC h hs) := by
  obtain ⟨g, p, d⟩ := h1.ex
  obtain ⟨u, q, d2⟩ := h2.ex
  refine ⟨_, pgs_cons p q hst, fun P F H σ ρ ρ' ds vs Q st r e k => ?_⟩
  cases ds with
  | nil => cases e
  | cons x ds =>
    unfold RepL at r
    obtain ⟨v, ws, rfl, r1, r2⟩ := r
    simp only [gsC] at e
    cases z : h.h x ρ with
    | none => rw [z] at e; cases e
    | some ρ1 =>
      rw [z] at e
      exact ⟨v, ws, rfl, d P F H σ ρ ρ1 x v _ st r1 z fun σ' st' a1 => d2 P F H σ' ρ1 ρ' ds ws Q st' r2 e fun σ2 st2 a2 => k σ2 st2 (a1.trans a2)⟩
theorem pgd_tup {es : List Expr} {k n : Nat} {hs : Tgs} (h : PGsD X es hs) (hc : X.calm = true := by rfl) (hn : (assignEach es X.env).length = n := by rfl) (hst : (assignEach es X.env).findIdx? (·.1) = none := by rfl) : PGD X (.Tuple es k pos) (gT n hs) := by
  obtain ⟨u, q, d⟩ := h.ex
  refine ⟨_, pg_tup hc q hn hst, fun P F H σ ρ ρ' x v Q st r e kk => ?_⟩
  simp only [gT] at e
  replace r := r.un
  generalize x.un = x at *
  split at e
  · split at e
    · rename_i ds hl
      obtain ⟨a, vs, rfl, s, l⟩ := rep_tup r
      exact ⟨a, vs, rfl, SqT.le st.sub.rd s, by rw [l.length, hl], d P F H σ ρ ρ' ds vs Q st l e kk⟩
    · cases e
  · cases e
end

/-! ### statements -/
def sNx : SX := fun ρ => .nx ρ
def sSeq (f g : SX) : SX := fun ρ => match f ρ with
  | .nx ρ' => g ρ'
  | r => r
def sAsg (i : Nat) (f : EX) : SX := fun ρ => (f ρ).bs fun o ρ1 => match o.toVal with
  | some s => (match setSl i s ρ1 with | some ρ2 => .nx ρ2 | none => .bad)
  | none => .bad
/-- the slot gets an object of its own -/
def sAsgO (i : Nat) (f : EX) : SX := fun ρ => (f ρ).bs fun o ρ1 => match o with
  | .own c => (match setSl i (.own c) ρ1 with | some ρ2 => .nx ρ2 | none => .bad)
  | _ => .bad
def sTgt (h : Tg) (f : EX) : SX := fun ρ => (f ρ).bs fun o ρ1 => match o.frz with
  | some d => (match h.h d ρ1 with | some ρ2 => .nx ρ2 | none => .bad)
  | none => .bad
def sDrop (f : EX) : SX := fun ρ => (f ρ).bs fun _ ρ1 => .nx ρ1
def sRet (f : EX) : SX := fun ρ => (f ρ).bs fun o ρ1 => .ret o ρ1
def sIf (c : EX) (f g : SX) : SX := fun ρ => (c ρ).bsB fun b ρ1 => if b = true then f ρ1 else g ρ1
def sBrk : SX := fun ρ => .brk ρ
def sCt : SX := fun ρ => .ct ρ
section
variable {K : PySem.W.Frag} {mg : Str → Option Value} {W : WX}
theorem ds_nx : DS K mg W tNext sNx := fun P F H σ ρ D st h => h F H σ (SubH.refl F) st
theorem ds_seq {t u : TS} {f g : SX} (h1 : DS K mg W t f) (h2 : DS K mg W u g) : DS K mg W (tSeq t u) (sSeq f g) := by
  intro P F H σ ρ D st h
  refine h1 P F H σ ρ _ st ?_
  unfold sSeq at h
  cases e : f ρ with
  | nx ρ' =>
    simp only [e] at h
    intro F1 H1 σ1 sb st1
    exact h2 P F1 H1 σ1 ρ' D st1 (PostS.le sb h)
  | bad => simp only [e] at h; exact h
  | ret o ρ' => simp only [e] at h; exact h
  | brk ρ' => simp only [e] at h; exact h
  | ct ρ' => simp only [e] at h; exact h
  | exc c fs ρ' => simp only [e] at h; exact h
theorem ds_asg {te : TE} {f : EX} (i : Nat) (h : DE K mg W te f) : DS K mg W (tAsg te (gName i)) (sAsg i f) := by
  intro P F H σ ρ D st hp
  refine h.bs st hp fun F1 H1 o ρ1 v sb st1 x q => ?_
  cases e : o.toVal with
  | none => simp only [e] at q; exact q.elim
  | some s =>
    simp only [e] at q
    cases z : setSl i s ρ1 with
    | none => simp only [z] at q; exact q.elim
    | some ρ2 =>
      simp only [z] at q
      obtain ⟨F2, sb2, st2, x2, no⟩ := st1.toVal x e
      exact q F2 H1 _ sb2 (st2.store x2.nr x2.sl (fun w => by rw [no] at w; cases w) z)
theorem ds_asgO {te : TE} {f : EX} (i : Nat) (h : DE K mg W te f) : DS K mg W (tAsg te (gName i)) (sAsgO i f) := by
  intro P F H σ ρ D st hp
  refine h.bs st hp fun F1 H1 o ρ1 v sb st1 x q => ?_
  cases o with
  | own c =>
    simp only at q
    cases z : setSl i (.own c) ρ1 with
    | none => simp only [z] at q; exact q.elim
    | some ρ2 =>
      simp only [z] at q
      exact q F1 H1 _ (SubH.refl F1) (st1.store rfl x.sl x.free z)
  | emp => exact q.elim
  | val d => exact q.elim
  | ref c => exact q.elim
  | fn c => exact q.elim
theorem ds_tgt {te : TE} {f : EX} {g : TG} {hh : Tg} (h : DE K mg W te f) (hg : DG K mg g hh) : DS K mg W (tAsg te g) (sTgt hh f) := by
  intro P F H σ ρ D st hp
  refine h.bs st hp fun F1 H1 o ρ1 v sb st1 x q => ?_
  cases e : o.frz with
  | none => simp only [e] at q; exact q.elim
  | some d =>
    simp only [e] at q
    cases z : hh.h d ρ1 with
    | none => simp only [z] at q; exact q.elim
    | some ρ2 =>
      simp only [z] at q
      obtain ⟨F2, sb2, st2, r⟩ := st1.freeze x e
      exact hg P F2 H1 σ ρ1 ρ2 d v _ st2 r z fun σ' st' _ => q F2 H1 σ' sb2 st'
theorem ds_drop {te : TE} {f : EX} (h : DE K mg W te f) : DS K mg W (tDrop te) (sDrop f) := by
  intro P F H σ ρ D st hp
  exact h.bs st hp fun F1 H1 o ρ1 v sb st1 x q => q F1 H1 σ (SubH.refl F1) st1
theorem ds_ret {te : TE} {f : EX} (h : DE K mg W te f) : DS K mg W (tRet te) (sRet f) := by
  intro P F H σ ρ D st hp
  exact h.bs st hp fun F1 H1 o ρ1 v sb st1 x q => q F1 H1 σ v (SubH.refl F1) st1 x
theorem ds_retN : DS K mg W tRetN (sRet (eC .none)) := fun P F H σ ρ D st h => h F H σ .non (SubH.refl F) st (OutOk.val mk_none)
theorem ds_if {tc : TT} {t u : TS} {c : EX} {f g : SX} (hc : DT K mg W tc c) (h1 : DS K mg W t f) (h2 : DS K mg W u g) : DS K mg W (tIfS tc t u) (sIf c f g) := by
  intro P F H σ ρ D st hp
  refine hc.bs st hp fun F1 H1 b ρ1 sb st1 q => ?_
  cases b with
  | true => exact h1 P F1 H1 σ ρ1 D st1 q
  | false => exact h2 P F1 H1 σ ρ1 D st1 q
theorem ds_brk : DS K mg W tBreak sBrk := fun P F H σ ρ D st h => h F H σ (SubH.refl F) st
theorem ds_ct : DS K mg W tCont sCt := fun P F H σ ρ D st h => h F H σ (SubH.refl F) st
end
structure PSD (X : Cx) (W : WX) (st : Stmt) (f : SX) : Prop where
  ex : ∃ t, PS X st t ∧ DS X.K X.mg W t f
structure PSsD (X : Cx) (W : WX) (st : List Stmt) (f : SX) : Prop where
  ex : ∃ t, PSs X st t ∧ DS X.K X.mg W t f
section
variable {X : Cx} {W : WX} {s : Stmt} {rest : List Stmt} {f g : SX} {e c : Expr} {fe fc : EX} {pos pos' : Pos} {x : Str} {a b : List Stmt}
theorem pssd_nil : PSsD X W [] sNx := ⟨_, pss_nil, ds_nx⟩
theorem pssd_cons (h1 : PSD X W s f) (h2 : PSsD X W rest g) : PSsD X W (s :: rest) (sSeq f g) := by
  obtain ⟨t, p, d⟩ := h1.ex
  obtain ⟨u, q, d2⟩ := h2.ex
  exact ⟨_, pss_cons p q, ds_seq d d2⟩
theorem pssd_one (h1 : PSD X W s f) : PSsD X W [s] f := by
  obtain ⟨t, p, d⟩ := h1.ex
  exact ⟨_, pss_one p, d⟩
theorem psd_pass : PSD X W (.Pass pos) sNx := ⟨_, ps_pass, ds_nx⟩
theorem psd_brk : PSD X W (.Break pos) sBrk := ⟨_, ps_break, ds_brk⟩
theorem psd_ct : PSD X W (.Continue pos) sCt := ⟨_, ps_continue, ds_ct⟩
theorem psd_asg (i : Nat) (hN : X.N.Nodup) (he : PD X W e fe) (hi : X.N[i]? = some x := by rfl) (hx : Loc X.env.scope x := by first | exact Or.inl rfl | exact Or.inr rfl) (hs : swapsWith e (some (.Name x pos')) pos.line X.env = pure false := by rfl) (hf : X.fn x = true ∨ X.env.scope.names.lookup x = some .local := by first | exact .inl rfl | exact .inr rfl | assumption) : PSD X W (.Assign [.Name x pos'] e pos) (sAsg i fe) := by
  obtain ⟨t, p, d⟩ := he.ex
  exact ⟨_, ps_set hN hi hx p hs hf, ds_asg i d⟩
theorem psd_asgO (i : Nat) (hN : X.N.Nodup) (he : PD X W e fe) (hi : X.N[i]? = some x := by rfl) (hx : Loc X.env.scope x := by first | exact Or.inl rfl | exact Or.inr rfl) (hs : swapsWith e (some (.Name x pos')) pos.line X.env = pure false := by rfl) (hf : X.fn x = true ∨ X.env.scope.names.lookup x = some .local := by first | exact .inl rfl | exact .inr rfl | assumption) : PSD X W (.Assign [.Name x pos'] e pos) (sAsgO i fe) := by
  obtain ⟨t, p, d⟩ := he.ex
  exact ⟨_, ps_set hN hi hx p hs hf, ds_asgO i d⟩
theorem psd_tgt {tg : Expr} {h : Tg} (he : PD X W e fe) (hg : PGD X tg h) (hs : swapsWithSole [tg] e pos.line X.env = pure false := by rfl) (hw : swappedStores [tg] e X.env = pure none := by rfl) (h1 : (assignEach [tg] X.env).map (·.2) = [assign tg X.env] := by rfl) : PSD X W (.Assign [tg] e pos) (sTgt h fe) := by
  obtain ⟨t, p, d⟩ := he.ex
  obtain ⟨u, q, d2⟩ := hg.ex
  exact ⟨_, ps_asg p q hs hw h1, ds_tgt d d2⟩
theorem psd_drop (he : PD X W e fe) (hs : swapsWith e none pos.line X.env = pure false := by rfl) : PSD X W (.Expr e pos) (sDrop fe) := by
  obtain ⟨t, p, d⟩ := he.ex
  exact ⟨_, ps_expr p hs, ds_drop d⟩
theorem psd_ret (he : PD X W e fe) : PSD X W (.Return (some e) pos) (sRet fe) := by
  obtain ⟨t, p, d⟩ := he.ex
  exact ⟨_, ps_ret p, ds_ret d⟩
theorem psd_retN : PSD X W (.Return none pos) (sRet (eC .none)) := ⟨_, ps_retN, ds_retN⟩
theorem psd_if (hc : PTD X W c fc) (ha : PSsD X W a f) (hb : PSsD X W b g) : PSD X W (.If c a b pos) (sIf fc f g) := by
  obtain ⟨t, p, d⟩ := hc.ex
  obtain ⟨ta, pa, da⟩ := ha.ex
  obtain ⟨tb, pb, db⟩ := hb.ex
  exact ⟨_, ps_if p pa pb, ds_if d da db⟩
end

/-! ### what is walked -/
/-- the iterator J yields the data ds, wherever F stands -/
def ItOk (K : PySem.W.Frag) (mg : Str → Option Value) (J : It) (F : Hp) (ds : List D) : Prop := ∀ P F' H σ ρ i, SubH F F' → Stt K mg P F' H σ ρ →
  (i = ds.length → J.stop i H) ∧ ∀ d, ds[i]? = some d → J.go i H ∧ ∀ x H', J.yld i H x H' → ∃ F'', SubH F' F'' ∧ Stt K mg P F'' H' σ ρ ∧ Rep K F'' d x
def PostI (K : PySem.W.Frag) (mg : Str → Option Value) (W : WX) (P : Prot) (F : Hp) (σ : SS) (r : R) (Q : It → Hp → Prop) : Prop := match r with
  | .ok (.val (.list ds)) ρ => ∀ F' H' J, SubH F F' → Stt K mg P F' H' σ ρ → ItOk K mg J F' ds → Q J H'
  | .exc c fs ρ => KontX K mg P F σ ρ c fs fun C d H' => W C d σ H'
  | _ => False
def DI (K : PySem.W.Frag) (mg : Str → Option Value) (W : WX) (wi : TI) (f : EX) : Prop := ∀ P F H σ ρ Q, Stt K mg P F H σ ρ → PostI K mg W P F σ (f ρ) Q → wi σ H Q
structure PID (X : Cx) (W : WX) (tg iter : Expr) (f : EX) : Prop where
  ex : ∃ wi, PI X tg iter wi ∧ DI X.K X.mg W wi f
/-- the data that a datum yields when it is walked -/
def itB : D → Option (List D)
  | .list ds => some ds
  | .tuple ds => some ds
  | .str x => some (x.cps.toList.map fun c => .str ⟨#[c]⟩)
  | _ => none
def iAny (f : EX) : EX := fun ρ => (f ρ).bindV fun d ρ1 => match itB d.un with
  | some ds => .ok (.val (.list ds)) ρ1
  | none => .bad
def wAny (K : PySem.W.Frag) (te : TE) : TI := fun σ H R => te σ H fun x H1 => (∃ a, x = .ref a ∧ (∃ xs, SqL K H1 a xs) ∧ R (Itl K a) H1) ∨ (∃ a, x = .ref a ∧ (∃ xs, SqT K H1 a xs) ∧ R (Itt K a) H1) ∨ ∃ y, x = .str y ∧ R (Its y) H1
theorem pi_any {X : Cx} {tg l : Expr} {tl : TE} (hl : PE X l tl) : PI X tg l (wAny X.K tl) := by
  refine ⟨fun pins s σ H R I h => ?_⟩
  refine thn (hl.run pins s σ H _ I h) fun v s1 ⟨x, H1, I1, r1, q1⟩ => ?_
  rcases q1 with ⟨a, e, ⟨xs, hq⟩, q⟩ | ⟨a, e, ⟨xs, hq⟩, q⟩ | ⟨y, e, q⟩
  · subst e
    cases r1
    obtain ⟨its, rv, p, hz⟩ := I1.list hq
    refine wpAny_pyIter_list p.isList ?_
    refine ⟨s1.heap.objs.size, [s1.heap.objs.size], _, _, H1, rfl, I1.kept (t' := s1.toks) fun b o e => Heap.get?_push_of_some _ e, turn_list a _, ⟨_, Heap.get?_push_size _ rfl, rfl, rfl⟩, fun b hb => ?_, q⟩
    have e : b = s1.heap.objs.size := by simpa using hb
    subst e
    exact I1.fpOk (Nat.le_refl _) (I1.hok.fresh (Nat.le_refl _))
  · subst e
    cases r1
    obtain ⟨its, rv, p, hz⟩ := I1.tuple hq
    refine wpAny_pyIter_tuple (show s1.heap.IsTuple a its.toArray from p) ?_
    refine ⟨s1.heap.objs.size, [s1.heap.objs.size], _, _, H1, rfl, I1.kept (t' := s1.toks) fun b o e => Heap.get?_push_of_some _ e, turn_tuple a _, ⟨_, Heap.get?_push_size _ rfl, rfl, rfl⟩, fun b hb => ?_, q⟩
    have e : b = s1.heap.objs.size := by simpa using hb
    subst e
    exact I1.fpOk (Nat.le_refl _) (I1.hok.fresh (Nat.le_refl _))
  · subst e
    obtain ⟨t, rfl⟩ := r1
    cases ha : y.cps.all (· < 128)
    · exact wpAny_pyIter_wide ha (pi_one (tk := s1.toks) I1 _ (turn_str _ y t "str_iterator" (.inr rfl)) ⟨_, Heap.get?_push_size _ rfl, rfl, rfl⟩ q)
    · exact wpAny_pyIter_ascii ha (pi_one (tk := s1.toks) I1 _ (turn_str _ y t "str_ascii_iterator" (.inl rfl)) ⟨_, Heap.get?_push_size _ rfl, rfl, rfl⟩ q)
section
variable {K : PySem.W.Frag} {mg : Str → Option Value} {W : WX}
theorem itok_list {F : Hp} {a : Addr} {vs : List V} {ds : List D} (s : SqL K F a vs) (l : RepL K F ds vs) : ItOk K mg (Itl K a) F ds := by
  intro P F' H σ ρ i sb st
  have sH : SqL K H a vs := SqL.le (sb.trans st.sub).rd s
  refine ⟨fun e => ⟨vs, sH, by rw [l.length]; omega⟩, fun d e => ?_⟩
  obtain ⟨v, h1, h2⟩ := l.get e
  refine ⟨⟨vs, v, sH, h1⟩, fun x H' y => ?_⟩
  obtain ⟨rfl, q⟩ := y
  have ex : x = v := Option.some.inj ((q vs sH).symm.trans h1)
  subst ex
  exact ⟨F', SubH.refl _, st, Rep.le sb.rd d x h2⟩
theorem itok_tup {F : Hp} {a : Addr} {vs : List V} {ds : List D} (s : SqT K F a vs) (l : RepL K F ds vs) : ItOk K mg (Itt K a) F ds := by
  intro P F' H σ ρ i sb st
  have sH : SqT K H a vs := SqT.le (sb.trans st.sub).rd s
  refine ⟨fun e => ⟨vs, sH, by rw [l.length]; omega⟩, fun d e => ?_⟩
  obtain ⟨v, h1, h2⟩ := l.get e
  refine ⟨⟨vs, v, sH, h1⟩, fun x H' y => ?_⟩
  obtain ⟨rfl, q⟩ := y
  have ex : x = v := Option.some.inj ((q vs sH).symm.trans h1)
  subst ex
  exact ⟨F', SubH.refl _, st, Rep.le sb.rd d x h2⟩
theorem itok_str {F : Hp} {y : Str} : ItOk K mg (Its y) F (y.cps.toList.map fun c => .str ⟨#[c]⟩) := by
  intro P F' H σ ρ i sb st
  refine ⟨fun e => ?_, fun d e => ?_⟩
  · have : i = y.cps.size := by simpa using e
    show y.cps.size ≤ i
    omega
  · rw [List.getElem?_map] at e
    cases q : y.cps.toList[i]? with
    | none => rw [q] at e; cases e
    | some c =>
      rw [q] at e; cases e
      have hc : y.cps[i]? = some c := by rw [← Array.getElem?_toList]; exact q
      have hi : i < y.cps.size := by
        rcases Nat.lt_or_ge i y.cps.size with h | h
        · exact h
        · rw [Array.getElem?_eq_none h] at hc; cases hc
      refine ⟨hi, fun x H' z => ?_⟩
      obtain ⟨rfl, c', h1, rfl⟩ := z
      rw [hc] at h1; cases h1
      exact ⟨F', SubH.refl _, st, mk_str⟩
end
section
variable {K : PySem.W.Frag} {mg : Str → Option Value} {W : WX} {P : Prot} {F F' H : Hp} {σ : SS} {ρ : Env}
theorem PostI.le {r : R} {Q : It → Hp → Prop} (h : SubH F F') (k : PostI K mg W P F σ r Q) : PostI K mg W P F' σ r Q := by
  cases r with
  | bad => exact k
  | ok o ρ =>
    cases o with
    | val d =>
      cases d with
      | list ds => exact fun G H' J s => k G H' J (h.trans s)
      | none => exact k
      | bool i => exact k
      | int i => exact k
      | str i => exact k
      | tuple i => exact k
      | dict i => exact k
      | dictT i => exact k
      | tag _ i => exact k
    | emp => exact k
    | own c => exact k
    | ref c => exact k
    | fn c => exact k
  | exc c fs ρ => exact fun G H' C dd s => k G H' C dd (h.trans s)
theorem DE.bindI {ta : TE} {fa : EX} {k : D → Env → R} {Q : It → Hp → Prop} {G : VK} (ha : DE K mg W ta fa) (st : Stt K mg P F H σ ρ) (h : PostI K mg W P F σ ((fa ρ).bindV k) Q)
    (hk : ∀ F1 H1 d ρ1 v, SubH F F1 → Stt K mg P F1 H1 σ ρ1 → Rep K F1 d v → PostI K mg W P F1 σ (k d ρ1) Q → G v H1) : ta σ H G := by
  refine ha P F H σ ρ G st ?_
  cases e : fa ρ with
  | bad => rw [e] at h; exact h
  | ok o ρ1 =>
    rw [e] at h
    intro F1 H1 v sb st1 x
    cases z : o.frz with
    | none => simp only [R.bindV, z] at h; exact h.elim
    | some d =>
      simp only [R.bindV, z] at h
      obtain ⟨F2, sb2, st2, r⟩ := st1.freeze x z
      exact hk F2 H1 d ρ1 v (sb.trans sb2) st2 r (PostI.le (sb.trans sb2) h)
  | exc c fs ρ1 => rw [e] at h; exact h
theorem di_any {te : TE} {f : EX} (h : DE K mg W te f) : DI K mg W (wAny K te) (iAny f) := by
  intro P F H σ ρ Q st hp
  refine h.bindI st hp fun F1 H1 d ρ1 v sb st1 r q => ?_
  replace r := r.un
  generalize d.un = d at *
  unfold itB at q
  cases d with
  | list ds =>
    obtain ⟨a, vs, rfl, s, l⟩ := rep_list r
    exact .inl ⟨a, rfl, ⟨vs, SqL.le st1.sub.rd s⟩, q F1 H1 _ (SubH.refl _) st1 (itok_list s l)⟩
  | tuple ds =>
    obtain ⟨a, vs, rfl, s, l⟩ := rep_tup r
    exact .inr (.inl ⟨a, rfl, ⟨vs, SqT.le st1.sub.rd s⟩, q F1 H1 _ (SubH.refl _) st1 (itok_tup s l)⟩)
  | str y =>
    rw [rep_str r]
    exact .inr (.inr ⟨y, rfl, q F1 H1 _ (SubH.refl _) st1 itok_str⟩)
  | none => exact q.elim
  | bool i => exact q.elim
  | int i => exact q.elim
  | dict i => exact q.elim
  | dictT i => exact q.elim
  | tag _ i => exact q.elim
end
theorem pid_any {X : Cx} {W : WX} {tg l : Expr} {f : EX} (h : PD X W l f) : PID X W tg l (iAny f) := by
  obtain ⟨t, p, d⟩ := h.ex
  exact ⟨_, pi_any p, di_any d⟩
/-- range(n), range(a, b) -/
def rngL (lo : Int) (n : Nat) : List D := (List.range n).map fun (i : Nat) => .int (lo + (i : Int))
def iRng1D (f : EX) : EX := fun ρ => eArgs [f] ρ fun ds ρ1 => match ds.map D.un with
  | [.int j] => if -(2 ^ 62) ≤ j ∧ j < 2 ^ 62 then .ok (.val (.list (rngL 0 j.toNat))) ρ1 else .bad
  | _ => .bad
def iRng2D (f g : EX) : EX := fun ρ => eArgs [f, g] ρ fun ds ρ1 => match ds.map D.un with
  | [.int i, .int j] => if -(2 ^ 62) ≤ i ∧ i < 2 ^ 62 ∧ -(2 ^ 62) ≤ j ∧ j < 2 ^ 62 then .ok (.val (.list (rngL i (j - i).toNat))) ρ1 else .bad
  | _ => .bad
section
variable {K : PySem.W.Frag} {mg : Str → Option Value} {W : WX} {P : Prot} {F F' H : Hp} {σ : SS} {ρ : Env}
theorem itok_rng {F : Hp} {lo : Int} {n : Nat} : ItOk K mg (Itr lo n) F (rngL lo n) := by
  intro P F' H σ ρ i sb st
  refine ⟨fun e => ?_, fun d e => ?_⟩
  · have : i = n := by simpa [rngL] using e
    show n ≤ i
    omega
  · unfold rngL at e
    rw [List.getElem?_map] at e
    cases q : (List.range n)[i]? with
    | none => rw [q] at e; cases e
    | some c =>
      rw [q] at e; cases e
      have hi : i < n := by
        rcases Nat.lt_or_ge i n with h | h
        · exact h
        · rw [List.getElem?_eq_none (by simpa using h)] at q; cases q
      have hc : c = i := by rw [List.getElem?_range hi] at q; exact (Option.some.inj q).symm
      subst hc
      refine ⟨hi, fun x H' z => ?_⟩
      obtain ⟨rfl, rfl⟩ := z
      exact ⟨F', SubH.refl _, st, mk_int⟩
/-- an argument list for a walk -/
theorem DA.bindI {ta : TA} {fs : List EX} {k : List D → Env → R} {Q : It → Hp → Prop} {G : List V → Hp → Prop} (ha : DA K mg W ta fs) (st : Stt K mg P F H σ ρ) (h : PostI K mg W P F σ (eArgs fs ρ k) Q)
    (hk : ∀ F1 H1 ds ρ1 vs, SubH F F1 → Stt K mg P F1 H1 σ ρ1 → RepL K F1 ds vs → ds.length = fs.length → PostI K mg W P F1 σ (k ds ρ1) Q → G vs H1) : ta σ H G := by
  refine ha P F H σ ρ G st ?_
  rw [eArgs_eq] at h
  cases e : eArgsR fs ρ with
  | bad => rw [e] at h; exact h
  | exc c gs ρ1 => rw [e] at h; exact h
  | ok o ρ1 =>
    rw [e] at h
    cases o with
    | val d =>
      cases d with
      | list ds => intro F1 H1 vs sb st1 r hl; exact hk F1 H1 ds ρ1 vs sb st1 r hl (PostI.le sb h)
      | none => exact h
      | bool i => exact h
      | int i => exact h
      | str i => exact h
      | tuple i => exact h
      | dict i => exact h
      | dictT i => exact h
      | tag _ i => exact h
    | emp => exact h
    | own c => exact h
    | ref c => exact h
    | fn c => exact h
theorem di_rng1 {ta : TA} {f : EX} (h : DA K mg W ta [f]) : DI K mg W (iRng1 ta) (iRng1D f) := by
  intro P F H σ ρ Q st hp
  refine h.bindI st hp fun F1 H1 ds ρ1 vs sb st1 r hl q => ?_
  replace r := r.un
  generalize ds.map D.un = ds at *
  split at q
  · split at q
    · rename_i j hc
      unfold RepL at r
      obtain ⟨v, ws, rfl, r1, r2⟩ := r
      unfold RepL at r2
      subst r2
      rw [rep_int r1]
      exact ⟨j, rfl, hc.1, hc.2, q F1 H1 _ (SubH.refl _) st1 itok_rng⟩
    · exact q.elim
  · exact q.elim
theorem di_rng2 {ta : TA} {f g : EX} (h : DA K mg W ta [f, g]) : DI K mg W (iRng2 ta) (iRng2D f g) := by
  intro P F H σ ρ Q st hp
  refine h.bindI st hp fun F1 H1 ds ρ1 vs sb st1 r hl q => ?_
  replace r := r.un
  generalize ds.map D.un = ds at *
  split at q
  · split at q
    · rename_i i j hc
      unfold RepL at r
      obtain ⟨v, ws, rfl, r1, r2⟩ := r
      unfold RepL at r2
      obtain ⟨v2, ws2, rfl, r3, r4⟩ := r2
      unfold RepL at r4
      subst r4
      rw [rep_int r1, rep_int r3]
      exact ⟨i, j, rfl, hc, q F1 H1 _ (SubH.refl _) st1 itok_rng⟩
    · exact q.elim
  · exact q.elim
end
section
variable {X : Cx} {W : WX} {tg a b : Expr} {p pos : Pos} {f g : EX}
theorem pid_rng1 (ha : PAD X W [a] [f]) (hm : X.mg "range" = none) (hg : Gl X "range" := by rfl) (hs : starEach [a] X.env = [(false, eval a X.env)] := by rfl) : PID X W tg (.Call (.Name "range" p) [a] [] pos) (iRng1D f) := by
  obtain ⟨t, pa, da⟩ := ha.ex
  exact ⟨_, pi_range1 hg hm pa hs, di_rng1 da⟩
theorem pid_rng2 (ha : PAD X W [a, b] [f, g]) (hm : X.mg "range" = none) (hg : Gl X "range" := by rfl) (hs : starEach [a, b] X.env = [(false, eval a X.env), (false, eval b X.env)] := by rfl) (hs2 : starEach [b] X.env = [(false, eval b X.env)] := by rfl) : PID X W tg (.Call (.Name "range" p) [a, b] [] pos) (iRng2D f g) := by
  obtain ⟨t, pa, da⟩ := ha.ex
  exact ⟨_, pi_range2 hg hm pa hs hs2, di_rng2 da⟩
end

/-! ### for, while -/
def forD (h : Tg) (body : SX) : List D → Env → SR
  | [], ρ => .nx ρ
  | d :: ds, ρ => match h.h d ρ with
    | none => .bad
    | some ρ1 => match body ρ1 with
      | .nx ρ2 => forD h body ds ρ2
      | .ct ρ2 => forD h body ds ρ2
      | .brk ρ2 => .nx ρ2
      | r => r
def sFor (fi : EX) (h : Tg) (body : SX) : SX := fun ρ => match fi ρ with
  | .ok (.val (.list ds)) ρ1 => forD h body ds ρ1
  | .exc c fs ρ1 => .exc c fs ρ1
  | _ => .bad
def whileD (c : EX) (body : SX) : Nat → Env → SR
  | 0, _ => .bad
  | n + 1, ρ => (c ρ).bsB fun b ρ1 => if b = true then (match body ρ1 with
      | .nx ρ2 => whileD c body n ρ2
      | .ct ρ2 => whileD c body n ρ2
      | .brk ρ2 => .nx ρ2
      | r => r) else .nx ρ1
def sWhile (n : Nat) (c : EX) (body : SX) : SX := fun ρ => whileD c body n ρ
section
variable {K : PySem.W.Frag} {mg : Str → Option Value} {W : WX}
theorem ds_for {wi : TI} {g : TG} {tb : TS} {fi : EX} {h : Tg} {body : SX} (hi : DI K mg W wi fi) (hg : DG K mg g h) (hb : DS K mg W tb body) : DS K mg W (tFor wi g tb) (sFor fi h body) := by
  intro P F H σ ρ D st hp
  refine hi P F H σ ρ _ st ?_
  unfold sFor at hp
  cases e : fi ρ with
  | bad => simp only [e] at hp; exact hp
  | exc c fs ρ1 => simp only [e] at hp; exact fun F1 H1 C dd sb st1 x => hp F1 H1 σ C dd sb st1 x
  | ok o ρ1 =>
    simp only [e] at hp
    cases o with
    | val d =>
      cases d with
      | list ds =>
        simp only at hp
        intro F1 H1 J sb st1 it
        refine ⟨fun i m σ' H' => ∃ F' ρ', m = ds.length - i ∧ i ≤ ds.length ∧ SubH F1 F' ∧ Stt K mg P F' H' σ' ρ' ∧ PostS K mg W P F' (forD h body (ds.drop i) ρ') D, ⟨ds.length, F1, ρ1, by omega, Nat.zero_le _, SubH.refl _, st1, PostS.le sb hp⟩, ?_⟩
        rintro i m σ' H' ⟨F', ρ', rfl, hi', sb', st', q⟩
        obtain ⟨i1, i2⟩ := it P F' H' σ' ρ' i sb' st'
        by_cases hlt : i < ds.length
        · obtain ⟨go, y⟩ := i2 ds[i] (by simp [hlt])
          rw [List.drop_eq_getElem_cons hlt] at q
          refine .inr ⟨go, fun σ2 H2 => ∃ F2 ρ2, SubH F1 F2 ∧ Stt K mg P F2 H2 σ2 ρ2 ∧ PostS K mg W P F2 (forD h body (ds.drop (i + 1)) ρ2) D, fun σ2 H2 ⟨F2, ρ2, s2, st2, q2⟩ => ⟨ds.length - (i + 1), by omega, F2, ρ2, rfl, hlt, s2, st2, q2⟩, fun x H2 yx => ?_⟩
          obtain ⟨F2, sb2, st2, r2⟩ := y x H2 yx
          simp only [forD] at q
          cases z : h.h ds[i] ρ' with
          | none => simp only [z] at q; exact q.elim
          | some ρ3 =>
            simp only [z] at q
            refine hg P F2 H2 σ' ρ' ρ3 ds[i] x _ st2 r2 z fun σ3 st3 _ => ?_
            refine hb P F2 H2 σ3 ρ3 _ st3 ?_
            have q' := PostS.le sb2 q
            cases w : body ρ3 with
            | bad => simp only [w] at q'; exact q'
            | nx ρ4 => simp only [w] at q'; exact fun F4 H4 σ4 s4 st4 => ⟨F4, ρ4, (sb'.trans sb2).trans s4, st4, PostS.le s4 q'⟩
            | ct ρ4 => simp only [w] at q'; exact fun F4 H4 σ4 s4 st4 => ⟨F4, ρ4, (sb'.trans sb2).trans s4, st4, PostS.le s4 q'⟩
            | brk ρ4 => simp only [w] at q'; exact q'
            | ret o ρ4 => simp only [w] at q'; exact q'
            | exc c fs ρ4 => simp only [w] at q'; exact q'
        · have ei : i = ds.length := by omega
          subst ei
          rw [List.drop_length] at q
          exact .inl ⟨i1 rfl, q F' H' σ' (SubH.refl _) st'⟩
      | none => exact hp.elim
      | bool i => exact hp.elim
      | int i => exact hp.elim
      | str i => exact hp.elim
      | tuple i => exact hp.elim
      | dict i => exact hp.elim
      | dictT i => exact hp.elim
      | tag _ i => exact hp.elim
    | emp => exact hp.elim
    | own c => exact hp.elim
    | ref c => exact hp.elim
    | fn c => exact hp.elim
theorem ds_while {tc : TT} {tb : TS} {c : EX} {body : SX} (n : Nat) (hc : DT K mg W tc c) (hb : DS K mg W tb body) : DS K mg W (tWhile tc tb) (sWhile n c body) := by
  intro P F H σ ρ D st hp
  refine ⟨fun m σ' H' => ∃ F' ρ', Stt K mg P F' H' σ' ρ' ∧ PostS K mg W P F' (whileD c body m ρ') D, ⟨n, F, ρ, st, hp⟩, ?_⟩
  rintro m σ' H' ⟨F', ρ', st', q⟩
  cases m with
  | zero => exact q.elim
  | succ m =>
    refine hc.bs st' q fun F1 H1 b ρ1 sb st1 q1 => ?_
    cases b with
    | false => exact q1 F1 H1 σ' (SubH.refl _) st1
    | true =>
      simp only [if_true] at q1 ⊢
      refine ⟨fun σ2 H2 => ∃ F2 ρ2, Stt K mg P F2 H2 σ2 ρ2 ∧ PostS K mg W P F2 (whileD c body m ρ2) D, fun σ2 H2 ⟨F2, ρ2, a, b⟩ => ⟨m, Nat.lt_succ_self m, F2, ρ2, a, b⟩, ?_⟩
      refine hb P F1 H1 σ' ρ1 _ st1 ?_
      cases w : body ρ1 with
      | bad => simp only [w] at q1; exact q1
      | nx ρ4 => simp only [w] at q1; exact fun F4 H4 σ4 s4 st4 => ⟨F4, ρ4, st4, PostS.le s4 q1⟩
      | ct ρ4 => simp only [w] at q1; exact fun F4 H4 σ4 s4 st4 => ⟨F4, ρ4, st4, PostS.le s4 q1⟩
      | brk ρ4 => simp only [w] at q1; exact q1
      | ret o ρ4 => simp only [w] at q1; exact q1
      | exc c fs ρ4 => simp only [w] at q1; exact q1
end
section
variable {X : Cx} {W : WX} {tg iter c : Expr} {body : List Stmt} {pos : Pos} {fi fc : EX} {h : Tg} {fb : SX}
theorem psd_for (hp : PassesOwn (model X.prog X.w) X.A X.env X.xe) (hi : PID X W tg iter fi) (hg : PGD X tg h) (hb : PSsD X W body fb) (hc : X.calm = true := by rfl)
    (hs : ∀ x, foldedSetIterable iter X.env x = pure x := by intro _; rfl) : PSD X W (.For tg iter body [] pos) (sFor fi h fb) := by
  obtain ⟨wi, pi, di⟩ := hi.ex
  obtain ⟨g, pg, dg⟩ := hg.ex
  obtain ⟨t, ps, ds⟩ := hb.ex
  exact ⟨_, ps_for hp hc pi pg ps hs, ds_for di dg ds⟩
theorem psd_while (n : Nat) (hp : PassesOwn (model X.prog X.w) X.A X.env X.xe) (hc : PTD X W c fc) (hb : PSsD X W body fb) : PSD X W (.While c body [] pos) (sWhile n fc fb) := by
  obtain ⟨t, pt, dt⟩ := hc.ex
  obtain ⟨u, ps, ds⟩ := hb.ex
  exact ⟨_, ps_while hp pt ps, ds_while n dt ds⟩
end
end Dk

set_option Elab.async false
set_option linter.all false
set_option maxRecDepth 100000
set_option maxHeartbeats 4000000
/-! Dk6: defs by data: what a def hands back, calls, bodies; objects of a slot changed -/
namespace Dk
open PySem PySem.Spec L2

inductive FR where
  | bad
  | ret (o : Sl) (as : List Sl)
  | exc (c : Str) (fs : List (Str × D)) (as : List Sl)
abbrev Den := List Sl → FR
/-- every borrowed argument's raw value is pinned -/
def PinOk (P : Prot) (vs : List V) (as : List Sl) : Prop := ∀ (i : Nat) (s : Sl) (v : V), as[i]? = some s → s.isRef = true → vs[i]? = some v → P.pin i = some v
def PostF (K : PySem.W.Frag) (mg : Str → Option Value) (P : Prot) (F : Hp) (vs : List V) (r : FR) (Q : VK) (E : XK) : Prop := match r with
  | .bad => False
  | .ret o as => Kont K mg P F (vs.map some) as o Q
  | .exc c fs as => KontX K mg P F (vs.map some) as c fs E
/-- a def's promise by its meaning -/
def spD (K : PySem.W.Frag) (mg : Str → Option Value) (n : Nat) (den : Den) : Sp := fun vs H Q E => vs.length = n ∧ ∃ P F as, Stt K mg P F H (vs.map some) as ∧ PinOk P vs as ∧ (∀ s ∈ as, ∀ c, s ≠ .own c) ∧ PostF K mg P F vs (den as) Q E
/-- what the arguments are behind a body: the borrowed ones as they are then, the others as they were -/
def back : List Sl → Env → List Sl
  | [], _ => []
  | s :: as, [] => s :: back as []
  | s :: as, r :: ρ => (if s.isRef = true then r else s) :: back as ρ
def denOf (m : Nat) (body : SX) : Den := fun as => match body (as ++ List.replicate (m - as.length) .emp) with
  | .ret o ρ => .ret o (back as ρ)
  | .nx ρ => .ret (.val .none) (back as ρ)
  | .exc c fs ρ => .exc c fs (back as ρ)
  | _ => .bad
theorem back_get : ∀ (as : List Sl) (ρ : Env) (i : Nat) (s : Sl), (back as ρ)[i]? = some s → ∃ s0, as[i]? = some s0 ∧ ((s0.isRef = true ∧ ρ[i]? = some s) ∨ (s = s0 ∧ (s0.isRef = false ∨ ρ[i]? = none)))
  | [], _, _, _, h => by simp [back] at h
  | s0 :: as, [], 0, s, h => by simp [back] at h; subst h; exact ⟨_, rfl, .inr ⟨rfl, .inr rfl⟩⟩
  | s0 :: as, [], i + 1, s, h => by
    simp [back] at h
    obtain ⟨s1, h1, h2⟩ := back_get as [] i s h
    exact ⟨s1, by simpa using h1, by simpa using h2⟩
  | s0 :: as, r :: ρ, 0, s, h => by
    simp [back] at h
    refine ⟨s0, rfl, ?_⟩
    by_cases c : s0.isRef = true
    · rw [if_pos c] at h; subst h; exact .inl ⟨c, rfl⟩
    · rw [if_neg c] at h; subst h; exact .inr ⟨rfl, .inl (by simpa using c)⟩
  | s0 :: as, r :: ρ, i + 1, s, h => by
    simp [back] at h
    obtain ⟨s1, h1, h2⟩ := back_get as ρ i s h
    exact ⟨s1, by simpa using h1, by simpa using h2⟩
theorem back_length : ∀ (as : List Sl) (ρ : Env), (back as ρ).length = as.length
  | [], _ => rfl
  | _ :: as, [] => by simp [back, back_length as []]
  | _ :: as, _ :: ρ => by simp [back, back_length as ρ]

section
variable {K : PySem.W.Frag} {mg : Str → Option Value} {P : Prot} {F H : Hp}
theorem start_get {N : List Str} {vs : List V} {i : Nat} : (L2.start N vs)[i]? = if i < vs.length then (vs.map some)[i]? else if i < vs.length + (N.length - vs.length) then some none else none := by
  unfold L2.start
  by_cases h : i < vs.length
  · rw [if_pos h, List.getElem?_append_left (by simpa using h)]
  · rw [if_neg h, List.getElem?_append_right (by simpa using h), List.getElem?_replicate]
    simp only [List.length_map]
    split <;> split <;> first | rfl | omega
/-- a body's start -/
theorem Stt.start {N : List Str} {vs : List V} {as : List Sl} (st : Stt K mg P F H (vs.map some) as) (hn : vs.length ≤ N.length) : Stt K mg P F H (L2.start N vs) (as ++ List.replicate (N.length - as.length) .emp) := by
  have hl : vs.length = as.length := by simpa using st.len
  have get : ∀ (i : Nat) (s : Sl), (as ++ List.replicate (N.length - as.length) Sl.emp)[i]? = some s → s.isOwn = true → as[i]? = some s := fun i s e w => by
    by_cases h : i < as.length
    · rw [List.getElem?_append_left h] at e; exact e
    · rw [List.getElem?_append_right (by omega), List.getElem?_replicate] at e
      split at e
      · cases e; cases w
      · cases e
  have own : ∀ i a, Owns (L2.start N vs) (as ++ List.replicate (N.length - as.length) .emp) i a → Owns (vs.map some) as i a := fun i a ⟨⟨s, e, w⟩, q⟩ => by
    have e' := get i s e w
    have hi : i < vs.length := by
      rcases Nat.lt_or_ge i as.length with h | h
      · omega
      · rw [List.getElem?_eq_none h] at e'; cases e'
    rw [start_get, if_pos hi] at q
    exact ⟨⟨s, e', w⟩, q⟩
  refine ⟨st.sub, st.keep, ?_, fun i s e => ?_, fun i j a w1 w2 => st.apart i j a (own i a w1) (own j a w2), fun i v e => ?_⟩
  · unfold L2.start; simp; omega
  · by_cases h : i < as.length
    · rw [List.getElem?_append_left h] at e
      have := st.sl i s e
      have z : (L2.start N vs).getD i none = (vs.map some).getD i none := by
        simp only [List.getD]
        rw [start_get, if_pos (by omega)]
      rw [z]; exact this
    · rw [List.getElem?_append_right (by omega), List.getElem?_replicate] at e
      split at e
      · cases e; trivial
      · cases e
  · obtain ⟨h1, s, h2, h3⟩ := st.pin i v e
    have hi : i < as.length := by
      rcases Nat.lt_or_ge i as.length with h | h
      · exact h
      · rw [List.getElem?_eq_none h] at h2; cases h2
    refine ⟨by rw [start_get, if_pos (by omega)]; exact h1, s, by rw [List.getElem?_append_left hi]; exact h2, h3⟩
/-- a body's end: the arguments' state -/
theorem Stt.back {F' H' : Hp} {σ' : SS} {ρ' : Env} {vs : List V} {as : List Sl} (st : Stt K mg P F H (vs.map some) as) (pn : PinOk P vs as) (no : ∀ s ∈ as, ∀ c, s ≠ .own c) (sb : SubH F F') (st' : Stt K mg P F' H' σ' ρ') :
    Stt K mg P F' H' (vs.map some) (back as ρ') ∧ ∀ i a, Owns (vs.map some) (Dk.back as ρ') i a → Owns σ' ρ' i a := by
  have hl : vs.length = as.length := by simpa using st.len
  have ref : ∀ (i : Nat) (s0 : Sl), as[i]? = some s0 → s0.isRef = true → ∃ v, vs[i]? = some v ∧ σ'[i]? = some (some v) ∧ ∃ s, ρ'[i]? = some s ∧ s.isRef = true := fun i s0 e w => by
    have hi : i < vs.length := by
      rcases Nat.lt_or_ge i as.length with h | h
      · omega
      · rw [List.getElem?_eq_none h] at e; cases e
    have ev : vs[i]? = some vs[i] := List.getElem?_eq_getElem hi
    obtain ⟨h1, h2⟩ := st'.pin i vs[i] (pn i s0 vs[i] e w ev)
    exact ⟨vs[i], ev, h1, h2⟩
  have own : ∀ i a, Owns (vs.map some) (Dk.back as ρ') i a → Owns σ' ρ' i a := fun i a ⟨⟨s, e, w⟩, q⟩ => by
    obtain ⟨s0, e0, h⟩ := back_get _ _ _ _ e
    rcases h with ⟨r0, e1⟩ | ⟨rfl, h⟩
    · obtain ⟨v, ev, es, s1, e2, r1⟩ := ref i s0 e0 r0
      rw [List.getElem?_map, ev] at q
      have : v = .ref a := by simpa using q
      subst this
      exact ⟨⟨s, e1, w⟩, es⟩
    · rcases h with h | h
      · cases s with
        | own c => exact absurd rfl (no _ (List.mem_of_getElem? e0) c)
        | ref c => cases h
        | emp => cases w
        | val d => cases w
        | fn x => cases w
      · obtain ⟨v, ev, es, s1, e2, r1⟩ := ref i s e0 (by
          cases s with
          | own c => exact absurd rfl (no _ (List.mem_of_getElem? e0) c)
          | ref c => rfl
          | emp => cases w
          | val d => cases w
          | fn x => cases w)
        rw [h] at e2; cases e2
  refine ⟨⟨st'.sub, st'.keep, by rw [back_length]; simpa using hl, fun i s e => ?_, fun i j a w1 w2 => st'.apart i j a (own i a w1) (own j a w2), fun i v e => ?_⟩, own⟩
  · obtain ⟨s0, e0, h⟩ := back_get _ _ _ _ e
    rcases h with ⟨r0, e1⟩ | ⟨rfl, h⟩
    · obtain ⟨v, ev, es, s1, e2, r1⟩ := ref i s0 e0 r0
      have x := st'.sl i s e1
      rw [getD_of es] at x
      have z : (vs.map some).getD i none = some v := by simp [List.getD, ev]
      rw [z]; exact x
    · have x := st.sl i s e0
      refine x.grow sb fun a w _ => ?_
      rcases h with h | h
      · cases s with
        | own c => exact absurd rfl (no _ (List.mem_of_getElem? e0) c)
        | ref c => cases h
        | emp => cases w
        | val d => cases w
        | fn x => cases w
      · cases s with
        | own c => exact absurd rfl (no _ (List.mem_of_getElem? e0) c)
        | ref c =>
          obtain ⟨v, ev, es, s1, e2, r1⟩ := ref i _ e0 rfl
          rw [h] at e2; cases e2
        | emp => cases w
        | val d => cases w
        | fn x => cases w
  · obtain ⟨h1, s, h2, h3⟩ := st'.pin i v e
    obtain ⟨h4, s0, h5, h6⟩ := st.pin i v e
    refine ⟨h4, s, ?_, h3⟩
    have : ∀ (as : List Sl) (ρ : Env) (i : Nat), as[i]? = some s0 → ρ[i]? = some s → (Dk.back as ρ)[i]? = some s := by
      intro as
      induction as with
      | nil => intro ρ i a; simp at a
      | cons x as ih =>
        intro ρ i a b
        cases ρ with
        | nil => simp at b
        | cons r ρ =>
          cases i with
          | zero =>
            simp at a b
            subst a; subst b
            simp [Dk.back, h6]
          | succ i =>
            simp at a b
            simpa [Dk.back] using ih ρ i a b
    exact this as ρ' i h5 h2
end
/-- THE RULE for a def's body: what it does by data is what the def promises -/
theorem body_ok {K : PySem.W.Frag} {mg : Str → Option Value} {P : Prot} {F H : Hp} {N : List Str} {vs : List V} {as : List Sl} {body : SX} {t : TS} {Q : VK} {E : XK} (hb : DS K mg (fun cls d _ H => E cls d H) t body)
    (hn : vs.length ≤ N.length) (st : Stt K mg P F H (vs.map some) as) (pn : PinOk P vs as) (no : ∀ s ∈ as, ∀ c, s ≠ .own c) (h : PostF K mg P F vs (denOf N.length body as) Q E) : t { nx := fun _ H' => Q .non H', rt := Q } (L2.start N vs) H := by
  refine hb P F H (L2.start N vs) _ _ (st.start hn) ?_
  unfold denOf at h
  cases e : body (as ++ List.replicate (N.length - as.length) .emp) with
  | bad => simp only [e] at h; exact h
  | brk ρ => simp only [e] at h; exact h.elim
  | ct ρ => simp only [e] at h; exact h.elim
  | nx ρ =>
    simp only [e] at h
    intro F' H' σ' sb st'
    obtain ⟨b1, b2⟩ := st.back pn no sb st'
    exact h F' H' .non sb b1 (OutOk.val mk_none)
  | ret o ρ =>
    simp only [e] at h
    intro F' H' σ' v sb st' x
    obtain ⟨b1, b2⟩ := st.back pn no sb st'
    exact h F' H' v sb b1 ⟨x.sl, x.ne, x.nr, fun w i a ea ow => x.free w i a ea (b2 i a ow)⟩
  | exc c fs ρ =>
    simp only [e] at h
    intro F' H' σ' C dd sb st' x
    obtain ⟨b1, b2⟩ := st.back pn no sb st'
    exact h F' H' C dd sb b1 x

/-- a def that keeps its meaning's promise: where it stands, how deep it calls -/
structure Callee (P : Program) (w : World) (K : PySem.W.Frag) (mg : Str → Option Value) (base : Heap) (x : Str) (ps : List Str) (k : Nat) (den : Den) : Prop where
  ex : ∃ (f : Addr) (fd : FuncData), FnOk P w K mg base (L2.CX P w) k f fd ps (spD K mg ps.length den) ∧ mg x = some (.ref f) ∧ PySem.W.keepIn K (.ref f) = true ∧ Binds K fd ps []
theorem Callee.mono {P : Program} {w : World} {K : PySem.W.Frag} {mg : Str → Option Value} {base : Heap} {x : Str} {ps : List Str} {j k : Nat} {den : Den} (c : Callee P w K mg base x ps j den) (h : j ≤ k) : Callee P w K mg base x ps k den := by
  obtain ⟨f, fd, F, a, b, d⟩ := c.ex
  exact ⟨f, fd, F.mono h, a, b, d⟩
/-- a def's text makes a callee of it -/
theorem callee_of {P : Program} {w : World} {K : PySem.W.Frag} {mg : Str → Option Value} {base : Heap} {x : Str} {st : Stmt} {f : Addr} {fd : FuncData} {N ps : List Str} {k : Nat} {body : SX} (F : Fun K x x st f fd) (hm : mg x = some (.ref f)) (S : FnScope N ps (defScope st))
    (hb : Binds K fd ps [])
    (h : ∀ (cdv : Value) (A : Around) (outer : List PySem.Env) (s : Shared) (H : Hp) (E : XK), Room k (A.deeper (PyProof.Rows.envOfC x (defScope st) s.heap.objs.size f cdv)) →
      PSsD (cxOf (L2.CX P w) P w K mg base N x (defScope st) f cdv A outer s H E) (fun cls d _ H => E cls d H) (defBody st) body) : Callee P w K mg base x ps (k + 1) (denOf N.length body) := by
  refine ⟨f, fd, F.okX S (fun vs H Q E h => h.1) (fun cdv A outer s H vs Q E hr hs => ?_), hm, F.kp, hb⟩
  obtain ⟨t, hp, hd⟩ := (h cdv A outer s H E hr).ex
  obtain ⟨hl, Pr, F', as, sst, pn, no, post⟩ := hs
  refine ⟨t, hp, body_ok hd ?_ sst pn no post⟩
  have := congrArg List.length S.pre
  rw [List.length_take] at this
  omega

/-! ### calls -/
inductive Ar where
  | v (f : EX)
  | r (i : Nat)
inductive CA where
  | bad
  | ok (l : List (Sl ⊕ Nat)) (ρ : Env)
  | exc (c : Str) (fs : List (Str × D)) (ρ : Env)
def R.toC (r : R) (k : Sl → Env → CA) : CA := match r with
  | .ok o ρ => (match o.toVal with | some s => k s ρ | none => .bad)
  | .bad => .bad
  | .exc c fs ρ => .exc c fs ρ
def CA.cons (x : Sl ⊕ Nat) : CA → CA
  | .ok l ρ => .ok (x :: l) ρ
  | r => r
@[simp] theorem R.toC_val (d : D) (ρ : Env) (k : Sl → Env → CA) : (R.ok (.val d) ρ).toC k = k (.val d) ρ := Eq.trans rfl rfl
@[simp] theorem R.toC_own (c : Cl) (ρ : Env) (k : Sl → Env → CA) : (R.ok (.own c) ρ).toC k = k (.val c.frz) ρ := Eq.trans rfl rfl
@[simp] theorem R.toC_fn (c : Str) (ρ : Env) (k : Sl → Env → CA) : (R.ok (.fn c) ρ).toC k = k (.fn c) ρ := Eq.trans rfl rfl
@[simp] theorem R.toC_exc (c : Str) (fs : List (Str × D)) (ρ : Env) (k : Sl → Env → CA) : (R.exc c fs ρ).toC k = .exc c fs ρ := Eq.trans rfl rfl
@[simp] theorem CA.cons_ok (x : Sl ⊕ Nat) (l : List (Sl ⊕ Nat)) (ρ : Env) : (CA.ok l ρ).cons x = .ok (x :: l) ρ := Eq.trans rfl rfl
@[simp] theorem CA.cons_exc (x : Sl ⊕ Nat) (c : Str) (fs : List (Str × D)) (ρ : Env) : (CA.exc c fs ρ).cons x = .exc c fs ρ := Eq.trans rfl rfl
def cArgs : List Ar → Env → CA
  | [], ρ => .ok [] ρ
  | .v f :: as, ρ => (f ρ).toC fun s ρ1 => (cArgs as ρ1).cons (.inl s)
  | .r i :: as, ρ => match ρ[i]? with
    | some (.own _) => (cArgs as ρ).cons (.inr i)
    | some (.ref _) => (cArgs as ρ).cons (.inr i)
    | _ => .bad
def mkAs : List (Sl ⊕ Nat) → Env → Option (List Sl)
  | [], _ => some []
  | .inl s :: l, ρ => (mkAs l ρ).map (s :: ·)
  | .inr i :: l, ρ => match ρ[i]? with
    | some (.own c) => (mkAs l ρ).map (.ref c :: ·)
    | some (.ref c) => (mkAs l ρ).map (.ref c :: ·)
    | _ => none
def refsOf : List (Sl ⊕ Nat) → List Nat
  | [] => []
  | .inl _ :: l => refsOf l
  | .inr i :: l => i :: refsOf l
/-- the slot's object has the content that the callee left -/
def upd1 (s : Sl) (a : Option Sl) : Sl := match s, a with
  | .own _, some (.ref c) => .own c
  | .ref _, some (.ref c) => .ref c
  | s, _ => s
def putB : List (Sl ⊕ Nat) → List Sl → Env → Env
  | [], _, ρ => ρ
  | .inl _ :: l, as, ρ => putB l as.tail ρ
  | .inr i :: l, as, ρ => putB l as.tail (match ρ[i]? with | some s => ρ.set i (upd1 s as.head?) | none => ρ)
def eCall (den : Den) (args : List Ar) : EX := fun ρ => match cArgs args ρ with
  | .bad => .bad
  | .exc c fs ρ1 => .exc c fs ρ1
  | .ok l ρ1 => if (refsOf l).Nodup then (match mkAs l ρ1 with
    | none => .bad
    | some as => match den as with
      | .bad => .bad
      | .ret o as' => .ok o (putB l as' ρ1)
      | .exc c fs as' => .exc c fs (putB l as' ρ1)) else .bad
section
variable {K : PySem.W.Frag} {mg : Str → Option Value} {W : WX} {P : Prot} {F H : Hp} {σ : SS} {ρ : Env}
/-- the evaluated arguments -/
inductive ARel (K : PySem.W.Frag) (mg : Str → Option Value) (P : Prot) (F H : Hp) (σ : SS) : List (Sl ⊕ Nat) → List V → Prop
  | nil : ARel K mg P F H σ [] []
  | inl {s : Sl} {l : List (Sl ⊕ Nat)} {v : V} {vs : List V} (x : SlOk K mg P F H (some v) s) (no : s.isOwn = false) (ne : s ≠ .emp) (t : ARel K mg P F H σ l vs) : ARel K mg P F H σ (.inl s :: l) (v :: vs)
  | inr {i : Nat} {l : List (Sl ⊕ Nat)} {v : V} {vs : List V} (e : σ[i]? = some (some v)) (t : ARel K mg P F H σ l vs) : ARel K mg P F H σ (.inr i :: l) (v :: vs)
theorem SlOk.plain {P' : Prot} {F' H' : Hp} {o : Option V} {s : Sl} (no : s.isOwn = false) (sb : SubH F F') (x : SlOk K mg P F H o s) : SlOk K mg P' F' H' o s := by
  cases s with
  | emp => trivial
  | val d => obtain ⟨v, e, r⟩ := x; exact ⟨v, e, Rep.le sb.rd d v r⟩
  | own c => cases no
  | ref c => cases no
  | fn y => exact x
def PostC (K : PySem.W.Frag) (mg : Str → Option Value) (W : WX) (P : Prot) (F : Hp) (σ : SS) (r : CA) (G : List V → Hp → Prop) : Prop := match r with
  | .ok l ρ => ∀ F' H' vs, SubH F F' → Stt K mg P F' H' σ ρ → ARel K mg P F' H' σ l vs → G vs H'
  | .exc c fs ρ => KontX K mg P F σ ρ c fs fun C d H' => W C d σ H'
  | .bad => False
def DC (K : PySem.W.Frag) (mg : Str → Option Value) (W : WX) (ta : TA) (as : List Ar) : Prop := ∀ P F H σ ρ G, Stt K mg P F H σ ρ → PostC K mg W P F σ (cArgs as ρ) G → ta σ H G
theorem dc_nil : DC K mg W tNil [] := fun P F H σ ρ G st h => h F H [] (SubH.refl F) st .nil
theorem dc_v {te : TE} {t : TA} {f : EX} {as : List Ar} (h1 : DE K mg W te f) (h2 : DC K mg W t as) : DC K mg W (tCons te t) (.v f :: as) := by
  intro P F H σ ρ G st h
  refine h1 P F H σ ρ _ st ?_
  simp only [cArgs] at h
  cases e : f ρ with
  | bad => rw [e] at h; exact h
  | exc c gs ρ1 => rw [e] at h; exact h
  | ok o ρ1 =>
    rw [e] at h
    intro F1 H1 v sb st1 x
    simp only [R.toC] at h
    cases z : o.toVal with
    | none => simp only [z] at h; exact h.elim
    | some s =>
      simp only [z] at h
      obtain ⟨F2, sb2, st2, x2, no⟩ := st1.toVal x z
      refine h2 P F2 H1 σ ρ1 _ st2 ?_
      cases e2 : cArgs as ρ1 with
      | bad => rw [e2] at h; exact h
      | exc c gs ρ3 => rw [e2] at h; exact fun G H' C dd s => h G H' C dd ((sb.trans sb2).trans s)
      | ok l ρ3 =>
        rw [e2] at h
        intro F3 H3 vs sb3 st3 r3
        exact h F3 H3 (v :: vs) ((sb.trans sb2).trans sb3) st3 (.inl (x2.sl.plain no sb3) no x2.ne r3)
theorem dc_r {t : TA} {as : List Ar} (i : Nat) (h2 : DC K mg W t as) : DC K mg W (tCons (tVar i) t) (.r i :: as) := by
  intro P F H σ ρ G st h
  have key : (∃ v, σ[i]? = some (some v)) ∧ PostC K mg W P F σ ((cArgs as ρ).cons (.inr i)) G := by
    simp only [cArgs] at h
    cases e : ρ[i]? with
    | none => simp only [e] at h; exact h.elim
    | some s =>
      have x := st.sl i s e
      cases s with
      | own c => simp only [e] at h; obtain ⟨a, e1, _⟩ := x; exact ⟨⟨_, of_getD e1⟩, h⟩
      | ref c => simp only [e] at h; obtain ⟨a, e1, _⟩ := x; exact ⟨⟨_, of_getD e1⟩, h⟩
      | emp => simp only [e] at h; exact h.elim
      | val d => simp only [e] at h; exact h.elim
      | fn y => simp only [e] at h; exact h.elim
  obtain ⟨⟨v, ev⟩, h⟩ := key
  refine ⟨v, ev, h2 P F H σ ρ _ st ?_⟩
  cases e2 : cArgs as ρ with
  | bad => rw [e2] at h; exact h
  | exc c gs ρ3 => rw [e2] at h; exact h
  | ok l ρ3 =>
    rw [e2] at h
    intro F3 H3 vs sb3 st3 r3
    exact h F3 H3 (v :: vs) sb3 st3 (.inr ev r3)

/-! the call's own step -/
theorem ARel.length {l : List (Sl ⊕ Nat)} {vs : List V} (r : ARel K mg P F H σ l vs) : vs.length = l.length := by
  induction r with
  | nil => rfl
  | inl x no ne t ih => simp [ih]
  | inr e t ih => simp [ih]
theorem ARel.get {l : List (Sl ⊕ Nat)} {vs : List V} (r : ARel K mg P F H σ l vs) : ∀ {k : Nat} {x : Sl ⊕ Nat}, l[k]? = some x → ∃ v, vs[k]? = some v ∧ (∀ s, x = .inl s → SlOk K mg P F H (some v) s ∧ s.isOwn = false ∧ s ≠ .emp) ∧ (∀ i, x = .inr i → σ[i]? = some (some v)) := by
  induction r with
  | nil => intro k x e; simp at e
  | @inl s l v vs x no ne t ih =>
    intro k y e
    cases k with
    | zero =>
      simp at e; subst e
      exact ⟨v, rfl, fun s' q => (by cases q; exact ⟨x, no, ne⟩), fun i q => by cases q⟩
    | succ k => simpa using ih (k := k) (by simpa using e)
  | @inr i l v vs e0 t ih =>
    intro k y e
    cases k with
    | zero =>
      simp at e; subst e
      exact ⟨v, rfl, fun s' q => (by cases q), fun j q => by cases q; exact e0⟩
    | succ k => simpa using ih (k := k) (by simpa using e)
theorem mkAs_get : ∀ {l : List (Sl ⊕ Nat)} {as : List Sl}, mkAs l ρ = some as → as.length = l.length ∧ ∀ (k : Nat) (x : Sl ⊕ Nat), l[k]? = some x → (∀ s, x = .inl s → as[k]? = some s) ∧ ∀ i, x = .inr i → ∃ c, as[k]? = some (.ref c) ∧ (ρ[i]? = some (.own c) ∨ ρ[i]? = some (.ref c))
  | [], as, h => by cases h; exact ⟨rfl, fun k x e => by simp at e⟩
  | .inl s :: l, as, h => by
    simp only [mkAs] at h
    cases e : mkAs l ρ with
    | none => rw [e] at h; cases h
    | some as' =>
      rw [e] at h; cases h
      obtain ⟨h1, h2⟩ := mkAs_get e
      refine ⟨by simp [h1], fun k x q => ?_⟩
      cases k with
      | zero => simp at q; subst q; exact ⟨fun s' z => by cases z; rfl, fun i z => by cases z⟩
      | succ k => simpa using h2 k x (by simpa using q)
  | .inr i :: l, as, h => by
    have key : ∃ c, (ρ[i]? = some (.own c) ∨ ρ[i]? = some (.ref c)) ∧ (mkAs l ρ).map (.ref c :: ·) = some as := by
      simp only [mkAs] at h
      cases e : ρ[i]? with
      | none => simp only [e] at h; cases h
      | some s =>
        cases s with
        | own c => simp only [e] at h; exact ⟨c, .inl rfl, h⟩
        | ref c => simp only [e] at h; exact ⟨c, .inr rfl, h⟩
        | emp => simp only [e] at h; cases h
        | val d => simp only [e] at h; cases h
        | fn y => simp only [e] at h; cases h
    obtain ⟨c, hc, h⟩ := key
    cases e : mkAs l ρ with
    | none => rw [e] at h; cases h
    | some as' =>
      rw [e] at h; cases h
      obtain ⟨h1, h2⟩ := mkAs_get e
      refine ⟨by simp [h1], fun k x q => ?_⟩
      cases k with
      | zero => simp at q; subst q; exact ⟨fun s' z => (by cases z), fun j z => (by cases z; exact ⟨c, rfl, hc⟩)⟩
      | succ k => simpa using h2 k x (by simpa using q)
theorem refs_mem : ∀ {l : List (Sl ⊕ Nat)} {i : Nat}, i ∈ refsOf l ↔ ∃ k : Nat, l[k]? = some (.inr i)
  | [], i => by simp [refsOf]
  | .inl s :: l, i => by
    simp only [refsOf]
    rw [refs_mem (l := l)]
    constructor
    · rintro ⟨k, e⟩; exact ⟨k + 1, by simpa using e⟩
    · rintro ⟨k, e⟩
      cases k with
      | zero => simp at e
      | succ k => exact ⟨k, by simpa using e⟩
  | .inr j :: l, i => by
    simp only [refsOf, List.mem_cons]
    rw [refs_mem (l := l)]
    constructor
    · rintro (rfl | ⟨k, e⟩)
      · exact ⟨0, rfl⟩
      · exact ⟨k + 1, by simpa using e⟩
    · rintro ⟨k, e⟩
      cases k with
      | zero => simp at e; exact .inl e.symm
      | succ k => exact .inr ⟨k, by simpa using e⟩
theorem refs_inj : ∀ {l : List (Sl ⊕ Nat)} {i k1 k2 : Nat}, (refsOf l).Nodup → l[k1]? = some (.inr i) → l[k2]? = some (.inr i) → k1 = k2
  | [], _, _, _, _, e, _ => by simp at e
  | .inl s :: l, i, 0, _, _, e, _ => by simp at e
  | .inl s :: l, i, _ + 1, 0, _, _, e => by simp at e
  | .inl s :: l, i, k1 + 1, k2 + 1, nd, e1, e2 => by
    have := refs_inj (l := l) (k1 := k1) (k2 := k2) nd (by simpa using e1) (by simpa using e2)
    omega
  | .inr j :: l, i, k1, k2, nd, e1, e2 => by
    simp only [refsOf, List.nodup_cons] at nd
    cases k1 with
    | zero =>
      simp at e1; subst e1
      cases k2 with
      | zero => rfl
      | succ k2 => exact absurd (refs_mem.mpr ⟨k2, by simpa using e2⟩) nd.1
    | succ k1 =>
      cases k2 with
      | zero => simp at e2; subst e2; exact absurd (refs_mem.mpr ⟨k1, by simpa using e1⟩) nd.1
      | succ k2 =>
        have := refs_inj (l := l) (k1 := k1) (k2 := k2) nd.2 (by simpa using e1) (by simpa using e2)
        omega
/-- the caller's state behind: kinds as they were, contents that hold -/
theorem Stt.swap {F' H' : Hp} {ρ' : Env} (st : Stt K mg P F H σ ρ) (hs : SubH F' H') (kp : ∀ p o, P.H p = some o → H' p = some o ∧ F' p = none) (hl : ρ'.length = ρ.length)
    (h : ∀ (i : Nat) (s2 : Sl), ρ'[i]? = some s2 → ∃ s1, ρ[i]? = some s1 ∧ s1.isOwn = s2.isOwn ∧ s1.isRef = s2.isRef ∧ SlOk K mg P F' H' (σ.getD i none) s2) : Stt K mg P F' H' σ ρ' := by
  have own : ∀ i a, Owns σ ρ' i a → Owns σ ρ i a := fun i a ⟨⟨s, e, w⟩, q⟩ => by
    obtain ⟨s1, e1, k1, _, _⟩ := h i s e
    exact ⟨⟨s1, e1, by rw [k1]; exact w⟩, q⟩
  refine ⟨hs, kp, by rw [hl]; exact st.len, fun i s e => (h i s e).choose_spec.2.2.2, fun i j a w1 w2 => st.apart i j a (own i a w1) (own j a w2), fun i v e => ?_⟩
  obtain ⟨h1, s, h2, h3⟩ := st.pin i v e
  have hi : i < ρ'.length := by
    rw [hl]
    rcases Nat.lt_or_ge i ρ.length with z | z
    · exact z
    · rw [List.getElem?_eq_none z] at h2; cases h2
  obtain ⟨s1, e1, _, k2, _⟩ := h i ρ'[i] (List.getElem?_eq_getElem hi)
  rw [h2] at e1; cases e1
  exact ⟨h1, ρ'[i], List.getElem?_eq_getElem hi, by rw [← k2]; exact h3⟩
theorem putB_length : ∀ (l : List (Sl ⊕ Nat)) (as : List Sl) (ρ : Env), (putB l as ρ).length = ρ.length
  | [], _, _ => rfl
  | .inl s :: l, as, ρ => putB_length l as.tail ρ
  | .inr i :: l, as, ρ => by
    simp only [putB]
    rw [putB_length]
    cases ρ[i]? <;> simp
theorem upd1_own (s : Sl) (a : Option Sl) : (upd1 s a).isOwn = s.isOwn ∧ (upd1 s a).isRef = s.isRef := by
  unfold upd1
  split <;> exact ⟨rfl, rfl⟩
/-- what the put back slots hold -/
theorem putB_get {F' H' : Hp} (base : Env) : ∀ (l : List (Sl ⊕ Nat)) (as : List Sl) (ρ : Env), (refsOf l).Nodup →
    (∀ (i : Nat) (s2 : Sl), ρ[i]? = some s2 → ∃ s1, base[i]? = some s1 ∧ s1.isOwn = s2.isOwn ∧ s1.isRef = s2.isRef ∧ (SlOk K mg P F' H' (σ.getD i none) s2 ∨ (s2 = s1 ∧ i ∈ refsOf l))) →
    (∀ (k i : Nat), l[k]? = some (.inr i) → ∃ c, as[k]? = some (.ref c) ∧ ∀ s1, base[i]? = some s1 → s1.isOwn = true ∧ SlOk K mg P F' H' (σ.getD i none) (upd1 s1 (some (.ref c)))) →
    ∀ (i : Nat) (s2 : Sl), (putB l as ρ)[i]? = some s2 → ∃ s1, base[i]? = some s1 ∧ s1.isOwn = s2.isOwn ∧ s1.isRef = s2.isRef ∧ SlOk K mg P F' H' (σ.getD i none) s2
  | [], as, ρ, nd, hρ, ha => fun i s2 e => by
    obtain ⟨s1, e1, k1, k2, q⟩ := hρ i s2 e
    rcases q with q | ⟨_, q⟩
    · exact ⟨s1, e1, k1, k2, q⟩
    · simp [refsOf] at q
  | .inl s :: l, as, ρ, nd, hρ, ha => fun i s2 e => putB_get base l as.tail ρ nd hρ (fun k j q => by
      obtain ⟨c, h1, h2⟩ := ha (k + 1) j (by simpa using q)
      exact ⟨c, by cases as <;> simp at h1 ⊢; exact h1, h2⟩) i s2 e
  | .inr j :: l, as, ρ, nd, hρ, ha => fun i0 s0 e0 => by
    simp only [refsOf, List.nodup_cons] at nd
    obtain ⟨c, hc1, hc2⟩ := ha 0 j rfl
    have hd : as.head? = some (.ref c) := by cases as <;> simp at hc1 ⊢; exact hc1
    refine putB_get base l as.tail _ nd.2 (fun i s2 e => ?_) (fun k j q => by
      obtain ⟨c, h1, h2⟩ := ha (k + 1) j (by simpa using q)
      exact ⟨c, by cases as <;> simp at h1 ⊢; exact h1, h2⟩) i0 s0 e0
    cases z : ρ[j]? with
    | none =>
      simp only [z] at e
      obtain ⟨s1, e1, k1, k2, q⟩ := hρ i s2 e
      refine ⟨s1, e1, k1, k2, ?_⟩
      rcases q with q | ⟨q1, q2⟩
      · exact .inl q
      · simp only [refsOf, List.mem_cons] at q2
        rcases q2 with q2 | q2
        · subst q2; rw [z] at e; cases e
        · exact .inr ⟨q1, q2⟩
    | some sj =>
      simp only [z] at e
      by_cases hij : j = i
      · subst hij
        have hl : j < ρ.length := by
          rcases Nat.lt_or_ge j ρ.length with h | h
          · exact h
          · rw [List.getElem?_eq_none h] at z; cases z
        rw [List.getElem?_set_self hl, hd] at e; cases e
        obtain ⟨s1, e1, k1, k2, q⟩ := hρ j sj z
        obtain ⟨u1, u2⟩ := upd1_own sj (some (.ref c))
        refine ⟨s1, e1, by rw [u1]; exact k1, by rw [u2]; exact k2, .inl ?_⟩
        obtain ⟨w1, w2⟩ := hc2 s1 e1
        cases sj with
        | own c0 =>
          cases s1 with
          | own _ => exact w2
          | ref _ => cases k2
          | emp => cases k1
          | val _ => cases k1
          | fn _ => cases k1
        | ref c0 =>
          cases s1 with
          | own _ => cases k2
          | ref _ => exact w2
          | emp => cases k1
          | val _ => cases k1
          | fn _ => cases k1
        | emp => rw [w1] at k1; cases k1
        | val d => rw [w1] at k1; cases k1
        | fn y => rw [w1] at k1; cases k1
      · rw [List.getElem?_set_ne hij] at e
        obtain ⟨s1, e1, k1, k2, q⟩ := hρ i s2 e
        refine ⟨s1, e1, k1, k2, ?_⟩
        rcases q with q | ⟨q1, q2⟩
        · exact .inl q
        · simp only [refsOf, List.mem_cons] at q2
          rcases q2 with rfl | q2
          · exact absurd rfl hij
          · exact .inr ⟨q1, q2⟩
open Classical in
/-- the callee's ground: all that isn't frozen and isn't handed to it -/
noncomputable def callP (F H : Hp) (σ : SS) (l : List (Sl ⊕ Nat)) (as : List Sl) (vs : List V) : Prot where
  H := fun p => if F p = none ∧ ¬ ∃ i ∈ refsOf l, σ[i]? = some (some (.ref p)) then H p else none
  pin := fun k => match as[k]? with
    | some s => if s.isRef = true then vs[k]? else none
    | none => none
theorem callP_none {l : List (Sl ⊕ Nat)} {as : List Sl} {vs : List V} {p : Addr} (h : (callP F H σ l as vs).H p = none) (hf : F p = none) (hr : ¬ ∃ i ∈ refsOf l, σ[i]? = some (some (.ref p))) : H p = none := by
  unfold callP at h
  simp only at h
  rw [if_pos ⟨hf, hr⟩] at h
  exact h
theorem callP_some {l : List (Sl ⊕ Nat)} {as : List Sl} {vs : List V} {p : Addr} {o : HO} (hf : F p = none) (hr : ¬ ∃ i ∈ refsOf l, σ[i]? = some (some (.ref p))) (h : H p = some o) : (callP F H σ l as vs).H p = some o := by
  unfold callP
  simp only
  rw [if_pos ⟨hf, hr⟩]
  exact h
theorem call_in {l : List (Sl ⊕ Nat)} {as : List Sl} {vs : List V} (st : Stt K mg P F H σ ρ) (r : ARel K mg P F H σ l vs) (nd : (refsOf l).Nodup) (e : mkAs l ρ = some as) :
    Stt K mg (callP F H σ l as vs) F H (vs.map some) as ∧ PinOk (callP F H σ l as vs) vs as ∧ (∀ s ∈ as, ∀ c, s ≠ .own c) := by
  obtain ⟨hl, hg⟩ := mkAs_get e
  have hv := r.length
  have at_ : ∀ (k : Nat) (s : Sl), as[k]? = some s → ∃ v, vs[k]? = some v ∧ ((l[k]? = some (.inl s) ∧ SlOk K mg P F H (some v) s ∧ s.isOwn = false) ∨ ∃ i c, l[k]? = some (.inr i) ∧ s = .ref c ∧ σ[i]? = some (some v) ∧ (ρ[i]? = some (.own c) ∨ ρ[i]? = some (.ref c))) := fun k s q => by
    have hk : k < l.length := by
      rw [← hl]
      rcases Nat.lt_or_ge k as.length with z | z
      · exact z
      · rw [List.getElem?_eq_none z] at q; cases q
    obtain ⟨v, ev, r1, r2⟩ := r.get (k := k) (List.getElem?_eq_getElem hk)
    obtain ⟨g1, g2⟩ := hg k l[k] (List.getElem?_eq_getElem hk)
    refine ⟨v, ev, ?_⟩
    cases z : l[k] with
    | inl s' =>
      have := g1 s' z
      rw [q] at this; cases this
      obtain ⟨x, no, _⟩ := r1 s z
      exact .inl ⟨by rw [List.getElem?_eq_getElem hk, z], x, no⟩
    | inr i =>
      obtain ⟨c, h1, h2⟩ := g2 i z
      rw [q] at h1; cases h1
      exact .inr ⟨i, c, by rw [List.getElem?_eq_getElem hk, z], rfl, r2 i z, h2⟩
  have own : ∀ (i : Nat) (c : Cl) (v : V), σ[i]? = some (some v) → (ρ[i]? = some (.own c) ∨ ρ[i]? = some (.ref c)) → ∃ a, v = .ref a ∧ F a = none ∧ ClOk K F H a c ∧ Owns σ ρ i a := fun i c v es h => by
    rcases h with h | h
    · obtain ⟨a, e1, h1, h2, h3⟩ := st.sl i _ h
      rw [getD_of es] at e1; cases e1
      exact ⟨a, rfl, h1, h3, ⟨⟨_, h, rfl⟩, es⟩⟩
    · obtain ⟨a, e1, h1, h2, h3⟩ := st.sl i _ h
      rw [getD_of es] at e1; cases e1
      exact ⟨a, rfl, h1, h3, ⟨⟨_, h, rfl⟩, es⟩⟩
  refine ⟨⟨st.sub, fun p o q => ?_, by simp [hv, hl], fun k s q => ?_, fun k1 k2 a w1 w2 => ?_, fun k v q => ?_⟩, fun k s v q w ev => ?_, fun s hs c z => ?_⟩
  · unfold callP at q
    simp only at q
    split at q
    · rename_i h; exact ⟨q, h.1⟩
    · cases q
  · obtain ⟨v, ev, h | ⟨i, c, h1, rfl, h3, h4⟩⟩ := at_ k s q
    · have z : (vs.map some).getD k none = some v := by simp [List.getD, ev]
      rw [z]; exact h.2.1.plain h.2.2 (SubH.refl F)
    · obtain ⟨a, rfl, f1, f2, f3⟩ := own i c v h3 h4
      have z : (vs.map some).getD k none = some (.ref a) := by simp [List.getD, ev]
      rw [z]
      refine ⟨a, rfl, f1, ?_, f2⟩
      unfold callP
      simp only
      rw [if_neg (fun w => w.2 ⟨i, refs_mem.mpr ⟨k, h1⟩, h3⟩)]
  · have one : ∀ k, Owns (vs.map some) as k a → ∃ i, l[k]? = some (.inr i) ∧ Owns σ ρ i a := fun k ⟨⟨s, q, w⟩, q2⟩ => by
      obtain ⟨v, ev, h | ⟨i, c, h1, rfl, h3, h4⟩⟩ := at_ k s q
      · rw [h.2.2] at w; cases w
      · rw [List.getElem?_map, ev] at q2
        have : v = .ref a := by simpa using q2
        subst this
        obtain ⟨a', e1, f1, f2, f3⟩ := own i c _ h3 h4
        cases e1
        exact ⟨i, h1, f3⟩
    obtain ⟨i1, q1, o1⟩ := one k1 w1
    obtain ⟨i2, q2, o2⟩ := one k2 w2
    have := st.apart i1 i2 a o1 o2
    subst this
    exact refs_inj nd q1 q2
  · unfold callP at q
    simp only at q
    split at q
    · rename_i s es
      split at q
      · rename_i w
        exact ⟨by rw [List.getElem?_map, q]; rfl, s, es, w⟩
      · cases q
    · cases q
  · unfold callP
    simp only [q, w, if_true]
    exact ev
  · obtain ⟨k, hk⟩ := List.mem_iff_getElem?.mp hs
    obtain ⟨v, ev, h | ⟨i, c', h1, h2, h3, h4⟩⟩ := at_ k s hk
    · rw [z] at h; cases h.2.2
    · rw [z] at h2; cases h2
theorem call_out {F' H' : Hp} {l : List (Sl ⊕ Nat)} {as as' : List Sl} {vs : List V} (st : Stt K mg P F H σ ρ) (r : ARel K mg P F H σ l vs) (nd : (refsOf l).Nodup) (e : mkAs l ρ = some as) (sb : SubH F F') (st' : Stt K mg (callP F H σ l as vs) F' H' (vs.map some) as') :
    Stt K mg P F' H' σ (putB l as' ρ) ∧ ∀ v o, OutOk K mg (callP F H σ l as vs) F' H' (vs.map some) as' v o → OutOk K mg P F' H' σ (putB l as' ρ) v o := by
  obtain ⟨hl, hg⟩ := mkAs_get e
  have hv := r.length
  have noref : ∀ {i : Nat} {a : Addr}, Owns σ ρ i a → i ∉ refsOf l → ¬ ∃ j ∈ refsOf l, σ[j]? = some (some (.ref a)) := fun {i a} w hi ⟨j, hj, ej⟩ => by
    obtain ⟨k, hk⟩ := refs_mem.mp hj
    obtain ⟨c, _, h4⟩ := (hg k _ hk).2 j rfl
    have : Owns σ ρ j a := by rcases h4 with h4 | h4 <;> exact ⟨⟨_, h4, rfl⟩, ej⟩
    exact hi (st.apart i j a w this ▸ hj)
  have nop : ∀ {p : Addr} {o : HO}, P.H p = some o → ¬ ∃ j ∈ refsOf l, σ[j]? = some (some (.ref p)) := fun {p o} q ⟨j, hj, ej⟩ => by
    obtain ⟨k, hk⟩ := refs_mem.mp hj
    obtain ⟨c, _, h4⟩ := (hg k _ hk).2 j rfl
    have : Owns σ ρ j p := by rcases h4 with h4 | h4 <;> exact ⟨⟨_, h4, rfl⟩, ej⟩
    obtain ⟨_, z, _⟩ := st.owned this
    rw [z] at q; cases q
  have kp : ∀ p o, P.H p = some o → H' p = some o ∧ F' p = none := fun p o q => by
    obtain ⟨h1, h2⟩ := st.keep p o q
    exact st'.keep p o (callP_some h2 (nop q) h1)
  have stt : Stt K mg P F' H' σ (putB l as' ρ) := by
    refine st.swap st'.sub kp (putB_length _ _ _) (putB_get ρ l as' ρ nd (fun i s q => ⟨s, q, rfl, rfl, ?_⟩) fun k i q => ?_)
    · by_cases hi : i ∈ refsOf l
      · exact .inr ⟨rfl, hi⟩
      · refine .inl ((st.sl i s q).grow sb fun a w ea => ?_)
        have ow : Owns σ ρ i a := ⟨⟨s, q, w⟩, of_getD ea⟩
        obtain ⟨z1, z2, u, z3⟩ := st.owned ow
        obtain ⟨y1, y2⟩ := st'.keep a u (callP_some z1 (noref ow hi) z3)
        exact ⟨y2, y1.trans z3.symm⟩
    · obtain ⟨c, ek, h4⟩ := (hg k _ q).2 i rfl
      obtain ⟨v, ev, _, r2⟩ := r.get q
      have es := r2 i rfl
      have hp : (callP F H σ l as vs).pin k = some v := by
        unfold callP
        simp only [ek]
        exact ev
      obtain ⟨p1, s', p2, p3⟩ := st'.pin k v hp
      cases s' with
      | ref c' =>
        refine ⟨c', p2, fun s1 e1 => ?_⟩
        have x := st'.sl k _ p2
        have z : (vs.map some).getD k none = some v := by simp [List.getD, ev]
        rw [z] at x
        obtain ⟨a, ea, x1, x2, x3⟩ := x
        cases ea
        rw [getD_of es]
        have ow : Owns σ ρ i a := by rcases h4 with h4 | h4 <;> exact ⟨⟨_, h4, rfl⟩, es⟩
        obtain ⟨_, z2, _⟩ := st.owned ow
        rcases h4 with h4 | h4
        · rw [e1] at h4; cases h4
          exact ⟨rfl, a, rfl, x1, z2, x3⟩
        · rw [e1] at h4; cases h4
          exact ⟨rfl, a, rfl, x1, z2, x3⟩
      | emp => cases p3
      | val d => cases p3
      | own c => cases p3
      | fn y => cases p3
  refine ⟨stt, fun v o x => ?_⟩
  -- an object of its own that comes back is the caller's: it was none of what stood
  have fresh : ∀ {a : Addr}, (callP F H σ l as vs).H a = none → v = .ref a → o.isOwn = true → F' a = none → P.H a = none ∧ ∀ i, ¬ Owns σ (putB l as' ρ) i a := fun {a} h1 ev w hf => by
    have hfa : F a = none := by
      cases q : F a with
      | none => rfl
      | some u => rw [sb a u q] at hf; cases hf
    refine ⟨?_, fun i ow => ?_⟩
    · cases q : P.H a with
      | none => rfl
      | some u =>
        obtain ⟨z1, z2⟩ := st.keep a u q
        rw [callP_some z2 (nop q) z1] at h1; cases h1
    · obtain ⟨⟨s2, e2, w2⟩, es⟩ := ow
      have : ∃ s1, ρ[i]? = some s1 ∧ s1.isOwn = true := by
        have hi : i < ρ.length := by
          rcases Nat.lt_or_ge i ρ.length with z | z
          · exact z
          · rw [List.getElem?_eq_none (by rw [putB_length]; exact z)] at e2; cases e2
        have sl2 := stt.sl i s2 e2
        refine ⟨ρ[i], List.getElem?_eq_getElem hi, ?_⟩
        have kinds : ∀ (l : List (Sl ⊕ Nat)) (as : List Sl) (ρ : Env) (i : Nat) (s1 s2 : Sl), ρ[i]? = some s1 → (putB l as ρ)[i]? = some s2 → s1.isOwn = s2.isOwn := by
          intro l
          induction l with
          | nil => intro as ρ i s1 s2 a b; rw [putB] at b; rw [a] at b; cases b; rfl
          | cons x l ih =>
            intro as ρ i s1 s2 a b
            cases x with
            | inl s => exact ih _ ρ i s1 s2 a b
            | inr j =>
              simp only [putB] at b
              cases z : ρ[j]? with
              | none => simp only [z] at b; exact ih _ ρ i s1 s2 a b
              | some sj =>
                simp only [z] at b
                by_cases hij : j = i
                · subst hij
                  rw [a] at z; cases z
                  have hl : j < ρ.length := by
                    rcases Nat.lt_or_ge j ρ.length with h | h
                    · exact h
                    · rw [List.getElem?_eq_none h] at a; cases a
                  exact (upd1_own s1 as.head?).1.symm.trans (ih _ (ρ.set j (upd1 s1 as.head?)) j (upd1 s1 as.head?) s2 (List.getElem?_set_self hl) b)
                · exact ih _ (ρ.set j _) i s1 s2 (by rw [List.getElem?_set_ne hij]; exact a) b
        rw [kinds l as' ρ i _ _ (List.getElem?_eq_getElem hi) e2]; exact w2
      obtain ⟨s1, e1, w1⟩ := this
      have ow1 : Owns σ ρ i a := ⟨⟨s1, e1, w1⟩, es⟩
      by_cases hi : i ∈ refsOf l
      · obtain ⟨k, hk⟩ := refs_mem.mp hi
        obtain ⟨v2, ev2, _, r2⟩ := r.get hk
        have := r2 i rfl
        rw [es] at this; cases this
        obtain ⟨c, ek, h4⟩ := (hg k _ hk).2 i rfl
        have hp : (callP F H σ l as vs).pin k = some (.ref a) := by
          unfold callP
          simp only [ek]
          exact ev2
        obtain ⟨p1, s', p2, p3⟩ := st'.pin k _ hp
        exact x.free w k a ev ⟨⟨s', p2, by cases s' <;> first | rfl | cases p3⟩, p1⟩
      · obtain ⟨z1, z2, u, z3⟩ := st.owned ow1
        rw [callP_some z1 (noref ow1 hi) z3] at h1; cases h1
  refine ⟨?_, x.ne, x.nr, fun w i a ev => ?_⟩
  · cases o with
    | emp => trivial
    | val d => exact x.sl
    | fn y => exact x.sl
    | ref c => exact absurd x.nr (by simp [Sl.isRef])
    | own c =>
      obtain ⟨a, ea, h1, h2, h3⟩ := x.sl
      cases ea
      exact ⟨a, rfl, h1, (fresh h2 rfl rfl h1).1, h3⟩
  · cases o with
    | own c =>
      obtain ⟨a', ea, h1, h2, h3⟩ := x.sl
      rw [ev] at ea; cases ea
      exact (fresh h2 ev rfl h1).2 i
    | emp => cases w
    | val d => cases w
    | fn y => cases w
    | ref c => exact absurd x.nr (by simp [Sl.isRef])
end
structure PCD (X : Cx) (W : WX) (es : List Expr) (as : List Ar) : Prop where
  ex : ∃ t, PA X es t ∧ DC X.K X.mg W t as
section
variable {X : Cx} {W : WX} {x : Str} {p pos : Pos} {e : Expr} {es : List Expr} {f : EX} {as : List Ar}
theorem pcd_nil : PCD X W [] [] := ⟨_, pa_nil, dc_nil⟩
theorem pcd_v (h1 : PD X W e f) (h2 : PCD X W es as) (hs : starEach (e :: es) X.env = (false, eval e X.env) :: starEach es X.env := by rfl) : PCD X W (e :: es) (.v f :: as) := by
  obtain ⟨t, p, d⟩ := h1.ex
  obtain ⟨u, q, d2⟩ := h2.ex
  exact ⟨_, pa_cons p q hs, dc_v d d2⟩
theorem pcd_r (i : Nat) (h2 : PCD X W es as) (hN : X.N[i]? = some x := by rfl) (hv : Vis X.env.scope x := by first | exact Or.inl rfl | exact Or.inr (Or.inl rfl) | exact Or.inr (Or.inr rfl)) (hd : (x == ("__debug__" : Str)) = false := by decide)
    (hcd : (x == ("__classdict__" : Str)) = false := by decide) (hs : starEach ((.Name x p) :: es) X.env = (false, eval (.Name x p) X.env) :: starEach es X.env := by rfl) : PCD X W ((.Name x p) :: es) (.r i :: as) := by
  obtain ⟨u, q, d2⟩ := h2.ex
  exact ⟨_, pa_cons (pe_var hN hv hd hcd) q hs, dc_r i d2⟩
theorem de_call {K : PySem.W.Frag} {mg : Str → Option Value} {ta : TA} {den : Den} {n : Nat} (h : DC K mg W ta as) (hn : as.length = n) : DE K mg W (tCallS (spD K mg n den) (WE W) ta) (eCall den as) := by
  intro P F H σ ρ Q st hp
  refine h P F H σ ρ _ st ?_
  unfold eCall at hp
  cases e : cArgs as ρ with
  | bad => simp only [e] at hp; exact hp
  | exc c gs ρ1 => simp only [e] at hp; exact hp
  | ok l ρ1 =>
    simp only [e] at hp
    intro F1 H1 vs sb st1 r
    have hl : l.length = as.length := by
      have : ∀ (as : List Ar) (ρ ρ1 : Env) (l : List (Sl ⊕ Nat)), cArgs as ρ = .ok l ρ1 → l.length = as.length := by
        intro as
        induction as with
        | nil => intro ρ ρ1 l z; cases z; rfl
        | cons a as ih =>
          intro ρ ρ1 l z
          have c1 : ∀ {x : Sl ⊕ Nat} {ρ : Env}, (cArgs as ρ).cons x = .ok l ρ1 → l.length = as.length + 1 := fun {x ρ} z => by
            cases q : cArgs as ρ with
            | bad => rw [q] at z; cases z
            | exc c gs ρ2 => rw [q] at z; cases z
            | ok l2 ρ2 => rw [q] at z; cases z; simp [ih _ _ _ q]
          cases a with
          | v f =>
            simp only [cArgs] at z
            cases q : f ρ with
            | bad => rw [q] at z; cases z
            | exc c gs ρ2 => rw [q] at z; cases z
            | ok o ρ2 =>
              rw [q] at z
              simp only [R.toC] at z
              cases y : o.toVal with
              | none => simp only [y] at z; cases z
              | some s => simp only [y] at z; exact c1 z
          | r i =>
            simp only [cArgs] at z
            cases q : ρ[i]? with
            | none => simp only [q] at z; cases z
            | some s =>
              cases s with
              | own c => simp only [q] at z; exact c1 z
              | ref c => simp only [q] at z; exact c1 z
              | emp => simp only [q] at z; cases z
              | val d => simp only [q] at z; cases z
              | fn y => simp only [q] at z; cases z
      exact this as ρ ρ1 l e
    split at hp
    · rename_i nd
      cases m : mkAs l ρ1 with
      | none => simp only [m] at hp; exact hp.elim
      | some sls =>
        simp only [m] at hp
        obtain ⟨c1, c2, c3⟩ := call_in st1 r nd m
        refine ⟨by rw [r.length, hl, hn], _, F1, sls, c1, c2, c3, ?_⟩
        cases d : den sls with
        | bad => simp only [d] at hp; exact hp.elim
        | ret o as' =>
          simp only [d] at hp
          intro F2 H2 v sb2 st2 x
          obtain ⟨o1, o2⟩ := call_out st1 r nd m sb2 st2
          exact hp F2 H2 v (sb.trans sb2) o1 (o2 v o x)
        | exc c gs as' =>
          simp only [d] at hp
          intro F2 H2 C dd sb2 st2 x
          obtain ⟨o1, o2⟩ := call_out st1 r nd m sb2 st2
          exact hp F2 H2 C dd (sb.trans sb2) o1 x
    · exact hp.elim
/-- f(..), f a def of the text -/
theorem pd_call {ps : List Str} {k : Nat} {den : Den} (C : Callee X.prog X.w X.K X.mg X.base x ps k den) (hr : Room k X.A) (tk : Takes X W) (ha : PCD X W (e :: es) as) (hn : as.length = ps.length := by rfl) (hg : Gl X x := by rfl)
    (hdb : (x == ("__debug__" : Str)) = false := by decide) (he : starEach (e :: es) X.env = (false, eval e X.env) :: starEach es X.env := by rfl) (hpl : (backTo pos (starEach es X.env)).any (·.1) = false := by rfl) : PD X W (.Call (.Name x p) (e :: es) [] pos) (eCall den as) := by
  obtain ⟨f, fd, F, hm, hk, hb⟩ := C.ex
  obtain ⟨t, pa, dc⟩ := ha.ex
  exact ⟨_, pe_callS F hr hg hm hk hb (fun σ => passAt tk σ) pa hdb he hpl, de_call dc hn⟩
end
end Dk

set_option Elab.async false
set_option linter.all false
set_option maxRecDepth 100000
set_option maxHeartbeats 4000000
/-! Dk7: list comprehensions by data -/
namespace Dk
open PySem PySem.Spec L2

/-! ### the reading of a meaning -/
def tD (K : PySem.W.Frag) (mg : Str → Option Value) (W : WX) (f : EX) : TE := fun σ H Q => ∃ P F ρ, Stt K mg P F H σ ρ ∧ Post K mg W P F σ (f ρ) Q
def tTD (K : PySem.W.Frag) (mg : Str → Option Value) (W : WX) (f : EX) : TT := fun σ H Q => ∃ P F ρ, Stt K mg P F H σ ρ ∧ PostB K mg W P F σ (f ρ) Q
def gD (K : PySem.W.Frag) (mg : Str → Option Value) (h : Tg) : TG := fun v σ H Q => ∃ P F ρ ρ' d, Stt K mg P F H σ ρ ∧ Rep K F d v ∧ h.h d ρ = some ρ' ∧ ∀ σ', Stt K mg P F H σ' ρ' → Agree h.ts σ σ' → Q σ' H
def wD (K : PySem.W.Frag) (mg : Str → Option Value) (W : WX) (f : EX) : TI := fun σ H Q => ∃ P F ρ, Stt K mg P F H σ ρ ∧ PostI K mg W P F σ (f ρ) Q
section
variable {X : Cx} {W : WX} {e tg : Expr} {f : EX} {h : Tg} {ifs : List Expr}
theorem PD.toPE (p : PD X W e f) : PE X e (tD X.K X.mg W f) := by
  obtain ⟨t, pe, de⟩ := p.ex
  exact ⟨fun pins s σ H Q I ⟨P, F, ρ, st, hp⟩ => pe.run pins s σ H Q I (de P F H σ ρ Q st hp)⟩
theorem de_tD (K : PySem.W.Frag) (mg : Str → Option Value) (W : WX) (f : EX) : DE K mg W (tD K mg W f) f := fun P F H σ ρ Q st hp => ⟨P, F, ρ, st, hp⟩
theorem dt_tTD (K : PySem.W.Frag) (mg : Str → Option Value) (W : WX) (f : EX) : DT K mg W (tTD K mg W f) f := fun P F H σ ρ Q st hp => ⟨P, F, ρ, st, hp⟩
theorem dg_gD (K : PySem.W.Frag) (mg : Str → Option Value) (h : Tg) : DG K mg (gD K mg h) h := fun P F H σ ρ ρ' d v Q st r e k => ⟨P, F, ρ, ρ', d, st, r, e, k⟩
theorem di_wD (K : PySem.W.Frag) (mg : Str → Option Value) (W : WX) (f : EX) : DI K mg W (wD K mg W f) f := fun P F H σ ρ Q st hp => ⟨P, F, ρ, st, hp⟩
theorem PGD.toPG (p : PGD X tg h) : PG X tg (gD X.K X.mg h) := by
  obtain ⟨g, pg, dg⟩ := p.ex
  exact ⟨fun pins s σ H v u Q I r ⟨P, F, ρ, ρ', d, st, rp, e, k⟩ => pg.run pins s σ H v u Q I r (dg P F H σ ρ ρ' d v Q st rp e k)⟩
theorem PID.toPI (p : PID X W tg e f) : PI X tg e (wD X.K X.mg W f) := by
  obtain ⟨wi, pi, di⟩ := p.ex
  exact ⟨fun pins s σ H Q I ⟨P, F, ρ, st, hp⟩ => pi.run pins s σ H Q I (di P F H σ ρ Q st hp)⟩
/-- a clause's tests -/
structure PTsD (X : Cx) (W : WX) (ifs : List Expr) (f : EX) : Prop where
  ex : ∃ t, PTs X ifs t ∧ DT X.K X.mg W t f
theorem PTsD.toPTs (p : PTsD X W ifs f) : PTs X ifs (tTD X.K X.mg W f) := by
  obtain ⟨t, pt, dt⟩ := p.ex
  exact ⟨fun pins s σ H Q I ⟨P, F, ρ, st, hp⟩ => pt.run pins s σ H Q I (dt P F H σ ρ Q st hp)⟩
def eYes : EX := fun ρ => .ok (.val (.bool true)) ρ
theorem ptsd_nil : PTsD X W [] eYes := ⟨_, pts_nil, fun P F H σ ρ Q st hp => hp F H (SubH.refl F) st⟩
theorem ptsd_one {c : Expr} (p : PTD X W c f) : PTsD X W [c] f := by
  obtain ⟨t, pt, dt⟩ := p.ex
  exact ⟨_, pts_one pt, dt⟩
end

/-! ### slots of a block -/
def wipeE (vs : List Nat) (ρ : Env) : Env := ρ.mapIdx fun i s => if i ∈ vs then .emp else s
def unwipe (vs : List Nat) (old ρ : Env) : Env := ρ.mapIdx fun i s => if i ∈ vs then old.getD i .emp else s
def clearB (vs : List Nat) (ρ : Env) : Bool := vs.all fun i => match ρ[i]? with
  | some s => !s.isOwn
  | none => true
def lcD (h : Tg) (tt elt : EX) (vs : List Nat) : List D → Env → List D → R
  | [], ρ, acc => .ok (.own (.lst acc)) ρ
  | d :: ds, ρ, acc => match h.h d ρ with
    | none => .bad
    | some ρ1 => match tt ρ1 with
      | .ok (.val (.bool b)) ρ2 => if b = true then (match elt ρ2 with
          | .ok o ρ3 => (match o.frz with
            | some y => lcD h tt elt vs ds (wipeE vs ρ3) (acc ++ [y])
            | none => .bad)
          | _ => .bad) else lcD h tt elt vs ds (wipeE vs ρ2) acc
      | _ => .bad
def R.unw (vs : List Nat) (old : Env) : R → R
  | .ok o ρ => .ok o (unwipe vs old ρ)
  | r => r
def eLc (fi : EX) (h : Tg) (tt elt : EX) (vs : List Nat) : EX := fun ρ => match fi ρ with
  | .ok (.val (.list ds)) ρ1 => if clearB vs ρ1 = true ∧ ds.length ≤ sizeLine then (lcD h tt elt vs ds (wipeE vs ρ1) []).unw vs ρ1 else .bad
  | .exc c fs ρ1 => .exc c fs ρ1
  | _ => .bad
theorem wipe_get {σ : SS} {vs : List Nat} {i : Nat} : (wipe σ vs)[i]? = if i ∈ vs then (if i < σ.length then some none else none) else σ[i]? := by
  induction vs with
  | nil => simp [wipe]
  | cons v vs ih =>
    unfold wipe
    by_cases h : v = i
    · subst h
      rw [if_pos List.mem_cons_self]
      by_cases hl : v < σ.length
      · rw [List.getElem?_set_self (by rw [wipe_length]; exact hl), if_pos hl]
      · rw [List.getElem?_eq_none (by simpa [wipe_length] using hl), if_neg hl]
    · rw [List.getElem?_set_ne h, ih]
      by_cases h2 : i ∈ vs
      · rw [if_pos h2, if_pos (List.mem_cons_of_mem _ h2)]
      · rw [if_neg h2, if_neg (fun z => by
          rcases List.mem_cons.mp z with z | z
          · exact h z.symm
          · exact h2 z)]
theorem wipe_agree {σ σ' : SS} {ts vs : List Nat} (a : Agree ts σ σ') (hs : ∀ i ∈ ts, i ∈ vs) : wipe σ' vs = wipe σ vs := by
  apply List.ext_getElem?
  intro i
  rw [wipe_get, wipe_get, a.1]
  by_cases h : i ∈ vs
  · rw [if_pos h, if_pos h]
  · rw [if_neg h, if_neg h]
    exact a.2 i fun z => h (hs i z)
theorem wipe_wipe (σ : SS) (vs : List Nat) : wipe (wipe σ vs) vs = wipe σ vs := by
  apply List.ext_getElem?
  intro i
  rw [wipe_get, wipe_get, wipe_length]
  by_cases h : i ∈ vs
  · rw [if_pos h, if_pos h]
  · rw [if_neg h, if_neg h]
theorem wipeE_get {ρ : Env} {vs : List Nat} {i : Nat} {s : Sl} (e : (wipeE vs ρ)[i]? = some s) : (i ∈ vs ∧ s = .emp) ∨ (i ∉ vs ∧ ρ[i]? = some s) := by
  unfold wipeE at e
  rw [List.getElem?_mapIdx] at e
  cases q : ρ[i]? with
  | none => rw [q] at e; cases e
  | some s0 =>
    rw [q] at e
    simp only [Option.map_some, Option.some.injEq] at e
    by_cases h : i ∈ vs
    · rw [if_pos h] at e; exact .inl ⟨h, e.symm⟩
    · rw [if_neg h] at e; exact .inr ⟨h, by rw [e]⟩
theorem unwipe_get {old ρ : Env} {vs : List Nat} {i : Nat} {s : Sl} (e : (unwipe vs old ρ)[i]? = some s) : (i ∈ vs ∧ s = old.getD i .emp) ∨ (i ∉ vs ∧ ρ[i]? = some s) := by
  unfold unwipe at e
  rw [List.getElem?_mapIdx] at e
  cases q : ρ[i]? with
  | none => rw [q] at e; cases e
  | some s0 =>
    rw [q] at e
    simp only [Option.map_some, Option.some.injEq] at e
    by_cases h : i ∈ vs
    · rw [if_pos h] at e; exact .inl ⟨h, e.symm⟩
    · rw [if_neg h] at e; exact .inr ⟨h, by rw [e]⟩
section
variable {K : PySem.W.Frag} {mg : Str → Option Value} {P : Prot} {F H : Hp} {σ : SS} {ρ : Env}
theorem clearB_get {vs : List Nat} (h : clearB vs ρ = true) {i : Nat} {s : Sl} (hi : i ∈ vs) (e : ρ[i]? = some s) : s.isOwn = false := by
  unfold clearB at h
  rw [List.all_eq_true] at h
  have := h i hi
  rw [e] at this
  simpa using this
/-- protected besides: the object at a -/
def Prot.also (P : Prot) (a : Addr) (o : HO) : Prot := { H := upd P.H a o, pin := P.pin }
theorem Owns.of_wipe {vs : List Nat} {i : Nat} {a : Addr} (w : Owns (wipe σ vs) (wipeE vs ρ) i a) : Owns σ ρ i a ∧ i ∉ vs := by
  obtain ⟨⟨s, e, k⟩, q⟩ := w
  rcases wipeE_get e with ⟨h, rfl⟩ | ⟨h, e'⟩
  · cases k
  · rw [wipe_get, if_neg h] at q
    exact ⟨⟨⟨s, e', k⟩, q⟩, h⟩
theorem SlOk.also {a : Addr} {u : HO} {o : Option V} {s : Sl} (hn : s.isOwn = true → o ≠ some (.ref a)) (x : SlOk K mg P F H o s) : SlOk K mg (P.also a u) F H o s := by
  cases s with
  | emp => trivial
  | val d => exact x
  | fn y => exact x
  | own c =>
    obtain ⟨b, e, h1, h2, h3⟩ := x
    refine ⟨b, e, h1, ?_, h3⟩
    show upd P.H a u b = none
    rw [upd_ne (fun z => hn rfl (by rw [e, z]))]; exact h2
  | ref c =>
    obtain ⟨b, e, h1, h2, h3⟩ := x
    refine ⟨b, e, h1, ?_, h3⟩
    show upd P.H a u b = none
    rw [upd_ne (fun z => hn rfl (by rw [e, z]))]; exact h2
theorem SlOk.unalso {a : Addr} {u : HO} {o : Option V} {s : Sl} (hn : P.H a = none) (x : SlOk K mg (P.also a u) F H o s) : SlOk K mg P F H o s := by
  have z : ∀ b, (P.also a u).H b = none → P.H b = none := fun b h => by
    by_cases hb : b = a
    · rw [hb]; exact hn
    · have h' : upd P.H a u b = none := h
      rw [upd_ne hb] at h'; exact h'
  cases s with
  | emp => trivial
  | val d => exact x
  | fn y => exact x
  | own c => obtain ⟨b, e, h1, h2, h3⟩ := x; exact ⟨b, e, h1, z b h2, h3⟩
  | ref c => obtain ⟨b, e, h1, h2, h3⟩ := x; exact ⟨b, e, h1, z b h2, h3⟩
/-- into a block: its own slots are empty, the new list at a is protected -/
theorem Stt.block {vs : List Nat} {a : Addr} {u : HO} (st : Stt K mg P F H σ ρ) (hc : clearB vs ρ = true) (ha : H a = some u) (hf : F a = none) (hn : ∀ i, ¬ Owns σ ρ i a) : Stt K mg (P.also a u) F H (wipe σ vs) (wipeE vs ρ) where
  sub := st.sub
  keep := fun p o q => by
    by_cases hp : p = a
    · subst hp
      have q' : upd P.H p u p = some o := q
      rw [upd_same] at q'; cases q'
      exact ⟨ha, hf⟩
    · have q' : upd P.H a u p = some o := q
      rw [upd_ne hp] at q'
      exact st.keep p o q'
  len := by rw [wipe_length]; simp [wipeE, st.len]
  sl := fun i s e => by
    rcases wipeE_get e with ⟨h, rfl⟩ | ⟨h, e'⟩
    · trivial
    · have z : (wipe σ vs).getD i none = σ.getD i none := by simp only [List.getD]; rw [wipe_get, if_neg h]
      rw [z]
      exact (st.sl i s e').also fun w q => hn i ⟨⟨s, e', w⟩, of_getD q⟩
  apart := fun i j b w1 w2 => st.apart i j b w1.of_wipe.1 w2.of_wipe.1
  pin := fun i v e => by
    obtain ⟨h1, s, h2, h3⟩ := st.pin i v e
    have hi : i ∉ vs := fun z => by
      have := clearB_get hc z h2
      cases s <;> first | (cases h3; done) | (cases this; done)
    refine ⟨by rw [wipe_get, if_neg hi]; exact h1, s, ?_, h3⟩
    unfold wipeE
    rw [List.getElem?_mapIdx, h2]
    simp [hi]
/-- between two turns: the block's slots are emptied again; the new list has grown -/
theorem Stt.again {vs : List Nat} {a : Addr} {u u' : HO} {σ0 : SS} (st : Stt K mg (P.also a u) F H σ ρ) (hw : wipe σ vs = wipe σ0 vs) (hc : ∀ i ∈ vs, P.pin i = none) (hn : P.H a = none) (hf : F a = none) :
    Stt K mg (P.also a u') F (upd H a u') (wipe σ0 vs) (wipeE vs ρ) where
  sub := fun p o q => by
    rw [upd_ne (fun z => by subst z; rw [hf] at q; cases q)]
    exact st.sub p o q
  keep := fun p o q => by
    by_cases hp : p = a
    · subst hp
      have q' : upd P.H p u' p = some o := q
      rw [upd_same] at q'; cases q'
      exact ⟨upd_same, hf⟩
    · have q' : upd P.H a u' p = some o := q
      rw [upd_ne hp] at q'
      obtain ⟨h1, h2⟩ := st.keep p o (show upd P.H a u p = some o by rw [upd_ne hp]; exact q')
      exact ⟨by rw [upd_ne hp]; exact h1, h2⟩
  len := by
    have : (wipe σ0 vs).length = σ.length := by rw [← hw, wipe_length]
    rw [this]; simp [wipeE, st.len]
  sl := fun i s e => by
    rcases wipeE_get e with ⟨h, rfl⟩ | ⟨h, e'⟩
    · trivial
    · have z : (wipe σ0 vs).getD i none = σ.getD i none := by rw [← hw]; simp only [List.getD]; rw [wipe_get, if_neg h]
      rw [z]
      have x := st.sl i s e'
      have na : s.isOwn = true → σ.getD i none ≠ some (.ref a) := fun w q => by
        obtain ⟨_, h2, _⟩ := st.owned ⟨⟨s, e', w⟩, of_getD q⟩
        have : upd P.H a u a = none := h2
        rw [upd_same] at this; cases this
      have x2 := (x.unalso hn).also (a := a) (u := u') na
      refine x2.grow (SubH.refl F) fun b w q => ?_
      have hb : b ≠ a := fun z => na w (by rw [q, z])
      obtain ⟨h1, _, _⟩ := st.owned ⟨⟨s, e', w⟩, of_getD q⟩
      exact ⟨h1, upd_ne hb⟩
  apart := fun i j b w1 w2 => by
    rw [← hw] at w1 w2
    exact st.apart i j b w1.of_wipe.1 w2.of_wipe.1
  pin := fun i v e => by
    obtain ⟨h1, s, h2, h3⟩ := st.pin i v e
    have hi : i ∉ vs := fun z => by
      have e' : P.pin i = some v := e
      rw [hc i z] at e'; cases e'
    refine ⟨by rw [← hw, wipe_get, if_neg hi]; exact h1, s, ?_, h3⟩
    unfold wipeE
    rw [List.getElem?_mapIdx, h2]
    simp [hi]
/-- out of a block -/
theorem Stt.unblock {vs : List Nat} {a : Addr} {u : HO} {F0 H0 : Hp} {ρ0 : Env} (st0 : Stt K mg P F0 H0 σ ρ0) (hc : clearB vs ρ0 = true) (sb : SubH F0 F) (st : Stt K mg (P.also a u) F H (wipe σ vs) ρ) (hn : P.H a = none) :
    Stt K mg P F H σ (unwipe vs ρ0 ρ) ∧ ∀ i, ¬ Owns σ (unwipe vs ρ0 ρ) i a := by
  have own : ∀ i b, Owns σ (unwipe vs ρ0 ρ) i b → Owns (wipe σ vs) ρ i b := fun i b ⟨⟨s, e, w⟩, q⟩ => by
    rcases unwipe_get e with ⟨h, rfl⟩ | ⟨h, e'⟩
    · cases z : ρ0[i]? with
      | none => simp only [List.getD, z] at w; cases w
      | some s0 =>
        have := clearB_get hc h z
        simp only [List.getD, z, Option.getD_some] at w
        rw [this] at w; cases w
    · exact ⟨⟨s, e', w⟩, by rw [wipe_get, if_neg h]; exact q⟩
  refine ⟨⟨st.sub, fun p o q => st.keep p o (show upd P.H a u p = some o by
      rw [upd_ne (fun z => by subst z; rw [hn] at q; cases q)]; exact q), ?_, fun i s e => ?_, fun i j b w1 w2 => st.apart i j b (own i b w1) (own j b w2), fun i v e => ?_⟩, fun i w => ?_⟩
  · have h1 := st.len
    rw [wipe_length] at h1
    simp [unwipe, h1]
  · rcases unwipe_get e with ⟨h, rfl⟩ | ⟨h, e'⟩
    · cases z : ρ0[i]? with
      | none => simp only [List.getD, z]; trivial
      | some s0 =>
        have no := clearB_get hc h z
        have x := st0.sl i s0 z
        have : ρ0.getD i .emp = s0 := by simp [List.getD, z]
        rw [this]
        exact x.grow sb fun b w => by rw [no] at w; cases w
    · have x := st.sl i s e'
      have z : (wipe σ vs).getD i none = σ.getD i none := by simp only [List.getD]; rw [wipe_get, if_neg h]
      rw [z] at x
      exact x.unalso hn
  · obtain ⟨h1, s, h2, h3⟩ := st.pin i v e
    obtain ⟨g1, s0, g2, g3⟩ := st0.pin i v e
    have hi : i ∉ vs := fun z => by
      have := clearB_get hc z g2
      cases s0 <;> first | (cases g3; done) | (cases this; done)
    refine ⟨g1, s, ?_, h3⟩
    unfold unwipe
    rw [List.getElem?_mapIdx, h2]
    simp [hi]
  · obtain ⟨_, z, _⟩ := st.owned (own i a w)
    have : upd P.H a u a = none := z
    rw [upd_same] at this; cases this
end
abbrev WF : WX := fun _ _ _ _ => False
section
variable {K : PySem.W.Frag} {mg : Str → Option Value} {W : WX}
theorem de_lc {wi : TI} {fi : EX} {h : Tg} {tt elt : EX} {vs : List Nat} (hi : DI K mg W wi fi) (hts : ∀ i ∈ h.ts, i ∈ vs) : DE K mg W (tLc wi (gD K mg h) (tTD K mg WF tt) (tD K mg WF elt) vs) (eLc fi h tt elt vs) := by
  intro P F H σ ρ Q st hp
  refine hi P F H σ ρ _ st ?_
  unfold eLc at hp
  cases e : fi ρ with
  | bad => simp only [e] at hp; exact hp
  | exc c fs ρ1 => simp only [e] at hp; exact hp
  | ok o ρ1 =>
    simp only [e] at hp
    cases o with
    | val d =>
      cases d with
      | list ds =>
        simp only at hp
        split at hp
        · rename_i hcl
          obtain ⟨hc, hz⟩ := hcl
          intro F1 H1 J sb st1 it a hna
          obtain ⟨fr1, fr2, fr3⟩ := st1.fresh hna
          have stA : Stt K mg P F1 (upd H1 a (.lst [])) σ ρ1 := st1.alloc hna
          have stB : Stt K mg (P.also a (.lst [])) F1 (upd H1 a (.lst [])) (wipe σ vs) (wipeE vs ρ1) := stA.block hc upd_same fr1 fr3
          have hpin : ∀ i ∈ vs, P.pin i = none := fun i hi => by
            cases q : P.pin i with
            | none => rfl
            | some v =>
              obtain ⟨_, s, h2, h3⟩ := st1.pin i v q
              have := clearB_get hc hi h2
              cases s <;> first | (cases h3; done) | (cases this; done)
          refine ⟨fun i m H' => ∃ F' ρ' acc accV, m = ds.length - i ∧ i ≤ ds.length ∧ acc.length ≤ i ∧ SubH F1 F' ∧ Stt K mg (P.also a (.lst accV)) F' H' (wipe σ vs) ρ' ∧ RepL K F' acc accV ∧ Post K mg W P F' σ ((lcD h tt elt vs (ds.drop i) ρ' acc).unw vs ρ1) Q,
            ⟨ds.length, F1, _, [], [], by omega, Nat.zero_le _, Nat.le_refl _, SubH.refl _, stB, RepL.nil, Post.le sb hp⟩, ?_⟩
          rintro i m H' ⟨F', ρ', acc, accV, rfl, hi', hacc, sb', st', rl, q⟩
          have hF' : F' a = none := (st'.keep a (.lst accV) upd_same).2
          have hH' : H' a = some (.lst accV) := (st'.keep a (.lst accV) upd_same).1
          obtain ⟨i1, i2⟩ := it (P.also a (.lst accV)) F' H' (wipe σ vs) ρ' i sb' st'
          by_cases hlt : i < ds.length
          · obtain ⟨go, y⟩ := i2 ds[i] (by simp [hlt])
            rw [List.drop_eq_getElem_cons hlt] at q
            refine .inr ⟨go, fun H2 => ∃ F2 ρ2 acc2 accV2, acc2.length ≤ i + 1 ∧ SubH F1 F2 ∧ Stt K mg (P.also a (.lst accV2)) F2 H2 (wipe σ vs) ρ2 ∧ RepL K F2 acc2 accV2 ∧ Post K mg W P F2 σ ((lcD h tt elt vs (ds.drop (i + 1)) ρ2 acc2).unw vs ρ1) Q,
              fun H2 ⟨F2, ρ2, acc2, accV2, z1, z2, z3, z4, z5⟩ => ⟨ds.length - (i + 1), by omega, F2, ρ2, acc2, accV2, rfl, hlt, z1, z2, z3, z4, z5⟩, fun x H2 yx => ?_⟩
            obtain ⟨F2, sb2, st2, r2⟩ := y x H2 yx
            simp only [lcD] at q
            cases z : h.h ds[i] ρ' with
            | none => simp only [z] at q; exact q.elim
            | some ρ3 =>
              simp only [z] at q
              refine ⟨_, F2, ρ', ρ3, ds[i], st2, r2, z, fun σ3 st3 ag => ⟨?_, ?_⟩⟩
              · rw [wipe_agree ag hts, wipe_wipe]
              · have hw3 : wipe σ3 vs = wipe σ vs := by rw [wipe_agree ag hts, wipe_wipe]
                refine ⟨_, F2, ρ3, st3, ?_⟩
                have q' := Post.le sb2 q
                cases w : tt ρ3 with
                | bad => simp only [w] at q'; exact q'.elim
                | exc c fs ρ4 => simp only [w] at q'; exact q'.elim
                | ok o ρ4 =>
                  simp only [w] at q'
                  cases o with
                  | val dv =>
                    cases dv with
                    | bool b =>
                      simp only at q'
                      intro F4 H4 sb4 st4
                      cases b with
                      | false =>
                        simp only [Bool.false_eq_true, if_false] at q' ⊢
                        have hF4 : F4 a = none := (st4.keep a (.lst accV) upd_same).2
                        have hH4 : H4 a = some (.lst accV) := (st4.keep a (.lst accV) upd_same).1
                        refine ⟨F4, wipeE vs ρ4, acc, accV, by omega, (sb'.trans sb2).trans sb4, ?_, RepL.le (sb2.trans sb4).rd _ _ rl, Post.le sb4 q'⟩
                        have := st4.again (u' := .lst accV) hw3 hpin fr2 hF4
                        have eH : upd H4 a (.lst accV) = H4 := by
                          funext b
                          by_cases hb : b = a
                          · subst hb; rw [upd_same, hH4]
                          · rw [upd_ne hb]
                        rw [eH] at this
                        exact this
                      | true =>
                        simp only [if_true] at q' ⊢
                        refine ⟨_, F4, ρ4, st4, ?_⟩
                        have q4 := Post.le sb4 q'
                        cases w2 : elt ρ4 with
                        | bad => simp only [w2] at q4; exact q4.elim
                        | exc c fs ρ5 => simp only [w2] at q4; exact q4.elim
                        | ok o ρ5 =>
                          simp only [w2] at q4
                          intro F5 H5 v sb5 st5 x5
                          cases z5 : o.frz with
                          | none => simp only [z5] at q4; exact q4.elim
                          | some yv =>
                            simp only [z5] at q4
                            obtain ⟨F6, sb6, st6, r6⟩ := st5.freeze x5 z5
                            have hF6 : F6 a = none := (st6.keep a (.lst accV) upd_same).2
                            have hH6 : H5 a = some (.lst accV) := (st6.keep a (.lst accV) upd_same).1
                            have hl := rl.length
                            refine ⟨accV, hH6, by omega, F6, wipeE vs ρ5, acc ++ [yv], accV ++ [v], by simp; omega, (((sb'.trans sb2).trans sb4).trans sb5).trans sb6, ?_, ?_, Post.le (sb5.trans sb6) q4⟩
                            · exact st6.again hw3 hpin fr2 hF6
                            · exact (RepL.le (((sb2.trans sb4).trans sb5).trans sb6).rd _ _ rl).append (RepL.cons r6 RepL.nil)
                    | none => exact q'.elim
                    | int i => exact q'.elim
                    | str i => exact q'.elim
                    | list i => exact q'.elim
                    | tuple i => exact q'.elim
                    | dict i => exact q'.elim
                    | dictT i => exact q'.elim
                    | tag _ i => exact q'.elim
                  | emp => exact q'.elim
                  | own c => exact q'.elim
                  | ref c => exact q'.elim
                  | fn c => exact q'.elim
          · have ei : i = ds.length := by omega
            subst ei
            rw [List.drop_length] at q
            simp only [lcD, R.unw] at q
            obtain ⟨s1, s2⟩ := st1.unblock hc sb' st' fr2
            refine .inl ⟨i1 rfl, q F' H' _ (SubH.refl _) s1 ⟨⟨a, rfl, hF', fr2, accV, hH', rl⟩, (by intro z; cases z), rfl, fun _ i b eb w => ?_⟩⟩
            cases eb
            exact s2 i w
        · exact hp.elim
      | none => exact hp.elim
      | bool i => exact hp.elim
      | int i => exact hp.elim
      | str i => exact hp.elim
      | tuple i => exact hp.elim
      | dict i => exact hp.elim
      | dictT i => exact hp.elim
      | tag _ i => exact hp.elim
    | emp => exact hp.elim
    | own c => exact hp.elim
    | ref c => exact hp.elim
    | fn c => exact hp.elim
end
section
variable {X : Cx} {W : WX} {elt tg iter : Expr} {ifs : List Expr} {scope : Scope} {own : List (Str × Nat)} {pos pos' : Pos} {fi tt fe : EX} {h : Tg}
theorem pd_lc (own : List (Str × Nat)) (hN : X.N.Nodup) (hi : PID X W tg iter fi) (ok : BlkOk X.N X.env.scope scope own)
    (hg : ∀ (s : Shared) (H : Hp) (C : Addr) (cl : List (Str × Addr)) (fp : List Addr), PGD (X.blk s H scope (PySem.compEnvC scope cl C X.env) fp) tg h) (ht : ∀ (s : Shared) (H : Hp) (C : Addr) (cl : List (Str × Addr)) (fp : List Addr), PTsD (X.blk s H scope (PySem.compEnvC scope cl C X.env) fp) WF ifs tt)
    (he : ∀ (s : Shared) (H : Hp) (C : Addr) (cl : List (Str × Addr)) (fp : List Addr), PD (X.blk s H scope (PySem.compEnvC scope cl C X.env) fp) WF elt fe) (hc : X.calm = true := by rfl) (hts : ∀ i ∈ h.ts, i ∈ own.map (·.2) := by decide)
    (hs : ∀ x, foldedSetIterable iter X.env x = pure x := by intro _; rfl) : PD X W (.ListComp elt [⟨tg, iter, ifs, 0⟩] scope pos) (eLc fi h tt fe (own.map (·.2))) := by
  obtain ⟨wi, pi, di⟩ := hi.ex
  exact ⟨_, pe_lc hc hN pi ok (fun s H C cl fp => (hg s H C cl fp).toPG) (fun s H C cl fp => (ht s H C cl fp).toPTs) (fun s H C cl fp => (he s H C cl fp).toPE) hs, de_lc di hts⟩
theorem psd_lc (i : Nat) (own : List (Str × Nat)) {y : Str} {py spos : Pos} (hN : X.N.Nodup) (hi : PID X W tg iter fi) (ok : BlkOk X.N X.env.scope scope own)
    (hg : ∀ (s : Shared) (H : Hp) (C : Addr) (cl : List (Str × Addr)) (fp : List Addr), PGD (X.blk s H scope (PySem.compEnvC scope cl C X.env) fp) tg h) (ht : ∀ (s : Shared) (H : Hp) (C : Addr) (cl : List (Str × Addr)) (fp : List Addr), PTsD (X.blk s H scope (PySem.compEnvC scope cl C X.env) fp) WF ifs tt)
    (he : ∀ (s : Shared) (H : Hp) (C : Addr) (cl : List (Str × Addr)) (fp : List Addr), PD (X.blk s H scope (PySem.compEnvC scope cl C X.env) fp) WF elt fe)
    (hsw : swapsWith (.ListComp elt [⟨tg, iter, ifs, 0⟩] scope pos) (some (.Name y py)) spos.line X.env = pure true) (hy : X.N[i]? = some y := by rfl) (hyl : X.env.scope.names.lookup y = some .local := by rfl) (hc : X.calm = true := by rfl) (hts : ∀ i ∈ h.ts, i ∈ own.map (·.2) := by decide)
    (hs : ∀ x, foldedSetIterable iter X.env x = pure x := by intro _; rfl) : PSD X W (.Assign [.Name y py] (.ListComp elt [⟨tg, iter, ifs, 0⟩] scope pos) spos) (sAsg i (eLc fi h tt fe (own.map (·.2)))) := by
  obtain ⟨wi, pi, di⟩ := hi.ex
  exact ⟨_, ps_setLc hc hN hy hyl hsw pi ok (fun s H C cl fp => (hg s H C cl fp).toPG) (fun s H C cl fp => (ht s H C cl fp).toPTs) (fun s H C cl fp => (he s H C cl fp).toPE) hs, ds_asg i (de_lc di hts)⟩
theorem psd_lcO (i : Nat) (own : List (Str × Nat)) {y : Str} {py spos : Pos} (hN : X.N.Nodup) (hi : PID X W tg iter fi) (ok : BlkOk X.N X.env.scope scope own)
    (hg : ∀ (s : Shared) (H : Hp) (C : Addr) (cl : List (Str × Addr)) (fp : List Addr), PGD (X.blk s H scope (PySem.compEnvC scope cl C X.env) fp) tg h) (ht : ∀ (s : Shared) (H : Hp) (C : Addr) (cl : List (Str × Addr)) (fp : List Addr), PTsD (X.blk s H scope (PySem.compEnvC scope cl C X.env) fp) WF ifs tt)
    (he : ∀ (s : Shared) (H : Hp) (C : Addr) (cl : List (Str × Addr)) (fp : List Addr), PD (X.blk s H scope (PySem.compEnvC scope cl C X.env) fp) WF elt fe)
    (hsw : swapsWith (.ListComp elt [⟨tg, iter, ifs, 0⟩] scope pos) (some (.Name y py)) spos.line X.env = pure true) (hy : X.N[i]? = some y := by rfl) (hyl : X.env.scope.names.lookup y = some .local := by rfl) (hc : X.calm = true := by rfl) (hts : ∀ i ∈ h.ts, i ∈ own.map (·.2) := by decide)
    (hs : ∀ x, foldedSetIterable iter X.env x = pure x := by intro _; rfl) : PSD X W (.Assign [.Name y py] (.ListComp elt [⟨tg, iter, ifs, 0⟩] scope pos) spos) (sAsgO i (eLc fi h tt fe (own.map (·.2)))) := by
  obtain ⟨wi, pi, di⟩ := hi.ex
  exact ⟨_, ps_setLc hc hN hy hyl hsw pi ok (fun s H C cl fp => (hg s H C cl fp).toPG) (fun s H C cl fp => (ht s H C cl fp).toPTs) (fun s H C cl fp => (he s H C cl fp).toPE) hs, ds_asgO i (de_lc di hts)⟩
end
end Dk

set_option Elab.async false
set_option linter.all false
set_option maxRecDepth 100000
set_option maxHeartbeats 4000000
/-! Dk8: a slot's own list changed; own objects read; isinstance -/
namespace Dk
open PySem PySem.Spec L2

/-! ### own objects read: a flat value of an expression over them -/
def flatD : D → Bool
  | .none => true
  | .bool _ => true
  | .int _ => true
  | .str _ => true
  | _ => false
def bor1 : Sl → Sl
  | .own c => .val c.frz
  | .ref c => .val c.frz
  | s => s
def eBor (f : EX) : EX := fun ρ => match f (ρ.map bor1) with
  | .ok (.val d) _ => if flatD d = true then .ok (.val d) ρ else .bad
  | _ => .bad
section
variable {K : PySem.W.Frag} {mg : Str → Option Value} {W : WX} {P : Prot} {F H : Hp} {σ : SS} {ρ : Env}
open Classical in
noncomputable def borF (F H : Hp) (σ : SS) (ρ : Env) : Hp := fun p => if ∃ i, Owns σ ρ i p then H p else F p
theorem ClOk.rep {a : Addr} {c : Cl} {F' : Hp} (h : SubH F F') (e : F' a = H a) (x : ClOk K F H a c) : Rep K F' c.frz (.ref a) := by
  cases c with
  | lst ds =>
    obtain ⟨vs, h1, h2⟩ := x
    exact mk_list (.inl (.inl (e.trans h1))) (RepL.le h.rd ds vs h2)
  | dct kvs =>
    show Rep K F' (.dict kvs) _
    unfold Rep
    obtain ⟨ks, h1, h2⟩ := x
    exact ⟨a, ks, rfl, e.trans h1, RepK.le h.rd kvs ks h2⟩
  | dcT kvs =>
    show Rep K F' (.dictT kvs) _
    unfold Rep
    obtain ⟨ks, h1, h2⟩ := x
    exact ⟨a, ks, rfl, e.trans h1, RepT.le h.rd kvs ks h2⟩
theorem bor1_own (s : Sl) : (bor1 s).isOwn = false := by cases s <;> rfl
theorem Stt.bor (st : Stt K mg P F H σ ρ) : Stt K mg { H := P.H, pin := fun _ => none } (borF F H σ ρ) H σ (ρ.map bor1) ∧ SubH F (borF F H σ ρ) ∧ ∀ i a, Owns σ ρ i a → borF F H σ ρ a = H a := by
  have own : ∀ i a, Owns σ ρ i a → borF F H σ ρ a = H a := fun i a w => by unfold borF; rw [if_pos ⟨i, w⟩]
  have sb : SubH F (borF F H σ ρ) := fun p o e => by
    unfold borF
    split
    · rename_i w
      obtain ⟨i, w⟩ := w
      rw [(st.owned w).1] at e; cases e
    · exact e
  have noOwn : ∀ i a, ¬ Owns σ (ρ.map bor1) i a := fun i a ⟨⟨s, e, w⟩, _⟩ => by
    rw [List.getElem?_map] at e
    cases q : ρ[i]? with
    | none => rw [q] at e; cases e
    | some s0 => rw [q] at e; cases e; rw [bor1_own] at w; cases w
  refine ⟨⟨fun p o e => ?_, fun p o e => ?_, by simp [st.len], fun i s e => ?_, fun i j a w => absurd w (noOwn i a), fun i v e => by cases e⟩, sb, own⟩
  · unfold borF at e
    split at e
    · exact e
    · exact st.sub p o e
  · obtain ⟨h1, h2⟩ := st.keep p o e
    refine ⟨h1, ?_⟩
    unfold borF
    split
    · rename_i w
      obtain ⟨i, w⟩ := w
      rw [(st.owned w).2.1] at e; cases e
    · exact h2
  · rw [List.getElem?_map] at e
    cases q : ρ[i]? with
    | none => rw [q] at e; cases e
    | some s0 =>
      rw [q] at e; cases e
      have x := st.sl i s0 q
      cases s0 with
      | emp => trivial
      | val d => obtain ⟨v, e1, r⟩ := x; exact ⟨v, e1, Rep.le sb.rd d v r⟩
      | fn y => exact x
      | own c =>
        obtain ⟨a, e1, h1, h2, h3⟩ := x
        exact ⟨_, e1, h3.rep sb (own i a ⟨⟨_, q, rfl⟩, of_getD e1⟩)⟩
      | ref c =>
        obtain ⟨a, e1, h1, h2, h3⟩ := x
        exact ⟨_, e1, h3.rep sb (own i a ⟨⟨_, q, rfl⟩, of_getD e1⟩)⟩
theorem rep_flat {F F' : Hp} {d : D} {v : V} (h : flatD d = true) (r : Rep K F d v) : Rep K F' d v := by
  cases d with
  | none => rw [rep_none r]; exact mk_none
  | bool b => rw [rep_bool r]; exact mk_bool
  | int b => rw [rep_int r]; exact mk_int
  | str b => rw [rep_str r]; exact mk_str
  | list b => cases h
  | tuple b => cases h
  | dict b => cases h
  | dictT b => cases h
  | tag _ b => cases h
theorem de_bor {t : TE} {f : EX} (h : DE K mg W t f) : DE K mg W t (eBor f) := by
  intro P F H σ ρ Q st hp
  obtain ⟨b1, b2, b3⟩ := st.bor
  refine h _ _ H σ _ Q b1 ?_
  unfold eBor at hp
  cases e : f (ρ.map bor1) with
  | bad => simp only [e] at hp; exact hp
  | exc c fs ρ1 => simp only [e] at hp; exact hp.elim
  | ok o ρ1 =>
    simp only [e] at hp
    cases o with
    | val d =>
      simp only at hp
      split at hp
      · rename_i hf
        intro F1 H1 v sb st1 x
        refine hp F H1 v (SubH.refl F) (st.grow (SubH.refl F) ((b2.trans sb).trans st1.sub) (fun p o q => ⟨(st1.keep p o q).1, (st.keep p o q).2⟩) fun i a w => ?_) (OutOk.val (rep_flat hf x.rep))
        obtain ⟨k1, _, u, k2⟩ := st.owned w
        refine ⟨k1, ?_⟩
        rw [st1.sub a u (sb a u ((b3 i a w).trans k2)), k2]
      · exact hp.elim
    | emp => exact hp.elim
    | own c => exact hp.elim
    | ref c => exact hp.elim
    | fn c => exact hp.elim
end
theorem pd_bor {X : Cx} {W : WX} {e : Expr} {f : EX} (h : PD X W e f) : PD X W e (eBor f) := by
  obtain ⟨t, p, d⟩ := h.ex
  exact ⟨t, p, de_bor d⟩

/-! ### an own list is changed -/
def getL (ρ : Env) (i : Nat) : Option (List D) := match ρ[i]? with
  | some (.own (.lst c)) => some c
  | some (.ref (.lst c)) => some c
  | _ => none
def putC (ρ : Env) (i : Nat) (c : Cl) : Env := match ρ[i]? with
  | some (.own _) => ρ.set i (.own c)
  | some (.ref _) => ρ.set i (.ref c)
  | _ => ρ
def putL (ρ : Env) (i : Nat) (c : List D) : Env := putC ρ i (.lst c)
/-- x.m(..) upon the slot's own list: what is handed back, what the list is then -/
def eMeth (i : Nat) (g : List D → List D → Option (D × List D)) (fs : List EX) : EX := fun ρ => match getL ρ i with
  | none => .bad
  | some _ => eArgs fs ρ fun ds ρ1 => match getL ρ1 i with
    | none => .bad
    | some c => match g c ds with
      | some (o, c') => .ok (.val o) (putL ρ1 i c')
      | none => .bad
def RMut (K : PySem.W.Frag) (r : V → List V → Hp → VK → Prop) (g : List D → List D → Option (D × List D)) : Prop := ∀ (F H : Hp) (a : Addr) (c : List D) (xs : List V) (ds : List D) (vs : List V) (o : D) (c' : List D) (Q : VK), SubH F H → H a = some (.lst xs) → RepL K F c xs → RepL K F ds vs → g c ds = some (o, c') →
  (∀ (ys : List V) (v : V), RepL K F c' ys → Rep K F o v → Q v (upd H a (.lst ys))) → r (.ref a) vs H Q
section
variable {K : PySem.W.Frag} {mg : Str → Option Value} {W : WX} {P : Prot} {F H : Hp} {σ : SS} {ρ : Env}
theorem Stt.getL (st : Stt K mg P F H σ ρ) {i : Nat} {c : List D} (h : getL ρ i = some c) : ∃ a xs, σ[i]? = some (some (.ref a)) ∧ Owns σ ρ i a ∧ F a = none ∧ H a = some (.lst xs) ∧ RepL K F c xs := by
  unfold Dk.getL at h
  split at h
  · rename_i c' e
    cases h
    obtain ⟨a, e1, h1, h2, vs, h3, h4⟩ := st.sl i _ e
    exact ⟨a, vs, of_getD e1, ⟨⟨_, e, rfl⟩, of_getD e1⟩, h1, h3, h4⟩
  · rename_i c' e
    cases h
    obtain ⟨a, e1, h1, h2, vs, h3, h4⟩ := st.sl i _ e
    exact ⟨a, vs, of_getD e1, ⟨⟨_, e, rfl⟩, of_getD e1⟩, h1, h3, h4⟩
  · cases h
/-- the object that the slot i owns has another content -/
theorem Stt.mutate (st : Stt K mg P F H σ ρ) {i : Nat} {a : Addr} {u : HO} {c : Cl} (w : Owns σ ρ i a) (x : ClOk K F (upd H a u) a c) : Stt K mg P F (upd H a u) σ (putC ρ i c) := by
  obtain ⟨k1, k2, u0, k3⟩ := st.owned w
  have hl : (putC ρ i c).length = ρ.length := by unfold putC; split <;> simp
  refine st.swap (fun p o e => ?_) (fun p o e => ?_) hl fun j s2 e => ?_
  · rw [upd_ne (fun z => by subst z; rw [k1] at e; cases e)]; exact st.sub p o e
  · obtain ⟨h1, h2⟩ := st.keep p o e
    exact ⟨by rw [upd_ne (fun z => by subst z; rw [k2] at e; cases e)]; exact h1, h2⟩
  · obtain ⟨⟨si, e1, w1⟩, q⟩ := w
    have hi : i < ρ.length := by
      rcases Nat.lt_or_ge i ρ.length with z | z
      · exact z
      · rw [List.getElem?_eq_none z] at e1; cases e1
    by_cases hij : i = j
    · subst hij
      refine ⟨si, e1, ?_⟩
      cases si with
      | own c0 =>
        simp only [putC, e1] at e
        rw [List.getElem?_set_self hi] at e; cases e
        exact ⟨rfl, rfl, a, getD_of q, k1, k2, x⟩
      | ref c0 =>
        simp only [putC, e1] at e
        rw [List.getElem?_set_self hi] at e; cases e
        exact ⟨rfl, rfl, a, getD_of q, k1, k2, x⟩
      | emp => cases w1
      | val d => cases w1
      | fn y => cases w1
    · have e' : ρ[j]? = some s2 := by
        cases si with
        | own c0 => simp only [putC, e1] at e; rw [List.getElem?_set_ne hij] at e; exact e
        | ref c0 => simp only [putC, e1] at e; rw [List.getElem?_set_ne hij] at e; exact e
        | emp => cases w1
        | val d => cases w1
        | fn y => cases w1
      refine ⟨s2, e', rfl, rfl, (st.sl j s2 e').grow (SubH.refl F) fun b w2 eb => ?_⟩
      have wb : Owns σ ρ j b := ⟨⟨s2, e', w2⟩, of_getD eb⟩
      have hb : b ≠ a := fun z => hij (st.apart i j a ⟨⟨si, e1, w1⟩, q⟩ (z ▸ wb))
      exact ⟨(st.owned wb).1, upd_ne hb⟩
theorem de_meth {r : V → List V → Hp → VK → Prop} {g : List D → List D → Option (D × List D)} {t : TA} {fs : List EX} (i : Nat) (hr : RMut K r g) (h : DA K mg W t fs) : DE K mg W (tBM K "list" r (tVar i) t) (eMeth i g fs) := by
  intro P F H σ ρ Q st hp
  unfold eMeth at hp
  cases e : getL ρ i with
  | none => simp only [e] at hp; exact hp.elim
  | some c0 =>
    simp only [e] at hp
    obtain ⟨a, xs, es, w, h1, h2, h3⟩ := st.getL e
    refine ⟨.ref a, es, .inl ⟨rfl, xs, .inl (.inl h2)⟩, ?_⟩
    refine h.bind P F H σ ρ _ Q _ st hp fun F1 H1 ds ρ1 vs sb st1 rl hl q => ?_
    cases e1 : getL ρ1 i with
    | none => simp only [e1] at q; exact q.elim
    | some c =>
      simp only [e1] at q
      obtain ⟨a', ys, es', w', g1, g2, g3⟩ := st1.getL e1
      rw [es] at es'; cases es'
      cases z : g c ds with
      | none => simp only [z] at q; exact q.elim
      | some oc =>
        obtain ⟨o, c'⟩ := oc
        simp only [z] at q
        refine hr F1 H1 a c ys ds vs o c' Q st1.sub g2 g3 rl z fun zs v rz ro => ?_
        exact q F1 _ v (SubH.refl F1) (st1.mutate w' ⟨zs, upd_same, rz⟩) (OutOk.val ro)
theorem de_meth0 {r : V → List V → Hp → VK → Prop} {g : List D → List D → Option (D × List D)} (i : Nat) (hr : RMut K r g) : DE K mg W (tBM0 K "list" r (tVar i)) (eMeth i g []) := by
  intro P F H σ ρ Q st hp
  unfold eMeth at hp
  cases e : getL ρ i with
  | none => simp only [e] at hp; exact hp.elim
  | some c =>
    simp only [e, eArgs] at hp
    obtain ⟨a, xs, es, w, h1, h2, h3⟩ := st.getL e
    refine ⟨.ref a, es, .inl ⟨rfl, xs, .inl (.inl h2)⟩, ?_⟩
    cases z : g c [] with
    | none => simp only [z] at hp; exact hp.elim
    | some oc =>
      obtain ⟨o, c'⟩ := oc
      simp only [z] at hp
      refine hr F H a c xs [] [] o c' Q st.sub h2 h3 RepL.nil z fun zs v rz ro => ?_
      exact hp F _ v (SubH.refl F) (st.mutate w ⟨zs, upd_same, rz⟩) (OutOk.val ro)
end
def mAppend : List D → List D → Option (D × List D)
  | c, [d] => if c.length < sizeLine then some (.none, c ++ [d]) else none
  | _, _ => none
def mPop : List D → List D → Option (D × List D)
  | c, [] => (c[c.length - 1]?).map fun d => (d, c.dropLast)
  | _, _ => none
def mPopAt : List D → List D → Option (D × List D)
  | c, [.int i] => if -(2 ^ 63) ≤ i ∧ i < 2 ^ 63 then (match seqIndex? i c.length with
    | some k => (c[k]?).map fun d => (d, c.eraseIdx k)
    | none => none) else none
  | _, _ => none
def mReverse : List D → List D → Option (D × List D)
  | c, [] => some (.none, c.reverse)
  | _, _ => none
theorem RepL.one {K : PySem.W.Frag} {F : Hp} {d : D} {vs : List V} (r : RepL K F [d] vs) : ∃ v, vs = [v] ∧ Rep K F d v := by
  unfold RepL at r
  obtain ⟨v, ws, rfl, h1, h2⟩ := r
  unfold RepL at h2
  subst h2
  exact ⟨v, rfl, h1⟩
theorem RepL.two {K : PySem.W.Frag} {F : Hp} {d e : D} {vs : List V} (r : RepL K F [d, e] vs) : ∃ v u, vs = [v, u] ∧ Rep K F d v ∧ Rep K F e u := by
  unfold RepL at r
  obtain ⟨v, ws, rfl, h1, h2⟩ := r
  obtain ⟨u, rfl, h3⟩ := h2.one
  exact ⟨v, u, rfl, h1, h3⟩
theorem RepL.zero {K : PySem.W.Frag} {F : Hp} {vs : List V} (r : RepL K F [] vs) : vs = [] := by unfold RepL at r; exact r
theorem RepL.dropLast {K : PySem.W.Frag} {F : Hp} : ∀ {ds : List D} {vs : List V}, RepL K F ds vs → RepL K F ds.dropLast vs.dropLast := fun {ds vs} r => by
  rw [List.dropLast_eq_take, List.dropLast_eq_take, r.length]
  exact r.take _
theorem RepL.eraseIdx {K : PySem.W.Frag} {F : Hp} : ∀ {ds : List D} {vs : List V} (k : Nat), RepL K F ds vs → RepL K F (ds.eraseIdx k) (vs.eraseIdx k)
  | [], _, _, r => by rw [r.zero]; exact RepL.nil
  | d :: ds, _, 0, r => by
    unfold RepL at r
    obtain ⟨v, ws, rfl, h1, h2⟩ := r
    exact h2
  | d :: ds, _, k + 1, r => by
    unfold RepL at r
    obtain ⟨v, ws, rfl, h1, h2⟩ := r
    exact RepL.cons h1 (RepL.eraseIdx k h2)
theorem RepL.reverse {K : PySem.W.Frag} {F : Hp} : ∀ {ds : List D} {vs : List V}, RepL K F ds vs → RepL K F ds.reverse vs.reverse
  | [], _, r => by rw [r.zero]; exact RepL.nil
  | d :: ds, _, r => by
    unfold RepL at r
    obtain ⟨v, ws, rfl, h1, h2⟩ := r
    rw [List.reverse_cons, List.reverse_cons]
    exact (RepL.reverse h2).append (RepL.cons h1 RepL.nil)
section
variable {K : PySem.W.Frag}
theorem rm_append : RMut K rAppend mAppend := by
  intro F H a c xs ds vs o c' Q sb hH rc rd hg k
  unfold mAppend at hg
  split at hg
  · split at hg
    · rename_i d hz
      cases hg
      obtain ⟨v, rfl, rv⟩ := rd.one
      exact ⟨a, xs, v, rfl, rfl, hH, by rw [rc.length]; exact hz, k _ _ (rc.append (RepL.cons rv RepL.nil)) mk_none⟩
    · cases hg
  · cases hg
theorem rm_pop0 : RMut K rPop mPop := by
  intro F H a c xs ds vs o c' Q sb hH rc rd hg k
  unfold mPop at hg
  split at hg
  · have := rd.zero
    subst this
    cases z : c[c.length - 1]? with
    | none => rw [z] at hg; cases hg
    | some d =>
      rw [z] at hg; cases hg
      obtain ⟨v, e1, rv⟩ := rc.get z
      exact ⟨a, xs, v, rfl, rfl, hH, by rw [rc.length]; exact e1, k _ _ rc.dropLast rv⟩
  · cases hg
theorem rm_popAt : RMut K rPopAt mPopAt := by
  intro F H a c xs ds vs o c' Q sb hH rc rd hg k
  unfold mPopAt at hg
  split at hg
  · split at hg
    · rename_i i hc
      obtain ⟨v, rfl, rv⟩ := rd.one
      rw [rep_int rv]
      cases z : seqIndex? i c.length with
      | none => rw [z] at hg; cases hg
      | some j =>
        rw [z] at hg
        cases y : c[j]? with
        | none => simp only [y] at hg; cases hg
        | some d =>
          simp only [y] at hg; cases hg
          obtain ⟨v, e1, rv⟩ := rc.get y
          exact ⟨a, xs, i, j, v, rfl, rfl, hH, hc.1, hc.2, by rw [rc.length]; exact z, e1, k _ _ (rc.eraseIdx j) rv⟩
    · cases hg
  · cases hg
theorem rm_reverse : RMut K rReverse mReverse := by
  intro F H a c xs ds vs o c' Q sb hH rc rd hg k
  unfold mReverse at hg
  split at hg
  · cases hg
    have := rd.zero
    subst this
    exact ⟨a, xs, rfl, rfl, hH, k _ _ rc.reverse mk_none⟩
  · cases hg
end
section
variable {X : Cx} {W : WX} {x : Str} {e : Expr} {es : List Expr} {p apos cpos : Pos} {fs : List EX} {name : Str} {id : String} {r : V → List V → Hp → VK → Prop} {g : List D → List D → Option (D × List D)}
theorem pd_meth (i : Nat) (slot : Slot "list" name id) (hty : typeOf (.builtin id) = pure (.type "method_descriptor")) (hm : MtR X id r) (hr : RMut X.K r g) (ha : PAD X W (e :: es) fs)
    (hN : X.N[i]? = some x := by rfl) (hv : Vis X.env.scope x := by first | exact Or.inl rfl | exact Or.inr (Or.inl rfl) | exact Or.inr (Or.inr rfl)) (hd : (x == ("__debug__" : Str)) = false := by decide) (hcd : (x == ("__classdict__" : Str)) = false := by decide)
    (hbase : attributeBase (.Name x p) name X.env (eval (.Name x p) X.env) = eval (.Name x p) X.env := by rfl)
    (hfew : ((backTo cpos (starEach (e :: es) X.env)).all (fun x => !x.1) && (backToKw cpos (keywordEach [] X.env)).all (fun x => x.1.isSome)
      && decide ((e :: es).length + ([] : List Keyword).length + (if ([] : List Keyword).isEmpty then 0 else 1) < 30)) = true := by rfl)
    (hline : (apos.endLine == cpos.line) = true := by rfl) (hs : starEach (e :: es) X.env = (false, eval e X.env) :: starEach es X.env := by rfl) (hplain : (backTo cpos (starEach es X.env)).any (·.1) = false := by rfl) :
    PD X W (.Call (.Attribute (.Name x p) name apos) (e :: es) [] cpos) (eMeth i g fs) := by
  obtain ⟨t, pa, da⟩ := ha.ex
  exact ⟨_, pe_bm PySem.F.plainAttrs_list slot hty hm (pe_var hN hv hd hcd) pa hbase hfew hline hs hplain, de_meth i hr da⟩
theorem pd_meth0 (i : Nat) (slot : Slot "list" name id) (hty : typeOf (.builtin id) = pure (.type "method_descriptor")) (hm : MtR X id r) (hr : RMut X.K r g)
    (hN : X.N[i]? = some x := by rfl) (hv : Vis X.env.scope x := by first | exact Or.inl rfl | exact Or.inr (Or.inl rfl) | exact Or.inr (Or.inr rfl)) (hd : (x == ("__debug__" : Str)) = false := by decide) (hcd : (x == ("__classdict__" : Str)) = false := by decide)
    (hbase : attributeBase (.Name x p) name X.env (eval (.Name x p) X.env) = eval (.Name x p) X.env := by rfl) (hline : (apos.endLine == cpos.line) = true := by rfl) :
    PD X W (.Call (.Attribute (.Name x p) name apos) [] [] cpos) (eMeth i g []) := by
  exact ⟨_, pe_bm0 PySem.F.plainAttrs_list slot hty hm (pe_var hN hv hd hcd) hbase hline, de_meth0 i hr⟩
end
/-- x[k] = e, x a slot's own list -/
def sSetIx (i : Nat) (f fk : EX) : SX := fun ρ => (f ρ).bs fun o ρ1 => match o.frz with
  | none => .bad
  | some d => (match getL ρ1 i with
    | none => .bad
    | some _ => (fk ρ1).bs fun ok ρ2 => match ok with
      | .val (.int k) => (match getL ρ2 i with
        | none => .bad
        | some c => match ixN c.length k with
          | some j => .nx (putL ρ2 i (c.set j d))
          | none => .bad)
      | _ => .bad)
theorem psd_setIx {X : Cx} {W : WX} {x : Str} {k e : Expr} {p p2 pos : Pos} {f fk : EX} (i : Nat) (he : PD X W e f) (hk : PD X W k fk)
    (hN : X.N[i]? = some x := by rfl) (hv : Vis X.env.scope x := by first | exact Or.inl rfl | exact Or.inr (Or.inl rfl) | exact Or.inr (Or.inr rfl)) (hd : (x == ("__debug__" : Str)) = false := by decide) (hcd : (x == ("__classdict__" : Str)) = false := by decide)
    (h1 : (assignEach [.Subscript (.Name x p) k p2] X.env).map (·.2) = [assign (.Subscript (.Name x p) k p2) X.env] := by rfl)
    (hpa : ∀ v, assign (.Subscript (.Name x p) k p2) X.env v = (do
      let ov ← holding [v] (eval (.Name x p) X.env)
      let iv ← holding [v, ov] (eval k X.env)
      standAt p2
      holding [v, ov, iv] (setItem ov iv v)
      release [v, ov, iv] []) := by intro _; rfl)
    (hs : swapsWithSole [.Subscript (.Name x p) k p2] e pos.line X.env = pure false := by rfl) (hw : swappedStores [.Subscript (.Name x p) k p2] e X.env = pure none := by rfl) : PSD X W (.Assign [.Subscript (.Name x p) k p2] e pos) (sSetIx i f fk) := by
  obtain ⟨te, pe, de⟩ := he.ex
  refine ⟨_, ps_asg pe (pg_sub (t := rSetL) (pe_var hN hv hd hcd) hk.toPE set_list hpa) hs hw h1, ?_⟩
  intro P F H σ ρ D st hp
  refine de.bs st hp fun F1 H1 o ρ1 v sb st1 xo q => ?_
  cases z : o.frz with
  | none => simp only [z] at q; exact q.elim
  | some d =>
    simp only [z] at q
    obtain ⟨F2, sb2, st2, r⟩ := st1.freeze xo z
    cases e1 : getL ρ1 i with
    | none => simp only [e1] at q; exact q.elim
    | some c0 =>
      simp only [e1] at q
      obtain ⟨a, xs, es, w, g1, g2, g3⟩ := st2.getL e1
      refine ⟨.ref a, es, ?_⟩
      refine (de_tD X.K X.mg W fk).bs st2 (PostS.le sb2 q) fun F3 H3 o2 ρ2 v2 sb3 st3 x2 q2 => ?_
      cases o2 with
      | val dk =>
        cases dk with
        | int k =>
          simp only at q2
          cases e2 : getL ρ2 i with
          | none => simp only [e2] at q2; exact q2.elim
          | some c =>
            simp only [e2] at q2
            obtain ⟨a', ys, es', w', k1, k2, k3⟩ := st3.getL e2
            rw [es] at es'; cases es'
            cases e3 : ixN c.length k with
            | none => simp only [e3] at q2; exact q2.elim
            | some j =>
              simp only [e3] at q2
              have ek := rep_int x2.rep
              refine ⟨a, ys, k, j, rfl, ek, k2, by rw [k3.length]; exact e3, ?_⟩
              exact q2 F3 _ σ (SubH.refl F3) (st3.mutate w' ⟨_, upd_same, RepL.set (Rep.le sb3.rd d v r) j k3⟩)
        | none => exact q2.elim
        | bool i => exact q2.elim
        | str i => exact q2.elim
        | list i => exact q2.elim
        | tuple i => exact q2.elim
        | dict i => exact q2.elim
        | dictT i => exact q2.elim
        | tag _ i => exact q2.elim
      | emp => exact q2.elim
      | own c => exact q2.elim
      | ref c => exact q2.elim
      | fn c => exact q2.elim
end Dk

set_option Elab.async false
set_option linter.all false
set_option maxRecDepth 100000
set_option maxHeartbeats 4000000
/-! Dk9: calls by place and by name, defaults; own errors raised -/
namespace Dk
open PySem PySem.Spec L2 PyProof.Rows

/-! ### calls by place, by name, with defaults -/
/-- a flat datum's value -/
def D.flatV : D → V
  | .int i => .int i
  | .bool b => .bl b
  | .str x => .str x
  | _ => .non
theorem flatV_rep {K : PySem.W.Frag} {F : Hp} {d : D} (h : flatD d = true) : Rep K F d d.flatV := by
  cases d with
  | none => exact mk_none
  | bool b => exact mk_bool
  | int b => exact mk_int
  | str b => exact mk_str
  | list b => cases h
  | tuple b => cases h
  | dict b => cases h
  | dictT b => cases h
  | tag _ b => cases h
/-- where a parameter's value comes from: the i-th value that is written; the j-th default d -/
inductive Src where
  | a (i : Nat)
  | d (j : Nat) (x : D)
def pickL (l : List (Sl ⊕ Nat)) : List Src → Option (List (Sl ⊕ Nat))
  | [] => some []
  | .a i :: r => match l[i]? with
    | some x => (pickL l r).map (x :: ·)
    | none => none
  | .d _ x :: r => (pickL l r).map (.inl (.val x) :: ·)
def pickV (vs : List V) : List Src → List V
  | [] => []
  | .a i :: r => vs.getD i .non :: pickV vs r
  | .d _ x :: r => x.flatV :: pickV vs r
def pickU (us its : List Value) : List Src → List Value
  | [] => []
  | .a i :: r => us.getD i .none :: pickU us its r
  | .d j _ :: r => its.getD j .none :: pickU us its r
def flatEq : D → D → Bool
  | .none, .none => true
  | .bool a, .bool b => a == b
  | .int a, .int b => a == b
  | .str a, .str b => a == b
  | _, _ => false
def dfltOk (dvs : List D) : List Src → Bool
  | [] => true
  | .a _ :: r => dfltOk dvs r
  | .d j x :: r => (match dvs[j]? with | some y => flatEq x y | none => false) && dfltOk dvs r
theorem flatEq_ok : ∀ {x y : D}, flatEq x y = true → x = y := fun {x y} h => by
  cases x <;> cases y <;> simp_all [flatEq]
theorem vals_getD {vs : List V} {us : List Value} (r : Vals vs us) : ∀ i : Nat, RelV (vs.getD i .non) (us.getD i .none) := by
  induction r with
  | nil => intro i; simp [List.getD]; exact rfl
  | cons h t ih =>
    intro i
    cases i with
    | zero => simpa [List.getD] using h
    | succ i => simpa [List.getD] using ih i
theorem vals_pick {dvs : List D} {vs : List V} {us its : List Value} (r : Vals vs us) (rd : Vals (dvs.map D.flatV) its) : ∀ srcs : List Src, dfltOk dvs srcs = true → Vals (pickV vs srcs) (pickU us its srcs)
  | [], _ => .nil
  | .a i :: s, h => .cons (vals_getD r i) (vals_pick r rd s h)
  | .d j x :: s, h => by
    simp only [dfltOk, Bool.and_eq_true] at h
    refine .cons ?_ (vals_pick r rd s h.2)
    cases e : dvs[j]? with
    | none => rw [e] at h; cases h.1
    | some y =>
      rw [e] at h
      have : x = y := flatEq_ok h.1
      subst this
      have q := vals_getD rd j
      have z : (dvs.map D.flatV).getD j .non = x.flatV := by simp [List.getD, e]
      rw [z] at q; exact q
/-- how the arguments go to the parameters: n by place, ks by name, m defaults -/
def Bnd (par : Arguments) (m n : Nat) (ks ps : List Str) (srcs : List Src) : Prop := ∀ (x qual : Str) (body : List Stmt) (scope : Scope) (kV doc pm : Value) (an : Option Addr) (cdv ct : Value) (us ws its : List Value), us.length = n → ws.length = ks.length → its.length = m →
  (m = 0 → bindArgs (PySem.W.fnOf x qual par body scope .none kV doc pm an cdv ct) ⟨us, ks.zip ws⟩ = pure (ps.zip (pickU (us ++ ws) its srcs))) ∧
  (m ≠ 0 → ∀ T : Addr, ∃ kk, bindArgs (PySem.W.fnOf x qual par body scope (.ref T) kV doc pm an cdv ct) ⟨us, ks.zip ws⟩ = seqItems? (.ref T) >>= kk ∧ kk (some its.toArray) = pure (ps.zip (pickU (us ++ ws) its srcs)))
/-- a def that keeps its meaning's promise: where it stands, its parameters and defaults, how deep it calls -/
structure CalD (P : Program) (w : World) (K : PySem.W.Frag) (mg : Str → Option Value) (base : Heap) (x : Str) (par : Arguments) (dvs : List D) (ps : List Str) (k : Nat) (den : Den) : Prop where
  ex : ∃ (f : Addr) (fd : FuncData) (nm qual : Str) (body : List Stmt) (scope : Scope), FnOk P w K mg base (L2.CX P w) k f fd ps (spD K mg ps.length den) ∧ mg x = some (.ref f) ∧ PySem.W.keepIn K (.ref f) = true ∧ FunD K nm qual par body scope (dvs.map D.flatV) [] f fd
theorem CalD.mono {P : Program} {w : World} {K : PySem.W.Frag} {mg : Str → Option Value} {base : Heap} {x : Str} {par : Arguments} {dvs : List D} {ps : List Str} {j k : Nat} {den : Den} (c : CalD P w K mg base x par dvs ps j den) (h : j ≤ k) : CalD P w K mg base x par dvs ps k den := by
  obtain ⟨f, fd, nm, qual, body, scope, F, a, b, d⟩ := c.ex
  exact ⟨f, fd, nm, qual, body, scope, F.mono h, a, b, d⟩
theorem calD_of {P : Program} {w : World} {K : PySem.W.Frag} {mg : Str → Option Value} {base : Heap} {x qual : Str} {st : Stmt} {f : Addr} {fd : FuncData} {N ps : List Str} {dvs : List D} {k : Nat} {body : SX} (F : FunD K x qual (defArgs st) (defBody st) (defScope st) (dvs.map D.flatV) [] f fd) (hm : mg x = some (.ref f)) (S : FnScope N ps (defScope st))
    (h : ∀ (cdv : Value) (A : Around) (outer : List PySem.Env) (s : Shared) (H : Hp) (E : XK), Room k (A.deeper (PyProof.Rows.envOfC qual (defScope st) s.heap.objs.size f cdv)) →
      PSsD (cxOf (L2.CX P w) P w K mg base N qual (defScope st) f cdv A outer s H E) (fun cls d _ H => E cls d H) (defBody st) body) : CalD P w K mg base x (defArgs st) dvs ps (k + 1) (denOf N.length body) := by
  refine ⟨f, fd, x, qual, _, _, F.ok S (fun vs H Q E h => h.1) (fun cdv A outer s H vs Q E hr hs => ?_), hm, F.kp, F⟩
  obtain ⟨t, hp, hd⟩ := (h cdv A outer s H E hr).ex
  obtain ⟨hl, Pr, F', as, sst, pn, no, post⟩ := hs
  refine ⟨t, hp, body_ok hd ?_ sst pn no post⟩
  have := congrArg List.length S.pre
  rw [List.length_take] at this
  omega
theorem FunD.kbn {K : PySem.W.Frag} {x qual : Str} {par : Arguments} {body : List Stmt} {scope : Scope} {dvs : List D} {f : Addr} {fd : FuncData} {ps ks : List Str} {n : Nat} {srcs : List Src} (F : FunD K x qual par body scope (dvs.map D.flatV) [] f fd) (hb : Bnd par dvs.length n ks ps srcs) (ho : dfltOk dvs srcs = true) :
    ∃ its : List Value, KBn K fd ps n ks (fun us ws => pickU (us ++ ws) its srcs) (fun vs zs => pickV (vs ++ zs) srcs) := by
  obtain ⟨oc, od, dV, kV, doc, pm, an, cdv, ct, osl, rfl, lk, hcd, hD, hK⟩ := F.ex
  rcases hD with ⟨e, rfl⟩ | ⟨ne, T, o, its, m, rfl, lT, oT, rT⟩
  · have e0 : dvs = [] := by simpa using e
    subst e0
    refine ⟨[], ⟨fun s us ws X l1 l2 => ?_, fun r1 r2 => vals_pick (dvs := []) (r1.append r2) .nil srcs ho⟩⟩
    exact BindsTo.of_looks fun M => .of_pure ((hb x qual body scope kV doc pm an cdv ct us ws [] l1 l2 rfl).1 rfl)
  · have hl : its.length = dvs.length := by rw [← rT.length]; simp
    have n0 : dvs.length ≠ 0 := fun z => ne (by simpa using List.length_eq_zero_iff.mp z)
    refine ⟨its, ⟨fun s us ws X l1 l2 => ?_, fun r1 r2 => vals_pick (r1.append r2) rT srcs ho⟩⟩
    obtain ⟨kk, e1, e2⟩ := (hb x qual body scope kV doc pm an cdv ct us ws its l1 l2 hl).2 n0 T
    refine BindsTo.of_looks fun M => ?_
    rw [e1]
    exact looks_items X lT oT (.of_pure e2)
/-- the call's meaning: the arguments from the left, then as the parameters want them -/
def eCallG (den : Den) (args : List Ar) (srcs : List Src) : EX := fun ρ => match cArgs args ρ with
  | .bad => .bad
  | .exc c fs ρ1 => .exc c fs ρ1
  | .ok l0 ρ1 => match pickL l0 srcs with
    | none => .bad
    | some l => if (refsOf l).Nodup then (match mkAs l ρ1 with
      | none => .bad
      | some as => match den as with
        | .bad => .bad
        | .ret o as' => .ok o (putB l as' ρ1)
        | .exc c fs as' => .exc c fs (putB l as' ρ1)) else .bad
def tCallG (n m : Nat) (sp : Sp) (gV : List V → List V → List V) (E : L2.St → XK) (t tk : TA) : TE := fun σ H Q => t σ H fun vs H1 => tk σ H1 fun zs H2 => vs.length = n ∧ zs.length = m ∧ sp (gV vs zs) H2 Q (E σ)
section
variable {X : Cx} {CX : CXT} {k n : Nat} {f : Addr} {fd : FuncData} {ps ks : List Str} {sp : Sp} {E : L2.St → XK} {x : Str} {p pos : Pos} {e : Expr} {es : List Expr} {kws : List Keyword} {t tk : TA} {g : List Value → List Value → List Value} {gV : List V → List V → List V}
theorem run_fnG {pins : List (Addr × Obj)} {σ : L2.St} {H : Hp} {s : Shared} {Q : VK} {us ws : List Value} {vs zs : List V} (F : FnOk X.prog X.w X.K X.mg X.base CX k f fd ps sp) (hr : Room k X.A) (hb : KBn X.K fd ps n ks g gV) (hx : PassesAt CX X σ (E σ))
    (I : Inv X pins σ H s) (r : Vals vs us) (rz : Vals zs ws) (l1 : vs.length = n) (l2 : zs.length = ks.length) (h : sp (gV vs zs) H Q (E σ)) : wpAny (model X.prog X.w) X.A (call (.ref f) us (ks.zip ws)) (EP X pins σ Q) X.xe s := by
  have r2 := hb.rel r rz
  refine wpAny_call (codeAny_mono (F.run X.A X.stack s H ⟨us, ks.zip ws⟩ (g us ws) (gV vs zs) Q (E σ) hr I.env0 (hb.to s us ws I.kIn (r.length.symm.trans l1) (rz.length.symm.trans l2)) r2 h) fun r s' hq => ?_)
  cases r with
  | error e => exact hx pins H s e s' I hq
  | ok fl =>
    cases fl with
    | ret u => exact I.after hq
    | next => exact False.elim hq
    | brk => exact False.elim hq
    | cont => exact False.elim hq
theorem pe_callG (F : FnOk X.prog X.w X.K X.mg X.base CX k f fd ps sp) (hr : Room k X.A) (hg : Gl X x) (hm : X.mg x = some (.ref f)) (hk : PySem.W.keepIn X.K (.ref f) = true) (hb : KBn X.K fd ps n ks g gV) (hx : ∀ σ, PassesAt CX X σ (E σ))
    (ha : PA X (e :: es) t) (hkw : PK X kws tk) (hall : (backToKw pos (keywordEach kws X.env)).all (·.1.isSome) = true := by rfl) (hks : (backToKw pos (keywordEach kws X.env)).filterMap (·.1) = ks := by rfl)
    (hdb : (x == ("__debug__" : Str)) = false := by decide) (he : starEach (e :: es) X.env = (false, eval e X.env) :: starEach es X.env := by rfl)
    (hpl : ((backTo pos (starEach (e :: es) X.env)).any (·.1) || (backToKw pos (keywordEach kws X.env)).any (·.1.isNone)) = false := by rfl) :
    PE X (.Call (.Name x p) (e :: es) kws pos) (tCallG n ks.length sp gV E t tk) := by
  refine ⟨fun pins s σ H Q I h => ?_⟩
  refine wpAny_Call_Name_kw (ld_glob I hg hm ?_ hdb)
  refine PySem.W.callWith_KW (h₀ := X.base) I.ok.mod.kin hk hall (thn (ha.run pos pins s σ H _ I h) fun us s1 ⟨vs, H1, I1, r, q⟩ => ?_) hpl he
  refine thn (hkw.run pos pins s1 σ H1 _ I1 q) fun ws s2 ⟨zs, H2, I2, rz, l1, l2, q2⟩ => ⟨I2.kIn, ?_⟩
  rw [hks]
  exact run_fnG F hr hb (hx σ) I2 r rz l1 l2 q2
theorem pe_callG0 (F : FnOk X.prog X.w X.K X.mg X.base CX k f fd ps sp) (hr : Room k X.A) (hg : Gl X x) (hm : X.mg x = some (.ref f)) (hk : PySem.W.keepIn X.K (.ref f) = true) (hb : KBn X.K fd ps 0 ks g gV) (hx : ∀ σ, PassesAt CX X σ (E σ))
    (hkw : PK X kws tk) (hall : (backToKw pos (keywordEach kws X.env)).all (·.1.isSome) = true := by rfl) (hks : (backToKw pos (keywordEach kws X.env)).filterMap (·.1) = ks := by rfl)
    (hdb : (x == ("__debug__" : Str)) = false := by decide)
    (hpl : ((backTo pos (starEach [] X.env)).any (·.1) || (backToKw pos (keywordEach kws X.env)).any (·.1.isNone)) = false := by rfl) :
    PE X (.Call (.Name x p) [] kws pos) (tCallG 0 ks.length sp gV E tNil tk) := by
  refine ⟨fun pins s σ H Q I h => ?_⟩
  refine wpAny_Call_Name_kw (ld_glob I hg hm ?_ hdb)
  refine PySem.W.callWith_KW0 (h₀ := X.base) I.ok.mod.kin hk hall ?_ hpl
  refine thn (hkw.run pos pins s σ H _ I h) fun ws s2 ⟨zs, H2, I2, rz, l1, l2, q2⟩ => ⟨I2.kIn, ?_⟩
  rw [hks]
  exact run_fnG (us := []) (vs := []) F hr hb (hx σ) I2 .nil rz l1 l2 q2
end
structure PKD (X : Cx) (W : WX) (kws : List Keyword) (as : List Ar) : Prop where
  ex : ∃ t, PK X kws t ∧ DC X.K X.mg W t as
theorem pkd_nil {X : Cx} {W : WX} : PKD X W [] [] := ⟨_, pk_nil, dc_nil⟩
theorem pkd_v {X : Cx} {W : WX} {e : Expr} {kws : List Keyword} {f : EX} {as : List Ar} {nm : Option Str} {kpos : Pos} (h1 : PD X W e f) (h2 : PKD X W kws as) : PKD X W (⟨nm, e, kpos⟩ :: kws) (.v f :: as) := by
  obtain ⟨t, p, d⟩ := h1.ex
  obtain ⟨u, q, d2⟩ := h2.ex
  exact ⟨_, pk_cons p q, dc_v d d2⟩
theorem pkd_r {X : Cx} {W : WX} {x : Str} {p : Pos} {kws : List Keyword} {as : List Ar} {nm : Option Str} {kpos : Pos} (i : Nat) (h2 : PKD X W kws as) (hN : X.N[i]? = some x := by rfl) (hv : Vis X.env.scope x := by first | exact Or.inl rfl | exact Or.inr (Or.inl rfl) | exact Or.inr (Or.inr rfl)) (hd : (x == ("__debug__" : Str)) = false := by decide)
    (hcd : (x == ("__classdict__" : Str)) = false := by decide) : PKD X W (⟨nm, .Name x p, kpos⟩ :: kws) (.r i :: as) := by
  obtain ⟨u, q, d2⟩ := h2.ex
  exact ⟨_, pk_cons (pe_var hN hv hd hcd) q, dc_r i d2⟩
section
variable {K : PySem.W.Frag} {mg : Str → Option Value} {W : WX} {P : Prot} {F H : Hp} {σ : SS} {ρ : Env}
def CA.bindC (r : CA) (k : List (Sl ⊕ Nat) → Env → CA) : CA := match r with
  | .ok l ρ => k l ρ
  | r => r
theorem cArgs_append : ∀ (as bs : List Ar) (ρ : Env), cArgs (as ++ bs) ρ = (cArgs as ρ).bindC fun l ρ1 => match cArgs bs ρ1 with
    | .ok l2 ρ2 => .ok (l ++ l2) ρ2
    | r => r
  | [], bs, ρ => by
    show cArgs bs ρ = _
    simp only [cArgs, CA.bindC]
    cases cArgs bs ρ <;> rfl
  | .v f :: as, bs, ρ => by
    simp only [List.cons_append, cArgs]
    cases e : f ρ with
    | bad => rfl
    | exc c fs ρ1 => rfl
    | ok o ρ1 =>
      simp only [R.toC]
      cases z : o.toVal with
      | none => rfl
      | some s =>
        simp only
        rw [cArgs_append as bs ρ1]
        cases cArgs as ρ1 with
        | bad => rfl
        | exc c fs ρ2 => rfl
        | ok l ρ2 =>
          simp only [CA.bindC, CA.cons]
          cases cArgs bs ρ2 <;> rfl
  | .r i :: as, bs, ρ => by
    simp only [List.cons_append, cArgs]
    have key : (cArgs (as ++ bs) ρ).cons (.inr i) = ((cArgs as ρ).cons (.inr i)).bindC fun l ρ1 => match cArgs bs ρ1 with
        | .ok l2 ρ2 => .ok (l ++ l2) ρ2
        | r => r := by
      rw [cArgs_append as bs ρ]
      cases cArgs as ρ with
      | bad => rfl
      | exc c fs ρ2 => rfl
      | ok l ρ2 =>
        simp only [CA.bindC, CA.cons]
        cases cArgs bs ρ2 <;> rfl
    cases e : ρ[i]? with
    | none => rfl
    | some s =>
      cases s with
      | own c => exact key
      | ref c => exact key
      | emp => rfl
      | val d => rfl
      | fn y => rfl
theorem ARel.append {l l2 : List (Sl ⊕ Nat)} {vs vs2 : List V} (r : ARel K mg P F H σ l vs) (r2 : ARel K mg P F H σ l2 vs2) : ARel K mg P F H σ (l ++ l2) (vs ++ vs2) := by
  induction r with
  | nil => exact r2
  | inl x no ne t ih => exact .inl x no ne ih
  | inr e t ih => exact .inr e ih
theorem ARel.grow {F' H' : Hp} {l : List (Sl ⊕ Nat)} {vs : List V} (sb : SubH F F') (r : ARel K mg P F H σ l vs) : ARel K mg P F' H' σ l vs := by
  induction r with
  | nil => exact .nil
  | inl x no ne t ih => exact .inl (x.plain no sb) no ne ih
  | inr e t ih => exact .inr e ih
theorem ARel.pick {l : List (Sl ⊕ Nat)} {vs : List V} (r : ARel K mg P F H σ l vs) : ∀ (srcs : List Src) (l' : List (Sl ⊕ Nat)), (∀ j x, Src.d j x ∈ srcs → flatD x = true) → pickL l srcs = some l' → ARel K mg P F H σ l' (pickV vs srcs)
  | [], l', _, h => by cases h; exact .nil
  | .a i :: s, l', hd, h => by
    simp only [pickL] at h
    cases e : l[i]? with
    | none => simp only [e] at h; cases h
    | some x =>
      simp only [e] at h
      cases e2 : pickL l s with
      | none => rw [e2] at h; cases h
      | some t =>
        rw [e2] at h; cases h
        obtain ⟨v, ev, h1, h2⟩ := r.get e
        have ih := ARel.pick r s t (fun j y m => hd j y (List.mem_cons_of_mem _ m)) e2
        have z : vs.getD i .non = v := by simp [List.getD, ev]
        simp only [pickV, z]
        cases x with
        | inl s' =>
          obtain ⟨q1, q2, q3⟩ := h1 s' rfl
          exact .inl q1 q2 q3 ih
        | inr j => exact .inr (h2 j rfl) ih
  | .d j x :: s, l', hd, h => by
    simp only [pickL] at h
    cases e2 : pickL l s with
    | none => rw [e2] at h; cases h
    | some t =>
      rw [e2] at h; cases h
      have ih := ARel.pick r s t (fun j y m => hd j y (List.mem_cons_of_mem _ m)) e2
      exact .inl ⟨_, rfl, flatV_rep (hd j x List.mem_cons_self)⟩ rfl (by intro z; cases z) ih
theorem cArgs_len : ∀ (as : List Ar) (ρ ρ1 : Env) (l : List (Sl ⊕ Nat)), cArgs as ρ = .ok l ρ1 → l.length = as.length := by
  intro as
  induction as with
  | nil => intro ρ ρ1 l z; cases z; rfl
  | cons a as ih =>
    intro ρ ρ1 l z
    have c1 : ∀ {x : Sl ⊕ Nat} {ρ : Env}, (cArgs as ρ).cons x = .ok l ρ1 → l.length = as.length + 1 := fun {x ρ} z => by
      cases q : cArgs as ρ with
      | bad => rw [q] at z; cases z
      | exc c gs ρ2 => rw [q] at z; cases z
      | ok l2 ρ2 => rw [q] at z; cases z; simp [ih _ _ _ q]
    cases a with
    | v f =>
      simp only [cArgs] at z
      cases q : f ρ with
      | bad => rw [q] at z; cases z
      | exc c gs ρ2 => rw [q] at z; cases z
      | ok o ρ2 =>
        rw [q] at z
        simp only [R.toC] at z
        cases y : o.toVal with
        | none => simp only [y] at z; cases z
        | some s => simp only [y] at z; exact c1 z
    | r i =>
      simp only [cArgs] at z
      cases q : ρ[i]? with
      | none => simp only [q] at z; cases z
      | some s =>
        cases s with
        | own c => simp only [q] at z; exact c1 z
        | ref c => simp only [q] at z; exact c1 z
        | emp => simp only [q] at z; cases z
        | val d => simp only [q] at z; cases z
        | fn y => simp only [q] at z; cases z
theorem pickV_len (vs : List V) : ∀ srcs : List Src, (pickV vs srcs).length = srcs.length
  | [] => rfl
  | .a i :: s => by simp [pickV, pickV_len vs s]
  | .d j x :: s => by simp [pickV, pickV_len vs s]
theorem de_callG {ta tk : TA} {den : Den} {as bs : List Ar} {srcs : List Src} {n m N : Nat} (h : DC K mg W ta as) (h2 : DC K mg W tk bs) (hn : as.length = n) (hm : bs.length = m) (hs : srcs.length = N) (hd : ∀ j x, Src.d j x ∈ srcs → flatD x = true) :
    DE K mg W (tCallG n m (spD K mg N den) (fun vs zs => pickV (vs ++ zs) srcs) (WE W) ta tk) (eCallG den (as ++ bs) srcs) := by
  intro P F H σ ρ Q st hp
  refine h P F H σ ρ _ st ?_
  unfold eCallG at hp
  rw [cArgs_append] at hp
  cases e : cArgs as ρ with
  | bad => simp only [e, CA.bindC] at hp; exact hp
  | exc c gs ρ1 => simp only [e, CA.bindC] at hp; exact hp
  | ok l ρ1 =>
    simp only [e, CA.bindC] at hp
    intro F1 H1 vs sb st1 r
    refine h2 P F1 H1 σ ρ1 _ st1 ?_
    cases e2 : cArgs bs ρ1 with
    | bad => simp only [e2] at hp; exact hp
    | exc c gs ρ2 => simp only [e2] at hp; exact fun G H' C dd s => hp G H' C dd (sb.trans s)
    | ok l2 ρ2 =>
      simp only [e2] at hp
      intro F2 H2 zs sb2 st2 r2
      have rr : ARel K mg P F2 H2 σ (l ++ l2) (vs ++ zs) := (r.grow sb2).append r2
      cases e3 : pickL (l ++ l2) srcs with
      | none => simp only [e3] at hp; exact hp.elim
      | some l3 =>
        simp only [e3] at hp
        have r3 := rr.pick srcs l3 hd e3
        refine ⟨by rw [r.length, cArgs_len _ _ _ _ e, hn], by rw [r2.length, cArgs_len _ _ _ _ e2, hm], ?_⟩
        split at hp
        · rename_i nd
          cases mm : mkAs l3 ρ2 with
          | none => simp only [mm] at hp; exact hp.elim
          | some sls =>
            simp only [mm] at hp
            obtain ⟨c1, c2, c3⟩ := call_in st2 r3 nd mm
            refine ⟨by rw [pickV_len, hs], _, F2, sls, c1, c2, c3, ?_⟩
            cases d : den sls with
            | bad => simp only [d] at hp; exact hp.elim
            | ret o as' =>
              simp only [d] at hp
              intro F3 H3 v sb3 st3 x
              obtain ⟨o1, o2⟩ := call_out st2 r3 nd mm sb3 st3
              exact hp F3 H3 v ((sb.trans sb2).trans sb3) o1 (o2 v o x)
            | exc c gs as' =>
              simp only [d] at hp
              intro F3 H3 C dd sb3 st3 x
              obtain ⟨o1, o2⟩ := call_out st2 r3 nd mm sb3 st3
              exact hp F3 H3 C dd ((sb.trans sb2).trans sb3) o1 x
        · exact hp.elim
end
def srcsFlat (srcs : List Src) : Bool := srcs.all fun s => match s with
  | .a _ => true
  | .d _ x => flatD x
theorem srcsFlat_ok {srcs : List Src} (h : srcsFlat srcs = true) : ∀ j x, Src.d j x ∈ srcs → flatD x = true := fun j x m => by
  have := List.all_eq_true.mp h _ m
  exact this
section
variable {X : Cx} {W : WX} {x : Str} {p pos : Pos} {e : Expr} {es : List Expr} {kws : List Keyword} {as bs : List Ar} {par : Arguments} {dvs : List D} {ps ks : List Str} {k n : Nat} {den : Den} {srcs : List Src}
/-- f(e, .., k = v, ..), f a def of the text -/
theorem pd_callG (C : CalD X.prog X.w X.K X.mg X.base x par dvs ps k den) (hb : Bnd par dvs.length as.length ks ps srcs) (hr : Room k X.A) (tk : Takes X W) (ha : PCD X W (e :: es) as) (hk : PKD X W kws bs) (ho : dfltOk dvs srcs = true := by rfl) (hsf : srcsFlat srcs = true := by rfl) (hl : srcs.length = ps.length := by rfl) (hbl : bs.length = ks.length := by rfl) (hg : Gl X x := by rfl)
    (hall : (backToKw pos (keywordEach kws X.env)).all (·.1.isSome) = true := by rfl) (hks : (backToKw pos (keywordEach kws X.env)).filterMap (·.1) = ks := by rfl)
    (hdb : (x == ("__debug__" : Str)) = false := by decide) (he : starEach (e :: es) X.env = (false, eval e X.env) :: starEach es X.env := by rfl)
    (hpl : ((backTo pos (starEach (e :: es) X.env)).any (·.1) || (backToKw pos (keywordEach kws X.env)).any (·.1.isNone)) = false := by rfl) : PD X W (.Call (.Name x p) (e :: es) kws pos) (eCallG den (as ++ bs) srcs) := by
  obtain ⟨f, fd, nm, qual, body, scope, F, hm, hkp, FD⟩ := C.ex
  obtain ⟨its, kb⟩ := FunD.kbn FD hb ho
  obtain ⟨t, pa, da⟩ := ha.ex
  obtain ⟨t2, pk, dk⟩ := hk.ex
  exact ⟨_, pe_callG F hr hg hm hkp kb (fun σ => passAt tk σ) pa pk hall hks hdb he hpl, de_callG da dk rfl hbl hl (srcsFlat_ok hsf)⟩
theorem pd_callG0 (C : CalD X.prog X.w X.K X.mg X.base x par dvs ps k den) (hb : Bnd par dvs.length 0 ks ps srcs) (hr : Room k X.A) (tk : Takes X W) (hk : PKD X W kws bs) (ho : dfltOk dvs srcs = true := by rfl) (hsf : srcsFlat srcs = true := by rfl) (hl : srcs.length = ps.length := by rfl) (hbl : bs.length = ks.length := by rfl) (hg : Gl X x := by rfl)
    (hall : (backToKw pos (keywordEach kws X.env)).all (·.1.isSome) = true := by rfl) (hks : (backToKw pos (keywordEach kws X.env)).filterMap (·.1) = ks := by rfl)
    (hdb : (x == ("__debug__" : Str)) = false := by decide)
    (hpl : ((backTo pos (starEach [] X.env)).any (·.1) || (backToKw pos (keywordEach kws X.env)).any (·.1.isNone)) = false := by rfl) : PD X W (.Call (.Name x p) [] kws pos) (eCallG den bs srcs) := by
  obtain ⟨f, fd, nm, qual, body, scope, F, hm, hkp, FD⟩ := C.ex
  obtain ⟨its, kb⟩ := FunD.kbn FD hb ho
  obtain ⟨t2, pk, dk⟩ := hk.ex
  exact ⟨_, pe_callG0 F hr hg hm hkp kb (fun σ => passAt tk σ) pk hall hks hdb hpl, de_callG (as := []) dc_nil dk rfl hbl hl (srcsFlat_ok hsf)⟩
end
end Dk

set_option Elab.async false
set_option linter.all false
set_option maxRecDepth 100000
set_option maxHeartbeats 4000000
/-! Dk10: own errors raised, caught -/
namespace Dk
open PySem PySem.Spec L2 PyProof.Rows

/-! ### own error classes -/
/-- __init__'s promise: the fields flds get the arguments -/
def spI (K : PySem.W.Frag) (flds : List Str) : Sp := fun vs H Q E => ∃ (a C : Addr) (ys : List V), vs = .ref a :: ys ∧ ys.length = flds.length ∧ OexC K C ∧ (∀ f ∈ flds, PySem.W.findIn K (.ref C) f = some none) ∧ H a = some (exo a C none) ∧
  ∀ dx, H dx = none → dx ≠ a → Q .non (upd (upd H dx (exd dx (flds.zip ys).reverse)) a (exo a C (some dx)))
structure ExcD (P : Program) (w : World) (K : PySem.W.Frag) (mg : Str → Option Value) (base : Heap) (c : Str) (flds : List Str) (k : Nat) : Prop where
  ex : ∃ (C fI : Addr) (fd : FuncData) (ps : List Str), OexC K C ∧ PySem.W.findIn K (.ref C) "__init__" = some (some (.ref fI)) ∧ PySem.W.typeIn K (.ref fI) = some (.type "function") ∧ FnOk P w K mg base (L2.CX P w) k fI fd ps (spI K flds) ∧ Binds K fd ps [] ∧ mg c = some (.ref C) ∧
    (∀ f ∈ flds, PySem.W.findIn K (.ref C) f = some none)
  sh : (∃ g, flds = [g]) ∨ ∃ i j, i ≠ j ∧ flds = [i, j]
theorem init1_ok {P : Program} {w : World} {K : PySem.W.Frag} {mg : Str → Option Value} {base : Heap} {qual : Str} {st : Stmt} {f : Addr} {fd : FuncData} {N ps : List Str} {k : Nat} {g : Str} (F : Fun K "__init__" qual st f fd) (S : FnScope N ps (defScope st)) (hps : ps.length = 2)
    (hbody : ∀ (cdv : Value) (A : Around) (outer : List PySem.Env) (s : Shared) (H : Hp) (E : XK), PSs (cxOf (L2.CX P w) P w K mg base N qual (defScope st) f cdv A outer s H E) (defBody st) (tOst K g (tVar 0) (tVar 1))) : FnOk P w K mg base (L2.CX P w) (k + 1) f fd ps (spI K [g]) := by
  have F' := F
  obtain ⟨oc, od, kV, doc, pm, an, cdv, ct, osl, rfl, lk, hcd⟩ := F'.ex
  refine fn_of lk hcd S (fun vs H Q E h => ?_) fun A outer s H vs Q E hr h => ?_
  · obtain ⟨a, C, ys, rfl, hl, _⟩ := h
    rw [List.length_cons, hl, hps]; rfl
  · obtain ⟨a, C, ys, rfl, hl, T, hno, ha, hq⟩ := h
    match ys, hl with
    | [y], _ =>
      refine ⟨_, hbody _ A outer s H E, ?_⟩
      have e1 : (L2.start N [.ref a, y])[1]? = some (some y) := rfl
      have e0 : (L2.start N [.ref a, y])[0]? = some (some (.ref a)) := rfl
      exact ⟨y, e1, .ref a, e0, a, C, rfl, T, hno g (by simp), .inl ⟨ha, fun dx n ne => hq dx n ne⟩⟩
theorem init2_ok {P : Program} {w : World} {K : PySem.W.Frag} {mg : Str → Option Value} {base : Heap} {qual : Str} {st : Stmt} {f : Addr} {fd : FuncData} {N ps : List Str} {k : Nat} {g g2 : Str} (F : Fun K "__init__" qual st f fd) (S : FnScope N ps (defScope st)) (hps : ps.length = 3)
    (hbody : ∀ (cdv : Value) (A : Around) (outer : List PySem.Env) (s : Shared) (H : Hp) (E : XK), PSs (cxOf (L2.CX P w) P w K mg base N qual (defScope st) f cdv A outer s H E) (defBody st) (tSeq (tOst K g (tVar 0) (tVar 1)) (tOst K g2 (tVar 0) (tVar 2)))) : FnOk P w K mg base (L2.CX P w) (k + 1) f fd ps (spI K [g, g2]) := by
  have F' := F
  obtain ⟨oc, od, kV, doc, pm, an, cdv, ct, osl, rfl, lk, hcd⟩ := F'.ex
  refine fn_of lk hcd S (fun vs H Q E h => ?_) fun A outer s H vs Q E hr h => ?_
  · obtain ⟨a, C, ys, rfl, hl, _⟩ := h
    rw [List.length_cons, hl, hps]; rfl
  · obtain ⟨a, C, ys, rfl, hl, T, hno, ha, hq⟩ := h
    match ys, hl with
    | [y, y2], _ =>
      refine ⟨_, hbody _ A outer s H E, ?_⟩
      have e1 : (L2.start N [.ref a, y, y2])[1]? = some (some y) := rfl
      have e2 : (L2.start N [.ref a, y, y2])[2]? = some (some y2) := rfl
      have e0 : (L2.start N [.ref a, y, y2])[0]? = some (some (.ref a)) := rfl
      refine ⟨y, e1, .ref a, e0, a, C, rfl, T, hno g (by simp), .inl ⟨ha, fun dx n ne => ?_⟩⟩
      refine ⟨y2, e2, .ref a, e0, a, C, rfl, T, hno g2 (by simp), .inr ⟨dx, [(g, y)], upd_same, by rw [upd_ne ne, upd_same], by simp, ?_⟩⟩
      have := hq dx n ne
      have eH : upd (upd (upd H dx (exd dx [(g, y)])) a (exo a C (some dx))) dx (exd dx [(g2, y2), (g, y)]) = upd (upd H dx (exd dx ([g, g2].zip [y, y2]).reverse)) a (exo a C (some dx)) := by
        funext b
        by_cases hb : b = dx
        · subst hb; rw [upd_same, upd_ne ne, upd_same]; rfl
        · rw [upd_ne hb]
          by_cases hc : b = a
          · subst hc; rw [upd_same, upd_same]
          · rw [upd_ne hc, upd_ne hc, upd_ne hb, upd_ne hb]
      rw [eH]; exact this
def sRaise (c : Str) (flds : List Str) (fs : List EX) : SX := fun ρ => match eArgsR fs ρ with
  | .ok (.val (.list ds)) ρ1 => .exc c (flds.zip ds) ρ1
  | .exc c' gs ρ1 => .exc c' gs ρ1
  | _ => .bad
theorem repF_zip {K : PySem.W.Frag} {F : Hp} {flds : List Str} {ds : List D} {vs : List V} (sh : (∃ g, flds = [g]) ∨ ∃ i j, i ≠ j ∧ flds = [i, j]) (r : RepL K F ds vs) (hl : ds.length = flds.length) : RepF K F (flds.zip ds) (flds.zip vs).reverse := by
  intro f d e
  rcases sh with ⟨g, rfl⟩ | ⟨i, j, ne, rfl⟩
  · match ds, hl with
    | [d0], _ =>
      obtain ⟨v, rfl, rv⟩ := r.one
      simp only [List.zip_cons_cons, List.zip_nil_right, List.lookup] at e
      refine ⟨v, ?_, ?_⟩
      · simp only [List.zip_cons_cons, List.zip_nil_right, List.reverse_singleton, List.lookup]
        split at e
        · rfl
        · cases e
      · split at e
        · cases e; exact rv
        · cases e
  · match ds, hl with
    | [d0, d1], _ =>
      obtain ⟨v, u, rfl, rv, ru⟩ := r.two
      have hrev : ([i, j].zip [v, u]).reverse = [(j, u), (i, v)] := rfl
      rw [hrev]
      simp only [List.zip_cons_cons, List.zip_nil_right, List.lookup] at e ⊢
      by_cases h1 : f = i
      · subst h1
        have h2 : (f == j) = false := by simpa using ne
        simp at e; subst e
        exact ⟨v, by simp [h2], rv⟩
      · have h2 : (f == i) = false := by simpa using h1
        simp only [h2] at e
        by_cases h3 : f = j
        · subst h3; simp at e; subst e; exact ⟨u, by simp, ru⟩
        · have h4 : (f == j) = false := by simpa using h3
          simp [h4] at e
section
variable {X : Cx} {W : WX}
/-- raise C(e, ..) -/
theorem psd_raise {c : Str} {flds : List Str} {k : Nat} {e : Expr} {es : List Expr} {fs : List EX} {p pos pos' : Pos} (E : ExcD X.prog X.w X.K X.mg X.base c flds k) (hr : Room (k + 1) X.A) (tk : Takes X W) (ha : PAD X W (e :: es) fs) (hn : fs.length = flds.length := by rfl) (hc : X.calm = true := by rfl) (hg : Gl X c := by rfl)
    (hdb : (c == ("__debug__" : Str)) = false := by decide) (he : starEach (e :: es) X.env = (false, eval e X.env) :: starEach es X.env := by rfl) (hpl : (backTo pos' (starEach es X.env)).any (·.1) = false := by rfl) :
    PSD X W (.Raise (some (.Call (.Name c p) (e :: es) [] pos')) none pos) (sRaise c flds fs) := by
  obtain ⟨C, fI, fd, ps, T, iC, tI, F, hb, hm, hno⟩ := E.ex
  obtain ⟨ta, pa, da⟩ := ha.ex
  refine ⟨_, ps_raise hc tk (pmk_oex T iC tI F hr hb .nil (fun pins σ H s e s' I c => (takes_none5 (X := X)) e s' (XE.of_call I (fun _ _ _ h => h) c)) hg hm pa hdb he hpl), ?_⟩
  intro P F0 H σ ρ D st hp
  refine da P F0 H σ ρ _ st ?_
  unfold sRaise at hp
  cases e1 : eArgsR fs ρ with
  | bad => simp only [e1] at hp; exact hp
  | exc c' gs ρ1 => simp only [e1] at hp; exact fun F1 H1 C' dd sb st1 x => hp F1 H1 σ C' dd sb st1 x
  | ok o ρ1 =>
    simp only [e1] at hp
    cases o with
    | val d =>
      cases d with
      | list ds =>
        simp only at hp
        intro F1 H1 vs sb st1 r hl
        have hlv : vs.length = flds.length := by rw [r.length, hl, hn]
        refine ⟨?_, fun a na => ?_⟩
        · rcases E.sh with ⟨g, h⟩ | ⟨i, j, _, h⟩ <;> rw [hlv, h] <;> simp
        · refine ⟨a, C, vs, by rw [List.append_nil], hlv, T, hno, upd_same, fun dx ndx nea => ⟨rfl, dx, _, upd_same, by rw [upd_ne nea, upd_same], ?_, ?_⟩⟩
          · rw [upd_ne nea] at ndx; exact ndx
          · rw [upd_ne nea] at ndx
            have eH : upd (del (upd (upd (upd H1 a (exo a C none)) dx (exd dx (flds.zip vs).reverse)) a (exo a C (some dx))) a) dx (.xd (flds.zip vs).reverse) = upd H1 dx (.xd (flds.zip vs).reverse) := by
              funext b
              by_cases hb : b = dx
              · subst hb; rw [upd_same, upd_same]
              · rw [upd_ne hb, upd_ne hb]
                by_cases hc : b = a
                · subst hc; rw [del_same, na]
                · rw [del_ne hc, upd_ne hc, upd_ne hb, upd_ne hc]
            rw [eH]
            obtain ⟨st2, sb2⟩ := st1.allocF (o := .xd (flds.zip vs).reverse) ndx
            refine hp _ _ σ C dx (sb.trans sb2) st2 ⟨hm, _, upd_same, ?_⟩
            exact (repF_zip E.sh r (hl.trans hn)).le sb2
      | none => exact hp.elim
      | bool i => exact hp.elim
      | int i => exact hp.elim
      | str i => exact hp.elim
      | tuple i => exact hp.elim
      | dict i => exact hp.elim
      | dictT i => exact hp.elim
      | tag _ i => exact hp.elim
    | emp => exact hp.elim
    | own c => exact hp.elim
    | ref c => exact hp.elim
    | fn c => exact hp.elim
end

/-! ### several except clauses, with names -/
def endsOut (oi : Option Nat) (D : Ends) : Ends := match oi with
  | none => D
  | some i => { nx := fun σ' H' => D.nx (σ'.set i none) H', rt := D.rt, bk := fun σ' H' => D.bk (σ'.set i none) H', ct := fun σ' H' => D.ct (σ'.set i none) H' }
def slotIn (oi : Option Nat) (a : Addr) (σ : L2.St) : L2.St := match oi with
  | none => σ
  | some i => σ.set i (some (.ref a))
def wManyA (K : PySem.W.Frag) (Wout : WX) (D : Ends) : List (Value × Option Nat × (Addr → Value → Option Addr → TS)) → WX
  | [] => Wout
  | (c, oi, ts) :: r => fun cls d σ H => ∃ b, PySem.W.exmOne K cls c = some b ∧ (b = true → ∀ a, H a = none → ts a cls d (endsOut oi D) (slotIn oi a σ) H) ∧ (b = false → wManyA K Wout D r cls d σ H)
inductive HdsA (X : Cx) : List ExceptHandler → List (Value × Option Nat × (Addr → Value → Option Addr → TS)) → Prop
  | nil : HdsA X [] []
  | no {x : Str} {c : Value} {ts : Addr → Value → Option Addr → TS} {b₀ : Stmt} {suite : List Stmt} {np pos' : Pos} {hds : List ExceptHandler} {l : List (Value × Option Nat × (Addr → Value → Option Addr → TS))} (hc : Names X x c)
      (hsu : ∀ (a : Addr) (oe : Obj) (cls : Value) (d : Option Addr) (pn : List (Addr × Obj)), Zc cls d oe → (∃ vs, oe.data = .fields vs) → PSs (X.suite a ((a, oe) :: pn)) (b₀ :: suite) (ts a cls d)) (r : HdsA X hds l) :
      HdsA X (.ExceptHandler (some (.Name x np)) none (b₀ :: suite) pos' :: hds) ((c, none, ts) :: l)
  | as {x n : Str} {i : Nat} {c : Value} {ts : Addr → Value → Option Addr → TS} {b₀ : Stmt} {suite : List Stmt} {np pos' : Pos} {hds : List ExceptHandler} {l : List (Value × Option Nat × (Addr → Value → Option Addr → TS))} (hN : X.N.Nodup) (hi : X.N[i]? = some n) (hln : X.env.kindOf n = some .local) (hc : Names X x c)
      (hsu : ∀ (a : Addr) (oe : Obj) (cls : Value) (d : Option Addr) (pn : List (Addr × Obj)), Zc cls d oe → (∃ vs, oe.data = .fields vs) → PSs (X.suite a ((a, oe) :: pn)) (b₀ :: suite) (ts a cls d)) (r : HdsA X hds l) :
      HdsA X (.ExceptHandler (some (.Name x np)) (some n) (b₀ :: suite) pos' :: hds) ((c, some i, ts) :: l)
section
variable {X : Cx} {body : List Stmt} {h₀ : ExceptHandler} {hds : List ExceptHandler} {l : List (Value × Option Nat × (Addr → Value → Option Addr → TS))} {pos : Pos} {tb : WX → TS} {Wout : WX}
theorem ps_try_manyA (hs : X.stack = X.env :: X.outer) (hf : X.env.frame = some X.env.locals) (tk : Takes X Wout)
    (hb : ∀ (W : WX) (pn : List (Addr × Obj)) (xe : Value → Shared → Prop), Takes (X.tr pn xe) W → PassesOwn (model X.prog X.w) X.A X.env xe → PSs (X.tr pn xe) body (tb W))
    (hh : HdsA X (h₀ :: hds) l) : PS X (.Try body (h₀ :: hds) [] [] pos) (fun D σ H => tb (wManyA X.K Wout D l) D σ H) := by
  refine ⟨fun pins s σ H D I h => ?_⟩
  have ok := I.ok
  have hfr : X.A.frames = some (X.env :: X.outer) := by rw [ok.frames, hs]
  refine wpAny_Try_except ?_
  refine wpAny_mono ((hb (wManyA X.K Wout D l) (X.pn ++ pins) (fun e s₁ => wpAny (model X.prog X.w) X.A (noteFrame e X.env) (fun _ s₂ => wpAny (model X.prog X.w) X.A (setFlight e none) (fun _ s₃ =>
    wpAny (model X.prog X.w) X.A (handleBy e X.env (h₀ :: hds)) (SP X pins D) X.xe s₃) X.xe s₂) X.xe s₁) (fun u s' xx => ?_) PassesOwn.looking).run [] s σ H D (I.toTry _) h) (fun f s1 hsp => ?_) (fun e s1 he => he)
  · obtain ⟨a, B, sI, pins', σ', H', cls, d, rfl, J', nb, up, sky, na, os, ag, w⟩ := xx
    have J : Inv X pins σ' H' sI := J'.ofTry ok
    have sky' : Sky B (X.env :: X.outer) a (Zc cls d) X.env.locals s'.heap := by rw [← hs]; exact sky
    show wpAny (model X.prog X.w) X.A (noteFrame (.ref a) X.env) _ _ _
    refine Sky.land Zc.steady hfr hf sky' fun h3 fl3 up3 => ?_
    have J3 : Inv X pins σ' H' { s' with heap := h3 } := J.landed nb fl3.1 (up.trans up3) os ag
    obtain ⟨oe3, vs3, he3, hz3, hd3⟩ := fl3.there
    have notFr : ∀ {h : Heap} {o : Obj} {vs : Array Value}, h.FunFrames B (X.env :: X.outer) → h.get? a = some o → o.data = .fields vs → a ∉ frs (X.env :: X.outer) := fun {h o vs} ff e dd hm => by
      obtain ⟨_, o', e', hnf⟩ := ff.mem hm
      rw [e] at e'; cases e'
      exact hnf _ dd
    have nfr := notFr fl3.2.2.1 he3 hd3
    have nL : a ≠ X.env.locals := fun z => nfr (List.mem_filterMap.mpr ⟨X.env, List.mem_cons_self, by rw [hf, z]⟩)
    have nF : a ∉ X.fs := fun hm => by
      obtain ⟨e, he, q⟩ := List.mem_filterMap.mp hm
      exact nfr (List.mem_filterMap.mpr ⟨e, List.mem_cons_of_mem _ he, q⟩)
    have S3 := J3.suite he3 hd3 na nL nF
    have test : ∀ {x : Str} {c : Value} {np : Pos} {Q : Value → Shared → Prop} {E : Value → Shared → Prop}, Names X x c → Q c { s' with heap := h3 } → wpAny (model X.prog X.w) (X.A.mark (some (.ref a))) (eval (.Name x np) X.env) Q E { s' with heap := h3 } := fun {x c np Q E} hc q => by
      obtain ⟨hg, hdbg, hm | ⟨hm, hv, hnn⟩⟩ := hc
      · exact ld_glob (X := X.suite a ((a, oe3) :: (X.pn ++ pins))) S3 hg hm q hdbg
      · exact ld_blt (X := X.suite a ((a, oe3) :: (X.pn ++ pins))) S3 hg hm hv q hnn hdbg
    have LT : PySem.W.Looks (model X.prog X.w) h3 (typeOf (.ref a)) cls := fun A Q E s k q => wpAny_typeOf_ref (k _ _ he3) (by rw [hz3.1]; exact q)
    have go : ∀ {hds' : List ExceptHandler} {l' : List (Value × Option Nat × (Addr → Value → Option Addr → TS))}, HdsA X hds' l' → wManyA X.K Wout D l' cls d σ' H' →
        wpAny (model X.prog X.w) X.A (handleBy (.ref a) X.env hds') (SP X pins D) X.xe { s' with heap := h3 } := by
      intro hds' l' hk
      induction hk with
      | nil =>
        intro w
        refine wpAny_handleBy_nil ?_
        obtain ⟨k1, k2, k3, oe, vs, T, oT, ts', he, hz, hd, h1, hr⟩ := id fl3
        unfold PySem.passOn
        refine wpAny_bind (wpAny_field he hd h1 ?_)
        rw [if_neg (show ¬ ((Value.ref T == Value.none) = true) from by simp)]
        have fin : wpAny (model X.prog X.w) X.A (setFlight (.ref a) X.env.frame) (fun _ s4 => wpAny (model X.prog X.w) X.A (throw (.ref a) : Sem Flow) (SP X pins D) X.xe s4) X.xe { s' with heap := h3 } := by
          rw [hf]
          refine HandSPX.setFlight_upZ fl3 fun h4 hh4 up4 => wpAny_throw (tk _ _ ?_)
          exact ⟨a, B, sI, pins, σ', H', cls, d, rfl, J, nb, (up.trans up3).trans up4, .inr (.inr (by rw [hs]; exact hh4)), na, os, ag, w⟩
        first
          | exact wpAny_bind (wpAny_pure (wpAny_bind fin))
          | exact wpAny_bind fin
      | @no x c ts b₀ suite np pos' hds2 l2 hc hsu r ih =>
        intro w
        obtain ⟨b, hb1, hyes, hno⟩ := w
        refine wpAny_handleBy_cons (codeAny_handlers_test ?_) (by intro q; cases q)
        have LM := PySem.W.exm_one (M := model X.prog X.w) (J3.kIn) LT hb1
        refine test hc (LM.here ?_)
        cases b with
        | true =>
          refine codeAny_handlers_suite ?_
          refine HandSPX.lands_againZ fl3 fun h4 fl4 up4 => ?_
          have J4 : Inv X pins σ' H' { s' with heap := h4 } := J.landed nb fl4.1 ((up.trans up3).trans up4) os ag
          obtain ⟨oe4, vs4, he4, hz4, hd4⟩ := fl4.there
          have S4 := J4.suite he4 hd4 na nL nF
          refine wpAny_mono ((hsu a oe4 cls d (X.pn ++ pins) hz4 ⟨_, hd4⟩).run [] _ _ H' _ S4 (hyes rfl a na)) (fun f s6 hsp => ?_) (fun _ _ z => False.elim z)
          cases f with
          | next =>
            obtain ⟨σ6, H6, S6, q6⟩ := hsp
            exact ⟨_, _, S6.unsuite ok, q6⟩
          | brk =>
            obtain ⟨σ6, H6, S6, q6⟩ := hsp
            exact ⟨_, _, S6.unsuite ok, q6⟩
          | cont =>
            obtain ⟨σ6, H6, S6, q6⟩ := hsp
            exact ⟨_, _, S6.unsuite ok, q6⟩
          | ret u =>
            obtain ⟨v6, σ6, H6, S6, r6, q6⟩ := hsp
            exact ⟨_, _, _, S6.unsuite ok, r6, q6⟩
        | false =>
          show wpAny _ X.A (handleBy (.ref a) X.env hds2) _ _ _
          exact ih (hno rfl)
      | @as x n i c ts b₀ suite np pos' hds2 l2 hN hi hln hc hsu r ih =>
        intro w
        obtain ⟨b, hb1, hyes, hno⟩ := w
        refine wpAny_handleBy_cons (codeAny_handlers_test ?_) (by intro q; cases q)
        have LM := PySem.W.exm_one (M := model X.prog X.w) (J3.kIn) LT hb1
        refine test hc (LM.here ?_)
        have hloc : Loc X.env.scope n := .inl hln
        cases b with
        | true =>
          refine codeAny_handlers_suite_as ?_
          refine HandSPX.lands_againZ fl3 fun h4 fl4 up4 => ?_
          have J4 : Inv X pins σ' H' { s' with heap := h4 } := J.landed nb fl4.1 ((up.trans up3).trans up4) os ag
          obtain ⟨oe4, vs4, he4, hz4, hd4⟩ := fl4.there
          have S4 := J4.suite he4 hd4 na nL nF
          refine store_ok (X := X.suite a ((a, oe4) :: (X.pn ++ pins))) (v := .ref a) S4 hN hi hloc rfl (fun s5 S5 => ?_) (.inr hln)
          refine wpAny_mono ((hsu a oe4 cls d (X.pn ++ pins) hz4 ⟨_, hd4⟩).run [] s5 _ H' _ S5 (hyes rfl a na)) (fun f s6 hsp => ?_) (fun _ _ z => False.elim z)
          have end_ : ∀ {σ6 : L2.St} {H6 : Hp} {Q : Shared → Prop}, Inv (X.suite a ((a, oe4) :: (X.pn ++ pins))) [] σ6 H6 s6 → (∀ s7, Inv X pins (σ6.set i none) H6 s7 → Q s7) →
              wpAny (model X.prog X.w) X.A (do bindName X.env n .none; unbindBehindTheSuite X.env n pos') (fun _ s7 => Q s7) X.xe s6 := fun {σ6 H6 Q} S6 hq => gone_ok (S6.unsuite ok) hN hi hln hq
          cases f with
          | next =>
            obtain ⟨σ6, H6, S6, q6⟩ := hsp
            exact end_ S6 fun s7 J7 => ⟨_, _, J7, q6⟩
          | brk =>
            obtain ⟨σ6, H6, S6, q6⟩ := hsp
            exact end_ S6 fun s7 J7 => ⟨_, _, J7, q6⟩
          | cont =>
            obtain ⟨σ6, H6, S6, q6⟩ := hsp
            exact end_ S6 fun s7 J7 => ⟨_, _, J7, q6⟩
          | ret u =>
            obtain ⟨v6, σ6, H6, S6, r6, q6⟩ := hsp
            exact end_ S6 fun s7 J7 => ⟨_, _, _, J7, r6, q6⟩
        | false =>
          show wpAny _ X.A (handleBy (.ref a) X.env hds2) _ _ _
          exact ih (hno rfl)
    exact go hh w
  · cases f with
    | next =>
      obtain ⟨σ', H', J', q⟩ := hsp
      exact wpAny_execs_nil ⟨σ', H', J'.ofTry ok, q⟩
    | brk =>
      obtain ⟨σ', H', J', q⟩ := hsp
      exact ⟨σ', H', J'.ofTry ok, q⟩
    | cont =>
      obtain ⟨σ', H', J', q⟩ := hsp
      exact ⟨σ', H', J'.ofTry ok, q⟩
    | ret u =>
      obtain ⟨v, σ', H', J', r, q⟩ := hsp
      exact ⟨v, σ', H', J'.ofTry ok, r, q⟩
end
end Dk

set_option Elab.async false
set_option linter.all false
set_option maxRecDepth 100000
set_option maxHeartbeats 4000000
/-! Dk11: try by data -/
namespace Dk
open PySem PySem.Spec L2 PyProof.Rows

/-! ### what a suite says of the error that it holds -/
abbrev GX := Str → List (Str × D) → Option Sl
/-- slot i holds the error at a: its class named c, its fields fs -/
def ExAt (K : PySem.W.Frag) (mg : Str → Option Value) (F : Hp) (σ : SS) (a : Addr) (cls : Value) (d : Option Addr) (i : Nat) (c : Str) (fs : List (Str × D)) : Prop :=
  σ[i]? = some (some (.ref a)) ∧ ∃ (C dd : Addr), cls = .ref C ∧ d = some dd ∧ ExcOk K mg F C dd c fs
theorem ExAt.le {K : PySem.W.Frag} {mg : Str → Option Value} {F F' : Hp} {σ : SS} {a : Addr} {cls : Value} {d : Option Addr} {i : Nat} {c : Str} {fs : List (Str × D)} (h : SubH F F') (x : ExAt K mg F σ a cls d i c fs) : ExAt K mg F' σ a cls d i c fs := by
  obtain ⟨h1, C, dd, e1, e2, m, vs, hf, r⟩ := x
  exact ⟨h1, C, dd, e1, e2, m, vs, h _ _ hf, r.le h⟩
def DXe (K : PySem.W.Frag) (mg : Str → Option Value) (a : Addr) (cls : Value) (d : Option Addr) (i : Nat) (t : TE) (g : GX) : Prop := ∀ P F H σ ρ Q c fs o, Stt K mg P F H σ ρ → ExAt K mg F σ a cls d i c fs → g c fs = some o → Kont K mg P F σ ρ o Q → t σ H Q
/-- within a suite -/
structure PXe (X : Cx) (a : Addr) (cls : Value) (d : Option Addr) (i : Nat) (e : Expr) (g : GX) : Prop where
  ex : ∃ t, PE X e t ∧ DXe X.K X.mg a cls d i t g
def gC_ (d : D) : GX := fun _ _ => some (.val d)
/-- the field f, if the class is the one named c0 -/
def gFld (c0 f : Str) : GX := fun c fs => if c = c0 then (fs.lookup f).map .val else none
section
variable {X : Cx} {a : Addr} {cls : Value} {d : Option Addr} {i : Nat}
theorem pxe_c {e : Expr} {v : V} {dd : D} (p : PE X e (tC v)) (r : ∀ F, Rep X.K F dd v) : PXe X a cls d i e (gC_ dd) := ⟨_, p, fun P F H σ ρ Q c fs o st ex hg k => by cases hg; exact k F H v (SubH.refl F) st (OutOk.val (r F))⟩
theorem pxe_str {x : Str} {j : Nat} {pos : Pos} : PXe X a cls d i (.Constant (.str x) j pos) (gC_ (.str x)) := pxe_c pe_str fun F => mk_str
theorem pxe_non {j : Nat} {pos : Pos} : PXe X a cls d i (.Constant .none j pos) (gC_ .none) := pxe_c pe_non fun F => mk_none
theorem pxe_bl {b : Bool} {j : Nat} {pos : Pos} : PXe X a cls d i (.Constant (.bool b) j pos) (gC_ (.bool b)) := pxe_c pe_bl fun F => mk_bool
theorem pxe_int {b : Int} {j : Nat} {pos : Pos} : PXe X a cls d i (.Constant (.int b) j pos) (gC_ (.int b)) := pxe_c pe_int fun F => mk_int
/-- what the fields' class must have -/
structure XfD (K : PySem.W.Frag) (mg : Str → Option Value) (c0 f : Str) : Prop where
  ex : ∃ C : Addr, mg c0 = some (.ref C) ∧ XfC K C ∧ PySem.W.findIn K (.ref C) f = some none
theorem pxe_fld {n c0 f : Str} {oe : Obj} {pn : List (Addr × Obj)} {p pos : Pos} (T : XfD X.K X.mg c0 f) (hz : Zc cls d oe) (hf : ∃ vs, oe.data = .fields vs) (hN : X.N[i]? = some n) (hv : Vis X.env.scope n) (hb : attributeBase (.Name n p) f X.env (eval (.Name n p) X.env) = eval (.Name n p) X.env := by rfl) (hdb : (n == ("__debug__" : Str)) = false := by decide) (hcd : (n == ("__classdict__" : Str)) = false := by decide) :
    PXe (X.suite a ((a, oe) :: pn)) a cls d i (.Attribute (.Name n p) f pos) (gFld c0 f) := by
  obtain ⟨C, hm, T, hno⟩ := T.ex
  refine ⟨_, pe_xf T hno hz hf (pe_var (X := X.suite a ((a, oe) :: pn)) hN hv hdb hcd) hb, ?_⟩
  intro P F H σ ρ Q c fs o st ex hg k
  obtain ⟨h1, C', dd, e1, e2, m, vs, hfd, r⟩ := ex
  unfold gFld at hg
  split at hg
  · rename_i ec
    subst ec
    have : some (Value.ref C') = some (.ref C) := m.symm.trans hm
    cases this
    cases q : fs.lookup f with
    | none => rw [q] at hg; cases hg
    | some x =>
      rw [q] at hg; cases hg
      obtain ⟨v, l, rv⟩ := r f x q
      exact ⟨.ref a, h1, rfl, e1, dd, vs, v, e2, st.sub _ _ hfd, l, k F H v (SubH.refl F) st (OutOk.val rv)⟩
  · cases hg
/-- argument lists within a suite -/
abbrev GXs := Str → List (Str × D) → Option (List D)
def gNil : GXs := fun _ _ => some []
def gCons (g : GX) (gs : GXs) : GXs := fun c fs => match g c fs with
  | some o => (match o.frz with | some d => (gs c fs).map (d :: ·) | none => none)
  | none => none
def DXs (K : PySem.W.Frag) (mg : Str → Option Value) (a : Addr) (cls : Value) (d : Option Addr) (i n : Nat) (t : TA) (g : GXs) : Prop := ∀ P F H σ ρ G c fs ds, Stt K mg P F H σ ρ → ExAt K mg F σ a cls d i c fs → g c fs = some ds → (∀ F' H' vs, SubH F F' → Stt K mg P F' H' σ ρ → RepL K F' ds vs → ds.length = n → G vs H') → t σ H G
structure PXs (X : Cx) (a : Addr) (cls : Value) (d : Option Addr) (i n : Nat) (es : List Expr) (g : GXs) : Prop where
  ex : ∃ t, PA X es t ∧ DXs X.K X.mg a cls d i n t g
theorem pxs_nil : PXs X a cls d i 0 [] gNil := ⟨_, pa_nil, fun P F H σ ρ G c fs ds st ex hg k => by cases hg; exact k F H [] (SubH.refl F) st RepL.nil rfl⟩
theorem pxs_cons {e : Expr} {es : List Expr} {g : GX} {gs : GXs} {n : Nat} (h1 : PXe X a cls d i e g) (h2 : PXs X a cls d i n es gs) (hs : starEach (e :: es) X.env = (false, eval e X.env) :: starEach es X.env := by rfl) : PXs X a cls d i (n + 1) (e :: es) (gCons g gs) := by
  obtain ⟨t, p, q⟩ := h1.ex
  obtain ⟨u, p2, q2⟩ := h2.ex
  refine ⟨_, pa_cons p p2 hs, ?_⟩
  intro P F H σ ρ G c fs ds st ex hg k
  unfold gCons at hg
  cases e1 : g c fs with
  | none => simp only [e1] at hg; cases hg
  | some o =>
    simp only [e1] at hg
    cases e2 : o.frz with
    | none => simp only [e2] at hg; cases hg
    | some y =>
      simp only [e2] at hg
      cases e3 : gs c fs with
      | none => rw [e3] at hg; cases hg
      | some ys =>
        rw [e3] at hg; cases hg
        refine q P F H σ ρ _ c fs o st ex e1 fun F1 H1 v sb st1 x => ?_
        obtain ⟨F2, sb2, st2, r⟩ := st1.freeze x e2
        refine q2 P F2 H1 σ ρ _ c fs ys st2 (ex.le (sb.trans sb2)) e3 fun F3 H3 vs sb3 st3 rs hl => ?_
        exact k F3 H3 (v :: vs) ((sb.trans sb2).trans sb3) st3 (RepL.cons (Rep.le sb3.rd y v r) rs) (by simp [hl])
def gLst (gs : GXs) : GX := fun c fs => (gs c fs).map fun ds => .own (.lst ds)
def gTup (gs : GXs) : GX := fun c fs => (gs c fs).map fun ds => .val (.tuple ds)
theorem pxe_lst {es : List Expr} {gs : GXs} {n : Nat} {pos : Pos} (h : PXs X a cls d i n es gs) (hz : n ≤ sizeLine := by show _ ≤ _; decide) : PXe X a cls d i (.List es pos) (gLst gs) := by
  obtain ⟨t, p, q⟩ := h.ex
  refine ⟨_, pe_lst p, ?_⟩
  intro P F H σ ρ Q c fs o st ex hg k
  unfold gLst at hg
  cases e1 : gs c fs with
  | none => rw [e1] at hg; cases hg
  | some ds =>
    rw [e1] at hg; cases hg
    refine q P F H σ ρ _ c fs ds st ex e1 fun F1 H1 vs sb st1 r hl => ⟨by rw [r.length, hl]; exact hz, fun p np => ?_⟩
    exact Kont.newL (Kont.le sb k) st1 r p np
theorem pxe_tup {es : List Expr} {gs : GXs} {n x1 : Nat} {pos : Pos} (h : PXs X a cls d i n es gs) (hz : n ≤ sizeLine := by show _ ≤ _; decide) : PXe X a cls d i (.Tuple es x1 pos) (gTup gs) := by
  obtain ⟨t, p, q⟩ := h.ex
  refine ⟨_, pe_tup p, ?_⟩
  intro P F H σ ρ Q c fs o st ex hg k
  unfold gTup at hg
  cases e1 : gs c fs with
  | none => rw [e1] at hg; cases hg
  | some ds =>
    rw [e1] at hg; cases hg
    refine q P F H σ ρ _ c fs ds st ex e1 fun F1 H1 vs sb st1 r hl => ⟨by rw [r.length, hl]; exact hz, fun p np => ?_⟩
    exact Kont.newT (Kont.le sb k) st1 r p np
/-! isinstance(e, C) -/
/-- what the table of classes says: whether instances of the class named c are instances of cv -/
structure IsaD (K : PySem.W.Frag) (mg : Str → Option Value) (cv : Value) (m : Str → Option Bool) : Prop where
  ex : ∀ (c : Str) (b : Bool), m c = some b → ∃ C : Addr, mg c = some (.ref C) ∧ ExcC K C ∧ (PySem.W.clsIn K C).isSome = true ∧ PySem.W.kitOne K (.ref C) cv = some b
def gIsa (m : Str → Option Bool) : GX := fun c _ => (m c).map fun b => .val (.bool b)
def rIsX (K : PySem.W.Frag) (mg : Str → Option Value) (a : Addr) (cls : Value) (d : Option Addr) (cv : Value) (m : Str → Option Bool) : List V → Hp → VK → Prop := fun xs H Q => ∃ (c : V) (F : Hp) (nm : Str) (b : Bool) (C dd : Addr) (vs : List (Str × V)), xs = [.ref a, c] ∧ (∀ u, RelV c u → u = cv) ∧ cls = .ref C ∧ d = some dd ∧ mg nm = some (.ref C) ∧ H dd = some (.xd vs) ∧ m nm = some b ∧ Q (.bl b) H
theorem call_isX {oe : Obj} {pn : List (Addr × Obj)} {cv : Value} {m : Str → Option Bool} (T : IsaD X.K X.mg cv m) (hz : Zc cls d oe) (hf : ∃ vs, oe.data = .fields vs) :
    CallR (X.suite a ((a, oe) :: pn)) (.builtin "isinstance") (rIsX X.K X.mg a cls d cv m) := by
  intro pins s σ H xs us Q I r h
  obtain ⟨c, F, nm, b, C, dd, vs, rfl, hcv, rfl, rfl, hm, hdd, hb, q⟩ := h
  cases r with
  | cons rx rr =>
    cases rr with
    | cons rt rr =>
      cases rr
      cases rx
      have ec := hcv _ rt
      subst ec
      obtain ⟨C', hm', E, hc, ek⟩ := T.ex nm b hb
      rw [hm] at hm'; cases hm'
      obtain ⟨hget, _⟩ := I.pin (a, oe) (List.mem_append.mpr (.inl List.mem_cons_self))
      obtain ⟨vs', hv⟩ := hf
      have hx : ObjOk X.prog X.w H s.heap dd (.xd vs) := I.hok dd _ hdd
      obtain ⟨mA, hns, hr⟩ := hx
      obtain ⟨od, ho, hl⟩ := lookIn_ns hns
      have J : PySem.W.InstAt s.heap a oe C (some od) := ⟨hget, hz.1, by unfold PySem.W.notCls; rw [hv] <;> rfl, by rw [hz.2]; exact ho⟩
      exact PySem.W.kia_one (PySem.W.kitx_exc hc E.hg E.hk E.hs E.ha E.hn E.ht E.hm) I.kIn J ek (fun z => nomatch z) fun tk => ⟨.bl b, H, I.kept (t' := tk) fun _ _ z => z, rfl, q⟩
theorem pxe_isa {n x2 : Str} {C2 : Addr} {oe : Obj} {pn : List (Addr × Obj)} {p p1 p2 pos : Pos} {m : Str → Option Bool} (T : IsaD X.K X.mg (.ref C2) m) (hm2 : X.mg x2 = some (.ref C2)) (hg2 : Gl X x2) (hm : X.mg "isinstance" = none) (hg : Gl X "isinstance") (hz : Zc cls d oe) (hf : ∃ vs, oe.data = .fields vs) (hN : X.N[i]? = some n) (hv : Vis X.env.scope n)
    (hs : starEach [.Name n p1, .Name x2 p2] X.env = (false, eval (.Name n p1) X.env) :: starEach [.Name x2 p2] X.env := by rfl) (hs2 : starEach [.Name x2 p2] X.env = (false, eval (.Name x2 p2) X.env) :: starEach [] X.env := by rfl) (hpl : (backTo pos (starEach [.Name x2 p2] X.env)).any (·.1) = false := by rfl)
    (hdb : (n == ("__debug__" : Str)) = false := by decide) (hcd : (n == ("__classdict__" : Str)) = false := by decide) (hdb2 : (x2 == ("__debug__" : Str)) = false := by decide) :
    PXe (X.suite a ((a, oe) :: pn)) a cls d i (.Call (.Name "isinstance" p) [.Name n p1, .Name x2 p2] [] pos) (gIsa m) := by
  have pa : PA (X.suite a ((a, oe) :: pn)) [.Name n p1, .Name x2 p2] (tCons (tVar i) (tCons (tC (.ref C2)) tNil)) := pa_cons (pe_var hN hv hdb hcd) (pa_cons (pe_glob (X := X.suite a ((a, oe) :: pn)) hg2 hm2 rfl hdb2) pa_nil hs2) hs
  refine ⟨_, pe_callB (call_isX T hz hf) hg hm PyProof.Rows.Boot.isinstance pa (by decide) (by decide) hs hpl, ?_⟩
  intro P F H σ ρ Q c fs o st ex hgg k
  obtain ⟨h1, C', dd, e1, e2, mm, vs, hfd, r⟩ := ex
  unfold gIsa at hgg
  cases q : m c with
  | none => rw [q] at hgg; cases hgg
  | some b =>
    rw [q] at hgg; cases hgg
    exact ⟨.ref a, h1, .ref C2, F, c, b, C', dd, vs, rfl, fun u hu => hu, e1, e2, mm, st.sub _ _ hfd, q, k F H _ (SubH.refl F) st (OutOk.val mk_bool)⟩
def gAnd (g h : GX) : GX := fun c fs => match g c fs with
  | some (.val (.bool true)) => h c fs
  | some (.val (.bool false)) => some (.val (.bool false))
  | _ => none
theorem pxe_one {op : BoolOp} {e : Expr} {g : GX} {pos : Pos} (h : PXe X a cls d i e g) : PXe X a cls d i (.BoolOp op [e] pos) g := by
  obtain ⟨t, p, q⟩ := h.ex
  exact ⟨_, pe_one p, q⟩
theorem pxe_and {e e2 : Expr} {rest : List Expr} {g h : GX} {pos : Pos} (h1 : PXe X a cls d i e g) (h2 : PXe X a cls d i (.BoolOp .And (e2 :: rest) pos) h) : PXe X a cls d i (.BoolOp .And (e :: e2 :: rest) pos) (gAnd g h) := by
  obtain ⟨t, p, q⟩ := h1.ex
  obtain ⟨u, p2, q2⟩ := h2.ex
  refine ⟨_, pe_and p p2, ?_⟩
  intro P F H σ ρ Q c fs o st ex hg k
  unfold gAnd at hg
  split at hg
  · rename_i e1
    refine q P F H σ ρ _ c fs _ st ex e1 fun F1 H1 v sb st1 x => ⟨true, rep_bool x.rep, ?_⟩
    exact q2 P F1 H1 σ ρ _ c fs _ st1 (ex.le sb) hg (Kont.le sb k)
  · rename_i e1
    cases hg
    exact q P F H σ ρ _ c fs _ st ex e1 fun F1 H1 v sb st1 x => ⟨false, rep_bool x.rep, k F1 H1 _ sb st1 (OutOk.val mk_bool)⟩
  · cases hg
def gIf (g h1 h2 : GX) : GX := fun c fs => match g c fs with
  | some (.val (.bool b)) => if b = true then h1 c fs else h2 c fs
  | _ => none
theorem pxe_if {e e1 e2 : Expr} {g h1 h2 : GX} {pos : Pos} (h : PXe X a cls d i e g) (ha : PXe X a cls d i e1 h1) (hb : PXe X a cls d i e2 h2) (he : ∀ whole, isTrue e X.env whole = (do let v ← whole; standAt e.pos; holding [v] (truthy v)) := by intro _; rfl) : PXe X a cls d i (.IfExp e e1 e2 pos) (gIf g h1 h2) := by
  obtain ⟨t, p, q⟩ := h.ex
  obtain ⟨t1, p1, q1⟩ := ha.ex
  obtain ⟨t2, p2, q2⟩ := hb.ex
  refine ⟨_, pe_ifExp (pt_truth p he) p1 p2, ?_⟩
  intro P F H σ ρ Q c fs o st ex hg k
  unfold gIf at hg
  split at hg
  · rename_i b eb
    refine q P F H σ ρ _ c fs _ st ex eb fun F1 H1 v sb st1 x => ⟨b, by rw [rep_bool x.rep]; exact rfl, ?_⟩
    cases b with
    | true => exact q1 P F1 H1 σ ρ _ c fs _ st1 (ex.le sb) hg (Kont.le sb k)
    | false => exact q2 P F1 H1 σ ρ _ c fs _ st1 (ex.le sb) hg (Kont.le sb k)
  · cases hg
end

/-! ### the statement -/
structure Hd where
  m : Str → Option Bool
  s : Str → List (Str × D) → Env → SR
def handleD : List Hd → Str → List (Str × D) → Env → SR
  | [], c, fs, ρ => .exc c fs ρ
  | h :: hs, c, fs, ρ => match h.m c with
    | some true => h.s c fs ρ
    | some false => handleD hs c fs ρ
    | none => .bad
def sTry (hs : List Hd) (body : SX) : SX := fun ρ => match body ρ with
  | .exc c fs ρ1 => handleD hs c fs ρ1
  | r => r
def hdNo (m : Str → Option Bool) (f : SX) : Hd := ⟨m, fun _ _ ρ => match f ρ with
  | .exc _ _ _ => .bad
  | r => r⟩
def hdAs (m : Str → Option Bool) (i : Nat) (g : GX) : Hd := ⟨m, fun c fs ρ => match setSl i .emp ρ with
  | some ρ' => (match g c fs with | some o => .ret o ρ' | none => .bad)
  | none => .bad⟩
structure MatchD (K : PySem.W.Frag) (mg : Str → Option Value) (cv : Value) (m : Str → Option Bool) : Prop where
  ok : ∀ (c : Str) (b : Bool), m c = some b → ∀ C : Addr, mg c = some (.ref C) → PySem.W.exmOne K (.ref C) cv = some b
inductive HdsD (X : Cx) : List ExceptHandler → List Hd → Prop
  | nil : HdsD X [] []
  | no {x : Str} {cv : Value} {m : Str → Option Bool} {f : SX} {b₀ : Stmt} {suite : List Stmt} {np pos' : Pos} {hds : List ExceptHandler} {l : List Hd} (hc : Names X x cv) (hm : MatchD X.K X.mg cv m)
      (hsu : ∀ (a : Addr) (oe : Obj) (cls : Value) (d : Option Addr) (pn : List (Addr × Obj)), Zc cls d oe → (∃ vs, oe.data = .fields vs) → PSsD (X.suite a ((a, oe) :: pn)) WF (b₀ :: suite) f) (r : HdsD X hds l) :
      HdsD X (.ExceptHandler (some (.Name x np)) none (b₀ :: suite) pos' :: hds) (hdNo m f :: l)
  | as {x n : Str} {i : Nat} {cv : Value} {m : Str → Option Bool} {e : Expr} {g : GX} {np p2 pos' : Pos} {hds : List ExceptHandler} {l : List Hd} (hN : X.N.Nodup) (hi : X.N[i]? = some n) (hln : X.env.kindOf n = some .local) (hc : Names X x cv) (hm : MatchD X.K X.mg cv m)
      (hsu : ∀ (a : Addr) (oe : Obj) (cls : Value) (d : Option Addr) (pn : List (Addr × Obj)), Zc cls d oe → (∃ vs, oe.data = .fields vs) → PXe (X.suite a ((a, oe) :: pn)) a cls d i e g) (r : HdsD X hds l) :
      HdsD X (.ExceptHandler (some (.Name x np)) (some n) [.Return (some e) p2] pos' :: hds) (hdAs m i g :: l)
def tsD (K : PySem.W.Frag) (mg : Str → Option Value) (W : WX) (f : SX) : TS := fun D σ H => ∃ P F ρ, Stt K mg P F H σ ρ ∧ PostS K mg W P F (f ρ) D
theorem PSsD.toPSs {X : Cx} {W : WX} {l : List Stmt} {f : SX} (p : PSsD X W l f) : PSs X l (tsD X.K X.mg W f) := by
  obtain ⟨t, ps, ds⟩ := p.ex
  exact ⟨fun pins s σ H D I ⟨P, F, ρ, st, h⟩ => ps.run pins s σ H D I (ds P F H σ ρ D st h)⟩
def txD (K : PySem.W.Frag) (mg : Str → Option Value) (i : Nat) (g : GX) (a : Addr) (cls : Value) (d : Option Addr) : TS := fun D σ H => ∃ P F ρ c fs o, Stt K mg P F H σ ρ ∧ ExAt K mg F σ a cls d i c fs ∧ g c fs = some o ∧
  Kont K mg P F σ ρ o D.rt
theorem hds_ok {X : Cx} {hds : List ExceptHandler} {hs : List Hd} (h : HdsD X hds hs) : ∃ l, HdsA X hds l ∧ ∀ (Wout : WX) (En : Ends) (P : Prot) (F H : Hp) (σ : SS) (ρ : Env) (c : Str) (fs : List (Str × D)) (C dd : Addr), Stt X.K X.mg P F H σ ρ → ExcOk X.K X.mg F C dd c fs →
    PostS X.K X.mg Wout P F (handleD hs c fs ρ) En → wManyA X.K Wout En l (.ref C) (some dd) σ H := by
  induction h with
  | nil => exact ⟨[], .nil, fun Wout D P F H σ ρ c fs C dd st ex h => h F H σ C dd (SubH.refl F) st ex⟩
  | @no x cv m f b₀ suite np pos' hds l hc hm hsu r ih =>
    obtain ⟨l', hl, ih⟩ := ih
    refine ⟨_, .no (ts := fun _ _ _ => tsD X.K X.mg WF f) hc (fun a oe cls d pn hz hf => (hsu a oe cls d pn hz hf).toPSs) hl, fun Wout D P F H σ ρ c fs C dd st ex h => ?_⟩
    simp only [handleD, hdNo] at h
    cases e : m c with
    | none => simp only [e] at h; exact h.elim
    | some b =>
      refine ⟨b, hm.ok c b e C ex.1, fun eb a na => ?_, fun eb => ?_⟩
      · subst eb
        simp only [e] at h
        refine ⟨P, F, ρ, st, ?_⟩
        cases w : f ρ with
        | bad => simp only [w] at h; exact h
        | nx ρ' => simp only [w] at h; exact h
        | ret o ρ' => simp only [w] at h; exact h
        | brk ρ' => simp only [w] at h; exact h
        | ct ρ' => simp only [w] at h; exact h
        | exc c' fs' ρ' => simp only [w] at h; exact h.elim
      · subst eb
        simp only [e] at h
        exact ih Wout D P F H σ ρ c fs C dd st ex h
  | @as x n i cv m e g np p2 pos' hds l hN hi hln hc hm hsu r ih =>
    obtain ⟨l', hl, ih⟩ := ih
    refine ⟨_, .as (ts := txD X.K X.mg i g) hN hi hln hc (fun a oe cls d pn hz hf => ?_) hl, fun Wout D P F H σ ρ c fs C dd st ex h => ?_⟩
    · obtain ⟨t, pe, dx⟩ := (hsu a oe cls d pn hz hf).ex
      exact ⟨fun pins s σ H D I ⟨P, F, ρ, c, fs, o, st, ex, hg, k⟩ => (pss_one (ps_ret (pos := p2) pe)).run pins s σ H D I (dx P F H σ ρ _ c fs o st ex hg k)⟩
    · simp only [handleD, hdAs] at h
      cases e : m c with
      | none => simp only [e] at h; exact h.elim
      | some b =>
        refine ⟨b, hm.ok c b e C ex.1, fun eb a na => ?_, fun eb => ?_⟩
        · subst eb
          simp only [e] at h
          cases e1 : setSl i .emp ρ with
          | none => simp only [e1] at h; exact h.elim
          | some ρ' =>
            simp only [e1] at h
            cases e2 : g c fs with
            | none => simp only [e2] at h; exact h.elim
            | some o =>
              simp only [e2] at h
              have st' : Stt X.K X.mg P F H (σ.set i (some (.ref a))) ρ' := st.store (s := .emp) rfl trivial (fun z => by cases z) e1
              refine ⟨P, F, ρ', c, fs, o, st', ⟨?_, C, dd, rfl, rfl, ex⟩, e2, fun F' H' v sb st2 x => h F' H' _ v sb st2 x⟩
              have hi' : i < σ.length := by
                rw [st.len]
                unfold setSl at e1
                rcases Nat.lt_or_ge i ρ.length with z | z
                · exact z
                · rw [List.getElem?_eq_none z] at e1; cases e1
              exact List.getElem?_set_self hi'
        · subst eb
          simp only [e] at h
          exact ih Wout D P F H σ ρ c fs C dd st ex h
theorem psd_try {X : Cx} {Wout : WX} {body : List Stmt} {h₀ : ExceptHandler} {hds : List ExceptHandler} {hs : List Hd} {fb : SX} {pos : Pos} (tk : Takes X Wout)
    (hb : ∀ (W : WX) (pn : List (Addr × Obj)) (xe : Value → Shared → Prop), Takes (X.tr pn xe) W → PassesOwn (model X.prog X.w) X.A X.env xe → PSsD (X.tr pn xe) W body fb)
    (hh : HdsD X (h₀ :: hds) hs) (hst : X.stack = X.env :: X.outer := by rfl) (hf : X.env.frame = some X.env.locals := by rfl) : PSD X Wout (.Try body (h₀ :: hds) [] [] pos) (sTry hs fb) := by
  obtain ⟨l, ha, hl⟩ := hds_ok hh
  refine ⟨_, ps_try_manyA (tb := fun W => tsD X.K X.mg W fb) hst hf tk (fun W pn xe t p => (hb W pn xe t p).toPSs) ha, ?_⟩
  intro P F H σ ρ D st hp
  refine ⟨P, F, ρ, st, ?_⟩
  unfold sTry at hp
  cases e : fb ρ with
  | bad => simp only [e] at hp; exact hp
  | nx ρ' => simp only [e] at hp; exact hp
  | ret o ρ' => simp only [e] at hp; exact hp
  | brk ρ' => simp only [e] at hp; exact hp
  | ct ρ' => simp only [e] at hp; exact hp
  | exc c fs ρ' =>
    simp only [e] at hp
    intro F1 H1 σ1 C dd sb st1 ex
    exact hl Wout D P F1 H1 σ1 ρ' c fs C dd st1 ex (PostS.le sb hp)
end Dk

set_option Elab.async false
set_option linter.all false
set_option maxRecDepth 100000
set_option maxHeartbeats 4000000
/-! Dk12: built-ins by data -/
namespace Dk
open PySem PySem.Spec L2 PyProof.Rows

/-! ### types -/
def tyD : D → String
  | .none => "NoneType"
  | .bool _ => "bool"
  | .int _ => "int"
  | .str _ => "str"
  | .list _ => "list"
  | .tuple _ => "tuple"
  | .dict _ => "dict"
  | .dictT _ => "dict"
  | .tag _ d => tyD d
inductive Ty where
  | bool | int | str | list | tuple | dict
def Ty.nm : Ty → String
  | .bool => "bool"
  | .int => "int"
  | .str => "str"
  | .list => "list"
  | .tuple => "tuple"
  | .dict => "dict"
/-- d is an instance of T (d without a tag) -/
def isT : Ty → D → Bool
  | .bool, .bool _ => true
  | .int, .bool _ => true
  | .int, .int _ => true
  | .str, .str _ => true
  | .list, .list _ => true
  | .tuple, .tuple _ => true
  | .dict, .dict _ => true
  | .dict, .dictT _ => true
  | _, _ => false
def isTs (ts : List Ty) (d : D) : Bool := ts.any fun t => isT t d
theorem kit6 (T : Ty) (d : D) (h : ∀ a e, d ≠ .tag a e) : kitB (tyD d) T.nm = some (isT T d) := by
  cases d with
  | tag a e => exact absurd rfl (h a e)
  | none => cases T <;> decide +kernel
  | bool b =>
    rw [show isT T (.bool b) = isT T (.bool true) from by cases T <;> rfl]
    cases T <;> (show kitB "bool" _ = some _) <;> decide +kernel
  | int b =>
    rw [show isT T (.int b) = isT T (.int 0) from by cases T <;> rfl]
    cases T <;> (show kitB "int" _ = some _) <;> decide +kernel
  | str b =>
    rw [show isT T (.str b) = isT T (.str ⟨#[]⟩) from by cases T <;> rfl]
    cases T <;> (show kitB "str" _ = some _) <;> decide +kernel
  | list b =>
    rw [show isT T (.list b) = isT T (.list []) from by cases T <;> rfl]
    cases T <;> (show kitB "list" _ = some _) <;> decide +kernel
  | tuple b =>
    rw [show isT T (.tuple b) = isT T (.tuple []) from by cases T <;> rfl]
    cases T <;> (show kitB "tuple" _ = some _) <;> decide +kernel
  | dict b =>
    rw [show isT T (.dict b) = isT T (.dict []) from by cases T <;> rfl]
    cases T <;> (show kitB "dict" _ = some _) <;> decide +kernel
  | dictT b =>
    rw [show isT T (.dictT b) = isT T (.dict []) from by cases T <;> rfl]
    cases T <;> (show kitB "dict" _ = some _) <;> decide +kernel
theorem un_ne_tag : ∀ (d : D) (a : Addr) (e : D), d.un ≠ .tag a e
  | .tag _ d, a, e => un_ne_tag d a e
  | .none, _, _ => by intro h; cases h
  | .bool _, _, _ => by intro h; cases h
  | .int _, _, _ => by intro h; cases h
  | .str _, _, _ => by intro h; cases h
  | .list _, _, _ => by intro h; cases h
  | .tuple _, _, _ => by intro h; cases h
  | .dict _, _, _ => by intro h; cases h
  | .dictT _, _, _ => by intro h; cases h
section
variable {K : PySem.W.Frag} {mg : Str → Option Value} {W : WX} {P : Prot} {F H : Hp} {σ : SS} {ρ : Env}
theorem sqL_ty {a : Addr} {xs : List V} (s : SqL K H a xs) : TyX K H (.ref a) (.type "list") := by
  rcases s with (s | ⟨o, s⟩) | ⟨o, its, n, h1, h2, _⟩
  · exact .base (.lst s)
  · exact .base (.frz s)
  · exact .kList h1 h2
theorem sqT_ty {a : Addr} {xs : List V} (s : SqT K H a xs) : TyX K H (.ref a) (.type "tuple") := by
  rcases s with (s | ⟨o, s⟩) | ⟨o, its, n, h1, h2, _⟩
  · exact .base (.tup s)
  · exact .fTuple s
  · exact .kTuple h1 h2
theorem rep_ty (sb : SubH F H) {d : D} {v : V} (h : ∀ a e, d ≠ .tag a e) (r : Rep K F d v) : TyX K H v (.type (tyD d)) := by
  cases d with
  | tag a e => exact absurd rfl (h a e)
  | none => rw [rep_none r]; exact .base .non
  | bool b => rw [rep_bool r]; exact .base (.bl b)
  | int b => rw [rep_int r]; exact .base (.int b)
  | str b => rw [rep_str r]; exact .base (.str b)
  | list b => obtain ⟨a, vs, rfl, s, _⟩ := rep_list r; exact sqL_ty (SqL.le sb.rd s)
  | tuple b => obtain ⟨a, vs, rfl, s, _⟩ := rep_tup r; exact sqT_ty (SqT.le sb.rd s)
  | dict b =>
    unfold Rep at r
    obtain ⟨a, ks, rfl, r, _⟩ := r
    exact .base (.dK (sb _ _ r))
  | dictT b =>
    unfold Rep at r
    obtain ⟨a, ks, rfl, r, _⟩ := r
    exact .base (.dT (sb _ _ r))
def eIsi (ts : List Ty) (f : EX) : EX := fun ρ => (f ρ).bindV fun d ρ1 => .ok (.val (.bool (isTs ts d.un))) ρ1
theorem boot6 (T : Ty) : bootBuiltins (Str.ofString T.nm) = some (.type T.nm) := by
  cases T
  · exact PyProof.Rows.Boot.bool
  · exact PyProof.Rows.Boot.int
  · exact PyProof.Rows.Boot.str
  · exact PyProof.Rows.Boot.list
  · exact PyProof.Rows.Boot.tuple
  · exact PyProof.Rows.Boot.dict
theorem nm_ok (T : Ty) : (Str.ofString T.nm) ≠ "__name__" ∧ ((Str.ofString T.nm) == ("__debug__" : Str)) = false := by cases T <;> exact ⟨by decide, by decide⟩
end
section
variable {X : Cx} {W : WX} {e : Expr} {p p1 p2 p3 pos : Pos} {f : EX}
theorem pd_isi1 (T : Ty) (he : PD X W e f) (hm : X.mg "isinstance" = none) (hmT : X.mg (Str.ofString T.nm) = none) (hg : Gl X "isinstance" := by rfl) (hgT : Gl X (Str.ofString T.nm) := by rfl)
    (hs : starEach [e, .Name (Str.ofString T.nm) p1] X.env = (false, eval e X.env) :: starEach [.Name (Str.ofString T.nm) p1] X.env := by rfl) (hs2 : starEach [.Name (Str.ofString T.nm) p1] X.env = (false, eval (.Name (Str.ofString T.nm) p1) X.env) :: starEach [] X.env := by rfl)
    (hpl : (backTo pos (starEach [.Name (Str.ofString T.nm) p1] X.env)).any (·.1) = false := by rfl) : PD X W (.Call (.Name "isinstance" p) [e, .Name (Str.ofString T.nm) p1] [] pos) (eIsi [T] f) := by
  obtain ⟨te, pe, de⟩ := he.ex
  obtain ⟨n1, n2⟩ := nm_ok T
  refine ⟨_, pe_callB call_isi hg hm PyProof.Rows.Boot.isinstance (pa_cons pe (pa_cons (pe_bltn (v := .ty T.nm) hgT hmT (boot6 T) rfl n1 n2) pa_nil hs2) hs) (by decide) (by decide) hs hpl, ?_⟩
  intro P F H σ ρ Q st hp
  refine de.bindV st hp fun F1 H1 d ρ1 v sb st1 r h1 => ?_
  have nt := un_ne_tag d
  exact ⟨v, .ty T.nm, _, _, _, rfl, .ty T.nm, rep_ty st1.sub nt r.un, kit_ty (kit6 T _ nt), h1 F1 H1 _ (SubH.refl _) st1 (OutOk.val (by simp only [isTs, List.any_cons, List.any_nil, Bool.or_false]; exact mk_bool))⟩
theorem kitAny2 {K : PySem.W.Frag} (T S : Ty) (d : D) (h : ∀ a e, d ≠ .tag a e) : PySem.W.kitAny K (.type (tyD d)) [.type T.nm, .type S.nm] = some (isTs [T, S] d) := by
  refine kitAny_cons (kit_ty (kit6 T d h)) (fun e => ?_) fun e => by simp [isTs, e]
  refine kitAny_cons (kit_ty (kit6 S d h)) (fun e2 => ?_) fun e2 => by simp [isTs, e2]
  rw [kitAny_nil]
  simp [isTs, e, e2]
/-- isinstance(e, (T, S)) -/
theorem pd_isi2 {n : Nat} (T S : Ty) (he : PD X W e f) (hm : X.mg "isinstance" = none) (hmT : X.mg (Str.ofString T.nm) = none) (hmS : X.mg (Str.ofString S.nm) = none) (hg : Gl X "isinstance" := by rfl) (hgT : Gl X (Str.ofString T.nm) := by rfl) (hgS : Gl X (Str.ofString S.nm) := by rfl)
    (hs : starEach [e, .Tuple [.Name (Str.ofString T.nm) p1, .Name (Str.ofString S.nm) p2] n p3] X.env = (false, eval e X.env) :: starEach [.Tuple [.Name (Str.ofString T.nm) p1, .Name (Str.ofString S.nm) p2] n p3] X.env := by rfl)
    (hs2 : starEach [.Tuple [.Name (Str.ofString T.nm) p1, .Name (Str.ofString S.nm) p2] n p3] X.env = (false, eval (.Tuple [.Name (Str.ofString T.nm) p1, .Name (Str.ofString S.nm) p2] n p3) X.env) :: starEach [] X.env := by rfl)
    (hs3 : starEach [.Name (Str.ofString T.nm) p1, .Name (Str.ofString S.nm) p2] X.env = (false, eval (.Name (Str.ofString T.nm) p1) X.env) :: starEach [.Name (Str.ofString S.nm) p2] X.env := by rfl)
    (hs4 : starEach [.Name (Str.ofString S.nm) p2] X.env = (false, eval (.Name (Str.ofString S.nm) p2) X.env) :: starEach [] X.env := by rfl)
    (hpl : (backTo pos (starEach [.Tuple [.Name (Str.ofString T.nm) p1, .Name (Str.ofString S.nm) p2] n p3] X.env)).any (·.1) = false := by rfl) :
    PD X W (.Call (.Name "isinstance" p) [e, .Tuple [.Name (Str.ofString T.nm) p1, .Name (Str.ofString S.nm) p2] n p3] [] pos) (eIsi [T, S] f) := by
  obtain ⟨te, pe, de⟩ := he.ex
  obtain ⟨n1, n2⟩ := nm_ok T
  obtain ⟨n3, n4⟩ := nm_ok S
  have pt := pe_tup (x1 := n) (pos := p3) (pa_cons (pe_bltn (pos := p1) (v := .ty T.nm) hgT hmT (boot6 T) rfl n1 n2) (pa_cons (pe_bltn (pos := p2) (v := .ty S.nm) hgS hmS (boot6 S) rfl n3 n4) pa_nil hs4) hs3)
  refine ⟨_, pe_callB call_isiT hg hm PyProof.Rows.Boot.isinstance (pa_cons pe (pa_cons pt pa_nil hs2) hs) (by decide) (by decide) hs hpl, ?_⟩
  intro P F H σ ρ Q st hp
  refine de.bindV st hp fun F1 H1 d ρ1 v sb st1 r h1 => ?_
  have nt := un_ne_tag d
  refine ⟨by show 2 ≤ sizeLine; decide, fun q nq => ?_⟩
  have st2 : Stt X.K X.mg P F1 (upd H1 q (.tup [.ty T.nm, .ty S.nm])) σ ρ1 := st1.alloc nq
  exact ⟨v, q, _, _, _, _, rfl, upd_same, .cons (.ty T.nm) (.cons (.ty S.nm) .nil), rep_ty st2.sub nt r.un, kitAny2 T S _ nt, h1 F1 _ _ (SubH.refl _) st2 (OutOk.val mk_bool)⟩
end

/-! ### len, int, abs, sum, all, list, tuple, min, max -/
def lenD : List D → Option Sl
  | [.list ds] => some (.val (.int ds.length))
  | [.tuple ds] => some (.val (.int ds.length))
  | [.str x] => if x.length ≤ sizeLine then some (.val (.int x.length)) else none
  | [.dict kvs] => some (.val (.int kvs.length))
  | [.dictT kvs] => some (.val (.int kvs.length))
  | _ => none
theorem RepK.length {K : PySem.W.Frag} {F : Hp} : ∀ {kvs : List (D × D)} {ks : List (Key × V)}, RepK K F kvs ks → ks.length = kvs.length
  | [], _, r => by unfold RepK at r; subst r; rfl
  | (k, d) :: kvs, _, r => by
    unfold RepK at r
    obtain ⟨kk, v, ws, rfl, _, _, r2⟩ := r
    simp [RepK.length r2]
theorem RepT.length {K : PySem.W.Frag} {F : Hp} : ∀ {kvs : List (D × D)} {ks : List (List Key × V)}, RepT K F kvs ks → ks.length = kvs.length
  | [], _, r => by unfold RepT at r; subst r; rfl
  | (k, d) :: kvs, _, r => by
    unfold RepT at r
    obtain ⟨kk, v, ws, rfl, _, _, r2⟩ := r
    simp [RepT.length r2]
section
variable {X : Cx}
theorem clen : CallR X (.builtin "len") (rOfN X.K X.mg lenD) := by
  intro pins s σ H xs us Q I rv h
  obtain ⟨P, F, σ', ρ, ds, o, st, rs, hg, k⟩ := h
  unfold lenD at hg
  split at hg
  · cases hg
    obtain ⟨v, rfl, r⟩ := rs.one
    obtain ⟨a, vs, rfl, s1, l1⟩ := rep_list r
    exact call_len pins s σ H _ us Q I rv ⟨_, _, rfl, .inl ⟨vs, SqL.le st.sub.rd s1, rfl⟩, by rw [l1.length]; exact k.here st mk_int⟩
  · cases hg
    obtain ⟨v, rfl, r⟩ := rs.one
    obtain ⟨a, vs, rfl, s1, l1⟩ := rep_tup r
    exact call_len pins s σ H _ us Q I rv ⟨_, _, rfl, .inr ⟨vs, SqT.le st.sub.rd s1, rfl⟩, by rw [l1.length]; exact k.here st mk_int⟩
  · split at hg
    · rename_i hz
      cases hg
      obtain ⟨v, rfl, r⟩ := rs.one
      rw [rep_str r] at rv
      exact call_len pins s σ H _ us Q I rv ⟨_, _, rfl, ⟨hz, rfl⟩, k.here st mk_int⟩
    · cases hg
  · cases hg
    obtain ⟨v, rfl, r⟩ := rs.one
    unfold Rep at r
    obtain ⟨a, ks, rfl, r1, r2⟩ := r
    obtain ⟨u, rfl, ru⟩ := vals1 rv
    cases ru
    rw [← r2.length] at k
    exact d_len I (.inl (st.sub _ _ r1)) fun t s' I' => ⟨.int ks.length, H, I', ⟨t, rfl⟩, k.here st mk_int⟩
  · cases hg
    obtain ⟨v, rfl, r⟩ := rs.one
    unfold Rep at r
    obtain ⟨a, ks, rfl, r1, r2⟩ := r
    rw [← r2.length] at k
    exact call_len_dT pins s σ H _ us Q I rv ⟨a, ks, rfl, st.sub _ _ r1, k.here st mk_int⟩
  · cases hg
/-- one int, and the like -/
def intD : List D → Option Sl
  | [.int i] => some (.val (.int i))
  | [.bool b] => some (.val (.int (if b then 1 else 0)))
  | _ => none
theorem cint : CallR X (.type "int") (rOfN X.K X.mg intD) := by
  intro pins s σ H xs us Q I rv h
  obtain ⟨P, F, σ', ρ, ds, o, st, rs, hg, k⟩ := h
  unfold intD at hg
  split at hg
  · cases hg
    obtain ⟨v, rfl, r⟩ := rs.one
    rw [rep_int r] at rv
    exact call_int1 pins s σ H _ us Q I rv (.inl ⟨_, rfl, k.here st mk_int⟩)
  · cases hg
    obtain ⟨v, rfl, r⟩ := rs.one
    rw [rep_bool r] at rv
    exact call_int1 pins s σ H _ us Q I rv (.inr ⟨_, rfl, k.here st mk_int⟩)
  · cases hg
def absD : List D → Option Sl
  | [.int i] => some (.val (.int (if i < 0 then -i else i)))
  | _ => none
theorem cabs : CallR X (.builtin "abs") (rOfN X.K X.mg absD) := by
  intro pins s σ H xs us Q I rv h
  obtain ⟨P, F, σ', ρ, ds, o, st, rs, hg, k⟩ := h
  unfold absD at hg
  split at hg
  · cases hg
    obtain ⟨v, rfl, r⟩ := rs.one
    rw [rep_int r] at rv
    exact call_abs pins s σ H _ us Q I rv ⟨_, rfl, k.here st mk_int⟩
  · cases hg
def max2D : List D → Option Sl
  | [.int i, .int j] => some (.val (.int (if j > i then j else i)))
  | _ => none
def min2D : List D → Option Sl
  | [.int i, .int j] => some (.val (.int (if j < i then j else i)))
  | _ => none
theorem cmax2 (hc : X.calm = true) : CallR X (.builtin "max") (rOfN X.K X.mg max2D) := by
  intro pins s σ H xs us Q I rv h
  obtain ⟨P, F, σ', ρ, ds, o, st, rs, hg, k⟩ := h
  unfold max2D at hg
  split at hg
  · cases hg
    obtain ⟨v, u, rfl, r, r2⟩ := rs.two
    rw [rep_int r, rep_int r2] at rv
    exact call_max2 hc pins s σ H _ us Q I rv ⟨_, _, rfl, k.here st mk_int⟩
  · cases hg
theorem cmin2 (hc : X.calm = true) : CallR X (.builtin "min") (rOfN X.K X.mg min2D) := by
  intro pins s σ H xs us Q I rv h
  obtain ⟨P, F, σ', ρ, ds, o, st, rs, hg, k⟩ := h
  unfold min2D at hg
  split at hg
  · cases hg
    obtain ⟨v, u, rfl, r, r2⟩ := rs.two
    rw [rep_int r, rep_int r2] at rv
    exact call_min2 hc pins s σ H _ us Q I rv ⟨_, _, rfl, k.here st mk_int⟩
  · cases hg
def listD : List D → Option Sl
  | [.list ds] => some (.own (.lst ds))
  | [.tuple ds] => some (.own (.lst ds))
  | _ => none
theorem clist : CallR X (.type "list") (rOfN X.K X.mg listD) := by
  intro pins s σ H xs us Q I rv h
  obtain ⟨P, F, σ', ρ, ds, o, st, rs, hg, k⟩ := h
  unfold listD at hg
  split at hg
  · cases hg
    obtain ⟨v, rfl, r⟩ := rs.one
    obtain ⟨a, vs, rfl, s1, l1⟩ := rep_list r
    exact call_list_of pins s σ H _ us Q I rv ⟨a, vs, rfl, .inl (SqL.le st.sub.rd s1), k.newL st l1⟩
  · cases hg
    obtain ⟨v, rfl, r⟩ := rs.one
    obtain ⟨a, vs, rfl, s1, l1⟩ := rep_tup r
    exact call_list_of pins s σ H _ us Q I rv ⟨a, vs, rfl, .inr (SqT.le st.sub.rd s1), k.newL st l1⟩
  · cases hg
def tupleD : List D → Option Sl
  | [.list ds] => some (.val (.tuple ds))
  | [.tuple ds] => some (.val (.tuple ds))
  | _ => none
theorem ctuple : CallR X (.type "tuple") (rOfN X.K X.mg tupleD) := by
  intro pins s σ H xs us Q I rv h
  obtain ⟨P, F, σ', ρ, ds, o, st, rs, hg, k⟩ := h
  unfold tupleD at hg
  split at hg
  · cases hg
    obtain ⟨v, rfl, r⟩ := rs.one
    obtain ⟨a, vs, rfl, s1, l1⟩ := rep_list r
    exact call_tuple_of pins s σ H _ us Q I rv ⟨a, vs, rfl, .inl ⟨SqL.le st.sub.rd s1, k.newT st l1⟩⟩
  · cases hg
    obtain ⟨v, rfl, r⟩ := rs.one
    obtain ⟨a, vs, rfl, s1, l1⟩ := rep_tup r
    exact call_tuple_of pins s σ H _ us Q I rv ⟨a, vs, rfl, .inr ⟨SqT.le st.sub.rd s1, k.here st (mk_tup s1 l1)⟩⟩
  · cases hg
/-! all, any of lists of bools; sum of lists of ints -/
def boolsOf : List D → Option (List Bool)
  | [] => some []
  | .bool b :: ds => (boolsOf ds).map (b :: ·)
  | _ => none
def intsOf : List D → Option (List Int)
  | [] => some []
  | .int b :: ds => (intsOf ds).map (b :: ·)
  | _ => none
def allD : List D → Option Sl
  | [.list ds] => (boolsOf ds).map fun bs => .val (.bool (bs.all id))
  | _ => none
def anyD : List D → Option Sl
  | [.list ds] => (boolsOf ds).map fun bs => .val (.bool (bs.any id))
  | _ => none
def sumD : List D → Option Sl
  | [.list ds] => (intsOf ds).map fun bs => .val (.int bs.sum)
  | [.tuple ds] => (intsOf ds).map fun bs => .val (.int bs.sum)
  | _ => none
theorem boolsOf_vals {F : Hp} : ∀ {ds : List D} {bs : List Bool} {vs : List V}, boolsOf ds = some bs → RepL X.K F ds vs → vs = bs.map V.bl
  | [], bs, vs, h, r => by cases h; rw [r.zero]; rfl
  | .bool b :: ds, bs, vs, h, r => by
    simp only [boolsOf] at h
    cases e : boolsOf ds with
    | none => rw [e] at h; cases h
    | some cs =>
      rw [e] at h; cases h
      unfold RepL at r
      obtain ⟨v, ws, rfl, r1, r2⟩ := r
      rw [rep_bool r1, boolsOf_vals e r2]; rfl
  | .none :: ds, bs, vs, h, r => by cases h
  | .int _ :: ds, bs, vs, h, r => by cases h
  | .str _ :: ds, bs, vs, h, r => by cases h
  | .list _ :: ds, bs, vs, h, r => by cases h
  | .tuple _ :: ds, bs, vs, h, r => by cases h
  | .dict _ :: ds, bs, vs, h, r => by cases h
  | .dictT _ :: ds, bs, vs, h, r => by cases h
  | .tag _ _ :: ds, bs, vs, h, r => by cases h
theorem intsOf_vals {F : Hp} : ∀ {ds : List D} {bs : List Int} {vs : List V}, intsOf ds = some bs → RepL X.K F ds vs → vs = bs.map V.int
  | [], bs, vs, h, r => by cases h; rw [r.zero]; rfl
  | .int b :: ds, bs, vs, h, r => by
    simp only [intsOf] at h
    cases e : intsOf ds with
    | none => rw [e] at h; cases h
    | some cs =>
      rw [e] at h; cases h
      unfold RepL at r
      obtain ⟨v, ws, rfl, r1, r2⟩ := r
      rw [rep_int r1, intsOf_vals e r2]; rfl
  | .none :: ds, bs, vs, h, r => by cases h
  | .bool _ :: ds, bs, vs, h, r => by cases h
  | .str _ :: ds, bs, vs, h, r => by cases h
  | .list _ :: ds, bs, vs, h, r => by cases h
  | .tuple _ :: ds, bs, vs, h, r => by cases h
  | .dict _ :: ds, bs, vs, h, r => by cases h
  | .dictT _ :: ds, bs, vs, h, r => by cases h
  | .tag _ _ :: ds, bs, vs, h, r => by cases h
theorem bools_reads {h : Heap} : ∀ {bs : List Bool} {its : List Value}, Vals (bs.map V.bl) its → ∃ as, ReadsAll h its (bs.map PyData.bool) as
  | [], its, r => by cases r; exact ⟨_, .nil⟩
  | b :: bs, its, r => by
    cases r with
    | cons r1 r2 =>
      cases r1
      obtain ⟨as, q⟩ := bools_reads (h := h) r2
      exact ⟨_, .cons (.bool b) q⟩
theorem ints_are : ∀ {bs : List Int} {its : List Value}, Vals (bs.map V.int) its → IntsAre its bs
  | [], its, r => by cases r; exact .nil
  | b :: bs, its, r => by
    cases r with
    | cons r1 r2 =>
      obtain ⟨t, rfl⟩ := r1
      exact .cons b t (ints_are r2)
theorem bools_plain : ∀ bs : List Bool, PyData.plainAll (bs.map PyData.bool) = true
  | [] => rfl
  | b :: bs => by simp [PyData.plainAll, PyData.plain, bools_plain bs]
theorem truthy_bools (bs : List Bool) : (bs.map PyData.bool).all PyData.truthy = bs.all id ∧ (bs.map PyData.bool).any PyData.truthy = bs.any id := by
  constructor
  · rw [List.all_map]; rfl
  · rw [List.any_map]; rfl
theorem call_all_ (hc : X.calm = true) : CallR X (.builtin "all") (rOfN X.K X.mg allD) := by
  intro pins s σ H xs us Q I rv h
  obtain ⟨P, F, σ', ρ, ds, o, st, rs, hg, k⟩ := h
  unfold allD at hg
  split at hg
  · rename_i es
    cases e : boolsOf es with
    | none => rw [e] at hg; cases hg
    | some bs =>
      rw [e] at hg; cases hg
      obtain ⟨v, rfl, r⟩ := rs.one
      obtain ⟨a, vs, rfl, s1, l1⟩ := rep_list r
      have ev := boolsOf_vals e l1
      subst ev
      obtain ⟨u, rfl, ru⟩ := vals1 rv
      cases ru
      obtain ⟨its, r', pl, hz⟩ := I.list (SqL.le st.sub.rd s1)
      obtain ⟨as, rd⟩ := bools_reads (h := s.heap) r'
      refine PySem.W.all_list_data (I.ok.hd hc) pl.isList rd (bools_plain bs) (fun x hx => ?_) fun h' tk kp => ?_
      · obtain ⟨b, _, rfl⟩ := List.mem_map.mp hx; trivial
      · rw [(truthy_bools bs).1]
        exact ⟨.bl _, H, I.kept (t' := tk) kp, rfl, k.here st mk_bool⟩
  · cases hg
theorem call_any_ (hc : X.calm = true) : CallR X (.builtin "any") (rOfN X.K X.mg anyD) := by
  intro pins s σ H xs us Q I rv h
  obtain ⟨P, F, σ', ρ, ds, o, st, rs, hg, k⟩ := h
  unfold anyD at hg
  split at hg
  · rename_i es
    cases e : boolsOf es with
    | none => rw [e] at hg; cases hg
    | some bs =>
      rw [e] at hg; cases hg
      obtain ⟨v, rfl, r⟩ := rs.one
      obtain ⟨a, vs, rfl, s1, l1⟩ := rep_list r
      have ev := boolsOf_vals e l1
      subst ev
      obtain ⟨u, rfl, ru⟩ := vals1 rv
      cases ru
      obtain ⟨its, r', pl, hz⟩ := I.list (SqL.le st.sub.rd s1)
      obtain ⟨as, rd⟩ := bools_reads (h := s.heap) r'
      refine PySem.W.any_list_data (I.ok.hd hc) pl.isList rd (bools_plain bs) (fun x hx => ?_) fun h' tk kp => ?_
      · obtain ⟨b, _, rfl⟩ := List.mem_map.mp hx; trivial
      · rw [(truthy_bools bs).2]
        exact ⟨.bl _, H, I.kept (t' := tk) kp, rfl, k.here st mk_bool⟩
  · cases hg
theorem csum (hc : X.calm = true) : CallR X (.builtin "sum") (rOfN X.K X.mg sumD) := by
  intro pins s σ H xs us Q I rv h
  obtain ⟨P, F, σ', ρ, ds, o, st, rs, hg, k⟩ := h
  unfold sumD at hg
  split at hg
  · rename_i es
    cases e : intsOf es with
    | none => rw [e] at hg; cases hg
    | some bs =>
      rw [e] at hg; cases hg
      obtain ⟨v, rfl, r⟩ := rs.one
      obtain ⟨a, vs, rfl, s1, l1⟩ := rep_list r
      have ev := intsOf_vals e l1
      subst ev
      obtain ⟨u, rfl, ru⟩ := vals1 rv
      cases ru
      obtain ⟨its, r', pl, hz⟩ := I.list (SqL.le st.sub.rd s1)
      have hi := ints_are r'
      obtain ⟨ys, hx⟩ := hi.allInts.items
      have hl' := pl.isList
      rw [hx] at hl'
      refine sum_intListG (I.ok.hd hc) hl' fun h' tk t' kp => ?_
      have e1 : bs = ys.toList.map (·.1) := by
        rw [← nums_intItems, ← hx]
        exact (show numsOf its.toArray.toList = bs from hi.numsOf).symm
      have e2 : preSum (numAt ys) ys.size = bs.sum := by
        rw [preSum_eq, List.take_of_length_le (by simp), e1]
      rw [e2]
      exact ⟨.int _, H, I.kept (t' := tk) kp, ⟨_, rfl⟩, k.here st mk_int⟩
  · rename_i es
    cases e : intsOf es with
    | none => rw [e] at hg; cases hg
    | some bs =>
      rw [e] at hg; cases hg
      obtain ⟨v, rfl, r⟩ := rs.one
      obtain ⟨a, vs, rfl, s1, l1⟩ := rep_tup r
      have ev := intsOf_vals e l1
      subst ev
      obtain ⟨u, rfl, ru⟩ := vals1 rv
      cases ru
      obtain ⟨its, r', pl, hz⟩ := I.tuple (SqT.le st.sub.rd s1)
      have hi := ints_are r'
      obtain ⟨ys, hx⟩ := hi.allInts.items
      have hl' : s.heap.IsTuple a its.toArray := pl
      rw [hx] at hl'
      refine PySem.W.ktm_sumG (I.ok.hd hc) hl' fun h' tk t' kp => ?_
      have e1 : bs = ys.toList.map (·.1) := by
        rw [← nums_intItems, ← hx]
        exact (show numsOf its.toArray.toList = bs from hi.numsOf).symm
      have e2 : preSum (numAt ys) ys.size = bs.sum := by
        rw [preSum_eq, List.take_of_length_le (by simp), e1]
      rw [e2]
      exact ⟨.int _, H, I.kept (t' := tk) kp, ⟨_, rfl⟩, k.here st mk_int⟩
  · cases hg
end
end Dk

set_option Elab.async false
set_option linter.all false
set_option maxRecDepth 100000
set_option maxHeartbeats 4000000
/-! Dk13: global data; index; items; dict displays -/
namespace Dk
open PySem PySem.Spec L2 PyProof.Rows

/-! ### data that stand in the written part -/
mutual
def chkV (K : PySem.W.Frag) : D → Value → Bool
  | .none, u => match u with | .none => true | _ => false
  | .bool b, u => match u with | .bool c => b == c | _ => false
  | .int i, u => match u with | .int j _ => i == j | _ => false
  | .str x, u => match u with | .str y _ => x == y | _ => false
  | .tuple ds, u => match u with
    | .ref a => match K.lookup a with
      | some ⟨cls, _, .seq its _, _⟩ => cls == .type "tuple" && (decide (its.size ≤ sizeLine) && chkL K ds its.toList)
      | _ => false
    | _ => false
  | .list ds, u => match u with
    | .ref a => match K.lookup a with
      | some ⟨cls, none, .seq its _, _⟩ => cls == .type "list" && (decide (its.size ≤ sizeLine) && chkL K ds its.toList)
      | _ => false
    | _ => false
  | .dict _, _ => false
  | .dictT _, _ => false
  | .tag _ _, _ => false
def chkL (K : PySem.W.Frag) : List D → List Value → Bool
  | [], us => us.isEmpty
  | d :: ds, us => match us with
    | [] => false
    | u :: us => chkV K d u && chkL K ds us
end
mutual
theorem chkV_ok {K : PySem.W.Frag} : ∀ (d : D) (u : Value), chkV K d u = true → ∃ v, RelV v u ∧ ∀ F, Rep K F d v
  | .none, u, h => by
    unfold chkV at h
    cases u <;> first | (cases h; done) | exact ⟨.non, rfl, fun F => mk_none⟩
  | .bool b, u, h => by
    unfold chkV at h
    cases u <;> first | (cases h; done) | exact ⟨.bl b, by rw [eq_of_beq h]; rfl, fun F => mk_bool⟩
  | .int b, u, h => by
    unfold chkV at h
    cases u <;> first | (cases h; done) | exact ⟨.int b, by rw [eq_of_beq h]; exact ⟨_, rfl⟩, fun F => mk_int⟩
  | .str b, u, h => by
    unfold chkV at h
    cases u <;> first | (cases h; done) | exact ⟨.str b, by rw [eq_of_beq h]; exact ⟨_, rfl⟩, fun F => mk_str⟩
  | .tuple ds, u, h => by
    unfold chkV at h
    cases u with
    | ref a =>
      simp only at h
      split at h
      · rename_i cls dd its n sl e
        simp only [Bool.and_eq_true, decide_eq_true_eq] at h
        obtain ⟨vs, r, q⟩ := chkL_ok ds its.toList h.2.2
        exact ⟨.ref a, rfl, fun F => mk_tup (.inr ⟨_, its, n, e, eq_of_beq h.1, rfl, h.2.1, r⟩) (q F)⟩
      · cases h
    | _ => cases h
  | .list ds, u, h => by
    unfold chkV at h
    cases u with
    | ref a =>
      simp only at h
      split at h
      · rename_i cls its n sl e
        simp only [Bool.and_eq_true, decide_eq_true_eq] at h
        obtain ⟨vs, r, q⟩ := chkL_ok ds its.toList h.2.2
        exact ⟨.ref a, rfl, fun F => mk_list (.inr ⟨_, its, n, e, eq_of_beq h.1, rfl, rfl, h.2.1, r⟩) (q F)⟩
      · cases h
    | _ => cases h
  | .dict _, u, h => by unfold chkV at h; cases h
  | .dictT _, u, h => by unfold chkV at h; cases h
  | .tag _ _, u, h => by unfold chkV at h; cases h
theorem chkL_ok {K : PySem.W.Frag} : ∀ (ds : List D) (us : List Value), chkL K ds us = true → ∃ vs, Vals vs us ∧ ∀ F, RepL K F ds vs
  | [], us, h => by
    unfold chkL at h
    have : us = [] := by simpa using h
    subst this
    exact ⟨[], .nil, fun F => RepL.nil⟩
  | d :: ds, us, h => by
    unfold chkL at h
    cases us with
    | nil => cases h
    | cons u us =>
      simp only [Bool.and_eq_true] at h
      obtain ⟨v, r, q⟩ := chkV_ok d u h.1
      obtain ⟨vs, r2, q2⟩ := chkL_ok ds us h.2
      exact ⟨v :: vs, .cons r r2, fun F => RepL.cons (q F) (q2 F)⟩
end
/-- the global x is the datum d -/
structure GloD (K : PySem.W.Frag) (mg : Str → Option Value) (x : Str) (d : D) : Prop where
  ex : ∃ (v : V) (u : Value), mg x = some u ∧ RelV v u ∧ ∀ F, Rep K F d v
theorem gloD_of {K : PySem.W.Frag} {mg : Str → Option Value} {x : Str} {d : D} {u : Value} (hm : mg x = some u) (h : chkV K d u = true) : GloD K mg x d := by
  obtain ⟨v, r, q⟩ := chkV_ok d u h
  exact ⟨v, u, hm, r, q⟩
section
variable {X : Cx} {W : WX} {x : Str} {d : D} {pos : Pos}
theorem pd_glob (G : GloD X.K X.mg x d) (hg : Gl X x := by rfl) (hd : (x == ("__debug__" : Str)) = false := by decide) : PD X W (.Name x pos) (eC d) := by
  obtain ⟨v, u, hm, r, q⟩ := G.ex
  exact ⟨_, pe_glob hg hm r hd, de_c q⟩
/-- a def of the text, as a value -/
theorem pd_fn {f : Addr} (hm : X.mg x = some (.ref f)) (hg : Gl X x := by rfl) (hd : (x == ("__debug__" : Str)) = false := by decide) : PD X W (.Name x pos) (fun ρ => .ok (.fn x) ρ) := by
  exact ⟨_, pe_glob (v := .ref f) hg hm rfl hd, fun P F H σ ρ Q st h => h F H (.ref f) (SubH.refl F) st ⟨⟨f, rfl, hm⟩, (by intro z; cases z), rfl, (fun z => by cases z)⟩⟩
end

/-! ### index -/
theorem find_split {α : Type} {p : α → Bool} : ∀ {xs : List α} {j : Nat}, xs.findIdx? p = some j → ∃ z, xs[j]? = some z ∧ p z = true ∧ ∀ m z', m < j → xs[m]? = some z' → p z' = false := fun {xs j} h => by
  rw [List.findIdx?_eq_some_iff_getElem] at h
  obtain ⟨hj, h1, h2⟩ := h
  refine ⟨xs[j], List.getElem?_eq_getElem hj, h1, fun m z' hm e => ?_⟩
  obtain ⟨hm', rfl⟩ := List.getElem?_eq_some_iff.mp e
  simpa using h2 m hm
/-- l.index(x), of data without dicts -/
def indexD (ds : List D) (d : D) : Option Sl := if SeqAt.shaped d.toP = true ∧ SeqAt.shaped (.list (D.toPL ds)) = true then ((D.toPL ds).findIdx? fun z => PyData.eqv z d.toP).map fun j => .val (.int (j : Nat)) else none
def eIdx (fa fb : EX) : EX := fun ρ => (fa ρ).bindV fun d ρ1 => match d.un with
  | .list ds => (fb ρ1).bindV fun e ρ2 => (match indexD ds e with | some o => .ok o ρ2 | none => .bad)
  | _ => .bad
/-- T.index(x), T a global tuple -/
def eIdxT (ds : List D) (fb : EX) : EX := fun ρ => (fb ρ).bindV fun e ρ2 => match indexD ds e with
  | some o => .ok o ρ2
  | none => .bad
section
variable {X : Cx} {W : WX} {a b : Expr} {p apos cpos : Pos} {fa fb : EX}
theorem pd_idx (hu : X.A.units + 65 < cLine) (ha : PD X W a fa) (hb : PD X W b fb)
    (hbase : attributeBase a "index" X.env (eval a X.env) = eval a X.env := by rfl)
    (hfew : ((backTo cpos (starEach [b] X.env)).all (fun x => !x.1) && (backToKw cpos (keywordEach [] X.env)).all (fun x => x.1.isSome)
      && decide ([b].length + ([] : List Keyword).length + (if ([] : List Keyword).isEmpty then 0 else 1) < 30)) = true := by rfl)
    (hline : (apos.endLine == cpos.line) = true := by rfl) (hs : starEach [b] X.env = (false, eval b X.env) :: starEach [] X.env := by rfl) (hplain : (backTo cpos (starEach [] X.env)).any (·.1) = false := by rfl) :
    PD X W (.Call (.Attribute a "index" apos) [b] [] cpos) (eIdx fa fb) := by
  obtain ⟨ta, pa, da⟩ := ha.ex
  obtain ⟨tb, pb, db⟩ := hb.ex
  refine ⟨_, pe_bm PySem.F.plainAttrs_list PySem.F.slot_list_index PySem.F.type_list_index (mt_indexD hu) pa (pa_cons pb pa_nil hs) hbase hfew hline hs hplain, ?_⟩
  intro P F H σ ρ Q st h
  refine da.bindV st h fun F1 H1 d ρ1 v sb st1 r1 h1 => ?_
  have r1u := r1.un
  cases hd : d.un with
  | list ds =>
    rw [hd] at r1u
    simp only [hd] at h1
    obtain ⟨a0, vs, rfl, s1, l1⟩ := rep_list r1u
    refine ⟨.inl ⟨rfl, vs, SqL.le st1.sub.rd s1⟩, ?_⟩
    refine db.bindV st1 h1 fun F2 H2 e ρ2 u sb2 st2 r2 h2 => ?_
    cases z : indexD ds e with
    | none => simp only [z] at h2; exact h2.elim
    | some o =>
      simp only [z] at h2
      unfold indexD at z
      split at z
      · rename_i hc
        cases z2 : (D.toPL ds).findIdx? fun z => PyData.eqv z e.toP with
        | none => rw [z2] at z; cases z
        | some j =>
          rw [z2] at z; cases z
          obtain ⟨y, hy, hye, hno⟩ := find_split z2
          refine ⟨a0, u, e.toP, D.toPL ds, j, y, rfl, rfl, ?_, Rep.dp st2.sub e u (SeqAt.canLay_of_shaped hc.1) r2, hc.2, hc.1, hy, hye, hno, h2 F2 H2 _ (SubH.refl _) st2 (OutOk.val mk_int)⟩
          exact Rep.dp st2.sub (.list ds) _ (SeqAt.canLay_of_shaped hc.2) (mk_list (SqL.le sb2.rd s1) (RepL.le sb2.rd _ _ l1))
      · cases z
  | none => simp only [hd] at h1; exact h1.elim
  | bool i => simp only [hd] at h1; exact h1.elim
  | int i => simp only [hd] at h1; exact h1.elim
  | str i => simp only [hd] at h1; exact h1.elim
  | tuple i => simp only [hd] at h1; exact h1.elim
  | dict i => simp only [hd] at h1; exact h1.elim
  | dictT i => simp only [hd] at h1; exact h1.elim
  | tag _ i => simp only [hd] at h1; exact h1.elim
/-- the written tuple T, and what its index rules ask -/
structure GTup (K : PySem.W.Frag) (mg : Str → Option Value) (x : Str) (ds : List D) : Prop where
  ex : ∃ (T : Addr) (o : Obj) (vs : List V), mg x = some (.ref T) ∧ K.lookup T = some o ∧ o.cls = .type "tuple" ∧ o.dict = none ∧ SqT K (fun _ => none) T vs ∧ ∀ F, RepL K F ds vs
theorem gtup_of {K : PySem.W.Frag} {mg : Str → Option Value} {x : Str} {ds : List D} {T : Addr} {its : Array Value} {n : Nat} {sl : Array (Option Value)} (hm : mg x = some (.ref T)) (hk : K.lookup T = some ⟨.type "tuple", none, .seq its n, sl⟩) (hz : its.size ≤ sizeLine) (h : chkL K ds its.toList = true) : GTup K mg x ds := by
  obtain ⟨vs, r, q⟩ := chkL_ok ds its.toList h
  exact ⟨T, _, vs, hm, hk, rfl, rfl, .inr ⟨_, its, n, hk, rfl, rfl, hz, r⟩, q⟩
theorem GTup.glo {K : PySem.W.Frag} {mg : Str → Option Value} {x : Str} {ds : List D} (G : GTup K mg x ds) : GloD K mg x (.tuple ds) := by
  obtain ⟨T, o, vs, hm, hk, hc, hd, hs, hr⟩ := G.ex
  refine ⟨.ref T, .ref T, hm, rfl, fun F => mk_tup ?_ (hr F)⟩
  rcases hs with (h | ⟨_, h⟩) | h
  · cases h
  · cases h
  · exact .inr h
theorem mt_tupIndexD (hu : X.A.units + 65 < cLine) : MtR X "tuple.index" (fun x xs H Q => ∃ (a : Addr) (y : V) (d : PyData) (ds : List PyData) (j : Nat), x = V.ref a ∧ xs = [y] ∧ Dp X.K H (V.ref a) (.tuple ds) ∧ Dp X.K H y d ∧
  SeqAt.shaped (.list ds) = true ∧ SeqAt.shaped d = true ∧ ds.findIdx? (fun z => PyData.eqv z d) = some j ∧ Q (.int (j : Nat)) H) := by
  intro pins s σ H x xs v us Q I rx rxs h
  obtain ⟨a, y, d, ds, j, rfl, rfl, hl, hy, sl, sd, hj, q⟩ := h
  cases rx
  cases rxs with
  | cons ry rt =>
    rename_i uy ut
    cases rt
    obtain ⟨bs, r1⟩ := Dp.reads I d y uy hy ry
    have hxs : PyData.canLayAll0 ds = true := SeqAt.canLay_of_shaped sl
    have hroom : X.A.units + 1 + min (PyData.depthAll ds) d.depth < cLine := room_in_shaped sd hu
    cases hl with
    | tup hs ha =>
      obtain ⟨its, rv, pl, hlen⟩ := I.tuple hs
      obtain ⟨as, h4⟩ := Dp.readsAll I ds _ its ha rv
      have hn : its.length = ds.length := SeqAt.ReadsAll.length ds its as h4
      have hmap : its.map (SeqAt.readOf s.heap) = ds := SeqAt.readsAll_map ds its as hxs h4
      have heq := SeqAt.items_eqAt (A := X.A) (vs := its.toArray) (show ReadsAll s.heap its.toArray.toList ds as from h4) r1 hxs (SeqAt.canLay_of_shaped sd) hroom
      have hIE : SeqAt.ItemsEq X.A.in1 s its (ds.map fun z => PyData.eqv z d) uy true := by
        refine ⟨by simp [hn], fun i h1 h2 => ?_⟩
        have e := heq its[i] (by simp)
        have e2 : SeqAt.readOf s.heap its[i] = ds[i]'(by omega) := by
          have : (its.map (SeqAt.readOf s.heap))[i]? = ds[i]? := by rw [hmap]
          rw [List.getElem?_map, List.getElem?_eq_getElem h1, List.getElem?_eq_getElem (by omega)] at this
          exact Option.some.inj this
        rw [e2] at e
        have e3 : decide ((ds.map fun z => PyData.eqv z d)[i] = true) = PyData.eqv (ds[i]'(by omega)) d := by simp
        rw [e3]; exact e
      have hidx : (ds.map fun z => PyData.eqv z d).idxOf true = j := by
        rw [List.findIdx?_eq_some_iff_getElem] at hj
        obtain ⟨hj0, hj1, hj2⟩ := hj
        have : (ds.map fun z => PyData.eqv z d).findIdx (· == true) = j := by
          rw [List.findIdx_eq (by simpa using hj0)]
          refine ⟨by simpa using hj1, fun m hm => ?_⟩
          have := hj2 m hm
          simpa using this
        exact this
      have hmem : true ∈ ds.map fun z => PyData.eqv z d := by
        rw [List.findIdx?_eq_some_iff_getElem] at hj
        obtain ⟨hj0, hj1, _⟩ := hj
        exact List.mem_map.mpr ⟨ds[j], List.getElem_mem hj0, hj1⟩
      refine SeqAt.call_tuple_index pl hIE hmem ?_
      rw [hidx]
      exact ⟨.int (j : Nat), H, I.tok _, ⟨_, rfl⟩, q⟩
theorem pd_idxT {x : Str} {ds : List D} (G : GTup X.K X.mg x ds) (hu : X.A.units + 65 < cLine) (hb : PD X W b fb) (hg : Gl X x := by rfl) (hdb : (x == ("__debug__" : Str)) = false := by decide)
    (hbase : attributeBase (.Name x p) "index" X.env (eval (.Name x p) X.env) = eval (.Name x p) X.env := by rfl)
    (hfew : ((backTo cpos (starEach [b] X.env)).all (fun x => !x.1) && (backToKw cpos (keywordEach [] X.env)).all (fun x => x.1.isSome)
      && decide ([b].length + ([] : List Keyword).length + (if ([] : List Keyword).isEmpty then 0 else 1) < 30)) = true := by rfl)
    (hline : (apos.endLine == cpos.line) = true := by rfl) (hs : starEach [b] X.env = (false, eval b X.env) :: starEach [] X.env := by rfl) (hplain : (backTo cpos (starEach [] X.env)).any (·.1) = false := by rfl) :
    PD X W (.Call (.Attribute (.Name x p) "index" apos) [b] [] cpos) (eIdxT ds fb) := by
  obtain ⟨T, ob, vs, hm, hk, hc, hd, hs', hr⟩ := G.ex
  obtain ⟨tb, pb, db⟩ := hb.ex
  have hK : SqT X.K (fun _ => none) T vs := hs'
  have hsq : ∀ H : Hp, SqT X.K H T vs := fun H => by
    rcases hK with (h | ⟨_, h⟩) | h
    · cases h
    · cases h
    · exact .inr h
  refine ⟨_, pe_bm PySem.F.plainAttrs_tuple PySem.F.slot_tuple_index PySem.F.type_tuple_index (mt_tupIndexD hu) (pe_glob (v := .ref T) hg hm rfl hdb) (pa_cons pb pa_nil hs) hbase hfew hline hs hplain, ?_⟩
  intro P F H σ ρ Q st h
  refine ⟨.inr (.inl ⟨rfl, ob, hk, hc, hd⟩), ?_⟩
  refine db.bindV st h fun F2 H2 e ρ2 u sb2 st2 r2 h2 => ?_
  cases z : indexD ds e with
  | none => simp only [z] at h2; exact h2.elim
  | some o =>
    simp only [z] at h2
    unfold indexD at z
    split at z
    · rename_i hc
      cases z2 : (D.toPL ds).findIdx? fun z => PyData.eqv z e.toP with
      | none => rw [z2] at z; cases z
      | some j =>
        rw [z2] at z; cases z
        refine ⟨T, u, e.toP, D.toPL ds, j, rfl, rfl, ?_, Rep.dp st2.sub e u (SeqAt.canLay_of_shaped hc.1) r2, hc.2, hc.1, z2, h2 F2 H2 _ (SubH.refl _) st2 (OutOk.val mk_int)⟩
        exact Rep.dp st2.sub (.tuple ds) _ (by simpa only [D.toP, PyData.canLay0] using SeqAt.canLay_of_shaped hc.2) (mk_tup (hsq F2) (hr F2))
    · cases z
end

/-! ### list(d.items()), dicts of constants -/
def itemsD (kvs : List (D × D)) : List D := kvs.map fun p => .tuple [p.1, p.2]
/-- a key that is no tuple -/
def plainKey : D → Bool
  | .int _ => true
  | .str _ => true
  | _ => false
def eItems (f : EX) : EX := fun ρ => (f ρ).bindV fun d ρ1 => match d.un with
  | .dict kvs => .ok (.own (.lst (itemsD kvs))) ρ1
  | _ => .bad
theorem rep_key {K : PySem.W.Frag} {F : Hp} (k : Key) : Rep K F (keyD k) (kV k) := by
  cases k with
  | inl i => exact mk_int
  | inr x => exact mk_str
open Classical in
noncomputable def addF (F H : Hp) (ts : List Addr) : Hp := fun b => if b ∈ ts then H b else F b
section
variable {K : PySem.W.Frag} {mg : Str → Option Value} {P : Prot} {F H H' : Hp} {σ : SS} {ρ : Env} {ts : List Addr}
theorem addF_sub (st : Stt K mg P F H σ ρ) (hk : ∀ b o, H b = some o → H' b = some o) (hn : ∀ t ∈ ts, H t = none) : SubH F (addF F H' ts) ∧ Stt K mg P (addF F H' ts) H' σ ρ := by
  have nt : ∀ {b : Addr} {o : HO}, H b = some o → b ∉ ts := fun {b o} e m => by rw [hn b m] at e; cases e
  have sb : SubH F (addF F H' ts) := fun b o e => by
    unfold addF
    rw [if_neg (nt (st.sub b o e))]; exact e
  refine ⟨sb, st.grow sb (fun b o e => ?_) (fun b o e => ?_) fun i a w => ?_⟩
  · unfold addF at e
    split at e
    · exact e
    · exact hk b o (st.sub b o e)
  · obtain ⟨h1, h2⟩ := st.keep b o e
    refine ⟨hk b o h1, ?_⟩
    unfold addF
    rw [if_neg (nt h1)]; exact h2
  · obtain ⟨h1, h2, u, h3⟩ := st.owned w
    refine ⟨?_, (hk a u h3).trans h3.symm⟩
    unfold addF
    rw [if_neg (nt h3)]; exact h1
theorem items_rep {F' : Hp} (sb : SubH F F') : ∀ {kvs : List (D × D)} {ks : List (Key × V)} {ts : List Addr}, RepK K F kvs ks → Paired (fun (t : Addr) (q : Key × V) => F' t = some (.tup [kV q.1, q.2])) ts ks → RepL K F' (itemsD kvs) (ts.map V.ref)
  | [], _, _, r, p => by
    unfold RepK at r; subst r; cases p
    exact RepL.nil
  | (k, d) :: kvs, _, _, r, p => by
    unfold RepK at r
    obtain ⟨kk, v, ws, rfl, rfl, r1, r2⟩ := r
    cases p with
    | cons h t =>
      refine RepL.cons (mk_tup (.inl (.inl h)) (RepL.cons (rep_key kk) (RepL.cons (Rep.le sb.rd d v r1) RepL.nil))) (items_rep sb r2 t)
end
section
variable {X : Cx} {W : WX} {e : Expr} {p apos cpos pos : Pos} {f : EX}
theorem pd_items (he : PD X W e f) (hm : X.mg "list" = none) (hc : X.calm = true := by rfl) (hg : Gl X "list" := by rfl) (hbase : attributeBase e "items" X.env (eval e X.env) = eval e X.env := by rfl) (hline : (apos.endLine == cpos.line) = true := by rfl)
    (hs : starEach [.Call (.Attribute e "items" apos) [] [] cpos] X.env = (false, eval (.Call (.Attribute e "items" apos) [] [] cpos) X.env) :: starEach [] X.env := by rfl) :
    PD X W (.Call (.Name "list" p) [.Call (.Attribute e "items" apos) [] [] cpos] [] pos) (eItems f) := by
  obtain ⟨te, pe, de⟩ := he.ex
  refine ⟨_, LiI.pe_listItems hc pe hg hm PyProof.Rows.Boot.list hbase hline hs, ?_⟩
  intro P F H σ ρ Q st hp
  refine de.bindV st hp fun F1 H1 d ρ1 v sb st1 r h1 => ?_
  have ru := r.un
  cases hd : d.un with
  | dict kvs =>
    simp only [hd] at h1
    rw [hd] at ru
    unfold Rep at ru
    obtain ⟨a, ks, rfl, r1, r2⟩ := ru
    refine ⟨a, ks, rfl, st1.sub _ _ r1, fun H' q ts hK hq hts hqt hl hp => ?_⟩
    obtain ⟨sb2, st2⟩ := addF_sub st1 hK hts
    have hF : ∀ t ∈ ts, addF F1 H' ts t = H' t := fun t ht => by unfold addF; rw [if_pos ht]
    have hp2 : Paired (fun (t : Addr) (q : Key × V) => addF F1 H' ts t = some (.tup [kV q.1, q.2])) ts ks := by
      have : ∀ {ts' : List Addr} {ks' : List (Key × V)}, (∀ t ∈ ts', t ∈ ts) → Paired (fun (t : Addr) (q : Key × V) => H' t = some (.tup [kV q.1, q.2])) ts' ks' → Paired (fun (t : Addr) (q : Key × V) => addF F1 H' ts t = some (.tup [kV q.1, q.2])) ts' ks' := by
        intro ts' ks' hm p
        induction p with
        | nil => exact .nil
        | cons h t ih => exact .cons (by rw [hF _ (hm _ List.mem_cons_self)]; exact h) (ih fun t ht => hm t (List.mem_cons_of_mem _ ht))
      exact this (fun _ h => h) hp
    have rl := items_rep sb2 r2 hp2
    obtain ⟨fr1, fr2, fr3⟩ := st1.fresh hq
    refine h1 _ H' _ sb2 st2 ⟨⟨q, rfl, ?_, fr2, _, hl, rl⟩, (by intro z; cases z), rfl, fun _ i b eb w => ?_⟩
    · unfold addF; rw [if_neg hqt]; exact fr1
    · cases eb; exact fr3 i w
  | none => simp only [hd] at h1; exact h1.elim
  | bool i => simp only [hd] at h1; exact h1.elim
  | int i => simp only [hd] at h1; exact h1.elim
  | str i => simp only [hd] at h1; exact h1.elim
  | list i => simp only [hd] at h1; exact h1.elim
  | tuple i => simp only [hd] at h1; exact h1.elim
  | dictT i => simp only [hd] at h1; exact h1.elim
  | tag _ i => simp only [hd] at h1; exact h1.elim
/-! displays of constants -/
theorem pd_dct0 : PD X W (.Dict [] [] pos) (fun ρ => .ok (.own (.dct [])) ρ) := ⟨_, pe_dnewK, fun P F H σ ρ Q st h p n => by
  obtain ⟨h1, h2, h3⟩ := st.fresh n
  exact h F _ _ (SubH.refl F) (st.alloc n) ⟨⟨p, rfl, h1, h2, ⟨[], upd_same, by unfold RepK; rfl⟩⟩, (by intro z; cases z), rfl, fun _ i a e w => by cases e; exact h3 i w⟩⟩
theorem pd_dct0T : PD X W (.Dict [] [] pos) (fun ρ => .ok (.own (.dcT [])) ρ) := ⟨_, pe_dnewT, fun P F H σ ρ Q st h p n => by
  obtain ⟨h1, h2, h3⟩ := st.fresh n
  exact h F _ _ (SubH.refl F) (st.alloc n) ⟨⟨p, rfl, h1, h2, ⟨[], upd_same, by unfold RepT; rfl⟩⟩, (by intro z; cases z), rfl, fun _ i a e w => by cases e; exact h3 i w⟩⟩
/-- {'a': 1} -/
theorem pd_dctSI {x : Str} {i : Int} {j1 j2 : Nat} {p1 p2 : Pos} : PD X W (.Dict [some (.Constant (.str x) j1 p1)] [.Constant (.int i) j2 p2] pos) (fun ρ => .ok (.own (.dct [(.str x, .int i)])) ρ) :=
  ⟨_, pe_disp (pps_cons pe_str pe_int pps_nil) rfl rfl (by simp) (by simp), fun P F H σ ρ Q st h p n => by
    obtain ⟨h1, h2, h3⟩ := st.fresh n
    refine ⟨upd_same, [(.inr x, .int i)], rfl, by simp, ?_⟩
    have eH : upd (upd H p (.dK [])) p (.dK (mergeK [] [(.inr x, .int i)])) = upd H p (.dK [(.inr x, .int i)]) := by
      funext b
      by_cases hb : b = p
      · subst hb; rw [upd_same, upd_same]; rfl
      · rw [upd_ne hb, upd_ne hb, upd_ne hb]
    rw [eH]
    refine h F _ _ (SubH.refl F) (st.alloc n) ⟨⟨p, rfl, h1, h2, ⟨_, upd_same, ?_⟩⟩, (by intro z; cases z), rfl, fun _ i a e w => by cases e; exact h3 i w⟩
    unfold RepK RepK
    exact ⟨.inr x, .int i, [], rfl, rfl, mk_int, rfl⟩⟩
end
end Dk

set_option Elab.async false
set_option linter.all false
set_option maxRecDepth 100000
set_option maxHeartbeats 4000000
/-! Dk14: small things for the printed walks -/
namespace Dk
open PySem PySem.Spec L2 PyProof.Rows
theorem room5 {k : Nat} {A : Around} (r : Room k A) : A.units + 65 < cLine := by have := r.un; omega
theorem ptd_of {X : Cx} {W : WX} {e : Expr} {f : EX} (h : PD X W e f) (he : ∀ whole, isTrue e X.env whole = (do let v ← whole; standAt e.pos; holding [v] (truthy v)) := by intro _; rfl) : PTD X W e (eTru f) := ptd_tru h he
theorem calD_bad {P : Program} {w : World} {K : PySem.W.Frag} {mg : Str → Option Value} {base : Heap} {x qual : Str} {st : Stmt} {f : Addr} {fd : FuncData} {N ps : List Str} {dvs : List D} {k : Nat} {den : Den} (F : FunD K x qual (defArgs st) (defBody st) (defScope st) (dvs.map D.flatV) [] f fd) (hm : mg x = some (.ref f)) (S : FnScope N ps (defScope st)) (hb : ∀ as, den as = .bad) :
    CalD P w K mg base x (defArgs st) dvs ps (k + 1) den := by
  refine ⟨f, fd, x, qual, _, _, F.ok S (fun vs H Q E h => h.1) (fun cdv A outer s H vs Q E hr hs => ?_), hm, F.kp, F⟩
  obtain ⟨hl, Pr, F', as, sst, pn, no, post⟩ := hs
  rw [hb as] at post
  exact post.elim
def blkB (N : List Str) (sc scope : Scope) (own : List (Str × Nat)) : Bool :=
  (match scope.kind with | .function => true | _ => false) &&
  (scope.names.all (fun y => match scope.names.lookup y.1, y.2 with | some .local, .local => true | some .cell, .cell => true | some .free, .free => true | some .globalImplicit, .globalImplicit => true | some .globalExplicit, .globalExplicit => true | _, _ => false) &&
  (own.all (fun p => N[p.2]? == some p.1) &&
  (scope.names.all (fun y => match y.2 with | .free => (match sc.names.lookup y.1 with | some .cell => true | some .free => true | _ => false) | _ => true) &&
  scope.names.all (fun y => match y.2 with | .local => (own.map (·.1)).contains y.1 || !N.contains y.1 | .cell => (own.map (·.1)).contains y.1 || !N.contains y.1 | _ => true))))
theorem blk_ok {N : List Str} {sc scope : Scope} {own : List (Str × Nat)} (h : blkB N sc scope own = true) : BlkOk N sc scope own := by
  unfold blkB at h
  simp only [Bool.and_eq_true, List.all_eq_true] at h
  obtain ⟨h1, h2, h3, h4, h5⟩ := h
  refine ⟨?_, fun y hy => ?_, fun p hp => ?_, fun y hy e => ?_, fun y hy e => ?_⟩
  · cases hk : scope.kind <;> rw [hk] at h1 <;> first | rfl | cases h1
  · have := h2 y hy
    cases e1 : scope.names.lookup y.1 with
    | none => rw [e1] at this; cases this
    | some k =>
      rw [e1] at this
      cases k <;> cases e2 : y.2 <;> rw [e2] at this <;> first | rfl | cases this
  · simpa using h3 p hp
  · have := h4 y hy
    rw [e] at this
    cases e1 : sc.names.lookup y.1 with
    | none => rw [e1] at this; cases this
    | some k => rw [e1] at this; cases k <;> first | exact .inl rfl | exact .inr rfl | cases this
  · have := h5 y hy
    rcases e with e | e <;> rw [e] at this <;> simpa [List.contains_eq_mem] using this
end Dk

set_option Elab.async false
set_option linter.all false
set_option maxRecDepth 100000
set_option maxHeartbeats 4000000
/-! Dk15: a, b = e, f : the slots may get objects of their own -/
namespace Dk
open PySem PySem.Spec L2 PyProof.Rows

inductive OR where
  | bad
  | ok (os : List Sl) (ρ : Env)
  | exc (c : Str) (fs : List (Str × D)) (ρ : Env)
def OR.cons (s : Sl) : OR → OR
  | .ok os ρ => .ok (s :: os) ρ
  | r => r
def R.toO (r : R) (k : Sl → Env → OR) : OR := match r with
  | .ok o ρ => k o ρ
  | .bad => .bad
  | .exc c fs ρ => .exc c fs ρ
@[simp] theorem R.toO_ok (o : Sl) (ρ : Env) (k : Sl → Env → OR) : (R.ok o ρ).toO k = k o ρ := rfl
@[simp] theorem OR.cons_ok (s : Sl) (os : List Sl) (ρ : Env) : (OR.ok os ρ).cons s = .ok (s :: os) ρ := rfl
def wantsOwn : Sl → Option Sl
  | .own c => some (.own c)
  | _ => none
/-- the values of fs from the left, each as its slot wants it -/
def outsR : List (Bool × EX) → Env → OR
  | [], ρ => .ok [] ρ
  | (b, f) :: fs, ρ => (f ρ).toO fun o ρ1 => match (if b = true then wantsOwn o else o.toVal) with
      | some s => (outsR fs ρ1).cons s
      | none => .bad
section
variable {K : PySem.W.Frag} {mg : Str → Option Value} {W : WX} {P : Prot} {F H : Hp} {σ : SS} {ρ : Env}
theorem Stt.also (st : Stt K mg P F H σ ρ) {a : Addr} {u : HO} (ha : H a = some u) (hf : F a = none) (hn : ∀ i, ¬ Owns σ ρ i a) : Stt K mg (P.also a u) F H σ ρ where
  sub := st.sub
  keep := fun p o q => by
    by_cases hp : p = a
    · subst hp
      have q' : upd P.H p u p = some o := q
      rw [upd_same] at q'; cases q'
      exact ⟨ha, hf⟩
    · have q' : upd P.H a u p = some o := q
      rw [upd_ne hp] at q'
      exact st.keep p o q'
  len := st.len
  sl := fun i s e => (st.sl i s e).also fun w q => hn i ⟨⟨s, e, w⟩, of_getD q⟩
  apart := st.apart
  pin := st.pin
theorem Stt.unalso {a : Addr} {u : HO} (st : Stt K mg (P.also a u) F H σ ρ) (hn : P.H a = none) : Stt K mg P F H σ ρ where
  sub := st.sub
  keep := fun p o q => st.keep p o (show upd P.H a u p = some o by rw [upd_ne (fun z => by subst z; rw [hn] at q; cases q)]; exact q)
  len := st.len
  sl := fun i s e => (st.sl i s e).unalso hn
  apart := st.apart
  pin := st.pin
theorem OutOk.unalso {a : Addr} {u : HO} {v : V} {o : Sl} (x : OutOk K mg (P.also a u) F H σ ρ v o) (hn : P.H a = none) : OutOk K mg P F H σ ρ v o := ⟨x.sl.unalso hn, x.ne, x.nr, x.free⟩
/-- values, each as its slot wants it; own objects differ -/
inductive Outs (K : PySem.W.Frag) (mg : Str → Option Value) (P : Prot) (F H : Hp) (σ : SS) (ρ : Env) : List V → List Sl → Prop
  | nil : Outs K mg P F H σ ρ [] []
  | cons {v : V} {o : Sl} {vs : List V} {os : List Sl} (x : OutOk K mg P F H σ ρ v o) (t : Outs K mg P F H σ ρ vs os) (ap : o.isOwn = true → ∀ (j : Nat) (a : Addr) (s : Sl), v = .ref a → vs[j]? = some (.ref a) → os[j]? = some s → s.isOwn = false) : Outs K mg P F H σ ρ (v :: vs) (o :: os)
theorem Outs.unalso {a : Addr} {u : HO} {vs : List V} {os : List Sl} (x : Outs K mg (P.also a u) F H σ ρ vs os) (hn : P.H a = none) : Outs K mg P F H σ ρ vs os := by
  induction x with
  | nil => exact .nil
  | cons x t ap ih => exact .cons (x.unalso hn) ih ap
theorem Outs.get {vs : List V} {os : List Sl} (x : Outs K mg P F H σ ρ vs os) : ∀ {j : Nat} {v : V} {s : Sl}, vs[j]? = some v → os[j]? = some s → OutOk K mg P F H σ ρ v s := by
  induction x with
  | nil => intro j v s e; simp at e
  | cons x t ap ih =>
    intro j v s e1 e2
    cases j with
    | zero => simp at e1 e2; subst e1; subst e2; exact x
    | succ j => exact ih (by simpa using e1) (by simpa using e2)
theorem Outs.length {vs : List V} {os : List Sl} (x : Outs K mg P F H σ ρ vs os) : vs.length = os.length := by
  induction x with
  | nil => rfl
  | cons x t ap ih => simp [ih]
def PostO (K : PySem.W.Frag) (mg : Str → Option Value) (W : WX) (P : Prot) (F : Hp) (σ : SS) (n : Nat) (r : OR) (G : List V → Hp → Prop) : Prop := match r with
  | .bad => False
  | .ok os ρ => ∀ F1 H1 vs, SubH F F1 → Stt K mg P F1 H1 σ ρ → Outs K mg P F1 H1 σ ρ vs os → os.length = n → G vs H1
  | .exc c fs ρ => KontX K mg P F σ ρ c fs fun C d H' => W C d σ H'
def DOs (K : PySem.W.Frag) (mg : Str → Option Value) (W : WX) (ta : TA) (fs : List (Bool × EX)) : Prop := ∀ P F H σ ρ G, Stt K mg P F H σ ρ → PostO K mg W P F σ fs.length (outsR fs ρ) G → ta σ H G
theorem dos_nil : DOs K mg W tNil [] := fun P F H σ ρ G st h => h F H [] (SubH.refl F) st .nil rfl
theorem dos_cons {te : TE} {t : TA} {b : Bool} {f : EX} {fs : List (Bool × EX)} (h1 : DE K mg W te f) (h2 : DOs K mg W t fs) : DOs K mg W (tCons te t) ((b, f) :: fs) := by
  intro P F H σ ρ G st h
  refine h1 P F H σ ρ _ st ?_
  simp only [outsR] at h
  cases e : f ρ with
  | bad => rw [e] at h; exact h
  | exc c gs ρ1 => rw [e] at h; exact h
  | ok o ρ1 =>
    rw [e] at h
    simp only [R.toO_ok] at h
    intro F1 H1 v sb st1 x
    cases b with
    | true =>
      simp only [if_true] at h
      cases o with
      | own c =>
        simp only [wantsOwn] at h
        obtain ⟨a, ev, e1, e2, e3⟩ := x.sl
        cases ev
        obtain ⟨u, hu⟩ := e3.some
        have stA := st1.also hu e1 (fun i w => x.free rfl i a rfl w)
        refine h2 (P.also a u) F1 H1 σ ρ1 _ stA ?_
        cases e5 : outsR fs ρ1 with
        | bad => rw [e5] at h; exact h
        | exc c' gs ρ2 => rw [e5] at h; exact fun F2 H2 C dd sb2 st2 y => h F2 H2 C dd (sb.trans sb2) (st2.unalso e2) y
        | ok os ρ2 =>
          rw [e5] at h
          intro F2 H2 vs sb2 st2 xs hl
          obtain ⟨ka, kf⟩ := st2.keep a u (show upd P.H a u a = some u from upd_same)
          have ne2 : ∀ i, ¬ Owns σ ρ2 i a := fun i w => by
            obtain ⟨_, z, _⟩ := st2.owned w
            have : upd P.H a u a = none := z
            rw [upd_same] at this; cases this
          have x2 : OutOk K mg P F2 H2 σ ρ2 (.ref a) (.own c) := ⟨⟨a, rfl, kf, e2, e3.le sb2 (ka.trans hu.symm)⟩, (by intro z; cases z), rfl, fun _ i b eb w => by cases eb; exact ne2 i w⟩
          refine h F2 H2 (.ref a :: vs) (sb.trans sb2) (st2.unalso e2) (.cons x2 (xs.unalso e2) fun _ j b s eb e6 e7 => ?_) (by simp [hl])
          cases eb
          have y := xs.get e6 e7
          cases s with
          | own c' =>
            obtain ⟨b, eb, _, z, _⟩ := y.sl
            cases eb
            have : upd P.H a u a = none := z
            rw [upd_same] at this; cases this
          | ref c' => cases y.nr
          | emp => rfl
          | val d => rfl
          | fn y => rfl
      | emp => exact h.elim
      | val d => exact h.elim
      | ref c => exact h.elim
      | fn c => exact h.elim
    | false =>
      simp only [Bool.false_eq_true, if_false] at h
      cases z : o.toVal with
      | none => simp only [z] at h; exact h.elim
      | some s =>
        simp only [z] at h
        obtain ⟨F2, sb2, st2, x2, no⟩ := st1.toVal x z
        refine h2 P F2 H1 σ ρ1 _ st2 ?_
        cases e5 : outsR fs ρ1 with
        | bad => rw [e5] at h; exact h
        | exc c' gs ρ2 => rw [e5] at h; exact fun F3 H3 C dd sb3 st3 y => h F3 H3 C dd ((sb.trans sb2).trans sb3) st3 y
        | ok os ρ2 =>
          rw [e5] at h
          intro F3 H3 vs sb3 st3 xs hl
          exact h F3 H3 (v :: vs) ((sb.trans sb2).trans sb3) st3 (.cons ⟨x2.sl.plain no sb3, x2.ne, x2.nr, fun w => by rw [no] at w; cases w⟩ xs fun w => by rw [no] at w; cases w) (by simp [hl])
/-- the stores, from the left -/
def storeE : List Nat → List Sl → Env → Option Env
  | [], [], ρ => some ρ
  | i :: is, s :: os, ρ => (setSl i s ρ).bind fun ρ1 => storeE is os ρ1
  | _, _, _ => none
def setAll : List Nat → List V → SS → SS
  | i :: is, v :: vs, σ => setAll is vs (σ.set i (some v))
  | _, _, σ => σ
theorem Outs.store : ∀ {is : List Nat} {vs : List V} {os : List Sl} {σ : SS} {ρ ρ' : Env}, Stt K mg P F H σ ρ → Outs K mg P F H σ ρ vs os → storeE is os ρ = some ρ' → Stt K mg P F H (setAll is vs σ) ρ' := by
  intro is
  induction is with
  | nil =>
    intro vs os σ ρ ρ' st x e
    cases x with
    | nil => cases e; exact st
    | cons _ _ _ => cases e
  | cons i is ih =>
    intro vs os σ ρ ρ' st x e
    cases x with
    | nil => cases e
    | @cons v o vs os x t ap =>
      simp only [storeE] at e
      cases z : setSl i o ρ with
      | none => rw [z] at e; cases e
      | some ρ1 =>
        rw [z] at e
        have st1 := st.store x.nr x.sl x.free z
        refine ih st1 ?_ e
        -- the others are still right
        have hρ1 : ρ1 = ρ.set i o ∧ i < ρ.length := by
          unfold setSl at z
          cases q : ρ[i]? with
          | none => simp only [q] at z; cases z
          | some s0 =>
            have hi : i < ρ.length := by
              rcases Nat.lt_or_ge i ρ.length with h | h
              · exact h
              · rw [List.getElem?_eq_none h] at q; cases q
            cases s0 <;> simp only [q] at z <;> first | (cases z; exact ⟨rfl, hi⟩) | cases z
        obtain ⟨rfl, hi⟩ := hρ1
        have key : ∀ {vs : List V} {os : List Sl}, Outs K mg P F H σ ρ vs os → (o.isOwn = true → ∀ (j : Nat) (a : Addr) (s : Sl), v = .ref a → vs[j]? = some (.ref a) → os[j]? = some s → s.isOwn = false) → Outs K mg P F H (σ.set i (some v)) (ρ.set i o) vs os := by
          intro vs os t
          induction t with
          | nil => intro _; exact .nil
          | @cons v' o' vs os y t ap' ih' =>
            intro hap
            refine .cons ⟨y.sl, y.ne, y.nr, fun w j a eb ow => ?_⟩ (ih' fun w j a s e1 e2 e3 => hap w (j + 1) a s e1 (by simpa using e2) (by simpa using e3)) ap'
            by_cases hij : i = j
            · subst hij
              obtain ⟨⟨s, e1, w1⟩, q1⟩ := ow
              rw [List.getElem?_set_self hi] at e1; cases e1
              rw [List.getElem?_set_self (by rw [st.len]; exact hi)] at q1
              have ev : v = .ref a := by simpa using q1
              have := hap w1 0 a o' ev (by simp [eb]) rfl
              rw [this] at w; cases w
            · exact y.free w j a eb (ow.set_ne hij)
        exact key t ap
/-- a, b = e, f -/
def sPar (is : List Nat) (fs : List (Bool × EX)) : SX := fun ρ => match outsR fs ρ with
  | .bad => .bad
  | .exc c gs ρ1 => .exc c gs ρ1
  | .ok os ρ1 => match storeE is os ρ1 with
    | some ρ2 => .nx ρ2
    | none => .bad
theorem DOs.par {ta : TA} {fs : List (Bool × EX)} {is : List Nat} {En : Ends} {G : List V → Hp → Prop} (h : DOs K mg W ta fs) (st : Stt K mg P F H σ ρ) (hp : PostS K mg W P F (sPar is fs ρ) En)
    (hk : ∀ F1 H1 vs ρ1 ρ2, SubH F F1 → Stt K mg P F1 H1 σ ρ1 → Stt K mg P F1 H1 (setAll is vs σ) ρ2 → vs.length = fs.length → (∀ F' H' σ', SubH F1 F' → Stt K mg P F' H' σ' ρ2 → En.nx σ' H') → G vs H1) : ta σ H G := by
  refine h P F H σ ρ _ st ?_
  unfold sPar at hp
  cases e : outsR fs ρ with
  | bad => simp only [e] at hp; exact hp
  | exc c gs ρ1 => simp only [e] at hp; exact fun F1 H1 C dd sb st1 x => hp F1 H1 σ C dd sb st1 x
  | ok os ρ1 =>
    simp only [e] at hp
    intro F1 H1 vs sb st1 xs hl
    cases z : storeE is os ρ1 with
    | none => simp only [z] at hp; exact hp.elim
    | some ρ2 =>
      simp only [z] at hp
      exact hk F1 H1 vs ρ1 ρ2 sb st1 (xs.store st1 z) (by rw [xs.length, hl]) fun F' H' σ' s st' => hp F' H' σ' (sb.trans s) st'
end
structure POD_ (X : Cx) (W : WX) (es : List Expr) (fs : List (Bool × EX)) : Prop where
  ex : ∃ t, PA X es t ∧ DOs X.K X.mg W t fs
section
variable {X : Cx} {W : WX} {e : Expr} {es : List Expr} {f : EX} {fs : List (Bool × EX)}
theorem pos_nil : POD_ X W [] [] := ⟨_, pa_nil, dos_nil⟩
theorem pos_cons (b : Bool) (h1 : PD X W e f) (h2 : POD_ X W es fs) (hs : starEach (e :: es) X.env = (false, eval e X.env) :: starEach es X.env := by rfl) : POD_ X W (e :: es) ((b, f) :: fs) := by
  obtain ⟨t, p, d⟩ := h1.ex
  obtain ⟨u, q, d2⟩ := h2.ex
  exact ⟨_, pa_cons p q hs, dos_cons d d2⟩
theorem psd_par2 {i j : Nat} {x y : Str} {a b : Expr} {px py pt pos pt2 : Pos} {kt k2 : Nat} (hN : X.N.Nodup) (h : POD_ X W [a, b] fs) (hlen : fs.length = 2 := by rfl) (hc : X.calm = true := by rfl) (hi : X.N[i]? = some x := by rfl) (hj : X.N[j]? = some y := by rfl) (hij : i ≠ j := by decide)
    (hx : X.env.scope.names.lookup x = some .local := by rfl) (hy : X.env.scope.names.lookup y = some .local := by rfl)
    (hw : swappedStores [.Tuple [.Name x px, .Name y py] kt pt] (.Tuple [a, b] k2 pt2) X.env = pure (some [x, y]) := by rfl)
    (hs : swapsWithSole [.Tuple [.Name x px, .Name y py] kt pt] (.Tuple [a, b] k2 pt2) pos.line X.env = pure false := by rfl) : PSD X W (.Assign [.Tuple [.Name x px, .Name y py] kt pt] (.Tuple [a, b] k2 pt2) pos) (sPar [i, j] fs) := by
  obtain ⟨t, p, d⟩ := h.ex
  refine ⟨_, ps_par hc hN hi hj hij hx hy p hw hs, ?_⟩
  intro P F H σ ρ En st hp
  refine d.par st hp fun F1 H1 vs ρ1 ρ2 sb st1 st2 hl k => ?_
  match vs, hl.trans hlen with
  | [v, w], _ => exact ⟨v, w, rfl, k F1 H1 _ (SubH.refl _) st2⟩
theorem psd_par3 {i j l : Nat} {x y z : Str} {a b c : Expr} {px py pz pt pos pt2 : Pos} {kt k2 : Nat} (hN : X.N.Nodup) (h : POD_ X W [a, b, c] fs) (hlen : fs.length = 3 := by rfl) (hc : X.calm = true := by rfl) (hi : X.N[i]? = some x := by rfl) (hj : X.N[j]? = some y := by rfl) (hl : X.N[l]? = some z := by rfl) (hij : i ≠ j := by decide) (hil : i ≠ l := by decide) (hjl : j ≠ l := by decide)
    (hx : X.env.scope.names.lookup x = some .local := by rfl) (hy : X.env.scope.names.lookup y = some .local := by rfl) (hz : X.env.scope.names.lookup z = some .local := by rfl)
    (hw : swappedStores [.Tuple [.Name x px, .Name y py, .Name z pz] kt pt] (.Tuple [a, b, c] k2 pt2) X.env = pure (some [x, y, z]) := by rfl)
    (hs : swapsWithSole [.Tuple [.Name x px, .Name y py, .Name z pz] kt pt] (.Tuple [a, b, c] k2 pt2) pos.line X.env = pure false := by rfl) : PSD X W (.Assign [.Tuple [.Name x px, .Name y py, .Name z pz] kt pt] (.Tuple [a, b, c] k2 pt2) pos) (sPar [i, j, l] fs) := by
  obtain ⟨t, p, d⟩ := h.ex
  refine ⟨_, ps_par3 hc hN hi hj hl hij hil hjl hx hy hz p hw hs, ?_⟩
  intro P F H σ ρ En st hp
  refine d.par st hp fun F1 H1 vs ρ1 ρ2 sb st1 st2 hl k => ?_
  match vs, hl.trans hlen with
  | [v, w, u], _ => exact ⟨v, w, u, rfl, k F1 H1 _ (SubH.refl _) st2⟩
/-! the same through a tuple (a name is captured, or more than three) -/
def gsL : List Nat → TGs
  | [] => L2.gNil
  | i :: is => L2.gCons (gName i) (gsL is)
theorem gsL_ok : ∀ {is : List Nat} {vs : List V} {σ : SS} {H : Hp} {Q : L2.St → Hp → Prop}, vs.length = is.length → Q (setAll is vs σ) H → gsL is vs σ H Q
  | [], vs, σ, H, Q, hl, h => by
    have : vs = [] := List.length_eq_zero_iff.mp hl
    subst this
    exact ⟨rfl, h⟩
  | i :: is, [], σ, H, Q, hl, h => by simp at hl
  | i :: is, v :: vs, σ, H, Q, hl, h => ⟨v, vs, rfl, gsL_ok (is := is) (by simpa using hl) h⟩
structure PGn (X : Cx) (tg : List Expr) (is : List Nat) : Prop where
  ok : PGs X tg (gsL is)
theorem pgn_nil : PGn X [] [] := ⟨pgs_nil⟩
theorem pgn_cons {i : Nat} {x : Str} {pos : Pos} {tg : List Expr} {is : List Nat} (hN : X.N.Nodup) (h : PGn X tg is) (hi : X.N[i]? = some x := by rfl) (hx : Loc X.env.scope x := by first | exact Or.inl rfl | exact Or.inr rfl) (hf : X.fn x = true ∨ X.env.scope.names.lookup x = some .local := by first | exact .inl rfl | exact .inr rfl | assumption)
    (hst : (assignEach (.Name x pos :: tg) X.env).map (·.2) = assign (.Name x pos) X.env :: (assignEach tg X.env).map (·.2) := by rfl) : PGn X (.Name x pos :: tg) (i :: is) := ⟨pgs_cons (pg_name hN hi hx hf) h.ok hst⟩
theorem psd_parT {tg : List Expr} {is : List Nat} {kt k2 : Nat} {pt pt2 pos : Pos} (hg : PGn X tg is) (h : POD_ X W es fs) (hlen : fs.length = is.length := by rfl) (hz : fs.length ≤ sizeLine := by show _ ≤ _; decide) (hc : X.calm = true := by rfl) (hn : (assignEach tg X.env).length = is.length := by rfl) (hst : (assignEach tg X.env).findIdx? (·.1) = none := by rfl)
    (hs : swapsWithSole [.Tuple tg kt pt] (.Tuple es k2 pt2) pos.line X.env = pure false := by rfl) (hw : swappedStores [.Tuple tg kt pt] (.Tuple es k2 pt2) X.env = pure none := by rfl) (h1 : (assignEach [.Tuple tg kt pt] X.env).map (·.2) = [assign (.Tuple tg kt pt) X.env] := by rfl) :
    PSD X W (.Assign [.Tuple tg kt pt] (.Tuple es k2 pt2) pos) (sPar is fs) := by
  obtain ⟨t, p, d⟩ := h.ex
  refine ⟨_, ps_asg (pe_tup p) (pg_tup hc hg.ok hn hst) hs hw h1, ?_⟩
  intro P F H σ ρ En st hp
  refine d.par st hp fun F1 H1 vs ρ1 ρ2 sb st1 st2 hl k => ⟨by rw [hl]; exact hz, fun q nq => ?_⟩
  refine ⟨q, vs, rfl, .inl (.inl upd_same), hl.trans hlen, gsL_ok (hl.trans hlen) ?_⟩
  exact k F1 _ _ (SubH.refl _) (st2.alloc nq)
end
end Dk

set_option Elab.async false
set_option linter.all false
set_option maxRecDepth 100000
set_option maxHeartbeats 4000000
/-! Dk16: what the written part says; the end -/
namespace Dk
open PySem PySem.Spec L2 PyProof.Rows
section
variable {P : Program} {w : World} {K : PySem.W.Frag} {mg : Str → Option Value} {base : Heap}
theorem chk_flat : ∀ {ds : List D} {us : List Value}, ds.all flatD = true → chkL K ds us = true → Vals (ds.map D.flatV) us
  | [], us, _, h => by
    unfold chkL at h
    have : us = [] := by simpa using h
    subst this
    exact .nil
  | d :: ds, us, hf, h => by
    simp only [List.all_cons, Bool.and_eq_true] at hf
    unfold chkL at h
    cases us with
    | nil => cases h
    | cons u us =>
      simp only [Bool.and_eq_true] at h
      refine .cons ?_ (chk_flat hf.2 h.2)
      have h1 := h.1
      cases d with
      | none => unfold chkV at h1; cases u <;> first | (simp at h1; done) | rfl
      | bool b => unfold chkV at h1; cases u <;> first | (simp at h1; done) | (rw [eq_of_beq h1]; rfl)
      | int b => unfold chkV at h1; cases u <;> first | (simp at h1; done) | (rw [eq_of_beq h1]; exact ⟨_, rfl⟩)
      | str b => unfold chkV at h1; cases u <;> first | (simp at h1; done) | (rw [eq_of_beq h1]; exact ⟨_, rfl⟩)
      | list b => cases hf.1
      | tuple b => cases hf.1
      | dict b => cases hf.1
      | dictT b => cases hf.1
      | tag _ b => cases hf.1
theorem funD0 {x qual : Str} {st : Stmt} {f : Addr} {oc : Value} {od an : Option Addr} {osl : Array (Option Value)} {kV doc pm cdv ct : Value} (l : K.lookup f = some ⟨oc, od, .func (PySem.W.fnOf x qual (defArgs st) (defBody st) (defScope st) .none kV doc pm an cdv ct), osl⟩)
    (c : PySem.W.codeIn K cdv qual = true) (k : PySem.W.keepIn K (.ref f) = true) : FunD K x qual (defArgs st) (defBody st) (defScope st) (([] : List D).map D.flatV) [] f (PySem.W.fnOf x qual (defArgs st) (defBody st) (defScope st) .none kV doc pm an cdv ct) :=
  ⟨⟨oc, od, .none, kV, doc, pm, an, cdv, ct, osl, rfl, l, c, .inl ⟨rfl, rfl⟩, .inl rfl⟩, k⟩
theorem funD1 {x qual : Str} {st : Stmt} {f T : Addr} {oc tc : Value} {od an td : Option Addr} {osl tsl : Array (Option Value)} {kV doc pm cdv ct : Value} {its : Array Value} {n : Nat} {dvs : List D} (l : K.lookup f = some ⟨oc, od, .func (PySem.W.fnOf x qual (defArgs st) (defBody st) (defScope st) (.ref T) kV doc pm an cdv ct), osl⟩)
    (c : PySem.W.codeIn K cdv qual = true) (k : PySem.W.keepIn K (.ref f) = true) (lT : K.lookup T = some ⟨tc, td, .seq its n, tsl⟩) (hf : dvs.all flatD = true) (hc : chkL K dvs its.toList = true) (ne : dvs ≠ []) :
    FunD K x qual (defArgs st) (defBody st) (defScope st) (dvs.map D.flatV) [] f (PySem.W.fnOf x qual (defArgs st) (defBody st) (defScope st) (.ref T) kV doc pm an cdv ct) :=
  ⟨⟨oc, od, .ref T, kV, doc, pm, an, cdv, ct, osl, rfl, l, c, .inr ⟨fun e => ne (by simpa using e), T, _, its.toList, n, rfl, lT, by simp, chk_flat hf hc⟩, .inl rfl⟩, k⟩
/-- what is asked of a class of errors of the text -/
theorem oexC_mk {C N : Addr} {nm q : Str} {bs bm : List Value} {sn : List Str} {sub : List Value} {ab : Bool} {col : Option Bool} {dd : Option Addr} {m0 m1 m2 m3 m5 : Option Value}
    (xL : K.lookup C = some (excClassObj nm q C N bs bm true sn sub ab col dd m0 m1 m2 m3 m5 "ValueError.__new__")) (hb : PySem.HandSPX.refsVE bm = true) (sa : PySem.W.findIn K (.ref C) "__setattr__" = some (some (.builtin "object.__setattr__"))) (eC : PySem.W.subIn K (.ref C) (.type "BaseException") = some true)
    (tC : PySem.W.typeIn K (.ref C) = some (.type "type")) (kC : PySem.W.keepIn K (.ref C) = true) : OexC K C := ⟨⟨nm, q, N, bs, bm, sn, sub, ab, col, dd, m0, m1, m2, m3, m5, xL, hb⟩, sa, eC, tC, kC⟩
theorem excD1 {c : Str} {g : Str} {C fI : Addr} {fd : FuncData} {qual : Str} {st : Stmt} {N : List Str} {a b : Str} (T : OexC K C) (iC : PySem.W.findIn K (.ref C) "__init__" = some (some (.ref fI))) (tI : PySem.W.typeIn K (.ref fI) = some (.type "function"))
    (F : Fun K "__init__" qual st fI fd) (S : FnScope N [a, b] (defScope st)) (hb : Binds K fd [a, b] []) (hm : mg c = some (.ref C)) (hno : PySem.W.findIn K (.ref C) g = some none)
    (hbody : ∀ (cdv : Value) (A : Around) (outer : List PySem.Env) (s : Shared) (H : Hp) (E : XK), PSs (cxOf (L2.CX P w) P w K mg base N qual (defScope st) fI cdv A outer s H E) (defBody st) (tOst K g (tVar 0) (tVar 1))) : ExcD P w K mg base c [g] 1 :=
  ⟨⟨C, fI, fd, [a, b], T, iC, tI, init1_ok F S rfl hbody, hb, hm, fun f hf => by simp at hf; rw [hf]; exact hno⟩, .inl ⟨g, rfl⟩⟩
theorem excD2 {c : Str} {g g2 : Str} {C fI : Addr} {fd : FuncData} {qual : Str} {st : Stmt} {N : List Str} {a b d : Str} (T : OexC K C) (iC : PySem.W.findIn K (.ref C) "__init__" = some (some (.ref fI))) (tI : PySem.W.typeIn K (.ref fI) = some (.type "function"))
    (F : Fun K "__init__" qual st fI fd) (S : FnScope N [a, b, d] (defScope st)) (hb : Binds K fd [a, b, d] []) (hm : mg c = some (.ref C)) (hno : PySem.W.findIn K (.ref C) g = some none) (hno2 : PySem.W.findIn K (.ref C) g2 = some none) (ne : g ≠ g2)
    (hbody : ∀ (cdv : Value) (A : Around) (outer : List PySem.Env) (s : Shared) (H : Hp) (E : XK), PSs (cxOf (L2.CX P w) P w K mg base N qual (defScope st) fI cdv A outer s H E) (defBody st) (tSeq (tOst K g (tVar 0) (tVar 1)) (tOst K g2 (tVar 0) (tVar 2)))) : ExcD P w K mg base c [g, g2] 1 :=
  ⟨⟨C, fI, fd, [a, b, d], T, iC, tI, init2_ok F S rfl hbody, hb, hm, fun f hf => by
    simp at hf
    rcases hf with rfl | rfl
    · exact hno
    · exact hno2⟩, .inr ⟨g, g2, ne, rfl⟩⟩
/-- the law's promise -/
def spLaw (K : PySem.W.Frag) : Sp := fun vs H Q _ => ∃ (a : Addr) (ns : List Int), vs = [.ref a] ∧ SqL K H a (ns.map V.int) ∧ ns.length ≤ 63 ∧ ∀ H', Q (.bl true) H'
theorem ints_rep {F : Hp} : ∀ ns : List Int, RepL K F (ns.map D.int) (ns.map V.int)
  | [] => RepL.nil
  | n :: ns => RepL.cons mk_int (ints_rep ns)
theorem law_imp {den : Den} (hl : ∀ ns : List Int, ns.length ≤ 63 → ∃ as, den [.val (.list (ns.map D.int))] = .ret (.val (.bool true)) as) : ∀ vs H Q E, spLaw K vs H Q E → spD K mg 1 den vs H Q E := by
  rintro vs H Q E ⟨a, ns, rfl, hS, hz, q⟩
  obtain ⟨as, e⟩ := hl ns hz
  have st : Stt K mg ⟨fun _ => none, fun _ => none⟩ H H ([V.ref a].map some) [.val (.list (ns.map D.int))] := by
    refine ⟨SubH.refl H, fun p o z => (by cases z), rfl, fun i s z => ?_, fun i j b w => ?_, fun i v z => (by cases z)⟩
    · match i, z with
      | 0, z => cases z; exact ⟨.ref a, rfl, mk_list hS (ints_rep ns)⟩
      | i + 1, z => simp at z
    · obtain ⟨⟨s, z, w⟩, _⟩ := w
      match i, z with
      | 0, z => cases z; cases w
      | i + 1, z => simp at z
  refine ⟨rfl, _, H, _, st, fun i s v z w => ?_, fun s hs c => ?_, ?_⟩
  · match i, z with
    | 0, z => cases z; cases w
    | i + 1, z => simp at z
  · simp at hs; subst hs; intro z; cases z
  · rw [e]
    intro F' H' v sb st x
    rw [rep_bool x.rep]
    exact q H'
theorem law_end {x : Str} {par : Arguments} {k : Nat} {den : Den} {fa : Addr} {s1 : Str} (hfa : mg x = some (.ref fa)) (hb : ∀ fd nm qual body scope, FunD K nm qual par body scope [] [] fa fd → ∀ (s : Shared) (u : Value), BindsTo s fd ⟨[u], []⟩ [(s1, u)]) (fd : FuncData) {qual : Str} {st : Stmt} (hpar : par = defArgs st)
    (F : FunD K x qual (defArgs st) (defBody st) (defScope st) (([] : List D).map D.flatV) [] fa fd) (hlaw : ∀ base, K.In base → base.Ns mainGlobals mg → CalD P w K mg base x par [] [s1] k den) (hl : ∀ ns : List Int, ns.length ≤ 63 → ∃ as, den [.val (.list (ns.map D.int))] = .ret (.val (.bool true)) as) :
    ∃ fd : FuncData, (∀ (s : Shared) (u : Value), BindsTo s fd ⟨[u], []⟩ [(s1, u)]) ∧ ∀ base : Heap, K.In base → base.Ns mainGlobals mg → FnOk P w K mg base (L2.CX P w) k fa fd [s1] (spLaw K) := by
  subst hpar
  refine ⟨fd, hb fd _ _ _ _ F, fun base hK hN => ?_⟩
  obtain ⟨f, fd2, nm, qual2, body, scope, F2, hm, hk, FD⟩ := (hlaw base hK hN).ex
  have ef : f = fa := by
    have := hm.symm.trans hfa
    cases this; rfl
  subst ef
  have efd : fd2 = fd := by
    obtain ⟨oc, od, dV, kV, doc, pm, an, cdv, ct, osl, e1, l1, _⟩ := FD.ex
    obtain ⟨oc', od', dV', kV', doc', pm', an', cdv', ct', osl', e2, l2, _⟩ := F.ex
    have := l1.symm.trans l2
    cases this
    rfl
  subst efd
  exact F2.imp (law_imp hl)
theorem lookup_mem {α : Type} {c : Str} {x : α} : ∀ {l : List (Str × α)}, l.lookup c = some x → (c, x) ∈ l
  | [], h => by cases h
  | (a, y) :: l, h => by
    simp only [List.lookup] at h
    split at h
    · rename_i e
      have : c = a := by simpa using e
      cases h; subst this
      exact List.mem_cons_self
    · exact List.mem_cons_of_mem _ (lookup_mem h)
def isaOf (tbl : List (Str × List Str)) (h c : Str) : Option Bool := (tbl.lookup c).map fun l => decide (h ∈ l)
theorem match_of {tbl : List (Str × List Str)} {hn : Str} {cv : Value} (h : ∀ p ∈ tbl, ∃ C : Addr, mg p.1 = some (.ref C) ∧ PySem.W.exmOne K (.ref C) cv = some (decide (hn ∈ p.2))) : MatchD K mg cv (isaOf tbl hn) := by
  refine ⟨fun c b e C hm => ?_⟩
  unfold isaOf at e
  cases q : tbl.lookup c with
  | none => rw [q] at e; cases e
  | some l =>
    rw [q] at e; cases e
    obtain ⟨C', h1, h2⟩ := h (c, l) (lookup_mem q)
    rw [hm] at h1; cases h1
    exact h2
theorem isa_of {tbl : List (Str × List Str)} {hn : Str} {cv : Value} (h : ∀ p ∈ tbl, ∃ C : Addr, mg p.1 = some (.ref C) ∧ ExcC K C ∧ (PySem.W.clsIn K C).isSome = true ∧ PySem.W.kitOne K (.ref C) cv = some (decide (hn ∈ p.2))) : IsaD K mg cv (isaOf tbl hn) := by
  refine ⟨fun c b e => ?_⟩
  unfold isaOf at e
  cases q : tbl.lookup c with
  | none => rw [q] at e; cases e
  | some l =>
    rw [q] at e; cases e
    exact h (c, l) (lookup_mem q)
theorem all_nil {α : Type} {p : α → Prop} : ∀ x ∈ ([] : List α), p x := fun x h => by cases h
theorem all_cons {α : Type} {p : α → Prop} {a : α} {l : List α} (h : p a) (t : ∀ x ∈ l, p x) : ∀ x ∈ a :: l, p x := fun x m => by
  rcases List.mem_cons.mp m with rfl | m
  · exact h
  · exact t x m
theorem hCX_ (P : Program) (w : World) (H : Hp) (s : Shared) (e : Value) (s' : Shared) (h : L2.CX P w [] H s (fun _ _ _ => False) e s') : False := by
  obtain ⟨_, _, _, _, _, _, _, _, _, _, _, _, h⟩ := h
  exact h
end
end Dk

set_option Elab.async false
set_option linter.all false
set_option maxRecDepth 100000
set_option maxHeartbeats 4000000
/-! Dk17: evaluating meanings by simp: every step waits for what stands left of it -/
namespace Dk
open PySem PySem.Spec L2 PyProof.Rows
/-- an equation that simp takes as a step of its own -/
theorem nrfl {α : Sort _} {a b : α} (h : a = b) : a = b := h
section
variable {ρ ρ' : Env} {f g h fa fb fc c : EX} {p q : SX} {fs : List EX} {i j n : Nat} {d e : D} {r r' : R} {s s' : SR} {o o' : Sl} {cn : Str} {xs : List (Str × D)} {P : Prop} [Decidable P] {b : Bool}
/-! merging -/
@[simp] theorem ite_ok : (if P then R.ok o ρ else R.ok o' ρ) = R.ok (if P then o else o') ρ := by split <;> rfl
@[simp] theorem ite_val : (if P then Sl.val d else Sl.val e) = Sl.val (if P then d else e) := by split <;> rfl
@[simp] theorem ite_bool {a b : Bool} : (if P then D.bool a else D.bool b) = D.bool (if P then a else b) := by split <;> rfl
@[simp] theorem ite_int {a b : Int} : (if P then D.int a else D.int b) = D.int (if P then a else b) := by split <;> rfl
@[simp] theorem ite_str {a b : Str} : (if P then D.str a else D.str b) = D.str (if P then a else b) := by split <;> rfl
@[simp] theorem ite_ofString {a b : String} : (if P then Str.ofString a else Str.ofString b) = Str.ofString (if P then a else b) := by split <;> rfl
@[simp] theorem ite_ret : (if P then SR.ret o ρ else SR.ret o' ρ) = SR.ret (if P then o else o') ρ := by split <;> rfl
@[simp] theorem ite_nx : (if P then SR.nx ρ else SR.nx ρ') = SR.nx (if P then ρ else ρ') := by split <;> rfl
@[simp] theorem ite_tup {a b : List D} : (if P then D.tuple a else D.tuple b) = D.tuple (if P then a else b) := by split <;> rfl
@[simp] theorem ite_same {α : Sort _} {x : α} : (if P then x else x) = x := by split <;> rfl
/-! R -/
@[simp] theorem bindV_bad {k : D → Env → R} : R.bad.bindV k = .bad := nrfl rfl
@[simp] theorem bindV_ite {k : D → Env → R} : (if P then r else r').bindV k = if P then r.bindV k else r'.bindV k := by split <;> rfl
@[simp] theorem bindB_bad {k : Bool → Env → R} : R.bad.bindB k = .bad := nrfl rfl
@[simp] theorem bindB_ite {k : Bool → Env → R} : (if P then r else r').bindB k = if P then r.bindB k else r'.bindB k := by split <;> rfl
@[simp] theorem bs_bad {k : Sl → Env → SR} : R.bad.bs k = .bad := nrfl rfl
@[simp] theorem bs_ite {k : Sl → Env → SR} : (if P then r else r').bs k = if P then r.bs k else r'.bs k := by split <;> rfl
@[simp] theorem bsB_bad {k : Bool → Env → SR} : R.bad.bsB k = .bad := nrfl rfl
@[simp] theorem bsB_ite {k : Bool → Env → SR} : (if P then r else r').bsB k = if P then r.bsB k else r'.bsB k := by split <;> rfl
@[simp] theorem toC_bad {k : Sl → Env → CA} : R.bad.toC k = .bad := nrfl rfl
@[simp] theorem toC_ite {k : Sl → Env → CA} : (if P then r else r').toC k = if P then r.toC k else r'.toC k := by split <;> rfl
@[simp] theorem toO_bad {k : Sl → Env → OR} : R.bad.toO k = .bad := nrfl rfl
@[simp] theorem toO_exc {k : Sl → Env → OR} : (R.exc cn xs ρ).toO k = .exc cn xs ρ := nrfl rfl
@[simp] theorem toO_ite {k : Sl → Env → OR} : (if P then r else r').toO k = if P then r.toO k else r'.toO k := by split <;> rfl
def R.ofO (o : Option Sl) (ρ : Env) : R := match o with
  | some o => .ok o ρ
  | none => .bad
@[simp] theorem ofO_some : R.ofO (some o) ρ = .ok o ρ := nrfl rfl
@[simp] theorem ofO_none : R.ofO none ρ = .bad := nrfl rfl
@[simp] theorem ofO_ite {a b : Option Sl} : R.ofO (if P then a else b) ρ = if P then R.ofO a ρ else R.ofO b ρ := by split <;> rfl
/-! data -/
@[simp] theorem frz_val : (Sl.val d).frz = some d := nrfl rfl
@[simp] theorem frz_own (c : Cl) : (Sl.own c).frz = some c.frz := nrfl rfl
@[simp] theorem frz_lst (ds : List D) : (Cl.lst ds).frz = .list ds := nrfl rfl
@[simp] theorem frz_dct (ds : List (D × D)) : (Cl.dct ds).frz = .dict ds := nrfl rfl
@[simp] theorem frz_dcT (ds : List (D × D)) : (Cl.dcT ds).frz = .dictT ds := nrfl rfl
@[simp] theorem toVal_val : (Sl.val d).toVal = some (.val d) := nrfl rfl
@[simp] theorem toVal_own (c : Cl) : (Sl.own c).toVal = some (.val c.frz) := nrfl rfl
@[simp] theorem toVal_fn (x : Str) : (Sl.fn x).toVal = some (.fn x) := nrfl rfl
@[simp] theorem un_none : D.un .none = .none := nrfl rfl
@[simp] theorem un_bool (b : Bool) : D.un (.bool b) = .bool b := nrfl rfl
@[simp] theorem un_int (b : Int) : D.un (.int b) = .int b := nrfl rfl
@[simp] theorem un_str (b : Str) : D.un (.str b) = .str b := nrfl rfl
@[simp] theorem un_list (b : List D) : D.un (.list b) = .list b := nrfl rfl
@[simp] theorem un_tuple (b : List D) : D.un (.tuple b) = .tuple b := nrfl rfl
@[simp] theorem un_dict (b : List (D × D)) : D.un (.dict b) = .dict b := nrfl rfl
@[simp] theorem un_dictT (b : List (D × D)) : D.un (.dictT b) = .dictT b := nrfl rfl
@[simp] theorem un_tag (a : Addr) : D.un (.tag a d) = d.un := nrfl rfl
@[simp] theorem un_ite : D.un (if P then d else e) = if P then d.un else e.un := by split <;> rfl
@[simp] theorem un_un : ∀ d : D, d.un.un = d.un
  | .tag _ d => un_un d
  | .none => rfl
  | .bool _ => rfl
  | .int _ => rfl
  | .str _ => rfl
  | .list _ => rfl
  | .tuple _ => rfl
  | .dict _ => rfl
  | .dictT _ => rfl
/-! expressions -/
def slR (s : Option Sl) (ρ : Env) : R := match s with
  | some (.val d) => .ok (.val d) ρ
  | some (.fn x) => .ok (.fn x) ρ
  | _ => .bad
@[simp] theorem slR_val : slR (some (.val d)) ρ = .ok (.val d) ρ := nrfl rfl
@[simp] theorem slR_fn {x : Str} : slR (some (.fn x)) ρ = .ok (.fn x) ρ := nrfl rfl
@[simp] theorem eVar_def : eVar i ρ = slR ρ[i]? ρ := nrfl rfl
def mvR (s : Option Sl) (i : Nat) (ρ : Env) : R := match s with
  | some (.own c) => .ok (.own c) (ρ.set i .emp)
  | _ => .bad
@[simp] theorem mvR_own {c : Cl} : mvR (some (.own c)) i ρ = .ok (.own c) (ρ.set i .emp) := nrfl rfl
@[simp] theorem eMove_def : eMove i ρ = mvR ρ[i]? i ρ := nrfl rfl
@[simp] theorem eC_def : eC d ρ = .ok (.val d) ρ := nrfl rfl
def kOpR (gg : D → D → Option Sl) (d : D) : D → Env → R := fun e ρ => R.ofO (gg d.un e.un) ρ
def kOpL (gg : D → D → Option Sl) (fb : EX) : D → Env → R := fun d ρ => (fb ρ).bindV (kOpR gg d)
@[simp] theorem kOpR_def {gg : D → D → Option Sl} : kOpR gg d e ρ = R.ofO (gg d.un e.un) ρ := nrfl rfl
@[simp] theorem kOpL_def {gg : D → D → Option Sl} : kOpL gg fb d ρ = (fb ρ).bindV (kOpR gg d) := nrfl rfl
theorem bindV_congr {k k' : D → Env → R} (h : ∀ d ρ, k d ρ = k' d ρ) : r.bindV k = r.bindV k' := by
  have : k = k' := by funext d ρ; exact h d ρ
  rw [this]
theorem bindB_congr {k k' : Bool → Env → R} (h : ∀ d ρ, k d ρ = k' d ρ) : r.bindB k = r.bindB k' := by
  have : k = k' := by funext d ρ; exact h d ρ
  rw [this]
@[simp] theorem eOp_def {gg : D → D → Option Sl} : eOp gg fa fb ρ = (fa ρ).bindV (kOpL gg fb) := by
  unfold eOp
  refine bindV_congr fun d ρ => bindV_congr fun e ρ => ?_
  show _ = R.ofO _ _
  cases gg d.un e.un <;> rfl
def kUn (gg : D → Option Sl) : D → Env → R := fun d ρ => R.ofO (gg d.un) ρ
@[simp] theorem kUn_def {gg : D → Option Sl} : kUn gg d ρ = R.ofO (gg d.un) ρ := nrfl rfl
@[simp] theorem eUn_def {gg : D → Option Sl} : eUn gg fa ρ = (fa ρ).bindV (kUn gg) := by
  unfold eUn
  refine bindV_congr fun d ρ => ?_
  show _ = R.ofO _ _
  cases gg d.un <;> rfl
def R.ofB (o : Option Bool) (ρ : Env) : R := match o with
  | some b => .ok (.val (.bool b)) ρ
  | none => .bad
@[simp] theorem ofB_some : R.ofB (some b) ρ = .ok (.val (.bool b)) ρ := nrfl rfl
@[simp] theorem ofB_none : R.ofB none ρ = .bad := nrfl rfl
def kTru : D → Env → R := fun d ρ => R.ofB (truB d.un) ρ
@[simp] theorem kTru_def : kTru d ρ = R.ofB (truB d.un) ρ := nrfl rfl
@[simp] theorem eTru_def : eTru f ρ = (f ρ).bindV kTru := by
  unfold eTru
  refine bindV_congr fun d ρ => ?_
  show _ = R.ofB _ _
  cases truB d.un <;> rfl
def kNot : Bool → Env → R := fun b ρ => .ok (.val (.bool (!b))) ρ
@[simp] theorem kNot_def : kNot b ρ = .ok (.val (.bool (!b))) ρ := nrfl rfl
@[simp] theorem eNot_def : eNot f ρ = (f ρ).bindB kNot := nrfl rfl
def kAnd (g : EX) : Bool → Env → R := fun b ρ => if b = true then g ρ else .ok (.val (.bool false)) ρ
@[simp] theorem kAnd_def : kAnd g b ρ = if b = true then g ρ else .ok (.val (.bool false)) ρ := nrfl rfl
@[simp] theorem eAnd_def : eAnd f g ρ = (f ρ).bindB (kAnd g) := nrfl rfl
def kOr (g : EX) : Bool → Env → R := fun b ρ => if b = true then .ok (.val (.bool true)) ρ else g ρ
@[simp] theorem kOr_def : kOr g b ρ = if b = true then .ok (.val (.bool true)) ρ else g ρ := nrfl rfl
@[simp] theorem eOr_def : eOr f g ρ = (f ρ).bindB (kOr g) := nrfl rfl
def kIf (f g : EX) : Bool → Env → R := fun b ρ => if b = true then f ρ else g ρ
@[simp] theorem kIf_def : kIf f g b ρ = if b = true then f ρ else g ρ := nrfl rfl
@[simp] theorem eIf_def : eIf c f g ρ = (c ρ).bindB (kIf f g) := nrfl rfl
def kCh2 (g2 : D → D → Option Sl) (fc : EX) (e : D) : Bool → Env → R := fun b ρ => if b = true then (fc ρ).bindV (kOpR g2 e) else .ok (.val (.bool false)) ρ
@[simp] theorem kCh2_def {g2 : D → D → Option Sl} : kCh2 g2 fc e b ρ = if b = true then (fc ρ).bindV (kOpR g2 e) else .ok (.val (.bool false)) ρ := nrfl rfl
def kCh1 (g1 g2 : D → D → Option Sl) (fc : EX) (d : D) : D → Env → R := fun e ρ => (R.ofO (g1 d.un e.un) ρ).bindB (kCh2 g2 fc e)
@[simp] theorem kCh1_def {g1 g2 : D → D → Option Sl} : kCh1 g1 g2 fc d e ρ = (R.ofO (g1 d.un e.un) ρ).bindB (kCh2 g2 fc e) := nrfl rfl
def kCh0 (g1 g2 : D → D → Option Sl) (fb fc : EX) : D → Env → R := fun d ρ => (fb ρ).bindV (kCh1 g1 g2 fc d)
@[simp] theorem kCh0_def {g1 g2 : D → D → Option Sl} : kCh0 g1 g2 fb fc d ρ = (fb ρ).bindV (kCh1 g1 g2 fc d) := nrfl rfl
@[simp] theorem eChain_def {g1 g2 : D → D → Option Sl} : eChain g1 g2 fa fb fc ρ = (fa ρ).bindV (kCh0 g1 g2 fb fc) := by
  unfold eChain
  refine bindV_congr fun d ρ => bindV_congr fun e ρ => ?_
  show _ = (R.ofO (g1 d.un e.un) ρ).bindB _
  cases g1 d.un e.un with
  | none => rfl
  | some o =>
    cases o with
    | val x =>
      cases x with
      | bool b =>
        simp only [ofO_some, R.bindB_ok, kCh2]
        cases b with
        | false => rfl
        | true =>
          simp only [if_true]
          refine bindV_congr fun z ρ => ?_
          show _ = R.ofO _ _
          cases g2 e.un z.un <;> rfl
      | _ => rfl
    | _ => rfl
def kArgB (d : D) : List D → Env → R := fun ds ρ => .ok (.val (.list (d :: ds))) ρ
@[simp] theorem kArgB_def {ds : List D} : kArgB d ds ρ = .ok (.val (.list (d :: ds))) ρ := nrfl rfl
def kArgA (fs : List EX) : D → Env → R := fun d ρ => (eArgsR fs ρ).bindL (kArgB d)
@[simp] theorem kArgA_def : kArgA fs d ρ = (eArgsR fs ρ).bindL (kArgB d) := nrfl rfl
@[simp] theorem bindL_ok {k : List D → Env → R} {ds : List D} : (R.ok (.val (.list ds)) ρ).bindL k = k ds ρ := nrfl rfl
@[simp] theorem bindL_exc {k : List D → Env → R} : (R.exc cn xs ρ).bindL k = .exc cn xs ρ := nrfl rfl
@[simp] theorem bindL_bad {k : List D → Env → R} : R.bad.bindL k = .bad := nrfl rfl
@[simp] theorem bindL_ite {k : List D → Env → R} : (if P then r else r').bindL k = if P then r.bindL k else r'.bindL k := by split <;> rfl
@[simp] theorem eArgsR_nil : eArgsR [] ρ = .ok (.val (.list [])) ρ := nrfl rfl
@[simp] theorem eArgsR_cons' : eArgsR (f :: fs) ρ = (f ρ).bindV (kArgA fs) := by
  show (f ρ).bindV _ = _
  refine bindV_congr fun d ρ => ?_
  show _ = (eArgsR fs ρ).bindL (kArgB d)
  cases h : eArgsR fs ρ with
  | bad => rfl
  | exc c fs ρ => rfl
  | ok o ρ2 =>
    cases o with
    | val x => cases x <;> rfl
    | own c => exact absurd h (eArgsR_own _ _ _ _)
    | _ => rfl
def kTup : List D → Env → R := fun ds ρ => .ok (.val (.tuple ds)) ρ
@[simp] theorem kTup_def {ds : List D} : kTup ds ρ = .ok (.val (.tuple ds)) ρ := nrfl rfl
@[simp] theorem eTup_def : eTup fs ρ = (eArgsR fs ρ).bindL kTup := eArgs_eq _ _ _
def kLst : List D → Env → R := fun ds ρ => .ok (.own (.lst ds)) ρ
@[simp] theorem kLst_def {ds : List D} : kLst ds ρ = .ok (.own (.lst ds)) ρ := nrfl rfl
@[simp] theorem eLst_def : eLst fs ρ = (eArgsR fs ρ).bindL kLst := eArgs_eq _ _ _
def kCB (gg : List D → Option Sl) : List D → Env → R := fun ds ρ => R.ofO (gg (ds.map D.un)) ρ
@[simp] theorem kCB_def {gg : List D → Option Sl} {ds : List D} : kCB gg ds ρ = R.ofO (gg (ds.map D.un)) ρ := nrfl rfl
theorem bindL_congr {k k' : List D → Env → R} (h : ∀ d ρ, k d ρ = k' d ρ) : r.bindL k = r.bindL k' := by
  have : k = k' := by funext d ρ; exact h d ρ
  rw [this]
@[simp] theorem eCB_def {gg : List D → Option Sl} : eCB gg fs ρ = (eArgsR fs ρ).bindL (kCB gg) := by
  rw [show eCB gg fs ρ = _ from eArgs_eq _ _ _]
  refine bindL_congr fun ds ρ => ?_
  show _ = R.ofO _ _
  cases gg (ds.map D.un) <;> rfl
def kPt (k : Option Int → Env → R) : D → Env → R := fun d ρ => match d.un with
  | .int i => k (some i) ρ
  | _ => .bad
@[simp] theorem kPt_def {k : Option Int → Env → R} {i : Int} (hd : d.un = .int i) : kPt k d ρ = k (some i) ρ := by unfold kPt; rw [hd]
@[simp] theorem kPt_int {k : Option Int → Env → R} {i : Int} : kPt k (.int i) ρ = k (some i) ρ := nrfl rfl
@[simp] theorem ePt_no (k : Option Int → Env → R) : ePt .no ρ k = k none ρ := nrfl rfl
@[simp] theorem ePt_at (k : Option Int → Env → R) : ePt (.at f) ρ k = (f ρ).bindV (kPt k) := nrfl rfl
def kSlC (d : D) (i : Option Int) : Option Int → Env → R := fun j ρ => R.ofO (slD d.un i j) ρ
@[simp] theorem kSlC_def {i j : Option Int} : kSlC d i j ρ = R.ofO (slD d.un i j) ρ := nrfl rfl
def kSlB (d : D) (hi : Pt) : Option Int → Env → R := fun i ρ => ePt hi ρ (kSlC d i)
@[simp] theorem kSlB_def {hi : Pt} {i : Option Int} : kSlB d hi i ρ = ePt hi ρ (kSlC d i) := nrfl rfl
def kSlA (lo hi : Pt) : D → Env → R := fun d ρ => ePt lo ρ (kSlB d hi)
@[simp] theorem kSlA_def {lo hi : Pt} : kSlA lo hi d ρ = ePt lo ρ (kSlB d hi) := nrfl rfl
@[simp] theorem eSl_def {lo hi : Pt} : eSl f lo hi ρ = (f ρ).bindV (kSlA lo hi) := by
  unfold eSl
  refine bindV_congr fun d ρ => ?_
  have h : ∀ (k k' : Option Int → Env → R) (p : Pt) (ρ : Env), (∀ i ρ, k i ρ = k' i ρ) → ePt p ρ k = ePt p ρ k' := fun k k' p ρ h => by
    have : k = k' := by funext i ρ; exact h i ρ
    rw [this]
  refine h _ _ lo ρ fun i ρ => h _ _ hi ρ fun j ρ => ?_
  show _ = R.ofO _ _
  cases slD d.un i j <;> rfl
def kIsi (ts : List Ty) : D → Env → R := fun d ρ => .ok (.val (.bool (isTs ts d.un))) ρ
@[simp] theorem kIsi_def {ts : List Ty} : kIsi ts d ρ = .ok (.val (.bool (isTs ts d.un))) ρ := nrfl rfl
@[simp] theorem eIsi_def {ts : List Ty} : eIsi ts f ρ = (f ρ).bindV (kIsi ts) := nrfl rfl
def kIdxB (ds : List D) : D → Env → R := fun e ρ => R.ofO (indexD ds e) ρ
@[simp] theorem kIdxB_def {ds : List D} : kIdxB ds e ρ = R.ofO (indexD ds e) ρ := nrfl rfl
def kIdxA (fb : EX) : D → Env → R := fun d ρ => match d.un with
  | .list ds => (fb ρ).bindV (kIdxB ds)
  | _ => .bad
@[simp] theorem kIdxA_def {ds : List D} : kIdxA fb (.list ds) ρ = (fb ρ).bindV (kIdxB ds) := nrfl rfl
@[simp] theorem eIdx_def : eIdx fa fb ρ = (fa ρ).bindV (kIdxA fb) := by
  unfold eIdx
  refine bindV_congr fun d ρ => ?_
  unfold kIdxA
  cases d.un with
  | list ds =>
    dsimp only
    refine bindV_congr fun e ρ => ?_
    show _ = R.ofO _ _
    cases indexD ds e <;> rfl
  | _ => dsimp only
@[simp] theorem eIdxT_def {ds : List D} : eIdxT ds fb ρ = (fb ρ).bindV (kIdxB ds) := by
  unfold eIdxT
  refine bindV_congr fun e ρ => ?_
  show _ = R.ofO _ _
  cases indexD ds e <;> rfl
def kItems : D → Env → R := fun d ρ => match d.un with
  | .dict kvs => .ok (.own (.lst (itemsD kvs))) ρ
  | _ => .bad
@[simp] theorem kItems_def {kvs : List (D × D)} : kItems (.dict kvs) ρ = .ok (.own (.lst (itemsD kvs))) ρ := nrfl rfl
@[simp] theorem eItems_def : eItems f ρ = (f ρ).bindV kItems := nrfl rfl
def R.flat (r : R) (ρ : Env) : R := match r with
  | .ok (.val d) _ => if flatD d = true then .ok (.val d) ρ else .bad
  | _ => .bad
@[simp] theorem flat_ok : (R.ok (.val d) ρ').flat ρ = if flatD d = true then .ok (.val d) ρ else .bad := nrfl rfl
@[simp] theorem flat_ite : (if P then r else r').flat ρ = if P then r.flat ρ else r'.flat ρ := by split <;> rfl
@[simp] theorem eBor_def : eBor f ρ = (f (ρ.map bor1)).flat ρ := nrfl rfl
@[simp] theorem bor1_val : bor1 (.val d) = .val d := nrfl rfl
@[simp] theorem bor1_emp : bor1 .emp = .emp := nrfl rfl
@[simp] theorem bor1_fn (x : Str) : bor1 (.fn x) = .fn x := nrfl rfl
@[simp] theorem bor1_own' (c : Cl) : bor1 (.own c) = .val c.frz := nrfl rfl
@[simp] theorem bor1_ref (c : Cl) : bor1 (.ref c) = .val c.frz := nrfl rfl
@[simp] theorem flatD_none : flatD .none = true := nrfl rfl
@[simp] theorem flatD_bool (b : Bool) : flatD (.bool b) = true := nrfl rfl
@[simp] theorem flatD_int (b : Int) : flatD (.int b) = true := nrfl rfl
@[simp] theorem flatD_str (b : Str) : flatD (.str b) = true := nrfl rfl
@[simp] theorem flatD_ite : flatD (if P then d else e) = if P then flatD d else flatD e := by split <;> rfl
/-! own lists -/
def slL (s : Option Sl) : Option (List D) := match s with
  | some (.own (.lst c)) => some c
  | some (.ref (.lst c)) => some c
  | _ => none
@[simp] theorem slL_own {c : List D} : slL (some (.own (.lst c))) = some c := nrfl rfl
@[simp] theorem slL_ref {c : List D} : slL (some (.ref (.lst c))) = some c := nrfl rfl
@[simp] theorem getL_def : getL ρ i = slL ρ[i]? := by
  unfold getL slL
  cases ρ[i]? with
  | none => rfl
  | some s => cases s with
    | own c => cases c <;> rfl
    | ref c => cases c <;> rfl
    | _ => rfl
def slP (s : Option Sl) (ρ : Env) (i : Nat) (c : List D) : Env := match s with
  | some (.own _) => ρ.set i (.own (.lst c))
  | some (.ref _) => ρ.set i (.ref (.lst c))
  | _ => ρ
@[simp] theorem slP_own {c : Cl} {l : List D} : slP (some (.own c)) ρ i l = ρ.set i (.own (.lst l)) := nrfl rfl
@[simp] theorem slP_ref {c : Cl} {l : List D} : slP (some (.ref c)) ρ i l = ρ.set i (.ref (.lst l)) := nrfl rfl
@[simp] theorem putL_def {c : List D} : putL ρ i c = slP ρ[i]? ρ i c := by
  unfold putL putC slP
  cases ρ[i]? with
  | none => rfl
  | some s => cases s <;> rfl
def mOut (x : Option (D × List D)) (ρ : Env) (i : Nat) : R := match x with
  | some (o, c') => .ok (.val o) (putL ρ i c')
  | none => .bad
@[simp] theorem mOut_some {x : D} {c : List D} : mOut (some (x, c)) ρ i = .ok (.val x) (putL ρ i c) := nrfl rfl
@[simp] theorem mOut_none : mOut none ρ i = .bad := nrfl rfl
@[simp] theorem mOut_ite {a b : Option (D × List D)} : mOut (if P then a else b) ρ i = if P then mOut a ρ i else mOut b ρ i := by split <;> rfl
def kMethL (gg : List D → List D → Option (D × List D)) (i : Nat) (ds : List D) (ρ : Env) (c : Option (List D)) : R := match c with
  | some c => mOut (gg c ds) ρ i
  | none => .bad
@[simp] theorem kMethL_some {gg : List D → List D → Option (D × List D)} {ds c : List D} : kMethL gg i ds ρ (some c) = mOut (gg c ds) ρ i := nrfl rfl
def kMeth (gg : List D → List D → Option (D × List D)) (i : Nat) : List D → Env → R := fun ds ρ => kMethL gg i ds ρ (getL ρ i)
@[simp] theorem kMeth_def {gg : List D → List D → Option (D × List D)} {ds : List D} : kMeth gg i ds ρ = kMethL gg i ds ρ (getL ρ i) := nrfl rfl
def guardL (c : Option (List D)) (r : R) : R := match c with
  | some _ => r
  | none => .bad
@[simp] theorem guardL_some {c : List D} : guardL (some c) r = r := nrfl rfl
@[simp] theorem eMeth_def {gg : List D → List D → Option (D × List D)} : eMeth i gg fs ρ = guardL (getL ρ i) ((eArgsR fs ρ).bindL (kMeth gg i)) := by
  unfold eMeth guardL
  cases getL ρ i with
  | none => rfl
  | some c =>
    simp only
    rw [eArgs_eq]
    refine bindL_congr fun ds ρ => ?_
    unfold kMeth kMethL
    cases getL ρ i with
    | none => rfl
    | some c =>
      simp only [mOut] <;> (cases gg c ds <;> rfl)
/-! statements -/
def SR.seq (s : SR) (q : SX) : SR := match s with
  | .nx ρ' => q ρ'
  | r => r
@[simp] theorem seq_nx : (SR.nx ρ).seq q = q ρ := nrfl rfl
@[simp] theorem seq_ret : (SR.ret o ρ).seq q = .ret o ρ := nrfl rfl
@[simp] theorem seq_bad : SR.bad.seq q = .bad := nrfl rfl
@[simp] theorem seq_brk : (SR.brk ρ).seq q = .brk ρ := nrfl rfl
@[simp] theorem seq_ct : (SR.ct ρ).seq q = .ct ρ := nrfl rfl
@[simp] theorem seq_exc : (SR.exc cn xs ρ).seq q = .exc cn xs ρ := nrfl rfl
@[simp] theorem seq_ite : (if P then s else s').seq q = if P then s.seq q else s'.seq q := by split <;> rfl
@[simp] theorem sNx_def : sNx ρ = .nx ρ := nrfl rfl
@[simp] theorem sSeq_def : sSeq p q ρ = (p ρ).seq q := by unfold sSeq SR.seq; cases p ρ <;> rfl
def SR.ofE (o : Option Env) : SR := match o with
  | some ρ => .nx ρ
  | none => .bad
@[simp] theorem ofE_some : SR.ofE (some ρ) = .nx ρ := nrfl rfl
@[simp] theorem ofE_none : SR.ofE none = .bad := nrfl rfl
def asgO (i : Nat) (s : Option Sl) (ρ : Env) : SR := match s with
  | some s => SR.ofE (setSl i s ρ)
  | none => .bad
@[simp] theorem asgO_some : asgO i (some o) ρ = SR.ofE (setSl i o ρ) := nrfl rfl
def kAsg (i : Nat) : Sl → Env → SR := fun o ρ => asgO i o.toVal ρ
@[simp] theorem kAsg_def : kAsg i o ρ = asgO i o.toVal ρ := nrfl rfl
theorem bs_congr {k k' : Sl → Env → SR} (h : ∀ d ρ, k d ρ = k' d ρ) : r.bs k = r.bs k' := by
  have : k = k' := by funext d ρ; exact h d ρ
  rw [this]
@[simp] theorem sAsg_def : sAsg i f ρ = (f ρ).bs (kAsg i) := by
  unfold sAsg
  refine bs_congr fun o ρ => ?_
  unfold kAsg asgO SR.ofE
  cases o.toVal with
  | none => rfl
  | some s => simp only <;> (cases setSl i s ρ <;> rfl)
def kAsgO (i : Nat) : Sl → Env → SR := fun o ρ => asgO i (wantsOwn o) ρ
@[simp] theorem wantsOwn_own (c : Cl) : wantsOwn (.own c) = some (.own c) := nrfl rfl
@[simp] theorem kAsgO_def : kAsgO i o ρ = asgO i (wantsOwn o) ρ := nrfl rfl
@[simp] theorem sAsgO_def : sAsgO i f ρ = (f ρ).bs (kAsgO i) := by
  unfold sAsgO
  refine bs_congr fun o ρ => ?_
  unfold kAsgO asgO SR.ofE wantsOwn
  cases o with
  | own c => simp only <;> (cases setSl i (.own c) ρ <;> rfl)
  | _ => rfl
def tgtO (t : Tg) (s : Option D) (ρ : Env) : SR := match s with
  | some d => SR.ofE (t.h d ρ)
  | none => .bad
@[simp] theorem tgtO_some {t : Tg} : tgtO t (some d) ρ = SR.ofE (t.h d ρ) := nrfl rfl
def kTgt (t : Tg) : Sl → Env → SR := fun o ρ => tgtO t o.frz ρ
@[simp] theorem kTgt_def {t : Tg} : kTgt t o ρ = tgtO t o.frz ρ := nrfl rfl
@[simp] theorem sTgt_def {t : Tg} : sTgt t f ρ = (f ρ).bs (kTgt t) := by
  unfold sTgt
  refine bs_congr fun o ρ => ?_
  unfold kTgt tgtO SR.ofE
  cases o.frz with
  | none => rfl
  | some d => simp only <;> (cases t.h d ρ <;> rfl)
def kDrop : Sl → Env → SR := fun _ ρ => .nx ρ
@[simp] theorem kDrop_def : kDrop o ρ = .nx ρ := nrfl rfl
@[simp] theorem sDrop_def : sDrop f ρ = (f ρ).bs kDrop := nrfl rfl
def kRet : Sl → Env → SR := fun o ρ => .ret o ρ
@[simp] theorem kRet_def : kRet o ρ = .ret o ρ := nrfl rfl
@[simp] theorem sRet_def : sRet f ρ = (f ρ).bs kRet := nrfl rfl
def kIfS (p q : SX) : Bool → Env → SR := fun b ρ => if b = true then p ρ else q ρ
@[simp] theorem kIfS_def : kIfS p q b ρ = if b = true then p ρ else q ρ := nrfl rfl
@[simp] theorem sIf_def : sIf c p q ρ = (c ρ).bsB (kIfS p q) := nrfl rfl
@[simp] theorem sBrk_def : sBrk ρ = .brk ρ := nrfl rfl
@[simp] theorem sCt_def : sCt ρ = .ct ρ := nrfl rfl
def R.raise (r : R) (cn : Str) (fl : List Str) : SR := match r with
  | .ok (.val (.list ds)) ρ1 => .exc cn (fl.zip ds) ρ1
  | .exc c' gs ρ1 => .exc c' gs ρ1
  | _ => .bad
@[simp] theorem raise_ok {fl : List Str} {ds : List D} : (R.ok (.val (.list ds)) ρ).raise cn fl = .exc cn (fl.zip ds) ρ := nrfl rfl
@[simp] theorem sRaise_def {fl : List Str} : sRaise cn fl fs ρ = (eArgsR fs ρ).raise cn fl := nrfl rfl
def setIx (i : Nat) (d : D) (k : Int) (ρ : Env) (c : Option (List D)) : SR := match c with
  | some c => (match ixN c.length k with
    | some j => .nx (putL ρ i (c.set j d))
    | none => .bad)
  | none => .bad
def ixO (o : Option Nat) (i : Nat) (d : D) (ρ : Env) (c : List D) : SR := match o with
  | some j => .nx (putL ρ i (c.set j d))
  | none => .bad
@[simp] theorem ixO_some {c : List D} : ixO (some j) i d ρ c = .nx (putL ρ i (c.set j d)) := nrfl rfl
@[simp] theorem setIx_some {k : Int} {c : List D} : setIx i d k ρ (some c) = ixO (ixN c.length k) i d ρ c := nrfl rfl
def kSetB (i : Nat) (d : D) : Sl → Env → SR := fun ok ρ => match ok with
  | .val (.int k) => setIx i d k ρ (getL ρ i)
  | _ => .bad
@[simp] theorem kSetB_def {k : Int} : kSetB i d (.val (.int k)) ρ = setIx i d k ρ (getL ρ i) := nrfl rfl
def guardS (c : Option (List D)) (r : SR) : SR := match c with
  | some _ => r
  | none => .bad
@[simp] theorem guardS_some {c : List D} : guardS (some c) s = s := nrfl rfl
def setD (i : Nat) (g : EX) (d : Option D) (ρ : Env) : SR := match d with
  | some d => guardS (getL ρ i) ((g ρ).bs (kSetB i d))
  | none => .bad
@[simp] theorem setD_some : setD i g (some d) ρ = guardS (getL ρ i) ((g ρ).bs (kSetB i d)) := nrfl rfl
def kSetA (i : Nat) (g : EX) : Sl → Env → SR := fun o ρ => setD i g o.frz ρ
@[simp] theorem kSetA_def : kSetA i g o ρ = setD i g o.frz ρ := nrfl rfl
@[simp] theorem sSetIx_def : sSetIx i f g ρ = (f ρ).bs (kSetA i g) := by
  unfold sSetIx
  refine bs_congr fun o ρ => ?_
  unfold kSetA setD
  cases o.frz with
  | none => rfl
  | some d =>
    simp only
    unfold guardS
    cases getL ρ i with
    | none => rfl
    | some c =>
      refine bs_congr fun ok ρ => ?_
      unfold kSetB setIx
      cases ok with
      | val x =>
        cases x with
        | int k => simp only <;> (cases getL ρ i <;> rfl)
        | _ => rfl
      | _ => rfl
def SR.try_ (s : SR) (hs : List Hd) : SR := match s with
  | .exc c fs ρ1 => handleD hs c fs ρ1
  | r => r
@[simp] theorem try_exc {hs : List Hd} : (SR.exc cn xs ρ).try_ hs = handleD hs cn xs ρ := nrfl rfl
@[simp] theorem try_nx {hs : List Hd} : (SR.nx ρ).try_ hs = .nx ρ := nrfl rfl
@[simp] theorem try_ret {hs : List Hd} : (SR.ret o ρ).try_ hs = .ret o ρ := nrfl rfl
@[simp] theorem try_ct {hs : List Hd} : (SR.ct ρ).try_ hs = .ct ρ := nrfl rfl
@[simp] theorem try_brk {hs : List Hd} : (SR.brk ρ).try_ hs = .brk ρ := nrfl rfl
@[simp] theorem try_ite {hs : List Hd} : (if P then s else s').try_ hs = if P then s.try_ hs else s'.try_ hs := by split <;> rfl
@[simp] theorem sTry_def {hs : List Hd} : sTry hs p ρ = (p ρ).try_ hs := by unfold sTry SR.try_; cases p ρ <;> rfl
def OR.cons' (r : OR) (s : Sl) : OR := match r with
  | .ok os ρ => .ok (s :: os) ρ
  | r => r
@[simp] theorem ocons_ok {os : List Sl} : (OR.ok os ρ).cons' o = .ok (o :: os) ρ := nrfl rfl
@[simp] theorem ocons_exc : (OR.exc cn xs ρ).cons' o = .exc cn xs ρ := nrfl rfl
@[simp] theorem ocons_ite {a b : OR} : (if P then a else b).cons' o = if P then a.cons' o else b.cons' o := by split <;> rfl
@[simp] theorem outsR_nil : outsR [] ρ = .ok [] ρ := nrfl rfl
def kOutO (fs : List (Bool × EX)) (s : Option Sl) (ρ : Env) : OR := match s with
  | some s => (outsR fs ρ).cons' s
  | none => .bad
@[simp] theorem kOutO_some {fs : List (Bool × EX)} : kOutO fs (some o) ρ = (outsR fs ρ).cons' o := nrfl rfl
def kOut (b : Bool) (fs : List (Bool × EX)) : Sl → Env → OR := fun o ρ => kOutO fs (if b = true then wantsOwn o else o.toVal) ρ
@[simp] theorem kOut_def {b : Bool} {fs : List (Bool × EX)} : kOut b fs o ρ = kOutO fs (if b = true then wantsOwn o else o.toVal) ρ := nrfl rfl
@[simp] theorem outsR_cons {b : Bool} {fs : List (Bool × EX)} : outsR ((b, f) :: fs) ρ = (f ρ).toO (kOut b fs) := by
  show (f ρ).toO _ = _
  have : ∀ (k k' : Sl → Env → OR), (∀ o ρ, k o ρ = k' o ρ) → (f ρ).toO k = (f ρ).toO k' := fun k k' h => by
    have : k = k' := by funext d ρ; exact h d ρ
    rw [this]
  refine this _ _ fun o ρ => ?_
  unfold kOut kOutO
  cases (if b = true then wantsOwn o else o.toVal) with
  | none => rfl
  | some s => simp only <;> (cases outsR fs ρ <;> rfl)
def OR.par (r : OR) (is : List Nat) : SR := match r with
  | .bad => .bad
  | .exc c gs ρ1 => .exc c gs ρ1
  | .ok os ρ1 => SR.ofE (storeE is os ρ1)
@[simp] theorem par_ok {is : List Nat} {os : List Sl} : (OR.ok os ρ).par is = SR.ofE (storeE is os ρ) := nrfl rfl
@[simp] theorem par_exc {is : List Nat} : (OR.exc cn xs ρ).par is = .exc cn xs ρ := nrfl rfl
@[simp] theorem par_ite {is : List Nat} {a b : OR} : (if P then a else b).par is = if P then a.par is else b.par is := by split <;> rfl
@[simp] theorem sPar_def {is : List Nat} {fs : List (Bool × EX)} : sPar is fs ρ = (outsR fs ρ).par is := by
  unfold sPar OR.par
  cases outsR fs ρ with
  | ok os ρ => simp only; unfold SR.ofE; cases storeE is os ρ <;> rfl
  | _ => rfl
@[simp] theorem storeE_nil : storeE [] [] ρ = some ρ := nrfl rfl
@[simp] theorem storeE_cons {is : List Nat} {s : Sl} {os : List Sl} : storeE (i :: is) (s :: os) ρ = (setSl i s ρ).bind (storeE is os) := nrfl rfl
def slS (s : Option Sl) (i : Nat) (o : Sl) (ρ : Env) : Option Env := match s with
  | some (.ref _) => none
  | some _ => some (ρ.set i o)
  | none => none
@[simp] theorem slS_val : slS (some (.val d)) i o ρ = some (ρ.set i o) := nrfl rfl
@[simp] theorem slS_emp : slS (some .emp) i o ρ = some (ρ.set i o) := nrfl rfl
@[simp] theorem slS_own {c : Cl} : slS (some (.own c)) i o ρ = some (ρ.set i o) := nrfl rfl
@[simp] theorem slS_fn {c : Str} : slS (some (.fn c)) i o ρ = some (ρ.set i o) := nrfl rfl
@[simp] theorem setSl_def {s : Sl} : setSl i s ρ = slS ρ[i]? i s ρ := by
  unfold setSl slS
  cases ρ[i]? with
  | none => rfl
  | some s => cases s <;> rfl
/-! calls -/
def SR.toF (s : SR) (as : List Sl) : FR := match s with
  | .ret o ρ => .ret o (back as ρ)
  | .nx ρ => .ret (.val .none) (back as ρ)
  | .exc c fs ρ => .exc c fs (back as ρ)
  | _ => .bad
@[simp] theorem toF_ret {as : List Sl} : (SR.ret o ρ).toF as = .ret o (back as ρ) := nrfl rfl
@[simp] theorem toF_nx {as : List Sl} : (SR.nx ρ).toF as = .ret (.val .none) (back as ρ) := nrfl rfl
@[simp] theorem toF_exc {as : List Sl} : (SR.exc cn xs ρ).toF as = .exc cn xs (back as ρ) := nrfl rfl
@[simp] theorem toF_ite {as : List Sl} : (if P then s else s').toF as = if P then s.toF as else s'.toF as := by split <;> rfl
@[simp] theorem ite_fret {as : List Sl} : (if P then FR.ret o as else FR.ret o' as) = FR.ret (if P then o else o') as := by split <;> rfl
@[simp] theorem denOf_def {m : Nat} {as : List Sl} : denOf m p as = (p (as ++ List.replicate (m - as.length) .emp)).toF as := by
  unfold denOf SR.toF
  cases p (as ++ List.replicate (m - as.length) .emp) <;> rfl
@[simp] theorem back_nil : back [] ρ = [] := by cases ρ <;> rfl
@[simp] theorem back_cons {s r : Sl} {as : List Sl} : back (s :: as) (r :: ρ) = (if s.isRef = true then r else s) :: back as ρ := nrfl rfl
@[simp] theorem isRef_val : (Sl.val d).isRef = false := nrfl rfl
@[simp] theorem isRef_fn (x : Str) : (Sl.fn x).isRef = false := nrfl rfl
@[simp] theorem isRef_ref (c : Cl) : (Sl.ref c).isRef = true := nrfl rfl
@[simp] theorem isRef_own (c : Cl) : (Sl.own c).isRef = false := nrfl rfl
@[simp] theorem isRef_emp : Sl.emp.isRef = false := nrfl rfl
@[simp] theorem isOwn_val : (Sl.val d).isOwn = false := nrfl rfl
@[simp] theorem isOwn_fn (x : Str) : (Sl.fn x).isOwn = false := nrfl rfl
@[simp] theorem isOwn_ref (c : Cl) : (Sl.ref c).isOwn = true := nrfl rfl
@[simp] theorem isOwn_own (c : Cl) : (Sl.own c).isOwn = true := nrfl rfl
@[simp] theorem isOwn_emp : Sl.emp.isOwn = false := nrfl rfl
def CA.cons' (r : CA) (x : Sl ⊕ Nat) : CA := match r with
  | .ok l ρ => .ok (x :: l) ρ
  | r => r
@[simp] theorem ccons_ok {x : Sl ⊕ Nat} {l : List (Sl ⊕ Nat)} : (CA.ok l ρ).cons' x = .ok (x :: l) ρ := nrfl rfl
@[simp] theorem ccons_exc {x : Sl ⊕ Nat} : (CA.exc cn xs ρ).cons' x = .exc cn xs ρ := nrfl rfl
@[simp] theorem ccons_ite {x : Sl ⊕ Nat} {a b : CA} : (if P then a else b).cons' x = if P then a.cons' x else b.cons' x := by split <;> rfl
@[simp] theorem cArgs_nil : cArgs [] ρ = .ok [] ρ := nrfl rfl
def kCA (as : List Ar) : Sl → Env → CA := fun s ρ => (cArgs as ρ).cons' (.inl s)
@[simp] theorem kCA_def {as : List Ar} : kCA as o ρ = (cArgs as ρ).cons' (.inl o) := nrfl rfl
@[simp] theorem cArgs_v {as : List Ar} : cArgs (.v f :: as) ρ = (f ρ).toC (kCA as) := by
  show (f ρ).toC _ = _
  have : ∀ (k k' : Sl → Env → CA), (∀ o ρ, k o ρ = k' o ρ) → (f ρ).toC k = (f ρ).toC k' := fun k k' h => by
    have : k = k' := by funext d ρ; exact h d ρ
    rw [this]
  refine this _ _ fun o ρ => ?_
  unfold kCA
  cases cArgs as ρ <;> rfl
def cR (s : Option Sl) (i : Nat) (r : CA) : CA := match s with
  | some (.own _) => r.cons' (.inr i)
  | some (.ref _) => r.cons' (.inr i)
  | _ => .bad
@[simp] theorem cR_own {c : Cl} {r : CA} : cR (some (.own c)) i r = r.cons' (.inr i) := nrfl rfl
@[simp] theorem cR_ref {c : Cl} {r : CA} : cR (some (.ref c)) i r = r.cons' (.inr i) := nrfl rfl
@[simp] theorem cArgs_r {as : List Ar} : cArgs (.r i :: as) ρ = cR ρ[i]? i (cArgs as ρ) := by
  simp only [cArgs]
  unfold cR
  cases ρ[i]? with
  | none => rfl
  | some s =>
    cases s with
    | own c => cases cArgs as ρ <;> rfl
    | ref c => cases cArgs as ρ <;> rfl
    | _ => rfl
def consO {α : Type} (x : Option α) (r : Option (List α)) : Option (List α) := match x with
  | some x => r.map (x :: ·)
  | none => none
@[simp] theorem consO_some {α : Type} {x : α} {r : List α} : consO (some x) (some r) = some (x :: r) := nrfl rfl
@[simp] theorem pickL_nil {l : List (Sl ⊕ Nat)} : pickL l [] = some [] := nrfl rfl
@[simp] theorem pickL_a {l : List (Sl ⊕ Nat)} {r : List Src} : pickL l (.a i :: r) = consO l[i]? (pickL l r) := by
  simp only [pickL]
  unfold consO
  cases l[i]? <;> rfl
@[simp] theorem pickL_d {l : List (Sl ⊕ Nat)} {r : List Src} : pickL l (.d j d :: r) = consO (some (.inl (.val d))) (pickL l r) := nrfl rfl
@[simp] theorem refsOf_nil : refsOf [] = [] := nrfl rfl
@[simp] theorem refsOf_inl {s : Sl} {l : List (Sl ⊕ Nat)} : refsOf (.inl s :: l) = refsOf l := nrfl rfl
@[simp] theorem refsOf_inr {l : List (Sl ⊕ Nat)} : refsOf (.inr i :: l) = i :: refsOf l := nrfl rfl
def slA (s : Option Sl) : Option Sl := match s with
  | some (.own c) => some (.ref c)
  | some (.ref c) => some (.ref c)
  | _ => none
@[simp] theorem slA_own {c : Cl} : slA (some (.own c)) = some (.ref c) := nrfl rfl
@[simp] theorem slA_ref {c : Cl} : slA (some (.ref c)) = some (.ref c) := nrfl rfl
@[simp] theorem mkAs_nil : mkAs [] ρ = some [] := nrfl rfl
@[simp] theorem mkAs_inl {s : Sl} {l : List (Sl ⊕ Nat)} : mkAs (.inl s :: l) ρ = consO (some s) (mkAs l ρ) := nrfl rfl
@[simp] theorem mkAs_inr {l : List (Sl ⊕ Nat)} : mkAs (.inr i :: l) ρ = consO (slA ρ[i]?) (mkAs l ρ) := by
  simp only [mkAs]
  unfold slA consO
  cases ρ[i]? with
  | none => rfl
  | some s => cases s <;> rfl
def slU (s : Option Sl) (i : Nat) (a : Option Sl) (ρ : Env) : Env := match s with
  | some s => ρ.set i (upd1 s a)
  | none => ρ
@[simp] theorem slU_some {s : Sl} {a : Option Sl} : slU (some s) i a ρ = ρ.set i (upd1 s a) := nrfl rfl
@[simp] theorem putB_nil {as : List Sl} : putB [] as ρ = ρ := nrfl rfl
@[simp] theorem putB_inl {s : Sl} {l : List (Sl ⊕ Nat)} {as : List Sl} : putB (.inl s :: l) as ρ = putB l as.tail ρ := nrfl rfl
@[simp] theorem putB_inr {l : List (Sl ⊕ Nat)} {as : List Sl} : putB (.inr i :: l) as ρ = putB l as.tail (slU ρ[i]? i as.head? ρ) := by
  simp only [putB]
  unfold slU
  cases ρ[i]? <;> rfl
@[simp] theorem upd1_own' {c c' : Cl} : upd1 (.own c) (some (.ref c')) = .own c' := nrfl rfl
@[simp] theorem upd1_ref {c c' : Cl} : upd1 (.ref c) (some (.ref c')) = .ref c' := nrfl rfl
def FR.toR (r : FR) (l : List (Sl ⊕ Nat)) (ρ : Env) : R := match r with
  | .bad => .bad
  | .ret o as' => .ok o (putB l as' ρ)
  | .exc c fs as' => .exc c fs (putB l as' ρ)
@[simp] theorem toR_ret {as : List Sl} {l : List (Sl ⊕ Nat)} : (FR.ret o as).toR l ρ = .ok o (putB l as ρ) := nrfl rfl
@[simp] theorem toR_exc {as : List Sl} {l : List (Sl ⊕ Nat)} : (FR.exc cn xs as).toR l ρ = .exc cn xs (putB l as ρ) := nrfl rfl
@[simp] theorem toR_ite {a b : FR} {l : List (Sl ⊕ Nat)} : (if P then a else b).toR l ρ = if P then a.toR l ρ else b.toR l ρ := by split <;> rfl
def callA (den : Den) (l : List (Sl ⊕ Nat)) (ρ : Env) (as : Option (List Sl)) : R := match as with
  | some as => (den as).toR l ρ
  | none => .bad
@[simp] theorem callA_some {den : Den} {l : List (Sl ⊕ Nat)} {as : List Sl} : callA den l ρ (some as) = (den as).toR l ρ := nrfl rfl
def callL (den : Den) (ρ : Env) (l : Option (List (Sl ⊕ Nat))) : R := match l with
  | some l => if (refsOf l).Nodup then callA den l ρ (mkAs l ρ) else .bad
  | none => .bad
@[simp] theorem callL_some {den : Den} {l : List (Sl ⊕ Nat)} : callL den ρ (some l) = if (refsOf l).Nodup then callA den l ρ (mkAs l ρ) else .bad := nrfl rfl
def CA.call (r : CA) (den : Den) (srcs : List Src) : R := match r with
  | .bad => .bad
  | .exc c fs ρ1 => .exc c fs ρ1
  | .ok l0 ρ1 => callL den ρ1 (pickL l0 srcs)
@[simp] theorem call_ok {den : Den} {srcs : List Src} {l : List (Sl ⊕ Nat)} : (CA.ok l ρ).call den srcs = callL den ρ (pickL l srcs) := nrfl rfl
@[simp] theorem call_exc {den : Den} {srcs : List Src} : (CA.exc cn xs ρ).call den srcs = .exc cn xs ρ := nrfl rfl
@[simp] theorem call_ite {den : Den} {srcs : List Src} {a b : CA} : (if P then a else b).call den srcs = if P then a.call den srcs else b.call den srcs := by split <;> rfl
@[simp] theorem eCallG_def {den : Den} {args : List Ar} {srcs : List Src} : eCallG den args srcs ρ = (cArgs args ρ).call den srcs := by
  unfold eCallG CA.call
  cases cArgs args ρ with
  | ok l ρ1 =>
    simp only
    unfold callL
    cases pickL l srcs with
    | none => rfl
    | some l =>
      simp only
      split
      · unfold callA
        cases mkAs l ρ1 with
        | none => rfl
        | some as => simp only; unfold FR.toR; cases den as <;> rfl
      · rfl
  | _ => rfl
/-! targets, walks -/
@[simp] theorem gN_h : (gN i).h d ρ = setSl i (.val d) ρ := nrfl rfl
@[simp] theorem gsN_h : gsN.h [] ρ = some ρ := nrfl rfl
@[simp] theorem gsC_h {t : Tg} {ts : Tgs} {ds : List D} : (gsC t ts).h (d :: ds) ρ = (t.h d ρ).bind (ts.h ds) := nrfl rfl
def gTo (ts : Tgs) (n : Nat) (d : D) (ρ : Env) : Option Env := match d with
  | .tuple ds => if ds.length = n then ts.h ds ρ else none
  | _ => none
@[simp] theorem gTo_tuple {ts : Tgs} {ds : List D} : gTo ts n (.tuple ds) ρ = if ds.length = n then ts.h ds ρ else none := nrfl rfl
@[simp] theorem gT_h {ts : Tgs} : (gT n ts).h d ρ = gTo ts n d.un ρ := by
  show (match d.un with | .tuple ds => if ds.length = n then ts.h ds ρ else none | _ => none) = _
  unfold gTo
  cases d.un <;> rfl
def kAny : D → Env → R := fun d ρ => match itB d.un with
  | some ds => .ok (.val (.list ds)) ρ
  | none => .bad
@[simp] theorem kAny_list {ds : List D} : kAny (.list ds) ρ = .ok (.val (.list ds)) ρ := nrfl rfl
@[simp] theorem kAny_tuple {ds : List D} : kAny (.tuple ds) ρ = .ok (.val (.list ds)) ρ := nrfl rfl
@[simp] theorem kAny_str {x : Str} : kAny (.str x) ρ = .ok (.val (.list (x.cps.toList.map fun c => .str ⟨#[c]⟩))) ρ := nrfl rfl
@[simp] theorem iAny_def : iAny f ρ = (f ρ).bindV kAny := nrfl rfl
def kRng1 : List D → Env → R := fun ds ρ => match ds.map D.un with
  | [.int j] => if -(2 ^ 62) ≤ j ∧ j < 2 ^ 62 then .ok (.val (.list (rngL 0 j.toNat))) ρ else .bad
  | _ => .bad
theorem kRng1_def {j : Int} : kRng1 [.int j] ρ = if -(2 ^ 62) ≤ j ∧ j < 2 ^ 62 then .ok (.val (.list (rngL 0 j.toNat))) ρ else .bad := rfl
theorem big62 {j : Int} (h0 : -1000000000 ≤ j) (h : j ≤ 1000000000) : -(2 ^ 62 : Int) ≤ j ∧ j < 2 ^ 62 := by
  have e : (2 ^ 62 : Int) = 4611686018427387904 := by decide
  rw [e]
  exact ⟨by omega, by omega⟩
/-- small enough for a range's end -/
def SmallI (j : Int) : Prop := -1000000000 ≤ j ∧ j ≤ 1000000000
theorem smI (j : Int) (h1 : -1000000000 ≤ j) (h2 : j ≤ 1000000000) : SmallI j := ⟨h1, h2⟩
theorem smL (j : Int) (h : decide (-1000000000 ≤ j ∧ j ≤ 1000000000) = true := by rfl) : SmallI j := by
  have := of_decide_eq_true h
  exact this
theorem smN {n : Nat} (h : n ≤ 1000000000) : SmallI (n : Int) := ⟨by omega, by omega⟩
@[simp] theorem kRng1_ok {j : Int} (h : SmallI j) : kRng1 [.int j] ρ = .ok (.val (.list (rngL 0 j.toNat))) ρ := by
  rw [kRng1_def, if_pos (big62 h.1 h.2)]
@[simp] theorem iRng1D_def : iRng1D f ρ = (eArgsR [f] ρ).bindL kRng1 := eArgs_eq _ _ _
def kRng2 : List D → Env → R := fun ds ρ => match ds.map D.un with
  | [.int i, .int j] => if -(2 ^ 62) ≤ i ∧ i < 2 ^ 62 ∧ -(2 ^ 62) ≤ j ∧ j < 2 ^ 62 then .ok (.val (.list (rngL i (j - i).toNat))) ρ else .bad
  | _ => .bad
theorem kRng2_def {i j : Int} : kRng2 [.int i, .int j] ρ = if -(2 ^ 62) ≤ i ∧ i < 2 ^ 62 ∧ -(2 ^ 62) ≤ j ∧ j < 2 ^ 62 then .ok (.val (.list (rngL i (j - i).toNat))) ρ else .bad := rfl
@[simp] theorem kRng2_ok {i j : Int} (h : SmallI i) (h2 : SmallI j) : kRng2 [.int i, .int j] ρ = .ok (.val (.list (rngL i (j - i).toNat))) ρ := by
  obtain ⟨a, b⟩ := big62 h.1 h.2
  obtain ⟨c, d⟩ := big62 h2.1 h2.2
  rw [kRng2_def, if_pos ⟨a, b, c, d⟩]
@[simp] theorem iRng2D_def : iRng2D f g ρ = (eArgsR [f, g] ρ).bindL kRng2 := eArgs_eq _ _ _
def R.for_ (r : R) (t : Tg) (p : SX) : SR := match r with
  | .ok (.val (.list ds)) ρ1 => forD t p ds ρ1
  | .exc c fs ρ1 => .exc c fs ρ1
  | _ => .bad
@[simp] theorem for_ok {t : Tg} {ds : List D} : (R.ok (.val (.list ds)) ρ).for_ t p = forD t p ds ρ := nrfl rfl
@[simp] theorem for_exc {t : Tg} : (R.exc cn xs ρ).for_ t p = .exc cn xs ρ := nrfl rfl
@[simp] theorem for_ite {t : Tg} : (if P then r else r').for_ t p = if P then r.for_ t p else r'.for_ t p := by split <;> rfl
@[simp] theorem sFor_def {t : Tg} : sFor f t p ρ = (f ρ).for_ t p := by unfold sFor R.for_; cases f ρ <;> rfl
end
end Dk

set_option Elab.async false
set_option linter.all false
set_option maxRecDepth 100000
set_option maxHeartbeats 4000000
/-! Dk18: operators by simp -/
namespace Dk
open PySem PySem.Spec L2 PyProof.Rows
section
variable {i j : Int} {a b : Bool} {x y : Str} {ds es : List D} {d e : D}
theorem ofString_inj {s t : String} : (Str.ofString s = Str.ofString t) = (s = t) := by
  apply propext
  constructor
  · intro h
    rw [Str.ofString_eq_toList, Str.ofString_eq_toList] at h
    simp only [Str.mk.injEq] at h
    have h2 : s.toList.map Char.toNat = t.toList.map Char.toNat := by simpa using h
    have h3 : s.toList = t.toList := by
      have inj : ∀ (l m : List Char), l.map Char.toNat = m.map Char.toNat → l = m := by
        intro l
        induction l with
        | nil => intro m h; cases m <;> simp_all
        | cons c l ih =>
          intro m h
          cases m with
          | nil => simp at h
          | cons c' m =>
            simp only [List.map_cons, List.cons.injEq] at h
            have : c = c' := Char.ext (UInt32.toNat_inj.mp h.1)
            rw [this, ih m h.2]
      exact inj _ _ h2
    exact String.toList_inj.mp h3
  · intro h; rw [h]
theorem canLay_ofString (s : String) : PyData.canLay0 (.str (Str.ofString s)) = true := by
  show PyData.strOk (Str.ofString s) = true
  unfold PyData.strOk
  rw [Str.ofString_eq_toList]
  rw [Array.all_eq_true']
  intro c hc
  simp at hc
  obtain ⟨ch, _, rfl⟩ := hc
  have := ch.valid
  simp
  unfold UInt32.isValidChar Nat.isValidChar at this
  show ch.val.toNat < 1114112
  omega
@[simp] theorem addD_int : addD (.int i) (.int j) = some (.val (.int (i + j))) := nrfl rfl
@[simp] theorem addD_list : addD (.list ds) (.list es) = if ds.length + es.length ≤ sizeLine then some (.own (.lst (ds ++ es))) else none := nrfl rfl
@[simp] theorem addD_tuple : addD (.tuple ds) (.tuple es) = if ds.length + es.length ≤ sizeLine then some (.val (.tuple (ds ++ es))) else none := nrfl rfl
@[simp] theorem addD_str : addD (.str x) (.str y) = if x.length + y.length ≤ sizeLine then some (.val (.str (x ++ y))) else none := nrfl rfl
@[simp] theorem subD_int : subD (.int i) (.int j) = some (.val (.int (i - j))) := nrfl rfl
@[simp] theorem mulD_int : mulD (.int i) (.int j) = if mulOk i j then some (.val (.int (i * j))) else none := nrfl rfl
@[simp] theorem mulD_list : mulD (.list ds) (.int j) = if 0 ≤ j ∧ j ≤ 1000000 ∧ ds.length ≤ 16 then some (.own (.lst (List.replicate j.toNat ds).flatten)) else none := nrfl rfl
@[simp] theorem fdivD_int : fdivD (.int i) (.int j) = if j ≠ 0 ∧ j.natAbs < 1073741824 then some (.val (.int (i.fdiv j))) else none := nrfl rfl
@[simp] theorem modD_int : modD (.int i) (.int j) = if j ≠ 0 then some (.val (.int (i.fmod j))) else none := nrfl rfl
@[simp] theorem powD_int : powD (.int i) (.int j) = if 0 ≤ j ∧ j ≤ 1000000 ∧ i.natAbs < 2 ^ 64 then some (.val (.int (i ^ j.toNat))) else none := nrfl rfl
@[simp] theorem negD_int : negD (.int i) = some (.val (.int (-i))) := nrfl rfl
theorem shp (h : d.toP.canLay0 = true) (h2 : d.toP.depth ≤ 64) : SeqAt.shaped d.toP = true := by
  unfold SeqAt.shaped
  rw [h, decide_eq_true h2]; rfl
@[simp] theorem shp_int : SeqAt.shaped (D.int i).toP = true := nrfl rfl
@[simp] theorem shp_bool : SeqAt.shaped (D.bool a).toP = true := nrfl rfl
@[simp] theorem shp_none : SeqAt.shaped D.none.toP = true := nrfl rfl
@[simp] theorem shp_str (s : String) : SeqAt.shaped (D.str (Str.ofString s)).toP = true := shp (canLay_ofString s) (Nat.zero_le _)
@[simp] theorem eqv_int : PyData.eqv (D.int i).toP (D.int j).toP = decide (i = j) := by
  show (i == j) = decide (i = j)
  by_cases h : i = j <;> simp [h]
@[simp] theorem eqv_bool : PyData.eqv (D.bool a).toP (D.bool b).toP = (a == b) := nrfl rfl
@[simp] theorem eqv_none : PyData.eqv D.none.toP D.none.toP = true := nrfl rfl
@[simp] theorem eqv_str : PyData.eqv (D.str x).toP (D.str y).toP = decide (x = y) := by
  show (x == y) = decide (x = y)
  by_cases h : x = y <;> simp [h]
@[simp] theorem eqD_int : eqD (.int i) (.int j) = some (.val (.bool (decide (i = j)))) := by unfold eqD; rw [if_pos ⟨shp_int, shp_int⟩, eqv_int]
@[simp] theorem eqD_bool : eqD (.bool a) (.bool b) = some (.val (.bool (a == b))) := by unfold eqD; rw [if_pos ⟨shp_bool, shp_bool⟩, eqv_bool]
@[simp] theorem eqD_str (s t : String) : eqD (.str (Str.ofString s)) (.str (Str.ofString t)) = some (.val (.bool (decide (s = t)))) := by unfold eqD; rw [if_pos ⟨shp_str s, shp_str t⟩, eqv_str]; simp only [ofString_inj]
@[simp] theorem neD_int : neD (.int i) (.int j) = some (.val (.bool (!decide (i = j)))) := by unfold neD; rw [if_pos ⟨shp_int, shp_int⟩, eqv_int]
@[simp] theorem neD_bool : neD (.bool a) (.bool b) = some (.val (.bool (!(a == b)))) := by unfold neD; rw [if_pos ⟨shp_bool, shp_bool⟩, eqv_bool]
@[simp] theorem neD_str (s t : String) : neD (.str (Str.ofString s)) (.str (Str.ofString t)) = some (.val (.bool (!decide (s = t)))) := by unfold neD; rw [if_pos ⟨shp_str s, shp_str t⟩, eqv_str]; simp only [ofString_inj]
@[simp] theorem ltD_int : ltD (.int i) (.int j) = some (.val (.bool (decide (i < j)))) := nrfl rfl
@[simp] theorem gtD_int : gtD (.int i) (.int j) = some (.val (.bool (decide (j < i)))) := nrfl rfl
@[simp] theorem leD_int : leD (.int i) (.int j) = some (.val (.bool (decide (i ≤ j)))) := nrfl rfl
@[simp] theorem geD_int : geD (.int i) (.int j) = some (.val (.bool (decide (j ≤ i)))) := nrfl rfl
@[simp] theorem isD_none : isD d .none = some (.val (.bool (isNoneB d))) := by cases d <;> rfl
@[simp] theorem isD_bool : isD (.bool a) (.bool b) = some (.val (.bool (decide (a = b)))) := nrfl rfl
@[simp] theorem isNotD_none : isNotD d .none = some (.val (.bool (!isNoneB d))) := by cases d <;> rfl
@[simp] theorem isNotD_bool : isNotD (.bool a) (.bool b) = some (.val (.bool (!decide (a = b)))) := nrfl rfl
@[simp] theorem truB_bool : truB (.bool a) = some a := nrfl rfl
@[simp] theorem truB_int : truB (.int i) = some (i != 0) := nrfl rfl
@[simp] theorem truB_none : truB .none = some false := nrfl rfl
@[simp] theorem lenD_list : lenD [.list ds] = some (.val (.int ds.length)) := nrfl rfl
@[simp] theorem lenD_tuple : lenD [.tuple ds] = some (.val (.int ds.length)) := nrfl rfl
@[simp] theorem lenD_dict (kvs : List (D × D)) : lenD [.dict kvs] = some (.val (.int kvs.length)) := nrfl rfl
@[simp] theorem lenD_str : lenD [.str x] = if x.length ≤ sizeLine then some (.val (.int x.length)) else none := nrfl rfl
@[simp] theorem intD_int : intD [.int i] = some (.val (.int i)) := nrfl rfl
@[simp] theorem intD_bool : intD [.bool a] = some (.val (.int (if a then 1 else 0))) := nrfl rfl
@[simp] theorem absD_int : absD [.int i] = some (.val (.int (if i < 0 then -i else i))) := nrfl rfl
@[simp] theorem max2D_int : max2D [.int i, .int j] = some (.val (.int (if j > i then j else i))) := nrfl rfl
@[simp] theorem min2D_int : min2D [.int i, .int j] = some (.val (.int (if j < i then j else i))) := nrfl rfl
@[simp] theorem listD_list : listD [.list ds] = some (.own (.lst ds)) := nrfl rfl
@[simp] theorem listD_tuple : listD [.tuple ds] = some (.own (.lst ds)) := nrfl rfl
@[simp] theorem tupleD_list : tupleD [.list ds] = some (.val (.tuple ds)) := nrfl rfl
@[simp] theorem tupleD_tuple : tupleD [.tuple ds] = some (.val (.tuple ds)) := nrfl rfl
@[simp] theorem allD_list : allD [.list ds] = (boolsOf ds).map fun bs => .val (.bool (bs.all id)) := nrfl rfl
@[simp] theorem anyD_list : anyD [.list ds] = (boolsOf ds).map fun bs => .val (.bool (bs.any id)) := nrfl rfl
@[simp] theorem sumD_list : sumD [.list ds] = (intsOf ds).map fun bs => .val (.int bs.sum) := nrfl rfl
@[simp] theorem boolsOf_map {α : Type} (f : α → Bool) : ∀ l : List α, boolsOf (l.map fun a => D.bool (f a)) = some (l.map f)
  | [] => rfl
  | a :: l => by simp [boolsOf, boolsOf_map f l]
@[simp] theorem intsOf_map {α : Type} (f : α → Int) : ∀ l : List α, intsOf (l.map fun a => D.int (f a)) = some (l.map f)
  | [] => rfl
  | a :: l => by simp [intsOf, intsOf_map f l]
@[simp] theorem intsOf_int (l : List Int) : intsOf (l.map D.int) = some l := by
  have := intsOf_map (fun z : Int => z) l
  simpa using this
@[simp] theorem ixD_list : ixD (.list ds) (.int i) = (atI ds i).map .val := nrfl rfl
@[simp] theorem ixD_tuple : ixD (.tuple ds) (.int i) = (atI ds i).map .val := nrfl rfl
theorem atI_def {α : Type} (xs : List α) (i : Int) : atI xs i = (ixN xs.length i).bind fun j => xs[j]? := rfl
@[simp] theorem atI_nat {α : Type} (xs : List α) (n : Nat) : atI xs (n : Int) = xs[n]? := by
  unfold L2.atI L2.ixN
  rw [if_pos (Int.natCast_nonneg n)]
  by_cases h : (n : Int) < xs.length
  · rw [if_pos h]; simp
  · rw [if_neg h]
    rw [List.getElem?_eq_none (by omega)]; rfl
@[simp] theorem atI_0 {α : Type} (xs : List α) : atI xs 0 = xs[0]? := atI_nat xs 0
@[simp] theorem atI_1 {α : Type} (xs : List α) : atI xs 1 = xs[1]? := atI_nat xs 1
@[simp] theorem atI_2 {α : Type} (xs : List α) : atI xs 2 = xs[2]? := atI_nat xs 2
@[simp] theorem atI_3 {α : Type} (xs : List α) : atI xs 3 = xs[3]? := atI_nat xs 3
theorem atI_pos {α : Type} (xs : List α) {i : Int} (h : 0 ≤ i) : atI xs i = xs[i.toNat]? := by
  obtain ⟨n, rfl⟩ := Int.eq_ofNat_of_zero_le h
  simp
@[simp] theorem atI_m1 {α : Type} (xs : List α) : atI xs (-1) = xs[xs.length - 1]? := by
  unfold L2.atI L2.ixN
  rw [if_neg (by decide)]
  by_cases h : -(xs.length : Int) ≤ -1
  · rw [if_pos h]
    have : ((-1 : Int) + xs.length).toNat = xs.length - 1 := by omega
    simp [this]
  · rw [if_neg h]
    have : xs.length = 0 := by omega
    have : xs = [] := List.length_eq_zero_iff.mp this
    subst this; rfl
theorem ixN_nat {n m : Nat} (h : m < n) : ixN n (m : Int) = some m := by
  unfold L2.ixN
  rw [if_pos (Int.natCast_nonneg m), if_pos (by omega)]; simp
@[simp] theorem isTs_one {t : Ty} : isTs [t] d = isT t d := by simp [isTs]
@[simp] theorem isTs_two {t u : Ty} : isTs [t, u] d = (isT t d || isT u d) := by simp [isTs]
@[simp] theorem mAppend_one : mAppend ds [d] = if ds.length < sizeLine then some (.none, ds ++ [d]) else none := nrfl rfl
@[simp] theorem mPop_nil : mPop ds [] = (ds[ds.length - 1]?).map fun d => (d, ds.dropLast) := nrfl rfl
@[simp] theorem mPopAt_int : mPopAt ds [.int i] = if -(2 ^ 63) ≤ i ∧ i < 2 ^ 63 then (match seqIndex? i ds.length with
    | some k => (ds[k]?).map fun d => (d, ds.eraseIdx k)
    | none => none) else none := rfl
@[simp] theorem slD_list {lo hi : Option Int} : slD (.list ds) lo hi = some (.own (.lst (cutL ds lo hi))) := nrfl rfl
@[simp] theorem slD_tuple {lo hi : Option Int} : slD (.tuple ds) lo hi = some (.val (.tuple (cutL ds lo hi))) := nrfl rfl

/-! comprehensions -/
theorem unwipe_wipe (vs : List Nat) (ρ : Env) : unwipe vs ρ (wipeE vs ρ) = ρ := by
  apply List.ext_getElem?
  intro i
  unfold unwipe wipeE
  rw [List.getElem?_mapIdx, List.getElem?_mapIdx]
  cases h : ρ[i]? with
  | none => rfl
  | some s =>
    simp only [Option.map_some]
    by_cases hi : i ∈ vs
    · simp [hi, List.getD, h]
    · simp [hi]
def lcOut (vs : List Nat) (r : R) : Option (Option D × Env) := match r with
  | .ok o ρ => o.frz.map fun y => (some y, wipeE vs ρ)
  | _ => none
def lcTest (elt : EX) (vs : List Nat) (r : R) : Option (Option D × Env) := match r with
  | .ok (.val (.bool b)) ρ => if b = true then lcOut vs (elt ρ) else some (none, wipeE vs ρ)
  | _ => none
def lcTg (tt elt : EX) (vs : List Nat) (r : Option Env) : Option (Option D × Env) := match r with
  | some ρ => lcTest elt vs (tt ρ)
  | none => none
/-- one turn of a comprehension -/
def lcStep (h : Tg) (tt elt : EX) (vs : List Nat) (d : D) (ρ : Env) : Option (Option D × Env) := lcTg tt elt vs (h.h d ρ)
@[simp] theorem lcStep_def {h : Tg} {tt elt : EX} {vs : List Nat} {ρ : Env} : lcStep h tt elt vs d ρ = lcTg tt elt vs (h.h d ρ) := nrfl rfl
@[simp] theorem lcTg_some {tt elt : EX} {vs : List Nat} {ρ : Env} : lcTg tt elt vs (some ρ) = lcTest elt vs (tt ρ) := nrfl rfl
@[simp] theorem lcTest_ok {elt : EX} {vs : List Nat} {ρ : Env} : lcTest elt vs (.ok (.val (.bool b)) ρ) = if b = true then lcOut vs (elt ρ) else some (none, wipeE vs ρ) := nrfl rfl
@[simp] theorem lcOut_ok {vs : List Nat} {ρ : Env} {o : Sl} : lcOut vs (.ok o ρ) = o.frz.map fun y => (some y, wipeE vs ρ) := nrfl rfl
@[simp] theorem eYes_def {ρ : Env} : eYes ρ = .ok (.val (.bool true)) ρ := nrfl rfl
theorem lcD_cons {h : Tg} {tt elt : EX} {vs : List Nat} {ρ : Env} {acc : List D} : lcD h tt elt vs (d :: ds) ρ acc = match lcStep h tt elt vs d ρ with
    | some (some y, ρ') => lcD h tt elt vs ds ρ' (acc ++ [y])
    | some (none, ρ') => lcD h tt elt vs ds ρ' acc
    | none => .bad := by
  simp only [lcD, lcStep, lcTg]
  cases h.h d ρ with
  | none => rfl
  | some ρ1 =>
    simp only [lcTest]
    cases tt ρ1 with
    | ok o ρ2 =>
      cases o with
      | val x =>
        cases x with
        | bool b =>
          cases b with
          | false => rfl
          | true =>
            simp only [if_true, lcOut]
            cases elt ρ2 with
            | ok o ρ3 => simp only; cases o.frz <;> rfl
            | _ => rfl
        | _ => dsimp only
      | _ => rfl
    | _ => rfl
theorem lcD_map {α : Type} {h : Tg} {tt elt : EX} {vs : List Nat} {ρ : Env} (f g : α → D) (p : α → Bool) : ∀ (xs : List α) (acc : List D), (∀ a ∈ xs, lcStep h tt elt vs (f a) ρ = some (if p a = true then some (g a) else none, ρ)) →
    lcD h tt elt vs (xs.map f) ρ acc = .ok (.own (.lst (acc ++ (xs.filter p).map g))) ρ
  | [], acc, _ => by simp [lcD]
  | a :: xs, acc, hs => by
    have e := hs a List.mem_cons_self
    have ih := fun acc => lcD_map (h := h) (tt := tt) (elt := elt) (vs := vs) (ρ := ρ) f g p xs acc fun x hx => hs x (List.mem_cons_of_mem _ hx)
    rw [List.map_cons, lcD_cons, e]
    cases hp : p a with
    | true => simp only [if_true, ih]; simp [hp]
    | false => simp only [Bool.false_eq_true, if_false, ih]; simp [hp]
/-- a comprehension whose turns leave the state -/
theorem eLc_map {α : Type} {fi : EX} {h : Tg} {tt elt : EX} {vs : List Nat} {ρ : Env} (xs : List α) (f g : α → D) (p : α → Bool) (hfi : fi ρ = .ok (.val (.list (xs.map f))) ρ) (hl : xs.length ≤ sizeLine) (hc : clearB vs ρ = true)
    (hs : ∀ a ∈ xs, lcStep h tt elt vs (f a) (wipeE vs ρ) = some (if p a = true then some (g a) else none, wipeE vs ρ)) :
    eLc fi h tt elt vs ρ = .ok (.own (.lst ((xs.filter p).map g))) ρ := by
  unfold eLc
  simp only [hfi, hc, List.length_map, hl, true_and, if_true]
  rw [lcD_map f g p xs [] hs]
  simp only [List.nil_append, R.unw, unwipe_wipe]
/-- the same without a test -/
theorem eLc_all {α : Type} {fi : EX} {h : Tg} {tt elt : EX} {vs : List Nat} {ρ : Env} (xs : List α) (f g : α → D) (hfi : fi ρ = .ok (.val (.list (xs.map f))) ρ) (hl : xs.length ≤ sizeLine) (hc : clearB vs ρ = true)
    (hs : ∀ a ∈ xs, lcStep h tt elt vs (f a) (wipeE vs ρ) = some (some (g a), wipeE vs ρ)) :
    eLc fi h tt elt vs ρ = .ok (.own (.lst (xs.map g))) ρ := by
  rw [eLc_map xs f g (fun _ => true) hfi hl hc fun a ha => by rw [hs a ha]; simp]
  rw [List.filter_eq_self.mpr (fun _ _ => rfl)]
end
end Dk

set_option Elab.async false
set_option linter.all false
set_option maxRecDepth 100000
set_option maxHeartbeats 4000000
/-! Dk19: what the laws share: cells, boxes, digits -/
namespace Dk
open PySem PySem.Spec L2 PyProof.Rows
/-- _law_take -/
noncomputable def takeB (p q r : Int) : SX :=
  (sSeq (sIf (eAnd (eTru (eBor (eOp ixD (eVar 0) (eC (.int 1))))) (eOp gtD (eBor (eOp ixD (eVar 0) (eC (.int 0)))) (eC (.int 0)))) (sSeq (sAsg 3 (eOp modD (eCB intD [(eBor (eOp ixD (eVar 0) (eC (.int 0))))]) (eVar 1)))
  (sSeq (sSetIx 0 (eOp fdivD (eBor (eOp ixD (eVar 0) (eC (.int 0)))) (eVar 1)) (eC (.int 0)))
  (sRet (eVar 3)))) sNx)
  (sSeq (sSetIx 0 (eOp addD (eBor (eOp ixD (eVar 0) (eC (.int 3)))) (eC (.int 1))) (eC (.int 3)))
  (sSeq (sAsg 2 (eOp modD (eCB intD [(eOp powD (eOp addD (eOp addD (eBor (eOp ixD (eVar 0) (eC (.int 2)))) (eOp mulD (eC (.int p)) (eBor (eOp ixD (eVar 0) (eC (.int 3)))))) (eC (.int q))) (eC (.int 5)))]) (eC (.int 2147483647))))
  (sRet (eOp modD (eCB intD [(eOp fdivD (eOp modD (eCB intD [(eOp powD (eOp addD (eOp mulD (eVar 2) (eC (.int 48271))) (eOp mulD (eC (.int r)) (eBor (eOp ixD (eVar 0) (eC (.int 3)))))) (eC (.int 3)))]) (eC (.int 2147483587))) (eC (.int 64)))]) (eVar 1))))))
noncomputable def takeDen (p q r : Int) : Den := denOf 4 (takeB p q r)
/-- a box: its list -/
def boxL (a : Int) (b : Bool) (c n : Int) : List D := [.int a, .bool b, .int c, .int n]
/-- a box that was asked at most m times -/
def BOk (m : Nat) (l : List D) : Prop := ∃ a b c n, l = boxL a b c n ∧ 0 ≤ a ∧ 0 ≤ c ∧ c < 2147483648 ∧ 0 ≤ n ∧ n ≤ m
theorem BOk.mono {m k : Nat} {l : List D} (h : BOk m l) (hk : m ≤ k) : BOk k l := by
  obtain ⟨a, b, c, n, h1, h2, h3, h4, h5, h6⟩ := h
  exact ⟨a, b, c, n, h1, h2, h3, h4, h5, by omega⟩
def smallC (p q r : Int) : Prop := 0 ≤ p ∧ p < 2 ^ 30 ∧ 0 ≤ q ∧ q < 2 ^ 30 ∧ 0 ≤ r ∧ r < 2 ^ 30
theorem fmod_pos {x y : Int} (h : 0 < y) : 0 ≤ x.fmod y ∧ x.fmod y < y := by
  rw [Int.fmod_eq_emod_of_nonneg x (by omega)]
  exact ⟨Int.emod_nonneg x (by omega), Int.emod_lt_of_pos x h⟩
theorem take_ok {p q r : Int} (hc : smallC p q r) {m : Nat} {l : List D} (h : BOk m l) (hm : m < 1000000000) {many : Int} (h1 : 1 ≤ many) (h2 : many < 1073741824) :
    ∃ d l', takeDen p q r [.ref (.lst l), .val (.int many)] = .ret (.val (.int d)) [.ref (.lst l'), .val (.int many)] ∧ 0 ≤ d ∧ d < many ∧ BOk (m + 1) l' := by
  obtain ⟨a, b, c, n, rfl, ha, hc1, hc2, hn1, hn2⟩ := h
  obtain ⟨p1, p2, q1, q2, r1, r2⟩ := hc
  by_cases hb : b = true ∧ 0 < a
  · obtain ⟨rfl, h0⟩ := hb
    refine ⟨a.fmod many, boxL (a.fdiv many) true c n, ?_, (fmod_pos (by omega)).1, (fmod_pos (by omega)).2, _, _, _, _, rfl, Int.fdiv_nonneg ha (by omega), hc1, hc2, hn1, by omega⟩
    have e1 : ¬ many = 0 := by omega
    have e2 : many.natAbs < 1073741824 := by omega
    have e3 : ixN 4 0 = some 0 := rfl
    simp [takeDen, takeB, boxL, h0, e1, e2, e3]
  · have e0 : ixN 4 3 = some 3 := rfl
    have e1 : ¬ many = 0 := by omega
    have hp : mulOk p (n + 1) := .inl ⟨by omega, by omega⟩
    have hpn : 0 ≤ p * (n + 1) ∧ p * (n + 1) < 1073741824 * 1000000001 := ⟨Int.mul_nonneg p1 (by omega), by
      have h5 : p * (n + 1) ≤ 1073741824 * (n + 1) := Int.mul_le_mul_of_nonneg_right (by omega) (by omega)
      have h6 : (1073741824 : Int) * (n + 1) < 1073741824 * 1000000001 := Int.mul_lt_mul_of_pos_left (by omega) (by omega)
      omega⟩
    have hr : mulOk r (n + 1) := .inl ⟨by omega, by omega⟩
    have hrn : 0 ≤ r * (n + 1) ∧ r * (n + 1) < 1073741824 * 1000000001 := ⟨Int.mul_nonneg r1 (by omega), by
      have h5 : r * (n + 1) ≤ 1073741824 * (n + 1) := Int.mul_le_mul_of_nonneg_right (by omega) (by omega)
      have h6 : (1073741824 : Int) * (n + 1) < 1073741824 * 1000000001 := Int.mul_lt_mul_of_pos_left (by omega) (by omega)
      omega⟩
    have b1 : (c + p * (n + 1) + q).natAbs < 18446744073709551616 := by omega
    obtain ⟨x1, x2⟩ := fmod_pos (x := (c + p * (n + 1) + q) ^ 5) (y := 2147483647) (by decide)
    have hx : ((c + p * (n + 1) + q) ^ (5 : Int).toNat).fmod 2147483647 = ((c + p * (n + 1) + q) ^ 5).fmod 2147483647 := rfl
    have b2 : (((c + p * (n + 1) + q) ^ 5).fmod 2147483647 * 48271 + r * (n + 1)).natAbs < 18446744073709551616 := by omega
    have hm2 : mulOk (((c + p * (n + 1) + q) ^ 5).fmod 2147483647) 48271 := .inr ⟨by omega, by omega⟩
    refine ⟨((((((c + p * (n + 1) + q) ^ 5).fmod 2147483647 * 48271 + r * (n + 1)) ^ 3).fmod 2147483587).fdiv 64).fmod many, boxL a b c (n + 1), ?_, (fmod_pos (by omega)).1, (fmod_pos (by omega)).2, a, b, c, n + 1, rfl, ha, hc1, hc2, by omega, by omega⟩
    · cases b with
      | false => simp [takeDen, takeB, boxL, e0, e1, hp, hr, hx, b1, b2, hm2]
      | true =>
        have h0 : ¬ 0 < a := fun h => hb ⟨rfl, h⟩
        simp [takeDen, takeB, boxL, h0, e0, e1, hp, hr, hx, b1, b2, hm2]
end Dk

set_option Elab.async false
set_option linter.all false
set_option maxRecDepth 100000
set_option maxHeartbeats 4000000
/-! Dk20: the laws' cells, boxes, comparison -/
namespace Dk
open PySem PySem.Spec L2 PyProof.Rows
noncomputable def boxB : SX :=
  (sRet (eLst [(eCB absD [(eVar 0)]), (eOp geD (eCB absD [(eVar 0)]) (eOp powD (eC (.int 10)) (eC (.int 18)))), (eOp modD (eCB intD [(eCB absD [(eVar 0)])]) (eC (.int 2147483629))), (eC (.int 0))]))
theorem box_ok (z : Int) : ∃ l, denOf 1 boxB [.val (.int z)] = .ret (.own (.lst l)) [.val (.int z)] ∧ BOk 0 l := by
  obtain ⟨a, ha⟩ : ∃ a, a = (if z < 0 then -z else z) := ⟨_, rfl⟩
  have h0 : 0 ≤ a := by rw [ha]; split <;> omega
  refine ⟨boxL a (decide (10 ^ 18 ≤ a)) (a.fmod 2147483629) 0, ?_, a, _, _, 0, rfl, h0, (fmod_pos (by decide)).1, by have := (fmod_pos (x := a) (y := 2147483629) (by decide)).2; omega, by omega, by omega⟩
  simp [boxB, boxL, ← ha]
noncomputable def cellB (c : Int) : SX :=
  (sRet (eIf (eOp ltD (eVar 1) (eCB lenD [(eVar 0)])) (eOp ixD (eVar 0) (eVar 1)) (eOp addD (eOp mulD (eC (.int c)) (eVar 1)) (eOp modD (eCB intD [(eCB sumD [(eSl (eVar 0) .no (.at (eC (.int 1))))])]) (eC (.int 1000003))))))
theorem cut_map {α β : Type} (f : α → β) (xs : List α) (lo hi : Option Int) : cutL (xs.map f) lo hi = (cutL xs lo hi).map f := by
  unfold cutL
  simp [List.map_drop, List.map_take]
theorem cell_ok (c : Int) (ns : List Int) (k : Nat) (hk : k < 1000000) : ∃ z, denOf 2 (cellB c) [.val (.list (ns.map D.int)), .val (.int k)] = .ret (.val (.int z)) [.val (.list (ns.map D.int)), .val (.int k)] := by
  by_cases h : k < ns.length
  · refine ⟨ns[k], ?_⟩
    have : ((k : Int) < ns.length) := by omega
    simp [cellB, this, h]
  · refine ⟨c * k + (cutL ns none (some 1)).sum.fmod 1000003, ?_⟩
    have h1 : ¬ ((k : Int) < ns.length) := by omega
    have h2 : mulOk c k := .inr ⟨by omega, by omega⟩
    simp [cellB, h1, h2, cut_map]

/-! ### data without tags -/
mutual
def D.strip : D → D
  | .list xs => .list (D.stripL xs)
  | .tuple xs => .tuple (D.stripL xs)
  | .dict kvs => .dict (D.stripK kvs)
  | .dictT kvs => .dictT (D.stripK kvs)
  | .tag _ d => d.strip
  | .none => .none
  | .bool b => .bool b
  | .int i => .int i
  | .str s => .str s
def D.stripL : List D → List D
  | [] => []
  | d :: ds => d.strip :: D.stripL ds
def D.stripK : List (D × D) → List (D × D)
  | [] => []
  | (k, d) :: r => (k, d.strip) :: D.stripK r
end
theorem stripL_map : ∀ ds : List D, D.stripL ds = ds.map D.strip
  | [] => rfl
  | d :: ds => by simp [D.stripL, stripL_map ds]
theorem strip_un : ∀ d : D, d.un.strip = d.strip
  | .tag a d => by
    have := strip_un d
    simpa [D.strip] using this
  | .none => rfl
  | .bool _ => rfl
  | .int _ => rfl
  | .str _ => rfl
  | .list _ => rfl
  | .tuple _ => rfl
  | .dict _ => rfl
  | .dictT _ => rfl
theorem itemsD_strip : ∀ kvs : List (D × D), (∀ p ∈ kvs, ∃ k, p.1 = keyD k) → (itemsD kvs).map D.strip = itemsD (D.stripK kvs)
  | [], _ => rfl
  | (k, d) :: r, h => by
    obtain ⟨kk, e⟩ := h (k, d) List.mem_cons_self
    simp only at e
    have ih := itemsD_strip r fun p hp => h p (List.mem_cons_of_mem _ hp)
    have : (keyD kk).strip = keyD kk := by cases kk <;> rfl
    simp only [itemsD, List.map_cons, D.stripK, D.strip, D.stripL, e, this] at ih ⊢
    rw [ih]
/-- data that the comparison goes through: n deep at most -/
def Fit : Nat → D → Prop
  | 0, _ => False
  | n + 1, d => match d with
    | .str s => s.length ≤ 1000000 ∧ (PyData.str s).canLay0 = true
    | .list ds => ds.length ≤ 1000000 ∧ ∀ x ∈ ds, Fit n x
    | .tuple ds => ds.length ≤ 1000000 ∧ ∀ x ∈ ds, Fit n x
    | .dict kvs => (∀ p ∈ kvs, ∃ k, p.1 = keyD k) ∧ Fit n (.list (itemsD kvs))
    | .dictT _ => False
    | .tag _ _ => False
    | _ => True

/-! _law_same -/
noncomputable def sameEnd (rc : Den) : EX := (eOp eqD (eLc (iRng1D (eCB lenD [(eVar 1)])) (gN 2) (eNot (eTru (eCallG rc [(.v (eOp ixD (eVar 0) (eVar 2))), (.v (eOp ixD (eVar 1) (eVar 2)))] [.a 0, .a 1]))) (eVar 2) [2]) (eLst []))
noncomputable def sameStr : EX := (eOp eqD (eLc (iRng1D (eCB lenD [(eVar 1)])) (gN 2) (eOp neD (eSl (eVar 0) (.at (eVar 2)) (.at (eOp addD (eVar 2) (eC (.int 1))))) (eOp ixD (eVar 1) (eVar 2))) (eVar 2) [2]) (eLst []))
noncomputable def sameB (rc : Den) : SX :=
  (sSeq (sIf (eOr (eOp isD (eVar 1) (eC .none)) (eTru (eIsi [.bool] (eVar 1)))) (sRet (eIf (eOp isD (eVar 1) (eC .none)) (eOp isD (eVar 0) (eC .none)) (eAnd (eIsi [.bool] (eVar 0)) (eOp eqD (eOp isD (eVar 0) (eC (.bool true))) (eOp isD (eVar 1) (eC (.bool true))))))) sNx)
  (sSeq (sIf (eTru (eIsi [.int] (eVar 1))) (sRet (eAnd (eIsi [.int] (eVar 0)) (eAnd (eNot (eIsi [.bool] (eVar 0))) (eOp eqD (eOp subD (eCB intD [(eVar 0)]) (eVar 1)) (eC (.int 0)))))) sNx)
  (sSeq (sIf (eTru (eIsi [.str] (eVar 1))) (sRet (eAnd (eIsi [.str] (eVar 0)) (eAnd (eOp eqD (eCB lenD [(eVar 0)]) (eCB lenD [(eVar 1)])) sameStr))) sNx)
  (sSeq (sIf (eTru (eIsi [.dict] (eVar 1))) (sRet (eAnd (eIsi [.dict] (eVar 0)) (eCallG rc [(.v (eItems (eVar 0))), (.v (eItems (eVar 1)))] [.a 0, .a 1]))) sNx)
  (sSeq (sIf (eOr (eOp neD (eIsi [.list] (eVar 0)) (eIsi [.list] (eVar 1))) (eOp neD (eIsi [.tuple] (eVar 0)) (eIsi [.tuple] (eVar 1)))) (sRet (eC (.bool false))) sNx)
  (sSeq (sIf (eOr (eNot (eTru (eIsi [.list, .tuple] (eVar 0)))) (eOp neD (eCB lenD [(eVar 0)]) (eCB lenD [(eVar 1)]))) (sRet (eC (.bool false))) sNx)
  (sRet (sameEnd rc))))))))
noncomputable def sameDen : Nat → Den
  | 0 => fun _ => .bad
  | n + 1 => denOf 3 (sameB (sameDen n))
theorem rngL_len (lo : Int) (n : Nat) : (rngL lo n).length = n := by unfold rngL; rw [List.length_map, List.length_range]
theorem le_line {n : Nat} (h : n ≤ 1000000) : n ≤ sizeLine := Nat.le_trans h (by rw [sizeLine_eq]; exact of_decide_eq_true rfl)
theorem rngL_0 (n : Nat) : rngL 0 n = (List.range n).map fun i : Nat => D.int i := by
  unfold rngL
  refine List.map_congr_left fun i _ => ?_
  rw [Int.zero_add]
theorem rng_none {f : Nat → D} (n : Nat) : ((List.range n).filter fun _ => false).map f = [] := by
  rw [List.filter_eq_nil_iff.mpr (fun _ _ => by simp)]; rfl
theorem rngL_none (lo : Int) (n : Nat) : ((rngL lo n).filter fun _ => false).map id = [] := by
  rw [List.filter_eq_nil_iff.mpr (fun _ _ => by simp)]; rfl
@[simp] theorem eqD_nil : eqD (.list []) (.list []) = some (.val (.bool true)) := nrfl rfl
theorem same_list {rc : Den} {t d : D} {es ds : List D} (h1 : t.un = .list es ∨ t.un = .tuple es) (h2 : d.un = .list ds ∨ d.un = .tuple ds) (hl : es.length = ds.length) (hz : ds.length ≤ 1000000)
    (hr : ∀ (i : Nat) (x y : D), es[i]? = some x → ds[i]? = some y → rc [.val x, .val y] = .ret (.val (.bool true)) [.val x, .val y]) :
    sameEnd rc [.val t, .val d, .emp] = .ok (.val (.bool true)) [.val t, .val d, .emp] := by
  have hlen : lenD [d.un] = some (.val (.int ds.length)) := by rcases h2 with h | h <;> rw [h] <;> rfl
  have hx : ∀ i : Nat, ixD t.un (.int i) = (es[i]?).map .val := fun i => by rcases h1 with h | h <;> rw [h] <;> simp
  have hy : ∀ i : Nat, ixD d.un (.int i) = (ds[i]?).map .val := fun i => by rcases h2 with h | h <;> rw [h] <;> simp
  have hrng := smN (Nat.le_trans hz (of_decide_eq_true rfl : 1000000 ≤ 1000000000))
  have e1 := eLc_map (fi := iRng1D (eCB lenD [(eVar 1)])) (h := gN 2) (tt := eNot (eTru (eCallG rc [(.v (eOp ixD (eVar 0) (eVar 2))), (.v (eOp ixD (eVar 1) (eVar 2)))] [.a 0, .a 1]))) (elt := eVar 2) (vs := [2]) (ρ := [.val t, .val d, .emp]) (List.range ds.length) (fun i : Nat => .int i) (fun i : Nat => .int i) (fun _ => false)
    (by simp [hlen, hrng, rngL_0]) (by rw [List.length_range]; exact le_line hz) (by simp [clearB])
    (fun i hi => by
      rw [List.mem_range] at hi
      have hi2 : i < es.length := by omega
      have q := hr i es[i] ds[i] (List.getElem?_eq_getElem hi2) (List.getElem?_eq_getElem hi)
      simp [wipeE, hx, hy, hi, hi2, q])
  rw [rng_none] at e1
  simp [sameEnd, e1]
theorem sIx_nat {n i d : Nat} (h : i ≤ n) : HT.sIx n d (some (i : Int)) = i := by
  rw [HT.sIx_nat, Nat.min_eq_left h]
theorem cut_one {s : Str} {i : Nat} (h : i < s.cps.size) : cutS s (some (i : Int)) (some ((i : Int) + 1)) = ⟨#[s.cps[i]]⟩ := by
  have e1 : HT.sIx s.length 0 (some (i : Int)) = i := sIx_nat (Nat.le_of_lt h)
  have e2 : HT.sIx s.length s.length (some ((i : Int) + 1)) = i + 1 := sIx_nat (i := i + 1) h
  unfold cutS
  rw [e1, e2, Nat.add_sub_cancel_left]
  have : (s.cps.toList.drop i).take 1 = [s.cps[i]] := by
    rw [List.drop_eq_getElem_cons (by simpa using h)]
    simp
  rw [this]
theorem same_str {t d : D} {s : Str} (h1 : t.un = .str s) (h2 : d.un = .str s) (hz : s.length ≤ 1000000) (hc : (PyData.str s).canLay0 = true) : sameStr [.val t, .val d, .emp] = .ok (.val (.bool true)) [.val t, .val d, .emp] := by
  have hL : s.length ≤ sizeLine := le_line hz
  have hrng := smN (Nat.le_trans hz (of_decide_eq_true rfl : 1000000 ≤ 1000000000))
  have hlen : lenD [d.un] = some (.val (.int s.length)) := by rw [h2]; simp [hL]
  have e1 := eLc_map (fi := iRng1D (eCB lenD [(eVar 1)])) (h := gN 2) (tt := (eOp neD (eSl (eVar 0) (.at (eVar 2)) (.at (eOp addD (eVar 2) (eC (.int 1))))) (eOp ixD (eVar 1) (eVar 2)))) (elt := eVar 2) (vs := [2]) (ρ := [.val t, .val d, .emp]) (List.range s.length) (fun i : Nat => .int i) (fun i : Nat => .int i) (fun _ => false)
    (by simp [hlen, hrng, rngL_0]) (by rw [List.length_range]; exact hL) (by simp [clearB])
    (fun i hi => by
      rw [List.mem_range] at hi
      have hi' : i < s.cps.size := hi
      have q1 : slD (.str s) (some (i : Int)) (some ((i : Int) + 1)) = some (.val (.str ⟨#[s.cps[i]]⟩)) := by
        show (if s.length ≤ sizeLine then some (Sl.val (.str (cutS s (some (i : Int)) (some ((i : Int) + 1))))) else none) = _
        rw [if_pos hL, cut_one hi']
      have q2 : ixD (.str s) (.int i) = some (.val (.str ⟨#[s.cps[i]]⟩)) := by
        show (if s.length ≤ sizeLine then (atI s.cps.toList (i : Int)).map (fun c => Sl.val (.str ⟨#[c]⟩)) else none) = _
        rw [if_pos hL, atI_nat]
        simp [hi']
      have q3 : neD (.str ⟨#[s.cps[i]]⟩) (.str ⟨#[s.cps[i]]⟩) = some (.val (.bool false)) := by
        have sh : SeqAt.shaped (D.str ⟨#[s.cps[i]]⟩).toP = true := shp (by
          show PyData.strOk ⟨#[s.cps[i]]⟩ = true
          have hc' : PyData.strOk s = true := hc
          unfold PyData.strOk at hc' ⊢
          rw [Array.all_eq_true'] at hc' ⊢
          intro c hm
          have : c = s.cps[i] := by simpa using hm
          subst this
          exact hc' _ (Array.getElem_mem hi')) (Nat.zero_le _)
        unfold neD
        rw [if_pos ⟨sh, sh⟩, eqv_str]
        simp
      simp [wipeE, h1, h2, q1, q2, q3])
  rw [rng_none] at e1
  simp [sameStr, e1]
theorem strip_list {t : D} {xs : List D} (h : t.strip = .list xs) : ∃ es, t.un = .list es ∧ es.map D.strip = xs := by
  rw [← strip_un] at h
  have nt := un_ne_tag t
  cases e : t.un with
  | list es => rw [e] at h; simp only [D.strip, D.list.injEq] at h; exact ⟨es, rfl, by rw [← stripL_map]; exact h⟩
  | tag a d => exact absurd e (nt a d)
  | _ => rw [e] at h; simp [D.strip] at h
theorem strip_tuple {t : D} {xs : List D} (h : t.strip = .tuple xs) : ∃ es, t.un = .tuple es ∧ es.map D.strip = xs := by
  rw [← strip_un] at h
  have nt := un_ne_tag t
  cases e : t.un with
  | tuple es => rw [e] at h; simp only [D.strip, D.tuple.injEq] at h; exact ⟨es, rfl, by rw [← stripL_map]; exact h⟩
  | tag a d => exact absurd e (nt a d)
  | _ => rw [e] at h; simp [D.strip] at h
theorem strip_dict {t : D} {xs : List (D × D)} (h : t.strip = .dict xs) : ∃ es, t.un = .dict es ∧ D.stripK es = xs := by
  rw [← strip_un] at h
  have nt := un_ne_tag t
  cases e : t.un with
  | dict es => rw [e] at h; simp only [D.strip, D.dict.injEq] at h; exact ⟨es, rfl, h⟩
  | tag a d => exact absurd e (nt a d)
  | _ => rw [e] at h; simp [D.strip] at h
theorem strip_int {t : D} {i : Int} (h : t.strip = .int i) : t.un = .int i := by
  rw [← strip_un] at h
  have nt := un_ne_tag t
  cases e : t.un with
  | tag a d => exact absurd e (nt a d)
  | _ => rw [e] at h; simp_all [D.strip]
theorem strip_bool {t : D} {i : Bool} (h : t.strip = .bool i) : t.un = .bool i := by
  rw [← strip_un] at h
  have nt := un_ne_tag t
  cases e : t.un with
  | tag a d => exact absurd e (nt a d)
  | _ => rw [e] at h; simp_all [D.strip]
theorem strip_str {t : D} {i : Str} (h : t.strip = .str i) : t.un = .str i := by
  rw [← strip_un] at h
  have nt := un_ne_tag t
  cases e : t.un with
  | tag a d => exact absurd e (nt a d)
  | _ => rw [e] at h; simp_all [D.strip]
theorem strip_none {t : D} (h : t.strip = .none) : t.un = .none := by
  rw [← strip_un] at h
  have nt := un_ne_tag t
  cases e : t.un with
  | tag a d => exact absurd e (nt a d)
  | none => rfl
  | _ => rw [e] at h; simp_all [D.strip]
theorem stripK_keys : ∀ {es ks : List (D × D)}, D.stripK es = ks → (∀ p ∈ ks, ∃ k, p.1 = keyD k) → ∀ p ∈ es, ∃ k, p.1 = keyD k
  | [], _, _, _ => fun p h => by cases h
  | (k, d) :: r, ks, e, h => by
    subst e
    intro p hp
    rcases List.mem_cons.mp hp with rfl | hp
    · exact h (k, d.strip) List.mem_cons_self
    · exact stripK_keys (es := r) rfl (fun q hq => h q (List.mem_cons_of_mem _ hq)) p hp
/-- the law's comparison: equal data, but for tags -/
theorem same_ok : ∀ (n : Nat) (c t d : D), Fit n c → t.strip = c → d.strip = c → sameDen n [.val t, .val d] = .ret (.val (.bool true)) [.val t, .val d]
  | 0, _, _, _, f, _, _ => f.elim
  | n + 1, .none, t, d, f, ht, hd => by
    have h1 := strip_none ht
    have h2 := strip_none hd
    simp [sameDen, sameB, h1, h2, isNoneB]
  | n + 1, .bool b, t, d, f, ht, hd => by
    have h1 := strip_bool ht
    have h2 := strip_bool hd
    simp [sameDen, sameB, h1, h2, isNoneB, isT]
  | n + 1, .int b, t, d, f, ht, hd => by
    have h1 := strip_int ht
    have h2 := strip_int hd
    simp [sameDen, sameB, h1, h2, isNoneB, isT]
  | n + 1, .list xs, t, d, f, ht, hd => by
    obtain ⟨es, h1, e1⟩ := strip_list ht
    obtain ⟨ds, h2, e2⟩ := strip_list hd
    obtain ⟨hz, hf⟩ : xs.length ≤ 1000000 ∧ ∀ x ∈ xs, Fit n x := f
    have l1 : es.length = xs.length := by rw [← e1]; simp
    have l2 : ds.length = xs.length := by rw [← e2]; simp
    have key := same_list (rc := sameDen n) (t := t) (d := d) (.inl h1) (.inl h2) (l1.trans l2.symm) (by omega) fun i x y hx hy => by
      have e3 : xs[i]? = some x.strip := by rw [← e1, List.getElem?_map, hx]; rfl
      have e4 : xs[i]? = some y.strip := by rw [← e2, List.getElem?_map, hy]; rfl
      have e5 : y.strip = x.strip := by rw [e3] at e4; exact (Option.some.inj e4).symm
      exact same_ok n x.strip x y (hf _ (List.mem_of_getElem? e3)) rfl e5
    have hl : (es.length : Int) = ds.length := by omega
    simp [sameDen, sameB, h1, h2, isNoneB, isT, hl, key]
  | n + 1, .tuple xs, t, d, f, ht, hd => by
    obtain ⟨es, h1, e1⟩ := strip_tuple ht
    obtain ⟨ds, h2, e2⟩ := strip_tuple hd
    obtain ⟨hz, hf⟩ : xs.length ≤ 1000000 ∧ ∀ x ∈ xs, Fit n x := f
    have l1 : es.length = xs.length := by rw [← e1]; simp
    have l2 : ds.length = xs.length := by rw [← e2]; simp
    have key := same_list (rc := sameDen n) (t := t) (d := d) (.inr h1) (.inr h2) (l1.trans l2.symm) (by omega) fun i x y hx hy => by
      have e3 : xs[i]? = some x.strip := by rw [← e1, List.getElem?_map, hx]; rfl
      have e4 : xs[i]? = some y.strip := by rw [← e2, List.getElem?_map, hy]; rfl
      have e5 : y.strip = x.strip := by rw [e3] at e4; exact (Option.some.inj e4).symm
      exact same_ok n x.strip x y (hf _ (List.mem_of_getElem? e3)) rfl e5
    have hl : (es.length : Int) = ds.length := by omega
    simp [sameDen, sameB, h1, h2, isNoneB, isT, hl, key]
  | n + 1, .dict xs, t, d, f, ht, hd => by
    obtain ⟨es, h1, e1⟩ := strip_dict ht
    obtain ⟨ds, h2, e2⟩ := strip_dict hd
    obtain ⟨hk, hf⟩ : (∀ p ∈ xs, ∃ k, p.1 = keyD k) ∧ Fit n (.list (itemsD xs)) := f
    have i1 : (D.list (itemsD es)).strip = .list (itemsD xs) := by
      simp only [D.strip, D.list.injEq]; rw [stripL_map, itemsD_strip es (stripK_keys e1 hk), e1]
    have i2 : (D.list (itemsD ds)).strip = .list (itemsD xs) := by
      simp only [D.strip, D.list.injEq]; rw [stripL_map, itemsD_strip ds (stripK_keys e2 hk), e2]
    have key := same_ok n _ _ _ hf i1 i2
    simp [sameDen, sameB, h1, h2, isNoneB, isT, kItems, key]
  | n + 1, .str s, t, d, f, ht, hd => by
    have h1 := strip_str ht
    have h2 := strip_str hd
    obtain ⟨hz, hc⟩ : s.length ≤ 1000000 ∧ (PyData.str s).canLay0 = true := f
    have key := same_str h1 h2 hz hc
    have hL : s.length ≤ sizeLine := le_line hz
    simp [sameDen, sameB, h1, h2, isNoneB, isT, hL, key]
  | n + 1, .dictT _, _, _, f, _, _ => f.elim
  | n + 1, .tag _ _, _, _, f, _, _ => f.elim
end Dk

set_option Elab.async false
set_option linter.all false
set_option maxRecDepth 100000
set_option maxHeartbeats 4000000
/-! printed by gen.py: the denotations -/
namespace L25
open PySem PySem.Spec L2 Dk PyProof.Rows
def isa_ (h : Str) : Str → Option Bool := isaOf [((Str.ofString "InvalidInterval"), [(Str.ofString "InvalidInterval"), (Str.ofString "IntervalError")]), ((Str.ofString "InvalidRelation"), [(Str.ofString "InvalidRelation"), (Str.ofString "IntervalError")])] h
/- _law_box(great): 0=great -/
noncomputable def body__law_box : SX :=
  (sRet (eLst [(eCB absD [(eVar 0)]), (eOp geD (eCB absD [(eVar 0)]) (eOp powD (eC (.int 10)) (eC (.int 18)))), (eOp modD (eCB intD [(eCB absD [(eVar 0)])]) (eC (.int 2147483629))), (eC (.int 0))]))
noncomputable def den__law_box : Den := denOf 1 body__law_box
/- _law_cell(script, k): 0=script 1=k -/
noncomputable def body__law_cell : SX :=
  (sRet (eIf (eOp ltD (eVar 1) (eCB lenD [(eVar 0)])) (eOp ixD (eVar 0) (eVar 1)) (eOp addD (eOp mulD (eC (.int 6101)) (eVar 1)) (eOp modD (eCB intD [(eCB sumD [(eSl (eVar 0) .no (.at (eC (.int 1))))])]) (eC (.int 1000003))))))
noncomputable def den__law_cell : Den := denOf 2 body__law_cell
/- _law_name(one, other): 0=one 1=other 2=a 3=b 4=c 5=d -/
noncomputable def body__law_name : SX :=
  (sSeq (sTgt (gT 2 (gsC (gN 2) (gsC (gN 3) gsN))) (eVar 0))
  (sSeq (sTgt (gT 2 (gsC (gN 4) (gsC (gN 5) gsN))) (eVar 1))
  (sSeq (sIf (eOp ltD (eVar 3) (eVar 4)) (sRet (eC (.str (Str.ofString "before")))) sNx)
  (sSeq (sIf (eOp eqD (eVar 3) (eVar 4)) (sRet (eC (.str (Str.ofString "meets")))) sNx)
  (sSeq (sIf (eOp ltD (eVar 5) (eVar 2)) (sRet (eC (.str (Str.ofString "after")))) sNx)
  (sSeq (sIf (eOp eqD (eVar 5) (eVar 2)) (sRet (eC (.str (Str.ofString "met")))) sNx)
  (sSeq (sIf (eOp eqD (eVar 2) (eVar 4)) (sRet (eIf (eOp ltD (eVar 3) (eVar 5)) (eC (.str (Str.ofString "starts"))) (eIf (eOp eqD (eVar 3) (eVar 5)) (eC (.str (Str.ofString "equal"))) (eC (.str (Str.ofString "started")))))) sNx)
  (sSeq (sIf (eOp eqD (eVar 3) (eVar 5)) (sRet (eIf (eOp ltD (eVar 4) (eVar 2)) (eC (.str (Str.ofString "finishes"))) (eC (.str (Str.ofString "finished"))))) sNx)
  (sSeq (sIf (eOp ltD (eVar 2) (eVar 4)) (sRet (eIf (eOp ltD (eVar 3) (eVar 5)) (eC (.str (Str.ofString "overlaps"))) (eC (.str (Str.ofString "contains"))))) sNx)
  (sRet (eIf (eOp ltD (eVar 3) (eVar 5)) (eC (.str (Str.ofString "during"))) (eC (.str (Str.ofString "overlapped"))))))))))))))
noncomputable def den__law_name : Den := denOf 6 body__law_name
/- _law_take(box, many): 0=box 1=many 2=mixed 3=digit -/
noncomputable def body__law_take : SX :=
  (sSeq (sIf (eAnd (eTru (eBor (eOp ixD (eVar 0) (eC (.int 1))))) (eOp gtD (eBor (eOp ixD (eVar 0) (eC (.int 0)))) (eC (.int 0)))) (sSeq (sAsg 3 (eOp modD (eCB intD [(eBor (eOp ixD (eVar 0) (eC (.int 0))))]) (eVar 1)))
  (sSeq (sSetIx 0 (eOp fdivD (eBor (eOp ixD (eVar 0) (eC (.int 0)))) (eVar 1)) (eC (.int 0)))
  (sRet (eVar 3)))) sNx)
  (sSeq (sSetIx 0 (eOp addD (eBor (eOp ixD (eVar 0) (eC (.int 3)))) (eC (.int 1))) (eC (.int 3)))
  (sSeq (sAsg 2 (eOp modD (eCB intD [(eOp powD (eOp addD (eOp addD (eBor (eOp ixD (eVar 0) (eC (.int 2)))) (eOp mulD (eC (.int 15485867)) (eBor (eOp ixD (eVar 0) (eC (.int 3)))))) (eC (.int 179424691))) (eC (.int 5)))]) (eC (.int 2147483647))))
  (sRet (eOp modD (eCB intD [(eOp fdivD (eOp modD (eCB intD [(eOp powD (eOp addD (eOp mulD (eVar 2) (eC (.int 48271))) (eOp mulD (eC (.int 104743)) (eBor (eOp ixD (eVar 0) (eC (.int 3)))))) (eC (.int 3)))]) (eC (.int 2147483587))) (eC (.int 64)))]) (eVar 1))))))
noncomputable def den__law_take : Den := denOf 4 body__law_take
/- _law_pair(box): 0=box 1=ends 2=one 3=low 4=high -/
noncomputable def body__law_pair : SX :=
  (sSeq (sAsg 1 (eOp ixD (eLst [(eOp addD (eOp subD (eC (.int 0)) (eC (.int 1000))) (eCallG den__law_take [(.r 0), (.v (eC (.int 500)))] [.a 0, .a 1])), (eOp subD (eCallG den__law_take [(.r 0), (.v (eC (.int 6)))] [.a 0, .a 1]) (eC (.int 3))), (eOp addD (eC (.int 500)) (eCallG den__law_take [(.r 0), (.v (eC (.int 480)))] [.a 0, .a 1]))]) (eCallG den__law_take [(.r 0), (.v (eC (.int 3)))] [.a 0, .a 1])))
  (sSeq (sAsg 2 (eTup [(eVar 1), (eOp addD (eOp addD (eVar 1) (eC (.int 1))) (eCallG den__law_take [(.r 0), (.v (eC (.int 6)))] [.a 0, .a 1]))]))
  (sSeq (sAsg 3 (eCB max2D [(eOp addD (eOp subD (eVar 1) (eC (.int 8))) (eCallG den__law_take [(.r 0), (.v (eC (.int 14)))] [.a 0, .a 1])), (eOp subD (eC (.int 0)) (eC (.int 1000)))]))
  (sSeq (sIf (eOp eqD (eCallG den__law_take [(.r 0), (.v (eC (.int 3)))] [.a 0, .a 1]) (eC (.int 0))) (sAsg 3 (eOp ixD (eLst [(eVar 1), (eOp ixD (eVar 2) (eC (.int 1)))]) (eCallG den__law_take [(.r 0), (.v (eC (.int 2)))] [.a 0, .a 1]))) sNx)
  (sSeq (sAsg 4 (eOp addD (eOp addD (eVar 3) (eC (.int 1))) (eCallG den__law_take [(.r 0), (.v (eC (.int 7)))] [.a 0, .a 1])))
  (sSeq (sIf (eOp eqD (eCallG den__law_take [(.r 0), (.v (eC (.int 3)))] [.a 0, .a 1]) (eC (.int 0))) (sAsg 4 (eOp ixD (eLst [(eOp ixD (eVar 2) (eC (.int 0))), (eOp ixD (eVar 2) (eC (.int 1)))]) (eCallG den__law_take [(.r 0), (.v (eC (.int 2)))] [.a 0, .a 1]))) sNx)
  (sRet (eTup [(eVar 2), (eTup [(eVar 3), (eIf (eOp gtD (eVar 4) (eVar 3)) (eVar 4) (eOp addD (eVar 3) (eC (.int 1))))])]))))))))
noncomputable def den__law_pair : Den := denOf 5 body__law_pair
/- in_order(names): 0=names 1=name -/
noncomputable def body_in_order : SX :=
  (sRet (eCB tupleD [(eLc (iAny (eC (.tuple [(.str (Str.ofString "before")), (.str (Str.ofString "meets")), (.str (Str.ofString "overlaps")), (.str (Str.ofString "starts")), (.str (Str.ofString "during")), (.str (Str.ofString "finishes")), (.str (Str.ofString "equal")), (.str (Str.ofString "finished")), (.str (Str.ofString "contains")), (.str (Str.ofString "started")), (.str (Str.ofString "overlapped")), (.str (Str.ofString "met")), (.str (Str.ofString "after"))]))) (gN 1) (eOp inD (eVar 1) (eVar 0)) (eVar 1) [1])]))
noncomputable def den_in_order : Den := denOf 2 body_in_order
/- is_known_relation(value): 0=value 1=name -/
noncomputable def body_is_known_relation : SX :=
  (sSeq (sIf (eOr (eNot (eTru (eIsi [.tuple] (eVar 0)))) (eNot (eTru (eCB allD [(eLc (iAny (eVar 0)) (gN 1) eYes (eAnd (eIsi [.str] (eVar 1)) (eOp inD (eVar 1) (eC (.tuple [(.str (Str.ofString "before")), (.str (Str.ofString "meets")), (.str (Str.ofString "overlaps")), (.str (Str.ofString "starts")), (.str (Str.ofString "during")), (.str (Str.ofString "finishes")), (.str (Str.ofString "equal")), (.str (Str.ofString "finished")), (.str (Str.ofString "contains")), (.str (Str.ofString "started")), (.str (Str.ofString "overlapped")), (.str (Str.ofString "met")), (.str (Str.ofString "after"))])))) [1])])))) (sRet (eC (.bool false))) sNx)
  (sRet (eOp eqD (eCallG den_in_order [(.v (eVar 0))] [.a 0]) (eVar 0))))
noncomputable def den_is_known_relation : Den := denOf 2 body_is_known_relation
/- check_relation(relation): 0=relation -/
noncomputable def body_check_relation : SX :=
  (sIf (eNot (eTru (eCallG den_is_known_relation [(.v (eVar 0))] [.a 0]))) (sRaise (Str.ofString "InvalidRelation") [(Str.ofString "given")] [(eVar 0)]) sNx)
noncomputable def den_check_relation : Den := denOf 1 body_check_relation
/- check_two(one, other): 0=one 1=other -/
noncomputable def body_check_two : SX :=
  (sSeq (sDrop (eCallG den_check_relation [(.v (eVar 0))] [.a 0]))
  (sDrop (eCallG den_check_relation [(.v (eVar 1))] [.a 0])))
noncomputable def den_check_two : Den := denOf 2 body_check_two
/- both(one, other): 0=one 1=other 2=name -/
noncomputable def body_both : SX :=
  (sSeq (sDrop (eCallG den_check_two [(.v (eVar 0)), (.v (eVar 1))] [.a 0, .a 1]))
  (sRet (eCB tupleD [(eLc (iAny (eVar 0)) (gN 2) (eOp inD (eVar 2) (eVar 1)) (eVar 2) [2])])))
noncomputable def den_both : Den := denOf 3 body_both
/- turned_name(name): 0=name -/
noncomputable def body_turned_name : SX :=
  (sRet (eOp ixD (eC (.tuple [(.str (Str.ofString "before")), (.str (Str.ofString "meets")), (.str (Str.ofString "overlaps")), (.str (Str.ofString "starts")), (.str (Str.ofString "during")), (.str (Str.ofString "finishes")), (.str (Str.ofString "equal")), (.str (Str.ofString "finished")), (.str (Str.ofString "contains")), (.str (Str.ofString "started")), (.str (Str.ofString "overlapped")), (.str (Str.ofString "met")), (.str (Str.ofString "after"))])) (eOp ixD (eC (.tuple [(.int 12), (.int 11), (.int 10), (.int 9), (.int 8), (.int 7), (.int 6), (.int 5), (.int 4), (.int 3), (.int 2), (.int 1), (.int 0)])) (eIdxT [(.str (Str.ofString "before")), (.str (Str.ofString "meets")), (.str (Str.ofString "overlaps")), (.str (Str.ofString "starts")), (.str (Str.ofString "during")), (.str (Str.ofString "finishes")), (.str (Str.ofString "equal")), (.str (Str.ofString "finished")), (.str (Str.ofString "contains")), (.str (Str.ofString "started")), (.str (Str.ofString "overlapped")), (.str (Str.ofString "met")), (.str (Str.ofString "after"))] (eVar 0)))))
noncomputable def den_turned_name : Den := denOf 1 body_turned_name
/- converse_of(relation): 0=relation 1=name -/
noncomputable def body_converse_of : SX :=
  (sRet (eCallG den_in_order [(.v (eLc (iAny (eVar 0)) (gN 1) eYes (eCallG den_turned_name [(.v (eVar 1))] [.a 0]) [1]))] [.a 0]))
noncomputable def den_converse_of : Den := denOf 2 body_converse_of
/- converse(relation): 0=relation -/
noncomputable def body_converse : SX :=
  (sSeq (sDrop (eCallG den_check_relation [(.v (eVar 0))] [.a 0]))
  (sRet (eCallG den_converse_of [(.v (eVar 0))] [.a 0])))
noncomputable def den_converse : Den := denOf 1 body_converse
/- either(one, other): 0=one 1=other -/
noncomputable def body_either : SX :=
  (sSeq (sDrop (eCallG den_check_two [(.v (eVar 0)), (.v (eVar 1))] [.a 0, .a 1]))
  (sRet (eCallG den_in_order [(.v (eOp addD (eVar 0) (eVar 1)))] [.a 0])))
noncomputable def den_either : Den := denOf 2 body_either
/- is_integer(value): 0=value -/
noncomputable def body_is_integer : SX :=
  (sRet (eAnd (eIsi [.int] (eVar 0)) (eNot (eIsi [.bool] (eVar 0)))))
noncomputable def den_is_integer : Den := denOf 1 body_is_integer
/- is_between(value, least, most): 0=value 1=least 2=most -/
noncomputable def body_is_between : SX :=
  (sRet (eAnd (eCallG den_is_integer [(.v (eVar 0))] [.a 0]) (eChain leD leD (eVar 1) (eVar 0) (eVar 2))))
noncomputable def den_is_between : Den := denOf 3 body_is_between
/- is_known(value, least, most): 0=value 1=least 2=most -/
noncomputable def body_is_known : SX :=
  (sSeq (sIf (eOr (eNot (eTru (eIsi [.tuple] (eVar 0)))) (eOr (eOp neD (eCB lenD [(eVar 0)]) (eC (.int 2))) (eNot (eTru (eCallG den_is_between [(.v (eOp ixD (eVar 0) (eC (.int 0)))), (.v (eVar 1)), (.v (eVar 2))] [.a 0, .a 1, .a 2]))))) (sRet (eC (.bool false))) sNx)
  (sRet (eCallG den_is_between [(.v (eOp ixD (eVar 0) (eC (.int 1)))), (.v (eOp addD (eOp ixD (eVar 0) (eC (.int 0))) (eC (.int 1)))), (.v (eVar 2))] [.a 0, .a 1, .a 2])))
noncomputable def den_is_known : Den := denOf 3 body_is_known
/- check_interval(interval, least, most): 0=interval 1=least 2=most -/
noncomputable def body_check_interval : SX :=
  (sIf (eNot (eTru (eCallG den_is_known [(.v (eVar 0)), (.v (eVar 1)), (.v (eVar 2))] [.a 0, .a 1, .a 2]))) (sRaise (Str.ofString "InvalidInterval") [(Str.ofString "given")] [(eVar 0)]) sNx)
noncomputable def den_check_interval : Den := denOf 3 body_check_interval
/- place_in(number, interval): 0=number 1=interval 2=low 3=high -/
noncomputable def body_place_in : SX :=
  (sSeq (sTgt (gT 2 (gsC (gN 2) (gsC (gN 3) gsN))) (eVar 1))
  (sSeq (sIf (eOp ltD (eVar 0) (eVar 2)) (sRet (eC (.int 0))) sNx)
  (sSeq (sIf (eOp eqD (eVar 0) (eVar 2)) (sRet (eC (.int 1))) sNx)
  (sSeq (sIf (eOp ltD (eVar 0) (eVar 3)) (sRet (eC (.int 2))) sNx)
  (sRet (eIf (eOp eqD (eVar 0) (eVar 3)) (eC (.int 3)) (eC (.int 4))))))))
noncomputable def den_place_in : Den := denOf 4 body_place_in
/- name_of(one, other): 0=one 1=other -/
noncomputable def body_name_of : SX :=
  (sRet (eOp ixD (eC (.tuple [(.str (Str.ofString "before")), (.str (Str.ofString "meets")), (.str (Str.ofString "overlaps")), (.str (Str.ofString "starts")), (.str (Str.ofString "during")), (.str (Str.ofString "finishes")), (.str (Str.ofString "equal")), (.str (Str.ofString "finished")), (.str (Str.ofString "contains")), (.str (Str.ofString "started")), (.str (Str.ofString "overlapped")), (.str (Str.ofString "met")), (.str (Str.ofString "after"))])) (eIdxT [(.tuple [(.int 0), (.int 0)]), (.tuple [(.int 0), (.int 1)]), (.tuple [(.int 0), (.int 2)]), (.tuple [(.int 1), (.int 2)]), (.tuple [(.int 2), (.int 2)]), (.tuple [(.int 2), (.int 3)]), (.tuple [(.int 1), (.int 3)]), (.tuple [(.int 0), (.int 3)]), (.tuple [(.int 0), (.int 4)]), (.tuple [(.int 1), (.int 4)]), (.tuple [(.int 2), (.int 4)]), (.tuple [(.int 3), (.int 4)]), (.tuple [(.int 4), (.int 4)])] (eTup [(eCallG den_place_in [(.v (eOp ixD (eVar 0) (eC (.int 0)))), (.v (eVar 1))] [.a 0, .a 1]), (eCallG den_place_in [(.v (eOp ixD (eVar 0) (eC (.int 1)))), (.v (eVar 1))] [.a 0, .a 1])]))))
noncomputable def den_name_of : Den := denOf 2 body_name_of
/- relation_of(one, other): 0=one 1=other -/
noncomputable def body_relation_of : SX :=
  (sSeq (sDrop (eCallG den_check_interval [(.v (eVar 0))] [.a 0, .d 0 (.int (-1000)), .d 1 (.int 1000)]))
  (sSeq (sDrop (eCallG den_check_interval [(.v (eVar 1))] [.a 0, .d 0 (.int (-1000)), .d 1 (.int 1000)]))
  (sRet (eCallG den_name_of [(.v (eVar 0)), (.v (eVar 1))] [.a 0, .a 1]))))
noncomputable def den_relation_of : Den := denOf 2 body_relation_of
/- rest(relation): 0=relation 1=name -/
noncomputable def body_rest : SX :=
  (sSeq (sDrop (eCallG den_check_relation [(.v (eVar 0))] [.a 0]))
  (sRet (eCB tupleD [(eLc (iAny (eC (.tuple [(.str (Str.ofString "before")), (.str (Str.ofString "meets")), (.str (Str.ofString "overlaps")), (.str (Str.ofString "starts")), (.str (Str.ofString "during")), (.str (Str.ofString "finishes")), (.str (Str.ofString "equal")), (.str (Str.ofString "finished")), (.str (Str.ofString "contains")), (.str (Str.ofString "started")), (.str (Str.ofString "overlapped")), (.str (Str.ofString "met")), (.str (Str.ofString "after"))]))) (gN 1) (eOp notInD (eVar 1) (eVar 0)) (eVar 1) [1])])))
noncomputable def den_rest : Den := denOf 2 body_rest
/- _law_said(which, one, other, named): 0=which 1=one 2=other 3=named 4=e -/
noncomputable def body__law_said : SX :=
  (sTry (hdAs (isa_ (Str.ofString "InvalidInterval")) 4 (gLst (gCons (gC_ (.str (Str.ofString "interval"))) (gCons (gFld (Str.ofString "InvalidInterval") (Str.ofString "given")) gNil))) :: (hdAs (isa_ (Str.ofString "InvalidRelation")) 4 (gLst (gCons (gC_ (.str (Str.ofString "relation"))) (gCons (gFld (Str.ofString "InvalidRelation") (Str.ofString "given")) gNil))) :: (hdNo (isa_ (Str.ofString "IntervalError")) (sRet (eLst [(eC (.str (Str.ofString "other"))), (eC .none)])) :: []))) (sSeq (sIf (eOp eqD (eVar 0) (eC (.int 0))) (sRet (eLst [(eC (.str (Str.ofString "told"))), (eIf (eTru (eVar 3)) (eCallG den_relation_of [(.v (eVar 2)), (.v (eVar 1))] [.a 1, .a 0]) (eCallG den_relation_of [(.v (eVar 1)), (.v (eVar 2))] [.a 0, .a 1]))])) sNx)
  (sSeq (sIf (eOp eqD (eVar 0) (eC (.int 1))) (sRet (eLst [(eC (.str (Str.ofString "told"))), (eIf (eTru (eVar 3)) (eCallG den_converse [(.v (eVar 1))] [.a 0]) (eCallG den_converse [(.v (eVar 1))] [.a 0]))])) sNx)
  (sSeq (sIf (eOp eqD (eVar 0) (eC (.int 2))) (sRet (eLst [(eC (.str (Str.ofString "told"))), (eIf (eTru (eVar 3)) (eCallG den_rest [(.v (eVar 1))] [.a 0]) (eCallG den_rest [(.v (eVar 1))] [.a 0]))])) sNx)
  (sSeq (sIf (eOp eqD (eVar 0) (eC (.int 3))) (sRet (eLst [(eC (.str (Str.ofString "told"))), (eIf (eTru (eVar 3)) (eCallG den_either [(.v (eVar 2)), (.v (eVar 1))] [.a 1, .a 0]) (eCallG den_either [(.v (eVar 1)), (.v (eVar 2))] [.a 0, .a 1]))])) sNx)
  (sRet (eLst [(eC (.str (Str.ofString "told"))), (eIf (eTru (eVar 3)) (eCallG den_both [(.v (eVar 2)), (.v (eVar 1))] [.a 1, .a 0]) (eCallG den_both [(.v (eVar 1)), (.v (eVar 2))] [.a 0, .a 1]))])))))))
noncomputable def den__law_said : Den := denOf 5 body__law_said
/- _law_same(told, due): 0=told 1=due 2=k -/
noncomputable def body__law_same (rc : Den) : SX :=
  (sSeq (sIf (eOr (eOp isD (eVar 1) (eC .none)) (eTru (eIsi [.bool] (eVar 1)))) (sRet (eIf (eOp isD (eVar 1) (eC .none)) (eOp isD (eVar 0) (eC .none)) (eAnd (eIsi [.bool] (eVar 0)) (eOp eqD (eOp isD (eVar 0) (eC (.bool true))) (eOp isD (eVar 1) (eC (.bool true))))))) sNx)
  (sSeq (sIf (eTru (eIsi [.int] (eVar 1))) (sRet (eAnd (eIsi [.int] (eVar 0)) (eAnd (eNot (eIsi [.bool] (eVar 0))) (eOp eqD (eOp subD (eCB intD [(eVar 0)]) (eVar 1)) (eC (.int 0)))))) sNx)
  (sSeq (sIf (eTru (eIsi [.str] (eVar 1))) (sRet (eAnd (eIsi [.str] (eVar 0)) (eAnd (eOp eqD (eCB lenD [(eVar 0)]) (eCB lenD [(eVar 1)])) (eOp eqD (eLc (iRng1D (eCB lenD [(eVar 1)])) (gN 2) (eOp neD (eSl (eVar 0) (.at (eVar 2)) (.at (eOp addD (eVar 2) (eC (.int 1))))) (eOp ixD (eVar 1) (eVar 2))) (eVar 2) [2]) (eLst []))))) sNx)
  (sSeq (sIf (eTru (eIsi [.dict] (eVar 1))) (sRet (eAnd (eIsi [.dict] (eVar 0)) (eCallG rc [(.v (eItems (eVar 0))), (.v (eItems (eVar 1)))] [.a 0, .a 1]))) sNx)
  (sSeq (sIf (eOr (eOp neD (eIsi [.list] (eVar 0)) (eIsi [.list] (eVar 1))) (eOp neD (eIsi [.tuple] (eVar 0)) (eIsi [.tuple] (eVar 1)))) (sRet (eC (.bool false))) sNx)
  (sSeq (sIf (eOr (eNot (eTru (eIsi [.list, .tuple] (eVar 0)))) (eOp neD (eCB lenD [(eVar 0)]) (eCB lenD [(eVar 1)]))) (sRet (eC (.bool false))) sNx)
  (sRet (eOp eqD (eLc (iRng1D (eCB lenD [(eVar 1)])) (gN 2) (eNot (eTru (eCallG rc [(.v (eOp ixD (eVar 0) (eVar 2))), (.v (eOp ixD (eVar 1) (eVar 2)))] [.a 0, .a 1]))) (eVar 2) [2]) (eLst [])))))))))
noncomputable def den__law_same : Nat → Den
  | 0 => fun _ => .bad
  | n + 1 => denOf 3 (body__law_same (den__law_same n))
/- _law_names():  -/
noncomputable def body__law_names : SX :=
  (sRet (eLst [(eC (.str (Str.ofString "before"))), (eC (.str (Str.ofString "meets"))), (eC (.str (Str.ofString "overlaps"))), (eC (.str (Str.ofString "starts"))), (eC (.str (Str.ofString "during"))), (eC (.str (Str.ofString "finishes"))), (eC (.str (Str.ofString "equal"))), (eC (.str (Str.ofString "finished"))), (eC (.str (Str.ofString "contains"))), (eC (.str (Str.ofString "started"))), (eC (.str (Str.ofString "overlapped"))), (eC (.str (Str.ofString "met"))), (eC (.str (Str.ofString "after")))]))
noncomputable def den__law_names : Den := denOf 0 body__law_names
/- _law_turn(name): 0=name 1=names -/
noncomputable def body__law_turn : SX :=
  (sSeq (sAsg 1 (eCallG den__law_names [] []))
  (sRet (eOp ixD (eVar 1) (eOp subD (eC (.int 12)) (eIdx (eVar 1) (eVar 0))))))
noncomputable def den__law_turn : Den := denOf 2 body__law_turn
/- _law_pairs_right(box, named): 0=box 1=named 2=turn 3=low 4=due 5=high 6=one 7=other -/
noncomputable def body__law_pairs_right : SX :=
  (sSeq (sFor (iRng1D (eC (.int 10))) (gN 2) (sSeq (sTgt (gT 2 (gsC (gN 6) (gsC (gN 7) gsN))) (eCallG den__law_pair [(.r 0)] [.a 0]))
  (sSeq (sAsg 4 (eCallG den__law_name [(.v (eVar 6)), (.v (eVar 7))] [.a 0, .a 1]))
  (sIf (eNot (eTru (eCallG (den__law_same 8) [(.v (eLst [(eCallG den__law_said [(.v (eC (.int 0))), (.v (eVar 6)), (.v (eVar 7)), (.v (eVar 1))] [.a 0, .a 1, .a 2, .a 3]), (eCallG den__law_said [(.v (eC (.int 0))), (.v (eVar 7)), (.v (eVar 6)), (.v (eNot (eVar 1)))] [.a 0, .a 1, .a 2, .a 3])])), (.v (eLst [(eLst [(eC (.str (Str.ofString "told"))), (eVar 4)]), (eLst [(eC (.str (Str.ofString "told"))), (eCallG den__law_turn [(.v (eVar 4))] [.a 0])])]))] [.a 0, .a 1]))) (sRet (eC (.bool false))) sNx))))
  (sSeq (sFor (iRng2D (eC (.int 0)) (eC (.int 9))) (gN 3) (sFor (iRng2D (eOp addD (eVar 3) (eC (.int 1))) (eC (.int 10))) (gN 5) (sIf (eNot (eTru (eCallG (den__law_same 8) [(.v (eCallG den__law_said [(.v (eC (.int 0))), (.v (eTup [(eVar 3), (eVar 5)])), (.v (eTup [(eC (.int 3)), (eC (.int 6))])), (.v (eVar 1))] [.a 0, .a 1, .a 2, .a 3])), (.v (eLst [(eC (.str (Str.ofString "told"))), (eCallG den__law_name [(.v (eTup [(eVar 3), (eVar 5)])), (.v (eTup [(eC (.int 3)), (eC (.int 6))]))] [.a 0, .a 1])]))] [.a 0, .a 1]))) (sRet (eC (.bool false))) sNx)))
  (sRet (eC (.bool true)))))
noncomputable def den__law_pairs_right : Den := denOf 8 body__law_pairs_right
/- _law_bad_relation(box): 0=box -/
noncomputable def body__law_bad_relation : SX :=
  (sRet (eOp ixD (eLst [(eC .none), (eC (.int 5)), (eC (.str (Str.ofString "before"))), (eLst [(eC (.str (Str.ofString "before")))]), (eTup [(eC (.str (Str.ofString "meets"))), (eC (.str (Str.ofString "before")))]), (eTup [(eC (.str (Str.ofString "before"))), (eC (.str (Str.ofString "before")))]), (eTup [(eC (.str (Str.ofString "Before")))]), (eTup [(eC (.int 1))]), (eTup [(eC .none)]), (fun ρ => .ok (.own (.dct [((.str (Str.ofString "a")), (.int 1))])) ρ), (eTup [(eC (.str (Str.ofString "before"))), (eC (.str (Str.ofString "met"))), (eC (.str (Str.ofString "meets")))]), (eTup [(eTup [(eC (.str (Str.ofString "before")))])])]) (eCallG den__law_take [(.r 0), (.v (eC (.int 12)))] [.a 0, .a 1])))
noncomputable def den__law_bad_relation : Den := denOf 1 body__law_bad_relation
/- _law_relation(box): 0=box 1=few 2=names 3=way 4=gone 5=name -/
noncomputable def body__law_relation : SX :=
  (sSeq (sPar [2, 3] [(false, (eCallG den__law_names [] [])), (false, (eCallG den__law_take [(.r 0), (.v (eC (.int 6)))] [.a 0, .a 1]))])
  (sSeq (sIf (eOp eqD (eVar 3) (eC (.int 0))) (sRet (eTup [(eOp ixD (eVar 2) (eCallG den__law_take [(.r 0), (.v (eC (.int 13)))] [.a 0, .a 1]))])) sNx)
  (sSeq (sIf (eOp eqD (eVar 3) (eC (.int 1))) (sSeq (sAsg 4 (eOp ixD (eVar 2) (eCallG den__law_take [(.r 0), (.v (eC (.int 13)))] [.a 0, .a 1])))
  (sRet (eCB tupleD [(eLc (iAny (eVar 2)) (gN 5) (eOp neD (eVar 5) (eVar 4)) (eVar 5) [5])]))) sNx)
  (sSeq (sIf (eOp eqD (eVar 3) (eC (.int 2))) (sRet (eOp ixD (eLst [(eTup []), (eCB tupleD [(eVar 2)])]) (eCallG den__law_take [(.r 0), (.v (eC (.int 2)))] [.a 0, .a 1]))) sNx)
  (sSeq (sAsg 1 (eOp ixD (eLst [(eC (.int 2)), (eC (.int 2)), (eC (.int 4))]) (eOp subD (eVar 3) (eC (.int 3)))))
  (sRet (eCB tupleD [(eLc (iAny (eVar 2)) (gN 5) (eOp eqD (eCallG den__law_take [(.r 0), (.v (eVar 1))] [.a 0, .a 1]) (eC (.int 0))) (eVar 5) [5])])))))))
noncomputable def den__law_relation : Den := denOf 6 body__law_relation
/- is_relation(value): 0=value -/
noncomputable def body_is_relation : SX :=
  (sRet (eCallG den_is_known_relation [(.v (eVar 0))] [.a 0]))
noncomputable def den_is_relation : Den := denOf 1 body_is_relation
/- _law_refused(box, named): 0=box 1=named 2=odd 3=told 4=bad 5=good 6=which -/
noncomputable def body__law_refused : SX :=
  (sSeq (sAsg 2 (eOp ixD (eLst [(eC .none), (eC (.int 5)), (eTup [(eC (.int 3)), (eC (.int 3))]), (eTup [(eC (.int 4)), (eC (.int 2))]), (eLst [(eC (.int 0)), (eC (.int 1))]), (eTup [(eC (.int 0)), (eC (.int 1001))]), (eTup [(eOp subD (eC (.int 0)) (eC (.int 1001))), (eC (.int 0))]), (eTup [(eC (.bool true)), (eC (.int 2))]), (eTup [(eC (.int 0)), (eC (.int 1)), (eC (.int 2))]), (eC (.str (Str.ofString "01"))), (fun ρ => .ok (.own (.dct [((.str (Str.ofString "a")), (.int 1))])) ρ), (eTup [(eC (.str (Str.ofString "0"))), (eC (.str (Str.ofString "1")))])]) (eCallG den__law_take [(.r 0), (.v (eC (.int 12)))] [.a 0, .a 1])))
  (sSeq (sIf (eNot (eTru (eCallG (den__law_same 8) [(.v (eLst [(eCallG den__law_said [(.v (eC (.int 0))), (.v (eVar 2)), (.v (eVar 2)), (.v (eVar 1))] [.a 0, .a 1, .a 2, .a 3]), (eCallG den__law_said [(.v (eC (.int 0))), (.v (eTup [(eC (.int 0)), (eC (.int 1))])), (.v (eVar 2)), (.v (eVar 1))] [.a 0, .a 1, .a 2, .a 3])])), (.v (eOp mulD (eLst [(eLst [(eC (.str (Str.ofString "interval"))), (eVar 2)])]) (eC (.int 2))))] [.a 0, .a 1]))) (sRet (eC (.bool false))) sNx)
  (sSeq (sPar [4, 5] [(false, (eCallG den__law_bad_relation [(.r 0)] [.a 0])), (false, (eCallG den__law_relation [(.r 0)] [.a 0]))])
  (sSeq (sIf (eNot (eTru (eCallG (den__law_same 8) [(.v (eLst [(eCallG den_is_relation [(.v (eVar 4))] [.a 0]), (eCallG den_is_relation [(.v (eVar 4))] [.a 0])])), (.v (eLst [(eC (.bool false)), (eC (.bool false))]))] [.a 0, .a 1]))) (sRet (eC (.bool false))) sNx)
  (sSeq (sAsg 3 (eLc (iRng2D (eC (.int 1)) (eC (.int 5))) (gN 6) eYes (eCallG den__law_said [(.v (eVar 6)), (.v (eVar 4)), (.v (eOp ixD (eLst [(eVar 5), (eC .none)]) (eCallG den__law_take [(.r 0), (.v (eC (.int 2)))] [.a 0, .a 1]))), (.v (eVar 1))] [.a 0, .a 1, .a 2, .a 3]) [6]))
  (sRet (eCallG (den__law_same 8) [(.v (eOp addD (eVar 3) (eLst [(eCallG den__law_said [(.v (eC (.int 3))), (.v (eVar 5)), (.v (eVar 4)), (.v (eVar 1))] [.a 0, .a 1, .a 2, .a 3]), (eCallG den__law_said [(.v (eC (.int 4))), (.v (eVar 5)), (.v (eVar 4)), (.v (eVar 1))] [.a 0, .a 1, .a 2, .a 3])]))), (.v (eOp mulD (eLst [(eLst [(eC (.str (Str.ofString "relation"))), (eVar 4)])]) (eC (.int 6))))] [.a 0, .a 1])))))))
noncomputable def den__law_refused : Den := denOf 7 body__law_refused
/- _law_ordered(names): 0=names 1=name -/
noncomputable def body__law_ordered : SX :=
  (sRet (eCB tupleD [(eLc (iAny (eCallG den__law_names [] [])) (gN 1) (eOp inD (eVar 1) (eVar 0)) (eVar 1) [1])]))
noncomputable def den__law_ordered : Den := denOf 2 body__law_ordered
/- _law_relations_right(box, named): 0=box 1=named 2=names 3=turn 4=dues 5=told 6=one 7=other 8=which 9=name 10=due -/
noncomputable def body__law_relations_right : SX :=
  (sSeq (sAsg 2 (eCallG den__law_names [] []))
  (sSeq (sFor (iRng1D (eC (.int 5))) (gN 3) (sSeq (sPar [6, 7] [(false, (eCallG den__law_relation [(.r 0)] [.a 0])), (false, (eCallG den__law_relation [(.r 0)] [.a 0]))])
  (sSeq (sAsg 4 (eLst [(eCallG den__law_ordered [(.v (eLc (iAny (eVar 6)) (gN 9) eYes (eCallG den__law_turn [(.v (eVar 9))] [.a 0]) [9]))] [.a 0]), (eCB tupleD [(eLc (iAny (eVar 2)) (gN 9) (eOp notInD (eVar 9) (eVar 6)) (eVar 9) [9])])]))
  (sSeq (sAsg 4 (eOp addD (eVar 4) (eLst [(eCB tupleD [(eLc (iAny (eVar 2)) (gN 9) (eOr (eOp inD (eVar 9) (eVar 6)) (eOp inD (eVar 9) (eVar 7))) (eVar 9) [9])]), (eCB tupleD [(eLc (iAny (eVar 2)) (gN 9) (eAnd (eOp inD (eVar 9) (eVar 6)) (eOp inD (eVar 9) (eVar 7))) (eVar 9) [9])])])))
  (sSeq (sAsg 5 (eLc (iRng2D (eC (.int 1)) (eC (.int 5))) (gN 8) eYes (eCallG den__law_said [(.v (eVar 8)), (.v (eVar 6)), (.v (eVar 7)), (.v (eVar 1))] [.a 0, .a 1, .a 2, .a 3]) [8]))
  (sSeq (sIf (eNot (eTru (eCallG (den__law_same 8) [(.v (eVar 5)), (.v (eLc (iAny (eVar 4)) (gN 10) eYes (eLst [(eC (.str (Str.ofString "told"))), (eVar 10)]) [10]))] [.a 0, .a 1]))) (sRet (eC (.bool false))) sNx)
  (sSeq (sAsg 5 (eLc (iRng2D (eC (.int 1)) (eC (.int 5))) (gN 8) eYes (eCallG den__law_said [(.v (eVar 8)), (.v (eVar 6)), (.v (eVar 7)), (.v (eNot (eVar 1)))] [.a 0, .a 1, .a 2, .a 3]) [8]))
  (sSeq (sIf (eNot (eTru (eCallG (den__law_same 8) [(.v (eVar 5)), (.v (eLc (iAny (eVar 4)) (gN 10) eYes (eLst [(eC (.str (Str.ofString "told"))), (eVar 10)]) [10]))] [.a 0, .a 1]))) (sRet (eC (.bool false))) sNx)
  (sIf (eNot (eTru (eCallG (den__law_same 8) [(.v (eLst [(eCallG den_converse [(.v (eOp ixD (eVar 4) (eC (.int 0))))] [.a 0]), (eCallG den_rest [(.v (eOp ixD (eVar 4) (eC (.int 1))))] [.a 0]), (eCallG den_is_relation [(.v (eVar 6))] [.a 0]), (eCallG den_is_relation [(.v (eOp ixD (eVar 4) (eC (.int 2))))] [.a 0])])), (.v (eLst [(eVar 6), (eVar 6), (eC (.bool true)), (eC (.bool true))]))] [.a 0, .a 1]))) (sRet (eC (.bool false))) sNx)))))))))
  (sRet (eC (.bool true)))))
noncomputable def den__law_relations_right : Den := denOf 11 body__law_relations_right
/- law(script): 0=script 1=k 2=box 3=named -/
noncomputable def body_law : SX :=
  (sSeq (sFor (iRng1D (eCB max2D [(eC (.int 2)), (eCB min2D [(eC (.int 5)), (eCB lenD [(eVar 0)])])])) (gN 1) (sSeq (sAsgO 2 (eCallG den__law_box [(.v (eCallG den__law_cell [(.v (eVar 0)), (.v (eVar 1))] [.a 0, .a 1]))] [.a 0]))
  (sSeq (sAsg 3 (eOp eqD (eCallG den__law_take [(.r 2), (.v (eC (.int 2)))] [.a 0, .a 1]) (eC (.int 0))))
  (sIf (eOr (eNot (eTru (eCallG den__law_pairs_right [(.r 2), (.v (eVar 3))] [.a 0, .a 1]))) (eOr (eNot (eTru (eCallG den__law_relations_right [(.r 2), (.v (eNot (eVar 3)))] [.a 0, .a 1]))) (eOr (eNot (eTru (eCallG den__law_refused [(.r 2), (.v (eVar 3))] [.a 0, .a 1]))) (eNot (eTru (eCallG den__law_refused [(.r 2), (.v (eNot (eVar 3)))] [.a 0, .a 1])))))) (sRet (eC (.bool false))) sNx))))
  (sRet (eC (.bool true))))
noncomputable def den_law : Den := denOf 4 body_law
end L25

set_option Elab.async false
set_option linter.all false
set_option maxRecDepth 100000
set_option maxHeartbeats 1000000
namespace L25
open PySem PySem.Spec L2 Dk PyProof.Rows
theorem take_eq : den__law_take = takeDen 15485867 179424691 104743 := rfl
theorem box_eq : den__law_box = denOf 1 boxB := rfl
theorem cell_eq : den__law_cell = denOf 2 (cellB 6101) := rfl
theorem same_eq : ∀ n, den__law_same n = sameDen n
  | 0 => rfl
  | n + 1 => by
    show denOf 3 (body__law_same (den__law_same n)) = denOf 3 (sameB (sameDen n))
    rw [same_eq n]; rfl
theorem smallc : smallC 15485867 179424691 104743 := by unfold smallC; decide
def isI : D → Bool
  | .int _ => true
  | _ => false
@[simp] theorem is_integer_eq (d : D) : den_is_integer [.val d] = .ret (.val (.bool (isI d.un))) [.val d] := by
  have nt := un_ne_tag d
  simp [den_is_integer, body_is_integer]
  cases h : d.un <;> simp_all [isT, isI]
def betw (d : D) (a b : Int) : Bool := match d with
  | .int i => decide (a ≤ i) && decide (i ≤ b)
  | _ => false
@[simp] theorem is_between_eq (d : D) (a b : Int) : den_is_between [.val d, .val (.int a), .val (.int b)] = .ret (.val (.bool (betw d.un a b))) [.val d, .val (.int a), .val (.int b)] := by
  simp [den_is_between, body_is_between]
  cases h : d.un <;> simp [isI, betw, h]
def known (d : D) (a b : Int) : Bool := match d with
  | .tuple [x, y] => (match x.un, y.un with
    | .int i, .int j => decide (a ≤ i) && decide (i ≤ b) && decide (i + 1 ≤ j) && decide (j ≤ b)
    | _, _ => false)
  | _ => false
@[simp] theorem is_known_eq (d : D) (a b : Int) : den_is_known [.val d, .val (.int a), .val (.int b)] = .ret (.val (.bool (known d.un a b))) [.val d, .val (.int a), .val (.int b)] := by
  simp [den_is_known, body_is_known]
  cases h : d.un with
  | tuple ds =>
    match ds with
    | [] => simp [isT, h, known]
    | [x] => simp [isT, h, known]
    | x :: y :: z :: ds =>
      have : ¬ ((ds.length : Int) + 1 + 1 + 1 = 2) := by omega
      simp [isT, h, known, this]
    | [x, y] =>
      simp [isT, h, known]
      cases hx : x.un with
      | int i =>
        simp [betw, hx]
        cases hy : y.un <;> simp [betw]
        all_goals (by_cases h1 : a ≤ i <;> by_cases h2 : i ≤ b <;> simp [h1, h2])
      | _ => simp [betw]
  | _ => simp [isT, known]
theorem check_ok (d : D) (a b : Int) (h : known d.un a b = true) : den_check_interval [.val d, .val (.int a), .val (.int b)] = .ret (.val .none) [.val d, .val (.int a), .val (.int b)] := by
  simp [den_check_interval, body_check_interval, h]
theorem check_bad (d : D) (a b : Int) (h : known d.un a b = false) : den_check_interval [.val d, .val (.int a), .val (.int b)] = .exc (Str.ofString "InvalidInterval") [(Str.ofString "given", d)] [.val d, .val (.int a), .val (.int b)] := by
  simp [den_check_interval, body_check_interval, h]
def ivl (a b : Int) : D := .tuple [.int a, .int b]
@[simp] theorem ivl_un (a b : Int) : (ivl a b).un = ivl a b := rfl
def placeN (x a b : Int) : Int := if x < a then 0 else if x = a then 1 else if x < b then 2 else if x = b then 3 else 4
@[simp] theorem place_eq (x a b : Int) : den_place_in [.val (.int x), .val (ivl a b)] = .ret (.val (.int (placeN x a b))) [.val (.int x), .val (ivl a b)] := by
  simp [den_place_in, body_place_in, ivl, placeN]
/-! names -/
abbrev S (s : String) : D := .str (Str.ofString s)
def nmL : List String := ["before", "meets", "overlaps", "starts", "during", "finishes", "equal", "finished", "contains", "started", "overlapped", "met", "after"]
theorem nm_lit : ([(.str (Str.ofString "before")), (.str (Str.ofString "meets")), (.str (Str.ofString "overlaps")), (.str (Str.ofString "starts")), (.str (Str.ofString "during")), (.str (Str.ofString "finishes")), (.str (Str.ofString "equal")), (.str (Str.ofString "finished")), (.str (Str.ofString "contains")), (.str (Str.ofString "started")), (.str (Str.ofString "overlapped")), (.str (Str.ofString "met")), (.str (Str.ofString "after"))] : List D) = nmL.map S := rfl
theorem toPL_map : ∀ ds : List D, D.toPL ds = ds.map D.toP
  | [] => rfl
  | d :: ds => by simp [D.toPL, toPL_map ds]
theorem lay_strs : ∀ l : List String, PyData.canLayAll0 (D.toPL (l.map S)) = true ∧ PyData.depthAll (D.toPL (l.map S)) = 0
  | [] => ⟨rfl, rfl⟩
  | s :: l => by
    obtain ⟨h1, h2⟩ := lay_strs l
    constructor
    · show (PyData.canLay0 (.str (Str.ofString s)) && PyData.canLayAll0 (D.toPL (l.map S))) = true
      rw [canLay_ofString, h1]; rfl
    · show max 0 (PyData.depthAll (D.toPL (l.map S))) = 0
      rw [h2]; rfl
theorem shp_tup (l : List String) : SeqAt.shaped (D.tuple (l.map S)).toP = true := by
  obtain ⟨h1, h2⟩ := lay_strs l
  refine shp (by show PyData.canLayAll0 (D.toPL (l.map S)) = true; exact h1) (by show PyData.depthAll (D.toPL (l.map S)) + 1 ≤ 64; rw [h2]; decide)
theorem shp_lst (l : List String) : SeqAt.shaped (D.list (l.map S)).toP = true := by
  obtain ⟨h1, h2⟩ := lay_strs l
  refine shp (by show PyData.canLayAll0 (D.toPL (l.map S)) = true; exact h1) (by show PyData.depthAll (D.toPL (l.map S)) + 1 ≤ 64; rw [h2]; decide)
theorem any_strs (s : String) (l : List String) : ((D.toPL (l.map S)).any fun z => PyData.eqv z (S s).toP) = decide (s ∈ l) := by
  rw [toPL_map, List.map_map, List.any_map]
  rw [Bool.eq_iff_iff, List.any_eq_true, decide_eq_true_iff]
  constructor
  · rintro ⟨x, hx, h⟩
    have : x = s := by
      have h' : PyData.eqv (S x).toP (S s).toP = true := h
      rw [eqv_str] at h'
      simpa [ofString_inj] using h'
    rw [← this]; exact hx
  · intro h
    refine ⟨s, h, ?_⟩
    show PyData.eqv (S s).toP (S s).toP = true
    rw [eqv_str]; simp
@[simp] theorem inD_tup (s : String) (l : List String) : inD (S s) (.tuple (l.map S)) = some (.val (.bool (decide (s ∈ l)))) := by
  unfold inD inB
  dsimp only
  rw [if_pos ⟨shp_str s, shp_tup l⟩, any_strs]; rfl
@[simp] theorem inD_lst (s : String) (l : List String) : inD (S s) (.list (l.map S)) = some (.val (.bool (decide (s ∈ l)))) := by
  unfold inD inB
  dsimp only
  rw [if_pos ⟨shp_str s, shp_lst l⟩, any_strs]; rfl
@[simp] theorem notInD_tup (s : String) (l : List String) : notInD (S s) (.tuple (l.map S)) = some (.val (.bool (!decide (s ∈ l)))) := by
  unfold notInD inB
  dsimp only
  rw [if_pos ⟨shp_str s, shp_tup l⟩, any_strs]; rfl
@[simp] theorem notInD_lst (s : String) (l : List String) : notInD (S s) (.list (l.map S)) = some (.val (.bool (!decide (s ∈ l)))) := by
  unfold notInD inB
  dsimp only
  rw [if_pos ⟨shp_str s, shp_lst l⟩, any_strs]; rfl
theorem eqv_strs : ∀ l m : List String, PyData.eqvAll (D.toPL (l.map S)) (D.toPL (m.map S)) = decide (l = m)
  | [], [] => by simp [D.toPL, PyData.eqvAll]
  | [], m :: ms => by simp [D.toPL, PyData.eqvAll]
  | l :: ls, [] => by simp [D.toPL, PyData.eqvAll]
  | l :: ls, m :: ms => by
    have h := eqv_strs ls ms
    show (PyData.eqv (S l).toP (S m).toP && PyData.eqvAll (D.toPL (ls.map S)) (D.toPL (ms.map S))) = _
    rw [h, eqv_str]
    by_cases h1 : l = m <;> by_cases h2 : ls = ms <;> simp [h1, h2, ofString_inj]
@[simp] theorem eqD_tups (l m : List String) : eqD (.tuple (l.map S)) (.tuple (m.map S)) = some (.val (.bool (decide (l = m)))) := by
  unfold eqD
  rw [if_pos ⟨shp_tup l, shp_tup m⟩]
  show some (Sl.val (.bool (PyData.eqvAll (D.toPL (l.map S)) (D.toPL (m.map S))))) = _
  rw [eqv_strs]
/-- the names among l, in the row's sequence -/
def ord (l : List String) : List String := nmL.filter fun s => decide (s ∈ l)
theorem nm_len : nmL.length ≤ sizeLine := le_line (by decide)

theorem S_un (s : String) : (S s).un = S s := rfl
theorem in_order_eq (d : D) (l : List String) (h : d.un = .tuple (l.map S) ∨ d.un = .list (l.map S)) : den_in_order [.val d] = .ret (.val (.tuple ((ord l).map S))) [.val d] := by
  have hin : ∀ s, inD (S s) d.un = some (.val (.bool (decide (s ∈ l)))) := fun s => by rcases h with h | h <;> rw [h] <;> simp
  have e1 := eLc_map (fi := iAny (eC (.tuple (nmL.map S)))) (h := gN 1) (tt := eOp inD (eVar 1) (eVar 0)) (elt := eVar 1) (vs := [1]) (ρ := [.val d, .emp]) nmL S S (fun s => decide (s ∈ l))
    (by simp) nm_len (by simp [clearB])
    (fun s hs => by
      by_cases hm : s ∈ l <;> simp [lcStep, wipeE, hin, hm])
  simp [den_in_order, body_in_order, nm_lit, e1, ord]

def nmI (a b c d : Int) : String :=
  if b < c then "before" else if b = c then "meets" else if d < a then "after" else if d = a then "met"
  else if a = c then (if b < d then "starts" else if b = d then "equal" else "started")
  else if b = d then (if c < a then "finishes" else "finished")
  else if a < c then (if b < d then "overlaps" else "contains")
  else (if b < d then "during" else "overlapped")
theorem law_name_eq (a b c d : Int) : den__law_name [.val (ivl a b), .val (ivl c d)] = .ret (.val (S (nmI a b c d))) [.val (ivl a b), .val (ivl c d)] := by
  simp [den__law_name, body__law_name, ivl, nmI]
  repeat (first | rfl | split)
def codL : List D := [(.tuple [(.int 0), (.int 0)]), (.tuple [(.int 0), (.int 1)]), (.tuple [(.int 0), (.int 2)]), (.tuple [(.int 1), (.int 2)]), (.tuple [(.int 2), (.int 2)]), (.tuple [(.int 2), (.int 3)]), (.tuple [(.int 1), (.int 3)]), (.tuple [(.int 0), (.int 3)]), (.tuple [(.int 0), (.int 4)]), (.tuple [(.int 1), (.int 4)]), (.tuple [(.int 2), (.int 4)]), (.tuple [(.int 3), (.int 4)]), (.tuple [(.int 4), (.int 4)])]

theorem eqv_S (s t : String) : PyData.eqv (S t).toP (S s).toP = decide (t = s) := by
  rw [eqv_str]; simp [ofString_inj]
theorem findIdx_strs (s : String) (l : List String) : ((D.toPL (l.map S)).findIdx? fun z => PyData.eqv z (S s).toP) = l.findIdx? fun t => decide (t = s) := by
  rw [toPL_map, List.map_map, List.findIdx?_map]
  congr 1
  funext t
  exact eqv_S s t
theorem indexD_strs (s : String) (l : List String) : indexD (l.map S) (S s) = (l.findIdx? fun t => decide (t = s)).map fun j => .val (.int (j : Nat)) := by
  unfold indexD
  rw [if_pos ⟨shp_str s, shp_lst l⟩, findIdx_strs]
theorem cod1 : indexD codL (.tuple [.int 0, .int 0]) = some (.val (.int 0)) := by rfl
theorem cod2 : indexD codL (.tuple [.int 0, .int 1]) = some (.val (.int 1)) := by rfl
theorem cod3 : indexD codL (.tuple [.int 0, .int 2]) = some (.val (.int 2)) := by rfl
theorem cod4 : indexD codL (.tuple [.int 1, .int 2]) = some (.val (.int 3)) := by rfl
theorem cod5 : indexD codL (.tuple [.int 2, .int 2]) = some (.val (.int 4)) := by rfl
theorem cod6 : indexD codL (.tuple [.int 2, .int 3]) = some (.val (.int 5)) := by rfl
theorem cod7 : indexD codL (.tuple [.int 1, .int 3]) = some (.val (.int 6)) := by rfl
theorem cod8 : indexD codL (.tuple [.int 0, .int 3]) = some (.val (.int 7)) := by rfl
theorem cod9 : indexD codL (.tuple [.int 0, .int 4]) = some (.val (.int 8)) := by rfl
theorem cod10 : indexD codL (.tuple [.int 1, .int 4]) = some (.val (.int 9)) := by rfl
theorem cod11 : indexD codL (.tuple [.int 2, .int 4]) = some (.val (.int 10)) := by rfl
theorem cod12 : indexD codL (.tuple [.int 3, .int 4]) = some (.val (.int 11)) := by rfl
theorem cod13 : indexD codL (.tuple [.int 4, .int 4]) = some (.val (.int 12)) := by rfl
theorem cod_nm (a b c d : Int) (h : a < b) (h' : c < d) : ∃ j : Nat, indexD codL (.tuple [.int (placeN a c d), .int (placeN b c d)]) = some (.val (.int (j : Nat))) ∧ nmL[j]? = some (nmI a b c d) := by
  have k1 : a < c ∨ a = c ∨ (c < a ∧ a < d) ∨ a = d ∨ d < a := by omega
  have k2 : b < c ∨ b = c ∨ (c < b ∧ b < d) ∨ b = d ∨ d < b := by omega
  have mk : ∀ (x y : Int) (s : String) (n : Nat), placeN a c d = x → placeN b c d = y → nmI a b c d = s → indexD codL (.tuple [.int x, .int y]) = some (.val (.int (n : Nat))) → nmL[n]? = some s → ∃ j : Nat, indexD codL (.tuple [.int (placeN a c d), .int (placeN b c d)]) = some (.val (.int (j : Nat))) ∧ nmL[j]? = some (nmI a b c d) := by
    intro x y s n h1 h2 h3 h4 h5
    rw [h1, h2, h3]; exact ⟨n, h4, h5⟩
  have p0 : ∀ x, x < c → placeN x c d = 0 := fun x hx => by unfold placeN; rw [if_pos hx]
  have p1 : ∀ x, x = c → placeN x c d = 1 := fun x hx => by unfold placeN; rw [if_neg (by omega), if_pos hx]
  have p2 : ∀ x, c < x ∧ x < d → placeN x c d = 2 := fun x hx => by unfold placeN; rw [if_neg (by omega), if_neg (by omega), if_pos (by omega)]
  have p3 : ∀ x, x = d → placeN x c d = 3 := fun x hx => by unfold placeN; rw [if_neg (by omega), if_neg (by omega), if_neg (by omega), if_pos hx]
  have p4 : ∀ x, d < x → placeN x c d = 4 := fun x hx => by unfold placeN; rw [if_neg (by omega), if_neg (by omega), if_neg (by omega), if_neg (by omega)]
  have nI : ∀ s, nmI a b c d = s ↔ nmI a b c d = s := fun _ => Iff.rfl
  rcases k1 with e1 | e1 | e1 | e1 | e1
  · rcases k2 with e2 | e2 | e2 | e2 | e2
    · exact mk 0 0 "before" 0 (p0 _ e1) (p0 _ e2) (by unfold nmI; rw [if_pos (by omega)]) cod1 rfl
    · exact mk 0 1 "meets" 1 (p0 _ e1) (p1 _ e2) (by unfold nmI; rw [if_neg (by omega), if_pos (by omega)]) cod2 rfl
    · exact mk 0 2 "overlaps" 2 (p0 _ e1) (p2 _ e2) (by unfold nmI; rw [if_neg (by omega), if_neg (by omega), if_neg (by omega), if_neg (by omega), if_neg (by omega), if_neg (by omega), if_pos (by omega), if_pos (by omega)]) cod3 rfl
    · exact mk 0 3 "finished" 7 (p0 _ e1) (p3 _ e2) (by unfold nmI; rw [if_neg (by omega), if_neg (by omega), if_neg (by omega), if_neg (by omega), if_neg (by omega), if_pos (by omega), if_neg (by omega)]) cod8 rfl
    · exact mk 0 4 "contains" 8 (p0 _ e1) (p4 _ e2) (by unfold nmI; rw [if_neg (by omega), if_neg (by omega), if_neg (by omega), if_neg (by omega), if_neg (by omega), if_neg (by omega), if_pos (by omega), if_neg (by omega)]) cod9 rfl
  · rcases k2 with e2 | e2 | e2 | e2 | e2
    · omega
    · omega
    · exact mk 1 2 "starts" 3 (p1 _ e1) (p2 _ e2) (by unfold nmI; rw [if_neg (by omega), if_neg (by omega), if_neg (by omega), if_neg (by omega), if_pos (by omega), if_pos (by omega)]) cod4 rfl
    · exact mk 1 3 "equal" 6 (p1 _ e1) (p3 _ e2) (by unfold nmI; rw [if_neg (by omega), if_neg (by omega), if_neg (by omega), if_neg (by omega), if_pos (by omega), if_neg (by omega), if_pos (by omega)]) cod7 rfl
    · exact mk 1 4 "started" 9 (p1 _ e1) (p4 _ e2) (by unfold nmI; rw [if_neg (by omega), if_neg (by omega), if_neg (by omega), if_neg (by omega), if_pos (by omega), if_neg (by omega), if_neg (by omega)]) cod10 rfl
  · rcases k2 with e2 | e2 | e2 | e2 | e2
    · omega
    · omega
    · exact mk 2 2 "during" 4 (p2 _ e1) (p2 _ e2) (by unfold nmI; rw [if_neg (by omega), if_neg (by omega), if_neg (by omega), if_neg (by omega), if_neg (by omega), if_neg (by omega), if_neg (by omega), if_pos (by omega)]) cod5 rfl
    · exact mk 2 3 "finishes" 5 (p2 _ e1) (p3 _ e2) (by unfold nmI; rw [if_neg (by omega), if_neg (by omega), if_neg (by omega), if_neg (by omega), if_neg (by omega), if_pos (by omega), if_pos (by omega)]) cod6 rfl
    · exact mk 2 4 "overlapped" 10 (p2 _ e1) (p4 _ e2) (by unfold nmI; rw [if_neg (by omega), if_neg (by omega), if_neg (by omega), if_neg (by omega), if_neg (by omega), if_neg (by omega), if_neg (by omega), if_neg (by omega)]) cod11 rfl
  · rcases k2 with e2 | e2 | e2 | e2 | e2
    · omega
    · omega
    · omega
    · omega
    · exact mk 3 4 "met" 11 (p3 _ e1) (p4 _ e2) (by unfold nmI; rw [if_neg (by omega), if_neg (by omega), if_neg (by omega), if_pos (by omega)]) cod12 rfl
  · rcases k2 with e2 | e2 | e2 | e2 | e2
    · omega
    · omega
    · omega
    · omega
    · exact mk 4 4 "after" 12 (p4 _ e1) (p4 _ e2) (by unfold nmI; rw [if_neg (by omega), if_neg (by omega), if_pos (by omega)]) cod13 rfl
theorem nmI_mem (a b c d : Int) : nmI a b c d ∈ nmL := by
  unfold nmI
  repeat (first | decide | split)

theorem cod_lit : ([(.tuple [(.int 0), (.int 0)]), (.tuple [(.int 0), (.int 1)]), (.tuple [(.int 0), (.int 2)]), (.tuple [(.int 1), (.int 2)]), (.tuple [(.int 2), (.int 2)]), (.tuple [(.int 2), (.int 3)]), (.tuple [(.int 1), (.int 3)]), (.tuple [(.int 0), (.int 3)]), (.tuple [(.int 0), (.int 4)]), (.tuple [(.int 1), (.int 4)]), (.tuple [(.int 2), (.int 4)]), (.tuple [(.int 3), (.int 4)]), (.tuple [(.int 4), (.int 4)])] : List D) = codL := rfl
theorem place_eq' (x a b : Int) : den_place_in [.val (.int x), .val (.tuple [.int a, .int b])] = .ret (.val (.int (placeN x a b))) [.val (.int x), .val (.tuple [.int a, .int b])] := place_eq x a b
theorem name_of_eq (a b c d : Int) (h : a < b) (h' : c < d) : den_name_of [.val (ivl a b), .val (ivl c d)] = .ret (.val (S (nmI a b c d))) [.val (ivl a b), .val (ivl c d)] := by
  obtain ⟨j, hj, hn⟩ := cod_nm a b c d h h'
  simp [den_name_of, body_name_of, cod_lit, nm_lit, ivl, place_eq', hj, hn]
theorem known_ivl (a b : Int) (h1 : -1000 ≤ a) (h2 : a < b) (h3 : b ≤ 1000) : known (ivl a b) (-1000) 1000 = true := by
  have e1 : a ≤ 1000 := by omega
  have e2 : a + 1 ≤ b := by omega
  simp [known, ivl, h1, h3, e1, e2]
theorem relation_of_eq (a b c d : Int) (h1 : -1000 ≤ a) (h2 : a < b) (h3 : b ≤ 1000) (g1 : -1000 ≤ c) (g2 : c < d) (g3 : d ≤ 1000) :
    den_relation_of [.val (ivl a b), .val (ivl c d)] = .ret (.val (S (nmI a b c d))) [.val (ivl a b), .val (ivl c d)] := by
  simp [den_relation_of, body_relation_of, check_ok, known_ivl, name_of_eq, h1, h2, h3, g1, g2, g3, ivl_un]

def nmT (s : String) : String := nmL.getD (12 - nmL.idxOf s) ""
theorem nmT_mem : ∀ s ∈ nmL, nmT s ∈ nmL ∧ nmT (nmT s) = s := by decide
theorem ix_nm : ∀ s ∈ nmL, (nmL.findIdx? fun t => decide (t = s)) = some (nmL.idxOf s) ∧ nmL.idxOf s ≤ 12 ∧ nmL[12 - nmL.idxOf s]? = some (nmT s) := by decide
theorem turn_row : ∀ n : Nat, n ≤ 12 → ([(.int 12), (.int 11), (.int 10), (.int 9), (.int 8), (.int 7), (.int 6), (.int 5), (.int 4), (.int 3), (.int 2), (.int 1), (.int 0)] : List D)[n]? = some (.int ((12 - n : Nat) : Int)) := by
  intro n hn
  rcases n with _ | _ | _ | _ | _ | _ | _ | _ | _ | _ | _ | _ | _ | n
  all_goals first | rfl | omega
theorem atI_nm (n : Nat) : atI (nmL.map S) (n : Int) = (nmL[n]?).map S := by
  rw [Dk.atI_nat, List.getElem?_map]
theorem turned_eq (s : String) (h : s ∈ nmL) : den_turned_name [.val (S s)] = .ret (.val (S (nmT s))) [.val (S s)] := by
  obtain ⟨h1, h2, h3⟩ := ix_nm s h
  simp [den_turned_name, body_turned_name, nm_lit, indexD_strs, h1, turn_row _ h2, h3]
theorem names_eq : den__law_names [] = .ret (.own (.lst (nmL.map S))) [] := by
  simp [den__law_names, body__law_names]
  rfl
theorem law_turn_eq (s : String) (h : s ∈ nmL) : den__law_turn [.val (S s)] = .ret (.val (S (nmT s))) [.val (S s)] := by
  obtain ⟨h1, h2, h3⟩ := ix_nm s h
  have h4 : (12 : Int) - ((nmL.idxOf s : Nat) : Int) = ((12 - nmL.idxOf s : Nat) : Int) := by omega
  simp [den__law_turn, body__law_turn, names_eq, indexD_strs, h1, h4, h3]

abbrev R (l : List String) : D := .tuple (l.map S)
@[simp] theorem R_un (l : List String) : (R l).un = R l := rfl
theorem rel_mem {l : List String} (h : ord l = l) {s : String} (hs : s ∈ l) : s ∈ nmL := by
  rw [← h] at hs; exact (List.mem_filter.mp hs).1
theorem rel_len {l : List String} (h : ord l = l) : l.length ≤ sizeLine := by
  rw [← h]; exact Nat.le_trans (List.length_filter_le _ _) nm_len
theorem ord_filter (p : String → Bool) : ord (nmL.filter p) = nmL.filter p := by
  unfold ord
  refine List.filter_congr fun s hs => ?_
  by_cases hp : p s = true
  · simp [List.mem_filter, hs, hp]
  · simp [List.mem_filter, hs, hp]
theorem known_rel (l : List String) (h : ord l = l) : den_is_known_relation [.val (R l)] = .ret (.val (.bool true)) [.val (R l)] := by
  have e1 := eLc_all (fi := iAny (eVar 0)) (h := gN 1) (tt := eYes) (elt := eAnd (eIsi [.str] (eVar 1)) (eOp inD (eVar 1) (eC (.tuple (nmL.map S))))) (vs := [1]) (ρ := [.val (R l), .emp]) l S (fun _ => D.bool true)
    (by simp) (rel_len h) (by simp [clearB])
    (fun s hs => by
      have hm := rel_mem h hs
      simp [lcStep, wipeE, isT, hm])
  have e2 := in_order_eq (R l) l (.inl rfl)
  simp [den_is_known_relation, body_is_known_relation, nm_lit, e1, e2, h, isT]

theorem checkr_ok (l : List String) (h : ord l = l) : den_check_relation [.val (R l)] = .ret (.val .none) [.val (R l)] := by
  simp [den_check_relation, body_check_relation, known_rel l h]
theorem checkr_bad (d : D) (h : den_is_known_relation [.val d] = .ret (.val (.bool false)) [.val d]) : den_check_relation [.val d] = .exc (Str.ofString "InvalidRelation") [(Str.ofString "given", d)] [.val d] := by
  simp [den_check_relation, body_check_relation, h]
theorem check2_ok (l m : List String) (h : ord l = l) (g : ord m = m) : den_check_two [.val (R l), .val (R m)] = .ret (.val .none) [.val (R l), .val (R m)] := by
  simp [den_check_two, body_check_two, checkr_ok, h, g]
theorem check2_bad1 (d e : D) (h : den_is_known_relation [.val d] = .ret (.val (.bool false)) [.val d]) : den_check_two [.val d, .val e] = .exc (Str.ofString "InvalidRelation") [(Str.ofString "given", d)] [.val d, .val e] := by
  simp [den_check_two, body_check_two, checkr_bad d h]
theorem check2_bad2 (l : List String) (d : D) (g : ord l = l) (h : den_is_known_relation [.val d] = .ret (.val (.bool false)) [.val d]) : den_check_two [.val (R l), .val d] = .exc (Str.ofString "InvalidRelation") [(Str.ofString "given", d)] [.val (R l), .val d] := by
  simp [den_check_two, body_check_two, checkr_bad d h, checkr_ok, g]
theorem rest_eq (l : List String) (h : ord l = l) : den_rest [.val (R l)] = .ret (.val (R (nmL.filter fun s => !decide (s ∈ l)))) [.val (R l)] := by
  have e1 := eLc_map (fi := iAny (eC (.tuple (nmL.map S)))) (h := gN 1) (tt := eOp notInD (eVar 1) (eVar 0)) (elt := eVar 1) (vs := [1]) (ρ := [.val (R l), .emp]) nmL S S (fun s => !decide (s ∈ l))
    (by simp) nm_len (by simp [clearB])
    (fun s hs => by
      by_cases hm : s ∈ l <;> simp [lcStep, wipeE, hm])
  simp [den_rest, body_rest, nm_lit, e1, checkr_ok, h]
theorem both_eq (l m : List String) (h : ord l = l) (g : ord m = m) : den_both [.val (R l), .val (R m)] = .ret (.val (R (nmL.filter fun s => decide (s ∈ l) && decide (s ∈ m)))) [.val (R l), .val (R m)] := by
  have e1 := eLc_map (fi := iAny (eVar 0)) (h := gN 2) (tt := eOp inD (eVar 2) (eVar 1)) (elt := eVar 2) (vs := [2]) (ρ := [.val (R l), .val (R m), .emp]) l S S (fun s => decide (s ∈ m))
    (by simp) (rel_len h) (by simp [clearB])
    (fun s hs => by
      by_cases hm : s ∈ m <;> simp [lcStep, wipeE, hm])
  have e2 : l.filter (fun s => decide (s ∈ m)) = nmL.filter fun s => decide (s ∈ l) && decide (s ∈ m) := by
    conv => lhs; rw [← h]
    unfold ord
    rw [List.filter_filter]
    refine List.filter_congr fun s _ => ?_
    rw [Bool.and_comm]
  rw [e2] at e1
  simp [den_both, body_both, e1, check2_ok, h, g]
theorem either_eq (l m : List String) (h : ord l = l) (g : ord m = m) : den_either [.val (R l), .val (R m)] = .ret (.val (R (nmL.filter fun s => decide (s ∈ l) || decide (s ∈ m)))) [.val (R l), .val (R m)] := by
  have hl : l.length + m.length ≤ sizeLine := by
    have h1 : l.length ≤ 13 := by rw [← h]; exact List.length_filter_le _ _
    have h2 : m.length ≤ 13 := by rw [← g]; exact List.length_filter_le _ _
    exact le_line (by omega)
  have e2 := in_order_eq (.tuple (l.map S ++ m.map S)) (l ++ m) (.inl (by rw [← List.map_append]; rfl))
  have e3 : ord (l ++ m) = nmL.filter fun s => decide (s ∈ l) || decide (s ∈ m) := by
    unfold ord
    refine List.filter_congr fun s _ => ?_
    simp
  rw [e3] at e2
  simp [den_either, body_either, check2_ok, h, g, hl, e2]
theorem converse_of_eq (l : List String) (h : ord l = l) : den_converse_of [.val (R l)] = .ret (.val (R (ord (l.map nmT)))) [.val (R l)] := by
  have e1 := eLc_all (fi := iAny (eVar 0)) (h := gN 1) (tt := eYes) (elt := eCallG den_turned_name [(.v (eVar 1))] [.a 0]) (vs := [1]) (ρ := [.val (R l), .emp]) l S (fun s => S (nmT s))
    (by simp) (rel_len h) (by simp [clearB])
    (fun s hs => by
      have hm := turned_eq s (rel_mem h hs)
      simp [lcStep, wipeE, hm])
  have e2 := in_order_eq (.list ((l.map nmT).map S)) (l.map nmT) (.inr rfl)
  rw [show l.map (fun s => S (nmT s)) = (l.map nmT).map S by rw [List.map_map]; rfl] at e1
  rw [List.map_map] at e2
  simp [den_converse_of, body_converse_of, e1, e2]
theorem converse_eq (l : List String) (h : ord l = l) : den_converse [.val (R l)] = .ret (.val (R (ord (l.map nmT)))) [.val (R l)] := by
  simp [den_converse, body_converse, checkr_ok, h, converse_of_eq]
theorem is_rel_eq (d : D) (b : Bool) (h : den_is_known_relation [.val d] = .ret (.val (.bool b)) [.val d]) : den_is_relation [.val d] = .ret (.val (.bool b)) [.val d] := by
  simp [den_is_relation, body_is_relation, h]
theorem ordered_eq (d : D) (l : List String) (h : d.un = .tuple (l.map S) ∨ d.un = .list (l.map S)) : den__law_ordered [.val d] = .ret (.val (R (ord l))) [.val d] := by
  have hin : ∀ s, inD (S s) d.un = some (.val (.bool (decide (s ∈ l)))) := fun s => by rcases h with h | h <;> rw [h] <;> simp
  have e1 := eLc_map (fi := iAny (eCallG den__law_names [] [])) (h := gN 1) (tt := eOp inD (eVar 1) (eVar 0)) (elt := eVar 1) (vs := [1]) (ρ := [.val d, .emp]) nmL S S (fun s => decide (s ∈ l))
    (by simp [names_eq]) nm_len (by simp [clearB])
    (fun s hs => by
      by_cases hm : s ∈ l <;> simp [lcStep, wipeE, hin, hm])
  simp [den__law_ordered, body__law_ordered, e1, ord]

theorem said0 (n : Bool) (a b c d : Int) (h1 : -1000 ≤ a) (h2 : a < b) (h3 : b ≤ 1000) (g1 : -1000 ≤ c) (g2 : c < d) (g3 : d ≤ 1000) :
    den__law_said [.val (.int 0), .val (ivl a b), .val (ivl c d), .val (.bool n)] = .ret (.own (.lst [S "told", S (nmI a b c d)])) [.val (.int 0), .val (ivl a b), .val (ivl c d), .val (.bool n)] := by
  have e := relation_of_eq a b c d h1 h2 h3 g1 g2 g3
  cases n <;> simp [den__law_said, body__law_said, e]

theorem said1 (n : Bool) (l : List String) (o : D) (h : ord l = l) :
    den__law_said [.val (.int 1), .val (R l), .val o, .val (.bool n)] = .ret (.own (.lst [S "told", R (ord (l.map nmT))])) [.val (.int 1), .val (R l), .val o, .val (.bool n)] := by
  have e := converse_eq l h
  cases n <;> simp [den__law_said, body__law_said, e]

theorem said2 (n : Bool) (l : List String) (o : D) (h : ord l = l) :
    den__law_said [.val (.int 2), .val (R l), .val o, .val (.bool n)] = .ret (.own (.lst [S "told", R (nmL.filter fun s => !decide (s ∈ l))])) [.val (.int 2), .val (R l), .val o, .val (.bool n)] := by
  have e := rest_eq l h
  cases n <;> simp [den__law_said, body__law_said, e]

theorem said3 (n : Bool) (l m : List String) (h : ord l = l) (g : ord m = m) :
    den__law_said [.val (.int 3), .val (R l), .val (R m), .val (.bool n)] = .ret (.own (.lst [S "told", R (nmL.filter fun s => decide (s ∈ l) || decide (s ∈ m))])) [.val (.int 3), .val (R l), .val (R m), .val (.bool n)] := by
  have e := either_eq l m h g
  cases n <;> simp [den__law_said, body__law_said, e]

theorem said4 (n : Bool) (l m : List String) (h : ord l = l) (g : ord m = m) :
    den__law_said [.val (.int 4), .val (R l), .val (R m), .val (.bool n)] = .ret (.own (.lst [S "told", R (nmL.filter fun s => decide (s ∈ l) && decide (s ∈ m))])) [.val (.int 4), .val (R l), .val (R m), .val (.bool n)] := by
  have e := both_eq l m h g
  cases n <;> simp [den__law_said, body__law_said, e]

theorem isa_ii : isa_ (Str.ofString "InvalidInterval") (Str.ofString "InvalidInterval") = some true := by rfl
theorem isa_ir : isa_ (Str.ofString "InvalidInterval") (Str.ofString "InvalidRelation") = some false := by rfl
theorem isa_rr : isa_ (Str.ofString "InvalidRelation") (Str.ofString "InvalidRelation") = some true := by rfl

theorem hd_yes {m : Str → Option Bool} {i : Nat} {g : GX} {hs : List Hd} {c : Str} {fs : List (Str × D)} {ρ ρ' : Dk.Env} {o : Sl} (h : m c = some true) (h1 : setSl i .emp ρ = some ρ') (h2 : g c fs = some o) : handleD (hdAs m i g :: hs) c fs ρ = .ret o ρ' := by
  simp only [handleD, hdAs, h, h1, h2]
theorem hd_nay {h : Hd} {hs : List Hd} {c : Str} {fs : List (Str × D)} {ρ : Dk.Env} (e : h.m c = some false) : handleD (h :: hs) c fs ρ = handleD hs c fs ρ := by
  simp only [handleD, e]
theorem g_int (t c f : Str) (d : D) : (gLst (gCons (gC_ (.str t)) (gCons (gFld c f) gNil))) c [(f, d)] = some (.own (.lst [.str t, d])) := by
  show (Dk.gLst (Dk.gCons (gC_ (.str t)) (Dk.gCons (gFld c f) Dk.gNil))) c [(f, d)] = _
  simp [Dk.gLst, Dk.gCons, gC_, gFld, Dk.gNil, Sl.frz]
theorem hand_i (d : D) (a b c e : Sl) (hs : List Hd) : handleD (hdAs (isa_ (Str.ofString "InvalidInterval")) 4 (gLst (gCons (gC_ (.str (Str.ofString "interval"))) (gCons (gFld (Str.ofString "InvalidInterval") (Str.ofString "given")) gNil))) :: hs) (Str.ofString "InvalidInterval") [(Str.ofString "given", d)] [a, b, c, e, .emp] = .ret (.own (.lst [S "interval", d])) [a, b, c, e, .emp] :=
  hd_yes isa_ii rfl (g_int _ _ _ _)
theorem hand_r (d : D) (a b c e : Sl) (hs : List Hd) (i : Nat) (g : GX) : handleD (hdAs (isa_ (Str.ofString "InvalidInterval")) i g :: hdAs (isa_ (Str.ofString "InvalidRelation")) 4 (gLst (gCons (gC_ (.str (Str.ofString "relation"))) (gCons (gFld (Str.ofString "InvalidRelation") (Str.ofString "given")) gNil))) :: hs) (Str.ofString "InvalidRelation") [(Str.ofString "given", d)] [a, b, c, e, .emp] = .ret (.own (.lst [S "relation", d])) [a, b, c, e, .emp] := by
  rw [hd_nay (h := hdAs (isa_ (Str.ofString "InvalidInterval")) i g) (show isa_ _ _ = _ from isa_ir)]
  exact hd_yes isa_rr rfl (g_int _ _ _ _)
theorem said0_bad1 (n : Bool) (d e : D) (h : known d.un (-1000) 1000 = false) :
    den__law_said [.val (.int 0), .val d, .val e, .val (.bool n)] = .ret (.own (.lst [S "interval", d])) [.val (.int 0), .val d, .val e, .val (.bool n)] := by
  have e1 : ∀ e, den_relation_of [.val d, .val e] = .exc (Str.ofString "InvalidInterval") [(Str.ofString "given", d)] [.val d, .val e] := fun e => by
    simp [den_relation_of, body_relation_of, check_bad d _ _ h]
  cases n <;> simp [den__law_said, body__law_said, e1, hand_i]
theorem said0_bad2 (n : Bool) (a b : Int) (h1 : -1000 ≤ a) (h2 : a < b) (h3 : b ≤ 1000) (e : D) (h : known e.un (-1000) 1000 = false) :
    den__law_said [.val (.int 0), .val (ivl a b), .val e, .val (.bool n)] = .ret (.own (.lst [S "interval", e])) [.val (.int 0), .val (ivl a b), .val e, .val (.bool n)] := by
  have e1 : den_relation_of [.val (ivl a b), .val e] = .exc (Str.ofString "InvalidInterval") [(Str.ofString "given", e)] [.val (ivl a b), .val e] := by
    simp [den_relation_of, body_relation_of, check_bad e _ _ h, check_ok, known_ivl, h1, h2, h3]
  cases n <;> simp [den__law_said, body__law_said, e1, hand_i]
def BadR (d : D) : Prop := den_is_known_relation [.val d] = .ret (.val (.bool false)) [.val d]
theorem said1_bad (n : Bool) (d e : D) (h : BadR d) :
    den__law_said [.val (.int 1), .val d, .val e, .val (.bool n)] = .ret (.own (.lst [S "relation", d])) [.val (.int 1), .val d, .val e, .val (.bool n)] := by
  have e1 : den_converse [.val d] = .exc (Str.ofString "InvalidRelation") [(Str.ofString "given", d)] [.val d] := by
    simp [den_converse, body_converse, checkr_bad d h]
  cases n <;> simp [den__law_said, body__law_said, e1, hand_r]
theorem said2_bad (n : Bool) (d e : D) (h : BadR d) :
    den__law_said [.val (.int 2), .val d, .val e, .val (.bool n)] = .ret (.own (.lst [S "relation", d])) [.val (.int 2), .val d, .val e, .val (.bool n)] := by
  have e1 : den_rest [.val d] = .exc (Str.ofString "InvalidRelation") [(Str.ofString "given", d)] [.val d] := by
    simp [den_rest, body_rest, checkr_bad d h]
  cases n <;> simp [den__law_said, body__law_said, e1, hand_r]
theorem said3_bad (n : Bool) (d e : D) (h : BadR d) :
    den__law_said [.val (.int 3), .val d, .val e, .val (.bool n)] = .ret (.own (.lst [S "relation", d])) [.val (.int 3), .val d, .val e, .val (.bool n)] := by
  have e1 : den_either [.val d, .val e] = .exc (Str.ofString "InvalidRelation") [(Str.ofString "given", d)] [.val d, .val e] := by
    simp [den_either, body_either, check2_bad1 d e h]
  cases n <;> simp [den__law_said, body__law_said, e1, hand_r]
theorem said4_bad (n : Bool) (d e : D) (h : BadR d) :
    den__law_said [.val (.int 4), .val d, .val e, .val (.bool n)] = .ret (.own (.lst [S "relation", d])) [.val (.int 4), .val d, .val e, .val (.bool n)] := by
  have e1 : den_both [.val d, .val e] = .exc (Str.ofString "InvalidRelation") [(Str.ofString "given", d)] [.val d, .val e] := by
    simp [den_both, body_both, check2_bad1 d e h]
  cases n <;> simp [den__law_said, body__law_said, e1, hand_r]
theorem said3_bad2 (n : Bool) (l : List String) (d : D) (g : ord l = l) (h : BadR d) :
    den__law_said [.val (.int 3), .val (R l), .val d, .val (.bool n)] = .ret (.own (.lst [S "relation", d])) [.val (.int 3), .val (R l), .val d, .val (.bool n)] := by
  have e1 : den_either [.val (R l), .val d] = .exc (Str.ofString "InvalidRelation") [(Str.ofString "given", d)] [.val (R l), .val d] := by
    simp [den_either, body_either, check2_bad2 l d g h]
  cases n <;> simp [den__law_said, body__law_said, e1, hand_r]
theorem said4_bad2 (n : Bool) (l : List String) (d : D) (g : ord l = l) (h : BadR d) :
    den__law_said [.val (.int 4), .val (R l), .val d, .val (.bool n)] = .ret (.own (.lst [S "relation", d])) [.val (.int 4), .val (R l), .val d, .val (.bool n)] := by
  have e1 : den_both [.val (R l), .val d] = .exc (Str.ofString "InvalidRelation") [(Str.ofString "given", d)] [.val (R l), .val d] := by
    simp [den_both, body_both, check2_bad2 l d g h]
  cases n <;> simp [den__law_said, body__law_said, e1, hand_r]

theorem take1 {m : Nat} {l : List D} (h : BOk m l) (many : Int) (hm : m < 1000000000 := by omega) (h1 : 1 ≤ many := by omega) (h2 : many < 1073741824 := by omega) :
    ∃ d l', den__law_take [.ref (.lst l), .val (.int many)] = .ret (.val (.int d)) [.ref (.lst l'), .val (.int many)] ∧ 0 ≤ d ∧ d < many ∧ BOk (m + 1) l' := by
  rw [take_eq]; exact take_ok smallc h hm h1 h2
theorem pick3 (x y z : Int) {t : Int} (h0 : 0 ≤ t) (h1 : t < 3) : ∃ w, atI [D.int x, D.int y, D.int z] t = some (.int w) ∧ (w = x ∨ w = y ∨ w = z) := by
  have : t = 0 ∨ t = 1 ∨ t = 2 := by omega
  rcases this with rfl | rfl | rfl
  · exact ⟨x, by simp, .inl rfl⟩
  · exact ⟨y, by simp, .inr (.inl rfl)⟩
  · exact ⟨z, by simp, .inr (.inr rfl)⟩
theorem pick2 (x y : Int) {t : Int} (h0 : 0 ≤ t) (h1 : t < 2) : ∃ w, atI [D.int x, D.int y] t = some (.int w) ∧ (w = x ∨ w = y) := by
  have : t = 0 ∨ t = 1 := by omega
  rcases this with rfl | rfl
  · exact ⟨x, by simp, .inl rfl⟩
  · exact ⟨y, by simp, .inr rfl⟩
def PairOut (m : Nat) (l : List D) : Prop := ∃ a b c d l', den__law_pair [.ref (.lst l)] = .ret (.val (.tuple [ivl a b, ivl c d])) [.ref (.lst l')] ∧ (-1000 ≤ a ∧ a < b ∧ b ≤ 1000 ∧ -1000 ≤ c ∧ c < d ∧ d ≤ 1000) ∧ BOk (m + 12) l'
theorem pair_ok {m : Nat} {l : List D} (h : BOk m l) (hm : m < 900000000) : PairOut m l := by
  obtain ⟨t1, l1, e1, a1, b1, k1⟩ := take1 h 500
  obtain ⟨t2, l2, e2, a2, b2, k2⟩ := take1 k1 6
  obtain ⟨t3, l3, e3, a3, b3, k3⟩ := take1 k2 480
  obtain ⟨t4, l4, e4, a4, b4, k4⟩ := take1 k3 3
  obtain ⟨en, x1, x2⟩ := pick3 (-1000 + t1) (t2 - 3) (500 + t3) a4 b4
  obtain ⟨t5, l5, e5, a5, b5, k5⟩ := take1 k4 6
  obtain ⟨t6, l6, e6, a6, b6, k6⟩ := take1 k5 14
  obtain ⟨t7, l7, e7, a7, b7, k7⟩ := take1 k6 3
  obtain ⟨lo, hlo⟩ : ∃ lo, lo = (if -1000 > en - 8 + t6 then -1000 else en - 8 + t6) := ⟨_, rfl⟩
  have hen : -1000 ≤ en ∧ en ≤ 979 := by omega
  have hlo1 : -1000 ≤ lo ∧ lo ≤ 984 := by rw [hlo]; split <;> omega
  unfold PairOut
  by_cases c7 : t7 = 0
  · subst c7
    obtain ⟨t8, l8, e8, a8, b8, k8⟩ := take1 k7 2
    obtain ⟨lw, y1, y2⟩ := pick2 en (en + 1 + t5) a8 b8
    obtain ⟨t9, l9, e9, a9, b9, k9⟩ := take1 k8 7
    obtain ⟨t10, l10, e10, a10, b10, k10⟩ := take1 k9 3
    have hlw : -1000 ≤ lw ∧ lw ≤ 985 := by omega
    by_cases c10 : t10 = 0
    · subst c10
      obtain ⟨t11, l11, e11, a11, b11, k11⟩ := take1 k10 2
      obtain ⟨hg, z1, z2⟩ := pick2 en (en + 1 + t5) a11 b11
      refine ⟨en, en + 1 + t5, lw, if lw < hg then hg else lw + 1, l11, ?_, ⟨by omega, by omega, by omega, by omega, by split <;> omega, by split <;> omega⟩, k11.mono (by omega)⟩
      simp [den__law_pair, body__law_pair, e1, e2, e3, e4, x1, e5, e6, e7, e8, y1, e9, e10, e11, z1, ivl]
      try (split <;> simp_all)
    · refine ⟨en, en + 1 + t5, lw, lw + 1 + t9, l10, ?_, ⟨by omega, by omega, by omega, by omega, by omega, by omega⟩, k10.mono (by omega)⟩
      have hp : lw < lw + 1 + t9 := by omega
      simp [den__law_pair, body__law_pair, e1, e2, e3, e4, x1, e5, e6, e7, e8, y1, e9, e10, c10, ivl, hp]
  · obtain ⟨t9, l9, e9, a9, b9, k9⟩ := take1 k7 7
    obtain ⟨t10, l10, e10, a10, b10, k10⟩ := take1 k9 3
    by_cases c10 : t10 = 0
    · subst c10
      obtain ⟨t11, l11, e11, a11, b11, k11⟩ := take1 k10 2
      obtain ⟨hg, z1, z2⟩ := pick2 en (en + 1 + t5) a11 b11
      refine ⟨en, en + 1 + t5, lo, if lo < hg then hg else lo + 1, l11, ?_, ⟨by omega, by omega, by omega, by omega, by split <;> omega, by split <;> omega⟩, k11.mono (by omega)⟩
      simp [den__law_pair, body__law_pair, e1, e2, e3, e4, x1, e5, e6, e7, c7, ← hlo, e9, e10, e11, z1, ivl]
      try (split <;> simp_all)
    · refine ⟨en, en + 1 + t5, lo, lo + 1 + t9, l10, ?_, ⟨by omega, by omega, by omega, by omega, by omega, by omega⟩, k10.mono (by omega)⟩
      have hp : lo < lo + 1 + t9 := by omega
      simp [den__law_pair, body__law_pair, e1, e2, e3, e4, x1, e5, e6, e7, c7, ← hlo, e9, e10, c10, ivl, hp]
theorem lcD_st {α σ : Type} {h : Tg} {tt elt : EX} {vs : List Nat} (f g : α → D) (E : σ → Dk.Env) (I : Nat → σ → Prop) : ∀ (xs : List α) (k : Nat) (s : σ) (acc : List D), I k s →
    (∀ a ∈ xs, ∀ j s, I j s → j < k + xs.length → ∃ b s', lcStep h tt elt vs (f a) (E s) = some (if b = true then some (g a) else none, E s') ∧ I (j + 1) s') →
    ∃ (ys : List α) (s' : σ), ys.Sublist xs ∧ I (k + xs.length) s' ∧ lcD h tt elt vs (xs.map f) (E s) acc = .ok (.own (.lst (acc ++ ys.map g))) (E s')
  | [], k, s, acc, h0, _ => ⟨[], s, List.Sublist.refl _, h0, by simp [lcD]⟩
  | a :: xs, k, s, acc, h0, hs => by
    obtain ⟨b, s1, e, h1⟩ := hs a List.mem_cons_self k s h0 (by simp)
    have ih := fun acc => lcD_st (h := h) (tt := tt) (elt := elt) (vs := vs) f g E I xs (k + 1) s1 acc h1 fun x hx j s hj hlt => hs x (List.mem_cons_of_mem _ hx) j s hj (by simp only [List.length_cons]; omega)
    have hk : k + 1 + xs.length = k + (a :: xs).length := by simp only [List.length_cons]; omega
    cases b with
    | true =>
      obtain ⟨ys, s', y1, y2, y3⟩ := ih (acc ++ [g a])
      refine ⟨a :: ys, s', y1.cons₂ a, hk ▸ y2, ?_⟩
      rw [List.map_cons, lcD_cons, e]
      simp only [if_true, y3]
      simp
    | false =>
      obtain ⟨ys, s', y1, y2, y3⟩ := ih acc
      refine ⟨ys, s', y1.cons a, hk ▸ y2, ?_⟩
      rw [List.map_cons, lcD_cons, e]
      simp only [Bool.false_eq_true, if_false, y3]
theorem eLc_st {α σ : Type} {fi : EX} {h : Tg} {tt elt : EX} {vs : List Nat} {ρ : Dk.Env} (xs : List α) (f g : α → D) (E : σ → Dk.Env) (I : Nat → σ → Prop) (k : Nat) (s : σ)
    (hfi : fi ρ = .ok (.val (.list (xs.map f))) ρ) (hl : xs.length ≤ sizeLine) (hc : clearB vs ρ = true) (hw : wipeE vs ρ = E s) (h0 : I k s)
    (hs : ∀ a ∈ xs, ∀ j s, I j s → j < k + xs.length → ∃ b s', lcStep h tt elt vs (f a) (E s) = some (if b = true then some (g a) else none, E s') ∧ I (j + 1) s') :
    ∃ (ys : List α) (s' : σ), ys.Sublist xs ∧ I (k + xs.length) s' ∧ eLc fi h tt elt vs ρ = .ok (.own (.lst (ys.map g))) (unwipe vs ρ (E s')) := by
  obtain ⟨ys, s', y1, y2, y3⟩ := lcD_st (h := h) (tt := tt) (elt := elt) (vs := vs) f g E I xs k s [] h0 hs
  refine ⟨ys, s', y1, y2, ?_⟩
  unfold eLc
  simp only [hfi, hc, List.length_map, hl, true_and, if_true, hw, y3, R.unw, List.nil_append]
theorem sub_filter {α : Type} [DecidableEq α] : ∀ {ys xs : List α}, ys.Sublist xs → xs.Nodup → xs.filter (fun s => decide (s ∈ ys)) = ys
  | _, _, .slnil, _ => rfl
  | ys, _, .cons (l₂ := xs) a h, hn => by
    obtain ⟨h1, h2⟩ := List.nodup_cons.mp hn
    have : a ∉ ys := fun hm => h1 (h.subset hm)
    rw [List.filter_cons_of_neg (by simpa using this)]
    exact sub_filter h h2
  | _, _, .cons₂ (l₁ := ys) (l₂ := xs) a h, hn => by
    obtain ⟨h1, h2⟩ := List.nodup_cons.mp hn
    rw [List.filter_cons_of_pos (by simp)]
    congr 1
    rw [← sub_filter h h2]
    refine List.filter_congr fun s hs => ?_
    have hne : s ≠ a := fun e => h1 (e ▸ hs)
    rw [sub_filter h h2]
    simp [hne]
theorem nm_nodup : nmL.Nodup := by decide
theorem ord_sub {ys : List String} (h : ys.Sublist nmL) : ord ys = ys := sub_filter h nm_nodup

theorem pickN {α : Type} (xs : List α) {t : Int} (h0 : 0 ≤ t) (h1 : t < xs.length) : ∃ w, atI xs t = some w ∧ w ∈ xs := by
  obtain ⟨n, rfl⟩ := Int.eq_ofNat_of_zero_le h0
  have hn : n < xs.length := by omega
  refine ⟨xs[n], by rw [Dk.atI_nat]; simp [hn], List.getElem_mem hn⟩
theorem pickS {t : Int} (h0 : 0 ≤ t) (h1 : t < 13) : ∃ s ∈ nmL, atI (nmL.map S) t = some (S s) := by
  obtain ⟨w, e, hw⟩ := pickN (nmL.map S) h0 (by rw [List.length_map]; exact h1)
  obtain ⟨s, hs, rfl⟩ := List.mem_map.mp hw
  exact ⟨s, hs, e⟩
theorem eqv_S' (s t : String) : eqD (S s) (S t) = some (.val (.bool (decide (s = t)))) := by
  unfold eqD
  rw [if_pos ⟨shp_str s, shp_str t⟩]
  show some (Sl.val (.bool (PyData.eqv (S s).toP (S t).toP))) = _
  rw [eqv_S]
def RelOut (m : Nat) (l : List D) : Prop := ∃ ys l', ord ys = ys ∧ BOk (m + 20) l' ∧ den__law_relation [.ref (.lst l)] = .ret (.val (R ys)) [.ref (.lst l')]
theorem rel_ok {m : Nat} {l : List D} (h : BOk m l) (hm : m < 900000000) : RelOut m l := by
  unfold RelOut
  obtain ⟨t1, l1, e1, a1, b1, k1⟩ := take1 h 6
  by_cases c0 : t1 = 0
  · subst c0
    obtain ⟨t2, l2, e2, a2, b2, k2⟩ := take1 k1 13
    obtain ⟨s, hs, x1⟩ := pickS a2 b2
    refine ⟨[s], l2, ord_sub (List.singleton_sublist.mpr hs), k2.mono (by omega), ?_⟩
    simp [den__law_relation, body__law_relation, names_eq, e1, e2, x1]
  by_cases c1 : t1 = 1
  · subst c1
    obtain ⟨t2, l2, e2, a2, b2, k2⟩ := take1 k1 13
    obtain ⟨s, hs, x1⟩ := pickS a2 b2
    refine ⟨nmL.filter fun t => !decide (t = s), l2, ord_filter _, k2.mono (by omega), ?_⟩
    have e3 := eLc_map (fi := iAny (eVar 2)) (h := gN 5) (tt := eOp neD (eVar 5) (eVar 4)) (elt := eVar 5) (vs := [5]) (ρ := [.ref (.lst l2), .emp, .val (.list (nmL.map S)), .val (.int 1), .val (S s), .emp]) nmL S S (fun t => !decide (t = s))
      (by simp) nm_len (by simp [clearB])
      (fun t ht => by
        by_cases hq : t = s <;> simp [lcStep, wipeE, hq])
    simp [den__law_relation, body__law_relation, names_eq, e1, e2, x1, e3]
  by_cases c2 : t1 = 2
  · subst c2
    obtain ⟨t2, l2, e2, a2, b2, k2⟩ := take1 k1 2
    have : t2 = 0 ∨ t2 = 1 := by omega
    rcases this with rfl | rfl
    · refine ⟨[], l2, by decide, k2.mono (by omega), ?_⟩
      simp [den__law_relation, body__law_relation, names_eq, e1, e2]
    · refine ⟨nmL, l2, by decide, k2.mono (by omega), ?_⟩
      simp [den__law_relation, body__law_relation, names_eq, e1, e2]
  obtain ⟨few, x1, x2⟩ := pick3 2 2 4 (t := t1 - 3) (by omega) (by omega)
  have hf : 1 ≤ few ∧ few < 1073741824 := by omega
  obtain ⟨ys, l2, y1, y2, y3⟩ := eLc_st (fi := iAny (eVar 2)) (h := gN 5) (tt := eOp eqD (eCallG den__law_take [(.r 0), (.v (eVar 1))] [.a 0, .a 1]) (eC (.int 0))) (elt := eVar 5) (vs := [5]) (ρ := [.ref (.lst l1), .val (.int few), .val (.list (nmL.map S)), .val (.int t1), .emp, .emp]) nmL S S
    (fun l => [.ref (.lst l), .val (.int few), .val (.list (nmL.map S)), .val (.int t1), .emp, .emp]) BOk (m + 1) l1
    (by simp) nm_len (by simp [clearB]) (by simp [wipeE]) k1
    (fun s hs j l hj hlt => by
      have hjj : j < m + 1 + 13 := hlt
      obtain ⟨t2, l2, e2, a2, b2, k2⟩ := take1 hj few (by omega) hf.1 hf.2
      refine ⟨decide (t2 = 0), l2, ?_, k2⟩
      by_cases hq : t2 = 0 <;> simp [lcStep, wipeE, e2, hq])
  have y2' : BOk (m + 1 + 13) l2 := y2
  refine ⟨ys, l2, ord_sub y1, y2'.mono (by omega), ?_⟩
  have y4 : unwipe [5] ([.ref (.lst l1), .val (.int few), .val (.list (nmL.map S)), .val (.int t1), .emp, .emp] : Dk.Env) [.ref (.lst l2), .val (.int few), .val (.list (nmL.map S)), .val (.int t1), .emp, .emp] = [.ref (.lst l2), .val (.int few), .val (.list (nmL.map S)), .val (.int t1), .emp, .emp] := rfl
  rw [y4] at y3
  simp [den__law_relation, body__law_relation, names_eq, e1, c0, c1, c2, x1, y3]
theorem badr_ord (l : List String) (h : ∀ s ∈ l, s ∈ nmL) (hl : l.length ≤ 1000) (g : ord l ≠ l) : BadR (R l) := by
  have e1 := eLc_all (fi := iAny (eVar 0)) (h := gN 1) (tt := eYes) (elt := eAnd (eIsi [.str] (eVar 1)) (eOp inD (eVar 1) (eC (.tuple (nmL.map S))))) (vs := [1]) (ρ := [.val (R l), .emp]) l S (fun _ => D.bool true)
    (by simp) (le_line (by omega)) (by simp [clearB])
    (fun s hs => by
      have hm := h s hs
      simp [lcStep, wipeE, isT, hm])
  have e2 := in_order_eq (R l) l (.inl rfl)
  unfold BadR
  simp [den_is_known_relation, body_is_known_relation, nm_lit, e1, e2, g, isT]
theorem bools_f : boolsOf [D.bool false] = some [false] := rfl
theorem badr_one (d : D) (hd : d.un = d) (hs : lcStep (gN 1) eYes (eAnd (eIsi [.str] (eVar 1)) (eOp inD (eVar 1) (eC (.tuple (nmL.map S))))) [1] d (wipeE [1] [.val (.tuple [d]), .emp]) = some (some (.bool false), wipeE [1] [.val (.tuple [d]), .emp])) : BadR (.tuple [d]) := by
  have e1 := eLc_all (fi := iAny (eVar 0)) (h := gN 1) (tt := eYes) (elt := eAnd (eIsi [.str] (eVar 1)) (eOp inD (eVar 1) (eC (.tuple (nmL.map S))))) (vs := [1]) (ρ := [.val (.tuple [d]), .emp]) [d] id (fun _ => D.bool false)
    (by simp) (le_line (by simp)) (by simp [clearB])
    (fun s h => by
      obtain rfl : s = d := by simpa using h
      exact hs)
  unfold BadR
  simp [den_is_known_relation, body_is_known_relation, nm_lit, e1, isT, bools_f]
theorem badr_not (d : D) (h : isT .tuple d.un = false) : BadR d := by
  unfold BadR
  simp [den_is_known_relation, body_is_known_relation, h]
def badL : List D := [.none, .int 5, .str (Str.ofString "before"), .list [.str (Str.ofString "before")], .tuple [.str (Str.ofString "meets"), .str (Str.ofString "before")], .tuple [.str (Str.ofString "before"), .str (Str.ofString "before")], .tuple [.str (Str.ofString "Before")], .tuple [.int 1], .tuple [.none], .dict [(.str (Str.ofString "a"), .int 1)], .tuple [.str (Str.ofString "before"), .str (Str.ofString "met"), .str (Str.ofString "meets")], .tuple [.tuple [.str (Str.ofString "before")]]]
theorem bad_all : ∀ d ∈ badL, BadR d := by
  intro d hd
  simp only [badL, List.mem_cons, List.not_mem_nil, or_false] at hd
  rcases hd with rfl | rfl | rfl | rfl | rfl | rfl | rfl | rfl | rfl | rfl | rfl | rfl
  · exact badr_not _ rfl
  · exact badr_not _ rfl
  · exact badr_not _ rfl
  · exact badr_not _ rfl
  · exact badr_ord ["meets", "before"] (by decide) (by decide) (by decide)
  · exact badr_ord ["before", "before"] (by decide) (by decide) (by decide)
  · refine badr_one (S "Before") rfl ?_
    have hq : "Before" ∉ nmL := by decide
    simp [lcStep, wipeE, isT, hq]
  · refine badr_one _ rfl ?_
    simp [lcStep, wipeE, isT]
  · refine badr_one _ rfl ?_
    simp [lcStep, wipeE, isT]
  · exact badr_not _ rfl
  · exact badr_ord ["before", "met", "meets"] (by decide) (by decide) (by decide)
  · refine badr_one _ rfl ?_
    simp [lcStep, wipeE, isT]
theorem bad_ok {m : Nat} {l : List D} (h : BOk m l) (hm : m < 900000000) : ∃ d ∈ badL, ∃ l', BOk (m + 1) l' ∧ den__law_bad_relation [.ref (.lst l)] = .ret (.val d) [.ref (.lst l')] := by
  obtain ⟨t1, l1, e1, a1, b1, k1⟩ := take1 h 12
  obtain ⟨w, x1, x2⟩ := pickN badL a1 b1
  refine ⟨w, x2, l1, k1, ?_⟩
  have x3 : atI badL t1 = some w := x1
  unfold badL at x3
  simp [den__law_bad_relation, body__law_bad_relation, e1, x3]
def oddL : List D := [.none, .int 5, .tuple [.int 3, .int 3], .tuple [.int 4, .int 2], .list [.int 0, .int 1], .tuple [.int 0, .int 1001], .tuple [.int (-1001), .int 0], .tuple [.bool true, .int 2], .tuple [.int 0, .int 1, .int 2], .str (Str.ofString "01"), .dict [(.str (Str.ofString "a"), .int 1)], .tuple [.str (Str.ofString "0"), .str (Str.ofString "1")]]
theorem odd_all : ∀ d ∈ oddL, known d.un (-1000) 1000 = false := by
  intro d hd
  simp only [oddL, List.mem_cons, List.not_mem_nil, or_false] at hd
  rcases hd with rfl | rfl | rfl | rfl | rfl | rfl | rfl | rfl | rfl | rfl | rfl | rfl
  all_goals rfl
/-- fits and stands without tags -/
def Ok (n : Nat) (d : D) : Prop := Fit n d ∧ d.strip = d
theorem same_self {n : Nat} {d : D} (h : Ok n d) : den__law_same n [.val d, .val d] = .ret (.val (.bool true)) [.val d, .val d] := by
  rw [same_eq]; exact same_ok n d d d h.1 h.2 h.2
theorem ok_str {n : Nat} (s : String) (h : (Str.ofString s).length ≤ 1000000) : Ok (n + 1) (S s) := ⟨⟨h, canLay_ofString s⟩, rfl⟩
theorem nm_short : ∀ s ∈ nmL, (Str.ofString s).length ≤ 1000000 := by decide
theorem strip_map {ds : List D} (h : ∀ d ∈ ds, d.strip = d) : D.stripL ds = ds := by
  rw [stripL_map]
  conv => rhs; rw [← List.map_id ds]
  exact List.map_congr_left h
theorem ok_list {n : Nat} {ds : List D} (hl : ds.length ≤ 1000000) (h : ∀ d ∈ ds, Ok n d) : Ok (n + 1) (.list ds) :=
  ⟨⟨hl, fun d hd => (h d hd).1⟩, by show D.list (D.stripL ds) = _; rw [strip_map fun d hd => (h d hd).2]⟩
theorem ok_tuple {n : Nat} {ds : List D} (hl : ds.length ≤ 1000000) (h : ∀ d ∈ ds, Ok n d) : Ok (n + 1) (.tuple ds) :=
  ⟨⟨hl, fun d hd => (h d hd).1⟩, by show D.tuple (D.stripL ds) = _; rw [strip_map fun d hd => (h d hd).2]⟩
theorem ok_rel {n : Nat} {l : List String} (h : ord l = l) : Ok (n + 2) (R l) :=
  ok_tuple (by rw [List.length_map]; have : l.length ≤ 13 := (by rw [← h]; exact List.length_filter_le _ _); omega) fun d hd => by
    obtain ⟨s, hs, rfl⟩ := List.mem_map.mp hd
    exact ok_str s (nm_short s (rel_mem h hs))
theorem ok_int {n : Nat} (i : Int) : Ok (n + 1) (.int i) := ⟨trivial, rfl⟩
theorem ok_bool {n : Nat} (b : Bool) : Ok (n + 1) (.bool b) := ⟨trivial, rfl⟩
theorem ok_none {n : Nat} : Ok (n + 1) .none := ⟨trivial, rfl⟩
theorem ok_two {n : Nat} {c d : D} (h : Ok n c) (g : Ok n d) : Ok (n + 1) (.list [c, d]) := ok_list (by simp) fun x hx => by
  simp only [List.mem_cons, List.not_mem_nil, or_false] at hx
  rcases hx with rfl | rfl
  · exact h
  · exact g
theorem ok_told {n : Nat} {d : D} (h : Ok (n + 1) d) : Ok (n + 2) (.list [S "told", d]) := ok_two (ok_str _ (by decide)) h
theorem forD_inv {t : Tg} {p : SX} (I : Nat → Dk.Env → Prop) : ∀ (ds : List D) (k : Nat) (ρ : Dk.Env), I k ρ →
    (∀ d ∈ ds, ∀ j ρ, I j ρ → j < k + ds.length → ∃ ρ1 ρ2, t.h d ρ = some ρ1 ∧ p ρ1 = .nx ρ2 ∧ I (j + 1) ρ2) → ∃ ρ', I (k + ds.length) ρ' ∧ forD t p ds ρ = .nx ρ'
  | [], k, ρ, h0, _ => ⟨ρ, h0, rfl⟩
  | d :: ds, k, ρ, h0, hs => by
    obtain ⟨ρ1, ρ2, e1, e2, h1⟩ := hs d List.mem_cons_self k ρ h0 (by simp)
    obtain ⟨ρ', h2, e3⟩ := forD_inv I ds (k + 1) ρ2 h1 fun x hx j ρ hj hlt => hs x (List.mem_cons_of_mem _ hx) j ρ hj (by simp only [List.length_cons]; omega)
    refine ⟨ρ', by rw [show k + (d :: ds).length = k + 1 + ds.length by simp only [List.length_cons]; omega]; exact h2, ?_⟩
    unfold forD
    simp only [e1, e2, e3]
theorem slS_nr {x : Sl} {i : Nat} {s : Sl} {ρ : Dk.Env} (h : x.isRef = false) : slS (some x) i s ρ = some (ρ.set i s) := by
  cases x <;> first | rfl | cases h
theorem nmI_turn (a b c d : Int) (h : a < b) (g : c < d) : nmI c d a b = nmT (nmI a b c d) := by
  unfold nmI
  repeat (first | omega | decide | split)
theorem pairs_same (X Y : String) (hx : X ∈ nmL) (hy : Y ∈ nmL) : den__law_same 8 [.val (.list [.list [S "told", S X], .list [S "told", S Y]]), .val (.list [.list [S "told", S X], .list [S "told", S Y]])] = .ret (.val (.bool true)) [.val (.list [.list [S "told", S X], .list [S "told", S Y]]), .val (.list [.list [S "told", S X], .list [S "told", S Y]])] :=
  same_self (ok_two (ok_told (ok_str X (nm_short X hx))) (ok_told (ok_str Y (nm_short Y hy))))
def I1 (m : Nat) (n : Bool) (j : Nat) (ρ : Dk.Env) : Prop := ∃ l x2 x4 x6 x7, BOk (m + 12 * j) l ∧ x2.isRef = false ∧ x4.isRef = false ∧ x6.isRef = false ∧ x7.isRef = false ∧ ρ = [.ref (.lst l), .val (.bool n), x2, .emp, x4, .emp, x6, x7]
noncomputable def bd1 : SX := (sSeq (sTgt (gT 2 (gsC (gN 6) (gsC (gN 7) gsN))) (eCallG den__law_pair [(.r 0)] [.a 0]))
  (sSeq (sAsg 4 (eCallG den__law_name [(.v (eVar 6)), (.v (eVar 7))] [.a 0, .a 1]))
  (sIf (eNot (eTru (eCallG (den__law_same 8) [(.v (eLst [(eCallG den__law_said [(.v (eC (.int 0))), (.v (eVar 6)), (.v (eVar 7)), (.v (eVar 1))] [.a 0, .a 1, .a 2, .a 3]), (eCallG den__law_said [(.v (eC (.int 0))), (.v (eVar 7)), (.v (eVar 6)), (.v (eNot (eVar 1)))] [.a 0, .a 1, .a 2, .a 3])])), (.v (eLst [(eLst [(eC (.str (Str.ofString "told"))), (eVar 4)]), (eLst [(eC (.str (Str.ofString "told"))), (eCallG den__law_turn [(.v (eVar 4))] [.a 0])])]))] [.a 0, .a 1]))) (sRet (eC (.bool false))) sNx)))
theorem bd1_ok {m : Nat} {n : Bool} {j : Nat} {ρ : Dk.Env} (i : Int) (h : I1 m n j ρ) (hm : m + 12 * j < 900000000) : ∃ ρ1 ρ2, (gN 2).h (.int i) ρ = some ρ1 ∧ bd1 ρ1 = .nx ρ2 ∧ I1 m n (j + 1) ρ2 := by
  obtain ⟨l, x2, x4, x6, x7, hb, h2, h4, h6, h7, rfl⟩ := h
  obtain ⟨a, b, c, d, l', e1, ⟨r1, r2, r3, r4, r5, r6⟩, hb'⟩ := pair_ok hb hm
  refine ⟨_, [.ref (.lst l'), .val (.bool n), .val (.int i), .emp, .val (S (nmI a b c d)), .emp, .val (ivl a b), .val (ivl c d)], by simp [slS_nr h2]; rfl, ?_, ⟨l', _, _, _, _, hb'.mono (by omega), rfl, rfl, rfl, rfl, rfl⟩⟩
  have s1 := said0 n a b c d r1 r2 r3 r4 r5 r6
  have s2 := said0 (!n) c d a b r4 r5 r6 r1 r2 r3
  rw [nmI_turn a b c d r2 r5] at s2
  have s3 := pairs_same (nmI a b c d) (nmT (nmI a b c d)) (nmI_mem _ _ _ _) (nmT_mem _ (nmI_mem _ _ _ _)).1
  have s4 := law_turn_eq (nmI a b c d) (nmI_mem _ _ _ _)
  simp [bd1, e1, slS_nr, h4, h6, h7, law_name_eq, s1, s2, s3, s4]
theorem rng_mem {lo : Int} {k : Nat} {d : D} (h : d ∈ rngL lo k) : ∃ i : Int, d = .int i ∧ lo ≤ i ∧ i < lo + k := by
  unfold rngL at h
  obtain ⟨i, hi, rfl⟩ := List.mem_map.mp h
  have := List.mem_range.mp hi
  exact ⟨_, rfl, by omega, by omega⟩
theorem rng_len (lo : Int) (k : Nat) : (rngL lo k).length = k := by simp [rngL]
noncomputable def bd3 : SX := (sIf (eNot (eTru (eCallG (den__law_same 8) [(.v (eCallG den__law_said [(.v (eC (.int 0))), (.v (eTup [(eVar 3), (eVar 5)])), (.v (eTup [(eC (.int 3)), (eC (.int 6))])), (.v (eVar 1))] [.a 0, .a 1, .a 2, .a 3])), (.v (eLst [(eC (.str (Str.ofString "told"))), (eCallG den__law_name [(.v (eTup [(eVar 3), (eVar 5)])), (.v (eTup [(eC (.int 3)), (eC (.int 6))]))] [.a 0, .a 1])]))] [.a 0, .a 1]))) (sRet (eC (.bool false))) sNx)
noncomputable def bd2 : SX := (sFor (iRng2D (eOp addD (eVar 3) (eC (.int 1))) (eC (.int 10))) (gN 5) bd3)
theorem bd3_ok (l : List D) (n : Bool) (x2 x4 x6 x7 : Sl) (i j : Int) (h0 : 0 ≤ i) (h1 : i < j) (h2 : j < 10) : bd3 [.ref (.lst l), .val (.bool n), x2, .val (.int i), x4, .val (.int j), x6, x7] = .nx [.ref (.lst l), .val (.bool n), x2, .val (.int i), x4, .val (.int j), x6, x7] := by
  have s1 := said0 n i j 3 6 (by omega) h1 (by omega) (by omega) (by omega) (by omega)
  have s2 := law_name_eq i j 3 6
  have s3 : den__law_same 8 [.val (.list [S "told", S (nmI i j 3 6)]), .val (.list [S "told", S (nmI i j 3 6)])] = _ := same_self (ok_told (ok_str _ (nm_short _ (nmI_mem i j 3 6))))
  unfold ivl at s1 s2
  simp [bd3, s1, s2, s3]
def I3 (l : List D) (n : Bool) (x2 x4 x6 x7 : Sl) (i : Int) (_ : Nat) (ρ : Dk.Env) : Prop := ∃ x5 : Sl, x5.isRef = false ∧ ρ = [.ref (.lst l), .val (.bool n), x2, .val (.int i), x4, x5, x6, x7]
theorem bd2_ok (l : List D) (n : Bool) (x2 x4 x6 x7 x5 : Sl) (i : Int) (h0 : 0 ≤ i) (h1 : i < 9) (h5 : x5.isRef = false) : ∃ y, y.isRef = false ∧ bd2 [.ref (.lst l), .val (.bool n), x2, .val (.int i), x4, x5, x6, x7] = .nx [.ref (.lst l), .val (.bool n), x2, .val (.int i), x4, y, x6, x7] := by
  obtain ⟨ρ', ⟨y, hy, rfl⟩, e⟩ := forD_inv (t := gN 5) (p := bd3) (I3 l n x2 x4 x6 x7 i) (rngL (i + 1) (10 - (i + 1)).toNat) 0 [.ref (.lst l), .val (.bool n), x2, .val (.int i), x4, x5, x6, x7] ⟨x5, h5, rfl⟩ (fun d hd j ρ hI _ => by
    obtain ⟨k, rfl, k1, k2⟩ := rng_mem hd
    obtain ⟨x, hx, rfl⟩ := hI
    refine ⟨_, _, by simp [slS_nr hx], bd3_ok l n x2 x4 x6 x7 i k h0 (by omega) (by omega), ⟨_, rfl, rfl⟩⟩)
  refine ⟨y, hy, ?_⟩
  have q2 : SmallI (i + 1) := smI _ (by omega) (by omega)
  have q3 : SmallI 10 := smL 10
  simp [bd2, q2, q3, e]
def I4 (l : List D) (n : Bool) (x2 x4 x6 x7 : Sl) (_ : Nat) (ρ : Dk.Env) : Prop := ∃ x3 x5 : Sl, x3.isRef = false ∧ x5.isRef = false ∧ ρ = [.ref (.lst l), .val (.bool n), x2, x3, x4, x5, x6, x7]
theorem pairs_ok {m : Nat} {l : List D} (n : Bool) (h : BOk m l) (hm : m < 100000000) : ∃ l', BOk (m + 120) l' ∧ den__law_pairs_right [.ref (.lst l), .val (.bool n)] = .ret (.val (.bool true)) [.ref (.lst l'), .val (.bool n)] := by
  obtain ⟨ρ1, ⟨l1, x2, x4, x6, x7, hb, h2, h4, h6, h7, rfl⟩, e1⟩ := forD_inv (t := gN 2) (p := bd1) (I1 m n) (rngL 0 10) 0 [.ref (.lst l), .val (.bool n), .emp, .emp, .emp, .emp, .emp, .emp] ⟨l, _, _, _, _, h, rfl, rfl, rfl, rfl, rfl⟩ (fun d hd j ρ hI hj => by
    obtain ⟨i, rfl, _, _⟩ := rng_mem hd
    rw [rng_len] at hj
    exact bd1_ok i hI (by omega))
  obtain ⟨ρ2, ⟨x3, x5, h3, h5, rfl⟩, e2⟩ := forD_inv (t := gN 3) (p := bd2) (I4 l1 n x2 x4 x6 x7) (rngL 0 9) 0 [.ref (.lst l1), .val (.bool n), x2, .emp, x4, .emp, x6, x7] ⟨_, _, rfl, rfl, rfl⟩ (fun d hd j ρ hI hj => by
    obtain ⟨i, rfl, i1, i2⟩ := rng_mem hd
    obtain ⟨x3, x5, h3, h5, rfl⟩ := hI
    obtain ⟨y, hy, e⟩ := bd2_ok l1 n x2 x4 x6 x7 x5 i i1 (by omega) h5
    exact ⟨_, _, by simp [slS_nr h3], e, ⟨_, _, rfl, hy, rfl⟩⟩)
  refine ⟨l1, hb.mono (by rw [rng_len]; omega), ?_⟩
  have hbody : body__law_pairs_right = (sSeq (sFor (iRng1D (eC (.int 10))) (gN 2) bd1) (sSeq (sFor (iRng2D (eC (.int 0)) (eC (.int 9))) (gN 3) bd2) (sRet (eC (.bool true))))) := rfl
  unfold den__law_pairs_right
  rw [hbody]
  have q1 : SmallI 10 := smL 10
  have q2 : SmallI 9 := smL 9
  have q3 : SmallI 0 := smL 0
  have z1 : (10 : Int).toNat = 10 := rfl
  have z2 : (9 : Int).toNat = 9 := rfl
  simp [q1, q2, q3, e1, e2, z1, z2]
end L25

set_option Elab.async false
set_option linter.all false
set_option maxRecDepth 100000
set_option maxHeartbeats 1000000
namespace L25
open PySem PySem.Spec L2 Dk PyProof.Rows
theorem lcD_stA {α σ : Type} {h : Tg} {tt elt : EX} {vs : List Nat} (f g : α → D) (E : σ → Dk.Env) (I : Nat → σ → Prop) : ∀ (xs : List α) (k : Nat) (s : σ) (acc : List D), I k s →
    (∀ a ∈ xs, ∀ j s, I j s → j < k + xs.length → ∃ s', lcStep h tt elt vs (f a) (E s) = some (some (g a), E s') ∧ I (j + 1) s') →
    ∃ (s' : σ), I (k + xs.length) s' ∧ lcD h tt elt vs (xs.map f) (E s) acc = .ok (.own (.lst (acc ++ xs.map g))) (E s')
  | [], k, s, acc, h0, _ => ⟨s, h0, by simp [lcD]⟩
  | a :: xs, k, s, acc, h0, hs => by
    obtain ⟨s1, e, h1⟩ := hs a List.mem_cons_self k s h0 (by simp)
    obtain ⟨s', y2, y3⟩ := lcD_stA (h := h) (tt := tt) (elt := elt) (vs := vs) f g E I xs (k + 1) s1 (acc ++ [g a]) h1 fun x hx j s hj hlt => hs x (List.mem_cons_of_mem _ hx) j s hj (by simp only [List.length_cons]; omega)
    have hk : k + 1 + xs.length = k + (a :: xs).length := by simp only [List.length_cons]; omega
    refine ⟨s', hk ▸ y2, ?_⟩
    rw [List.map_cons, lcD_cons, e]
    simp only [y3]
    simp
theorem eLc_stA {α σ : Type} {fi : EX} {h : Tg} {tt elt : EX} {vs : List Nat} {ρ : Dk.Env} (xs : List α) (f g : α → D) (E : σ → Dk.Env) (I : Nat → σ → Prop) (k : Nat) (s : σ)
    (hfi : fi ρ = .ok (.val (.list (xs.map f))) ρ) (hl : xs.length ≤ sizeLine) (hc : clearB vs ρ = true) (hw : wipeE vs ρ = E s) (h0 : I k s)
    (hs : ∀ a ∈ xs, ∀ j s, I j s → j < k + xs.length → ∃ s', lcStep h tt elt vs (f a) (E s) = some (some (g a), E s') ∧ I (j + 1) s') :
    ∃ (s' : σ), I (k + xs.length) s' ∧ eLc fi h tt elt vs ρ = .ok (.own (.lst (xs.map g))) (unwipe vs ρ (E s')) := by
  obtain ⟨s', y2, y3⟩ := lcD_stA (h := h) (tt := tt) (elt := elt) (vs := vs) f g E I xs k s [] h0 hs
  refine ⟨s', y2, ?_⟩
  unfold eLc
  simp only [hfi, hc, List.length_map, hl, true_and, if_true, hw, y3, R.unw, List.nil_append]
theorem odd_ok : ∀ d ∈ oddL, Ok 4 d := by
  intro d hd
  simp only [oddL, List.mem_cons, List.not_mem_nil, or_false] at hd
  rcases hd with rfl | rfl | rfl | rfl | rfl | rfl | rfl | rfl | rfl | rfl | rfl | rfl
  all_goals refine ⟨?_, rfl⟩
  all_goals simp [Fit, canLay_ofString, keyD, itemsD]
  all_goals first | decide | exact ⟨⟨.inr (Str.ofString "a"), rfl⟩, by decide⟩
theorem badL_ok : ∀ d ∈ badL, Ok 4 d := by
  intro d hd
  simp only [badL, List.mem_cons, List.not_mem_nil, or_false] at hd
  rcases hd with rfl | rfl | rfl | rfl | rfl | rfl | rfl | rfl | rfl | rfl | rfl | rfl
  all_goals refine ⟨?_, rfl⟩
  all_goals simp [Fit, canLay_ofString, keyD, itemsD]
  all_goals first | decide | exact ⟨⟨.inr (Str.ofString "a"), rfl⟩, by decide⟩
theorem ok_rep {n : Nat} {k : Nat} {t : String} {d : D} (hk : k ≤ 1000000) (ht : (Str.ofString t).length ≤ 1000000) (h : Ok (n + 1) d) : Ok (n + 3) (.list (List.replicate k (.list [S t, d]))) :=
  ok_list (by simpa using hk) fun x hx => by
    rw [(List.mem_replicate.mp hx).2]; exact ok_two (ok_str _ ht) h
theorem same8 {n : Nat} {k : Nat} {t : String} {d : D} (hk : k ≤ 1000000) (ht : (Str.ofString t).length ≤ 1000000) (h : Ok 6 d) : den__law_same 8 [.val (.list (List.replicate k (.list [S t, d]))), .val (.list (List.replicate k (.list [S t, d])))] = .ret (.val (.bool true)) [.val (.list (List.replicate k (.list [S t, d]))), .val (.list (List.replicate k (.list [S t, d])))] :=
  same_self (ok_rep hk ht h)
theorem fit_mono : ∀ {n : Nat} {d : D}, Fit n d → Fit (n + 1) d
  | 0, _, h => h.elim
  | n + 1, .none, h => trivial
  | n + 1, .bool _, h => trivial
  | n + 1, .int _, h => trivial
  | n + 1, .str _, h => h
  | n + 1, .list _, h => ⟨h.1, fun x hx => fit_mono (h.2 x hx)⟩
  | n + 1, .tuple _, h => ⟨h.1, fun x hx => fit_mono (h.2 x hx)⟩
  | n + 1, .dict _, h => ⟨h.1, fit_mono h.2⟩
  | n + 1, .dictT _, h => h.elim
  | n + 1, .tag _ _, h => h.elim
theorem Ok.mono {n : Nat} {d : D} (h : Ok n d) : Ok (n + 1) d := ⟨fit_mono h.1, h.2⟩
theorem Ok.mono2 {n : Nat} {d : D} (h : Ok n d) : Ok (n + 2) d := h.mono.mono

theorem refused_ok {m : Nat} {l : List D} (n : Bool) (h : BOk m l) (hm : m < 100000000) : ∃ l', BOk (m + 60) l' ∧ den__law_refused [.ref (.lst l), .val (.bool n)] = .ret (.val (.bool true)) [.ref (.lst l'), .val (.bool n)] := by
  obtain ⟨t1, l1, e1, a1, b1, k1⟩ := take1 h 12
  obtain ⟨o, x1, ho⟩ := pickN oddL a1 b1
  unfold oddL at x1
  have hk := odd_all o ho
  have s1 := said0_bad1 n o o hk
  have s2 := said0_bad2 n 0 1 (by decide) (by decide) (by decide) o hk
  unfold ivl at s2
  have hs1 : den__law_same 8 [.val (.list [.list [S "interval", o], .list [S "interval", o]]), .val (.list [.list [S "interval", o], .list [S "interval", o]])] = _ := same8 (n := 0) (k := 2) (by decide) (by decide) (odd_ok o ho).mono2
  obtain ⟨d, hd, l2, k2, e2⟩ := bad_ok k1 (by omega)
  obtain ⟨ys, l3, hy, k3, e3⟩ := rel_ok k2 (by omega)
  have hbad : BadR d := bad_all d hd
  have r1 := is_rel_eq d false hbad
  have hs2 : den__law_same 8 [.val (.list [.bool false, .bool false]), .val (.list [.bool false, .bool false])] = _ := same_self (ok_two (ok_bool _) (ok_bool _))
  have w3 := said3_bad2 n ys d hy hbad
  have w4 := said4_bad2 n ys d hy hbad
  have hs3 : den__law_same 8 [.val (.list (List.replicate 6 (.list [S "relation", d]))), .val (.list (List.replicate 6 (.list [S "relation", d])))] = _ := same8 (n := 0) (k := 6) (by decide) (by decide) (badL_ok d hd).mono2
  obtain ⟨l4, k4, e4⟩ := eLc_stA (fi := iRng2D (eC (.int 1)) (eC (.int 5))) (h := gN 6) (tt := eYes) (elt := eCallG den__law_said [(.v (eVar 6)), (.v (eVar 4)), (.v (eOp ixD (eLst [(eVar 5), (eC .none)]) (eCallG den__law_take [(.r 0), (.v (eC (.int 2)))] [.a 0, .a 1]))), (.v (eVar 1))] [.a 0, .a 1, .a 2, .a 3]) (vs := [6])
    (ρ := [.ref (.lst l3), .val (.bool n), .val o, .emp, .val d, .val (R ys), .emp]) ([1, 2, 3, 4] : List Int) D.int (fun _ => .list [S "relation", d])
    (fun l => [.ref (.lst l), .val (.bool n), .val o, .emp, .val d, .val (R ys), .emp]) BOk _ l3
    (by simp [smL 1, smL 5]; rfl) (le_line (by decide)) (by simp [clearB]) (by simp [wipeE]) k3
    (fun i hi j l hj hlt => by
      have hj4 : j < m + 1 + 1 + 20 + 4 := hlt
      obtain ⟨t2, l2, e2, a2, b2, k2⟩ := take1 hj 2
      refine ⟨l2, ?_, k2⟩
      have ht : t2 = 0 ∨ t2 = 1 := by omega
      have g1 := fun e => said1_bad n d e hbad
      have g2 := fun e => said2_bad n d e hbad
      have g3 := fun e => said3_bad n d e hbad
      have g4 := fun e => said4_bad n d e hbad
      simp only [List.mem_cons, List.not_mem_nil, or_false] at hi
      rcases hi with rfl | rfl | rfl | rfl <;> rcases ht with rfl | rfl <;> simp [lcStep, wipeE, e2, g1, g2, g3, g4])
  refine ⟨l4, k4.mono (by simp), ?_⟩
  have y4 : unwipe [6] ([.ref (.lst l3), .val (.bool n), .val o, .emp, .val d, .val (R ys), .emp] : Dk.Env) [.ref (.lst l4), .val (.bool n), .val o, .emp, .val d, .val (R ys), .emp] = [.ref (.lst l4), .val (.bool n), .val o, .emp, .val d, .val (R ys), .emp] := rfl
  rw [y4] at e4
  have hrep : List.replicate 6 (D.list [S "relation", d]) = [.list [S "relation", d], .list [S "relation", d], .list [S "relation", d], .list [S "relation", d], .list [S "relation", d], .list [S "relation", d]] := rfl
  rw [hrep] at hs3
  have hle : (4 + 2 : Nat) ≤ sizeLine := le_line (by decide)
  simp [den__law_refused, body__law_refused, e1, x1, s1, s2, hs1, e2, e3, r1, hs2, e4, w3, w4, hs3, hle]
end L25

set_option Elab.async false
set_option linter.all false
set_option maxRecDepth 100000
set_option maxHeartbeats 1000000
namespace L25
open PySem PySem.Spec L2 Dk PyProof.Rows
theorem ord_eq {l : List String} (h : ord l = l) (p : String → Bool) (hp : ∀ s ∈ nmL, p s = decide (s ∈ l)) : nmL.filter p = l := by
  conv => rhs; rw [← h]
  exact List.filter_congr hp
theorem conv_conv {l : List String} (h : ord l = l) : ord ((ord (l.map nmT)).map nmT) = l := by
  refine ord_eq h _ fun s hs => decide_eq_decide.mpr ?_
  constructor
  · intro g
    obtain ⟨t, ht, rfl⟩ := List.mem_map.mp g
    obtain ⟨h1, h2⟩ := List.mem_filter.mp ht
    obtain ⟨u, hu, rfl⟩ := List.mem_map.mp (of_decide_eq_true h2)
    rw [(nmT_mem u (rel_mem h hu)).2]; exact hu
  · intro g
    refine List.mem_map.mpr ⟨nmT s, List.mem_filter.mpr ⟨(nmT_mem s hs).1, decide_eq_true (List.mem_map.mpr ⟨s, g, rfl⟩)⟩, (nmT_mem s hs).2⟩
theorem rest_rest {l : List String} (h : ord l = l) : (nmL.filter fun s => !decide (s ∈ nmL.filter fun s => !decide (s ∈ l))) = l := by
  refine ord_eq h _ fun s hs => ?_
  by_cases g : s ∈ l <;> simp [List.mem_filter, hs, g]
theorem ord_ord (l : List String) : ord (ord l) = ord l := ord_filter _

abbrev tA (l : List String) : D := R (ord (l.map nmT))
abbrev tB (l : List String) : D := R (nmL.filter fun s => !decide (s ∈ l))
abbrev tC (l m : List String) : D := R (nmL.filter fun s => decide (s ∈ l) || decide (s ∈ m))
abbrev tD (l m : List String) : D := R (nmL.filter fun s => decide (s ∈ l) && decide (s ∈ m))
def tPs (l m : List String) : List (Int × D) := [(1, tA l), (2, tB l), (3, tC l m), (4, tD l m)]
def I5 (m : Nat) (n : Bool) (j : Nat) (ρ : Dk.Env) : Prop := ∃ l x3 x4 x5 x6 x7, BOk (m + 40 * j) l ∧ x3.isRef = false ∧ x4.isRef = false ∧ x5.isRef = false ∧ x6.isRef = false ∧ x7.isRef = false ∧ ρ = [.ref (.lst l), .val (.bool n), .val (.list (nmL.map S)), x3, x4, x5, x6, x7, .emp, .emp, .emp]
noncomputable def bd5 : SX := (sSeq (sPar [6, 7] [(false, (eCallG den__law_relation [(.r 0)] [.a 0])), (false, (eCallG den__law_relation [(.r 0)] [.a 0]))])
  (sSeq (sAsg 4 (eLst [(eCallG den__law_ordered [(.v (eLc (iAny (eVar 6)) (gN 9) eYes (eCallG den__law_turn [(.v (eVar 9))] [.a 0]) [9]))] [.a 0]), (eCB tupleD [(eLc (iAny (eVar 2)) (gN 9) (eOp notInD (eVar 9) (eVar 6)) (eVar 9) [9])])]))
  (sSeq (sAsg 4 (eOp addD (eVar 4) (eLst [(eCB tupleD [(eLc (iAny (eVar 2)) (gN 9) (eOr (eOp inD (eVar 9) (eVar 6)) (eOp inD (eVar 9) (eVar 7))) (eVar 9) [9])]), (eCB tupleD [(eLc (iAny (eVar 2)) (gN 9) (eAnd (eOp inD (eVar 9) (eVar 6)) (eOp inD (eVar 9) (eVar 7))) (eVar 9) [9])])])))
  (sSeq (sAsg 5 (eLc (iRng2D (eC (.int 1)) (eC (.int 5))) (gN 8) eYes (eCallG den__law_said [(.v (eVar 8)), (.v (eVar 6)), (.v (eVar 7)), (.v (eVar 1))] [.a 0, .a 1, .a 2, .a 3]) [8]))
  (sSeq (sIf (eNot (eTru (eCallG (den__law_same 8) [(.v (eVar 5)), (.v (eLc (iAny (eVar 4)) (gN 10) eYes (eLst [(eC (.str (Str.ofString "told"))), (eVar 10)]) [10]))] [.a 0, .a 1]))) (sRet (eC (.bool false))) sNx)
  (sSeq (sAsg 5 (eLc (iRng2D (eC (.int 1)) (eC (.int 5))) (gN 8) eYes (eCallG den__law_said [(.v (eVar 8)), (.v (eVar 6)), (.v (eVar 7)), (.v (eNot (eVar 1)))] [.a 0, .a 1, .a 2, .a 3]) [8]))
  (sSeq (sIf (eNot (eTru (eCallG (den__law_same 8) [(.v (eVar 5)), (.v (eLc (iAny (eVar 4)) (gN 10) eYes (eLst [(eC (.str (Str.ofString "told"))), (eVar 10)]) [10]))] [.a 0, .a 1]))) (sRet (eC (.bool false))) sNx)
  (sIf (eNot (eTru (eCallG (den__law_same 8) [(.v (eLst [(eCallG den_converse [(.v (eOp ixD (eVar 4) (eC (.int 0))))] [.a 0]), (eCallG den_rest [(.v (eOp ixD (eVar 4) (eC (.int 1))))] [.a 0]), (eCallG den_is_relation [(.v (eVar 6))] [.a 0]), (eCallG den_is_relation [(.v (eOp ixD (eVar 4) (eC (.int 2))))] [.a 0])])), (.v (eLst [(eVar 6), (eVar 6), (eC (.bool true)), (eC (.bool true))]))] [.a 0, .a 1]))) (sRet (eC (.bool false))) sNx))))))))
theorem told5 (n : Bool) (l m : List String) (h : ord l = l) (g : ord m = m) (b : Sl) (x3 x4 x5 : Sl) (k : Bool) (nn : EX)
    (hn : ∀ d, nn [b, .val (.bool k), .val (.list (nmL.map S)), x3, x4, x5, .val (R l), .val (R m), d, .emp, .emp] = .ok (.val (.bool n)) [b, .val (.bool k), .val (.list (nmL.map S)), x3, x4, x5, .val (R l), .val (R m), d, .emp, .emp]) :
    eLc (iRng2D (eC (.int 1)) (eC (.int 5))) (gN 8) eYes (eCallG den__law_said [(.v (eVar 8)), (.v (eVar 6)), (.v (eVar 7)), (.v nn)] [.a 0, .a 1, .a 2, .a 3]) [8] [b, .val (.bool k), .val (.list (nmL.map S)), x3, x4, x5, .val (R l), .val (R m), .emp, .emp, .emp]
      = .ok (.own (.lst [.list [S "told", tA l], .list [S "told", tB l], .list [S "told", tC l m], .list [S "told", tD l m]])) [b, .val (.bool k), .val (.list (nmL.map S)), x3, x4, x5, .val (R l), .val (R m), .emp, .emp, .emp] := by
  refine eLc_all (tPs l m) (fun p => .int p.1) (fun p => .list [S "told", p.2]) (by simp [smL 1, smL 5, tPs]; rfl) (le_line (by simp [tPs])) (by simp [clearB]) fun p hp => ?_
  have g1 := said1 n l (R m) h
  have g2 := said2 n l (R m) h
  have g3 := said3 n l m h g
  have g4 := said4 n l m h g
  simp only [tPs, List.mem_cons, List.not_mem_nil, or_false] at hp
  rcases hp with rfl | rfl | rfl | rfl <;> simp [lcStep, wipeE, hn, g1, g2, g3, g4, tA, tB, tC, tD]

theorem ok_four {n : Nat} {a b c d : D} (h1 : Ok n a) (h2 : Ok n b) (h3 : Ok n c) (h4 : Ok n d) : Ok (n + 1) (.list [a, b, c, d]) := ok_list (by simp) fun x hx => by
  simp only [List.mem_cons, List.not_mem_nil, or_false] at hx
  rcases hx with rfl | rfl | rfl | rfl
  · exact h1
  · exact h2
  · exact h3
  · exact h4
theorem bd5_ok {m : Nat} {n : Bool} {j : Nat} {ρ : Dk.Env} (i : Int) (h : I5 m n j ρ) (hm : m + 40 * j < 800000000) : ∃ ρ1 ρ2, (gN 3).h (.int i) ρ = some ρ1 ∧ bd5 ρ1 = .nx ρ2 ∧ I5 m n (j + 1) ρ2 := by
  obtain ⟨l, x3, x4, x5, x6, x7, hb, h3, h4, h5, h6, h7, rfl⟩ := h
  obtain ⟨ys, l1, hy, k1, e1⟩ := rel_ok hb (by omega)
  obtain ⟨zs, l2, hz, k2, e2⟩ := rel_ok k1 (by omega)
  have f1 := ord_ord (ys.map nmT)
  have f2 := ord_filter (fun s => !decide (s ∈ ys))
  have f3 := ord_filter (fun s => decide (s ∈ ys) || decide (s ∈ zs))
  have f4 := ord_filter (fun s => decide (s ∈ ys) && decide (s ∈ zs))
  have t1 : ∀ x4 x5, eLc (iAny (eVar 6)) (gN 9) eYes (eCallG den__law_turn [(.v (eVar 9))] [.a 0]) [9] [.ref (.lst l2), .val (.bool n), .val (.list (nmL.map S)), .val (.int i), x4, x5, .val (R ys), .val (R zs), .emp, .emp, .emp] = .ok (.own (.lst ((ys.map nmT).map S))) [.ref (.lst l2), .val (.bool n), .val (.list (nmL.map S)), .val (.int i), x4, x5, .val (R ys), .val (R zs), .emp, .emp, .emp] := fun x4 x5 => by
    rw [List.map_map]
    refine eLc_all ys S (fun s => S (nmT s)) (by simp) (rel_len hy) (by simp [clearB]) fun s hs => ?_
    have hm := law_turn_eq s (rel_mem hy hs)
    simp [lcStep, wipeE, hm]
  have t2 : ∀ x4 x5, eLc (iAny (eVar 2)) (gN 9) (eOp notInD (eVar 9) (eVar 6)) (eVar 9) [9] [.ref (.lst l2), .val (.bool n), .val (.list (nmL.map S)), .val (.int i), x4, x5, .val (R ys), .val (R zs), .emp, .emp, .emp] = .ok (.own (.lst ((nmL.filter fun s => !decide (s ∈ ys)).map S))) [.ref (.lst l2), .val (.bool n), .val (.list (nmL.map S)), .val (.int i), x4, x5, .val (R ys), .val (R zs), .emp, .emp, .emp] := fun x4 x5 => by
    refine eLc_map nmL S S (fun s => !decide (s ∈ ys)) (by simp) nm_len (by simp [clearB]) fun s hs => ?_
    by_cases hm : s ∈ ys <;> simp [lcStep, wipeE, hm]
  have t3 : ∀ x4 x5, eLc (iAny (eVar 2)) (gN 9) (eOr (eOp inD (eVar 9) (eVar 6)) (eOp inD (eVar 9) (eVar 7))) (eVar 9) [9] [.ref (.lst l2), .val (.bool n), .val (.list (nmL.map S)), .val (.int i), x4, x5, .val (R ys), .val (R zs), .emp, .emp, .emp] = .ok (.own (.lst ((nmL.filter fun s => decide (s ∈ ys) || decide (s ∈ zs)).map S))) [.ref (.lst l2), .val (.bool n), .val (.list (nmL.map S)), .val (.int i), x4, x5, .val (R ys), .val (R zs), .emp, .emp, .emp] := fun x4 x5 => by
    refine eLc_map nmL S S (fun s => decide (s ∈ ys) || decide (s ∈ zs)) (by simp) nm_len (by simp [clearB]) fun s hs => ?_
    by_cases hm : s ∈ ys <;> by_cases hm2 : s ∈ zs <;> simp [lcStep, wipeE, hm, hm2]
  have t4 : ∀ x4 x5, eLc (iAny (eVar 2)) (gN 9) (eAnd (eOp inD (eVar 9) (eVar 6)) (eOp inD (eVar 9) (eVar 7))) (eVar 9) [9] [.ref (.lst l2), .val (.bool n), .val (.list (nmL.map S)), .val (.int i), x4, x5, .val (R ys), .val (R zs), .emp, .emp, .emp] = .ok (.own (.lst ((nmL.filter fun s => decide (s ∈ ys) && decide (s ∈ zs)).map S))) [.ref (.lst l2), .val (.bool n), .val (.list (nmL.map S)), .val (.int i), x4, x5, .val (R ys), .val (R zs), .emp, .emp, .emp] := fun x4 x5 => by
    refine eLc_map nmL S S (fun s => decide (s ∈ ys) && decide (s ∈ zs)) (by simp) nm_len (by simp [clearB]) fun s hs => ?_
    by_cases hm : s ∈ ys <;> by_cases hm2 : s ∈ zs <;> simp [lcStep, wipeE, hm, hm2]
  have o1 := ordered_eq (.list ((ys.map nmT).map S)) (ys.map nmT) (.inr rfl)
  rw [List.map_map] at o1
  have a1 : ∀ x4 x5, _ := fun x4 x5 => told5 n ys zs hy hz (.ref (.lst l2)) (.val (.int i)) x4 x5 n (eVar 1) (fun d => by simp)
  have a2 : ∀ x4 x5, _ := fun x4 x5 => told5 (!n) ys zs hy hz (.ref (.lst l2)) (.val (.int i)) x4 x5 n (eNot (eVar 1)) (fun d => by simp)
  have a3 : ∀ x5, eLc (iAny (eVar 4)) (gN 10) eYes (eLst [(eC (.str (Str.ofString "told"))), (eVar 10)]) [10] [.ref (.lst l2), .val (.bool n), .val (.list (nmL.map S)), .val (.int i), .val (.list [tA ys, tB ys, tC ys zs, tD ys zs]), x5, .val (R ys), .val (R zs), .emp, .emp, .emp]
      = .ok (.own (.lst [.list [S "told", tA ys], .list [S "told", tB ys], .list [S "told", tC ys zs], .list [S "told", tD ys zs]])) [.ref (.lst l2), .val (.bool n), .val (.list (nmL.map S)), .val (.int i), .val (.list [tA ys, tB ys, tC ys zs, tD ys zs]), x5, .val (R ys), .val (R zs), .emp, .emp, .emp] := fun x5 => by
    refine eLc_all (tPs ys zs) (fun p => p.2) (fun p => .list [S "told", p.2]) (by simp [tPs]) (le_line (by simp [tPs])) (by simp [clearB]) fun p hp => ?_
    simp [lcStep, wipeE]
  have q1 : den__law_same 8 [.val (.list [.list [S "told", tA ys], .list [S "told", tB ys], .list [S "told", tC ys zs], .list [S "told", tD ys zs]]), .val (.list [.list [S "told", tA ys], .list [S "told", tB ys], .list [S "told", tC ys zs], .list [S "told", tD ys zs]])] = _ :=
    same_self (ok_four (ok_told (ok_rel (n := 4) f1)) (ok_told (ok_rel f2)) (ok_told (ok_rel f3)) (ok_told (ok_rel f4)))
  have q2 : den__law_same 8 [.val (.list [R ys, R ys, .bool true, .bool true]), .val (.list [R ys, R ys, .bool true, .bool true])] = _ :=
    same_self (ok_four (ok_rel (n := 5) hy) (ok_rel hy) (ok_bool _) (ok_bool _))
  have w1 := converse_eq _ f1
  have w2 := rest_eq _ f2
  rw [conv_conv hy] at w1
  rw [rest_rest hy] at w2
  have w3 := is_rel_eq _ _ (known_rel ys hy)
  have w4 := is_rel_eq _ _ (known_rel _ f3)
  refine ⟨_, [.ref (.lst l2), .val (.bool n), .val (.list (nmL.map S)), .val (.int i), .val (.list [tA ys, tB ys, tC ys zs, tD ys zs]), .val (.list [.list [S "told", tA ys], .list [S "told", tB ys], .list [S "told", tC ys zs], .list [S "told", tD ys zs]]), .val (R ys), .val (R zs), .emp, .emp, .emp], by simp [slS_nr h3]; rfl, ?_, ⟨l2, _, _, _, _, _, k2.mono (by omega), rfl, rfl, rfl, rfl, rfl, rfl⟩⟩
  have hle : (2 + 2 : Nat) ≤ sizeLine := le_line (by decide)
  simp [bd5, e1, e2, slS_nr, h3, h4, h5, h6, h7, t1, t2, t3, t4, o1, a1, a2, a3, q1, q2, w1, w2, w3, w4, hle]
end L25

set_option Elab.async false
set_option linter.all false
set_option maxRecDepth 100000
set_option maxHeartbeats 1000000
namespace L25
open PySem PySem.Spec L2 Dk PyProof.Rows
theorem relations_ok {m : Nat} {l : List D} (n : Bool) (h : BOk m l) (hm : m < 100000000) : ∃ l', BOk (m + 200) l' ∧ den__law_relations_right [.ref (.lst l), .val (.bool n)] = .ret (.val (.bool true)) [.ref (.lst l'), .val (.bool n)] := by
  obtain ⟨ρ1, ⟨l1, x3, x4, x5, x6, x7, hb, h3, h4, h5, h6, h7, rfl⟩, e1⟩ := forD_inv (t := gN 3) (p := bd5) (I5 m n) (rngL 0 5) 0 [.ref (.lst l), .val (.bool n), .val (.list (nmL.map S)), .emp, .emp, .emp, .emp, .emp, .emp, .emp, .emp] ⟨l, _, _, _, _, _, h, rfl, rfl, rfl, rfl, rfl, rfl⟩ (fun d hd j ρ hI hj => by
    obtain ⟨i, rfl, _, _⟩ := rng_mem hd
    rw [rng_len] at hj
    exact bd5_ok i hI (by omega))
  refine ⟨l1, hb.mono (by rw [rng_len]; omega), ?_⟩
  have hbody : body__law_relations_right = (sSeq (sAsg 2 (eCallG den__law_names [] [])) (sSeq (sFor (iRng1D (eC (.int 5))) (gN 3) bd5) (sRet (eC (.bool true))))) := rfl
  unfold den__law_relations_right
  rw [hbody]
  have q1 : SmallI 5 := smL 5
  have z1 : (5 : Int).toNat = 5 := rfl
  simp [names_eq, q1, e1, z1]
def I6 (ns : List Int) (_ : Nat) (ρ : Dk.Env) : Prop := ∃ x1 x2 x3 : Sl, x1.isRef = false ∧ x2.isRef = false ∧ x3.isRef = false ∧ ρ = [.val (.list (ns.map D.int)), x1, x2, x3]
noncomputable def bd6 : SX := (sSeq (sAsgO 2 (eCallG den__law_box [(.v (eCallG den__law_cell [(.v (eVar 0)), (.v (eVar 1))] [.a 0, .a 1]))] [.a 0]))
  (sSeq (sAsg 3 (eOp eqD (eCallG den__law_take [(.r 2), (.v (eC (.int 2)))] [.a 0, .a 1]) (eC (.int 0))))
  (sIf (eOr (eNot (eTru (eCallG den__law_pairs_right [(.r 2), (.v (eVar 3))] [.a 0, .a 1]))) (eOr (eNot (eTru (eCallG den__law_relations_right [(.r 2), (.v (eNot (eVar 3)))] [.a 0, .a 1]))) (eOr (eNot (eTru (eCallG den__law_refused [(.r 2), (.v (eVar 3))] [.a 0, .a 1]))) (eNot (eTru (eCallG den__law_refused [(.r 2), (.v (eNot (eVar 3)))] [.a 0, .a 1])))))) (sRet (eC (.bool false))) sNx)))
theorem bd6_ok (ns : List Int) (i : Nat) (hi : i < 1000000) (j : Nat) (ρ : Dk.Env) (h : I6 ns j ρ) : ∃ ρ1 ρ2, (gN 1).h (.int i) ρ = some ρ1 ∧ bd6 ρ1 = .nx ρ2 ∧ I6 ns (j + 1) ρ2 := by
  obtain ⟨x1, x2, x3, h1, h2, h3, rfl⟩ := h
  obtain ⟨z, ez⟩ := cell_ok 6101 ns i hi
  obtain ⟨l, el, hl⟩ := box_ok z
  rw [← box_eq] at el
  rw [← cell_eq] at ez
  obtain ⟨t, l1, e1, a1, b1, k1⟩ := take1 hl 2
  obtain ⟨n, hn⟩ : ∃ n, n = decide (t = 0) := ⟨_, rfl⟩
  obtain ⟨l2, k2, e2⟩ := pairs_ok n k1 (by omega)
  obtain ⟨l3, k3, e3⟩ := relations_ok (!n) k2 (by omega)
  obtain ⟨l4, k4, e4⟩ := refused_ok n k3 (by omega)
  obtain ⟨l5, k5, e5⟩ := refused_ok (!n) k4 (by omega)
  refine ⟨_, [.val (.list (ns.map D.int)), .val (.int i), .own (.lst l5), .val (.bool n)], by simp [slS_nr h1]; rfl, ?_, ⟨_, _, _, rfl, rfl, rfl, rfl⟩⟩
  simp [bd6, ez, el, e1, slS_nr h2, slS_nr h3, ← hn, e2, e3, e4, e5]
theorem law_true (ns : List Int) (hns : ns.length ≤ 63) : ∃ as, den_law [.val (.list (ns.map D.int))] = .ret (.val (.bool true)) as := by
  obtain ⟨k, hk⟩ : ∃ k : Int, k = (if (if ns.length < (5 : Int) then (ns.length : Int) else 5) > (2 : Int) then (if ns.length < (5 : Int) then (ns.length : Int) else 5) else 2) := ⟨_, rfl⟩
  have hk2 : 2 ≤ k ∧ k ≤ 5 := by rw [hk]; repeat' split; all_goals omega
  obtain ⟨ρ1, ⟨x1, x2, x3, h1, h2, h3, rfl⟩, e1⟩ := forD_inv (t := gN 1) (p := bd6) (I6 ns) (rngL 0 k.toNat) 0 [.val (.list (ns.map D.int)), .emp, .emp, .emp] ⟨_, _, _, rfl, rfl, rfl, rfl⟩ (fun d hd j ρ hI hj => by
    obtain ⟨i, rfl, i1, i2⟩ := rng_mem hd
    obtain ⟨n, rfl⟩ := Int.eq_ofNat_of_zero_le i1
    exact bd6_ok ns n (by omega) j ρ hI)
  have hbody : body_law = (sSeq (sFor (iRng1D (eCB max2D [(eC (.int 2)), (eCB min2D [(eC (.int 5)), (eCB lenD [(eVar 0)])])])) (gN 1) bd6) (sRet (eC (.bool true)))) := rfl
  unfold den_law
  rw [hbody]
  have q1 : SmallI k := smI k (by omega) (by omega)
  refine ⟨[.val (.list (ns.map D.int))], ?_⟩
  simp [← hk, q1, e1]
end L25

/-! printed by gen.py: the walk -/
namespace L25
open PySem PySem.Spec L2 Dk PyProof.Rows
def topS (i : Nat) : Stmt := PySem.Challenge.pw_intervalbench_k25_names_and_relations.main.body.getD i (.Pass ⟨0, 0, 0, 0⟩)
def clsBody : Stmt → List Stmt
  | .ClassDef (body := b) .. => b
  | _ => []
def initS (i : Nat) : Stmt := (clsBody (topS i)).getD 0 (.Pass ⟨0, 0, 0, 0⟩)
theorem sc__law_box : FnScope [(Str.ofString "great")] [(Str.ofString "great")] (defScope (topS 32)) := ⟨rfl, rfl, rfl, by decide +kernel, rfl, by decide +kernel, by decide +kernel⟩
theorem sc__law_cell : FnScope [(Str.ofString "script"), (Str.ofString "k")] [(Str.ofString "script"), (Str.ofString "k")] (defScope (topS 31)) := ⟨rfl, rfl, rfl, by decide +kernel, rfl, by decide +kernel, by decide +kernel⟩
theorem sc__law_name : FnScope [(Str.ofString "one"), (Str.ofString "other"), (Str.ofString "a"), (Str.ofString "b"), (Str.ofString "c"), (Str.ofString "d")] [(Str.ofString "one"), (Str.ofString "other")] (defScope (topS 36)) := ⟨rfl, rfl, rfl, by decide +kernel, rfl, by decide +kernel, by decide +kernel⟩
theorem sc__law_take : FnScope [(Str.ofString "box"), (Str.ofString "many"), (Str.ofString "mixed"), (Str.ofString "digit")] [(Str.ofString "box"), (Str.ofString "many")] (defScope (topS 33)) := ⟨rfl, rfl, rfl, by decide +kernel, rfl, by decide +kernel, by decide +kernel⟩
theorem sc__law_pair : FnScope [(Str.ofString "box"), (Str.ofString "ends"), (Str.ofString "one"), (Str.ofString "low"), (Str.ofString "high")] [(Str.ofString "box")] (defScope (topS 41)) := ⟨rfl, rfl, rfl, by decide +kernel, rfl, by decide +kernel, by decide +kernel⟩
theorem sc_in_order : FnScope [(Str.ofString "names"), (Str.ofString "name")] [(Str.ofString "names")] (defScope (topS 19)) := ⟨rfl, rfl, rfl, by decide +kernel, rfl, by decide +kernel, by decide +kernel⟩
theorem sc_is_known_relation : FnScope [(Str.ofString "value"), (Str.ofString "name")] [(Str.ofString "value")] (defScope (topS 20)) := ⟨rfl, rfl, rfl, by decide +kernel, rfl, by decide +kernel, by decide +kernel⟩
theorem sc_check_relation : FnScope [(Str.ofString "relation")] [(Str.ofString "relation")] (defScope (topS 22)) := ⟨rfl, rfl, rfl, by decide +kernel, rfl, by decide +kernel, by decide +kernel⟩
theorem sc_check_two : FnScope [(Str.ofString "one"), (Str.ofString "other")] [(Str.ofString "one"), (Str.ofString "other")] (defScope (topS 27)) := ⟨rfl, rfl, rfl, by decide +kernel, rfl, by decide +kernel, by decide +kernel⟩
theorem sc_both : FnScope [(Str.ofString "one"), (Str.ofString "other"), (Str.ofString "name")] [(Str.ofString "one"), (Str.ofString "other")] (defScope (topS 29)) := ⟨rfl, rfl, rfl, by decide +kernel, rfl, by decide +kernel, by decide +kernel⟩
theorem sc_turned_name : FnScope [(Str.ofString "name")] [(Str.ofString "name")] (defScope (topS 23)) := ⟨rfl, rfl, rfl, by decide +kernel, rfl, by decide +kernel, by decide +kernel⟩
theorem sc_converse_of : FnScope [(Str.ofString "relation"), (Str.ofString "name")] [(Str.ofString "relation")] (defScope (topS 24)) := ⟨rfl, rfl, rfl, by decide +kernel, rfl, by decide +kernel, by decide +kernel⟩
theorem sc_converse : FnScope [(Str.ofString "relation")] [(Str.ofString "relation")] (defScope (topS 25)) := ⟨rfl, rfl, rfl, by decide +kernel, rfl, by decide +kernel, by decide +kernel⟩
theorem sc_either : FnScope [(Str.ofString "one"), (Str.ofString "other")] [(Str.ofString "one"), (Str.ofString "other")] (defScope (topS 28)) := ⟨rfl, rfl, rfl, by decide +kernel, rfl, by decide +kernel, by decide +kernel⟩
theorem sc_is_integer : FnScope [(Str.ofString "value")] [(Str.ofString "value")] (defScope (topS 4)) := ⟨rfl, rfl, rfl, by decide +kernel, rfl, by decide +kernel, by decide +kernel⟩
theorem sc_is_between : FnScope [(Str.ofString "value"), (Str.ofString "least"), (Str.ofString "most")] [(Str.ofString "value"), (Str.ofString "least"), (Str.ofString "most")] (defScope (topS 5)) := ⟨rfl, rfl, rfl, by decide +kernel, rfl, by decide +kernel, by decide +kernel⟩
theorem sc_is_known : FnScope [(Str.ofString "value"), (Str.ofString "least"), (Str.ofString "most")] [(Str.ofString "value"), (Str.ofString "least"), (Str.ofString "most")] (defScope (topS 8)) := ⟨rfl, rfl, rfl, by decide +kernel, rfl, by decide +kernel, by decide +kernel⟩
theorem sc_check_interval : FnScope [(Str.ofString "interval"), (Str.ofString "least"), (Str.ofString "most")] [(Str.ofString "interval"), (Str.ofString "least"), (Str.ofString "most")] (defScope (topS 9)) := ⟨rfl, rfl, rfl, by decide +kernel, rfl, by decide +kernel, by decide +kernel⟩
theorem sc_place_in : FnScope [(Str.ofString "number"), (Str.ofString "interval"), (Str.ofString "low"), (Str.ofString "high")] [(Str.ofString "number"), (Str.ofString "interval")] (defScope (topS 16)) := ⟨rfl, rfl, rfl, by decide +kernel, rfl, by decide +kernel, by decide +kernel⟩
theorem sc_name_of : FnScope [(Str.ofString "one"), (Str.ofString "other")] [(Str.ofString "one"), (Str.ofString "other")] (defScope (topS 17)) := ⟨rfl, rfl, rfl, by decide +kernel, rfl, by decide +kernel, by decide +kernel⟩
theorem sc_relation_of : FnScope [(Str.ofString "one"), (Str.ofString "other")] [(Str.ofString "one"), (Str.ofString "other")] (defScope (topS 18)) := ⟨rfl, rfl, rfl, by decide +kernel, rfl, by decide +kernel, by decide +kernel⟩
theorem sc_rest : FnScope [(Str.ofString "relation"), (Str.ofString "name")] [(Str.ofString "relation")] (defScope (topS 26)) := ⟨rfl, rfl, rfl, by decide +kernel, rfl, by decide +kernel, by decide +kernel⟩
theorem sc__law_said : FnScope [(Str.ofString "which"), (Str.ofString "one"), (Str.ofString "other"), (Str.ofString "named"), (Str.ofString "e")] [(Str.ofString "which"), (Str.ofString "one"), (Str.ofString "other"), (Str.ofString "named")] (defScope (topS 42)) := ⟨rfl, rfl, rfl, by decide +kernel, rfl, by decide +kernel, by decide +kernel⟩
theorem sc__law_same : FnScope [(Str.ofString "told"), (Str.ofString "due"), (Str.ofString "k")] [(Str.ofString "told"), (Str.ofString "due")] (defScope (topS 34)) := ⟨rfl, rfl, rfl, by decide +kernel, rfl, by decide +kernel, by decide +kernel⟩
theorem sc__law_names : FnScope [] [] (defScope (topS 35)) := ⟨rfl, rfl, rfl, by decide +kernel, rfl, by decide +kernel, by decide +kernel⟩
theorem sc__law_turn : FnScope [(Str.ofString "name"), (Str.ofString "names")] [(Str.ofString "name")] (defScope (topS 38)) := ⟨rfl, rfl, rfl, by decide +kernel, rfl, by decide +kernel, by decide +kernel⟩
theorem sc__law_pairs_right : FnScope [(Str.ofString "box"), (Str.ofString "named"), (Str.ofString "turn"), (Str.ofString "low"), (Str.ofString "due"), (Str.ofString "high"), (Str.ofString "one"), (Str.ofString "other")] [(Str.ofString "box"), (Str.ofString "named")] (defScope (topS 43)) := ⟨rfl, rfl, rfl, by decide +kernel, rfl, by decide +kernel, by decide +kernel⟩
theorem sc__law_bad_relation : FnScope [(Str.ofString "box")] [(Str.ofString "box")] (defScope (topS 40)) := ⟨rfl, rfl, rfl, by decide +kernel, rfl, by decide +kernel, by decide +kernel⟩
theorem sc__law_relation : FnScope [(Str.ofString "box"), (Str.ofString "few"), (Str.ofString "names"), (Str.ofString "way"), (Str.ofString "gone"), (Str.ofString "name")] [(Str.ofString "box")] (defScope (topS 39)) := ⟨rfl, rfl, rfl, by decide +kernel, rfl, by decide +kernel, by decide +kernel⟩
theorem sc_is_relation : FnScope [(Str.ofString "value")] [(Str.ofString "value")] (defScope (topS 21)) := ⟨rfl, rfl, rfl, by decide +kernel, rfl, by decide +kernel, by decide +kernel⟩
theorem sc__law_refused : FnScope [(Str.ofString "box"), (Str.ofString "named"), (Str.ofString "odd"), (Str.ofString "told"), (Str.ofString "bad"), (Str.ofString "good"), (Str.ofString "which")] [(Str.ofString "box"), (Str.ofString "named")] (defScope (topS 45)) := ⟨rfl, rfl, rfl, by decide +kernel, rfl, by decide +kernel, by decide +kernel⟩
theorem sc__law_ordered : FnScope [(Str.ofString "names"), (Str.ofString "name")] [(Str.ofString "names")] (defScope (topS 37)) := ⟨rfl, rfl, rfl, by decide +kernel, rfl, by decide +kernel, by decide +kernel⟩
theorem sc__law_relations_right : FnScope [(Str.ofString "box"), (Str.ofString "named"), (Str.ofString "names"), (Str.ofString "turn"), (Str.ofString "dues"), (Str.ofString "told"), (Str.ofString "one"), (Str.ofString "other"), (Str.ofString "which"), (Str.ofString "name"), (Str.ofString "due")] [(Str.ofString "box"), (Str.ofString "named")] (defScope (topS 44)) := ⟨rfl, rfl, rfl, by decide +kernel, rfl, by decide +kernel, by decide +kernel⟩
theorem sc_law : FnScope [(Str.ofString "script"), (Str.ofString "k"), (Str.ofString "box"), (Str.ofString "named")] [(Str.ofString "script")] (defScope (topS 46)) := ⟨rfl, rfl, rfl, by decide +kernel, rfl, by decide +kernel, by decide +kernel⟩
theorem bn__law_take_2 : Bnd (defArgs (topS 33)) 0 2 [] [(Str.ofString "box"), (Str.ofString "many")] [.a 0, .a 1] := by
  intro x qual body scope kV doc pm an cdv ct us ws its h1 h2 h3
  match us, h1, ws, h2, its, h3 with
  | [u0, u1], _, [], _, [], _ => exact ⟨fun h => by with_unfolding_all rfl, fun h T => absurd rfl h⟩
theorem bn_in_order_1 : Bnd (defArgs (topS 19)) 0 1 [] [(Str.ofString "names")] [.a 0] := by
  intro x qual body scope kV doc pm an cdv ct us ws its h1 h2 h3
  match us, h1, ws, h2, its, h3 with
  | [u0], _, [], _, [], _ => exact ⟨fun h => by with_unfolding_all rfl, fun h T => absurd rfl h⟩
theorem bn_is_known_relation_1 : Bnd (defArgs (topS 20)) 0 1 [] [(Str.ofString "value")] [.a 0] := by
  intro x qual body scope kV doc pm an cdv ct us ws its h1 h2 h3
  match us, h1, ws, h2, its, h3 with
  | [u0], _, [], _, [], _ => exact ⟨fun h => by with_unfolding_all rfl, fun h T => absurd rfl h⟩
theorem bn_check_relation_1 : Bnd (defArgs (topS 22)) 0 1 [] [(Str.ofString "relation")] [.a 0] := by
  intro x qual body scope kV doc pm an cdv ct us ws its h1 h2 h3
  match us, h1, ws, h2, its, h3 with
  | [u0], _, [], _, [], _ => exact ⟨fun h => by with_unfolding_all rfl, fun h T => absurd rfl h⟩
theorem bn_check_two_2 : Bnd (defArgs (topS 27)) 0 2 [] [(Str.ofString "one"), (Str.ofString "other")] [.a 0, .a 1] := by
  intro x qual body scope kV doc pm an cdv ct us ws its h1 h2 h3
  match us, h1, ws, h2, its, h3 with
  | [u0, u1], _, [], _, [], _ => exact ⟨fun h => by with_unfolding_all rfl, fun h T => absurd rfl h⟩
theorem bn_turned_name_1 : Bnd (defArgs (topS 23)) 0 1 [] [(Str.ofString "name")] [.a 0] := by
  intro x qual body scope kV doc pm an cdv ct us ws its h1 h2 h3
  match us, h1, ws, h2, its, h3 with
  | [u0], _, [], _, [], _ => exact ⟨fun h => by with_unfolding_all rfl, fun h T => absurd rfl h⟩
theorem bn_converse_of_1 : Bnd (defArgs (topS 24)) 0 1 [] [(Str.ofString "relation")] [.a 0] := by
  intro x qual body scope kV doc pm an cdv ct us ws its h1 h2 h3
  match us, h1, ws, h2, its, h3 with
  | [u0], _, [], _, [], _ => exact ⟨fun h => by with_unfolding_all rfl, fun h T => absurd rfl h⟩
theorem bn_is_integer_1 : Bnd (defArgs (topS 4)) 0 1 [] [(Str.ofString "value")] [.a 0] := by
  intro x qual body scope kV doc pm an cdv ct us ws its h1 h2 h3
  match us, h1, ws, h2, its, h3 with
  | [u0], _, [], _, [], _ => exact ⟨fun h => by with_unfolding_all rfl, fun h T => absurd rfl h⟩
theorem bn_is_between_3 : Bnd (defArgs (topS 5)) 0 3 [] [(Str.ofString "value"), (Str.ofString "least"), (Str.ofString "most")] [.a 0, .a 1, .a 2] := by
  intro x qual body scope kV doc pm an cdv ct us ws its h1 h2 h3
  match us, h1, ws, h2, its, h3 with
  | [u0, u1, u2], _, [], _, [], _ => exact ⟨fun h => by with_unfolding_all rfl, fun h T => absurd rfl h⟩
theorem bn_is_known_3 : Bnd (defArgs (topS 8)) 2 3 [] [(Str.ofString "value"), (Str.ofString "least"), (Str.ofString "most")] [.a 0, .a 1, .a 2] := by
  intro x qual body scope kV doc pm an cdv ct us ws its h1 h2 h3
  match us, h1, ws, h2, its, h3 with
  | [u0, u1, u2], _, [], _, [i0, i1], _ => exact ⟨fun h => absurd h (by decide), fun h T => ⟨_, by with_unfolding_all rfl, by with_unfolding_all rfl⟩⟩
theorem bn_place_in_2 : Bnd (defArgs (topS 16)) 0 2 [] [(Str.ofString "number"), (Str.ofString "interval")] [.a 0, .a 1] := by
  intro x qual body scope kV doc pm an cdv ct us ws its h1 h2 h3
  match us, h1, ws, h2, its, h3 with
  | [u0, u1], _, [], _, [], _ => exact ⟨fun h => by with_unfolding_all rfl, fun h T => absurd rfl h⟩
theorem bn_check_interval_1 : Bnd (defArgs (topS 9)) 2 1 [] [(Str.ofString "interval"), (Str.ofString "least"), (Str.ofString "most")] [.a 0, .d 0 (.int (-1000)), .d 1 (.int 1000)] := by
  intro x qual body scope kV doc pm an cdv ct us ws its h1 h2 h3
  match us, h1, ws, h2, its, h3 with
  | [u0], _, [], _, [i0, i1], _ => exact ⟨fun h => absurd h (by decide), fun h T => ⟨_, by with_unfolding_all rfl, by with_unfolding_all rfl⟩⟩
theorem bn_name_of_2 : Bnd (defArgs (topS 17)) 0 2 [] [(Str.ofString "one"), (Str.ofString "other")] [.a 0, .a 1] := by
  intro x qual body scope kV doc pm an cdv ct us ws its h1 h2 h3
  match us, h1, ws, h2, its, h3 with
  | [u0, u1], _, [], _, [], _ => exact ⟨fun h => by with_unfolding_all rfl, fun h T => absurd rfl h⟩
theorem bn_relation_of_0_other_one : Bnd (defArgs (topS 18)) 0 0 [(Str.ofString "other"), (Str.ofString "one")] [(Str.ofString "one"), (Str.ofString "other")] [.a 1, .a 0] := by
  intro x qual body scope kV doc pm an cdv ct us ws its h1 h2 h3
  match us, h1, ws, h2, its, h3 with
  | [], _, [w0, w1], _, [], _ => exact ⟨fun h => by with_unfolding_all rfl, fun h T => absurd rfl h⟩
theorem bn_relation_of_2 : Bnd (defArgs (topS 18)) 0 2 [] [(Str.ofString "one"), (Str.ofString "other")] [.a 0, .a 1] := by
  intro x qual body scope kV doc pm an cdv ct us ws its h1 h2 h3
  match us, h1, ws, h2, its, h3 with
  | [u0, u1], _, [], _, [], _ => exact ⟨fun h => by with_unfolding_all rfl, fun h T => absurd rfl h⟩
theorem bn_converse_0_relation : Bnd (defArgs (topS 25)) 0 0 [(Str.ofString "relation")] [(Str.ofString "relation")] [.a 0] := by
  intro x qual body scope kV doc pm an cdv ct us ws its h1 h2 h3
  match us, h1, ws, h2, its, h3 with
  | [], _, [w0], _, [], _ => exact ⟨fun h => by with_unfolding_all rfl, fun h T => absurd rfl h⟩
theorem bn_converse_1 : Bnd (defArgs (topS 25)) 0 1 [] [(Str.ofString "relation")] [.a 0] := by
  intro x qual body scope kV doc pm an cdv ct us ws its h1 h2 h3
  match us, h1, ws, h2, its, h3 with
  | [u0], _, [], _, [], _ => exact ⟨fun h => by with_unfolding_all rfl, fun h T => absurd rfl h⟩
theorem bn_rest_0_relation : Bnd (defArgs (topS 26)) 0 0 [(Str.ofString "relation")] [(Str.ofString "relation")] [.a 0] := by
  intro x qual body scope kV doc pm an cdv ct us ws its h1 h2 h3
  match us, h1, ws, h2, its, h3 with
  | [], _, [w0], _, [], _ => exact ⟨fun h => by with_unfolding_all rfl, fun h T => absurd rfl h⟩
theorem bn_rest_1 : Bnd (defArgs (topS 26)) 0 1 [] [(Str.ofString "relation")] [.a 0] := by
  intro x qual body scope kV doc pm an cdv ct us ws its h1 h2 h3
  match us, h1, ws, h2, its, h3 with
  | [u0], _, [], _, [], _ => exact ⟨fun h => by with_unfolding_all rfl, fun h T => absurd rfl h⟩
theorem bn_either_0_other_one : Bnd (defArgs (topS 28)) 0 0 [(Str.ofString "other"), (Str.ofString "one")] [(Str.ofString "one"), (Str.ofString "other")] [.a 1, .a 0] := by
  intro x qual body scope kV doc pm an cdv ct us ws its h1 h2 h3
  match us, h1, ws, h2, its, h3 with
  | [], _, [w0, w1], _, [], _ => exact ⟨fun h => by with_unfolding_all rfl, fun h T => absurd rfl h⟩
theorem bn_either_2 : Bnd (defArgs (topS 28)) 0 2 [] [(Str.ofString "one"), (Str.ofString "other")] [.a 0, .a 1] := by
  intro x qual body scope kV doc pm an cdv ct us ws its h1 h2 h3
  match us, h1, ws, h2, its, h3 with
  | [u0, u1], _, [], _, [], _ => exact ⟨fun h => by with_unfolding_all rfl, fun h T => absurd rfl h⟩
theorem bn_both_0_other_one : Bnd (defArgs (topS 29)) 0 0 [(Str.ofString "other"), (Str.ofString "one")] [(Str.ofString "one"), (Str.ofString "other")] [.a 1, .a 0] := by
  intro x qual body scope kV doc pm an cdv ct us ws its h1 h2 h3
  match us, h1, ws, h2, its, h3 with
  | [], _, [w0, w1], _, [], _ => exact ⟨fun h => by with_unfolding_all rfl, fun h T => absurd rfl h⟩
theorem bn_both_2 : Bnd (defArgs (topS 29)) 0 2 [] [(Str.ofString "one"), (Str.ofString "other")] [.a 0, .a 1] := by
  intro x qual body scope kV doc pm an cdv ct us ws its h1 h2 h3
  match us, h1, ws, h2, its, h3 with
  | [u0, u1], _, [], _, [], _ => exact ⟨fun h => by with_unfolding_all rfl, fun h T => absurd rfl h⟩
theorem bn__law_same_2 : Bnd (defArgs (topS 34)) 0 2 [] [(Str.ofString "told"), (Str.ofString "due")] [.a 0, .a 1] := by
  intro x qual body scope kV doc pm an cdv ct us ws its h1 h2 h3
  match us, h1, ws, h2, its, h3 with
  | [u0, u1], _, [], _, [], _ => exact ⟨fun h => by with_unfolding_all rfl, fun h T => absurd rfl h⟩
theorem bn__law_names_0 : Bnd (defArgs (topS 35)) 0 0 [] [] [] := by
  intro x qual body scope kV doc pm an cdv ct us ws its h1 h2 h3
  match us, h1, ws, h2, its, h3 with
  | [], _, [], _, [], _ => exact ⟨fun h => by with_unfolding_all rfl, fun h T => absurd rfl h⟩
theorem bn__law_pair_1 : Bnd (defArgs (topS 41)) 0 1 [] [(Str.ofString "box")] [.a 0] := by
  intro x qual body scope kV doc pm an cdv ct us ws its h1 h2 h3
  match us, h1, ws, h2, its, h3 with
  | [u0], _, [], _, [], _ => exact ⟨fun h => by with_unfolding_all rfl, fun h T => absurd rfl h⟩
theorem bn__law_name_2 : Bnd (defArgs (topS 36)) 0 2 [] [(Str.ofString "one"), (Str.ofString "other")] [.a 0, .a 1] := by
  intro x qual body scope kV doc pm an cdv ct us ws its h1 h2 h3
  match us, h1, ws, h2, its, h3 with
  | [u0, u1], _, [], _, [], _ => exact ⟨fun h => by with_unfolding_all rfl, fun h T => absurd rfl h⟩
theorem bn__law_said_4 : Bnd (defArgs (topS 42)) 0 4 [] [(Str.ofString "which"), (Str.ofString "one"), (Str.ofString "other"), (Str.ofString "named")] [.a 0, .a 1, .a 2, .a 3] := by
  intro x qual body scope kV doc pm an cdv ct us ws its h1 h2 h3
  match us, h1, ws, h2, its, h3 with
  | [u0, u1, u2, u3], _, [], _, [], _ => exact ⟨fun h => by with_unfolding_all rfl, fun h T => absurd rfl h⟩
theorem bn__law_turn_1 : Bnd (defArgs (topS 38)) 0 1 [] [(Str.ofString "name")] [.a 0] := by
  intro x qual body scope kV doc pm an cdv ct us ws its h1 h2 h3
  match us, h1, ws, h2, its, h3 with
  | [u0], _, [], _, [], _ => exact ⟨fun h => by with_unfolding_all rfl, fun h T => absurd rfl h⟩
theorem bn__law_bad_relation_1 : Bnd (defArgs (topS 40)) 0 1 [] [(Str.ofString "box")] [.a 0] := by
  intro x qual body scope kV doc pm an cdv ct us ws its h1 h2 h3
  match us, h1, ws, h2, its, h3 with
  | [u0], _, [], _, [], _ => exact ⟨fun h => by with_unfolding_all rfl, fun h T => absurd rfl h⟩
theorem bn__law_relation_1 : Bnd (defArgs (topS 39)) 0 1 [] [(Str.ofString "box")] [.a 0] := by
  intro x qual body scope kV doc pm an cdv ct us ws its h1 h2 h3
  match us, h1, ws, h2, its, h3 with
  | [u0], _, [], _, [], _ => exact ⟨fun h => by with_unfolding_all rfl, fun h T => absurd rfl h⟩
theorem bn_is_relation_1 : Bnd (defArgs (topS 21)) 0 1 [] [(Str.ofString "value")] [.a 0] := by
  intro x qual body scope kV doc pm an cdv ct us ws its h1 h2 h3
  match us, h1, ws, h2, its, h3 with
  | [u0], _, [], _, [], _ => exact ⟨fun h => by with_unfolding_all rfl, fun h T => absurd rfl h⟩
theorem bn_is_relation_0_value : Bnd (defArgs (topS 21)) 0 0 [(Str.ofString "value")] [(Str.ofString "value")] [.a 0] := by
  intro x qual body scope kV doc pm an cdv ct us ws its h1 h2 h3
  match us, h1, ws, h2, its, h3 with
  | [], _, [w0], _, [], _ => exact ⟨fun h => by with_unfolding_all rfl, fun h T => absurd rfl h⟩
theorem bn__law_ordered_1 : Bnd (defArgs (topS 37)) 0 1 [] [(Str.ofString "names")] [.a 0] := by
  intro x qual body scope kV doc pm an cdv ct us ws its h1 h2 h3
  match us, h1, ws, h2, its, h3 with
  | [u0], _, [], _, [], _ => exact ⟨fun h => by with_unfolding_all rfl, fun h T => absurd rfl h⟩
theorem bn__law_cell_2 : Bnd (defArgs (topS 31)) 0 2 [] [(Str.ofString "script"), (Str.ofString "k")] [.a 0, .a 1] := by
  intro x qual body scope kV doc pm an cdv ct us ws its h1 h2 h3
  match us, h1, ws, h2, its, h3 with
  | [u0, u1], _, [], _, [], _ => exact ⟨fun h => by with_unfolding_all rfl, fun h T => absurd rfl h⟩
theorem bn__law_box_1 : Bnd (defArgs (topS 32)) 0 1 [] [(Str.ofString "great")] [.a 0] := by
  intro x qual body scope kV doc pm an cdv ct us ws its h1 h2 h3
  match us, h1, ws, h2, its, h3 with
  | [u0], _, [], _, [], _ => exact ⟨fun h => by with_unfolding_all rfl, fun h T => absurd rfl h⟩
theorem bn__law_pairs_right_2 : Bnd (defArgs (topS 43)) 0 2 [] [(Str.ofString "box"), (Str.ofString "named")] [.a 0, .a 1] := by
  intro x qual body scope kV doc pm an cdv ct us ws its h1 h2 h3
  match us, h1, ws, h2, its, h3 with
  | [u0, u1], _, [], _, [], _ => exact ⟨fun h => by with_unfolding_all rfl, fun h T => absurd rfl h⟩
theorem bn__law_relations_right_2 : Bnd (defArgs (topS 44)) 0 2 [] [(Str.ofString "box"), (Str.ofString "named")] [.a 0, .a 1] := by
  intro x qual body scope kV doc pm an cdv ct us ws its h1 h2 h3
  match us, h1, ws, h2, its, h3 with
  | [u0, u1], _, [], _, [], _ => exact ⟨fun h => by with_unfolding_all rfl, fun h T => absurd rfl h⟩
theorem bn__law_refused_2 : Bnd (defArgs (topS 45)) 0 2 [] [(Str.ofString "box"), (Str.ofString "named")] [.a 0, .a 1] := by
  intro x qual body scope kV doc pm an cdv ct us ws its h1 h2 h3
  match us, h1, ws, h2, its, h3 with
  | [u0, u1], _, [], _, [], _ => exact ⟨fun h => by with_unfolding_all rfl, fun h T => absurd rfl h⟩
structure Txt (P : Program) (w : World) (K : PySem.W.Frag) (mg : Str → Option Value) (base : Heap) (kx : Nat) (C_IntervalError C_InvalidInterval C_InvalidRelation : Addr) : Prop where
  b_abs : mg (Str.ofString "abs") = none
  b_all : mg (Str.ofString "all") = none
  b_bool : mg (Str.ofString "bool") = none
  b_dict : mg (Str.ofString "dict") = none
  b_int : mg (Str.ofString "int") = none
  b_isinstance : mg (Str.ofString "isinstance") = none
  b_len : mg (Str.ofString "len") = none
  b_list : mg (Str.ofString "list") = none
  b_max : mg (Str.ofString "max") = none
  b_min : mg (Str.ofString "min") = none
  b_range : mg (Str.ofString "range") = none
  b_str : mg (Str.ofString "str") = none
  b_sum : mg (Str.ofString "sum") = none
  b_tuple : mg (Str.ofString "tuple") = none
  g_CODES : GloD K mg (Str.ofString "CODES") (.tuple [(.tuple [(.int 0), (.int 0)]), (.tuple [(.int 0), (.int 1)]), (.tuple [(.int 0), (.int 2)]), (.tuple [(.int 1), (.int 2)]), (.tuple [(.int 2), (.int 2)]), (.tuple [(.int 2), (.int 3)]), (.tuple [(.int 1), (.int 3)]), (.tuple [(.int 0), (.int 3)]), (.tuple [(.int 0), (.int 4)]), (.tuple [(.int 1), (.int 4)]), (.tuple [(.int 2), (.int 4)]), (.tuple [(.int 3), (.int 4)]), (.tuple [(.int 4), (.int 4)])])
  g_NAMES : GloD K mg (Str.ofString "NAMES") (.tuple [(.str (Str.ofString "before")), (.str (Str.ofString "meets")), (.str (Str.ofString "overlaps")), (.str (Str.ofString "starts")), (.str (Str.ofString "during")), (.str (Str.ofString "finishes")), (.str (Str.ofString "equal")), (.str (Str.ofString "finished")), (.str (Str.ofString "contains")), (.str (Str.ofString "started")), (.str (Str.ofString "overlapped")), (.str (Str.ofString "met")), (.str (Str.ofString "after"))])
  g_TURNED : GloD K mg (Str.ofString "TURNED") (.tuple [(.int 12), (.int 11), (.int 10), (.int 9), (.int 8), (.int 7), (.int 6), (.int 5), (.int 4), (.int 3), (.int 2), (.int 1), (.int 0)])
  t_CODES : GTup K mg (Str.ofString "CODES") [(.tuple [(.int 0), (.int 0)]), (.tuple [(.int 0), (.int 1)]), (.tuple [(.int 0), (.int 2)]), (.tuple [(.int 1), (.int 2)]), (.tuple [(.int 2), (.int 2)]), (.tuple [(.int 2), (.int 3)]), (.tuple [(.int 1), (.int 3)]), (.tuple [(.int 0), (.int 3)]), (.tuple [(.int 0), (.int 4)]), (.tuple [(.int 1), (.int 4)]), (.tuple [(.int 2), (.int 4)]), (.tuple [(.int 3), (.int 4)]), (.tuple [(.int 4), (.int 4)])]
  t_NAMES : GTup K mg (Str.ofString "NAMES") [(.str (Str.ofString "before")), (.str (Str.ofString "meets")), (.str (Str.ofString "overlaps")), (.str (Str.ofString "starts")), (.str (Str.ofString "during")), (.str (Str.ofString "finishes")), (.str (Str.ofString "equal")), (.str (Str.ofString "finished")), (.str (Str.ofString "contains")), (.str (Str.ofString "started")), (.str (Str.ofString "overlapped")), (.str (Str.ofString "met")), (.str (Str.ofString "after"))]
  x_InvalidInterval : ExcD P w K mg base (Str.ofString "InvalidInterval") [(Str.ofString "given")] kx
  x_InvalidRelation : ExcD P w K mg base (Str.ofString "InvalidRelation") [(Str.ofString "given")] kx
  cl : True
  n_IntervalError : mg (Str.ofString "IntervalError") = some (.ref C_IntervalError)
  n_InvalidInterval : mg (Str.ofString "InvalidInterval") = some (.ref C_InvalidInterval)
  n_InvalidRelation : mg (Str.ofString "InvalidRelation") = some (.ref C_InvalidRelation)
  m_IntervalError : MatchD K mg (.ref C_IntervalError) (isa_ (Str.ofString "IntervalError"))
  m_InvalidInterval : MatchD K mg (.ref C_InvalidInterval) (isa_ (Str.ofString "InvalidInterval"))
  m_InvalidRelation : MatchD K mg (.ref C_InvalidRelation) (isa_ (Str.ofString "InvalidRelation"))
  f_InvalidInterval_given : XfD K mg (Str.ofString "InvalidInterval") (Str.ofString "given")
  f_InvalidRelation_given : XfD K mg (Str.ofString "InvalidRelation") (Str.ofString "given")
section
variable {P : Program} {w : World} {K : PySem.W.Frag} {mg : Str → Option Value} {base : Heap} {C_IntervalError C_InvalidInterval C_InvalidRelation : Addr}
theorem ok__law_box (T : Txt P w K mg base 1 C_IntervalError C_InvalidInterval C_InvalidRelation) {f : Addr} {fd : FuncData} (F : FunD K (Str.ofString "_law_box") (Str.ofString "_law_box") (defArgs (topS 32)) (defBody (topS 32)) (defScope (topS 32)) (([] : List D).map D.flatV) [] f fd) (hm : mg (Str.ofString "_law_box") = some (.ref f))  : CalD P w K mg base (Str.ofString "_law_box") (defArgs (topS 32)) [] [(Str.ofString "great")] 1 den__law_box := by
  refine calD_of F hm sc__law_box fun cdv A outer s H E hr => ?_
  have hu := hr.units
  have hu5 := room5 hr
  exact (pssd_one (psd_ret (pd_lst (pad_cons (pd_callB cabs T.b_abs PyProof.Rows.Boot.abs (pad_cons (pd_var 0) pad_nil)) (pad_cons (pd_cmp (oge hu) (pd_callB cabs T.b_abs PyProof.Rows.Boot.abs (pad_cons (pd_var 0) pad_nil)) (pd_op opow pd_int pd_int)) (pad_cons (pd_op omod (pd_callTy cint T.b_int PyProof.Rows.Boot.int (pad_cons (pd_callB cabs T.b_abs PyProof.Rows.Boot.abs (pad_cons (pd_var 0) pad_nil)) pad_nil)) pd_int) (pad_cons pd_int pad_nil)))))))
theorem ok__law_cell (T : Txt P w K mg base 1 C_IntervalError C_InvalidInterval C_InvalidRelation) {f : Addr} {fd : FuncData} (F : FunD K (Str.ofString "_law_cell") (Str.ofString "_law_cell") (defArgs (topS 31)) (defBody (topS 31)) (defScope (topS 31)) (([] : List D).map D.flatV) [] f fd) (hm : mg (Str.ofString "_law_cell") = some (.ref f))  : CalD P w K mg base (Str.ofString "_law_cell") (defArgs (topS 31)) [] [(Str.ofString "script"), (Str.ofString "k")] 1 den__law_cell := by
  refine calD_of F hm sc__law_cell fun cdv A outer s H E hr => ?_
  have hu := hr.units
  have hu5 := room5 hr
  exact (pssd_one (psd_ret (pd_if (ptd_cmp (olt hu) (pd_var 1) (pd_callB clen T.b_len PyProof.Rows.Boot.len (pad_cons (pd_var 0) pad_nil))) (pd_ix (pd_var 0) (pd_var 1)) (pd_op oadd (pd_op omul pd_int (pd_var 1)) (pd_op omod (pd_callTy cint T.b_int PyProof.Rows.Boot.int (pad_cons (pd_callB (csum rfl) T.b_sum PyProof.Rows.Boot.sum (pad_cons (pd_sl (pd_var 0) pod_no (pod_at pd_int)) pad_nil)) pad_nil)) pd_int)))))
theorem ok__law_name (T : Txt P w K mg base 1 C_IntervalError C_InvalidInterval C_InvalidRelation) {f : Addr} {fd : FuncData} (F : FunD K (Str.ofString "_law_name") (Str.ofString "_law_name") (defArgs (topS 36)) (defBody (topS 36)) (defScope (topS 36)) (([] : List D).map D.flatV) [] f fd) (hm : mg (Str.ofString "_law_name") = some (.ref f))  : CalD P w K mg base (Str.ofString "_law_name") (defArgs (topS 36)) [] [(Str.ofString "one"), (Str.ofString "other")] 1 den__law_name := by
  refine calD_of F hm sc__law_name fun cdv A outer s H E hr => ?_
  have hu := hr.units
  have hu5 := room5 hr
  exact (pssd_cons (psd_tgt (pd_var 0) (pgd_tup (pgsd_cons (pgd_name (i := 2) sc__law_name.nd rfl (by first | exact Or.inl rfl | exact Or.inr rfl)) (pgsd_cons (pgd_name (i := 3) sc__law_name.nd rfl (by first | exact Or.inl rfl | exact Or.inr rfl)) pgsd_nil))))
    (pssd_cons (psd_tgt (pd_var 1) (pgd_tup (pgsd_cons (pgd_name (i := 4) sc__law_name.nd rfl (by first | exact Or.inl rfl | exact Or.inr rfl)) (pgsd_cons (pgd_name (i := 5) sc__law_name.nd rfl (by first | exact Or.inl rfl | exact Or.inr rfl)) pgsd_nil))))
    (pssd_cons (psd_if (ptd_cmp (olt hu) (pd_var 3) (pd_var 4)) (pssd_one (psd_ret pd_str)) pssd_nil)
    (pssd_cons (psd_if (ptd_cmp (oeq hu) (pd_var 3) (pd_var 4)) (pssd_one (psd_ret pd_str)) pssd_nil)
    (pssd_cons (psd_if (ptd_cmp (olt hu) (pd_var 5) (pd_var 2)) (pssd_one (psd_ret pd_str)) pssd_nil)
    (pssd_cons (psd_if (ptd_cmp (oeq hu) (pd_var 5) (pd_var 2)) (pssd_one (psd_ret pd_str)) pssd_nil)
    (pssd_cons (psd_if (ptd_cmp (oeq hu) (pd_var 2) (pd_var 4)) (pssd_one (psd_ret (pd_if (ptd_cmp (olt hu) (pd_var 3) (pd_var 5)) pd_str (pd_if (ptd_cmp (oeq hu) (pd_var 3) (pd_var 5)) pd_str pd_str)))) pssd_nil)
    (pssd_cons (psd_if (ptd_cmp (oeq hu) (pd_var 3) (pd_var 5)) (pssd_one (psd_ret (pd_if (ptd_cmp (olt hu) (pd_var 4) (pd_var 2)) pd_str pd_str))) pssd_nil)
    (pssd_cons (psd_if (ptd_cmp (olt hu) (pd_var 2) (pd_var 4)) (pssd_one (psd_ret (pd_if (ptd_cmp (olt hu) (pd_var 3) (pd_var 5)) pd_str pd_str))) pssd_nil)
    (pssd_one (psd_ret (pd_if (ptd_cmp (olt hu) (pd_var 3) (pd_var 5)) pd_str pd_str))))))))))))
theorem ok__law_take (T : Txt P w K mg base 1 C_IntervalError C_InvalidInterval C_InvalidRelation) {f : Addr} {fd : FuncData} (F : FunD K (Str.ofString "_law_take") (Str.ofString "_law_take") (defArgs (topS 33)) (defBody (topS 33)) (defScope (topS 33)) (([] : List D).map D.flatV) [] f fd) (hm : mg (Str.ofString "_law_take") = some (.ref f))  : CalD P w K mg base (Str.ofString "_law_take") (defArgs (topS 33)) [] [(Str.ofString "box"), (Str.ofString "many")] 1 den__law_take := by
  refine calD_of F hm sc__law_take fun cdv A outer s H E hr => ?_
  have hu := hr.units
  have hu5 := room5 hr
  exact (pssd_cons (psd_if ((pwd_and (ptd_tru (pd_bor (pd_ix (pd_var 0) pd_int))) (pwd_and1 (ptd_cmp (ogt hu) (pd_bor (pd_ix (pd_var 0) pd_int)) pd_int)))).pt (pssd_cons (psd_asg 3 sc__law_take.nd (pd_op omod (pd_callTy cint T.b_int PyProof.Rows.Boot.int (pad_cons (pd_bor (pd_ix (pd_var 0) pd_int)) pad_nil)) (pd_var 1)))
    (pssd_cons (psd_setIx 0 (pd_op ofdiv (pd_bor (pd_ix (pd_var 0) pd_int)) (pd_var 1)) pd_int)
    (pssd_one (psd_ret (pd_var 3))))) pssd_nil)
    (pssd_cons (psd_setIx 0 (pd_op oadd (pd_bor (pd_ix (pd_var 0) pd_int)) pd_int) pd_int)
    (pssd_cons (psd_asg 2 sc__law_take.nd (pd_op omod (pd_callTy cint T.b_int PyProof.Rows.Boot.int (pad_cons (pd_op opow (pd_op oadd (pd_op oadd (pd_bor (pd_ix (pd_var 0) pd_int)) (pd_op omul pd_int (pd_bor (pd_ix (pd_var 0) pd_int)))) pd_int) pd_int) pad_nil)) pd_int))
    (pssd_one (psd_ret (pd_op omod (pd_callTy cint T.b_int PyProof.Rows.Boot.int (pad_cons (pd_op ofdiv (pd_op omod (pd_callTy cint T.b_int PyProof.Rows.Boot.int (pad_cons (pd_op opow (pd_op oadd (pd_op omul (pd_var 2) pd_int) (pd_op omul pd_int (pd_bor (pd_ix (pd_var 0) pd_int)))) pd_int) pad_nil)) pd_int) pd_int) pad_nil)) (pd_var 1)))))))
theorem ok__law_pair (T : Txt P w K mg base 1 C_IntervalError C_InvalidInterval C_InvalidRelation) {f : Addr} {fd : FuncData} (F : FunD K (Str.ofString "_law_pair") (Str.ofString "_law_pair") (defArgs (topS 41)) (defBody (topS 41)) (defScope (topS 41)) (([] : List D).map D.flatV) [] f fd) (hm : mg (Str.ofString "_law_pair") = some (.ref f)) (c__law_take : CalD P w K mg base (Str.ofString "_law_take") (defArgs (topS 33)) [] [(Str.ofString "box"), (Str.ofString "many")] 1 den__law_take) : CalD P w K mg base (Str.ofString "_law_pair") (defArgs (topS 41)) [] [(Str.ofString "box")] 2 den__law_pair := by
  refine calD_of F hm sc__law_pair fun cdv A outer s H E hr => ?_
  have hu := hr.units
  have hu5 := room5 hr
  exact (pssd_cons (psd_asg 1 sc__law_pair.nd (pd_ix (pd_lst (pad_cons (pd_op oadd (pd_op osub pd_int pd_int) (pd_callG c__law_take bn__law_take_2 (hr.mono (by decide)) (takes_of rfl rfl rfl rfl) (pcd_r 0 (pcd_v pd_int pcd_nil)) pkd_nil)) (pad_cons (pd_op osub (pd_callG c__law_take bn__law_take_2 (hr.mono (by decide)) (takes_of rfl rfl rfl rfl) (pcd_r 0 (pcd_v pd_int pcd_nil)) pkd_nil) pd_int) (pad_cons (pd_op oadd pd_int (pd_callG c__law_take bn__law_take_2 (hr.mono (by decide)) (takes_of rfl rfl rfl rfl) (pcd_r 0 (pcd_v pd_int pcd_nil)) pkd_nil)) pad_nil)))) (pd_callG c__law_take bn__law_take_2 (hr.mono (by decide)) (takes_of rfl rfl rfl rfl) (pcd_r 0 (pcd_v pd_int pcd_nil)) pkd_nil)))
    (pssd_cons (psd_asg 2 sc__law_pair.nd (pd_tup (pad_cons (pd_var 1) (pad_cons (pd_op oadd (pd_op oadd (pd_var 1) pd_int) (pd_callG c__law_take bn__law_take_2 (hr.mono (by decide)) (takes_of rfl rfl rfl rfl) (pcd_r 0 (pcd_v pd_int pcd_nil)) pkd_nil)) pad_nil))))
    (pssd_cons (psd_asg 3 sc__law_pair.nd (pd_callB (cmax2 rfl) T.b_max PyProof.Rows.Boot.max (pad_cons (pd_op oadd (pd_op osub (pd_var 1) pd_int) (pd_callG c__law_take bn__law_take_2 (hr.mono (by decide)) (takes_of rfl rfl rfl rfl) (pcd_r 0 (pcd_v pd_int pcd_nil)) pkd_nil)) (pad_cons (pd_op osub pd_int pd_int) pad_nil))))
    (pssd_cons (psd_if (ptd_cmp (oeq hu) (pd_callG c__law_take bn__law_take_2 (hr.mono (by decide)) (takes_of rfl rfl rfl rfl) (pcd_r 0 (pcd_v pd_int pcd_nil)) pkd_nil) pd_int) (pssd_one (psd_asg 3 sc__law_pair.nd (pd_ix (pd_lst (pad_cons (pd_var 1) (pad_cons (pd_ix (pd_var 2) pd_int) pad_nil))) (pd_callG c__law_take bn__law_take_2 (hr.mono (by decide)) (takes_of rfl rfl rfl rfl) (pcd_r 0 (pcd_v pd_int pcd_nil)) pkd_nil)))) pssd_nil)
    (pssd_cons (psd_asg 4 sc__law_pair.nd (pd_op oadd (pd_op oadd (pd_var 3) pd_int) (pd_callG c__law_take bn__law_take_2 (hr.mono (by decide)) (takes_of rfl rfl rfl rfl) (pcd_r 0 (pcd_v pd_int pcd_nil)) pkd_nil)))
    (pssd_cons (psd_if (ptd_cmp (oeq hu) (pd_callG c__law_take bn__law_take_2 (hr.mono (by decide)) (takes_of rfl rfl rfl rfl) (pcd_r 0 (pcd_v pd_int pcd_nil)) pkd_nil) pd_int) (pssd_one (psd_asg 4 sc__law_pair.nd (pd_ix (pd_lst (pad_cons (pd_ix (pd_var 2) pd_int) (pad_cons (pd_ix (pd_var 2) pd_int) pad_nil))) (pd_callG c__law_take bn__law_take_2 (hr.mono (by decide)) (takes_of rfl rfl rfl rfl) (pcd_r 0 (pcd_v pd_int pcd_nil)) pkd_nil)))) pssd_nil)
    (pssd_one (psd_ret (pd_tup (pad_cons (pd_var 2) (pad_cons (pd_tup (pad_cons (pd_var 3) (pad_cons (pd_if (ptd_cmp (ogt hu) (pd_var 4) (pd_var 3)) (pd_var 4) (pd_op oadd (pd_var 3) pd_int)) pad_nil))) pad_nil)))))))))))
theorem ok_in_order (T : Txt P w K mg base 1 C_IntervalError C_InvalidInterval C_InvalidRelation) {f : Addr} {fd : FuncData} (F : FunD K (Str.ofString "in_order") (Str.ofString "in_order") (defArgs (topS 19)) (defBody (topS 19)) (defScope (topS 19)) (([] : List D).map D.flatV) [] f fd) (hm : mg (Str.ofString "in_order") = some (.ref f))  : CalD P w K mg base (Str.ofString "in_order") (defArgs (topS 19)) [] [(Str.ofString "names")] 1 den_in_order := by
  refine calD_of F hm sc_in_order fun cdv A outer s H E hr => ?_
  have hu := hr.units
  have hu5 := room5 hr
  exact (pssd_one (psd_ret (pd_callTy ctuple T.b_tuple PyProof.Rows.Boot.tuple (pad_cons (pd_lc [((Str.ofString "name"), 1)] sc_in_order.nd (pid_any (pd_glob T.g_NAMES)) (blk_ok (by kernel_rfl)) (fun s H C cl fp => (pgd_name (i := 1) sc_in_order.nd rfl (by first | exact Or.inl rfl | exact Or.inr rfl))) (fun s H C cl fp => (ptsd_one (ptd_cmp (oin hu5) (pd_var 1) (pd_var 0)))) (fun s H C cl fp => (pd_var 1))) pad_nil))))
theorem ok_is_known_relation (T : Txt P w K mg base 1 C_IntervalError C_InvalidInterval C_InvalidRelation) {f : Addr} {fd : FuncData} (F : FunD K (Str.ofString "is_known_relation") (Str.ofString "is_known_relation") (defArgs (topS 20)) (defBody (topS 20)) (defScope (topS 20)) (([] : List D).map D.flatV) [] f fd) (hm : mg (Str.ofString "is_known_relation") = some (.ref f)) (c_in_order : CalD P w K mg base (Str.ofString "in_order") (defArgs (topS 19)) [] [(Str.ofString "names")] 1 den_in_order) : CalD P w K mg base (Str.ofString "is_known_relation") (defArgs (topS 20)) [] [(Str.ofString "value")] 2 den_is_known_relation := by
  refine calD_of F hm sc_is_known_relation fun cdv A outer s H E hr => ?_
  have hu := hr.units
  have hu5 := room5 hr
  exact (pssd_cons (psd_if ((pwd_or (ptd_not (ptd_tru (pd_isi1 .tuple (pd_var 0) T.b_isinstance T.b_tuple))) (pwd_or1 (ptd_not (ptd_tru (pd_callB (call_all_ rfl) T.b_all PyProof.Rows.Boot.all (pad_cons (pd_lc [((Str.ofString "name"), 1)] sc_is_known_relation.nd (pid_any (pd_var 0)) (blk_ok (by kernel_rfl)) (fun s H C cl fp => (pgd_name (i := 1) sc_is_known_relation.nd rfl (by first | exact Or.inl rfl | exact Or.inr rfl))) (fun s H C cl fp => ptsd_nil) (fun s H C cl fp => (pd_and (pd_isi1 .str (pd_var 1) T.b_isinstance T.b_str) (pd_one (pd_cmp (oin hu5) (pd_var 1) (pd_glob T.g_NAMES)))))) pad_nil))))))).pt (pssd_one (psd_ret pd_bl)) pssd_nil)
    (pssd_one (psd_ret (pd_cmp (oeq hu) (pd_callG c_in_order bn_in_order_1 (hr.mono (by decide)) (takes_of rfl rfl rfl rfl) (pcd_v (pd_var 0) pcd_nil) pkd_nil) (pd_var 0)))))
theorem ok_check_relation (T : Txt P w K mg base 1 C_IntervalError C_InvalidInterval C_InvalidRelation) {f : Addr} {fd : FuncData} (F : FunD K (Str.ofString "check_relation") (Str.ofString "check_relation") (defArgs (topS 22)) (defBody (topS 22)) (defScope (topS 22)) (([] : List D).map D.flatV) [] f fd) (hm : mg (Str.ofString "check_relation") = some (.ref f)) (c_is_known_relation : CalD P w K mg base (Str.ofString "is_known_relation") (defArgs (topS 20)) [] [(Str.ofString "value")] 2 den_is_known_relation) : CalD P w K mg base (Str.ofString "check_relation") (defArgs (topS 22)) [] [(Str.ofString "relation")] 3 den_check_relation := by
  refine calD_of F hm sc_check_relation fun cdv A outer s H E hr => ?_
  have hu := hr.units
  have hu5 := room5 hr
  exact (pssd_one (psd_if (ptd_not (ptd_tru (pd_callG c_is_known_relation bn_is_known_relation_1 (hr.mono (by decide)) (takes_of rfl rfl rfl rfl) (pcd_v (pd_var 0) pcd_nil) pkd_nil))) (pssd_one (psd_raise T.x_InvalidRelation (hr.mono (by decide)) (takes_of rfl rfl rfl rfl) (pad_cons (pd_var 0) pad_nil))) pssd_nil))
theorem ok_check_two (T : Txt P w K mg base 1 C_IntervalError C_InvalidInterval C_InvalidRelation) {f : Addr} {fd : FuncData} (F : FunD K (Str.ofString "check_two") (Str.ofString "check_two") (defArgs (topS 27)) (defBody (topS 27)) (defScope (topS 27)) (([] : List D).map D.flatV) [] f fd) (hm : mg (Str.ofString "check_two") = some (.ref f)) (c_check_relation : CalD P w K mg base (Str.ofString "check_relation") (defArgs (topS 22)) [] [(Str.ofString "relation")] 3 den_check_relation) : CalD P w K mg base (Str.ofString "check_two") (defArgs (topS 27)) [] [(Str.ofString "one"), (Str.ofString "other")] 4 den_check_two := by
  refine calD_of F hm sc_check_two fun cdv A outer s H E hr => ?_
  have hu := hr.units
  have hu5 := room5 hr
  exact (pssd_cons (psd_drop (pd_callG c_check_relation bn_check_relation_1 (hr.mono (by decide)) (takes_of rfl rfl rfl rfl) (pcd_v (pd_var 0) pcd_nil) pkd_nil))
    (pssd_one (psd_drop (pd_callG c_check_relation bn_check_relation_1 (hr.mono (by decide)) (takes_of rfl rfl rfl rfl) (pcd_v (pd_var 1) pcd_nil) pkd_nil))))
theorem ok_both (T : Txt P w K mg base 1 C_IntervalError C_InvalidInterval C_InvalidRelation) {f : Addr} {fd : FuncData} (F : FunD K (Str.ofString "both") (Str.ofString "both") (defArgs (topS 29)) (defBody (topS 29)) (defScope (topS 29)) (([] : List D).map D.flatV) [] f fd) (hm : mg (Str.ofString "both") = some (.ref f)) (c_check_two : CalD P w K mg base (Str.ofString "check_two") (defArgs (topS 27)) [] [(Str.ofString "one"), (Str.ofString "other")] 4 den_check_two) : CalD P w K mg base (Str.ofString "both") (defArgs (topS 29)) [] [(Str.ofString "one"), (Str.ofString "other")] 5 den_both := by
  refine calD_of F hm sc_both fun cdv A outer s H E hr => ?_
  have hu := hr.units
  have hu5 := room5 hr
  exact (pssd_cons (psd_drop (pd_callG c_check_two bn_check_two_2 (hr.mono (by decide)) (takes_of rfl rfl rfl rfl) (pcd_v (pd_var 0) (pcd_v (pd_var 1) pcd_nil)) pkd_nil))
    (pssd_one (psd_ret (pd_callTy ctuple T.b_tuple PyProof.Rows.Boot.tuple (pad_cons (pd_lc [((Str.ofString "name"), 2)] sc_both.nd (pid_any (pd_var 0)) (blk_ok (by kernel_rfl)) (fun s H C cl fp => (pgd_name (i := 2) sc_both.nd rfl (by first | exact Or.inl rfl | exact Or.inr rfl))) (fun s H C cl fp => (ptsd_one (ptd_cmp (oin hu5) (pd_var 2) (pd_var 1)))) (fun s H C cl fp => (pd_var 2))) pad_nil)))))
theorem ok_turned_name (T : Txt P w K mg base 1 C_IntervalError C_InvalidInterval C_InvalidRelation) {f : Addr} {fd : FuncData} (F : FunD K (Str.ofString "turned_name") (Str.ofString "turned_name") (defArgs (topS 23)) (defBody (topS 23)) (defScope (topS 23)) (([] : List D).map D.flatV) [] f fd) (hm : mg (Str.ofString "turned_name") = some (.ref f))  : CalD P w K mg base (Str.ofString "turned_name") (defArgs (topS 23)) [] [(Str.ofString "name")] 1 den_turned_name := by
  refine calD_of F hm sc_turned_name fun cdv A outer s H E hr => ?_
  have hu := hr.units
  have hu5 := room5 hr
  exact (pssd_one (psd_ret (pd_ix (pd_glob T.g_NAMES) (pd_ix (pd_glob T.g_TURNED) (pd_idxT T.t_NAMES hu5 (pd_var 0))))))
theorem ok_converse_of (T : Txt P w K mg base 1 C_IntervalError C_InvalidInterval C_InvalidRelation) {f : Addr} {fd : FuncData} (F : FunD K (Str.ofString "converse_of") (Str.ofString "converse_of") (defArgs (topS 24)) (defBody (topS 24)) (defScope (topS 24)) (([] : List D).map D.flatV) [] f fd) (hm : mg (Str.ofString "converse_of") = some (.ref f)) (c_in_order : CalD P w K mg base (Str.ofString "in_order") (defArgs (topS 19)) [] [(Str.ofString "names")] 1 den_in_order) (c_turned_name : CalD P w K mg base (Str.ofString "turned_name") (defArgs (topS 23)) [] [(Str.ofString "name")] 1 den_turned_name) : CalD P w K mg base (Str.ofString "converse_of") (defArgs (topS 24)) [] [(Str.ofString "relation")] 2 den_converse_of := by
  refine calD_of F hm sc_converse_of fun cdv A outer s H E hr => ?_
  have hu := hr.units
  have hu5 := room5 hr
  exact (pssd_one (psd_ret (pd_callG c_in_order bn_in_order_1 (hr.mono (by decide)) (takes_of rfl rfl rfl rfl) (pcd_v (pd_lc [((Str.ofString "name"), 1)] sc_converse_of.nd (pid_any (pd_var 0)) (blk_ok (by kernel_rfl)) (fun s H C cl fp => (pgd_name (i := 1) sc_converse_of.nd rfl (by first | exact Or.inl rfl | exact Or.inr rfl))) (fun s H C cl fp => ptsd_nil) (fun s H C cl fp => (pd_callG c_turned_name bn_turned_name_1 (hr.mono (by decide)) takes_none5 (pcd_v (pd_var 1) pcd_nil) pkd_nil))) pcd_nil) pkd_nil)))
theorem ok_converse (T : Txt P w K mg base 1 C_IntervalError C_InvalidInterval C_InvalidRelation) {f : Addr} {fd : FuncData} (F : FunD K (Str.ofString "converse") (Str.ofString "converse") (defArgs (topS 25)) (defBody (topS 25)) (defScope (topS 25)) (([] : List D).map D.flatV) [] f fd) (hm : mg (Str.ofString "converse") = some (.ref f)) (c_check_relation : CalD P w K mg base (Str.ofString "check_relation") (defArgs (topS 22)) [] [(Str.ofString "relation")] 3 den_check_relation) (c_converse_of : CalD P w K mg base (Str.ofString "converse_of") (defArgs (topS 24)) [] [(Str.ofString "relation")] 2 den_converse_of) : CalD P w K mg base (Str.ofString "converse") (defArgs (topS 25)) [] [(Str.ofString "relation")] 4 den_converse := by
  refine calD_of F hm sc_converse fun cdv A outer s H E hr => ?_
  have hu := hr.units
  have hu5 := room5 hr
  exact (pssd_cons (psd_drop (pd_callG c_check_relation bn_check_relation_1 (hr.mono (by decide)) (takes_of rfl rfl rfl rfl) (pcd_v (pd_var 0) pcd_nil) pkd_nil))
    (pssd_one (psd_ret (pd_callG c_converse_of bn_converse_of_1 (hr.mono (by decide)) (takes_of rfl rfl rfl rfl) (pcd_v (pd_var 0) pcd_nil) pkd_nil))))
theorem ok_either (T : Txt P w K mg base 1 C_IntervalError C_InvalidInterval C_InvalidRelation) {f : Addr} {fd : FuncData} (F : FunD K (Str.ofString "either") (Str.ofString "either") (defArgs (topS 28)) (defBody (topS 28)) (defScope (topS 28)) (([] : List D).map D.flatV) [] f fd) (hm : mg (Str.ofString "either") = some (.ref f)) (c_check_two : CalD P w K mg base (Str.ofString "check_two") (defArgs (topS 27)) [] [(Str.ofString "one"), (Str.ofString "other")] 4 den_check_two) (c_in_order : CalD P w K mg base (Str.ofString "in_order") (defArgs (topS 19)) [] [(Str.ofString "names")] 1 den_in_order) : CalD P w K mg base (Str.ofString "either") (defArgs (topS 28)) [] [(Str.ofString "one"), (Str.ofString "other")] 5 den_either := by
  refine calD_of F hm sc_either fun cdv A outer s H E hr => ?_
  have hu := hr.units
  have hu5 := room5 hr
  exact (pssd_cons (psd_drop (pd_callG c_check_two bn_check_two_2 (hr.mono (by decide)) (takes_of rfl rfl rfl rfl) (pcd_v (pd_var 0) (pcd_v (pd_var 1) pcd_nil)) pkd_nil))
    (pssd_one (psd_ret (pd_callG c_in_order bn_in_order_1 (hr.mono (by decide)) (takes_of rfl rfl rfl rfl) (pcd_v (pd_op oadd (pd_var 0) (pd_var 1)) pcd_nil) pkd_nil))))
theorem ok_is_integer (T : Txt P w K mg base 1 C_IntervalError C_InvalidInterval C_InvalidRelation) {f : Addr} {fd : FuncData} (F : FunD K (Str.ofString "is_integer") (Str.ofString "is_integer") (defArgs (topS 4)) (defBody (topS 4)) (defScope (topS 4)) (([] : List D).map D.flatV) [] f fd) (hm : mg (Str.ofString "is_integer") = some (.ref f))  : CalD P w K mg base (Str.ofString "is_integer") (defArgs (topS 4)) [] [(Str.ofString "value")] 1 den_is_integer := by
  refine calD_of F hm sc_is_integer fun cdv A outer s H E hr => ?_
  have hu := hr.units
  have hu5 := room5 hr
  exact (pssd_one (psd_ret (pd_and (pd_isi1 .int (pd_var 0) T.b_isinstance T.b_int) (pd_one (pd_not (pd_isi1 .bool (pd_var 0) T.b_isinstance T.b_bool))))))
theorem ok_is_between (T : Txt P w K mg base 1 C_IntervalError C_InvalidInterval C_InvalidRelation) {f : Addr} {fd : FuncData} (F : FunD K (Str.ofString "is_between") (Str.ofString "is_between") (defArgs (topS 5)) (defBody (topS 5)) (defScope (topS 5)) (([] : List D).map D.flatV) [] f fd) (hm : mg (Str.ofString "is_between") = some (.ref f)) (c_is_integer : CalD P w K mg base (Str.ofString "is_integer") (defArgs (topS 4)) [] [(Str.ofString "value")] 1 den_is_integer) : CalD P w K mg base (Str.ofString "is_between") (defArgs (topS 5)) [] [(Str.ofString "value"), (Str.ofString "least"), (Str.ofString "most")] 2 den_is_between := by
  refine calD_of F hm sc_is_between fun cdv A outer s H E hr => ?_
  have hu := hr.units
  have hu5 := room5 hr
  exact (pssd_one (psd_ret (pd_and (pd_callG c_is_integer bn_is_integer_1 (hr.mono (by decide)) (takes_of rfl rfl rfl rfl) (pcd_v (pd_var 0) pcd_nil) pkd_nil) (pd_one (pd_chain (ole hu) (ole hu) (pd_var 1) (pd_var 0) (pd_var 2))))))
theorem ok_is_known (T : Txt P w K mg base 1 C_IntervalError C_InvalidInterval C_InvalidRelation) {f : Addr} {fd : FuncData} (F : FunD K (Str.ofString "is_known") (Str.ofString "is_known") (defArgs (topS 8)) (defBody (topS 8)) (defScope (topS 8)) (([(.int (-1000)), (.int 1000)] : List D).map D.flatV) [] f fd) (hm : mg (Str.ofString "is_known") = some (.ref f)) (c_is_between : CalD P w K mg base (Str.ofString "is_between") (defArgs (topS 5)) [] [(Str.ofString "value"), (Str.ofString "least"), (Str.ofString "most")] 2 den_is_between) : CalD P w K mg base (Str.ofString "is_known") (defArgs (topS 8)) [(.int (-1000)), (.int 1000)] [(Str.ofString "value"), (Str.ofString "least"), (Str.ofString "most")] 3 den_is_known := by
  refine calD_of F hm sc_is_known fun cdv A outer s H E hr => ?_
  have hu := hr.units
  have hu5 := room5 hr
  exact (pssd_cons (psd_if ((pwd_or (ptd_not (ptd_tru (pd_isi1 .tuple (pd_var 0) T.b_isinstance T.b_tuple))) (pwd_or (ptd_cmp (one_ hu) (pd_callB clen T.b_len PyProof.Rows.Boot.len (pad_cons (pd_var 0) pad_nil)) pd_int) (pwd_or1 (ptd_not (ptd_tru (pd_callG c_is_between bn_is_between_3 (hr.mono (by decide)) (takes_of rfl rfl rfl rfl) (pcd_v (pd_ix (pd_var 0) pd_int) (pcd_v (pd_var 1) (pcd_v (pd_var 2) pcd_nil))) pkd_nil))))))).pt (pssd_one (psd_ret pd_bl)) pssd_nil)
    (pssd_one (psd_ret (pd_callG c_is_between bn_is_between_3 (hr.mono (by decide)) (takes_of rfl rfl rfl rfl) (pcd_v (pd_ix (pd_var 0) pd_int) (pcd_v (pd_op oadd (pd_ix (pd_var 0) pd_int) pd_int) (pcd_v (pd_var 2) pcd_nil))) pkd_nil))))
theorem ok_check_interval (T : Txt P w K mg base 1 C_IntervalError C_InvalidInterval C_InvalidRelation) {f : Addr} {fd : FuncData} (F : FunD K (Str.ofString "check_interval") (Str.ofString "check_interval") (defArgs (topS 9)) (defBody (topS 9)) (defScope (topS 9)) (([(.int (-1000)), (.int 1000)] : List D).map D.flatV) [] f fd) (hm : mg (Str.ofString "check_interval") = some (.ref f)) (c_is_known : CalD P w K mg base (Str.ofString "is_known") (defArgs (topS 8)) [(.int (-1000)), (.int 1000)] [(Str.ofString "value"), (Str.ofString "least"), (Str.ofString "most")] 3 den_is_known) : CalD P w K mg base (Str.ofString "check_interval") (defArgs (topS 9)) [(.int (-1000)), (.int 1000)] [(Str.ofString "interval"), (Str.ofString "least"), (Str.ofString "most")] 4 den_check_interval := by
  refine calD_of F hm sc_check_interval fun cdv A outer s H E hr => ?_
  have hu := hr.units
  have hu5 := room5 hr
  exact (pssd_one (psd_if (ptd_not (ptd_tru (pd_callG c_is_known bn_is_known_3 (hr.mono (by decide)) (takes_of rfl rfl rfl rfl) (pcd_v (pd_var 0) (pcd_v (pd_var 1) (pcd_v (pd_var 2) pcd_nil))) pkd_nil))) (pssd_one (psd_raise T.x_InvalidInterval (hr.mono (by decide)) (takes_of rfl rfl rfl rfl) (pad_cons (pd_var 0) pad_nil))) pssd_nil))
theorem ok_place_in (T : Txt P w K mg base 1 C_IntervalError C_InvalidInterval C_InvalidRelation) {f : Addr} {fd : FuncData} (F : FunD K (Str.ofString "place_in") (Str.ofString "place_in") (defArgs (topS 16)) (defBody (topS 16)) (defScope (topS 16)) (([] : List D).map D.flatV) [] f fd) (hm : mg (Str.ofString "place_in") = some (.ref f))  : CalD P w K mg base (Str.ofString "place_in") (defArgs (topS 16)) [] [(Str.ofString "number"), (Str.ofString "interval")] 1 den_place_in := by
  refine calD_of F hm sc_place_in fun cdv A outer s H E hr => ?_
  have hu := hr.units
  have hu5 := room5 hr
  exact (pssd_cons (psd_tgt (pd_var 1) (pgd_tup (pgsd_cons (pgd_name (i := 2) sc_place_in.nd rfl (by first | exact Or.inl rfl | exact Or.inr rfl)) (pgsd_cons (pgd_name (i := 3) sc_place_in.nd rfl (by first | exact Or.inl rfl | exact Or.inr rfl)) pgsd_nil))))
    (pssd_cons (psd_if (ptd_cmp (olt hu) (pd_var 0) (pd_var 2)) (pssd_one (psd_ret pd_int)) pssd_nil)
    (pssd_cons (psd_if (ptd_cmp (oeq hu) (pd_var 0) (pd_var 2)) (pssd_one (psd_ret pd_int)) pssd_nil)
    (pssd_cons (psd_if (ptd_cmp (olt hu) (pd_var 0) (pd_var 3)) (pssd_one (psd_ret pd_int)) pssd_nil)
    (pssd_one (psd_ret (pd_if (ptd_cmp (oeq hu) (pd_var 0) (pd_var 3)) pd_int pd_int)))))))
theorem ok_name_of (T : Txt P w K mg base 1 C_IntervalError C_InvalidInterval C_InvalidRelation) {f : Addr} {fd : FuncData} (F : FunD K (Str.ofString "name_of") (Str.ofString "name_of") (defArgs (topS 17)) (defBody (topS 17)) (defScope (topS 17)) (([] : List D).map D.flatV) [] f fd) (hm : mg (Str.ofString "name_of") = some (.ref f)) (c_place_in : CalD P w K mg base (Str.ofString "place_in") (defArgs (topS 16)) [] [(Str.ofString "number"), (Str.ofString "interval")] 1 den_place_in) : CalD P w K mg base (Str.ofString "name_of") (defArgs (topS 17)) [] [(Str.ofString "one"), (Str.ofString "other")] 2 den_name_of := by
  refine calD_of F hm sc_name_of fun cdv A outer s H E hr => ?_
  have hu := hr.units
  have hu5 := room5 hr
  exact (pssd_one (psd_ret (pd_ix (pd_glob T.g_NAMES) (pd_idxT T.t_CODES hu5 (pd_tup (pad_cons (pd_callG c_place_in bn_place_in_2 (hr.mono (by decide)) (takes_of rfl rfl rfl rfl) (pcd_v (pd_ix (pd_var 0) pd_int) (pcd_v (pd_var 1) pcd_nil)) pkd_nil) (pad_cons (pd_callG c_place_in bn_place_in_2 (hr.mono (by decide)) (takes_of rfl rfl rfl rfl) (pcd_v (pd_ix (pd_var 0) pd_int) (pcd_v (pd_var 1) pcd_nil)) pkd_nil) pad_nil)))))))
theorem ok_relation_of (T : Txt P w K mg base 1 C_IntervalError C_InvalidInterval C_InvalidRelation) {f : Addr} {fd : FuncData} (F : FunD K (Str.ofString "relation_of") (Str.ofString "relation_of") (defArgs (topS 18)) (defBody (topS 18)) (defScope (topS 18)) (([] : List D).map D.flatV) [] f fd) (hm : mg (Str.ofString "relation_of") = some (.ref f)) (c_check_interval : CalD P w K mg base (Str.ofString "check_interval") (defArgs (topS 9)) [(.int (-1000)), (.int 1000)] [(Str.ofString "interval"), (Str.ofString "least"), (Str.ofString "most")] 4 den_check_interval) (c_name_of : CalD P w K mg base (Str.ofString "name_of") (defArgs (topS 17)) [] [(Str.ofString "one"), (Str.ofString "other")] 2 den_name_of) : CalD P w K mg base (Str.ofString "relation_of") (defArgs (topS 18)) [] [(Str.ofString "one"), (Str.ofString "other")] 5 den_relation_of := by
  refine calD_of F hm sc_relation_of fun cdv A outer s H E hr => ?_
  have hu := hr.units
  have hu5 := room5 hr
  exact (pssd_cons (psd_drop (pd_callG c_check_interval bn_check_interval_1 (hr.mono (by decide)) (takes_of rfl rfl rfl rfl) (pcd_v (pd_var 0) pcd_nil) pkd_nil))
    (pssd_cons (psd_drop (pd_callG c_check_interval bn_check_interval_1 (hr.mono (by decide)) (takes_of rfl rfl rfl rfl) (pcd_v (pd_var 1) pcd_nil) pkd_nil))
    (pssd_one (psd_ret (pd_callG c_name_of bn_name_of_2 (hr.mono (by decide)) (takes_of rfl rfl rfl rfl) (pcd_v (pd_var 0) (pcd_v (pd_var 1) pcd_nil)) pkd_nil)))))
theorem ok_rest (T : Txt P w K mg base 1 C_IntervalError C_InvalidInterval C_InvalidRelation) {f : Addr} {fd : FuncData} (F : FunD K (Str.ofString "rest") (Str.ofString "rest") (defArgs (topS 26)) (defBody (topS 26)) (defScope (topS 26)) (([] : List D).map D.flatV) [] f fd) (hm : mg (Str.ofString "rest") = some (.ref f)) (c_check_relation : CalD P w K mg base (Str.ofString "check_relation") (defArgs (topS 22)) [] [(Str.ofString "relation")] 3 den_check_relation) : CalD P w K mg base (Str.ofString "rest") (defArgs (topS 26)) [] [(Str.ofString "relation")] 4 den_rest := by
  refine calD_of F hm sc_rest fun cdv A outer s H E hr => ?_
  have hu := hr.units
  have hu5 := room5 hr
  exact (pssd_cons (psd_drop (pd_callG c_check_relation bn_check_relation_1 (hr.mono (by decide)) (takes_of rfl rfl rfl rfl) (pcd_v (pd_var 0) pcd_nil) pkd_nil))
    (pssd_one (psd_ret (pd_callTy ctuple T.b_tuple PyProof.Rows.Boot.tuple (pad_cons (pd_lc [((Str.ofString "name"), 1)] sc_rest.nd (pid_any (pd_glob T.g_NAMES)) (blk_ok (by kernel_rfl)) (fun s H C cl fp => (pgd_name (i := 1) sc_rest.nd rfl (by first | exact Or.inl rfl | exact Or.inr rfl))) (fun s H C cl fp => (ptsd_one (ptd_cmp (onotIn hu5) (pd_var 1) (pd_var 0)))) (fun s H C cl fp => (pd_var 1))) pad_nil)))))
theorem ok__law_said (T : Txt P w K mg base 1 C_IntervalError C_InvalidInterval C_InvalidRelation) {f : Addr} {fd : FuncData} (F : FunD K (Str.ofString "_law_said") (Str.ofString "_law_said") (defArgs (topS 42)) (defBody (topS 42)) (defScope (topS 42)) (([] : List D).map D.flatV) [] f fd) (hm : mg (Str.ofString "_law_said") = some (.ref f)) (c_both : CalD P w K mg base (Str.ofString "both") (defArgs (topS 29)) [] [(Str.ofString "one"), (Str.ofString "other")] 5 den_both) (c_converse : CalD P w K mg base (Str.ofString "converse") (defArgs (topS 25)) [] [(Str.ofString "relation")] 4 den_converse) (c_either : CalD P w K mg base (Str.ofString "either") (defArgs (topS 28)) [] [(Str.ofString "one"), (Str.ofString "other")] 5 den_either) (c_relation_of : CalD P w K mg base (Str.ofString "relation_of") (defArgs (topS 18)) [] [(Str.ofString "one"), (Str.ofString "other")] 5 den_relation_of) (c_rest : CalD P w K mg base (Str.ofString "rest") (defArgs (topS 26)) [] [(Str.ofString "relation")] 4 den_rest) : CalD P w K mg base (Str.ofString "_law_said") (defArgs (topS 42)) [] [(Str.ofString "which"), (Str.ofString "one"), (Str.ofString "other"), (Str.ofString "named")] 6 den__law_said := by
  refine calD_of F hm sc__law_said fun cdv A outer s H E hr => ?_
  have hu := hr.units
  have hu5 := room5 hr
  exact (pssd_one (psd_try (takes_of rfl rfl rfl rfl) (fun W pn xe tk hp => (pssd_cons (psd_if (ptd_cmp (oeq hu) (pd_var 0) pd_int) (pssd_one (psd_ret (pd_lst (pad_cons pd_str (pad_cons (pd_if (ptd_tru (pd_var 3)) (pd_callG0 c_relation_of bn_relation_of_0_other_one (hr.mono (by decide)) tk (pkd_v (pd_var 2) (pkd_v (pd_var 1) pkd_nil))) (pd_callG c_relation_of bn_relation_of_2 (hr.mono (by decide)) tk (pcd_v (pd_var 1) (pcd_v (pd_var 2) pcd_nil)) pkd_nil)) pad_nil))))) pssd_nil)
    (pssd_cons (psd_if (ptd_cmp (oeq hu) (pd_var 0) pd_int) (pssd_one (psd_ret (pd_lst (pad_cons pd_str (pad_cons (pd_if (ptd_tru (pd_var 3)) (pd_callG0 c_converse bn_converse_0_relation (hr.mono (by decide)) tk (pkd_v (pd_var 1) pkd_nil)) (pd_callG c_converse bn_converse_1 (hr.mono (by decide)) tk (pcd_v (pd_var 1) pcd_nil) pkd_nil)) pad_nil))))) pssd_nil)
    (pssd_cons (psd_if (ptd_cmp (oeq hu) (pd_var 0) pd_int) (pssd_one (psd_ret (pd_lst (pad_cons pd_str (pad_cons (pd_if (ptd_tru (pd_var 3)) (pd_callG0 c_rest bn_rest_0_relation (hr.mono (by decide)) tk (pkd_v (pd_var 1) pkd_nil)) (pd_callG c_rest bn_rest_1 (hr.mono (by decide)) tk (pcd_v (pd_var 1) pcd_nil) pkd_nil)) pad_nil))))) pssd_nil)
    (pssd_cons (psd_if (ptd_cmp (oeq hu) (pd_var 0) pd_int) (pssd_one (psd_ret (pd_lst (pad_cons pd_str (pad_cons (pd_if (ptd_tru (pd_var 3)) (pd_callG0 c_either bn_either_0_other_one (hr.mono (by decide)) tk (pkd_v (pd_var 2) (pkd_v (pd_var 1) pkd_nil))) (pd_callG c_either bn_either_2 (hr.mono (by decide)) tk (pcd_v (pd_var 1) (pcd_v (pd_var 2) pcd_nil)) pkd_nil)) pad_nil))))) pssd_nil)
    (pssd_one (psd_ret (pd_lst (pad_cons pd_str (pad_cons (pd_if (ptd_tru (pd_var 3)) (pd_callG0 c_both bn_both_0_other_one (hr.mono (by decide)) tk (pkd_v (pd_var 2) (pkd_v (pd_var 1) pkd_nil))) (pd_callG c_both bn_both_2 (hr.mono (by decide)) tk (pcd_v (pd_var 1) (pcd_v (pd_var 2) pcd_nil)) pkd_nil)) pad_nil)))))))))) (.as sc__law_said.nd rfl rfl ⟨rfl, by decide, .inl T.n_InvalidInterval⟩ T.m_InvalidInterval (fun a oe cls d pn hz hf => (pxe_lst (pxs_cons pxe_str (pxs_cons (pxe_fld T.f_InvalidInterval_given hz hf rfl (by first | exact Or.inl rfl | exact Or.inr (Or.inl rfl) | exact Or.inr (Or.inr rfl))) pxs_nil)))) (.as sc__law_said.nd rfl rfl ⟨rfl, by decide, .inl T.n_InvalidRelation⟩ T.m_InvalidRelation (fun a oe cls d pn hz hf => (pxe_lst (pxs_cons pxe_str (pxs_cons (pxe_fld T.f_InvalidRelation_given hz hf rfl (by first | exact Or.inl rfl | exact Or.inr (Or.inl rfl) | exact Or.inr (Or.inr rfl))) pxs_nil)))) (.no ⟨rfl, by decide, .inl T.n_IntervalError⟩ T.m_IntervalError (fun a oe cls d pn hz hf => (pssd_one (psd_ret (pd_lst (pad_cons pd_str (pad_cons pd_non pad_nil)))))) .nil)))))
theorem ok__law_same (T : Txt P w K mg base 1 C_IntervalError C_InvalidInterval C_InvalidRelation) {f : Addr} {fd : FuncData} (F : FunD K (Str.ofString "_law_same") (Str.ofString "_law_same") (defArgs (topS 34)) (defBody (topS 34)) (defScope (topS 34)) (([] : List D).map D.flatV) [] f fd) (hm : mg (Str.ofString "_law_same") = some (.ref f))  : ∀ n : Nat, CalD P w K mg base (Str.ofString "_law_same") (defArgs (topS 34)) [] [(Str.ofString "told"), (Str.ofString "due")] (n + 1) (den__law_same n)
  | 0 => calD_bad F hm sc__law_same (fun as => rfl)
  | n + 1 => by
    have c__law_same := ok__law_same T F hm  n
    refine calD_of F hm sc__law_same fun cdv A outer s H E hr => ?_
    have hu := hr.units
    have hu5 := room5 hr
    exact (pssd_cons (psd_if ((pwd_or (ptd_cmp ois (pd_var 1) pd_non) (pwd_or1 (ptd_tru (pd_isi1 .bool (pd_var 1) T.b_isinstance T.b_bool))))).pt (pssd_one (psd_ret (pd_if (ptd_cmp ois (pd_var 1) pd_non) (pd_cmp ois (pd_var 0) pd_non) (pd_and (pd_isi1 .bool (pd_var 0) T.b_isinstance T.b_bool) (pd_one (pd_cmp (oeq hu) (pd_cmp ois (pd_var 0) pd_bl) (pd_cmp ois (pd_var 1) pd_bl))))))) pssd_nil)
      (pssd_cons (psd_if (ptd_tru (pd_isi1 .int (pd_var 1) T.b_isinstance T.b_int)) (pssd_one (psd_ret (pd_and (pd_isi1 .int (pd_var 0) T.b_isinstance T.b_int) (pd_and (pd_not (pd_isi1 .bool (pd_var 0) T.b_isinstance T.b_bool)) (pd_one (pd_cmp (oeq hu) (pd_op osub (pd_callTy cint T.b_int PyProof.Rows.Boot.int (pad_cons (pd_var 0) pad_nil)) (pd_var 1)) pd_int)))))) pssd_nil)
      (pssd_cons (psd_if (ptd_tru (pd_isi1 .str (pd_var 1) T.b_isinstance T.b_str)) (pssd_one (psd_ret (pd_and (pd_isi1 .str (pd_var 0) T.b_isinstance T.b_str) (pd_and (pd_cmp (oeq hu) (pd_callB clen T.b_len PyProof.Rows.Boot.len (pad_cons (pd_var 0) pad_nil)) (pd_callB clen T.b_len PyProof.Rows.Boot.len (pad_cons (pd_var 1) pad_nil))) (pd_one (pd_cmp (oeq hu) (pd_lc [((Str.ofString "k"), 2)] sc__law_same.nd (pid_rng1 (pad_cons (pd_callB clen T.b_len PyProof.Rows.Boot.len (pad_cons (pd_var 1) pad_nil)) pad_nil) T.b_range) (blk_ok (by kernel_rfl)) (fun s H C cl fp => (pgd_name (i := 2) sc__law_same.nd rfl (by first | exact Or.inl rfl | exact Or.inr rfl))) (fun s H C cl fp => (ptsd_one (ptd_cmp (one_ hu) (pd_sl (pd_var 0) (pod_at (pd_var 2)) (pod_at (pd_op oadd (pd_var 2) pd_int))) (pd_ix (pd_var 1) (pd_var 2))))) (fun s H C cl fp => (pd_var 2))) (pd_lst pad_nil))))))) pssd_nil)
      (pssd_cons (psd_if (ptd_tru (pd_isi1 .dict (pd_var 1) T.b_isinstance T.b_dict)) (pssd_one (psd_ret (pd_and (pd_isi1 .dict (pd_var 0) T.b_isinstance T.b_dict) (pd_one (pd_callG c__law_same bn__law_same_2 (hr.mono (by omega)) (takes_of rfl rfl rfl rfl) (pcd_v (pd_items (pd_var 0) T.b_list) (pcd_v (pd_items (pd_var 1) T.b_list) pcd_nil)) pkd_nil))))) pssd_nil)
      (pssd_cons (psd_if ((pwd_or (ptd_cmp (one_ hu) (pd_isi1 .list (pd_var 0) T.b_isinstance T.b_list) (pd_isi1 .list (pd_var 1) T.b_isinstance T.b_list)) (pwd_or1 (ptd_cmp (one_ hu) (pd_isi1 .tuple (pd_var 0) T.b_isinstance T.b_tuple) (pd_isi1 .tuple (pd_var 1) T.b_isinstance T.b_tuple))))).pt (pssd_one (psd_ret pd_bl)) pssd_nil)
      (pssd_cons (psd_if ((pwd_or (ptd_not (ptd_tru (pd_isi2 .list .tuple (pd_var 0) T.b_isinstance T.b_list T.b_tuple))) (pwd_or1 (ptd_cmp (one_ hu) (pd_callB clen T.b_len PyProof.Rows.Boot.len (pad_cons (pd_var 0) pad_nil)) (pd_callB clen T.b_len PyProof.Rows.Boot.len (pad_cons (pd_var 1) pad_nil)))))).pt (pssd_one (psd_ret pd_bl)) pssd_nil)
      (pssd_one (psd_ret (pd_cmp (oeq hu) (pd_lc [((Str.ofString "k"), 2)] sc__law_same.nd (pid_rng1 (pad_cons (pd_callB clen T.b_len PyProof.Rows.Boot.len (pad_cons (pd_var 1) pad_nil)) pad_nil) T.b_range) (blk_ok (by kernel_rfl)) (fun s H C cl fp => (pgd_name (i := 2) sc__law_same.nd rfl (by first | exact Or.inl rfl | exact Or.inr rfl))) (fun s H C cl fp => (ptsd_one (ptd_not (ptd_tru (pd_callG c__law_same bn__law_same_2 (hr.mono (by omega)) takes_none5 (pcd_v (pd_ix (pd_var 0) (pd_var 2)) (pcd_v (pd_ix (pd_var 1) (pd_var 2)) pcd_nil)) pkd_nil))))) (fun s H C cl fp => (pd_var 2))) (pd_lst pad_nil))))))))))
theorem ok__law_names (T : Txt P w K mg base 1 C_IntervalError C_InvalidInterval C_InvalidRelation) {f : Addr} {fd : FuncData} (F : FunD K (Str.ofString "_law_names") (Str.ofString "_law_names") (defArgs (topS 35)) (defBody (topS 35)) (defScope (topS 35)) (([] : List D).map D.flatV) [] f fd) (hm : mg (Str.ofString "_law_names") = some (.ref f))  : CalD P w K mg base (Str.ofString "_law_names") (defArgs (topS 35)) [] [] 1 den__law_names := by
  refine calD_of F hm sc__law_names fun cdv A outer s H E hr => ?_
  have hu := hr.units
  have hu5 := room5 hr
  exact (pssd_one (psd_ret (pd_lst (pad_cons pd_str (pad_cons pd_str (pad_cons pd_str (pad_cons pd_str (pad_cons pd_str (pad_cons pd_str (pad_cons pd_str (pad_cons pd_str (pad_cons pd_str (pad_cons pd_str (pad_cons pd_str (pad_cons pd_str (pad_cons pd_str pad_nil))))))))))))))))
theorem ok__law_turn (T : Txt P w K mg base 1 C_IntervalError C_InvalidInterval C_InvalidRelation) {f : Addr} {fd : FuncData} (F : FunD K (Str.ofString "_law_turn") (Str.ofString "_law_turn") (defArgs (topS 38)) (defBody (topS 38)) (defScope (topS 38)) (([] : List D).map D.flatV) [] f fd) (hm : mg (Str.ofString "_law_turn") = some (.ref f)) (c__law_names : CalD P w K mg base (Str.ofString "_law_names") (defArgs (topS 35)) [] [] 1 den__law_names) : CalD P w K mg base (Str.ofString "_law_turn") (defArgs (topS 38)) [] [(Str.ofString "name")] 2 den__law_turn := by
  refine calD_of F hm sc__law_turn fun cdv A outer s H E hr => ?_
  have hu := hr.units
  have hu5 := room5 hr
  exact (pssd_cons (psd_asg 1 sc__law_turn.nd (pd_callG0 c__law_names bn__law_names_0 (hr.mono (by decide)) (takes_of rfl rfl rfl rfl) pkd_nil))
    (pssd_one (psd_ret (pd_ix (pd_var 1) (pd_op osub pd_int (pd_idx hu5 (pd_var 1) (pd_var 0)))))))
theorem ok__law_pairs_right (T : Txt P w K mg base 1 C_IntervalError C_InvalidInterval C_InvalidRelation) {f : Addr} {fd : FuncData} (F : FunD K (Str.ofString "_law_pairs_right") (Str.ofString "_law_pairs_right") (defArgs (topS 43)) (defBody (topS 43)) (defScope (topS 43)) (([] : List D).map D.flatV) [] f fd) (hm : mg (Str.ofString "_law_pairs_right") = some (.ref f)) (c__law_name : CalD P w K mg base (Str.ofString "_law_name") (defArgs (topS 36)) [] [(Str.ofString "one"), (Str.ofString "other")] 1 den__law_name) (c__law_pair : CalD P w K mg base (Str.ofString "_law_pair") (defArgs (topS 41)) [] [(Str.ofString "box")] 2 den__law_pair) (c__law_said : CalD P w K mg base (Str.ofString "_law_said") (defArgs (topS 42)) [] [(Str.ofString "which"), (Str.ofString "one"), (Str.ofString "other"), (Str.ofString "named")] 6 den__law_said) (c__law_same : CalD P w K mg base (Str.ofString "_law_same") (defArgs (topS 34)) [] [(Str.ofString "told"), (Str.ofString "due")] 9 (den__law_same 8)) (c__law_turn : CalD P w K mg base (Str.ofString "_law_turn") (defArgs (topS 38)) [] [(Str.ofString "name")] 2 den__law_turn) : CalD P w K mg base (Str.ofString "_law_pairs_right") (defArgs (topS 43)) [] [(Str.ofString "box"), (Str.ofString "named")] 10 den__law_pairs_right := by
  refine calD_of F hm sc__law_pairs_right fun cdv A outer s H E hr => ?_
  have hu := hr.units
  have hu5 := room5 hr
  exact (pssd_cons (psd_for (passes_of rfl) (pid_rng1 (pad_cons pd_int pad_nil) T.b_range) (pgd_name (i := 2) sc__law_pairs_right.nd rfl (by first | exact Or.inl rfl | exact Or.inr rfl)) (pssd_cons (psd_tgt (pd_callG c__law_pair bn__law_pair_1 (hr.mono (by decide)) (takes_of rfl rfl rfl rfl) (pcd_r 0 pcd_nil) pkd_nil) (pgd_tup (pgsd_cons (pgd_name (i := 6) sc__law_pairs_right.nd rfl (by first | exact Or.inl rfl | exact Or.inr rfl)) (pgsd_cons (pgd_name (i := 7) sc__law_pairs_right.nd rfl (by first | exact Or.inl rfl | exact Or.inr rfl)) pgsd_nil))))
    (pssd_cons (psd_asg 4 sc__law_pairs_right.nd (pd_callG c__law_name bn__law_name_2 (hr.mono (by decide)) (takes_of rfl rfl rfl rfl) (pcd_v (pd_var 6) (pcd_v (pd_var 7) pcd_nil)) pkd_nil))
    (pssd_one (psd_if (ptd_not (ptd_tru (pd_callG c__law_same bn__law_same_2 (hr.mono (by decide)) (takes_of rfl rfl rfl rfl) (pcd_v (pd_lst (pad_cons (pd_callG c__law_said bn__law_said_4 (hr.mono (by decide)) (takes_of rfl rfl rfl rfl) (pcd_v pd_int (pcd_v (pd_var 6) (pcd_v (pd_var 7) (pcd_v (pd_var 1) pcd_nil)))) pkd_nil) (pad_cons (pd_callG c__law_said bn__law_said_4 (hr.mono (by decide)) (takes_of rfl rfl rfl rfl) (pcd_v pd_int (pcd_v (pd_var 7) (pcd_v (pd_var 6) (pcd_v (pd_not (pd_var 1)) pcd_nil)))) pkd_nil) pad_nil))) (pcd_v (pd_lst (pad_cons (pd_lst (pad_cons pd_str (pad_cons (pd_var 4) pad_nil))) (pad_cons (pd_lst (pad_cons pd_str (pad_cons (pd_callG c__law_turn bn__law_turn_1 (hr.mono (by decide)) (takes_of rfl rfl rfl rfl) (pcd_v (pd_var 4) pcd_nil) pkd_nil) pad_nil))) pad_nil))) pcd_nil)) pkd_nil))) (pssd_one (psd_ret pd_bl)) pssd_nil)))))
    (pssd_cons (psd_for (passes_of rfl) (pid_rng2 (pad_cons pd_int (pad_cons pd_int pad_nil)) T.b_range) (pgd_name (i := 3) sc__law_pairs_right.nd rfl (by first | exact Or.inl rfl | exact Or.inr rfl)) (pssd_one (psd_for (passes_of rfl) (pid_rng2 (pad_cons (pd_op oadd (pd_var 3) pd_int) (pad_cons pd_int pad_nil)) T.b_range) (pgd_name (i := 5) sc__law_pairs_right.nd rfl (by first | exact Or.inl rfl | exact Or.inr rfl)) (pssd_one (psd_if (ptd_not (ptd_tru (pd_callG c__law_same bn__law_same_2 (hr.mono (by decide)) (takes_of rfl rfl rfl rfl) (pcd_v (pd_callG c__law_said bn__law_said_4 (hr.mono (by decide)) (takes_of rfl rfl rfl rfl) (pcd_v pd_int (pcd_v (pd_tup (pad_cons (pd_var 3) (pad_cons (pd_var 5) pad_nil))) (pcd_v (pd_tup (pad_cons pd_int (pad_cons pd_int pad_nil))) (pcd_v (pd_var 1) pcd_nil)))) pkd_nil) (pcd_v (pd_lst (pad_cons pd_str (pad_cons (pd_callG c__law_name bn__law_name_2 (hr.mono (by decide)) (takes_of rfl rfl rfl rfl) (pcd_v (pd_tup (pad_cons (pd_var 3) (pad_cons (pd_var 5) pad_nil))) (pcd_v (pd_tup (pad_cons pd_int (pad_cons pd_int pad_nil))) pcd_nil)) pkd_nil) pad_nil))) pcd_nil)) pkd_nil))) (pssd_one (psd_ret pd_bl)) pssd_nil)))))
    (pssd_one (psd_ret pd_bl))))
theorem ok__law_bad_relation (T : Txt P w K mg base 1 C_IntervalError C_InvalidInterval C_InvalidRelation) {f : Addr} {fd : FuncData} (F : FunD K (Str.ofString "_law_bad_relation") (Str.ofString "_law_bad_relation") (defArgs (topS 40)) (defBody (topS 40)) (defScope (topS 40)) (([] : List D).map D.flatV) [] f fd) (hm : mg (Str.ofString "_law_bad_relation") = some (.ref f)) (c__law_take : CalD P w K mg base (Str.ofString "_law_take") (defArgs (topS 33)) [] [(Str.ofString "box"), (Str.ofString "many")] 1 den__law_take) : CalD P w K mg base (Str.ofString "_law_bad_relation") (defArgs (topS 40)) [] [(Str.ofString "box")] 2 den__law_bad_relation := by
  refine calD_of F hm sc__law_bad_relation fun cdv A outer s H E hr => ?_
  have hu := hr.units
  have hu5 := room5 hr
  exact (pssd_one (psd_ret (pd_ix (pd_lst (pad_cons pd_non (pad_cons pd_int (pad_cons pd_str (pad_cons (pd_lst (pad_cons pd_str pad_nil)) (pad_cons (pd_tup (pad_cons pd_str (pad_cons pd_str pad_nil))) (pad_cons (pd_tup (pad_cons pd_str (pad_cons pd_str pad_nil))) (pad_cons (pd_tup (pad_cons pd_str pad_nil)) (pad_cons (pd_tup (pad_cons pd_int pad_nil)) (pad_cons (pd_tup (pad_cons pd_non pad_nil)) (pad_cons pd_dctSI (pad_cons (pd_tup (pad_cons pd_str (pad_cons pd_str (pad_cons pd_str pad_nil)))) (pad_cons (pd_tup (pad_cons (pd_tup (pad_cons pd_str pad_nil)) pad_nil)) pad_nil))))))))))))) (pd_callG c__law_take bn__law_take_2 (hr.mono (by decide)) (takes_of rfl rfl rfl rfl) (pcd_r 0 (pcd_v pd_int pcd_nil)) pkd_nil))))
theorem ok__law_relation (T : Txt P w K mg base 1 C_IntervalError C_InvalidInterval C_InvalidRelation) {f : Addr} {fd : FuncData} (F : FunD K (Str.ofString "_law_relation") (Str.ofString "_law_relation") (defArgs (topS 39)) (defBody (topS 39)) (defScope (topS 39)) (([] : List D).map D.flatV) [] f fd) (hm : mg (Str.ofString "_law_relation") = some (.ref f)) (c__law_names : CalD P w K mg base (Str.ofString "_law_names") (defArgs (topS 35)) [] [] 1 den__law_names) (c__law_take : CalD P w K mg base (Str.ofString "_law_take") (defArgs (topS 33)) [] [(Str.ofString "box"), (Str.ofString "many")] 1 den__law_take) : CalD P w K mg base (Str.ofString "_law_relation") (defArgs (topS 39)) [] [(Str.ofString "box")] 2 den__law_relation := by
  refine calD_of F hm sc__law_relation fun cdv A outer s H E hr => ?_
  have hu := hr.units
  have hu5 := room5 hr
  exact (pssd_cons (psd_par2 sc__law_relation.nd (pos_cons false (pd_callG0 c__law_names bn__law_names_0 (hr.mono (by decide)) (takes_of rfl rfl rfl rfl) pkd_nil) (pos_cons false (pd_callG c__law_take bn__law_take_2 (hr.mono (by decide)) (takes_of rfl rfl rfl rfl) (pcd_r 0 (pcd_v pd_int pcd_nil)) pkd_nil) pos_nil)))
    (pssd_cons (psd_if (ptd_cmp (oeq hu) (pd_var 3) pd_int) (pssd_one (psd_ret (pd_tup (pad_cons (pd_ix (pd_var 2) (pd_callG c__law_take bn__law_take_2 (hr.mono (by decide)) (takes_of rfl rfl rfl rfl) (pcd_r 0 (pcd_v pd_int pcd_nil)) pkd_nil)) pad_nil)))) pssd_nil)
    (pssd_cons (psd_if (ptd_cmp (oeq hu) (pd_var 3) pd_int) (pssd_cons (psd_asg 4 sc__law_relation.nd (pd_ix (pd_var 2) (pd_callG c__law_take bn__law_take_2 (hr.mono (by decide)) (takes_of rfl rfl rfl rfl) (pcd_r 0 (pcd_v pd_int pcd_nil)) pkd_nil)))
    (pssd_one (psd_ret (pd_callTy ctuple T.b_tuple PyProof.Rows.Boot.tuple (pad_cons (pd_lc [((Str.ofString "name"), 5)] sc__law_relation.nd (pid_any (pd_var 2)) (blk_ok (by kernel_rfl)) (fun s H C cl fp => (pgd_name (i := 5) sc__law_relation.nd rfl (by first | exact Or.inl rfl | exact Or.inr rfl))) (fun s H C cl fp => (ptsd_one (ptd_cmp (one_ hu) (pd_var 5) (pd_var 4)))) (fun s H C cl fp => (pd_var 5))) pad_nil))))) pssd_nil)
    (pssd_cons (psd_if (ptd_cmp (oeq hu) (pd_var 3) pd_int) (pssd_one (psd_ret (pd_ix (pd_lst (pad_cons (pd_tup pad_nil) (pad_cons (pd_callTy ctuple T.b_tuple PyProof.Rows.Boot.tuple (pad_cons (pd_var 2) pad_nil)) pad_nil))) (pd_callG c__law_take bn__law_take_2 (hr.mono (by decide)) (takes_of rfl rfl rfl rfl) (pcd_r 0 (pcd_v pd_int pcd_nil)) pkd_nil)))) pssd_nil)
    (pssd_cons (psd_asg 1 sc__law_relation.nd (pd_ix (pd_lst (pad_cons pd_int (pad_cons pd_int (pad_cons pd_int pad_nil)))) (pd_op osub (pd_var 3) pd_int)))
    (pssd_one (psd_ret (pd_callTy ctuple T.b_tuple PyProof.Rows.Boot.tuple (pad_cons (pd_lc [((Str.ofString "name"), 5)] sc__law_relation.nd (pid_any (pd_var 2)) (blk_ok (by kernel_rfl)) (fun s H C cl fp => (pgd_name (i := 5) sc__law_relation.nd rfl (by first | exact Or.inl rfl | exact Or.inr rfl))) (fun s H C cl fp => (ptsd_one (ptd_cmp (oeq hu) (pd_callG c__law_take bn__law_take_2 (hr.mono (by decide)) takes_none5 (pcd_r 0 (pcd_v (pd_var 1) pcd_nil)) pkd_nil) pd_int))) (fun s H C cl fp => (pd_var 5))) pad_nil)))))))))
theorem ok_is_relation (T : Txt P w K mg base 1 C_IntervalError C_InvalidInterval C_InvalidRelation) {f : Addr} {fd : FuncData} (F : FunD K (Str.ofString "is_relation") (Str.ofString "is_relation") (defArgs (topS 21)) (defBody (topS 21)) (defScope (topS 21)) (([] : List D).map D.flatV) [] f fd) (hm : mg (Str.ofString "is_relation") = some (.ref f)) (c_is_known_relation : CalD P w K mg base (Str.ofString "is_known_relation") (defArgs (topS 20)) [] [(Str.ofString "value")] 2 den_is_known_relation) : CalD P w K mg base (Str.ofString "is_relation") (defArgs (topS 21)) [] [(Str.ofString "value")] 3 den_is_relation := by
  refine calD_of F hm sc_is_relation fun cdv A outer s H E hr => ?_
  have hu := hr.units
  have hu5 := room5 hr
  exact (pssd_one (psd_ret (pd_callG c_is_known_relation bn_is_known_relation_1 (hr.mono (by decide)) (takes_of rfl rfl rfl rfl) (pcd_v (pd_var 0) pcd_nil) pkd_nil)))
theorem ok__law_refused (T : Txt P w K mg base 1 C_IntervalError C_InvalidInterval C_InvalidRelation) {f : Addr} {fd : FuncData} (F : FunD K (Str.ofString "_law_refused") (Str.ofString "_law_refused") (defArgs (topS 45)) (defBody (topS 45)) (defScope (topS 45)) (([] : List D).map D.flatV) [] f fd) (hm : mg (Str.ofString "_law_refused") = some (.ref f)) (c__law_bad_relation : CalD P w K mg base (Str.ofString "_law_bad_relation") (defArgs (topS 40)) [] [(Str.ofString "box")] 2 den__law_bad_relation) (c__law_relation : CalD P w K mg base (Str.ofString "_law_relation") (defArgs (topS 39)) [] [(Str.ofString "box")] 2 den__law_relation) (c__law_said : CalD P w K mg base (Str.ofString "_law_said") (defArgs (topS 42)) [] [(Str.ofString "which"), (Str.ofString "one"), (Str.ofString "other"), (Str.ofString "named")] 6 den__law_said) (c__law_same : CalD P w K mg base (Str.ofString "_law_same") (defArgs (topS 34)) [] [(Str.ofString "told"), (Str.ofString "due")] 9 (den__law_same 8)) (c__law_take : CalD P w K mg base (Str.ofString "_law_take") (defArgs (topS 33)) [] [(Str.ofString "box"), (Str.ofString "many")] 1 den__law_take) (c_is_relation : CalD P w K mg base (Str.ofString "is_relation") (defArgs (topS 21)) [] [(Str.ofString "value")] 3 den_is_relation) : CalD P w K mg base (Str.ofString "_law_refused") (defArgs (topS 45)) [] [(Str.ofString "box"), (Str.ofString "named")] 10 den__law_refused := by
  refine calD_of F hm sc__law_refused fun cdv A outer s H E hr => ?_
  have hu := hr.units
  have hu5 := room5 hr
  exact (pssd_cons (psd_asg 2 sc__law_refused.nd (pd_ix (pd_lst (pad_cons pd_non (pad_cons pd_int (pad_cons (pd_tup (pad_cons pd_int (pad_cons pd_int pad_nil))) (pad_cons (pd_tup (pad_cons pd_int (pad_cons pd_int pad_nil))) (pad_cons (pd_lst (pad_cons pd_int (pad_cons pd_int pad_nil))) (pad_cons (pd_tup (pad_cons pd_int (pad_cons pd_int pad_nil))) (pad_cons (pd_tup (pad_cons (pd_op osub pd_int pd_int) (pad_cons pd_int pad_nil))) (pad_cons (pd_tup (pad_cons pd_bl (pad_cons pd_int pad_nil))) (pad_cons (pd_tup (pad_cons pd_int (pad_cons pd_int (pad_cons pd_int pad_nil)))) (pad_cons pd_str (pad_cons pd_dctSI (pad_cons (pd_tup (pad_cons pd_str (pad_cons pd_str pad_nil))) pad_nil))))))))))))) (pd_callG c__law_take bn__law_take_2 (hr.mono (by decide)) (takes_of rfl rfl rfl rfl) (pcd_r 0 (pcd_v pd_int pcd_nil)) pkd_nil)))
    (pssd_cons (psd_if (ptd_not (ptd_tru (pd_callG c__law_same bn__law_same_2 (hr.mono (by decide)) (takes_of rfl rfl rfl rfl) (pcd_v (pd_lst (pad_cons (pd_callG c__law_said bn__law_said_4 (hr.mono (by decide)) (takes_of rfl rfl rfl rfl) (pcd_v pd_int (pcd_v (pd_var 2) (pcd_v (pd_var 2) (pcd_v (pd_var 1) pcd_nil)))) pkd_nil) (pad_cons (pd_callG c__law_said bn__law_said_4 (hr.mono (by decide)) (takes_of rfl rfl rfl rfl) (pcd_v pd_int (pcd_v (pd_tup (pad_cons pd_int (pad_cons pd_int pad_nil))) (pcd_v (pd_var 2) (pcd_v (pd_var 1) pcd_nil)))) pkd_nil) pad_nil))) (pcd_v (pd_op omul (pd_lst (pad_cons (pd_lst (pad_cons pd_str (pad_cons (pd_var 2) pad_nil))) pad_nil)) pd_int) pcd_nil)) pkd_nil))) (pssd_one (psd_ret pd_bl)) pssd_nil)
    (pssd_cons (psd_parT (pgn_cons sc__law_refused.nd (pgn_cons sc__law_refused.nd pgn_nil)) (pos_cons false (pd_callG c__law_bad_relation bn__law_bad_relation_1 (hr.mono (by decide)) (takes_of rfl rfl rfl rfl) (pcd_r 0 pcd_nil) pkd_nil) (pos_cons false (pd_callG c__law_relation bn__law_relation_1 (hr.mono (by decide)) (takes_of rfl rfl rfl rfl) (pcd_r 0 pcd_nil) pkd_nil) pos_nil)))
    (pssd_cons (psd_if (ptd_not (ptd_tru (pd_callG c__law_same bn__law_same_2 (hr.mono (by decide)) (takes_of rfl rfl rfl rfl) (pcd_v (pd_lst (pad_cons (pd_callG c_is_relation bn_is_relation_1 (hr.mono (by decide)) (takes_of rfl rfl rfl rfl) (pcd_v (pd_var 4) pcd_nil) pkd_nil) (pad_cons (pd_callG0 c_is_relation bn_is_relation_0_value (hr.mono (by decide)) (takes_of rfl rfl rfl rfl) (pkd_v (pd_var 4) pkd_nil)) pad_nil))) (pcd_v (pd_lst (pad_cons pd_bl (pad_cons pd_bl pad_nil))) pcd_nil)) pkd_nil))) (pssd_one (psd_ret pd_bl)) pssd_nil)
    (pssd_cons (psd_lc 3 [((Str.ofString "which"), 6)] sc__law_refused.nd (pid_rng2 (pad_cons pd_int (pad_cons pd_int pad_nil)) T.b_range) (blk_ok (by kernel_rfl)) (fun s H C cl fp => (pgd_name (i := 6) sc__law_refused.nd rfl (by first | exact Or.inl rfl | exact Or.inr rfl))) (fun s H C cl fp => ptsd_nil) (fun s H C cl fp => (pd_callG c__law_said bn__law_said_4 (hr.mono (by decide)) takes_none5 (pcd_v (pd_var 6) (pcd_v (pd_var 4) (pcd_v (pd_ix (pd_lst (pad_cons (pd_var 5) (pad_cons pd_non pad_nil))) (pd_callG c__law_take bn__law_take_2 (hr.mono (by decide)) takes_none5 (pcd_r 0 (pcd_v pd_int pcd_nil)) pkd_nil)) (pcd_v (pd_var 1) pcd_nil)))) pkd_nil)) (sw_true rfl rfl rfl rfl))
    (pssd_one (psd_ret (pd_callG c__law_same bn__law_same_2 (hr.mono (by decide)) (takes_of rfl rfl rfl rfl) (pcd_v (pd_op oadd (pd_var 3) (pd_lst (pad_cons (pd_callG c__law_said bn__law_said_4 (hr.mono (by decide)) (takes_of rfl rfl rfl rfl) (pcd_v pd_int (pcd_v (pd_var 5) (pcd_v (pd_var 4) (pcd_v (pd_var 1) pcd_nil)))) pkd_nil) (pad_cons (pd_callG c__law_said bn__law_said_4 (hr.mono (by decide)) (takes_of rfl rfl rfl rfl) (pcd_v pd_int (pcd_v (pd_var 5) (pcd_v (pd_var 4) (pcd_v (pd_var 1) pcd_nil)))) pkd_nil) pad_nil)))) (pcd_v (pd_op omul (pd_lst (pad_cons (pd_lst (pad_cons pd_str (pad_cons (pd_var 4) pad_nil))) pad_nil)) pd_int) pcd_nil)) pkd_nil))))))))
theorem ok__law_ordered (T : Txt P w K mg base 1 C_IntervalError C_InvalidInterval C_InvalidRelation) {f : Addr} {fd : FuncData} (F : FunD K (Str.ofString "_law_ordered") (Str.ofString "_law_ordered") (defArgs (topS 37)) (defBody (topS 37)) (defScope (topS 37)) (([] : List D).map D.flatV) [] f fd) (hm : mg (Str.ofString "_law_ordered") = some (.ref f)) (c__law_names : CalD P w K mg base (Str.ofString "_law_names") (defArgs (topS 35)) [] [] 1 den__law_names) : CalD P w K mg base (Str.ofString "_law_ordered") (defArgs (topS 37)) [] [(Str.ofString "names")] 2 den__law_ordered := by
  refine calD_of F hm sc__law_ordered fun cdv A outer s H E hr => ?_
  have hu := hr.units
  have hu5 := room5 hr
  exact (pssd_one (psd_ret (pd_callTy ctuple T.b_tuple PyProof.Rows.Boot.tuple (pad_cons (pd_lc [((Str.ofString "name"), 1)] sc__law_ordered.nd (pid_any (pd_callG0 c__law_names bn__law_names_0 (hr.mono (by decide)) (takes_of rfl rfl rfl rfl) pkd_nil)) (blk_ok (by kernel_rfl)) (fun s H C cl fp => (pgd_name (i := 1) sc__law_ordered.nd rfl (by first | exact Or.inl rfl | exact Or.inr rfl))) (fun s H C cl fp => (ptsd_one (ptd_cmp (oin hu5) (pd_var 1) (pd_var 0)))) (fun s H C cl fp => (pd_var 1))) pad_nil))))
theorem ok__law_relations_right (T : Txt P w K mg base 1 C_IntervalError C_InvalidInterval C_InvalidRelation) {f : Addr} {fd : FuncData} (F : FunD K (Str.ofString "_law_relations_right") (Str.ofString "_law_relations_right") (defArgs (topS 44)) (defBody (topS 44)) (defScope (topS 44)) (([] : List D).map D.flatV) [] f fd) (hm : mg (Str.ofString "_law_relations_right") = some (.ref f)) (c__law_names : CalD P w K mg base (Str.ofString "_law_names") (defArgs (topS 35)) [] [] 1 den__law_names) (c__law_ordered : CalD P w K mg base (Str.ofString "_law_ordered") (defArgs (topS 37)) [] [(Str.ofString "names")] 2 den__law_ordered) (c__law_relation : CalD P w K mg base (Str.ofString "_law_relation") (defArgs (topS 39)) [] [(Str.ofString "box")] 2 den__law_relation) (c__law_said : CalD P w K mg base (Str.ofString "_law_said") (defArgs (topS 42)) [] [(Str.ofString "which"), (Str.ofString "one"), (Str.ofString "other"), (Str.ofString "named")] 6 den__law_said) (c__law_same : CalD P w K mg base (Str.ofString "_law_same") (defArgs (topS 34)) [] [(Str.ofString "told"), (Str.ofString "due")] 9 (den__law_same 8)) (c__law_turn : CalD P w K mg base (Str.ofString "_law_turn") (defArgs (topS 38)) [] [(Str.ofString "name")] 2 den__law_turn) (c_converse : CalD P w K mg base (Str.ofString "converse") (defArgs (topS 25)) [] [(Str.ofString "relation")] 4 den_converse) (c_is_relation : CalD P w K mg base (Str.ofString "is_relation") (defArgs (topS 21)) [] [(Str.ofString "value")] 3 den_is_relation) (c_rest : CalD P w K mg base (Str.ofString "rest") (defArgs (topS 26)) [] [(Str.ofString "relation")] 4 den_rest) : CalD P w K mg base (Str.ofString "_law_relations_right") (defArgs (topS 44)) [] [(Str.ofString "box"), (Str.ofString "named")] 10 den__law_relations_right := by
  refine calD_of F hm sc__law_relations_right fun cdv A outer s H E hr => ?_
  have hu := hr.units
  have hu5 := room5 hr
  exact (pssd_cons (psd_asg 2 sc__law_relations_right.nd (pd_callG0 c__law_names bn__law_names_0 (hr.mono (by decide)) (takes_of rfl rfl rfl rfl) pkd_nil))
    (pssd_cons (psd_for (passes_of rfl) (pid_rng1 (pad_cons pd_int pad_nil) T.b_range) (pgd_name (i := 3) sc__law_relations_right.nd rfl (by first | exact Or.inl rfl | exact Or.inr rfl)) (pssd_cons (psd_parT (pgn_cons sc__law_relations_right.nd (pgn_cons sc__law_relations_right.nd pgn_nil)) (pos_cons false (pd_callG c__law_relation bn__law_relation_1 (hr.mono (by decide)) (takes_of rfl rfl rfl rfl) (pcd_r 0 pcd_nil) pkd_nil) (pos_cons false (pd_callG c__law_relation bn__law_relation_1 (hr.mono (by decide)) (takes_of rfl rfl rfl rfl) (pcd_r 0 pcd_nil) pkd_nil) pos_nil)))
    (pssd_cons (psd_asg 4 sc__law_relations_right.nd (pd_lst (pad_cons (pd_callG c__law_ordered bn__law_ordered_1 (hr.mono (by decide)) (takes_of rfl rfl rfl rfl) (pcd_v (pd_lc [((Str.ofString "name"), 9)] sc__law_relations_right.nd (pid_any (pd_var 6)) (blk_ok (by kernel_rfl)) (fun s H C cl fp => (pgd_name (i := 9) sc__law_relations_right.nd rfl (by first | exact Or.inl rfl | exact Or.inr rfl))) (fun s H C cl fp => ptsd_nil) (fun s H C cl fp => (pd_callG c__law_turn bn__law_turn_1 (hr.mono (by decide)) takes_none5 (pcd_v (pd_var 9) pcd_nil) pkd_nil))) pcd_nil) pkd_nil) (pad_cons (pd_callTy ctuple T.b_tuple PyProof.Rows.Boot.tuple (pad_cons (pd_lc [((Str.ofString "name"), 9)] sc__law_relations_right.nd (pid_any (pd_var 2)) (blk_ok (by kernel_rfl)) (fun s H C cl fp => (pgd_name (i := 9) sc__law_relations_right.nd rfl (by first | exact Or.inl rfl | exact Or.inr rfl))) (fun s H C cl fp => (ptsd_one (ptd_cmp (onotIn hu5) (pd_var 9) (pd_var 6)))) (fun s H C cl fp => (pd_var 9))) pad_nil)) pad_nil))))
    (pssd_cons (psd_asg 4 sc__law_relations_right.nd (pd_op oadd (pd_var 4) (pd_lst (pad_cons (pd_callTy ctuple T.b_tuple PyProof.Rows.Boot.tuple (pad_cons (pd_lc [((Str.ofString "name"), 9)] sc__law_relations_right.nd (pid_any (pd_var 2)) (blk_ok (by kernel_rfl)) (fun s H C cl fp => (pgd_name (i := 9) sc__law_relations_right.nd rfl (by first | exact Or.inl rfl | exact Or.inr rfl))) (fun s H C cl fp => (ptsd_one ((pwd_or (ptd_cmp (oin hu5) (pd_var 9) (pd_var 6)) (pwd_or1 (ptd_cmp (oin hu5) (pd_var 9) (pd_var 7))))).pt)) (fun s H C cl fp => (pd_var 9))) pad_nil)) (pad_cons (pd_callTy ctuple T.b_tuple PyProof.Rows.Boot.tuple (pad_cons (pd_lc [((Str.ofString "name"), 9)] sc__law_relations_right.nd (pid_any (pd_var 2)) (blk_ok (by kernel_rfl)) (fun s H C cl fp => (pgd_name (i := 9) sc__law_relations_right.nd rfl (by first | exact Or.inl rfl | exact Or.inr rfl))) (fun s H C cl fp => (ptsd_one ((pwd_and (ptd_cmp (oin hu5) (pd_var 9) (pd_var 6)) (pwd_and1 (ptd_cmp (oin hu5) (pd_var 9) (pd_var 7))))).pt)) (fun s H C cl fp => (pd_var 9))) pad_nil)) pad_nil)))))
    (pssd_cons (psd_lc 5 [((Str.ofString "which"), 8)] sc__law_relations_right.nd (pid_rng2 (pad_cons pd_int (pad_cons pd_int pad_nil)) T.b_range) (blk_ok (by kernel_rfl)) (fun s H C cl fp => (pgd_name (i := 8) sc__law_relations_right.nd rfl (by first | exact Or.inl rfl | exact Or.inr rfl))) (fun s H C cl fp => ptsd_nil) (fun s H C cl fp => (pd_callG c__law_said bn__law_said_4 (hr.mono (by decide)) takes_none5 (pcd_v (pd_var 8) (pcd_v (pd_var 6) (pcd_v (pd_var 7) (pcd_v (pd_var 1) pcd_nil)))) pkd_nil)) (sw_true rfl rfl rfl rfl))
    (pssd_cons (psd_if (ptd_not (ptd_tru (pd_callG c__law_same bn__law_same_2 (hr.mono (by decide)) (takes_of rfl rfl rfl rfl) (pcd_v (pd_var 5) (pcd_v (pd_lc [((Str.ofString "due"), 10)] sc__law_relations_right.nd (pid_any (pd_var 4)) (blk_ok (by kernel_rfl)) (fun s H C cl fp => (pgd_name (i := 10) sc__law_relations_right.nd rfl (by first | exact Or.inl rfl | exact Or.inr rfl))) (fun s H C cl fp => ptsd_nil) (fun s H C cl fp => (pd_lst (pad_cons pd_str (pad_cons (pd_var 10) pad_nil))))) pcd_nil)) pkd_nil))) (pssd_one (psd_ret pd_bl)) pssd_nil)
    (pssd_cons (psd_lc 5 [((Str.ofString "which"), 8)] sc__law_relations_right.nd (pid_rng2 (pad_cons pd_int (pad_cons pd_int pad_nil)) T.b_range) (blk_ok (by kernel_rfl)) (fun s H C cl fp => (pgd_name (i := 8) sc__law_relations_right.nd rfl (by first | exact Or.inl rfl | exact Or.inr rfl))) (fun s H C cl fp => ptsd_nil) (fun s H C cl fp => (pd_callG c__law_said bn__law_said_4 (hr.mono (by decide)) takes_none5 (pcd_v (pd_var 8) (pcd_v (pd_var 6) (pcd_v (pd_var 7) (pcd_v (pd_not (pd_var 1)) pcd_nil)))) pkd_nil)) (sw_true rfl rfl rfl rfl))
    (pssd_cons (psd_if (ptd_not (ptd_tru (pd_callG c__law_same bn__law_same_2 (hr.mono (by decide)) (takes_of rfl rfl rfl rfl) (pcd_v (pd_var 5) (pcd_v (pd_lc [((Str.ofString "due"), 10)] sc__law_relations_right.nd (pid_any (pd_var 4)) (blk_ok (by kernel_rfl)) (fun s H C cl fp => (pgd_name (i := 10) sc__law_relations_right.nd rfl (by first | exact Or.inl rfl | exact Or.inr rfl))) (fun s H C cl fp => ptsd_nil) (fun s H C cl fp => (pd_lst (pad_cons pd_str (pad_cons (pd_var 10) pad_nil))))) pcd_nil)) pkd_nil))) (pssd_one (psd_ret pd_bl)) pssd_nil)
    (pssd_one (psd_if (ptd_not (ptd_tru (pd_callG c__law_same bn__law_same_2 (hr.mono (by decide)) (takes_of rfl rfl rfl rfl) (pcd_v (pd_lst (pad_cons (pd_callG c_converse bn_converse_1 (hr.mono (by decide)) (takes_of rfl rfl rfl rfl) (pcd_v (pd_ix (pd_var 4) pd_int) pcd_nil) pkd_nil) (pad_cons (pd_callG c_rest bn_rest_1 (hr.mono (by decide)) (takes_of rfl rfl rfl rfl) (pcd_v (pd_ix (pd_var 4) pd_int) pcd_nil) pkd_nil) (pad_cons (pd_callG c_is_relation bn_is_relation_1 (hr.mono (by decide)) (takes_of rfl rfl rfl rfl) (pcd_v (pd_var 6) pcd_nil) pkd_nil) (pad_cons (pd_callG0 c_is_relation bn_is_relation_0_value (hr.mono (by decide)) (takes_of rfl rfl rfl rfl) (pkd_v (pd_ix (pd_var 4) pd_int) pkd_nil)) pad_nil))))) (pcd_v (pd_lst (pad_cons (pd_var 6) (pad_cons (pd_var 6) (pad_cons pd_bl (pad_cons pd_bl pad_nil))))) pcd_nil)) pkd_nil))) (pssd_one (psd_ret pd_bl)) pssd_nil))))))))))
    (pssd_one (psd_ret pd_bl))))
theorem ok_law (T : Txt P w K mg base 1 C_IntervalError C_InvalidInterval C_InvalidRelation) {f : Addr} {fd : FuncData} (F : FunD K (Str.ofString "law") (Str.ofString "law") (defArgs (topS 46)) (defBody (topS 46)) (defScope (topS 46)) (([] : List D).map D.flatV) [] f fd) (hm : mg (Str.ofString "law") = some (.ref f)) (c__law_box : CalD P w K mg base (Str.ofString "_law_box") (defArgs (topS 32)) [] [(Str.ofString "great")] 1 den__law_box) (c__law_cell : CalD P w K mg base (Str.ofString "_law_cell") (defArgs (topS 31)) [] [(Str.ofString "script"), (Str.ofString "k")] 1 den__law_cell) (c__law_pairs_right : CalD P w K mg base (Str.ofString "_law_pairs_right") (defArgs (topS 43)) [] [(Str.ofString "box"), (Str.ofString "named")] 10 den__law_pairs_right) (c__law_refused : CalD P w K mg base (Str.ofString "_law_refused") (defArgs (topS 45)) [] [(Str.ofString "box"), (Str.ofString "named")] 10 den__law_refused) (c__law_relations_right : CalD P w K mg base (Str.ofString "_law_relations_right") (defArgs (topS 44)) [] [(Str.ofString "box"), (Str.ofString "named")] 10 den__law_relations_right) (c__law_take : CalD P w K mg base (Str.ofString "_law_take") (defArgs (topS 33)) [] [(Str.ofString "box"), (Str.ofString "many")] 1 den__law_take) : CalD P w K mg base (Str.ofString "law") (defArgs (topS 46)) [] [(Str.ofString "script")] 11 den_law := by
  refine calD_of F hm sc_law fun cdv A outer s H E hr => ?_
  have hu := hr.units
  have hu5 := room5 hr
  exact (pssd_cons (psd_for (passes_of rfl) (pid_rng1 (pad_cons (pd_callB (cmax2 rfl) T.b_max PyProof.Rows.Boot.max (pad_cons pd_int (pad_cons (pd_callB (cmin2 rfl) T.b_min PyProof.Rows.Boot.min (pad_cons pd_int (pad_cons (pd_callB clen T.b_len PyProof.Rows.Boot.len (pad_cons (pd_var 0) pad_nil)) pad_nil))) pad_nil))) pad_nil) T.b_range) (pgd_name (i := 1) sc_law.nd rfl (by first | exact Or.inl rfl | exact Or.inr rfl)) (pssd_cons (psd_asgO 2 sc_law.nd (pd_callG c__law_box bn__law_box_1 (hr.mono (by decide)) (takes_of rfl rfl rfl rfl) (pcd_v (pd_callG c__law_cell bn__law_cell_2 (hr.mono (by decide)) (takes_of rfl rfl rfl rfl) (pcd_v (pd_var 0) (pcd_v (pd_var 1) pcd_nil)) pkd_nil) pcd_nil) pkd_nil))
    (pssd_cons (psd_asg 3 sc_law.nd (pd_cmp (oeq hu) (pd_callG c__law_take bn__law_take_2 (hr.mono (by decide)) (takes_of rfl rfl rfl rfl) (pcd_r 2 (pcd_v pd_int pcd_nil)) pkd_nil) pd_int))
    (pssd_one (psd_if ((pwd_or (ptd_not (ptd_tru (pd_callG c__law_pairs_right bn__law_pairs_right_2 (hr.mono (by decide)) (takes_of rfl rfl rfl rfl) (pcd_r 2 (pcd_v (pd_var 3) pcd_nil)) pkd_nil))) (pwd_or (ptd_not (ptd_tru (pd_callG c__law_relations_right bn__law_relations_right_2 (hr.mono (by decide)) (takes_of rfl rfl rfl rfl) (pcd_r 2 (pcd_v (pd_not (pd_var 3)) pcd_nil)) pkd_nil))) (pwd_or (ptd_not (ptd_tru (pd_callG c__law_refused bn__law_refused_2 (hr.mono (by decide)) (takes_of rfl rfl rfl rfl) (pcd_r 2 (pcd_v (pd_var 3) pcd_nil)) pkd_nil))) (pwd_or1 (ptd_not (ptd_tru (pd_callG c__law_refused bn__law_refused_2 (hr.mono (by decide)) (takes_of rfl rfl rfl rfl) (pcd_r 2 (pcd_v (pd_not (pd_var 3)) pcd_nil)) pkd_nil)))))))).pt (pssd_one (psd_ret pd_bl)) pssd_nil)))))
    (pssd_one (psd_ret pd_bl)))
end
theorem sI_InvalidInterval : FnScope [(Str.ofString "self"), (Str.ofString "given")] [(Str.ofString "self"), (Str.ofString "given")] (defScope (initS 2)) := ⟨rfl, rfl, rfl, by decide +kernel, rfl, by decide +kernel, by decide +kernel⟩
theorem sI_InvalidRelation : FnScope [(Str.ofString "self"), (Str.ofString "given")] [(Str.ofString "self"), (Str.ofString "given")] (defScope (initS 11)) := ⟨rfl, rfl, rfl, by decide +kernel, rfl, by decide +kernel, by decide +kernel⟩
set_option maxHeartbeats 0 in
theorem all_mk {P : Program} {w : World} {K : PySem.W.Frag} {h : Heap} {mg : Str → Option Value} {fa : Addr} (X : K.In h) (G : h.Ns mainGlobals mg) (hfa : mg "law" = some (.ref fa))
    {f__law_box : Addr} {oc__law_box kV__law_box dc__law_box pm__law_box cd__law_box ct__law_box : Value} {od__law_box an__law_box : Option Addr} {sl__law_box : Array (Option Value)} {f__law_cell : Addr} {oc__law_cell kV__law_cell dc__law_cell pm__law_cell cd__law_cell ct__law_cell : Value} {od__law_cell an__law_cell : Option Addr} {sl__law_cell : Array (Option Value)} {f__law_name : Addr} {oc__law_name kV__law_name dc__law_name pm__law_name cd__law_name ct__law_name : Value} {od__law_name an__law_name : Option Addr} {sl__law_name : Array (Option Value)} {f__law_take : Addr} {oc__law_take kV__law_take dc__law_take pm__law_take cd__law_take ct__law_take : Value} {od__law_take an__law_take : Option Addr} {sl__law_take : Array (Option Value)} {f__law_pair : Addr} {oc__law_pair kV__law_pair dc__law_pair pm__law_pair cd__law_pair ct__law_pair : Value} {od__law_pair an__law_pair : Option Addr} {sl__law_pair : Array (Option Value)} {f_in_order : Addr} {oc_in_order kV_in_order dc_in_order pm_in_order cd_in_order ct_in_order : Value} {od_in_order an_in_order : Option Addr} {sl_in_order : Array (Option Value)} {f_is_known_relation : Addr} {oc_is_known_relation kV_is_known_relation dc_is_known_relation pm_is_known_relation cd_is_known_relation ct_is_known_relation : Value} {od_is_known_relation an_is_known_relation : Option Addr} {sl_is_known_relation : Array (Option Value)} {f_check_relation : Addr} {oc_check_relation kV_check_relation dc_check_relation pm_check_relation cd_check_relation ct_check_relation : Value} {od_check_relation an_check_relation : Option Addr} {sl_check_relation : Array (Option Value)} {f_check_two : Addr} {oc_check_two kV_check_two dc_check_two pm_check_two cd_check_two ct_check_two : Value} {od_check_two an_check_two : Option Addr} {sl_check_two : Array (Option Value)} {f_both : Addr} {oc_both kV_both dc_both pm_both cd_both ct_both : Value} {od_both an_both : Option Addr} {sl_both : Array (Option Value)} {f_turned_name : Addr} {oc_turned_name kV_turned_name dc_turned_name pm_turned_name cd_turned_name ct_turned_name : Value} {od_turned_name an_turned_name : Option Addr} {sl_turned_name : Array (Option Value)} {f_converse_of : Addr} {oc_converse_of kV_converse_of dc_converse_of pm_converse_of cd_converse_of ct_converse_of : Value} {od_converse_of an_converse_of : Option Addr} {sl_converse_of : Array (Option Value)} {f_converse : Addr} {oc_converse kV_converse dc_converse pm_converse cd_converse ct_converse : Value} {od_converse an_converse : Option Addr} {sl_converse : Array (Option Value)} {f_either : Addr} {oc_either kV_either dc_either pm_either cd_either ct_either : Value} {od_either an_either : Option Addr} {sl_either : Array (Option Value)} {f_is_integer : Addr} {oc_is_integer kV_is_integer dc_is_integer pm_is_integer cd_is_integer ct_is_integer : Value} {od_is_integer an_is_integer : Option Addr} {sl_is_integer : Array (Option Value)} {f_is_between : Addr} {oc_is_between kV_is_between dc_is_between pm_is_between cd_is_between ct_is_between : Value} {od_is_between an_is_between : Option Addr} {sl_is_between : Array (Option Value)} {f_is_known : Addr} {oc_is_known kV_is_known dc_is_known pm_is_known cd_is_known ct_is_known : Value} {od_is_known an_is_known : Option Addr} {sl_is_known : Array (Option Value)} {T_is_known : Addr} {tc_is_known : Value} {td_is_known : Option Addr} {tsl_is_known : Array (Option Value)} {its_is_known : Array Value} {tn_is_known : Nat} {f_check_interval : Addr} {oc_check_interval kV_check_interval dc_check_interval pm_check_interval cd_check_interval ct_check_interval : Value} {od_check_interval an_check_interval : Option Addr} {sl_check_interval : Array (Option Value)} {T_check_interval : Addr} {tc_check_interval : Value} {td_check_interval : Option Addr} {tsl_check_interval : Array (Option Value)} {its_check_interval : Array Value} {tn_check_interval : Nat} {f_place_in : Addr} {oc_place_in kV_place_in dc_place_in pm_place_in cd_place_in ct_place_in : Value} {od_place_in an_place_in : Option Addr} {sl_place_in : Array (Option Value)} {f_name_of : Addr} {oc_name_of kV_name_of dc_name_of pm_name_of cd_name_of ct_name_of : Value} {od_name_of an_name_of : Option Addr} {sl_name_of : Array (Option Value)} {f_relation_of : Addr} {oc_relation_of kV_relation_of dc_relation_of pm_relation_of cd_relation_of ct_relation_of : Value} {od_relation_of an_relation_of : Option Addr} {sl_relation_of : Array (Option Value)} {f_rest : Addr} {oc_rest kV_rest dc_rest pm_rest cd_rest ct_rest : Value} {od_rest an_rest : Option Addr} {sl_rest : Array (Option Value)} {f__law_said : Addr} {oc__law_said kV__law_said dc__law_said pm__law_said cd__law_said ct__law_said : Value} {od__law_said an__law_said : Option Addr} {sl__law_said : Array (Option Value)} {f__law_same : Addr} {oc__law_same kV__law_same dc__law_same pm__law_same cd__law_same ct__law_same : Value} {od__law_same an__law_same : Option Addr} {sl__law_same : Array (Option Value)} {f__law_names : Addr} {oc__law_names kV__law_names dc__law_names pm__law_names cd__law_names ct__law_names : Value} {od__law_names an__law_names : Option Addr} {sl__law_names : Array (Option Value)} {f__law_turn : Addr} {oc__law_turn kV__law_turn dc__law_turn pm__law_turn cd__law_turn ct__law_turn : Value} {od__law_turn an__law_turn : Option Addr} {sl__law_turn : Array (Option Value)} {f__law_pairs_right : Addr} {oc__law_pairs_right kV__law_pairs_right dc__law_pairs_right pm__law_pairs_right cd__law_pairs_right ct__law_pairs_right : Value} {od__law_pairs_right an__law_pairs_right : Option Addr} {sl__law_pairs_right : Array (Option Value)} {f__law_bad_relation : Addr} {oc__law_bad_relation kV__law_bad_relation dc__law_bad_relation pm__law_bad_relation cd__law_bad_relation ct__law_bad_relation : Value} {od__law_bad_relation an__law_bad_relation : Option Addr} {sl__law_bad_relation : Array (Option Value)} {f__law_relation : Addr} {oc__law_relation kV__law_relation dc__law_relation pm__law_relation cd__law_relation ct__law_relation : Value} {od__law_relation an__law_relation : Option Addr} {sl__law_relation : Array (Option Value)} {f_is_relation : Addr} {oc_is_relation kV_is_relation dc_is_relation pm_is_relation cd_is_relation ct_is_relation : Value} {od_is_relation an_is_relation : Option Addr} {sl_is_relation : Array (Option Value)} {f__law_refused : Addr} {oc__law_refused kV__law_refused dc__law_refused pm__law_refused cd__law_refused ct__law_refused : Value} {od__law_refused an__law_refused : Option Addr} {sl__law_refused : Array (Option Value)} {f__law_ordered : Addr} {oc__law_ordered kV__law_ordered dc__law_ordered pm__law_ordered cd__law_ordered ct__law_ordered : Value} {od__law_ordered an__law_ordered : Option Addr} {sl__law_ordered : Array (Option Value)} {f__law_relations_right : Addr} {oc__law_relations_right kV__law_relations_right dc__law_relations_right pm__law_relations_right cd__law_relations_right ct__law_relations_right : Value} {od__law_relations_right an__law_relations_right : Option Addr} {sl__law_relations_right : Array (Option Value)} {f_law : Addr} {oc_law kV_law dc_law pm_law cd_law ct_law : Value} {od_law an_law : Option Addr} {sl_law : Array (Option Value)} {T_CODES : Addr} {its_CODES : Array Value} {tn_CODES : Nat} {tsl_CODES : Array (Option Value)} {T_NAMES : Addr} {its_NAMES : Array Value} {tn_NAMES : Nat} {tsl_NAMES : Array (Option Value)} {u_TURNED : Value} {N_InvalidInterval : Addr} {nm_InvalidInterval q_InvalidInterval : Str} {bs_InvalidInterval bm_InvalidInterval sub_InvalidInterval : List Value} {sn_InvalidInterval : List Str} {ab_InvalidInterval : Bool} {col_InvalidInterval : Option Bool} {dd_InvalidInterval : Option Addr} {m0_InvalidInterval m1_InvalidInterval m2_InvalidInterval m3_InvalidInterval m5_InvalidInterval : Option Value} {f_IInvalidInterval : Addr} {oc_IInvalidInterval kV_IInvalidInterval dc_IInvalidInterval pm_IInvalidInterval cd_IInvalidInterval ct_IInvalidInterval : Value} {od_IInvalidInterval an_IInvalidInterval : Option Addr} {sl_IInvalidInterval : Array (Option Value)} {N_InvalidRelation : Addr} {nm_InvalidRelation q_InvalidRelation : Str} {bs_InvalidRelation bm_InvalidRelation sub_InvalidRelation : List Value} {sn_InvalidRelation : List Str} {ab_InvalidRelation : Bool} {col_InvalidRelation : Option Bool} {dd_InvalidRelation : Option Addr} {m0_InvalidRelation m1_InvalidRelation m2_InvalidRelation m3_InvalidRelation m5_InvalidRelation : Option Value} {f_IInvalidRelation : Addr} {oc_IInvalidRelation kV_IInvalidRelation dc_IInvalidRelation pm_IInvalidRelation cd_IInvalidRelation ct_IInvalidRelation : Value} {od_IInvalidRelation an_IInvalidRelation : Option Addr} {sl_IInvalidRelation : Array (Option Value)} {C_IntervalError C_InvalidInterval C_InvalidRelation : Addr}
    (a__law_box : PySem.W.nsIn K mainGlobals (Str.ofString "_law_box") = some (some (.ref f__law_box)))
    (l__law_box : K.lookup f__law_box = some ⟨oc__law_box, od__law_box, .func (PySem.W.fnOf (Str.ofString "_law_box") (Str.ofString "_law_box") (defArgs (topS 32)) (defBody (topS 32)) (defScope (topS 32)) .none kV__law_box dc__law_box pm__law_box an__law_box cd__law_box ct__law_box), sl__law_box⟩)
    (c__law_box : PySem.W.codeIn K cd__law_box (Str.ofString "_law_box") = true)
    (k__law_box : PySem.W.keepIn K (.ref f__law_box) = true)
    (a__law_cell : PySem.W.nsIn K mainGlobals (Str.ofString "_law_cell") = some (some (.ref f__law_cell)))
    (l__law_cell : K.lookup f__law_cell = some ⟨oc__law_cell, od__law_cell, .func (PySem.W.fnOf (Str.ofString "_law_cell") (Str.ofString "_law_cell") (defArgs (topS 31)) (defBody (topS 31)) (defScope (topS 31)) .none kV__law_cell dc__law_cell pm__law_cell an__law_cell cd__law_cell ct__law_cell), sl__law_cell⟩)
    (c__law_cell : PySem.W.codeIn K cd__law_cell (Str.ofString "_law_cell") = true)
    (k__law_cell : PySem.W.keepIn K (.ref f__law_cell) = true)
    (a__law_name : PySem.W.nsIn K mainGlobals (Str.ofString "_law_name") = some (some (.ref f__law_name)))
    (l__law_name : K.lookup f__law_name = some ⟨oc__law_name, od__law_name, .func (PySem.W.fnOf (Str.ofString "_law_name") (Str.ofString "_law_name") (defArgs (topS 36)) (defBody (topS 36)) (defScope (topS 36)) .none kV__law_name dc__law_name pm__law_name an__law_name cd__law_name ct__law_name), sl__law_name⟩)
    (c__law_name : PySem.W.codeIn K cd__law_name (Str.ofString "_law_name") = true)
    (k__law_name : PySem.W.keepIn K (.ref f__law_name) = true)
    (a__law_take : PySem.W.nsIn K mainGlobals (Str.ofString "_law_take") = some (some (.ref f__law_take)))
    (l__law_take : K.lookup f__law_take = some ⟨oc__law_take, od__law_take, .func (PySem.W.fnOf (Str.ofString "_law_take") (Str.ofString "_law_take") (defArgs (topS 33)) (defBody (topS 33)) (defScope (topS 33)) .none kV__law_take dc__law_take pm__law_take an__law_take cd__law_take ct__law_take), sl__law_take⟩)
    (c__law_take : PySem.W.codeIn K cd__law_take (Str.ofString "_law_take") = true)
    (k__law_take : PySem.W.keepIn K (.ref f__law_take) = true)
    (a__law_pair : PySem.W.nsIn K mainGlobals (Str.ofString "_law_pair") = some (some (.ref f__law_pair)))
    (l__law_pair : K.lookup f__law_pair = some ⟨oc__law_pair, od__law_pair, .func (PySem.W.fnOf (Str.ofString "_law_pair") (Str.ofString "_law_pair") (defArgs (topS 41)) (defBody (topS 41)) (defScope (topS 41)) .none kV__law_pair dc__law_pair pm__law_pair an__law_pair cd__law_pair ct__law_pair), sl__law_pair⟩)
    (c__law_pair : PySem.W.codeIn K cd__law_pair (Str.ofString "_law_pair") = true)
    (k__law_pair : PySem.W.keepIn K (.ref f__law_pair) = true)
    (a_in_order : PySem.W.nsIn K mainGlobals (Str.ofString "in_order") = some (some (.ref f_in_order)))
    (l_in_order : K.lookup f_in_order = some ⟨oc_in_order, od_in_order, .func (PySem.W.fnOf (Str.ofString "in_order") (Str.ofString "in_order") (defArgs (topS 19)) (defBody (topS 19)) (defScope (topS 19)) .none kV_in_order dc_in_order pm_in_order an_in_order cd_in_order ct_in_order), sl_in_order⟩)
    (c_in_order : PySem.W.codeIn K cd_in_order (Str.ofString "in_order") = true)
    (k_in_order : PySem.W.keepIn K (.ref f_in_order) = true)
    (a_is_known_relation : PySem.W.nsIn K mainGlobals (Str.ofString "is_known_relation") = some (some (.ref f_is_known_relation)))
    (l_is_known_relation : K.lookup f_is_known_relation = some ⟨oc_is_known_relation, od_is_known_relation, .func (PySem.W.fnOf (Str.ofString "is_known_relation") (Str.ofString "is_known_relation") (defArgs (topS 20)) (defBody (topS 20)) (defScope (topS 20)) .none kV_is_known_relation dc_is_known_relation pm_is_known_relation an_is_known_relation cd_is_known_relation ct_is_known_relation), sl_is_known_relation⟩)
    (c_is_known_relation : PySem.W.codeIn K cd_is_known_relation (Str.ofString "is_known_relation") = true)
    (k_is_known_relation : PySem.W.keepIn K (.ref f_is_known_relation) = true)
    (a_check_relation : PySem.W.nsIn K mainGlobals (Str.ofString "check_relation") = some (some (.ref f_check_relation)))
    (l_check_relation : K.lookup f_check_relation = some ⟨oc_check_relation, od_check_relation, .func (PySem.W.fnOf (Str.ofString "check_relation") (Str.ofString "check_relation") (defArgs (topS 22)) (defBody (topS 22)) (defScope (topS 22)) .none kV_check_relation dc_check_relation pm_check_relation an_check_relation cd_check_relation ct_check_relation), sl_check_relation⟩)
    (c_check_relation : PySem.W.codeIn K cd_check_relation (Str.ofString "check_relation") = true)
    (k_check_relation : PySem.W.keepIn K (.ref f_check_relation) = true)
    (a_check_two : PySem.W.nsIn K mainGlobals (Str.ofString "check_two") = some (some (.ref f_check_two)))
    (l_check_two : K.lookup f_check_two = some ⟨oc_check_two, od_check_two, .func (PySem.W.fnOf (Str.ofString "check_two") (Str.ofString "check_two") (defArgs (topS 27)) (defBody (topS 27)) (defScope (topS 27)) .none kV_check_two dc_check_two pm_check_two an_check_two cd_check_two ct_check_two), sl_check_two⟩)
    (c_check_two : PySem.W.codeIn K cd_check_two (Str.ofString "check_two") = true)
    (k_check_two : PySem.W.keepIn K (.ref f_check_two) = true)
    (a_both : PySem.W.nsIn K mainGlobals (Str.ofString "both") = some (some (.ref f_both)))
    (l_both : K.lookup f_both = some ⟨oc_both, od_both, .func (PySem.W.fnOf (Str.ofString "both") (Str.ofString "both") (defArgs (topS 29)) (defBody (topS 29)) (defScope (topS 29)) .none kV_both dc_both pm_both an_both cd_both ct_both), sl_both⟩)
    (c_both : PySem.W.codeIn K cd_both (Str.ofString "both") = true)
    (k_both : PySem.W.keepIn K (.ref f_both) = true)
    (a_turned_name : PySem.W.nsIn K mainGlobals (Str.ofString "turned_name") = some (some (.ref f_turned_name)))
    (l_turned_name : K.lookup f_turned_name = some ⟨oc_turned_name, od_turned_name, .func (PySem.W.fnOf (Str.ofString "turned_name") (Str.ofString "turned_name") (defArgs (topS 23)) (defBody (topS 23)) (defScope (topS 23)) .none kV_turned_name dc_turned_name pm_turned_name an_turned_name cd_turned_name ct_turned_name), sl_turned_name⟩)
    (c_turned_name : PySem.W.codeIn K cd_turned_name (Str.ofString "turned_name") = true)
    (k_turned_name : PySem.W.keepIn K (.ref f_turned_name) = true)
    (a_converse_of : PySem.W.nsIn K mainGlobals (Str.ofString "converse_of") = some (some (.ref f_converse_of)))
    (l_converse_of : K.lookup f_converse_of = some ⟨oc_converse_of, od_converse_of, .func (PySem.W.fnOf (Str.ofString "converse_of") (Str.ofString "converse_of") (defArgs (topS 24)) (defBody (topS 24)) (defScope (topS 24)) .none kV_converse_of dc_converse_of pm_converse_of an_converse_of cd_converse_of ct_converse_of), sl_converse_of⟩)
    (c_converse_of : PySem.W.codeIn K cd_converse_of (Str.ofString "converse_of") = true)
    (k_converse_of : PySem.W.keepIn K (.ref f_converse_of) = true)
    (a_converse : PySem.W.nsIn K mainGlobals (Str.ofString "converse") = some (some (.ref f_converse)))
    (l_converse : K.lookup f_converse = some ⟨oc_converse, od_converse, .func (PySem.W.fnOf (Str.ofString "converse") (Str.ofString "converse") (defArgs (topS 25)) (defBody (topS 25)) (defScope (topS 25)) .none kV_converse dc_converse pm_converse an_converse cd_converse ct_converse), sl_converse⟩)
    (c_converse : PySem.W.codeIn K cd_converse (Str.ofString "converse") = true)
    (k_converse : PySem.W.keepIn K (.ref f_converse) = true)
    (a_either : PySem.W.nsIn K mainGlobals (Str.ofString "either") = some (some (.ref f_either)))
    (l_either : K.lookup f_either = some ⟨oc_either, od_either, .func (PySem.W.fnOf (Str.ofString "either") (Str.ofString "either") (defArgs (topS 28)) (defBody (topS 28)) (defScope (topS 28)) .none kV_either dc_either pm_either an_either cd_either ct_either), sl_either⟩)
    (c_either : PySem.W.codeIn K cd_either (Str.ofString "either") = true)
    (k_either : PySem.W.keepIn K (.ref f_either) = true)
    (a_is_integer : PySem.W.nsIn K mainGlobals (Str.ofString "is_integer") = some (some (.ref f_is_integer)))
    (l_is_integer : K.lookup f_is_integer = some ⟨oc_is_integer, od_is_integer, .func (PySem.W.fnOf (Str.ofString "is_integer") (Str.ofString "is_integer") (defArgs (topS 4)) (defBody (topS 4)) (defScope (topS 4)) .none kV_is_integer dc_is_integer pm_is_integer an_is_integer cd_is_integer ct_is_integer), sl_is_integer⟩)
    (c_is_integer : PySem.W.codeIn K cd_is_integer (Str.ofString "is_integer") = true)
    (k_is_integer : PySem.W.keepIn K (.ref f_is_integer) = true)
    (a_is_between : PySem.W.nsIn K mainGlobals (Str.ofString "is_between") = some (some (.ref f_is_between)))
    (l_is_between : K.lookup f_is_between = some ⟨oc_is_between, od_is_between, .func (PySem.W.fnOf (Str.ofString "is_between") (Str.ofString "is_between") (defArgs (topS 5)) (defBody (topS 5)) (defScope (topS 5)) .none kV_is_between dc_is_between pm_is_between an_is_between cd_is_between ct_is_between), sl_is_between⟩)
    (c_is_between : PySem.W.codeIn K cd_is_between (Str.ofString "is_between") = true)
    (k_is_between : PySem.W.keepIn K (.ref f_is_between) = true)
    (a_is_known : PySem.W.nsIn K mainGlobals (Str.ofString "is_known") = some (some (.ref f_is_known)))
    (l_is_known : K.lookup f_is_known = some ⟨oc_is_known, od_is_known, .func (PySem.W.fnOf (Str.ofString "is_known") (Str.ofString "is_known") (defArgs (topS 8)) (defBody (topS 8)) (defScope (topS 8)) (.ref T_is_known) kV_is_known dc_is_known pm_is_known an_is_known cd_is_known ct_is_known), sl_is_known⟩)
    (c_is_known : PySem.W.codeIn K cd_is_known (Str.ofString "is_known") = true)
    (k_is_known : PySem.W.keepIn K (.ref f_is_known) = true)
    (lT_is_known : K.lookup T_is_known = some ⟨tc_is_known, td_is_known, .seq its_is_known tn_is_known, tsl_is_known⟩)
    (hT_is_known : chkL K [(.int (-1000)), (.int 1000)] its_is_known.toList = true)
    (a_check_interval : PySem.W.nsIn K mainGlobals (Str.ofString "check_interval") = some (some (.ref f_check_interval)))
    (l_check_interval : K.lookup f_check_interval = some ⟨oc_check_interval, od_check_interval, .func (PySem.W.fnOf (Str.ofString "check_interval") (Str.ofString "check_interval") (defArgs (topS 9)) (defBody (topS 9)) (defScope (topS 9)) (.ref T_check_interval) kV_check_interval dc_check_interval pm_check_interval an_check_interval cd_check_interval ct_check_interval), sl_check_interval⟩)
    (c_check_interval : PySem.W.codeIn K cd_check_interval (Str.ofString "check_interval") = true)
    (k_check_interval : PySem.W.keepIn K (.ref f_check_interval) = true)
    (lT_check_interval : K.lookup T_check_interval = some ⟨tc_check_interval, td_check_interval, .seq its_check_interval tn_check_interval, tsl_check_interval⟩)
    (hT_check_interval : chkL K [(.int (-1000)), (.int 1000)] its_check_interval.toList = true)
    (a_place_in : PySem.W.nsIn K mainGlobals (Str.ofString "place_in") = some (some (.ref f_place_in)))
    (l_place_in : K.lookup f_place_in = some ⟨oc_place_in, od_place_in, .func (PySem.W.fnOf (Str.ofString "place_in") (Str.ofString "place_in") (defArgs (topS 16)) (defBody (topS 16)) (defScope (topS 16)) .none kV_place_in dc_place_in pm_place_in an_place_in cd_place_in ct_place_in), sl_place_in⟩)
    (c_place_in : PySem.W.codeIn K cd_place_in (Str.ofString "place_in") = true)
    (k_place_in : PySem.W.keepIn K (.ref f_place_in) = true)
    (a_name_of : PySem.W.nsIn K mainGlobals (Str.ofString "name_of") = some (some (.ref f_name_of)))
    (l_name_of : K.lookup f_name_of = some ⟨oc_name_of, od_name_of, .func (PySem.W.fnOf (Str.ofString "name_of") (Str.ofString "name_of") (defArgs (topS 17)) (defBody (topS 17)) (defScope (topS 17)) .none kV_name_of dc_name_of pm_name_of an_name_of cd_name_of ct_name_of), sl_name_of⟩)
    (c_name_of : PySem.W.codeIn K cd_name_of (Str.ofString "name_of") = true)
    (k_name_of : PySem.W.keepIn K (.ref f_name_of) = true)
    (a_relation_of : PySem.W.nsIn K mainGlobals (Str.ofString "relation_of") = some (some (.ref f_relation_of)))
    (l_relation_of : K.lookup f_relation_of = some ⟨oc_relation_of, od_relation_of, .func (PySem.W.fnOf (Str.ofString "relation_of") (Str.ofString "relation_of") (defArgs (topS 18)) (defBody (topS 18)) (defScope (topS 18)) .none kV_relation_of dc_relation_of pm_relation_of an_relation_of cd_relation_of ct_relation_of), sl_relation_of⟩)
    (c_relation_of : PySem.W.codeIn K cd_relation_of (Str.ofString "relation_of") = true)
    (k_relation_of : PySem.W.keepIn K (.ref f_relation_of) = true)
    (a_rest : PySem.W.nsIn K mainGlobals (Str.ofString "rest") = some (some (.ref f_rest)))
    (l_rest : K.lookup f_rest = some ⟨oc_rest, od_rest, .func (PySem.W.fnOf (Str.ofString "rest") (Str.ofString "rest") (defArgs (topS 26)) (defBody (topS 26)) (defScope (topS 26)) .none kV_rest dc_rest pm_rest an_rest cd_rest ct_rest), sl_rest⟩)
    (c_rest : PySem.W.codeIn K cd_rest (Str.ofString "rest") = true)
    (k_rest : PySem.W.keepIn K (.ref f_rest) = true)
    (a__law_said : PySem.W.nsIn K mainGlobals (Str.ofString "_law_said") = some (some (.ref f__law_said)))
    (l__law_said : K.lookup f__law_said = some ⟨oc__law_said, od__law_said, .func (PySem.W.fnOf (Str.ofString "_law_said") (Str.ofString "_law_said") (defArgs (topS 42)) (defBody (topS 42)) (defScope (topS 42)) .none kV__law_said dc__law_said pm__law_said an__law_said cd__law_said ct__law_said), sl__law_said⟩)
    (c__law_said : PySem.W.codeIn K cd__law_said (Str.ofString "_law_said") = true)
    (k__law_said : PySem.W.keepIn K (.ref f__law_said) = true)
    (a__law_same : PySem.W.nsIn K mainGlobals (Str.ofString "_law_same") = some (some (.ref f__law_same)))
    (l__law_same : K.lookup f__law_same = some ⟨oc__law_same, od__law_same, .func (PySem.W.fnOf (Str.ofString "_law_same") (Str.ofString "_law_same") (defArgs (topS 34)) (defBody (topS 34)) (defScope (topS 34)) .none kV__law_same dc__law_same pm__law_same an__law_same cd__law_same ct__law_same), sl__law_same⟩)
    (c__law_same : PySem.W.codeIn K cd__law_same (Str.ofString "_law_same") = true)
    (k__law_same : PySem.W.keepIn K (.ref f__law_same) = true)
    (a__law_names : PySem.W.nsIn K mainGlobals (Str.ofString "_law_names") = some (some (.ref f__law_names)))
    (l__law_names : K.lookup f__law_names = some ⟨oc__law_names, od__law_names, .func (PySem.W.fnOf (Str.ofString "_law_names") (Str.ofString "_law_names") (defArgs (topS 35)) (defBody (topS 35)) (defScope (topS 35)) .none kV__law_names dc__law_names pm__law_names an__law_names cd__law_names ct__law_names), sl__law_names⟩)
    (c__law_names : PySem.W.codeIn K cd__law_names (Str.ofString "_law_names") = true)
    (k__law_names : PySem.W.keepIn K (.ref f__law_names) = true)
    (a__law_turn : PySem.W.nsIn K mainGlobals (Str.ofString "_law_turn") = some (some (.ref f__law_turn)))
    (l__law_turn : K.lookup f__law_turn = some ⟨oc__law_turn, od__law_turn, .func (PySem.W.fnOf (Str.ofString "_law_turn") (Str.ofString "_law_turn") (defArgs (topS 38)) (defBody (topS 38)) (defScope (topS 38)) .none kV__law_turn dc__law_turn pm__law_turn an__law_turn cd__law_turn ct__law_turn), sl__law_turn⟩)
    (c__law_turn : PySem.W.codeIn K cd__law_turn (Str.ofString "_law_turn") = true)
    (k__law_turn : PySem.W.keepIn K (.ref f__law_turn) = true)
    (a__law_pairs_right : PySem.W.nsIn K mainGlobals (Str.ofString "_law_pairs_right") = some (some (.ref f__law_pairs_right)))
    (l__law_pairs_right : K.lookup f__law_pairs_right = some ⟨oc__law_pairs_right, od__law_pairs_right, .func (PySem.W.fnOf (Str.ofString "_law_pairs_right") (Str.ofString "_law_pairs_right") (defArgs (topS 43)) (defBody (topS 43)) (defScope (topS 43)) .none kV__law_pairs_right dc__law_pairs_right pm__law_pairs_right an__law_pairs_right cd__law_pairs_right ct__law_pairs_right), sl__law_pairs_right⟩)
    (c__law_pairs_right : PySem.W.codeIn K cd__law_pairs_right (Str.ofString "_law_pairs_right") = true)
    (k__law_pairs_right : PySem.W.keepIn K (.ref f__law_pairs_right) = true)
    (a__law_bad_relation : PySem.W.nsIn K mainGlobals (Str.ofString "_law_bad_relation") = some (some (.ref f__law_bad_relation)))
    (l__law_bad_relation : K.lookup f__law_bad_relation = some ⟨oc__law_bad_relation, od__law_bad_relation, .func (PySem.W.fnOf (Str.ofString "_law_bad_relation") (Str.ofString "_law_bad_relation") (defArgs (topS 40)) (defBody (topS 40)) (defScope (topS 40)) .none kV__law_bad_relation dc__law_bad_relation pm__law_bad_relation an__law_bad_relation cd__law_bad_relation ct__law_bad_relation), sl__law_bad_relation⟩)
    (c__law_bad_relation : PySem.W.codeIn K cd__law_bad_relation (Str.ofString "_law_bad_relation") = true)
    (k__law_bad_relation : PySem.W.keepIn K (.ref f__law_bad_relation) = true)
    (a__law_relation : PySem.W.nsIn K mainGlobals (Str.ofString "_law_relation") = some (some (.ref f__law_relation)))
    (l__law_relation : K.lookup f__law_relation = some ⟨oc__law_relation, od__law_relation, .func (PySem.W.fnOf (Str.ofString "_law_relation") (Str.ofString "_law_relation") (defArgs (topS 39)) (defBody (topS 39)) (defScope (topS 39)) .none kV__law_relation dc__law_relation pm__law_relation an__law_relation cd__law_relation ct__law_relation), sl__law_relation⟩)
    (c__law_relation : PySem.W.codeIn K cd__law_relation (Str.ofString "_law_relation") = true)
    (k__law_relation : PySem.W.keepIn K (.ref f__law_relation) = true)
    (a_is_relation : PySem.W.nsIn K mainGlobals (Str.ofString "is_relation") = some (some (.ref f_is_relation)))
    (l_is_relation : K.lookup f_is_relation = some ⟨oc_is_relation, od_is_relation, .func (PySem.W.fnOf (Str.ofString "is_relation") (Str.ofString "is_relation") (defArgs (topS 21)) (defBody (topS 21)) (defScope (topS 21)) .none kV_is_relation dc_is_relation pm_is_relation an_is_relation cd_is_relation ct_is_relation), sl_is_relation⟩)
    (c_is_relation : PySem.W.codeIn K cd_is_relation (Str.ofString "is_relation") = true)
    (k_is_relation : PySem.W.keepIn K (.ref f_is_relation) = true)
    (a__law_refused : PySem.W.nsIn K mainGlobals (Str.ofString "_law_refused") = some (some (.ref f__law_refused)))
    (l__law_refused : K.lookup f__law_refused = some ⟨oc__law_refused, od__law_refused, .func (PySem.W.fnOf (Str.ofString "_law_refused") (Str.ofString "_law_refused") (defArgs (topS 45)) (defBody (topS 45)) (defScope (topS 45)) .none kV__law_refused dc__law_refused pm__law_refused an__law_refused cd__law_refused ct__law_refused), sl__law_refused⟩)
    (c__law_refused : PySem.W.codeIn K cd__law_refused (Str.ofString "_law_refused") = true)
    (k__law_refused : PySem.W.keepIn K (.ref f__law_refused) = true)
    (a__law_ordered : PySem.W.nsIn K mainGlobals (Str.ofString "_law_ordered") = some (some (.ref f__law_ordered)))
    (l__law_ordered : K.lookup f__law_ordered = some ⟨oc__law_ordered, od__law_ordered, .func (PySem.W.fnOf (Str.ofString "_law_ordered") (Str.ofString "_law_ordered") (defArgs (topS 37)) (defBody (topS 37)) (defScope (topS 37)) .none kV__law_ordered dc__law_ordered pm__law_ordered an__law_ordered cd__law_ordered ct__law_ordered), sl__law_ordered⟩)
    (c__law_ordered : PySem.W.codeIn K cd__law_ordered (Str.ofString "_law_ordered") = true)
    (k__law_ordered : PySem.W.keepIn K (.ref f__law_ordered) = true)
    (a__law_relations_right : PySem.W.nsIn K mainGlobals (Str.ofString "_law_relations_right") = some (some (.ref f__law_relations_right)))
    (l__law_relations_right : K.lookup f__law_relations_right = some ⟨oc__law_relations_right, od__law_relations_right, .func (PySem.W.fnOf (Str.ofString "_law_relations_right") (Str.ofString "_law_relations_right") (defArgs (topS 44)) (defBody (topS 44)) (defScope (topS 44)) .none kV__law_relations_right dc__law_relations_right pm__law_relations_right an__law_relations_right cd__law_relations_right ct__law_relations_right), sl__law_relations_right⟩)
    (c__law_relations_right : PySem.W.codeIn K cd__law_relations_right (Str.ofString "_law_relations_right") = true)
    (k__law_relations_right : PySem.W.keepIn K (.ref f__law_relations_right) = true)
    (a_law : PySem.W.nsIn K mainGlobals (Str.ofString "law") = some (some (.ref f_law)))
    (l_law : K.lookup f_law = some ⟨oc_law, od_law, .func (PySem.W.fnOf (Str.ofString "law") (Str.ofString "law") (defArgs (topS 46)) (defBody (topS 46)) (defScope (topS 46)) .none kV_law dc_law pm_law an_law cd_law ct_law), sl_law⟩)
    (c_law : PySem.W.codeIn K cd_law (Str.ofString "law") = true)
    (k_law : PySem.W.keepIn K (.ref f_law) = true)
    (z_abs : PySem.W.nsIn K mainGlobals (Str.ofString "abs") = some none)
    (z_all : PySem.W.nsIn K mainGlobals (Str.ofString "all") = some none)
    (z_bool : PySem.W.nsIn K mainGlobals (Str.ofString "bool") = some none)
    (z_dict : PySem.W.nsIn K mainGlobals (Str.ofString "dict") = some none)
    (z_int : PySem.W.nsIn K mainGlobals (Str.ofString "int") = some none)
    (z_isinstance : PySem.W.nsIn K mainGlobals (Str.ofString "isinstance") = some none)
    (z_len : PySem.W.nsIn K mainGlobals (Str.ofString "len") = some none)
    (z_list : PySem.W.nsIn K mainGlobals (Str.ofString "list") = some none)
    (z_max : PySem.W.nsIn K mainGlobals (Str.ofString "max") = some none)
    (z_min : PySem.W.nsIn K mainGlobals (Str.ofString "min") = some none)
    (z_range : PySem.W.nsIn K mainGlobals (Str.ofString "range") = some none)
    (z_str : PySem.W.nsIn K mainGlobals (Str.ofString "str") = some none)
    (z_sum : PySem.W.nsIn K mainGlobals (Str.ofString "sum") = some none)
    (z_tuple : PySem.W.nsIn K mainGlobals (Str.ofString "tuple") = some none)
    (g_CODES : PySem.W.nsIn K mainGlobals (Str.ofString "CODES") = some (some (.ref T_CODES)))
    (t_CODES : K.lookup T_CODES = some ⟨.type "tuple", none, .seq its_CODES tn_CODES, tsl_CODES⟩)
    (u_CODES : decide (its_CODES.size ≤ sizeLine) = true)
    (h_CODES : chkL K [(.tuple [(.int 0), (.int 0)]), (.tuple [(.int 0), (.int 1)]), (.tuple [(.int 0), (.int 2)]), (.tuple [(.int 1), (.int 2)]), (.tuple [(.int 2), (.int 2)]), (.tuple [(.int 2), (.int 3)]), (.tuple [(.int 1), (.int 3)]), (.tuple [(.int 0), (.int 3)]), (.tuple [(.int 0), (.int 4)]), (.tuple [(.int 1), (.int 4)]), (.tuple [(.int 2), (.int 4)]), (.tuple [(.int 3), (.int 4)]), (.tuple [(.int 4), (.int 4)])] its_CODES.toList = true)
    (g_NAMES : PySem.W.nsIn K mainGlobals (Str.ofString "NAMES") = some (some (.ref T_NAMES)))
    (t_NAMES : K.lookup T_NAMES = some ⟨.type "tuple", none, .seq its_NAMES tn_NAMES, tsl_NAMES⟩)
    (u_NAMES : decide (its_NAMES.size ≤ sizeLine) = true)
    (h_NAMES : chkL K [(.str (Str.ofString "before")), (.str (Str.ofString "meets")), (.str (Str.ofString "overlaps")), (.str (Str.ofString "starts")), (.str (Str.ofString "during")), (.str (Str.ofString "finishes")), (.str (Str.ofString "equal")), (.str (Str.ofString "finished")), (.str (Str.ofString "contains")), (.str (Str.ofString "started")), (.str (Str.ofString "overlapped")), (.str (Str.ofString "met")), (.str (Str.ofString "after"))] its_NAMES.toList = true)
    (g_TURNED : PySem.W.nsIn K mainGlobals (Str.ofString "TURNED") = some (some u_TURNED))
    (h_TURNED : chkV K (.tuple [(.int 12), (.int 11), (.int 10), (.int 9), (.int 8), (.int 7), (.int 6), (.int 5), (.int 4), (.int 3), (.int 2), (.int 1), (.int 0)]) u_TURNED = true)
    (aC_IntervalError : PySem.W.nsIn K mainGlobals (Str.ofString "IntervalError") = some (some (.ref C_IntervalError)))
    (eC_IntervalError : PySem.W.subIn K (.ref C_IntervalError) (.type "BaseException") = some true)
    (tC_IntervalError : PySem.W.typeIn K (.ref C_IntervalError) = some (.type "type"))
    (hC_IntervalError : PySem.W.hasDictIn K C_IntervalError = true)
    (aC_InvalidInterval : PySem.W.nsIn K mainGlobals (Str.ofString "InvalidInterval") = some (some (.ref C_InvalidInterval)))
    (eC_InvalidInterval : PySem.W.subIn K (.ref C_InvalidInterval) (.type "BaseException") = some true)
    (tC_InvalidInterval : PySem.W.typeIn K (.ref C_InvalidInterval) = some (.type "type"))
    (hC_InvalidInterval : PySem.W.hasDictIn K C_InvalidInterval = true)
    (xL_InvalidInterval : K.lookup C_InvalidInterval = some (excClassObj nm_InvalidInterval q_InvalidInterval C_InvalidInterval N_InvalidInterval bs_InvalidInterval bm_InvalidInterval true sn_InvalidInterval sub_InvalidInterval ab_InvalidInterval col_InvalidInterval dd_InvalidInterval m0_InvalidInterval m1_InvalidInterval m2_InvalidInterval m3_InvalidInterval m5_InvalidInterval "ValueError.__new__"))
    (hb_InvalidInterval : PySem.HandSPX.refsVE bm_InvalidInterval = true)
    (sa_InvalidInterval : PySem.W.findIn K (.ref C_InvalidInterval) "__setattr__" = some (some (.builtin "object.__setattr__")))
    (kC_InvalidInterval : PySem.W.keepIn K (.ref C_InvalidInterval) = true)
    (i_InvalidInterval : PySem.W.findIn K (.ref C_InvalidInterval) "__init__" = some (some (.ref f_IInvalidInterval)))
    (ti_InvalidInterval : PySem.W.typeIn K (.ref f_IInvalidInterval) = some (.type "function"))
    (l_IInvalidInterval : K.lookup f_IInvalidInterval = some ⟨oc_IInvalidInterval, od_IInvalidInterval, .func (PySem.W.fnOf (Str.ofString "__init__") (Str.ofString "InvalidInterval.__init__") (defArgs (initS 2)) (defBody (initS 2)) (defScope (initS 2)) .none kV_IInvalidInterval dc_IInvalidInterval pm_IInvalidInterval an_IInvalidInterval cd_IInvalidInterval ct_IInvalidInterval), sl_IInvalidInterval⟩)
    (c_IInvalidInterval : PySem.W.codeIn K cd_IInvalidInterval (Str.ofString "InvalidInterval.__init__") = true)
    (k_IInvalidInterval : PySem.W.keepIn K (.ref f_IInvalidInterval) = true)
    (no_InvalidInterval_given : PySem.W.findIn K (.ref C_InvalidInterval) (Str.ofString "given") = some none)
    (ga_InvalidInterval : PySem.W.findIn K (.ref C_InvalidInterval) "__getattribute__" = some (some (.builtin "BaseException.__getattribute__")))
    (gg_InvalidInterval : PySem.W.findIn K (.ref C_InvalidInterval) "__getattr__" = some none)
    (aC_InvalidRelation : PySem.W.nsIn K mainGlobals (Str.ofString "InvalidRelation") = some (some (.ref C_InvalidRelation)))
    (eC_InvalidRelation : PySem.W.subIn K (.ref C_InvalidRelation) (.type "BaseException") = some true)
    (tC_InvalidRelation : PySem.W.typeIn K (.ref C_InvalidRelation) = some (.type "type"))
    (hC_InvalidRelation : PySem.W.hasDictIn K C_InvalidRelation = true)
    (xL_InvalidRelation : K.lookup C_InvalidRelation = some (excClassObj nm_InvalidRelation q_InvalidRelation C_InvalidRelation N_InvalidRelation bs_InvalidRelation bm_InvalidRelation true sn_InvalidRelation sub_InvalidRelation ab_InvalidRelation col_InvalidRelation dd_InvalidRelation m0_InvalidRelation m1_InvalidRelation m2_InvalidRelation m3_InvalidRelation m5_InvalidRelation "ValueError.__new__"))
    (hb_InvalidRelation : PySem.HandSPX.refsVE bm_InvalidRelation = true)
    (sa_InvalidRelation : PySem.W.findIn K (.ref C_InvalidRelation) "__setattr__" = some (some (.builtin "object.__setattr__")))
    (kC_InvalidRelation : PySem.W.keepIn K (.ref C_InvalidRelation) = true)
    (i_InvalidRelation : PySem.W.findIn K (.ref C_InvalidRelation) "__init__" = some (some (.ref f_IInvalidRelation)))
    (ti_InvalidRelation : PySem.W.typeIn K (.ref f_IInvalidRelation) = some (.type "function"))
    (l_IInvalidRelation : K.lookup f_IInvalidRelation = some ⟨oc_IInvalidRelation, od_IInvalidRelation, .func (PySem.W.fnOf (Str.ofString "__init__") (Str.ofString "InvalidRelation.__init__") (defArgs (initS 11)) (defBody (initS 11)) (defScope (initS 11)) .none kV_IInvalidRelation dc_IInvalidRelation pm_IInvalidRelation an_IInvalidRelation cd_IInvalidRelation ct_IInvalidRelation), sl_IInvalidRelation⟩)
    (c_IInvalidRelation : PySem.W.codeIn K cd_IInvalidRelation (Str.ofString "InvalidRelation.__init__") = true)
    (k_IInvalidRelation : PySem.W.keepIn K (.ref f_IInvalidRelation) = true)
    (no_InvalidRelation_given : PySem.W.findIn K (.ref C_InvalidRelation) (Str.ofString "given") = some none)
    (ga_InvalidRelation : PySem.W.findIn K (.ref C_InvalidRelation) "__getattribute__" = some (some (.builtin "BaseException.__getattribute__")))
    (gg_InvalidRelation : PySem.W.findIn K (.ref C_InvalidRelation) "__getattr__" = some none)
    (s_InvalidInterval_IntervalError : PySem.W.subIn K (.ref C_InvalidInterval) (.ref C_IntervalError) = some true)
    (s_InvalidRelation_IntervalError : PySem.W.subIn K (.ref C_InvalidRelation) (.ref C_IntervalError) = some true)
    (s_InvalidInterval_InvalidInterval : PySem.W.subIn K (.ref C_InvalidInterval) (.ref C_InvalidInterval) = some true)
    (s_InvalidRelation_InvalidInterval : PySem.W.subIn K (.ref C_InvalidRelation) (.ref C_InvalidInterval) = some false)
    (s_InvalidInterval_InvalidRelation : PySem.W.subIn K (.ref C_InvalidInterval) (.ref C_InvalidRelation) = some false)
    (s_InvalidRelation_InvalidRelation : PySem.W.subIn K (.ref C_InvalidRelation) (.ref C_InvalidRelation) = some true)
    (hl : ∀ ns : List Int, ns.length ≤ 63 → ∃ as, den_law [.val (.list (ns.map D.int))] = .ret (.val (.bool true)) as) :
    ∃ fd : FuncData, (∀ (s : Shared) (u : Value), BindsTo s fd ⟨[u], []⟩ [((Str.ofString "script"), u)]) ∧ ∀ base : Heap, K.In base → base.Ns mainGlobals mg → FnOk P w K mg base (L2.CX P w) 11 fa fd [(Str.ofString "script")] (spLaw K) := by
  have e := hfa.symm.trans (PySem.W.mg_of X G a_law)
  cases e
  have F__law_box := funD0 (st := topS 32) l__law_box c__law_box k__law_box
  have F__law_cell := funD0 (st := topS 31) l__law_cell c__law_cell k__law_cell
  have F__law_name := funD0 (st := topS 36) l__law_name c__law_name k__law_name
  have F__law_take := funD0 (st := topS 33) l__law_take c__law_take k__law_take
  have F__law_pair := funD0 (st := topS 41) l__law_pair c__law_pair k__law_pair
  have F_in_order := funD0 (st := topS 19) l_in_order c_in_order k_in_order
  have F_is_known_relation := funD0 (st := topS 20) l_is_known_relation c_is_known_relation k_is_known_relation
  have F_check_relation := funD0 (st := topS 22) l_check_relation c_check_relation k_check_relation
  have F_check_two := funD0 (st := topS 27) l_check_two c_check_two k_check_two
  have F_both := funD0 (st := topS 29) l_both c_both k_both
  have F_turned_name := funD0 (st := topS 23) l_turned_name c_turned_name k_turned_name
  have F_converse_of := funD0 (st := topS 24) l_converse_of c_converse_of k_converse_of
  have F_converse := funD0 (st := topS 25) l_converse c_converse k_converse
  have F_either := funD0 (st := topS 28) l_either c_either k_either
  have F_is_integer := funD0 (st := topS 4) l_is_integer c_is_integer k_is_integer
  have F_is_between := funD0 (st := topS 5) l_is_between c_is_between k_is_between
  have F_is_known := funD1 (st := topS 8) (dvs := [(.int (-1000)), (.int 1000)]) l_is_known c_is_known k_is_known lT_is_known rfl hT_is_known (by simp)
  have F_check_interval := funD1 (st := topS 9) (dvs := [(.int (-1000)), (.int 1000)]) l_check_interval c_check_interval k_check_interval lT_check_interval rfl hT_check_interval (by simp)
  have F_place_in := funD0 (st := topS 16) l_place_in c_place_in k_place_in
  have F_name_of := funD0 (st := topS 17) l_name_of c_name_of k_name_of
  have F_relation_of := funD0 (st := topS 18) l_relation_of c_relation_of k_relation_of
  have F_rest := funD0 (st := topS 26) l_rest c_rest k_rest
  have F__law_said := funD0 (st := topS 42) l__law_said c__law_said k__law_said
  have F__law_same := funD0 (st := topS 34) l__law_same c__law_same k__law_same
  have F__law_names := funD0 (st := topS 35) l__law_names c__law_names k__law_names
  have F__law_turn := funD0 (st := topS 38) l__law_turn c__law_turn k__law_turn
  have F__law_pairs_right := funD0 (st := topS 43) l__law_pairs_right c__law_pairs_right k__law_pairs_right
  have F__law_bad_relation := funD0 (st := topS 40) l__law_bad_relation c__law_bad_relation k__law_bad_relation
  have F__law_relation := funD0 (st := topS 39) l__law_relation c__law_relation k__law_relation
  have F_is_relation := funD0 (st := topS 21) l_is_relation c_is_relation k_is_relation
  have F__law_refused := funD0 (st := topS 45) l__law_refused c__law_refused k__law_refused
  have F__law_ordered := funD0 (st := topS 37) l__law_ordered c__law_ordered k__law_ordered
  have F__law_relations_right := funD0 (st := topS 44) l__law_relations_right c__law_relations_right k__law_relations_right
  have F_law := funD0 (st := topS 46) l_law c_law k_law
  refine law_end (s1 := (Str.ofString "script")) hfa (fun fd nm qual body scope F s u => FunD.bindsA (ps := [(Str.ofString "script")]) F (fun kV doc pm an cdv ct us hl => match us, hl with | [_], _ => by with_unfolding_all rfl) s [u] rfl) _ rfl F_law (fun base hK hN => ?_) hl
  have T : Txt P w K mg base 1 C_IntervalError C_InvalidInterval C_InvalidRelation := {
    b_abs := PySem.W.mg_none_of X G z_abs,
    b_all := PySem.W.mg_none_of X G z_all,
    b_bool := PySem.W.mg_none_of X G z_bool,
    b_dict := PySem.W.mg_none_of X G z_dict,
    b_int := PySem.W.mg_none_of X G z_int,
    b_isinstance := PySem.W.mg_none_of X G z_isinstance,
    b_len := PySem.W.mg_none_of X G z_len,
    b_list := PySem.W.mg_none_of X G z_list,
    b_max := PySem.W.mg_none_of X G z_max,
    b_min := PySem.W.mg_none_of X G z_min,
    b_range := PySem.W.mg_none_of X G z_range,
    b_str := PySem.W.mg_none_of X G z_str,
    b_sum := PySem.W.mg_none_of X G z_sum,
    b_tuple := PySem.W.mg_none_of X G z_tuple,
    t_CODES := gtup_of (PySem.W.mg_of X G g_CODES) t_CODES (of_decide_eq_true u_CODES) h_CODES,
    g_CODES := (gtup_of (PySem.W.mg_of X G g_CODES) t_CODES (of_decide_eq_true u_CODES) h_CODES).glo,
    t_NAMES := gtup_of (PySem.W.mg_of X G g_NAMES) t_NAMES (of_decide_eq_true u_NAMES) h_NAMES,
    g_NAMES := (gtup_of (PySem.W.mg_of X G g_NAMES) t_NAMES (of_decide_eq_true u_NAMES) h_NAMES).glo,
    g_TURNED := gloD_of (PySem.W.mg_of X G g_TURNED) h_TURNED,
    x_InvalidInterval := excD1 (oexC_mk xL_InvalidInterval hb_InvalidInterval sa_InvalidInterval eC_InvalidInterval tC_InvalidInterval kC_InvalidInterval) i_InvalidInterval ti_InvalidInterval (fun_mk (st := initS 2) l_IInvalidInterval c_IInvalidInterval k_IInvalidInterval) sI_InvalidInterval ((fun_mk (st := initS 2) l_IInvalidInterval c_IInvalidInterval k_IInvalidInterval).binds (ps := [(Str.ofString "self"), (Str.ofString "given")]) fun _ _ _ _ _ _ us hl => match us, hl with | [_, _], _ => by with_unfolding_all rfl) (PySem.W.mg_of X G aC_InvalidInterval) no_InvalidInterval_given (fun cdv A outer s H E => pss_one (ps_ost (pe_var (i := 0) rfl (by first | exact Or.inl rfl | exact Or.inr (Or.inl rfl) | exact Or.inr (Or.inr rfl))) (pe_var (i := 1) rfl (by first | exact Or.inl rfl | exact Or.inr (Or.inl rfl) | exact Or.inr (Or.inr rfl))))),
    x_InvalidRelation := excD1 (oexC_mk xL_InvalidRelation hb_InvalidRelation sa_InvalidRelation eC_InvalidRelation tC_InvalidRelation kC_InvalidRelation) i_InvalidRelation ti_InvalidRelation (fun_mk (st := initS 11) l_IInvalidRelation c_IInvalidRelation k_IInvalidRelation) sI_InvalidRelation ((fun_mk (st := initS 11) l_IInvalidRelation c_IInvalidRelation k_IInvalidRelation).binds (ps := [(Str.ofString "self"), (Str.ofString "given")]) fun _ _ _ _ _ _ us hl => match us, hl with | [_, _], _ => by with_unfolding_all rfl) (PySem.W.mg_of X G aC_InvalidRelation) no_InvalidRelation_given (fun cdv A outer s H E => pss_one (ps_ost (pe_var (i := 0) rfl (by first | exact Or.inl rfl | exact Or.inr (Or.inl rfl) | exact Or.inr (Or.inr rfl))) (pe_var (i := 1) rfl (by first | exact Or.inl rfl | exact Or.inr (Or.inl rfl) | exact Or.inr (Or.inr rfl))))),
    cl := trivial,
    n_IntervalError := PySem.W.mg_of X G aC_IntervalError,
    n_InvalidInterval := PySem.W.mg_of X G aC_InvalidInterval,
    n_InvalidRelation := PySem.W.mg_of X G aC_InvalidRelation,
    m_IntervalError := match_of (all_cons ⟨_, PySem.W.mg_of X G aC_InvalidInterval, (PySem.W.exm_ref eC_IntervalError hC_IntervalError tC_IntervalError s_InvalidInterval_IntervalError).trans (by decide)⟩ (all_cons ⟨_, PySem.W.mg_of X G aC_InvalidRelation, (PySem.W.exm_ref eC_IntervalError hC_IntervalError tC_IntervalError s_InvalidRelation_IntervalError).trans (by decide)⟩ all_nil)),
    m_InvalidInterval := match_of (all_cons ⟨_, PySem.W.mg_of X G aC_InvalidInterval, (PySem.W.exm_ref eC_InvalidInterval hC_InvalidInterval tC_InvalidInterval s_InvalidInterval_InvalidInterval).trans (by decide)⟩ (all_cons ⟨_, PySem.W.mg_of X G aC_InvalidRelation, (PySem.W.exm_ref eC_InvalidInterval hC_InvalidInterval tC_InvalidInterval s_InvalidRelation_InvalidInterval).trans (by decide)⟩ all_nil)),
    m_InvalidRelation := match_of (all_cons ⟨_, PySem.W.mg_of X G aC_InvalidInterval, (PySem.W.exm_ref eC_InvalidRelation hC_InvalidRelation tC_InvalidRelation s_InvalidInterval_InvalidRelation).trans (by decide)⟩ (all_cons ⟨_, PySem.W.mg_of X G aC_InvalidRelation, (PySem.W.exm_ref eC_InvalidRelation hC_InvalidRelation tC_InvalidRelation s_InvalidRelation_InvalidRelation).trans (by decide)⟩ all_nil)),
    f_InvalidInterval_given := ⟨_, PySem.W.mg_of X G aC_InvalidInterval, ⟨ga_InvalidInterval, gg_InvalidInterval, eC_InvalidInterval, hC_InvalidInterval⟩, no_InvalidInterval_given⟩,
    f_InvalidRelation_given := ⟨_, PySem.W.mg_of X G aC_InvalidRelation, ⟨ga_InvalidRelation, gg_InvalidRelation, eC_InvalidRelation, hC_InvalidRelation⟩, no_InvalidRelation_given⟩ }
  have d__law_box := ok__law_box T F__law_box (PySem.W.mg_of X G a__law_box) 
  have d__law_cell := ok__law_cell T F__law_cell (PySem.W.mg_of X G a__law_cell) 
  have d__law_name := ok__law_name T F__law_name (PySem.W.mg_of X G a__law_name) 
  have d__law_take := ok__law_take T F__law_take (PySem.W.mg_of X G a__law_take) 
  have d__law_pair := ok__law_pair T F__law_pair (PySem.W.mg_of X G a__law_pair) d__law_take
  have d_in_order := ok_in_order T F_in_order (PySem.W.mg_of X G a_in_order) 
  have d_is_known_relation := ok_is_known_relation T F_is_known_relation (PySem.W.mg_of X G a_is_known_relation) d_in_order
  have d_check_relation := ok_check_relation T F_check_relation (PySem.W.mg_of X G a_check_relation) d_is_known_relation
  have d_check_two := ok_check_two T F_check_two (PySem.W.mg_of X G a_check_two) d_check_relation
  have d_both := ok_both T F_both (PySem.W.mg_of X G a_both) d_check_two
  have d_turned_name := ok_turned_name T F_turned_name (PySem.W.mg_of X G a_turned_name) 
  have d_converse_of := ok_converse_of T F_converse_of (PySem.W.mg_of X G a_converse_of) d_in_order d_turned_name
  have d_converse := ok_converse T F_converse (PySem.W.mg_of X G a_converse) d_check_relation d_converse_of
  have d_either := ok_either T F_either (PySem.W.mg_of X G a_either) d_check_two d_in_order
  have d_is_integer := ok_is_integer T F_is_integer (PySem.W.mg_of X G a_is_integer) 
  have d_is_between := ok_is_between T F_is_between (PySem.W.mg_of X G a_is_between) d_is_integer
  have d_is_known := ok_is_known T F_is_known (PySem.W.mg_of X G a_is_known) d_is_between
  have d_check_interval := ok_check_interval T F_check_interval (PySem.W.mg_of X G a_check_interval) d_is_known
  have d_place_in := ok_place_in T F_place_in (PySem.W.mg_of X G a_place_in) 
  have d_name_of := ok_name_of T F_name_of (PySem.W.mg_of X G a_name_of) d_place_in
  have d_relation_of := ok_relation_of T F_relation_of (PySem.W.mg_of X G a_relation_of) d_check_interval d_name_of
  have d_rest := ok_rest T F_rest (PySem.W.mg_of X G a_rest) d_check_relation
  have d__law_said := ok__law_said T F__law_said (PySem.W.mg_of X G a__law_said) d_both d_converse d_either d_relation_of d_rest
  have d__law_same := ok__law_same T F__law_same (PySem.W.mg_of X G a__law_same)  8
  have d__law_names := ok__law_names T F__law_names (PySem.W.mg_of X G a__law_names) 
  have d__law_turn := ok__law_turn T F__law_turn (PySem.W.mg_of X G a__law_turn) d__law_names
  have d__law_pairs_right := ok__law_pairs_right T F__law_pairs_right (PySem.W.mg_of X G a__law_pairs_right) d__law_name d__law_pair d__law_said d__law_same d__law_turn
  have d__law_bad_relation := ok__law_bad_relation T F__law_bad_relation (PySem.W.mg_of X G a__law_bad_relation) d__law_take
  have d__law_relation := ok__law_relation T F__law_relation (PySem.W.mg_of X G a__law_relation) d__law_names d__law_take
  have d_is_relation := ok_is_relation T F_is_relation (PySem.W.mg_of X G a_is_relation) d_is_known_relation
  have d__law_refused := ok__law_refused T F__law_refused (PySem.W.mg_of X G a__law_refused) d__law_bad_relation d__law_relation d__law_said d__law_same d__law_take d_is_relation
  have d__law_ordered := ok__law_ordered T F__law_ordered (PySem.W.mg_of X G a__law_ordered) d__law_names
  have d__law_relations_right := ok__law_relations_right T F__law_relations_right (PySem.W.mg_of X G a__law_relations_right) d__law_names d__law_ordered d__law_relation d__law_said d__law_same d__law_turn d_converse d_is_relation d_rest
  have d_law := ok_law T F_law (PySem.W.mg_of X G a_law) d__law_box d__law_cell d__law_pairs_right d__law_refused d__law_relations_right d__law_take
  exact d_law
end L25

open PySem PySem.W PyProof.Rows
set_option maxHeartbeats 0 in
theorem PySem.Challenge.cw_intervalbench_k25_names_and_relations_holds : PySem.Challenge.rw_intervalbench_k25_names_and_relations.Holds := by
  w_on; o_law; k_head; (case hw => w_witness2)
  k_fill
  refine L2.walk_of (l := PySem.Challenge.rw_intervalbench_k25_names_and_relations) (n := 63) (k := 11) (x := "script") (CX := fun w => L2.CX PySem.Challenge.pw_intervalbench_k25_names_and_relations w) (sp := fun w => Dk.spLaw _) rfl (by decide) rfl ⟨rfl, by decide, by decide⟩ (fun w h Y => PySem.W.kIn_of Y) ?F (fun w H a ns hz _ hS => ⟨a, ns, rfl, hS, hz, fun _ => rfl⟩) (fun w H s e s2 h => Dk.hCX_ _ w H s e s2 h)
  case F =>
    intro w mg fa h KX G hmg
    refine' L25.all_mk KX G hmg ?a__law_box ?l__law_box ?c__law_box ?k__law_box ?a__law_cell ?l__law_cell ?c__law_cell ?k__law_cell ?a__law_name ?l__law_name ?c__law_name ?k__law_name ?a__law_take ?l__law_take ?c__law_take ?k__law_take ?a__law_pair ?l__law_pair ?c__law_pair ?k__law_pair ?a_in_order ?l_in_order ?c_in_order ?k_in_order ?a_is_known_relation ?l_is_known_relation ?c_is_known_relation ?k_is_known_relation ?a_check_relation ?l_check_relation ?c_check_relation ?k_check_relation ?a_check_two ?l_check_two ?c_check_two ?k_check_two ?a_both ?l_both ?c_both ?k_both ?a_turned_name ?l_turned_name ?c_turned_name ?k_turned_name ?a_converse_of ?l_converse_of ?c_converse_of ?k_converse_of ?a_converse ?l_converse ?c_converse ?k_converse ?a_either ?l_either ?c_either ?k_either ?a_is_integer ?l_is_integer ?c_is_integer ?k_is_integer ?a_is_between ?l_is_between ?c_is_between ?k_is_between ?a_is_known ?l_is_known ?c_is_known ?k_is_known ?lT_is_known ?hT_is_known ?a_check_interval ?l_check_interval ?c_check_interval ?k_check_interval ?lT_check_interval ?hT_check_interval ?a_place_in ?l_place_in ?c_place_in ?k_place_in ?a_name_of ?l_name_of ?c_name_of ?k_name_of ?a_relation_of ?l_relation_of ?c_relation_of ?k_relation_of ?a_rest ?l_rest ?c_rest ?k_rest ?a__law_said ?l__law_said ?c__law_said ?k__law_said ?a__law_same ?l__law_same ?c__law_same ?k__law_same ?a__law_names ?l__law_names ?c__law_names ?k__law_names ?a__law_turn ?l__law_turn ?c__law_turn ?k__law_turn ?a__law_pairs_right ?l__law_pairs_right ?c__law_pairs_right ?k__law_pairs_right ?a__law_bad_relation ?l__law_bad_relation ?c__law_bad_relation ?k__law_bad_relation ?a__law_relation ?l__law_relation ?c__law_relation ?k__law_relation ?a_is_relation ?l_is_relation ?c_is_relation ?k_is_relation ?a__law_refused ?l__law_refused ?c__law_refused ?k__law_refused ?a__law_ordered ?l__law_ordered ?c__law_ordered ?k__law_ordered ?a__law_relations_right ?l__law_relations_right ?c__law_relations_right ?k__law_relations_right ?a_law ?l_law ?c_law ?k_law ?z_abs ?z_all ?z_bool ?z_dict ?z_int ?z_isinstance ?z_len ?z_list ?z_max ?z_min ?z_range ?z_str ?z_sum ?z_tuple ?g_CODES ?t_CODES ?u_CODES ?h_CODES ?g_NAMES ?t_NAMES ?u_NAMES ?h_NAMES ?g_TURNED ?h_TURNED ?aC_IntervalError ?eC_IntervalError ?tC_IntervalError ?hC_IntervalError ?aC_InvalidInterval ?eC_InvalidInterval ?tC_InvalidInterval ?hC_InvalidInterval ?xL_InvalidInterval ?hb_InvalidInterval ?sa_InvalidInterval ?kC_InvalidInterval ?i_InvalidInterval ?ti_InvalidInterval ?l_IInvalidInterval ?c_IInvalidInterval ?k_IInvalidInterval ?no_InvalidInterval_given ?ga_InvalidInterval ?gg_InvalidInterval ?aC_InvalidRelation ?eC_InvalidRelation ?tC_InvalidRelation ?hC_InvalidRelation ?xL_InvalidRelation ?hb_InvalidRelation ?sa_InvalidRelation ?kC_InvalidRelation ?i_InvalidRelation ?ti_InvalidRelation ?l_IInvalidRelation ?c_IInvalidRelation ?k_IInvalidRelation ?no_InvalidRelation_given ?ga_InvalidRelation ?gg_InvalidRelation ?s_InvalidInterval_IntervalError ?s_InvalidRelation_IntervalError ?s_InvalidInterval_InvalidInterval ?s_InvalidRelation_InvalidInterval ?s_InvalidInterval_InvalidRelation ?s_InvalidRelation_InvalidRelation L25.law_true
    (case a__law_box => k_is)
    (case l__law_box => k_is)
    (case c__law_box => k_is)
    (case k__law_box => k_is)
    (case a__law_cell => k_is)
    (case l__law_cell => k_is)
    (case c__law_cell => k_is)
    (case k__law_cell => k_is)
    (case a__law_name => k_is)
    (case l__law_name => k_is)
    (case c__law_name => k_is)
    (case k__law_name => k_is)
    (case a__law_take => k_is)
    (case l__law_take => k_is)
    (case c__law_take => k_is)
    (case k__law_take => k_is)
    (case a__law_pair => k_is)
    (case l__law_pair => k_is)
    (case c__law_pair => k_is)
    (case k__law_pair => k_is)
    (case a_in_order => k_is)
    (case l_in_order => k_is)
    (case c_in_order => k_is)
    (case k_in_order => k_is)
    (case a_is_known_relation => k_is)
    (case l_is_known_relation => k_is)
    (case c_is_known_relation => k_is)
    (case k_is_known_relation => k_is)
    (case a_check_relation => k_is)
    (case l_check_relation => k_is)
    (case c_check_relation => k_is)
    (case k_check_relation => k_is)
    (case a_check_two => k_is)
    (case l_check_two => k_is)
    (case c_check_two => k_is)
    (case k_check_two => k_is)
    (case a_both => k_is)
    (case l_both => k_is)
    (case c_both => k_is)
    (case k_both => k_is)
    (case a_turned_name => k_is)
    (case l_turned_name => k_is)
    (case c_turned_name => k_is)
    (case k_turned_name => k_is)
    (case a_converse_of => k_is)
    (case l_converse_of => k_is)
    (case c_converse_of => k_is)
    (case k_converse_of => k_is)
    (case a_converse => k_is)
    (case l_converse => k_is)
    (case c_converse => k_is)
    (case k_converse => k_is)
    (case a_either => k_is)
    (case l_either => k_is)
    (case c_either => k_is)
    (case k_either => k_is)
    (case a_is_integer => k_is)
    (case l_is_integer => k_is)
    (case c_is_integer => k_is)
    (case k_is_integer => k_is)
    (case a_is_between => k_is)
    (case l_is_between => k_is)
    (case c_is_between => k_is)
    (case k_is_between => k_is)
    (case a_is_known => k_is)
    (case l_is_known => k_is)
    (case c_is_known => k_is)
    (case k_is_known => k_is)
    (case lT_is_known => k_is)
    (case hT_is_known => kernel_rfl)
    (case a_check_interval => k_is)
    (case l_check_interval => k_is)
    (case c_check_interval => k_is)
    (case k_check_interval => k_is)
    (case lT_check_interval => k_is)
    (case hT_check_interval => kernel_rfl)
    (case a_place_in => k_is)
    (case l_place_in => k_is)
    (case c_place_in => k_is)
    (case k_place_in => k_is)
    (case a_name_of => k_is)
    (case l_name_of => k_is)
    (case c_name_of => k_is)
    (case k_name_of => k_is)
    (case a_relation_of => k_is)
    (case l_relation_of => k_is)
    (case c_relation_of => k_is)
    (case k_relation_of => k_is)
    (case a_rest => k_is)
    (case l_rest => k_is)
    (case c_rest => k_is)
    (case k_rest => k_is)
    (case a__law_said => k_is)
    (case l__law_said => k_is)
    (case c__law_said => k_is)
    (case k__law_said => k_is)
    (case a__law_same => k_is)
    (case l__law_same => k_is)
    (case c__law_same => k_is)
    (case k__law_same => k_is)
    (case a__law_names => k_is)
    (case l__law_names => k_is)
    (case c__law_names => k_is)
    (case k__law_names => k_is)
    (case a__law_turn => k_is)
    (case l__law_turn => k_is)
    (case c__law_turn => k_is)
    (case k__law_turn => k_is)
    (case a__law_pairs_right => k_is)
    (case l__law_pairs_right => k_is)
    (case c__law_pairs_right => k_is)
    (case k__law_pairs_right => k_is)
    (case a__law_bad_relation => k_is)
    (case l__law_bad_relation => k_is)
    (case c__law_bad_relation => k_is)
    (case k__law_bad_relation => k_is)
    (case a__law_relation => k_is)
    (case l__law_relation => k_is)
    (case c__law_relation => k_is)
    (case k__law_relation => k_is)
    (case a_is_relation => k_is)
    (case l_is_relation => k_is)
    (case c_is_relation => k_is)
    (case k_is_relation => k_is)
    (case a__law_refused => k_is)
    (case l__law_refused => k_is)
    (case c__law_refused => k_is)
    (case k__law_refused => k_is)
    (case a__law_ordered => k_is)
    (case l__law_ordered => k_is)
    (case c__law_ordered => k_is)
    (case k__law_ordered => k_is)
    (case a__law_relations_right => k_is)
    (case l__law_relations_right => k_is)
    (case c__law_relations_right => k_is)
    (case k__law_relations_right => k_is)
    (case a_law => k_is)
    (case l_law => k_is)
    (case c_law => k_is)
    (case k_law => k_is)
    (case z_abs => k_is)
    (case z_all => k_is)
    (case z_bool => k_is)
    (case z_dict => k_is)
    (case z_int => k_is)
    (case z_isinstance => k_is)
    (case z_len => k_is)
    (case z_list => k_is)
    (case z_max => k_is)
    (case z_min => k_is)
    (case z_range => k_is)
    (case z_str => k_is)
    (case z_sum => k_is)
    (case z_tuple => k_is)
    (case g_CODES => k_is)
    (case t_CODES => k_is)
    (case u_CODES => decide)
    (case h_CODES => kernel_rfl)
    (case g_NAMES => k_is)
    (case t_NAMES => k_is)
    (case u_NAMES => decide)
    (case h_NAMES => kernel_rfl)
    (case g_TURNED => k_is)
    (case h_TURNED => kernel_rfl)
    (case aC_IntervalError => k_is)
    (case eC_IntervalError => k_is)
    (case tC_IntervalError => k_is)
    (case hC_IntervalError => k_is)
    (case aC_InvalidInterval => k_is)
    (case eC_InvalidInterval => k_is)
    (case tC_InvalidInterval => k_is)
    (case hC_InvalidInterval => k_is)
    (case xL_InvalidInterval => k_is)
    (case hb_InvalidInterval => kernel_rfl)
    (case sa_InvalidInterval => k_is)
    (case kC_InvalidInterval => k_is)
    (case i_InvalidInterval => k_is)
    (case ti_InvalidInterval => k_is)
    (case l_IInvalidInterval => k_is)
    (case c_IInvalidInterval => k_is)
    (case k_IInvalidInterval => k_is)
    (case no_InvalidInterval_given => k_is)
    (case ga_InvalidInterval => k_is)
    (case gg_InvalidInterval => k_is)
    (case aC_InvalidRelation => k_is)
    (case eC_InvalidRelation => k_is)
    (case tC_InvalidRelation => k_is)
    (case hC_InvalidRelation => k_is)
    (case xL_InvalidRelation => k_is)
    (case hb_InvalidRelation => kernel_rfl)
    (case sa_InvalidRelation => k_is)
    (case kC_InvalidRelation => k_is)
    (case i_InvalidRelation => k_is)
    (case ti_InvalidRelation => k_is)
    (case l_IInvalidRelation => k_is)
    (case c_IInvalidRelation => k_is)
    (case k_IInvalidRelation => k_is)
    (case no_InvalidRelation_given => k_is)
    (case ga_InvalidRelation => k_is)
    (case gg_InvalidRelation => k_is)
    (case s_InvalidInterval_IntervalError => (first | k_is | kernel_rfl))
    (case s_InvalidRelation_IntervalError => (first | k_is | kernel_rfl))
    (case s_InvalidInterval_InvalidInterval => (first | k_is | kernel_rfl))
    (case s_InvalidRelation_InvalidInterval => (first | k_is | kernel_rfl))
    (case s_InvalidInterval_InvalidRelation => (first | k_is | kernel_rfl))
    (case s_InvalidRelation_InvalidRelation => (first | k_is | kernel_rfl))
