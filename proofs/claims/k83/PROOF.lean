import PyProof.Rows.All
import Wide.All
import OpenK.AllK
import Wide.FinOn
import KE.KStateDown
import Lean
import HandS.ForMost
import HandS.More
import HandS.Walk
import HandS.Defaults
import HandS.Property
import HandS.IsInst
import HandS.Flow
import HandS.Style
import HandS.DictComp
import HandS.Wide
import HandS.WideBits
import HandS.WordsExc
import HandS.ClsMeth
import HandS.Conv
import HandS.TupMul
import HandS.TupLe
import HandS.Head0
import HandS.Head1
import HandS.Head2
import HandS.HeadEnd
import HandS.HeadHook1
import HandS.HeadHook2
import HandS.HeadHook3
import HandS.HeadNt
import HandS.Small
import KE.KDictSum
import HandS.Sort
import PySem.Challenge.RW_barredrows_k83_whole_texts_still_open
set_option Elab.async false
set_option linter.all false
set_option maxRecDepth 100000
set_option maxHeartbeats 4000000
namespace BR
open PySem L2

/-! ## data -/
inductive D where
  | non | bl (b : Bool) | int (i : Int) | str (x : Str) | ty (n : String) | obj (a : Addr)
  | lst (xs : List D) | tup (xs : List D)
  | dic (ks : List Key) (xs : List D)
  | ins (C : Addr) (ns : List Str) (xs : List D)
  | scr (ns : List Int)

structure Exc where
  cls : Value
  ns : List Str
  xs : List D

inductive R (α : Type) where
  | ok (a : α) | exc (x : Exc) | no
def R.bind {α β : Type} : R α → (α → R β) → R β
  | .ok a, f => f a
  | .exc x, _ => .exc x
  | .no, _ => .no
instance : Monad R where
  pure := R.ok
  bind := R.bind
section
variable {α β : Type}
@[simp] theorem ok_bind (a : α) (f : α → R β) : (R.ok a >>= f) = f a := rfl
@[simp] theorem exc_bind (x : Exc) (f : α → R β) : (R.exc x >>= f) = R.exc x := rfl
@[simp] theorem no_bind (f : α → R β) : (R.no >>= f) = R.no := rfl
theorem pure_ok (a : α) : (pure a : R α) = R.ok a := rfl
def Wp (r : R α) (P : α → Prop) (E : Exc → Prop) : Prop := match r with
  | .ok a => P a
  | .exc x => E x
  | .no => False
theorem Wp.bind {r : R α} {f : α → R β} {P : β → Prop} {E : Exc → Prop} (h : Wp (r >>= f) P E) : Wp r (fun a => Wp (f a) P E) E := by
  cases r <;> exact h
theorem Wp.mono {r : R α} {P P' : α → Prop} {E E' : Exc → Prop} (h : Wp r P E) (hp : ∀ a, r = .ok a → P a → P' a) (he : ∀ x, r = .exc x → E x → E' x) : Wp r P' E' := by
  cases r with
  | ok a => exact hp a rfl h
  | exc x => exact he x rfl h
  | no => exact h
def ofO {α : Type} : Option α → R α
  | some a => .ok a
  | none => .no
@[simp] theorem ofO_some {α : Type} (a : α) : ofO (some a) = .ok a := rfl
@[simp] theorem ofO_none {α : Type} : (ofO none : R α) = .no := rfl
theorem Wp.opt {o : Option α} {f : α → R β} {P : β → Prop} {E : Exc → Prop} (h : Wp (ofO o >>= f) P E) : ∃ a, o = some a ∧ Wp (f a) P E := by
  cases o with
  | none => exact h.elim
  | some a => exact ⟨a, rfl, h⟩
theorem Wp.of_ok {r : R α} {P : α → Prop} {E : Exc → Prop} {a : α} (e : r = .ok a) (h : P a) : Wp r P E := by
  rw [e]
  exact h
end

mutual
def Rep (K : PySem.W.Frag) (G : Hp) : D → V → Prop
  | .non, v => v = .non
  | .bl b, v => v = .bl b
  | .int i, v => v = .int i
  | .str x, v => v = .str x
  | .ty n, v => v = .ty n
  | .obj a, v => v = .ref a
  | .lst ds, v => ∃ a vs, v = .ref a ∧ G a = some (.lst vs) ∧ RepL K G ds vs
  | .scr ns, v => ∃ a, v = .ref a ∧ SqL K G a (ns.map V.int)
  | .tup ds, v => ∃ a vs, v = .ref a ∧ SqT K G a vs ∧ RepL K G ds vs
  | .dic ks ds, v => ∃ a kvs, v = .ref a ∧ Rd G a (.dK kvs) ∧ kvs.map (·.1) = ks ∧ RepL K G ds (kvs.map (·.2))
  | .ins C ns ds, v => ∃ a dx fs, v = .ref a ∧ G a = some (.ins C dx fs) ∧ fs.map (·.1) = ns ∧ RepL K G ds (fs.map (·.2))
def RepL (K : PySem.W.Frag) (G : Hp) : List D → List V → Prop
  | [], vs => vs = []
  | d :: ds, vs => ∃ v vs', vs = v :: vs' ∧ Rep K G d v ∧ RepL K G ds vs'
end

theorem sq_l {K : PySem.W.Frag} {G G' : Hp} (e : Same G G') {a : Addr} {vs : List V} (h : SqL K G a vs) : SqL K G' a vs := e.seq h
theorem rd_s {G G' : Hp} (e : Same G G') {a : Addr} {u : HO} (h : Rd G a u) : Rd G' a u := by
  rcases h with h | ⟨o, h⟩
  · exact .inl (e _ _ h)
  · exact .inr ⟨o, e _ _ h⟩
theorem sq_t {K : PySem.W.Frag} {G G' : Hp} (e : Same G G') {a : Addr} {vs : List V} (h : SqT K G a vs) : SqT K G' a vs := by
  rcases h with h | h
  · exact .inl (rd_s e h)
  · exact .inr h

mutual
theorem Rep.mono {K : PySem.W.Frag} {G G' : Hp} (e : Same G G') : ∀ (d : D) {v : V}, Rep K G d v → Rep K G' d v
  | .non, _, h => by unfold Rep at h ⊢; exact h
  | .bl b, _, h => by unfold Rep at h ⊢; exact h
  | .int i, _, h => by unfold Rep at h ⊢; exact h
  | .str x, _, h => by unfold Rep at h ⊢; exact h
  | .ty n, _, h => by unfold Rep at h ⊢; exact h
  | .obj a, _, h => by unfold Rep at h ⊢; exact h
  | .lst ds, _, h => by
    unfold Rep at h ⊢
    obtain ⟨a, vs, e1, e2, e3⟩ := h
    exact ⟨a, vs, e1, e _ _ e2, RepL.mono e ds e3⟩
  | .scr ns, _, h => by
    unfold Rep at h ⊢
    obtain ⟨a, e1, e2⟩ := h
    exact ⟨a, e1, sq_l e e2⟩
  | .tup ds, _, h => by
    unfold Rep at h ⊢
    obtain ⟨a, vs, e1, e2, e3⟩ := h
    exact ⟨a, vs, e1, sq_t e e2, RepL.mono e ds e3⟩
  | .dic ks ds, _, h => by
    unfold Rep at h ⊢
    obtain ⟨a, kvs, e1, e2, e3, e4⟩ := h
    exact ⟨a, kvs, e1, rd_s e e2, e3, RepL.mono e ds e4⟩
  | .ins C ns ds, _, h => by
    unfold Rep at h ⊢
    obtain ⟨a, dx, fs, e1, e2, e3, e4⟩ := h
    exact ⟨a, dx, fs, e1, e _ _ e2, e3, RepL.mono e ds e4⟩
theorem RepL.mono {K : PySem.W.Frag} {G G' : Hp} (e : Same G G') : ∀ (ds : List D) {vs : List V}, RepL K G ds vs → RepL K G' ds vs
  | [], _, h => by unfold RepL at h ⊢; exact h
  | d :: ds, _, h => by
    unfold RepL at h ⊢
    obtain ⟨v, vs', e1, e2, e3⟩ := h
    exact ⟨v, vs', e1, Rep.mono e d e2, RepL.mono e ds e3⟩
end
section
variable {K : PySem.W.Frag} {G : Hp}
theorem repL_nil {vs : List V} : RepL K G [] vs ↔ vs = [] := by unfold RepL; exact Iff.rfl
theorem repL_cons {d : D} {ds : List D} {vs : List V} : RepL K G (d :: ds) vs ↔ ∃ v vs', vs = v :: vs' ∧ Rep K G d v ∧ RepL K G ds vs' := by
  constructor
  · intro h; unfold RepL at h; exact h
  · intro h; unfold RepL; exact h
theorem RepL.nil : RepL K G [] [] := repL_nil.mpr rfl
theorem RepL.cons {d : D} {ds : List D} {v : V} {vs : List V} (a : Rep K G d v) (b : RepL K G ds vs) : RepL K G (d :: ds) (v :: vs) := repL_cons.mpr ⟨v, vs, rfl, a, b⟩
theorem RepL.length : ∀ {ds : List D} {vs : List V}, RepL K G ds vs → ds.length = vs.length
  | [], vs, h => by rw [repL_nil.mp h]; rfl
  | d :: ds, vs, h => by
    obtain ⟨v, vs', rfl, _, h⟩ := repL_cons.mp h
    simp [RepL.length h]
theorem RepL.append : ∀ {ds es : List D} {vs ws : List V}, RepL K G ds vs → RepL K G es ws → RepL K G (ds ++ es) (vs ++ ws)
  | [], _, _, _, h, h2 => by rw [repL_nil.mp h]; exact h2
  | d :: ds, es, vs, ws, h, h2 => by
    obtain ⟨v, vs', rfl, h1, h⟩ := repL_cons.mp h
    exact .cons h1 (RepL.append h h2)
theorem RepL.get : ∀ {ds : List D} {vs : List V} {i : Nat} {d : D}, RepL K G ds vs → ds[i]? = some d → ∃ v, vs[i]? = some v ∧ Rep K G d v
  | [], _, _, _, _, e => by simp at e
  | d :: ds, vs, i, d', h, e => by
    obtain ⟨v, vs', rfl, h1, h⟩ := repL_cons.mp h
    cases i with
    | zero => simp at e; subst e; exact ⟨v, rfl, h1⟩
    | succ i => simp at e; simpa using RepL.get h e
theorem RepL.getV : ∀ {ds : List D} {vs : List V} {i : Nat} {v : V}, RepL K G ds vs → vs[i]? = some v → ∃ d, ds[i]? = some d ∧ Rep K G d v
  | [], vs, i, v, h, e => by rw [repL_nil.mp h] at e; simp at e
  | d :: ds, vs, i, v', h, e => by
    obtain ⟨v, vs', rfl, h1, h⟩ := repL_cons.mp h
    cases i with
    | zero => simp at e; subst e; exact ⟨d, rfl, h1⟩
    | succ i => simp at e; simpa using RepL.getV h e
theorem RepL.take : ∀ {ds : List D} {vs : List V} (n : Nat), RepL K G ds vs → RepL K G (ds.take n) (vs.take n)
  | _, _, 0, _ => by simpa using RepL.nil
  | [], vs, n + 1, h => by rw [repL_nil.mp h]; simpa using RepL.nil
  | d :: ds, vs, n + 1, h => by
    obtain ⟨v, vs', rfl, h1, h⟩ := repL_cons.mp h
    exact .cons h1 (RepL.take n h)
theorem RepL.drop : ∀ {ds : List D} {vs : List V} (n : Nat), RepL K G ds vs → RepL K G (ds.drop n) (vs.drop n)
  | _, _, 0, h => h
  | [], vs, n + 1, h => by rw [repL_nil.mp h]; simpa using RepL.nil
  | d :: ds, vs, n + 1, h => by
    obtain ⟨v, vs', rfl, h1, h⟩ := repL_cons.mp h
    exact RepL.drop n h
theorem RepL.set : ∀ {ds : List D} {vs : List V} (i : Nat) {d : D} {v : V}, RepL K G ds vs → Rep K G d v → RepL K G (ds.set i d) (vs.set i v)
  | [], vs, _, _, _, h, _ => by rw [repL_nil.mp h]; exact .nil
  | d :: ds, vs, 0, _, _, h, r => by
    obtain ⟨v, vs', rfl, h1, h⟩ := repL_cons.mp h
    exact .cons r h
  | d :: ds, vs, i + 1, _, _, h, r => by
    obtain ⟨v, vs', rfl, h1, h⟩ := repL_cons.mp h
    exact .cons h1 (RepL.set i h r)
theorem RepL.rep {d : D} {v : V} (h : Rep K G d v) : ∀ n, RepL K G (List.replicate n d) (List.replicate n v)
  | 0 => .nil
  | n + 1 => .cons h (RepL.rep h n)
end

/-! ## the two heaps: G (frozen) within H -/
def Lk (x : Option HO) (o : HO) : Prop := x = some o ∨ ∃ kvs od, o = .dK kvs ∧ x = some (.frz od o)
def Sub (G H : Hp) : Prop := ∀ b o, G b = some o → Lk (H b) o
section
variable {K : PySem.W.Frag} {G H : Hp}
theorem Sub.rd {a : Addr} {u : HO} (s : Sub G H) (h : Rd G a u) : Rd H a u := by
  rcases h with h | ⟨o, h⟩
  · rcases s _ _ h with e | ⟨kvs, od, e1, e⟩
    · exact .inl e
    · exact .inr ⟨od, e⟩
  · rcases s _ _ h with e | ⟨kvs, od, e1, e⟩
    · exact .inr ⟨o, e⟩
    · cases e1
theorem Sub.l {a : Addr} {vs : List V} (s : Sub G H) (h : SqL K G a vs) : SqL K H a vs := by
  rcases h with h | h
  · exact .inl (s.rd h)
  · exact .inr h
theorem Sub.t {a : Addr} {vs : List V} (s : Sub G H) (h : SqT K G a vs) : SqT K H a vs := by
  rcases h with h | h
  · exact .inl (s.rd h)
  · exact .inr h
theorem Sub.i {a C dx : Addr} {fs : List (Str × V)} (s : Sub G H) (h : G a = some (.ins C dx fs)) : H a = some (.ins C dx fs) := by
  rcases s _ _ h with e | ⟨kvs, od, e1, e⟩
  · exact e
  · cases e1
theorem Sub.ls {a : Addr} {vs : List V} (s : Sub G H) (h : G a = some (.lst vs)) : H a = some (.lst vs) := by
  rcases s _ _ h with e | ⟨kvs, od, e1, e⟩
  · exact e
  · cases e1
theorem Sub.none {a : Addr} (s : Sub G H) (h : H a = none) : G a = none := by
  cases e : G a with
  | none => rfl
  | some o =>
    rcases s _ _ e with z | ⟨_, _, _, z⟩
    · rw [h] at z; cases z
    · rw [h] at z; cases z
end

/-- what stands at an owned address -/
def Cont (K : PySem.W.Frag) (G : Hp) : D → HO → Prop
  | .lst ds, o => ∃ vs, o = .lst vs ∧ RepL K G ds vs
  | .dic ks ds, o => ∃ kvs, o = .dK kvs ∧ kvs.map (·.1) = ks ∧ RepL K G ds (kvs.map (·.2))
  | .ins C ns ds, o => ∃ dx fs, o = .ins C dx fs ∧ fs.map (·.1) = ns ∧ RepL K G ds (fs.map (·.2))
  | _, _ => False
theorem Cont.mono {K : PySem.W.Frag} {G G' : Hp} (e : Same G G') {d : D} {o : HO} (h : Cont K G d o) : Cont K G' d o := by
  cases d with
  | lst ds => obtain ⟨vs, e1, e2⟩ := h; exact ⟨vs, e1, e2.mono e⟩
  | dic ks ds => obtain ⟨kvs, e1, e2, e3⟩ := h; exact ⟨kvs, e1, e2, e3.mono e⟩
  | ins C ns ds => obtain ⟨dx, fs, e1, e2, e3⟩ := h; exact ⟨dx, fs, e1, e2, e3.mono e⟩
  | _ => exact h.elim
/-- what is frozen at p is represented -/
theorem Cont.rep {K : PySem.W.Frag} {G : Hp} {d : D} {o : HO} {p : Addr} (hp : G p = some o) (h : Cont K G d o) : Rep K G d (.ref p) := by
  cases d with
  | lst ds => obtain ⟨vs, rfl, e2⟩ := h; unfold Rep; exact ⟨p, vs, rfl, hp, e2⟩
  | dic ks ds => obtain ⟨kvs, rfl, e2, e3⟩ := h; unfold Rep; exact ⟨p, kvs, rfl, .inl hp, e2, e3⟩
  | ins C ns ds => obtain ⟨dx, fs, rfl, e2, e3⟩ := h; unfold Rep; exact ⟨p, dx, fs, rfl, hp, e2, e3⟩
  | _ => exact h.elim
def OwnAt (K : PySem.W.Frag) (G H : Hp) (a : Addr) (d : D) : Prop := G a = none ∧ ∃ o, H a = some o ∧ Cont K G d o

/-! ## slots -/
inductive Sl where
  | sh (d : D) | own (d : D) | io (d : D)
@[simp] def Sl.d : Sl → D
  | .sh d => d
  | .own d => d
  | .io d => d
abbrev S := List (Option Sl)
def isMut (ρ : S) (i : Nat) : Prop := ∃ d, ρ[i]? = some (some (.own d)) ∨ ρ[i]? = some (some (.io d))
def isIo (ρ : S) (i : Nat) : Prop := ∃ d, ρ[i]? = some (some (.io d))
def SlR (K : PySem.W.Frag) (G H : Hp) (x : Option (Option V)) : Sl → Prop
  | .sh d => ∃ v, x = some (some v) ∧ Rep K G d v
  | .own d => ∃ a, x = some (some (.ref a)) ∧ OwnAt K G H a d
  | .io d => ∃ a, x = some (some (.ref a)) ∧ OwnAt K G H a d
def ads (σ : St) (ρ : S) (a : Addr) : Prop := ∃ i, isMut ρ i ∧ σ[i]? = some (some (.ref a))
structure Rel (K : PySem.W.Frag) (G H : Hp) (σ : St) (ρ : S) : Prop where
  len : ρ.length = σ.length
  sub : Sub G H
  sl : ∀ (i : Nat) (s : Sl), ρ[i]? = some (some s) → SlR K G H σ[i]? s
  dis : ∀ (i j : Nat) (a : Addr), isMut ρ i → isMut ρ j → σ[i]? = some (some (.ref a)) → σ[j]? = some (some (.ref a)) → i = j
structure Stp (A : Addr → Prop) (G H G' H' : Hp) : Prop where
  gg : Same G G'
  keep : ∀ b o, H b = some o → ¬ A b → H' b = some o
  thr : ∀ b, H' b = none → H b = none
  fr : ∀ b, H b ≠ none → ¬ A b → G b = none → G' b = none
structure Ker (ρ ρ' : S) : Prop where
  mu : ∀ i, isMut ρ' i → isMut ρ i
  io : ∀ i, isIo ρ i → isIo ρ' i
structure Out (K : PySem.W.Frag) (G H : Hp) (σ : St) (ρ : S) (G' H' : Hp) (ρ' : S) : Prop where
  rel : Rel K G' H' σ ρ'
  stp : Stp (ads σ ρ) G H G' H'
  ker : Ker ρ ρ'
section
variable {K : PySem.W.Frag} {G H G1 H1 G2 H2 : Hp} {σ : St} {ρ ρ1 ρ2 : S} {A A1 : Addr → Prop}
theorem Stp.refl : Stp A G H G H := ⟨Same.refl _, fun _ _ h _ => h, fun _ h => h, fun _ _ _ h => h⟩
theorem Stp.trans (a : Stp A G H G1 H1) (b : Stp A1 G1 H1 G2 H2) (h : ∀ c, H c ≠ none → A1 c → A c) : Stp A G H G2 H2 where
  gg := a.gg.trans b.gg
  keep := fun c o e n => b.keep c o (a.keep c o e n) fun z => n (h c (by rw [e]; simp) z)
  thr := fun c e => a.thr c (b.thr c e)
  fr := fun c e n g => b.fr c (fun z => e (a.thr c z)) (fun z => n (h c e z)) (a.fr c e n g)
theorem Stp.mono (a : Stp A G H G1 H1) (h : ∀ c, H c ≠ none → A c → A1 c) : Stp A1 G H G1 H1 :=
  ⟨a.gg, fun b o e n => a.keep b o e fun z => n (h b (by rw [e]; simp) z), a.thr, fun b e n => a.fr b e fun z => n (h b e z)⟩
theorem Ker.refl : Ker ρ ρ := ⟨fun _ h => h, fun _ h => h⟩
theorem Ker.trans (a : Ker ρ ρ1) (b : Ker ρ1 ρ2) : Ker ρ ρ2 := ⟨fun i h => a.mu i (b.mu i h), fun i h => b.io i (a.io i h)⟩
theorem Ker.ads (k : Ker ρ ρ1) {a : Addr} (h : ads σ ρ1 a) : ads σ ρ a := let ⟨i, m, e⟩ := h; ⟨i, k.mu i m, e⟩
theorem Out.refl (r : Rel K G H σ ρ) : Out K G H σ ρ G H ρ := ⟨r, .refl, .refl⟩
theorem Out.trans (a : Out K G H σ ρ G1 H1 ρ1) (b : Out K G1 H1 σ ρ1 G2 H2 ρ2) : Out K G H σ ρ G2 H2 ρ2 :=
  ⟨b.rel, a.stp.trans b.stp fun _ _ z => a.ker.ads z, a.ker.trans b.ker⟩

/-! ### new objects -/
theorem same_new {p : Addr} {o : HO} (h : G p = none) : Same G (upd G p o) := fun b u e => by
  rw [upd_ne (ne_of_none e h)]
  exact e
theorem lk_ne {x : Option HO} {o : HO} (h : Lk x o) : x ≠ none := by
  rcases h with h | ⟨_, _, _, h⟩ <;> rw [h] <;> simp
theorem lk_upd {p b : Addr} {o u : HO} (hp : H p = none) (h : Lk (H b) o) : Lk (upd H p u b) o := by
  have : b ≠ p := fun z => lk_ne h (by rw [z]; exact hp)
  rw [upd_ne this]
  exact h
theorem OwnAt.new {p a : Addr} {d : D} {o : HO} (hp : H p = none) (h : OwnAt K G H a d) : OwnAt K G (upd H p o) a d := by
  obtain ⟨h1, u, h2, h3⟩ := h
  exact ⟨h1, u, by rw [upd_ne (ne_of_none h2 hp)]; exact h2, h3⟩
theorem OwnAt.grow {p a : Addr} {d : D} {o : HO} (hg : G p = none) (hn : a ≠ p) (h : OwnAt K G H a d) : OwnAt K (upd G p o) H a d := by
  obtain ⟨h1, u, h2, h3⟩ := h
  exact ⟨by rw [upd_ne hn]; exact h1, u, h2, h3.mono (same_new hg)⟩
/-- a new owned (or dropped) object -/
theorem Rel.new {p : Addr} {o : HO} (r : Rel K G H σ ρ) (hp : H p = none) : Rel K G (upd H p o) σ ρ where
  len := r.len
  sub := fun b u e => lk_upd hp (r.sub b u e)
  sl := fun i s e => by
    have h := r.sl i s e
    cases s with
    | sh d => exact h
    | own d => obtain ⟨a, e1, h⟩ := h; exact ⟨a, e1, h.new hp⟩
    | io d => obtain ⟨a, e1, h⟩ := h; exact ⟨a, e1, h.new hp⟩
  dis := r.dis
theorem Stp.new {p : Addr} {o : HO} (hp : H p = none) : Stp A G H G (upd H p o) where
  gg := Same.refl _
  keep := fun b u e _ => by rw [upd_ne (ne_of_none e hp)]; exact e
  thr := fun b e => by
    by_cases h : b = p
    · rw [h]; exact hp
    · rw [upd_ne h] at e; exact e
  fr := fun _ _ _ h => h
/-- what is not of a slot is frozen -/
theorem Rel.grow {p : Addr} {o : HO} (r : Rel K G H σ ρ) (hg : G p = none) (hp : H p = some o) (hn : ¬ ads σ ρ p) : Rel K (upd G p o) H σ ρ where
  len := r.len
  sub := fun b u e => by
    by_cases h : b = p
    · subst h; rw [upd_same] at e; cases e; exact .inl hp
    · rw [upd_ne h] at e; exact r.sub b u e
  sl := fun i s e => by
    have h := r.sl i s e
    cases s with
    | sh d => obtain ⟨v, e1, h⟩ := h; exact ⟨v, e1, Rep.mono (same_new hg) _ h⟩
    | own d => obtain ⟨a, e1, h⟩ := h; exact ⟨a, e1, h.grow hg fun z => hn ⟨i, ⟨d, .inl e⟩, by rw [← z]; exact e1⟩⟩
    | io d => obtain ⟨a, e1, h⟩ := h; exact ⟨a, e1, h.grow hg fun z => hn ⟨i, ⟨d, .inr e⟩, by rw [← z]; exact e1⟩⟩
  dis := r.dis
theorem Rel.adsH {a : Addr} (r : Rel K G H σ ρ) (h : ads σ ρ a) : H a ≠ none ∧ G a = none := by
  obtain ⟨i, ⟨d, m⟩, e⟩ := h
  rcases m with m | m
  · obtain ⟨b, e1, h1, o, h2, _⟩ := r.sl i _ m
    rw [e] at e1; cases e1
    exact ⟨by rw [h2]; simp, h1⟩
  · obtain ⟨b, e1, h1, o, h2, _⟩ := r.sl i _ m
    rw [e] at e1; cases e1
    exact ⟨by rw [h2]; simp, h1⟩
theorem Out.new {p : Addr} {o : HO} (r : Rel K G H σ ρ) (hp : H p = none) : Out K G H σ ρ G (upd H p o) ρ := ⟨r.new hp, .new hp, .refl⟩
/-- a new object, frozen at once -/
theorem Out.lay {p : Addr} {o : HO} (r : Rel K G H σ ρ) (hp : H p = none) : Out K G H σ ρ (upd G p o) (upd H p o) ρ := by
  have hg := r.sub.none hp
  refine ⟨(r.new hp).grow hg upd_same fun z => (r.adsH z).1 hp, ⟨same_new hg, (Stp.new (A := ads σ ρ) (G := G) hp).keep, (Stp.new (A := ads σ ρ) (G := G) hp).thr, fun b e _ g => ?_⟩, .refl⟩
  rw [upd_ne fun z => e (by rw [z]; exact hp)]
  exact g
end

/-! ## handles -/
inductive Hd where
  | val (d : D) | slot (i : Nat) | tmp (d : D)
def Hold (K : PySem.W.Frag) (Hs G H : Hp) (σ : St) (ρ : S) : Hd → V → Prop
  | .val d, v => Rep K G d v
  | .slot i, v => σ[i]? = some (some v)
  | .tmp d, v => ∃ p, v = .ref p ∧ OwnAt K G H p d ∧ Hs p = none ∧ ¬ ads σ ρ p
@[simp] def look : Hd → S → Option D
  | .val d, _ => some d
  | .tmp d, _ => some d
  | .slot i, ρ => match ρ[i]? with
    | some (some s) => some s.d
    | _ => none
@[simp] def share : Hd → S → Option (D × S)
  | .val d, ρ => some (d, ρ)
  | .tmp d, ρ => some (d, ρ)
  | .slot i, ρ => match ρ[i]? with
    | some (some (.own d)) => some (d, ρ.set i (some (.sh d)))
    | some (some (.sh d)) => some (d, ρ)
    | _ => none
def RepP (K : PySem.W.Frag) (G H : Hp) (d : D) (v : V) : Prop := Rep K G d v ∨ ∃ a, v = .ref a ∧ OwnAt K G H a d
section
variable {K : PySem.W.Frag} {Hs Hs' G H G1 H1 : Hp} {σ : St} {ρ ρ1 : S} {v : V} {hd : Hd} {d : D}
theorem hold_look (r : Rel K G H σ ρ) (h : Hold K Hs G H σ ρ hd v) (e : look hd ρ = some d) : RepP K G H d v := by
  cases hd with
  | val d' => cases e; exact .inl h
  | tmp d' => cases e; obtain ⟨p, e1, h1, _⟩ := h; exact .inr ⟨p, e1, h1⟩
  | slot i =>
    have h' : σ[i]? = some (some v) := h
    replace e : (match ρ[i]? with | some (some s) => some s.d | _ => none) = some d := e
    split at e
    · rename_i s q
      cases e
      have z := r.sl i s q
      cases s with
      | sh d => obtain ⟨w, e1, h1⟩ := z; rw [h'] at e1; cases e1; exact .inl h1
      | own d => obtain ⟨a, e1, h1⟩ := z; rw [h'] at e1; cases e1; exact .inr ⟨a, rfl, h1⟩
      | io d => obtain ⟨a, e1, h1⟩ := z; rw [h'] at e1; cases e1; exact .inr ⟨a, rfl, h1⟩
    · cases e
theorem Hold.pers (o : Out K G H σ ρ G1 H1 ρ1) (h : Hold K Hs G H σ ρ hd v) : Hold K Hs G1 H1 σ ρ1 hd v := by
  cases hd with
  | val d' => exact Rep.mono o.stp.gg _ h
  | slot i => exact h
  | tmp d' =>
    obtain ⟨p, e1, ⟨h1, u, h2, h3⟩, h4, h5⟩ := h
    exact ⟨p, e1, ⟨o.stp.fr p (by rw [h2]; simp) h5 h1, u, o.stp.keep p u h2 h5, h3.mono o.stp.gg⟩, h4, fun z => h5 (o.ker.ads z)⟩
theorem Hold.back (k : ∀ b, Hs b = none → Hs' b = none) (h : Hold K Hs G H σ ρ hd v) : Hold K Hs' G H σ ρ hd v := by
  cases hd with
  | val d' => exact h
  | slot i => exact h
  | tmp d' => obtain ⟨p, e1, h2, h4, h5⟩ := h; exact ⟨p, e1, h2, k p h4, h5⟩
theorem isMut_set {i j : Nat} {x : Option Sl} (h : isMut (ρ.set i x) j) (hx : ∀ d, x ≠ some (.own d) ∧ x ≠ some (.io d)) : j ≠ i ∧ isMut ρ j := by
  obtain ⟨d, h⟩ := h
  by_cases e : i = j
  · subst e
    rw [List.getElem?_set] at h
    simp only [if_true] at h
    split at h
    · rcases h with h | h
      · exact absurd (Option.some.inj h) (hx d).1
      · exact absurd (Option.some.inj h) (hx d).2
    · rcases h with h | h <;> cases h
  · rw [List.getElem?_set_ne e] at h
    exact ⟨fun z => e z.symm, d, h⟩
/-- an owned slot is frozen -/
theorem Rel.freeze {i : Nat} (r : Rel K G H σ ρ) (e : ρ[i]? = some (some (.own d))) (hv : σ[i]? = some (some v)) : ∃ G', Out K G H σ ρ G' H (ρ.set i (some (.sh d))) ∧ Rep K G' d v := by
  obtain ⟨a, e1, hg, o, ho, hc⟩ := r.sl i _ e
  rw [hv] at e1; cases e1
  have hil : i < ρ.length := (List.getElem?_eq_some_iff.mp e).1
  have hs : Same G (upd G a o) := same_new hg
  have adsA : ads σ ρ a := ⟨i, ⟨d, .inl e⟩, hv⟩
  have mset : ∀ j, isMut (ρ.set i (some (.sh d))) j → j ≠ i ∧ isMut ρ j := fun j h => isMut_set h fun d => ⟨nofun, nofun⟩
  have rp : Rep K (upd G a o) d (.ref a) := Cont.rep upd_same (hc.mono hs)
  refine ⟨upd G a o, ⟨⟨by rw [List.length_set]; exact r.len, fun b u q => ?_, fun j s q => ?_, fun j k b m1 m2 => r.dis j k b (mset j m1).2 (mset k m2).2⟩, ⟨hs, fun _ _ h _ => h, fun _ h => h, fun b _ n g => ?_⟩, ⟨fun j m => (mset j m).2, fun j m => ?_⟩⟩, rp⟩
  · by_cases h : b = a
    · subst h; rw [upd_same] at q; cases q; exact .inl ho
    · rw [upd_ne h] at q; exact r.sub b u q
  · by_cases hj : i = j
    · subst hj
      rw [List.getElem?_set_self hil] at q; cases q
      exact ⟨_, hv, rp⟩
    · rw [List.getElem?_set_ne hj] at q
      have z := r.sl j s q
      cases s with
      | sh d' => obtain ⟨w, e2, h⟩ := z; exact ⟨w, e2, Rep.mono hs _ h⟩
      | own d' => obtain ⟨b, e2, h⟩ := z; exact ⟨b, e2, h.grow hg fun z => hj (r.dis i j a ⟨d, .inl e⟩ ⟨d', .inl q⟩ hv (by rw [← z]; exact e2))⟩
      | io d' => obtain ⟨b, e2, h⟩ := z; exact ⟨b, e2, h.grow hg fun z => hj (r.dis i j a ⟨d, .inl e⟩ ⟨d', .inr q⟩ hv (by rw [← z]; exact e2))⟩
  · rw [upd_ne fun z => n (by rw [z]; exact adsA)]; exact g
  · obtain ⟨d', m⟩ := m
    refine ⟨d', ?_⟩
    by_cases hj : i = j
    · subst hj; rw [e] at m; cases m
    · rw [List.getElem?_set_ne hj]; exact m
theorem share_ok {Gs : Hp} {ρs ρ' : S} (o : Out K Gs Hs σ ρs G H ρ) (h : Hold K Hs G H σ ρ hd v) (e : share hd ρ = some (d, ρ')) : ∃ G', Out K Gs Hs σ ρs G' H ρ' ∧ Same G G' ∧ Rep K G' d v := by
  cases hd with
  | val d' => cases e; exact ⟨G, o, Same.refl _, h⟩
  | tmp d' =>
    cases e
    obtain ⟨p, e1, ⟨h1, u, h2, h3⟩, h4, h5⟩ := h
    subst e1
    have hs : Same G (upd G p u) := same_new h1
    refine ⟨upd G p u, ⟨o.rel.grow h1 h2 h5, ⟨o.stp.gg.trans hs, o.stp.keep, o.stp.thr, fun b q n g => ?_⟩, o.ker⟩, hs, Cont.rep upd_same (h3.mono hs)⟩
    rw [upd_ne fun z => q (by rw [z]; exact h4)]
    exact o.stp.fr b q n g
  | slot i =>
    have h' : σ[i]? = some (some v) := h
    replace e : (match ρ[i]? with | some (some (.own d)) => some (d, ρ.set i (some (.sh d))) | some (some (.sh d)) => some (d, ρ) | _ => none) = some (d, ρ') := e
    split at e
    · rename_i d0 q
      cases e
      obtain ⟨G', o', rp⟩ := o.rel.freeze q h'
      exact ⟨G', o.trans o', o'.stp.gg, rp⟩
    · rename_i d0 q
      cases e
      obtain ⟨w, e1, h1⟩ := o.rel.sl i _ q
      rw [h'] at e1; cases e1
      exact ⟨G, o, Same.refl _, h1⟩
    · cases e
end
end BR
set_option Elab.async false
set_option linter.all false
set_option maxRecDepth 100000
set_option maxHeartbeats 4000000
namespace BR
open PySem L2

/-! ## expressions -/
abbrev EF := S → R (Hd × S)
def ExR (K : PySem.W.Frag) (G H : Hp) (x : Exc) (c : Value) (d : Option Addr) : Prop :=
  c = x.cls ∧ ((∃ dx fs, d = some dx ∧ H dx = some (.xd fs) ∧ fs.map (·.1) = x.ns ∧ RepL K G x.xs (fs.map (·.2))) ∨ (x.ns = [] ∧ x.xs = []))
def ExE (K : PySem.W.Frag) (E : XK) (G H : Hp) (σ : St) (ρ : S) (x : Exc) : Prop :=
  ∀ c d G' H', Sub G' H' → Stp (ads σ ρ) G H G' H' → ExR K G' H' x c d → E c d H'
def Snd (K : PySem.W.Frag) (E : XK) (t : TE) (f : EF) : Prop := ∀ (G H : Hp) (σ : St) (ρ : S), Rel K G H σ ρ → ∀ Q : VK,
  Wp (f ρ) (fun z => ∀ v G' H', Out K G H σ ρ G' H' z.2 → Hold K H G' H' σ z.2 z.1 v → Q v H') (ExE K E G H σ ρ) → t σ H Q
def SndV (K : PySem.W.Frag) (E : XK) (t : TE) (f : S → R (D × S)) : Prop := ∀ (G H : Hp) (σ : St) (ρ : S), Rel K G H σ ρ → ∀ Q : VK,
  Wp (f ρ) (fun z => ∀ v G' H', Out K G H σ ρ G' H' z.2 → Rep K G' z.1 v → Q v H') (ExE K E G H σ ρ) → t σ H Q
def SndT (K : PySem.W.Frag) (E : XK) (t : TT) (f : S → R (Bool × S)) : Prop := ∀ (G H : Hp) (σ : St) (ρ : S), Rel K G H σ ρ → ∀ Q : Bool → Hp → Prop,
  Wp (f ρ) (fun z => ∀ G' H', Out K G H σ ρ G' H' z.2 → Q z.1 H') (ExE K E G H σ ρ) → t σ H Q
/-- shared arguments -/
def SndA (K : PySem.W.Frag) (E : XK) (t : TA) (f : S → R (List D × S)) : Prop := ∀ (G H : Hp) (σ : St) (ρ : S), Rel K G H σ ρ → ∀ Q : List V → Hp → Prop,
  Wp (f ρ) (fun z => ∀ vs G' H', Out K G H σ ρ G' H' z.2 → RepL K G' z.1 vs → Q vs H') (ExE K E G H σ ρ) → t σ H Q
inductive HoldL (K : PySem.W.Frag) (Hs G H : Hp) (σ : St) (ρ : S) : List Hd → List V → Prop where
  | nil : HoldL K Hs G H σ ρ [] []
  | cons {h : Hd} {hs : List Hd} {v : V} {vs : List V} : Hold K Hs G H σ ρ h v → HoldL K Hs G H σ ρ hs vs → HoldL K Hs G H σ ρ (h :: hs) (v :: vs)
/-- arguments by their handles -/
def SndH (K : PySem.W.Frag) (E : XK) (t : TA) (f : S → R (List Hd × S)) : Prop := ∀ (G H : Hp) (σ : St) (ρ : S), Rel K G H σ ρ → ∀ Q : List V → Hp → Prop,
  Wp (f ρ) (fun z => ∀ vs G' H', Out K G H σ ρ G' H' z.2 → HoldL K H G' H' σ z.2 z.1 vs → Q vs H') (ExE K E G H σ ρ) → t σ H Q

structure PR (X : Cx) (E : XK) (e : Expr) (f : EF) : Prop where
  ex : ∃ t, PE X e t ∧ Snd X.K E t f
structure PV (X : Cx) (E : XK) (e : Expr) (f : S → R (D × S)) : Prop where
  ex : ∃ t, PE X e t ∧ SndV X.K E t f
structure PB (X : Cx) (E : XK) (e : Expr) (f : S → R (Bool × S)) : Prop where
  ex : ∃ t, PT X e t ∧ SndT X.K E t f
/-- a test of and, or -/
structure PBw (X : Cx) (E : XK) (e : Expr) (f : S → R (Bool × S)) : Prop where
  ex : ∃ t, PW X e t ∧ SndT X.K E t f
structure PAs (X : Cx) (E : XK) (es : List Expr) (f : S → R (List D × S)) : Prop where
  ex : ∃ t, PA X es t ∧ SndA X.K E t f
structure PHs (X : Cx) (E : XK) (es : List Expr) (f : S → R (List Hd × S)) : Prop where
  ex : ∃ t, PA X es t ∧ SndH X.K E t f

section
variable {K : PySem.W.Frag} {E : XK} {G H G1 H1 Hs Hs' : Hp} {σ : St} {ρ ρ1 : S}
theorem ExE.step {x : Exc} (o : Out K G H σ ρ G1 H1 ρ1) (h : ExE K E G H σ ρ x) : ExE K E G1 H1 σ ρ1 x := fun c d G' H' s st r =>
  h c d G' H' s (o.stp.trans st fun _ _ z => o.ker.ads z) r
theorem HoldL.pers (o : Out K G H σ ρ G1 H1 ρ1) : ∀ {hs : List Hd} {vs : List V}, HoldL K Hs G H σ ρ hs vs → HoldL K Hs G1 H1 σ ρ1 hs vs
  | _, _, .nil => .nil
  | _, _, .cons h t => .cons (h.pers o) (t.pers o)
theorem HoldL.back (k : ∀ b, Hs b = none → Hs' b = none) : ∀ {hs : List Hd} {vs : List V}, HoldL K Hs G H σ ρ hs vs → HoldL K Hs' G H σ ρ hs vs
  | _, _, .nil => .nil
  | _, _, .cons h t => .cons (h.back k) (t.back k)
end

/-! ### a shared value -/
@[simp] def eV (f : EF) : S → R (D × S) := fun ρ => f ρ >>= fun z => ofO (share z.1 z.2)
section
variable {X : Cx} {E : XK} {e : Expr} {es : List Expr} {f : EF}
theorem PR.v (h : PR X E e f) : PV X E e (eV f) := by
  obtain ⟨t, pe, s⟩ := h.ex
  refine ⟨t, pe, fun G H σ ρ r Q hw => s G H σ ρ r Q (hw.bind.mono (fun z _ q v G' H' o h => ?_) fun _ _ q => q)⟩
  cases e1 : share z.1 z.2 with
  | none => rw [e1] at q; exact q.elim
  | some y =>
    rw [e1] at q
    obtain ⟨d, ρ'⟩ := y
    obtain ⟨G2, o2, _, rp⟩ := share_ok o h e1
    exact q v G2 H' o2 rp
@[simp] def aNil : S → R (List D × S) := fun ρ => .ok ([], ρ)
@[simp] def aCons (f : S → R (D × S)) (g : S → R (List D × S)) : S → R (List D × S) := fun ρ => f ρ >>= fun z => g z.2 >>= fun y => .ok (z.1 :: y.1, y.2)
theorem as_nil : PAs X E [] aNil := ⟨_, pa_nil, fun G H σ ρ r Q hw => hw [] G H (.refl r) .nil⟩
theorem as_cons {f : S → R (D × S)} {g : S → R (List D × S)} (h1 : PV X E e f) (h2 : PAs X E es g) (hs : starEach (e :: es) X.env = (false, eval e X.env) :: starEach es X.env := by rfl) : PAs X E (e :: es) (aCons f g) := by
  obtain ⟨t, pe, s⟩ := h1.ex
  obtain ⟨t2, pa, s2⟩ := h2.ex
  refine ⟨_, pa_cons pe pa hs, fun G H σ ρ r Q hw => s G H σ ρ r _ (hw.bind.mono (fun z _ q v G' H' o h => ?_) fun _ _ q => q)⟩
  refine s2 G' H' σ z.2 o.rel _ (q.bind.mono (fun y _ q2 vs G2 H2 o2 h2 => ?_) fun _ _ q2 => q2.step o)
  exact q2 (v :: vs) G2 H2 (o.trans o2) (.cons (Rep.mono o2.stp.gg _ h) h2)
@[simp] def hNil : S → R (List Hd × S) := fun ρ => .ok ([], ρ)
@[simp] def hCons (f : EF) (g : S → R (List Hd × S)) : S → R (List Hd × S) := fun ρ => f ρ >>= fun z => g z.2 >>= fun y => .ok (z.1 :: y.1, y.2)
theorem hs_nil : PHs X E [] hNil := ⟨_, pa_nil, fun G H σ ρ r Q hw => hw [] G H (.refl r) .nil⟩
theorem hs_cons {g : S → R (List Hd × S)} (h1 : PR X E e f) (h2 : PHs X E es g) (hs : starEach (e :: es) X.env = (false, eval e X.env) :: starEach es X.env := by rfl) : PHs X E (e :: es) (hCons f g) := by
  obtain ⟨t, pe, s⟩ := h1.ex
  obtain ⟨t2, pa, s2⟩ := h2.ex
  refine ⟨_, pa_cons pe pa hs, fun G H σ ρ r Q hw => s G H σ ρ r _ (hw.bind.mono (fun z _ q v G' H' o h => ?_) fun _ _ q => q)⟩
  refine s2 G' H' σ z.2 o.rel _ (q.bind.mono (fun y _ q2 vs G2 H2 o2 h2 => ?_) fun _ _ q2 => q2.step o)
  exact q2 (v :: vs) G2 H2 (o.trans o2) (.cons (h.pers o2) (h2.back o.stp.thr))

/-! ### names, constants -/
@[simp] def eVar (i : Nat) : EF := fun ρ => match ρ[i]? with
  | some (some (.sh d)) => .ok (.val d, ρ)
  | some (some (.own _)) => .ok (.slot i, ρ)
  | some (some (.io _)) => .ok (.slot i, ρ)
  | _ => .no
theorem pr_var (i : Nat) {x : Str} {pos : Pos} (hN : X.N[i]? = some x := by rfl) (hv : Vis X.env.scope x := by first | exact Or.inl rfl | exact Or.inr (Or.inl rfl) | exact Or.inr (Or.inr rfl)) (hd : (x == ("__debug__" : Str)) = false := by decide)
    (hcd : (x == ("__classdict__" : Str)) = false := by decide) : PR X E (.Name x pos) (eVar i) := by
  refine ⟨_, pe_var (i := i) hN hv hd hcd, fun G H σ ρ r Q hw => ?_⟩
  unfold eVar at hw
  split at hw
  · rename_i d q
    obtain ⟨v, e1, h⟩ := r.sl i _ q
    exact ⟨v, e1, hw v G H (.refl r) h⟩
  · rename_i d q
    obtain ⟨a, e1, h⟩ := r.sl i _ q
    exact ⟨_, e1, hw _ G H (.refl r) e1⟩
  · rename_i d q
    obtain ⟨a, e1, h⟩ := r.sl i _ q
    exact ⟨_, e1, hw _ G H (.refl r) e1⟩
  · exact hw.elim
@[simp] def eK (d : D) : EF := fun ρ => .ok (.val d, ρ)
theorem pr_const {d : D} {v : V} (h : PE X e (tC v)) (hr : ∀ G, Rep X.K G d v) : PR X E e (eK d) :=
  ⟨_, h, fun G H σ ρ r Q hw => hw v G H (.refl r) (hr G)⟩
theorem rep_int {K : PySem.W.Frag} {G : Hp} {i : Int} : Rep K G (.int i) (.int i) := by unfold Rep; rfl
theorem rep_bl {K : PySem.W.Frag} {G : Hp} {i : Bool} : Rep K G (.bl i) (.bl i) := by unfold Rep; rfl
theorem rep_non {K : PySem.W.Frag} {G : Hp} : Rep K G .non .non := by unfold Rep; rfl
theorem rep_str {K : PySem.W.Frag} {G : Hp} {x : Str} : Rep K G (.str x) (.str x) := by unfold Rep; rfl
theorem rep_ty {K : PySem.W.Frag} {G : Hp} {x : String} : Rep K G (.ty x) (.ty x) := by unfold Rep; rfl
theorem rep_obj {K : PySem.W.Frag} {G : Hp} {a : Addr} : Rep K G (.obj a) (.ref a) := by unfold Rep; rfl
theorem pr_int {i j pos} : PR X E (.Constant (.int i) j pos) (eK (.int i)) := pr_const pe_int fun _ => rep_int
theorem pr_bl {i j pos} : PR X E (.Constant (.bool i) j pos) (eK (.bl i)) := pr_const pe_bl fun _ => rep_bl
theorem pr_non {j pos} : PR X E (.Constant .none j pos) (eK .non) := pr_const pe_non fun _ => rep_non
theorem pr_str {x j pos} : PR X E (.Constant (.str x) j pos) (eK (.str x)) := pr_const pe_str fun _ => rep_str
theorem pr_gint {x : Str} {i : Int} {pos : Pos} (hg : Gl X x) (hm : ∃ t, X.mg x = some (.int i t)) (hd : (x == ("__debug__" : Str)) = false := by decide) : PR X E (.Name x pos) (eK (.int i)) :=
  let ⟨t, hm⟩ := hm
  pr_const (pe_glob (v := .int i) hg hm ⟨t, rfl⟩ hd) fun _ => rep_int
theorem pr_gstr {x z : Str} {pos : Pos} (hg : Gl X x) (hm : ∃ t, X.mg x = some (.str z t)) (hd : (x == ("__debug__" : Str)) = false := by decide) : PR X E (.Name x pos) (eK (.str z)) :=
  let ⟨t, hm⟩ := hm
  pr_const (pe_glob (v := .str z) hg hm ⟨t, rfl⟩ hd) fun _ => rep_str
theorem pr_gobj {x : Str} {a : Addr} {pos : Pos} (hg : Gl X x) (hm : X.mg x = some (.ref a)) (hd : (x == ("__debug__" : Str)) = false := by decide) : PR X E (.Name x pos) (eK (.obj a)) :=
  pr_const (pe_glob (v := .ref a) hg hm rfl hd) fun _ => rep_obj
theorem pr_type {x : Str} {n : String} {pos : Pos} (hg : Gl X x) (hm : X.mg x = none) (hv : bootBuiltins x = some (.type n)) (hn : x ≠ "__name__" := by decide) (hd : (x == ("__debug__" : Str)) = false := by decide) : PR X E (.Name x pos) (eK (.ty n)) :=
  pr_const (pe_bltn (v := .ty n) hg hm hv rfl hn hd) fun _ => rep_ty
end

/-! ### results of operations -/
inductive Rz where
  | im (d : D) | nw (d : D)
@[simp] def fin : Rz → S → R (Hd × S)
  | .im d, ρ => .ok (.val d, ρ)
  | .nw d, ρ => .ok (.tmp d, ρ)
def ResP (K : PySem.W.Frag) (G H : Hp) (Q : VK) : Rz → Prop
  | .im d => ∀ v, Rep K G d v → Q v H
  | .nw d => ∀ p o, H p = none → Cont K G d o → Q (.ref p) (upd H p o)
section
variable {K : PySem.W.Frag} {G H Gs Hs : Hp} {σ : St} {ρ ρs : S}
theorem fin_ok {E : Exc → Prop} {z : Rz} {Q : VK} (o : Out K Gs Hs σ ρs G H ρ) (h : Wp (fin z ρ) (fun z => ∀ v G' H', Out K Gs Hs σ ρs G' H' z.2 → Hold K Hs G' H' σ z.2 z.1 v → Q v H') E) : ResP K G H Q z := by
  cases z with
  | im d => exact fun v hv => h v G H o hv
  | nw d =>
    intro p u hp hc
    have hg := o.rel.sub.none hp
    refine h (.ref p) G (upd H p u) (o.trans (.new o.rel hp)) ⟨p, rfl, ⟨hg, u, upd_same, hc⟩, o.stp.thr p hp, fun z => (o.rel.adsH z).1 hp⟩
end
/-- an operation of two values -/
def OpD (K : PySem.W.Frag) (r : R2) (g : D → D → Option Rz) : Prop := ∀ (G H : Hp) (x y : D) (v w : V), Sub G H → RepP K G H x v → RepP K G H y w → ∀ (z : Rz) (Q : VK), g x y = some z → ResP K G H Q z → r v w H Q
def UnD (K : PySem.W.Frag) (r : V → Hp → VK → Prop) (g : D → Option Rz) : Prop := ∀ (G H : Hp) (x : D) (v : V), Sub G H → RepP K G H x v → ∀ (z : Rz) (Q : VK), g x = some z → ResP K G H Q z → r v H Q
@[simp] def eOp2 (g : D → D → Option Rz) (fa fb : EF) : EF := fun ρ => fa ρ >>= fun z1 => fb z1.2 >>= fun z2 => ofO (look z1.1 z2.2) >>= fun x => ofO (look z2.1 z2.2) >>= fun y => ofO (g x y) >>= fun r => fin r z2.2
@[simp] def eOp1 (g : D → Option Rz) (fa : EF) : EF := fun ρ => fa ρ >>= fun z1 => ofO (look z1.1 z1.2) >>= fun x => ofO (g x) >>= fun r => fin r z1.2
section
variable {X : Cx} {E : XK} {a b : Expr} {fa fb : EF} {pos : Pos} {r : R2} {g : D → D → Option Rz}
theorem snd_op2 {K : PySem.W.Frag} {ta tb : TE} (hg : OpD K r g) (sa : Snd K E ta fa) (sb : Snd K E tb fb) : Snd K E (tOp r ta tb) (eOp2 g fa fb) := by
  intro G H σ ρ R Q hw
  refine sa G H σ ρ R _ (hw.bind.mono (fun z1 _ q v G1 H1 o1 h1 => ?_) fun _ _ q => q)
  refine sb G1 H1 σ z1.2 o1.rel _ (q.bind.mono (fun z2 _ q2 w G2 H2 o2 h2 => ?_) fun _ _ q2 => q2.step o1)
  obtain ⟨x, ex, q2⟩ := q2.opt
  obtain ⟨y, ey, q2⟩ := q2.opt
  obtain ⟨z, ez, q2⟩ := q2.opt
  exact hg G2 H2 x y v w o2.rel.sub (hold_look o2.rel (h1.pers o2) ex) (hold_look o2.rel h2 ey) z Q ez (fin_ok (o1.trans o2) q2)
theorem pr_bin {op : Operator} (ho : OpR X (binaryOp op) r) (hg : OpD X.K r g) (pa : PR X E a fa) (pb : PR X E b fb) : PR X E (.BinOp a op b pos) (eOp2 g fa fb) := by
  obtain ⟨ta, pa, sa⟩ := pa.ex
  obtain ⟨tb, pb, sb⟩ := pb.ex
  exact ⟨_, pe_op ho pa pb, snd_op2 hg sa sb⟩
theorem pr_cmp {op : CmpOp} (ho : OpR X (compareOp op) r) (hg : OpD X.K r g) (pa : PR X E a fa) (pb : PR X E b fb) (hm : behindInMarks op b = false) : PR X E (.Compare a [op] [b] pos) (eOp2 g fa fb) := by
  obtain ⟨ta, pa, sa⟩ := pa.ex
  obtain ⟨tb, pb, sb⟩ := pb.ex
  exact ⟨_, pe_cmpR ho pa pb hm, snd_op2 hg sa sb⟩
theorem pr_un {op : UnaryOp} {r : V → Hp → VK → Prop} {g : D → Option Rz} (ho : UnR X (unaryOp op) r) (hg : UnD X.K r g) (pa : PR X E a fa) : PR X E (.UnaryOp op a pos) (eOp1 g fa) := by
  obtain ⟨ta, pa, sa⟩ := pa.ex
  refine ⟨_, pe_un ho pa, fun G H σ ρ R Q hw => ?_⟩
  refine sa G H σ ρ R _ (hw.bind.mono (fun z1 _ q v G1 H1 o1 h1 => ?_) fun _ _ q => q)
  obtain ⟨x, ex, q2⟩ := q.opt
  obtain ⟨z, ez, q2⟩ := q2.opt
  exact hg G1 H1 x v o1.rel.sub (hold_look o1.rel h1 ex) z Q ez (fin_ok o1 q2)
/-- o[i], by values -/
theorem pr_ix {r : R2} (hr : IxR X r) (hg : OpD X.K r g) (pa : PR X E a fa) (pb : PR X E b fb) (hs : PlainIx b) : PR X E (.Subscript a b pos) (eOp2 g fa fb) := by
  obtain ⟨ta, pa, sa⟩ := pa.ex
  obtain ⟨tb, pb, sb⟩ := pb.ex
  exact ⟨_, pe_ix hr pa pb hs, snd_op2 hg sa sb⟩
end
/-- a chain of two comparisons of ints: a op b op' c -/
@[simp] def eChain (p p' : Int → Int → Bool) (fa fb fc : EF) : EF := fun ρ => fa ρ >>= fun z1 => fb z1.2 >>= fun z2 => ofO (look z1.1 z2.2) >>= fun x => ofO (look z2.1 z2.2) >>= fun y =>
  match x, y with
  | .int i, .int j => if p i j = true then fc z2.2 >>= fun z3 => ofO (look z3.1 z3.2) >>= fun u => (match u with
      | .int k => .ok (.val (.bl (p' j k)), z3.2)
      | _ => .no) else .ok (.val (.bl false), z2.2)
  | _, _ => .no
theorem Hold.val {K : PySem.W.Frag} {Hs G H : Hp} {σ : St} {ρ : S} {d : D} {v : V} (h : Rep K G d v) : Hold K Hs G H σ ρ (.val d) v := h
theorem RepP.int {K : PySem.W.Frag} {G H : Hp} {i : Int} {v : V} (h : RepP K G H (.int i) v) : v = .int i := by
  rcases h with h | ⟨a, _, _, o, _, h⟩
  · unfold Rep at h; exact h
  · exact h.elim
theorem RepP.bl {K : PySem.W.Frag} {G H : Hp} {i : Bool} {v : V} (h : RepP K G H (.bl i) v) : v = .bl i := by
  rcases h with h | ⟨a, _, _, o, _, h⟩
  · unfold Rep at h; exact h
  · exact h.elim
theorem RepP.str {K : PySem.W.Frag} {G H : Hp} {i : Str} {v : V} (h : RepP K G H (.str i) v) : v = .str i := by
  rcases h with h | ⟨a, _, _, o, _, h⟩
  · unfold Rep at h; exact h
  · exact h.elim
theorem RepP.non {K : PySem.W.Frag} {G H : Hp} {v : V} (h : RepP K G H .non v) : v = .non := by
  rcases h with h | ⟨a, _, _, o, _, h⟩
  · unfold Rep at h; exact h
  · exact h.elim
theorem RepP.ty {K : PySem.W.Frag} {G H : Hp} {n : String} {v : V} (h : RepP K G H (.ty n) v) : v = .ty n := by
  rcases h with h | ⟨a, _, _, o, _, h⟩
  · unfold Rep at h; exact h
  · exact h.elim
theorem RepP.obj {K : PySem.W.Frag} {G H : Hp} {n : Addr} {v : V} (h : RepP K G H (.obj n) v) : v = .ref n := by
  rcases h with h | ⟨a, _, _, o, _, h⟩
  · unfold Rep at h; exact h
  · exact h.elim
theorem RepP.lst {K : PySem.W.Frag} {G H : Hp} {ds : List D} {v : V} (s : Sub G H) (h : RepP K G H (.lst ds) v) : ∃ a vs, v = .ref a ∧ H a = some (.lst vs) ∧ RepL K G ds vs := by
  rcases h with h | ⟨a, e, _, o, ho, vs, rfl, h⟩
  · unfold Rep at h
    obtain ⟨a, vs, e, h1, h2⟩ := h
    exact ⟨a, vs, e, s.ls h1, h2⟩
  · exact ⟨a, vs, e, ho, h⟩
theorem RepP.scr {K : PySem.W.Frag} {G H : Hp} {ns : List Int} {v : V} (s : Sub G H) (h : RepP K G H (.scr ns) v) : ∃ a, v = .ref a ∧ SqL K H a (ns.map V.int) := by
  rcases h with h | ⟨a, e, _, o, ho, h⟩
  · unfold Rep at h
    obtain ⟨a, e, h1⟩ := h
    exact ⟨a, e, s.l h1⟩
  · exact h.elim
theorem RepP.tup {K : PySem.W.Frag} {G H : Hp} {ds : List D} {v : V} (s : Sub G H) (h : RepP K G H (.tup ds) v) : ∃ a vs, v = .ref a ∧ SqT K H a vs ∧ RepL K G ds vs := by
  rcases h with h | ⟨a, e, _, o, ho, h⟩
  · unfold Rep at h
    obtain ⟨a, vs, e, h1, h2⟩ := h
    exact ⟨a, vs, e, s.t h1, h2⟩
  · exact h.elim
theorem RepP.dic {K : PySem.W.Frag} {G H : Hp} {ks : List Key} {ds : List D} {v : V} (s : Sub G H) (h : RepP K G H (.dic ks ds) v) : ∃ a kvs, v = .ref a ∧ Rd H a (.dK kvs) ∧ kvs.map (·.1) = ks ∧ RepL K G ds (kvs.map (·.2)) := by
  rcases h with h | ⟨a, e, _, o, ho, kvs, rfl, h, h2⟩
  · unfold Rep at h
    obtain ⟨a, vs, e, h1, h2, h3⟩ := h
    exact ⟨a, vs, e, s.rd h1, h2, h3⟩
  · exact ⟨a, kvs, e, .inl ho, h, h2⟩
theorem RepP.ins {K : PySem.W.Frag} {G H : Hp} {C : Addr} {ns : List Str} {ds : List D} {v : V} (s : Sub G H) (h : RepP K G H (.ins C ns ds) v) : ∃ a dx fs, v = .ref a ∧ H a = some (.ins C dx fs) ∧ fs.map (·.1) = ns ∧ RepL K G ds (fs.map (·.2)) := by
  rcases h with h | ⟨a, e, _, o, ho, dx, fs, rfl, h, h2⟩
  · unfold Rep at h
    obtain ⟨a, dx, fs, e, h1, h2, h3⟩ := h
    exact ⟨a, dx, fs, e, s.i h1, h2, h3⟩
  · exact ⟨a, dx, fs, e, ho, h, h2⟩
section
variable {X : Cx} {E : XK} {a b c : Expr} {fa fb fc : EF} {pos : Pos}
theorem snd_chain {K : PySem.W.Frag} {ta tb tc : TE} {p p' : Int → Int → Bool} (sa : Snd K E ta fa) (sb : Snd K E tb fb) (sc : Snd K E tc fc) : Snd K E (tChain (rI0 fun i j => .bl (p i j)) (rI0 fun i j => .bl (p' i j)) ta tb tc) (eChain p p' fa fb fc) := by
  intro G H σ ρ R Q hw
  refine sa G H σ ρ R _ (hw.bind.mono (fun z1 _ q v G1 H1 o1 h1 => ?_) fun _ _ q => q)
  refine sb G1 H1 σ z1.2 o1.rel _ (q.bind.mono (fun z2 _ q2 w G2 H2 o2 h2 => ?_) fun _ _ q2 => q2.step o1)
  obtain ⟨x, ex, q2⟩ := q2.opt
  obtain ⟨y, ey, q2⟩ := q2.opt
  have rx := hold_look o2.rel (h1.pers o2) ex
  have ry := hold_look o2.rel h2 ey
  cases x with
  | int i =>
    cases y with
    | int j =>
      have ev := rx.int; have ew := ry.int
      subst ev; subst ew
      refine ⟨i, j, rfl, rfl, p i j, rfl, ?_⟩
      by_cases hp : p i j = true
      · rw [if_pos hp]
        replace q2 := (show Wp (if p i j = true then _ else _) _ _ from q2)
        rw [if_pos hp] at q2
        refine sc G2 H2 σ z2.2 o2.rel _ (q2.bind.mono (fun z3 _ q3 u G3 H3 o3 h3 => ?_) fun _ _ q3 => q3.step (o1.trans o2))
        obtain ⟨u', eu, q3⟩ := q3.opt
        have ru := hold_look o3.rel h3 eu
        cases u' with
        | int k =>
          have eu' := ru.int
          subst eu'
          exact ⟨j, k, rfl, rfl, q3 _ G3 H3 ((o1.trans o2).trans o3) (Hold.val rep_bl)⟩
        | _ => exact q3.elim
      · rw [if_neg hp]
        replace q2 := (show Wp (if p i j = true then _ else _) _ _ from q2)
        rw [if_neg hp] at q2
        exact q2 (.bl false) G2 H2 (o1.trans o2) (Hold.val rep_bl)
    | _ => exact q2.elim
  | _ => exact q2.elim
theorem pr_chain {op op' : CmpOp} {p p' : Int → Int → Bool} (ho : OpR X (compareOp op) (rI0 fun i j => .bl (p i j))) (ho' : OpR X (compareOp op') (rI0 fun i j => .bl (p' i j))) (pa : PR X E a fa) (pb : PR X E b fb) (pc : PR X E c fc)
    (hm : lastMarks [op, op'] [b, c] = false := by with_unfolding_all rfl) : PR X E (.Compare a [op, op'] [b, c] pos) (eChain p p' fa fb fc) := by
  obtain ⟨ta, pa, sa⟩ := pa.ex
  obtain ⟨tb, pb, sb⟩ := pb.ex
  obtain ⟨tc, pc, sc⟩ := pc.ex
  exact ⟨_, pe_chain ho ho' pa pb pc hm, snd_chain sa sb sc⟩
/-! ### and, or, not as values of bools; tests -/
@[simp] def eAnd (fa fb : EF) : EF := fun ρ => fa ρ >>= fun z => match z.1 with
  | .val (.bl true) => fb z.2
  | .val (.bl false) => .ok (.val (.bl false), z.2)
  | _ => .no
@[simp] def eOr (fa fb : EF) : EF := fun ρ => fa ρ >>= fun z => match z.1 with
  | .val (.bl true) => .ok (.val (.bl true), z.2)
  | .val (.bl false) => fb z.2
  | _ => .no
@[simp] def eNot (fa : EF) : EF := fun ρ => fa ρ >>= fun z => match z.1 with
  | .val (.bl b) => .ok (.val (.bl (!b)), z.2)
  | _ => .no
theorem Hold.bl {K : PySem.W.Frag} {Hs G H : Hp} {σ : St} {ρ : S} {i : Bool} {v : V} (h : Hold K Hs G H σ ρ (.val (.bl i)) v) : v = .bl i := by
  have h' : Rep K G (.bl i) v := h
  unfold Rep at h'
  exact h'
variable {rest : List Expr}
theorem pr_and (pa : PR X E a fa) (pb : PR X E (.BoolOp .And (b :: rest) pos) fb) : PR X E (.BoolOp .And (a :: b :: rest) pos) (eAnd fa fb) := by
  obtain ⟨ta, pa, sa⟩ := pa.ex
  obtain ⟨tb, pb, sb⟩ := pb.ex
  refine ⟨_, pe_and pa pb, fun G H σ ρ R Q hw => ?_⟩
  refine sa G H σ ρ R _ (hw.bind.mono (fun z1 _ q v G1 H1 o1 h1 => ?_) fun _ _ q => q)
  split at q
  · rename_i e
    rw [e] at h1
    have := h1.bl; subst this
    refine ⟨true, rfl, iteT ?_⟩
    exact sb G1 H1 σ z1.2 o1.rel _ (q.mono (fun z2 _ q2 w G2 H2 o2 h2 => q2 w G2 H2 (o1.trans o2) (h2.back o1.stp.thr)) fun _ _ q2 => q2.step o1)
  · rename_i e
    rw [e] at h1
    have := h1.bl; subst this
    exact ⟨false, rfl, iteF (q (.bl false) G1 H1 o1 (Hold.val rep_bl))⟩
  · exact q.elim
theorem pr_or (pa : PR X E a fa) (pb : PR X E (.BoolOp .Or (b :: rest) pos) fb) : PR X E (.BoolOp .Or (a :: b :: rest) pos) (eOr fa fb) := by
  obtain ⟨ta, pa, sa⟩ := pa.ex
  obtain ⟨tb, pb, sb⟩ := pb.ex
  refine ⟨_, pe_or pa pb, fun G H σ ρ R Q hw => ?_⟩
  refine sa G H σ ρ R _ (hw.bind.mono (fun z1 _ q v G1 H1 o1 h1 => ?_) fun _ _ q => q)
  split at q
  · rename_i e
    rw [e] at h1
    have := h1.bl; subst this
    exact ⟨true, rfl, iteT (q (.bl true) G1 H1 o1 (Hold.val rep_bl))⟩
  · rename_i e
    rw [e] at h1
    have := h1.bl; subst this
    refine ⟨false, rfl, iteF ?_⟩
    exact sb G1 H1 σ z1.2 o1.rel _ (q.mono (fun z2 _ q2 w G2 H2 o2 h2 => q2 w G2 H2 (o1.trans o2) (h2.back o1.stp.thr)) fun _ _ q2 => q2.step o1)
  · exact q.elim
theorem pr_one {op} (pa : PR X E a fa) : PR X E (.BoolOp op [a] pos) fa := by
  obtain ⟨ta, pa, sa⟩ := pa.ex
  exact ⟨_, pe_one pa, sa⟩
theorem pr_not (pa : PR X E a fa) : PR X E (.UnaryOp .Not a pos) (eNot fa) := by
  obtain ⟨ta, pa, sa⟩ := pa.ex
  refine ⟨_, pe_not pa, fun G H σ ρ R Q hw => ?_⟩
  refine sa G H σ ρ R _ (hw.bind.mono (fun z1 _ q v G1 H1 o1 h1 => ?_) fun _ _ q => q)
  split at q
  · rename_i d e
    rw [e] at h1
    have := h1.bl; subst this
    exact ⟨d, rfl, q (.bl !d) G1 H1 o1 (Hold.val rep_bl)⟩
  · exact q.elim
/-- a value as a test -/
@[simp] def tstV (fa : EF) : S → R (Bool × S) := fun ρ => fa ρ >>= fun z => match z.1 with
  | .val (.bl b) => .ok (b, z.2)
  | _ => .no
theorem snd_tst {K : PySem.W.Frag} {ta : TE} (sa : Snd K E ta fa) : SndT K E (tB ta) (tstV fa) := by
  intro G H σ ρ R Q hw
  refine sa G H σ ρ R _ (hw.bind.mono (fun z1 _ q v G1 H1 o1 h1 => ?_) fun _ _ q => q)
  split at q
  · rename_i d e
    rw [e] at h1
    have := h1.bl; subst this
    exact ⟨d, rfl, q G1 H1 o1⟩
  · exact q.elim
theorem pb_val (pa : PR X E a fa) (he : ∀ whole, isTrue a X.env whole = (do let v ← whole; standAt a.pos; holding [v] (truthy v)) := by intro _; rfl) : PB X E a (tstV fa) := by
  obtain ⟨ta, pa, sa⟩ := pa.ex
  exact ⟨_, pt_val pa he, snd_tst sa⟩
theorem pb_cmp {op : CmpOp} {r : R2} {g : D → D → Option Rz} (ho : OpR X (compareOp op) r) (hg : OpD X.K r g) (pa : PR X E a fa) (pb : PR X E b fb) (hm : behindInMarks op b = false) : PB X E (.Compare a [op] [b] pos) (tstV (eOp2 g fa fb)) := by
  obtain ⟨ta, pa, sa⟩ := pa.ex
  obtain ⟨tb, pb, sb⟩ := pb.ex
  exact ⟨_, pt_cmpR ho pa pb hm, snd_tst (snd_op2 hg sa sb)⟩
theorem pb_chain {op op' : CmpOp} {p p' : Int → Int → Bool} (ho : OpR X (compareOp op) (rI0 fun i j => .bl (p i j))) (ho' : OpR X (compareOp op') (rI0 fun i j => .bl (p' i j))) (pa : PR X E a fa) (pb : PR X E b fb) (pc : PR X E c fc)
    (hm : lastMarks [op, op'] [b, c] = false := by with_unfolding_all rfl) : PB X E (.Compare a [op, op'] [b, c] pos) (tstV (eChain p p' fa fb fc)) := by
  obtain ⟨ta, pa, sa⟩ := pa.ex
  obtain ⟨tb, pb, sb⟩ := pb.ex
  obtain ⟨tc, pc, sc⟩ := pc.ex
  exact ⟨_, pt_chain ho ho' pa pb pc hm, snd_tst (snd_chain sa sb sc)⟩
variable {p q : S → R (Bool × S)}
@[simp] def tAndF (p q : S → R (Bool × S)) : S → R (Bool × S) := fun ρ => p ρ >>= fun z => if z.1 = true then q z.2 else .ok (false, z.2)
@[simp] def tOrF (p q : S → R (Bool × S)) : S → R (Bool × S) := fun ρ => p ρ >>= fun z => if z.1 = true then .ok (true, z.2) else q z.2
@[simp] def tNotF (p : S → R (Bool × S)) : S → R (Bool × S) := fun ρ => p ρ >>= fun z => .ok (!z.1, z.2)
theorem pb_w (h : PBw X E a p) : PB X E a p := let ⟨t, h1, h2⟩ := h.ex; ⟨t, h1.pt, h2⟩
theorem pb_and1 (h : PB X E a p) : PBw X E (.BoolOp .And [a] pos) p := let ⟨t, h1, h2⟩ := h.ex; ⟨t, pw_and1 h1, h2⟩
theorem pb_or1 (h : PB X E a p) : PBw X E (.BoolOp .Or [a] pos) p := let ⟨t, h1, h2⟩ := h.ex; ⟨t, pw_or1 h1, h2⟩
theorem pb_and (h : PB X E a p) (h' : PBw X E (.BoolOp .And (b :: rest) pos) q) : PBw X E (.BoolOp .And (a :: b :: rest) pos) (tAndF p q) := by
  obtain ⟨t, h1, s⟩ := h.ex
  obtain ⟨u, h2, s2⟩ := h'.ex
  refine ⟨_, pw_and h1 h2, fun G H σ ρ R Q hw => s G H σ ρ R _ (hw.bind.mono (fun z _ w G1 H1 o1 => ?_) fun _ _ w => w)⟩
  split at w
  · rename_i e
    rw [if_pos e]
    exact s2 G1 H1 σ z.2 o1.rel _ (w.mono (fun z2 _ w2 G2 H2 o2 => w2 G2 H2 (o1.trans o2)) fun _ _ w2 => w2.step o1)
  · rename_i e
    rw [if_neg e]
    exact w G1 H1 o1
theorem pb_or (h : PB X E a p) (h' : PBw X E (.BoolOp .Or (b :: rest) pos) q) : PBw X E (.BoolOp .Or (a :: b :: rest) pos) (tOrF p q) := by
  obtain ⟨t, h1, s⟩ := h.ex
  obtain ⟨u, h2, s2⟩ := h'.ex
  refine ⟨_, pw_or h1 h2, fun G H σ ρ R Q hw => s G H σ ρ R _ (hw.bind.mono (fun z _ w G1 H1 o1 => ?_) fun _ _ w => w)⟩
  split at w
  · rename_i e
    rw [if_pos e]
    exact w G1 H1 o1
  · rename_i e
    rw [if_neg e]
    exact s2 G1 H1 σ z.2 o1.rel _ (w.mono (fun z2 _ w2 G2 H2 o2 => w2 G2 H2 (o1.trans o2)) fun _ _ w2 => w2.step o1)
theorem pb_not (h : PB X E a p) : PB X E (.UnaryOp .Not a pos) (tNotF p) := by
  obtain ⟨t, h1, s⟩ := h.ex
  exact ⟨_, pt_not h1, fun G H σ ρ R Q hw => s G H σ ρ R _ (hw.bind.mono (fun z _ w G1 H1 o1 => w G1 H1 o1) fun _ _ w => w)⟩
@[simp] def eIf (p : S → R (Bool × S)) (fa fb : EF) : EF := fun ρ => p ρ >>= fun z => if z.1 = true then fa z.2 else fb z.2
theorem pr_if (h : PB X E c p) (pa : PR X E a fa) (pb : PR X E b fb) : PR X E (.IfExp c a b pos) (eIf p fa fb) := by
  obtain ⟨t, h1, s⟩ := h.ex
  obtain ⟨ta, pa, sa⟩ := pa.ex
  obtain ⟨tb, pb, sb⟩ := pb.ex
  refine ⟨_, pe_ifExp h1 pa pb, fun G H σ ρ R Q hw => s G H σ ρ R _ (hw.bind.mono (fun z _ w G1 H1 o1 => ?_) fun _ _ w => w)⟩
  split at w
  · rename_i e
    rw [if_pos e]
    exact sa G1 H1 σ z.2 o1.rel _ (w.mono (fun z2 _ w2 v G2 H2 o2 h2 => w2 v G2 H2 (o1.trans o2) (h2.back o1.stp.thr)) fun _ _ w2 => w2.step o1)
  · rename_i e
    rw [if_neg e]
    exact sb G1 H1 σ z.2 o1.rel _ (w.mono (fun z2 _ w2 v G2 H2 o2 h2 => w2 v G2 H2 (o1.trans o2) (h2.back o1.stp.thr)) fun _ _ w2 => w2.step o1)
/-! ### displays -/
variable {es : List Expr} {f : S → R (List D × S)}
@[simp] def eLst (f : S → R (List D × S)) : EF := fun ρ => f ρ >>= fun z => if z.1.length ≤ sizeLine then .ok (.tmp (.lst z.1), z.2) else .no
@[simp] def eTup (f : S → R (List D × S)) : EF := fun ρ => f ρ >>= fun z => if z.1.length ≤ sizeLine then .ok (.val (.tup z.1), z.2) else .no
theorem pr_lst (h : PAs X E es f) : PR X E (.List es pos) (eLst f) := by
  obtain ⟨t, pa, s⟩ := h.ex
  refine ⟨_, pe_lst pa, fun G H σ ρ R Q hw => s G H σ ρ R _ (hw.bind.mono (fun z _ w vs G1 H1 o1 h1 => ?_) fun _ _ w => w)⟩
  split at w
  · rename_i e
    refine ⟨by rw [← h1.length]; exact e, fun q hq => ?_⟩
    exact w _ G1 _ (o1.trans (.new o1.rel hq)) ⟨q, rfl, ⟨o1.rel.sub.none hq, _, upd_same, _, rfl, h1⟩, o1.stp.thr q hq, fun z => (o1.rel.adsH z).1 hq⟩
  · exact w.elim
theorem pr_tup {k : Nat} (h : PAs X E es f) : PR X E (.Tuple es k pos) (eTup f) := by
  obtain ⟨t, pa, s⟩ := h.ex
  refine ⟨_, pe_tup pa, fun G H σ ρ R Q hw => s G H σ ρ R _ (hw.bind.mono (fun z _ w vs G1 H1 o1 h1 => ?_) fun _ _ w => w)⟩
  split at w
  · rename_i e
    refine ⟨by rw [← h1.length]; exact e, fun q hq => ?_⟩
    have o2 := Out.lay (o := .tup vs) o1.rel hq
    refine w _ (upd G1 q (.tup vs)) _ (o1.trans o2) ?_
    show Rep _ _ (.tup z.1) _
    unfold Rep
    exact ⟨q, vs, rfl, .inl (.inl upd_same), h1.mono o2.stp.gg⟩
  · exact w.elim
end
end BR
set_option Elab.async false
set_option linter.all false
set_option maxRecDepth 100000
set_option maxHeartbeats 4000000
namespace BR
open PySem L2

/-! ## operations on data -/
mutual
def toP : D → Option PyData
  | .non => some .none
  | .bl b => some (.bool b)
  | .int i => some (.int i)
  | .str x => some (.str x)
  | .lst ds => (toPL ds).map .list
  | .tup ds => (toPL ds).map .tuple
  | _ => none
def toPL : List D → Option (List PyData)
  | [] => some []
  | d :: ds => match toP d, toPL ds with
    | some p, some ps => some (p :: ps)
    | _, _ => none
end
section
variable {K : PySem.W.Frag} {G H : Hp}
mutual
theorem dp_rep (s : Sub G H) : ∀ (d : D) {v : V} {p : PyData}, Rep K G d v → toP d = some p → Dp K H v p
  | .non, v, p, h, e => by unfold Rep at h; unfold toP at e; cases e; subst h; exact .non
  | .bl b, v, p, h, e => by unfold Rep at h; unfold toP at e; cases e; subst h; exact .bl b
  | .int b, v, p, h, e => by unfold Rep at h; unfold toP at e; cases e; subst h; exact .int b
  | .str b, v, p, h, e => by unfold Rep at h; unfold toP at e; cases e; subst h; exact .str b
  | .lst ds, v, p, h, e => by
    unfold Rep at h; unfold toP at e
    obtain ⟨a, vs, rfl, h1, h2⟩ := h
    cases q : toPL ds with
    | none => rw [q] at e; cases e
    | some ps => rw [q] at e; cases e; exact .lst (SqL.of (s.ls h1)) (dp_repL s ds h2 q)
  | .tup ds, v, p, h, e => by
    unfold Rep at h; unfold toP at e
    obtain ⟨a, vs, rfl, h1, h2⟩ := h
    cases q : toPL ds with
    | none => rw [q] at e; cases e
    | some ps => rw [q] at e; cases e; exact .tup (s.t h1) (dp_repL s ds h2 q)
  | .ty _, v, p, h, e => by unfold toP at e; cases e
  | .obj _, v, p, h, e => by unfold toP at e; cases e
  | .dic _ _, v, p, h, e => by unfold toP at e; cases e
  | .ins _ _ _, v, p, h, e => by unfold toP at e; cases e
  | .scr _, v, p, h, e => by unfold toP at e; cases e
theorem dp_repL (s : Sub G H) : ∀ (ds : List D) {vs : List V} {ps : List PyData}, RepL K G ds vs → toPL ds = some ps → DpAll K H vs ps
  | [], vs, ps, h, e => by rw [repL_nil.mp h]; unfold toPL at e; cases e; exact .nil
  | d :: ds, vs, ps, h, e => by
    obtain ⟨v, vs', rfl, h1, h2⟩ := repL_cons.mp h
    unfold toPL at e
    cases q : toP d with
    | none => rw [q] at e; cases e
    | some p =>
      cases q2 : toPL ds with
      | none => rw [q, q2] at e; cases e
      | some ps' => rw [q, q2] at e; cases e; exact .cons (dp_rep s d h1 q) (dp_repL s ds h2 q2)
end
theorem dp_repP (s : Sub G H) {d : D} {v : V} {p : PyData} (h : RepP K G H d v) (e : toP d = some p) : Dp K H v p := by
  rcases h with h | ⟨a, rfl, hg, o, ho, hc⟩
  · exact dp_rep s d h e
  · cases d with
    | lst ds =>
      obtain ⟨vs, rfl, h2⟩ := hc
      unfold toP at e
      cases q : toPL ds with
      | none => rw [q] at e; cases e
      | some ps => rw [q] at e; cases e; exact .lst (SqL.of ho) (dp_repL s ds h2 q)
    | dic ks ds => unfold toP at e; cases e
    | ins C ns ds => unfold toP at e; cases e
    | _ => exact hc.elim
end
def eqD (x y : D) : Option Bool := match x, y with
  | .int i, .int j => some (decide (i = j))
  | .str a, .str b => some (decide (a = b))
  | .bl a, .bl b => some (decide (a = b))
  | x, y => match toP x, toP y with
    | some p, some q => if (SeqAt.shaped p && SeqAt.shaped q) = true then some (PyData.eqv p q) else none
    | _, _ => none
def dEq (x y : D) : Option Rz := (eqD x y).map fun b => .im (.bl b)
def dNe (x y : D) : Option Rz := (eqD x y).map fun b => .im (.bl !b)
section
variable {X : Cx} {K : PySem.W.Frag}
def rEqB (K : PySem.W.Frag) : R2 := fun x y H Q => rEq x y H Q ∨ rEqD K x y H Q
def rNeB (K : PySem.W.Frag) : R2 := fun x y H Q => rNe x y H Q ∨ rNeD K x y H Q
theorem op_eqB (hu : X.A.units + 64 < cLine) : OpR X (compareOp .Eq) (rEqB X.K) := OpR.or op_eq (op_eqD hu)
theorem op_neB (hu : X.A.units + 64 < cLine) : OpR X (compareOp .NotEq) (rNeB X.K) := OpR.or op_ne (op_neD hu)
theorem eqD_cases {G H : Hp} {x y : D} {v w : V} {b : Bool} (s : Sub G H) (hx : RepP K G H x v) (hy : RepP K G H y w) (e : eqD x y = some b) :
    (scal v w = true ∧ b = decide (v = w)) ∨ ∃ p q, Dp K H v p ∧ Dp K H w q ∧ SeqAt.shaped p = true ∧ SeqAt.shaped q = true ∧ b = PyData.eqv p q := by
  have gen : ∀ {x y : D}, RepP K G H x v → RepP K G H y w → (match toP x, toP y with
    | some p, some q => if (SeqAt.shaped p && SeqAt.shaped q) = true then some (PyData.eqv p q) else none
    | _, _ => none) = some b → ∃ p q, Dp K H v p ∧ Dp K H w q ∧ SeqAt.shaped p = true ∧ SeqAt.shaped q = true ∧ b = PyData.eqv p q := by
    intro x y hx hy e
    split at e
    · rename_i p q e1 e2
      split at e
      · rename_i hs
        obtain ⟨s1, s2⟩ := Bool.and_eq_true_iff.mp hs
        cases e
        exact ⟨p, q, dp_repP s hx e1, dp_repP s hy e2, s1, s2, rfl⟩
      · cases e
    · cases e
  unfold eqD at e
  split at e
  · have := hx.int; have := hy.int; subst_vars; cases e
    exact .inl ⟨rfl, by simp⟩
  · have := hx.str; have := hy.str; subst_vars; cases e
    exact .inl ⟨rfl, by simp⟩
  · have := hx.bl; have := hy.bl; subst_vars; cases e
    exact .inl ⟨rfl, by simp⟩
  · exact .inr (gen hx hy e)
theorem d_eq : OpD K (rEqB K) dEq := by
  intro G H x y v w s hx hy z Q e h
  unfold dEq at e
  cases q : eqD x y with
  | none => rw [q] at e; cases e
  | some b =>
    rw [q] at e; cases e
    rcases eqD_cases s hx hy q with ⟨h1, h2⟩ | ⟨p, q, h1, h2, h3, h4, h5⟩
    · exact .inl ⟨h1, by rw [← h2]; exact h _ rep_bl⟩
    · exact .inr ⟨p, q, h1, h2, h3, h4, by rw [← h5]; exact h _ rep_bl⟩
theorem d_ne : OpD K (rNeB K) dNe := by
  intro G H x y v w s hx hy z Q e h
  unfold dNe at e
  cases q : eqD x y with
  | none => rw [q] at e; cases e
  | some b =>
    rw [q] at e; cases e
    rcases eqD_cases s hx hy q with ⟨h1, h2⟩ | ⟨p, q, h1, h2, h3, h4, h5⟩
    · exact .inl ⟨h1, by rw [← h2]; exact h _ rep_bl⟩
    · exact .inr ⟨p, q, h1, h2, h3, h4, by rw [← h5]; exact h _ rep_bl⟩
/-! ints -/
@[simp] def dI (g : Int → Int → D) (x y : D) : Option Rz := match x, y with
  | .int i, .int j => some (.im (g i j))
  | _, _ => none
open Classical in
noncomputable def dIc (C : Int → Int → Prop) (g : Int → Int → Int) (x y : D) : Option Rz := match x, y with
  | .int i, .int j => if C i j then some (.im (.int (g i j))) else none
  | _, _ => none
theorem d_I {g : Int → Int → D} {gv : Int → Int → V} (hg : ∀ i j G, Rep K G (g i j) (gv i j)) : OpD K (rI0 gv) (dI g) := by
  intro G H x y v w s hx hy z Q e h
  unfold dI at e
  split at e
  · have := hx.int; have := hy.int; subst_vars; cases e
    exact ⟨_, _, rfl, rfl, h _ (hg _ _ _)⟩
  · cases e
theorem d_Ib {g : Int → Int → Bool} : OpD K (rI0 fun i j => .bl (g i j)) (dI fun i j => .bl (g i j)) := d_I fun _ _ _ => rep_bl
theorem d_Ii {g : Int → Int → Int} : OpD K (rI0 fun i j => .int (g i j)) (dI fun i j => .int (g i j)) := d_I fun _ _ _ => rep_int
theorem d_Ic {C : Int → Int → Prop} {g : Int → Int → Int} : OpD K (rI C fun i j => .int (g i j)) (dIc C g) := by
  intro G H x y v w s hx hy z Q e h
  unfold dIc at e
  split at e
  · split at e
    · rename_i hc
      have := hx.int; have := hy.int; subst_vars; cases e
      exact ⟨_, _, rfl, rfl, hc, h _ rep_int⟩
    · cases e
  · cases e
theorem d_neg : UnD K (rU fun i => .int (-i)) (fun x => match x with | .int i => some (.im (.int (-i))) | _ => none) := by
  intro G H x v s hx z Q e h
  cases x with
  | int i => have := hx.int; subst_vars; cases e; exact ⟨_, rfl, h _ rep_int⟩
  | _ => cases e
/-! + -/
@[simp] def dAdd (x y : D) : Option Rz := match x, y with
  | .int i, .int j => some (.im (.int (i + j)))
  | .str a, .str b => if a.length + b.length ≤ sizeLine then some (.im (.str (a ++ b))) else none
  | .lst a, .lst b => if a.length + b.length ≤ sizeLine then some (.nw (.lst (a ++ b))) else none
  | _, _ => none
def rStrAdd : R2 := fun x y H Q => ∃ i j, x = .str i ∧ y = .str j ∧ i.length + j.length ≤ sizeLine ∧ Q (.str (i ++ j)) H
def rAddB : R2 := fun x y H Q => (rI0 (fun i j => .int (i + j)) x y H Q ∨ rStrAdd x y H Q) ∨ rCat x y H Q
theorem op_addB : OpR X (binaryOp .Add) rAddB := OpR.or (OpR.or op_add op_add_str) op_cat
theorem d_add : OpD K rAddB dAdd := by
  intro G H x y v w s hx hy z Q e h
  unfold dAdd at e
  split at e
  · have := hx.int; have := hy.int; subst_vars; cases e
    exact .inl (.inl ⟨_, _, rfl, rfl, h _ rep_int⟩)
  · split at e
    · rename_i hl
      have := hx.str; have := hy.str; subst_vars; cases e
      exact .inl (.inr ⟨_, _, rfl, rfl, hl, h _ rep_str⟩)
    · cases e
  · split at e
    · rename_i hl
      obtain ⟨a, vs, rfl, h1, h2⟩ := hx.lst s
      obtain ⟨b, ws, rfl, h3, h4⟩ := hy.lst s
      cases e
      exact .inr ⟨a, b, vs, ws, rfl, rfl, h1, h3, by rw [← h2.length, ← h4.length]; exact hl, fun p hp => h p _ hp ⟨_, rfl, h2.append h4⟩⟩
    · cases e
  · cases e
/-! * -/
open Classical in
noncomputable def dMul (x y : D) : Option Rz := match x, y with
  | .int i, .int j => if CMul i j then some (.im (.int (i * j))) else none
  | .str a, .int n => if 0 ≤ n ∧ n < 2 ^ 62 ∧ a.length * n.toNat ≤ sizeLine then some (.im (.str ⟨(List.replicate n.toNat a.cps.toList).flatten.toArray⟩)) else none
  | .lst a, .int n => if -(2 ^ 63) ≤ n ∧ n < 2 ^ 63 ∧ a.length * n.toNat ≤ sizeLine then some (.nw (.lst (List.replicate n.toNat a).flatten)) else none
  | _, _ => none
end
end BR
set_option Elab.async false
set_option linter.all false
set_option maxRecDepth 100000
set_option maxHeartbeats 4000000
namespace BR
open PySem L2

/-! ## statements -/
inductive Fl where
  | nx | bk | ct | rt (h : Hd)
abbrev SF := S → R (Fl × S)
structure OutS (K : PySem.W.Frag) (G H : Hp) (σ : St) (ρ : S) (G' H' : Hp) (σ' : St) (ρ' : S) : Prop where
  rel : Rel K G' H' σ' ρ'
  stp : Stp (ads σ ρ) G H G' H'
  nw : ∀ a, ads σ' ρ' a → H a ≠ none → ads σ ρ a
  io : ∀ i, isIo ρ i → isIo ρ' i ∧ σ'[i]? = σ[i]?
def FlP (K : PySem.W.Frag) (G H : Hp) (σ : St) (ρ : S) (Dn : Ends) (z : Fl × S) : Prop := match z.1 with
  | .nx => ∀ σ' G' H', OutS K G H σ ρ G' H' σ' z.2 → Dn.nx σ' H'
  | .bk => ∀ σ' G' H', OutS K G H σ ρ G' H' σ' z.2 → Dn.bk σ' H'
  | .ct => ∀ σ' G' H', OutS K G H σ ρ G' H' σ' z.2 → Dn.ct σ' H'
  | .rt h => ∀ v σ' G' H', OutS K G H σ ρ G' H' σ' z.2 → Hold K H G' H' σ' z.2 h v → Dn.rt v H'
def SndS (K : PySem.W.Frag) (E : XK) (t : TS) (f : SF) : Prop := ∀ (G H : Hp) (σ : St) (ρ : S), Rel K G H σ ρ → ∀ Dn : Ends,
  Wp (f ρ) (FlP K G H σ ρ Dn) (ExE K E G H σ ρ) → t Dn σ H
structure PSt (X : Cx) (E : XK) (st : Stmt) (f : SF) : Prop where
  ex : ∃ t, PS X st t ∧ SndS X.K E t f
structure PSq (X : Cx) (E : XK) (sts : List Stmt) (f : SF) : Prop where
  ex : ∃ t, PSs X sts t ∧ SndS X.K E t f
section
variable {K : PySem.W.Frag} {E : XK} {G H G1 H1 G2 H2 : Hp} {σ σ1 σ2 : St} {ρ ρ1 ρ2 : S}
theorem Out.s (o : Out K G H σ ρ G1 H1 ρ1) : OutS K G H σ ρ G1 H1 σ ρ1 := ⟨o.rel, o.stp, fun _ z _ => o.ker.ads z, fun i h => ⟨o.ker.io i h, rfl⟩⟩
theorem OutS.trans (a : OutS K G H σ ρ G1 H1 σ1 ρ1) (b : OutS K G1 H1 σ1 ρ1 G2 H2 σ2 ρ2) : OutS K G H σ ρ G2 H2 σ2 ρ2 where
  rel := b.rel
  stp := a.stp.trans b.stp fun c e z => a.nw c z e
  nw := fun c z e => a.nw c (b.nw c z fun q => e (a.stp.thr c q)) e
  io := fun i h => ⟨(b.io i (a.io i h).1).1, (b.io i (a.io i h).1).2.trans (a.io i h).2⟩
theorem ExE.stepS {x : Exc} (o : OutS K G H σ ρ G1 H1 σ1 ρ1) (h : ExE K E G H σ ρ x) : ExE K E G1 H1 σ1 ρ1 x := fun c d G' H' s st r =>
  h c d G' H' s (o.stp.trans st fun c e z => o.nw c z e) r
theorem FlP.step {Dn : Ends} {z : Fl × S} (o : OutS K G H σ ρ G1 H1 σ1 ρ1) (h : FlP K G H σ ρ Dn z) : FlP K G1 H1 σ1 ρ1 Dn z := by
  obtain ⟨fl, ρ'⟩ := z
  cases fl with
  | nx => exact fun σ' G' H' o' => h σ' G' H' (o.trans o')
  | bk => exact fun σ' G' H' o' => h σ' G' H' (o.trans o')
  | ct => exact fun σ' G' H' o' => h σ' G' H' (o.trans o')
  | rt hd => exact fun v σ' G' H' o' hh => h v σ' G' H' (o.trans o') (hh.back o.stp.thr)
end
section
variable {X : Cx} {E : XK} {st : Stmt} {rest : List Stmt} {f g : SF} {pos : Pos} {e : Expr} {fe : EF}
@[simp] def sNil : SF := fun ρ => .ok (.nx, ρ)
@[simp] def sSeq (f g : SF) : SF := fun ρ => f ρ >>= fun z => match z.1 with
  | .nx => g z.2
  | _ => .ok z
theorem sq_nil : PSq X E [] sNil := ⟨_, pss_nil, fun G H σ ρ R Dn hw => hw σ G H (Out.refl R).s⟩
theorem sq_cons (h1 : PSt X E st f) (h2 : PSq X E rest g) : PSq X E (st :: rest) (sSeq f g) := by
  obtain ⟨t, p1, s1⟩ := h1.ex
  obtain ⟨u, p2, s2⟩ := h2.ex
  refine ⟨_, pss_cons p1 p2, fun G H σ ρ R Dn hw => s1 G H σ ρ R _ (hw.bind.mono (fun z _ q => ?_) fun _ _ q => q)⟩
  obtain ⟨fl, ρ'⟩ := z
  cases fl with
  | nx => exact fun σ' G' H' o => s2 G' H' σ' ρ' o.rel Dn (Wp.mono q (fun z _ q2 => q2.step o) fun _ _ q2 => q2.stepS o)
  | bk => exact q
  | ct => exact q
  | rt hd => exact q
theorem sq_one (h1 : PSt X E st f) : PSq X E [st] f := by
  obtain ⟨t, p1, s1⟩ := h1.ex
  exact ⟨_, pss_one p1, s1⟩
@[simp] def sNo : SF := fun _ => .no
theorem st_never : PSt X E st sNo := ⟨_, ps_never, fun G H σ ρ R Dn hw => hw.elim⟩
@[simp] def sBrk : SF := fun ρ => .ok (.bk, ρ)
@[simp] def sCnt : SF := fun ρ => .ok (.ct, ρ)
theorem st_pass : PSt X E (.Pass pos) sNil := ⟨_, ps_pass, fun G H σ ρ R Dn hw => hw σ G H (Out.refl R).s⟩
theorem st_break : PSt X E (.Break pos) sBrk := ⟨_, ps_break, fun G H σ ρ R Dn hw => hw σ G H (Out.refl R).s⟩
theorem st_cont : PSt X E (.Continue pos) sCnt := ⟨_, ps_continue, fun G H σ ρ R Dn hw => hw σ G H (Out.refl R).s⟩
@[simp] def sDrop (fe : EF) : SF := fun ρ => fe ρ >>= fun z => .ok (.nx, z.2)
theorem st_expr (h : PR X E e fe) (hs : swapsWith e none pos.line X.env = pure false := by rfl) : PSt X E (.Expr e pos) (sDrop fe) := by
  obtain ⟨t, p, s⟩ := h.ex
  exact ⟨_, ps_expr p hs, fun G H σ ρ R Dn hw => s G H σ ρ R _ (hw.bind.mono (fun z _ q v G' H' o _ => q σ G' H' o.s) fun _ _ q => q)⟩
@[simp] def sRet (fe : EF) : SF := fun ρ => fe ρ >>= fun z => .ok (.rt z.1, z.2)
theorem st_ret (h : PR X E e fe) : PSt X E (.Return (some e) pos) (sRet fe) := by
  obtain ⟨t, p, s⟩ := h.ex
  exact ⟨_, ps_ret p, fun G H σ ρ R Dn hw => s G H σ ρ R _ (hw.bind.mono (fun z _ q v G' H' o h => q v σ G' H' o.s h) fun _ _ q => q)⟩
@[simp] def sRetN : SF := fun ρ => .ok (.rt (.val .non), ρ)
theorem st_retN : PSt X E (.Return none pos) sRetN := ⟨_, ps_retN, fun G H σ ρ R Dn hw => hw .non σ G H (Out.refl R).s (Hold.val rep_non)⟩
@[simp] def sIf (p : S → R (Bool × S)) (f g : SF) : SF := fun ρ => p ρ >>= fun z => if z.1 = true then f z.2 else g z.2
theorem st_if {c : Expr} {a b : List Stmt} {p : S → R (Bool × S)} (hc : PB X E c p) (ha : PSq X E a f) (hb : PSq X E b g) : PSt X E (.If c a b pos) (sIf p f g) := by
  obtain ⟨t, p1, s⟩ := hc.ex
  obtain ⟨ta, pa, sa⟩ := ha.ex
  obtain ⟨tb, pb, sb⟩ := hb.ex
  refine ⟨_, ps_if p1 pa pb, fun G H σ ρ R Dn hw => s G H σ ρ R _ (hw.bind.mono (fun z _ q G' H' o => ?_) fun _ _ q => q)⟩
  split at q
  · rename_i e
    rw [if_pos e]
    exact sa G' H' σ z.2 o.rel Dn (q.mono (fun y _ q2 => q2.step o.s) fun _ _ q2 => q2.step o)
  · rename_i e
    rw [if_neg e]
    exact sb G' H' σ z.2 o.rel Dn (q.mono (fun y _ q2 => q2.step o.s) fun _ _ q2 => q2.step o)

/-! ### name = value -/
@[simp] def setS (i : Nat) (s : Sl) (ρ : S) : Option S := match ρ[i]? with
  | some (some (.io _)) => none
  | some _ => some (ρ.set i (some s))
  | none => none
@[simp] def putS (i : Nat) (h : Hd) (ρ : S) : Option S := match h with
  | .val d => setS i (.sh d) ρ
  | .tmp d => setS i (.own d) ρ
  | .slot j => (share (.slot j) ρ).bind fun z => setS i (.sh z.1) z.2
theorem setS_eq {i : Nat} {s : Sl} {ρ ρ' : S} (h : setS i s ρ = some ρ') : i < ρ.length ∧ ρ' = ρ.set i (some s) ∧ ¬ isIo ρ i := by
  unfold setS at h
  split at h
  · cases h
  · rename_i x e q
    cases h
    refine ⟨(List.getElem?_eq_some_iff.mp q).1, rfl, fun ⟨d, z⟩ => ?_⟩
    rw [q] at z
    exact e d (Option.some.inj z)
  · cases h
end
section
variable {K : PySem.W.Frag} {G H Gs Hs : Hp} {σ : St} {ρ ρ' ρs : S} {v : V}
/-- a slot gets a shared value -/
theorem set_sh {σs : St} {i : Nat} {d : D} (o : OutS K Gs Hs σs ρs G H σ ρ) (hv : Rep K G d v) (e : setS i (.sh d) ρ = some ρ') : OutS K Gs Hs σs ρs G H (σ.set i (some v)) ρ' := by
  obtain ⟨hi, rfl, hn⟩ := setS_eq e
  have hσ : i < σ.length := by rw [← o.rel.len]; exact hi
  have mm : ∀ j, isMut (ρ.set i (some (.sh d))) j → j ≠ i ∧ isMut ρ j := fun j h => isMut_set h fun d => ⟨nofun, nofun⟩
  have aa : ∀ a, ads (σ.set i (some v)) (ρ.set i (some (.sh d))) a → ads σ ρ a := fun a ⟨j, m, q⟩ => by
    obtain ⟨nj, m⟩ := mm j m
    rw [List.getElem?_set_ne (Ne.symm nj)] at q
    exact ⟨j, m, q⟩
  refine ⟨⟨by simp [o.rel.len], o.rel.sub, fun j s q => ?_, fun j k a m1 m2 q1 q2 => ?_⟩, o.stp, fun a z => o.nw a (aa a z), fun j h => ?_⟩
  · by_cases hj : i = j
    · subst hj
      rw [List.getElem?_set_self hi] at q; cases q
      exact ⟨v, List.getElem?_set_self hσ, hv⟩
    · rw [List.getElem?_set_ne hj] at q
      rw [List.getElem?_set_ne hj]
      exact o.rel.sl j s q
  · obtain ⟨n1, m1⟩ := mm j m1
    obtain ⟨n2, m2⟩ := mm k m2
    rw [List.getElem?_set_ne (Ne.symm n1)] at q1
    rw [List.getElem?_set_ne (Ne.symm n2)] at q2
    exact o.rel.dis j k a m1 m2 q1 q2
  · obtain ⟨⟨d', h1⟩, h2⟩ := o.io j h
    have hj : i ≠ j := fun z => hn (by rw [z]; exact ⟨d', h1⟩)
    exact ⟨⟨d', by rw [List.getElem?_set_ne hj]; exact h1⟩, by rw [List.getElem?_set_ne hj]; exact h2⟩
/-- a slot gets a new owned object -/
theorem set_own {σs : St} {i : Nat} {d : D} {p : Addr} (o : OutS K Gs Hs σs ρs G H σ ρ) (ho : OwnAt K G H p d) (hp : Hs p = none) (hn : ¬ ads σ ρ p) (e : setS i (.own d) ρ = some ρ') : OutS K Gs Hs σs ρs G H (σ.set i (some (.ref p))) ρ' := by
  obtain ⟨hi, rfl, hio⟩ := setS_eq e
  have hσ : i < σ.length := by rw [← o.rel.len]; exact hi
  have mm : ∀ j, j ≠ i → isMut (ρ.set i (some (.own d))) j → isMut ρ j := fun j nj ⟨d', h⟩ => ⟨d', by rw [List.getElem?_set_ne (Ne.symm nj)] at h; exact h⟩
  refine ⟨⟨by simp [o.rel.len], o.rel.sub, fun j s q => ?_, fun j k a m1 m2 q1 q2 => ?_⟩, o.stp, fun a ⟨j, m, q⟩ z => ?_, fun j h => ?_⟩
  · by_cases hj : i = j
    · subst hj
      rw [List.getElem?_set_self hi] at q; cases q
      exact ⟨p, List.getElem?_set_self hσ, ho⟩
    · rw [List.getElem?_set_ne hj] at q
      rw [List.getElem?_set_ne hj]
      exact o.rel.sl j s q
  · by_cases n1 : j = i
    · by_cases n2 : k = i
      · exact n1.trans n2.symm
      · subst n1
        rw [List.getElem?_set_self hσ] at q1
        cases q1
        rw [List.getElem?_set_ne (Ne.symm n2)] at q2
        exact absurd ⟨k, mm k n2 m2, q2⟩ hn
    · by_cases n2 : k = i
      · subst n2
        rw [List.getElem?_set_self hσ] at q2
        cases q2
        rw [List.getElem?_set_ne (Ne.symm n1)] at q1
        exact absurd ⟨j, mm j n1 m1, q1⟩ hn
      · rw [List.getElem?_set_ne (Ne.symm n1)] at q1
        rw [List.getElem?_set_ne (Ne.symm n2)] at q2
        exact o.rel.dis j k a (mm j n1 m1) (mm k n2 m2) q1 q2
  · by_cases nj : j = i
    · subst nj
      rw [List.getElem?_set_self hσ] at q
      cases q
      exact absurd hp z
    · rw [List.getElem?_set_ne (Ne.symm nj)] at q
      exact o.nw a ⟨j, mm j nj m, q⟩ z
  · obtain ⟨⟨d', h1⟩, h2⟩ := o.io j h
    have hj : i ≠ j := fun z => hio (by rw [z]; exact ⟨d', h1⟩)
    exact ⟨⟨d', by rw [List.getElem?_set_ne hj]; exact h1⟩, by rw [List.getElem?_set_ne hj]; exact h2⟩
theorem put_ok {i : Nat} {h : Hd} (o : Out K Gs Hs σ ρs G H ρ) (hh : Hold K Hs G H σ ρ h v) (e : putS i h ρ = some ρ') : ∃ G', OutS K Gs Hs σ ρs G' H (σ.set i (some v)) ρ' := by
  cases h with
  | val d => exact ⟨G, set_sh o.s hh e⟩
  | tmp d =>
    obtain ⟨p, rfl, h1, h2, h3⟩ := hh
    exact ⟨G, set_own o.s h1 h2 h3 e⟩
  | slot j =>
    have e' : ((share (.slot j) ρ).bind fun z => setS i (.sh z.1) z.2) = some ρ' := e
    cases q : share (.slot j) ρ with
    | none => rw [q] at e'; cases e'
    | some z =>
      rw [q] at e'
      obtain ⟨G', o', _, rp⟩ := share_ok o hh q
      exact ⟨G', set_sh o'.s rp e'⟩
end
section
variable {X : Cx} {E : XK} {f g : SF} {pos : Pos} {e : Expr} {fe : EF}
@[simp] def sAsg (i : Nat) (fe : EF) : SF := fun ρ => fe ρ >>= fun z => ofO (putS i z.1 z.2) >>= fun ρ' => .ok (.nx, ρ')
theorem st_asg {i : Nat} {x : Str} {pos' : Pos} (hN : X.N.Nodup) (hi : X.N[i]? = some x) (hx : Loc X.env.scope x) (h : PR X E e fe) (hs : swapsWith e (some (.Name x pos')) pos.line X.env = pure false := by rfl)
    (hf : X.fn x = true ∨ X.env.scope.names.lookup x = some .local := by first | exact .inl rfl | exact .inr rfl | assumption) : PSt X E (.Assign [.Name x pos'] e pos) (sAsg i fe) := by
  obtain ⟨t, p, s⟩ := h.ex
  refine ⟨_, ps_set hN hi hx p hs hf, fun G H σ ρ R Dn hw => s G H σ ρ R _ (hw.bind.mono (fun z _ q v G' H' o h => ?_) fun _ _ q => q)⟩
  obtain ⟨ρ', e1, q⟩ := q.opt
  obtain ⟨G2, o2⟩ := put_ok o h e1
  exact q _ G2 H' o2
/-! ### while -/
def sWhile (c : S → R (Bool × S)) (b : SF) : Nat → SF
  | 0 => fun _ => .no
  | n + 1 => fun ρ => c ρ >>= fun z => if z.1 = true then b z.2 >>= fun y => (match y.1 with
      | .nx => sWhile c b n y.2
      | .ct => sWhile c b n y.2
      | .bk => .ok (.nx, y.2)
      | .rt h => .ok (.rt h, y.2)) else .ok (.nx, z.2)
theorem st_while {c : Expr} {body : List Stmt} {p : S → R (Bool × S)} (n : Nat) (hp : PassesOwn (model X.prog X.w) X.A X.env X.xe) (hc : PB X E c p) (hb : PSq X E body f) : PSt X E (.While c body [] pos) (sWhile p f n) := by
  obtain ⟨t, p1, s⟩ := hc.ex
  obtain ⟨tb, pb, sb⟩ := hb.ex
  refine ⟨_, ps_while hp p1 pb, fun G H σ ρ R Dn hw => ?_⟩
  refine ⟨fun m σ' H' => ∃ G' ρ', OutS X.K G H σ ρ G' H' σ' ρ' ∧ Wp (sWhile p f m ρ') (FlP X.K G H σ ρ Dn) (ExE X.K E G H σ ρ), ⟨n, G, ρ, (Out.refl R).s, hw⟩, fun m σ' H' ⟨G', ρ', o, w⟩ => ?_⟩
  cases m with
  | zero => exact w.elim
  | succ m =>
    refine s G' H' σ' ρ' o.rel _ (w.bind.mono (fun z _ q G1 H1 o1 => ?_) fun _ _ q => q.stepS o)
    split at q
    · rename_i e
      rw [if_pos e]
      refine ⟨fun σ2 H2 => ∃ G2 ρ2, OutS X.K G H σ ρ G2 H2 σ2 ρ2 ∧ Wp (sWhile p f m ρ2) (FlP X.K G H σ ρ Dn) (ExE X.K E G H σ ρ), fun σ2 H2 h2 => ⟨m, Nat.lt_succ_self m, h2⟩, ?_⟩
      have oo := o.trans o1.s
      refine sb G1 H1 σ' z.2 o1.rel _ (q.bind.mono (fun y _ q2 => ?_) fun _ _ q2 => q2.stepS oo)
      obtain ⟨fl, ρ2⟩ := y
      cases fl with
      | nx => exact fun σ2 G2 H2 o2 => ⟨G2, ρ2, oo.trans o2, q2⟩
      | ct => exact fun σ2 G2 H2 o2 => ⟨G2, ρ2, oo.trans o2, q2⟩
      | bk => exact fun σ2 G2 H2 o2 => q2 σ2 G2 H2 (oo.trans o2)
      | rt h => exact fun v σ2 G2 H2 o2 hh => q2 v σ2 G2 H2 (oo.trans o2) (hh.back oo.stp.thr)
    · rename_i e
      rw [if_neg e]
      exact q σ' G1 H1 (o.trans o1.s)
end
/-! ### for -/
/-- what a walk over the data ds asks: G0, H0 the heaps where it begins -/
structure Wlk (K : PySem.W.Frag) (G0 H0 : Hp) (ds : List D) (J : It) : Prop where
  ex : ∃ (Gd : Hp → Prop) (Y : Nat → Hp → V → Hp → Prop), Walk J ds.length Gd Y ∧ (∀ H1, (∀ b o, G0 b ≠ none → H0 b = some o → H1 b = some o) → Gd H1) ∧
    ∀ i H x H', i < ds.length → Y i H x H' → ∀ G, Same G0 G → Sub G H → (∃ d, ds[i]? = some d ∧ ∃ G', (G' = G ∧ H' = H ∨ ∃ p o, H p = none ∧ G' = upd G p o ∧ H' = upd H p o) ∧ Rep K G' d x)
/-- what is walked: its items as data -/
def SndI (K : PySem.W.Frag) (E : XK) (wi : TI) (f : S → R (List D × S)) : Prop := ∀ (G H : Hp) (σ : St) (ρ : S), Rel K G H σ ρ → ∀ Rr : It → Hp → Prop,
  Wp (f ρ) (fun z => ∀ J G' H', Out K G H σ ρ G' H' z.2 → Wlk K G' H' z.1 J → Rr J H') (ExE K E G H σ ρ) → wi σ H Rr
structure PIt (X : Cx) (E : XK) (tg iter : Expr) (f : S → R (List D × S)) : Prop where
  ex : ∃ wi, PI X tg iter wi ∧ SndI X.K E wi f
/-- a target; tv: the slots that it may store -/
structure Only (tv : List Nat) (σ σ' : St) : Prop where
  len : σ'.length = σ.length
  eq : ∀ j, j ∉ tv → σ'[j]? = σ[j]?
theorem Only.trans {tv : List Nat} {σ σ1 σ2 : St} (a : Only tv σ σ1) (b : Only tv σ1 σ2) : Only tv σ σ2 := ⟨b.len.trans a.len, fun j h => (b.eq j h).trans (a.eq j h)⟩
theorem Only.mono {tv tw : List Nat} {σ σ1 : St} (a : Only tv σ σ1) (h : ∀ i ∈ tv, i ∈ tw) : Only tw σ σ1 := ⟨a.len, fun j n => a.eq j fun z => n (h j z)⟩
def SndG (K : PySem.W.Frag) (tv : List Nat) (g : TG) (f : D → S → Option S) : Prop := ∀ (Gs Hs : Hp) (σs : St) (ρs : S) (G H : Hp) (σ : St) (ρ ρ' : S) (d : D) (v : V), OutS K Gs Hs σs ρs G H σ ρ → Rep K G d v → f d ρ = some ρ' →
  ∀ Q : St → Hp → Prop, (∀ σ', OutS K Gs Hs σs ρs G H σ' ρ' → Only tv σ σ' → Q σ' H) → g v σ H Q
structure PTg (X : Cx) (tv : List Nat) (tg : Expr) (f : D → S → Option S) : Prop where
  ex : ∃ g, PG X tg g ∧ SndG X.K tv g f
  mu : ∀ d ρ ρ', f d ρ = some ρ' → ∀ j, isMut ρ' j → isMut ρ j
def SndGs (K : PySem.W.Frag) (tv : List Nat) (g : TGs) (f : List D → S → Option S) : Prop := ∀ (Gs Hs : Hp) (σs : St) (ρs : S) (G H : Hp) (σ : St) (ρ ρ' : S) (ds : List D) (vs : List V), OutS K Gs Hs σs ρs G H σ ρ → RepL K G ds vs → f ds ρ = some ρ' →
  ∀ Q : St → Hp → Prop, (∀ σ', OutS K Gs Hs σs ρs G H σ' ρ' → Only tv σ σ' → Q σ' H) → g vs σ H Q
structure PTgs (X : Cx) (tv : List Nat) (tgs : List Expr) (f : List D → S → Option S) : Prop where
  ex : ∃ g, PGs X tgs g ∧ SndGs X.K tv g f
  mu : ∀ d ρ ρ', f d ρ = some ρ' → ∀ j, isMut ρ' j → isMut ρ j
section
variable {X : Cx} {E : XK} {pos : Pos}
/-- slot i gets a shared value, whatever the frame's start -/
theorem set_shS {K : PySem.W.Frag} {Gs Hs G H : Hp} {σs σ : St} {ρs ρ ρ' : S} {i : Nat} {d : D} {v : V} (o : OutS K Gs Hs σs ρs G H σ ρ) (hv : Rep K G d v) (e : setS i (.sh d) ρ = some ρ') : OutS K Gs Hs σs ρs G H (σ.set i (some v)) ρ' :=
  o.trans (set_sh (Out.refl o.rel).s hv e)
@[simp] def gVar (i : Nat) : D → S → Option S := fun d ρ => setS i (.sh d) ρ
theorem tg_name {i : Nat} {x : Str} (hN : X.N.Nodup) (hi : X.N[i]? = some x) (hx : Loc X.env.scope x) (hf : X.fn x = true ∨ X.env.scope.names.lookup x = some .local := by first | exact .inl rfl | exact .inr rfl | assumption) : PTg X [i] (.Name x pos) (gVar i) :=
  ⟨⟨_, pg_name hN hi hx hf, fun Gs Hs σs ρs G H σ ρ ρ' d v o hv e Q q => q _ (set_shS o hv e) ⟨List.length_set .., fun j hj => List.getElem?_set_ne fun z => hj (by simp [z])⟩⟩, fun d ρ ρ' e j m => by
    obtain ⟨_, rfl, _⟩ := setS_eq e
    exact (isMut_set m fun d => ⟨nofun, nofun⟩).2⟩
@[simp] def gsNil : List D → S → Option S := fun ds ρ => match ds with
  | [] => some ρ
  | _ => none
@[simp] def gsCons (f : D → S → Option S) (g : List D → S → Option S) : List D → S → Option S := fun ds ρ => match ds with
  | d :: ds => (f d ρ).bind fun ρ' => g ds ρ'
  | [] => none
theorem tgs_nil : PTgs X [] [] gsNil := ⟨⟨_, pgs_nil, fun Gs Hs σs ρs G H σ ρ ρ' ds vs o hv e Q q => by
  cases ds with
  | nil => cases e; exact ⟨repL_nil.mp hv, q σ o ⟨rfl, fun _ _ => rfl⟩⟩
  | cons d ds => cases e⟩, fun ds ρ ρ' e j m => by
    cases ds with
    | nil => cases e; exact m
    | cons d ds => cases e⟩
theorem tgs_cons {e : Expr} {es : List Expr} {f : D → S → Option S} {g : List D → S → Option S} {tv tw : List Nat} (h1 : PTg X tv e f) (h2 : PTgs X tw es g) (hs : (assignEach (e :: es) X.env).map (·.2) = assign e X.env :: (assignEach es X.env).map (·.2) := by rfl) : PTgs X (tv ++ tw) (e :: es) (gsCons f g) := by
  obtain ⟨t, p1, s1⟩ := h1.ex
  obtain ⟨u, p2, s2⟩ := h2.ex
  refine ⟨⟨_, pgs_cons p1 p2 hs, fun Gs Hs σs ρs G H σ ρ ρ' ds vs o hv e Q q => ?_⟩, fun ds ρ ρ' e j m => ?_⟩
  rotate_left
  · cases ds with
    | nil => cases e
    | cons d ds =>
      have e' : ((f d ρ).bind fun ρ' => g ds ρ') = some ρ' := e
      cases q1 : f d ρ with
      | none => rw [q1] at e'; cases e'
      | some ρ1 =>
        rw [q1] at e'
        exact h1.mu d ρ ρ1 q1 j (h2.mu ds ρ1 ρ' e' j m)
  cases ds with
  | nil => cases e
  | cons d ds =>
    obtain ⟨v, vs', rfl, r1, r2⟩ := repL_cons.mp hv
    have e' : ((f d ρ).bind fun ρ' => g ds ρ') = some ρ' := e
    cases q1 : f d ρ with
    | none => rw [q1] at e'; cases e'
    | some ρ1 =>
      rw [q1] at e'
      exact ⟨v, vs', rfl, s1 Gs Hs σs ρs G H σ ρ ρ1 d v o r1 q1 _ fun σ1 o1 n1 => s2 Gs Hs σs ρs G H σ1 ρ1 ρ' ds vs' o1 r2 e' Q fun σ2 o2 n2 => q σ2 o2 ((n1.mono fun i h => List.mem_append_left _ h).trans (n2.mono fun i h => List.mem_append_right _ h))⟩
@[simp] def gTupF (n : Nat) (f : List D → S → Option S) : D → S → Option S := fun d ρ => match d with
  | .tup ds => if ds.length = n then f ds ρ else none
  | _ => none
theorem tg_tup {es : List Expr} {k : Nat} {f : List D → S → Option S} {n : Nat} {tv : List Nat} (hc : X.calm = true) (h : PTgs X tv es f) (hn : (assignEach es X.env).length = n := by rfl) (hst : (assignEach es X.env).findIdx? (·.1) = none := by rfl) : PTg X tv (.Tuple es k pos) (gTupF n f) := by
  obtain ⟨t, p, s⟩ := h.ex
  refine ⟨⟨_, pg_tup hc p hn hst, fun Gs Hs σs ρs G H σ ρ ρ' d v o hv e Q q => ?_⟩, fun d ρ ρ' e j m => ?_⟩
  rotate_left
  · cases d with
    | tup ds =>
      have e' : (if ds.length = n then f ds ρ else none) = some ρ' := e
      split at e'
      · exact h.mu ds ρ ρ' e' j m
      · cases e'
    | _ => cases e
  cases d with
  | tup ds =>
    have e' : (if ds.length = n then f ds ρ else none) = some ρ' := e
    split at e'
    · rename_i hl
      obtain ⟨a, vs, rfl, h1, h2⟩ := (show RepP X.K G H (.tup ds) v from .inl hv).tup o.rel.sub
      exact ⟨a, vs, rfl, h1, by rw [← h2.length]; exact hl, s Gs Hs σs ρs G H σ ρ ρ' ds vs o h2 e' Q q⟩
    · cases e'
  | _ => cases e
/-- the loop's turns -/
def sForL (g : D → S → Option S) (b : SF) : List D → SF
  | [] => fun ρ => .ok (.nx, ρ)
  | d :: ds => fun ρ => ofO (g d ρ) >>= fun ρ1 => b ρ1 >>= fun y => (match y.1 with
      | .nx => sForL g b ds y.2
      | .ct => sForL g b ds y.2
      | .bk => .ok (.nx, y.2)
      | .rt h => .ok (.rt h, y.2))
@[simp] def sFor (it : S → R (List D × S)) (g : D → S → Option S) (b : SF) : SF := fun ρ => it ρ >>= fun z => sForL g b z.1 z.2
theorem for_sound {K : PySem.W.Frag} {ds : List D} {J : It} {g : TG} {tb : TS} {gf : D → S → Option S} {b : SF} {tv : List Nat} (sg : SndG K tv g gf) (sb : SndS K E tb b) {G H : Hp} {σ : St} {ρ : S} {G1 H1 : Hp} {ρ1 : S} {Dn : Ends} (o1 : Out K G H σ ρ G1 H1 ρ1) (wk : Wlk K G1 H1 ds J)
    (w : Wp (sForL gf b ds ρ1) (FlP K G H σ ρ Dn) (ExE K E G H σ ρ)) : ∃ W : Nat → Nat → St → Hp → Prop, (∃ m, W 0 m σ H1) ∧ ∀ i m σ H, W i m σ H → (J.stop i H ∧ Dn.nx σ H) ∨ (J.go i H ∧ ∃ N : St → Hp → Prop, (∀ σ' H', N σ' H' → ∃ m', m' < m ∧ W (i + 1) m' σ' H') ∧ ∀ x H', J.yld i H x H' → g x σ H' fun σ2 H2 => tb { Dn with nx := N, ct := N, bk := Dn.nx } σ2 H2) := by
  obtain ⟨Gd, Y, wk, hG, hY⟩ := wk.ex
  refine for_it wk (fun i σ' H' => ∃ G' ρ', OutS K G H σ ρ G' H' σ' ρ' ∧ Same G1 G' ∧ (∀ b o, G1 b ≠ none → H1 b = some o → H' b = some o) ∧ Wp (sForL gf b (ds.drop i) ρ') (FlP K G H σ ρ Dn) (ExE K E G H σ ρ)) ?_ ?_ ?_ ?_
  · exact ⟨G1, ρ1, o1.s, Same.refl _, fun _ _ _ h => h, w⟩
  · rintro i σ' H' _ ⟨G', ρ', _, _, k, _⟩
    exact hG H' k
  · rintro i x σ' H' H2 hi ⟨G', ρ', o, sg', k, w⟩ y
    obtain ⟨d, ed, G2, hstep, rx⟩ := hY i H' x H2 hi y G' sg' o.rel.sub
    have o2 : OutS K G H σ ρ G2 H2 σ' ρ' ∧ Same G' G2 ∧ (∀ b o, H' b = some o → H2 b = some o) := by
      rcases hstep with ⟨rfl, rfl⟩ | ⟨p, u, hp, rfl, rfl⟩
      · exact ⟨o, Same.refl _, fun _ _ h => h⟩
      · have z := Out.lay (o := u) o.rel hp
        exact ⟨o.trans z.s, z.stp.gg, fun b u' h => by rw [upd_ne (ne_of_none h hp)]; exact h⟩
    obtain ⟨o2, sg2, k2⟩ := o2
    have hd : ds.drop i = d :: ds.drop (i + 1) := by
      obtain ⟨h1, h2⟩ := List.getElem?_eq_some_iff.mp ed
      rw [← h2]
      exact List.drop_eq_getElem_cons h1
    rw [hd] at w
    obtain ⟨ρ3, e3, w⟩ := w.opt
    refine sg G H σ ρ G2 H2 σ' ρ' ρ3 d x o2 rx e3 _ fun σ3 o3 _ => ?_
    refine sb G2 H2 σ3 ρ3 o3.rel _ (w.bind.mono (fun z _ q => ?_) fun _ _ q => q.stepS o3)
    have nxt : ∀ ρ4, Wp (sForL gf b (ds.drop (i + 1)) ρ4) (FlP K G H σ ρ Dn) (ExE K E G H σ ρ) → ∀ σ4 G4 H4, OutS K G2 H2 σ3 ρ3 G4 H4 σ4 ρ4 → ∃ G' ρ', OutS K G H σ ρ G' H4 σ4 ρ' ∧ Same G1 G' ∧ (∀ b o, G1 b ≠ none → H1 b = some o → H4 b = some o) ∧ Wp (sForL gf b (ds.drop (i + 1)) ρ') (FlP K G H σ ρ Dn) (ExE K E G H σ ρ) := by
      intro ρ4 w4 σ4 G4 H4 o4
      refine ⟨G4, ρ4, o3.trans o4, (sg'.trans sg2).trans o4.stp.gg, fun b u hb hu => ?_, w4⟩
      refine o4.stp.keep b u (k2 b u (k b u hb hu)) fun z => hb ?_
      have hz := (o3.rel.adsH z).2
      cases q : G1 b with
      | none => rfl
      | some u' => rw [(sg'.trans sg2) b u' q] at hz; cases hz
    obtain ⟨fl, ρ4⟩ := z
    cases fl with
    | nx => exact nxt ρ4 q
    | ct => exact nxt ρ4 q
    | bk => exact fun σ4 G4 H4 o4 => q σ4 G4 H4 (o3.trans o4)
    | rt h => exact fun v σ4 G4 H4 o4 hh => q v σ4 G4 H4 (o3.trans o4) (hh.back o3.stp.thr)
  · rintro σ' H' ⟨G', ρ', o, _, _, w⟩
    rw [List.drop_length] at w
    exact w σ' G' H' o
theorem st_for {tg iter : Expr} {body : List Stmt} {it : S → R (List D × S)} {g : D → S → Option S} {b : SF} {tv : List Nat} (hp : PassesOwn (model X.prog X.w) X.A X.env X.xe) (hc : X.calm = true) (hi : PIt X E tg iter it) (hg : PTg X tv tg g) (hb : PSq X E body b) (hs : ∀ x, foldedSetIterable iter X.env x = pure x := by intro _; rfl) :
    PSt X E (.For tg iter body [] pos) (sFor it g b) := by
  obtain ⟨wi, pi, si⟩ := hi.ex
  obtain ⟨gt, pg, sg⟩ := hg.ex
  obtain ⟨tb, pb, sb⟩ := hb.ex
  refine ⟨_, ps_for hp hc pi pg pb hs, fun G H σ ρ R Dn hw => ?_⟩
  exact si G H σ ρ R _ (hw.bind.mono (fun z _ q J G1 H1 o1 wk => for_sound sg sb o1 wk q) fun _ _ q => q)
end
end BR
set_option Elab.async false
set_option linter.all false
set_option maxRecDepth 100000
set_option maxHeartbeats 4000000
namespace BR
open PySem L2

/-! ## what is walked -/
section
variable {X : Cx} {E : XK} {e tg : Expr} {f : EF} {pos p : Pos}
/-- a list or a tuple (shared) -/
@[simp] def itSeq (f : EF) : S → R (List D × S) := fun ρ => eV f ρ >>= fun z => match z.1 with
  | .lst ds => .ok (ds, z.2)
  | _ => .no
@[simp] def itTup (f : EF) : S → R (List D × S) := fun ρ => eV f ρ >>= fun z => match z.1 with
  | .tup ds => .ok (ds, z.2)
  | _ => .no
theorem it_list (h : PR X E e f) : PIt X E tg e (itSeq f) := by
  obtain ⟨t, pe, s⟩ := h.v.ex
  refine ⟨_, pi_list pe, fun G H σ ρ r Rr hw => s G H σ ρ r _ (hw.bind.mono (fun z _ q v G' H' o rv => ?_) fun _ _ q => q)⟩
  obtain ⟨d, ρ'⟩ := z
  cases d with
  | lst ds =>
    have rv' := rv
    unfold Rep at rv'
    obtain ⟨a, vs, rfl, h1, h2⟩ := rv'
    have h1' := o.rel.sub.ls h1
    refine ⟨a, rfl, ⟨vs, SqL.of h1'⟩, q _ G' H' o ⟨fun H => SqL X.K H a vs, YAt vs, by rw [h2.length]; exact walk_list, fun H1 k => SqL.of (k a _ (by rw [h1]; simp) h1'), fun i H x H' hi y G1 sg sb => ?_⟩⟩
    obtain ⟨rfl, y⟩ := y
    obtain ⟨d, ed, rd⟩ := h2.getV y
    exact ⟨d, ed, G1, .inl ⟨rfl, rfl⟩, Rep.mono sg _ rd⟩
  | _ => exact q.elim
theorem it_tup (h : PR X E e f) : PIt X E tg e (itTup f) := by
  obtain ⟨t, pe, s⟩ := h.v.ex
  refine ⟨_, pi_tup pe, fun G H σ ρ r Rr hw => s G H σ ρ r _ (hw.bind.mono (fun z _ q v G' H' o rv => ?_) fun _ _ q => q)⟩
  obtain ⟨d, ρ'⟩ := z
  cases d with
  | tup ds =>
    have rv' := rv
    unfold Rep at rv'
    obtain ⟨a, vs, rfl, h1, h2⟩ := rv'
    have h1' := o.rel.sub.t h1
    refine ⟨a, rfl, ⟨vs, h1'⟩, q _ G' H' o ⟨fun H => SqT X.K H a vs, YAt vs, by rw [h2.length]; exact walk_tup, fun H1 k => ?_, fun i H x H' hi y G1 sg sb => ?_⟩⟩
    · rcases h1 with h1 | h1
      · rcases o.rel.sub.rd h1 with z | ⟨od, z⟩
        · refine SqT.of (k a _ ?_ z)
          rcases h1 with y | ⟨_, y⟩ <;> rw [y] <;> simp
        · refine .inl (.inr ⟨od, k a _ ?_ z⟩)
          rcases h1 with y | ⟨_, y⟩ <;> rw [y] <;> simp
      · exact .inr h1
    · obtain ⟨rfl, y⟩ := y
      obtain ⟨d, ed, rd⟩ := h2.getV y
      exact ⟨d, ed, G1, .inl ⟨rfl, rfl⟩, Rep.mono sg _ rd⟩
  | _ => exact q.elim
def signs (x : Str) : List D := x.cps.toList.map fun c => .str ⟨#[c]⟩
@[simp] def itStr (f : EF) : S → R (List D × S) := fun ρ => eV f ρ >>= fun z => match z.1 with
  | .str x => .ok (signs x, z.2)
  | _ => .no
theorem it_str (h : PR X E e f) : PIt X E tg e (itStr f) := by
  obtain ⟨t, pe, s⟩ := h.v.ex
  refine ⟨_, pi_str pe, fun G H σ ρ r Rr hw => s G H σ ρ r _ (hw.bind.mono (fun z _ q v G' H' o rv => ?_) fun _ _ q => q)⟩
  obtain ⟨d, ρ'⟩ := z
  cases d with
  | str x =>
    have rv' := rv
    unfold Rep at rv'
    subst rv'
    refine ⟨x, rfl, q _ G' H' o ⟨_, _, by rw [show (signs x).length = x.cps.size by simp [signs]]; exact walk_str, fun _ _ => trivial, fun i H v H' hi y G1 sg sb => ?_⟩⟩
    obtain ⟨rfl, c, ec, rfl⟩ := y
    refine ⟨.str ⟨#[c]⟩, ?_, G1, .inl ⟨rfl, rfl⟩, rep_str⟩
    unfold signs
    rw [List.getElem?_map, Array.getElem?_toList, ec]
    rfl
  | _ => exact q.elim
def rngL (lo : Int) (n : Nat) : List D := (List.range n).map fun (i : Nat) => D.int (lo + i)
def rngC (lo c : Int) (n : Nat) : List D := (List.range n).map fun (i : Nat) => D.int (lo + i * c)
theorem wlk_range {K : PySem.W.Frag} {G H : Hp} {lo : Int} {n : Nat} : Wlk K G H (rngL lo n) (Itr lo n) := by
  refine ⟨_, _, by rw [show (rngL lo n).length = n by simp [rngL]]; exact walk_range, fun _ _ => trivial, fun i H x H' hi y G1 sg sb => ?_⟩
  obtain ⟨rfl, rfl⟩ := y
  have hi' : i < n := by simpa [rngL] using hi
  exact ⟨.int (lo + i), by simp [rngL, hi'], G1, .inl ⟨rfl, rfl⟩, rep_int⟩
theorem wlk_rangeC {K : PySem.W.Frag} {G H : Hp} {lo c : Int} {n : Nat} : Wlk K G H (rngC lo c n) (Itc lo c n) := by
  refine ⟨_, _, by rw [show (rngC lo c n).length = n by simp [rngC]]; exact walk_rangeC, fun _ _ => trivial, fun i H x H' hi y G1 sg sb => ?_⟩
  obtain ⟨rfl, rfl⟩ := y
  have hi' : i < n := by simpa [rngC] using hi
  exact ⟨.int (lo + i * c), by simp [rngC, hi'], G1, .inl ⟨rfl, rfl⟩, rep_int⟩

theorem rl_int {K : PySem.W.Frag} {G : Hp} {i : Int} {ds : List D} {vs : List V} (h : RepL K G (.int i :: ds) vs) : ∃ vs', vs = .int i :: vs' ∧ RepL K G ds vs' := by
  obtain ⟨v, vs', rfl, h1, h2⟩ := repL_cons.mp h
  unfold Rep at h1
  exact ⟨vs', by rw [h1], h2⟩
def RngOk (j : Int) : Prop := -(2 ^ 62) ≤ j ∧ j < 2 ^ 62
def RngOk2 (i j : Int) : Prop := -(2 ^ 62) ≤ i ∧ i < 2 ^ 62 ∧ -(2 ^ 62) ≤ j ∧ j < 2 ^ 62
open Classical in
noncomputable def itRng1 (f : S → R (List D × S)) : S → R (List D × S) := fun ρ => f ρ >>= fun z => match z.1 with
  | [.int j] => if RngOk j then .ok (rngL 0 j.toNat, z.2) else .no
  | _ => .no
open Classical in
@[simp] noncomputable def itRng2 (f : S → R (List D × S)) : S → R (List D × S) := fun ρ => f ρ >>= fun z => match z.1 with
  | [.int i, .int j] => if RngOk2 i j then .ok (rngL i (j - i).toNat, z.2) else .no
  | _ => .no
open Classical in
noncomputable def itRng3 (f : S → R (List D × S)) : S → R (List D × S) := fun ρ => f ρ >>= fun z => match z.1 with
  | [.int i, .int j, .int c] => if RgC i j c (Builtin.Range.rangeSize i j c).toNat then .ok (rngC i c (Builtin.Range.rangeSize i j c).toNat, z.2) else .no
  | _ => .no
theorem it_range1 {a : Expr} {f : S → R (List D × S)} (hg : Gl X "range") (hm : X.mg "range" = none) (ha : PAs X E [a] f) (hs : starEach [a] X.env = [(false, eval a X.env)] := by rfl) : PIt X E tg (.Call (.Name "range" p) [a] [] pos) (itRng1 f) := by
  obtain ⟨t, pa, s⟩ := ha.ex
  refine ⟨_, pi_range1 hg hm pa hs, fun G H σ ρ r Rr hw => s G H σ ρ r _ (hw.bind.mono (fun z hz q vs G' H' o rv => ?_) fun _ _ q => q)⟩
  obtain ⟨ds, ρ'⟩ := z
  split at q
  · rename_i j e
    have e' : ds = [.int j] := e
    subst e'
    split at q
    · rename_i hj
      obtain ⟨vs1, rfl, h2⟩ := rl_int rv
      exact ⟨j, by rw [repL_nil.mp h2], hj.1, hj.2, q _ G' H' o wlk_range⟩
    · exact q.elim
  · exact q.elim
theorem it_range2 {a b : Expr} {f : S → R (List D × S)} (hg : Gl X "range") (hm : X.mg "range" = none) (ha : PAs X E [a, b] f) (hs : starEach [a, b] X.env = [(false, eval a X.env), (false, eval b X.env)] := by rfl) (hs2 : starEach [b] X.env = [(false, eval b X.env)] := by rfl) : PIt X E tg (.Call (.Name "range" p) [a, b] [] pos) (itRng2 f) := by
  obtain ⟨t, pa, s⟩ := ha.ex
  refine ⟨_, pi_range2 hg hm pa hs hs2, fun G H σ ρ r Rr hw => s G H σ ρ r _ (hw.bind.mono (fun z hz q vs G' H' o rv => ?_) fun _ _ q => q)⟩
  obtain ⟨ds, ρ'⟩ := z
  split at q
  · rename_i i j e
    have e' : ds = [.int i, .int j] := e
    subst e'
    split at q
    · rename_i hj
      obtain ⟨vs1, rfl, h2⟩ := rl_int rv
      obtain ⟨vs2, rfl, h3⟩ := rl_int h2
      exact ⟨i, j, by rw [repL_nil.mp h3], hj, q _ G' H' o wlk_range⟩
    · exact q.elim
  · exact q.elim
theorem it_range3 {a b c : Expr} {f : S → R (List D × S)} (hg : Gl X "range") (hm : X.mg "range" = none) (ha : PAs X E [a, b, c] f) (hs : starEach [a, b, c] X.env = (false, eval a X.env) :: starEach [b, c] X.env := by rfl) (hpl : (backTo pos (starEach [b, c] X.env)).any (·.1) = false := by rfl) : PIt X E tg (.Call (.Name "range" p) [a, b, c] [] pos) (itRng3 f) := by
  obtain ⟨t, pa, s⟩ := ha.ex
  refine ⟨_, pi_range3 hg hm pa hs hpl, fun G H σ ρ r Rr hw => s G H σ ρ r _ (hw.bind.mono (fun z hz q vs G' H' o rv => ?_) fun _ _ q => q)⟩
  obtain ⟨ds, ρ'⟩ := z
  split at q
  · rename_i i j c e
    have e' : ds = [.int i, .int j, .int c] := e
    subst e'
    split at q
    · rename_i hj
      obtain ⟨vs1, rfl, h2⟩ := rl_int rv
      obtain ⟨vs2, rfl, h3⟩ := rl_int h2
      obtain ⟨vs3, rfl, h4⟩ := rl_int h3
      exact ⟨i, j, c, _, by rw [repL_nil.mp h4], hj, q _ G' H' o wlk_rangeC⟩
    · exact q.elim
  · exact q.elim
def enums (ds : List D) : List D := (List.range ds.length).zipWith (fun (i : Nat) d => D.tup [.int i, d]) ds
@[simp] def itEnum (f : S → R (List D × S)) : S → R (List D × S) := fun ρ => f ρ >>= fun z => match z.1 with
  | [.lst ds] => .ok (enums ds, z.2)
  | _ => .no
theorem enums_get {ds : List D} {i : Nat} {d : D} (h : ds[i]? = some d) : (enums ds)[i]? = some (.tup [.int i, d]) := by
  have hi := (List.getElem?_eq_some_iff.mp h).1
  unfold enums
  rw [List.getElem?_zipWith]
  simp only [List.getElem?_range hi, h]
theorem enums_len (ds : List D) : (enums ds).length = ds.length := by simp [enums]
theorem it_enum {elts : List Expr} {kk : Nat} {tpos : Pos} {f : S → R (List D × S)} (hg : Gl X "enumerate") (hm : X.mg "enumerate" = none) (ha : PAs X E [e] f) (hs : starEach [e] X.env = [(false, eval e X.env)] := by rfl) :
    PIt X E (.Tuple elts kk tpos) (.Call (.Name "enumerate" p) [e] [] pos) (itEnum f) := by
  obtain ⟨t, pa, s⟩ := ha.ex
  refine ⟨_, pi_enum hg hm pa hs, fun G H σ ρ r Rr hw => s G H σ ρ r _ (hw.bind.mono (fun z hz q vs G' H' o rv => ?_) fun _ _ q => q)⟩
  obtain ⟨ds0, ρ'⟩ := z
  split at q
  · rename_i ds e
    have e' : ds0 = [.lst ds] := e
    subst e'
    obtain ⟨v, vs', rfl, h1, h2⟩ := repL_cons.mp rv
    unfold Rep at h1
    obtain ⟨a, xs, rfl, h3, h4⟩ := h1
    have h3' := o.rel.sub.ls h3
    refine ⟨a, xs, by rw [repL_nil.mp h2], SqL.of h3', q _ G' H' o ⟨fun H => SqL X.K H a xs, _, by rw [enums_len, h4.length]; exact walk_enum, fun H1 k => SqL.of (k a _ (by rw [h3]; simp) h3'), fun i H x H' hi y G1 sg sb => ?_⟩⟩
    obtain ⟨T, u, w, rfl, hT, rfl, e1, e2⟩ := y
    obtain ⟨d, ed, rd⟩ := h4.getV e2
    cases e1
    have hg1 : G1 T = none := sb.none hT
    refine ⟨.tup [.int i, d], enums_get ed, upd G1 T (.tup [.int i, w]), .inr ⟨T, _, hT, rfl, rfl⟩, ?_⟩
    unfold Rep
    exact ⟨T, _, rfl, SqT.of upd_same, .cons rep_int (.cons (Rep.mono (sg.trans (same_new hg1)) _ rd) .nil)⟩
  · exact q.elim
end

/-! ## readings made of functions -/
def tF (K : PySem.W.Frag) (E : XK) (f : EF) : TE := fun σ H Q => ∃ G ρ, Rel K G H σ ρ ∧ Wp (f ρ) (fun z => ∀ v G' H', Out K G H σ ρ G' H' z.2 → Hold K H G' H' σ z.2 z.1 v → Q v H') (ExE K E G H σ ρ)
def tFB (K : PySem.W.Frag) (E : XK) (f : S → R (Bool × S)) : TT := fun σ H Q => ∃ G ρ, Rel K G H σ ρ ∧ Wp (f ρ) (fun z => ∀ G' H', Out K G H σ ρ G' H' z.2 → Q z.1 H') (ExE K E G H σ ρ)
def gF (K : PySem.W.Frag) (tv : List Nat) (f : D → S → Option S) : TG := fun v σ H Q => ∃ Gs Hs σs ρs G ρ ρ' d, OutS K Gs Hs σs ρs G H σ ρ ∧ Rep K G d v ∧ f d ρ = some ρ' ∧ ∀ σ', OutS K Gs Hs σs ρs G H σ' ρ' → Only tv σ σ' → Q σ' H
section
variable {X : Cx} {E : XK} {e : Expr}
theorem PR.pe {f : EF} (h : PR X E e f) : PE X e (tF X.K E f) := by
  obtain ⟨t, pe, s⟩ := h.ex
  exact ⟨fun pins s' σ H Q I ⟨G, ρ, r, w⟩ => pe.run pins s' σ H Q I (s G H σ ρ r Q w)⟩
theorem PB.pt {f : S → R (Bool × S)} (h : PB X E e f) : PT X e (tFB X.K E f) := by
  obtain ⟨t, pe, s⟩ := h.ex
  exact ⟨fun pins s' σ H Q I ⟨G, ρ, r, w⟩ => pe.run pins s' σ H Q I (s G H σ ρ r Q w)⟩
theorem PTg.pg {tv : List Nat} {f : D → S → Option S} (h : PTg X tv e f) : PG X e (gF X.K tv f) := by
  obtain ⟨g, pg, s⟩ := h.ex
  exact ⟨fun pins s' σ H v u Q I rv ⟨Gs, Hs, σs, ρs, G, ρ, ρ', d, o, rd, ef, q⟩ => pg.run pins s' σ H v u Q I rv (s Gs Hs σs ρs G H σ ρ ρ' d v o rd ef Q q)⟩
end
end BR
set_option Elab.async false
set_option linter.all false
set_option maxRecDepth 100000
set_option maxHeartbeats 4000000
namespace BR
open PySem L2

/-! ## list comprehensions -/
@[simp] def noX {α : Type} : R α → R α
  | .exc _ => .no
  | r => r
theorem Wp.noX {α : Type} {r : R α} {P : α → Prop} {E : Exc → Prop} (h : Wp (noX r) P E) : Wp r P fun _ => False := by
  cases r <;> exact h
@[simp] def wipeS (ρ : S) : List Nat → S
  | [] => ρ
  | v :: vs => (wipeS ρ vs).set v none
/-- the slots vs as in ρ0 -/
@[simp] def rst (ρ0 ρ : S) : List Nat → S
  | [] => ρ
  | v :: vs => (rst ρ0 ρ vs).set v (ρ0.getD v none)
@[simp] def calmSl (ρ : S) (vs : List Nat) : Bool := vs.all fun v => match ρ[v]? with
  | some (some (.sh _)) => true
  | some none => true
  | _ => false
theorem wipeS_len (ρ : S) : ∀ vs, (wipeS ρ vs).length = ρ.length
  | [] => rfl
  | v :: vs => by unfold wipeS; rw [List.length_set, wipeS_len ρ vs]
theorem wipeS_at (ρ : S) {j : Nat} : ∀ vs, (wipeS ρ vs)[j]? = if j ∈ vs ∧ j < ρ.length then some none else ρ[j]?
  | [] => by simp [wipeS]
  | v :: vs => by
    unfold wipeS
    by_cases h : v = j
    · subst h
      by_cases hl : v < ρ.length
      · rw [List.getElem?_set_self (by rw [wipeS_len]; exact hl)]
        simp [hl]
      · rw [List.getElem?_eq_none (by rw [List.length_set, wipeS_len]; omega), List.getElem?_eq_none (by omega)]
        simp [hl]
    · rw [List.getElem?_set_ne h, wipeS_at ρ vs]
      have hn : ¬ j = v := fun z => h z.symm
      simp only [List.mem_cons, hn, false_or]
theorem rst_len (ρ0 ρ : S) : ∀ vs, (rst ρ0 ρ vs).length = ρ.length
  | [] => rfl
  | v :: vs => by unfold rst; rw [List.length_set, rst_len ρ0 ρ vs]
theorem rst_at (ρ0 ρ : S) {j : Nat} : ∀ vs, (rst ρ0 ρ vs)[j]? = if j ∈ vs ∧ j < ρ.length then some (ρ0.getD j none) else ρ[j]?
  | [] => by simp [rst]
  | v :: vs => by
    unfold rst
    by_cases h : v = j
    · subst h
      by_cases hl : v < ρ.length
      · rw [List.getElem?_set_self (by rw [rst_len]; exact hl)]
        simp [hl]
      · rw [List.getElem?_eq_none (by rw [List.length_set, rst_len]; omega), List.getElem?_eq_none (by omega)]
        simp [hl]
    · rw [List.getElem?_set_ne h, rst_at ρ0 ρ vs]
      have hn : ¬ j = v := fun z => h z.symm
      simp only [List.mem_cons, hn, false_or]
theorem wipe_at (σ : St) {j : Nat} : ∀ vs, (wipe σ vs)[j]? = if j ∈ vs ∧ j < σ.length then some none else σ[j]?
  | [] => by simp [wipe]
  | v :: vs => by
    unfold wipe
    by_cases h : v = j
    · subst h
      by_cases hl : v < σ.length
      · rw [List.getElem?_set_self (by rw [wipe_length]; exact hl)]
        simp [hl]
      · rw [List.getElem?_eq_none (by rw [List.length_set, wipe_length]; omega), List.getElem?_eq_none (by omega)]
        simp [hl]
    · rw [List.getElem?_set_ne h, wipe_at σ vs]
      have hn : ¬ j = v := fun z => h z.symm
      simp only [List.mem_cons, hn, false_or]
theorem wipe_only {σ σ' : St} {vs : List Nat} (h : Only vs (wipe σ vs) σ') : wipe σ' vs = wipe σ vs := by
  have hl : σ'.length = σ.length := by rw [h.len, wipe_length]
  apply List.ext_getElem?
  intro j
  rw [wipe_at, wipe_at, hl]
  by_cases c : j ∈ vs ∧ j < σ.length
  · rw [if_pos c, if_pos c]
  · rw [if_neg c, if_neg c]
    by_cases m : j ∈ vs
    · have : ¬ j < σ.length := fun z => c ⟨m, z⟩
      rw [List.getElem?_eq_none (by omega), List.getElem?_eq_none (by omega)]
    · rw [h.eq j m, wipe_at, if_neg fun z => m z.1]
theorem calmSl_not {ρ : S} {vs : List Nat} (h : calmSl ρ vs = true) {j : Nat} (hj : j ∈ vs) : ¬ isMut ρ j := by
  rintro ⟨d, z⟩
  have q := List.all_eq_true.mp h j hj
  rcases z with z | z <;> rw [z] at q <;> cases q
section
variable {K : PySem.W.Frag} {G H G' H' : Hp} {σ : St} {ρ ρ' : S} {vs : List Nat}
/-- into the block -/
theorem Rel.wipe (r : Rel K G H σ ρ) : Rel K G H (wipe σ vs) (wipeS ρ vs) where
  len := by rw [wipeS_len, wipe_length]; exact r.len
  sub := r.sub
  sl := fun i s e => by
    rw [wipeS_at] at e
    by_cases c : i ∈ vs ∧ i < ρ.length
    · rw [if_pos c] at e; cases e
    · rw [if_neg c] at e
      rw [wipe_at, if_neg (by rw [← r.len]; exact c)]
      exact r.sl i s e
  dis := fun i j a m1 m2 q1 q2 => by
    have mm : ∀ k, isMut (wipeS ρ vs) k → isMut ρ k ∧ ¬ (k ∈ vs ∧ k < ρ.length) := fun k ⟨d, m⟩ => by
      rw [wipeS_at] at m
      by_cases c : k ∈ vs ∧ k < ρ.length
      · rw [if_pos c] at m; rcases m with m | m <;> cases m
      · rw [if_neg c] at m; exact ⟨⟨d, m⟩, c⟩
    obtain ⟨m1, c1⟩ := mm i m1
    obtain ⟨m2, c2⟩ := mm j m2
    rw [wipe_at, if_neg (by rw [← r.len]; exact c1)] at q1
    rw [wipe_at, if_neg (by rw [← r.len]; exact c2)] at q2
    exact r.dis i j a m1 m2 q1 q2
theorem ads_wipe (hl : ρ.length = σ.length) (h : calmSl ρ vs = true) {a : Addr} : ads (wipe σ vs) (wipeS ρ vs) a ↔ ads σ ρ a := by
  constructor
  · rintro ⟨i, ⟨d, m⟩, q⟩
    rw [wipeS_at] at m
    by_cases c : i ∈ vs ∧ i < ρ.length
    · rw [if_pos c] at m; rcases m with m | m <;> cases m
    · rw [if_neg c] at m
      rw [wipe_at, if_neg (by rw [← hl]; exact c)] at q
      exact ⟨i, ⟨d, m⟩, q⟩
  · rintro ⟨i, ⟨d, m⟩, q⟩
    have c : ¬ i ∈ vs := fun z => calmSl_not h z ⟨d, m⟩
    exact ⟨i, ⟨d, by rw [wipeS_at, if_neg fun z => c z.1]; exact m⟩, by rw [wipe_at, if_neg fun z => c z.1]; exact q⟩
/-- out of the block -/
theorem Out.unwipe {G0 H0 : Hp} {ρ0 : S} (r0 : Rel K G0 H0 σ ρ0) (hc : calmSl ρ0 vs = true) (o : Out K G0 H0 (wipe σ vs) (wipeS ρ0 vs) G' H' ρ') : Out K G0 H0 σ ρ0 G' H' (rst ρ0 ρ' vs) := by
  have hl : ρ'.length = σ.length := by rw [o.rel.len, wipe_length]
  have at_ : ∀ j, (rst ρ0 ρ' vs)[j]? = if j ∈ vs ∧ j < σ.length then some (ρ0.getD j none) else ρ'[j]? := fun j => by rw [rst_at, hl]
  have mm : ∀ k, isMut (rst ρ0 ρ' vs) k → isMut ρ' k ∧ ¬ (k ∈ vs ∧ k < σ.length) := fun k ⟨d, m⟩ => by
    rw [at_] at m
    by_cases c : k ∈ vs ∧ k < σ.length
    · rw [if_pos c] at m
      exfalso
      have hk : k < ρ0.length := by rw [r0.len]; exact c.2
      refine calmSl_not hc c.1 ⟨d, ?_⟩
      have eg : ρ0[k]? = some (ρ0.getD k none) := by
        rw [List.getD_eq_getElem?_getD, List.getElem?_eq_getElem hk]; rfl
      rw [eg]; exact m
    · rw [if_neg c] at m; exact ⟨⟨d, m⟩, c⟩
  refine ⟨⟨by rw [rst_len]; exact hl, o.rel.sub, fun i s e => ?_, fun i j a m1 m2 q1 q2 => ?_⟩, ?_, ⟨fun i m => ?_, fun i m => ?_⟩⟩
  · rw [at_] at e
    by_cases c : i ∈ vs ∧ i < σ.length
    · rw [if_pos c] at e
      have hk : i < ρ0.length := by rw [r0.len]; exact c.2
      have eg : ρ0[i]? = some (some s) := by
        rw [List.getD_eq_getElem?_getD, List.getElem?_eq_getElem hk] at e
        rw [List.getElem?_eq_getElem hk]; exact e
      have q := List.all_eq_true.mp hc i c.1
      rw [eg] at q
      have z := r0.sl i s eg
      cases s with
      | sh d => obtain ⟨v, e1, h⟩ := z; exact ⟨v, e1, Rep.mono o.stp.gg _ h⟩
      | own d => cases q
      | io d => cases q
    · rw [if_neg c] at e
      have z := o.rel.sl i s e
      rw [wipe_at, if_neg c] at z
      exact z
  · obtain ⟨m1, c1⟩ := mm i m1
    obtain ⟨m2, c2⟩ := mm j m2
    exact o.rel.dis i j a m1 m2 (by rw [wipe_at, if_neg c1]; exact q1) (by rw [wipe_at, if_neg c2]; exact q2)
  · exact o.stp.mono fun c _ z => (ads_wipe r0.len hc).mp z
  · obtain ⟨m, c⟩ := mm i m
    obtain ⟨d, m2⟩ := o.ker.mu i m
    refine ⟨d, ?_⟩
    rw [wipeS_at, if_neg (by rw [r0.len]; exact c)] at m2
    exact m2
  · have c : ¬ i ∈ vs := fun z => calmSl_not hc z (let ⟨d, q⟩ := m; ⟨d, .inr q⟩)
    obtain ⟨d, q⟩ := m
    obtain ⟨d', q'⟩ := o.ker.io i ⟨d, by rw [wipeS_at, if_neg fun z => c z.1]; exact q⟩
    exact ⟨d', by rw [at_, if_neg fun z => c z.1]; exact q'⟩
end
/-- the turns: the state is wiped between them -/
def lcL (vs : List Nat) (g : D → S → Option S) (p : S → R (Bool × S)) (fe : EF) : List D → List D → S → R (List D × S)
  | [], acc, ρ => .ok (acc, ρ)
  | d :: ds, acc, ρ => ofO (g d ρ) >>= fun ρ1 => noX (p ρ1) >>= fun z => if z.1 = true then noX (eV fe z.2) >>= fun y => if acc.length < sizeLine then lcL vs g p fe ds (acc ++ [y.1]) (wipeS y.2 vs) else .no else lcL vs g p fe ds acc (wipeS z.2 vs)
@[simp] def eLc (vs : List Nat) (it : S → R (List D × S)) (g : D → S → Option S) (p : S → R (Bool × S)) (fe : EF) : EF := fun ρ => it ρ >>= fun z => if calmSl z.2 vs = true then lcL vs g p fe z.1 [] (wipeS z.2 vs) >>= fun y => .ok (.tmp (.lst y.1), rst z.2 y.2 vs) else .no
@[simp] def pYes : S → R (Bool × S) := fun ρ => .ok (true, ρ)
/-- a turn's end: its own slots wiped -/
theorem OutS.wiped {K : PySem.W.Frag} {G0 H0 : Hp} {σ : St} {ρ0 : S} {vs : List Nat} {G2 H2 : Hp} {σ2 : St} {ρ2 : S} (hc : ∀ j ∈ vs, ¬ isIo ρ0 j) (o : OutS K G0 H0 (L2.wipe σ vs) ρ0 G2 H2 σ2 ρ2) (hw : L2.wipe σ2 vs = L2.wipe σ vs) (hn : ∀ j, isMut ρ2 j → j ∉ vs) (hk : ∀ j, isMut ρ2 j → isMut ρ0 j) : Out K G0 H0 (L2.wipe σ vs) ρ0 G2 H2 (wipeS ρ2 vs) := by
  have r := o.rel.wipe (vs := vs)
  rw [hw] at r
  have mw : ∀ j, isMut (wipeS ρ2 vs) j → isMut ρ2 j := fun j ⟨d, m⟩ => by
    rw [wipeS_at] at m
    by_cases c : j ∈ vs ∧ j < ρ2.length
    · rw [if_pos c] at m; rcases m with m | m <;> cases m
    · rw [if_neg c] at m; exact ⟨d, m⟩
  refine ⟨r, o.stp, ⟨fun j m => hk j (mw j m), fun j m => ?_⟩⟩
  obtain ⟨⟨d, q⟩, _⟩ := o.io j m
  exact ⟨d, by rw [wipeS_at, if_neg fun z => hc j z.1 m]; exact q⟩

section
variable {X : Cx} {E : XK} {elt tg iter : Expr} {ifs : List Expr} {scope : Scope} {own : List (Str × Nat)} {pos : Pos} {it : S → R (List D × S)} {g : D → S → Option S} {p : S → R (Bool × S)} {fe : EF} {tv : List Nat}
theorem Out.app {K : PySem.W.Frag} {G1 H1 G H : Hp} {σ : St} {ρ ρ' : S} {a : Addr} {u : HO} (o : Out K G1 H1 σ ρ G H ρ') (h1 : H1 a = none) (hg : G a = none) (ha : H a ≠ none) (hn : ¬ ads σ ρ' a) : Out K G1 H1 σ ρ G (upd H a u) ρ' := by
  refine ⟨⟨o.rel.len, fun b w e => ?_, fun i s e => ?_, o.rel.dis⟩, ⟨o.stp.gg, fun b w e n => ?_, fun b e => ?_, o.stp.fr⟩, o.ker⟩
  · have hb : b ≠ a := fun z => by rw [z, hg] at e; cases e
    rw [upd_ne hb]
    exact o.rel.sub b w e
  · have z := o.rel.sl i s e
    cases s with
    | sh d => exact z
    | own d =>
      obtain ⟨b, e1, h2, w, h3, h4⟩ := z
      have hb : b ≠ a := fun q => hn ⟨i, ⟨d, .inl e⟩, by rw [← q]; exact e1⟩
      exact ⟨b, e1, h2, w, by rw [upd_ne hb]; exact h3, h4⟩
    | io d =>
      obtain ⟨b, e1, h2, w, h3, h4⟩ := z
      have hb : b ≠ a := fun q => hn ⟨i, ⟨d, .inr e⟩, by rw [← q]; exact e1⟩
      exact ⟨b, e1, h2, w, by rw [upd_ne hb]; exact h3, h4⟩
  · rw [upd_ne (ne_of_none e h1)]
    exact o.stp.keep b w e n
  · by_cases hb : b = a
    · rw [hb]; exact h1
    · rw [upd_ne hb] at e
      exact o.stp.thr b e
theorem lc_sound {K : PySem.W.Frag} {vs : List Nat} {tt : TT} (hv : ∀ i ∈ tv, i ∈ vs) (mu : ∀ d ρ ρ', g d ρ = some ρ' → ∀ j, isMut ρ' j → isMut ρ j) (st : SndT K E0 tt p) {G H : Hp} {σ : St} {ρ : S} {Q : VK} {z : List D × S} {J : It} {G1 H1 : Hp} (o1 : Out K G H σ ρ G1 H1 z.2) (wk : Wlk K G1 H1 z.1 J)
    (q : Wp (if calmSl z.2 vs = true then lcL vs g p fe z.1 [] (wipeS z.2 vs) >>= fun y => R.ok (Hd.tmp (.lst y.1), rst z.2 y.2 vs) else R.no) (fun z => ∀ v G' H', Out K G H σ ρ G' H' z.2 → Hold K H G' H' σ z.2 z.1 v → Q v H') (ExE K E G H σ ρ)) : tLc (fun _ _ Rr => Rr J H1) (gF K tv g) tt (tF K E0 fe) vs σ H Q := by
  split at q
  rotate_left
  · exact q.elim
  rename_i hc
  intro Da hD
  obtain ⟨Gd, Y, wk, hG, hY⟩ := wk.ex
  have q := q.bind
  have hgD : G1 Da = none := o1.rel.sub.none hD
  have rw0 : Rel K G1 H1 (L2.wipe σ vs) (wipeS z.2 vs) := o1.rel.wipe
  have nA : ∀ {ρ' : S}, Ker (wipeS z.2 vs) ρ' → ¬ ads (L2.wipe σ vs) ρ' Da := fun k h => (rw0.adsH (k.ads h)).1 hD
  have mw0 : ∀ j, isMut (wipeS z.2 vs) j → j ∉ vs := fun j ⟨d, m⟩ c => by
    rw [wipeS_at] at m
    by_cases hl : j < z.2.length
    · rw [if_pos ⟨c, hl⟩] at m; rcases m with m | m <;> cases m
    · rw [if_neg fun z => hl z.2, List.getElem?_eq_none (by omega)] at m; rcases m with m | m <;> cases m
  refine lc_it wk (fun i H' => ∃ G' ρ' acc us, Out K G1 H1 (L2.wipe σ vs) (wipeS z.2 vs) G' H' ρ' ∧ G' Da = none ∧ H' Da = some (.lst us) ∧ RepL K G' acc us ∧ (∀ b o, G1 b ≠ none → H1 b = some o → H' b = some o) ∧
      Wp (lcL vs g p fe (z.1.drop i) acc ρ') (fun y => ∀ v G' H', Out K G H σ ρ G' H' (rst z.2 y.2 vs) → Hold K H G' H' σ (rst z.2 y.2 vs) (.tmp (.lst y.1)) v → Q v H') (ExE K E G H σ ρ)) ?_ ?_ ?_ ?_
  · refine ⟨G1, wipeS z.2 vs, [], [], Out.new rw0 hD, hgD, upd_same, .nil, fun b o hb ho => ?_, q⟩
    rw [upd_ne (ne_of_none ho hD)]; exact ho
  · rintro i H' _ ⟨G', ρ', acc, us, _, _, _, _, k, _⟩
    exact hG H' k
  · rintro i x H' H2 hi ⟨G', ρ', acc, us, o, gD, hDD, ra, k, w⟩ y
    obtain ⟨d, ed, G2, hstep, rx⟩ := hY i H' x H2 hi y G' o.stp.gg o.rel.sub
    obtain ⟨o2, gD2, hD2, k2, sg2⟩ : Out K G1 H1 (L2.wipe σ vs) (wipeS z.2 vs) G2 H2 ρ' ∧ G2 Da = none ∧ H2 Da = some (.lst us) ∧ (∀ b o, H' b = some o → H2 b = some o) ∧ Same G' G2 := by
      rcases hstep with ⟨rfl, rfl⟩ | ⟨pp, u, hp, rfl, rfl⟩
      · exact ⟨o, gD, hDD, fun _ _ h => h, Same.refl _⟩
      · have zz := Out.lay (o := u) o.rel hp
        have hne : Da ≠ pp := ne_of_none hDD hp
        exact ⟨o.trans zz, by rw [upd_ne hne]; exact gD, by rw [upd_ne hne]; exact hDD, fun b u' h => by rw [upd_ne (ne_of_none h hp)]; exact h, zz.stp.gg⟩
    have hd : z.1.drop i = d :: z.1.drop (i + 1) := by
      obtain ⟨h1, h2⟩ := List.getElem?_eq_some_iff.mp ed
      rw [← h2]
      exact List.drop_eq_getElem_cons h1
    rw [hd] at w
    obtain ⟨ρ3, e3, w⟩ := w.opt
    refine ⟨G2, H2, L2.wipe σ vs, ρ', G2, ρ', ρ3, d, (Out.refl o2.rel).s, rx, e3, fun σ3 o3 n3 => ?_⟩
    have hws : L2.wipe σ3 vs = L2.wipe σ vs := wipe_only (n3.mono hv)
    refine ⟨hws, ?_⟩
    have mu3 := mu d ρ' ρ3 e3
    have n3D : ¬ ads σ3 ρ3 Da := fun h => nA o2.ker (o3.nw Da h (by rw [hD2]; simp))
    have ioN : ∀ j ∈ vs, ¬ isIo ρ' j := fun j hj ⟨d, m⟩ => mw0 j (o2.ker.mu j ⟨d, .inr m⟩) hj
    refine st G2 H2 σ3 ρ3 o3.rel _ (w.bind.noX.mono (fun b hb w2 G4 H4 o4 => ?_) fun _ _ w2 => w2.elim)
    have hD4 : H4 Da = some (.lst us) := o4.stp.keep Da _ hD2 n3D
    have gD4 : G4 Da = none := o4.stp.fr Da (by rw [hD2]; simp) n3D gD2
    have n4D : ¬ ads σ3 b.2 Da := fun h => n3D (o4.ker.ads h)
    have keep4 : ∀ bb oo, G1 bb ≠ none → H1 bb = some oo → H4 bb = some oo := fun bb oo h1 h2 => o4.stp.keep bb oo (k2 bb oo (k bb oo h1 h2)) fun zz => by
      have hz := (o3.rel.adsH zz).2
      cases qq : G1 bb with
      | none => exact h1 qq
      | some u' => rw [(o.stp.gg.trans sg2) bb u' qq] at hz; cases hz
    split at w2
    · rename_i hb1
      rw [if_pos hb1]
      have w3 := w2.bind.noX
      refine ⟨G4, b.2, o4.rel, (Wp.bind w3).mono (fun hh _ w5 v G5 H5 o5 hold => ?_) fun _ _ w5 => w5.elim⟩
      cases es : share hh.1 hh.2 with
      | none => rw [es] at w5; exact w5.elim
      | some y6 =>
        rw [es] at w5
        obtain ⟨d6, ρ6⟩ := y6
        obtain ⟨G6, o6, sg6, rp6⟩ := share_ok o5 hold es
        have w6 : Wp (if acc.length < sizeLine then lcL vs g p fe (z.1.drop (i + 1)) (acc ++ [d6]) (wipeS ρ6 vs) else .no) _ _ := w5
        split at w6
        rotate_left
        · exact w6.elim
        rename_i hsz
        have hD5 : H5 Da = some (.lst us) := o6.stp.keep Da _ hD4 n4D
        have gD6 : G6 Da = none := o6.stp.fr Da (by rw [hD4]; simp) n4D gD4
        refine ⟨us, hD5, by rw [← ra.length]; exact hsz, ?_⟩
        have oA : OutS K G2 H2 (L2.wipe σ vs) ρ' G6 H5 σ3 ρ6 := o3.trans (o4.s.trans o6.s)
        have oW : Out K G2 H2 (L2.wipe σ vs) ρ' G6 H5 (wipeS ρ6 vs) := oA.wiped ioN hws (fun j m hj => mw0 j (o2.ker.mu j (mu3 j (o4.ker.mu j (o6.ker.mu j m)))) hj) fun j m => mu3 j (o4.ker.mu j (o6.ker.mu j m))
        have oB := o2.trans oW
        refine ⟨G6, wipeS ρ6 vs, acc ++ [d6], us ++ [v], oB.app hD gD6 (by rw [hD5]; simp) (nA oB.ker), gD6, upd_same, (ra.mono (sg2.trans (o4.stp.gg.trans o6.stp.gg))).append (.cons rp6 .nil), fun bb oo h1 h2 => ?_, w6⟩
        have hne : bb ≠ Da := ne_of_none h2 hD
        rw [upd_ne hne]
        refine o6.stp.keep bb oo (keep4 bb oo h1 h2) fun zz => ?_
        have hz := (o4.rel.adsH zz).2
        cases qq : G1 bb with
        | none => exact h1 qq
        | some u' => rw [(o.stp.gg.trans (sg2.trans o4.stp.gg)) bb u' qq] at hz; cases hz
    · rename_i hb1
      rw [if_neg hb1]
      have oA : OutS K G2 H2 (L2.wipe σ vs) ρ' G4 H4 σ3 b.2 := o3.trans o4.s
      have oW : Out K G2 H2 (L2.wipe σ vs) ρ' G4 H4 (wipeS b.2 vs) := oA.wiped ioN hws (fun j m hj => mw0 j (o2.ker.mu j (mu3 j (o4.ker.mu j m))) hj) fun j m => mu3 j (o4.ker.mu j m)
      exact ⟨G4, wipeS b.2 vs, acc, us, o2.trans oW, gD4, hD4, ra.mono (sg2.trans o4.stp.gg), keep4, w2⟩
  · rintro H' ⟨G', ρ', acc, us, o, gD, hDD, ra, k, w⟩
    rw [List.drop_length] at w
    have ou := Out.unwipe o1.rel hc o
    refine w (.ref Da) G' H' (o1.trans ou) ⟨Da, rfl, ⟨gD, _, hDD, us, rfl, ra⟩, o1.stp.thr Da hD, fun h => (o1.rel.adsH (ou.ker.ads h)).1 hD⟩
theorem snd_lc {K : PySem.W.Frag} {wi : TI} {vs : List Nat} {tt : TT} (si : SndI K E wi it) (hv : ∀ i ∈ tv, i ∈ vs) (mu : ∀ d ρ ρ', g d ρ = some ρ' → ∀ j, isMut ρ' j → isMut ρ j) (st : SndT K E0 tt p) : Snd K E (tLc wi (gF K tv g) tt (tF K E0 fe) vs) (eLc vs it g p fe) := by
  intro G H σ ρ Rl Q hw
  exact si G H σ ρ Rl _ (hw.bind.mono (fun z _ q J G1 H1 o1 wk => lc_sound hv mu st o1 wk q) fun _ _ q => q)
theorem pr_lc {vs : List Nat} {hs0 : X.calm = true} (hN : X.N.Nodup) (hi : PIt X E tg iter it) (ok : BlkOk X.N X.env.scope scope own) (hv : ∀ i ∈ tv, i ∈ vs)
    (hg : ∀ (s : Shared) (H : Hp) (C : Addr) (cl : List (Str × Addr)) (fp : List Addr), PTg (X.blk s H scope (compEnvC scope cl C X.env) fp) tv tg g)
    (ht : ∀ (s : Shared) (H : Hp) (C : Addr) (cl : List (Str × Addr)) (fp : List Addr), PB (X.blk s H scope (compEnvC scope cl C X.env) fp) E0 (ifs.headD iter) p)
    (he : ∀ (s : Shared) (H : Hp) (C : Addr) (cl : List (Str × Addr)) (fp : List Addr), PR (X.blk s H scope (compEnvC scope cl C X.env) fp) E0 elt fe) (h1 : ifs = [ifs.headD iter]) (hvs : own.map (·.2) = vs := by rfl) (hs : ∀ x, foldedSetIterable iter X.env x = pure x := by intro _; rfl) :
    PR X E (.ListComp elt [⟨tg, iter, ifs, 0⟩] scope pos) (eLc vs it g p fe) := by
  subst hvs
  obtain ⟨wi, pi, si⟩ := hi.ex
  refine ⟨_, pe_lc hs0 hN pi ok (fun s H C cl fp => (hg s H C cl fp).pg) (fun s H C cl fp => ?_) (fun s H C cl fp => (he s H C cl fp).pe) hs, snd_lc si hv (hg X.s_0 X.H_0 0 [] []).mu (tt := tFB X.K E0 p) fun G H σ ρ r Q w => ⟨G, ρ, r, w⟩⟩
  rw [h1]
  exact pts_one (ht s H C cl fp).pt
/-- without a test -/
theorem pr_lc0 {vs : List Nat} {hs0 : X.calm = true} (hN : X.N.Nodup) (hi : PIt X E tg iter it) (ok : BlkOk X.N X.env.scope scope own) (hv : ∀ i ∈ tv, i ∈ vs)
    (hg : ∀ (s : Shared) (H : Hp) (C : Addr) (cl : List (Str × Addr)) (fp : List Addr), PTg (X.blk s H scope (compEnvC scope cl C X.env) fp) tv tg g)
    (he : ∀ (s : Shared) (H : Hp) (C : Addr) (cl : List (Str × Addr)) (fp : List Addr), PR (X.blk s H scope (compEnvC scope cl C X.env) fp) E0 elt fe) (hvs : own.map (·.2) = vs := by rfl) (hs : ∀ x, foldedSetIterable iter X.env x = pure x := by intro _; rfl) :
    PR X E (.ListComp elt [⟨tg, iter, [], 0⟩] scope pos) (eLc vs it g pYes fe) := by
  subst hvs
  obtain ⟨wi, pi, si⟩ := hi.ex
  refine ⟨_, pe_lc hs0 hN pi ok (fun s H C cl fp => (hg s H C cl fp).pg) (fun s H C cl fp => pts_nil) (fun s H C cl fp => (he s H C cl fp).pe) hs, snd_lc si hv (hg X.s_0 X.H_0 0 [] []).mu fun G H σ ρ r Q w => w G H (Out.refl r)⟩
end
end BR
set_option Elab.async false
set_option linter.all false
set_option maxRecDepth 100000
set_option maxHeartbeats 4000000
namespace BR
open PySem L2

/-! ## defs and their calls -/
abbrev FT := List D → R (D × List D)
inductive ArgR (K : PySem.W.Frag) (G H : Hp) : List Bool → List V → List D → List Addr → Prop where
  | nil : ArgR K G H [] [] [] []
  | sh {d : D} {v : V} {ms : List Bool} {vs : List V} {ds : List D} {as : List Addr} : Rep K G d v → ArgR K G H ms vs ds as → ArgR K G H (false :: ms) (v :: vs) (d :: ds) as
  | io {d : D} {p : Addr} {ms : List Bool} {vs : List V} {ds : List D} {as : List Addr} : OwnAt K G H p d → p ∉ as → ArgR K G H ms vs ds as → ArgR K G H (true :: ms) (.ref p :: vs) (d :: ds) (p :: as)
def RetR (K : PySem.W.Frag) (own : Bool) (H0 G H : Hp) (d : D) (v : V) : Prop := match own with
  | true => ∃ p, v = .ref p ∧ OwnAt K G H p d ∧ H0 p = none
  | false => Rep K G d v
def OutR (K : PySem.W.Frag) (G H : Hp) (as : List Addr) (os : List D) : Prop := ∀ (j : Nat) (p : Addr), as[j]? = some p → ∃ d, os[j]? = some d ∧ OwnAt K G H p d
def spF (K : PySem.W.Frag) (ms : List Bool) (own : Bool) (F : FT) : Sp := fun vs H Q E => ∃ (G : Hp) (ds : List D) (as : List Addr), Sub G H ∧ ArgR K G H ms vs ds as ∧
  Wp (F ds) (fun z => ∀ v G' H', Sub G' H' → Stp (fun b => b ∈ as) G H G' H' → OutR K G' H' as z.2 → RetR K own H G' H' z.1 v → Q v H')
    (fun x => ∀ c d G' H', Sub G' H' → Stp (fun b => b ∈ as) G H G' H' → ExR K G' H' x c d → E c d H')
theorem ArgR.len {K : PySem.W.Frag} {G H : Hp} {ms : List Bool} {vs : List V} {ds : List D} {as : List Addr} (h : ArgR K G H ms vs ds as) : vs.length = ms.length ∧ ds.length = ms.length := by
  induction h with
  | nil => exact ⟨rfl, rfl⟩
  | sh _ _ ih => exact ⟨congrArg Nat.succ ih.1, congrArg Nat.succ ih.2⟩
  | io _ _ _ ih => exact ⟨congrArg Nat.succ ih.1, congrArg Nat.succ ih.2⟩
@[simp] def iniS : List Bool → List D → S
  | false :: ms, d :: ds => some (.sh d) :: iniS ms ds
  | true :: ms, d :: ds => some (.io d) :: iniS ms ds
  | _, _ => []
@[simp] def ini (ms : List Bool) (n : Nat) (ds : List D) : S := iniS ms ds ++ List.replicate (n - ds.length) none
@[simp] def flH : Fl → Option Hd
  | .nx => some (.val .non)
  | .rt h => some h
  | _ => none
@[simp] def finH (own : Bool) (h : Hd) (ρ : S) : Option (D × S) := match own with
  | false => share h ρ
  | true => match h with
    | .tmp d => some (d, ρ)
    | .slot i => (match ρ[i]? with
      | some (some (.own d)) => some (d, ρ)
      | _ => none)
    | _ => none
@[simp] def ioOut : List Bool → Nat → S → Option (List D)
  | [], _, _ => some []
  | false :: ms, k, ρ => ioOut ms (k + 1) ρ
  | true :: ms, k, ρ => match ρ[k]? with
    | some (some (.io d)) => (ioOut ms (k + 1) ρ).map (d :: ·)
    | _ => none
@[simp] def runF (ms : List Bool) (own : Bool) (n : Nat) (b : SF) : FT := fun ds => b (ini ms n ds) >>= fun z => ofO (flH z.1) >>= fun h => ofO (finH own h z.2) >>= fun y => ofO (ioOut ms 0 y.2) >>= fun o => .ok (y.1, o)
section
variable {K : PySem.W.Frag} {G H : Hp}
theorem iniS_len {ms : List Bool} {vs : List V} {ds : List D} {as : List Addr} (h : ArgR K G H ms vs ds as) : (iniS ms ds).length = vs.length := by
  induction h with
  | nil => rfl
  | sh _ _ ih => exact congrArg Nat.succ ih
  | io _ _ _ ih => exact congrArg Nat.succ ih
theorem iniS_sl {ms : List Bool} {vs : List V} {ds : List D} {as : List Addr} (h : ArgR K G H ms vs ds as) : ∀ (i : Nat) (s : Sl), (iniS ms ds)[i]? = some (some s) → SlR K G H (vs.map some)[i]? s ∧ ∀ d, s ≠ .own d := by
  induction h with
  | nil => intro i s e; simp [iniS] at e
  | sh r _ ih =>
    intro i s e
    cases i with
    | zero => simp only [iniS, List.getElem?_cons_zero] at e; cases e; exact ⟨⟨_, rfl, r⟩, nofun⟩
    | succ i => simp only [iniS, List.getElem?_cons_succ] at e; simpa using ih i s e
  | io r _ _ ih =>
    intro i s e
    cases i with
    | zero => simp only [iniS, List.getElem?_cons_zero] at e; cases e; exact ⟨⟨_, rfl, r⟩, nofun⟩
    | succ i => simp only [iniS, List.getElem?_cons_succ] at e; simpa using ih i s e
/-- the io slots -/
theorem iniS_io {ms : List Bool} {vs : List V} {ds : List D} {as : List Addr} (h : ArgR K G H ms vs ds as) : ∀ i, isIo (iniS ms ds) i → ∃ p, p ∈ as ∧ (vs.map some)[i]? = some (some (.ref p)) ∧ ∀ j, isIo (iniS ms ds) j → (vs.map some)[j]? = some (some (.ref p)) → j = i := by
  induction h with
  | nil => rintro i ⟨d, e⟩; simp [iniS] at e
  | sh r _ ih =>
    rintro i ⟨d, e⟩
    cases i with
    | zero => simp only [iniS, List.getElem?_cons_zero] at e; cases e
    | succ i =>
      simp only [iniS, List.getElem?_cons_succ] at e
      obtain ⟨p, h1, h2, h3⟩ := ih i ⟨d, e⟩
      refine ⟨p, h1, by simpa using h2, fun j ⟨d', e'⟩ ej => ?_⟩
      cases j with
      | zero => simp only [iniS, List.getElem?_cons_zero] at e'; cases e'
      | succ j => simp only [iniS, List.getElem?_cons_succ] at e'; rw [h3 j ⟨d', e'⟩ (by simpa using ej)]
  | io r hn _ ih =>
    rintro i ⟨d, e⟩
    cases i with
    | zero =>
      refine ⟨_, List.mem_cons_self, rfl, fun j ⟨d', e'⟩ ej => ?_⟩
      cases j with
      | zero => rfl
      | succ j =>
        simp only [iniS, List.getElem?_cons_succ] at e'
        obtain ⟨p', h1, h2, _⟩ := ih j ⟨d', e'⟩
        rw [List.map_cons, List.getElem?_cons_succ, h2] at ej
        cases ej
        exact absurd h1 hn
    | succ i =>
      simp only [iniS, List.getElem?_cons_succ] at e
      obtain ⟨p', h1, h2, h3⟩ := ih i ⟨d, e⟩
      refine ⟨p', List.mem_cons_of_mem _ h1, by simpa using h2, fun j ⟨d', e'⟩ ej => ?_⟩
      cases j with
      | zero =>
        rw [List.map_cons, List.getElem?_cons_zero] at ej
        cases ej
        exact absurd h1 hn
      | succ j => simp only [iniS, List.getElem?_cons_succ] at e'; rw [h3 j ⟨d', e'⟩ (by simpa using ej)]
theorem ini_at {ms : List Bool} {n : Nat} {ds : List D} {i : Nat} {s : Sl} (h : (ini ms n ds)[i]? = some (some s)) : (iniS ms ds)[i]? = some (some s) := by
  unfold ini at h
  by_cases hi : i < (iniS ms ds).length
  · rw [List.getElem?_append_left hi] at h; exact h
  · rw [List.getElem?_append_right (by omega), List.getElem?_replicate] at h
    split at h <;> cases h
theorem start_at {N : List Str} {vs : List V} {i : Nat} {v : V} (h : (vs.map some)[i]? = some (some v)) : (L2.start N vs)[i]? = some (some v) := by
  unfold L2.start
  have hi : i < (vs.map some).length := (List.getElem?_eq_some_iff.mp h).1
  rw [List.getElem?_append_left hi]
  exact h
theorem rel_ini {ms : List Bool} {N : List Str} {vs : List V} {ds : List D} {as : List Addr} (s : Sub G H) (h : ArgR K G H ms vs ds as) (hl : ms.length ≤ N.length) : Rel K G H (L2.start N vs) (ini ms N.length ds) where
  len := by
    unfold ini L2.start
    rw [List.length_append, List.length_append, iniS_len h, List.length_map, List.length_replicate, List.length_replicate, h.len.1, h.len.2]
  sub := s
  sl := fun i sl e => by
    obtain ⟨z, _⟩ := iniS_sl h i sl (ini_at e)
    cases sl with
    | sh d => obtain ⟨v, e1, r⟩ := z; exact ⟨v, start_at e1, r⟩
    | own d => obtain ⟨v, e1, r⟩ := z; exact ⟨v, start_at e1, r⟩
    | io d => obtain ⟨v, e1, r⟩ := z; exact ⟨v, start_at e1, r⟩
  dis := fun i j p m1 m2 q1 q2 => by
    have io_ : ∀ k, isMut (ini ms N.length ds) k → isIo (iniS ms ds) k := fun k ⟨d, m⟩ => by
      rcases m with m | m
      · exact absurd rfl ((iniS_sl h k _ (ini_at m)).2 d)
      · exact ⟨d, ini_at m⟩
    obtain ⟨p', _, h2, h3⟩ := iniS_io h j (io_ j m2)
    have e2 := start_at (N := N) h2
    rw [q2] at e2; cases e2
    obtain ⟨p'', _, h4, _⟩ := iniS_io h i (io_ i m1)
    have e1 := start_at (N := N) h4
    rw [q1] at e1; cases e1
    exact h3 i (io_ i m1) h4
theorem ads_ini {ms : List Bool} {N : List Str} {vs : List V} {ds : List D} {as : List Addr} (h : ArgR K G H ms vs ds as) {p : Addr} (z : ads (L2.start N vs) (ini ms N.length ds) p) : p ∈ as := by
  obtain ⟨i, ⟨d, m⟩, e⟩ := z
  have io_ : isIo (iniS ms ds) i := by
    rcases m with m | m
    · exact absurd rfl ((iniS_sl h i _ (ini_at m)).2 d)
    · exact ⟨d, ini_at m⟩
  obtain ⟨p', h1, h2, _⟩ := iniS_io h i io_
  rw [start_at h2] at e
  cases e
  exact h1
theorem ioOut_some {ms : List Bool} {vs : List V} {ds : List D} {as : List Addr} (h : ArgR K G H ms vs ds as) : ∀ (k : Nat) (ρ : S) (os : List D), ioOut ms k ρ = some os → ∀ (j : Nat) (p : Addr), as[j]? = some p → ∃ (i : Nat) (d : D), isIo (iniS ms ds) i ∧ (vs.map some)[i]? = some (some (.ref p)) ∧ ρ[k + i]? = some (some (.io d)) ∧ os[j]? = some d := by
  induction h with
  | nil => intro k ρ os _ j p e; simp at e
  | sh _ _ ih =>
    intro k ρ os e j p ea
    obtain ⟨i, d, ⟨d', h1⟩, h2, h3, h4⟩ := ih (k + 1) ρ os e j p ea
    exact ⟨i + 1, d, ⟨d', by simpa [iniS] using h1⟩, by simpa using h2, by rw [← h3]; congr 1; omega, h4⟩
  | io _ _ _ ih =>
    intro k ρ os e j p ea
    unfold ioOut at e
    split at e
    · rename_i d q
      obtain ⟨os', e1, rfl⟩ := Option.map_eq_some_iff.mp e
      cases j with
      | zero =>
        rw [List.getElem?_cons_zero] at ea
        cases ea
        exact ⟨0, d, ⟨_, rfl⟩, rfl, q, rfl⟩
      | succ j =>
        obtain ⟨i, d2, ⟨d', h1⟩, h2, h3, h4⟩ := ih (k + 1) ρ os' e1 j p (by simpa using ea)
        exact ⟨i + 1, d2, ⟨d', by simpa [iniS] using h1⟩, by simpa using h2, by rw [← h3]; congr 1; omega, by simpa using h4⟩
    · cases e
end
section
variable {P : Program} {w : World} {K : PySem.W.Frag} {mg : Str → Option Value} {base : Heap} {x qual : Str} {params : Arguments} {body : List Stmt} {scope : Scope} {dvs : List V} {kws : List (Str × V)} {f : Addr} {fd : FuncData} {N ps : List Str} {k : Nat}
/-- THE RULE of a def -/
theorem fn_ok {ms : List Bool} {own : Bool} {b : SF} (F : FunD K x qual params body scope dvs kws f fd) (Sc : FnScope N ps scope) (hm : ms.length = ps.length)
    (hb : ∀ (cdv : Value) (A : Around) (outer : List Env) (s : Shared) (H : Hp) (E : XK), Room k (A.deeper (PyProof.Rows.envOfC qual scope s.heap.objs.size f cdv)) → PSq (cxOf (L2.CX P w) P w K mg base N qual scope f cdv A outer s H E) E body b) :
    FnOk P w K mg base (L2.CX P w) (k + 1) f fd ps (spF K ms own (runF ms own N.length b)) := by
  have hpl : ps.length ≤ N.length := by have := congrArg List.length Sc.pre; rw [List.length_take] at this; omega
  refine F.ok Sc (fun vs H Q E h => ?_) fun cdv A outer s H vs Q E hr h => ?_
  · obtain ⟨G, ds, as, _, h, _⟩ := h
    rw [h.len.1, hm]
  · obtain ⟨G, ds, as, sb, ha, hw⟩ := h
    obtain ⟨t, pt, st⟩ := (hb cdv A outer s H E hr).ex
    refine ⟨t, pt, ?_⟩
    have r0 : Rel K G H (L2.start N vs) (ini ms N.length ds) := rel_ini sb ha (by omega)
    have stp0 : ∀ {G' H' : Hp}, Stp (ads (L2.start N vs) (ini ms N.length ds)) G H G' H' → Stp (fun b => b ∈ as) G H G' H' := fun st => st.mono fun c _ z => ads_ini ha z
    refine st G H (L2.start N vs) (ini ms N.length ds) r0 _ (hw.bind.mono (fun z _ q => ?_) fun x _ q c d G' H' sb' st ex => q c d G' H' sb' (stp0 st) ex)
    obtain ⟨hd, e1, qa⟩ := q.opt
    obtain ⟨y, e2, qb⟩ := qa.opt
    obtain ⟨o, e3, qf⟩ := qb.opt
    clear q qa qb
    -- a way out
    have out : ∀ {σ' : St} {G' H' : Hp} {v : V}, OutS K G H (L2.start N vs) (ini ms N.length ds) G' H' σ' z.2 → Hold K H G' H' σ' z.2 hd v → Q v H' := by
      intro σ' G' H' v oo hh
      have fin : ∀ {G'' : Hp} {ρ'' : S}, OutS K G H (L2.start N vs) (ini ms N.length ds) G'' H' σ' ρ'' → ioOut ms 0 ρ'' = some o → OutR K G'' H' as o := by
        intro G'' ρ'' o2 e3' jj p ea
        obtain ⟨i, dd, i1, i2, i3, i4⟩ := ioOut_some ha 0 ρ'' o e3' jj p ea
        rw [Nat.zero_add] at i3
        have hio : isIo (ini ms N.length ds) i := by
          obtain ⟨d, q⟩ := i1
          refine ⟨d, ?_⟩
          unfold ini
          rw [List.getElem?_append_left (List.getElem?_eq_some_iff.mp q).1]
          exact q
        obtain ⟨a', e4, ow⟩ := o2.rel.sl i _ i3
        rw [(o2.io i hio).2, start_at i2] at e4
        cases e4
        exact ⟨dd, i4, ow⟩
      cases own with
      | false =>
        have e2' : share hd z.2 = some y := e2
        obtain ⟨d, ρ2⟩ := y
        have oo' : OutS K G H (L2.start N vs) (ini ms N.length ds) G' H' σ' z.2 := oo
        have rr : Out K G' H' σ' z.2 G' H' z.2 := Out.refl oo.rel
        cases hd with
        | val d0 => cases e2'; exact qf v G' H' oo.rel.sub (stp0 oo.stp) (fin oo e3) hh
        | tmp d0 =>
          cases e2'
          obtain ⟨p, rfl, ⟨h1, u, h2, h3⟩, h4, h5⟩ := hh
          have hs : Same G' (upd G' p u) := same_new h1
          have og : OutS K G H (L2.start N vs) (ini ms N.length ds) (upd G' p u) H' σ' z.2 := ⟨oo.rel.grow h1 h2 h5, ⟨oo.stp.gg.trans hs, oo.stp.keep, oo.stp.thr, fun b qb n g => by rw [upd_ne fun z => qb (by rw [z]; exact h4)]; exact oo.stp.fr b qb n g⟩, oo.nw, oo.io⟩
          exact qf _ _ H' og.rel.sub (stp0 og.stp) (fin og e3) (Cont.rep upd_same (h3.mono hs))
        | slot i =>
          obtain ⟨G2, o2, _, rp⟩ := share_ok (hd := .slot i) rr hh e2'
          have og := oo.trans o2.s
          exact qf v G2 H' og.rel.sub (stp0 og.stp) (fin og e3) rp
      | true =>
        cases hd with
        | val d0 => cases e2
        | tmp d0 =>
          cases e2
          obtain ⟨p, rfl, h1, h4, h5⟩ := hh
          exact qf _ G' H' oo.rel.sub (stp0 oo.stp) (fin oo e3) ⟨p, rfl, h1, h4⟩
        | slot i =>
          have e2' : (match z.2[i]? with | some (some (.own d)) => some (d, z.2) | _ => none) = some y := e2
          split at e2'
          · rename_i d0 qi
            cases e2'
            obtain ⟨p, e5, ow⟩ := oo.rel.sl i _ qi
            have hv : σ'[i]? = some (some v) := hh
            rw [hv] at e5; cases e5
            refine qf _ G' H' oo.rel.sub (stp0 oo.stp) (fin oo e3) ⟨p, rfl, ow, ?_⟩
            cases hp : H p with
            | none => rfl
            | some u =>
              exfalso
              obtain ⟨j, m, ej⟩ := oo.nw p ⟨i, ⟨d0, .inl qi⟩, hv⟩ (by rw [hp]; simp)
              have hio : isIo (ini ms N.length ds) j := by
                obtain ⟨d, m⟩ := m
                rcases m with m | m
                · exact absurd rfl ((iniS_sl ha j _ (ini_at m)).2 d)
                · exact ⟨d, m⟩
              obtain ⟨⟨d2, q2⟩, e6⟩ := oo.io j hio
              have := oo.rel.dis i j p ⟨d0, .inl qi⟩ ⟨d2, .inr q2⟩ hv (by rw [e6]; exact ej)
              subst this
              rw [qi] at q2; cases q2
          · cases e2'
    obtain ⟨fl, ρ'⟩ := z
    cases fl with
    | nx =>
      cases e1
      exact fun σ' G' H' oo => out oo (Hold.val rep_non)
    | rt h0 =>
      cases e1
      exact fun v σ' G' H' oo hh => out oo hh
    | bk => cases e1
    | ct => cases e1
/-- what a callee raises leaves the def -/
theorem passD {qual : Str} {f : Addr} {cdv : Value} {A : Around} {outer : List Env} {s : Shared} {H : Hp} {E : XK} : Passes (L2.CX P w) (cxOf (L2.CX P w) P w K mg base N qual scope f cdv A outer s H E) E :=
  passes_call (takes_of rfl rfl rfl rfl) fun _ _ _ _ h => h
theorem ownD {qual : Str} {f : Addr} {cdv : Value} {A : Around} {outer : List Env} {s : Shared} {H : Hp} {E : XK} : PassesOwn (model P w) (A.deeper (PyProof.Rows.envOfC qual scope s.heap.objs.size f cdv)) (PyProof.Rows.envOfC qual scope s.heap.objs.size f cdv) (cxOf (L2.CX P w) P w K mg base N qual scope f cdv A outer s H E).xe :=
  passes_of (X := cxOf (L2.CX P w) P w K mg base N qual scope f cdv A outer s H E) rfl
end
/-! ### arguments, some of them in/out objects -/
inductive ArS : List Bool → List Hd → Prop where
  | nil : ArS [] []
  | sh {ms : List Bool} {hs : List Hd} {d : D} : ArS ms hs → ArS (false :: ms) (.val d :: hs)
  | slot {ms : List Bool} {hs : List Hd} {i : Nat} : ArS ms hs → ArS (true :: ms) (.slot i :: hs)
  | tmp {ms : List Bool} {hs : List Hd} {d : D} : ArS ms hs → ArS (true :: ms) (.tmp d :: hs)
def SndM (K : PySem.W.Frag) (E : XK) (ms : List Bool) (t : TA) (f : S → R (List Hd × S)) : Prop := ∀ (G H : Hp) (σ : St) (ρ : S), Rel K G H σ ρ → ∀ Q : List V → Hp → Prop,
  Wp (f ρ) (fun z => ∀ vs G' H', Out K G H σ ρ G' H' z.2 → HoldL K H G' H' σ z.2 z.1 vs → ArS ms z.1 → Q vs H') (ExE K E G H σ ρ) → t σ H Q
structure PMs (X : Cx) (E : XK) (ms : List Bool) (es : List Expr) (f : S → R (List Hd × S)) : Prop where
  ex : ∃ t, PA X es t ∧ SndM X.K E ms t f
@[simp] def mNil : S → R (List Hd × S) := fun ρ => .ok ([], ρ)
@[simp] def mSh (f : EF) (g : S → R (List Hd × S)) : S → R (List Hd × S) := fun ρ => eV f ρ >>= fun z => g z.2 >>= fun y => .ok (.val z.1 :: y.1, y.2)
@[simp] def mIo (f : EF) (g : S → R (List Hd × S)) : S → R (List Hd × S) := fun ρ => f ρ >>= fun z => match z.1 with
  | .val _ => .no
  | h => g z.2 >>= fun y => .ok (h :: y.1, y.2)
section
variable {X : Cx} {E : XK} {e : Expr} {es : List Expr} {f : EF} {g : S → R (List Hd × S)} {ms : List Bool}
theorem ms_nil : PMs X E [] [] mNil := ⟨_, pa_nil, fun G H σ ρ r Q hw => hw [] G H (.refl r) .nil .nil⟩
theorem ms_sh (h1 : PR X E e f) (h2 : PMs X E ms es g) (hs : starEach (e :: es) X.env = (false, eval e X.env) :: starEach es X.env := by rfl) : PMs X E (false :: ms) (e :: es) (mSh f g) := by
  obtain ⟨t, pe, s⟩ := h1.v.ex
  obtain ⟨t2, pa, s2⟩ := h2.ex
  refine ⟨_, pa_cons pe pa hs, fun G H σ ρ r Q hw => s G H σ ρ r _ (hw.bind.mono (fun z _ q v G' H' o h => ?_) fun _ _ q => q)⟩
  refine s2 G' H' σ z.2 o.rel _ (q.bind.mono (fun y _ q2 vs G2 H2 o2 h2 a2 => ?_) fun _ _ q2 => q2.step o)
  exact q2 (v :: vs) G2 H2 (o.trans o2) (.cons (Hold.val (Rep.mono o2.stp.gg _ h)) (h2.back o.stp.thr)) (.sh a2)
theorem ms_io (h1 : PR X E e f) (h2 : PMs X E ms es g) (hs : starEach (e :: es) X.env = (false, eval e X.env) :: starEach es X.env := by rfl) : PMs X E (true :: ms) (e :: es) (mIo f g) := by
  obtain ⟨t, pe, s⟩ := h1.ex
  obtain ⟨t2, pa, s2⟩ := h2.ex
  refine ⟨_, pa_cons pe pa hs, fun G H σ ρ r Q hw => s G H σ ρ r _ (hw.bind.mono (fun z _ q v G' H' o h => ?_) fun _ _ q => q)⟩
  obtain ⟨hd, ρ1⟩ := z
  cases hd with
  | val d => exact q.elim
  | slot i =>
    refine s2 G' H' σ ρ1 o.rel _ ((Wp.bind q).mono (fun y _ q2 vs G2 H2 o2 h2 a2 => ?_) fun _ _ q2 => q2.step o)
    exact q2 (v :: vs) G2 H2 (o.trans o2) (.cons (h.pers o2) (h2.back o.stp.thr)) (.slot a2)
  | tmp d =>
    refine s2 G' H' σ ρ1 o.rel _ ((Wp.bind q).mono (fun y _ q2 vs G2 H2 o2 h2 a2 => ?_) fun _ _ q2 => q2.step o)
    exact q2 (v :: vs) G2 H2 (o.trans o2) (.cons (h.pers o2) (h2.back o.stp.thr)) (.tmp a2)
end
@[simp] def isTmp : Hd → Bool
  | .tmp _ => true
  | _ => false
@[simp] def isSlot (i : Nat) : Hd → Bool
  | .slot j => j == i
  | _ => false
@[simp] def lookM : List Hd → S → Option (List D)
  | [], _ => some []
  | .val d :: hs, ρ => (lookM hs ρ).map (d :: ·)
  | .tmp d :: hs, ρ => if hs.any isTmp = true then none else (lookM hs ρ).map (d :: ·)
  | .slot i :: hs, ρ => if hs.any (isSlot i) = true then none else (match ρ[i]? with
    | some (some (.own d)) => (lookM hs ρ).map (d :: ·)
    | some (some (.io d)) => (lookM hs ρ).map (d :: ·)
    | _ => none)
@[simp] def putIo : List Hd → List D → S → Option S
  | [], _, ρ => some ρ
  | .val _ :: hs, os, ρ => putIo hs os ρ
  | .tmp _ :: hs, _ :: os, ρ => putIo hs os ρ
  | .slot i :: hs, d :: os, ρ => (match ρ[i]? with
    | some (some (.own _)) => putIo hs os (ρ.set i (some (.own d)))
    | some (some (.io _)) => putIo hs os (ρ.set i (some (.io d)))
    | _ => none)
  | .tmp _ :: _, [], _ => none
  | .slot _ :: _, [], _ => none
section
variable {K : PySem.W.Frag} {Hs G H G' H' : Hp} {σ : St} {ρ ρ' : S}
theorem Rel.after {A : Addr → Prop} (r : Rel K G H σ ρ) (st : Stp A G H G' H') (sb : Sub G' H') (hl : ρ'.length = ρ.length)
    (h : ∀ (i : Nat) (s : Sl), ρ'[i]? = some (some s) → (ρ[i]? = some (some s) ∧ (isMut ρ i → ∀ b, σ[i]? = some (some (.ref b)) → ¬ A b)) ∨ (isMut ρ i ∧ ∃ d, (s = .own d ∨ s = .io d) ∧ ∃ p, σ[i]? = some (some (.ref p)) ∧ OwnAt K G' H' p d)) : Rel K G' H' σ ρ' where
  len := hl.trans r.len
  sub := sb
  sl := fun i s e => by
    rcases h i s e with ⟨e1, n⟩ | ⟨m, d, hs, p, e1, ow⟩
    · have z := r.sl i s e1
      cases s with
      | sh d => obtain ⟨v, e2, rp⟩ := z; exact ⟨v, e2, Rep.mono st.gg _ rp⟩
      | own d =>
        obtain ⟨b, e2, h1, o, h2, h3⟩ := z
        have nb := n ⟨d, .inl e1⟩ b e2
        exact ⟨b, e2, st.fr b (by rw [h2]; simp) nb h1, o, st.keep b o h2 nb, h3.mono st.gg⟩
      | io d =>
        obtain ⟨b, e2, h1, o, h2, h3⟩ := z
        have nb := n ⟨d, .inr e1⟩ b e2
        exact ⟨b, e2, st.fr b (by rw [h2]; simp) nb h1, o, st.keep b o h2 nb, h3.mono st.gg⟩
    · rcases hs with rfl | rfl
      · exact ⟨p, e1, ow⟩
      · exact ⟨p, e1, ow⟩
  dis := fun i j a m1 m2 => by
    have mm : ∀ k, isMut ρ' k → isMut ρ k := fun k ⟨d, m⟩ => by
      rcases m with m | m
      · rcases h k _ m with ⟨e1, _⟩ | ⟨m, _⟩
        · exact ⟨d, .inl e1⟩
        · exact m
      · rcases h k _ m with ⟨e1, _⟩ | ⟨m, _⟩
        · exact ⟨d, .inr e1⟩
        · exact m
    exact r.dis i j a (mm i m1) (mm j m2)
/-- the arguments as the callee sees them -/
inductive IoL (K : PySem.W.Frag) (Hs G H : Hp) (σ : St) (ρ : S) : List Bool → List Hd → List V → List D → List Addr → Prop where
  | nil : IoL K Hs G H σ ρ [] [] [] [] []
  | sh {d : D} {v : V} {ms : List Bool} {hs : List Hd} {vs : List V} {ds : List D} {as : List Addr} : Rep K G d v → IoL K Hs G H σ ρ ms hs vs ds as → IoL K Hs G H σ ρ (false :: ms) (.val d :: hs) (v :: vs) (d :: ds) as
  | tmp {d : D} {p : Addr} {ms : List Bool} {hs : List Hd} {vs : List V} {ds : List D} {as : List Addr} : OwnAt K G H p d → Hs p = none → ¬ ads σ ρ p → p ∉ as → IoL K Hs G H σ ρ ms hs vs ds as → IoL K Hs G H σ ρ (true :: ms) (.tmp d :: hs) (.ref p :: vs) (d :: ds) (p :: as)
  | slot {d : D} {i : Nat} {p : Addr} {ms : List Bool} {hs : List Hd} {vs : List V} {ds : List D} {as : List Addr} : OwnAt K G H p d → σ[i]? = some (some (.ref p)) → (ρ[i]? = some (some (.own d)) ∨ ρ[i]? = some (some (.io d))) → p ∉ as → hs.any (isSlot i) = false →
    IoL K Hs G H σ ρ ms hs vs ds as → IoL K Hs G H σ ρ (true :: ms) (.slot i :: hs) (.ref p :: vs) (d :: ds) (p :: as)
theorem IoL.argR {ms : List Bool} {hs : List Hd} {vs : List V} {ds : List D} {as : List Addr} (h : IoL K Hs G H σ ρ ms hs vs ds as) : ArgR K G H ms vs ds as := by
  induction h with
  | nil => exact .nil
  | sh a _ ih => exact .sh a ih
  | tmp a _ _ n _ ih => exact .io a n ih
  | slot a _ _ n _ _ ih => exact .io a n ih
theorem IoL.mem {ms : List Bool} {hs : List Hd} {vs : List V} {ds : List D} {as : List Addr} (h : IoL K Hs G H σ ρ ms hs vs ds as) {q : Addr} (hq : q ∈ as) : (hs.any isTmp = true ∧ Hs q = none ∧ ¬ ads σ ρ q) ∨ ∃ j, hs.any (isSlot j) = true ∧ σ[j]? = some (some (.ref q)) ∧ isMut ρ j := by
  induction h with
  | nil => cases hq
  | sh _ _ ih =>
    rcases ih hq with ⟨a, b⟩ | ⟨j, a, b⟩
    · exact .inl ⟨by rw [List.any_cons, a]; exact Bool.or_true _, b⟩
    · exact .inr ⟨j, by rw [List.any_cons, a]; exact Bool.or_true _, b⟩
  | tmp a b c n _ ih =>
    rcases List.mem_cons.mp hq with e | hq
    · subst e; exact .inl ⟨rfl, b, c⟩
    · rcases ih hq with ⟨a, b⟩ | ⟨j, a, b⟩
      · exact .inl ⟨by rw [List.any_cons, a]; exact Bool.or_true _, b⟩
      · exact .inr ⟨j, by rw [List.any_cons, a]; exact Bool.or_true _, b⟩
  | @slot d i p ms hs vs ds as a b c n m _ ih =>
    rcases List.mem_cons.mp hq with e | hq
    · subst e
      refine .inr ⟨i, by simp [isSlot], b, d, c⟩
    · rcases ih hq with ⟨a, b⟩ | ⟨j, a, b⟩
      · exact .inl ⟨by rw [List.any_cons, a]; exact Bool.or_true _, b⟩
      · exact .inr ⟨j, by rw [List.any_cons, a]; exact Bool.or_true _, b⟩
theorem ioL_of (r : Rel K G H σ ρ) : ∀ {ms : List Bool} {hs : List Hd} {vs : List V} {ds : List D}, ArS ms hs → HoldL K Hs G H σ ρ hs vs → lookM hs ρ = some ds → ∃ as, IoL K Hs G H σ ρ ms hs vs ds as
  | _, _, _, _, .nil, .nil, e => by cases e; exact ⟨[], .nil⟩
  | _, _, _, ds, .sh (d := d) (hs := hs) a, .cons h t, e => by
    obtain ⟨ds', e1, rfl⟩ := Option.map_eq_some_iff.mp (show (lookM hs ρ).map (d :: ·) = some ds from e)
    obtain ⟨as, i⟩ := ioL_of r a t e1
    exact ⟨as, .sh h i⟩
  | _, _, _, ds, .tmp (d := d) (hs := hs) a, .cons h t, e => by
    have e' : (if hs.any isTmp = true then none else (lookM hs ρ).map (d :: ·)) = some ds := e
    split at e'
    · cases e'
    · rename_i hn
      obtain ⟨ds', e1, rfl⟩ := Option.map_eq_some_iff.mp e'
      obtain ⟨as, i⟩ := ioL_of r a t e1
      obtain ⟨p, rfl, o, h4, h5⟩ := h
      refine ⟨p :: as, .tmp o h4 h5 (fun hp => ?_) i⟩
      rcases i.mem hp with ⟨z, _⟩ | ⟨j, _, z1, z2⟩
      · exact hn z
      · exact h5 ⟨j, z2, z1⟩
  | _, _, _, ds, .slot (i := i) (hs := hs) a, .cons (v := v) h t, e => by
    have hv : σ[i]? = some (some v) := h
    unfold lookM at e
    split at e
    · cases e
    · rename_i hn
      have hn' : hs.any (isSlot i) = false := by simpa using hn
      have fin : ∀ (p : Addr) (as : List Addr) (ms : List Bool) (vs : List V) (ds : List D), IoL K Hs G H σ ρ ms hs vs ds as → σ[i]? = some (some (.ref p)) → isMut ρ i → p ∉ as := fun p as ms vs ds io hp hm hq => by
        rcases io.mem hq with ⟨_, _, z⟩ | ⟨j, z0, z1, z2⟩
        · exact z ⟨i, hm, hp⟩
        · have := r.dis i j p hm z2 hp z1
          subst this
          rw [hn'] at z0; cases z0
      split at e
      · rename_i d0 q0
        obtain ⟨ds', e1, rfl⟩ := Option.map_eq_some_iff.mp e
        obtain ⟨as, io⟩ := ioL_of r a t e1
        obtain ⟨p, e2, o⟩ := r.sl i _ q0
        rw [hv] at e2; cases e2
        exact ⟨p :: as, .slot o hv (.inl q0) (fin p as _ _ _ io hv ⟨d0, .inl q0⟩) hn' io⟩
      · rename_i d0 q0
        obtain ⟨ds', e1, rfl⟩ := Option.map_eq_some_iff.mp e
        obtain ⟨as, io⟩ := ioL_of r a t e1
        obtain ⟨p, e2, o⟩ := r.sl i _ q0
        rw [hv] at e2; cases e2
        exact ⟨p :: as, .slot o hv (.inr q0) (fin p as _ _ _ io hv ⟨d0, .inr q0⟩) hn' io⟩
      · cases e
theorem OutR.tail {p : Addr} {as : List Addr} {o : D} {os : List D} (h : OutR K G H (p :: as) (o :: os)) : OutR K G H as os := fun j q e => by
  obtain ⟨d, h1, h2⟩ := h (j + 1) q (by simpa using e)
  exact ⟨d, by simpa using h1, h2⟩
theorem OutR.head {p : Addr} {as : List Addr} {o : D} {os : List D} (h : OutR K G H (p :: as) (o :: os)) : OwnAt K G H p o := by
  obtain ⟨d, h1, h2⟩ := h 0 p rfl
  cases h1
  exact h2
/-- what the call leaves of the slots -/
theorem putIo_ok {ms : List Bool} {hs : List Hd} {vs : List V} {ds : List D} {as : List Addr} (h : IoL K Hs G H σ ρ ms hs vs ds as) : ∀ {os : List D} {ρ0 ρ' : S}, OutR K G' H' as os → (∀ i, hs.any (isSlot i) = true → ρ0[i]? = ρ[i]?) → putIo hs os ρ0 = some ρ' →
    ρ'.length = ρ0.length ∧ ∀ i, (hs.any (isSlot i) = false → ρ'[i]? = ρ0[i]?) ∧ (hs.any (isSlot i) = true → ∃ d p, σ[i]? = some (some (.ref p)) ∧ OwnAt K G' H' p d ∧ p ∈ as ∧ ((∃ d0, ρ[i]? = some (some (.own d0))) ∧ ρ'[i]? = some (some (.own d)) ∨ (∃ d0, ρ[i]? = some (some (.io d0))) ∧ ρ'[i]? = some (some (.io d)))) := by
  induction h with
  | nil => intro os ρ0 ρ' _ _ e; cases e; exact ⟨rfl, fun i => ⟨fun _ => rfl, fun z => by cases z⟩⟩
  | sh _ _ ih =>
    intro os ρ0 ρ' ho hk e
    exact ih ho (fun i z => hk i (by rw [List.any_cons, z]; exact Bool.or_true _)) e
  | @tmp d p ms hs vs ds as _ _ _ _ _ ih =>
    intro os ρ0 ρ' ho hk e
    cases os with
    | nil => cases e
    | cons o os =>
      obtain ⟨l, k⟩ := ih ho.tail (fun i z => hk i (by rw [List.any_cons, z]; exact Bool.or_true _)) e
      refine ⟨l, fun i => ⟨fun z => (k i).1 z, fun z => ?_⟩⟩
      obtain ⟨d', p', h1, h2, h3, h4⟩ := (k i).2 z
      exact ⟨d', p', h1, h2, List.mem_cons_of_mem _ h3, h4⟩
  | @slot d i p ms hs vs ds as ow hi hr hn hni _ ih =>
    intro os ρ0 ρ' ho hk e
    cases os with
    | nil => cases e
    | cons o os =>
      have hi0 : ρ0[i]? = ρ[i]? := hk i (by simp [isSlot])
      have step : ∀ (s0 : D → Sl), ((∃ d0, ρ[i]? = some (some (s0 d0))) ∧ ((∀ d, s0 d = .own d) ∨ ∀ d, s0 d = .io d)) → putIo hs os (ρ0.set i (some (s0 o))) = some ρ' → ρ'.length = ρ0.length ∧ ∀ j, ((Hd.slot i :: hs).any (isSlot j) = false → ρ'[j]? = ρ0[j]?) ∧ ((Hd.slot i :: hs).any (isSlot j) = true → ∃ d q, σ[j]? = some (some (.ref q)) ∧ OwnAt K G' H' q d ∧ q ∈ p :: as ∧ ((∃ d0, ρ[j]? = some (some (.own d0))) ∧ ρ'[j]? = some (some (.own d)) ∨ (∃ d0, ρ[j]? = some (some (.io d0))) ∧ ρ'[j]? = some (some (.io d)))) := by
        intro s0 ⟨⟨d0, hd0⟩, hs0⟩ e'
        have hil : i < ρ0.length := by
          rw [hd0] at hi0
          exact (List.getElem?_eq_some_iff.mp hi0).1
        obtain ⟨l, k⟩ := ih (os := os) (ρ0 := ρ0.set i (some (s0 o))) ho.tail (fun j z => by
          have hj : i ≠ j := fun q => by rw [← q, hni] at z; cases z
          rw [List.getElem?_set_ne hj]
          exact hk j (by rw [List.any_cons, z]; exact Bool.or_true _)) e'
        refine ⟨by rw [l, List.length_set], fun j => ?_⟩
        have anyc : (Hd.slot i :: hs).any (isSlot j) = ((i == j) || hs.any (isSlot j)) := rfl
        rw [anyc]
        by_cases hj : i = j
        · subst hj
          refine ⟨fun z => by simp at z, fun _ => ?_⟩
          have e1 : ρ'[i]? = some (some (s0 o)) := by rw [(k i).1 hni, List.getElem?_set_self hil]
          refine ⟨o, p, hi, ho.head, List.mem_cons_self, ?_⟩
          rcases hs0 with z | z
          · exact .inl ⟨⟨d0, by rw [hd0, z]⟩, by rw [e1, z]⟩
          · exact .inr ⟨⟨d0, by rw [hd0, z]⟩, by rw [e1, z]⟩
        · have hb : (i == j) = false := by simpa using hj
          rw [hb, Bool.false_or]
          refine ⟨fun z => by rw [(k j).1 z, List.getElem?_set_ne hj], fun z => ?_⟩
          obtain ⟨d', p', h1, h2, h3, h4⟩ := (k j).2 z
          exact ⟨d', p', h1, h2, List.mem_cons_of_mem _ h3, h4⟩
      unfold putIo at e
      rw [hi0] at e
      rcases hr with q | q
      · rw [q] at e
        exact step .own ⟨⟨d, q⟩, .inl fun _ => rfl⟩ e
      · rw [q] at e
        exact step .io ⟨⟨d, q⟩, .inr fun _ => rfl⟩ e
end
@[simp] def eCall (own : Bool) (F : FT) (g : S → R (List Hd × S)) : EF := fun ρ => g ρ >>= fun z => ofO (lookM z.1 z.2) >>= fun ds => F ds >>= fun r => ofO (putIo z.1 r.2 z.2) >>= fun ρ' => .ok (if own = true then .tmp r.1 else .val r.1, ρ')
/-- what a call leaves -/
theorem call_after {K : PySem.W.Frag} {E : XK} {G H G1 H1 : Hp} {σ : St} {ρ ρ1 : S} {own : Bool} {F : FT} {ms : List Bool} {hs : List Hd} {vs : List V} {Q : VK} (o1 : Out K G H σ ρ G1 H1 ρ1) (hl : HoldL K H G1 H1 σ ρ1 hs vs) (ar : ArS ms hs)
    (hw : Wp (ofO (lookM hs ρ1) >>= fun ds => F ds >>= fun r => ofO (putIo hs r.2 ρ1) >>= fun ρ' => R.ok ((if own = true then Hd.tmp r.1 else Hd.val r.1), ρ')) (fun z => ∀ v G' H', Out K G H σ ρ G' H' z.2 → Hold K H G' H' σ z.2 z.1 v → Q v H') (ExE K E G H σ ρ)) :
    spF K ms own F vs H1 Q E := by
  obtain ⟨ds, eds, hw⟩ := hw.opt
  obtain ⟨as, io⟩ := ioL_of o1.rel ar hl eds
  have adsS : ∀ c, H c ≠ none → c ∈ as → ads σ ρ c := fun c hc hm => by
    rcases io.mem hm with ⟨_, z, _⟩ | ⟨j, _, z1, z2⟩
    · exact absurd z hc
    · exact o1.ker.ads ⟨j, z2, z1⟩
  refine ⟨G1, ds, as, o1.rel.sub, io.argR, hw.bind.mono (fun r _ q v G' H' sb st ou re => ?_) fun x _ q c d G' H' sb st ex => ?_⟩
  · obtain ⟨ρ', e', q⟩ := q.opt
    obtain ⟨l, k⟩ := putIo_ok io ou (fun _ _ => rfl) e'
    have rl : Rel K G' H' σ ρ' := o1.rel.after st sb l fun i s e => by
      cases hb : hs.any (isSlot i) with
      | false =>
        rw [(k i).1 hb] at e
        refine .inl ⟨e, fun m b eb hm => ?_⟩
        rcases io.mem hm with ⟨_, _, z⟩ | ⟨j, z0, z1, z2⟩
        · exact z ⟨i, m, eb⟩
        · have := o1.rel.dis i j b m z2 eb z1
          subst this
          rw [hb] at z0; cases z0
      | true =>
        obtain ⟨d, p, h1, h2, h3, h4⟩ := (k i).2 hb
        refine .inr ⟨?_, d, ?_, p, h1, h2⟩
        · rcases h4 with ⟨⟨d0, z⟩, _⟩ | ⟨⟨d0, z⟩, _⟩
          · exact ⟨d0, .inl z⟩
          · exact ⟨d0, .inr z⟩
        · rcases h4 with ⟨_, z⟩ | ⟨_, z⟩
          · rw [z] at e; cases e; exact .inl rfl
          · rw [z] at e; cases e; exact .inr rfl
    have kr : Ker ρ1 ρ' := by
      refine ⟨fun j ⟨d, m⟩ => ?_, fun j ⟨d, m⟩ => ?_⟩
      · cases hb : hs.any (isSlot j) with
        | false => rw [(k j).1 hb] at m; exact ⟨d, m⟩
        | true =>
          obtain ⟨_, _, _, _, _, h4⟩ := (k j).2 hb
          rcases h4 with ⟨⟨d0, z⟩, _⟩ | ⟨⟨d0, z⟩, _⟩
          · exact ⟨d0, .inl z⟩
          · exact ⟨d0, .inr z⟩
      · cases hb : hs.any (isSlot j) with
        | false => exact ⟨d, by rw [(k j).1 hb]; exact m⟩
        | true =>
          obtain ⟨d2, _, _, _, _, h4⟩ := (k j).2 hb
          rcases h4 with ⟨⟨d0, z⟩, _⟩ | ⟨_, z⟩
          · rw [z] at m; cases m
          · exact ⟨d2, z⟩
    have key : Out K G H σ ρ G' H' ρ' := ⟨rl, o1.stp.trans st adsS, o1.ker.trans kr⟩
    refine q v G' H' key ?_
    cases own with
    | false => exact re
    | true =>
      obtain ⟨pr, rfl, ow, hn⟩ := re
      exact ⟨pr, rfl, ow, o1.stp.thr pr hn, fun z => (o1.rel.adsH (kr.ads z)).1 hn⟩
  · exact q c d G' H' sb (o1.stp.trans st adsS) ex
section
variable {X : Cx} {E : XK} {e : Expr} {es : List Expr} {x : Str} {p pos : Pos} {g : S → R (List Hd × S)} {ms : List Bool} {own : Bool} {F : FT} {k : Nat} {f : Addr} {fd : FuncData} {ps : List Str}
/-- f(e, ..) -/
theorem pr_call (Fn : FnOk X.prog X.w X.K X.mg X.base (L2.CX X.prog X.w) k f fd ps (spF X.K ms own F)) (hr : Room k X.A) (hg : Gl X x) (hm : X.mg x = some (.ref f)) (hk : PySem.W.keepIn X.K (.ref f) = true) (hb : Binds X.K fd ps []) (hx : Passes (L2.CX X.prog X.w) X E)
    (ha : PMs X E ms (e :: es) g) (hdb : (x == ("__debug__" : Str)) = false := by decide) (he : starEach (e :: es) X.env = (false, eval e X.env) :: starEach es X.env := by rfl) (hpl : (backTo pos (starEach es X.env)).any (·.1) = false := by rfl) :
    PR X E (.Call (.Name x p) (e :: es) [] pos) (eCall own F g) := by
  obtain ⟨t, pa, s⟩ := ha.ex
  refine ⟨_, pe_call (dvs := []) Fn hr hg hm hk hb .nil hx pa hdb he hpl, fun G H σ ρ r Q hw => s G H σ ρ r _ (hw.bind.mono (fun z _ q vs G1 H1 o1 hl ar => ?_) fun _ _ q => q)⟩
  show spF X.K ms own F (vs ++ []) H1 Q E
  rw [List.append_nil]
  exact call_after o1 hl ar q
end
end BR
set_option Elab.async false
set_option linter.all false
set_option maxRecDepth 100000
set_option maxHeartbeats 4000000
namespace BR
open PySem L2

/-! ## more operations -/
section
variable {X : Cx} {K : PySem.W.Frag}
/-! ### * -/
open Classical in
noncomputable def dMulI (x y : D) : Option Rz := match x, y with
  | .int i, .int j => if CMul i j then some (.im (.int (i * j))) else none
  | .lst a, .int n => if -(2 ^ 63) ≤ n ∧ n < 2 ^ 63 ∧ a.length * n.toNat ≤ sizeLine then some (.nw (.lst (List.replicate n.toNat a).flatten)) else none
  | _, _ => none
def rMulB : R2 := fun x y H Q => rI CMul (fun i j => .int (i * j)) x y H Q ∨ rRep x y H Q
theorem op_mulB : OpR X (binaryOp .Mult) rMulB := OpR.or op_mul op_rep
theorem RepL.flat {G : Hp} {ds : List D} {vs : List V} (h : RepL K G ds vs) : ∀ n, RepL K G (List.replicate n ds).flatten (List.replicate n vs).flatten
  | 0 => .nil
  | n + 1 => by
    rw [List.replicate_succ, List.replicate_succ, List.flatten_cons, List.flatten_cons]
    exact h.append (RepL.flat h n)
theorem d_mul : OpD K rMulB dMulI := by
  intro G H x y v w s hx hy z Q e h
  unfold dMulI at e
  split at e
  · split at e
    · rename_i hc
      have := hx.int; have := hy.int; subst_vars; cases e
      exact .inl ⟨_, _, rfl, rfl, hc, h _ rep_int⟩
    · cases e
  · split at e
    · rename_i hc
      have := hy.int; subst_vars; cases e
      obtain ⟨a, vs, rfl, h1, h2⟩ := hx.lst s
      exact .inr ⟨a, _, vs, rfl, rfl, h1, hc.1, hc.2.1, by rw [← h2.length]; exact hc.2.2, fun p hp => h p _ hp ⟨_, rfl, h2.flat _⟩⟩
    · cases e
  · cases e
/-! str * int -/
def rStrMul : R2 := fun x y H Q => ∃ (a : Str) (n : Nat), x = .str a ∧ y = .int (n : Int) ∧ n ≤ 1000000 ∧ a.length * n ≤ sizeLine ∧ Q (.str ⟨(List.replicate n a.cps.toList).flatten.toArray⟩) H
theorem fold_cat (l : List Nat) : ∀ (n : Nat) (acc : Array Nat), (List.replicate n l.toArray).foldl (fun a b => a ++ b) acc = acc ++ (List.replicate n l).flatten.toArray
  | 0, acc => by simp
  | n + 1, acc => by
    rw [List.replicate_succ, List.foldl_cons, fold_cat l n, List.replicate_succ, List.flatten_cons]
    apply Array.ext'
    simp
theorem op_strMul : OpR X (binaryOp .Mult) rStrMul := by
  intro pins s σ H x y v u Q I rx ry h
  obtain ⟨a, n, rfl, rfl, h1, h2, q⟩ := h
  obtain ⟨t, rfl⟩ := rx
  obtain ⟨t', rfl⟩ := ry
  have hs := sizeLine_eq
  refine PySem.P.mul_str ?_ ?_ ?_ ?_
  · have a1 : ¬ ((n : Int) < -(2 ^ 63)) := by omega
    have a2 : ¬ ((n : Int) ≥ 2 ^ 63) := by omega
    rw [decide_eq_false a1, decide_eq_false a2]; rfl
  · intro hn _ hc
    have : (2 ^ 63 - 1 : Int) / (n : Int) * n + (2 ^ 63 - 1 : Int) % n = 2 ^ 63 - 1 := Int.ediv_mul_add_emod ..
    have b1 : (2 ^ 63 - 1 : Int) % n < n := Int.emod_lt_of_pos _ (by omega)
    have b2 : ((2 ^ 63 - 1 : Int) / (n : Int) + 1) * n ≤ (a.length : Int) * n := Int.mul_le_mul_of_nonneg_right (by omega) (by omega)
    rw [Int.add_mul, Int.one_mul] at b2
    have b3 : (a.length : Int) * n ≤ 16777216 := by
      have : ((a.length * n : Nat) : Int) ≤ (16777216 : Nat) := by rw [← hs]; exact Int.ofNat_le.mpr h2
      simpa using this
    omega
  · intro _ _
    rw [Int.toNat_natCast]
    unfold Builtin.Str.tooLong
    simpa using h2
  · have fin : ∀ z : Str, z.cps.toList = (List.replicate n a.cps.toList).flatten → ∀ t tk, EP X pins σ Q (.str z t) { s with toks := tk } := by
      intro z hz t tk
      refine ⟨.str z, H, I.tok _, ⟨_, rfl⟩, ?_⟩
      have : z = ⟨(List.replicate n a.cps.toList).flatten.toArray⟩ := by
        cases z with
        | mk c => 
          have : c = (List.replicate n a.cps.toList).flatten.toArray := by
            apply Array.ext'
            simpa using hz
          rw [this]
      rw [this]; exact q
    by_cases h0 : (n : Int) < 1
    · rw [if_pos h0]
      have : n = 0 := by omega
      subst this
      exact ⟨by decide, fin _ (by rfl) _ _⟩
    · rw [if_neg h0]
      by_cases h1' : ((n : Int) == 1 || a.length == 0) = true
      · rw [if_pos h1']
        show EP X pins σ Q (.str a t) s
        have e : a.cps.toList = (List.replicate n a.cps.toList).flatten := by
          rcases Bool.or_eq_true_iff.mp h1' with z | z
          · have : n = 1 := by have := eq_of_beq z; omega
            subst this; simp
          · have z' : a.cps.size = 0 := eq_of_beq z
            have : a.cps.toList = [] := by
              apply List.eq_nil_of_length_eq_zero
              simpa using z'
            rw [this]; simp
        have := fin a e t s.toks
        exact this
      · rw [if_neg h1']
        refine ⟨?_, fin _ ?_ _ _⟩
        · show Str.length _ ≤ _
          rw [Int.toNat_natCast, show a.cps = a.cps.toList.toArray by simp, fold_cat]
          have : Str.length ⟨#[] ++ (List.replicate n a.cps.toList).flatten.toArray⟩ = a.length * n := by
            show (#[] ++ (List.replicate n a.cps.toList).flatten.toArray).size = a.cps.size * n
            simp [Nat.mul_comm]
          rw [this]; exact h2
        · rw [Int.toNat_natCast, show a.cps = a.cps.toList.toArray by simp, fold_cat]
          simp
def dStrMul (x y : D) : Option Rz := match x, y with
  | .str a, .int n => if 0 ≤ n ∧ n ≤ 1000000 ∧ a.length * n.toNat ≤ sizeLine then some (.im (.str ⟨(List.replicate n.toNat a.cps.toList).flatten.toArray⟩)) else none
  | _, _ => none
theorem d_strMul : OpD K rStrMul dStrMul := by
  intro G H x y v w s hx hy z Q e h
  unfold dStrMul at e
  split at e
  · split at e
    · rename_i a n hc
      have := hx.str; have := hy.int; subst_vars; cases e
      exact ⟨a, n.toNat, rfl, by rw [Int.toNat_of_nonneg hc.1], by omega, hc.2.2, h _ rep_str⟩
    · cases e
  · cases e
/-! ### in -/
@[simp] def keyD : D → Option Key
  | .int i => some (.inl i)
  | .str x => some (.inr x)
  | _ => none
theorem keyD_v {G H : Hp} {d : D} {v : V} {k : Key} (h : RepP K G H d v) (e : keyD d = some k) : v = kV k := by
  cases d with
  | int i => cases e; exact h.int
  | str x => cases e; exact h.str
  | _ => cases e
def fl : D → Option V
  | .non => some .non
  | .bl b => some (.bl b)
  | .int i => some (.int i)
  | .str x => some (.str x)
  | _ => none
theorem fl_rep {G H : Hp} {d : D} {v x : V} (h : RepP K G H d v) (e : fl d = some x) : v = x ∧ flatV x = true := by
  cases d with
  | non => cases e; exact ⟨h.non, rfl⟩
  | bl b => cases e; exact ⟨h.bl, rfl⟩
  | int i => cases e; exact ⟨h.int, rfl⟩
  | str x => cases e; exact ⟨h.str, rfl⟩
  | _ => cases e
def flL : List D → Option (List V)
  | [] => some []
  | d :: ds => match fl d, flL ds with
    | some v, some vs => some (v :: vs)
    | _, _ => none
theorem flL_rep {G : Hp} : ∀ {ds : List D} {vs xs : List V}, RepL K G ds vs → flL ds = some xs → vs = xs ∧ xs.all flatV = true
  | [], vs, xs, h, e => by cases e; exact ⟨repL_nil.mp h, rfl⟩
  | d :: ds, vs, xs, h, e => by
    obtain ⟨v, vs', rfl, h1, h2⟩ := repL_cons.mp h
    unfold flL at e
    split at e
    · rename_i v' vs'' e1 e2
      cases e
      obtain ⟨rfl, f1⟩ := fl_rep (H := G) (.inl h1) e1
      obtain ⟨rfl, f2⟩ := flL_rep h2 e2
      exact ⟨rfl, by simp [f1, f2]⟩
    · cases e
def hasK (ks : List Key) (k : Key) : Bool := ks.any fun k' => decide (k' = k)
def inD (x y : D) : Option Bool := match y with
  | .dic ks _ => (keyD x).map fun k => hasK ks k
  | .str b => (match x with
    | .str a => (match a.cps.toList with
      | [c] => some (decide (c ∈ b.cps.toList))
      | _ => some (!(Builtin.Str.occurrences b a 0 b.length 1).isEmpty))
    | _ => none)
  | .lst ds => (match fl x, flL ds with
    | some v, some vs => some (inV v vs)
    | _, _ => none)
  | .tup ds => (match fl x, flL ds with
    | some v, some vs => some (inV v vs)
    | _, _ => none)
  | _ => none
def dIn (x y : D) : Option Rz := (inD x y).map fun b => .im (.bl b)
def dNotIn (x y : D) : Option Rz := (inD x y).map fun b => .im (.bl !b)
theorem valV_some {kvs : List (Key × V)} {k : Key} : (valV kvs k).isSome = hasK (kvs.map (·.1)) k := by
  rw [← valV_any]
  unfold hasK
  rw [List.any_map]
  rfl
def rDin (neg : Bool) : R2 := fun y x H Q => ∃ a o, x = .ref a ∧ DGet H a y o ∧ Q (.bl (if neg then !o.isSome else o.isSome)) H
theorem op_din (hu : X.A.units + 1 < cLine) : OpR X (compareOp .In) (rDin false) := by
  intro pins s σ H x y v u Q I rx ry h
  obtain ⟨a, o, rfl, g, q⟩ := h
  obtain rfl : u = Value.ref a := ry
  exact d_in hu I g rx fun s' I' => ⟨.bl o.isSome, H, I', rfl, q⟩
theorem op_dnin (hu : X.A.units + 1 < cLine) : OpR X (compareOp .NotIn) (rDin true) := by
  intro pins s σ H x y v u Q I rx ry h
  obtain ⟨a, o, rfl, g, q⟩ := h
  obtain rfl : u = Value.ref a := ry
  exact d_notIn hu I g rx fun s' I' => ⟨.bl (!o.isSome), H, I', rfl, q⟩
def rInStr (neg : Bool) : R2 := fun x y H Q => ∃ i j, x = .str i ∧ y = .str j ∧ Q (.bl (if neg then !(!(Builtin.Str.occurrences j i 0 j.length 1).isEmpty) else !(Builtin.Str.occurrences j i 0 j.length 1).isEmpty)) H
def rInSg (neg : Bool) : R2 := fun x y H Q => ∃ (c : Nat) (z : Str), x = .str ⟨#[c]⟩ ∧ y = .str z ∧ Q (.bl (if neg then !decide (c ∈ z.cps.toList) else decide (c ∈ z.cps.toList))) H
def rInB (K : PySem.W.Frag) (neg : Bool) : R2 := fun x y H Q => ((rDin neg x y H Q ∨ rInStr neg x y H Q) ∨ rInSg neg x y H Q) ∨ rIn K neg x y H Q
theorem op_inB (hu : X.A.units + 1 < cLine) : OpR X (compareOp .In) (rInB X.K false) := OpR.or (OpR.or (OpR.or (op_din hu) op_in_str) op_in_sign) op_in_seq
theorem op_notInB (hu : X.A.units + 1 < cLine) : OpR X (compareOp .NotIn) (rInB X.K true) := OpR.or (OpR.or (OpR.or (op_dnin hu) op_notin_str) op_notIn_sign) op_notIn_seq
theorem inD_ok {G H : Hp} {x y : D} {v w : V} {b : Bool} {neg : Bool} {Q : VK} (s : Sub G H) (hx : RepP K G H x v) (hy : RepP K G H y w) (e : inD x y = some b) (q : Q (.bl (if neg then !b else b)) H) : rInB K neg v w H Q := by
  unfold inD at e
  split at e
  · rename_i ks ds
    cases ek : keyD x with
    | none => rw [ek] at e; cases e
    | some k =>
      rw [ek] at e; cases e
      obtain ⟨a, kvs, rfl, h1, h2, h3⟩ := hy.dic s
      refine .inl (.inl (.inl ⟨a, valV kvs k, rfl, .inl ⟨kvs, k, h1, keyD_v hx ek, rfl⟩, ?_⟩))
      rw [valV_some, h2]; exact q
  · rename_i b'
    have ew := hy.str
    subst ew
    split at e
    · rename_i a
      have ev := hx.str
      subst ev
      split at e
      · rename_i c ec
        cases e
        refine .inl (.inr ⟨c, b', ?_, rfl, q⟩)
        have : a = ⟨#[c]⟩ := by
          cases a with
          | mk l =>
            have : l = #[c] := by apply Array.ext'; simpa using ec
            rw [this]
        rw [this]
      · cases e
        exact .inl (.inl (.inr ⟨a, b', rfl, rfl, q⟩))
    · cases e
  · rename_i ds
    split at e
    · rename_i v' vs' e1 e2
      cases e
      obtain ⟨a, us, rfl, h1, h2⟩ := hy.lst s
      obtain ⟨rfl, f1⟩ := fl_rep hx e1
      obtain ⟨rfl, f2⟩ := flL_rep h2 e2
      exact .inr ⟨a, us, rfl, .inl (SqL.of h1), f1, f2, q⟩
    · cases e
  · rename_i ds
    split at e
    · rename_i v' vs' e1 e2
      cases e
      obtain ⟨a, us, rfl, h1, h2⟩ := hy.tup s
      obtain ⟨rfl, f1⟩ := fl_rep hx e1
      obtain ⟨rfl, f2⟩ := flL_rep h2 e2
      exact .inr ⟨a, us, rfl, .inr h1, f1, f2, q⟩
    · cases e
  · cases e
theorem d_inB : OpD K (rInB K false) dIn := by
  intro G H x y v w s hx hy z Q e h
  unfold dIn at e
  cases q : inD x y with
  | none => rw [q] at e; cases e
  | some b => rw [q] at e; cases e; exact inD_ok s hx hy q (h _ rep_bl)
theorem d_notInB : OpD K (rInB K true) dNotIn := by
  intro G H x y v w s hx hy z Q e h
  unfold dNotIn at e
  cases q : inD x y with
  | none => rw [q] at e; cases e
  | some b => rw [q] at e; cases e; exact inD_ok s hx hy q (h _ rep_bl)
/-! ### subscripts -/
theorem atI_rep {G : Hp} {ds : List D} {vs : List V} {i : Int} {d : D} (h : RepL K G ds vs) (e : atI ds i = some d) : ∃ v, atI vs i = some v ∧ Rep K G d v := by
  unfold atI at e ⊢
  rw [← h.length]
  cases q : ixN ds.length i with
  | none => rw [q] at e; cases e
  | some j =>
    rw [q] at e
    exact h.get e
def getK : List Key → List D → Key → Option D
  | k' :: ks, d :: ds, k => if k' = k then some d else getK ks ds k
  | _, _, _ => none
theorem getK_rep {G : Hp} {k : Key} : ∀ {kvs : List (Key × V)} {ds : List D} {d : D}, RepL K G ds (kvs.map (·.2)) → getK (kvs.map (·.1)) ds k = some d → ∃ v, valV kvs k = some v ∧ Rep K G d v
  | [], ds, d, h, e => by cases ds <;> cases e
  | p :: kvs, [], d, h, e => by cases e
  | p :: kvs, d0 :: ds, d, h, e => by
    obtain ⟨v, vs', e1, h1, h2⟩ := repL_cons.mp h
    simp only [List.map_cons, List.cons.injEq] at e1
    obtain ⟨e1, e2⟩ := e1
    have e' : (if p.1 = k then some d0 else getK (kvs.map (·.1)) ds k) = some d := e
    by_cases hk : p.1 = k
    · refine ⟨p.2, valV_pos hk, ?_⟩
      rw [if_pos hk] at e'
      cases e'
      rw [e1]; exact h1
    · rw [if_neg hk] at e'
      rw [valV_neg hk]
      rw [← e2] at h2
      exact getK_rep h2 e'
theorem getK_none {k : Key} : ∀ {kvs : List (Key × V)} {ds : List D}, ds.length = kvs.length → getK (kvs.map (·.1)) ds k = none → valV kvs k = none
  | [], ds, _, _ => valV_nil
  | p :: kvs, [], h, _ => by simp at h
  | p :: kvs, d0 :: ds, h, e => by
    have e' : (if p.1 = k then some d0 else getK (kvs.map (·.1)) ds k) = none := e
    by_cases hk : p.1 = k
    · rw [if_pos hk] at e'; cases e'
    · rw [if_neg hk] at e'
      rw [valV_neg hk]
      exact getK_none (by simpa using h) e'
@[simp] def dIx (x y : D) : Option Rz := match x, y with
  | .lst ds, .int i => (atI ds i).map .im
  | .tup ds, .int i => (atI ds i).map .im
  | .scr ns, .int i => (atI ns i).map fun n => .im (.int n)
  | .str z, .int i => if z.length ≤ sizeLine then (atI z.cps.toList i).map fun c => .im (.str ⟨#[c]⟩) else none
  | .dic ks ds, k => (keyD k).bind fun k => (getK ks ds k).map .im
  | _, _ => none
def rIxDk : R2 := fun x y H Q => ∃ a v, x = .ref a ∧ DGet H a y (some v) ∧ Q v H
def rIxB (K : PySem.W.Frag) : R2 := fun x y H Q => rIx K x y H Q ∨ rIxDk x y H Q
theorem ix_dk (hu : X.A.units + 1 < cLine) : IxR X rIxDk := by
  intro value slice pins s σ H x y v u Q I rx ry h hs
  obtain ⟨a, z, rfl, g, q⟩ := h
  obtain rfl : v = Value.ref a := rx
  have hT := dict_typeIs I g
  unfold PyProof.Rows.subscriptTail
  refine wpAny_bind ?_
  rw [getitemInPython_of_ne hT.not_modules]
  refine wpAny_bind (wpAny_specialOf hT PySem.F.slot_dict_getitem.lookup ?_)
  have fin : wpAny (model X.prog X.w) X.A (subscripted slice false (.ref a) u) (fun r s₃ => wpAny (model X.prog X.w) X.A (letTemporaryGo value (.ref a) r >>= fun _ => pure r) (EP X pins σ Q) X.xe s₃) X.xe s := by
    rw [hs]
    exact wpAny_operating (d_getItem hu I g ry fun w' s3 I3 rw' => wpAny_bind (wpAny_letTemporaryGo (wpAny_pure ⟨z, H, I3, rw', q⟩)))
  first
    | exact wpAny_pure (wpAny_bind fin)
    | exact wpAny_bind (wpAny_pure (wpAny_bind fin))
    | exact wpAny_bind fin
theorem ix_B (hu : X.A.units + 1 < cLine) : IxR X (rIxB X.K) := IxR.or ix_seq (ix_dk hu)
theorem atI_map {α β : Type} (f : α → β) (xs : List α) (i : Int) : atI (xs.map f) i = (atI xs i).map f := by
  unfold atI
  rw [List.length_map]
  cases ixN xs.length i with
  | none => rfl
  | some j => simp
theorem d_ix : OpD K (rIxB K) dIx := by
  intro G H x y v w s hx hy z Q e h
  unfold dIx at e
  split at e
  · rename_i ds i
    have := hy.int; subst_vars
    obtain ⟨a, vs, rfl, h1, h2⟩ := hx.lst s
    cases q : atI ds i with
    | none => rw [q] at e; cases e
    | some d =>
      rw [q] at e; cases e
      obtain ⟨u, h3, h4⟩ := atI_rep h2 q
      exact .inl (.inl ⟨a, vs, i, u, rfl, rfl, SqL.of h1, h3, h u h4⟩)
  · rename_i ds i
    have := hy.int; subst_vars
    obtain ⟨a, vs, rfl, h1, h2⟩ := hx.tup s
    cases q : atI ds i with
    | none => rw [q] at e; cases e
    | some d =>
      rw [q] at e; cases e
      obtain ⟨u, h3, h4⟩ := atI_rep h2 q
      exact .inl (.inr (.inl ⟨a, vs, i, u, rfl, rfl, h1, h3, h u h4⟩))
  · rename_i ns i
    have := hy.int; subst_vars
    obtain ⟨a, rfl, h1⟩ := hx.scr s
    cases q : atI ns i with
    | none => rw [q] at e; cases e
    | some n =>
      rw [q] at e; cases e
      exact .inl (.inl ⟨a, _, i, .int n, rfl, rfl, h1, by rw [atI_map, q]; rfl, h _ rep_int⟩)
  · rename_i z' i
    have := hy.int; have := hx.str; subst_vars
    split at e
    · rename_i hl
      cases q : atI z'.cps.toList i with
      | none => rw [q] at e; cases e
      | some c =>
        rw [q] at e; cases e
        exact .inl (.inr (.inr ⟨z', i, c, rfl, rfl, hl, q, h _ rep_str⟩))
    · cases e
  · rename_i ks ds
    cases ek : keyD y with
    | none => rw [ek] at e; cases e
    | some kk =>
      rw [ek] at e
      obtain ⟨a, kvs, rfl, h1, h2, h3⟩ := hx.dic s
      subst h2
      cases q : getK (kvs.map (·.1)) ds kk with
      | none => simp [q] at e
      | some d =>
        simp [q] at e
        subst e
        obtain ⟨u, h4, h5⟩ := getK_rep h3 q
        exact .inr ⟨a, u, rfl, .inl ⟨kvs, kk, h1, keyD_v hy ek, h4.symm⟩, h u h5⟩
  · cases e
end
end BR
set_option Elab.async false
set_option linter.all false
set_option maxRecDepth 100000
set_option maxHeartbeats 4000000
namespace BR
open PySem L2

/-! ## slices -/
def SndO (K : PySem.W.Frag) (E : XK) (t : TO) (f : S → R (Option Int × S)) : Prop := ∀ (G H : Hp) (σ : St) (ρ : S), Rel K G H σ ρ → ∀ Q : Option Int → Hp → Prop,
  Wp (f ρ) (fun z => ∀ G' H', Out K G H σ ρ G' H' z.2 → Q z.1 H') (ExE K E G H σ ρ) → t σ H Q
structure POp (X : Cx) (E : XK) (e : Option Expr) (f : S → R (Option Int × S)) : Prop where
  ex : ∃ t, PO X e t ∧ SndO X.K E t f
section
variable {X : Cx} {E : XK} {e : Expr} {f : EF} {lo hi : Option Expr} {pos p2 : Pos} {fl fh : S → R (Option Int × S)}
@[simp] def oNone : S → R (Option Int × S) := fun ρ => .ok (none, ρ)
@[simp] def oSome (f : EF) : S → R (Option Int × S) := fun ρ => f ρ >>= fun z => match z.1 with
  | .val (.int i) => .ok (some i, z.2)
  | _ => .no
theorem op_none : POp X E none oNone := ⟨_, po_none, fun G H σ ρ r Q hw => hw G H (.refl r)⟩
theorem op_some (h : PR X E e f) : POp X E (some e) (oSome f) := by
  obtain ⟨t, pe, s⟩ := h.ex
  refine ⟨_, po_some pe, fun G H σ ρ r Q hw => s G H σ ρ r _ (hw.bind.mono (fun z _ q v G' H' o h => ?_) fun _ _ q => q)⟩
  split at q
  · rename_i i e
    rw [e] at h
    have h' : Rep X.K G' (.int i) v := h
    unfold Rep at h'
    exact ⟨i, h', q G' H' o⟩
  · exact q.elim
def cutD (ds : List D) (lo hi : Option Int) : List D := (ds.drop (HT.sIx ds.length 0 lo)).take (HT.sIx ds.length ds.length hi - HT.sIx ds.length 0 lo)
def dSl (x : D) (lo hi : Option Int) : Option Rz := match x with
  | .lst ds => some (.nw (.lst (cutD ds lo hi)))
  | .str z => if z.length ≤ sizeLine then some (.im (.str (cutS z lo hi))) else none
  | _ => none
def rSlB (K : PySem.W.Frag) : V → Option Int → Option Int → Hp → VK → Prop := fun x lo hi H Q => rSlL K x lo hi H Q ∨ rSlS x lo hi H Q
@[simp] def eSl (f : EF) (fl fh : S → R (Option Int × S)) : EF := fun ρ => f ρ >>= fun z => fl z.2 >>= fun a => fh a.2 >>= fun b => ofO (look z.1 b.2) >>= fun x => ofO (dSl x a.1 b.1) >>= fun r => fin r b.2
theorem pr_slice (h : PR X E e f) (hl : POp X E lo fl) (hh : POp X E hi fh) : PR X E (.Subscript e (.Slice lo hi none p2) pos) (eSl f fl fh) := by
  obtain ⟨t, pe, s⟩ := h.ex
  obtain ⟨tl, pl, sl⟩ := hl.ex
  obtain ⟨th, ph, sh⟩ := hh.ex
  refine ⟨_, pe_slice (r := rSlB X.K) (SlR.or sl_list sl_str) pe pl ph, fun G H σ ρ r Q hw => s G H σ ρ r _ (hw.bind.mono (fun z _ q v G1 H1 o1 h1 => ?_) fun _ _ q => q)⟩
  refine sl G1 H1 σ z.2 o1.rel _ (q.bind.mono (fun a _ q2 G2 H2 o2 => ?_) fun _ _ q2 => q2.step o1)
  refine sh G2 H2 σ a.2 o2.rel _ (q2.bind.mono (fun b _ q3 G3 H3 o3 => ?_) fun _ _ q3 => q3.step (o1.trans o2))
  obtain ⟨x, ex, q4⟩ := q3.opt
  obtain ⟨rz, ez, q5⟩ := q4.opt
  have rp := hold_look o3.rel (h1.pers (o2.trans o3)) ex
  have rs := fin_ok ((o1.trans o2).trans o3) q5
  cases x with
  | lst ds =>
    cases ez
    obtain ⟨ad, vs, rfl, g1, g2⟩ := rp.lst o3.rel.sub
    refine .inl ⟨ad, vs, rfl, SqL.of g1, fun p hp => rs p _ hp ⟨_, rfl, ?_⟩⟩
    unfold cutD cutV
    rw [g2.length]
    exact (g2.drop _).take _
  | str y =>
    have ez' : (if y.length ≤ sizeLine then some (Rz.im (.str (cutS y a.1 b.1))) else none) = some rz := ez
    split at ez'
    · rename_i hz
      cases ez'
      have := rp.str
      subst this
      exact .inr ⟨y, rfl, hz, rs _ rep_str⟩
    · cases ez'
  | _ => cases ez
end
/-! ## built-in functions and types -/
inductive RepPL (K : PySem.W.Frag) (G H : Hp) : List D → List V → Prop where
  | nil : RepPL K G H [] []
  | cons {d : D} {ds : List D} {v : V} {vs : List V} : RepP K G H d v → RepPL K G H ds vs → RepPL K G H (d :: ds) (v :: vs)
@[simp] def looks : List Hd → S → Option (List D)
  | [], _ => some []
  | h :: hs, ρ => match look h ρ, looks hs ρ with
    | some d, some ds => some (d :: ds)
    | _, _ => none
theorem looks_ok {K : PySem.W.Frag} {Hs G H : Hp} {σ : St} {ρ : S} (r : Rel K G H σ ρ) : ∀ {hs : List Hd} {vs : List V} {ds : List D}, HoldL K Hs G H σ ρ hs vs → looks hs ρ = some ds → RepPL K G H ds vs
  | _, _, _, .nil, e => by cases e; exact .nil
  | _, _, _, .cons (h := h) (hs := hs) a t, e => by
    unfold looks at e
    split at e
    · rename_i d ds e1 e2
      cases e
      exact .cons (hold_look r a e1) (looks_ok r t e2)
    · cases e
def CallD (K : PySem.W.Frag) (r : List V → Hp → VK → Prop) (g : List D → Option Rz) : Prop := ∀ (G H : Hp) (ds : List D) (vs : List V), Sub G H → RepPL K G H ds vs → ∀ (z : Rz) (Q : VK), g ds = some z → ResP K G H Q z → r vs H Q
@[simp] def eCB (g : List D → Option Rz) (f : S → R (List Hd × S)) : EF := fun ρ => f ρ >>= fun z => ofO (looks z.1 z.2) >>= fun ds => ofO (g ds) >>= fun r => fin r z.2
section
variable {X : Cx} {E : XK} {e : Expr} {es : List Expr} {x : Str} {p pos : Pos} {f : S → R (List Hd × S)} {g : List D → Option Rz} {r : List V → Hp → VK → Prop} {id T : String} {K : PySem.W.Frag}
theorem snd_cb {t : TA} (hg : CallD K r g) (s : SndH K E t f) : Snd K E (tCB r t) (eCB g f) := by
  intro G H σ ρ R Q hw
  refine s G H σ ρ R _ (hw.bind.mono (fun z _ q vs G1 H1 o1 h1 => ?_) fun _ _ q => q)
  obtain ⟨ds, e1, q⟩ := q.opt
  obtain ⟨rz, e2, q⟩ := q.opt
  exact hg G1 H1 ds vs o1.rel.sub (looks_ok o1.rel h1 e1) rz Q e2 (fin_ok o1 q)
theorem pr_callB (hc : CallR X (.builtin id) r) (hg : CallD X.K r g) (hgl : Gl X x) (hm : X.mg x = none) (hv : bootBuiltins x = some (.builtin id)) (ha : PHs X E (e :: es) f) (hn : x ≠ "__name__" := by decide) (hdb : (x == ("__debug__" : Str)) = false := by decide)
    (he : starEach (e :: es) X.env = (false, eval e X.env) :: starEach es X.env := by rfl) (hpl : (backTo pos (starEach es X.env)).any (·.1) = false := by rfl) : PR X E (.Call (.Name x p) (e :: es) [] pos) (eCB g f) := by
  obtain ⟨t, pa, s⟩ := ha.ex
  exact ⟨_, pe_callB hc hgl hm hv pa hn hdb he hpl, snd_cb hg s⟩
theorem pr_callTy (hc : CallR X (.type T) r) (hg : CallD X.K r g) (hgl : Gl X x) (hm : X.mg x = none) (hv : bootBuiltins x = some (.type T)) (ha : PHs X E (e :: es) f) (hn : x ≠ "__name__" := by decide) (hdb : (x == ("__debug__" : Str)) = false := by decide)
    (he : starEach (e :: es) X.env = (false, eval e X.env) :: starEach es X.env := by rfl) (hpl : (backTo pos (starEach es X.env)).any (·.1) = false := by rfl) : PR X E (.Call (.Name x p) (e :: es) [] pos) (eCB g f) := by
  obtain ⟨t, pa, s⟩ := ha.ex
  exact ⟨_, pe_callTy hc hgl hm hv pa hn hdb he hpl, snd_cb hg s⟩
theorem CallR.or {c : Value} {r r' : List V → Hp → VK → Prop} (h : CallR X c r) (h' : CallR X c r') : CallR X c (fun xs H Q => r xs H Q ∨ r' xs H Q) := by
  intro pins s σ H xs us Q I rx q
  rcases q with q | q
  · exact h pins s σ H xs us Q I rx q
  · exact h' pins s σ H xs us Q I rx q
theorem rpl1 {G H : Hp} {d : D} {vs : List V} (h : RepPL K G H [d] vs) : ∃ v, vs = [v] ∧ RepP K G H d v := by
  cases h with
  | cons a t => cases t; exact ⟨_, rfl, a⟩
theorem rpl2 {G H : Hp} {d e : D} {vs : List V} (h : RepPL K G H [d, e] vs) : ∃ v w, vs = [v, w] ∧ RepP K G H d v ∧ RepP K G H e w := by
  cases h with
  | cons a t =>
    obtain ⟨w, rfl, b⟩ := rpl1 t
    exact ⟨_, _, rfl, a, b⟩
/-! len -/
@[simp] def dLen : List D → Option Rz
  | [.lst ds] => some (.im (.int ds.length))
  | [.tup ds] => some (.im (.int ds.length))
  | [.scr ns] => some (.im (.int ns.length))
  | [.str x] => if x.length ≤ sizeLine then some (.im (.int x.length)) else none
  | [.dic ks _] => some (.im (.int ks.length))
  | _ => none
def rLenK (K : PySem.W.Frag) : List V → Hp → VK → Prop := fun xs H Q => (∃ x n, xs = [x] ∧ LenV K x H n ∧ Q (.int n) H) ∨ ∃ a kvs, xs = [V.ref a] ∧ Rd H a (.dK kvs) ∧ Q (.int kvs.length) H
theorem call_lenRd : CallR X (.builtin "len") (fun xs H Q => ∃ a kvs, xs = [V.ref a] ∧ Rd H a (.dK kvs) ∧ Q (.int kvs.length) H) := by
  intro pins s σ H xs us Q I r h
  obtain ⟨a, kvs, rfl, e, q⟩ := h
  cases r with
  | cons r1 r2 =>
    cases r2
    cases r1
    exact d_len I e fun t s' I' => ⟨.int kvs.length, H, I', ⟨t, rfl⟩, q⟩
theorem call_lenK : CallR X (.builtin "len") (rLenK X.K) := CallR.or call_len call_lenRd
theorem d_lenK : CallD K (rLenK K) dLen := by
  intro G H ds vs s h z Q e q
  unfold dLen at e
  split at e
  · obtain ⟨v, rfl, rv⟩ := rpl1 h
    cases e
    obtain ⟨a, us, rfl, h1, h2⟩ := rv.lst s
    exact .inl ⟨_, _, rfl, .inl ⟨us, SqL.of h1, h2.length⟩, q _ rep_int⟩
  · obtain ⟨v, rfl, rv⟩ := rpl1 h
    cases e
    obtain ⟨a, us, rfl, h1, h2⟩ := rv.tup s
    exact .inl ⟨_, _, rfl, .inr ⟨us, h1, h2.length⟩, q _ rep_int⟩
  · obtain ⟨v, rfl, rv⟩ := rpl1 h
    cases e
    obtain ⟨a, rfl, h1⟩ := rv.scr s
    exact .inl ⟨_, _, rfl, .inl ⟨_, h1, by rw [List.length_map]⟩, q _ rep_int⟩
  · obtain ⟨v, rfl, rv⟩ := rpl1 h
    split at e
    · rename_i hl
      cases e
      have := rv.str; subst this
      exact .inl ⟨_, _, rfl, ⟨hl, rfl⟩, q _ rep_int⟩
    · cases e
  · obtain ⟨v, rfl, rv⟩ := rpl1 h
    cases e
    obtain ⟨a, kvs, rfl, h1, h2, h3⟩ := rv.dic s
    exact .inr ⟨a, kvs, rfl, h1, by have := q (.int kvs.length); rw [← h2, List.length_map] at this; exact this rep_int⟩
  · cases e
/-! ints -/
@[simp] def dAbs : List D → Option Rz
  | [.int i] => some (.im (.int (if i < 0 then -i else i)))
  | _ => none
theorem d_abs : CallD K (fun xs H Q => ∃ i, xs = [.int i] ∧ Q (.int (if i < 0 then -i else i)) H) dAbs := by
  intro G H ds vs s h z Q e q
  unfold dAbs at e
  split at e
  · obtain ⟨v, rfl, rv⟩ := rpl1 h
    cases e
    have := rv.int; subst this
    exact ⟨_, rfl, q _ rep_int⟩
  · cases e
@[simp] def dMax : List D → Option Rz
  | [.int i, .int j] => some (.im (.int (if j > i then j else i)))
  | _ => none
@[simp] def dMin : List D → Option Rz
  | [.int i, .int j] => some (.im (.int (if j < i then j else i)))
  | _ => none
theorem d_max : CallD K (fun xs H Q => ∃ i j, xs = [.int i, .int j] ∧ Q (.int (if j > i then j else i)) H) dMax := by
  intro G H ds vs s h z Q e q
  unfold dMax at e
  split at e
  · obtain ⟨v, w, rfl, rv, rw'⟩ := rpl2 h
    cases e
    have := rv.int; have := rw'.int; subst_vars
    exact ⟨_, _, rfl, q _ rep_int⟩
  · cases e
theorem d_min : CallD K (fun xs H Q => ∃ i j, xs = [.int i, .int j] ∧ Q (.int (if j < i then j else i)) H) dMin := by
  intro G H ds vs s h z Q e q
  unfold dMin at e
  split at e
  · obtain ⟨v, w, rfl, rv, rw'⟩ := rpl2 h
    cases e
    have := rv.int; have := rw'.int; subst_vars
    exact ⟨_, _, rfl, q _ rep_int⟩
  · cases e
@[simp] def dInt : List D → Option Rz
  | [.int i] => some (.im (.int i))
  | [.bl k] => some (.im (.int (if k then 1 else 0)))
  | _ => none
theorem d_int : CallD K (fun xs H Q => (∃ i, xs = [.int i] ∧ Q (.int i) H) ∨ ∃ k, xs = [.bl k] ∧ Q (.int (if k then 1 else 0)) H) dInt := by
  intro G H ds vs s h z Q e q
  unfold dInt at e
  split at e
  · obtain ⟨v, rfl, rv⟩ := rpl1 h
    cases e
    have := rv.int; subst this
    exact .inl ⟨_, rfl, q _ rep_int⟩
  · obtain ⟨v, rfl, rv⟩ := rpl1 h
    cases e
    have := rv.bl; subst this
    exact .inr ⟨_, rfl, q _ rep_int⟩
  · cases e
/-! all, any, sum over lists -/
def blsD : List D → Option (List Bool)
  | [] => some []
  | .bl b :: ds => (blsD ds).map (b :: ·)
  | _ => none
theorem blsD_rep {G : Hp} : ∀ {ds : List D} {vs : List V} {bs : List Bool}, RepL K G ds vs → blsD ds = some bs → vs = bs.map V.bl
  | [], vs, bs, h, e => by cases e; exact repL_nil.mp h
  | d :: ds, vs, bs, h, e => by
    obtain ⟨v, vs', rfl, h1, h2⟩ := repL_cons.mp h
    cases d with
    | bl b =>
      have e' : (blsD ds).map (b :: ·) = some bs := e
      cases q : blsD ds with
      | none => rw [q] at e'; cases e'
      | some bs' =>
        rw [q] at e'; cases e'
        unfold Rep at h1
        rw [h1, blsD_rep h2 q]; rfl
    | _ => cases e
def intsD : List D → Option (List Int)
  | [] => some []
  | .int b :: ds => (intsD ds).map (b :: ·)
  | _ => none
theorem intsD_rep {G : Hp} : ∀ {ds : List D} {vs : List V} {bs : List Int}, RepL K G ds vs → intsD ds = some bs → vs = bs.map V.int
  | [], vs, bs, h, e => by cases e; exact repL_nil.mp h
  | d :: ds, vs, bs, h, e => by
    obtain ⟨v, vs', rfl, h1, h2⟩ := repL_cons.mp h
    cases d with
    | int b =>
      have e' : (intsD ds).map (b :: ·) = some bs := e
      cases q : intsD ds with
      | none => rw [q] at e'; cases e'
      | some bs' =>
        rw [q] at e'; cases e'
        unfold Rep at h1
        rw [h1, intsD_rep h2 q]; rfl
    | _ => cases e
def dAll : List D → Option Rz
  | [.lst ds] => (blsD ds).map fun bs => .im (.bl (bs.all fun b => b))
  | _ => none
def dAny : List D → Option Rz
  | [.lst ds] => (blsD ds).map fun bs => .im (.bl (bs.any fun b => b))
  | _ => none
def dSum : List D → Option Rz
  | [.lst ds] => (intsD ds).map fun ns => .im (.int ns.sum)
  | _ => none
theorem d_all : CallD K (rAll K) dAll := by
  intro G H ds vs s h z Q e q
  unfold dAll at e
  split at e
  · obtain ⟨v, rfl, rv⟩ := rpl1 h
    obtain ⟨a, us, rfl, h1, h2⟩ := rv.lst s
    rename_i ds
    cases eb : blsD ds with
    | none => rw [eb] at e; cases e
    | some bs => rw [eb] at e; cases e; rw [blsD_rep h2 eb] at h1; exact ⟨a, bs, rfl, SqL.of h1, q _ rep_bl⟩
  · cases e
theorem d_any : CallD K (rAny K) dAny := by
  intro G H ds vs s h z Q e q
  unfold dAny at e
  split at e
  · obtain ⟨v, rfl, rv⟩ := rpl1 h
    obtain ⟨a, us, rfl, h1, h2⟩ := rv.lst s
    rename_i ds
    cases eb : blsD ds with
    | none => rw [eb] at e; cases e
    | some bs => rw [eb] at e; cases e; rw [blsD_rep h2 eb] at h1; exact ⟨a, bs, rfl, SqL.of h1, q _ rep_bl⟩
  · cases e
theorem d_sum : CallD K (rSum K) dSum := by
  intro G H ds vs s h z Q e q
  unfold dSum at e
  split at e
  · obtain ⟨v, rfl, rv⟩ := rpl1 h
    obtain ⟨a, us, rfl, h1, h2⟩ := rv.lst s
    rename_i ds
    cases eb : intsD ds with
    | none => rw [eb] at e; cases e
    | some bs => rw [eb] at e; cases e; rw [intsD_rep h2 eb] at h1; exact ⟨a, bs, rfl, SqL.of h1, q _ rep_int⟩
  · cases e
/-! list(..) -/
def dList : List D → Option Rz
  | [.lst ds] => some (.nw (.lst ds))
  | [.tup ds] => some (.nw (.lst ds))
  | _ => none
theorem d_list : CallD K (fun xs H Q => ∃ p ys, xs = [.ref p] ∧ (SqL K H p ys ∨ SqT K H p ys) ∧ ∀ l, H l = none → Q (.ref l) (upd H l (.lst ys))) dList := by
  intro G H ds vs s h z Q e q
  unfold dList at e
  split at e
  · obtain ⟨v, rfl, rv⟩ := rpl1 h
    obtain ⟨a, us, rfl, h1, h2⟩ := rv.lst s
    cases e
    exact ⟨a, us, rfl, .inl (SqL.of h1), fun l hl => q l _ hl ⟨_, rfl, h2⟩⟩
  · obtain ⟨v, rfl, rv⟩ := rpl1 h
    obtain ⟨a, us, rfl, h1, h2⟩ := rv.tup s
    cases e
    exact ⟨a, us, rfl, .inr h1, fun l hl => q l _ hl ⟨_, rfl, h2⟩⟩
  · cases e
end
/-! ### divmod: a new tuple, frozen -/
section
variable {X : Cx} {E : XK} {e : Expr} {es : List Expr} {x : Str} {p pos : Pos} {f : S → R (List Hd × S)} {K : PySem.W.Frag}
def DmOk (j : Int) : Prop := 0 < j ∧ j < 2 ^ 200
open Classical in
noncomputable def eDivmod (f : S → R (List Hd × S)) : EF := fun ρ => f ρ >>= fun z => match z.1 with
  | [.val (.int i), .val (.int j)] => if DmOk j then .ok (.val (.tup [.int (i / j), .int (i % j)]), z.2) else .no
  | _ => .no
theorem cdivP {i j : Int} (h0 : 0 < j) (h1 : j < 2 ^ 200) : CDivP i j := by
  refine ⟨h0, ?_⟩
  unfold Builtin.divisionGoesByPylong
  have : j.natAbs.log2 < 200 := by
    rw [Nat.log2_lt (by omega)]
    have : (j.natAbs : Int) < 2 ^ 200 := by omega
    exact_mod_cast this
  have h2 : ¬ ((if j == 0 then 0 else j.natAbs.log2 / 30 + 1) > 300) := by
    split
    · omega
    · have : j.natAbs.log2 / 30 ≤ 200 / 30 := Nat.div_le_div_right (by omega)
      omega
  simp only [decide_eq_false h2, Bool.false_and]
theorem pr_divmod (hgl : Gl X "divmod") (hm : X.mg "divmod" = none) (ha : PHs X E (e :: es) f) (he : starEach (e :: es) X.env = (false, eval e X.env) :: starEach es X.env := by rfl) (hpl : (backTo pos (starEach es X.env)).any (·.1) = false := by rfl) : PR X E (.Call (.Name "divmod" p) (e :: es) [] pos) (eDivmod f) := by
  obtain ⟨t, pa, s⟩ := ha.ex
  refine ⟨_, pe_callB call_divmodW hgl hm (by decide +kernel) pa (by decide) (by decide) he hpl, fun G H σ ρ R Q hw => s G H σ ρ R _ (hw.bind.mono (fun z _ q vs G1 H1 o1 h1 => ?_) fun _ _ q => q)⟩
  obtain ⟨hs, ρ1⟩ := z
  split at q
  · rename_i i j e
    have e' : hs = [.val (.int i), .val (.int j)] := e
    subst e'
    split at q
    · rename_i hj
      cases h1 with
      | cons a1 t1 =>
        cases t1 with
        | cons a2 t2 =>
          cases t2
          have b1 : Rep X.K G1 (.int i) _ := a1
          have b2 : Rep X.K G1 (.int j) _ := a2
          unfold Rep at b1 b2
          subst b1 b2
          refine ⟨i, j, rfl, cdivP hj.1 hj.2, fun pp hp => ?_⟩
          have o2 := Out.lay (o := .tup [.int (i / j), .int (i % j)]) o1.rel hp
          refine q _ _ _ (o1.trans o2) (Hold.val ?_)
          unfold Rep
          exact ⟨pp, _, rfl, SqT.of upd_same, .cons rep_int (.cons rep_int .nil)⟩
    · exact q.elim
  · exact q.elim
end
end BR
set_option Elab.async false
set_option linter.all false
set_option maxRecDepth 100000
set_option maxHeartbeats 4000000
namespace BR
open PySem L2

/-! ## owned objects changed -/
@[simp] def updSl (ρ : S) (i : Nat) (d : D) : Option S := match ρ[i]? with
  | some (some (.own _)) => some (ρ.set i (some (.own d)))
  | some (some (.io _)) => some (ρ.set i (some (.io d)))
  | _ => none
@[simp] def lookMu (ρ : S) (i : Nat) : Option D := match ρ[i]? with
  | some (some (.own d)) => some d
  | some (some (.io d)) => some d
  | _ => none
section
variable {K : PySem.W.Frag} {Gs Hs G H : Hp} {σ : St} {ρs ρ ρ' : S} {i : Nat} {a : Addr} {d : D} {u : HO}
theorem lookMu_ok (r : Rel K G H σ ρ) (e : lookMu ρ i = some d) : isMut ρ i ∧ ∃ a, σ[i]? = some (some (.ref a)) ∧ OwnAt K G H a d := by
  unfold lookMu at e
  split at e
  · rename_i d0 q
    cases e
    exact ⟨⟨_, .inl q⟩, r.sl i _ q⟩
  · rename_i d0 q
    cases e
    exact ⟨⟨_, .inr q⟩, r.sl i _ q⟩
  · cases e
theorem mut_ok (o : Out K Gs Hs σ ρs G H ρ) (hi : σ[i]? = some (some (.ref a))) (hm : isMut ρ i) (hc : Cont K G d u) (e : updSl ρ i d = some ρ') : Out K Gs Hs σ ρs G (upd H a u) ρ' := by
  have adsA : ads σ ρ a := ⟨i, hm, hi⟩
  have hga := (o.rel.adsH adsA)
  have st : Stp (fun b => b = a) G H G (upd H a u) := ⟨Same.refl _, fun b w e n => by rw [upd_ne n]; exact e, fun b e => by
    by_cases hb : b = a
    · subst hb; rw [upd_same] at e; cases e
    · rw [upd_ne hb] at e; exact e, fun _ _ _ h => h⟩
  have sb : Sub G (upd H a u) := fun b w e => by
    have hb : b ≠ a := fun z => by rw [z, hga.2] at e; cases e
    rw [upd_ne hb]; exact o.rel.sub b w e
  have ow : OwnAt K G (upd H a u) a d := ⟨hga.2, u, upd_same, hc⟩
  have go : ∀ s0 : D → Sl, ((∀ d, s0 d = .own d) ∨ ∀ d, s0 d = .io d) → (∃ d0, ρ[i]? = some (some (s0 d0))) → ρ' = ρ.set i (some (s0 d)) → Out K Gs Hs σ ρs G (upd H a u) ρ' := by
    intro s0 hs0 ⟨d0, h0⟩ er
    have hil : i < ρ.length := (List.getElem?_eq_some_iff.mp h0).1
    subst er
    have rl := o.rel.after (ρ' := ρ.set i (some (s0 d))) st sb (List.length_set ..) fun j s e => by
      by_cases hj : i = j
      · subst hj
        rw [List.getElem?_set_self hil] at e; cases e
        refine .inr ⟨hm, d, ?_, a, hi, ow⟩
        rcases hs0 with z | z <;> rw [z]
        · exact .inl rfl
        · exact .inr rfl
      · rw [List.getElem?_set_ne hj] at e
        refine .inl ⟨e, fun m b eb z => hj ?_⟩
        subst z
        exact o.rel.dis i j b hm m hi eb
    refine ⟨rl, o.stp.trans st fun c _ z => by subst z; exact o.ker.ads adsA, o.ker.trans ⟨fun j m => ?_, fun j m => ?_⟩⟩
    · by_cases hj : i = j
      · subst hj; exact hm
      · obtain ⟨d, m⟩ := m
        rw [List.getElem?_set_ne hj] at m
        exact ⟨d, m⟩
    · by_cases hj : i = j
      · subst hj
        obtain ⟨d', m⟩ := m
        rcases hs0 with z | z
        · rw [z, m] at h0; cases h0
        · exact ⟨d, by rw [List.getElem?_set_self hil, z]⟩
      · obtain ⟨d, m⟩ := m
        exact ⟨d, by rw [List.getElem?_set_ne hj]; exact m⟩
  unfold updSl at e
  split at e
  · rename_i d0 q; cases e; exact go .own (.inl fun _ => rfl) ⟨d0, q⟩ rfl
  · rename_i d0 q; cases e; exact go .io (.inr fun _ => rfl) ⟨d0, q⟩ rfl
  · cases e
end

@[simp] def lookL (ρ : S) (i : Nat) : Option (List D) := match lookMu ρ i with
  | some (.lst ds) => some ds
  | _ => none
@[simp] def lookDic (ρ : S) (i : Nat) : Option (List Key × List D) := match lookMu ρ i with
  | some (.dic ks ds) => some (ks, ds)
  | _ => none
def lookIns (ρ : S) (i : Nat) : Option (Addr × List Str × List D) := match lookMu ρ i with
  | some (.ins C ns ds) => some (C, ns, ds)
  | _ => none
@[simp] def asL : D → Option (List D)
  | .lst ds => some ds
  | _ => none
@[simp] def asInt : Hd → Option Int
  | .val (.int i) => some i
  | _ => none
theorem asL_eq {d : D} {ds : List D} (h : asL d = some ds) : d = .lst ds := by cases d <;> cases h; rfl
theorem asInt_eq {h : Hd} {i : Int} (e : asInt h = some i) : h = .val (.int i) := by
  cases h with
  | val d => cases d <;> cases e; rfl
  | _ => cases e
section
variable {K : PySem.W.Frag} {G H : Hp} {σ : St} {ρ : S} {i : Nat}
theorem lookL_ok {ds : List D} (r : Rel K G H σ ρ) (e : lookL ρ i = some ds) : isMut ρ i ∧ ∃ a vs, σ[i]? = some (some (.ref a)) ∧ G a = none ∧ H a = some (.lst vs) ∧ RepL K G ds vs := by
  unfold lookL at e
  split at e
  · rename_i d q
    cases e
    obtain ⟨m, a, ea, hg, u, hu, vs, rfl, hc⟩ := lookMu_ok r q
    exact ⟨m, a, vs, ea, hg, hu, hc⟩
  · cases e
theorem lookDic_ok {ks : List Key} {ds : List D} (r : Rel K G H σ ρ) (e : lookDic ρ i = some (ks, ds)) : isMut ρ i ∧ ∃ a kvs, σ[i]? = some (some (.ref a)) ∧ G a = none ∧ H a = some (.dK kvs) ∧ kvs.map (·.1) = ks ∧ RepL K G ds (kvs.map (·.2)) := by
  unfold lookDic at e
  split at e
  · rename_i k d q
    cases e
    obtain ⟨m, a, ea, hg, u, hu, kvs, rfl, hc, hc2⟩ := lookMu_ok r q
    exact ⟨m, a, kvs, ea, hg, hu, hc, hc2⟩
  · cases e
theorem lookIns_ok {C : Addr} {ns : List Str} {ds : List D} (r : Rel K G H σ ρ) (e : lookIns ρ i = some (C, ns, ds)) : isMut ρ i ∧ ∃ a dx fs, σ[i]? = some (some (.ref a)) ∧ G a = none ∧ H a = some (.ins C dx fs) ∧ fs.map (·.1) = ns ∧ RepL K G ds (fs.map (·.2)) := by
  unfold lookIns at e
  split at e
  · rename_i c k d q
    cases e
    obtain ⟨m, a, ea, hg, u, hu, dx, fs, rfl, hc, hc2⟩ := lookMu_ok r q
    exact ⟨m, a, dx, fs, ea, hg, hu, hc, hc2⟩
  · cases e
end
@[simp] def guard (b : Bool) : Option Unit := if b = true then some () else none
theorem guard_eq {b : Bool} {u : Unit} (h : guard b = some u) : b = true := by
  unfold guard at h
  split at h
  · assumption
  · cases h
theorem guard_true : guard true = some () := rfl
theorem cont_l {K : PySem.W.Frag} {G : Hp} {ds : List D} {vs : List V} (h : RepL K G ds vs) : Cont K G (.lst ds) (.lst vs) := ⟨vs, rfl, h⟩
theorem cont_d {K : PySem.W.Frag} {G : Hp} {ks : List Key} {ds : List D} {kvs : List (Key × V)} (h1 : kvs.map (·.1) = ks) (h : RepL K G ds (kvs.map (·.2))) : Cont K G (.dic ks ds) (.dK kvs) := ⟨kvs, rfl, h1, h⟩
theorem cont_i {K : PySem.W.Frag} {G : Hp} {C dx : Addr} {ns : List Str} {ds : List D} {fs : List (Str × V)} (h1 : fs.map (·.1) = ns) (h : RepL K G ds (fs.map (·.2))) : Cont K G (.ins C ns ds) (.ins C dx fs) := ⟨dx, fs, rfl, h1, h⟩
section
variable {X : Cx} {E : XK} {e o : Expr} {f fo : EF} {pos pos' apos cpos : Pos} {x : Str} {i : Nat}
/-- x.append(e) -/
@[simp] def eAppend (i : Nat) (f : EF) : EF := fun ρ => ofO (lookL ρ i) >>= fun _ => eV f ρ >>= fun z => ofO (lookL z.2 i) >>= fun ds => ofO (guard (decide (ds.length < sizeLine))) >>= fun _ => ofO (updSl z.2 i (.lst (ds ++ [z.1]))) >>= fun ρ2 => .ok (.val .non, ρ2)
theorem pr_append (hN : X.N[i]? = some x) (hv : Vis X.env.scope x) (h : PR X E e f) (hd : (x == ("__debug__" : Str)) = false := by decide) (hcd : (x == ("__classdict__" : Str)) = false := by decide)
    (hfew : ((backTo cpos (starEach (e :: []) X.env)).all (fun x => !x.1) && (backToKw cpos (keywordEach [] X.env)).all (fun x => x.1.isSome)
      && decide ((e :: []).length + ([] : List Keyword).length + (if ([] : List Keyword).isEmpty then 0 else 1) < 30)) = true := by rfl)
    (hbase : attributeBase (.Name x pos') "append" X.env (eval (.Name x pos') X.env) = eval (.Name x pos') X.env := by rfl) (hline : (apos.endLine == cpos.line) = true := by rfl) (hs : starEach (e :: []) X.env = (false, eval e X.env) :: starEach [] X.env := by rfl) :
    PR X E (.Call (.Attribute (.Name x pos') "append" apos) [e] [] cpos) (eAppend i f) := by
  obtain ⟨t, pe, s⟩ := h.v.ex
  refine ⟨_, pe_bm PySem.F.plainAttrs_list PySem.F.slot_list_append PySem.F.type_list_append mt_append (pe_var (i := i) hN hv hd hcd) (pa_cons pe pa_nil hs) hbase hfew hline hs rfl, fun G H σ ρ r Q hw => ?_⟩
  obtain ⟨ds0, q0, hw⟩ := hw.opt
  obtain ⟨_, a, vs0, ea, hg0, hu0, hc0⟩ := lookL_ok r q0
  refine ⟨.ref a, ea, .inl ⟨rfl, vs0, SqL.of hu0⟩, s G H σ ρ r _ (hw.bind.mono (fun z _ q v G1 H1 o1 rv => ?_) fun _ _ q => q)⟩
  obtain ⟨ds, q1, q⟩ := q.opt
  obtain ⟨_, q2, q⟩ := q.opt
  obtain ⟨ρ2, e2, q⟩ := q.opt
  obtain ⟨hm, a', vs1, ea', hg1, hu1, hc1⟩ := lookL_ok o1.rel q1
  rw [ea] at ea'; cases ea'
  refine ⟨a, vs1, v, rfl, rfl, hu1, by rw [← hc1.length]; exact of_decide_eq_true (guard_eq q2), ?_⟩
  exact q .non G1 _ (mut_ok o1 ea hm (cont_l (hc1.append (.cons rv .nil))) e2) (Hold.val rep_non)
/-- x.extend(e), e a list -/
@[simp] def eExtend (i : Nat) (f : EF) : EF := fun ρ => ofO (lookL ρ i) >>= fun _ => eV f ρ >>= fun z => ofO (lookL z.2 i) >>= fun ds => ofO (asL z.1) >>= fun es => ofO (guard (decide (ds.length + es.length ≤ sizeLine))) >>= fun _ => ofO (updSl z.2 i (.lst (ds ++ es))) >>= fun ρ2 => .ok (.val .non, ρ2)
theorem pr_extend (hN : X.N[i]? = some x) (hv : Vis X.env.scope x) (h : PR X E e f) (hd : (x == ("__debug__" : Str)) = false := by decide) (hcd : (x == ("__classdict__" : Str)) = false := by decide)
    (hfew : ((backTo cpos (starEach (e :: []) X.env)).all (fun x => !x.1) && (backToKw cpos (keywordEach [] X.env)).all (fun x => x.1.isSome)
      && decide ((e :: []).length + ([] : List Keyword).length + (if ([] : List Keyword).isEmpty then 0 else 1) < 30)) = true := by rfl)
    (hbase : attributeBase (.Name x pos') "extend" X.env (eval (.Name x pos') X.env) = eval (.Name x pos') X.env := by rfl) (hline : (apos.endLine == cpos.line) = true := by rfl) (hs : starEach (e :: []) X.env = (false, eval e X.env) :: starEach [] X.env := by rfl) :
    PR X E (.Call (.Attribute (.Name x pos') "extend" apos) [e] [] cpos) (eExtend i f) := by
  obtain ⟨t, pe, s⟩ := h.v.ex
  refine ⟨_, pe_bm PySem.F.plainAttrs_list PySem.F.slot_list_extend PySem.F.type_list_extend mt_extend (pe_var (i := i) hN hv hd hcd) (pa_cons pe pa_nil hs) hbase hfew hline hs rfl, fun G H σ ρ r Q hw => ?_⟩
  obtain ⟨ds0, q0, hw⟩ := hw.opt
  obtain ⟨_, a, vs0, ea, hg0, hu0, hc0⟩ := lookL_ok r q0
  refine ⟨.ref a, ea, .inl ⟨rfl, vs0, SqL.of hu0⟩, s G H σ ρ r _ (hw.bind.mono (fun z _ q v G1 H1 o1 rv => ?_) fun _ _ q => q)⟩
  obtain ⟨ds, q1, q⟩ := q.opt
  obtain ⟨es, q3, q⟩ := q.opt
  obtain ⟨_, q2, q⟩ := q.opt
  obtain ⟨ρ2, e2, q⟩ := q.opt
  obtain ⟨hm, a', vs1, ea', hg1, hu1, hc1⟩ := lookL_ok o1.rel q1
  rw [ea] at ea'; cases ea'
  rw [asL_eq q3] at rv
  unfold Rep at rv
  obtain ⟨b, ws, rfl, hb, hws⟩ := rv
  refine ⟨a, b, vs1, ws, rfl, rfl, hu1, o1.rel.sub.ls hb, by rw [← hc1.length, ← hws.length]; exact of_decide_eq_true (guard_eq q2), ?_⟩
  exact q .non G1 _ (mut_ok o1 ea hm (cont_l (hc1.append hws)) e2) (Hold.val rep_non)
/-- x[k] = e, x an owned list -/
@[simp] def sSetL (i : Nat) (fk f : EF) : SF := fun ρ => eV f ρ >>= fun z => ofO (lookL z.2 i) >>= fun _ => fk z.2 >>= fun y => ofO (asInt y.1) >>= fun k => ofO (lookL y.2 i) >>= fun ds => ofO (ixN ds.length k) >>= fun j => ofO (updSl y.2 i (.lst (ds.set j z.1))) >>= fun ρ2 => .ok (.nx, ρ2)
theorem st_setL {k : Expr} {fk : EF} {spos : Pos} (hN : X.N[i]? = some x) (hv : Vis X.env.scope x) (h : PR X E e f) (hk : PR X E k fk) (hd : (x == ("__debug__" : Str)) = false := by decide) (hcd : (x == ("__classdict__" : Str)) = false := by decide)
    (hs : swapsWithSole [.Subscript (.Name x pos') k spos] e pos.line X.env = pure false := by rfl) (hw : swappedStores [.Subscript (.Name x pos') k spos] e X.env = pure none := by rfl)
    (h1 : (assignEach [.Subscript (.Name x pos') k spos] X.env).map (·.2) = [assign (.Subscript (.Name x pos') k spos) X.env] := by rfl)
    (ha : ∀ v, assign (.Subscript (.Name x pos') k spos) X.env v = (do
      let ov ← holding [v] (eval (.Name x pos') X.env)
      let iv ← holding [v, ov] (eval k X.env)
      standAt spos
      holding [v, ov, iv] (setItem ov iv v)
      release [v, ov, iv] []) := by intro _; rfl) :
    PSt X E (.Assign [.Subscript (.Name x pos') k spos] e pos) (sSetL i fk f) := by
  obtain ⟨t, pe, s⟩ := h.v.ex
  obtain ⟨tk, pk, sk⟩ := hk.ex
  refine ⟨_, ps_asg pe (pg_sub (pe_var (i := i) hN hv hd hcd) pk set_list ha) hs hw h1, fun G H σ ρ r Dn hw => s G H σ ρ r _ (hw.bind.mono (fun z _ q v G1 H1 o1 rv => ?_) fun _ _ q => q)⟩
  obtain ⟨ds0, q0, q⟩ := q.opt
  obtain ⟨_, a, vs0, ea, hg0, hu0, hc0⟩ := lookL_ok o1.rel q0
  refine ⟨.ref a, ea, sk G1 H1 σ z.2 o1.rel _ (q.bind.mono (fun y _ q2 vk G2 H2 o2 hk2 => ?_) fun _ _ q2 => q2.step o1)⟩
  obtain ⟨kk, e1, q2⟩ := q2.opt
  obtain ⟨ds, e2, q2⟩ := q2.opt
  obtain ⟨j, e3, q2⟩ := q2.opt
  obtain ⟨ρ2, e4, q2⟩ := q2.opt
  rw [asInt_eq e1] at hk2
  have hk3 : Rep X.K G2 (.int kk) vk := hk2
  unfold Rep at hk3
  obtain ⟨hm, a', vs1, ea', hg1, hu1, hc1⟩ := lookL_ok o2.rel e2
  rw [ea] at ea'; cases ea'
  refine ⟨a, vs1, kk, j, rfl, hk3, hu1, by rw [← hc1.length]; exact e3, ?_⟩
  exact q2 σ G2 _ (mut_ok (o1.trans o2) ea hm (cont_l (hc1.set j (Rep.mono o2.stp.gg _ rv))) e4).s
/-- x[0], y = e: the first item of an owned list, and a name -/
@[simp] def sDraw (i j : Nat) (f : EF) : SF := fun ρ => eV f ρ >>= fun z => match z.1 with
  | .tup [a, b] => ofO (lookL z.2 i) >>= fun ds => ofO (guard (decide (0 < ds.length))) >>= fun _ => ofO (updSl z.2 i (.lst (ds.set 0 a))) >>= fun ρ2 => ofO (setS j (.sh b) ρ2) >>= fun ρ3 => .ok (.nx, ρ3)
  | _ => .no
theorem st_draw {j : Nat} {y : Str} {kt k0 : Nat} {spos p0 py tpos : Pos} (hN : X.N[i]? = some x) (hv : Vis X.env.scope x) (hN2 : X.N.Nodup) (hj : X.N[j]? = some y) (hy : Loc X.env.scope y) (hc : X.calm = true) (h : PR X E e f) (hd : (x == ("__debug__" : Str)) = false := by decide) (hcd : (x == ("__classdict__" : Str)) = false := by decide)
    (hf : X.fn y = true ∨ X.env.scope.names.lookup y = some .local := by first | exact .inl rfl | exact .inr rfl | assumption)
    (hs : swapsWithSole [.Tuple [.Subscript (.Name x pos') (.Constant (.int 0) k0 p0) spos, .Name y py] kt tpos] e pos.line X.env = pure false := by rfl) (hw : swappedStores [.Tuple [.Subscript (.Name x pos') (.Constant (.int 0) k0 p0) spos, .Name y py] kt tpos] e X.env = pure none := by rfl)
    (h1 : (assignEach [.Tuple [.Subscript (.Name x pos') (.Constant (.int 0) k0 p0) spos, .Name y py] kt tpos] X.env).map (·.2) = [assign (.Tuple [.Subscript (.Name x pos') (.Constant (.int 0) k0 p0) spos, .Name y py] kt tpos) X.env] := by rfl)
    (ha : ∀ v, assign (.Subscript (.Name x pos') (.Constant (.int 0) k0 p0) spos) X.env v = (do
      let ov ← holding [v] (eval (.Name x pos') X.env)
      let iv ← holding [v, ov] (eval (.Constant (.int 0) k0 p0) X.env)
      standAt spos
      holding [v, ov, iv] (setItem ov iv v)
      release [v, ov, iv] []) := by intro _; rfl)
    (hn : (assignEach [.Subscript (.Name x pos') (.Constant (.int 0) k0 p0) spos, .Name y py] X.env).length = 2 := by rfl) (hst : (assignEach [.Subscript (.Name x pos') (.Constant (.int 0) k0 p0) spos, .Name y py] X.env).findIdx? (·.1) = none := by rfl)
    (hs1 : (assignEach [.Subscript (.Name x pos') (.Constant (.int 0) k0 p0) spos, .Name y py] X.env).map (·.2) = assign (.Subscript (.Name x pos') (.Constant (.int 0) k0 p0) spos) X.env :: (assignEach [.Name y py] X.env).map (·.2) := by rfl)
    (hs2 : (assignEach [.Name y py] X.env).map (·.2) = assign (.Name y py) X.env :: (assignEach [] X.env).map (·.2) := by rfl) :
    PSt X E (.Assign [.Tuple [.Subscript (.Name x pos') (.Constant (.int 0) k0 p0) spos, .Name y py] kt tpos] e pos) (sDraw i j f) := by
  obtain ⟨t, pe, s⟩ := h.v.ex
  refine ⟨_, ps_asg pe (pg_tup hc (pgs_cons (pg_sub (pe_var (i := i) hN hv hd hcd) pe_int set_list ha) (pgs_cons (pg_name (i := j) hN2 hj hy hf) pgs_nil hs2) hs1) hn hst) hs hw h1, fun G H σ ρ r Dn hw => s G H σ ρ r _ (hw.bind.mono (fun z _ q v G1 H1 o1 rv => ?_) fun _ _ q => q)⟩
  obtain ⟨d, ρ1⟩ := z
  split at q
  rotate_left
  · exact q.elim
  rename_i aa bb ed
  have ed' : d = .tup [aa, bb] := ed
  subst ed'
  obtain ⟨ds, e2, q⟩ := q.opt
  obtain ⟨_, e3, q⟩ := q.opt
  obtain ⟨ρ2, e4, q⟩ := q.opt
  obtain ⟨ρ3, e5, q⟩ := q.opt
  have rv' : Rep X.K G1 (.tup [aa, bb]) v := rv
  unfold Rep at rv'
  obtain ⟨tp, us, rfl, ht, hus⟩ := rv'
  obtain ⟨u1, us1, rfl, r1, hus⟩ := repL_cons.mp hus
  obtain ⟨u2, us2, rfl, r2, hus⟩ := repL_cons.mp hus
  have en := repL_nil.mp hus
  subst en
  obtain ⟨hm, a, vs1, ea, hg1, hu1, hc1⟩ := lookL_ok o1.rel e2
  have hpos : 0 < vs1.length := by rw [← hc1.length]; exact of_decide_eq_true (guard_eq e3)
  refine ⟨tp, [u1, u2], rfl, o1.rel.sub.t ht, rfl, u1, [u2], rfl, .ref a, ea, a, vs1, 0, 0, rfl, rfl, hu1, ?_, u2, [], rfl, rfl, ?_⟩
  · unfold ixN
    simp [hpos]
  · have o2 := mut_ok o1 ea hm (cont_l (hc1.set 0 r1)) e4
    exact q _ G1 _ (set_sh o2.s r2 e5)
end
end BR
set_option Elab.async false
set_option linter.all false
set_option maxRecDepth 100000
set_option maxHeartbeats 4000000
namespace BR
open PySem L2

/-! ## dicts -/
def replD : List Key → List D → Key → D → List D
  | k' :: ks, x :: ds, k, d => (if k' = k then d else x) :: replD ks ds k d
  | [], ds, _, _ => ds
  | _ :: _, [], _, _ => []
def putDk (ks : List Key) (k : Key) : List Key := if hasK ks k = true then ks else ks ++ [k]
def putDx (ks : List Key) (ds : List D) (k : Key) (d : D) : List D := if hasK ks k = true then replD ks ds k d else ds ++ [d]
section
variable {K : PySem.W.Frag} {G : Hp}
theorem replD_rep {k : Key} {d : D} {v : V} (hv : Rep K G d v) : ∀ {kvs : List (Key × V)} {ds : List D}, RepL K G ds (kvs.map (·.2)) → RepL K G (replD (kvs.map (·.1)) ds k d) ((kvs.map (fun kv => if kv.1 = k then (kv.1, v) else kv)).map (·.2))
  | [], ds, h => by
    have := RepL.length h
    cases ds with
    | nil => exact h
    | cons => cases this
  | p :: kvs, ds, h => by
    cases ds with
    | nil => have := RepL.length h; cases this
    | cons x ds =>
      obtain ⟨v1, vs1, e1, h1, h2⟩ := repL_cons.mp h
      have e2 : p.2 = v1 ∧ kvs.map (·.2) = vs1 := by simpa using e1
      obtain ⟨rfl, rfl⟩ := e2
      show RepL K G ((if p.1 = k then d else x) :: replD (kvs.map (·.1)) ds k d) ((if p.1 = k then (p.1, v) else p).2 :: _)
      refine .cons ?_ (replD_rep hv h2)
      by_cases e : p.1 = k
      · rw [if_pos e, if_pos e]; exact hv
      · rw [if_neg e, if_neg e]; exact h1
theorem putD_rep {k : Key} {d : D} {v : V} {kvs : List (Key × V)} {ds : List D} (h : RepL K G ds (kvs.map (·.2))) (hv : Rep K G d v) : (putK kvs k v).map (·.1) = putDk (kvs.map (·.1)) k ∧ RepL K G (putDx (kvs.map (·.1)) ds k d) ((putK kvs k v).map (·.2)) := by
  have hh : hasK (kvs.map (·.1)) k = (kvs.any fun kv => decide (kv.1 = k)) := by simp [hasK, List.any_map, Function.comp_def]
  unfold putK putDk putDx
  rw [hh]
  by_cases e : (kvs.any fun kv => decide (kv.1 = k)) = true
  · rw [if_pos e, if_pos e, if_pos e]
    refine ⟨?_, replD_rep hv h⟩
    rw [List.map_map]
    apply List.map_congr_left
    intro p _
    show (if p.1 = k then (p.1, v) else p).1 = p.1
    split <;> rfl
  · rw [if_neg e, if_neg e, if_neg e]
    refine ⟨by simp, ?_⟩
    rw [List.map_append]
    exact h.append (.cons hv .nil)
end
section
variable {X : Cx} {E : XK} {e o k : Expr} {f fo fk : EF} {pos pos' spos apos cpos : Pos} {x : Str} {i : Nat}
@[simp] def asKey (h : Hd) : Option Key := match h with
  | .val d => keyD d
  | _ => none
theorem asKey_v {K : PySem.W.Frag} {Hs G H : Hp} {σ : St} {ρ : S} {h : Hd} {v : V} {kk : Key} (hh : Hold K Hs G H σ ρ h v) (e : asKey h = some kk) : v = kV kk := by
  cases h with
  | val d => exact keyD_v (H := H) (.inl hh) e
  | _ => cases e
/-- x[k] = e, x an owned dict -/
@[simp] def sPutD (i : Nat) (fk f : EF) : SF := fun ρ => eV f ρ >>= fun z => ofO (lookDic z.2 i) >>= fun _ => fk z.2 >>= fun y => ofO (asKey y.1) >>= fun k => ofO (lookDic y.2 i) >>= fun c => ofO (guard (decide (c.1.length < sizeLine))) >>= fun _ => ofO (updSl y.2 i (.dic (putDk c.1 k) (putDx c.1 c.2 k z.1))) >>= fun ρ2 => .ok (.nx, ρ2)
theorem st_putD (hu : X.A.units + 1 < cLine) (hN : X.N[i]? = some x) (hv : Vis X.env.scope x) (h : PR X E e f) (hk : PR X E k fk) (hd : (x == ("__debug__" : Str)) = false := by decide) (hcd : (x == ("__classdict__" : Str)) = false := by decide)
    (hs : swapsWithSole [.Subscript (.Name x pos') k spos] e pos.line X.env = pure false := by rfl) (hw : swappedStores [.Subscript (.Name x pos') k spos] e X.env = pure none := by rfl)
    (h1 : (assignEach [.Subscript (.Name x pos') k spos] X.env).map (·.2) = [assign (.Subscript (.Name x pos') k spos) X.env] := by rfl)
    (ha : ∀ v, assign (.Subscript (.Name x pos') k spos) X.env v = (do
      let ov ← holding [v] (eval (.Name x pos') X.env)
      let iv ← holding [v, ov] (eval k X.env)
      standAt spos
      holding [v, ov, iv] (setItem ov iv v)
      release [v, ov, iv] []) := by intro _; rfl) :
    PSt X E (.Assign [.Subscript (.Name x pos') k spos] e pos) (sPutD i fk f) := by
  obtain ⟨t, pe, s⟩ := h.v.ex
  obtain ⟨tk, pk, sk⟩ := hk.ex
  refine ⟨_, ps_asg pe (pg_sub (pe_var (i := i) hN hv hd hcd) pk (set_dict hu) ha) hs hw h1, fun G H σ ρ r Dn hw => s G H σ ρ r _ (hw.bind.mono (fun z _ q v G1 H1 o1 rv => ?_) fun _ _ q => q)⟩
  obtain ⟨⟨ks0, ds0⟩, q0, q⟩ := q.opt
  obtain ⟨_, a, vs0, ea, hg0, hu0, _⟩ := lookDic_ok o1.rel q0
  refine ⟨.ref a, ea, sk G1 H1 σ z.2 o1.rel _ (q.bind.mono (fun y _ q2 vk G2 H2 o2 hk2 => ?_) fun _ _ q2 => q2.step o1)⟩
  obtain ⟨kk, e1, q3⟩ := q2.opt
  obtain ⟨⟨ks, ds⟩, e2, q4⟩ := q3.opt
  obtain ⟨_, e3, q5⟩ := q4.opt
  obtain ⟨ρ2, e4, q6⟩ := q5.opt
  have hk3 := asKey_v hk2 e1
  obtain ⟨hm, a', kvs, ea', hg1, hu1, hks, hc1⟩ := lookDic_ok o2.rel e2
  rw [ea] at ea'; cases ea'
  subst hks
  obtain ⟨p1, p2⟩ := putD_rep (k := kk) hc1 (Rep.mono o2.stp.gg _ rv)
  refine ⟨a, _, rfl, .inl ⟨kvs, kk, hu1, hk3, by have := of_decide_eq_true (guard_eq e3); rw [List.length_map] at this; exact this, rfl⟩, ?_⟩
  exact q6 σ G2 _ (mut_ok (o1.trans o2) ea hm (cont_d p1 p2) e4).s
/-- {} -/
@[simp] def eDic0 : EF := fun ρ => .ok (.tmp (.dic [] []), ρ)
theorem pr_dic0 : PR X E (.Dict [] [] pos) eDic0 := by
  refine ⟨_, pe_dnewK, fun G H σ ρ r Q hw p hp => ?_⟩
  exact hw _ G _ (.new r hp) ⟨p, rfl, ⟨r.sub.none hp, _, upd_same, [], rfl, rfl, .nil⟩, hp, fun z => (r.adsH z).1 hp⟩
/-- {k: e}, k and e immediate -/
@[simp] def eDic1 (kc vc : D) : EF := fun ρ => ofO (keyD kc) >>= fun k => .ok (.tmp (.dic [k] [vc]), ρ)
theorem pr_dic1 {kc vc : D} {wk wv : V} (hk : PE X k (tC wk)) (he : PE X e (tC wv)) (rk : ∀ G, Rep X.K G kc wk) (re : ∀ G, Rep X.K G vc wv) : PR X E (.Dict [some k] [e] pos) (eDic1 kc vc) := by
  refine ⟨_, pe_disp (pps_cons hk he pps_nil) rfl rfl (by simp) (by simp), fun G H σ ρ r Q hw p hp => ?_⟩
  obtain ⟨kk, ek, hw⟩ := hw.opt
  have hkv : wk = kV kk := keyD_v (H := H) (.inl (rk G)) ek
  refine ⟨upd_same, [(kk, wv)], by rw [hkv]; rfl, by simp, ?_⟩
  have : upd (upd H p (.dK [])) p (.dK (mergeK [] [(kk, wv)])) = upd H p (.dK [(kk, wv)]) := by
    funext b
    unfold upd
    by_cases hb : b = p
    · simp [hb]; rfl
    · simp [hb]
  rw [this]
  exact hw _ G _ (.new r hp) ⟨p, rfl, ⟨r.sub.none hp, _, upd_same, [(kk, wv)], rfl, rfl, .cons (re G) .nil⟩, hp, fun z => (r.adsH z).1 hp⟩
/-- o.get(k, e) -/
@[simp] def asDic : D → Option (List Key × List D)
  | .dic ks ds => some (ks, ds)
  | _ => none
theorem asDic_eq {d : D} {c : List Key × List D} (h : asDic d = some c) : d = .dic c.1 c.2 := by cases d <;> cases h; rfl
@[simp] def eDGet2 (fo fk f : EF) : EF := fun ρ => fo ρ >>= fun z => ofO (look z.1 z.2) >>= fun d0 => ofO (asDic d0) >>= fun _ => fk z.2 >>= fun y => eV f y.2 >>= fun u => ofO (look z.1 u.2) >>= fun d => ofO (asDic d) >>= fun c => ofO (asKey y.1) >>= fun k => .ok (.val ((getK c.1 c.2 k).getD u.1), u.2)
theorem pr_dget2 (hu : X.A.units + 1 < cLine) (ho : PR X E o fo) (hk : PR X E k fk) (h : PR X E e f) (m : M2 X o "get" apos k e cpos) : PR X E (.Call (.Attribute o "get" apos) [k, e] [] cpos) (eDGet2 fo fk f) := by
  obtain ⟨to, po, so⟩ := ho.ex
  obtain ⟨tk, pk, sk⟩ := hk.ex
  obtain ⟨t, pe, s⟩ := h.v.ex
  refine ⟨_, pe_dget2 hu po pk pe m, fun G H σ ρ r Q hw => so G H σ ρ r _ (hw.bind.mono (fun z _ q v G1 H1 o1 h1 => ?_) fun _ _ q => q)⟩
  obtain ⟨d0, ed0, q⟩ := q.opt
  obtain ⟨c0, ec0, q⟩ := q.opt
  have r0 := hold_look o1.rel h1 ed0
  rw [asDic_eq ec0] at r0
  obtain ⟨a, kvs0, rfl, rd0, _⟩ := r0.dic o1.rel.sub
  refine ⟨a, rfl, .inl ⟨kvs0, rd0⟩, sk G1 H1 σ z.2 o1.rel _ (q.bind.mono (fun y _ q2 vk G2 H2 o2 h2 => ?_) fun _ _ q2 => q2.step o1)⟩
  refine s G2 H2 σ y.2 o2.rel _ (q2.bind.mono (fun u _ q3 w G3 H3 o3 h3 => ?_) fun _ _ q3 => q3.step (o1.trans o2))
  obtain ⟨d, ed, q3⟩ := q3.opt
  obtain ⟨c, ec, q3⟩ := q3.opt
  obtain ⟨kk, ekk, q3⟩ := q3.opt
  have r3 := hold_look o3.rel (h1.pers (o2.trans o3)) ed
  rw [asDic_eq ec] at r3
  obtain ⟨a', kvs, ea, rd, hks, hds⟩ := r3.dic o3.rel.sub
  cases ea
  have hkv := asKey_v h2 ekk
  refine ⟨valV kvs kk, .inl ⟨kvs, kk, rd, hkv, rfl⟩, q3 _ G3 H3 ((o1.trans o2).trans o3) ?_⟩
  rw [← hks]
  cases eg : getK (kvs.map (·.1)) c.2 kk with
  | some d1 =>
    obtain ⟨v1, ev1, rv1⟩ := getK_rep hds eg
    rw [ev1]
    exact rv1
  | none =>
    rw [getK_none (by rw [hds.length, List.length_map]) eg]
    exact h3
end
end BR
set_option Elab.async false
set_option linter.all false
set_option maxRecDepth 100000
set_option maxHeartbeats 4000000
namespace BR
open PySem L2

/-! ## a, b = x, y -/
@[simp] def normH : Hd → S → Option (Hd × S)
  | .val d, ρ => some (.val d, ρ)
  | .tmp d, ρ => some (.tmp d, ρ)
  | .slot i, ρ => (share (.slot i) ρ).map fun z => (.val z.1, z.2)
def notSlot : Hd → Prop
  | .slot _ => False
  | _ => True
def tmpV : Hd → V → List V
  | .tmp _, v => [v]
  | _, _ => []
inductive HoldT (K : PySem.W.Frag) (Hs G H : Hp) (σ : St) (ρ : S) : List Hd → List V → List V → Prop where
  | nil : HoldT K Hs G H σ ρ [] [] []
  | cons {h : Hd} {hs : List Hd} {v : V} {vs ts : List V} : notSlot h → Hold K Hs G H σ ρ h v → HoldT K Hs G H σ ρ hs vs ts → (∀ d, h = .tmp d → v ∉ ts) → HoldT K Hs G H σ ρ (h :: hs) (v :: vs) (tmpV h v ++ ts)
section
variable {K : PySem.W.Frag} {Hs Hs' G H G1 H1 : Hp} {σ : St} {ρ ρ1 : S}
theorem HoldT.pers (o : Out K G H σ ρ G1 H1 ρ1) {hs : List Hd} {vs ts : List V} (h : HoldT K Hs G H σ ρ hs vs ts) : HoldT K Hs G1 H1 σ ρ1 hs vs ts := by
  induction h with
  | nil => exact .nil
  | cons a b _ d ih => exact .cons a (b.pers o) ih d
theorem HoldT.back (k : ∀ b, Hs b = none → Hs' b = none) {hs : List Hd} {vs ts : List V} (h : HoldT K Hs G H σ ρ hs vs ts) : HoldT K Hs' G H σ ρ hs vs ts := by
  induction h with
  | nil => exact .nil
  | cons a b _ d ih => exact .cons a (b.back k) ih d
theorem HoldT.fresh {hs : List Hd} {vs ts : List V} (h : HoldT K Hs G H σ ρ hs vs ts) {p : Addr} (hp : V.ref p ∈ ts) : Hs p = none := by
  induction h with
  | nil => cases hp
  | @cons h hs v vs ts a b _ d ih =>
    rcases List.mem_append.mp hp with z | z
    · cases h with
      | tmp d' =>
        have : V.ref p = v := by simpa [tmpV] using z
        subst this
        obtain ⟨p', e, _, h4, _⟩ := b
        cases e
        exact h4
      | _ => simp [tmpV] at z
    · exact ih z
end
def SndP (K : PySem.W.Frag) (E : XK) (t : TA) (f : S → R (List Hd × S)) : Prop := ∀ (G H : Hp) (σ : St) (ρ : S), Rel K G H σ ρ → ∀ Q : List V → Hp → Prop,
  Wp (f ρ) (fun z => ∀ vs ts G' H', Out K G H σ ρ G' H' z.2 → HoldT K H G' H' σ z.2 z.1 vs ts → Q vs H') (ExE K E G H σ ρ) → t σ H Q
structure PPr (X : Cx) (E : XK) (es : List Expr) (f : S → R (List Hd × S)) : Prop where
  ex : ∃ t, PA X es t ∧ SndP X.K E t f
@[simp] def pNil : S → R (List Hd × S) := fun ρ => .ok ([], ρ)
@[simp] def pCons (f : EF) (g : S → R (List Hd × S)) : S → R (List Hd × S) := fun ρ => f ρ >>= fun z => ofO (normH z.1 z.2) >>= fun u => g u.2 >>= fun y => .ok (u.1 :: y.1, y.2)
section
variable {X : Cx} {E : XK} {e : Expr} {es : List Expr} {f : EF} {g : S → R (List Hd × S)}
theorem norm_ok {K : PySem.W.Frag} {Gs Hs G H : Hp} {σ : St} {ρs ρ : S} {h : Hd} {v : V} {u : Hd × S} (o : Out K Gs Hs σ ρs G H ρ) (hh : Hold K Hs G H σ ρ h v) (e : normH h ρ = some u) : ∃ G', Out K Gs Hs σ ρs G' H u.2 ∧ Hold K Hs G' H σ u.2 u.1 v ∧ notSlot u.1 := by
  cases h with
  | val d => cases e; exact ⟨G, o, hh, True.intro⟩
  | tmp d => cases e; exact ⟨G, o, hh, True.intro⟩
  | slot i =>
    have e' : (share (.slot i) ρ).map (fun z => (Hd.val z.1, z.2)) = some u := e
    cases q : share (.slot i) ρ with
    | none => rw [q] at e'; cases e'
    | some z =>
      rw [q] at e'; cases e'
      obtain ⟨G', o', _, rp⟩ := share_ok o hh q
      exact ⟨G', o', rp, True.intro⟩
theorem pp_nil : PPr X E [] pNil := ⟨_, pa_nil, fun G H σ ρ r Q hw => hw [] [] G H (.refl r) .nil⟩
theorem pp_cons (h1 : PR X E e f) (h2 : PPr X E es g) (hs : starEach (e :: es) X.env = (false, eval e X.env) :: starEach es X.env := by rfl) : PPr X E (e :: es) (pCons f g) := by
  obtain ⟨t, pe, s⟩ := h1.ex
  obtain ⟨t2, pa, s2⟩ := h2.ex
  refine ⟨_, pa_cons pe pa hs, fun G H σ ρ r Q hw => s G H σ ρ r _ (hw.bind.mono (fun z _ q v G1 H1 o1 hh => ?_) fun _ _ q => q)⟩
  obtain ⟨u, eu, q⟩ := q.opt
  obtain ⟨G', o, h, ns⟩ := norm_ok o1 hh eu
  refine s2 G' H1 σ u.2 o.rel _ (q.bind.mono (fun y _ q2 vs ts G2 H2 o2 h2 => ?_) fun _ _ q2 => q2.step o)
  refine q2 (v :: vs) _ G2 H2 (o.trans o2) (.cons ns (h.pers o2) (h2.back o.stp.thr) fun d ed hm => ?_)
  rw [ed] at h
  obtain ⟨p, rfl, ⟨_, w, hw1, _⟩, _⟩ := h
  have := h2.fresh hm
  rw [hw1] at this; cases this
end
@[simp] def putAll : List Nat → List Hd → S → Option S
  | [], [], ρ => some ρ
  | i :: is, h :: hs, ρ => (putS i h ρ).bind fun ρ' => putAll is hs ρ'
  | [], _ :: _, _ => none
  | _ :: _, [], _ => none
def setAll : List Nat → List V → St → St
  | i :: is, v :: vs, σ => setAll is vs (σ.set i (some v))
  | [], _, σ => σ
  | _ :: _, [], σ => σ
section
variable {K : PySem.W.Frag} {Gs Hs G H : Hp} {σ σs : St} {ρ ρ' ρs : S}
theorem putAll_ok : ∀ {is : List Nat} {hs : List Hd} {vs ts : List V} {σ : St} {ρ : S}, OutS K Gs Hs σs ρs G H σ ρ → HoldT K Hs G H σ ρ hs vs ts → putAll is hs ρ = some ρ' → OutS K Gs Hs σs ρs G H (setAll is vs σ) ρ'
  | [], [], _, _, _, _, o, h, e => by cases e; exact o
  | i :: is, [], _, _, _, _, o, h, e => by cases e
  | [], h0 :: hs, _, _, _, _, o, h, e => by cases e
  | i :: is, h0 :: hs, _, _, σ, ρ, o, .cons (v := v) (vs := vs) (ts := ts) ns hh ht nd, e => by
    have e' : ((putS i h0 ρ).bind fun ρ' => putAll is hs ρ') = some ρ' := e
    cases q : putS i h0 ρ with
    | none => rw [q] at e'; cases e'
    | some ρ1 =>
      rw [q] at e'
      -- the first name gets its value
      have key : OutS K Gs Hs σs ρs G H (σ.set i (some v)) ρ1 ∧ ∀ p, V.ref p ∈ ts → ads (σ.set i (some v)) ρ1 p → ads σ ρ p := by
        cases h0 with
        | slot j => exact ns.elim
        | val d =>
          have q' : setS i (.sh d) ρ = some ρ1 := q
          refine ⟨set_sh o hh q', fun p _ ⟨j, m, ej⟩ => ?_⟩
          obtain ⟨hi, rfl, _⟩ := setS_eq q'
          obtain ⟨nj, m⟩ := isMut_set m fun d => ⟨nofun, nofun⟩
          rw [List.getElem?_set_ne (Ne.symm nj)] at ej
          exact ⟨j, m, ej⟩
        | tmp d =>
          have q' : setS i (.own d) ρ = some ρ1 := q
          obtain ⟨p0, rfl, h1, h2, h3⟩ := hh
          refine ⟨set_own o h1 h2 h3 q', fun p hp ⟨j, m, ej⟩ => ?_⟩
          obtain ⟨hi, rfl, _⟩ := setS_eq q'
          have hσ : i < σ.length := by rw [← o.rel.len]; exact hi
          by_cases nj : j = i
          · subst nj
            rw [List.getElem?_set_self hσ] at ej
            cases ej
            exact absurd hp (nd d rfl)
          · rw [List.getElem?_set_ne (Ne.symm nj)] at ej
            obtain ⟨d', m⟩ := m
            rw [List.getElem?_set_ne (Ne.symm nj)] at m
            exact ⟨j, ⟨d', m⟩, ej⟩
      have ht2 : HoldT K Hs G H (σ.set i (some v)) ρ1 hs vs ts := by
        have gen : ∀ {hs : List Hd} {vs ts' : List V}, HoldT K Hs G H σ ρ hs vs ts' → (∀ x ∈ ts', x ∈ ts) → HoldT K Hs G H (σ.set i (some v)) ρ1 hs vs ts' := by
          intro hs vs ts' z
          induction z with
          | nil => exact fun _ => .nil
          | @cons h hs v' vs ts1 a b c d ih =>
            intro sub
            refine .cons a ?_ (ih fun x hx => sub x (List.mem_append_right _ hx)) d
            cases h with
            | slot j => exact a.elim
            | val d => exact b
            | tmp d =>
              obtain ⟨p, rfl, g1, g2, g3⟩ := b
              exact ⟨p, rfl, g1, g2, fun z => g3 (key.2 p (sub _ (List.mem_append_left _ (by simp [tmpV]))) z)⟩
        exact gen ht fun _ h => h
      exact putAll_ok (is := is) (hs := hs) key.1 ht2 e'
end
section
variable {X : Cx} {E : XK} {a b c : Expr} {f : S → R (List Hd × S)} {pos : Pos} {i j l : Nat} {x y z : Str} {px py pz pt pt2 : Pos} {kt k2 : Nat}
@[simp] def sPar (is : List Nat) (f : S → R (List Hd × S)) : SF := fun ρ => f ρ >>= fun z => ofO (putAll is z.1 z.2) >>= fun ρ' => .ok (.nx, ρ')
theorem st_par (hc : X.calm = true) (hN : X.N.Nodup) (hi : X.N[i]? = some x) (hj : X.N[j]? = some y) (hij : i ≠ j)
    (hx : X.env.scope.names.lookup x = some .local) (hy : X.env.scope.names.lookup y = some .local) (ha : PPr X E [a, b] f)
    (hw : swappedStores [.Tuple [.Name x px, .Name y py] kt pt] (.Tuple [a, b] k2 pt2) X.env = pure (some [x, y]))
    (hs : swapsWithSole [.Tuple [.Name x px, .Name y py] kt pt] (.Tuple [a, b] k2 pt2) pos.line X.env = pure false := by rfl) :
    PSt X E (.Assign [.Tuple [.Name x px, .Name y py] kt pt] (.Tuple [a, b] k2 pt2) pos) (sPar [i, j] f) := by
  obtain ⟨t, pe, s⟩ := ha.ex
  refine ⟨_, ps_par hc hN hi hj hij hx hy pe hw hs, fun G H σ ρ r Dn hw => s G H σ ρ r _ (hw.bind.mono (fun z _ q vs ts G1 H1 o1 h1 => ?_) fun _ _ q => q)⟩
  obtain ⟨ρ', e1, qq⟩ := q.opt
  have o2 := putAll_ok o1.s h1 e1
  obtain ⟨hs, ρ1⟩ := z
  cases h1 with
  | nil => cases e1
  | cons a1 b1 c1 d1 =>
    cases c1 with
    | nil =>
      simp only [putAll] at e1
      cases hp : putS i _ ρ1 with
      | none => rw [hp] at e1; cases e1
      | some ρ2 => rw [hp] at e1; cases e1
    | cons a2 b2 c2 d2 =>
      cases c2 with
      | nil => exact ⟨_, _, rfl, qq _ G1 H1 o2⟩
      | cons a3 b3 c3 d3 =>
        exfalso
        simp only [putAll] at e1
        cases hp : putS i _ ρ1 with
        | none => rw [hp] at e1; cases e1
        | some ρ2 =>
          rw [hp] at e1
          simp only [Option.bind] at e1
          split at e1 <;> cases e1
theorem st_par3 (hc : X.calm = true) (hN : X.N.Nodup) (hi : X.N[i]? = some x) (hj : X.N[j]? = some y) (hl : X.N[l]? = some z) (hij : i ≠ j) (hil : i ≠ l) (hjl : j ≠ l)
    (hx : X.env.scope.names.lookup x = some .local) (hy : X.env.scope.names.lookup y = some .local) (hz : X.env.scope.names.lookup z = some .local) (ha : PPr X E [a, b, c] f)
    (hw : swappedStores [.Tuple [.Name x px, .Name y py, .Name z pz] kt pt] (.Tuple [a, b, c] k2 pt2) X.env = pure (some [x, y, z]))
    (hs : swapsWithSole [.Tuple [.Name x px, .Name y py, .Name z pz] kt pt] (.Tuple [a, b, c] k2 pt2) pos.line X.env = pure false := by rfl) :
    PSt X E (.Assign [.Tuple [.Name x px, .Name y py, .Name z pz] kt pt] (.Tuple [a, b, c] k2 pt2) pos) (sPar [i, j, l] f) := by
  obtain ⟨t, pe, s⟩ := ha.ex
  refine ⟨_, ps_par3 hc hN hi hj hl hij hil hjl hx hy hz pe hw hs, fun G H σ ρ r Dn hw => s G H σ ρ r _ (hw.bind.mono (fun z _ q vs ts G1 H1 o1 h1 => ?_) fun _ _ q => q)⟩
  obtain ⟨ρ', e1, qq⟩ := q.opt
  have o2 := putAll_ok o1.s h1 e1
  have hlen : ∀ {is : List Nat} {hs : List Hd} {ρ : S}, putAll is hs ρ = some ρ' → is.length = hs.length := by
    intro is
    induction is with
    | nil => intro hs ρ e; cases hs with
      | nil => rfl
      | cons => cases e
    | cons i is ih => intro hs ρ e; cases hs with
      | nil => cases e
      | cons h hs =>
        have e' : ((putS i h ρ).bind fun ρ' => putAll is hs ρ') = some ρ' := e
        cases hp : putS i h ρ with
        | none => rw [hp] at e'; cases e'
        | some ρ2 => rw [hp] at e'; exact congrArg Nat.succ (ih e')
  have hl3 := hlen e1
  obtain ⟨hs, ρ1⟩ := z
  cases h1 with
  | nil => cases hl3
  | cons a1 b1 c1 d1 =>
    cases c1 with
    | nil => cases hl3
    | cons a2 b2 c2 d2 =>
      cases c2 with
      | nil => cases hl3
      | cons a3 b3 c3 d3 =>
        cases c3 with
        | nil => exact ⟨_, _, _, rfl, qq _ G1 H1 o2⟩
        | cons => cases hl3
/-- a target gets a shared value -/
@[simp] def sAsgT (g : D → S → Option S) (fe : EF) : SF := fun ρ => eV fe ρ >>= fun z => ofO (g z.1 z.2) >>= fun ρ' => .ok (.nx, ρ')
theorem st_asgT {tv : List Nat} {tg e : Expr} {g : D → S → Option S} {fe : EF} (hg : PTg X tv tg g) (h : PR X E e fe) (hs : swapsWithSole [tg] e pos.line X.env = pure false := by rfl) (hw : swappedStores [tg] e X.env = pure none := by rfl)
    (h1 : (assignEach [tg] X.env).map (·.2) = [assign tg X.env] := by rfl) : PSt X E (.Assign [tg] e pos) (sAsgT g fe) := by
  obtain ⟨t, pe, s⟩ := h.v.ex
  obtain ⟨u, pg, sg⟩ := hg.ex
  refine ⟨_, ps_asg pe pg hs hw h1, fun G H σ ρ r Dn hw => s G H σ ρ r _ (hw.bind.mono (fun z _ q v G1 H1 o1 h1 => ?_) fun _ _ q => q)⟩
  obtain ⟨ρ', e1, q⟩ := q.opt
  exact sg G H σ ρ G1 H1 σ z.2 ρ' z.1 v o1.s h1 e1 _ fun σ' o2 _ => q σ' G1 H1 o2
/-- x += e, ints -/
@[simp] def sAug (i : Nat) (op : Int → Int → Int) (fe : EF) : SF := fun ρ => match ρ[i]? with
  | some (some (.sh (.int a))) => fe ρ >>= fun z => ofO (asInt z.1) >>= fun b => ofO (setS i (.sh (.int (op a b))) z.2) >>= fun ρ' => .ok (.nx, ρ')
  | _ => .no
theorem st_aug {op : Operator} {g : Int → Int → Int} {e : Expr} {fe : EF} {pos' : Pos} (hN : X.N.Nodup) (hi : X.N[i]? = some x) (hx : Loc X.env.scope x) (h : PR X E e fe) (ho : PIp X op (ipI g)) (hf : X.fn x = true ∨ X.env.scope.names.lookup x = some .local := by first | exact .inl rfl | exact .inr rfl | assumption) :
    PSt X E (.AugAssign (.Name x pos') op e pos) (sAug i g fe) := by
  obtain ⟨t, pe, s⟩ := h.ex
  refine ⟨_, ps_aug hN hi hx pe ho hf, fun G H σ ρ r Dn hw => ?_⟩
  unfold sAug at hw
  split at hw
  · rename_i a q
    obtain ⟨v, e1, h⟩ := r.sl i _ q
    unfold Rep at h
    refine ⟨v, e1, s G H σ ρ r _ (hw.bind.mono (fun z _ q v' G1 H1 o1 h1 => ?_) fun _ _ q => q)⟩
    obtain ⟨b, eb, q⟩ := q.opt
    obtain ⟨ρ', e2, q⟩ := q.opt
    rw [asInt_eq eb] at h1
    have h2 : Rep X.K G1 (.int b) v' := h1
    unfold Rep at h2
    exact ⟨a, b, h, h2, q _ G1 H1 (set_sh o1.s rep_int e2)⟩
  · exact hw.elim
end
end BR
set_option Elab.async false
set_option linter.all false
set_option maxRecDepth 100000
set_option maxHeartbeats 4000000
namespace BR
open PySem L2

/-! ## instances -/
@[simp] def fldD : List Str → List D → Str → Option D
  | n :: ns, d :: ds, f => if f = n then some d else fldD ns ds f
  | [], _, _ => none
  | _ :: _, [], _ => none
@[simp] def setFn : List Str → Str → List Str
  | [], f => [f]
  | n :: ns, f => if n = f then n :: ns else n :: setFn ns f
@[simp] def setFx : List Str → List D → Str → D → List D
  | n :: ns, x :: ds, f, d => if n = f then d :: ds else x :: setFx ns ds f d
  | [], _, _, d => [d]
  | _ :: _, [], _, _ => []
@[simp] def hasF (ns : List Str) (f : Str) : Bool := ns.any fun n => decide (n = f)
section
variable {K : PySem.W.Frag} {G H : Hp}
theorem fldD_rep {f : Str} : ∀ {fs : List (Str × V)} {ds : List D} {d : D}, RepL K G ds (fs.map (·.2)) → fldD (fs.map (·.1)) ds f = some d → ∃ v, fs.lookup f = some v ∧ Rep K G d v
  | [], ds, d, h, e => by cases e
  | p :: fs, ds, d, h, e => by
    cases ds with
    | nil => have := RepL.length h; cases this
    | cons x ds =>
      obtain ⟨v1, vs1, e1, h1, h2⟩ := repL_cons.mp h
      have e2 : p.2 = v1 ∧ fs.map (·.2) = vs1 := by simpa using e1
      obtain ⟨rfl, rfl⟩ := e2
      have e' : (if f = p.1 then some x else fldD (fs.map (·.1)) ds f) = some d := e
      obtain ⟨n, v⟩ := p
      rw [List.lookup_cons]
      by_cases hf : f = n
      · rw [if_pos hf] at e'
        cases e'
        subst hf
        exact ⟨v, by simp, h1⟩
      · rw [if_neg hf] at e'
        obtain ⟨w, h3, h4⟩ := fldD_rep h2 e'
        have : (f == n) = false := by simpa using hf
        rw [this]
        exact ⟨w, h3, h4⟩
theorem hasF_none {f : Str} : ∀ {fs : List (Str × V)}, hasF (fs.map (·.1)) f = false → fs.lookup f = none
  | [], _ => rfl
  | (n, v) :: fs, h => by
    have h' : (decide (n = f) || hasF (fs.map (·.1)) f) = false := h
    rw [Bool.or_eq_false_iff] at h'
    rw [List.lookup_cons]
    have : (f == n) = false := by
      have := h'.1
      simp at this
      simpa using fun z => this z.symm
    rw [this]
    exact hasF_none h'.2
theorem putF_rep {f : Str} {d : D} {v : V} (hv : Rep K G d v) : ∀ {fs : List (Str × V)} {ds : List D}, RepL K G ds (fs.map (·.2)) → (putF f v fs).map (·.1) = setFn (fs.map (·.1)) f ∧ RepL K G (setFx (fs.map (·.1)) ds f d) ((putF f v fs).map (·.2))
  | [], ds, h => ⟨rfl, .cons hv .nil⟩
  | (n, x) :: fs, ds, h => by
    cases ds with
    | nil => have := RepL.length h; cases this
    | cons y ds =>
      obtain ⟨v1, vs1, e1, h1, h2⟩ := repL_cons.mp h
      have e2 : x = v1 ∧ fs.map (·.2) = vs1 := by simpa using e1
      obtain ⟨rfl, rfl⟩ := e2
      obtain ⟨i1, i2⟩ := putF_rep (f := f) hv h2
      show (if n = f then (n, v) :: fs else (n, x) :: putF f v fs).map (·.1) = (if n = f then n :: fs.map (·.1) else n :: setFn (fs.map (·.1)) f) ∧ RepL K G (if n = f then d :: ds else y :: setFx (fs.map (·.1)) ds f d) ((if n = f then (n, v) :: fs else (n, x) :: putF f v fs).map (·.2))
      by_cases hf : n = f
      · rw [if_pos hf, if_pos hf, if_pos hf]
        exact ⟨rfl, .cons hv h2⟩
      · rw [if_neg hf, if_neg hf, if_neg hf]
        exact ⟨by rw [List.map_cons, i1], .cons h1 i2⟩
end
@[simp] def asIns (C : Addr) : D → Option (List Str × List D)
  | .ins C' ns ds => if C' = C then some (ns, ds) else none
  | _ => none
theorem asIns_eq {C : Addr} {d : D} {c : List Str × List D} (h : asIns C d = some c) : d = .ins C c.1 c.2 := by
  cases d with
  | ins C' ns ds =>
    have h' : (if C' = C then some (ns, ds) else none) = some c := h
    split at h'
    · rename_i e; cases h'; rw [e]
    · cases h'
  | _ => cases h
section
variable {X : Cx} {E : XK} {e o k : Expr} {f fo fk : EF} {pos pos' spos apos cpos p : Pos} {x m fl : Str} {i : Nat} {C : Addr} {es : List Expr}
/-- o.f -/
@[simp] def eFld (C : Addr) (fl : Str) (fo : EF) : EF := fun ρ => fo ρ >>= fun z => ofO (look z.1 z.2) >>= fun d => ofO (asIns C d) >>= fun c => ofO (fldD c.1 c.2 fl) >>= fun x => .ok (.val x, z.2)
theorem pr_fld (c : Cls X.K C) (n : NoAttr X.K C fl) (h : PR X E o fo) (hb : attributeBase o fl X.env (eval o X.env) = eval o X.env := by rfl) : PR X E (.Attribute o fl pos) (eFld C fl fo) := by
  obtain ⟨t, pe, s⟩ := h.ex
  refine ⟨_, pe_fld pe hb, fun G H σ ρ r Q hw => s G H σ ρ r _ (hw.bind.mono (fun z _ q v G1 H1 o1 h1 => ?_) fun _ _ q => q)⟩
  obtain ⟨d, e1, q1⟩ := q.opt
  obtain ⟨cc, e2, q2⟩ := q1.opt
  obtain ⟨x, e3, q3⟩ := q2.opt
  have rp := hold_look o1.rel h1 e1
  rw [asIns_eq e2] at rp
  obtain ⟨a, dx, fs, rfl, ha, hn, hds⟩ := rp.ins o1.rel.sub
  rw [← hn] at e3
  obtain ⟨w, l, rw'⟩ := fldD_rep hds e3
  exact ⟨a, C, dx, fs, w, rfl, ha, c, n, l, q3 w G1 H1 o1 rw'⟩
/-- self.f = e -/
@[simp] def sFldS (C : Addr) (i : Nat) (fl : Str) (f : EF) : SF := fun ρ => eV f ρ >>= fun z => ofO (lookMu z.2 i) >>= fun d => ofO (asIns C d) >>= fun c => ofO (guard (decide (c.1.length < 1000))) >>= fun _ => ofO (updSl z.2 i (.ins C (setFn c.1 fl) (setFx c.1 c.2 fl z.1))) >>= fun ρ2 => .ok (.nx, ρ2)
theorem st_fld (c : Cls X.K C) (n : NoAttr X.K C fl) (hN : X.N[i]? = some x) (hv : Vis X.env.scope x) (h : PR X E e f) (hd : (x == ("__debug__" : Str)) = false := by decide) (hcd : (x == ("__classdict__" : Str)) = false := by decide)
    (hs : swapsWith e (some (.Attribute (.Name x p) fl pos')) pos.line X.env = pure false := by rfl) : PSt X E (.Assign [.Attribute (.Name x p) fl pos'] e pos) (sFldS C i fl f) := by
  obtain ⟨t, pe, s⟩ := h.v.ex
  refine ⟨_, ps_fld (pe_var (i := i) hN hv hd hcd) pe hs, fun G H σ ρ r Dn hw => s G H σ ρ r _ (hw.bind.mono (fun z _ q v G1 H1 o1 rv => ?_) fun _ _ q => q)⟩
  obtain ⟨d, e1, q1⟩ := q.opt
  obtain ⟨cc, e2, q2⟩ := q1.opt
  obtain ⟨_, e3, q3⟩ := q2.opt
  obtain ⟨ρ2, e4, q4⟩ := q3.opt
  rw [asIns_eq e2] at e1
  obtain ⟨hm, a, ea, hg, u, hu, dx, fs, rfl, hns, hc⟩ := lookMu_ok o1.rel e1
  obtain ⟨p1, p2⟩ := putF_rep (f := fl) rv hc
  rw [hns] at p1 p2
  refine ⟨.ref a, ea, a, C, dx, fs, rfl, hu, c, n, ?_, q4 σ G1 _ (mut_ok o1 ea hm (cont_i p1 p2) e4).s⟩
  have := of_decide_eq_true (guard_eq e3)
  rw [← hns, List.length_map] at this
  exact this
/-- C.f, a constant of the class -/
theorem pr_cval {C : Addr} {mc u : Value} {v : V} {d : D} (r : ClX.CRead X.K C mc) (c : ClX.CVal X.K C mc fl v u) (rd : ∀ G, Rep X.K G d v) (hg : Gl X x) (hm : X.mg x = some (.ref C)) (hd : (x == ("__debug__" : Str)) = false := by decide)
    (hb : attributeBase (.Name x p) fl X.env (eval (.Name x p) X.env) = eval (.Name x p) X.env := by rfl) : PR X E (.Attribute (.Name x p) fl pos) (eK d) :=
  ⟨_, ClX.pe_cval (pe_glob (v := .ref C) hg hm rfl hd) hb, fun G H σ ρ R Q hw => ⟨C, mc, v, u, rfl, r, c, hw v G H (.refl R) (rd G)⟩⟩

/-! ### making -/
variable {F : FT} {kk : Nat} {fa : Addr} {fd : FuncData} {ps : List Str} {ms : List Bool} {own : Bool} {dD : List D} {dvs : List V} {ds : List Value}
@[simp] def eMake (C : Addr) (F : FT) (dD : List D) (g : S → R (List D × S)) : EF := fun ρ => g ρ >>= fun z => F (.ins C [] [] :: (z.1 ++ dD)) >>= fun r => (match r with
  | (.non, [d]) => .ok (.tmp d, z.2)
  | _ => .no)
def ALen (g : S → R (List D × S)) (n : Nat) : Prop := ∀ ρ z, g ρ = .ok z → z.1.length = n
theorem al_nil : ALen aNil 0 := fun ρ z h => by cases h; rfl
theorem al_cons {f : S → R (D × S)} {g : S → R (List D × S)} {n : Nat} (h : ALen g n) : ALen (aCons f g) (n + 1) := fun ρ z e => by
  have e' : (f ρ >>= fun z => g z.2 >>= fun y => R.ok (z.1 :: y.1, y.2)) = .ok z := e
  cases hf : f ρ with
  | ok a =>
    rw [hf, ok_bind] at e'
    cases hg : g a.2 with
    | ok b => rw [hg, ok_bind] at e'; cases e'; exact congrArg Nat.succ (h _ _ hg)
    | exc _ => rw [hg] at e'; cases e'
    | no => rw [hg] at e'; cases e'
  | exc _ => rw [hf] at e'; cases e'
  | no => rw [hf] at e'; cases e'
theorem argR_sh {K : PySem.W.Frag} {G H : Hp} : ∀ {ds : List D} {vs : List V} {ms : List Bool}, (∀ b ∈ ms, b = false) → ms.length = ds.length → RepL K G ds vs → ArgR K G H ms vs ds []
  | [], vs, ms, hm, hl, h => by
    rw [repL_nil.mp h]
    cases ms with
    | nil => exact .nil
    | cons => cases hl
  | d :: ds, vs, ms, hm, hl, h => by
    obtain ⟨v, vs', rfl, h1, h2⟩ := repL_cons.mp h
    cases ms with
    | nil => cases hl
    | cons b ms =>
      have := hm b List.mem_cons_self
      subst this
      exact .sh h1 (argR_sh (fun c hc => hm c (List.mem_cons_of_mem _ hc)) (Nat.succ.inj hl) h2)
/-- C(e, ..) -/
theorem pr_make {g : S → R (List D × S)} (M : Mk X.K C fa) (Fn : FnOk X.prog X.w X.K X.mg X.base (L2.CX X.prog X.w) kk fa fd ps (spF X.K (true :: ms) false F)) (hr : Room (kk + 1) X.A) (hg : Gl X x) (hm : X.mg x = some (.ref C)) (hb : Binds X.K fd ps ds) (hd : Vals dvs ds) (rd : ∀ G, RepL X.K G dD dvs) (hx : Passes (L2.CX X.prog X.w) X E)
    (ha : PAs X E (e :: es) g) (hms : ∀ b ∈ ms, b = false := by decide) {n : Nat} (hal : ALen g n) (hml : ms.length = n + dD.length := by rfl) (hdb : (x == ("__debug__" : Str)) = false := by decide) (he : starEach (e :: es) X.env = (false, eval e X.env) :: starEach es X.env := by rfl) (hpl : (backTo pos (starEach es X.env)).any (·.1) = false := by rfl) :
    PR X E (.Call (.Name x p) (e :: es) [] pos) (eMake C F dD g) := by
  obtain ⟨t, pa, s⟩ := ha.ex
  refine ⟨_, pe_make (dvs := dvs) M Fn hr hg hm hb hd hx pa hdb he hpl, fun G H σ ρ r Q hw => s G H σ ρ r _ (hw.bind.mono (fun z hz q vs G1 H1 o1 hl => ?_) fun _ _ q => q)⟩
  intro xx dx hx0 hdx hne
  have h1 : upd H1 dx (.own xx) xx = none := by rw [upd_ne (Ne.symm hne)]; exact hx0
  have ob := (Out.new (o := .own xx) o1.rel hdx).trans (Out.new (o := .ins C dx []) (o1.rel.new hdx) h1)
  have gx : G1 xx = none := o1.rel.sub.none hx0
  have nx : ¬ ads σ z.2 xx := fun zz => (o1.rel.adsH zz).1 hx0
  refine ⟨G1, .ins C [] [] :: (z.1 ++ dD), [xx], ob.rel.sub, .io ⟨gx, _, upd_same, dx, [], rfl, rfl, .nil⟩ (by simp) (argR_sh hms (by rw [List.length_append, hal ρ z hz]; exact hml) (hl.append (rd G1))), q.bind.mono (fun rr _ q2 v G' H' sb st ou re => ?_) fun xc _ q2 c d G' H' sb st ex => ?_⟩
  · have rl : Rel X.K G' H' σ z.2 := ob.rel.after st sb rfl fun i s e => .inl ⟨e, fun mm b eb zz => by rw [List.mem_singleton] at zz; rw [zz] at eb; exact nx ⟨i, mm, eb⟩⟩
    have oo : Out X.K G1 H1 σ z.2 G' H' z.2 := ⟨rl, ob.stp.trans st fun c hc zz => (by rw [List.mem_singleton] at zz; rw [zz] at hc; exact absurd hx0 hc), .refl⟩
    obtain ⟨r1, r2⟩ := rr
    split at q2
    · rename_i d0 e0
      cases e0
      obtain ⟨d1, h1, ow⟩ := ou 0 xx rfl
      cases h1
      have re' : Rep X.K G' .non v := re
      unfold Rep at re'
      exact ⟨re', q2 (.ref xx) G' H' (o1.trans oo) ⟨xx, rfl, ow, o1.stp.thr xx hx0, nx⟩⟩
    · exact q2.elim
  · exact q2 c d G' H' sb ((o1.stp.trans ob.stp fun c _ zz => o1.ker.ads zz).trans st fun cc hc zz => (by rw [List.mem_singleton] at zz; rw [zz] at hc; exact absurd (o1.stp.thr xx hx0) hc)) ex
/-! ### methods, properties: the object shared -/
@[simp] def eMeth (C : Addr) (m : Str) (own : Bool) (F : FT) (dD : List D) (fo : EF) (g : S → R (List D × S)) : EF := fun ρ => eV fo ρ >>= fun z => ofO (asIns C z.1) >>= fun c => ofO (guard (!hasF c.1 m)) >>= fun _ => g z.2 >>= fun y => F (z.1 :: (y.1 ++ dD)) >>= fun r => .ok (if own = true then .tmp r.1 else .val r.1, y.2)
/-- a call with shared arguments -/
theorem call_sh {K : PySem.W.Frag} {G H G1 H1 : Hp} {σ : St} {ρ ρ1 : S} {ds : List D} {vs : List V} {Q : VK} (hms : ∀ b ∈ ms, b = false) (hml : ms.length = ds.length) (o1 : Out K G H σ ρ G1 H1 ρ1) (hl : RepL K G1 ds vs)
    (hw : Wp (F ds >>= fun r => R.ok ((if own = true then Hd.tmp r.1 else Hd.val r.1), ρ1)) (fun z => ∀ v G' H', Out K G H σ ρ G' H' z.2 → Hold K H G' H' σ z.2 z.1 v → Q v H') (ExE K E G H σ ρ)) : spF K ms own F vs H1 Q E := by
  refine ⟨G1, ds, [], o1.rel.sub, argR_sh hms hml hl, hw.bind.mono (fun rr _ q2 v G' H' sb st ou re => ?_) fun xc _ q2 c d G' H' sb st ex => ?_⟩
  · have rl : Rel K G' H' σ ρ1 := o1.rel.after st sb rfl fun i s e => .inl ⟨e, fun mm b eb zz => by cases zz⟩
    have oo : Out K G1 H1 σ ρ1 G' H' ρ1 := ⟨rl, st.mono fun c hc zz => (by cases zz), .refl⟩
    refine q2 v G' H' (o1.trans oo) ?_
    cases own with
    | false => exact re
    | true =>
      obtain ⟨pr, rfl, ow, hn⟩ := re
      exact ⟨pr, rfl, ow, o1.stp.thr pr hn, fun z => (o1.rel.adsH z).1 hn⟩
  · exact q2 c d G' H' sb (o1.stp.trans st fun cc hc zz => (by cases zz)) ex
theorem aNil_ok {ρ : S} {z : List D × S} (h : aNil ρ = .ok z) : z.1 = [] := by cases h; rfl
theorem pr_meth {g : S → R (List D × S)} {pl : Sem Bool} (ho : PR X E o fo) (c : Cls X.K C) (hm : Meth X.K C m fa) (Fn : FnOk X.prog X.w X.K X.mg X.base (L2.CX X.prog X.w) kk fa fd ps (spF X.K (false :: ms) own F)) (hr : Room kk X.A) (hb : Binds X.K fd ps ds) (hd : Vals dvs ds) (rd : ∀ G, RepL X.K G dD dvs) (hx : Passes (L2.CX X.prog X.w) X E)
    (ha : PAs X E (e :: es) g) (hms : ∀ b ∈ ms, b = false := by decide) {n : Nat} (hal : ALen g n) (hml : ms.length = n + dD.length := by rfl)
    (hst : starEach (e :: es) X.env = (false, eval e X.env) :: starEach es X.env := by rfl) (hpl : (backTo pos (starEach es X.env)).any (·.1) = false := by rfl)
    (ht : eval (.Call (.Attribute o m apos) (e :: es) [] pos) X.env = (do
      let ov ← eval o X.env
      standAt apos.atName
      let (f, first) ← holding [ov] (getMethod ov m pl)
      callWith pos f first (backTo pos (starEach (e :: es) X.env)) (backToKw pos (keywordEach [] X.env))) := by rfl) :
    PR X E (.Call (.Attribute o m apos) (e :: es) [] pos) (eMeth C m own F dD fo g) := by
  obtain ⟨to, po, so⟩ := ho.v.ex
  obtain ⟨t, pa, s⟩ := ha.ex
  refine ⟨_, pe_meth (dvs := dvs) po c hm Fn hr hb hd hx pa hst hpl ht, fun G H σ ρ r Q hw => so G H σ ρ r _ (hw.bind.mono (fun z _ q v G1 H1 o1 h1 => ?_) fun _ _ q => q)⟩
  obtain ⟨cc, e1, q1⟩ := q.opt
  obtain ⟨_, e2, q2⟩ := q1.opt
  have h1' := h1
  rw [asIns_eq e1] at h1'
  unfold Rep at h1'
  obtain ⟨a, dx, fs, rfl, ha, hn, hds⟩ := h1'
  refine ⟨a, dx, fs, rfl, o1.rel.sub.i ha, hasF_none (by rw [hn]; simpa using guard_eq e2), s G1 H1 σ z.2 o1.rel _ (q2.bind.mono (fun y hy q3 vs G2 H2 o2 h2 => ?_) fun _ _ q3 => q3.step o1)⟩
  refine call_sh (ms := false :: ms) (ds := z.1 :: (y.1 ++ dD)) (fun b hb => ?_) (congrArg Nat.succ (by rw [List.length_append, hal _ y hy]; exact hml)) (o1.trans o2) (.cons (Rep.mono o2.stp.gg _ h1) (h2.append (rd G2))) q3
  rcases List.mem_cons.mp hb with z | z
  · exact z
  · exact hms b z
theorem pr_meth0 {pl : Sem Bool} (ho : PR X E o fo) (c : Cls X.K C) (hm : Meth X.K C m fa) (Fn : FnOk X.prog X.w X.K X.mg X.base (L2.CX X.prog X.w) kk fa fd ps (spF X.K (false :: ms) own F)) (hr : Room kk X.A) (hb : Binds X.K fd ps ds) (hd : Vals dvs ds) (rd : ∀ G, RepL X.K G dD dvs) (hx : Passes (L2.CX X.prog X.w) X E)
    (hms : ∀ b ∈ ms, b = false := by decide) (hml : ms.length = dD.length := by rfl)
    (ht : eval (.Call (.Attribute o m apos) [] [] pos) X.env = (do
      let ov ← eval o X.env
      standAt apos.atName
      let (f, first) ← holding [ov] (getMethod ov m pl)
      callWith pos f first (backTo pos (starEach [] X.env)) (backToKw pos (keywordEach [] X.env))) := by rfl) :
    PR X E (.Call (.Attribute o m apos) [] [] pos) (eMeth C m own F dD fo aNil) := by
  obtain ⟨to, po, so⟩ := ho.v.ex
  refine ⟨_, pe_meth0 (dvs := dvs) po c hm Fn hr hb hd hx ht, fun G H σ ρ r Q hw => so G H σ ρ r _ (hw.bind.mono (fun z _ q v G1 H1 o1 h1 => ?_) fun _ _ q => q)⟩
  obtain ⟨cc, e1, q1⟩ := q.opt
  obtain ⟨_, e2, q2⟩ := q1.opt
  have h1' := h1
  rw [asIns_eq e1] at h1'
  unfold Rep at h1'
  obtain ⟨a, dx, fs, rfl, ha, hn, hds⟩ := h1'
  refine ⟨a, dx, fs, rfl, o1.rel.sub.i ha, hasF_none (by rw [hn]; simpa using guard_eq e2), ?_⟩
  refine call_sh (ms := false :: ms) (ds := z.1 :: dD) (fun b hb => ?_) (congrArg Nat.succ hml) o1 (.cons h1 (rd G1)) q2
  rcases List.mem_cons.mp hb with z | z
  · exact z
  · exact hms b z
@[simp] def eProp (C : Addr) (own : Bool) (F : FT) (fo : EF) : EF := fun ρ => eV fo ρ >>= fun z => ofO (asIns C z.1) >>= fun _ => noX (F [z.1]) >>= fun r => .ok (if own = true then .tmp r.1 else .val r.1, z.2)
theorem pr_prop {pp : Addr} (ho : PR X E o fo) (c : Cls X.K C) (hp : PropOf X.K C fl pp fa) (Fn : FnOk X.prog X.w X.K X.mg X.base (L2.CX X.prog X.w) kk fa fd ps (spF X.K [false] own F)) (hr : Room (kk + 1) X.A) (hb : Binds X.K fd ps []) (hx : Passes (L2.CX X.prog X.w) X.nox (fun _ _ _ => False))
    (hab : attributeBase o fl X.env (eval o X.env) = eval o X.env := by rfl) : PR X E (.Attribute o fl pos) (eProp C own F fo) := by
  obtain ⟨to, po, so⟩ := ho.v.ex
  refine ⟨_, pe_prop (dvs := []) po c hp Fn hr hb .nil hx hab, fun G H σ ρ r Q hw => so G H σ ρ r _ (hw.bind.mono (fun z _ q v G1 H1 o1 h1 => ?_) fun _ _ q => q)⟩
  obtain ⟨cc, e1, q1⟩ := q.opt
  have h1' := h1
  rw [asIns_eq e1] at h1'
  unfold Rep at h1'
  obtain ⟨a, dx, fs, rfl, ha, hn, hds⟩ := h1'
  refine ⟨a, dx, fs, rfl, o1.rel.sub.i ha, ?_⟩
  refine call_sh (E := fun _ _ _ => False) (ms := [false]) (F := F) (own := own) (by decide) rfl o1 (.cons h1 .nil) ?_
  have q2 := q1.bind.noX
  cases hF : F [z.1] with
  | ok rr => rw [hF] at q2; exact q2
  | exc xx => rw [hF] at q2; exact q2.elim
  | no => rw [hF] at q2; exact q2.elim
/-! ### keywords -/
def SndKw (K : PySem.W.Frag) (E : XK) (t : TA) (f : S → R (List D × S)) : Prop := SndA K E t f
structure PKs (X : Cx) (E : XK) (kws : List Keyword) (f : S → R (List D × S)) : Prop where
  ex : ∃ t, PK X kws t ∧ SndA X.K E t f
theorem ks_nil : PKs X E [] aNil := ⟨_, pk_nil, fun G H σ ρ r Q hw => hw [] G H (.refl r) .nil⟩
theorem ks_cons {f : S → R (D × S)} {g : S → R (List D × S)} {kws : List Keyword} {nm : Option Str} {kpos : Pos} (h1 : PV X E e f) (h2 : PKs X E kws g) : PKs X E (⟨nm, e, kpos⟩ :: kws) (aCons f g) := by
  obtain ⟨t, pe, s⟩ := h1.ex
  obtain ⟨t2, pa, s2⟩ := h2.ex
  refine ⟨_, pk_cons pe pa, fun G H σ ρ r Q hw => s G H σ ρ r _ (hw.bind.mono (fun z _ q v G' H' o h => ?_) fun _ _ q => q)⟩
  refine s2 G' H' σ z.2 o.rel _ (q.bind.mono (fun y _ q2 vs G2 H2 o2 h2 => ?_) fun _ _ q2 => q2.step o)
  exact q2 (v :: vs) G2 H2 (o.trans o2) (.cons (Rep.mono o2.stp.gg _ h) h2)
end
end BR
set_option Elab.async false
set_option linter.all false
set_option maxRecDepth 100000
set_option maxHeartbeats 4000000
namespace BR
open PySem L2

/-! ## walks over dicts -/
def kD : Key → D
  | .inl i => .int i
  | .inr x => .str x
theorem kD_rep {K : PySem.W.Frag} {G : Hp} : ∀ k : Key, Rep K G (kD k) (kV k)
  | .inl i => rep_int
  | .inr x => rep_str
def itemsD (ks : List Key) (ds : List D) : List D := List.zipWith (fun k d => D.tup [kD k, d]) ks ds
def keysD (ks : List Key) : List D := ks.map kD
section
variable {K : PySem.W.Frag} {G H : Hp} {a : Addr} {o : Obj} {kvs : List (Key × V)} {ds : List D}
theorem wlk_keysD (hG : G a ≠ none) (hH : H a = some (.frz o (.dK kvs))) : Wlk K G H (keysD (kvs.map (·.1))) (Itk a o kvs) := by
  refine ⟨_, _, by unfold keysD; rw [List.length_map, List.length_map]; exact walk_keys, fun H1 k => k a _ hG hH, fun i H x H' hi y G1 sg sb => ?_⟩
  obtain ⟨rfl, k, v, e, rfl⟩ := y
  exact ⟨kD k, by simp [keysD, e], G1, .inl ⟨rfl, rfl⟩, kD_rep k⟩
theorem zipWith_get {α β γ : Type} (f : α → β → γ) : ∀ {xs : List α} {ys : List β} {i : Nat} {x : α} {y : β}, xs[i]? = some x → ys[i]? = some y → (List.zipWith f xs ys)[i]? = some (f x y)
  | [], _, _, _, _, h, _ => by simp at h
  | _ :: _, [], _, _, _, _, h => by simp at h
  | a :: xs, b :: ys, 0, x, y, h1, h2 => by simp at h1 h2; subst h1; subst h2; rfl
  | a :: xs, b :: ys, i + 1, x, y, h1, h2 => by simp at h1 h2; simpa using zipWith_get f h1 h2
theorem wlk_itemsD (hG : G a ≠ none) (hH : H a = some (.frz o (.dK kvs))) (hr : RepL K G ds (kvs.map (·.2))) : Wlk K G H (itemsD (kvs.map (·.1)) ds) (Iti a o kvs) := by
  have hl : (itemsD (kvs.map (·.1)) ds).length = kvs.length := by
    unfold itemsD
    rw [List.length_zipWith, hr.length, List.length_map, List.length_map, Nat.min_self]
  refine ⟨_, _, by rw [hl]; exact walk_items, fun H1 k => k a _ hG hH, fun i H x H' hi y G1 sg sb => ?_⟩
  obtain ⟨T, x1, y1, rfl, hT, rfl, e1, e2⟩ := y
  rw [hl] at hi
  have ek : kvs[i]? = some kvs[i] := List.getElem?_eq_getElem hi
  replace e1 : kvs[i]?.map (fun kv => kV kv.1) = some x1 := e1
  replace e2 : kvs[i]?.map Prod.snd = some y1 := e2
  rw [ek] at e1 e2
  cases e1; cases e2
  obtain ⟨d, ed, rd⟩ := hr.getV (i := i) (v := kvs[i].2) (by rw [List.getElem?_map, ek]; rfl)
  refine ⟨.tup [kD kvs[i].1, d], ?_, upd G1 T (.tup [kV kvs[i].1, kvs[i].2]), .inr ⟨T, _, hT, rfl, rfl⟩, ?_⟩
  · exact zipWith_get _ (by rw [List.getElem?_map, ek]; rfl) ed
  · have hs : Same G1 (upd G1 T (.tup [kV kvs[i].1, kvs[i].2])) := same_new (sb.none hT)
    unfold Rep
    exact ⟨T, _, rfl, .inl (.inl upd_same), .cons (kD_rep _) (.cons (Rep.mono (sg.trans hs) _ rd) .nil)⟩
/-! ### locking -/
theorem ps_or {X : Cx} {st : Stmt} {t u : TS} (h : PS X st t) (h' : PS X st u) : PS X st (fun D σ H => t D σ H ∨ u D σ H) := ⟨fun pins s σ H D I hw => hw.elim (h.run pins s σ H D I) (h'.run pins s σ H D I)⟩
theorem pe_or {X : Cx} {e : Expr} {t u : TE} (h : PE X e t) (h' : PE X e u) : PE X e (fun σ H Q => t σ H Q ∨ u σ H Q) := ⟨fun pins s σ H Q I hw => hw.elim (h.run pins s σ H Q I) (h'.run pins s σ H Q I)⟩
variable {σ σ' : St} {ρ ρ' : S} {G' H' : Hp} {od : Obj}
theorem rel_lock (r : Rel K G H σ ρ) (hG : G a = some (.dK kvs)) : Rel K G (upd H a (.frz od (.dK kvs))) σ ρ := by
  have ne : ∀ b, G b = none → b ≠ a := fun b e z => by rw [z, hG] at e; cases e
  refine ⟨r.len, fun b u e => ?_, fun i s e => ?_, r.dis⟩
  · by_cases hb : b = a
    · subst hb; rw [hG] at e; cases e; rw [upd_same]; exact .inr ⟨kvs, od, rfl, rfl⟩
    · rw [upd_ne hb]; exact r.sub b u e
  · have z := r.sl i s e
    cases s with
    | sh d => exact z
    | own d => obtain ⟨b, e1, h1, u, h2, h3⟩ := z; exact ⟨b, e1, h1, u, by rw [upd_ne (ne b h1)]; exact h2, h3⟩
    | io d => obtain ⟨b, e1, h1, u, h2, h3⟩ := z; exact ⟨b, e1, h1, u, by rw [upd_ne (ne b h1)]; exact h2, h3⟩
theorem rel_unlock (r : Rel K G' H' σ ρ) (hG : G' a = some (.dK kvs)) : Rel K G' (upd H' a (.dK kvs)) σ ρ := by
  have ne : ∀ b, G' b = none → b ≠ a := fun b e z => by rw [z, hG] at e; cases e
  refine ⟨r.len, fun b u e => ?_, fun i s e => ?_, r.dis⟩
  · by_cases hb : b = a
    · subst hb; rw [hG] at e; cases e; rw [upd_same]; exact .inl rfl
    · rw [upd_ne hb]; exact r.sub b u e
  · have z := r.sl i s e
    cases s with
    | sh d => exact z
    | own d => obtain ⟨b, e1, h1, u, h2, h3⟩ := z; exact ⟨b, e1, h1, u, by rw [upd_ne (ne b h1)]; exact h2, h3⟩
    | io d => obtain ⟨b, e1, h1, u, h2, h3⟩ := z; exact ⟨b, e1, h1, u, by rw [upd_ne (ne b h1)]; exact h2, h3⟩
theorem stp_unlock {A : Addr → Prop} (st : Stp A G (upd H a (.frz od (.dK kvs))) G' H') (hH : H a = some (.dK kvs)) (nA : ¬ A a) : Stp A G H G' (upd H' a (.dK kvs)) where
  gg := st.gg
  keep := fun b u e n => by
    by_cases hb : b = a
    · subst hb; rw [upd_same, ← e, hH]
    · rw [upd_ne hb]; exact st.keep b u (by rw [upd_ne hb]; exact e) n
  thr := fun b e => by
    by_cases hb : b = a
    · subst hb; rw [upd_same] at e; cases e
    · rw [upd_ne hb] at e
      have := st.thr b e
      rw [upd_ne hb] at this; exact this
  fr := fun b e n g => st.fr b (by
    by_cases hb : b = a
    · subst hb; rw [upd_same]; simp
    · rw [upd_ne hb]; exact e) n g
theorem outS_unlock (r : Rel K G H σ ρ) (o : OutS K G (upd H a (.frz od (.dK kvs))) σ ρ G' H' σ' ρ') (hG : G a = some (.dK kvs)) (hH : H a = some (.dK kvs)) : H' a = some (.frz od (.dK kvs)) ∧ OutS K G H σ ρ G' (upd H' a (.dK kvs)) σ' ρ' := by
  have nA : ¬ ads σ ρ a := fun z => by have := (r.adsH z).2; rw [hG] at this; cases this
  refine ⟨o.stp.keep a _ upd_same nA, rel_unlock o.rel (o.stp.gg _ _ hG), stp_unlock o.stp hH nA, fun b z hb => ?_, o.io⟩
  refine o.nw b z ?_
  by_cases hb' : b = a
  · subst hb'; rw [upd_same]; simp
  · rw [upd_ne hb']; exact hb
theorem out_unlock (r : Rel K G H σ ρ) (o : Out K G (upd H a (.frz od (.dK kvs))) σ ρ G' H' ρ') (hG : G a = some (.dK kvs)) (hH : H a = some (.dK kvs)) : H' a = some (.frz od (.dK kvs)) ∧ Out K G H σ ρ G' (upd H' a (.dK kvs)) ρ' := by
  have nA : ¬ ads σ ρ a := fun z => by have := (r.adsH z).2; rw [hG] at this; cases this
  exact ⟨o.stp.keep a _ upd_same nA, rel_unlock o.rel (o.stp.gg _ _ hG), stp_unlock o.stp hH nA, o.ker⟩
theorem hold_unlock {h : Hd} {v : V} (hh : Hold K (upd H a (.frz od (.dK kvs))) G' H' σ' ρ' h v) (hG : G' a ≠ none) : Hold K H G' (upd H' a (.dK kvs)) σ' ρ' h v := by
  cases h with
  | val d => exact hh
  | slot i => exact hh
  | tmp d =>
    obtain ⟨p, rfl, ⟨h1, u, h2, h3⟩, h4, h5⟩ := hh
    have hne : p ≠ a := fun z => hG (by rw [← z]; exact h1)
    rw [upd_ne hne] at h4
    exact ⟨p, rfl, ⟨h1, u, by rw [upd_ne hne]; exact h2, h3⟩, h4, h5⟩
theorem flP_lock {G0 H0 : Hp} {σ0 : St} {ρ0 : S} {Dn : Ends} {z : Fl × S} (o0 : Out K G0 H0 σ ρ0 G H ρ) (hG : G a = some (.dK kvs)) (hH : H a = some (.dK kvs)) (h : FlP K G0 H0 σ ρ0 Dn z) :
    FlP K G (upd H a (.frz od (.dK kvs))) σ ρ ⟨fun σ' H' => H' a = some (.frz od (.dK kvs)) ∧ Dn.nx σ' (upd H' a (.dK kvs)), fun v H' => H' a = some (.frz od (.dK kvs)) ∧ Dn.rt v (upd H' a (.dK kvs)), fun σ' H' => H' a = some (.frz od (.dK kvs)) ∧ Dn.bk σ' (upd H' a (.dK kvs)), fun σ' H' => H' a = some (.frz od (.dK kvs)) ∧ Dn.ct σ' (upd H' a (.dK kvs))⟩ z := by
  obtain ⟨fl, ρ'⟩ := z
  cases fl with
  | nx => exact fun σ' G' H' o => let ⟨e, o'⟩ := outS_unlock o0.rel o hG hH; ⟨e, h σ' G' _ (o0.s.trans o')⟩
  | bk => exact fun σ' G' H' o => let ⟨e, o'⟩ := outS_unlock o0.rel o hG hH; ⟨e, h σ' G' _ (o0.s.trans o')⟩
  | ct => exact fun σ' G' H' o => let ⟨e, o'⟩ := outS_unlock o0.rel o hG hH; ⟨e, h σ' G' _ (o0.s.trans o')⟩
  | rt hd => exact fun v σ' G' H' o hh => let ⟨e, o'⟩ := outS_unlock o0.rel o hG hH; ⟨e, h v σ' G' _ (o0.s.trans o') ((hold_unlock hh (by rw [o.stp.gg _ _ hG]; simp)).back o0.stp.thr)⟩
end
/-- a dict in a slot, shared -/
@[simp] def dicAt (i : Nat) (ρ : S) : Option ((List Key × List D) × S) := match share (.slot i) ρ with
  | some (.dic ks ds, ρ') => some ((ks, ds), ρ')
  | _ => none
theorem dicAt_ok {K : PySem.W.Frag} {G H : Hp} {σ : St} {ρ : S} {i : Nat} {z : (List Key × List D) × S} (r : Rel K G H σ ρ) (e : dicAt i ρ = some z) : ∃ G1 a kvs, Out K G H σ ρ G1 H z.2 ∧ σ[i]? = some (some (.ref a)) ∧ kvs.map (·.1) = z.1.1 ∧ RepL K G1 z.1.2 (kvs.map (·.2)) ∧ ((G1 a = some (.dK kvs) ∧ H a = some (.dK kvs)) ∨ ∃ od, G1 a ≠ none ∧ H a = some (.frz od (.dK kvs))) := by
  unfold dicAt at e
  split at e
  · rename_i ks ds ρ' q
    cases e
    have hv : ∃ v, σ[i]? = some (some v) := by
      have q' : (match ρ[i]? with | some (some (.own d)) => some (d, ρ.set i (some (.sh d))) | some (some (.sh d)) => some (d, ρ) | _ => none) = some (D.dic ks ds, ρ') := q
      split at q'
      · rename_i d0 q0; obtain ⟨a, e1, _⟩ := r.sl i _ q0; exact ⟨_, e1⟩
      · rename_i d0 q0; obtain ⟨a, e1, _⟩ := r.sl i _ q0; exact ⟨_, e1⟩
      · cases q'
    obtain ⟨v, hv⟩ := hv
    obtain ⟨G1, o1, _, rp⟩ := share_ok (hd := .slot i) (Out.refl r) hv q
    unfold Rep at rp
    obtain ⟨a, kvs, rfl, h1, h2, h3⟩ := rp
    refine ⟨G1, a, kvs, o1, hv, h2, h3, ?_⟩
    rcases h1 with h1 | ⟨ob, h1⟩
    · rcases o1.rel.sub _ _ h1 with z | ⟨kv2, od, e1, z⟩
      · exact .inl ⟨h1, z⟩
      · cases e1; exact .inr ⟨od, by rw [h1]; simp, z⟩
    · rcases o1.rel.sub _ _ h1 with z | ⟨kv2, od, e1, z⟩
      · exact .inr ⟨ob, by rw [h1]; simp, z⟩
      · cases e1
  · cases e
section
variable {X : Cx} {E : XK} {tg : Expr} {body : List Stmt} {g : D → S → Option S} {b : SF} {tv : List Nat} {i : Nat} {x : Str} {pos pos' apos cpos tpos : Pos} {elts : List Expr} {kk : Nat}
/-- for .. in x / x.items(), x a dict: no exception leaves -/
@[simp] def sForD (sel : List Key → List D → List D) (i : Nat) (g : D → S → Option S) (b : SF) : SF := fun ρ => ofO (dicAt i ρ) >>= fun z => noX (sForL g b (sel z.1.1 z.1.2) z.2)
theorem forD_core {gt : TG} {tb : TS} {wi : TI} {sel : List Key → List D → List D} (J : Addr → Obj → List (Key × V) → It)
    (hwi : ∀ (σ : St) (H : Hp) (Rr : It → Hp → Prop) (a : Addr) (od : Obj) (kvs : List (Key × V)), σ[i]? = some (some (.ref a)) → H a = some (.frz od (.dK kvs)) → Rr (J a od kvs) H → wi σ H Rr)
    (hJ : ∀ {G H : Hp} {a : Addr} {o : Obj} {kvs : List (Key × V)} {ds : List D}, G a ≠ none → H a = some (.frz o (.dK kvs)) → RepL X.K G ds (kvs.map (·.2)) → Wlk X.K G H (sel (kvs.map (·.1)) ds) (J a o kvs))
    (sg : SndG X.K tv gt g) (sb : SndS X.K E tb b) : SndS X.K E (fun D σ H => tLock (tFor wi gt tb) D σ H ∨ tFor wi gt tb D σ H) (sForD sel i g b) := by
  intro G H σ ρ r Dn hw
  obtain ⟨z, e1, hw⟩ := hw.opt
  obtain ⟨G1, a, kvs, o1, hv, hks, hds, cs⟩ := dicAt_ok r e1
  rw [← hks] at hw
  have w := hw.noX
  rcases cs with ⟨hG, hH⟩ | ⟨od, hG, hH⟩
  · refine .inl ⟨a, .dK kvs, hH, True.intro, fun od => hwi σ _ _ a od kvs hv upd_same ?_⟩
    have rl := rel_lock (od := od) o1.rel hG
    refine for_sound sg sb (Out.refl rl) (hJ (by rw [hG]; simp) upd_same hds) ?_
    exact w.mono (fun y _ q => flP_lock (σ0 := σ) o1 hG hH q) fun _ _ q => q.elim
  · refine .inr (hwi σ H _ a od kvs hv hH ?_)
    exact for_sound sg sb o1 (hJ hG hH hds) (w.mono (fun y _ q => q) fun _ _ q => q.elim)
theorem st_forK (hp : PassesOwn (model X.prog X.w) X.A X.env X.xe) (hc : X.calm = true) (hN : X.N[i]? = some x) (hv : Vis X.env.scope x) (hg : PTg X tv tg g) (hb : PSq X E body b) (hd : (x == ("__debug__" : Str)) = false := by decide) (hcd : (x == ("__classdict__" : Str)) = false := by decide)
    (hs : ∀ y, foldedSetIterable (.Name x pos') X.env y = pure y := by intro _; rfl) : PSt X E (.For tg (.Name x pos') body [] pos) (sForD (fun ks _ => keysD ks) i g b) := by
  obtain ⟨gt, pg, sg⟩ := hg.ex
  obtain ⟨tb, pb, sb⟩ := hb.ex
  have ps := ps_for (pos := pos) hp hc (pi_keys (tg := tg) (pe_var (i := i) (pos := pos') hN hv hd hcd)) pg pb hs
  exact ⟨_, ps_or (ps_lock ps) ps, forD_core (fun a o kvs => Itk a o kvs) (fun σ H Rr a od kvs h1 h2 h3 => ⟨_, h1, a, od, rfl, .inl ⟨kvs, h2, h3⟩⟩) (fun h1 h2 _ => wlk_keysD h1 h2) sg sb⟩
theorem st_forI (hp : PassesOwn (model X.prog X.w) X.A X.env X.xe) (hc : X.calm = true) (hN : X.N[i]? = some x) (hv : Vis X.env.scope x) (hg : PTg X tv (.Tuple elts kk tpos) g) (hb : PSq X E body b) (hd : (x == ("__debug__" : Str)) = false := by decide) (hcd : (x == ("__classdict__" : Str)) = false := by decide)
    (hbase : attributeBase (.Name x pos') "items" X.env (eval (.Name x pos') X.env) = eval (.Name x pos') X.env := by rfl) (hline : (apos.endLine == cpos.line) = true := by rfl)
    (hs : ∀ y, foldedSetIterable (.Call (.Attribute (.Name x pos') "items" apos) [] [] cpos) X.env y = pure y := by intro _; rfl) : PSt X E (.For (.Tuple elts kk tpos) (.Call (.Attribute (.Name x pos') "items" apos) [] [] cpos) body [] pos) (sForD itemsD i g b) := by
  obtain ⟨gt, pg, sg⟩ := hg.ex
  obtain ⟨tb, pb, sb⟩ := hb.ex
  have ps := ps_for (pos := pos) hp hc (pi_items (elts := elts) (kk := kk) (tpos := tpos) (pe_var (i := i) (pos := pos') hN hv hd hcd) hbase hline) pg pb hs
  exact ⟨_, ps_or (ps_lock ps) ps, forD_core (fun a o kvs => Iti a o kvs) (fun σ H Rr a od kvs h1 h2 h3 => ⟨_, h1, a, od, kvs, rfl, h2, h3⟩) (fun h1 h2 h3 => wlk_itemsD h1 h2 h3) sg sb⟩
/-! ### a list comprehension over the keys -/
variable {elt c : Expr} {scope : Scope} {own : List (Str × Nat)} {p : S → R (Bool × S)} {fe : EF}
@[simp] def eLcD (vs : List Nat) (sel : List Key → List D → List D) (i : Nat) (g : D → S → Option S) (p : S → R (Bool × S)) (fe : EF) : EF := fun ρ => ofO (dicAt i ρ) >>= fun z => noX (if calmSl z.2 vs = true then lcL vs g p fe (sel z.1.1 z.1.2) [] (wipeS z.2 vs) >>= fun y => .ok (.tmp (.lst y.1), rst z.2 y.2 vs) else .no)
theorem lcD_core {gt : TG} {tt : TT} {wi : TI} {vs : List Nat} {sel : List Key → List D → List D} (J : Addr → Obj → List (Key × V) → It)
    (hwi : ∀ (σ : St) (H : Hp) (Rr : It → Hp → Prop) (a : Addr) (od : Obj) (kvs : List (Key × V)), σ[i]? = some (some (.ref a)) → H a = some (.frz od (.dK kvs)) → Rr (J a od kvs) H → wi σ H Rr)
    (hJ : ∀ {G H : Hp} {a : Addr} {o : Obj} {kvs : List (Key × V)} {ds : List D}, G a ≠ none → H a = some (.frz o (.dK kvs)) → RepL X.K G ds (kvs.map (·.2)) → Wlk X.K G H (sel (kvs.map (·.1)) ds) (J a o kvs))
    (hv : ∀ i ∈ tv, i ∈ vs) (mu : ∀ d ρ ρ', g d ρ = some ρ' → ∀ j, isMut ρ' j → isMut ρ j) (st : SndT X.K E0 tt p) : Snd X.K E (fun σ H Q => tLockE (tLc wi (gF X.K tv g) tt (tF X.K E0 fe) vs) σ H Q ∨ tLc wi (gF X.K tv g) tt (tF X.K E0 fe) vs σ H Q) (eLcD vs sel i g p fe) := by
  intro G H σ ρ r Q hw
  obtain ⟨z, e1, hw⟩ := hw.opt
  obtain ⟨G1, a, kvs, o1, hvv, hks, hds, cs⟩ := dicAt_ok r e1
  rw [← hks] at hw
  have w := hw.noX
  rcases cs with ⟨hG, hH⟩ | ⟨od, hG, hH⟩
  · refine .inl ⟨a, .dK kvs, hH, True.intro, fun od => hwi σ _ _ a od kvs hvv upd_same ?_⟩
    have rl := rel_lock (od := od) o1.rel hG
    have key : tLc (fun _ _ Rr => Rr (J a od kvs) (upd H a (.frz od (.dK kvs)))) (gF X.K tv g) tt (tF X.K E0 fe) vs σ (upd H a (.frz od (.dK kvs))) (fun v H' => H' a = some (.frz od (.dK kvs)) ∧ Q v (upd H' a (.dK kvs))) := by
      refine lc_sound (E := E) (z := (sel (kvs.map (·.1)) z.1.2, z.2)) hv mu st (Out.refl rl) (hJ (by rw [hG]; simp) upd_same hds) ?_
      refine w.mono (fun y _ q v G' H' o hh => ?_) fun _ _ q => q.elim
      obtain ⟨e, o'⟩ := out_unlock o1.rel o hG hH
      exact ⟨e, q v G' _ (o1.trans o') ((hold_unlock hh (by rw [o.stp.gg _ _ hG]; simp)).back o1.stp.thr)⟩
    exact key
  · refine .inr (hwi σ H _ a od kvs hvv hH ?_)
    have key : tLc (fun _ _ Rr => Rr (J a od kvs) H) (gF X.K tv g) tt (tF X.K E0 fe) vs σ H Q := lc_sound (E := E) (z := (sel (kvs.map (·.1)) z.1.2, z.2)) hv mu st o1 (hJ hG hH hds) (w.mono (fun y _ q => q) fun _ _ q => q.elim)
    exact key
theorem pr_lcK {vs : List Nat} {hs0 : X.calm = true} (hN : X.N.Nodup) (hNi : X.N[i]? = some x) (hvi : Vis X.env.scope x) (ok : BlkOk X.N X.env.scope scope own) (hv : ∀ i ∈ tv, i ∈ vs)
    (hg : ∀ (s : Shared) (H : Hp) (C : Addr) (cl : List (Str × Addr)) (fp : List Addr), PTg (X.blk s H scope (compEnvC scope cl C X.env) fp) tv tg g)
    (ht : ∀ (s : Shared) (H : Hp) (C : Addr) (cl : List (Str × Addr)) (fp : List Addr), PB (X.blk s H scope (compEnvC scope cl C X.env) fp) E0 c p)
    (he : ∀ (s : Shared) (H : Hp) (C : Addr) (cl : List (Str × Addr)) (fp : List Addr), PR (X.blk s H scope (compEnvC scope cl C X.env) fp) E0 elt fe) (hd : (x == ("__debug__" : Str)) = false := by decide) (hcd : (x == ("__classdict__" : Str)) = false := by decide)
    (hvs : own.map (·.2) = vs := by rfl) (hs : ∀ y, foldedSetIterable (.Name x pos') X.env y = pure y := by intro _; rfl) :
    PR X E (.ListComp elt [⟨tg, .Name x pos', [c], 0⟩] scope pos) (eLcD vs (fun ks _ => keysD ks) i g p fe) := by
  subst hvs
  have pe := pe_lc (pos := pos) (elt := elt) (ifs := [c]) (g := gF X.K tv g) (tt := tFB X.K E0 p) (te := tF X.K E0 fe) hs0 hN (pi_keys (tg := tg) (pe_var (i := i) (pos := pos') hNi hvi hd hcd)) ok (fun s H C cl fp => (hg s H C cl fp).pg) (fun s H C cl fp => pts_one (ht s H C cl fp).pt) (fun s H C cl fp => (he s H C cl fp).pe) hs
  exact ⟨_, pe_or (pe_lock pe) pe, lcD_core (gt := gF X.K tv g) (fun a o kvs => Itk a o kvs) (fun σ H Rr a od kvs h1 h2 h3 => ⟨_, h1, a, od, rfl, .inl ⟨kvs, h2, h3⟩⟩) (fun h1 h2 _ => wlk_keysD h1 h2) hv (hg X.s_0 X.H_0 0 [] []).mu (tt := tFB X.K E0 p) fun G H σ ρ r Q w => ⟨G, ρ, r, w⟩⟩
end
end BR
set_option Elab.async false
set_option linter.all false
set_option maxRecDepth 100000
set_option maxHeartbeats 4000000
namespace L2
open PySem PySem.Spec PyProof.Rows
theorem preSum_list : ∀ (is : List Int) (n : Nat), n ≤ is.length → preSum (fun i => is.getD i 0) n = (is.take n).sum := by
  intro is n
  induction n with
  | zero => intro _; simp [preSum]
  | succ n ih =>
    intro h
    have hn : n < is.length := h
    rw [preSum, ih (by omega), List.take_add_one, List.getElem?_eq_getElem hn, List.sum_append, List.getD_eq_getElem?_getD, List.getElem?_eq_getElem hn]
    simp
section
variable {X : Cx} {o : Expr} {p pos apos mpos : Pos} {td : TE}
/-- sum(o.values()), a dict with int values -/
def tSumVals (td : TE) : TE := fun σ H Q => td σ H fun x H1 => ∃ (a : Addr) (kvs : List (Key × V)) (is : List Int), x = V.ref a ∧ Rd H1 a (.dK kvs) ∧ kvs.map (·.2) = is.map V.int ∧ Q (.int is.sum) H1
theorem pe_sumVals (hc : X.calm = true) (hg : Gl X "sum") (hm : X.mg "sum" = none) (hd : PE X o td) (hbase : attributeBase o "values" X.env (eval o X.env) = eval o X.env := by rfl) (hline : (apos.endLine == mpos.line) = true := by rfl)
    (hse : starEach [Expr.Call (.Attribute o "values" apos) [] [] mpos] X.env = [(false, eval (Expr.Call (.Attribute o "values" apos) [] [] mpos) X.env)] := by rfl) :
    PE X (.Call (.Name "sum" p) [.Call (.Attribute o "values" apos) [] [] mpos] [] pos) (tSumVals td) := by
  refine ⟨fun pins s σ H Q I h => ?_⟩
  refine wpAny_Call_Name_kw (ld_blt I hg hm (u := .builtin "sum") (by first | rfl | decide +kernel) ?_ (by first | decide +kernel | decide) (by first | decide +kernel | decide))
  rw [hse]
  refine PySem.callWith_builtin1 (wpAny_Call_method0_late hbase hline (thn (hd.run pins s σ H _ I h) fun v s1 ⟨x, H1, I1, r1, a, kvs, is, ex, ha, hv, q⟩ => ?_))
  subst ex
  obtain rfl : v = Value.ref a := r1
  obtain ⟨_, hsys, vs, rel, dof⟩ := dk_rd I1.hok ha
  obtain ⟨ep, dat⟩ := dof.dictAt
  have dat' := dat
  obtain ⟨ob, es, ho, ex, hdat, hko, hpr, hnd⟩ := dat'
  refine ⟨"dict", "dict.values", F.plainAttrs_dict, F.slot_dict_values, F.type_dict_values, ⟨ob, ho, ex.1⟩, fun b e => ?_, Calls.callWith_builtin rfl (PySem.evalArgs_none ?_)⟩
  · cases e
    exact ⟨ob, ho, ex.2.1⟩
  refine call_meetsIn F.slot_dict_values ⟨ob, ho, ex.1⟩ F.entry_dict_values (F.args_dict_values_1 _) (meets_dict_values (mixKind X.prog X.w) a hsys) ⟨⟨vs, dof⟩, ?_⟩
  have k1 : ∀ b u, s1.heap.get? b = some u → (s1.heap.push { cls := .type "dict_values", data := .fields #[.ref a] }).get? b = some u := fun b u e => Heap.get?_push_of_some _ e
  have dat1 : (s1.heap.push { cls := .type "dict_values", data := .fields #[.ref a] }).DictAt (mixKind X.prog X.w) a vs ep := dat.keep k1
  have hlv : vs.length = is.length := by
    have e1 := congrArg List.length hv
    rw [List.length_map, List.length_map] at e1
    rw [← e1]
    exact (KV.length rel).symm
  have hval : ∀ (i : Nat) (v : Value), (∃ k, vs[i]? = some (k, v)) → ∃ t, v = Value.int (is.getD i 0) t := fun i v ⟨k, hk⟩ => by
    obtain ⟨x, h1, h2⟩ := KV.at' rel hk
    have e1 : (kvs.map (·.2))[i]? = some x := by rw [List.getElem?_map, h1] <;> rfl
    rw [hv, List.getElem?_map] at e1
    obtain ⟨j, hj, e2⟩ := Option.map_eq_some_iff.mp e1
    subst e2
    obtain ⟨t, e3⟩ := h2
    refine ⟨t, ?_⟩
    rw [e3, List.getD_eq_getElem?_getD, hj] <;> rfl
  refine call_sum_walkAnyS (wpAny_pyIter_values (v := s1.heap.objs.size) (d := a) ⟨_, Heap.get?_push_size _ rfl, rfl, rfl⟩ dat1 ?_)
  have hlt : a < s1.heap.objs.size := Heap.lt_size ho
  have hsz : (s1.heap.push { cls := .type "dict_values", data := .fields #[.ref a] }).objs.size = s1.heap.objs.size + 1 := Heap.size_push _ _
  refine ⟨_, _, _, _, _, _, _, fun i => is.getD i 0, rfl, (Walks.dictValues (knd := mixKind X.prog X.w) (A := X.A.in1) (I.ok.hd hc) (s1.heap.push { cls := .type "dict_values", data := .fields #[.ref a] }).objs.size a (by rw [hsz]; exact Nat.ne_of_lt (Nat.lt_succ_of_lt hlt)) vs ep).toS,
    ⟨⟨_, Heap.get?_push_size _ rfl, rfl, rfl⟩, dat1.keep fun b u e => Heap.get?_push_of_some _ e⟩, fun b hb => ?_, hval, fun s' t' hm => ?_⟩
  · show b < ((s1.heap.push _).push _).objs.size
    rw [Heap.size_push, Heap.size_push]
    rw [hsz] at hb
    rcases List.mem_cons.mp hb with e | hb
    · rw [e]
      exact Nat.lt_succ_self _
    · have e : b = a := List.mem_singleton.mp hb
      rw [e]
      exact Nat.lt_succ_of_lt (Nat.lt_succ_of_lt hlt)
  · rw [Moved.eq_with hm]
    have es : preSum (fun i => is.getD i 0) vs.length = is.sum := by
      rw [hlv, preSum_list is is.length (Nat.le_refl _), List.take_length]
    rw [es]
    refine ⟨.int _, H1, I1.kept (t' := s'.toks) fun b u e => hm.heap b u (fun hmem => ?_) (Heap.get?_push_of_some _ (k1 b u e)), ⟨t', rfl⟩, q⟩
    have e1 : b = (s1.heap.push { cls := .type "dict_values", data := .fields #[.ref a] }).objs.size := List.mem_singleton.mp hmem
    have e2 := Heap.lt_size e
    rw [hsz] at e1
    rw [e1] at e2
    exact absurd e2 (Nat.not_lt.mpr (Nat.le_succ _))
end
end L2
namespace BR
open PySem L2
section
variable {X : Cx} {E : XK} {e o k : Expr} {f fo fk : EF} {pos pos' spos apos cpos mpos p : Pos} {x m : Str} {es : List Expr}
@[simp] def eSumV (fo : EF) : EF := fun ρ => fo ρ >>= fun z => ofO (look z.1 z.2) >>= fun d => ofO (asDic d) >>= fun c => ofO (intsD c.2) >>= fun is => .ok (.val (.int is.sum), z.2)
theorem pr_sumVals (hc : X.calm = true) (hg : Gl X "sum") (hm : X.mg "sum" = none) (h : PR X E o fo) (hbase : attributeBase o "values" X.env (eval o X.env) = eval o X.env := by rfl) (hline : (apos.endLine == mpos.line) = true := by rfl)
    (hse : starEach [Expr.Call (.Attribute o "values" apos) [] [] mpos] X.env = [(false, eval (Expr.Call (.Attribute o "values" apos) [] [] mpos) X.env)] := by rfl) :
    PR X E (.Call (.Name "sum" p) [.Call (.Attribute o "values" apos) [] [] mpos] [] pos) (eSumV fo) := by
  obtain ⟨t, pe, s⟩ := h.ex
  refine ⟨_, pe_sumVals hc hg hm pe hbase hline hse, fun G H σ ρ r Q hw => s G H σ ρ r _ (hw.bind.mono (fun z _ q v G1 H1 o1 h1 => ?_) fun _ _ q => q)⟩
  obtain ⟨d, e1, q1⟩ := q.opt
  obtain ⟨c, e2, q2⟩ := q1.opt
  obtain ⟨is, e3, q3⟩ := q2.opt
  have rp := hold_look o1.rel h1 e1
  rw [asDic_eq e2] at rp
  obtain ⟨a, kvs, rfl, rd, hks, hds⟩ := rp.dic o1.rel.sub
  exact ⟨a, kvs, is, rfl, rd, intsD_rep hds e3, q3 _ G1 H1 o1 (Hold.val rep_int)⟩
/-! ### text methods -/
def strsD : List D → Option (List Str)
  | [] => some []
  | .str b :: ds => (strsD ds).map (b :: ·)
  | _ => none
theorem strsD_rep {K : PySem.W.Frag} {G : Hp} : ∀ {ds : List D} {vs : List V} {bs : List Str}, RepL K G ds vs → strsD ds = some bs → vs = bs.map V.str
  | [], vs, bs, h, e => by cases e; exact repL_nil.mp h
  | d :: ds, vs, bs, h, e => by
    obtain ⟨v, vs', rfl, h1, h2⟩ := repL_cons.mp h
    cases d with
    | str b =>
      have e' : (strsD ds).map (b :: ·) = some bs := e
      cases q : strsD ds with
      | none => rw [q] at e'; cases e'
      | some bs' =>
        rw [q] at e'; cases e'
        unfold Rep at h1
        rw [h1, strsD_rep h2 q]; rfl
    | _ => cases e
/-- a method of a text with one argument, by values -/
def MtD (K : PySem.W.Frag) (r : V → List V → Hp → VK → Prop) (g : Str → D → Option Rz) : Prop := ∀ (G H : Hp) (a : Str) (y : D) (w : V), Sub G H → RepP K G H y w → ∀ (z : Rz) (Q : VK), g a y = some z → ResP K G H Q z → r (.str a) [w] H Q
@[simp] def asStr : Hd → Option Str
  | .val (.str x) => some x
  | _ => none
theorem asStr_eq {h : Hd} {i : Str} (e : asStr h = some i) : h = .val (.str i) := by
  cases h with
  | val d => cases d <;> cases e; rfl
  | _ => cases e
@[simp] def eM1 (g : Str → D → Option Rz) (fo f : EF) : EF := fun ρ => fo ρ >>= fun z => ofO (asStr z.1) >>= fun a => f z.2 >>= fun y => ofO (look y.1 y.2) >>= fun d => ofO (g a d) >>= fun r => fin r y.2
theorem pr_m1 {id : String} {r : V → List V → Hp → VK → Prop} {g : Str → D → Option Rz} (slot : Slot "str" m id) (ty : typeOf (.builtin id) = pure (.type "method_descriptor")) (rule : MtR X id r) (hg : MtD X.K r g) (ho : PR X E o fo) (h : PR X E e f)
    (hs : starEach [e] X.env = [(false, eval e X.env)] := by rfl) (hbase : attributeBase o m X.env (eval o X.env) = eval o X.env := by rfl) (hline : (apos.endLine == pos.line) = true := by rfl) : PR X E (.Call (.Attribute o m apos) [e] [] pos) (eM1 g fo f) := by
  obtain ⟨to, po, so⟩ := ho.ex
  obtain ⟨t, pe, s⟩ := h.ex
  refine ⟨_, pe_m1 slot ty rule po pe hs hbase hline, fun G H σ ρ r Q hw => so G H σ ρ r _ (hw.bind.mono (fun z _ q v G1 H1 o1 h1 => ?_) fun _ _ q => q)⟩
  obtain ⟨a, ea, q1⟩ := q.opt
  rw [asStr_eq ea] at h1
  have h1' : Rep X.K G1 (.str a) v := h1
  unfold Rep at h1'
  subst h1'
  refine ⟨⟨a, rfl⟩, s G1 H1 σ z.2 o1.rel _ (q1.bind.mono (fun y _ q2 w G2 H2 o2 h2 => ?_) fun _ _ q2 => q2.step o1)⟩
  obtain ⟨d, ed, q3⟩ := q2.opt
  obtain ⟨rz, ez, q4⟩ := q3.opt
  exact hg G2 H2 a d w o2.rel.sub (hold_look o2.rel h2 ed) rz Q ez (fin_ok (o1.trans o2) q4)
def dJoin (a : Str) (d : D) : Option Rz := match d with
  | .lst ds => (strsD ds).bind fun ys => if (ys.map (·.length)).sum + ys.length * a.length ≤ 16777216 then some (.im (.str (Txt.join a ys))) else none
  | _ => none
theorem d_join {K : PySem.W.Frag} : MtD K (fun x xs H Q => ∃ a p, ∃ ys : List Str, x = .str a ∧ xs = [.ref p] ∧ (SqL K H p (ys.map V.str) ∨ SqT K H p (ys.map V.str)) ∧ (ys.map (·.length)).sum + ys.length * a.length ≤ 16777216 ∧ Q (.str (Txt.join a ys)) H) dJoin := by
  intro G H a y w s ry z Q e q
  cases y with
  | lst ds =>
    have e' : ((strsD ds).bind fun ys => if (ys.map (·.length)).sum + ys.length * a.length ≤ 16777216 then some (Rz.im (.str (Txt.join a ys))) else none) = some z := e
    cases hs : strsD ds with
    | none => rw [hs] at e'; cases e'
    | some ys =>
      rw [hs] at e'
      replace e' : (if (ys.map (·.length)).sum + ys.length * a.length ≤ 16777216 then some (Rz.im (.str (Txt.join a ys))) else none) = some z := e'
      split at e'
      · rename_i hl
        cases e'
        obtain ⟨ad, vs, rfl, h1, h2⟩ := ry.lst s
        rw [strsD_rep h2 hs] at h1
        exact ⟨a, ad, ys, rfl, rfl, .inl (SqL.of h1), hl, q _ rep_str⟩
      · cases e'
  | _ => cases e
def dStarts (a : Str) (d : D) : Option Rz := match d with
  | .str b => some (.im (.bl (Txt.startswith a b)))
  | _ => none
theorem d_starts {K : PySem.W.Frag} : MtD K (fun x xs H Q => ∃ a b, x = .str a ∧ xs = [.str b] ∧ Q (.bl (Txt.startswith a b)) H) dStarts := by
  intro G H a y w s ry z Q e q
  cases y with
  | str b => cases e; have := ry.str; subst this; exact ⟨a, b, rfl, rfl, q _ rep_bl⟩
  | _ => cases e
theorem pr_join (ho : PR X E o fo) (h : PR X E e f) (hs : starEach [e] X.env = [(false, eval e X.env)] := by rfl) (hbase : attributeBase o "join" X.env (eval o X.env) = eval o X.env := by rfl) (hline : (apos.endLine == pos.line) = true := by rfl) :
    PR X E (.Call (.Attribute o "join" apos) [e] [] pos) (eM1 dJoin fo f) := pr_m1 F.slot_str_join F.type_str_join mt_join d_join ho h hs hbase hline
theorem pr_starts (ho : PR X E o fo) (h : PR X E e f) (hs : starEach [e] X.env = [(false, eval e X.env)] := by rfl) (hbase : attributeBase o "startswith" X.env (eval o X.env) = eval o X.env := by rfl) (hline : (apos.endLine == pos.line) = true := by rfl) :
    PR X E (.Call (.Attribute o "startswith" apos) [e] [] pos) (eM1 dStarts fo f) := pr_m1 F.slot_str_startswith F.type_str_startswith mt_startswith d_starts ho h hs hbase hline
/-! ### list.index, flat items -/
def ixF : List V → V → Option Nat
  | [], _ => none
  | z :: ys, y => if eqV z y = true then some 0 else (ixF ys y).map (· + 1)
theorem ixF_ok : ∀ {ys : List V} {y : V} {j : Nat}, ixF ys y = some j → ∃ z, ys[j]? = some z ∧ eqV z y = true ∧ ∀ (m : Nat) (z' : V), m < j → ys[m]? = some z' → eqV z' y = false
  | [], y, j, h => by cases h
  | z :: ys, y, j, h => by
    have h' : (if eqV z y = true then some 0 else (ixF ys y).map (· + 1)) = some j := h
    by_cases e : eqV z y = true
    · rw [if_pos e] at h'
      cases h'
      exact ⟨z, rfl, e, fun m z' hm => absurd hm (Nat.not_lt_zero m)⟩
    · rw [if_neg e] at h'
      cases q : ixF ys y with
      | none => rw [q] at h'; cases h'
      | some j' =>
        rw [q] at h'; cases h'
        obtain ⟨z1, h1, h2, h3⟩ := ixF_ok q
        refine ⟨z1, by simpa using h1, h2, fun m z' hm hz => ?_⟩
        cases m with
        | zero => simp at hz; subst hz; simpa using e
        | succ m => exact h3 m z' (Nat.lt_of_succ_lt_succ hm) (by simpa using hz)
def dIndex (d x : D) : Option Int := match d with
  | .lst ds => (flL ds).bind fun ys => (fl x).bind fun y => (ixF ys y).map fun (j : Nat) => (j : Int)
  | _ => none
@[simp] def eIndex (fo f : EF) : EF := fun ρ => fo ρ >>= fun z => ofO (look z.1 z.2) >>= fun d0 => ofO (asL d0) >>= fun _ => f z.2 >>= fun y => ofO (look z.1 y.2) >>= fun d => ofO (look y.1 y.2) >>= fun x => ofO (dIndex d x) >>= fun j => .ok (.val (.int j), y.2)
theorem pr_index (ho : PR X E o fo) (h : PR X E e f) (hbase : attributeBase o "index" X.env (eval o X.env) = eval o X.env := by rfl)
    (hfew : ((backTo cpos (starEach (e :: []) X.env)).all (fun x => !x.1) && (backToKw cpos (keywordEach [] X.env)).all (fun x => x.1.isSome)
      && decide ((e :: []).length + ([] : List Keyword).length + (if ([] : List Keyword).isEmpty then 0 else 1) < 30)) = true := by rfl) (hline : (apos.endLine == cpos.line) = true := by rfl) (hs : starEach (e :: []) X.env = (false, eval e X.env) :: starEach [] X.env := by rfl) :
    PR X E (.Call (.Attribute o "index" apos) [e] [] cpos) (eIndex fo f) := by
  obtain ⟨to, po, so⟩ := ho.ex
  obtain ⟨t, pe, s⟩ := h.ex
  refine ⟨_, pe_bm PySem.F.plainAttrs_list PySem.F.slot_list_index PySem.F.type_list_index mt_index po (pa_cons pe pa_nil hs) hbase hfew hline hs rfl, fun G H σ ρ r Q hw => so G H σ ρ r _ (hw.bind.mono (fun z _ q v G1 H1 o1 h1 => ?_) fun _ _ q => q)⟩
  obtain ⟨d0, ed0, q1⟩ := q.opt
  obtain ⟨l0, el0, q2⟩ := q1.opt
  have r0 := hold_look o1.rel h1 ed0
  rw [asL_eq el0] at r0
  obtain ⟨a, vs0, rfl, ha0, _⟩ := r0.lst o1.rel.sub
  refine ⟨.inl ⟨rfl, vs0, SqL.of ha0⟩, s G1 H1 σ z.2 o1.rel _ (q2.bind.mono (fun y _ q3 w G2 H2 o2 h2 => ?_) fun _ _ q3 => q3.step o1)⟩
  obtain ⟨d, ed, q4⟩ := q3.opt
  obtain ⟨xx, ex, q5⟩ := q4.opt
  obtain ⟨j, ej, q6⟩ := q5.opt
  have r1 := hold_look o2.rel (h1.pers o2) ed
  have r2 := hold_look o2.rel h2 ex
  cases d with
  | lst ds =>
    have ej' : ((flL ds).bind fun ys => (fl xx).bind fun y => (ixF ys y).map fun (j : Nat) => (j : Int)) = some j := ej
    cases e1 : flL ds with
    | none => rw [e1] at ej'; cases ej'
    | some ys =>
      rw [e1] at ej'
      cases e2 : fl xx with
      | none => rw [e2] at ej'; cases ej'
      | some yv =>
        rw [e2] at ej'
        cases e3 : ixF ys yv with
        | none =>
          replace ej' : (ixF ys yv).map (fun (j : Nat) => (j : Int)) = some j := ej'
          rw [e3] at ej'; cases ej'
        | some jn =>
          replace ej' : (ixF ys yv).map (fun (j : Nat) => (j : Int)) = some j := ej'
          rw [e3] at ej'; cases ej'
          obtain ⟨a', vs, ea, ha, hds⟩ := r1.lst o2.rel.sub
          cases ea
          obtain ⟨rfl, f1⟩ := flL_rep hds e1
          obtain ⟨rfl, f2⟩ := fl_rep r2 e2
          obtain ⟨zz, g1, g2, g3⟩ := ixF_ok e3
          exact ⟨a, vs, w, jn, zz, rfl, rfl, SqL.of ha, f2, f1, g1, g2, g3, q6 _ G2 H2 (o1.trans o2) (Hold.val rep_int)⟩
  | _ => cases ej
end
end BR
set_option Elab.async false
set_option linter.all false
set_option maxRecDepth 100000
set_option maxHeartbeats 4000000
namespace BR
open PySem L2

/-! ## a dict comprehension without a test -/
def dcL (vs : List Nat) (g : D → S → Option S) (fk fe : EF) : List D → (List Key × List D) → S → R ((List Key × List D) × S)
  | [], acc, ρ => .ok (acc, ρ)
  | d :: ds, acc, ρ => ofO (g d ρ) >>= fun ρ1 => noX (fk ρ1) >>= fun z => noX (eV fe z.2) >>= fun y => ofO (asKey z.1) >>= fun k => if acc.1.length < sizeLine then dcL vs g fk fe ds (putDk acc.1 k, putDx acc.1 acc.2 k y.1) (wipeS y.2 vs) else .no
@[simp] def eDc (vs : List Nat) (it : S → R (List D × S)) (g : D → S → Option S) (fk fe : EF) : EF := fun ρ => it ρ >>= fun z => if calmSl z.2 vs = true then dcL vs g fk fe z.1 ([], []) (wipeS z.2 vs) >>= fun y => .ok (.tmp (.dic y.1.1 y.1.2), rst z.2 y.2 vs) else .no
section
variable {J : It} {n : Nat} {G : Hp → Prop} {Y : Nat → Hp → V → Hp → Prop}
theorem dc_it (w : Walk J n G Y) {g : TG} {tt : TT} {tk tv : TE} {vs : List Nat} {σ : St} {H1 : Hp} {D : Addr} {Qd : Hp → Prop} (Pv : Nat → Hp → Prop) (h0 : Pv 0 (upd H1 D (.dK []))) (hG : ∀ i H, i ≤ n → Pv i H → G H)
    (hs : ∀ i x H H', i < n → Pv i H → Y i H x H' → g x (wipe σ vs) H' fun σ2 H2 => wipe σ2 vs = wipe σ vs ∧ tt σ2 H2 fun b H3 =>
      if b = true then tk σ2 H3 fun y H4 => tv σ2 H4 fun z H5 => ∃ kvs k, y = kV k ∧ H5 D = some (.dK kvs) ∧ kvs.length < sizeLine ∧ Pv (i + 1) (upd H5 D (.dK (putK kvs k z))) else Pv (i + 1) H3) (hd : ∀ H, Pv n H → Qd H) :
    ∃ W : Nat → Nat → Hp → Prop, (∃ m, W 0 m (upd H1 D (.dK []))) ∧ ∀ i m H, W i m H →
      (J.stop i H ∧ Qd H) ∨ (J.go i H ∧ ∃ Nx : Hp → Prop, (∀ H', Nx H' → ∃ m', m' < m ∧ W (i + 1) m' H') ∧ ∀ x H', J.yld i H x H' → g x (wipe σ vs) H' fun σ2 H2 => wipe σ2 vs = wipe σ vs ∧ tt σ2 H2 fun b H3 =>
        if b = true then tk σ2 H3 fun y H4 => tv σ2 H4 fun z H5 => ∃ kvs k, y = kV k ∧ H5 D = some (.dK kvs) ∧ kvs.length < sizeLine ∧ Nx (upd H5 D (.dK (putK kvs k z))) else Nx H3) := by
  refine ⟨fun i m H => m = n - i ∧ i ≤ n ∧ Pv i H, ⟨n, by simp, Nat.zero_le _, h0⟩, ?_⟩
  rintro i m H ⟨rfl, hi, p⟩
  have q := hG i H hi p
  by_cases hlt : i < n
  · refine .inr ⟨w.goes i H hlt q, Pv (i + 1), fun H' p' => ⟨n - (i + 1), by omega, rfl, hlt, p'⟩, fun x H' y => hs i x H H' hlt p (w.yields i H x H' hlt q y)⟩
  · have e : i = n := by omega
    subst e
    exact .inl ⟨w.stops H q, hd H p⟩
end
section
variable {X : Cx} {E : XK} {kx elt tg iter : Expr} {scope : Scope} {own : List (Str × Nat)} {pos : Pos} {it : S → R (List D × S)} {g : D → S → Option S} {fk fe : EF} {tv : List Nat}
theorem dc_sound {K : PySem.W.Frag} {vs : List Nat} (hv : ∀ i ∈ tv, i ∈ vs) (mu : ∀ d ρ ρ', g d ρ = some ρ' → ∀ j, isMut ρ' j → isMut ρ j) {G H : Hp} {σ : St} {ρ : S} {Q : VK} {z : List D × S} {J : It} {G1 H1 : Hp} (o1 : Out K G H σ ρ G1 H1 z.2) (wk : Wlk K G1 H1 z.1 J)
    (q : Wp (if calmSl z.2 vs = true then dcL vs g fk fe z.1 ([], []) (wipeS z.2 vs) >>= fun y => R.ok (Hd.tmp (.dic y.1.1 y.1.2), rst z.2 y.2 vs) else R.no) (fun z => ∀ v G' H', Out K G H σ ρ G' H' z.2 → Hold K H G' H' σ z.2 z.1 v → Q v H') (ExE K E G H σ ρ)) : tDc (fun _ _ Rr => Rr J H1) (gF K tv g) tYes (tF K E0 fk) (tF K E0 fe) vs σ H Q := by
  split at q
  rotate_left
  · exact q.elim
  rename_i hc
  intro Da hD
  obtain ⟨Gd, Y, wk, hG, hY⟩ := wk.ex
  have q := q.bind
  have hgD : G1 Da = none := o1.rel.sub.none hD
  have rw0 : Rel K G1 H1 (L2.wipe σ vs) (wipeS z.2 vs) := o1.rel.wipe
  have nA : ∀ {ρ' : S}, Ker (wipeS z.2 vs) ρ' → ¬ ads (L2.wipe σ vs) ρ' Da := fun k h => (rw0.adsH (k.ads h)).1 hD
  have mw0 : ∀ j, isMut (wipeS z.2 vs) j → j ∉ vs := fun j ⟨d, m⟩ c => by
    rw [wipeS_at] at m
    by_cases hl : j < z.2.length
    · rw [if_pos ⟨c, hl⟩] at m; rcases m with m | m <;> cases m
    · rw [if_neg fun z => hl z.2, List.getElem?_eq_none (by omega)] at m; rcases m with m | m <;> cases m
  refine dc_it wk (fun i H' => ∃ G' ρ' acc kvs, Out K G1 H1 (L2.wipe σ vs) (wipeS z.2 vs) G' H' ρ' ∧ G' Da = none ∧ H' Da = some (.dK kvs) ∧ kvs.map (·.1) = acc.1 ∧ RepL K G' acc.2 (kvs.map (·.2)) ∧ (∀ b o, G1 b ≠ none → H1 b = some o → H' b = some o) ∧
      Wp (dcL vs g fk fe (z.1.drop i) acc ρ') (fun y => ∀ v G' H', Out K G H σ ρ G' H' (rst z.2 y.2 vs) → Hold K H G' H' σ (rst z.2 y.2 vs) (.tmp (.dic y.1.1 y.1.2)) v → Q v H') (ExE K E G H σ ρ)) ?_ ?_ ?_ ?_
  · refine ⟨G1, wipeS z.2 vs, ([], []), [], Out.new rw0 hD, hgD, upd_same, rfl, .nil, fun b o hb ho => ?_, q⟩
    rw [upd_ne (ne_of_none ho hD)]; exact ho
  · rintro i H' _ ⟨G', ρ', acc, us, _, _, _, _, _, k, _⟩
    exact hG H' k
  · rintro i x H' H2 hi ⟨G', ρ', acc, us, o, gD, hDD, hks, ra, k, w⟩ y
    obtain ⟨d, ed, G2, hstep, rx⟩ := hY i H' x H2 hi y G' o.stp.gg o.rel.sub
    obtain ⟨o2, gD2, hD2, k2, sg2⟩ : Out K G1 H1 (L2.wipe σ vs) (wipeS z.2 vs) G2 H2 ρ' ∧ G2 Da = none ∧ H2 Da = some (.dK us) ∧ (∀ b o, H' b = some o → H2 b = some o) ∧ Same G' G2 := by
      rcases hstep with ⟨rfl, rfl⟩ | ⟨pp, u, hp, rfl, rfl⟩
      · exact ⟨o, gD, hDD, fun _ _ h => h, Same.refl _⟩
      · have zz := Out.lay (o := u) o.rel hp
        have hne : Da ≠ pp := ne_of_none hDD hp
        exact ⟨o.trans zz, by rw [upd_ne hne]; exact gD, by rw [upd_ne hne]; exact hDD, fun b u' h => by rw [upd_ne (ne_of_none h hp)]; exact h, zz.stp.gg⟩
    have hd : z.1.drop i = d :: z.1.drop (i + 1) := by
      obtain ⟨h1, h2⟩ := List.getElem?_eq_some_iff.mp ed
      rw [← h2]
      exact List.drop_eq_getElem_cons h1
    rw [hd] at w
    obtain ⟨ρ3, e3, w⟩ := w.opt
    refine ⟨G2, H2, L2.wipe σ vs, ρ', G2, ρ', ρ3, d, (Out.refl o2.rel).s, rx, e3, fun σ3 o3 n3 => ?_⟩
    have hws : L2.wipe σ3 vs = L2.wipe σ vs := wipe_only (n3.mono hv)
    refine ⟨hws, ?_⟩
    have mu3 := mu d ρ' ρ3 e3
    have n3D : ¬ ads σ3 ρ3 Da := fun h => nA o2.ker (o3.nw Da h (by rw [hD2]; simp))
    have ioN : ∀ j ∈ vs, ¬ isIo ρ' j := fun j hj ⟨d, m⟩ => mw0 j (o2.ker.mu j ⟨d, .inr m⟩) hj
    simp only [tYes, if_true]
    refine ⟨G2, ρ3, o3.rel, w.bind.noX.mono (fun b hb w2 vk G4 H4 o4 hk4 => ?_) fun _ _ w2 => w2.elim⟩
    have hD4 : H4 Da = some (.dK us) := o4.stp.keep Da _ hD2 n3D
    have gD4 : G4 Da = none := o4.stp.fr Da (by rw [hD2]; simp) n3D gD2
    have n4D : ¬ ads σ3 b.2 Da := fun h => n3D (o4.ker.ads h)
    have keep4 : ∀ bb oo, G1 bb ≠ none → H1 bb = some oo → H4 bb = some oo := fun bb oo h1 h2 => o4.stp.keep bb oo (k2 bb oo (k bb oo h1 h2)) fun zz => by
      have hz := (o3.rel.adsH zz).2
      cases qq : G1 bb with
      | none => exact h1 qq
      | some u' => rw [(o.stp.gg.trans sg2) bb u' qq] at hz; cases hz
    have w3 := w2.bind.noX
    refine ⟨G4, b.2, o4.rel, (Wp.bind w3).mono (fun hh _ w5 v G5 H5 o5 hold => ?_) fun _ _ w5 => w5.elim⟩
    cases es : share hh.1 hh.2 with
    | none => rw [es] at w5; exact w5.elim
    | some y6 =>
      rw [es] at w5
      obtain ⟨d6, ρ6⟩ := y6
      obtain ⟨G6, o6, sg6, rp6⟩ := share_ok o5 hold es
      have w6 : Wp (ofO (asKey b.1) >>= fun k => if acc.1.length < sizeLine then dcL vs g fk fe (z.1.drop (i + 1)) (putDk acc.1 k, putDx acc.1 acc.2 k d6) (wipeS ρ6 vs) else .no) _ _ := w5
      obtain ⟨kk, ekk, w7⟩ := w6.opt
      split at w7
      rotate_left
      · exact w7.elim
      rename_i hsz
      have hD5 : H5 Da = some (.dK us) := o6.stp.keep Da _ hD4 n4D
      have gD6 : G6 Da = none := o6.stp.fr Da (by rw [hD4]; simp) n4D gD4
      refine ⟨us, kk, asKey_v hk4 ekk, hD5, by rw [← hks, List.length_map] at hsz; exact hsz, ?_⟩
      have oA : OutS K G2 H2 (L2.wipe σ vs) ρ' G6 H5 σ3 ρ6 := o3.trans (o4.s.trans o6.s)
      have oW : Out K G2 H2 (L2.wipe σ vs) ρ' G6 H5 (wipeS ρ6 vs) := oA.wiped ioN hws (fun j m hj => mw0 j (o2.ker.mu j (mu3 j (o4.ker.mu j (o6.ker.mu j m)))) hj) fun j m => mu3 j (o4.ker.mu j (o6.ker.mu j m))
      have oB := o2.trans oW
      obtain ⟨p1, p2⟩ := putD_rep (k := kk) (ra.mono (sg2.trans (o4.stp.gg.trans o6.stp.gg))) rp6
      rw [hks] at p1 p2
      refine ⟨G6, wipeS ρ6 vs, _, putK us kk v, oB.app hD gD6 (by rw [hD5]; simp) (nA oB.ker), gD6, upd_same, p1, p2, fun bb oo h1 h2 => ?_, w7⟩
      have hne : bb ≠ Da := ne_of_none h2 hD
      rw [upd_ne hne]
      refine o6.stp.keep bb oo (keep4 bb oo h1 h2) fun zz => ?_
      have hz := (o4.rel.adsH zz).2
      cases qq : G1 bb with
      | none => exact h1 qq
      | some u' => rw [(o.stp.gg.trans (sg2.trans o4.stp.gg)) bb u' qq] at hz; cases hz
  · rintro H' ⟨G', ρ', acc, us, o, gD, hDD, hks, ra, k, w⟩
    rw [List.drop_length] at w
    have ou := Out.unwipe o1.rel hc o
    refine w (.ref Da) G' H' (o1.trans ou) ⟨Da, rfl, ⟨gD, _, hDD, us, rfl, hks, ra⟩, o1.stp.thr Da hD, fun h => (o1.rel.adsH (ou.ker.ads h)).1 hD⟩
theorem pr_dc {vs : List Nat} {hs0 : X.calm = true} (hN : X.N.Nodup) (hi : PIt X E tg iter it) (ok : BlkOk X.N X.env.scope scope own) (hv : ∀ i ∈ tv, i ∈ vs)
    (hg : ∀ (s : Shared) (H : Hp) (C : Addr) (cl : List (Str × Addr)) (fp : List Addr), PTg (X.blk s H scope (compEnvC scope cl C X.env) fp) tv tg g)
    (hk : ∀ (s : Shared) (H : Hp) (C : Addr) (cl : List (Str × Addr)) (fp : List Addr), PR (X.blk s H scope (compEnvC scope cl C X.env) fp) E0 kx fk)
    (he : ∀ (s : Shared) (H : Hp) (C : Addr) (cl : List (Str × Addr)) (fp : List Addr), PR (X.blk s H scope (compEnvC scope cl C X.env) fp) E0 elt fe) (hvs : own.map (·.2) = vs := by rfl) (hs : ∀ x, foldedSetIterable iter X.env x = pure x := by intro _; rfl) :
    PR X E (.DictComp kx elt [⟨tg, iter, [], 0⟩] scope pos) (eDc vs it g fk fe) := by
  subst hvs
  obtain ⟨wi, pi, si⟩ := hi.ex
  refine ⟨_, pe_dc (pos := pos) (kx := kx) (vx := elt) (ifs := []) (g := gF X.K tv g) (tk := tF X.K E0 fk) (tv := tF X.K E0 fe) hs0 hN pi ok (fun s H C cl fp => (hg s H C cl fp).pg) (fun s H C cl fp => pts_nil) (fun s H C cl fp => (hk s H C cl fp).pe) (fun s H C cl fp => (he s H C cl fp).pe) hs, fun G H σ ρ r Q hw => si G H σ ρ r _ (hw.bind.mono (fun z _ q J G1 H1 o1 wk => ?_) fun _ _ q => q)⟩
  have key : tDc (fun _ _ Rr => Rr J H1) (gF X.K tv g) tYes (tF X.K E0 fk) (tF X.K E0 fe) (own.map (·.2)) σ H Q := dc_sound hv (hg X.s_0 X.H_0 0 [] []).mu o1 wk q
  exact key
end
/-! ## isinstance -/
/-- the type of a value -/
def tyD : D → Option Value
  | .non => some (.type "NoneType")
  | .bl _ => some (.type "bool")
  | .int _ => some (.type "int")
  | .str _ => some (.type "str")
  | .lst _ => some (.type "list")
  | .scr _ => some (.type "list")
  | .tup _ => some (.type "tuple")
  | .dic _ _ => some (.type "dict")
  | .ins C _ _ => some (.ref C)
  | _ => none
/-- the own classes whose instances may be asked -/
structure ClsI (K : PySem.W.Frag) (C : Addr) : Prop where
  cl : Cls K C
  ha : PySem.W.findIn K (.ref C) "__class__" = some (some (.builtin "object.__class__"))
  hn : PySem.W.specialIn K (.builtin "object.__class__") "__get__" = some (some (.builtin "getset_descriptor.__get__"))
  htk : PySem.W.takesIn K (.builtin "object.__class__") = some true
  hm : PySem.W.mroIn K C (.type "object") = some true
section
variable {K : PySem.W.Frag} {G H : Hp}
def insIn (Cs : List Addr) : D → Bool
  | .ins C _ _ => Cs.any fun c => decide (c = C)
  | .obj _ => false
  | .ty _ => false
  | _ => true
theorem tyD_ok {Cs : List Addr} (hC : ∀ C ∈ Cs, ClsI K C) {d : D} {v : V} {t : Value} (s : Sub G H) (h : RepP K G H d v) (hi : insIn Cs d = true) (e : tyD d = some t) : TyX K H v t := by
  have rdT : ∀ {a : Addr} {vs : List V}, SqT K H a vs → TyX K H (.ref a) (.type "tuple") := by
    intro a vs h
    rcases h with (h | ⟨o, h⟩) | h
    · exact .base (.tup h)
    · exact .fTuple h
    · obtain ⟨o, _, _, e1, e2, _⟩ := h
      exact .kTuple e1 e2
  have rdL : ∀ {a : Addr} {vs : List V}, SqL K H a vs → TyX K H (.ref a) (.type "list") := by
    intro a vs h
    rcases h with (h | ⟨o, h⟩) | h
    · exact .base (.lst h)
    · exact .base (.frz h)
    · obtain ⟨o, _, _, e1, e2, _⟩ := h
      exact .kList e1 e2
  cases d with
  | non => cases e; rw [h.non]; exact .base .non
  | bl b => cases e; rw [h.bl]; exact .base (.bl b)
  | int b => cases e; rw [h.int]; exact .base (.int b)
  | str b => cases e; rw [h.str]; exact .base (.str b)
  | lst ds => cases e; obtain ⟨a, vs, rfl, h1, _⟩ := h.lst s; exact .base (.lst h1)
  | scr ns => cases e; obtain ⟨a, rfl, h1⟩ := h.scr s; exact rdL h1
  | tup ds => cases e; obtain ⟨a, vs, rfl, h1, _⟩ := h.tup s; exact rdT h1
  | dic ks ds =>
    cases e
    obtain ⟨a, kvs, rfl, h1, _⟩ := h.dic s
    rcases h1 with h1 | ⟨o, h1⟩
    · exact .base (.dK h1)
    · exact .fDict h1
  | ins C ns ds =>
    cases e
    obtain ⟨a, dx, fs, rfl, h1, _⟩ := h.ins s
    have hm : C ∈ Cs := by
      have : (Cs.any fun c => decide (c = C)) = true := hi
      obtain ⟨c, hc, e⟩ := List.any_eq_true.mp this
      have := of_decide_eq_true e
      rw [← this]; exact hc
    have q := hC C hm
    exact .base (.ins h1 q.cl q.ha q.hn q.htk q.hm)
  | ty n => cases e
  | obj a => cases e
end
section
variable {X : Cx} {K : PySem.W.Frag}
/-- what may be asked, and the answer -/
structure IsiT (K : PySem.W.Frag) (us : List Value) (ok isi : D → Bool) : Prop where
  an : ∀ (d : D) (t : Value), ok d = true → tyD d = some t → PySem.W.kitAny K t us = some (isi d)
  ty : ∀ (d : D) (G H : Hp) (v : V), Sub G H → RepP K G H d v → ok d = true → ∃ t, tyD d = some t ∧ TyX K H v t
def clsDs : List Value → List D → Bool
  | [], [] => true
  | .type n :: us, .ty m :: ds => decide (n = m) && clsDs us ds
  | .ref C :: us, .obj a :: ds => decide (C = a) && clsDs us ds
  | _, _ => false
theorem clsDs_rep {G : Hp} : ∀ {us : List Value} {ds : List D} {vs : List V}, clsDs us ds = true → RepL K G ds vs → Paired ClsV vs us
  | [], [], vs, _, h => by rw [repL_nil.mp h]; exact .nil
  | [], _ :: _, vs, e, h => by cases e
  | u :: us, [], vs, e, h => by cases u <;> cases e
  | u :: us, d :: ds, vs, e, h => by
    obtain ⟨v, vs', rfl, h1, h2⟩ := repL_cons.mp h
    cases u with
    | type n =>
      cases d with
      | ty m =>
        have e' : (decide (n = m) && clsDs us ds) = true := e
        rw [Bool.and_eq_true] at e'
        have := of_decide_eq_true e'.1
        subst this
        unfold Rep at h1
        rw [h1]
        exact .cons (.ty n) (clsDs_rep e'.2 h2)
      | _ => cases e
    | ref C =>
      cases d with
      | obj m =>
        have e' : (decide (C = m) && clsDs us ds) = true := e
        rw [Bool.and_eq_true] at e'
        have := of_decide_eq_true e'.1
        subst this
        unfold Rep at h1
        rw [h1]
        exact .cons (.own C) (clsDs_rep e'.2 h2)
      | _ => cases e
    | _ => cases e
def rIsiS (K : PySem.W.Frag) : List V → Hp → VK → Prop := fun xs H Q => ∃ (x : V) (tp : Addr) (cs : List V) (t : Value) (us : List Value) (b : Bool), xs = [x, .ref tp] ∧ SqT K H tp cs ∧ Paired ClsV cs us ∧ TyX K H x t ∧ PySem.W.kitAny K t us = some b ∧ Q (.bl b) H
theorem call_isiS : CallR X (.builtin "isinstance") (rIsiS X.K) := by
  intro pins s σ H xs us Q I r h
  obtain ⟨x, tp, cs, t, ws, b, rfl, hT, k, ty, e, q⟩ := h
  obtain ⟨u1, u2, rfl, r1, r2⟩ := vals2 r
  cases (show u2 = Value.ref tp from r2)
  obtain ⟨P, Z, p, hx⟩ := kit_of I r1 ty
  obtain ⟨its, rv, ⟨o, h1, h2, n, h3⟩, _⟩ := I.tuple hT
  have e3 := ClsV.all k rv
  subst e3
  obtain ⟨oc, od, dt, sl⟩ := o
  simp only at h2 h3
  subst h2 h3
  exact PySem.W.kia_tup Z I.kIn p h1 e hx fun tk => ⟨.bl b, H, I.tok tk, rfl, q⟩
def dIsi (us : List Value) (ok isi : D → Bool) : List D → Option Rz
  | [d, .tup ds] => if (ok d && clsDs us ds) = true then some (.im (.bl (isi d))) else none
  | [d, .ty n] => if (ok d && clsDs us [.ty n]) = true then some (.im (.bl (isi d))) else none
  | [d, .obj a] => if (ok d && clsDs us [.obj a]) = true then some (.im (.bl (isi d))) else none
  | _ => none
def rIsiB (K : PySem.W.Frag) : List V → Hp → VK → Prop := fun xs H Q => rIsi K xs H Q ∨ rIsiS K xs H Q
theorem call_isiB : CallR X (.builtin "isinstance") (rIsiB X.K) := CallR.or call_isi call_isiS
theorem kitAny1 {t u : Value} {b : Bool} (h : PySem.W.kitAny K t [u] = some b) : PySem.W.kitOne K t u = some b := by
  unfold PySem.W.kitAny at h
  cases q : PySem.W.kitOne K t u with
  | none => rw [q] at h; cases h
  | some c =>
    rw [q] at h
    cases c with
    | true => exact h
    | false => exact h
theorem d_isi {us : List Value} {ok isi : D → Bool} (T : IsiT K us ok isi) : CallD K (rIsiB K) (dIsi us ok isi) := by
  intro G H ds vs s h z Q e q
  unfold dIsi at e
  split at e
  · obtain ⟨v, w, rfl, rv, rw'⟩ := rpl2 h
    split at e
    · rename_i hb
      rw [Bool.and_eq_true] at hb
      cases e
      obtain ⟨a, us', rfl, h1, h2⟩ := rw'.tup s
      obtain ⟨t, et, tx⟩ := T.ty _ G H v s rv hb.1
      exact .inr ⟨v, a, us', t, us, _, rfl, h1, clsDs_rep hb.2 h2, tx, T.an _ t hb.1 et, q _ rep_bl⟩
    · cases e
  · obtain ⟨v, w, rfl, rv, rw'⟩ := rpl2 h
    split at e
    · rename_i hb
      rw [Bool.and_eq_true] at hb
      cases e
      have hr : RepL K G [_] [w] := .cons (by rw [rw'.ty]; exact rep_ty) .nil
      have pc := clsDs_rep hb.2 hr
      obtain ⟨t, et, tx⟩ := T.ty _ G H v s rv hb.1
      have an := T.an _ t hb.1 et
      cases pc with
      | cons p1 p2 =>
        cases p2
        exact .inl ⟨v, w, t, _, _, rfl, p1, tx, kitAny1 an, q _ rep_bl⟩
    · cases e
  · obtain ⟨v, w, rfl, rv, rw'⟩ := rpl2 h
    split at e
    · rename_i hb
      rw [Bool.and_eq_true] at hb
      cases e
      have hr : RepL K G [_] [w] := .cons (by rw [rw'.obj]; exact rep_obj) .nil
      have pc := clsDs_rep hb.2 hr
      obtain ⟨t, et, tx⟩ := T.ty _ G H v s rv hb.1
      have an := T.an _ t hb.1 et
      cases pc with
      | cons p1 p2 =>
        cases p2
        exact .inl ⟨v, w, t, _, _, rfl, p1, tx, kitAny1 an, q _ rep_bl⟩
    · cases e
  · cases e
/-- plain data: no instance, no class -/
def plD : D → Bool
  | .ins _ _ _ => false
  | .obj _ => false
  | .ty _ => false
  | _ => true
theorem plD_ty {d : D} {G H : Hp} {v : V} (s : Sub G H) (h : RepP K G H d v) (e : plD d = true) : ∃ t, tyD d = some t ∧ TyX K H v t := by
  have key : ∀ t, tyD d = some t → TyX K H v t := fun t et => tyD_ok (Cs := []) (fun C hC => by cases hC) s h (by cases d <;> first | rfl | cases e) et
  cases d <;> first | exact ⟨_, rfl, key _ rfl⟩ | cases e
def isIntD : D → Bool
  | .int _ => true
  | .bl _ => true
  | _ => false
def isBoolD : D → Bool
  | .bl _ => true
  | _ => false
def isStrD : D → Bool
  | .str _ => true
  | _ => false
def isTupD : D → Bool
  | .tup _ => true
  | _ => false
def isLstD : D → Bool
  | .lst _ => true
  | .scr _ => true
  | _ => false
def isSeqD : D → Bool
  | .lst _ => true
  | .scr _ => true
  | .tup _ => true
  | _ => false
def isDicD : D → Bool
  | .dic _ _ => true
  | _ => false
theorem ka1 {a b : String} {r : Bool} (h : kitB a b = some r) : PySem.W.kitAny K (.type a) [.type b] = some r := kitAny_cons (kit_ty h) (fun e => by rw [e]; rfl) fun e => e
theorem ka2 {a b c : String} {r r' : Bool} (h : kitB a b = some r) (h' : kitB a c = some r') : PySem.W.kitAny K (.type a) [.type b, .type c] = some (r || r') := kitAny_cons (kit_ty h) (fun e => by rw [e]; exact ka1 h') fun e => by rw [e]; rfl
theorem isi_int : IsiT K [.type "int"] plD isIntD := ⟨fun d t hp e => by (cases d <;> first | exact Bool.noConfusion hp | (cases e; first | exact ka1 (r := true) (by decide +kernel) | exact ka1 (r := false) (by decide +kernel))), fun d G H v s h e => plD_ty s h e⟩
theorem isi_bool : IsiT K [.type "bool"] plD isBoolD := ⟨fun d t hp e => by (cases d <;> first | exact Bool.noConfusion hp | (cases e; first | exact ka1 (r := true) (by decide +kernel) | exact ka1 (r := false) (by decide +kernel))), fun d G H v s h e => plD_ty s h e⟩
theorem isi_str : IsiT K [.type "str"] plD isStrD := ⟨fun d t hp e => by (cases d <;> first | exact Bool.noConfusion hp | (cases e; first | exact ka1 (r := true) (by decide +kernel) | exact ka1 (r := false) (by decide +kernel))), fun d G H v s h e => plD_ty s h e⟩
theorem isi_tup : IsiT K [.type "tuple"] plD isTupD := ⟨fun d t hp e => by (cases d <;> first | exact Bool.noConfusion hp | (cases e; first | exact ka1 (r := true) (by decide +kernel) | exact ka1 (r := false) (by decide +kernel))), fun d G H v s h e => plD_ty s h e⟩
theorem isi_lst : IsiT K [.type "list"] plD isLstD := ⟨fun d t hp e => by (cases d <;> first | exact Bool.noConfusion hp | (cases e; first | exact ka1 (r := true) (by decide +kernel) | exact ka1 (r := false) (by decide +kernel))), fun d G H v s h e => plD_ty s h e⟩
theorem isi_dic : IsiT K [.type "dict"] plD isDicD := ⟨fun d t hp e => by (cases d <;> first | exact Bool.noConfusion hp | (cases e; first | exact ka1 (r := true) (by decide +kernel) | exact ka1 (r := false) (by decide +kernel))), fun d G H v s h e => plD_ty s h e⟩
theorem isi_seq : IsiT K [.type "list", .type "tuple"] plD isSeqD := ⟨fun d t hp e => by (cases d <;> first | exact Bool.noConfusion hp | (cases e; first | exact ka2 (r := true) (r' := false) (by decide +kernel) (by decide +kernel) | exact ka2 (r := false) (r' := true) (by decide +kernel) (by decide +kernel) | exact ka2 (r := false) (r' := false) (by decide +kernel) (by decide +kernel))), fun d G H v s h e => plD_ty s h e⟩
/-- one own class, asked of its own instances -/
def okC (C : Addr) : D → Bool
  | .ins C' _ _ => decide (C' = C)
  | _ => false
theorem isi_own {C : Addr} (q : ClsI K C) (hk : PySem.W.kitOne K (.ref C) (.ref C) = some true) : IsiT K [.ref C] (okC C) fun _ => true := by
  refine ⟨fun d t hp e => ?_, fun d G H v s h e => ?_⟩
  · cases d with
    | ins C' ns ds =>
      have := of_decide_eq_true (show decide (C' = C) = true from hp)
      subst this
      cases e
      exact kitAny_cons hk (fun e => by cases e) fun _ => rfl
    | _ => cases hp
  · cases d with
    | ins C' ns ds =>
      have := of_decide_eq_true (show decide (C' = C) = true from e)
      subst this
      exact ⟨_, rfl, tyD_ok (Cs := [C']) (fun c hc => by rw [List.mem_singleton.mp hc]; exact q) s h (by simp [insIn]) rfl⟩
    | _ => cases e
end
/-! ## calls with keywords only -/
section
variable {X : Cx} {CX : CXT} {k n : Nat} {f : Addr} {fd : FuncData} {ps ks : List Str} {sp : Sp} {E : XK} {x : Str} {p pos : Pos} {kws : List Keyword} {tk : TA} {g : List Value → List Value → List Value} {gV : List V → List V → List V}
def tCallN0 (m : Nat) (sp : Sp) (gV : List V → List V → List V) (E : XK) (tk : TA) : TE := fun σ H Q => tk σ H fun zs H2 => zs.length = m ∧ sp (gV [] zs) H2 Q E
theorem pe_callN0 (F : FnOk X.prog X.w X.K X.mg X.base CX k f fd ps sp) (hr : Room k X.A) (hg : Gl X x) (hm : X.mg x = some (.ref f)) (hk : PySem.W.keepIn X.K (.ref f) = true) (hb : KBn X.K fd ps 0 ks g gV) (hx : Passes CX X E)
    (hkw : PK X kws tk) (hall : (backToKw pos (keywordEach kws X.env)).all (·.1.isSome) = true := by rfl) (hks : (backToKw pos (keywordEach kws X.env)).filterMap (·.1) = ks := by rfl)
    (hdb : (x == ("__debug__" : Str)) = false := by decide)
    (hpl : ((backTo pos (starEach [] X.env)).any (·.1) || (backToKw pos (keywordEach kws X.env)).any (·.1.isNone)) = false := by rfl) :
    PE X (.Call (.Name x p) [] kws pos) (tCallN0 ks.length sp gV E tk) := by
  refine ⟨fun pins s σ H Q I h => ?_⟩
  refine PySem.wpAny_Call_Name_kw (ld_glob I hg hm ?_ hdb)
  refine PySem.W.callWith_KW0 (h₀ := X.base) I.ok.mod.kin hk hall (thn (hkw.run pos pins s σ H _ I h) fun ws s2 ⟨zs, H2, I2, rz, l2, q2⟩ => ⟨I2.kIn, ?_⟩) hpl
  rw [hks]
  exact run_fnN (us := []) (vs := []) F hr hb hx I2 .nil rz rfl l2 q2
end
@[simp] def sw2 {α : Type} : List α → List α
  | [a, b] => [b, a]
  | l => l
theorem vals_sw2 {zs : List V} {ws : List Value} (h : Vals zs ws) : Vals (sw2 zs) (sw2 ws) := by
  cases h with
  | nil => exact .nil
  | cons a t =>
    cases t with
    | nil => exact .cons a .nil
    | cons b u =>
      cases u with
      | nil => exact .cons b (.cons a .nil)
      | cons c v => exact .cons a (.cons b (.cons c v))
theorem repL_sw2 {K : PySem.W.Frag} {G : Hp} {ds : List D} {vs : List V} (h : RepL K G ds vs) : RepL K G (sw2 ds) (sw2 vs) := by
  cases ds with
  | nil => rw [repL_nil.mp h]; exact .nil
  | cons a ds =>
    obtain ⟨v, vs', rfl, h1, h2⟩ := repL_cons.mp h
    cases ds with
    | nil => rw [repL_nil.mp h2]; exact .cons h1 .nil
    | cons b ds =>
      obtain ⟨w, vs2, rfl, h3, h4⟩ := repL_cons.mp h2
      cases ds with
      | nil => rw [repL_nil.mp h4]; exact .cons h3 (.cons h1 .nil)
      | cons c ds =>
        obtain ⟨u, vs3, rfl, h5, h6⟩ := repL_cons.mp h4
        exact .cons h1 (.cons h3 (.cons h5 h6))
section
variable {X : Cx} {E : XK} {kws : List Keyword} {x : Str} {p pos : Pos} {g : S → R (List D × S)} {ms : List Bool} {own : Bool} {F : FT} {k : Nat} {f : Addr} {fd : FuncData} {ps ks : List Str}
@[simp] def eCallSw (own : Bool) (F : FT) (g : S → R (List D × S)) : EF := fun ρ => g ρ >>= fun z => F (sw2 z.1) >>= fun r => .ok (if own = true then .tmp r.1 else .val r.1, z.2)
/-- f(b = .., a = ..) of f(a, b) -/
theorem pr_callSw (Fn : FnOk X.prog X.w X.K X.mg X.base (L2.CX X.prog X.w) k f fd ps (spF X.K [false, false] own F)) (hr : Room k X.A) (hg : Gl X x) (hm : X.mg x = some (.ref f)) (hk : PySem.W.keepIn X.K (.ref f) = true) (hb : KBn X.K fd ps 0 ks (fun _ ws => sw2 ws) (fun _ zs => sw2 zs)) (hx : Passes (L2.CX X.prog X.w) X E)
    (ha : PKs X E kws g) (hal : ALen g 2) (hkl : ks.length = 2 := by rfl) (hall : (backToKw pos (keywordEach kws X.env)).all (·.1.isSome) = true := by rfl) (hks : (backToKw pos (keywordEach kws X.env)).filterMap (·.1) = ks := by rfl)
    (hdb : (x == ("__debug__" : Str)) = false := by decide) (hpl : ((backTo pos (starEach [] X.env)).any (·.1) || (backToKw pos (keywordEach kws X.env)).any (·.1.isNone)) = false := by rfl) :
    PR X E (.Call (.Name x p) [] kws pos) (eCallSw own F g) := by
  obtain ⟨t, pa, s⟩ := ha.ex
  refine ⟨_, pe_callN0 Fn hr hg hm hk hb hx pa hall hks hdb hpl, fun G H σ ρ r Q hw => s G H σ ρ r _ (hw.bind.mono (fun z hz q vs G1 H1 o1 h1 => ⟨?_, ?_⟩) fun _ _ q => q)⟩
  · rw [← h1.length, hal ρ z hz, hkl]
  · have hl : z.1.length = 2 := hal ρ z hz
    refine call_sh (ms := [false, false]) (ds := sw2 z.1) (by decide) ?_ o1 (repL_sw2 h1) q
    match z.1, hl with
    | [a, b], _ => rfl
end
end BR
set_option Elab.async false
set_option linter.all false
set_option maxRecDepth 100000
set_option maxHeartbeats 4000000
namespace L2
open PySem PySem.Spec PyProof.Rows
theorem walk_ofEw {l : PySem.W.OpenLaw} {n k : Nat} {q : Program} {loose : List Str} {XP : (Str → Option Value) → Heap → Prop} {YP : World → Heap → Prop} {d : DefRec} {CX : World → CXT} {x : Str}
    (hn : l.most = some n) (hn2 : n ≤ sizeLine) (hdf : d.params.defaults = []) (hr : Room k callerA)
    (F : ∀ (w : World) (mg : Str → Option Value) (fa : Addr) (h : Heap), YP w h → h.Ns mainGlobals mg → mg d.name = some (.ref fa) →
      ∃ (K : PySem.W.Frag) (fd : FuncData) (sp : Sp), K.In h ∧ (∀ (s : Shared) (u : Value), BindsTo s fd ⟨[u], []⟩ [(x, u)]) ∧
        (∀ (H : Hp) (a : Addr) (ns : List Int), ns.length ≤ n → Only H → SqL K H a (ns.map V.int) → sp [.ref a] H (fun v _ => v = .bl true) fun _ _ _ => False) ∧
        ∀ base : Heap, K.In base → base.Ns mainGlobals mg → FnOk l.prog w K mg base (CX w) k fa fd [x] sp)
    (hCX : ∀ (w : World) (H : Hp) (s : Shared) (e : Value) (s' : Shared), CX w [] H s (fun _ _ _ => False) e s' → False) :
    PySem.W.WalkO q loose XP YP l.row.toRowW d [] (fun f vs => PySem.call f vs) := by
  refine Att.attach_call hn hdf fun w s₀ s₁ mg mb fa o pm cd doc a vs ns G Y ho hd hcd hmg hobj hints hlen hg => ?_
  obtain ⟨K, fd, sp, KX, hb, hsp, hF⟩ := F w mg fa _ Y G.T.g hmg
  exact law_call KX G.T.g G.T.b G.T.builtins G.T.nolimit hg hobj hints (Nat.le_trans hlen hn2) hr hF hb (fun H hO hS => hsp H a ns hlen hO hS) fun H e s' => hCX w H s₁ e s'
theorem cx_out {P : Program} {w : World} {H : Hp} {s : Shared} {e : Value} {s' : Shared} (h : L2.CX P w [] H s (fun _ _ _ => False) e s') : False := by
  obtain ⟨a, B, H', cls, d, h⟩ := h
  exact h.2.2.2.2.2.2.2
end L2
namespace BR
open PySem PySem.W PySem.Calls L2

/-! ## the head: facts are Bools of the written part -/
abbrev Fct := PySem.W.Frag → Bool
def obsB (fa : List Fct) (fn : List He5.DefA) (K : Frag) : He.AlD := ((fa.all fun f => f K) && fn.all fun d => d.ok K, fn.map fun d => He5.fnA K (d.at_ K))
def SaysB (fa : List Fct) (fn : List He5.DefA) (K : Frag) : Prop := obsB fa fn K = He5.valA fn
def obsBG (n : Nat) (fa : List Fct) (fn : List He5.DefA) (g : Addr → Option Obj) : He.AlD := obsB fa fn (He.frG g (He5.asA g n))
def hookB (n : Nat) (fa : List Fct) (fn : List He5.DefA) : PySem.W.Hook where
  α := He.AlD
  obs := fun s => obsBG n fa fn s.heap.get?
  val := fun _ => He5.valA fn
  says := fun _ h => ∃ K : Frag, K.In h ∧ SaysB fa fn K
  of := fun _ _ e => ⟨_, He.frG_in, e⟩
  keeps := fun _ _ _ ⟨K, hK, c⟩ k => ⟨K, Frag.In.keeps hK k, c⟩
theorem obsBG_eq {n : Nat} {fa : List Fct} {fn : List He5.DefA} {g : Addr → Option Obj} {s : Shared} (h : ∀ a, g a = s.heap.get? a) : obsBG n fa fn g = (hookB n fa fn).obs s := by
  have e : g = s.heap.get? := funext h
  rw [e] <;> rfl
theorem ba' {a b : Bool} (h : (a && b) = true) : a = true ∧ b = true := by cases a <;> cases b <;> simp_all
section
variable {fa : List Fct} {fn : List He5.DefA} {K : Frag}
theorem SaysB.fact (c : SaysB fa fn K) (i : Nat) {f : Fct} (h : fa[i]? = some f := by rfl) : f K = true := by
  have c1 := (ba' (show ((fa.all fun f => f K) && fn.all fun d => d.ok K) = true from congrArg (fun z : He.AlD => z.1) c)).1
  exact List.all_eq_true.mp c1 f (List.mem_of_getElem? h)
theorem SaysB.def_ (c : SaysB fa fn K) (i : Nat) {d : He5.DefA} (h : fn[i]? = some d := by rfl) : ∃ fd, L2.FunD K d.name d.qual d.params d.body d.scope (d.dvs K) (d.kws K) (d.at_ K) fd := by
  have c2 := (ba' (show ((fa.all fun f => f K) && fn.all fun d => d.ok K) = true from congrArg (fun z : He.AlD => z.1) c)).2
  have e : fn.map (fun d => He5.fnA K (d.at_ K)) = fn.map He5.DefA.val := congrArg (fun z : He.AlD => z.2) c
  have e2 : (fn.map fun d => He5.fnA K (d.at_ K))[i]? = (fn.map He5.DefA.val)[i]? := by rw [e]
  rw [List.getElem?_map, List.getElem?_map, h] at e2
  exact He5.DefA.funD (Option.some.inj e2) (List.all_eq_true.mp c2 d (List.mem_of_getElem? h))
end
/-! ### facts -/
def fF (f : He.Fa) : Fct := fun K => f.ok K
def fProp (C f : PySem.Str) : Fct := fun K => He.eqO (findIn K (.ref (He.ga K C)) f) (some (some (.ref (He.ma K (He.ga K C) f)))) && (He.eqO (specialIn K (.ref (He.ma K (He.ga K C) f)) "__get__") (some (some (.builtin "property.__get__"))) && (decide (takesIn K (.ref (He.ma K (He.ga K C) f)) = some true) && (match recIn K (He.ma K (He.ga K C) f) "property" with
  | some (.ref _ :: _) => true
  | _ => false)))
theorem prop_ok {K : Frag} {C f : PySem.Str} (h : fProp C f K = true) : PropOf K (He.ga K C) f (He.ma K (He.ga K C) f) (He5.wf K (He.ga K C) "property" f) := by
  obtain ⟨h1, h⟩ := ba' h
  obtain ⟨h2, h⟩ := ba' h
  obtain ⟨h3, h4⟩ := ba' h
  refine ⟨He.eqO_ok h1, He.eqO_ok h2, of_decide_eq_true h3, ?_⟩
  unfold He5.wf
  split at h4
  · rename_i f r e
    exact ⟨r, by rw [e]⟩
  · cases h4
def fClsI (C : PySem.Str) : Fct := fun K => (He.Fa.cls C).ok K && (He.eqO (findIn K (.ref (He.ga K C)) "__class__") (some (some (.builtin "object.__class__"))) && (He.eqO (specialIn K (.builtin "object.__class__") "__get__") (some (some (.builtin "getset_descriptor.__get__"))) && (decide (takesIn K (.builtin "object.__class__") = some true) && decide (mroIn K (He.ga K C) (.type "object") = some true))))
theorem clsI_ok {K : Frag} {C : PySem.Str} (h : fClsI C K = true) : ClsI K (He.ga K C) := by
  obtain ⟨h1, h⟩ := ba' h
  obtain ⟨h2, h⟩ := ba' h
  obtain ⟨h3, h⟩ := ba' h
  obtain ⟨h4, h5⟩ := ba' h
  exact ⟨He.cls_ok h1, He.eqO_ok h2, He.eqO_ok h3, of_decide_eq_true h4, of_decide_eq_true h5⟩
def fKit (C D : PySem.Str) (b : Bool) : Fct := fun K => decide (kitOne K (.ref (He.ga K C)) (.ref (He.ga K D)) = some b)
theorem kit_ok {K : Frag} {C D : PySem.Str} {b : Bool} (h : fKit C D b K = true) : kitOne K (.ref (He.ga K C)) (.ref (He.ga K D)) = some b := of_decide_eq_true h
def fKitT (C : PySem.Str) (T : String) (b : Bool) : Fct := fun K => decide (kitOne K (.ref (He.ga K C)) (.type T) = some b)
theorem kitT_ok {K : Frag} {C : PySem.Str} {T : String} {b : Bool} (h : fKitT C T b K = true) : kitOne K (.ref (He.ga K C)) (.type T) = some b := of_decide_eq_true h
def fKitB (T : String) (C : PySem.Str) (b : Bool) : Fct := fun K => decide (kitOne K (.type T) (.ref (He.ga K C)) = some b)
theorem kitB_ok {K : Frag} {C : PySem.Str} {T : String} {b : Bool} (h : fKitB T C b K = true) : kitOne K (.type T) (.ref (He.ga K C)) = some b := of_decide_eq_true h
def fCRead (C : PySem.Str) : Fct := fun K => readsIn K (He.ga K C) (.type "type") && He.eqO (specialIn K (.ref (He.ga K C)) "__getattribute__") (some (some (.builtin "type.__getattribute__")))
theorem cread_ok {K : Frag} {C : PySem.Str} (h : fCRead C K = true) : ClX.CRead K (He.ga K C) (.type "type") := by
  obtain ⟨h1, h2⟩ := ba' h
  exact ⟨h1, He.eqO_ok h2⟩
def fCVal (C f : PySem.Str) (v : V) : Fct := fun K => match findCls K (.ref (He.ga K C)) (.type "type") f with
  | some (.val u) => He.relB v u
  | _ => false
theorem cval_ok {K : Frag} {C f : PySem.Str} {v : V} (h : fCVal C f v K = true) : ∃ u, ClX.CVal K (He.ga K C) (.type "type") f v u := by
  unfold fCVal at h
  split at h
  · rename_i u e
    exact ⟨u, e, He.relB_ok h⟩
  · cases h
/-- the law's end -/
theorem sp_law {K : Frag} {F : FT} {d : List D} {H : Hp} {a : Addr} {ns : List Int} (h : F [.scr ns] = .ok (.bl true, d)) (hS : SqL K H a (ns.map V.int)) : spF K [false] false F [.ref a] H (fun v _ => v = .bl true) fun _ _ _ => False := by
  refine ⟨H, [.scr ns], [], fun b o e => .inl e, .sh (by unfold Rep; exact ⟨a, rfl, hS⟩) .nil, ?_⟩
  rw [h]
  intro v G' H' _ _ _ re
  have re' : Rep K G' (.bl true) v := re
  unfold Rep at re'
  exact re'
end BR
set_option Elab.async false
set_option linter.all false
set_option maxRecDepth 100000
set_option maxHeartbeats 4000000
namespace BR
open PySem L2
section
variable {X : Cx} {E : XK} {elt c tg iter : Expr} {scope : Scope} {own : List (Str × Nat)} {pos py spos pos' : Pos} {it : S → R (List D × S)} {g : D → S → Option S} {p : S → R (Bool × S)} {fe : EF} {tv vs : List Nat} {i j : Nat} {x y : Str}
theorem asg_snd {te : TE} {f : EF} (s : Snd X.K E te f) : SndS X.K E (tAsg te (gName i)) (sAsg i f) := by
  intro G H σ ρ r Dn hw
  refine s G H σ ρ r _ (hw.bind.mono (fun z _ q v G' H' o h => ?_) fun _ _ q => q)
  obtain ⟨ρ', e1, q⟩ := q.opt
  obtain ⟨G2, o2⟩ := put_ok o h e1
  exact q _ G2 H' o2
/-- y = [e for x in ..] on one line, y a local -/
theorem st_asgLc0 {hs0 : X.calm = true} (hN : X.N.Nodup) (hy : X.N[i]? = some y) (hyl : X.env.scope.names.lookup y = some .local) (hi : PIt X E tg iter it) (ok : BlkOk X.N X.env.scope scope own) (hv : ∀ i ∈ tv, i ∈ vs)
    (hg : ∀ (s : Shared) (H : Hp) (C : Addr) (cl : List (Str × Addr)) (fp : List Addr), PTg (X.blk s H scope (compEnvC scope cl C X.env) fp) tv tg g)
    (he : ∀ (s : Shared) (H : Hp) (C : Addr) (cl : List (Str × Addr)) (fp : List Addr), PR (X.blk s H scope (compEnvC scope cl C X.env) fp) E0 elt fe)
    (hsw : swapsWith (.ListComp elt [⟨tg, iter, [], 0⟩] scope pos) (some (.Name y py)) spos.line X.env = pure true := by exact sw_true rfl rfl rfl rfl) (hvs : own.map (·.2) = vs := by rfl) (hs : ∀ x, foldedSetIterable iter X.env x = pure x := by intro _; rfl) :
    PSt X E (.Assign [.Name y py] (.ListComp elt [⟨tg, iter, [], 0⟩] scope pos) spos) (sAsg i (eLc vs it g pYes fe)) := by
  subst hvs
  obtain ⟨wi, pi, si⟩ := hi.ex
  exact ⟨_, ps_setLc (elt := elt) (ifs := []) (g := gF X.K tv g) (tt := tYes) (te := tF X.K E0 fe) hs0 hN hy hyl hsw pi ok (fun s H C cl fp => (hg s H C cl fp).pg) (fun s H C cl fp => pts_nil) (fun s H C cl fp => (he s H C cl fp).pe) hs,
    asg_snd (snd_lc si hv (hg X.s_0 X.H_0 0 [] []).mu fun G H σ ρ r Q w => w G H (Out.refl r))⟩
/-- .. with a test -/
theorem st_asgLc {hs0 : X.calm = true} (hN : X.N.Nodup) (hy : X.N[i]? = some y) (hyl : X.env.scope.names.lookup y = some .local) (hi : PIt X E tg iter it) (ok : BlkOk X.N X.env.scope scope own) (hv : ∀ i ∈ tv, i ∈ vs)
    (hg : ∀ (s : Shared) (H : Hp) (C : Addr) (cl : List (Str × Addr)) (fp : List Addr), PTg (X.blk s H scope (compEnvC scope cl C X.env) fp) tv tg g)
    (ht : ∀ (s : Shared) (H : Hp) (C : Addr) (cl : List (Str × Addr)) (fp : List Addr), PB (X.blk s H scope (compEnvC scope cl C X.env) fp) E0 c p)
    (he : ∀ (s : Shared) (H : Hp) (C : Addr) (cl : List (Str × Addr)) (fp : List Addr), PR (X.blk s H scope (compEnvC scope cl C X.env) fp) E0 elt fe)
    (hsw : swapsWith (.ListComp elt [⟨tg, iter, [c], 0⟩] scope pos) (some (.Name y py)) spos.line X.env = pure true := by exact sw_true rfl rfl rfl rfl) (hvs : own.map (·.2) = vs := by rfl) (hs : ∀ x, foldedSetIterable iter X.env x = pure x := by intro _; rfl) :
    PSt X E (.Assign [.Name y py] (.ListComp elt [⟨tg, iter, [c], 0⟩] scope pos) spos) (sAsg i (eLc vs it g p fe)) := by
  subst hvs
  obtain ⟨wi, pi, si⟩ := hi.ex
  exact ⟨_, ps_setLc (elt := elt) (ifs := [c]) (g := gF X.K tv g) (tt := tFB X.K E0 p) (te := tF X.K E0 fe) hs0 hN hy hyl hsw pi ok (fun s H C cl fp => (hg s H C cl fp).pg) (fun s H C cl fp => pts_one (ht s H C cl fp).pt) (fun s H C cl fp => (he s H C cl fp).pe) hs,
    asg_snd (snd_lc si hv (hg X.s_0 X.H_0 0 [] []).mu fun G H σ ρ r Q w => ⟨G, ρ, r, w⟩)⟩
/-- .. over the keys of a dict -/
theorem st_asgLcK {hs0 : X.calm = true} (hN : X.N.Nodup) (hy : X.N[i]? = some y) (hyl : X.env.scope.names.lookup y = some .local) (hNj : X.N[j]? = some x) (hvj : Vis X.env.scope x) (ok : BlkOk X.N X.env.scope scope own) (hv : ∀ i ∈ tv, i ∈ vs)
    (hg : ∀ (s : Shared) (H : Hp) (C : Addr) (cl : List (Str × Addr)) (fp : List Addr), PTg (X.blk s H scope (compEnvC scope cl C X.env) fp) tv tg g)
    (ht : ∀ (s : Shared) (H : Hp) (C : Addr) (cl : List (Str × Addr)) (fp : List Addr), PB (X.blk s H scope (compEnvC scope cl C X.env) fp) E0 c p)
    (he : ∀ (s : Shared) (H : Hp) (C : Addr) (cl : List (Str × Addr)) (fp : List Addr), PR (X.blk s H scope (compEnvC scope cl C X.env) fp) E0 elt fe) (hd : (x == ("__debug__" : Str)) = false := by decide) (hcd : (x == ("__classdict__" : Str)) = false := by decide)
    (hsw : swapsWith (.ListComp elt [⟨tg, .Name x pos', [c], 0⟩] scope pos) (some (.Name y py)) spos.line X.env = pure true := by exact sw_true rfl rfl rfl rfl) (hvs : own.map (·.2) = vs := by rfl) (hs : ∀ z, foldedSetIterable (.Name x pos') X.env z = pure z := by intro _; rfl) :
    PSt X E (.Assign [.Name y py] (.ListComp elt [⟨tg, .Name x pos', [c], 0⟩] scope pos) spos) (sAsg i (eLcD vs (fun ks _ => keysD ks) j g p fe)) := by
  subst hvs
  have ps := ps_setLc (pos := pos) (spos := spos) (py := py) (elt := elt) (ifs := [c]) (g := gF X.K tv g) (tt := tFB X.K E0 p) (te := tF X.K E0 fe) hs0 hN hy hyl hsw (pi_keys (tg := tg) (pe_var (i := j) (pos := pos') hNj hvj hd hcd)) ok (fun s H C cl fp => (hg s H C cl fp).pg) (fun s H C cl fp => pts_one (ht s H C cl fp).pt) (fun s H C cl fp => (he s H C cl fp).pe) hs
  have sn := lcD_core (E := E) (fe := fe) (gt := gF X.K tv g) (X := X) (i := j) (fun a o kvs => Itk a o kvs) (wi := iKeys (tVar j)) (fun σ H Rr a od kvs h1 h2 h3 => ⟨_, h1, a, od, rfl, .inl ⟨kvs, h2, h3⟩⟩) (sel := fun ks _ => keysD ks) (fun h1 h2 _ => wlk_keysD h1 h2) hv (hg X.s_0 X.H_0 0 [] []).mu (tt := tFB X.K E0 p) fun G H σ ρ r Q w => ⟨G, ρ, r, w⟩
  refine ⟨_, ps_or (ps_lock ps) ps, fun G H σ ρ r Dn hw => ?_⟩
  rcases asg_snd (i := i) sn G H σ ρ r Dn hw with q | q
  · exact .inl q
  · exact .inr q
/-! ### a, b = x, y where some name is a cell: the pair is made and taken apart -/
theorem HoldT.newT {K : PySem.W.Frag} {Hs G H G1 H1 : Hp} {σ : St} {ρ ρ1 : S} {hs : List Hd} {ws ts : List V} (o : Out K G H σ ρ G1 H1 ρ1) (h : HoldT K Hs G H σ ρ hs ws ts) : HoldT K Hs G1 H1 σ ρ1 hs ws ts := h.pers o
theorem st_parC {a b : Expr} {f : S → R (List Hd × S)} {px : Pos} {kt k2 : Nat} {pt pt2 : Pos} (hc : X.calm = true) (hN : X.N.Nodup) (hi : X.N[i]? = some x) (hj : X.N[j]? = some y) (hx : Loc X.env.scope x) (hy : Loc X.env.scope y) (ha : PPr X E [a, b] f)
    (hfx : X.fn x = true ∨ X.env.scope.names.lookup x = some .local := by first | exact .inl rfl | exact .inr rfl | assumption) (hfy : X.fn y = true ∨ X.env.scope.names.lookup y = some .local := by first | exact .inl rfl | exact .inr rfl | assumption)
    (hs : swapsWithSole [.Tuple [.Name x px, .Name y py] kt pt] (.Tuple [a, b] k2 pt2) pos.line X.env = pure false := by rfl) (hw : swappedStores [.Tuple [.Name x px, .Name y py] kt pt] (.Tuple [a, b] k2 pt2) X.env = pure none := by rfl)
    (h1 : (assignEach [.Tuple [.Name x px, .Name y py] kt pt] X.env).map (·.2) = [assign (.Tuple [.Name x px, .Name y py] kt pt) X.env] := by rfl)
    (hn : (assignEach [.Name x px, .Name y py] X.env).length = 2 := by rfl) (hst : (assignEach [.Name x px, .Name y py] X.env).findIdx? (·.1) = none := by rfl)
    (hs1 : (assignEach [.Name x px, .Name y py] X.env).map (·.2) = assign (.Name x px) X.env :: (assignEach [.Name y py] X.env).map (·.2) := by rfl)
    (hs2 : (assignEach [.Name y py] X.env).map (·.2) = assign (.Name y py) X.env :: (assignEach [] X.env).map (·.2) := by rfl) :
    PSt X E (.Assign [.Tuple [.Name x px, .Name y py] kt pt] (.Tuple [a, b] k2 pt2) pos) (sPar [i, j] f) := by
  obtain ⟨t, pe, s⟩ := ha.ex
  refine ⟨_, ps_asg (pe_tup pe) (pg_tup hc (pgs_cons (pg_name (i := i) hN hi hx hfx) (pgs_cons (pg_name (i := j) hN hj hy hfy) pgs_nil hs2) hs1) hn hst) hs hw h1, fun G H σ ρ r Dn hw => s G H σ ρ r _ (hw.bind.mono (fun z _ q vs ts G1 H1 o1 h1 => ?_) fun _ _ q => q)⟩
  obtain ⟨ρ', e1, qq⟩ := q.opt
  have hlen : ∀ {is : List Nat} {hs : List Hd} {ρ : S}, putAll is hs ρ = some ρ' → is.length = hs.length := by
    intro is
    induction is with
    | nil => intro hs ρ e; cases hs with
      | nil => rfl
      | cons => cases e
    | cons i is ih => intro hs ρ e; cases hs with
      | nil => cases e
      | cons h hs =>
        have e' : ((putS i h ρ).bind fun ρ' => putAll is hs ρ') = some ρ' := e
        cases hp : putS i h ρ with
        | none => rw [hp] at e'; cases e'
        | some ρ2 => rw [hp] at e'; exact congrArg Nat.succ (ih e')
  have hl2 := hlen e1
  have hv : vs.length = 2 := by
    have : ∀ {hs : List Hd} {ws ts : List V}, HoldT X.K H G1 H1 σ z.2 hs ws ts → ws.length = hs.length := fun h => by
      induction h with
      | nil => rfl
      | cons _ _ _ _ ih => exact congrArg Nat.succ ih
    rw [this h1, ← hl2]; rfl
  refine ⟨by rw [hv]; decide, fun q0 hq => ?_⟩
  have on := Out.new (o := .tup vs) o1.rel hq
  have o2 := putAll_ok (o1.trans on).s (h1.pers on) e1
  match vs, hv with
  | [u1, u2], _ => exact ⟨q0, [u1, u2], rfl, SqT.of upd_same, rfl, u1, [u2], rfl, u2, [], rfl, rfl, qq _ G1 _ o2⟩
end
end BR
set_option Elab.async false
set_option linter.all false
set_option maxRecDepth 100000
set_option maxHeartbeats 400000
namespace BR
open PySem L2
/-! ## evaluation by simp -/
theorem dIc_ok {C : Int → Int → Prop} {g : Int → Int → Int} {i j : Int} (h : C i j) : dIc C g (.int i) (.int j) = some (.im (.int (g i j))) := by
  unfold dIc
  exact if_pos h
theorem dMulI_ok {i j : Int} (h : CMul i j) : dMulI (.int i) (.int j) = some (.im (.int (i * j))) := by
  unfold dMulI
  exact if_pos h
end BR
set_option Elab.async false
set_option linter.all false
set_option maxRecDepth 100000
set_option maxHeartbeats 400000
namespace BR
open PySem L2
/-! ## loops by invariants -/
theorem sForL_relP {β : Type} {g : D → S → Option S} {b : SF} (toD : β → D) (I : List β → S → Prop) : ∀ (post pre : List β) (ρ : S),
    (∀ (p : List β) (x : β) (q : List β) (ρ : S), pre ++ post = p ++ x :: q → I p ρ → ∃ ρ2, (ofO (g (toD x) ρ) >>= b) = .ok (.nx, ρ2) ∧ I (p ++ [x]) ρ2) → I pre ρ →
    ∃ ρ', sForL g b (post.map toD) ρ = .ok (.nx, ρ') ∧ I (pre ++ post) ρ' := by
  intro post
  induction post with
  | nil => intro pre ρ _ hi; exact ⟨ρ, rfl, by simpa using hi⟩
  | cons x post ih =>
    intro pre ρ h hi
    obtain ⟨ρ2, e, hi2⟩ := h pre x post ρ rfl hi
    have h' := h
    rw [show pre ++ x :: post = (pre ++ [x]) ++ post by simp] at h'
    obtain ⟨ρ', e', hi'⟩ := ih (pre ++ [x]) ρ2 h' hi2
    refine ⟨ρ', ?_, by simpa using hi'⟩
    cases hg : g (toD x) ρ with
    | none => rw [hg] at e; cases e
    | some ρ1 =>
      rw [hg] at e
      have e2 : b ρ1 = .ok (.nx, ρ2) := e
      simp only [List.map_cons, sForL, hg, ofO_some, ok_bind, e2]
      exact e'
theorem sForL_rel {β : Type} {g : D → S → Option S} {b : SF} (toD : β → D) (I : List β → S → Prop) (xs : List β) (ρ : S)
    (h : ∀ (p : List β) (x : β) (ρ : S), x ∈ xs → I p ρ → ∃ ρ2, (ofO (g (toD x) ρ) >>= b) = .ok (.nx, ρ2) ∧ I (p ++ [x]) ρ2) (h0 : I [] ρ) :
    ∃ ρ', sForL g b (xs.map toD) ρ = .ok (.nx, ρ') ∧ I xs ρ' := by
  have := sForL_relP (g := g) (b := b) toD I xs [] ρ (fun p x q ρ e hi => h p x ρ (by rw [List.nil_append] at e; rw [e]; simp) hi) h0
  simpa using this
/-- a loop that only keeps something -/
theorem sForL_keep {β : Type} {g : D → S → Option S} {b : SF} (toD : β → D) (I : S → Prop) (xs : List β) (ρ : S)
    (h : ∀ (x : β) (ρ : S), x ∈ xs → I ρ → ∃ ρ2, (ofO (g (toD x) ρ) >>= b) = .ok (.nx, ρ2) ∧ I ρ2) (h0 : I ρ) :
    ∃ ρ', sForL g b (xs.map toD) ρ = .ok (.nx, ρ') ∧ I ρ' :=
  sForL_rel toD (fun _ => I) xs ρ (fun _ => h) h0
/-- one turn of a comprehension -/
@[simp] def lcT (vs : List Nat) (g : D → S → Option S) (p : S → R (Bool × S)) (fe : EF) (d : D) (ρ : S) : R (Option D × S) :=
  ofO (g d ρ) >>= fun ρ1 => noX (p ρ1) >>= fun z => if z.1 = true then noX (eV fe z.2) >>= fun y => .ok (some y.1, wipeS y.2 vs) else .ok (none, wipeS z.2 vs)
theorem lcL_cons {vs : List Nat} {g : D → S → Option S} {p : S → R (Bool × S)} {fe : EF} (d : D) (ds acc : List D) (ρ ρ' : S) (o : Option D) (e : lcT vs g p fe d ρ = .ok (o, ρ')) (h : acc.length < sizeLine) :
    lcL vs g p fe (d :: ds) acc ρ = lcL vs g p fe ds (acc ++ o.toList) ρ' := by
  unfold lcT at e
  simp only [lcL]
  cases hg : g d ρ with
  | none => rw [hg] at e; cases e
  | some ρ1 =>
    rw [hg] at e
    simp only [ofO_some, ok_bind] at e ⊢
    cases hp : noX (p ρ1) with
    | no => rw [hp] at e; cases e
    | exc x => rw [hp] at e; cases e
    | ok z =>
      rw [hp] at e
      simp only [ok_bind] at e ⊢
      by_cases hz : z.1 = true
      · rw [if_pos hz] at e ⊢
        cases hy : noX (eV fe z.2) with
        | no => rw [hy] at e; cases e
        | exc x => rw [hy] at e; cases e
        | ok y =>
          rw [hy] at e
          simp only [ok_bind] at e ⊢
          cases e
          rw [if_pos h]; rfl
      · rw [if_neg hz] at e ⊢
        cases e
        simp
theorem lcL_pure {β : Type} {vs : List Nat} {g : D → S → Option S} {p : S → R (Bool × S)} {fe : EF} (toD : β → D) (out : β → Option D) (ρ : S) : ∀ (xs : List β) (acc : List D),
    (∀ x ∈ xs, lcT vs g p fe (toD x) ρ = .ok (out x, ρ)) → acc.length + xs.length ≤ sizeLine → lcL vs g p fe (xs.map toD) acc ρ = .ok (acc ++ xs.filterMap out, ρ) := by
  intro xs
  induction xs with
  | nil => intro acc _ _; simp [lcL]
  | cons x xs ih =>
    intro acc h hl
    rw [List.map_cons, lcL_cons (toD x) _ acc ρ ρ (out x) (h x (by simp)) (by simp at hl; omega), ih _ (fun y hy => h y (by simp [hy])) (by
      simp at hl
      cases out x <;> simp <;> omega)]
    cases ho : out x <;> simp [List.filterMap_cons, ho]
theorem lcL_map {β : Type} {vs : List Nat} {g : D → S → Option S} {p : S → R (Bool × S)} {fe : EF} (toD : β → D) (out : β → D) (ρ : S) (xs : List β)
    (h : ∀ x ∈ xs, lcT vs g p fe (toD x) ρ = .ok (some (out x), ρ)) (hl : xs.length ≤ sizeLine) : lcL vs g p fe (xs.map toD) [] ρ = .ok (xs.map out, ρ) := by
  rw [lcL_pure toD (fun x => some (out x)) ρ xs [] h (by simpa using hl)]
  simp [List.filterMap_eq_map]
theorem lcL_rel {β : Type} {vs : List Nat} {g : D → S → Option S} {p : S → R (Bool × S)} {fe : EF} (toD : β → D) (I : List D → S → Prop) : ∀ (xs : List β) (acc : List D) (ρ : S),
    (∀ x acc ρ, x ∈ xs → I acc ρ → ∃ o ρ', lcT vs g p fe (toD x) ρ = .ok (o, ρ') ∧ I (acc ++ o.toList) ρ') → acc.length + xs.length ≤ sizeLine → I acc ρ → ∃ ys ρ', lcL vs g p fe (xs.map toD) acc ρ = .ok (ys, ρ') ∧ I ys ρ' := by
  intro xs
  induction xs with
  | nil => intro acc ρ _ _ hi; exact ⟨acc, ρ, rfl, hi⟩
  | cons x xs ih =>
    intro acc ρ h hl hi
    obtain ⟨o, ρ', e, hi'⟩ := h x acc ρ (by simp) hi
    obtain ⟨ys, ρ2, e2, hi2⟩ := ih (acc ++ o.toList) ρ' (fun y acc ρ hy => h y acc ρ (by simp [hy])) (by
      simp at hl
      cases o <;> simp <;> omega) hi'
    refine ⟨ys, ρ2, ?_, hi2⟩
    rw [List.map_cons, lcL_cons (toD x) _ acc ρ ρ' o e (by simp at hl; omega), e2]
/-- while, by a number of turns that are left -/
theorem sWhile_rel {c : S → R (Bool × S)} {b : SF} (I : Nat → S → Prop) (P : S → Prop)
    (h : ∀ m ρ, I m ρ → (∃ ρ', c ρ = .ok (false, ρ') ∧ P ρ') ∨ (∃ ρ1 ρ2 m', c ρ = .ok (true, ρ1) ∧ b ρ1 = .ok (.nx, ρ2) ∧ m' < m ∧ I m' ρ2)) :
    ∀ (n m : Nat) (ρ : S), m < n → I m ρ → ∃ ρ', sWhile c b n ρ = .ok (.nx, ρ') ∧ P ρ' := by
  intro n
  induction n with
  | zero => intro m ρ hm; omega
  | succ n ih =>
    intro m ρ hm hi
    rcases h m ρ hi with ⟨ρ', e, hp⟩ | ⟨ρ1, ρ2, m', e1, e2, hm', hi'⟩
    · refine ⟨ρ', ?_, hp⟩
      simp [sWhile, e]
    · obtain ⟨ρ', e3, hp⟩ := ih m' ρ2 (by omega) hi'
      refine ⟨ρ', ?_, hp⟩
      simp [sWhile, e1, e2, e3]
end BR
namespace BR
open PySem L2
open Classical in
noncomputable def rngF (z : List D × S) : R (List D × S) := match z.1 with
  | [.int j] => if RngOk j then .ok (rngL 0 j.toNat, z.2) else .no
  | _ => .no
@[simp] theorem rng1_a (f : S → R (List D × S)) (ρ : S) : itRng1 f ρ = f ρ >>= rngF := rfl
theorem big62 (n : Nat) (h : n ≤ 1000000) : -(2 ^ 62) ≤ ((n : Nat) : Int) ∧ ((n : Nat) : Int) < 2 ^ 62 := by
  have h1 : ((n : Nat) : Int) ≤ 1000000 := by omega
  have h2 : (0 : Int) ≤ ((n : Nat) : Int) := by omega
  have h3 : (1000000 : Int) < 2 ^ 62 := by decide
  have h4 : -(2 ^ 62) ≤ (0 : Int) := by decide
  exact ⟨Int.le_trans h4 h2, Int.lt_of_le_of_lt h1 h3⟩
theorem rngF_n (n : Nat) (h : n ≤ 1000000) (ρ : S) : rngF ([.int (n : Int)], ρ) = .ok (rngL 0 n, ρ) := by
  unfold rngF
  exact if_pos (big62 n h)
end BR
set_option Elab.async false
set_option linter.all false
set_option maxRecDepth 100000
set_option maxHeartbeats 400000
namespace BR
open PySem L2
/-! ## texts as lists -/
abbrev T (l : List Nat) : Str := ⟨l.toArray⟩
theorem T_cps (l : List Nat) : (T l).cps.toList = l := by simp [T]
theorem T_len (l : List Nat) : (T l).length = l.length := by simp [T, Str.length]
theorem T_app (l m : List Nat) : T l ++ T m = T (l ++ m) := by
  show Str.append _ _ = _
  simp [Str.append]
theorem T_inj {l m : List Nat} : T l = T m ↔ l = m := by
  constructor
  · intro h
    have := congrArg (fun s : Str => s.cps.toList) h
    simpa using this
  · intro h; rw [h]
theorem glue_fold : ∀ (xs : List (List Nat)) (acc : Array Nat), (xs.map T).foldl (fun acc p => acc ++ (T []).cps ++ p.cps) acc = acc ++ xs.flatten.toArray
  | [], acc => by simp
  | x :: xs, acc => by
    rw [List.map_cons, List.foldl_cons, glue_fold xs]
    apply Array.ext'
    simp [T]
theorem T_join (xs : List (List Nat)) : Txt.join (T []) (xs.map T) = T xs.flatten := by
  unfold Txt.join Builtin.Str.glued
  cases xs with
  | nil => rfl
  | cons x xs =>
    have e := glue_fold xs (T x).cps
    show (⟨(xs.map T).foldl (fun acc p => acc ++ (T []).cps ++ p.cps) (T x).cps⟩ : Str) = _
    rw [e]
    congr 1
    apply Array.ext'
    simp [T]
theorem T_starts (l m : List Nat) : Txt.startswith (T l) (T m) = decide (m <+: l) := by
  unfold Txt.startswith
  rw [PySem.StrLaws.subAt_eq, T_len, T_len]
  have e1 : (T l).cps.toList = l := by simp [T]
  have e2 : (T m).cps.toList = m := by simp [T]
  rw [e1, e2, List.drop_zero]
  by_cases h : m <+: l
  · have hl := h.length_le
    obtain ⟨t, rfl⟩ := h
    simp
  · rw [decide_eq_false h]
    have : ((List.take m.length l) == m) = false := by
      rw [beq_eq_false_iff_ne]
      intro e
      exact h ⟨l.drop m.length, by have := List.take_append_drop m.length l; rw [e] at this; exact this⟩
    rw [this, Bool.and_false]
theorem cut_to (l : List Nat) (k : Nat) : cutS (T l) none (some (k : Int)) = T (l.take k) := by
  unfold cutS
  rw [T_len, HT.sIx_none, HT.sIx_nat]
  show T ((l.drop 0).take (min k l.length - 0)) = _
  rw [List.drop_zero, Nat.sub_zero, T_inj, ← List.take_eq_take_min]
theorem cut_from (l : List Nat) (k : Nat) : cutS (T l) (some (k : Int)) none = T (l.drop k) := by
  unfold cutS
  rw [T_len, HT.sIx_none, HT.sIx_nat]
  show T ((l.drop (min k l.length)).take (l.length - min k l.length)) = _
  rw [T_inj]
  by_cases h : k ≤ l.length
  · rw [Nat.min_eq_left h, List.take_of_length_le (by simp)]
  · rw [Nat.min_eq_right (by omega), List.drop_eq_nil_of_le (Nat.le_refl _), List.drop_eq_nil_of_le (by omega)]; simp
theorem cut_mid (l : List Nat) (a b : Nat) (h : a ≤ l.length) : cutS (T l) (some (a : Int)) (some (b : Int)) = T ((l.drop a).take (b - a)) := by
  unfold cutS
  rw [T_len, HT.sIx_nat, HT.sIx_nat]
  show T ((l.drop (min a l.length)).take (min b l.length - min a l.length)) = _
  rw [T_inj, Nat.min_eq_left h]
  by_cases hb : b ≤ l.length
  · rw [Nat.min_eq_left hb]
  · rw [Nat.min_eq_right (by omega), List.take_of_length_le (by simp), List.take_of_length_le (by simp; omega)]
theorem strsD_T (w : List Nat) : strsD (w.map fun c => D.str (T [c])) = some (w.map fun c => T [c]) := by
  induction w with
  | nil => rfl
  | cons c w ih => simp [strsD, ih]
theorem flat1 : ∀ w : List Nat, (w.map fun c => [c]).flatten = w
  | [] => rfl
  | c :: w => by simp [flat1 w]
theorem join_signs (w : List Nat) (h : w.length ≤ 1000000) : dJoin (T []) (.lst (w.map fun c => D.str (T [c]))) = some (.im (.str (T w))) := by
  unfold dJoin
  simp only [strsD_T, Option.bind_some]
  have e : Txt.join (T []) (w.map fun c => T [c]) = T w := by
    have := T_join (w.map fun c => [c])
    rw [List.map_map] at this
    have e2 : (w.map fun c => [c]).flatten = w := flat1 w
    rw [e2] at this
    exact this
  rw [e, if_pos]
  have : (List.map (fun x : Str => x.length) (w.map fun c => T [c])).sum = w.length := by
    clear e h
    induction w with
    | nil => rfl
    | cons c w ih =>
      simp only [List.map_cons, List.sum_cons, ih, List.length_cons, T_len]
      simp; omega
  rw [this, T_len]
  simp; omega
theorem atI_nat {α : Type} (ds : List α) (i : Int) (h : 0 ≤ i) (hi : i.toNat < ds.length) : atI ds i = some ds[i.toNat] := by
  unfold atI ixN
  have h2 : i < ds.length := by omega
  rw [if_pos h, if_pos h2]
  exact List.getElem?_eq_getElem hi
theorem atI_n {α : Type} (ds : List α) (i : Nat) (hi : i < ds.length) : atI ds (i : Int) = some ds[i] := by
  have := atI_nat ds (i : Int) (by omega) (by simpa using hi)
  simpa using this
theorem atI_m {α β : Type} (f : α → β) (ds : List α) (i : Nat) (hi : i < ds.length) : atI (ds.map f) (i : Int) = some (f ds[i]) := by
  rw [atI_n _ _ (by simpa using hi)]; simp
/-! ## dicts of numbers -/
section
variable {α : Type} [DecidableEq α] (κ : α → Key)
def dD (al : List (α × Nat)) : D := .dic (al.map fun p => κ p.1) (al.map fun p => .int (p.2 : Int))
def get0 : List (α × Nat) → α → Nat
  | [], _ => 0
  | p :: al, k => if p.1 = k then p.2 else get0 al k
def putA (al : List (α × Nat)) (k : α) (v : Nat) : List (α × Nat) := if k ∈ al.map (·.1) then al.map (fun p => if p.1 = k then (p.1, v) else p) else al ++ [(k, v)]
def dsum (φ : α → Nat) (al : List (α × Nat)) : Nat := (al.map fun p => p.2 * φ p.1).sum
variable (hκ : ∀ a b, κ a = κ b → a = b)
include hκ
theorem hasK_d (al : List (α × Nat)) (k : α) : hasK (al.map fun p => κ p.1) (κ k) = decide (k ∈ al.map (·.1)) := by
  induction al with
  | nil => simp [hasK]
  | cons p al ih =>
    have e : hasK ((p :: al).map fun p => κ p.1) (κ k) = (decide (κ p.1 = κ k) || hasK (al.map fun p => κ p.1) (κ k)) := rfl
    rw [e, ih]
    by_cases h : p.1 = k
    · simp [h]
    · have : ¬ κ p.1 = κ k := fun z => h (hκ _ _ z)
      have h2 : ¬ k = p.1 := fun z => h z.symm
      simp [this, h2]
theorem getK_d (al : List (α × Nat)) (k : α) : (getK (al.map fun p => κ p.1) (al.map fun p => D.int (p.2 : Int)) (κ k)).getD (.int 0) = .int (get0 al k : Int) := by
  induction al with
  | nil => rfl
  | cons p al ih =>
    by_cases h : p.1 = k
    · simp [getK, get0, h]
    · have : ¬ κ p.1 = κ k := fun z => h (hκ _ _ z)
      simp [getK, get0, h, this, ih]
theorem getK_mem (al : List (α × Nat)) (k : α) (h : k ∈ al.map (·.1)) : getK (al.map fun p => κ p.1) (al.map fun p => D.int (p.2 : Int)) (κ k) = some (.int (get0 al k : Int)) := by
  induction al with
  | nil => simp at h
  | cons p al ih =>
    by_cases hk : p.1 = k
    · simp [getK, get0, hk]
    · have : ¬ κ p.1 = κ k := fun z => hk (hκ _ _ z)
      rw [List.map_cons, List.mem_cons] at h
      rcases h with h | h
      · exact absurd h.symm hk
      · have := ih h
        simp [getK, get0, hk, ‹¬ κ p.1 = κ k›, this]
theorem put_d (al : List (α × Nat)) (k : α) (v : Nat) : D.dic (putDk (al.map fun p => κ p.1) (κ k)) (putDx (al.map fun p => κ p.1) (al.map fun p => D.int (p.2 : Int)) (κ k) (.int (v : Int))) = dD κ (putA al k v) := by
  unfold putDk putDx
  rw [hasK_d κ hκ]
  unfold dD putA
  by_cases h : k ∈ al.map (·.1)
  · rw [if_pos h, decide_eq_true h]
    simp only [if_true]
    congr 1
    · rw [List.map_map]
      apply List.map_congr_left
      intro p _
      simp only [Function.comp]
      split <;> rfl
    · clear h
      induction al with
      | nil => rfl
      | cons p al ih =>
        by_cases hk : p.1 = k
        · simp [replD, hk, ih]
        · have : ¬ κ p.1 = κ k := fun z => hk (hκ _ _ z)
          simp [replD, hk, this, ih]
  · rw [if_neg h, decide_eq_false h]
    simp
omit hκ
theorem keys_put (al : List (α × Nat)) (k : α) (v : Nat) : (putA al k v).map (·.1) = if k ∈ al.map (·.1) then al.map (·.1) else al.map (·.1) ++ [k] := by
  unfold putA
  split
  · rw [List.map_map]
    apply List.map_congr_left
    intro p _
    simp only [Function.comp]
    split <;> rfl
  · simp
theorem nodup_put {al : List (α × Nat)} (h : (al.map (·.1)).Nodup) (k : α) (v : Nat) : ((putA al k v).map (·.1)).Nodup := by
  rw [keys_put]
  split
  · exact h
  · rename_i hk
    rw [List.nodup_append]
    refine ⟨h, by simp, ?_⟩
    intro a ha b hb
    simp at hb
    subst hb
    intro e
    subst e
    exact hk ha
theorem len_put (al : List (α × Nat)) (k : α) (v : Nat) : (putA al k v).length ≤ al.length + 1 := by
  unfold putA
  split <;> simp
theorem get0_put (al : List (α × Nat)) (k : α) (v : Nat) (x : α) : get0 (putA al k v) x = if x = k then v else get0 al x := by
  unfold putA
  split
  · rename_i h
    induction al with
    | nil => simp at h
    | cons p al ih =>
      simp only [List.map_cons, List.mem_cons] at h
      by_cases hk : p.1 = k
      · by_cases hx : x = k
        · subst hx; simp [get0, hk]
        · have h2 : ¬ k = x := fun z => hx z.symm
          have e2 : get0 (al.map fun p => if p.1 = k then (p.1, v) else p) x = get0 al x := by
            clear ih h hk p
            induction al with
            | nil => rfl
            | cons p al ih =>
              by_cases hk : p.1 = k
              · simp [get0, hk, h2, ih]
              · simp [get0, hk, ih]
          simp [get0, hk, hx, h2, e2]
      · rcases h with h | h
        · exact absurd h.symm hk
        · have := ih h
          by_cases hx : x = k
          · subst hx; simp [get0, hk, this]
          · simp [get0, hk, hx, this]
  · rename_i h
    induction al with
    | nil => by_cases hx : x = k <;> simp [get0, hx, eq_comm]; exact fun z => absurd z.symm hx
    | cons p al ih =>
      have h1 : ¬ p.1 = k := fun z => h (by simp [z])
      have h2 : k ∉ al.map (·.1) := fun z => h (by rw [List.map_cons]; exact List.mem_cons_of_mem _ z)
      have := ih h2
      by_cases hp : p.1 = x
      · have : ¬ x = k := fun z => h1 (hp.trans z)
        simp [get0, hp, this]
      · simp [get0, hp, this]
theorem get0_not (al : List (α × Nat)) (k : α) (h : k ∉ al.map (·.1)) : get0 al k = 0 := by
  induction al with
  | nil => rfl
  | cons p al ih =>
    have h1 : ¬ p.1 = k := fun z => h (by simp [z])
    simp [get0, h1, ih fun z => h (by rw [List.map_cons]; exact List.mem_cons_of_mem _ z)]
theorem get0_item {al : List (α × Nat)} (h : (al.map (·.1)).Nodup) {p : α × Nat} (hp : p ∈ al) : get0 al p.1 = p.2 := by
  induction al with
  | nil => cases hp
  | cons q al ih =>
    rw [List.map_cons, List.nodup_cons] at h
    rcases List.mem_cons.mp hp with rfl | hp
    · simp [get0]
    · have : ¬ q.1 = p.1 := fun z => h.1 (by rw [z]; exact List.mem_map_of_mem hp)
      simp [get0, this, ih h.2 hp]
theorem dsum_add {al : List (α × Nat)} (h : (al.map (·.1)).Nodup) (φ : α → Nat) (k : α) (m : Nat) : dsum φ (putA al k (get0 al k + m)) = dsum φ al + m * φ k := by
  unfold putA
  split
  · rename_i hk
    induction al with
    | nil => simp at hk
    | cons p al ih =>
      rw [List.map_cons, List.nodup_cons] at h
      by_cases hp : p.1 = k
      · have e2 : ∀ v, (al.map fun p => if p.1 = k then (p.1, v) else p) = al := by
          intro v
          have h1 := h.1
          rw [hp] at h1
          clear ih h hk
          induction al with
          | nil => rfl
          | cons q al ih =>
            have hq : ¬ q.1 = k := fun z => h1 (by simp [z])
            rw [List.map_cons, if_neg hq, ih fun z => h1 (by rw [List.map_cons]; exact List.mem_cons_of_mem _ z)]
        rw [List.map_cons, if_pos hp, e2]
        simp only [dsum, List.map_cons, List.sum_cons, get0, hp, if_true, Nat.add_mul]
        omega
      · have hk2 : k ∈ al.map (·.1) := by
          rw [List.map_cons, List.mem_cons] at hk
          rcases hk with z | z
          · exact absurd z.symm hp
          · exact z
        have := ih h.2 hk2
        simp only [dsum] at this
        simp only [dsum, List.map_cons, if_neg hp, List.sum_cons, get0, this]
        omega
  · rename_i hk
    rw [get0_not al k hk]
    simp [dsum]
end
theorem kN_inj : ∀ a b : Nat, (Sum.inl (a : Int) : Key) = Sum.inl (b : Int) → a = b := fun a b h => by
  have := Sum.inl.inj h; omega
theorem kT_inj : ∀ a b : List Nat, (Sum.inr (T a) : Key) = Sum.inr (T b) → a = b := fun a b h => T_inj.mp (Sum.inr.inj h)
abbrev kN (a : Nat) : Key := Sum.inl (a : Int)
abbrev kT (a : List Nat) : Key := Sum.inr (T a)
theorem intsD_d {α : Type} (al : List (α × Nat)) : intsD (al.map fun p => D.int (p.2 : Int)) = some (al.map fun p => (p.2 : Int)) := by
  induction al with
  | nil => rfl
  | cons p al ih => simp [intsD, ih]
theorem sum_cast (l : List Nat) : (l.map fun n : Nat => (n : Int)).sum = ((l.sum : Nat) : Int) := by
  induction l with
  | nil => rfl
  | cons a l ih => simp [ih]
end BR
set_option Elab.async false
set_option linter.all false
set_option maxRecDepth 100000
set_option maxHeartbeats 0
namespace LW
open PySem L2 BR
/-- want_rate -/
noncomputable def B_want_rate (K : PySem.W.Frag) : SF := sIf (tNotF (tstV (eCB (dIsi [.ref (He.ga K "Rate")] (okC (He.ga K "Rate")) fun _ => true) (hCons (eVar 0) (hCons (eK (.obj (He.ga K "Rate"))) (hNil)))))) (sNo) (sNil)
noncomputable def F_want_rate (K : PySem.W.Frag) : FT := runF [false] false 1 (B_want_rate K)
/-- is_list -/
noncomputable def B_is_list (K : PySem.W.Frag) : SF := sRet (eCB (dIsi [.type "list", .type "tuple"] plD isSeqD) (hCons (eVar 0) (hCons (eTup (aCons (eV (eK (.ty "list"))) (aCons (eV (eK (.ty "tuple"))) (aNil)))) (hNil))))
noncomputable def F_is_list (K : PySem.W.Frag) : FT := runF [false] false 1 (B_is_list K)
/-- Rate.size -/
noncomputable def B_Rate_size (K : PySem.W.Frag) : SF := sRet (eOp2 (dIc CPow fun i j => i * 2 ^ j.toNat) (eK (.int 1)) (eFld (He.ga K "Rate") "rate_bits" (eVar 0)))
noncomputable def F_Rate_size (K : PySem.W.Frag) : FT := runF [false] false 1 (B_Rate_size K)
/-- is_row -/
noncomputable def B_is_row (K : PySem.W.Frag) : SF := sRet (eAnd (eCB (dIsi [.type "str"] plD isStrD) (hCons (eVar 0) (hCons (eK (.ty "str")) (hNil)))) (eCB dAll (hCons (eLc [1] (itStr (eVar 0)) (gVar 1) pYes (eOp2 dIn (eVar 1) (eK (.str "abcd")))) (hNil))))
noncomputable def F_is_row (K : PySem.W.Frag) : FT := runF [false] false 2 (B_is_row K)
/-- Rate.q -/
noncomputable def B_Rate_q (K : PySem.W.Frag) : SF := sRet (eFld (He.ga K "Rate") "rate_signs" (eVar 0))
noncomputable def F_Rate_q (K : PySem.W.Frag) : FT := runF [false] false 1 (B_Rate_q K)
/-- is_block_of -/
noncomputable def B_is_block_of (K : PySem.W.Frag) : SF := sRet (eAnd (eCall false (F_is_row K) (mSh (eVar 1) (mNil))) (eOp2 dEq (eCB dLen (hCons (eVar 1) (hNil))) (eProp (He.ga K "Rate") false (F_Rate_q K) (eVar 0))))
noncomputable def F_is_block_of (K : PySem.W.Frag) : FT := runF [false, false] false 2 (B_is_block_of K)
/-- is_integer -/
noncomputable def B_is_integer (K : PySem.W.Frag) : SF := sRet (eAnd (eCB (dIsi [.type "int"] plD isIntD) (hCons (eVar 0) (hCons (eK (.ty "int")) (hNil)))) (eNot (eCB (dIsi [.type "bool"] plD isBoolD) (hCons (eVar 0) (hCons (eK (.ty "bool")) (hNil))))))
noncomputable def F_is_integer (K : PySem.W.Frag) : FT := runF [false] false 1 (B_is_integer K)
/-- is_count -/
noncomputable def B_is_count (K : PySem.W.Frag) : SF := sRet (eAnd (eCall false (F_is_integer K) (mSh (eVar 0) (mNil))) (eOp2 (dI fun i j => .bl (decide (j ≤ i))) (eVar 0) (eK (.int 0))))
noncomputable def F_is_count (K : PySem.W.Frag) : FT := runF [false] false 1 (B_is_count K)
/-- is_entry -/
noncomputable def B_is_entry (K : PySem.W.Frag) : SF := sSeq (sIf (tOrF (tNotF (tstV (eCB (dIsi [.type "tuple"] plD isTupD) (hCons (eVar 2) (hCons (eK (.ty "tuple")) (hNil)))))) (tOrF (tstV (eOp2 dNe (eCB dLen (hCons (eVar 2) (hNil))) (eK (.int 2)))) (tNotF (tstV (eCall false (F_is_block_of K) (mSh (eVar 0) (mSh (eOp2 dIx (eVar 2) (eK (.int 0))) (mNil)))))))) (sRet (eK (.bl false))) (sNil))
    (sRet (eAnd (eCall false (F_is_count K) (mSh (eOp2 dIx (eVar 2) (eK (.int 1))) (mNil))) (eOp2 (dI fun i j => .bl (decide (i < j))) (eOp2 dIx (eVar 2) (eK (.int 1))) (eVar 1))))
noncomputable def F_is_entry (K : PySem.W.Frag) : FT := runF [false, false, false] false 3 (B_is_entry K)
/-- are_entries -/
noncomputable def B_are_entries (K : PySem.W.Frag) : SF := sSeq (sIf (tOrF (tNotF (tstV (eCall false (F_is_list K) (mSh (eVar 2) (mNil))))) (tstV (eOp2 dNe (eCB dLen (hCons (eVar 2) (hNil))) (eProp (He.ga K "Rate") false (F_Rate_size K) (eVar 0))))) (sRet (eK (.bl false))) (sNil))
    (sRet (eCB dAll (hCons (eLc [3] (itSeq (eVar 2)) (gVar 3) pYes (eCall false (F_is_entry K) (mSh (eVar 0) (mSh (eVar 1) (mSh (eVar 3) (mNil)))))) (hNil))))
noncomputable def F_are_entries (K : PySem.W.Frag) : FT := runF [false, false, false] false 4 (B_are_entries K)
/-- want_codes -/
noncomputable def B_want_codes (K : PySem.W.Frag) : SF := sSeq (sIf (tOrF (tNotF (tstV (eCall false (F_is_list K) (mSh (eVar 1) (mNil))))) (tstV (eOp2 dEq (eCB dLen (hCons (eVar 1) (hNil))) (eK (.int 0))))) (sNo) (sNil))
    (sFor (itEnum (aCons (eV (eVar 1)) (aNil))) (gTupF 2 (gsCons (gVar 2) (gsCons (gVar 3) (gsNil)))) (sIf (tNotF (tstV (eCall false (F_are_entries K) (mSh (eVar 0) (mSh (eCB dLen (hCons (eVar 1) (hNil))) (mSh (eVar 3) (mNil))))))) (sNo) (sNil)))
noncomputable def F_want_codes (K : PySem.W.Frag) : FT := runF [false, false] false 4 (B_want_codes K)
/-- states_met -/
noncomputable def B_states_met (K : PySem.W.Frag) : SF := sSeq (sPar [1, 2, 3] (pCons (eLst (aCons (eV (eK (.int 0))) (aNil))) (pCons (eDic1 (.int 0) (.bl true)) (pCons (eK (.int 0)) (pNil)))))
    (sSeq (sWhile (tstV (eOp2 (dI fun i j => .bl (decide (i < j))) (eVar 3) (eCB dLen (hCons (eVar 1) (hNil))))) (sSeq (sFor (itSeq (eOp2 dIx (eVar 0) (eOp2 dIx (eVar 1) (eVar 3)))) (gTupF 2 (gsCons (gVar 4) (gsCons (gVar 5) (gsNil)))) (sIf (tstV (eOp2 dNotIn (eVar 5) (eVar 2))) (sSeq (sPutD 2 (eVar 5) (eK (.bl true)))
    (sDrop (eAppend 1 (eVar 5)))) (sNil)))
    (sAug 3 (fun i j => i + j) (eK (.int 1)))) 2001)
    (sRet (eVar 1)))
noncomputable def F_states_met (K : PySem.W.Frag) : FT := runF [false] false 6 (B_states_met K)
/-- Coder.__init__ -/
noncomputable def B_Coder___init__ (K : PySem.W.Frag) : SF := sSeq (sDrop (eCall false (F_want_rate K) (mSh (eVar 1) (mNil))))
    (sSeq (sDrop (eCall false (F_want_codes K) (mSh (eVar 1) (mSh (eVar 2) (mNil)))))
    (sSeq (sIf (tOrF (tNotF (tstV (eCall false (F_is_row K) (mSh (eVar 3) (mNil))))) (tstV (eOp2 (dI fun i j => .bl (decide (j < i))) (eCB dLen (hCons (eVar 3) (hNil))) (eK (.int 2000))))) (sNo) (sNil))
    (sSeq (sIf (tstV (eOp2 (dI fun i j => .bl (decide (j < i))) (eOp2 dMulI (eCB dLen (hCons (eVar 2) (hNil))) (eProp (He.ga K "Rate") false (F_Rate_size K) (eVar 1))) (eK (.int 2000)))) (sNo) (sNil))
    (sSeq (sAsg 4 (eCall false (F_states_met K) (mSh (eVar 2) (mNil))))
    (sSeq (sAsg 5 (eDc [6, 7] (itEnum (aCons (eV (eVar 4)) (aNil))) (gTupF 2 (gsCons (gVar 6) (gsCons (gVar 7) (gsNil)))) (eVar 7) (eVar 6)))
    (sSeq (sFldS (He.ga K "Coder") 0 "own_rate" (eVar 1))
    (sSeq (sFldS (He.ga K "Coder") 0 "own_lead" (eVar 3))
    (sFldS (He.ga K "Coder") 0 "own_codes" (eLc [7] (itSeq (eVar 4)) (gVar 7) pYes (eLc [8, 9] (itSeq (eOp2 dIx (eVar 2) (eVar 7))) (gTupF 2 (gsCons (gVar 8) (gsCons (gVar 9) (gsNil)))) pYes (eTup (aCons (eV (eVar 8)) (aCons (eV (eOp2 dIx (eVar 5) (eVar 9))) (aNil))))))))))))))
noncomputable def F_Coder___init__ (K : PySem.W.Frag) : FT := runF [true, false, false, false] false 10 (B_Coder___init__ K)
/-- Rate.__init__ -/
noncomputable def B_Rate___init__ (K : PySem.W.Frag) : SF := sSeq (sFor (itTup (eTup (aCons (eV (eVar 1)) (aCons (eV (eVar 2)) (aNil))))) (gVar 3) (sIf (tOrF (tNotF (tstV (eCall false (F_is_integer K) (mSh (eVar 3) (mNil))))) (tNotF (tstV (eChain (fun i j => decide (i ≤ j)) (fun i j => decide (i ≤ j)) (eK (.int 1)) (eVar 3) (eK (.int 6)))))) (sNo) (sNil)))
    (sSeq (sFldS (He.ga K "Rate") 0 "rate_bits" (eVar 1))
    (sFldS (He.ga K "Rate") 0 "rate_signs" (eVar 2)))
noncomputable def F_Rate___init__ (K : PySem.W.Frag) : FT := runF [true, false, false] false 4 (B_Rate___init__ K)
/-- want_coder -/
noncomputable def B_want_coder (K : PySem.W.Frag) : SF := sIf (tNotF (tstV (eCB (dIsi [.ref (He.ga K "Coder")] (okC (He.ga K "Coder")) fun _ => true) (hCons (eVar 0) (hCons (eK (.obj (He.ga K "Coder"))) (hNil)))))) (sNo) (sNil)
noncomputable def F_want_coder (K : PySem.W.Frag) : FT := runF [false] false 1 (B_want_coder K)
/-- want_row -/
noncomputable def B_want_row (K : PySem.W.Frag) : SF := sIf (tOrF (tNotF (tstV (eCall false (F_is_row K) (mSh (eVar 0) (mNil))))) (tstV (eOp2 (dI fun i j => .bl (decide (j < i))) (eCB dLen (hCons (eVar 0) (hNil))) (eK (.int 2000))))) (sNo) (sNil)
noncomputable def F_want_row (K : PySem.W.Frag) : FT := runF [false] false 1 (B_want_row K)
/-- Coder.rate -/
noncomputable def B_Coder_rate (K : PySem.W.Frag) : SF := sRet (eFld (He.ga K "Coder") "own_rate" (eVar 0))
noncomputable def F_Coder_rate (K : PySem.W.Frag) : FT := runF [false] false 1 (B_Coder_rate K)
/-- Coder.lead -/
noncomputable def B_Coder_lead (K : PySem.W.Frag) : SF := sRet (eFld (He.ga K "Coder") "own_lead" (eVar 0))
noncomputable def F_Coder_lead (K : PySem.W.Frag) : FT := runF [false] false 1 (B_Coder_lead K)
/-- Coder.codes -/
noncomputable def B_Coder_codes (K : PySem.W.Frag) : SF := sRet (eLc [1] (itSeq (eFld (He.ga K "Coder") "own_codes" (eVar 0))) (gVar 1) pYes (eCB dList (hCons (eVar 1) (hNil))))
noncomputable def F_Coder_codes (K : PySem.W.Frag) : FT := runF [false] false 2 (B_Coder_codes K)
/-- still_open -/
noncomputable def B_still_open (K : PySem.W.Frag) : SF := sSeq (sDrop (eCall false (F_want_coder K) (mSh (eVar 0) (mNil))))
    (sSeq (sDrop (eCall false (F_want_row K) (mSh (eVar 1) (mNil))))
    (sSeq (sPar [2, 3] (pCons (eCB dLen (hCons (eProp (He.ga K "Coder") false (F_Coder_lead K) (eVar 0)) (hNil))) (pCons (eProp (He.ga K "Rate") false (F_Rate_q K) (eProp (He.ga K "Coder") false (F_Coder_rate K) (eVar 0))) (pNil))))
    (sSeq (sIf (tOrF (tNotF (tstV (eM1 dStarts (eVar 1) (eProp (He.ga K "Coder") false (F_Coder_lead K) (eVar 0))))) (tstV (eOp2 dNe (eOp2 (dIc (fun _ j => 0 < j) fun i j => i % j) (eOp2 (dI fun i j => .int (i - j)) (eCB dLen (hCons (eVar 1) (hNil))) (eVar 2)) (eVar 3)) (eK (.int 0))))) (sRet (eK (.int 0))) (sNil))
    (sSeq (sPar [4, 5] (pCons (eMeth (He.ga K "Coder") "codes" false (F_Coder_codes K) [] (eVar 0) aNil) (pCons (eDic1 (.int 0) (.int 1)) (pNil))))
    (sSeq (sFor (itRng3 (aCons (eV (eVar 2)) (aCons (eV (eCB dLen (hCons (eVar 1) (hNil)))) (aCons (eV (eVar 3)) (aNil))))) (gVar 6) (sSeq (sPar [7, 8] (pCons (eSl (eVar 1) (oSome (eVar 6)) (oSome (eOp2 dAdd (eVar 6) (eVar 3)))) (pCons (eDic0) (pNil))))
    (sSeq (sForD itemsD 5 (gTupF 2 (gsCons (gVar 9) (gsCons (gVar 10) (gsNil)))) (sFor (itSeq (eOp2 dIx (eVar 4) (eVar 9))) (gTupF 2 (gsCons (gVar 11) (gsCons (gVar 12) (gsNil)))) (sIf (tstV (eOp2 dEq (eVar 11) (eVar 7))) (sPutD 8 (eVar 12) (eOp2 dAdd (eDGet2 (eVar 8) (eVar 12) (eK (.int 0))) (eVar 10))) (sNil))))
    (sAsg 5 (eVar 8)))))
    (sRet (eSumV (eVar 5))))))))
noncomputable def F_still_open (K : PySem.W.Frag) : FT := runF [false, false] false 13 (B_still_open K)
/-- _law_draw -/
noncomputable def B__law_draw (K : PySem.W.Frag) : SF := sSeq (sIf (tstV (eOp2 (dI fun i j => .bl (decide (j < i))) (eOp2 dIx (eVar 0) (eK (.int 0))) (eK (.int 0)))) (sSeq (sDraw 0 2 (eDivmod (hCons (eOp2 dIx (eVar 0) (eK (.int 0))) (hCons (eVar 1) (hNil)))))
    (sRet (eVar 2))) (sNil))
    (sSeq (sSetL 0 (eK (.int 1)) (eOp2 (dIc (fun _ j => 0 < j) fun i j => i % j) (eCB dInt (hCons (eOp2 dAdd (eOp2 dMulI (eOp2 dIx (eVar 0) (eK (.int 1))) (eK (.int 41201))) (eK (.int 12347))) (hNil))) (eK (.int 2147483587))))
    (sRet (eOp2 (dIc (fun _ j => 0 < j) fun i j => i % j) (eCB dInt (hCons (eOp2 (dIc CDiv fun i j => i / j) (eOp2 (dIc (fun _ j => 0 < j) fun i j => i % j) (eCB dInt (hCons (eOp2 dMulI (eOp2 dIx (eVar 0) (eK (.int 1))) (eOp2 dIx (eVar 0) (eK (.int 1)))) (hNil))) (eK (.int 2147483549))) (eK (.int 13))) (hNil))) (eVar 1))))
noncomputable def F__law_draw (K : PySem.W.Frag) : FT := runF [true, false] false 3 (B__law_draw K)
/-- _law_pick -/
noncomputable def B__law_pick (K : PySem.W.Frag) : SF := sRet (eOp2 dIx (eVar 1) (eCall false (F__law_draw K) (mIo (eVar 0) (mSh (eCB dLen (hCons (eVar 1) (hNil))) (mNil)))))
noncomputable def F__law_pick (K : PySem.W.Frag) : FT := runF [true, false] false 2 (B__law_pick K)
/-- _law_pick -/
noncomputable def B__law_pick_io11 (K : PySem.W.Frag) : SF := sRet (eOp2 dIx (eVar 1) (eCall false (F__law_draw K) (mIo (eVar 0) (mSh (eCB dLen (hCons (eVar 1) (hNil))) (mNil)))))
noncomputable def F__law_pick_io11 (K : PySem.W.Frag) : FT := runF [true, true] false 2 (B__law_pick_io11 K)
/-- _law_codes -/
noncomputable def B__law_codes (K : PySem.W.Frag) : SF := sSeq (sAsg 5 (eLst (aNil)))
    (sSeq (sFor (itRng1 (aCons (eV (eVar 3)) (aNil))) (gVar 6) (sSeq (sAsg 7 (eLst (aNil)))
    (sSeq (sFor (itRng1 (aCons (eV (eVar 1)) (aNil))) (gVar 8) (sSeq (sAsg 9 (eM1 dJoin (eK (.str "")) (eLc [10] (itRng1 (aCons (eV (eVar 2)) (aNil))) (gVar 10) pYes (eCall false (F__law_pick K) (mIo (eVar 0) (mSh (eVar 4) (mNil)))))))
    (sSeq (sIf (tAndF (tstV (eOp2 dNe (eVar 7) (eLst (aNil)))) (tstV (eOp2 dEq (eCall false (F__law_draw K) (mIo (eVar 0) (mSh (eK (.int 4)) (mNil)))) (eK (.int 0))))) (sAsg 9 (eOp2 dIx (eCall false (F__law_pick_io11 K) (mIo (eVar 0) (mIo (eVar 7) (mNil)))) (eK (.int 0)))) (sNil))
    (sDrop (eAppend 7 (eTup (aCons (eV (eVar 9)) (aCons (eV (eCall false (F__law_draw K) (mIo (eVar 0) (mSh (eVar 3) (mNil))))) (aNil)))))))))
    (sDrop (eAppend 5 (eVar 7))))))
    (sRet (eVar 5)))
noncomputable def F__law_codes (K : PySem.W.Frag) : FT := runF [true, false, false, false, false] false 11 (B__law_codes K)
/-- _law_kept -/
noncomputable def B__law_kept (K : PySem.W.Frag) : SF := sSeq (sPar [1, 2] (pCons (eLst (aCons (eV (eK (.int 0))) (aNil))) (pCons (eK (.int 0)) (pNil))))
    (sSeq (sWhile (tstV (eOp2 (dI fun i j => .bl (decide (i < j))) (eVar 2) (eCB dLen (hCons (eVar 1) (hNil))))) (sSeq (sFor (itSeq (eOp2 dIx (eVar 0) (eOp2 dIx (eVar 1) (eVar 2)))) (gTupF 2 (gsCons (gVar 3) (gsCons (gVar 4) (gsNil)))) (sIf (tstV (eOp2 dNotIn (eVar 4) (eVar 1))) (sDrop (eAppend 1 (eVar 4))) (sNil)))
    (sAsg 2 (eOp2 dAdd (eVar 2) (eK (.int 1))))) 2001)
    (sRet (eLc [5] (itSeq (eVar 1)) (gVar 5) pYes (eLc [3, 4] (itSeq (eOp2 dIx (eVar 0) (eVar 5))) (gTupF 2 (gsCons (gVar 3) (gsCons (gVar 4) (gsNil)))) pYes (eTup (aCons (eV (eVar 3)) (aCons (eV (eIndex (eVar 1) (eVar 4))) (aNil))))))))
noncomputable def F__law_kept (K : PySem.W.Frag) : FT := runF [false] false 6 (B__law_kept K)
/-- _law_run -/
noncomputable def B__law_run (K : PySem.W.Frag) : SF := sSeq (sPar [3, 4] (pCons (eVar 1) (pCons (eK (.int 0)) (pNil))))
    (sSeq (sFor (itSeq (eVar 2)) (gVar 5) (sSeq (sAsgT (gTupF 2 (gsCons (gVar 6) (gsCons (gVar 4) (gsNil)))) (eOp2 dIx (eOp2 dIx (eVar 0) (eVar 4)) (eVar 5)))
    (sAsg 3 (eOp2 dAdd (eVar 3) (eVar 6)))))
    (sRet (eTup (aCons (eV (eVar 3)) (aCons (eV (eVar 4)) (aNil))))))
noncomputable def F__law_run (K : PySem.W.Frag) : FT := runF [false, false, false] false 7 (B__law_run K)
/-- _law_texts -/
noncomputable def B__law_texts (K : PySem.W.Frag) : SF := sSeq (sAsg 2 (eLst (aCons (eV (eLst (aNil))) (aNil))))
    (sSeq (sFor (itRng1 (aCons (eV (eVar 1)) (aNil))) (gVar 3) (sSeq (sAsg 4 (eLst (aNil)))
    (sSeq (sFor (itSeq (eVar 2)) (gVar 5) (sDrop (eExtend 4 (eLc [6] (itRng1 (aCons (eV (eVar 0)) (aNil))) (gVar 6) pYes (eOp2 dAdd (eVar 5) (eLst (aCons (eV (eVar 6)) (aNil))))))))
    (sAsg 2 (eVar 4)))))
    (sRet (eVar 2)))
noncomputable def F__law_texts (K : PySem.W.Frag) : FT := runF [false, false] false 7 (B__law_texts K)
/-- _law_table -/
noncomputable def B__law_table (K : PySem.W.Frag) : SF := sSeq (sAsg 4 (eDic0))
    (sSeq (sFor (itRng1 (aCons (eV (eOp2 dAdd (eVar 3) (eK (.int 1)))) (aNil))) (gVar 5) (sFor (itSeq (eCall false (F__law_texts K) (mSh (eVar 2) (mSh (eVar 5) (mNil))))) (gVar 6) (sSeq (sAsg 7 (eOp2 dIx (eCall false (F__law_run K) (mSh (eVar 0) (mSh (eVar 1) (mSh (eVar 6) (mNil))))) (eK (.int 0))))
    (sPutD 4 (eVar 7) (eOp2 dAdd (eDGet2 (eVar 4) (eVar 7) (eK (.int 0))) (eK (.int 1)))))))
    (sRet (eVar 4)))
noncomputable def F__law_table (K : PySem.W.Frag) : FT := runF [false, false, false, false] false 8 (B__law_table K)
/-- _law_spoilt -/
noncomputable def B__law_spoilt (K : PySem.W.Frag) : SF := sSeq (sPar [3, 4] (pCons (eCall false (F__law_draw K) (mIo (eVar 0) (mSh (eK (.int 5)) (mNil)))) (pCons (eCall false (F__law_draw K) (mIo (eVar 0) (mSh (eOp2 dAdd (eCB dLen (hCons (eVar 1) (hNil))) (eK (.int 1))) (mNil)))) (pNil))))
    (sSeq (sIf (tstV (eOp2 dEq (eVar 3) (eK (.int 0)))) (sRet (eOp2 dAdd (eOp2 dAdd (eSl (eVar 1) (oNone) (oSome (eVar 4))) (eCall false (F__law_pick K) (mIo (eVar 0) (mSh (eVar 2) (mNil))))) (eSl (eVar 1) (oSome (eVar 4)) (oNone)))) (sNil))
    (sSeq (sIf (tstV (eOp2 dEq (eVar 3) (eK (.int 1)))) (sRet (eOp2 dAdd (eSl (eVar 1) (oNone) (oSome (eVar 4))) (eSl (eVar 1) (oSome (eOp2 dAdd (eVar 4) (eK (.int 1)))) (oNone)))) (sNil))
    (sSeq (sIf (tstV (eOp2 dEq (eVar 3) (eK (.int 2)))) (sRet (eOp2 dAdd (eOp2 dAdd (eSl (eVar 1) (oNone) (oSome (eVar 4))) (eCall false (F__law_pick K) (mIo (eVar 0) (mSh (eVar 2) (mNil))))) (eSl (eVar 1) (oSome (eOp2 dAdd (eVar 4) (eK (.int 1)))) (oNone)))) (sNil))
    (sSeq (sIf (tstV (eOp2 dEq (eVar 3) (eK (.int 3)))) (sRet (eSl (eVar 1) (oNone) (oSome (eVar 4)))) (sNil))
    (sRet (eM1 dJoin (eK (.str "")) (eLc [5] (itRng1 (aCons (eV (eCB dLen (hCons (eVar 1) (hNil)))) (aNil))) (gVar 5) pYes (eCall false (F__law_pick K) (mIo (eVar 0) (mSh (eVar 2) (mNil)))))))))))
noncomputable def F__law_spoilt (K : PySem.W.Frag) : FT := runF [true, false, false] false 6 (B__law_spoilt K)
/-- _law_coder_right -/
noncomputable def B__law_coder_right (K : PySem.W.Frag) : SF := sSeq (sAsg 6 (eOp2 dIx (eLst (aCons (eV (eK (.int 4))) (aCons (eV (eK (.int 2))) (aNil)))) (eCB dInt (hCons (eOp2 (dI fun i j => .bl (decide (j < i))) (eVar 4) (eK (.int 2))) (hNil)))))
    (sSeq (sPar [7, 8] (pCons (eCall false (F__law_table K) (mSh (eVar 2) (mSh (eVar 3) (mSh (eVar 4) (mSh (eVar 6) (mNil)))))) (pCons (eOp2 dAdd (eCB dLen (hCons (eVar 3) (hNil))) (eOp2 dMulI (eVar 5) (eVar 6))) (pNil))))
    (sSeq (sForD (fun ks _ => keysD ks) 7 (gVar 9) (sSeq (sIf (tstV (eOp2 dNe (eCall false (F_still_open K) (mSh (eVar 1) (mSh (eVar 9) (mNil)))) (eOp2 dIx (eVar 7) (eVar 9)))) (sRet (eK (.bl false))) (sNil))
    (sFor (itRng1 (aCons (eV (eK (.int 2))) (aNil))) (gVar 10) (sSeq (sAsg 11 (eCall false (F__law_spoilt K) (mIo (eVar 0) (mSh (eVar 9) (mSh (eK (.str "abcd")) (mNil))))))
    (sIf (tAndF (tstV (eOp2 (dI fun i j => .bl (decide (i ≤ j))) (eCB dLen (hCons (eVar 11) (hNil))) (eVar 8))) (tstV (eOp2 dNe (eCallSw false (F_still_open K) (aCons (eV (eVar 11)) (aCons (eV (eVar 1)) (aNil)))) (eDGet2 (eVar 7) (eVar 11) (eK (.int 0)))))) (sRet (eK (.bl false))) (sNil))))))
    (sSeq (sFor (itRng1 (aCons (eV (eOp2 dAdd (eVar 6) (eK (.int 1)))) (aNil))) (gVar 12) (sSeq (sAsg 13 (eLcD [9] (fun ks _ => keysD ks) 7 (gVar 9) (tstV (eOp2 dEq (eCB dLen (hCons (eVar 9) (hNil))) (eOp2 dAdd (eCB dLen (hCons (eVar 3) (hNil))) (eOp2 dMulI (eVar 5) (eVar 12))))) (eCall false (F_still_open K) (mSh (eVar 1) (mSh (eVar 9) (mNil))))))
    (sIf (tstV (eOp2 dNe (eCB dSum (hCons (eVar 13) (hNil))) (eCB dLen (hCons (eCall false (F__law_texts K) (mSh (eVar 4) (mSh (eVar 12) (mNil)))) (hNil))))) (sRet (eK (.bl false))) (sNil))))
    (sRet (eCB dAll (hCons (eLc [14] (itRng1 (aCons (eV (eCB dLen (hCons (eVar 3) (hNil)))) (aNil))) (gVar 14) pYes (eOp2 dEq (eCall false (F_still_open K) (mSh (eVar 1) (mSh (eSl (eVar 3) (oNone) (oSome (eVar 14))) (mNil)))) (eK (.int 0)))) (hNil)))))))
noncomputable def F__law_coder_right (K : PySem.W.Frag) : FT := runF [true, false, false, false, false, false] false 15 (B__law_coder_right K)
/-- _law_right -/
noncomputable def B__law_right (K : PySem.W.Frag) : SF := sSeq (sPar [1, 2] (pCons (eOp2 dAdd (eK (.int 1)) (eCall false (F__law_draw K) (mIo (eVar 0) (mSh (eK (.int 2)) (mNil))))) (pCons (eOp2 dAdd (eK (.int 1)) (eCall false (F__law_draw K) (mIo (eVar 0) (mSh (eK (.int 3)) (mNil))))) (pNil))))
    (sSeq (sPar [3, 4] (pCons (eOp2 dIx (eLst (aCons (eV (eK (.int 2))) (aCons (eV (eK (.int 4))) (aNil)))) (eOp2 (dI fun i j => .int (i - j)) (eVar 1) (eK (.int 1)))) (pCons (eCall false (F__law_pick K) (mIo (eVar 0) (mSh (eLst (aCons (eV (eK (.str "ab"))) (aCons (eV (eK (.str "ab"))) (aCons (eV (eK (.str "abc"))) (aNil))))) (mNil)))) (pNil))))
    (sSeq (sFor (itRng1 (aCons (eV (eK (.int 3))) (aNil))) (gVar 5) (sSeq (sAsg 6 (eCall false (F__law_codes K) (mIo (eVar 0) (mSh (eVar 3) (mSh (eVar 2) (mSh (eOp2 dAdd (eK (.int 1)) (eCall false (F__law_draw K) (mIo (eVar 0) (mSh (eK (.int 5)) (mNil))))) (mSh (eVar 4) (mNil))))))))
    (sSeq (sAsg 7 (eM1 dJoin (eK (.str "")) (eLc [8] (itRng1 (aCons (eV (eCall false (F__law_draw K) (mIo (eVar 0) (mSh (eK (.int 4)) (mNil))))) (aNil))) (gVar 8) pYes (eCall false (F__law_pick K) (mIo (eVar 0) (mSh (eVar 4) (mNil)))))))
    (sSeq (sPar [9, 10] (pCons (eMake (He.ga K "Coder") (F_Coder___init__ K) [] (aCons (eV (eMake (He.ga K "Rate") (F_Rate___init__ K) [] (aCons (eV (eVar 1)) (aCons (eV (eVar 2)) (aNil))))) (aCons (eV (eVar 6)) (aCons (eV (eVar 7)) (aNil))))) (pCons (eCall false (F__law_kept K) (mSh (eVar 6) (mNil))) (pNil))))
    (sIf (tOrF (tNotF (tstV (eCall false (F__law_coder_right K) (mIo (eVar 0) (mSh (eVar 9) (mSh (eVar 10) (mSh (eVar 7) (mSh (eVar 3) (mSh (eVar 2) (mNil)))))))))) (tstV (eOp2 dNe (eMeth (He.ga K "Coder") "codes" false (F_Coder_codes K) [] (eVar 9) aNil) (eVar 10)))) (sRet (eK (.bl false))) (sNil))))))
    (sRet (eK (.bl true)))))
noncomputable def F__law_right (K : PySem.W.Frag) : FT := runF [true] false 11 (B__law_right K)
/-- _law_pot -/
noncomputable def B__law_pot (K : PySem.W.Frag) : SF := sSeq (sAsg 2 (eOp2 dAdd (eOp2 dMulI (eK (.int 31)) (eVar 1)) (eK (.int 19))))
    (sSeq (sIf (tstV (eOp2 (dI fun i j => .bl (decide (i < j))) (eVar 1) (eCB dLen (hCons (eVar 0) (hNil))))) (sAsg 2 (eCB dAbs (hCons (eOp2 dIx (eVar 0) (eVar 1)) (hNil)))) (sNil))
    (sRet (eLst (aCons (eV (eCB dMax (hCons (eK (.int 0)) (hCons (eOp2 (dI fun i j => .int (i - j)) (eVar 2) (eOp2 (dIc CPow fun i j => i ^ j.toNat) (eK (.int 10)) (eK (.int 18)))) (hNil))))) (aCons (eV (eOp2 dAdd (eOp2 (dIc (fun _ j => 0 < j) fun i j => i % j) (eOp2 dMulI (eCB dInt (hCons (eOp2 dAdd (eOp2 (dIc (fun _ j => 0 < j) fun i j => i % j) (eCB dInt (hCons (eVar 2) (hNil))) (eK (.int 2147483549))) (eK (.int 13))) (hNil))) (eOp2 (dIc CPow fun i j => i ^ j.toNat) (eOp2 dAdd (eOp2 dMulI (eK (.int 2)) (eVar 1)) (eK (.int 5))) (eK (.int 3)))) (eK (.int 2147483477))) (eK (.int 1)))) (aNil))))))
noncomputable def F__law_pot (K : PySem.W.Frag) : FT := runF [false, false] true 3 (B__law_pot K)
/-- law -/
noncomputable def B_law (K : PySem.W.Frag) : SF := sSeq (sPar [1, 2] (pCons (eMake (He.ga K "Coder") (F_Coder___init__ K) [] (aCons (eV (eMake (He.ga K "Rate") (F_Rate___init__ K) [] (aCons (eV (eK (.int 1))) (aCons (eV (eK (.int 1))) (aNil))))) (aCons (eV (eLst (aCons (eV (eLst (aCons (eV (eTup (aCons (eV (eK (.str "a"))) (aCons (eV (eK (.int 0))) (aNil))))) (aCons (eV (eTup (aCons (eV (eK (.str "a"))) (aCons (eV (eK (.int 0))) (aNil))))) (aNil))))) (aNil)))) (aCons (eV (eK (.str "b"))) (aNil))))) (pCons (eK (.int 1)) (pNil))))
    (sSeq (sFor (itRng1 (aCons (eV (eK (.int 1999))) (aNil))) (gVar 3) (sAsg 2 (eOp2 dMulI (eVar 2) (eK (.int 2)))))
    (sSeq (sIf (tOrF (tstV (eOp2 dNe (eCall false (F_still_open K) (mSh (eVar 1) (mSh (eOp2 dAdd (eK (.str "b")) (eOp2 dStrMul (eK (.str "a")) (eK (.int 1999)))) (mNil)))) (eVar 2))) (tOrF (tstV (eOp2 dNe (eCall false (F_still_open K) (mSh (eVar 1) (mSh (eOp2 dStrMul (eK (.str "a")) (eK (.int 300))) (mNil)))) (eK (.int 0)))) (tstV (eOp2 dNe (eCall false (F_still_open K) (mSh (eVar 1) (mSh (eK (.str "")) (mNil)))) (eK (.int 0)))))) (sRet (eK (.bl false))) (sNil))
    (sRet (eCB dAll (hCons (eLc [4] (itRng1 (aCons (eV (eCB dMax (hCons (eK (.int 1)) (hCons (eCB dMin (hCons (eK (.int 4)) (hCons (eCB dLen (hCons (eVar 0) (hNil))) (hNil)))) (hNil))))) (aNil))) (gVar 4) pYes (eCall false (F__law_right K) (mIo (eCall true (F__law_pot K) (mSh (eVar 0) (mSh (eVar 4) (mNil)))) (mNil)))) (hNil))))))
noncomputable def F_law (K : PySem.W.Frag) : FT := runF [false] false 5 (B_law K)
def top (i : Nat) : Stmt := PySem.Challenge.pw_barredrows_k83_whole_texts_still_open.main.body.getD i (.Pass ⟨0, 0, 0, 0⟩)
structure M (K : PySem.W.Frag) (mg : Str → Option Value) where
  fd_want_rate : FuncData
  F_want_rate : FunD K "want_rate" "want_rate" (defArgs (top 25)) (defBody (top 25)) (defScope (top 25)) [] [] (He.ga K "want_rate") fd_want_rate
  fd_is_list : FuncData
  F_is_list : FunD K "is_list" "is_list" (defArgs (top 18)) (defBody (top 18)) (defScope (top 18)) [] [] (He.ga K "is_list") fd_is_list
  fd_Rate_size : FuncData
  F_Rate_size : FunD K "size" "Rate.size" (defArgs (inClass (top 24) 3)) (defBody (inClass (top 24) 3)) (defScope (inClass (top 24) 3)) [] [] (He5.wf K (He.ga K "Rate") "property" "size") fd_Rate_size
  fd_is_row : FuncData
  F_is_row : FunD K "is_row" "is_row" (defArgs (top 19)) (defBody (top 19)) (defScope (top 19)) [] [] (He.ga K "is_row") fd_is_row
  fd_Rate_q : FuncData
  F_Rate_q : FunD K "q" "Rate.q" (defArgs (inClass (top 24) 2)) (defBody (inClass (top 24) 2)) (defScope (inClass (top 24) 2)) [] [] (He5.wf K (He.ga K "Rate") "property" "q") fd_Rate_q
  fd_is_block_of : FuncData
  F_is_block_of : FunD K "is_block_of" "is_block_of" (defArgs (top 31)) (defBody (top 31)) (defScope (top 31)) [] [] (He.ga K "is_block_of") fd_is_block_of
  fd_is_integer : FuncData
  F_is_integer : FunD K "is_integer" "is_integer" (defArgs (top 16)) (defBody (top 16)) (defScope (top 16)) [] [] (He.ga K "is_integer") fd_is_integer
  fd_is_count : FuncData
  F_is_count : FunD K "is_count" "is_count" (defArgs (top 17)) (defBody (top 17)) (defScope (top 17)) [] [] (He.ga K "is_count") fd_is_count
  fd_is_entry : FuncData
  F_is_entry : FunD K "is_entry" "is_entry" (defArgs (top 33)) (defBody (top 33)) (defScope (top 33)) [] [] (He.ga K "is_entry") fd_is_entry
  fd_are_entries : FuncData
  F_are_entries : FunD K "are_entries" "are_entries" (defArgs (top 34)) (defBody (top 34)) (defScope (top 34)) [] [] (He.ga K "are_entries") fd_are_entries
  fd_want_codes : FuncData
  F_want_codes : FunD K "want_codes" "want_codes" (defArgs (top 35)) (defBody (top 35)) (defScope (top 35)) [] [] (He.ga K "want_codes") fd_want_codes
  fd_states_met : FuncData
  F_states_met : FunD K "states_met" "states_met" (defArgs (top 36)) (defBody (top 36)) (defScope (top 36)) [] [] (He.ga K "states_met") fd_states_met
  fd_Coder___init__ : FuncData
  F_Coder___init__ : FunD K "__init__" "Coder.__init__" (defArgs (inClass (top 40) 1)) (defBody (inClass (top 40) 1)) (defScope (inClass (top 40) 1)) [.str ""] [] (He.ma K (He.ga K "Coder") "__init__") fd_Coder___init__
  fd_Rate___init__ : FuncData
  F_Rate___init__ : FunD K "__init__" "Rate.__init__" (defArgs (inClass (top 24) 0)) (defBody (inClass (top 24) 0)) (defScope (inClass (top 24) 0)) [] [] (He.ma K (He.ga K "Rate") "__init__") fd_Rate___init__
  fd_want_coder : FuncData
  F_want_coder : FunD K "want_coder" "want_coder" (defArgs (top 29)) (defBody (top 29)) (defScope (top 29)) [] [] (He.ga K "want_coder") fd_want_coder
  fd_want_row : FuncData
  F_want_row : FunD K "want_row" "want_row" (defArgs (top 20)) (defBody (top 20)) (defScope (top 20)) [] [] (He.ga K "want_row") fd_want_row
  fd_Coder_rate : FuncData
  F_Coder_rate : FunD K "rate" "Coder.rate" (defArgs (inClass (top 40) 2)) (defBody (inClass (top 40) 2)) (defScope (inClass (top 40) 2)) [] [] (He5.wf K (He.ga K "Coder") "property" "rate") fd_Coder_rate
  fd_Coder_lead : FuncData
  F_Coder_lead : FunD K "lead" "Coder.lead" (defArgs (inClass (top 40) 3)) (defBody (inClass (top 40) 3)) (defScope (inClass (top 40) 3)) [] [] (He5.wf K (He.ga K "Coder") "property" "lead") fd_Coder_lead
  fd_Coder_codes : FuncData
  F_Coder_codes : FunD K "codes" "Coder.codes" (defArgs (inClass (top 40) 5)) (defBody (inClass (top 40) 5)) (defScope (inClass (top 40) 5)) [] [] (He.ma K (He.ga K "Coder") "codes") fd_Coder_codes
  fd_still_open : FuncData
  F_still_open : FunD K "still_open" "still_open" (defArgs (top 42)) (defBody (top 42)) (defScope (top 42)) [] [] (He.ga K "still_open") fd_still_open
  fd__law_draw : FuncData
  F__law_draw : FunD K "_law_draw" "_law_draw" (defArgs (top 45)) (defBody (top 45)) (defScope (top 45)) [] [] (He.ga K "_law_draw") fd__law_draw
  fd__law_pick : FuncData
  F__law_pick : FunD K "_law_pick" "_law_pick" (defArgs (top 46)) (defBody (top 46)) (defScope (top 46)) [] [] (He.ga K "_law_pick") fd__law_pick
  fd__law_codes : FuncData
  F__law_codes : FunD K "_law_codes" "_law_codes" (defArgs (top 47)) (defBody (top 47)) (defScope (top 47)) [] [] (He.ga K "_law_codes") fd__law_codes
  fd__law_kept : FuncData
  F__law_kept : FunD K "_law_kept" "_law_kept" (defArgs (top 48)) (defBody (top 48)) (defScope (top 48)) [] [] (He.ga K "_law_kept") fd__law_kept
  fd__law_run : FuncData
  F__law_run : FunD K "_law_run" "_law_run" (defArgs (top 49)) (defBody (top 49)) (defScope (top 49)) [] [] (He.ga K "_law_run") fd__law_run
  fd__law_texts : FuncData
  F__law_texts : FunD K "_law_texts" "_law_texts" (defArgs (top 50)) (defBody (top 50)) (defScope (top 50)) [] [] (He.ga K "_law_texts") fd__law_texts
  fd__law_table : FuncData
  F__law_table : FunD K "_law_table" "_law_table" (defArgs (top 51)) (defBody (top 51)) (defScope (top 51)) [] [] (He.ga K "_law_table") fd__law_table
  fd__law_spoilt : FuncData
  F__law_spoilt : FunD K "_law_spoilt" "_law_spoilt" (defArgs (top 52)) (defBody (top 52)) (defScope (top 52)) [] [] (He.ga K "_law_spoilt") fd__law_spoilt
  fd__law_coder_right : FuncData
  F__law_coder_right : FunD K "_law_coder_right" "_law_coder_right" (defArgs (top 53)) (defBody (top 53)) (defScope (top 53)) [] [] (He.ga K "_law_coder_right") fd__law_coder_right
  fd__law_right : FuncData
  F__law_right : FunD K "_law_right" "_law_right" (defArgs (top 54)) (defBody (top 54)) (defScope (top 54)) [] [] (He.ga K "_law_right") fd__law_right
  fd__law_pot : FuncData
  F__law_pot : FunD K "_law_pot" "_law_pot" (defArgs (top 44)) (defBody (top 44)) (defScope (top 44)) [] [] (He.ga K "_law_pot") fd__law_pot
  fd_law : FuncData
  F_law : FunD K "law" "law" (defArgs (top 55)) (defBody (top 55)) (defScope (top 55)) [] [] (He.ga K "law") fd_law
  g_want_rate : mg "want_rate" = some (.ref (He.ga K "want_rate"))
  g_Rate : mg "Rate" = some (.ref (He.ga K "Rate"))
  g_want_codes : mg "want_codes" = some (.ref (He.ga K "want_codes"))
  g_is_list : mg "is_list" = some (.ref (He.ga K "is_list"))
  g_are_entries : mg "are_entries" = some (.ref (He.ga K "are_entries"))
  g_is_entry : mg "is_entry" = some (.ref (He.ga K "is_entry"))
  g_is_block_of : mg "is_block_of" = some (.ref (He.ga K "is_block_of"))
  g_is_row : mg "is_row" = some (.ref (He.ga K "is_row"))
  g_is_count : mg "is_count" = some (.ref (He.ga K "is_count"))
  g_is_integer : mg "is_integer" = some (.ref (He.ga K "is_integer"))
  g_Coder : mg "Coder" = some (.ref (He.ga K "Coder"))
  g_states_met : mg "states_met" = some (.ref (He.ga K "states_met"))
  g_still_open : mg "still_open" = some (.ref (He.ga K "still_open"))
  g_want_coder : mg "want_coder" = some (.ref (He.ga K "want_coder"))
  g_want_row : mg "want_row" = some (.ref (He.ga K "want_row"))
  g__law_right : mg "_law_right" = some (.ref (He.ga K "_law_right"))
  g__law_draw : mg "_law_draw" = some (.ref (He.ga K "_law_draw"))
  g__law_pick : mg "_law_pick" = some (.ref (He.ga K "_law_pick"))
  g__law_codes : mg "_law_codes" = some (.ref (He.ga K "_law_codes"))
  g__law_kept : mg "_law_kept" = some (.ref (He.ga K "_law_kept"))
  g__law_coder_right : mg "_law_coder_right" = some (.ref (He.ga K "_law_coder_right"))
  g__law_table : mg "_law_table" = some (.ref (He.ga K "_law_table"))
  g__law_run : mg "_law_run" = some (.ref (He.ga K "_law_run"))
  g__law_texts : mg "_law_texts" = some (.ref (He.ga K "_law_texts"))
  g__law_spoilt : mg "_law_spoilt" = some (.ref (He.ga K "_law_spoilt"))
  g__law_pot : mg "_law_pot" = some (.ref (He.ga K "_law_pot"))
  g_law : mg "law" = some (.ref (He.ga K "law"))
  f_isinstance : mg "isinstance" = none
  f_tuple : mg "tuple" = none
  f_list : mg "list" = none
  f_len : mg "len" = none
  f_all : mg "all" = none
  f_str : mg "str" = none
  f_int : mg "int" = none
  f_bool : mg "bool" = none
  f_enumerate : mg "enumerate" = none
  f_range : mg "range" = none
  f_sum : mg "sum" = none
  f_max : mg "max" = none
  f_min : mg "min" = none
  f_divmod : mg "divmod" = none
  f_abs : mg "abs" = none
  i_MOST_SIGNS : ∃ t, mg "MOST_SIGNS" = some (.int 2000 t)
  i_MOST_PART : ∃ t, mg "MOST_PART" = some (.int 6 t)
  i_MOST_LENGTH : ∃ t, mg "MOST_LENGTH" = some (.int 2000 t)
  s_LETTERS : ∃ t, mg "LETTERS" = some (.str "abcd" t)
  c_Rate : Cls K (He.ga K "Rate")
  c_Coder : Cls K (He.ga K "Coder")
  na_Rate_rate_bits : NoAttr K (He.ga K "Rate") "rate_bits"
  na_Rate_rate_signs : NoAttr K (He.ga K "Rate") "rate_signs"
  na_Coder_own_rate : NoAttr K (He.ga K "Coder") "own_rate"
  na_Coder_own_lead : NoAttr K (He.ga K "Coder") "own_lead"
  na_Coder_own_codes : NoAttr K (He.ga K "Coder") "own_codes"
  me_Coder_codes : Meth K (He.ga K "Coder") "codes" (He.ma K (He.ga K "Coder") "codes")
  mk_Coder : Mk K (He.ga K "Coder") (He.ma K (He.ga K "Coder") "__init__")
  mk_Rate : Mk K (He.ga K "Rate") (He.ma K (He.ga K "Rate") "__init__")
  pr_Rate_size : PropOf K (He.ga K "Rate") "size" (He.ma K (He.ga K "Rate") "size") (He5.wf K (He.ga K "Rate") "property" "size")
  pr_Rate_q : PropOf K (He.ga K "Rate") "q" (He.ma K (He.ga K "Rate") "q") (He5.wf K (He.ga K "Rate") "property" "q")
  pr_Coder_rate : PropOf K (He.ga K "Coder") "rate" (He.ma K (He.ga K "Coder") "rate") (He5.wf K (He.ga K "Coder") "property" "rate")
  pr_Coder_lead : PropOf K (He.ga K "Coder") "lead" (He.ma K (He.ga K "Coder") "lead") (He5.wf K (He.ga K "Coder") "property" "lead")
  ci_Rate : ClsI K (He.ga K "Rate")
  ci_Coder : ClsI K (He.ga K "Coder")
  k_Rate_Rate : PySem.W.kitOne K (.ref (He.ga K "Rate")) (.ref (He.ga K "Rate")) = some true
  k_Coder_Coder : PySem.W.kitOne K (.ref (He.ga K "Coder")) (.ref (He.ga K "Coder")) = some true
  cr_Coder : ClX.CRead K (He.ga K "Coder") (.type "type")
  cv_Coder_MOST_ENTRIES : ∃ u, ClX.CVal K (He.ga K "Coder") (.type "type") "MOST_ENTRIES" (.int 2000) u
end LW
set_option Elab.async false
set_option linter.all false
set_option maxRecDepth 100000
set_option maxHeartbeats 400000
namespace BR
open PySem L2
abbrev Cod := List (List (List Nat × Nat))
def Sg (l : List Nat) : Prop := ∀ c ∈ l, c ∈ [97, 98, 99, 100]
structure WfE (q n : Nat) (e : List Nat × Nat) : Prop where
  len : e.1.length = q
  sub : Sg e.1
  lt : e.2 < n
structure Wf (q sz : Nat) (c : Cod) : Prop where
  pos : 0 < c.length
  few : c.length ≤ 10
  row : ∀ r ∈ c, r.length = sz
  ent : ∀ r ∈ c, ∀ e ∈ r, WfE q c.length e
/-! ## states as they are met -/
def add1 (o : List Nat) (l : Nat) : List Nat := if l ∈ o then o else o ++ [l]
def addR (o : List Nat) (r : List (List Nat × Nat)) : List Nat := r.foldl (fun o e => add1 o e.2) o
def bfs (c : Cod) : Nat → List Nat → Nat → List Nat
  | 0, o, _ => o
  | n + 1, o, i => if i < o.length then bfs c n (addR o (c.getD (o.getD i 0) [])) (i + 1) else o
def met (c : Cod) : List Nat := bfs c (c.length + 1) [0] 0
def renum (c : Cod) : Cod := (met c).map fun s => (c.getD s []).map fun e => (e.1, (met c).idxOf e.2)
/-- numbers below n, each once -/
structure Gd (n : Nat) (o : List Nat) : Prop where
  nd : o.Nodup
  lt : ∀ x ∈ o, x < n
theorem nodup_len : ∀ (n : Nat) (o : List Nat), o.Nodup → (∀ x ∈ o, x < n) → o.length ≤ n
  | 0, o, _, h => by
    cases o with
    | nil => simp
    | cons a o => exact absurd (h a (by simp)) (by omega)
  | n + 1, o, hn, h => by
    by_cases hm : n ∈ o
    · have := nodup_len n (o.erase n) (hn.erase n) (fun x hx => by
        have h1 := (hn.mem_erase_iff).mp hx
        have h2 := h x h1.2
        have h3 := h1.1
        omega)
      rw [List.length_erase_of_mem hm] at this
      omega
    · have := nodup_len n o hn (fun x hx => by
        have h2 := h x hx
        have h3 : x ≠ n := fun z => hm (z ▸ hx)
        omega)
      omega
theorem Gd.len {n : Nat} {o : List Nat} (h : Gd n o) : o.length ≤ n := nodup_len n o h.nd h.lt
theorem Gd.add {n l : Nat} {o : List Nat} (h : Gd n o) (hl : l < n) : Gd n (add1 o l) := by
  unfold add1
  split
  · exact h
  · rename_i hk
    refine ⟨?_, ?_⟩
    · rw [List.nodup_append]
      refine ⟨h.nd, by simp, ?_⟩
      intro a ha b hb
      simp at hb; subst hb
      intro e; subst e; exact hk ha
    · intro x hx
      rcases List.mem_append.mp hx with hx | hx
      · exact h.lt x hx
      · simp at hx; omega
theorem add1_pre (o : List Nat) (l : Nat) : o <+: add1 o l := by
  unfold add1; split
  · exact List.prefix_refl _
  · exact List.prefix_append _ _
theorem add1_mem (o : List Nat) (l : Nat) : l ∈ add1 o l := by
  unfold add1; split
  · assumption
  · simp
theorem addR_pre (r : List (List Nat × Nat)) : ∀ o, o <+: addR o r := by
  induction r with
  | nil => intro o; exact List.prefix_refl _
  | cons e r ih => intro o; exact (add1_pre o e.2).trans (ih _)
theorem addR_mem (r : List (List Nat × Nat)) : ∀ o, ∀ e ∈ r, e.2 ∈ addR o r := by
  induction r with
  | nil => intro o e he; cases he
  | cons e r ih =>
    intro o e' he
    rcases List.mem_cons.mp he with rfl | he
    · exact (addR_pre r (add1 o e'.2)).subset (add1_mem o e'.2)
    · exact ih (add1 o e.2) e' he
theorem addR_gd {n : Nat} (r : List (List Nat × Nat)) : ∀ o, Gd n o → (∀ e ∈ r, e.2 < n) → Gd n (addR o r) := by
  induction r with
  | nil => intro o h _; exact h
  | cons e r ih => intro o h hr; exact ih _ (h.add (hr e (by simp))) fun e' he => hr e' (by simp [he])
theorem getD_row {q sz : Nat} {c : Cod} (h : Wf q sz c) {s : Nat} (hs : s < c.length) : c.getD s [] ∈ c := by
  rw [List.getD_eq_getElem?_getD, List.getElem?_eq_getElem hs]; exact List.getElem_mem hs
/-- the first i states of o are done -/
def Done (c : Cod) (o : List Nat) (i : Nat) : Prop := ∀ j, j < i → ∀ e ∈ c.getD (o.getD j 0) [], e.2 ∈ o
theorem getD_pre {o o' : List Nat} (h : o <+: o') {i : Nat} (hi : i < o.length) : o'.getD i 0 = o.getD i 0 := by
  obtain ⟨t, rfl⟩ := h
  rw [List.getD_eq_getElem?_getD, List.getD_eq_getElem?_getD, List.getElem?_append_left hi]
theorem row_lt {q sz : Nat} {c : Cod} (h : Wf q sz c) (s : Nat) : ∀ e ∈ c.getD s [], e.2 < c.length := by
  intro e he
  by_cases hs : s < c.length
  · exact (h.ent _ (getD_row h hs) e he).lt
  · rw [List.getD_eq_getElem?_getD, List.getElem?_eq_none (by omega)] at he; simp at he
theorem bfs_good {q sz : Nat} {c : Cod} (h : Wf q sz c) : ∀ (n : Nat) (o : List Nat) (i : Nat), Gd c.length o → i ≤ o.length → Done c o i → c.length - i ≤ n → Gd c.length (bfs c (n + 1) o i) ∧ Done c (bfs c (n + 1) o i) (bfs c (n + 1) o i).length ∧ o <+: bfs c (n + 1) o i := by
  intro n
  induction n with
  | zero =>
    intro o i hg hi hd hn
    have := hg.len
    have e : bfs c 1 o i = o := by
      unfold bfs
      rw [if_neg (by omega)]
    rw [e]
    have : i = o.length := by omega
    subst this
    exact ⟨hg, hd, List.prefix_refl _⟩
  | succ n ih =>
    intro o i hg hi hd hn
    by_cases hlt : i < o.length
    · have e : bfs c (n + 1 + 1) o i = bfs c (n + 1) (addR o (c.getD (o.getD i 0) [])) (i + 1) := by
        rw [bfs, if_pos hlt]
      rw [e]
      have hp := addR_pre (c.getD (o.getD i 0) []) o
      have := ih (addR o (c.getD (o.getD i 0) [])) (i + 1) (addR_gd _ _ hg (row_lt h _)) (by have := hp.length_le; omega) (by
        intro j hj en he
        by_cases hji : j = i
        · subst hji
          rw [getD_pre hp hlt] at he
          exact addR_mem _ _ en he
        · rw [getD_pre hp (by omega)] at he
          exact hp.subset (hd j (by omega) en he)) (by omega)
      exact ⟨this.1, this.2.1, hp.trans this.2.2⟩
    · have e : bfs c (n + 1 + 1) o i = o := by rw [bfs, if_neg hlt]
      rw [e]
      have : i = o.length := by omega
      subst this
      exact ⟨hg, hd, List.prefix_refl _⟩
theorem gd0 {q sz : Nat} {c : Cod} (h : Wf q sz c) : Gd c.length [0] := ⟨by simp, fun x hx => by simp at hx; have := h.pos; omega⟩
theorem met_good {q sz : Nat} {c : Cod} (h : Wf q sz c) : Gd c.length (met c) ∧ Done c (met c) (met c).length ∧ [0] <+: met c :=
  bfs_good h c.length [0] 0 (gd0 h) (by simp) (fun j hj => absurd hj (by omega)) (by omega)
theorem met_closed {q sz : Nat} {c : Cod} (h : Wf q sz c) {s : Nat} (hs : s ∈ met c) : ∀ e ∈ c.getD s [], e.2 ∈ met c := by
  obtain ⟨i, hi, e⟩ := List.getElem_of_mem hs
  have := (met_good h).2.1 i hi
  rw [List.getD_eq_getElem?_getD (l := met c), List.getElem?_eq_getElem hi] at this
  simp only [Option.getD_some, e] at this
  exact this
theorem renum_wf {q sz : Nat} {c : Cod} (h : Wf q sz c) : Wf q sz (renum c) where
  pos := by
    have := (met_good h).2.2.length_le
    simp at this
    simp [renum]; omega
  few := by
    have := (met_good h).1.len
    have := h.few
    simp [renum]; omega
  row := by
    intro r hr
    simp only [renum, List.mem_map] at hr
    obtain ⟨s, hs, rfl⟩ := hr
    rw [List.length_map]
    exact h.row _ (getD_row h ((met_good h).1.lt s hs))
  ent := by
    intro r hr e he
    simp only [renum, List.mem_map] at hr
    obtain ⟨s, hs, rfl⟩ := hr
    simp only [List.mem_map] at he
    obtain ⟨e0, he0, rfl⟩ := he
    have w := h.ent _ (getD_row h ((met_good h).1.lt s hs)) e0 he0
    refine ⟨w.len, w.sub, ?_⟩
    have := List.idxOf_lt_length_of_mem (met_closed h hs e0 he0)
    simpa [renum] using this
/-! ## order in Python's data -/
abbrev iD (n : Nat) : D := .int (n : Int)
theorem hasK_n (o : List Nat) (k : Nat) : hasK (o.map kN) (kN k) = decide (k ∈ o) := by
  induction o with
  | nil => simp [hasK]
  | cons p o ih =>
    have e : hasK ((p :: o).map kN) (kN k) = (decide (kN p = kN k) || hasK (o.map kN) (kN k)) := rfl
    rw [e, ih]
    by_cases h : p = k
    · simp [h]
    · have : ¬ kN p = kN k := fun z => h (kN_inj _ _ z)
      have h2 : ¬ k = p := fun z => h z.symm
      simp [this, h2]
theorem flL_n (o : List Nat) : flL (o.map iD) = some (o.map fun n : Nat => V.int (n : Int)) := by
  induction o with
  | nil => rfl
  | cons p o ih => simp [flL, fl, ih]
theorem inV_n (o : List Nat) (k : Nat) : inV (V.int (k : Int)) (o.map fun n : Nat => V.int (n : Int)) = decide (k ∈ o) := by
  induction o with
  | nil => rfl
  | cons p o ih =>
    have e : inV (V.int (k : Int)) ((p :: o).map fun n : Nat => V.int (n : Int)) = (eqV (V.int (p : Int)) (V.int (k : Int)) || inV (V.int (k : Int)) (o.map fun n : Nat => V.int (n : Int))) := by
      rfl
    rw [e, ih]
    by_cases h : p = k
    · simp [h, eqV]
    · have h2 : ¬ k = p := fun z => h z.symm
      have h3 : ¬ ((p : Int) = (k : Int)) := by omega
      simp [eqV, h2, h3]
theorem notIn_n (o : List Nat) (k : Nat) : dNotIn (iD k) (.lst (o.map iD)) = some (.im (.bl (!decide (k ∈ o)))) := by
  simp only [dNotIn, inD, fl, flL_n, inV_n, Option.map_some]
theorem index_n (o : List Nat) (k : Nat) (h : k ∈ o) : dIndex (.lst (o.map iD)) (iD k) = some ((o.idxOf k : Nat) : Int) := by
  have e : ixF (o.map fun n : Nat => V.int (n : Int)) (V.int (k : Int)) = some (o.idxOf k) := by
    induction o with
    | nil => cases h
    | cons p o ih =>
      by_cases hp : p = k
      · subst hp; simp [ixF, eqV]
      · have h3 : ¬ ((p : Int) = (k : Int)) := by omega
        have := ih (by rcases List.mem_cons.mp h with z | z; exact absurd z.symm hp; exact z)
        simp [ixF, eqV, h3, this, List.idxOf_cons, hp, beq_iff_eq, cond]
        have : (p == k) = false := by simpa using hp
        simp [this]
  simp only [dIndex, flL_n, fl, Option.bind_some, e, Option.map_some]
end BR
set_option Elab.async false
set_option linter.all false
set_option maxRecDepth 100000
set_option maxHeartbeats 400000
namespace BR
open PySem L2
/-! ## texts and rows -/
def ent (c : Cod) (s w : Nat) : List Nat × Nat := (c.getD s []).getD w ([], 0)
def stp (c : Cod) (z : List Nat × Nat) (w : Nat) : List Nat × Nat := (z.1 ++ (ent c z.2 w).1, (ent c z.2 w).2)
def run (c : Cod) (lead t : List Nat) : List Nat × Nat := t.foldl (stp c) (lead, 0)
def texts (sz : Nat) : Nat → List (List Nat)
  | 0 => [[]]
  | k + 1 => (texts sz k).flatMap fun t => (List.range sz).map fun w => t ++ [w]
theorem run_snoc (c : Cod) (lead t : List Nat) (w : Nat) : run c lead (t ++ [w]) = stp c (run c lead t) w := by
  simp [run]
theorem texts_mem {sz : Nat} : ∀ {k : Nat} {t : List Nat}, t ∈ texts sz k → t.length = k ∧ ∀ w ∈ t, w < sz
  | 0, t, h => by simp [texts] at h; subst h; simp
  | k + 1, t, h => by
    simp only [texts, List.mem_flatMap, List.mem_map, List.mem_range] at h
    obtain ⟨t', ht, w, hw, rfl⟩ := h
    obtain ⟨h1, h2⟩ := texts_mem ht
    refine ⟨by simp [h1], ?_⟩
    intro x hx
    rcases List.mem_append.mp hx with z | z
    · exact h2 x z
    · simp at z; omega
theorem texts_len (sz : Nat) : ∀ k, (texts sz k).length = sz ^ k
  | 0 => rfl
  | k + 1 => by
    simp only [texts, List.length_flatMap, List.length_map, List.length_range]
    have : ∀ l : List (List Nat), (l.map fun _ => sz).sum = l.length * sz := by
      intro l
      induction l with
      | nil => simp
      | cons a l ih => simp [ih, Nat.succ_mul, Nat.add_comm]
    rw [this, texts_len sz k, Nat.pow_succ]
section
variable {q sz : Nat} {c : Cod} (h : Wf q sz c)
include h
theorem ent_mem {s w : Nat} (hs : s < c.length) (hw : w < sz) : ∃ r ∈ c, ent c s w ∈ r := by
  refine ⟨c.getD s [], getD_row h hs, ?_⟩
  have hl := h.row _ (getD_row h hs)
  unfold ent
  rw [List.getD_eq_getElem?_getD (l := c.getD s []), List.getElem?_eq_getElem (by omega)]
  exact List.getElem_mem _
theorem ent_wf {s w : Nat} (hs : s < c.length) (hw : w < sz) : WfE q c.length (ent c s w) := by
  obtain ⟨r, hr, he⟩ := ent_mem h hs hw
  exact h.ent r hr _ he
theorem foldl_wf (lead : List Nat) : ∀ (t : List Nat) (z : List Nat × Nat), (∀ w ∈ t, w < sz) → z.2 < c.length → (t.foldl (stp c) z).2 < c.length ∧ (t.foldl (stp c) z).1.length = z.1.length + q * t.length ∧ z.1 <+: (t.foldl (stp c) z).1 ∧ (Sg z.1 → Sg (t.foldl (stp c) z).1)
  | [], z, _, hz => ⟨hz, by simp, List.prefix_refl _, fun x => x⟩
  | w :: t, z, hw, hz => by
    have we := ent_wf h hz (hw w (by simp))
    obtain ⟨h1, h2, h3, h4⟩ := foldl_wf lead t (stp c z w) (fun x hx => hw x (by simp [hx])) we.lt
    refine ⟨h1, ?_, (List.prefix_append z.1 _).trans h3, fun hs => h4 ?_⟩
    · rw [List.foldl_cons, h2]
      simp [stp, we.len, Nat.mul_add]; omega
    · intro x hx
      rcases List.mem_append.mp hx with y | y
      · exact hs x y
      · exact we.sub x y
theorem run_wf (lead : List Nat) {k : Nat} {t : List Nat} (ht : t ∈ texts sz k) : (run c lead t).2 < c.length ∧ (run c lead t).1.length = lead.length + q * k ∧ lead <+: (run c lead t).1 ∧ (Sg lead → Sg (run c lead t).1) := by
  obtain ⟨h1, h2⟩ := texts_mem ht
  have := foldl_wf h lead t (lead, 0) h2 h.pos
  rw [h1] at this
  exact this
end
def wsum (c : Cod) (lead : List Nat) (sz k : Nat) (row : List Nat) (φ : Nat → Nat) : Nat := ((texts sz k).map fun t => if (run c lead t).1 = row then φ (run c lead t).2 else 0).sum
theorem sum_flatMap {α β : Type} (f : α → List β) (g : β → Nat) (l : List α) : ((l.flatMap f).map g).sum = (l.map fun a => ((f a).map g).sum).sum := by
  induction l with
  | nil => rfl
  | cons a l ih => simp [List.flatMap_cons, ih]
theorem sum_congr {α : Type} (f g : α → Nat) (l : List α) (h : ∀ a ∈ l, f a = g a) : (l.map f).sum = (l.map g).sum := by
  rw [List.map_congr_left h]
theorem sum_zero {α : Type} (f : α → Nat) (l : List α) (h : ∀ a ∈ l, f a = 0) : (l.map f).sum = 0 := by
  induction l with
  | nil => rfl
  | cons a l ih => simp [h a (by simp), ih fun b hb => h b (by simp [hb])]
theorem sum_one {α : Type} (l : List α) : (l.map fun _ => 1).sum = l.length := by
  induction l with
  | nil => rfl
  | cons a l ih => simp [ih]; try omega
theorem sum_range_getD {α : Type} (F : α → Nat) (d : α) (l : List α) : ((List.range l.length).map fun w => F (l.getD w d)).sum = (l.map F).sum := by
  have : (List.range l.length).map (fun w => F (l.getD w d)) = l.map F := by
    apply List.ext_getElem
    · simp
    · intro i h1 h2
      simp at h1
      simp [h1]
  rw [this]
/-- what one more block makes of the weights -/
def psi (c : Cod) (b : List Nat) (φ : Nat → Nat) (s : Nat) : Nat := ((c.getD s []).map fun e => if e.1 = b then φ e.2 else 0).sum
theorem wsum_step {q sz : Nat} {c : Cod} (h : Wf q sz c) (lead row b : List Nat) (k : Nat) (hr : row.length = lead.length + q * k) (φ : Nat → Nat) :
    wsum c lead sz (k + 1) (row ++ b) φ = wsum c lead sz k row (psi c b φ) := by
  unfold wsum
  rw [texts, sum_flatMap]
  apply sum_congr
  intro t ht
  obtain ⟨h1, h2, h3, _⟩ := run_wf h lead ht
  rw [List.map_map]
  have hrow := h.row _ (getD_row h h1)
  have hstp : ∀ w, w < sz → ((stp c (run c lead t) w).1 = row ++ b ↔ (run c lead t).1 = row ∧ (ent c (run c lead t).2 w).1 = b) := by
    intro w hw
    constructor
    · intro e
      exact List.append_inj e (by rw [h2, hr])
    · rintro ⟨e1, e2⟩
      simp [stp, e1, e2]
  by_cases hc : (run c lead t).1 = row
  · rw [if_pos hc]
    unfold psi
    rw [← sum_range_getD (fun e => if e.1 = b then φ e.2 else 0) ([], 0), hrow]
    apply sum_congr
    intro w hw
    rw [List.mem_range] at hw
    have := hstp w hw
    show (if (run c lead (t ++ [w])).1 = row ++ b then φ (run c lead (t ++ [w])).2 else 0) = _
    rw [run_snoc]
    by_cases he : (ent c (run c lead t).2 w).1 = b
    · rw [if_pos (this.mpr ⟨hc, he⟩)]
      have : ((c.getD (run c lead t).2 []).getD w ([], 0)).1 = b := he
      rw [if_pos this]; rfl
    · rw [if_neg fun z => he (this.mp z).2]
      have : ¬ ((c.getD (run c lead t).2 []).getD w ([], 0)).1 = b := he
      rw [if_neg this]
  · rw [if_neg hc]
    apply sum_zero
    intro w hw
    rw [List.mem_range] at hw
    show (if (run c lead (t ++ [w])).1 = row ++ b then φ (run c lead (t ++ [w])).2 else 0) = 0
    rw [run_snoc, if_neg fun z => hc ((hstp w hw).mp z).1]
/-! ## the dict of counts -/
def stE (b : List Nat) (m : Nat) (al : List (Nat × Nat)) (e : List Nat × Nat) : List (Nat × Nat) := if e.1 = b then putA al e.2 (get0 al e.2 + m) else al
def stS (c : Cod) (b : List Nat) (al : List (Nat × Nat)) (p : Nat × Nat) : List (Nat × Nat) := (c.getD p.1 []).foldl (stE b p.2) al
def stA (c : Cod) (b : List Nat) (al : List (Nat × Nat)) : List (Nat × Nat) := al.foldl (stS c b) []
/-- keys below n, each once -/
structure Kd (n : Nat) (al : List (Nat × Nat)) : Prop where
  gd : Gd n (al.map (·.1))
theorem Kd.len {n : Nat} {al : List (Nat × Nat)} (h : Kd n al) : al.length ≤ n := by
  have := h.gd.len; simpa using this
theorem Kd.put {n : Nat} {al : List (Nat × Nat)} (h : Kd n al) {k : Nat} (hk : k < n) (v : Nat) : Kd n (putA al k v) := by
  refine ⟨nodup_put h.gd.nd k v, ?_⟩
  rw [keys_put]
  split
  · exact h.gd.lt
  · intro x hx
    rcases List.mem_append.mp hx with z | z
    · exact h.gd.lt x z
    · simp at z; omega
theorem stE_kd {n : Nat} {b : List Nat} {m : Nat} {al : List (Nat × Nat)} {e : List Nat × Nat} (h : Kd n al) (he : e.2 < n) : Kd n (stE b m al e) := by
  unfold stE; split
  · exact h.put he _
  · exact h
theorem stE_sum {n : Nat} {b : List Nat} {m : Nat} {al : List (Nat × Nat)} {e : List Nat × Nat} (h : Kd n al) (φ : Nat → Nat) : dsum φ (stE b m al e) = dsum φ al + m * (if e.1 = b then φ e.2 else 0) := by
  unfold stE; split
  · exact dsum_add h.gd.nd φ _ _
  · simp
theorem fold_kd {n : Nat} {b : List Nat} {m : Nat} : ∀ (r : List (List Nat × Nat)) {al : List (Nat × Nat)}, Kd n al → (∀ e ∈ r, e.2 < n) → Kd n (r.foldl (stE b m) al) ∧ ∀ φ, dsum φ (r.foldl (stE b m) al) = dsum φ al + m * (r.map fun e => if e.1 = b then φ e.2 else 0).sum
  | [], al, h, _ => ⟨h, fun φ => by simp⟩
  | e :: r, al, h, hr => by
    obtain ⟨h1, h2⟩ := fold_kd (b := b) (m := m) r (stE_kd h (hr e (by simp))) (fun x hx => hr x (by simp [hx]))
    refine ⟨h1, fun φ => ?_⟩
    rw [List.foldl_cons, h2, stE_sum h, List.map_cons, List.sum_cons, Nat.mul_add]
    omega
theorem stS_fold {q sz : Nat} {c : Cod} (h : Wf q sz c) (b : List Nat) : ∀ (al acc : List (Nat × Nat)), Kd c.length acc → Kd c.length (al.foldl (stS c b) acc) ∧ ∀ φ, dsum φ (al.foldl (stS c b) acc) = dsum φ acc + dsum (psi c b φ) al
  | [], acc, ha => ⟨ha, fun φ => by simp [dsum]⟩
  | p :: al, acc, ha => by
    obtain ⟨h1, h2⟩ := fold_kd (b := b) (m := p.2) (c.getD p.1 []) ha (row_lt h p.1)
    obtain ⟨h3, h4⟩ := stS_fold h b al (stS c b acc p) h1
    refine ⟨h3, fun φ => ?_⟩
    rw [List.foldl_cons, h4]
    have := h2 φ
    simp only [stS, dsum, psi, List.map_cons, List.sum_cons] at this ⊢
    omega
theorem kd_nil (n : Nat) : Kd n [] := ⟨⟨by simp, by simp⟩⟩
theorem stA_kd {q sz : Nat} {c : Cod} (h : Wf q sz c) (b : List Nat) (al : List (Nat × Nat)) : Kd c.length (stA c b al) := (stS_fold h b al [] (kd_nil _)).1
theorem stA_sum {q sz : Nat} {c : Cod} (h : Wf q sz c) (b : List Nat) (al : List (Nat × Nat)) (φ : Nat → Nat) : dsum φ (stA c b al) = dsum (psi c b φ) al := by
  have := (stS_fold h b al [] (kd_nil _)).2 φ
  simpa [stA, dsum] using this
/-- the counts behind j blocks -/
def cnts (c : Cod) (row : List Nat) (q bg : Nat) : Nat → List (Nat × Nat)
  | 0 => [(0, 1)]
  | j + 1 => stA c ((row.drop (bg + j * q)).take q) (cnts c row q bg j)
theorem cnts_kd {q sz : Nat} {c : Cod} (h : Wf q sz c) (row : List Nat) (bg : Nat) : ∀ j, Kd c.length (cnts c row q bg j)
  | 0 => ⟨⟨by simp [cnts], fun x hx => by simp [cnts] at hx; have := h.pos; omega⟩⟩
  | j + 1 => stA_kd h _ _
theorem cnts_sum {q sz : Nat} {c : Cod} (h : Wf q sz c) (lead row : List Nat) (hp : lead <+: row) : ∀ j, lead.length + j * q ≤ row.length → ∀ φ, dsum φ (cnts c row q lead.length j) = wsum c lead sz j (row.take (lead.length + j * q)) φ
  | 0, _, φ => by
    have : row.take (lead.length + 0 * q) = lead := by
      obtain ⟨t, rfl⟩ := hp; simp
    rw [this]
    simp [cnts, dsum, wsum, texts, run]
  | j + 1, hj, φ => by
    have hj' : lead.length + j * q + q ≤ row.length := by rw [Nat.succ_mul] at hj; omega
    have e : row.take (lead.length + (j + 1) * q) = row.take (lead.length + j * q) ++ (row.drop (lead.length + j * q)).take q := by
      rw [Nat.succ_mul, ← Nat.add_assoc, List.take_add]
    rw [e, wsum_step h _ _ _ _ (by rw [List.length_take, Nat.min_eq_left (by omega), Nat.mul_comm]), ← cnts_sum h lead row hp j (by omega)]
    exact stA_sum h _ _ _
/-- how many texts a row has -/
def opn (c : Cod) (lead : List Nat) (q sz : Nat) (row : List Nat) : Nat := if lead <+: row ∧ (row.length - lead.length) % q = 0 then wsum c lead sz ((row.length - lead.length) / q) row (fun _ => 1) else 0
end BR
set_option Elab.async false
set_option linter.all false
set_option maxRecDepth 100000
set_option maxHeartbeats 400000
namespace LW
open PySem L2 BR
abbrev eD (e : List Nat × Nat) : D := .tup [.str (T e.1), .int (e.2 : Int)]
abbrev rowD (r : List (List Nat × Nat)) : D := .lst (r.map eD)
abbrev codeD (c : Cod) : D := .lst (c.map rowD)
noncomputable abbrev rateD (K : PySem.W.Frag) (p q : Nat) : D := .ins (He.ga K "Rate") ["rate_bits", "rate_signs"] [.int (p : Int), .int (q : Int)]
noncomputable abbrev coderD (K : PySem.W.Frag) (p q : Nat) (c : Cod) (lead : List Nat) : D := .ins (He.ga K "Coder") ["own_rate", "own_lead", "own_codes"] [rateD K p q, .str (T lead), codeD c]
theorem sl : 1000000 ≤ sizeLine := by have := sizeLine_eq; omega
theorem is_integer_ok (K : PySem.W.Frag) (i : Int) : F_is_integer K [.int i] = .ok (.bl true, []) := by rfl
theorem is_count_ok (K : PySem.W.Frag) (i : Nat) : F_is_count K [.int (i : Int)] = .ok (.bl true, []) := by
  have : decide (0 ≤ (i : Int)) = true := decide_eq_true (by omega)
  show R.ok (D.bl (decide (0 ≤ (i : Int))), []) = _
  rw [this]
theorem is_list_ok (K : PySem.W.Frag) (ds : List D) : F_is_list K [.lst ds] = .ok (.bl true, []) := by rfl
theorem fr_bits (C : Addr) (a b : D) : fldD ["rate_bits", "rate_signs"] [a, b] "rate_bits" = some a := rfl
theorem fr_signs (C : Addr) (a b : D) : fldD ["rate_bits", "rate_signs"] [a, b] "rate_signs" = some b := rfl
theorem fc_rate (a b c : D) : fldD ["own_rate", "own_lead", "own_codes"] [a, b, c] "own_rate" = some a := rfl
theorem fc_lead (a b c : D) : fldD ["own_rate", "own_lead", "own_codes"] [a, b, c] "own_lead" = some b := rfl
theorem fc_codes (a b c : D) : fldD ["own_rate", "own_lead", "own_codes"] [a, b, c] "own_codes" = some c := rfl
theorem rate_q (K : PySem.W.Frag) (p q : Nat) : F_Rate_q K [rateD K p q] = .ok (.int (q : Int), []) := by
  simp [F_Rate_q, B_Rate_q, fr_signs, -fldD]
theorem rate_size (K : PySem.W.Frag) (p q : Nat) (h : p ≤ 6) : F_Rate_size K [rateD K p q] = .ok (.int ((2 ^ p : Nat) : Int), []) := by
  have e : dIc CPow (fun i j => i * 2 ^ j.toNat) (.int 1) (.int (p : Int)) = some (.im (.int ((2 ^ p : Nat) : Int))) := by
    rw [dIc_ok (by unfold CPow; omega)]
    simp
  simp [F_Rate_size, B_Rate_size, fr_bits, -fldD, e]
theorem want_rate_ok (K : PySem.W.Frag) (p q : Nat) : F_want_rate K [rateD K p q] = .ok (.non, []) := by
  simp [F_want_rate, B_want_rate, dIsi, okC, clsDs]
theorem want_coder_ok (K : PySem.W.Frag) (p q : Nat) (c : Cod) (lead : List Nat) : F_want_coder K [coderD K p q c lead] = .ok (.non, []) := by
  simp [F_want_coder, B_want_coder, dIsi, okC, clsDs]
theorem coder_rate (K : PySem.W.Frag) (p q : Nat) (c : Cod) (lead : List Nat) : F_Coder_rate K [coderD K p q c lead] = .ok (rateD K p q, []) := by
  simp [F_Coder_rate, B_Coder_rate, fc_rate, -fldD]
theorem coder_lead (K : PySem.W.Frag) (p q : Nat) (c : Cod) (lead : List Nat) : F_Coder_lead K [coderD K p q c lead] = .ok (.str (T lead), []) := by
  simp [F_Coder_lead, B_Coder_lead, fc_lead, -fldD]
theorem blsD_map {α : Type} (f : α → Bool) (xs : List α) : blsD (xs.map fun x => D.bl (f x)) = some (xs.map f) := by
  induction xs with
  | nil => rfl
  | cons x xs ih => simp [blsD, ih]
theorem all_true {α : Type} (xs : List α) : dAll [.lst (xs.map fun _ => D.bl true)] = some (.im (.bl true)) := by
  simp only [dAll, blsD_map (fun _ => true), Option.map_some]
  congr 3
  simp
theorem is_row_ok (K : PySem.W.Frag) (l : List Nat) (h : Sg l) (hl : l.length ≤ 100000) : F_is_row K [.str (T l)] = .ok (.bl true, []) := by
  have e := lcL_map (vs := [1]) (g := gVar 1) (p := pYes) (fe := eOp2 dIn (eVar 1) (eK (.str "abcd"))) (fun c : Nat => D.str ⟨#[c]⟩) (fun _ => .bl true) [some (.sh (.str (T l))), none] l (by
    intro c hc
    have hc' : c ∈ ("abcd" : Str).cps.toList := h c hc
    have e1 : dIn (.str ⟨#[c]⟩) (.str "abcd") = some (.im (.bl true)) := by
      show some (Rz.im (D.bl (decide (c ∈ ("abcd" : Str).cps.toList)))) = _
      rw [decide_eq_true hc']
    simp [e1]) (by have := sl; omega)
  have a := all_true l
  simp [F_is_row, B_is_row, dIsi, clsDs, plD, isStrD, signs, e, a]
theorem want_row_ok (K : PySem.W.Frag) (l : List Nat) (h : Sg l) (hl : l.length ≤ 2000) : F_want_row K [.str (T l)] = .ok (.non, []) := by
  have e := is_row_ok K l h (by omega)
  have h1 : l.length ≤ sizeLine := by have := sl; omega
  have h2 : ¬ (2000 < (l.length : Int)) := by omega
  simp [F_want_row, B_want_row, e, T_len, h1, h2]
theorem is_block_of_ok (K : PySem.W.Frag) (p q : Nat) (l : List Nat) (h : Sg l) (hl : l.length = q) (hq : q ≤ 1000) : F_is_block_of K [rateD K p q, .str (T l)] = .ok (.bl true, []) := by
  have e := is_row_ok K l h (by omega)
  have h1 : l.length ≤ sizeLine := by have := sl; omega
  have e2 := rate_q K p q
  subst hl
  simp [F_is_block_of, B_is_block_of, e, T_len, h1, e2, dEq, eqD]
theorem is_entry_ok (K : PySem.W.Frag) (p q n : Nat) (e : List Nat × Nat) (hq : q ≤ 1000) (h : WfE q n e) : F_is_entry K [rateD K p q, .int (n : Int), eD e] = .ok (.bl true, []) := by
  have e1 := is_block_of_ok K p q e.1 h.sub h.len hq
  have e2 := is_count_ok K e.2
  have a0 : ∀ x y : D, atI [x, y] 0 = some x := fun _ _ => rfl
  have a1 : ∀ x y : D, atI [x, y] 1 = some y := fun _ _ => rfl
  have h3 := h.lt
  simp [F_is_entry, B_is_entry, e1, e2, a0, a1, dNe, eqD, dIsi, clsDs, plD, isTupD, h3]
theorem are_entries_ok (K : PySem.W.Frag) (p q n : Nat) (r : List (List Nat × Nat)) (hp : p ≤ 6) (hq : q ≤ 1000) (hr : r.length = 2 ^ p) (h : ∀ e ∈ r, WfE q n e) : F_are_entries K [rateD K p q, .int (n : Int), rowD r] = .ok (.bl true, []) := by
  have e1 := is_list_ok K (r.map eD)
  have e2 := rate_size K p q hp
  have hl : r.length ≤ 1000 := by
    rw [hr]
    calc 2 ^ p ≤ 2 ^ 6 := Nat.pow_le_pow_right (by omega) hp
      _ ≤ 1000 := by decide
  have e := lcL_map (vs := [3]) (g := gVar 3) (p := pYes) (fe := eCall false (F_is_entry K) (mSh (eVar 0) (mSh (eVar 1) (mSh (eVar 3) (mNil))))) eD (fun _ => .bl true) [some (.sh (rateD K p q)), some (.sh (.int (n : Int))), some (.sh (rowD r)), none] r (by
    intro e he
    have e3 := is_entry_ok K p q n e hq (h e he)
    simp [e3]) (by have := sl; omega)
  have a := all_true r
  simp [F_are_entries, B_are_entries, e1, e2, e, a, dNe, eqD, hr]
theorem enums_map {β : Type} (toD : β → D) (xs : List β) : enums (xs.map toD) = ((List.range xs.length).zip xs).map fun z => D.tup [.int (z.1 : Int), toD z.2] := by
  unfold enums
  rw [List.length_map, List.zipWith_map_right, List.zip, List.map_zipWith]
def shN (x : Option Sl) : Prop := x = none ∨ ∃ d, x = some (.sh d)
theorem shN_sh (d : D) : shN (some (.sh d)) := .inr ⟨d, rfl⟩
theorem shN_no : shN none := .inl rfl
theorem want_codes_ok (K : PySem.W.Frag) (p q : Nat) (c : Cod) (hp : p ≤ 6) (hq : q ≤ 1000) (h : Wf q (2 ^ p) c) : F_want_codes K [rateD K p q, codeD c] = .ok (.non, []) := by
  have e1 := is_list_ok K (c.map rowD)
  have h0 : ¬ (c = []) := fun z => by have := h.pos; rw [z] at this; cases this
  have hF := sForL_keep (g := gTupF 2 (gsCons (gVar 2) (gsCons (gVar 3) (gsNil)))) (b := sIf (tNotF (tstV (eCall false (F_are_entries K) (mSh (eVar 0) (mSh (eCB dLen (hCons (eVar 1) (hNil))) (mSh (eVar 3) (mNil))))))) (sNo) (sNil))
    (fun z : Nat × List (List Nat × Nat) => D.tup [.int (z.1 : Int), rowD z.2]) (fun ρ => ∃ x y, shN x ∧ shN y ∧ ρ = [some (.sh (rateD K p q)), some (.sh (codeD c)), x, y]) ((List.range c.length).zip c) [some (.sh (rateD K p q)), some (.sh (codeD c)), none, none] (by
      rintro z ρ hz ⟨x, y, hx, hy, rfl⟩
      have hz2 : z.2 ∈ c := (List.of_mem_zip hz).2
      have e3 := are_entries_ok K p q c.length z.2 hp hq (h.row _ hz2) (h.ent _ hz2)
      refine ⟨[some (.sh (rateD K p q)), some (.sh (codeD c)), some (.sh (.int z.1)), some (.sh (rowD z.2))], ?_, _, _, shN_sh _, shN_sh _, rfl⟩
      rcases hx with rfl | ⟨d, rfl⟩ <;> rcases hy with rfl | ⟨d', rfl⟩ <;> simp [e3]) ⟨_, _, shN_no, shN_no, rfl⟩
  obtain ⟨ρ', e, x, y, hx, hy, rfl⟩ := hF
  rw [← enums_map] at e
  simp [F_want_codes, B_want_codes, e1, e, dEq, eqD, h0]
end LW
set_option Elab.async false
set_option linter.all false
set_option maxRecDepth 100000
set_option maxHeartbeats 400000
namespace LW
open PySem L2 BR
theorem rate_init (K : PySem.W.Frag) (p q : Nat) (h1 : 1 ≤ p) (h2 : p ≤ 6) (h3 : 1 ≤ q) (h4 : q ≤ 6) : F_Rate___init__ K [.ins (He.ga K "Rate") [] [], .int (p : Int), .int (q : Int)] = .ok (.non, [rateD K p q]) := by
  have e := sForL_keep (g := gVar 3) (b := sIf (tOrF (tNotF (tstV (eCall false (F_is_integer K) (mSh (eVar 3) (mNil))))) (tNotF (tstV (eChain (fun i j => decide (i ≤ j)) (fun i j => decide (i ≤ j)) (eK (.int 1)) (eVar 3) (eK (.int 6)))))) (sNo) (sNil))
    iD (fun ρ => ∃ x, shN x ∧ ρ = [some (.io (.ins (He.ga K "Rate") [] [])), some (.sh (.int (p : Int))), some (.sh (.int (q : Int))), x]) [p, q] [some (.io (.ins (He.ga K "Rate") [] [])), some (.sh (.int (p : Int))), some (.sh (.int (q : Int))), none] (by
      rintro z ρ hz ⟨x, hx, rfl⟩
      have hz2 : 1 ≤ (z : Int) ∧ (z : Int) ≤ 6 := by simp at hz; omega
      have e1 := is_integer_ok K (z : Int)
      refine ⟨[some (.io (.ins (He.ga K "Rate") [] [])), some (.sh (.int (p : Int))), some (.sh (.int (q : Int))), some (.sh (iD z))], ?_, _, shN_sh _, rfl⟩
      rcases hx with rfl | ⟨d, rfl⟩ <;> simp [e1, hz2.1, hz2.2]) ⟨_, shN_no, rfl⟩
  obtain ⟨ρ', e, x, hx, rfl⟩ := e
  simp only [List.map_cons, List.map_nil] at e
  have f1 : setFn ["rate_bits"] "rate_signs" = (["rate_bits", "rate_signs"] : List Str) := rfl
  have f2 : ∀ a b : D, setFx ["rate_bits"] [a] "rate_signs" b = [a, b] := fun _ _ => rfl
  have hs : 2 ≤ sizeLine := by have := sl; omega
  have f3 : setFn [] "rate_bits" = (["rate_bits"] : List Str) := rfl
  have f4 : ∀ b : D, setFx [] [] "rate_bits" b = [b] := fun _ => rfl
  simp [F_Rate___init__, B_Rate___init__, e, f1, f2, f3, f4, hs, -setFn, -setFx]
theorem coder_codes (K : PySem.W.Frag) (p q : Nat) (c : Cod) (lead : List Nat) (hc : c.length ≤ 100000) : F_Coder_codes K [coderD K p q c lead] = .ok (codeD c, []) := by
  have e := lcL_map (vs := [1]) (g := gVar 1) (p := pYes) (fe := eCB dList (hCons (eVar 1) (hNil))) rowD rowD [some (.sh (coderD K p q c lead)), none] c (by
    intro r hr
    simp [dList]) (by have := sl; omega)
  simp [F_Coder_codes, B_Coder_codes, fc_codes, -fldD, e]
/-! ### states_met -/
noncomputable abbrev smG : D → S → Option S := gTupF 2 (gsCons (gVar 4) (gsCons (gVar 5) (gsNil)))
noncomputable abbrev smB : SF := sIf (tstV (eOp2 dNotIn (eVar 5) (eVar 2))) (sSeq (sPutD 2 (eVar 5) (eK (.bl true))) (sDrop (eAppend 1 (eVar 5)))) (sNil)
abbrev knD (o : List Nat) : D := .dic (o.map kN) (o.map fun _ => .bl true)
theorem sm_row (c : Cod) (n i : Nat) (hn : n ≤ 1000) (o : List Nat) (r : List (List Nat × Nat)) (hg : Gd n o) (hr : ∀ e ∈ r, e.2 < n) (x y : Option Sl) (hx : shN x) (hy : shN y) : ∃ x' y', shN x' ∧ shN y' ∧
    sForL smG smB (r.map eD) [some (.sh (codeD c)), some (.own (.lst (o.map iD))), some (.own (knD o)), some (.sh (iD i)), x, y] =
      .ok (.nx, [some (.sh (codeD c)), some (.own (.lst ((addR o r).map iD))), some (.own (knD (addR o r))), some (.sh (iD i)), x', y']) := by
  have e := sForL_rel (g := smG) (b := smB) eD (fun p ρ => ∃ x y, shN x ∧ shN y ∧ (∀ e ∈ p, e.2 < n) ∧ ρ = [some (.sh (codeD c)), some (.own (.lst ((addR o p).map iD))), some (.own (knD (addR o p))), some (.sh (iD i)), x, y]) r _ (by
    rintro p e ρ he ⟨x, y, hx, hy, hp, rfl⟩
    have hp2 : ∀ e' ∈ p ++ [e], e'.2 < n := by
      intro e' he'
      rcases List.mem_append.mp he' with z | z
      · exact hp e' z
      · simp at z; subst z; exact hr _ he
    refine ⟨_, ?_, some (.sh (.str (T e.1))), some (.sh (iD e.2)), shN_sh _, shN_sh _, hp2, rfl⟩
    have hgp := addR_gd p o hg hp
    have ha : addR o (p ++ [e]) = add1 (addR o p) e.2 := by simp [addR]
    rw [ha]
    have hl := hgp.len
    have hs : (addR o p).length < sizeLine := by have := sl; omega
    have e1 : dNotIn (iD e.2) (knD (addR o p)) = some (.im (.bl (!decide (e.2 ∈ addR o p)))) := by
      simp only [dNotIn, inD, keyD, Option.map_some]
      rw [hasK_n]
    have e2 : putDk ((addR o p).map kN) (kN e.2) = (add1 (addR o p) e.2).map kN := by
      unfold putDk add1
      rw [hasK_n]
      by_cases h : e.2 ∈ addR o p <;> simp [h]
    have e3 : e.2 ∉ addR o p → putDx ((addR o p).map kN) ((addR o p).map fun _ => D.bl true) (kN e.2) (.bl true) = (add1 (addR o p) e.2).map fun _ => D.bl true := by
      intro h
      unfold putDx add1
      rw [hasK_n]
      simp [h]
    by_cases h : e.2 ∈ addR o p
    · have e4 : add1 (addR o p) e.2 = addR o p := by unfold add1; rw [if_pos h]
      rw [e4]
      rcases hx with rfl | ⟨d, rfl⟩ <;> rcases hy with rfl | ⟨d', rfl⟩ <;> simp [e1, h]
    · have e4 : (add1 (addR o p) e.2).map iD = (addR o p).map iD ++ [iD e.2] := by unfold add1; rw [if_neg h]; simp
      have e3' := e3 h
      rcases hx with rfl | ⟨d, rfl⟩ <;> rcases hy with rfl | ⟨d', rfl⟩ <;> simp [e1, h, hs, e2, e3', e4]) ⟨x, y, hx, hy, by simp, rfl⟩
  obtain ⟨ρ', e, x', y', hx', hy', _, rfl⟩ := e
  exact ⟨x', y', hx', hy', e⟩
theorem getD_getElem {α : Type} (l : List α) (i : Nat) (d : α) (h : i < l.length) : l.getD i d = l[i] := by
  rw [List.getD_eq_getElem?_getD, List.getElem?_eq_getElem h]; rfl
theorem states_met_ok (K : PySem.W.Frag) (q sz : Nat) (c : Cod) (h : Wf q sz c) : F_states_met K [codeD c] = .ok (.lst ((met c).map iD), []) := by
  have hf := h.few
  have hw := sWhile_rel (c := tstV (eOp2 (dI fun i j => .bl (decide (i < j))) (eVar 3) (eCB dLen (hCons (eVar 1) (hNil))))) (b := sSeq (sFor (itSeq (eOp2 dIx (eVar 0) (eOp2 dIx (eVar 1) (eVar 3)))) smG smB) (sAug 3 (fun i j => i + j) (eK (.int 1))))
    (fun m ρ => ∃ o i x y, shN x ∧ shN y ∧ Gd c.length o ∧ i ≤ o.length ∧ m = c.length - i ∧ bfs c (m + 1) o i = met c ∧ ρ = [some (.sh (codeD c)), some (.own (.lst (o.map iD))), some (.own (knD o)), some (.sh (iD i)), x, y])
    (fun ρ => ∃ i x y, ρ = [some (.sh (codeD c)), some (.own (.lst ((met c).map iD))), some (.own (knD (met c))), some (.sh (iD i)), x, y]) (by
      rintro m ρ ⟨o, i, x, y, hx, hy, hg, hi, hm, hb, rfl⟩
      by_cases hlt : i < o.length
      · right
        have hl := hg.len
        obtain ⟨x', y', hx', hy', e⟩ := sm_row c c.length i (by omega) o (c.getD (o.getD i 0) []) hg (row_lt h _) x y hx hy
        have hil : ((i : Int) < (o.length : Int)) := by omega
        have ho : o[i] < c.length := hg.lt _ (List.getElem_mem hlt)
        have a1 : atI (o.map iD) (i : Int) = some (iD o[i]) := atI_m iD o i hlt
        have a2 : atI (c.map rowD) ((o[i] : Nat) : Int) = some (rowD c[o[i]]) := atI_m rowD c o[i] ho
        have e5 : c.getD (o.getD i 0) [] = c[o[i]] := by rw [getD_getElem o i 0 hlt, getD_getElem c _ [] ho]
        rw [e5] at e
        refine ⟨[some (.sh (codeD c)), some (.own (.lst (o.map iD))), some (.own (knD o)), some (.sh (iD i)), x, y], [some (.sh (codeD c)), some (.own (.lst ((addR o c[o[i]]).map iD))), some (.own (knD (addR o c[o[i]]))), some (.sh (iD (i + 1))), x', y'], c.length - (i + 1), ?_, ?_, by omega, addR o c[o[i]], i + 1, x', y', hx', hy', ?_, ?_, rfl, ?_, rfl⟩
        · simp [hlt]
        · simp [a1, a2, e]
        · exact addR_gd _ _ hg (by rw [← e5]; exact row_lt h _)
        · have := (addR_pre c[o[i]] o).length_le; omega
        · rw [bfs, if_pos hlt, e5] at hb
          rw [show c.length - (i + 1) + 1 = m by omega]
          exact hb
      · left
        rw [bfs, if_neg hlt] at hb
        rw [← hb]
        refine ⟨[some (.sh (codeD c)), some (.own (.lst (o.map iD))), some (.own (knD o)), some (.sh (iD i)), x, y], ?_, i, x, y, rfl⟩
        simp [hlt]) 2001 c.length [some (.sh (codeD c)), some (.own (.lst ([0].map iD))), some (.own (knD [0])), some (.sh (iD 0)), none, none] (by omega) ⟨[0], 0, none, none, shN_no, shN_no, gd0 h, by simp, by omega, rfl, rfl⟩
  obtain ⟨ρ', e, i, x, y, rfl⟩ := hw
  have hs : 1 ≤ sizeLine := by have := sl; omega
  replace e : sWhile _ _ 2001 [some (.sh (codeD c)), some (.own (.lst [.int 0])), some (.own (.dic [.inl 0] [.bl true])), some (.sh (.int 0)), none, none] = _ := e
  simp [F_states_met, B_states_met, e, hs]
end LW
set_option Elab.async false
set_option linter.all false
set_option maxRecDepth 100000
set_option maxHeartbeats 1000000
namespace BR
open PySem L2
/-- one turn of a dict comprehension -/
def dcT (vs : List Nat) (g : D → S → Option S) (fk fe : EF) (d : D) (ρ : S) : R ((Key × D) × S) :=
  ofO (g d ρ) >>= fun ρ1 => noX (fk ρ1) >>= fun z => noX (eV fe z.2) >>= fun y => ofO (asKey z.1) >>= fun k => .ok ((k, y.1), wipeS y.2 vs)
theorem dcL_cons {vs : List Nat} {g : D → S → Option S} {fk fe : EF} (d : D) (ds : List D) (acc : List Key × List D) (ρ ρ' : S) (k : Key) (x : D) (e : dcT vs g fk fe d ρ = .ok ((k, x), ρ')) (h : acc.1.length < sizeLine) :
    dcL vs g fk fe (d :: ds) acc ρ = dcL vs g fk fe ds (putDk acc.1 k, putDx acc.1 acc.2 k x) ρ' := by
  unfold dcT at e
  simp only [dcL]
  cases hg : g d ρ with
  | none => rw [hg] at e; cases e
  | some ρ1 =>
    rw [hg] at e
    simp only [ofO_some, ok_bind] at e ⊢
    cases hp : noX (fk ρ1) with
    | no => rw [hp] at e; cases e
    | exc x => rw [hp] at e; cases e
    | ok z =>
      rw [hp] at e
      simp only [ok_bind] at e ⊢
      cases hy : noX (eV fe z.2) with
      | no => rw [hy] at e; cases e
      | exc x => rw [hy] at e; cases e
      | ok y =>
        rw [hy] at e
        simp only [ok_bind] at e ⊢
        cases hk : asKey z.1 with
        | none => rw [hk] at e; cases e
        | some k' =>
          rw [hk] at e
          simp only [ofO_some, ok_bind] at e ⊢
          cases e
          rw [if_pos h]
theorem dcL_nodup {α β : Type} [DecidableEq α] {vs : List Nat} {g : D → S → Option S} {fk fe : EF} (κ : α → Key) (hκ : ∀ a b, κ a = κ b → a = b) (toD : β → D) (kv : β → α × Nat) (ρ : S) : ∀ (xs : List β) (al : List (α × Nat)),
    (∀ x ∈ xs, dcT vs g fk fe (toD x) ρ = .ok ((κ (kv x).1, .int ((kv x).2 : Int)), ρ)) → ((al ++ xs.map kv).map (·.1)).Nodup → al.length + xs.length ≤ sizeLine →
    dcL vs g fk fe (xs.map toD) (al.map fun p => κ p.1, al.map fun p => .int (p.2 : Int)) ρ = .ok (((al ++ xs.map kv).map fun p => κ p.1, (al ++ xs.map kv).map fun p => .int (p.2 : Int)), ρ) := by
  intro xs
  induction xs with
  | nil => intro al _ _ _; simp [dcL]
  | cons x xs ih =>
    intro al h hn hl
    have hx : (kv x).1 ∉ al.map (·.1) := by
      intro z
      rw [List.map_append, List.nodup_append] at hn
      exact hn.2.2 _ z (kv x).1 (by simp) rfl
    rw [List.map_cons, dcL_cons (toD x) _ _ ρ ρ _ _ (h x (by simp)) (by simp at hl ⊢; omega)]
    have hp := put_d κ hκ al (kv x).1 (kv x).2
    have e : putA al (kv x).1 (kv x).2 = al ++ [kv x] := by unfold putA; rw [if_neg hx]
    rw [e] at hp
    unfold dD at hp
    obtain ⟨h1, h2⟩ := D.dic.inj hp
    rw [h1, h2, ih (al ++ [kv x]) (fun y hy => h y (by simp [hy])) (by simpa using hn) (by simp at hl ⊢; omega)]
    simp
theorem get0_idx : ∀ (xs : List Nat) (a k : Nat), k ∈ xs → get0 (((List.range' a xs.length).zip xs).map fun z => (z.2, z.1)) k = a + xs.idxOf k
  | [], _, _, h => by cases h
  | x :: xs, a, k, h => by
    rw [List.length_cons, List.range'_succ, List.zip_cons_cons, List.map_cons]
    by_cases hx : x = k
    · subst hx; simp [get0]
    · have := get0_idx xs (a + 1) k (by rcases List.mem_cons.mp h with z | z; exact absurd z.symm hx; exact z)
      have h2 : (x == k) = false := by simpa using hx
      simp only [get0, hx, if_false, this, List.idxOf_cons, h2, cond_false]
      omega
theorem zip_fst_snd : ∀ (xs : List Nat) (a : Nat), (((List.range' a xs.length).zip xs).map fun z => (z.2, z.1)).map (·.1) = xs
  | [], _ => rfl
  | x :: xs, a => by
    rw [List.length_cons, List.range'_succ, List.zip_cons_cons, List.map_cons, List.map_cons, zip_fst_snd xs (a + 1)]
end BR
namespace LW
open PySem L2 BR
def numsA (c : Cod) : List (Nat × Nat) := ((List.range (met c).length).zip (met c)).map fun z => (z.2, z.1)
abbrev numsD (c : Cod) : D := dD kN (numsA c)
theorem nums_get (c : Cod) (k : Nat) (h : k ∈ met c) : dIx (numsD c) (iD k) = some (.im (iD ((met c).idxOf k))) := by
  have h1 : (numsA c).map (·.1) = met c := by
    unfold numsA; rw [List.range_eq_range']; exact zip_fst_snd (met c) 0
  have h2 := getK_mem kN kN_inj (numsA c) k (by rw [h1]; exact h)
  have h3 : get0 (numsA c) k = (met c).idxOf k := by
    unfold numsA; rw [List.range_eq_range', get0_idx _ 0 k h]; omega
  rw [h3] at h2
  show (keyD (iD k)).bind (fun k => (getK ((numsA c).map fun p => kN p.1) ((numsA c).map fun p => D.int (p.2 : Int)) k).map Rz.im) = _
  simp only [keyD, Option.bind_some]
  rw [h2]; rfl
theorem coder_init (K : PySem.W.Frag) (p q sz : Nat) (hsz : 2 ^ p = sz) (c : Cod) (lead : List Nat) (hp : p ≤ 6) (hq : q ≤ 1000) (h : Wf q sz c) (hl : Sg lead) (hn : lead.length ≤ 2000) :
    F_Coder___init__ K [.ins (He.ga K "Coder") [] [], rateD K p q, codeD c, .str (T lead)] = .ok (.non, [coderD K p q (renum c) lead]) := by
  have e1 := want_rate_ok K p q
  have e2 := want_codes_ok K p q c hp hq (by rw [hsz]; exact h)
  have e3 := is_row_ok K lead hl (by omega)
  have e4 := rate_size K p q hp
  rw [hsz] at e4
  have e5 := states_met_ok K q sz c h
  have hs := sl
  have hf := h.few
  have hm := (met_good h).1.len
  have h1 : lead.length ≤ sizeLine := by omega
  have h2 : ¬ (2000 < (lead.length : Int)) := by omega
  have h64 : sz ≤ 64 := by
    rw [← hsz]
    calc 2 ^ p ≤ 2 ^ 6 := Nat.pow_le_pow_right (by omega) hp
      _ = 64 := by decide
  have h3 : ¬ (2000 < (c.length : Int) * (sz : Int)) := by
    have : c.length * sz ≤ 10 * 64 := Nat.mul_le_mul hf h64
    have h4 : (c.length : Int) * (sz : Int) = ((c.length * sz : Nat) : Int) := by simp
    rw [h4]; omega
  have e6 : dMulI (.int (c.length : Int)) (.int (sz : Int)) = some (.im (.int ((c.length : Int) * (sz : Int)))) := dMulI_ok (.inr ⟨by omega, by omega⟩)
  have e7 := dcL_nodup (vs := [6, 7]) (g := gTupF 2 (gsCons (gVar 6) (gsCons (gVar 7) (gsNil)))) (fk := eVar 7) (fe := eVar 6) kN kN_inj (fun z : Nat × Nat => D.tup [.int (z.1 : Int), iD z.2]) (fun z => (z.2, z.1))
    [some (.io (.ins (He.ga K "Coder") [] [])), some (.sh (rateD K p q)), some (.sh (codeD c)), some (.sh (.str (T lead))), some (.sh (.lst ((met c).map iD))), none, none, none, none, none] ((List.range (met c).length).zip (met c)) [] (by
      intro z hz
      simp [dcT, keyD]) (by
      rw [List.nil_append, List.range_eq_range', zip_fst_snd]
      exact (met_good h).1.nd) (by simp; omega)
  rw [← enums_map, List.nil_append] at e7
  simp only [List.map_nil] at e7
  have nl : ∀ s ∈ met c, (c.getD s []).length ≤ 1000 := fun s hs => by
    have := h.row _ (getD_row h ((met_good h).1.lt s hs)); omega
  have e8 := lcL_map (vs := [7]) (g := gVar 7) (p := pYes) (fe := eLc [8, 9] (itSeq (eOp2 dIx (eVar 2) (eVar 7))) (gTupF 2 (gsCons (gVar 8) (gsCons (gVar 9) (gsNil)))) pYes (eTup (aCons (eV (eVar 8)) (aCons (eV (eOp2 dIx (eVar 5) (eVar 9))) (aNil)))))
    iD (fun s => rowD ((c.getD s []).map fun e => (e.1, (met c).idxOf e.2)))
    [some (.io (.ins (He.ga K "Coder") ["own_rate", "own_lead"] [rateD K p q, .str (T lead)])), some (.sh (rateD K p q)), some (.sh (codeD c)), some (.sh (.str (T lead))), some (.sh (.lst ((met c).map iD))), some (.own (numsD c)), none, none, none, none] (met c) (by
      intro s hs
      have hlt := (met_good h).1.lt s hs
      have a1 : atI (c.map rowD) (s : Int) = some (rowD c[s]) := atI_m rowD c s hlt
      have a2 : c.getD s [] = c[s] := getD_getElem c s [] hlt
      have hcl := met_closed h hs
      have hnl := nl s hs
      rw [a2] at hcl hnl ⊢
      have e9 := lcL_map (vs := [8, 9]) (g := gTupF 2 (gsCons (gVar 8) (gsCons (gVar 9) (gsNil)))) (p := pYes) (fe := eTup (aCons (eV (eVar 8)) (aCons (eV (eOp2 dIx (eVar 5) (eVar 9))) (aNil)))) eD (fun e => eD (e.1, (met c).idxOf e.2))
        [some (.io (.ins (He.ga K "Coder") ["own_rate", "own_lead"] [rateD K p q, .str (T lead)])), some (.sh (rateD K p q)), some (.sh (codeD c)), some (.sh (.str (T lead))), some (.sh (.lst ((met c).map iD))), some (.own (numsD c)), none, some (.sh (iD s)), none, none] c[s] (by
          intro e he
          have a3 := nums_get c e.2 (hcl e he)
          have h2 : 2 ≤ sizeLine := by omega
          simp [a3, h2, -dIx]) (by omega)
      simp [a1, e9]) (by omega)
  have f1 : setFn [] "own_rate" = (["own_rate"] : List Str) := rfl
  have f2 : setFn ["own_rate"] "own_lead" = (["own_rate", "own_lead"] : List Str) := rfl
  have f3 : setFn ["own_rate", "own_lead"] "own_codes" = (["own_rate", "own_lead", "own_codes"] : List Str) := rfl
  have f4 : ∀ b : D, setFx [] [] "own_rate" b = [b] := fun _ => rfl
  have f5 : ∀ a b : D, setFx ["own_rate"] [a] "own_lead" b = [a, b] := fun _ _ => rfl
  have f6 : ∀ a b d : D, setFx ["own_rate", "own_lead"] [a, b] "own_codes" d = [a, b, d] := fun _ _ _ => rfl
  have hD : D.dic (List.map (fun p => kN p.1) (List.map (fun z : Nat × Nat => (z.2, z.1)) ((List.range (met c).length).zip (met c)))) (List.map (fun p => D.int (p.2 : Int)) (List.map (fun z : Nat × Nat => (z.2, z.1)) ((List.range (met c).length).zip (met c)))) = numsD c := rfl
  have hR : D.lst ((met c).map fun s => rowD ((c.getD s []).map fun e => (e.1, (met c).idxOf e.2))) = codeD (renum c) := by
    simp only [codeD, renum, List.map_map]; rfl
  simp only [F_Coder___init__, B_Coder___init__, runF]
  have n1 : ¬ Str.ofString "own_rate" = Str.ofString "own_lead" := by decide
  have n2 : ¬ Str.ofString "own_rate" = Str.ofString "own_codes" := by decide
  have n3 : ¬ Str.ofString "own_lead" = Str.ofString "own_codes" := by decide
  simp [e1, e2, e3, e4, e5, h1, h2, h3, T_len, e6, e7, -List.map_map, n1, n2, n3]
  rw [hD]
  simp [e8, -List.map_map, hR, n1, n2, n3, -List.getD_eq_getElem?_getD]
end LW
set_option Elab.async false
set_option linter.all false
set_option maxRecDepth 100000
set_option maxHeartbeats 1000000
namespace LW
open PySem L2 BR
/-! ### _law_kept -/
noncomputable abbrev kpG : D → S → Option S := gTupF 2 (gsCons (gVar 3) (gsCons (gVar 4) (gsNil)))
noncomputable abbrev kpB : SF := sIf (tstV (eOp2 dNotIn (eVar 4) (eVar 1))) (sDrop (eAppend 1 (eVar 4))) (sNil)
theorem kp_row (c : Cod) (n i : Nat) (hn : n ≤ 1000) (o : List Nat) (r : List (List Nat × Nat)) (hg : Gd n o) (hr : ∀ e ∈ r, e.2 < n) (x y : Option Sl) (hx : shN x) (hy : shN y) : ∃ x' y', shN x' ∧ shN y' ∧
    sForL kpG kpB (r.map eD) [some (.sh (codeD c)), some (.own (.lst (o.map iD))), some (.sh (iD i)), x, y, none] =
      .ok (.nx, [some (.sh (codeD c)), some (.own (.lst ((addR o r).map iD))), some (.sh (iD i)), x', y', none]) := by
  have e := sForL_rel (g := kpG) (b := kpB) eD (fun p ρ => ∃ x y, shN x ∧ shN y ∧ (∀ e ∈ p, e.2 < n) ∧ ρ = [some (.sh (codeD c)), some (.own (.lst ((addR o p).map iD))), some (.sh (iD i)), x, y, none]) r _ (by
    rintro p e ρ he ⟨x, y, hx, hy, hp, rfl⟩
    have hp2 : ∀ e' ∈ p ++ [e], e'.2 < n := by
      intro e' he'
      rcases List.mem_append.mp he' with z | z
      · exact hp e' z
      · simp at z; subst z; exact hr _ he
    refine ⟨_, ?_, some (.sh (.str (T e.1))), some (.sh (iD e.2)), shN_sh _, shN_sh _, hp2, rfl⟩
    have hgp := addR_gd p o hg hp
    have ha : addR o (p ++ [e]) = add1 (addR o p) e.2 := by simp [addR]
    rw [ha]
    have hl := hgp.len
    have hs : (addR o p).length < sizeLine := by have := sl; omega
    have e1 := notIn_n (addR o p) e.2
    by_cases h : e.2 ∈ addR o p
    · have e4 : add1 (addR o p) e.2 = addR o p := by unfold add1; rw [if_pos h]
      rw [e4]
      rcases hx with rfl | ⟨d, rfl⟩ <;> rcases hy with rfl | ⟨d', rfl⟩ <;> simp [e1, h]
    · have e4 : (add1 (addR o p) e.2).map iD = (addR o p).map iD ++ [iD e.2] := by unfold add1; rw [if_neg h]; simp
      rcases hx with rfl | ⟨d, rfl⟩ <;> rcases hy with rfl | ⟨d', rfl⟩ <;> simp [e1, h, hs, e4]) ⟨x, y, hx, hy, by simp, rfl⟩
  obtain ⟨ρ', e, x', y', hx', hy', _, rfl⟩ := e
  exact ⟨x', y', hx', hy', e⟩
theorem kept_ok (K : PySem.W.Frag) (q sz : Nat) (c : Cod) (h : Wf q sz c) (hsz : sz ≤ 1000) : F__law_kept K [codeD c] = .ok (codeD (renum c), []) := by
  have hf := h.few
  have hsl := sl
  have hw := sWhile_rel (c := tstV (eOp2 (dI fun i j => .bl (decide (i < j))) (eVar 2) (eCB dLen (hCons (eVar 1) (hNil))))) (b := sSeq (sFor (itSeq (eOp2 dIx (eVar 0) (eOp2 dIx (eVar 1) (eVar 2)))) kpG kpB) (sAsg 2 (eOp2 dAdd (eVar 2) (eK (.int 1)))))
    (fun m ρ => ∃ o i x y, shN x ∧ shN y ∧ Gd c.length o ∧ i ≤ o.length ∧ m = c.length - i ∧ bfs c (m + 1) o i = met c ∧ ρ = [some (.sh (codeD c)), some (.own (.lst (o.map iD))), some (.sh (iD i)), x, y, none])
    (fun ρ => ∃ i x y, shN x ∧ shN y ∧ ρ = [some (.sh (codeD c)), some (.own (.lst ((met c).map iD))), some (.sh (iD i)), x, y, none]) (by
      rintro m ρ ⟨o, i, x, y, hx, hy, hg, hi, hm, hb, rfl⟩
      by_cases hlt : i < o.length
      · right
        have hl := hg.len
        obtain ⟨x', y', hx', hy', e⟩ := kp_row c c.length i (by omega) o (c.getD (o.getD i 0) []) hg (row_lt h _) x y hx hy
        have ho : o[i] < c.length := hg.lt _ (List.getElem_mem hlt)
        have a1 : atI (o.map iD) (i : Int) = some (iD o[i]) := atI_m iD o i hlt
        have a2 : atI (c.map rowD) ((o[i] : Nat) : Int) = some (rowD c[o[i]]) := atI_m rowD c o[i] ho
        have e5 : c.getD (o.getD i 0) [] = c[o[i]] := by rw [getD_getElem o i 0 hlt, getD_getElem c _ [] ho]
        rw [e5] at e
        refine ⟨[some (.sh (codeD c)), some (.own (.lst (o.map iD))), some (.sh (iD i)), x, y, none], [some (.sh (codeD c)), some (.own (.lst ((addR o c[o[i]]).map iD))), some (.sh (iD (i + 1))), x', y', none], c.length - (i + 1), ?_, ?_, by omega, addR o c[o[i]], i + 1, x', y', hx', hy', ?_, ?_, rfl, ?_, rfl⟩
        · simp [hlt]
        · simp [a1, a2, e]
        · exact addR_gd _ _ hg (by rw [← e5]; exact row_lt h _)
        · have := (addR_pre c[o[i]] o).length_le; omega
        · rw [bfs, if_pos hlt, e5] at hb
          rw [show c.length - (i + 1) + 1 = m by omega]
          exact hb
      · left
        rw [bfs, if_neg hlt] at hb
        rw [← hb]
        refine ⟨[some (.sh (codeD c)), some (.own (.lst (o.map iD))), some (.sh (iD i)), x, y, none], ?_, i, x, y, hx, hy, rfl⟩
        simp [hlt]) 2001 c.length [some (.sh (codeD c)), some (.own (.lst ([0].map iD))), some (.sh (iD 0)), none, none, none] (by omega) ⟨[0], 0, none, none, shN_no, shN_no, gd0 h, by simp, by omega, rfl, rfl⟩
  obtain ⟨ρ', e, i, x, y, hx, hy, rfl⟩ := hw
  have hs : 1 ≤ sizeLine := by have := sl; omega
  replace e : sWhile _ _ 2001 [some (.sh (codeD c)), some (.own (.lst [.int 0])), some (.sh (.int 0)), none, none, none] = _ := e
  have nl : ∀ s ∈ met c, (c.getD s []).length ≤ 1000 := fun s hs => by
    have := h.row _ (getD_row h ((met_good h).1.lt s hs)); omega
  have hm := (met_good h).1.len
  have e8 : ∀ x y, shN x → shN y → lcL [5] (gVar 5) pYes (eLc [3, 4] (itSeq (eOp2 dIx (eVar 0) (eVar 5))) kpG pYes (eTup (aCons (eV (eVar 3)) (aCons (eV (eIndex (eVar 1) (eVar 4))) (aNil))))) ((met c).map iD) []
      [some (.sh (codeD c)), some (.sh (.lst ((met c).map iD))), some (.sh (iD i)), x, y, none] = .ok ((met c).map fun s => rowD ((c.getD s []).map fun e => (e.1, (met c).idxOf e.2)), [some (.sh (codeD c)), some (.sh (.lst ((met c).map iD))), some (.sh (iD i)), x, y, none]) := by
    intro x y hx hy
    refine lcL_map iD (fun s => rowD ((c.getD s []).map fun e => (e.1, (met c).idxOf e.2))) _ (met c) ?_ (by omega)
    intro s hs
    have hlt := (met_good h).1.lt s hs
    have a1 : atI (c.map rowD) (s : Int) = some (rowD c[s]) := atI_m rowD c s hlt
    have a2 : c.getD s [] = c[s] := getD_getElem c s [] hlt
    have hcl := met_closed h hs
    have hnl := nl s hs
    rw [a2] at hcl hnl ⊢
    have e9 := lcL_map (vs := [3, 4]) (g := kpG) (p := pYes) (fe := eTup (aCons (eV (eVar 3)) (aCons (eV (eIndex (eVar 1) (eVar 4))) (aNil)))) eD (fun e => eD (e.1, (met c).idxOf e.2))
      [some (.sh (codeD c)), some (.sh (.lst ((met c).map iD))), some (.sh (iD i)), none, none, some (.sh (iD s))] c[s] (by
        intro e he
        have a3 := index_n (met c) e.2 (hcl e he)
        have h2 : 2 ≤ sizeLine := by omega
        simp [a3, h2]) (by omega)
    rcases hx with rfl | ⟨d, rfl⟩ <;> rcases hy with rfl | ⟨d', rfl⟩ <;> simp [a1, e9]
  have e8' := e8 x y hx hy
  have hR : D.lst ((met c).map fun s => rowD ((c.getD s []).map fun e => (e.1, (met c).idxOf e.2))) = codeD (renum c) := by
    simp only [codeD, renum, List.map_map]; rfl
  simp [F__law_kept, B__law_kept, e, hs, e8', -List.map_map, hR, -List.getD_eq_getElem?_getD]
end LW
set_option Elab.async false
set_option linter.all false
set_option maxRecDepth 100000
set_option maxHeartbeats 1000000
namespace BR
open PySem L2
theorem items_d {α : Type} (κ : α → Key) (al : List (α × Nat)) : itemsD (al.map fun p => κ p.1) (al.map fun p => D.int (p.2 : Int)) = al.map fun p => D.tup [kD (κ p.1), .int (p.2 : Int)] := by
  unfold itemsD
  induction al with
  | nil => rfl
  | cons p al ih => simp [ih]
end BR
namespace LW
open PySem L2 BR
/-! ### still_open -/
noncomputable abbrev soG : D → S → Option S := gTupF 2 (gsCons (gVar 11) (gsCons (gVar 12) (gsNil)))
noncomputable abbrev soB : SF := sIf (tstV (eOp2 dEq (eVar 11) (eVar 7))) (sPutD 8 (eVar 12) (eOp2 dAdd (eDGet2 (eVar 8) (eVar 12) (eK (.int 0))) (eVar 10))) (sNil)
noncomputable abbrev soIn : SF := sFor (itSeq (eOp2 dIx (eVar 4) (eVar 9))) soG soB
noncomputable abbrev soBody : SF := sSeq (sPar [7, 8] (pCons (eSl (eVar 1) (oSome (eVar 6)) (oSome (eOp2 dAdd (eVar 6) (eVar 3)))) (pCons (eDic0) (pNil))))
    (sSeq (sForD itemsD 5 (gTupF 2 (gsCons (gVar 9) (gsCons (gVar 10) (gsNil)))) soIn) (sAsg 5 (eVar 8)))
theorem so_row (n : Nat) (hn : n ≤ 1000) (s0 s1 s2 s3 s4 s5 s6 s9 : Option Sl) (b : List Nat) (m : Nat) (al : List (Nat × Nat)) (r : List (List Nat × Nat)) (hg : Kd n al) (hr : ∀ e ∈ r, e.2 < n) (x y : Option Sl) (hx : shN x) (hy : shN y) : ∃ x' y', shN x' ∧ shN y' ∧
    sForL soG soB (r.map eD) [s0, s1, s2, s3, s4, s5, s6, some (.sh (.str (T b))), some (.own (dD kN al)), s9, some (.sh (iD m)), x, y] =
      .ok (.nx, [s0, s1, s2, s3, s4, s5, s6, some (.sh (.str (T b))), some (.own (dD kN (r.foldl (stE b m) al))), s9, some (.sh (iD m)), x', y']) := by
  have e := sForL_rel (g := soG) (b := soB) eD (fun p ρ => ∃ x y, shN x ∧ shN y ∧ (∀ e ∈ p, e.2 < n) ∧ ρ = [s0, s1, s2, s3, s4, s5, s6, some (.sh (.str (T b))), some (.own (dD kN (p.foldl (stE b m) al))), s9, some (.sh (iD m)), x, y]) r _ (by
    rintro p e ρ he ⟨x, y, hx, hy, hp, rfl⟩
    have hp2 : ∀ e' ∈ p ++ [e], e'.2 < n := by
      intro e' he'
      rcases List.mem_append.mp he' with z | z
      · exact hp e' z
      · simp at z; subst z; exact hr _ he
    refine ⟨_, ?_, some (.sh (.str (T e.1))), some (.sh (iD e.2)), shN_sh _, shN_sh _, hp2, rfl⟩
    have hgp := (fold_kd (b := b) (m := m) p hg hp).1
    have hl := hgp.len
    generalize hz : p.foldl (stE b m) al = bl at *
    have ha : (p ++ [e]).foldl (stE b m) al = stE b m bl e := by simp [hz]
    rw [ha]
    have hs : bl.length < sizeLine := by have := sl; omega
    have g1 := getK_d kN kN_inj bl e.2
    have g2 := put_d kN kN_inj bl e.2 (get0 bl e.2 + m)
    by_cases h : e.1 = b
    · have e4 : stE b m bl e = putA bl e.2 (get0 bl e.2 + m) := by unfold stE; rw [if_pos h]
      rw [e4, ← g2]
      subst h
      rcases hx with rfl | ⟨d, rfl⟩ <;> rcases hy with rfl | ⟨d', rfl⟩ <;> simp [dEq, eqD, hs, dD, g1]
    · have e4 : stE b m bl e = bl := by unfold stE; rw [if_neg h]
      rw [e4]
      have h2 : ¬ T e.1 = T b := fun z => h (T_inj.mp z)
      rcases hx with rfl | ⟨d, rfl⟩ <;> rcases hy with rfl | ⟨d', rfl⟩ <;> simp [dEq, eqD, h, dD]) ⟨x, y, hx, hy, by simp, rfl⟩
  obtain ⟨ρ', e, x', y', hx', hy', _, rfl⟩ := e
  exact ⟨x', y', hx', hy', e⟩
theorem so_states {q sz : Nat} {c : Cod} (h : Wf q sz c) (s0 s1 s2 s3 s5 s6 : Option Sl) (b : List Nat) (al : List (Nat × Nat)) (hk : Kd c.length al) (w x y z : Option Sl) (hw : shN w) (hx : shN x) (hy : shN y) (hz : shN z) : ∃ w' x' y' z', shN w' ∧ shN x' ∧ shN y' ∧ shN z' ∧
    sForL (gTupF 2 (gsCons (gVar 9) (gsCons (gVar 10) (gsNil)))) soIn (al.map fun p => D.tup [iD p.1, iD p.2]) [s0, s1, s2, s3, some (.sh (codeD c)), s5, s6, some (.sh (.str (T b))), some (.own (dD kN [])), w, x, y, z] =
      .ok (.nx, [s0, s1, s2, s3, some (.sh (codeD c)), s5, s6, some (.sh (.str (T b))), some (.own (dD kN (stA c b al))), w', x', y', z']) := by
  have e := sForL_rel (g := gTupF 2 (gsCons (gVar 9) (gsCons (gVar 10) (gsNil)))) (b := soIn) (fun p : Nat × Nat => D.tup [iD p.1, iD p.2]) (fun p ρ => ∃ w x y z, shN w ∧ shN x ∧ shN y ∧ shN z ∧ ρ = [s0, s1, s2, s3, some (.sh (codeD c)), s5, s6, some (.sh (.str (T b))), some (.own (dD kN (p.foldl (stS c b) []))), w, x, y, z]) al _ (by
    rintro p e ρ he ⟨w, x, y, z, hw, hx, hy, hz, rfl⟩
    have hlt : e.1 < c.length := hk.gd.lt _ (List.mem_map_of_mem he)
    have hgp := (stS_fold h b p [] (kd_nil _)).1
    obtain ⟨y', z', hy', hz', e2⟩ := so_row c.length (by have := h.few; omega) s0 s1 s2 s3 (some (.sh (codeD c))) s5 s6 (some (.sh (iD e.1))) b e.2 (p.foldl (stS c b) []) (c.getD e.1 []) hgp (row_lt h _) y z hy hz
    refine ⟨_, ?_, some (.sh (iD e.1)), some (.sh (iD e.2)), y', z', shN_sh _, shN_sh _, hy', hz', rfl⟩
    have a1 : atI (c.map rowD) (e.1 : Int) = some (rowD c[e.1]) := atI_m rowD c e.1 hlt
    have a2 : c.getD e.1 [] = c[e.1] := getD_getElem c e.1 [] hlt
    have ha : (p ++ [e]).foldl (stS c b) [] = (c.getD e.1 []).foldl (stE b e.2) (p.foldl (stS c b) []) := by rw [List.foldl_append]; rfl
    rw [ha]
    rw [a2] at e2 ⊢
    rcases hw with rfl | ⟨d, rfl⟩ <;> rcases hx with rfl | ⟨d', rfl⟩ <;> simp [a1, e2]) ⟨w, x, y, z, hw, hx, hy, hz, rfl⟩
  obtain ⟨ρ', e, w', x', y', z', hw', hx', hy', hz', rfl⟩ := e
  exact ⟨w', x', y', z', hw', hx', hy', hz', e⟩
end LW
set_option Elab.async false
set_option linter.all false
set_option maxRecDepth 100000
set_option maxHeartbeats 1000000
namespace LW
open PySem L2 BR
theorem rng_size (bg J q : Nat) (hq : 1 ≤ q) (hq3 : q ≤ 3) : Builtin.Range.rangeSize (bg : Int) ((bg + J * q : Nat) : Int) (q : Int) = (J : Int) := by
  unfold Builtin.Range.rangeSize
  have : q = 1 ∨ q = 2 ∨ q = 3 := by omega
  rcases this with rfl | rfl | rfl
  · rw [if_pos (by decide)]; split <;> omega
  · rw [if_pos (by decide)]; split <;> omega
  · rw [if_pos (by decide)]; split <;> omega
theorem rng_ok (bg J q : Nat) (hq : 1 ≤ q) (hq3 : q ≤ 3) (h : bg + J * q ≤ 100000) : RgC (bg : Int) ((bg + J * q : Nat) : Int) (q : Int) J := by
  refine ⟨by omega, by omega, ?_, rng_size bg J q hq hq3⟩
  unfold Builtin.Range.small
  rw [rng_size bg J q hq hq3]
  have hJ : J ≤ 100000 := by
    have : J * 1 ≤ J * q := Nat.mul_le_mul_left J hq
    omega
  have hq0 : (q : Int) > 0 := by omega
  simp only [Builtin.Range.rangeFitsLong, Bool.and_eq_true, Bool.or_eq_true, decide_eq_true_eq, beq_iff_eq, if_pos hq0]
  have : q = 1 ∨ q = 2 ∨ q = 3 := by omega
  rcases this with rfl | rfl | rfl
  · omega
  · omega
  · omega
theorem so_yes (K : PySem.W.Frag) (p q sz : Nat) (c : Cod) (h : Wf q sz c) (lead row : List Nat) (hq : 1 ≤ q) (hq3 : q ≤ 3) (hr : Sg row) (hl : row.length ≤ 2000) (hp : lead <+: row) (J : Nat) (hJ : row.length = lead.length + J * q) :
    F_still_open K [coderD K p q c lead, .str (T row)] = .ok (iD (dsum (fun _ => 1) (cnts c row q lead.length J)), []) := by
  have hs := sl
  have e1 := want_coder_ok K p q c lead
  have e2 := want_row_ok K row hr hl
  have e3 := coder_lead K p q c lead
  have e4 := coder_rate K p q c lead
  have e5 := rate_q K p q
  have e6 := coder_codes K p q c lead (by have := h.few; omega)
  have hll : lead.length ≤ sizeLine := by omega
  have hrl : row.length ≤ sizeLine := by omega
  have st : Txt.startswith (T row) (T lead) = true := by rw [T_starts, decide_eq_true hp]
  have mo : dIc (fun _ j => 0 < j) (fun i j => i % j) (.int ((row.length : Int) - (lead.length : Int))) (.int (q : Int)) = some (.im (.int 0)) := by
    have e0 : dIc (fun _ j => 0 < j) (fun i j => i % j) (.int ((row.length : Int) - (lead.length : Int))) (.int (q : Int)) = some (.im (.int (((row.length : Int) - (lead.length : Int)) % (q : Int)))) := dIc_ok (by omega)
    rw [e0]
    have : ((row.length : Int) - (lead.length : Int)) = (J : Int) * (q : Int) := by rw [hJ]; simp; omega
    rw [this, Int.mul_emod_left]
  have rg := rng_ok lead.length J q hq hq3 (by omega)
  have rs := rng_size lead.length J q hq hq3
  rw [← hJ] at rg rs
  have loop := sForL_relP (g := gVar 6) (b := soBody) (fun j : Nat => D.int ((lead.length : Int) + (j : Int) * (q : Int))) (fun pre ρ => ∃ s5 s6 s7 s8 s9 s10 s11 s12, shN s6 ∧ shN s7 ∧ (shN s8 ∨ ∃ d, s8 = some (.own d)) ∧ shN s9 ∧ shN s10 ∧ shN s11 ∧ shN s12 ∧ (s5 = some (.sh (dD kN (cnts c row q lead.length pre.length))) ∨ s5 = some (.own (dD kN (cnts c row q lead.length pre.length)))) ∧
      ρ = [some (.sh (coderD K p q c lead)), some (.sh (.str (T row))), some (.sh (iD lead.length)), some (.sh (iD q)), some (.sh (codeD c)), s5, s6, s7, s8, s9, s10, s11, s12]) (List.range J) [] [some (.sh (coderD K p q c lead)), some (.sh (.str (T row))), some (.sh (iD lead.length)), some (.sh (iD q)), some (.sh (codeD c)), some (.own (.dic [.inl 0] [.int 1])), none, none, none, none, none, none, none] (by
      rintro pre j post ρ hj ⟨s5, s6, s7, s8, s9, s10, s11, s12, h6, h7, h8, h9, h10, h11, h12, h5, rfl⟩
      rw [List.nil_append] at hj
      have hjp : j = pre.length := by
        have := congrArg (fun l => l[pre.length]?) hj
        simp only [List.getElem?_append_right (Nat.le_refl pre.length), Nat.sub_self, List.getElem?_cons_zero] at this
        have hlt : pre.length < J := by
          have := congrArg List.length hj
          simp at this; omega
        rw [List.getElem?_range hlt] at this
        exact (Option.some.inj this).symm
      have hlt : j < J := by
        have := congrArg List.length hj
        simp at this; omega
      subst hjp
      have hjq : lead.length + pre.length * q + q ≤ row.length := by
        rw [hJ]
        have : (pre.length + 1) * q ≤ J * q := Nat.mul_le_mul_right q hlt
        rw [Nat.succ_mul] at this
        omega
      have hk := cnts_kd h row lead.length pre.length
      obtain ⟨w', x', y', z', hw', hx', hy', hz', e7⟩ := so_states h (some (.sh (coderD K p q c lead))) (some (.sh (.str (T row)))) (some (.sh (iD lead.length))) (some (.sh (iD q))) (some (.sh (dD kN (cnts c row q lead.length pre.length)))) (some (.sh (.int ((lead.length : Int) + (pre.length : Int) * (q : Int))))) ((row.drop (lead.length + pre.length * q)).take q) (cnts c row q lead.length pre.length) hk s9 s10 s11 s12 h9 h10 h11 h12
      have hcut : cutS (T row) (some ((lead.length : Int) + (pre.length : Int) * (q : Int))) (some ((lead.length : Int) + (pre.length : Int) * (q : Int) + (q : Int))) = T ((row.drop (lead.length + pre.length * q)).take q) := by
        have := cut_mid row (lead.length + pre.length * q) (lead.length + pre.length * q + q) (by omega)
        rw [show lead.length + pre.length * q + q - (lead.length + pre.length * q) = q by omega] at this
        rw [← this]
        simp
      have it := items_d kN (cnts c row q lead.length pre.length)
      refine ⟨[some (.sh (coderD K p q c lead)), some (.sh (.str (T row))), some (.sh (iD lead.length)), some (.sh (iD q)), some (.sh (codeD c)), some (.sh (dD kN (cnts c row q lead.length (pre.length + 1)))), some (.sh (.int ((lead.length : Int) + (pre.length : Int) * (q : Int)))), some (.sh (.str (T ((row.drop (lead.length + pre.length * q)).take q)))), some (.sh (dD kN (cnts c row q lead.length (pre.length + 1)))), w', x', y', z'], ?_, _, _, _, _, _, _, _, _, shN_sh _, shN_sh _, .inl (shN_sh _), hw', hx', hy', hz', .inl (by simp), rfl⟩
      have d0 : dD kN [] = .dic [] [] := rfl
      rw [d0] at e7
      have c1 : cnts c row q lead.length (pre.length + 1) = stA c ((row.drop (lead.length + pre.length * q)).take q) (cnts c row q lead.length pre.length) := rfl
      rw [← c1] at e7
      generalize hal : cnts c row q lead.length pre.length = al at *
      generalize hbl : cnts c row q lead.length (pre.length + 1) = bl at *
      generalize hrw : (row.drop (lead.length + pre.length * q)).take q = blk at *
      unfold dD at *
      have it2 : itemsD (al.map fun p => kN p.1) (al.map fun p => D.int (p.2 : Int)) = al.map fun p => D.tup [iD p.1, iD p.2] := it
      rcases h5 with rfl | rfl <;> rcases h6 with rfl | ⟨_, rfl⟩ <;> rcases h7 with rfl | ⟨_, rfl⟩ <;> rcases h8 with (rfl | ⟨_, rfl⟩) | ⟨_, rfl⟩ <;> simp [dSl, T_len, hrl, hcut, it2, e7]) ⟨_, _, _, _, _, _, _, _, shN_no, shN_no, .inl shN_no, shN_no, shN_no, shN_no, shN_no, .inr rfl, rfl⟩
  obtain ⟨ρ', e8, s5, s6, s7, s8, s9, s10, s11, s12, h6, h7, h8, h9, h10, h11, h12, h5, rfl⟩ := loop
  have e9 : (List.range J).map (fun j : Nat => D.int ((lead.length : Int) + (j : Int) * (q : Int))) = rngC (lead.length : Int) (q : Int) J := rfl
  rw [e9] at e8
  simp only [List.nil_append, List.length_range] at h5
  have ii := intsD_d (cnts c row q lead.length J)
  have ss : (List.map (fun p : Nat × Nat => (p.2 : Int)) (cnts c row q lead.length J)).sum = ((dsum (fun _ => 1) (cnts c row q lead.length J) : Nat) : Int) := by
    unfold dsum
    rw [← sum_cast, List.map_map]
    congr 1
    apply List.map_congr_left
    intro p _
    simp
  have hj2 : (Builtin.Range.rangeSize (lead.length : Int) (row.length : Int) (q : Int)).toNat = J := by rw [rs]; simp
  have hF : hasF ["own_rate", "own_lead", "own_codes"] "codes" = false := by decide
  have it3 : ∀ ρ : S, ρ = [some (.sh (coderD K p q c lead)), some (.sh (.str (T row))), some (.sh (iD lead.length)), some (.sh (iD q)), some (.sh (codeD c)), some (.own (.dic [.inl 0] [.int 1])), none, none, none, none, none, none, none] → itRng3 (aCons (eV (eVar 2)) (aCons (eV (eCB dLen (hCons (eVar 1) (hNil)))) (aCons (eV (eVar 3)) (aNil)))) ρ = .ok (rngC (lead.length : Int) (q : Int) J, ρ) := by
    intro ρ hρ
    rw [hρ]
    simp [itRng3, T_len, hrl, hj2, rg]
  have it4 := it3 _ rfl
  generalize hal : cnts c row q lead.length J = al at *
  unfold dD at h5
  rcases h5 with rfl | rfl <;> simp [F_still_open, B_still_open, e1, e2, e3, e4, e5, e6, hll, hrl, T_len, dStarts, st, mo, dNe, eqD, hF, -hasF, it4, e8, ii, ss]
end LW
set_option Elab.async false
set_option linter.all false
set_option maxRecDepth 100000
set_option maxHeartbeats 1000000
namespace LW
open PySem L2 BR
theorem so_no (K : PySem.W.Frag) (p q : Nat) (c : Cod) (lead row : List Nat) (hq : 1 ≤ q) (hr : Sg row) (hl : row.length ≤ 2000) (hll : lead.length ≤ 2000) (hp : ¬ (lead <+: row ∧ (row.length - lead.length) % q = 0)) :
    F_still_open K [coderD K p q c lead, .str (T row)] = .ok (iD 0, []) := by
  have hs := sl
  have e1 := want_coder_ok K p q c lead
  have e2 := want_row_ok K row hr hl
  have e3 := coder_lead K p q c lead
  have e4 := coder_rate K p q c lead
  have e5 := rate_q K p q
  have hll : lead.length ≤ sizeLine := by omega
  have hrl : row.length ≤ sizeLine := by omega
  by_cases hst : lead <+: row
  · have st : Txt.startswith (T row) (T lead) = true := by rw [T_starts, decide_eq_true hst]
    have hle := hst.length_le
    have h0 : ¬ (row.length - lead.length) % q = 0 := fun z => hp ⟨hst, z⟩
    have e0 : dIc (fun _ j => 0 < j) (fun i j => i % j) (.int ((row.length : Int) - (lead.length : Int))) (.int (q : Int)) = some (.im (iD ((row.length - lead.length) % q))) := by
      have : dIc (fun _ j => 0 < j) (fun i j => i % j) (.int ((row.length : Int) - (lead.length : Int))) (.int (q : Int)) = some (.im (.int (((row.length : Int) - (lead.length : Int)) % (q : Int)))) := dIc_ok (by omega)
      rw [this]
      congr 3
      rw [← Int.ofNat_sub hle]
      exact (Int.natCast_emod _ _).symm
    have h1 : ¬ (((row.length - lead.length) % q : Nat) : Int) = 0 := by omega
    have n1 : dNe (iD ((row.length - lead.length) % q)) (.int 0) = some (.im (.bl true)) := by
      simp only [dNe, eqD, h1, decide_false, Option.map_some, Bool.not_false]
    simp [F_still_open, B_still_open, e1, e2, e3, e4, e5, hll, hrl, T_len, dStarts, st, e0, n1]
  · have st : Txt.startswith (T row) (T lead) = false := by rw [T_starts, decide_eq_false hst]
    simp [F_still_open, B_still_open, e1, e2, e3, e4, e5, hll, hrl, T_len, dStarts, st]
theorem still_open_ok (K : PySem.W.Frag) (p q sz : Nat) (c : Cod) (h : Wf q sz c) (lead row : List Nat) (hq : 1 ≤ q) (hq3 : q ≤ 3) (hr : Sg row) (hl : row.length ≤ 2000) (hll : lead.length ≤ 2000) :
    F_still_open K [coderD K p q c lead, .str (T row)] = .ok (iD (opn c lead q sz row), []) := by
  unfold opn
  split
  · rename_i hc
    obtain ⟨hp, hm⟩ := hc
    have hle := hp.length_le
    have hJ : row.length = lead.length + (row.length - lead.length) / q * q := by
      have := Nat.div_add_mod (row.length - lead.length) q
      rw [hm, Nat.mul_comm] at this
      omega
    rw [so_yes K p q sz c h lead row hq hq3 hr hl hp _ hJ, cnts_sum h lead row hp _ (by omega), ← hJ, List.take_length]
  · rename_i hc
    exact so_no K p q c lead row hq hr hl hll hc
/-! ### _law_run, _law_texts -/
abbrev tD (t : List Nat) : D := .lst (t.map iD)
theorem run_ok (K : PySem.W.Frag) (q sz : Nat) (c : Cod) (h : Wf q sz c) (hq : q ≤ 1000) (lead t : List Nat) (hl : lead.length ≤ 1000) (ht : t.length ≤ 100) (hw : ∀ w ∈ t, w < sz) :
    F__law_run K [codeD c, .str (T lead), tD t] = .ok (.tup [.str (T (run c lead t).1), iD (run c lead t).2], []) := by
  have hs := sl
  have e := sForL_relP (g := gVar 5) (b := sSeq (sAsgT (gTupF 2 (gsCons (gVar 6) (gsCons (gVar 4) (gsNil)))) (eOp2 dIx (eOp2 dIx (eVar 0) (eVar 4)) (eVar 5))) (sAsg 3 (eOp2 dAdd (eVar 3) (eVar 6)))) iD
    (fun p ρ => ∃ x y, shN x ∧ shN y ∧ ρ = [some (.sh (codeD c)), some (.sh (.str (T lead))), some (.sh (tD t)), some (.sh (.str (T (run c lead p).1))), some (.sh (iD (run c lead p).2)), x, y]) t [] _ (by
      rintro p w post ρ hp ⟨x, y, hx, hy, rfl⟩
      rw [List.nil_append] at hp
      have hpl : p.length ≤ 100 := by have := congrArg List.length hp; simp at this; omega
      have hwp : ∀ x ∈ p, x < sz := fun x hx => hw x (by rw [hp]; simp [hx])
      have hwz : w < sz := hw w (by rw [hp]; simp)
      obtain ⟨h1, h2, _, _⟩ := foldl_wf h lead p (lead, 0) hwp h.pos
      have h1' : (run c lead p).2 < c.length := h1
      have h2' : (run c lead p).1.length = lead.length + q * p.length := h2
      have hr := run_snoc c lead p w
      have hrl := h.row _ (List.getElem_mem h1')
      have a1 : atI (c.map rowD) ((run c lead p).2 : Int) = some (rowD c[(run c lead p).2]) := atI_m rowD c _ h1'
      have a2 : atI (c[(run c lead p).2].map eD) (w : Int) = some (eD (c[(run c lead p).2][w]'(by omega))) := atI_m eD _ w (by omega)
      have a3 : ent c (run c lead p).2 w = c[(run c lead p).2][w]'(by omega) := by
        unfold ent; rw [getD_getElem c _ [] h1', getD_getElem _ _ _ (by omega)]
      have we := ent_wf h h1' hwz
      have hm : q * p.length ≤ 1000 * 100 := Nat.mul_le_mul hq hpl
      have hsz : (run c lead p).1.length + (ent c (run c lead p).2 w).1.length ≤ sizeLine := by rw [h2', we.len]; omega
      rw [← a3] at a2
      have hst : run c lead (p ++ [w]) = ((run c lead p).1 ++ (ent c (run c lead p).2 w).1, (ent c (run c lead p).2 w).2) := hr
      rw [hst]
      generalize ent c (run c lead p).2 w = en at *
      refine ⟨_, ?_, some (.sh (iD w)), some (.sh (.str (T en.1))), shN_sh _, shN_sh _, rfl⟩
      rcases hx with rfl | ⟨_, rfl⟩ <;> rcases hy with rfl | ⟨_, rfl⟩ <;> simp [a1, a2, T_len, hsz, T_app]) ⟨none, none, shN_no, shN_no, rfl⟩
  obtain ⟨ρ', e, x, y, hx, hy, rfl⟩ := e
  have h2 : 2 ≤ sizeLine := by omega
  replace e : sForL _ _ (t.map iD) [some (.sh (codeD c)), some (.sh (.str (T lead))), some (.sh (tD t)), some (.sh (.str (T lead))), some (.sh (.int 0)), none, none] = _ := e
  simp [F__law_run, B__law_run, e, h2]
theorem rng_i (n : Nat) : (List.range n).map iD = rngL 0 n := by simp [rngL]
theorem texts_pow (sz j : Nat) (hsz : sz ≤ 4) (hj : j ≤ 4) : (texts sz j).length ≤ 256 := by
  rw [texts_len]
  calc sz ^ j ≤ 4 ^ j := Nat.pow_le_pow_left hsz j
    _ ≤ 4 ^ 4 := Nat.pow_le_pow_right (by omega) hj
    _ = 256 := by decide
theorem tx_lc (sz : Nat) (hsz : sz ≤ 4) (t : List Nat) (s1 s2 s3 s4 : Option Sl) (ht : t.length ≤ 4) : lcL [6] (gVar 6) pYes (eOp2 dAdd (eVar 5) (eLst (aCons (eV (eVar 6)) (aNil)))) (rngL 0 sz) [] [some (.sh (iD sz)), s1, s2, s3, s4, some (.sh (tD t)), none] = .ok ((List.range sz).map fun w => tD (t ++ [w]), [some (.sh (iD sz)), s1, s2, s3, s4, some (.sh (tD t)), none]) := by
  have hs := sl
  rw [← rng_i]
  refine lcL_map iD (fun w => tD (t ++ [w])) _ _ ?_ (by simp; omega)
  intro w hw
  have h1 : 1 ≤ sizeLine := by omega
  have h2 : t.length + 1 ≤ sizeLine := by omega
  simp [h1, h2]
def more (sz : Nat) (q : List (List Nat)) : List (List Nat) := q.flatMap fun t => (List.range sz).map fun w => t ++ [w]
theorem more_len (sz : Nat) (q : List (List Nat)) : (more sz q).length = q.length * sz := by
  unfold more
  induction q with
  | nil => simp
  | cons a q ih => simp [List.flatMap_cons, ih, Nat.succ_mul, Nat.add_comm]
theorem more_app (sz : Nat) (q : List (List Nat)) (t : List Nat) : (more sz (q ++ [t])).map tD = (more sz q).map tD ++ (List.range sz).map fun w => tD (t ++ [w]) := by
  simp [more, List.flatMap_append]
noncomputable abbrev txIn : SF := sDrop (eExtend 4 (eLc [6] (itRng1 (aCons (eV (eVar 0)) (aNil))) (gVar 6) pYes (eOp2 dAdd (eVar 5) (eLst (aCons (eV (eVar 6)) (aNil))))))
theorem tx_rng (sz : Nat) (hsz : sz ≤ 4) (ss : S) : itRng1 (aCons (eV (eVar 0)) (aNil)) (some (.sh (iD sz)) :: ss) = .ok (rngL 0 sz, some (.sh (iD sz)) :: ss) := by
  rw [rng1_a]
  have : (aCons (eV (eVar 0)) (aNil)) (some (.sh (iD sz)) :: ss) = .ok ([.int (sz : Int)], some (.sh (iD sz)) :: ss) := by simp
  rw [this, ok_bind, rngF_n sz (by omega)]
theorem tx_elc (sz : Nat) (hsz : sz ≤ 4) (s1 s2 s3 : Option Sl) (q : List (List Nat)) (t : List Nat) (ht : t.length ≤ 4) : eLc [6] (itRng1 (aCons (eV (eVar 0)) (aNil))) (gVar 6) pYes (eOp2 dAdd (eVar 5) (eLst (aCons (eV (eVar 6)) (aNil)))) [some (.sh (iD sz)), s1, s2, s3, some (.own (.lst ((more sz q).map tD))), some (.sh (tD t)), none]
    = .ok (.tmp (.lst ((List.range sz).map fun w => tD (t ++ [w]))), [some (.sh (iD sz)), s1, s2, s3, some (.own (.lst ((more sz q).map tD))), some (.sh (tD t)), none]) := by
  have e4 := tx_lc sz hsz t s1 s2 s3 (some (.own (.lst ((more sz q).map tD)))) ht
  have e5 := tx_rng sz hsz
  simp [-rng1_a, e5, e4]
theorem guard_true : BR.guard true = some () := rfl
theorem tx_turn (sz : Nat) (hsz : sz ≤ 4) (s1 s2 s3 : Option Sl) (q : List (List Nat)) (hq : q.length ≤ 256) (t : List Nat) (ht : t.length ≤ 4) (s5 : Option Sl) (h5 : shN s5) :
    (ofO (gVar 5 (tD t) [some (.sh (iD sz)), s1, s2, s3, some (.own (.lst ((more sz q).map tD))), s5, none]) >>= txIn) = .ok (.nx, [some (.sh (iD sz)), s1, s2, s3, some (.own (.lst ((more sz (q ++ [t])).map tD))), some (.sh (tD t)), none]) := by
  have hs := sl
  have e4 := tx_elc sz hsz s1 s2 s3 q t ht
  have hfl : (more sz q).length + sz ≤ sizeLine := by
    rw [more_len]
    have : q.length * sz ≤ 256 * 4 := Nat.mul_le_mul hq hsz
    omega
  rw [more_app]
  rcases h5 with rfl | ⟨_, rfl⟩ <;> simp [-eLc, -BR.guard, guard_true, e4, hfl]
theorem tx_for (sz : Nat) (hsz : sz ≤ 4) (j : Nat) (hj : j ≤ 3) (s1 s2 s3 s5 : Option Sl) (h5 : shN s5) : ∃ s5', shN s5' ∧ sForL (gVar 5) txIn ((texts sz j).map tD) [some (.sh (iD sz)), s1, s2, s3, some (.own (.lst [])), s5, none] = .ok (.nx, [some (.sh (iD sz)), s1, s2, s3, some (.own (.lst ((texts sz (j + 1)).map tD))), s5', none]) := by
  have e3 := sForL_relP (g := gVar 5) (b := txIn) tD (fun q ρ => ∃ s5, shN s5 ∧ ρ = [some (.sh (iD sz)), s1, s2, s3, some (.own (.lst ((more sz q).map tD))), s5, none]) (texts sz j) [] [some (.sh (iD sz)), s1, s2, s3, some (.own (.lst [])), s5, none] (by
    rintro q t post ρ hq ⟨s5, h5, rfl⟩
    rw [List.nil_append] at hq
    have htm : t ∈ texts sz j := by rw [hq]; simp
    have hql : q.length ≤ 256 := by
      have h1 := texts_pow sz j hsz (by omega)
      have := congrArg List.length hq
      simp at this; omega
    have htl := (texts_mem htm).1
    exact ⟨_, tx_turn sz hsz s1 s2 s3 q hql t (by omega) s5 h5, _, shN_sh _, rfl⟩) ⟨s5, h5, rfl⟩
  obtain ⟨ρ', e3, s5', h5', rfl⟩ := e3
  exact ⟨s5', h5', e3⟩
theorem texts_ok (K : PySem.W.Frag) (sz k : Nat) (hsz : sz ≤ 4) (hk : k ≤ 4) : F__law_texts K [iD sz, iD k] = .ok (.lst ((texts sz k).map tD), []) := by
  have hs := sl
  have e := sForL_relP (g := gVar 3) (b := sSeq (sAsg 4 (eLst (aNil))) (sSeq (sFor (itSeq (eVar 2)) (gVar 5) txIn) (sAsg 2 (eVar 4)))) iD (fun p ρ => ∃ s2 s3 s4 s5, shN s3 ∧ (shN s4 ∨ ∃ d, s4 = some (.own d)) ∧ shN s5 ∧ (s2 = some (.sh (.lst ((texts sz p.length).map tD))) ∨ s2 = some (.own (.lst ((texts sz p.length).map tD)))) ∧ ρ = [some (.sh (iD sz)), some (.sh (iD k)), s2, s3, s4, s5, none]) (List.range k) [] [some (.sh (iD sz)), some (.sh (iD k)), some (.own (.lst [.lst []])), none, none, none, none] (by
      rintro p w post ρ hp ⟨s2, s3, s4, s5, h3, h4, h5, h2, rfl⟩
      rw [List.nil_append] at hp
      have hpl : p.length + 1 ≤ k := by have := congrArg List.length hp; simp at this; omega
      obtain ⟨s5', h5', e3⟩ := tx_for sz hsz p.length (by omega) (some (.sh (iD k))) (some (.sh (.lst ((texts sz p.length).map tD)))) (some (.sh (iD w))) s5 h5
      have hnx : (p ++ [w]).length = p.length + 1 := by simp
      rw [hnx]
      refine ⟨[some (.sh (iD sz)), some (.sh (iD k)), some (.sh (.lst ((texts sz (p.length + 1)).map tD))), some (.sh (iD w)), some (.sh (.lst ((texts sz (p.length + 1)).map tD))), s5', none], ?_, _, _, _, _, shN_sh _, .inl (shN_sh _), h5', .inl rfl, rfl⟩
      generalize texts sz (p.length + 1) = tt at *
      generalize texts sz p.length = uu at *
      rcases h2 with rfl | rfl <;> rcases h3 with rfl | ⟨_, rfl⟩ <;> rcases h4 with (rfl | ⟨_, rfl⟩) | ⟨_, rfl⟩ <;> simp [e3]) ⟨_, _, _, _, shN_no, .inl shN_no, shN_no, .inr rfl, rfl⟩
  obtain ⟨ρ', e, s2, s3, s4, s5, h3, h4, h5, h2, rfl⟩ := e
  rw [rng_i] at e
  rw [List.nil_append, List.length_range] at h2
  have hR := rngF_n k (by omega)
  have h1 : 1 ≤ sizeLine := by omega
  rcases h2 with rfl | rfl <;> simp [F__law_texts, B__law_texts, hR, h1, e]
end LW
set_option Elab.async false
set_option linter.all false
set_option maxRecDepth 100000
set_option maxHeartbeats 1000000
namespace LW
open PySem L2 BR
abbrev pot (a b : Int) : D := .lst [.int a, .int b]
def nxt (b : Int) : Int := (b * 41201 + 12347) % 2147483587
theorem draw_neg (K : PySem.W.Frag) (a b s : Int) (ha : ¬ 0 < a) (h0 : 0 < s) : F__law_draw K [pot a b, .int s] = .ok (.int ((nxt b * nxt b % 2147483549 / 13) % s), [pot a (nxt b)]) := by
  have hn : 0 ≤ nxt b ∧ nxt b < 2147483587 := ⟨Int.emod_nonneg _ (by decide), Int.emod_lt_of_pos _ (by decide)⟩
  have m1 : dMulI (.int b) (.int 41201) = some (.im (.int (b * 41201))) := dMulI_ok (.inr ⟨by decide, by decide⟩)
  have m2 : dMulI (.int (nxt b)) (.int (nxt b)) = some (.im (.int (nxt b * nxt b))) := dMulI_ok (.inr ⟨by omega, by omega⟩)
  have c1 : ∀ i : Int, dIc (fun _ j => 0 < j) (fun i j => i % j) (.int i) (.int 2147483587) = some (.im (.int (i % 2147483587))) := fun i => dIc_ok (by decide)
  have c2 : ∀ i : Int, dIc (fun _ j => 0 < j) (fun i j => i % j) (.int i) (.int 2147483549) = some (.im (.int (i % 2147483549))) := fun i => dIc_ok (by decide)
  have c3 : ∀ i : Int, dIc CDiv (fun i j => i / j) (.int i) (.int 13) = some (.im (.int (i / 13))) := fun i => dIc_ok ⟨by decide, by decide⟩
  have c4 : ∀ i : Int, dIc (fun _ j => 0 < j) (fun i j => i % j) (.int i) (.int s) = some (.im (.int (i % s))) := fun i => dIc_ok h0
  have e1 : (b * 41201 + 12347) % 2147483587 = nxt b := rfl
  have a0 : ∀ x y : D, atI [x, y] 0 = some x := fun _ _ => rfl
  have a1 : ∀ x y : D, atI [x, y] 1 = some y := fun _ _ => rfl
  have i1 : ixN 2 1 = some 1 := rfl
  simp [F__law_draw, B__law_draw, ha, m1, m2, c1, c2, c3, c4, e1, a0, a1, i1]
theorem draw_pos (K : PySem.W.Frag) (a b s : Int) (ha : 0 < a) (h0 : 0 < s) (h1 : s < 2 ^ 200) : F__law_draw K [pot a b, .int s] = .ok (.int (a % s), [pot (a / s) b]) := by
  have a0 : ∀ x y : D, atI [x, y] 0 = some x := fun _ _ => rfl
  have e : eDivmod (hCons (eOp2 dIx (eVar 0) (eK (.int 0))) (hCons (eVar 1) hNil)) [some (.io (pot a b)), some (.sh (.int s)), none] = .ok (.val (.tup [.int (a / s), .int (a % s)]), [some (.io (pot a b)), some (.sh (.int s)), none]) := if_pos ⟨h0, h1⟩
  simp [F__law_draw, B__law_draw, ha, a0, -hCons, -hNil, -eOp2, e]
  simp [eOp2, ha, a0, e]
theorem draw_ok (K : PySem.W.Frag) (a b s : Int) (h0 : 0 < s) (h1 : s ≤ 1000000) : ∃ d a' b', F__law_draw K [pot a b, .int s] = .ok (.int d, [pot a' b']) ∧ 0 ≤ d ∧ d < s := by
  by_cases ha : 0 < a
  · exact ⟨_, _, _, draw_pos K a b s ha h0 (Int.lt_of_le_of_lt h1 (by decide)), Int.emod_nonneg _ (by omega), Int.emod_lt_of_pos _ h0⟩
  · exact ⟨_, _, _, draw_neg K a b s ha h0, Int.emod_nonneg _ (by omega), Int.emod_lt_of_pos _ h0⟩
/-- a draw of n sides -/
theorem draw_n (K : PySem.W.Frag) (a b : Int) (n : Nat) (h0 : 0 < n) (h1 : n ≤ 1000000) : ∃ (d : Nat) (a' b' : Int), F__law_draw K [pot a b, iD n] = .ok (iD d, [pot a' b']) ∧ d < n := by
  obtain ⟨d, a', b', e, h2, h3⟩ := draw_ok K a b n (by omega) (by omega)
  refine ⟨d.toNat, a', b', ?_, by omega⟩
  rw [e]
  have : ((d.toNat : Nat) : Int) = d := by omega
  simp only [iD, this]
theorem pick_lst (K : PySem.W.Frag) (a b : Int) (ds : List D) (h0 : 0 < ds.length) (h1 : ds.length ≤ 1000000) : ∃ (j : Nat) (d : D) (a' b' : Int), F__law_pick K [pot a b, .lst ds] = .ok (d, [pot a' b']) ∧ ds[j]? = some d := by
  obtain ⟨i, a', b', e, h3⟩ := draw_n K a b ds.length h0 h1
  refine ⟨i, ds[i], a', b', ?_, List.getElem?_eq_getElem h3⟩
  have ea := atI_n ds i h3
  simp [F__law_pick, B__law_pick, e, ea]
theorem pick_lst2 (K : PySem.W.Frag) (a b : Int) (ds : List D) (h0 : 0 < ds.length) (h1 : ds.length ≤ 1000000) : ∃ (j : Nat) (d : D) (a' b' : Int), F__law_pick_io11 K [pot a b, .lst ds] = .ok (d, [pot a' b', .lst ds]) ∧ ds[j]? = some d := by
  obtain ⟨i, a', b', e, h3⟩ := draw_n K a b ds.length h0 h1
  refine ⟨i, ds[i], a', b', ?_, List.getElem?_eq_getElem h3⟩
  have ea := atI_n ds i h3
  simp [F__law_pick_io11, B__law_pick_io11, e, ea]
theorem pick_str (K : PySem.W.Frag) (a b : Int) (l : List Nat) (h0 : 0 < l.length) (h1 : l.length < 1000) : ∃ (c : Nat) (a' b' : Int), F__law_pick K [pot a b, .str (T l)] = .ok (.str (T [c]), [pot a' b']) ∧ c ∈ l := by
  obtain ⟨i, a', b', e, h3⟩ := draw_n K a b l.length h0 (by omega)
  refine ⟨l[i], a', b', ?_, List.getElem_mem h3⟩
  have ea := atI_n l i h3
  have hs : l.length ≤ sizeLine := by have := sl; omega
  simp [F__law_pick, B__law_pick, T_len, hs, e, ea]
end LW
set_option Elab.async false
set_option linter.all false
set_option maxRecDepth 100000
set_option maxHeartbeats 1000000
namespace LW
open PySem L2 BR
theorem picks_gen {vs : List Nat} {g : D → S → Option S} {p : S → R (Bool × S)} {fe : EF} (l : List Nat) (ρ : Int → Int → S) (h : ∀ d a b, ∃ c a' b', lcT vs g p fe d (ρ a b) = .ok (some (.str (T [c])), ρ a' b') ∧ c ∈ l) :
    ∀ (ds : List D) (acc : List D) (a b : Int), acc.length + ds.length ≤ sizeLine → ∃ (w : List Nat) (a' b' : Int), lcL vs g p fe ds acc (ρ a b) = .ok (acc ++ w.map (fun c => .str (T [c])), ρ a' b') ∧ w.length = ds.length ∧ ∀ c ∈ w, c ∈ l := by
  intro ds
  induction ds with
  | nil => intro acc a b _; exact ⟨[], a, b, by simp [lcL], rfl, by simp⟩
  | cons d ds ih =>
    intro acc a b hl
    obtain ⟨c, a1, b1, e, hc⟩ := h d a b
    obtain ⟨w, a', b', e2, hw, hm⟩ := ih (acc ++ [.str (T [c])]) a1 b1 (by simp at hl ⊢; omega)
    refine ⟨c :: w, a', b', ?_, by simp [hw], by simpa using ⟨hc, hm⟩⟩
    rw [lcL_cons d ds acc _ _ _ e (by simp at hl; omega)]
    simpa [List.append_assoc] using e2
noncomputable abbrev cdB1 (K : PySem.W.Frag) : SF := sAsg 9 (eM1 dJoin (eK (.str "")) (eLc [10] (itRng1 (aCons (eV (eVar 2)) (aNil))) (gVar 10) pYes (eCall false (F__law_pick K) (mIo (eVar 0) (mSh (eVar 4) (mNil))))))
noncomputable abbrev cdB2 (K : PySem.W.Frag) : SF := sIf (tAndF (tstV (eOp2 dNe (eVar 7) (eLst (aNil)))) (tstV (eOp2 dEq (eCall false (F__law_draw K) (mIo (eVar 0) (mSh (eK (.int 4)) (mNil)))) (eK (.int 0))))) (sAsg 9 (eOp2 dIx (eCall false (F__law_pick_io11 K) (mIo (eVar 0) (mIo (eVar 7) (mNil)))) (eK (.int 0)))) (sNil)
noncomputable abbrev cdB3 (K : PySem.W.Frag) : SF := sDrop (eAppend 7 (eTup (aCons (eV (eVar 9)) (aCons (eV (eCall false (F__law_draw K) (mIo (eVar 0) (mSh (eVar 3) (mNil))))) (aNil)))))
theorem cd1 (K : PySem.W.Frag) (l : List Nat) (h0 : 0 < l.length) (h1 : l.length < 1000) (q : Nat) (hq : q ≤ 1000) (a b : Int) (s1 s3 x5 x6 x7 x8 x9 : Option Sl) (h9 : shN x9) : ∃ (w : List Nat) (a' b' : Int),
    cdB1 K [some (.io (pot a b)), s1, some (.sh (iD q)), s3, some (.sh (.str (T l))), x5, x6, x7, x8, x9, none] =
      .ok (.nx, [some (.io (pot a' b')), s1, some (.sh (iD q)), s3, some (.sh (.str (T l))), x5, x6, x7, x8, some (.sh (.str (T w))), none]) ∧ w.length = q ∧ ∀ c ∈ w, c ∈ l := by
  have hs := sl
  obtain ⟨w, a', b', e, hw, hm⟩ := picks_gen (vs := [10]) (g := gVar 10) (p := pYes) (fe := eCall false (F__law_pick K) (mIo (eVar 0) (mSh (eVar 4) (mNil)))) l (fun a b => [some (.io (pot a b)), s1, some (.sh (iD q)), s3, some (.sh (.str (T l))), x5, x6, x7, x8, x9, none]) (by
    intro d a b
    obtain ⟨c, a1, b1, e, hc⟩ := pick_str K a b l h0 h1
    exact ⟨c, a1, b1, by simp [e], hc⟩) (rngL 0 q) [] a b (by simp [rngL]; omega)
  refine ⟨w, a', b', ?_, by simpa [rngL] using hw, hm⟩
  have hwl : w.length = q := by simpa [rngL] using hw
  have hj := join_signs w (by omega)
  have hR := rngF_n q (by omega)
  have e0 : ("" : Str) = T [] := rfl
  simp only [List.nil_append] at e
  rcases h9 with rfl | ⟨d, rfl⟩ <;> simp [hR, e, e0, hj]
/-! ### == of rows and codes -/
def eP (e : List Nat × Nat) : PyData := .tuple [.str (T e.1), .int (e.2 : Int)]
def rowP (r : List (List Nat × Nat)) : PyData := .list (r.map eP)
def codeP (c : Cod) : PyData := .list (c.map rowP)
theorem toPL_map {α : Type} (f : α → D) (g : α → PyData) (h : ∀ x, toP (f x) = some (g x)) : ∀ xs : List α, toPL (xs.map f) = some (xs.map g)
  | [] => by simp [toPL]
  | x :: xs => by simp [toPL, h x, toPL_map f g h xs]
theorem toP_e (e : List Nat × Nat) : toP (eD e) = some (eP e) := by simp [toP, toPL, eP]
theorem toP_row (r : List (List Nat × Nat)) : toP (rowD r) = some (rowP r) := by
  unfold rowD toP
  rw [toPL_map eD eP toP_e]; rfl
theorem toP_code (c : Cod) : toP (codeD c) = some (codeP c) := by
  unfold codeD toP
  rw [toPL_map rowD rowP toP_row]; rfl
theorem strOk_T (l : List Nat) (h : Sg l) : PyData.strOk (T l) = true := by
  unfold PyData.strOk
  simp only [T, Array.all_eq_true', List.mem_toArray] at *
  intro c hc
  have := h c hc
  simp at this
  rcases this with rfl | rfl | rfl | rfl <;> decide
theorem lay_all {α : Type} (g : α → PyData) : ∀ (xs : List α), (∀ x ∈ xs, PyData.canLay0 (g x) = true) → PyData.canLayAll0 (xs.map g) = true
  | [], _ => by simp [PyData.canLayAll0]
  | x :: xs, h => by simp [PyData.canLayAll0, h x (by simp), lay_all g xs fun y hy => h y (by simp [hy])]
theorem dep_all {α : Type} (g : α → PyData) (n : Nat) : ∀ (xs : List α), (∀ x ∈ xs, PyData.depth (g x) ≤ n) → PyData.depthAll (xs.map g) ≤ n
  | [], _ => by simp [PyData.depthAll]
  | x :: xs, h => by
    have h1 := h x (by simp)
    have h2 := dep_all g n xs fun y hy => h y (by simp [hy])
    simp only [List.map_cons, PyData.depthAll]; omega
theorem eqv_all {α : Type} (g : α → PyData) : ∀ (xs : List α), (∀ x ∈ xs, PyData.eqv (g x) (g x) = true) → PyData.eqvAll (xs.map g) (xs.map g) = true
  | [], _ => by simp [PyData.eqvAll]
  | x :: xs, h => by simp [PyData.eqvAll, h x (by simp), eqv_all g xs fun y hy => h y (by simp [hy])]
theorem e_lay (e : List Nat × Nat) (h : Sg e.1) : PyData.canLay0 (eP e) = true := by
  simp [eP, PyData.canLay0, PyData.canLayAll0, strOk_T e.1 h]
theorem e_dep (e : List Nat × Nat) : PyData.depth (eP e) ≤ 1 := by
  simp [eP, PyData.depth, PyData.depthAll]
theorem e_eqv (e : List Nat × Nat) : PyData.eqv (eP e) (eP e) = true := by
  simp [eP, PyData.eqv, PyData.eqvAll]
theorem row_lay (r : List (List Nat × Nat)) (h : ∀ e ∈ r, Sg e.1) : PyData.canLay0 (rowP r) = true := by
  simp only [rowP, PyData.canLay0]
  exact lay_all eP r fun e he => e_lay e (h e he)
theorem row_dep (r : List (List Nat × Nat)) : PyData.depth (rowP r) ≤ 2 := by
  have := dep_all eP 1 r fun e _ => e_dep e
  simp only [rowP, PyData.depth]; omega
theorem row_eqv (r : List (List Nat × Nat)) : PyData.eqv (rowP r) (rowP r) = true := by
  simp only [rowP, PyData.eqv]
  exact eqv_all eP r fun e _ => e_eqv e
theorem code_lay (c : Cod) (h : ∀ r ∈ c, ∀ e ∈ r, Sg e.1) : PyData.canLay0 (codeP c) = true := by
  simp only [codeP, PyData.canLay0]
  exact lay_all rowP c fun r hr => row_lay r (h r hr)
theorem code_dep (c : Cod) : PyData.depth (codeP c) ≤ 3 := by
  have := dep_all rowP 2 c fun r _ => row_dep r
  simp only [codeP, PyData.depth]; omega
theorem code_eqv (c : Cod) : PyData.eqv (codeP c) (codeP c) = true := by
  simp only [codeP, PyData.eqv]
  exact eqv_all rowP c fun r _ => row_eqv r
theorem shaped_of {d : PyData} (h1 : PyData.canLay0 d = true) (h2 : PyData.depth d ≤ 64) : SeqAt.shaped d = true := by
  unfold SeqAt.shaped
  rw [h1, decide_eq_true h2]; rfl
theorem ne_code (c : Cod) (h : ∀ r ∈ c, ∀ e ∈ r, Sg e.1) : dNe (codeD c) (codeD c) = some (.im (.bl false)) := by
  have e : eqD (codeD c) (codeD c) = some true := by
    have hs := shaped_of (code_lay c h) (by have := code_dep c; omega)
    have : eqD (codeD c) (codeD c) = (match toP (codeD c), toP (codeD c) with
      | some p, some q => if (SeqAt.shaped p && SeqAt.shaped q) = true then some (PyData.eqv p q) else none
      | _, _ => none) := rfl
    rw [this, toP_code]
    simp only [hs, Bool.and_self, if_true, code_eqv]
  unfold dNe; rw [e]; rfl
theorem ne_row (r : List (List Nat × Nat)) (h : ∀ e ∈ r, Sg e.1) : dNe (rowD r) (.lst []) = some (.im (.bl (!decide (r = [])))) := by
  have e : eqD (rowD r) (.lst []) = some (decide (r = [])) := by
    have hs := shaped_of (row_lay r h) (by have := row_dep r; omega)
    have hs2 : SeqAt.shaped (.list []) = true := by decide
    have h0 : toP (.lst []) = some (.list []) := by simp [toP, toPL]
    have : eqD (rowD r) (.lst []) = (match toP (rowD r), toP (.lst []) with
      | some p, some q => if (SeqAt.shaped p && SeqAt.shaped q) = true then some (PyData.eqv p q) else none
      | _, _ => none) := rfl
    rw [this, toP_row, h0]
    simp only [hs, hs2, Bool.and_self, if_true]
    cases r with
    | nil => simp [rowP, PyData.eqv, PyData.eqvAll]
    | cons e r => simp [rowP, PyData.eqv, PyData.eqvAll]
  unfold dNe; rw [e]; rfl
end LW
set_option Elab.async false
set_option linter.all false
set_option maxRecDepth 100000
set_option maxHeartbeats 1000000
namespace LW
open PySem L2 BR
theorem cd2 (K : PySem.W.Frag) (q n : Nat) (a b : Int) (s1 s2 s3 s4 x5 x6 x8 : Option Sl) (r : List (List Nat × Nat)) (hr : r.length ≤ 1000) (hw : ∀ e ∈ r, WfE q n e) (w : List Nat) (hwl : w.length = q) (hws : Sg w) : ∃ (w' : List Nat) (a' b' : Int),
    cdB2 K [some (.io (pot a b)), s1, s2, s3, s4, x5, x6, some (.own (rowD r)), x8, some (.sh (.str (T w))), none] =
      .ok (.nx, [some (.io (pot a' b')), s1, s2, s3, s4, x5, x6, some (.own (rowD r)), x8, some (.sh (.str (T w'))), none]) ∧ w'.length = q ∧ Sg w' := by
  have e1 := ne_row r fun e he => (hw e he).sub
  by_cases h0 : r = []
  · refine ⟨w, a, b, ?_, hwl, hws⟩
    rw [decide_eq_true h0] at e1
    simp [e1]
  · obtain ⟨d, a1, b1, e2, hd⟩ := draw_n K a b 4 (by omega) (by omega)
    replace e2 : F__law_draw K [pot a b, .int 4] = .ok (iD d, [pot a1 b1]) := e2
    have hdec : decide (r = []) = false := decide_eq_false h0
    rw [hdec] at e1
    by_cases hd0 : d = 0
    · subst hd0
      obtain ⟨j, d2, a2, b2, e3, hj⟩ := pick_lst2 K a1 b1 (r.map eD) (by simp; exact List.length_pos_iff.mpr h0) (by simp; omega)
      rw [List.getElem?_map] at hj
      cases hrj : r[j]? with
      | none => rw [hrj] at hj; cases hj
      | some e =>
        rw [hrj] at hj
        have hde : d2 = eD e := (Option.some.inj hj).symm
        subst hde
        have he : e ∈ r := List.mem_of_getElem? hrj
        have a0 : ∀ x y : D, atI [x, y] 0 = some x := fun _ _ => rfl
        have e4 : dEq (iD 0) (.int 0) = some (.im (.bl true)) := by simp [dEq, eqD]
        refine ⟨e.1, a2, b2, ?_, (hw e he).len, (hw e he).sub⟩
        simp [e1, e2, e4, e3, a0]
    · have e4 : dEq (iD d) (.int 0) = some (.im (.bl false)) := by
        have : ¬ ((d : Int) = 0) := by omega
        simp [dEq, eqD, this, hd0]
      refine ⟨w, a1, b1, ?_, hwl, hws⟩
      simp [e1, e2, e4]
theorem cd3 (K : PySem.W.Frag) (n : Nat) (hn : 0 < n) (hn2 : n ≤ 1000) (a b : Int) (s1 s2 s4 x5 x6 x8 : Option Sl) (r : List (List Nat × Nat)) (hr : r.length ≤ 1000) (w : List Nat) : ∃ (d : Nat) (a' b' : Int),
    cdB3 K [some (.io (pot a b)), s1, s2, some (.sh (iD n)), s4, x5, x6, some (.own (rowD r)), x8, some (.sh (.str (T w))), none] =
      .ok (.nx, [some (.io (pot a' b')), s1, s2, some (.sh (iD n)), s4, x5, x6, some (.own (rowD (r ++ [(w, d)]))), x8, some (.sh (.str (T w))), none]) ∧ d < n := by
  have hs := sl
  obtain ⟨d, a1, b1, e2, hd⟩ := draw_n K a b n hn (by omega)
  refine ⟨d, a1, b1, ?_, hd⟩
  have h2 : 2 ≤ sizeLine := by omega
  have h3 : r.length < sizeLine := by omega
  simp [e2, h2, h3]
noncomputable abbrev cdIn (K : PySem.W.Frag) : SF := sSeq (cdB1 K) (sSeq (cdB2 K) (cdB3 K))
theorem cd_turn (K : PySem.W.Frag) (l : List Nat) (h0 : 0 < l.length) (h1 : l.length < 1000) (hl : Sg l) (q n : Nat) (hq : q ≤ 1000) (hn : 0 < n) (hn2 : n ≤ 1000) (a b : Int) (s1 x5 x6 x8 x9 : Option Sl) (h9 : shN x9) (r : List (List Nat × Nat)) (hr : r.length ≤ 1000) (hw : ∀ e ∈ r, WfE q n e) : ∃ (e : List Nat × Nat) (a' b' : Int) (y9 : Option Sl),
    cdIn K [some (.io (pot a b)), s1, some (.sh (iD q)), some (.sh (iD n)), some (.sh (.str (T l))), x5, x6, some (.own (rowD r)), x8, x9, none] =
      .ok (.nx, [some (.io (pot a' b')), s1, some (.sh (iD q)), some (.sh (iD n)), some (.sh (.str (T l))), x5, x6, some (.own (rowD (r ++ [e]))), x8, y9, none]) ∧ WfE q n e ∧ shN y9 := by
  obtain ⟨w, a1, b1, e1, w1, w2⟩ := cd1 K l h0 h1 q hq a b s1 (some (.sh (iD n))) x5 x6 (some (.own (rowD r))) x8 x9 h9
  obtain ⟨w', a2, b2, e2, w3, w4⟩ := cd2 K q n a1 b1 s1 (some (.sh (iD q))) (some (.sh (iD n))) (some (.sh (.str (T l)))) x5 x6 x8 r hr hw w w1 (fun c hc => hl c (w2 c hc))
  obtain ⟨d, a3, b3, e3, hd⟩ := cd3 K n hn hn2 a2 b2 s1 (some (.sh (iD q))) (some (.sh (.str (T l)))) x5 x6 x8 r hr w'
  refine ⟨(w', d), a3, b3, some (.sh (.str (T w'))), ?_, ⟨w3, w4, hd⟩, shN_sh _⟩
  unfold cdIn
  rw [sSeq, e1]
  show sSeq (cdB2 K) (cdB3 K) _ = _
  rw [sSeq, e2]
  exact e3
theorem codes_ok (K : PySem.W.Frag) (l : List Nat) (h0 : 0 < l.length) (h1 : l.length < 1000) (hl : Sg l) (q n sz : Nat) (hq : q ≤ 1000) (hn : 0 < n) (hn2 : n ≤ 10) (hsz : sz ≤ 64) (a b : Int) : ∃ (c : Cod) (a' b' : Int),
    F__law_codes K [pot a b, iD sz, iD q, iD n, .str (T l)] = .ok (codeD c, [pot a' b']) ∧ Wf q sz c ∧ c.length = n := by
  have hs := sl
  have row : ∀ (a b : Int) (x5 x6 x8 x9 : Option Sl), shN x8 → shN x9 → ∃ (r : List (List Nat × Nat)) (a' b' : Int) (y8 y9 : Option Sl), sForL (gVar 8) (cdIn K) (rngL 0 sz) [some (.io (pot a b)), some (.sh (iD sz)), some (.sh (iD q)), some (.sh (iD n)), some (.sh (.str (T l))), x5, x6, some (.own (rowD [])), x8, x9, none] =
      .ok (.nx, [some (.io (pot a' b')), some (.sh (iD sz)), some (.sh (iD q)), some (.sh (iD n)), some (.sh (.str (T l))), x5, x6, some (.own (rowD r)), y8, y9, none]) ∧ r.length = sz ∧ (∀ e ∈ r, WfE q n e) ∧ shN y8 ∧ shN y9 := by
    intro a b x5 x6 x8 x9 h8 h9
    have e := sForL_relP (g := gVar 8) (b := cdIn K) iD (fun p ρ => ∃ (r : List (List Nat × Nat)) (a b : Int) (x8 x9 : Option Sl), ρ = [some (.io (pot a b)), some (.sh (iD sz)), some (.sh (iD q)), some (.sh (iD n)), some (.sh (.str (T l))), x5, x6, some (.own (rowD r)), x8, x9, none] ∧ r.length = p.length ∧ (∀ e ∈ r, WfE q n e) ∧ shN x8 ∧ shN x9) (List.range sz) [] _ (by
      rintro p i post ρ hp ⟨r, a, b, x8, x9, rfl, hrl, hr, h8, h9⟩
      have hpl : p.length ≤ 64 := by have := congrArg List.length hp; simp at this; omega
      obtain ⟨e, a', b', y9, e1, we, hy9⟩ := cd_turn K l h0 h1 hl q n hq hn (by omega) a b (some (.sh (iD sz))) x5 x6 (some (.sh (iD i))) x9 h9 r (by omega) hr
      refine ⟨_, ?_, r ++ [e], a', b', some (.sh (iD i)), y9, rfl, by simp [hrl], ?_, shN_sh _, hy9⟩
      · have g1 : gVar 8 (iD i) [some (.io (pot a b)), some (.sh (iD sz)), some (.sh (iD q)), some (.sh (iD n)), some (.sh (.str (T l))), x5, x6, some (.own (rowD r)), x8, x9, none] = some [some (.io (pot a b)), some (.sh (iD sz)), some (.sh (iD q)), some (.sh (iD n)), some (.sh (.str (T l))), x5, x6, some (.own (rowD r)), some (.sh (iD i)), x9, none] := by
          rcases h8 with rfl | ⟨_, rfl⟩ <;> simp
        rw [g1]
        exact e1
      · intro e' he'
        rcases List.mem_append.mp he' with z | z
        · exact hr e' z
        · simp at z; subst z; exact we) ⟨[], a, b, x8, x9, rfl, rfl, by simp, h8, h9⟩
    obtain ⟨ρ', e, r, a', b', y8, y9, rfl, hrl, hr, hy8, hy9⟩ := e
    rw [rng_i] at e
    exact ⟨r, a', b', y8, y9, e, by simpa using hrl, hr, hy8, hy9⟩
  have e := sForL_relP (g := gVar 6) (b := sSeq (sAsg 7 (eLst (aNil))) (sSeq (sFor (itRng1 (aCons (eV (eVar 1)) (aNil))) (gVar 8) (cdIn K)) (sDrop (eAppend 5 (eVar 7))))) iD
    (fun p ρ => ∃ (c : Cod) (a b : Int) (x6 x7 x8 x9 : Option Sl), ρ = [some (.io (pot a b)), some (.sh (iD sz)), some (.sh (iD q)), some (.sh (iD n)), some (.sh (.str (T l))), some (.own (codeD c)), x6, x7, x8, x9, none] ∧ c.length = p.length ∧ (∀ r ∈ c, r.length = sz) ∧ (∀ r ∈ c, ∀ e ∈ r, WfE q n e) ∧ shN x6 ∧ (shN x7 ∨ ∃ d, x7 = some (.own d)) ∧ shN x8 ∧ shN x9) (List.range n) [] [some (.io (pot a b)), some (.sh (iD sz)), some (.sh (iD q)), some (.sh (iD n)), some (.sh (.str (T l))), some (.own (.lst [])), none, none, none, none, none] (by
      rintro p i post ρ hp ⟨c, a, b, x6, x7, x8, x9, rfl, hcl, hc1, hc2, h6, h7, h8, h9⟩
      have hpl : p.length ≤ 10 := by have := congrArg List.length hp; simp at this; omega
      obtain ⟨r, a', b', y8, y9, e1, hrl, hr, hy8, hy9⟩ := row a b (some (.own (codeD c))) (some (.sh (iD i))) x8 x9 h8 h9
      have hR := rngF_n sz (by omega)
      have hlt : c.length < sizeLine := by omega
      replace e1 : sForL (gVar 8) (cdIn K) (rngL 0 sz) [some (.io (pot a b)), some (.sh (iD sz)), some (.sh (iD q)), some (.sh (iD n)), some (.sh (.str (T l))), some (.own (codeD c)), some (.sh (iD i)), some (.own (.lst [])), x8, x9, none] = _ := e1
      refine ⟨[some (.io (pot a' b')), some (.sh (iD sz)), some (.sh (iD q)), some (.sh (iD n)), some (.sh (.str (T l))), some (.own (codeD (c ++ [r]))), some (.sh (iD i)), some (.sh (rowD r)), y8, y9, none], ?_, c ++ [r], a', b', _, _, y8, y9, rfl, by simp [hcl], ?_, ?_, shN_sh _, .inl (shN_sh _), hy8, hy9⟩
      · rcases h6 with rfl | ⟨_, rfl⟩ <;> rcases h7 with (rfl | ⟨_, rfl⟩) | ⟨_, rfl⟩ <;> simp [hR, e1, hlt]
      · intro r' hr'
        rcases List.mem_append.mp hr' with z | z
        · exact hc1 r' z
        · simp at z; subst z; exact hrl
      · intro r' hr'
        rcases List.mem_append.mp hr' with z | z
        · exact hc2 r' z
        · simp at z; subst z; exact hr) ⟨[], a, b, none, none, none, none, rfl, rfl, by simp, by simp, shN_no, .inl shN_no, shN_no, shN_no⟩
  obtain ⟨ρ', e, c, a', b', x6, x7, x8, x9, rfl, hcl, hc1, hc2, h6, h7, h8, h9⟩ := e
  have hcn : c.length = n := by simpa using hcl
  rw [rng_i] at e
  have hR := rngF_n n (by omega)
  refine ⟨c, a', b', ?_, ⟨by omega, by omega, hc1, by rw [hcn]; exact hc2⟩, hcn⟩
  simp [F__law_codes, B__law_codes, hR, e]
end LW
set_option Elab.async false
set_option linter.all false
set_option maxRecDepth 100000
set_option maxHeartbeats 1000000
namespace BR
open PySem L2
def allT (sz most : Nat) : List (List Nat) := (List.range (most + 1)).flatMap (texts sz)
def dueS (c : Cod) (lead : List Nat) (d : List (List Nat × Nat)) (t : List Nat) : List (List Nat × Nat) := putA d (run c lead t).1 (get0 d (run c lead t).1 + 1)
def due (c : Cod) (lead : List Nat) (sz most : Nat) : List (List Nat × Nat) := (allT sz most).foldl (dueS c lead) []
theorem due_len (c : Cod) (lead : List Nat) : ∀ (ts : List (List Nat)) (d : List (List Nat × Nat)), (ts.foldl (dueS c lead) d).length ≤ d.length + ts.length
  | [], d => by simp
  | t :: ts, d => by
    have h1 := due_len c lead ts (dueS c lead d t)
    have h2 := len_put d (run c lead t).1 (get0 d (run c lead t).1 + 1)
    simp only [List.foldl_cons, List.length_cons, dueS] at *
    omega
end BR
namespace LW
open PySem L2 BR
noncomputable abbrev tbIn (K : PySem.W.Frag) : SF := sSeq (sAsg 7 (eOp2 dIx (eCall false (F__law_run K) (mSh (eVar 0) (mSh (eVar 1) (mSh (eVar 6) (mNil))))) (eK (.int 0)))) (sPutD 4 (eVar 7) (eOp2 dAdd (eDGet2 (eVar 4) (eVar 7) (eK (.int 0))) (eK (.int 1))))
theorem tb_turn (K : PySem.W.Frag) (q sz : Nat) (c : Cod) (h : Wf q sz c) (hq : q ≤ 1000) (lead t : List Nat) (hl : lead.length ≤ 1000) (ht : t.length ≤ 100) (hw : ∀ w ∈ t, w < sz) (s2 s3 s5 x6 x7 : Option Sl) (h6 : shN x6) (h7 : shN x7) (d : List (List Nat × Nat)) (hd : d.length ≤ 10000) :
    (ofO (gVar 6 (tD t) [some (.sh (codeD c)), some (.sh (.str (T lead))), s2, s3, some (.own (dD kT d)), s5, x6, x7]) >>= tbIn K) = .ok (.nx, [some (.sh (codeD c)), some (.sh (.str (T lead))), s2, s3, some (.own (dD kT (dueS c lead d t))), s5, some (.sh (tD t)), some (.sh (.str (T (run c lead t).1)))]) := by
  have hs := sl
  have e1 := run_ok K q sz c h hq lead t hl ht hw
  have a0 : ∀ x y : D, atI [x, y] 0 = some x := fun _ _ => rfl
  have hlt : d.length < sizeLine := by omega
  have g1 := getK_d kT kT_inj d (run c lead t).1
  have g2 := put_d kT kT_inj d (run c lead t).1 (get0 d (run c lead t).1 + 1)
  unfold dueS
  rw [← g2]
  rcases h6 with rfl | ⟨_, rfl⟩ <;> rcases h7 with rfl | ⟨_, rfl⟩ <;> simp [e1, a0, hlt, dD, g1]
theorem table_ok (K : PySem.W.Frag) (q sz most : Nat) (c : Cod) (h : Wf q sz c) (hq : q ≤ 1000) (lead : List Nat) (hl : lead.length ≤ 1000) (hsz : sz ≤ 4) (hm : most ≤ 4) :
    F__law_table K [codeD c, .str (T lead), iD sz, iD most] = .ok (dD kT (due c lead sz most), []) := by
  have hs := sl
  have hfl : ∀ p : List Nat, (∀ k ∈ p, k ≤ 4) → (p.flatMap (texts sz)).length ≤ 256 * p.length := by
    intro p
    induction p with
    | nil => simp
    | cons k p ih =>
      intro hk
      have h1 := texts_pow sz k hsz (hk k (by simp))
      have h2 := ih fun x hx => hk x (by simp [hx])
      simp only [List.flatMap_cons, List.length_append, List.length_cons]; omega
  have e := sForL_relP (g := gVar 5) (b := sFor (itSeq (eCall false (F__law_texts K) (mSh (eVar 2) (mSh (eVar 5) (mNil))))) (gVar 6) (tbIn K)) iD
    (fun p ρ => ∃ x5 x6 x7, shN x5 ∧ shN x6 ∧ shN x7 ∧ ρ = [some (.sh (codeD c)), some (.sh (.str (T lead))), some (.sh (iD sz)), some (.sh (iD most)), some (.own (dD kT ((p.flatMap (texts sz)).foldl (dueS c lead) []))), x5, x6, x7]) (List.range (most + 1)) [] [some (.sh (codeD c)), some (.sh (.str (T lead))), some (.sh (iD sz)), some (.sh (iD most)), some (.own (.dic [] [])), none, none, none] (by
      rintro p k post ρ hp ⟨x5, x6, x7, h5, h6, h7, rfl⟩
      rw [List.nil_append] at hp
      have hpl : p.length ≤ 5 := by have := congrArg List.length hp; simp at this; omega
      have hmem : ∀ x ∈ p ++ k :: post, x ≤ 4 := by
        intro x hx
        rw [← hp, List.mem_range] at hx; omega
      have hk : k ≤ 4 := hmem k (by simp)
      have hfp := hfl p fun x hx => hmem x (by simp [hx])
      have hd0 := due_len c lead (p.flatMap (texts sz)) []
      rw [List.length_nil, Nat.zero_add] at hd0
      have e1 := texts_ok K sz k hsz hk
      generalize hd : (p.flatMap (texts sz)).foldl (dueS c lead) [] = d at *
      have e2 := sForL_relP (g := gVar 6) (b := tbIn K) tD (fun ts ρ => ∃ x6 x7, shN x6 ∧ shN x7 ∧ ρ = [some (.sh (codeD c)), some (.sh (.str (T lead))), some (.sh (iD sz)), some (.sh (iD most)), some (.own (dD kT (ts.foldl (dueS c lead) d))), some (.sh (iD k)), x6, x7]) (texts sz k) [] _ (by
        rintro ts t post2 ρ hts ⟨x6, x7, h6, h7, rfl⟩
        rw [List.nil_append] at hts
        have htm : t ∈ texts sz k := by rw [hts]; simp
        obtain ⟨t1, t2⟩ := texts_mem htm
        have htl : ts.length ≤ 256 := by
          have h1 := texts_pow sz k hsz hk
          have := congrArg List.length hts
          simp at this; omega
        have hdl := due_len c lead ts d
        have e3 := tb_turn K q sz c h hq lead t hl (by omega) t2 (some (.sh (iD sz))) (some (.sh (iD most))) (some (.sh (iD k))) x6 x7 h6 h7 (ts.foldl (dueS c lead) d) (by omega)
        refine ⟨_, e3, some (.sh (tD t)), some (.sh (.str (T (BR.run c lead t).1))), shN_sh _, shN_sh _, ?_⟩
        rw [List.foldl_append]; rfl) ⟨x6, x7, h6, h7, rfl⟩
      obtain ⟨ρ', e2, y6, y7, hy6, hy7, rfl⟩ := e2
      refine ⟨_, ?_, some (.sh (iD k)), y6, y7, shN_sh _, hy6, hy7, rfl⟩
      have hf : (p ++ [k]).flatMap (texts sz) = p.flatMap (texts sz) ++ texts sz k := by simp [List.flatMap_append]
      rw [hf, List.foldl_append, hd]
      rw [List.nil_append] at e2
      rw [List.foldl_nil] at e2
      rcases h5 with rfl | ⟨_, rfl⟩ <;> simp [e1, e2]) ⟨none, none, none, shN_no, shN_no, shN_no, rfl⟩
  obtain ⟨ρ', e, x5, x6, x7, h5, h6, h7, rfl⟩ := e
  rw [rng_i, List.nil_append] at e
  have hR := rngF_n (most + 1) (by omega)
  have hc : ((most + 1 : Nat) : Int) = (most : Int) + 1 := by simp
  rw [hc] at hR
  have hdu : ((List.range (most + 1)).flatMap (texts sz)).foldl (dueS c lead) [] = due c lead sz most := rfl
  rw [hdu] at e
  simp [F__law_table, B__law_table, hR, e]
end LW
set_option Elab.async false
set_option linter.all false
set_option maxRecDepth 100000
set_option maxHeartbeats 1000000
namespace BR
open PySem L2
theorem due_fold (c : Cod) (lead : List Nat) : ∀ (ts : List (List Nat)) (d : List (List Nat × Nat)), (d.map (·.1)).Nodup →
    ((ts.foldl (dueS c lead) d).map (·.1)).Nodup ∧ (∀ x, get0 (ts.foldl (dueS c lead) d) x = get0 d x + (ts.map fun t => if (run c lead t).1 = x then 1 else 0).sum) ∧ (∀ φ, dsum φ (ts.foldl (dueS c lead) d) = dsum φ d + (ts.map fun t => φ (run c lead t).1).sum) ∧ (∀ k ∈ (ts.foldl (dueS c lead) d).map (·.1), k ∈ d.map (·.1) ∨ ∃ t ∈ ts, k = (run c lead t).1)
  | [], d, h => ⟨h, fun x => by simp, fun φ => by simp, fun k hk => .inl hk⟩
  | t :: ts, d, h => by
    obtain ⟨h1, h2, h3, h4⟩ := due_fold c lead ts (dueS c lead d t) (nodup_put h _ _)
    refine ⟨h1, fun x => ?_, fun φ => ?_, fun k hk => ?_⟩
    · rw [List.foldl_cons, h2, dueS, get0_put, List.map_cons, List.sum_cons]
      by_cases hx : x = (run c lead t).1
      · subst hx; simp; omega
      · have : ¬ (run c lead t).1 = x := fun z => hx z.symm
        simp [hx, this]
    · rw [List.foldl_cons, h3, dueS, dsum_add h, List.map_cons, List.sum_cons]
      omega
    · rcases h4 k hk with z | ⟨t', ht', z⟩
      · rw [dueS, keys_put] at z
        split at z
        · exact .inl z
        · rcases List.mem_append.mp z with y | y
          · exact .inl y
          · simp at y; exact .inr ⟨t, by simp, y⟩
      · exact .inr ⟨t', by simp [ht'], z⟩
theorem wsum_zero {q sz : Nat} {c : Cod} (h : Wf q sz c) (lead row : List Nat) (k : Nat) (φ : Nat → Nat) (hz : ¬ (row.length = lead.length + q * k ∧ lead <+: row)) : wsum c lead sz k row φ = 0 := by
  unfold wsum
  apply sum_zero
  intro t ht
  obtain ⟨_, h2, h3, _⟩ := run_wf h lead ht
  rw [if_neg]
  intro e
  rw [e] at h2 h3
  exact hz ⟨h2, h3⟩
theorem sum_range_one (f : Nat → Nat) (K : Nat) : ∀ n, (∀ k, k < n → k ≠ K → f k = 0) → ((List.range n).map f).sum = if K < n then f K else 0
  | 0, _ => by simp
  | n + 1, h => by
    rw [List.range_succ, List.map_append, List.sum_append, sum_range_one f K n fun k hk => h k (by omega)]
    by_cases hK : K = n
    · subst hK; simp
    · have := h n (by omega) (fun z => hK z.symm)
      by_cases h2 : K < n
      · rw [if_pos h2, if_pos (by omega)]; simp [this]
      · rw [if_neg h2, if_neg (by omega)]; simp [this]
theorem due_get {q sz : Nat} {c : Cod} (h : Wf q sz c) (hq : 1 ≤ q) (lead row : List Nat) (most : Nat) (hr : row.length ≤ lead.length + q * most) : get0 (due c lead sz most) row = opn c lead q sz row := by
  have h1 := (due_fold c lead (allT sz most) [] (by simp)).2.1 row
  have e : (allT sz most).foldl (dueS c lead) [] = due c lead sz most := rfl
  rw [e] at h1
  rw [h1, allT, sum_flatMap]
  have e2 : ∀ k, ((texts sz k).map fun t => if (run c lead t).1 = row then 1 else 0).sum = wsum c lead sz k row (fun _ => 1) := fun k => rfl
  simp only [e2, get0, Nat.zero_add]
  unfold opn
  by_cases hc : lead <+: row ∧ (row.length - lead.length) % q = 0
  · rw [if_pos hc]
    obtain ⟨hp, hm⟩ := hc
    have hle := hp.length_le
    have hd := Nat.div_add_mod (row.length - lead.length) q
    rw [hm] at hd
    rw [sum_range_one _ ((row.length - lead.length) / q), if_pos]
    · have : q * ((row.length - lead.length) / q) ≤ q * most := by omega
      have := Nat.le_of_mul_le_mul_left this (by omega)
      omega
    · intro k hk hne
      apply wsum_zero h
      rintro ⟨hl, _⟩
      apply hne
      have : row.length - lead.length = q * k := by omega
      rw [this, Nat.mul_div_cancel_left k (by omega)]
  · rw [if_neg hc]
    apply sum_zero
    intro k hk
    apply wsum_zero h
    rintro ⟨hl, hp⟩
    apply hc
    refine ⟨hp, ?_⟩
    have : row.length - lead.length = q * k := by omega
    rw [this, Nat.mul_mod_right]
end BR
set_option Elab.async false
set_option linter.all false
set_option maxRecDepth 100000
set_option maxHeartbeats 1000000
namespace BR
open PySem L2
theorem spread {q sz : Nat} {c : Cod} (h : Wf q sz c) (hq : 1 ≤ q) (lead : List Nat) (most L : Nat) (hL : L ≤ most) : dsum (fun k => if k.length = lead.length + q * L then 1 else 0) (due c lead sz most) = (texts sz L).length := by
  have h1 := (due_fold c lead (allT sz most) [] (by simp)).2.2.1 (fun k => if k.length = lead.length + q * L then 1 else 0)
  have e : (allT sz most).foldl (dueS c lead) [] = due c lead sz most := rfl
  rw [e] at h1
  rw [h1, allT, sum_flatMap, sum_range_one _ L, if_pos (by omega)]
  · have : ((texts sz L).map fun t => if (run c lead t).1.length = lead.length + q * L then 1 else 0).sum = ((texts sz L).map fun _ => 1).sum := by
      apply sum_congr
      intro t ht
      rw [if_pos (run_wf h lead ht).2.1]
    rw [this, sum_one]
    simp [dsum]
  · intro k hk hne
    apply sum_zero
    intro t ht
    rw [if_neg]
    rw [(run_wf h lead ht).2.1]
    intro z
    have z2 : q * k = q * L := by omega
    exact hne (Nat.eq_of_mul_eq_mul_left (by omega : 0 < q) z2)
end BR
set_option Elab.async false
set_option linter.all false
set_option maxRecDepth 100000
set_option maxHeartbeats 1000000
namespace LW
open PySem L2 BR
theorem abcd_T : ("abcd" : Str) = T [97, 98, 99, 100] := rfl
theorem sg_take {l : List Nat} (h : Sg l) (k : Nat) : Sg (l.take k) := fun c hc => h c (List.mem_of_mem_take hc)
theorem sg_drop {l : List Nat} (h : Sg l) (k : Nat) : Sg (l.drop k) := fun c hc => h c (List.mem_of_mem_drop hc)
theorem sg_app {l m : List Nat} (h : Sg l) (h2 : Sg m) : Sg (l ++ m) := fun c hc => by
  rcases List.mem_append.mp hc with z | z
  · exact h c z
  · exact h2 c z
theorem sg_one {c : Nat} (h : c ∈ [97, 98, 99, 100]) : Sg [c] := fun x hx => by
  rw [List.mem_singleton] at hx; subst hx; exact h
theorem add_i (i j : Int) : dAdd (.int i) (.int j) = some (.im (.int (i + j))) := rfl
theorem add_T (l m : List Nat) (h : l.length + m.length ≤ 1000000) : dAdd (.str (T l)) (.str (T m)) = some (.im (.str (T (l ++ m)))) := by
  have hs := sl
  have : (T l).length + (T m).length ≤ sizeLine := by rw [T_len, T_len]; omega
  have e := T_app l m
  simp [dAdd, e, T_len] 
  try omega
theorem spoilt_ok (K : PySem.W.Frag) (a b : Int) (told : List Nat) (h : Sg told) (hl : told.length ≤ 1000) : ∃ (near : List Nat) (a' b' : Int),
    F__law_spoilt K [pot a b, .str (T told), .str "abcd"] = .ok (.str (T near), [pot a' b']) ∧ Sg near ∧ near.length ≤ told.length + 1 := by
  have hs := sl
  obtain ⟨w, a1, b1, e1, hw⟩ := draw_n K a b 5 (by omega) (by omega)
  replace e1 : F__law_draw K [pot a b, .int 5] = .ok (iD w, [pot a1 b1]) := e1
  obtain ⟨t, a2, b2, e2, ht⟩ := draw_n K a1 b1 (told.length + 1) (by omega) (by omega)
  have hc : iD (told.length + 1) = .int ((told.length : Int) + 1) := by simp [iD]
  have hc2 : iD (t + 1) = .int ((t : Int) + 1) := by simp [iD]
  rw [hc] at e2
  rw [abcd_T]
  have hll : told.length ≤ sizeLine := by omega
  have hlT : (T told).length ≤ sizeLine := by rw [T_len]; omega
  have hq : ∀ n : Int, dEq (iD w) (.int n) = some (.im (.bl (decide ((w : Int) = n)))) := fun n => by simp [dEq, eqD]
  have s1 : dSl (.str (T told)) none (some (t : Int)) = some (.im (.str (T (told.take t)))) := by
    rw [← cut_to]; exact if_pos hlT
  have s2 : dSl (.str (T told)) (some (t : Int)) none = some (.im (.str (T (told.drop t)))) := by
    rw [← cut_from]; exact if_pos hlT
  have s3 : dSl (.str (T told)) (some ((t : Int) + 1)) none = some (.im (.str (T (told.drop (t + 1))))) := by
    rw [← cut_from]; exact if_pos hlT
  have l1 : (told.take t).length ≤ 1000 := by simp; omega
  have l2 : (told.drop t).length ≤ 1000 := by simp; omega
  have l3 : (told.drop (t + 1)).length ≤ 1000 := by simp; omega
  obtain ⟨c, a3, b3, e3, hcm⟩ := pick_str K a2 b2 [97, 98, 99, 100] (by decide) (by decide)
  have p1 := add_T (told.take t) [c] (by simp; omega)
  have p2 := add_T (told.take t ++ [c]) (told.drop t) (by simp; omega)
  have p3 := add_T (told.take t) (told.drop (t + 1)) (by simp; omega)
  have p4 := add_T (told.take t ++ [c]) (told.drop (t + 1)) (by simp; omega)
  have hw5 : w = 0 ∨ w = 1 ∨ w = 2 ∨ w = 3 ∨ w = 4 := by omega
  rcases hw5 with rfl | rfl | rfl | rfl | rfl
  · refine ⟨told.take t ++ [c] ++ told.drop t, a3, b3, ?_, sg_app (sg_app (sg_take h t) (sg_one hcm)) (sg_drop h t), by simp; omega⟩
    simp [-dAdd, add_i, F__law_spoilt, B__law_spoilt, e1, e2, hll, T_len, hq, s1, s2, e3, p1, p2]
  · refine ⟨told.take t ++ told.drop (t + 1), a2, b2, ?_, sg_app (sg_take h t) (sg_drop h (t + 1)), by simp; omega⟩
    simp [-dAdd, add_i, F__law_spoilt, B__law_spoilt, e1, e2, hll, T_len, hq, s1, s2, s3, e3, p3]
  · refine ⟨told.take t ++ [c] ++ told.drop (t + 1), a3, b3, ?_, sg_app (sg_app (sg_take h t) (sg_one hcm)) (sg_drop h (t + 1)), by simp; omega⟩
    simp [-dAdd, add_i, F__law_spoilt, B__law_spoilt, e1, e2, hll, T_len, hq, s1, s2, s3, e3, p1, p4]
  · refine ⟨told.take t, a2, b2, ?_, sg_take h t, by simp; omega⟩
    simp [-dAdd, add_i, F__law_spoilt, B__law_spoilt, e1, e2, hll, T_len, hq, s1, s2, e3]
  · obtain ⟨v, a4, b4, e4, hv, hm⟩ := picks_gen (vs := [5]) (g := gVar 5) (p := pYes) (fe := eCall false (F__law_pick K) (mIo (eVar 0) (mSh (eVar 2) (mNil)))) [97, 98, 99, 100] (fun a b => [some (.io (pot a b)), some (.sh (.str (T told))), some (.sh (.str (T [97, 98, 99, 100]))), some (.sh (iD 4)), some (.sh (iD t)), none]) (by
      intro d a b
      obtain ⟨c, a1, b1, e, hc⟩ := pick_str K a b [97, 98, 99, 100] (by decide) (by decide)
      exact ⟨c, a1, b1, by simp [e], hc⟩) (rngL 0 told.length) [] a2 b2 (by simp [rngL]; omega)
    have hvl : v.length = told.length := by simpa [rngL] using hv
    refine ⟨v, a4, b4, ?_, fun c hc => hm c hc, by omega⟩
    have hj := join_signs v (by omega)
    have hR := rngF_n told.length (by omega)
    have e0 : ("" : Str) = T [] := rfl
    simp only [List.nil_append] at e4
    simp [-dAdd, add_i, F__law_spoilt, B__law_spoilt, e1, e2, hll, T_len, hq, hR, e4, e0, hj]
end LW
set_option Elab.async false
set_option linter.all false
set_option maxRecDepth 100000
set_option maxHeartbeats 1000000
namespace LW
open PySem L2 BR
theorem ints_filter {α : Type} (f : α → Nat) (cond : α → Bool) : ∀ al : List α, ∃ is, intsD (al.filterMap fun p => if cond p = true then some (iD (f p)) else none) = some is ∧ is.sum = (((al.map fun p => if cond p = true then f p else 0).sum : Nat) : Int)
  | [] => ⟨[], rfl, rfl⟩
  | p :: al => by
    obtain ⟨is, e, h⟩ := ints_filter f cond al
    cases hc : cond p
    · refine ⟨is, ?_, ?_⟩
      · simpa [List.filterMap_cons, hc] using e
      · simpa [hc] using h
    · refine ⟨(f p : Int) :: is, ?_, ?_⟩
      · simp only [List.filterMap_cons, hc, if_true, intsD]
        rw [e]; rfl
      · simp [hc, h]
theorem ne_n (a b : Nat) : dNe (iD a) (iD b) = some (.im (.bl (!decide (a = b)))) := by
  have : decide ((a : Int) = (b : Int)) = decide (a = b) := by
    by_cases h : a = b
    · simp [h]
    · have : ¬ (a : Int) = (b : Int) := by omega
      simp [h, this]
  simp only [dNe, eqD, this, Option.map_some]
theorem eq_n (a b : Nat) : dEq (iD a) (iD b) = some (.im (.bl (decide (a = b)))) := by
  have : decide ((a : Int) = (b : Int)) = decide (a = b) := by
    by_cases h : a = b
    · simp [h]
    · have : ¬ (a : Int) = (b : Int) := by omega
      simp [h, this]
  simp only [dEq, eqD, this, Option.map_some]
abbrev dT (al : List (List Nat × Nat)) : D := .dic (al.map fun p => kT p.1) (al.map fun p => D.int (p.2 : Int))
theorem keys_T (al : List (List Nat × Nat)) : keysD (al.map fun p => kT p.1) = al.map fun p => D.str (T p.1) := by
  simp only [keysD, List.map_map]; rfl
/-- what the rows of texts keep -/
theorem due_keys {q sz : Nat} {c : Cod} (h : Wf q sz c) (lead : List Nat) (hl : Sg lead) (most : Nat) {k : List Nat} (hk : k ∈ (due c lead sz most).map (·.1)) : Sg k ∧ k.length ≤ lead.length + q * most := by
  have h4 := (due_fold c lead (allT sz most) [] (by simp)).2.2.2
  have e : (allT sz most).foldl (dueS c lead) [] = due c lead sz most := rfl
  rw [e] at h4
  rcases h4 k hk with z | ⟨t, ht, rfl⟩
  · simp at z
  · unfold allT at ht
    rw [List.mem_flatMap] at ht
    obtain ⟨j, hj, ht⟩ := ht
    rw [List.mem_range] at hj
    obtain ⟨_, h2, _, h3⟩ := run_wf h lead ht
    refine ⟨h3 hl, ?_⟩
    rw [h2]
    have : q * j ≤ q * most := Nat.mul_le_mul_left q (by omega)
    omega
section
variable (K : PySem.W.Frag) (p q sz M R : Nat) (c : Cod) (lead : List Nat) (al : List (List Nat × Nat))
noncomputable abbrev crS (a b : Int) (x9 x10 x11 x12 x13 : Option Sl) : S := [some (.io (pot a b)), some (.sh (coderD K p q c lead)), some (.sh (codeD c)), some (.sh (.str (T lead))), some (.sh (iD sz)), some (.sh (iD q)), some (.sh (iD M)), some (.sh (dT al)), some (.sh (iD R)), x9, x10, x11, x12, x13, none]
end
noncomputable abbrev crIn (K : PySem.W.Frag) : SF := sSeq (sAsg 11 (eCall false (F__law_spoilt K) (mIo (eVar 0) (mSh (eVar 9) (mSh (eK (.str "abcd")) (mNil))))))
    (sIf (tAndF (tstV (eOp2 (dI fun i j => .bl (decide (i ≤ j))) (eCB dLen (hCons (eVar 11) (hNil))) (eVar 8))) (tstV (eOp2 dNe (eCallSw false (F_still_open K) (aCons (eV (eVar 11)) (aCons (eV (eVar 1)) (aNil)))) (eDGet2 (eVar 7) (eVar 11) (eK (.int 0)))))) (sRet (eK (.bl false))) (sNil))
noncomputable abbrev crT (K : PySem.W.Frag) : SF := sSeq (sIf (tstV (eOp2 dNe (eCall false (F_still_open K) (mSh (eVar 1) (mSh (eVar 9) (mNil)))) (eOp2 dIx (eVar 7) (eVar 9)))) (sRet (eK (.bl false))) (sNil))
    (sFor (itRng1 (aCons (eV (eK (.int 2))) (aNil))) (gVar 10) (crIn K))
section
variable (K : PySem.W.Frag) (p q sz M R : Nat) (c : Cod) (lead : List Nat) (al : List (List Nat × Nat)) (hso : ∀ row, Sg row → row.length ≤ 2000 → F_still_open K [coderD K p q c lead, .str (T row)] = .ok (iD (opn c lead q sz row), []))
    (hdu : ∀ row : List Nat, row.length ≤ R → get0 al row = opn c lead q sz row) (hR : R ≤ 100)
include hso hdu hR
theorem cr_near (a b : Int) (x10 x11 x12 x13 : Option Sl) (h11 : shN x11) (told : List Nat) (ht : Sg told) (htl : told.length ≤ R) : ∃ a' b' y11, shN y11 ∧
    crIn K (crS K p q sz M R c lead al a b (some (.sh (.str (T told)))) x10 x11 x12 x13) = .ok (.nx, crS K p q sz M R c lead al a' b' (some (.sh (.str (T told)))) x10 y11 x12 x13) := by
  have hs := sl
  obtain ⟨near, a', b', e1, h1, h2⟩ := spoilt_ok K a b told ht (by omega)
  refine ⟨a', b', some (.sh (.str (T near))), shN_sh _, ?_⟩
  have hll : near.length ≤ sizeLine := by omega
  have e2 := hso near h1 (by omega)
  have g := getK_d kT kT_inj al near
  by_cases hc : near.length ≤ R
  · have e3 := hdu near hc
    rw [e3] at g
    have e4 := ne_n (opn c lead q sz near) (opn c lead q sz near)
    rw [decide_eq_true rfl] at e4
    rcases h11 with rfl | ⟨_, rfl⟩ <;> simp [crS, e1, hll, T_len, hc, e2, g, e4]
  · rcases h11 with rfl | ⟨_, rfl⟩ <;> simp [crS, e1, hll, T_len, hc]
theorem cr_turn (a b : Int) (x9 x10 x11 x12 x13 : Option Sl) (h9 : shN x9) (h10 : shN x10) (h11 : shN x11) (told : List Nat) (ht : Sg told) (htl : told.length ≤ R) (hm : told ∈ al.map (·.1)) : ∃ a' b' y10 y11, shN y10 ∧ shN y11 ∧
    (ofO (gVar 9 (.str (T told)) (crS K p q sz M R c lead al a b x9 x10 x11 x12 x13)) >>= crT K) = .ok (.nx, crS K p q sz M R c lead al a' b' (some (.sh (.str (T told)))) y10 y11 x12 x13) := by
  have e2 := hso told ht (by omega)
  have e3 := hdu told htl
  have g := getK_mem kT kT_inj al told hm
  rw [e3] at g
  have e4 := ne_n (opn c lead q sz told) (opn c lead q sz told)
  rw [decide_eq_true rfl] at e4
  have e := sForL_keep (g := gVar 10) (b := crIn K) iD (fun ρ => ∃ a b x10 x11, shN x10 ∧ shN x11 ∧ ρ = crS K p q sz M R c lead al a b (some (.sh (.str (T told)))) x10 x11 x12 x13) (List.range 2) (crS K p q sz M R c lead al a b (some (.sh (.str (T told)))) x10 x11 x12 x13) (by
    rintro i ρ hi ⟨a, b, x10, x11, h10, h11, rfl⟩
    obtain ⟨a', b', y11, hy, e⟩ := cr_near K p q sz M R c lead al hso hdu hR a b (some (.sh (iD i))) x11 x12 x13 h11 told ht htl
    refine ⟨_, ?_, a', b', some (.sh (iD i)), y11, shN_sh _, hy, rfl⟩
    have g1 : gVar 10 (iD i) (crS K p q sz M R c lead al a b (some (.sh (.str (T told)))) x10 x11 x12 x13) = some (crS K p q sz M R c lead al a b (some (.sh (.str (T told)))) (some (.sh (iD i))) x11 x12 x13) := by
      rcases h10 with rfl | ⟨_, rfl⟩ <;> simp [crS]
    rw [g1]; exact e) ⟨a, b, x10, x11, h10, h11, rfl⟩
  obtain ⟨ρ', e, a', b', y10, y11, hy10, hy11, rfl⟩ := e
  refine ⟨a', b', y10, y11, hy10, hy11, ?_⟩
  rw [rng_i] at e
  have hR2 := rngF_n 2 (by omega)
  replace hR2 : ∀ ρ, rngF ([.int 2], ρ) = .ok (rngL 0 2, ρ) := hR2
  have g9 : gVar 9 (.str (T told)) (crS K p q sz M R c lead al a b x9 x10 x11 x12 x13) = some (crS K p q sz M R c lead al a b (some (.sh (.str (T told)))) x10 x11 x12 x13) := by
    rcases h9 with rfl | ⟨_, rfl⟩ <;> simp [crS]
  have e5 : sIf (tstV (eOp2 dNe (eCall false (F_still_open K) (mSh (eVar 1) (mSh (eVar 9) (mNil)))) (eOp2 dIx (eVar 7) (eVar 9)))) (sRet (eK (.bl false))) (sNil) (crS K p q sz M R c lead al a b (some (.sh (.str (T told)))) x10 x11 x12 x13) = .ok (.nx, crS K p q sz M R c lead al a b (some (.sh (.str (T told)))) x10 x11 x12 x13) := by
    simp [crS, e2, g, e4]
  have e6 : sFor (itRng1 (aCons (eV (eK (.int 2))) (aNil))) (gVar 10) (crIn K) (crS K p q sz M R c lead al a b (some (.sh (.str (T told)))) x10 x11 x12 x13) = .ok (.nx, crS K p q sz M R c lead al a' b' (some (.sh (.str (T told)))) y10 y11 x12 x13) := by
    unfold sFor
    have : itRng1 (aCons (eV (eK (.int 2))) (aNil)) (crS K p q sz M R c lead al a b (some (.sh (.str (T told)))) x10 x11 x12 x13) = .ok (rngL 0 2, crS K p q sz M R c lead al a b (some (.sh (.str (T told)))) x10 x11 x12 x13) := by
      simp [hR2]
    rw [this]; exact e
  rw [g9]
  show crT K _ = _
  unfold crT
  rw [sSeq, e5]
  exact e6
end
end LW
set_option Elab.async false
set_option linter.all false
set_option maxRecDepth 100000
set_option maxHeartbeats 1000000
namespace LW
open PySem L2 BR
theorem opn_take (c : Cod) (lead : List Nat) (q sz k : Nat) (h : k < lead.length) : opn c lead q sz (lead.take k) = 0 := by
  unfold opn
  rw [if_neg]
  rintro ⟨hp, _⟩
  have := hp.length_le
  simp at this; omega
noncomputable abbrev crL (K : PySem.W.Frag) : SF := sSeq (sAsg 13 (eLcD [9] (fun ks _ => keysD ks) 7 (gVar 9) (tstV (eOp2 dEq (eCB dLen (hCons (eVar 9) (hNil))) (eOp2 dAdd (eCB dLen (hCons (eVar 3) (hNil))) (eOp2 dMulI (eVar 5) (eVar 12))))) (eCall false (F_still_open K) (mSh (eVar 1) (mSh (eVar 9) (mNil))))))
    (sIf (tstV (eOp2 dNe (eCB dSum (hCons (eVar 13) (hNil))) (eCB dLen (hCons (eCall false (F__law_texts K) (mSh (eVar 4) (mSh (eVar 12) (mNil)))) (hNil))))) (sRet (eK (.bl false))) (sNil))
def shO (x : Option Sl) : Prop := shN x ∨ ∃ d, x = some (.own d)
section
variable (K : PySem.W.Frag) (p q sz M R : Nat) (c : Cod) (lead : List Nat) (al : List (List Nat × Nat)) (hso : ∀ row, Sg row → row.length ≤ 2000 → F_still_open K [coderD K p q c lead, .str (T row)] = .ok (iD (opn c lead q sz row), []))
    (hsg : ∀ k ∈ al.map (·.1), Sg k ∧ k.length ≤ R) (hR : R ≤ 100) (hq : q ≤ 3) (hll : lead.length ≤ 100) (hal : al.length ≤ 10000)
include hso hsg hR hq hll hal
theorem cr_len (a b : Int) (x9 x10 x11 x12 x13 : Option Sl) (h9 : shN x9) (h12 : shN x12) (h13 : shO x13) (L : Nat) (hL : L ≤ 4) (hsz : sz ≤ 4) (hsum : (al.map fun e => if decide (e.1.length = lead.length + q * L) = true then opn c lead q sz e.1 else 0).sum = (texts sz L).length) : ∃ y13, shO y13 ∧
    (ofO (gVar 12 (iD L) (crS K p q sz M R c lead al a b x9 x10 x11 x12 x13)) >>= crL K) = .ok (.nx, crS K p q sz M R c lead al a b x9 x10 x11 (some (.sh (iD L))) y13) := by
  have hs := sl
  have hm : dMulI (iD q) (iD L) = some (.im (iD (q * L))) := by
    rw [show iD (q * L) = .int ((q : Int) * (L : Int)) by simp [iD]]
    exact dMulI_ok (.inr ⟨by omega, by omega⟩)
  have hadd : dAdd (.int (lead.length : Int)) (iD (q * L)) = some (.im (iD (lead.length + q * L))) := by
    simp [dAdd, iD]
  have hlls : lead.length ≤ sizeLine := by omega
  have e1 := texts_ok K sz L hsz hL
  have e2 := lcL_pure (vs := [9]) (g := gVar 9) (p := tstV (eOp2 dEq (eCB dLen (hCons (eVar 9) (hNil))) (eOp2 dAdd (eCB dLen (hCons (eVar 3) (hNil))) (eOp2 dMulI (eVar 5) (eVar 12))))) (fe := eCall false (F_still_open K) (mSh (eVar 1) (mSh (eVar 9) (mNil)))) (fun e : List Nat × Nat => D.str (T e.1)) (fun e => if decide (e.1.length = lead.length + q * L) = true then some (iD (opn c lead q sz e.1)) else none)
    (crS K p q sz M R c lead al a b none x10 x11 (some (.sh (iD L))) x13) al [] (by
      intro e he
      obtain ⟨s1, s2⟩ := hsg e.1 (List.mem_map_of_mem he)
      have e3 := hso e.1 s1 (by omega)
      have hel : e.1.length ≤ sizeLine := by omega
      have e4 := eq_n e.1.length (lead.length + q * L)
      by_cases hc : e.1.length = lead.length + q * L
      · have hd := decide_eq_true hc
        rw [hd] at e4
        simp only [hd, if_true]
        clear hc hd
        simp [crS, hel, T_len, hlls, hm, hadd, e4, e3, -dAdd, -dI]
      · have hd := decide_eq_false hc
        rw [hd] at e4
        simp only [hd]
        clear hc hd
        simp [crS, hel, T_len, hlls, hm, hadd, e4, e3, -dAdd, -dI]) (by simp; omega)
  rw [List.nil_append] at e2
  obtain ⟨is, e5, e6⟩ := ints_filter (fun e : List Nat × Nat => opn c lead q sz e.1) (fun e => decide (e.1.length = lead.length + q * L)) al
  rw [hsum] at e6
  have e7 := ne_n (texts sz L).length (texts sz L).length
  rw [decide_eq_true rfl] at e7
  have hsumD : dSum [.lst (al.filterMap fun e => if decide (e.1.length = lead.length + q * L) = true then some (iD (opn c lead q sz e.1)) else none)] = some (.im (iD (texts sz L).length)) := by
    show (intsD _).map (fun ns => Rz.im (D.int ns.sum)) = _
    rw [e5]
    simp only [Option.map_some, e6]
  have htl := texts_pow sz L hsz hL
  have htl2 : (texts sz L).length ≤ sizeLine := by omega
  generalize hX : (al.filterMap fun e : List Nat × Nat => if decide (e.1.length = lead.length + q * L) = true then some (iD (opn c lead q sz e.1)) else none) = X at *
  refine ⟨some (.own (.lst X)), .inr ⟨_, rfl⟩, ?_⟩
  have k1 := keys_T al
  have g12 : gVar 12 (iD L) (crS K p q sz M R c lead al a b x9 x10 x11 x12 x13) = some (crS K p q sz M R c lead al a b x9 x10 x11 (some (.sh (iD L))) x13) := by
    rcases h12 with rfl | ⟨_, rfl⟩ <;> simp [crS]
  rw [g12]
  show crL K _ = _
  have e8 : eLcD [9] (fun ks _ => keysD ks) 7 (gVar 9) (tstV (eOp2 dEq (eCB dLen (hCons (eVar 9) (hNil))) (eOp2 dAdd (eCB dLen (hCons (eVar 3) (hNil))) (eOp2 dMulI (eVar 5) (eVar 12))))) (eCall false (F_still_open K) (mSh (eVar 1) (mSh (eVar 9) (mNil)))) (crS K p q sz M R c lead al a b x9 x10 x11 (some (.sh (iD L))) x13) = .ok (.tmp (.lst X), crS K p q sz M R c lead al a b x9 x10 x11 (some (.sh (iD L))) x13) := by
    have d7 : dicAt 7 (crS K p q sz M R c lead al a b x9 x10 x11 (some (.sh (iD L))) x13) = some ((al.map fun p => kT p.1, al.map fun p => D.int (p.2 : Int)), crS K p q sz M R c lead al a b x9 x10 x11 (some (.sh (iD L))) x13) := rfl
    have c9 : calmSl (crS K p q sz M R c lead al a b x9 x10 x11 (some (.sh (iD L))) x13) [9] = true := by
      rcases h9 with rfl | ⟨_, rfl⟩ <;> simp [crS]
    have w9 : wipeS (crS K p q sz M R c lead al a b x9 x10 x11 (some (.sh (iD L))) x13) [9] = crS K p q sz M R c lead al a b none x10 x11 (some (.sh (iD L))) x13 := rfl
    have r9 : rst (crS K p q sz M R c lead al a b x9 x10 x11 (some (.sh (iD L))) x13) (crS K p q sz M R c lead al a b none x10 x11 (some (.sh (iD L))) x13) [9] = crS K p q sz M R c lead al a b x9 x10 x11 (some (.sh (iD L))) x13 := by
      simp [crS, rst]
    unfold eLcD
    rw [d7, ofO_some, ok_bind]
    simp only [c9, if_true, k1, w9, e2, ok_bind, r9, noX]
  have e9 : sAsg 13 (eLcD [9] (fun ks _ => keysD ks) 7 (gVar 9) (tstV (eOp2 dEq (eCB dLen (hCons (eVar 9) (hNil))) (eOp2 dAdd (eCB dLen (hCons (eVar 3) (hNil))) (eOp2 dMulI (eVar 5) (eVar 12))))) (eCall false (F_still_open K) (mSh (eVar 1) (mSh (eVar 9) (mNil))))) (crS K p q sz M R c lead al a b x9 x10 x11 (some (.sh (iD L))) x13) = .ok (.nx, crS K p q sz M R c lead al a b x9 x10 x11 (some (.sh (iD L))) (some (.own (.lst X)))) := by
    unfold sAsg
    rw [e8]
    rcases h13 with (rfl | ⟨_, rfl⟩) | ⟨_, rfl⟩ <;> simp [crS]
  unfold crL
  rw [sSeq, e9]
  simp [crS, hsumD, e1, htl2, e7, -dSum]
end
end LW
set_option Elab.async false
set_option linter.all false
set_option maxRecDepth 100000
set_option maxHeartbeats 1000000
namespace LW
open PySem L2 BR
theorem due_len2 (c : Cod) (lead : List Nat) (sz most : Nat) (hsz : sz ≤ 4) (hm : most ≤ 4) : (due c lead sz most).length ≤ 10000 := by
  have h1 := due_len c lead (allT sz most) []
  have hfl : ∀ p : List Nat, (∀ k ∈ p, k ≤ 4) → (p.flatMap (texts sz)).length ≤ 256 * p.length := by
    intro p
    induction p with
    | nil => simp
    | cons k p ih =>
      intro hk
      have h1 := texts_pow sz k hsz (hk k (by simp))
      have h2 := ih fun x hx => hk x (by simp [hx])
      simp only [List.flatMap_cons, List.length_append, List.length_cons]; omega
  have h2 := hfl (List.range (most + 1)) fun k hk => by rw [List.mem_range] at hk; omega
  have e : (allT sz most).foldl (dueS c lead) [] = due c lead sz most := rfl
  have e2 : allT sz most = (List.range (most + 1)).flatMap (texts sz) := rfl
  rw [e] at h1
  rw [e2] at h1
  simp at h1 h2
  omega
theorem spread2 {q sz : Nat} {c : Cod} (h : Wf q sz c) (hq : 1 ≤ q) (lead : List Nat) (most L : Nat) (hL : L ≤ most) :
    ((due c lead sz most).map fun e => if decide (e.1.length = lead.length + q * L) = true then opn c lead q sz e.1 else 0).sum = (texts sz L).length := by
  rw [← spread h hq lead most L hL]
  unfold dsum
  apply sum_congr
  intro e he
  show (if decide (e.1.length = lead.length + q * L) = true then opn c lead q sz e.1 else 0) = e.2 * (if e.1.length = lead.length + q * L then 1 else 0)
  by_cases hc : e.1.length = lead.length + q * L
  · rw [if_pos (decide_eq_true hc), if_pos hc, Nat.mul_one]
    have nd := (due_fold c lead (allT sz most) [] (by simp)).1
    have e1 : (allT sz most).foldl (dueS c lead) [] = due c lead sz most := rfl
    rw [e1] at nd
    rw [← get0_item nd he, due_get h hq]
    rw [hc]
    have : q * L ≤ q * most := Nat.mul_le_mul_left q hL
    omega
  · rw [if_neg (by simpa using hc), if_neg hc, Nat.mul_zero]
theorem coder_right_ok (K : PySem.W.Frag) (p q sz M : Nat) (c : Cod) (h : Wf q sz c) (hq : 1 ≤ q) (hq3 : q ≤ 3) (lead : List Nat) (hl : Sg lead) (hll : lead.length ≤ 10) (hsz : sz = 2 ∧ M = 4 ∨ sz = 4 ∧ M = 2) (a b : Int) : ∃ a' b' : Int,
    F__law_coder_right K [pot a b, coderD K p q c lead, codeD c, .str (T lead), iD sz, iD q] = .ok (.bl true, [pot a' b']) := by
  have hs := sl
  have hM : M ≤ 4 := by omega
  have hs4 : sz ≤ 4 := by omega
  have hqM : q * M ≤ 3 * 4 := Nat.mul_le_mul hq3 hM
  obtain ⟨R, hR⟩ : ∃ R, R = lead.length + q * M := ⟨_, rfl⟩
  have hR1 : R ≤ 100 := by omega
  obtain ⟨al, hal⟩ : ∃ al, al = due c lead sz M := ⟨_, rfl⟩
  have hso : ∀ row, Sg row → row.length ≤ 2000 → F_still_open K [coderD K p q c lead, .str (T row)] = .ok (iD (opn c lead q sz row), []) := fun row h1 h2 => still_open_ok K p q sz c h lead row hq hq3 h1 h2 (by omega)
  have hdu : ∀ row : List Nat, row.length ≤ R → get0 al row = opn c lead q sz row := fun row hr => by rw [hal]; exact due_get h hq lead row M (by omega)
  have hsg : ∀ k ∈ al.map (·.1), Sg k ∧ k.length ≤ R := fun k hk => by rw [hal] at hk; rw [hR]; exact due_keys h lead hl M hk
  have hlen : al.length ≤ 10000 := by rw [hal]; exact due_len2 c lead sz M hs4 hM
  have t1 := table_ok K q sz M c h (by omega) lead (by omega) hs4 hM
  rw [← hal] at t1
  replace t1 : F__law_table K [codeD c, .str (T lead), iD sz, iD M] = .ok (dT al, []) := t1
  -- the first loop
  have e1 := sForL_rel (g := gVar 9) (b := crT K) (fun e : List Nat × Nat => D.str (T e.1)) (fun _ ρ => ∃ a b x9 x10 x11, shN x9 ∧ shN x10 ∧ shN x11 ∧ ρ = crS K p q sz M R c lead al a b x9 x10 x11 none none) al (crS K p q sz M R c lead al a b none none none none none) (by
    rintro _ e ρ he ⟨a, b, x9, x10, x11, h9, h10, h11, rfl⟩
    have hm : e.1 ∈ al.map (·.1) := List.mem_map_of_mem he
    obtain ⟨s1, s2⟩ := hsg e.1 hm
    obtain ⟨a', b', y10, y11, h10', h11', e2⟩ := cr_turn K p q sz M R c lead al hso hdu hR1 a b x9 x10 x11 none none h9 h10 h11 e.1 s1 s2 hm
    exact ⟨_, e2, a', b', _, y10, y11, shN_sh _, h10', h11', rfl⟩) ⟨a, b, none, none, none, shN_no, shN_no, shN_no, rfl⟩
  obtain ⟨ρ', e1, a1, b1, x9, x10, x11, h9, h10, h11, rfl⟩ := e1
  rw [← keys_T] at e1
  -- the second loop
  have e2 := sForL_rel (g := gVar 12) (b := crL K) iD (fun _ ρ => ∃ x12 x13, shN x12 ∧ shO x13 ∧ ρ = crS K p q sz M R c lead al a1 b1 x9 x10 x11 x12 x13) (List.range (M + 1)) (crS K p q sz M R c lead al a1 b1 x9 x10 x11 none none) (by
    rintro _ L ρ hL ⟨x12, x13, h12, h13, rfl⟩
    rw [List.mem_range] at hL
    obtain ⟨y13, hy, e3⟩ := cr_len K p q sz M R c lead al hso hsg hR1 hq3 (by omega) hlen a1 b1 x9 x10 x11 x12 x13 h9 h12 h13 L (by omega) hs4 (by rw [hal]; exact spread2 h hq lead M L (by omega))
    exact ⟨_, e3, _, y13, shN_sh _, hy, rfl⟩) ⟨none, none, shN_no, .inl shN_no, rfl⟩
  obtain ⟨ρ', e2, x12, x13, h12, h13, rfl⟩ := e2
  rw [rng_i] at e2
  -- the last
  have e3 := lcL_map (vs := [14]) (g := gVar 14) (p := pYes) (fe := eOp2 dEq (eCall false (F_still_open K) (mSh (eVar 1) (mSh (eSl (eVar 3) (oNone) (oSome (eVar 14))) (mNil)))) (eK (.int 0))) iD (fun _ => D.bl true) (crS K p q sz M R c lead al a1 b1 x9 x10 x11 x12 x13) (List.range lead.length) (by
    intro k hk
    rw [List.mem_range] at hk
    have s1 : dSl (.str (T lead)) none (some (k : Int)) = some (.im (.str (T (lead.take k)))) := by
      rw [← cut_to]; exact if_pos (by rw [T_len]; omega)
    have e4 := hso (lead.take k) (sg_take hl k) (by simp; omega)
    rw [opn_take c lead q sz k hk] at e4
    have e5 : dEq (iD 0) (.int 0) = some (.im (.bl true)) := by simp [dEq, eqD]
    simp [crS, s1, e4, e5]) (by simp; omega)
  rw [rng_i] at e3
  have e4 := all_true (List.range lead.length)
  have hM1 : ∀ ρ, rngF ([.int ((M : Int) + 1)], ρ) = .ok (rngL 0 (M + 1), ρ) := fun ρ => by
    have := rngF_n (M + 1) (by omega) ρ
    rw [← this]; simp
  have hL1 := rngF_n lead.length (by omega)
  have hlls : lead.length ≤ sizeLine := by omega
  have hmost : ∀ ρ : S, eOp2 dIx (eLst (aCons (eV (eK (.int 4))) (aCons (eV (eK (.int 2))) (aNil)))) (eCB dInt (hCons (eOp2 (dI fun i j => .bl (decide (j < i))) (eVar 4) (eK (.int 2))) (hNil))) (some (.io (pot a b)) :: some (.sh (coderD K p q c lead)) :: some (.sh (codeD c)) :: some (.sh (.str (T lead))) :: some (.sh (iD sz)) :: ρ) = .ok (.val (iD M), some (.io (pot a b)) :: some (.sh (coderD K p q c lead)) :: some (.sh (codeD c)) :: some (.sh (.str (T lead))) :: some (.sh (iD sz)) :: ρ) := by
    intro ρ
    have h2 : 2 ≤ sizeLine := by omega
    have a0 : ∀ x y : D, atI [x, y] 0 = some x := fun _ _ => rfl
    have a1 : ∀ x y : D, atI [x, y] 1 = some y := fun _ _ => rfl
    rcases hsz with ⟨rfl, rfl⟩ | ⟨rfl, rfl⟩ <;> simp [h2, a0, a1]
  have hm : dMulI (iD q) (iD M) = some (.im (iD (q * M))) := by
    rw [show iD (q * M) = .int ((q : Int) * (M : Int)) by simp [iD]]
    exact dMulI_ok (.inr ⟨by omega, by omega⟩)
  have hadd : dAdd (.int (lead.length : Int)) (iD (q * M)) = some (.im (iD R)) := by
    rw [hR]; simp [dAdd, iD]
  have f1 : sForD (fun ks _ => keysD ks) 7 (gVar 9) (crT K) (crS K p q sz M R c lead al a b none none none none none) = .ok (.nx, crS K p q sz M R c lead al a1 b1 x9 x10 x11 none none) := by
    have d7 : dicAt 7 (crS K p q sz M R c lead al a b none none none none none) = some ((al.map fun p => kT p.1, al.map fun p => D.int (p.2 : Int)), crS K p q sz M R c lead al a b none none none none none) := rfl
    unfold sForD
    rw [d7, ofO_some, ok_bind]
    simp only [e1, noX]
  have f2 : sFor (itRng1 (aCons (eV (eOp2 dAdd (eVar 6) (eK (.int 1)))) (aNil))) (gVar 12) (crL K) (crS K p q sz M R c lead al a1 b1 x9 x10 x11 none none) = .ok (.nx, crS K p q sz M R c lead al a1 b1 x9 x10 x11 x12 x13) := by
    have : itRng1 (aCons (eV (eOp2 dAdd (eVar 6) (eK (.int 1)))) (aNil)) (crS K p q sz M R c lead al a1 b1 x9 x10 x11 none none) = .ok (rngL 0 (M + 1), crS K p q sz M R c lead al a1 b1 x9 x10 x11 none none) := by
      simp [crS, hM1]
    unfold sFor
    rw [this]; exact e2
  refine ⟨a1, b1, ?_⟩
  unfold F__law_coder_right runF
  have f0 : ini [true, false, false, false, false, false] 15 [pot a b, coderD K p q c lead, codeD c, .str (T lead), iD sz, iD q] = [some (.io (pot a b)), some (.sh (coderD K p q c lead)), some (.sh (codeD c)), some (.sh (.str (T lead))), some (.sh (iD sz)), some (.sh (iD q)), none, none, none, none, none, none, none, none, none] := rfl
  rw [f0]
  have f3 : B__law_coder_right K [some (.io (pot a b)), some (.sh (coderD K p q c lead)), some (.sh (codeD c)), some (.sh (.str (T lead))), some (.sh (iD sz)), some (.sh (iD q)), none, none, none, none, none, none, none, none, none] = .ok (.rt (.val (.bl true)), crS K p q sz M R c lead al a1 b1 x9 x10 x11 x12 x13) := by
    unfold B__law_coder_right
    have g1 : sAsg 6 (eOp2 dIx (eLst (aCons (eV (eK (.int 4))) (aCons (eV (eK (.int 2))) (aNil)))) (eCB dInt (hCons (eOp2 (dI fun i j => .bl (decide (j < i))) (eVar 4) (eK (.int 2))) (hNil)))) [some (.io (pot a b)), some (.sh (coderD K p q c lead)), some (.sh (codeD c)), some (.sh (.str (T lead))), some (.sh (iD sz)), some (.sh (iD q)), none, none, none, none, none, none, none, none, none] = .ok (.nx, [some (.io (pot a b)), some (.sh (coderD K p q c lead)), some (.sh (codeD c)), some (.sh (.str (T lead))), some (.sh (iD sz)), some (.sh (iD q)), some (.sh (iD M)), none, none, none, none, none, none, none, none]) := by
      unfold sAsg
      rw [hmost]
      simp
    have g2 : sPar [7, 8] (pCons (eCall false (F__law_table K) (mSh (eVar 2) (mSh (eVar 3) (mSh (eVar 4) (mSh (eVar 6) (mNil)))))) (pCons (eOp2 dAdd (eCB dLen (hCons (eVar 3) (hNil))) (eOp2 dMulI (eVar 5) (eVar 6))) (pNil))) [some (.io (pot a b)), some (.sh (coderD K p q c lead)), some (.sh (codeD c)), some (.sh (.str (T lead))), some (.sh (iD sz)), some (.sh (iD q)), some (.sh (iD M)), none, none, none, none, none, none, none, none] = .ok (.nx, crS K p q sz M R c lead al a b none none none none none) := by
      simp [-dAdd, crS, t1, hm, hadd, hlls, T_len]
    rw [sSeq, g1, ok_bind]
    show sSeq _ _ _ = _
    rw [sSeq, g2, ok_bind]
    show sSeq _ _ _ = _
    rw [sSeq, f1, ok_bind]
    show sSeq _ _ _ = _
    rw [sSeq, f2, ok_bind]
    simp only [sRet, eCB, hCons, hNil]
    have g3 : itRng1 (aCons (eV (eCB dLen (hCons (eVar 3) (hNil)))) (aNil)) (crS K p q sz M R c lead al a1 b1 x9 x10 x11 x12 x13) = .ok (rngL 0 lead.length, crS K p q sz M R c lead al a1 b1 x9 x10 x11 x12 x13) := by
      simp [crS, hL1, hlls, T_len]
    have g4 : eLc [14] (itRng1 (aCons (eV (eCB dLen (hCons (eVar 3) (hNil)))) (aNil))) (gVar 14) pYes (eOp2 dEq (eCall false (F_still_open K) (mSh (eVar 1) (mSh (eSl (eVar 3) (oNone) (oSome (eVar 14))) (mNil)))) (eK (.int 0))) (crS K p q sz M R c lead al a1 b1 x9 x10 x11 x12 x13) = .ok (.tmp (.lst ((List.range lead.length).map fun _ => D.bl true)), crS K p q sz M R c lead al a1 b1 x9 x10 x11 x12 x13) := by
      unfold eLc
      rw [g3, ok_bind]
      have w : wipeS (crS K p q sz M R c lead al a1 b1 x9 x10 x11 x12 x13) [14] = crS K p q sz M R c lead al a1 b1 x9 x10 x11 x12 x13 := rfl
      have c14 : calmSl (crS K p q sz M R c lead al a1 b1 x9 x10 x11 x12 x13) [14] = true := rfl
      simp only [c14, if_true, w, e3, ok_bind]
      simp [crS, rst]
    simp [-eLc, -itRng1, g4, e4]
  rw [f3]
  simp [crS]
end LW
set_option Elab.async false
set_option linter.all false
set_option maxRecDepth 100000
set_option maxHeartbeats 1000000
namespace LW
open PySem L2 BR
theorem pot_ok (K : PySem.W.Frag) (ns : List Int) (hl : ns.length ≤ 63) (k : Nat) (hk : k < 4) : ∃ a b : Int, F__law_pot K [.scr ns, iD k] = .ok (pot a b, []) := by
  have hs := sl
  have m1 : ∀ i : Int, dMulI (.int 31) (.int i) = some (.im (.int (31 * i))) := fun i => dMulI_ok (.inl ⟨by decide, by decide⟩)
  have m2 : ∀ i : Int, dMulI (.int 2) (.int i) = some (.im (.int (2 * i))) := fun i => dMulI_ok (.inl ⟨by decide, by decide⟩)
  have c1 : ∀ i : Int, dIc (fun _ j => 0 < j) (fun i j => i % j) (.int i) (.int 2147483477) = some (.im (.int (i % 2147483477))) := fun i => dIc_ok (by decide)
  have c2 : ∀ i : Int, dIc (fun _ j => 0 < j) (fun i j => i % j) (.int i) (.int 2147483549) = some (.im (.int (i % 2147483549))) := fun i => dIc_ok (by decide)
  have c3 : dIc CPow (fun i j => i ^ j.toNat) (.int 10) (.int 18) = some (.im (.int 1000000000000000000)) := dIc_ok ⟨by decide, by decide, by decide⟩
  have c4 : dIc CPow (fun i j => i ^ j.toNat) (.int (2 * (k : Int) + 5)) (.int 3) = some (.im (.int ((2 * (k : Int) + 5) ^ 3))) := dIc_ok ⟨by decide, by decide, by omega⟩
  have m3 : ∀ i : Int, dMulI (.int (i % 2147483549 + 13)) (.int ((2 * (k : Int) + 5) ^ 3)) = some (.im (.int ((i % 2147483549 + 13) * (2 * (k : Int) + 5) ^ 3))) := fun i => dMulI_ok (.inl (by
    have h1 := Int.emod_nonneg i (show (2147483549 : Int) ≠ 0 by decide)
    have h2 := Int.emod_lt_of_pos i (show (0 : Int) < 2147483549 by decide)
    constructor <;> omega))
  have h2 : 2 ≤ sizeLine := by omega
  generalize hp : (2 * (k : Int) + 5) ^ 3 = P at *
  by_cases hc : k < ns.length
  · have a1 := atI_n ns k hc
    exact ⟨_, _, by simp [F__law_pot, B__law_pot, m1, m2, hc, a1, c1, c2, c3, c4, m3, h2]; exact ⟨rfl, rfl⟩⟩
  · exact ⟨_, _, by simp [F__law_pot, B__law_pot, m1, m2, hc, c1, c2, c3, c4, m3, h2]; exact ⟨rfl, rfl⟩⟩
abbrev rtS (a b : Int) (p q sz : Nat) (l : List Nat) (x5 x6 x7 x9 x10 : Option Sl) : S := [some (.io (pot a b)), some (.sh (iD p)), some (.sh (iD q)), some (.sh (iD sz)), some (.sh (.str (T l))), x5, x6, x7, none, x9, x10]
noncomputable abbrev rt1 (K : PySem.W.Frag) : SF := sAsg 6 (eCall false (F__law_codes K) (mIo (eVar 0) (mSh (eVar 3) (mSh (eVar 2) (mSh (eOp2 dAdd (eK (.int 1)) (eCall false (F__law_draw K) (mIo (eVar 0) (mSh (eK (.int 5)) (mNil))))) (mSh (eVar 4) (mNil)))))))
noncomputable abbrev rt2 (K : PySem.W.Frag) : SF := sAsg 7 (eM1 dJoin (eK (.str "")) (eLc [8] (itRng1 (aCons (eV (eCall false (F__law_draw K) (mIo (eVar 0) (mSh (eK (.int 4)) (mNil))))) (aNil))) (gVar 8) pYes (eCall false (F__law_pick K) (mIo (eVar 0) (mSh (eVar 4) (mNil))))))
noncomputable abbrev rt3 (K : PySem.W.Frag) : SF := sPar [9, 10] (pCons (eMake (He.ga K "Coder") (F_Coder___init__ K) [] (aCons (eV (eMake (He.ga K "Rate") (F_Rate___init__ K) [] (aCons (eV (eVar 1)) (aCons (eV (eVar 2)) (aNil))))) (aCons (eV (eVar 6)) (aCons (eV (eVar 7)) (aNil))))) (pCons (eCall false (F__law_kept K) (mSh (eVar 6) (mNil))) (pNil)))
noncomputable abbrev rt4 (K : PySem.W.Frag) : SF := sIf (tOrF (tNotF (tstV (eCall false (F__law_coder_right K) (mIo (eVar 0) (mSh (eVar 9) (mSh (eVar 10) (mSh (eVar 7) (mSh (eVar 3) (mSh (eVar 2) (mNil)))))))))) (tstV (eOp2 dNe (eMeth (He.ga K "Coder") "codes" false (F_Coder_codes K) [] (eVar 9) aNil) (eVar 10)))) (sRet (eK (.bl false))) (sNil)
def shT (x : Option Sl) : Prop := shN x ∨ ∃ d, x = some (.own d)
theorem rt1_ok (K : PySem.W.Frag) (a b : Int) (p q sz : Nat) (hq : q ≤ 1000) (hsz : sz ≤ 4) (l : List Nat) (h0 : 0 < l.length) (h1 : l.length < 1000) (hl : Sg l) (x5 x6 x7 x9 x10 : Option Sl) (h6 : shN x6) : ∃ (c : Cod) (a' b' : Int), Wf q sz c ∧
    rt1 K (rtS a b p q sz l x5 x6 x7 x9 x10) = .ok (.nx, rtS a' b' p q sz l x5 (some (.sh (codeD c))) x7 x9 x10) := by
  obtain ⟨d, a1, b1, e1, hd⟩ := draw_n K a b 5 (by omega) (by omega)
  replace e1 : F__law_draw K [pot a b, .int 5] = .ok (iD d, [pot a1 b1]) := e1
  obtain ⟨c, a2, b2, e2, hw, _⟩ := codes_ok K l h0 h1 hl q (1 + d) sz hq (by omega) (by omega) (by omega) a1 b1
  refine ⟨c, a2, b2, hw, ?_⟩
  have hc : iD (1 + d) = .int (1 + (d : Int)) := by simp [iD]
  rw [hc] at e2
  rcases h6 with rfl | ⟨_, rfl⟩ <;> simp [rtS, e1, e2]
theorem rt2_ok (K : PySem.W.Frag) (a b : Int) (p q sz : Nat) (l : List Nat) (h0 : 0 < l.length) (h1 : l.length < 1000) (hl : Sg l) (x5 x6 x7 x9 x10 : Option Sl) (h7 : shN x7) : ∃ (w : List Nat) (a' b' : Int), Sg w ∧ w.length ≤ 10 ∧
    rt2 K (rtS a b p q sz l x5 x6 x7 x9 x10) = .ok (.nx, rtS a' b' p q sz l x5 x6 (some (.sh (.str (T w)))) x9 x10) := by
  have hs := sl
  obtain ⟨d, a1, b1, e1, hd⟩ := draw_n K a b 4 (by omega) (by omega)
  replace e1 : F__law_draw K [pot a b, .int 4] = .ok (iD d, [pot a1 b1]) := e1
  obtain ⟨w, a', b', e, hw, hm⟩ := picks_gen (vs := [8]) (g := gVar 8) (p := pYes) (fe := eCall false (F__law_pick K) (mIo (eVar 0) (mSh (eVar 4) (mNil)))) l (fun a b => rtS a b p q sz l x5 x6 x7 x9 x10) (by
    intro d a b
    obtain ⟨c, a1, b1, e, hc⟩ := pick_str K a b l h0 h1
    exact ⟨c, a1, b1, by simp [rtS, e], hc⟩) (rngL 0 d) [] a1 b1 (by simp [rngL]; omega)
  have hwl : w.length = d := by simpa [rngL] using hw
  refine ⟨w, a', b', fun c hc => hl c (hm c hc), by omega, ?_⟩
  have hj := join_signs w (by omega)
  have hR := rngF_n d (by omega)
  have e0 : ("" : Str) = T [] := rfl
  simp only [List.nil_append] at e
  rcases h7 with rfl | ⟨d, rfl⟩ <;> simp [rtS, e1, hR, e, e0, hj]
theorem rt3_ok (K : PySem.W.Frag) (a b : Int) (p q sz : Nat) (hp1 : 1 ≤ p) (hp : p ≤ 6) (hq1 : 1 ≤ q) (hq : q ≤ 6) (hsz : 2 ^ p = sz) (hsz2 : sz ≤ 1000) (l : List Nat) (c : Cod) (h : Wf q sz c) (w : List Nat) (hw : Sg w) (hwl : w.length ≤ 2000) (x5 x9 x10 : Option Sl) (h9 : shT x9) (h10 : shT x10) :
    rt3 K (rtS a b p q sz l x5 (some (.sh (codeD c))) (some (.sh (.str (T w)))) x9 x10) = .ok (.nx, rtS a b p q sz l x5 (some (.sh (codeD c))) (some (.sh (.str (T w)))) (some (.own (coderD K p q (renum c) w))) (some (.sh (codeD (renum c))))) := by
  have e1 := rate_init K p q hp1 hp hq1 hq
  have e2 := coder_init K p q sz hsz c w hp (by omega) h hw hwl
  have e3 := kept_ok K q sz c h hsz2
  rcases h9 with (rfl | ⟨_, rfl⟩) | ⟨_, rfl⟩ <;> rcases h10 with (rfl | ⟨_, rfl⟩) | ⟨_, rfl⟩ <;> simp [rtS, e1, e2, e3]
end LW
set_option Elab.async false
set_option linter.all false
set_option maxRecDepth 100000
set_option maxHeartbeats 1000000
namespace LW
open PySem L2 BR
theorem rt4_ok (K : PySem.W.Frag) (a b : Int) (p q sz M : Nat) (hq1 : 1 ≤ q) (hq : q ≤ 3) (hsz : sz = 2 ∧ M = 4 ∨ sz = 4 ∧ M = 2) (l : List Nat) (c : Cod) (h : Wf q sz c) (w : List Nat) (hw : Sg w) (hwl : w.length ≤ 10) (x5 x6 : Option Sl) : ∃ a' b' : Int,
    rt4 K (rtS a b p q sz l x5 x6 (some (.sh (.str (T w)))) (some (.own (coderD K p q c w))) (some (.sh (codeD c)))) = .ok (.nx, rtS a' b' p q sz l x5 x6 (some (.sh (.str (T w)))) (some (.sh (coderD K p q c w))) (some (.sh (codeD c)))) := by
  obtain ⟨a', b', e1⟩ := coder_right_ok K p q sz M c h hq1 hq w hw hwl hsz a b
  have e2 := coder_codes K p q c w (by have := h.few; omega)
  have e3 := ne_code c fun r hr e he => (h.ent r hr e he).sub
  have hf : hasF (["own_rate", "own_lead", "own_codes"] : List Str) "codes" = false := by decide
  exact ⟨a', b', by simp [-hasF, hf, rtS, e1, e2, e3]⟩
noncomputable abbrev rtB (K : PySem.W.Frag) : SF := sSeq (rt1 K) (sSeq (rt2 K) (sSeq (rt3 K) (rt4 K)))
theorem rt_turn (K : PySem.W.Frag) (a b : Int) (p q sz M : Nat) (hp : 1 ≤ p ∧ p ≤ 2) (hsz : 2 ^ p = sz) (hM : sz = 2 ∧ M = 4 ∨ sz = 4 ∧ M = 2) (hq1 : 1 ≤ q) (hq : q ≤ 3) (l : List Nat) (h0 : 0 < l.length) (h1 : l.length < 1000) (hl : Sg l) (d : D) (x5 x6 x7 x9 x10 : Option Sl) (h5 : shN x5) (h6 : shN x6) (h7 : shN x7) (h9 : shT x9) (h10 : shT x10) :
    ∃ (a' b' : Int) (y6 y7 y9 y10 : Option Sl), shN y6 ∧ shN y7 ∧ shT y9 ∧ shT y10 ∧ (ofO (gVar 5 d (rtS a b p q sz l x5 x6 x7 x9 x10)) >>= rtB K) = .ok (.nx, rtS a' b' p q sz l (some (.sh d)) y6 y7 y9 y10) := by
  have hs4 : sz ≤ 4 := by omega
  obtain ⟨c, a1, b1, hw, e1⟩ := rt1_ok K a b p q sz (by omega) hs4 l h0 h1 hl (some (.sh d)) x6 x7 x9 x10 h6
  obtain ⟨w, a2, b2, w1, w2, e2⟩ := rt2_ok K a1 b1 p q sz l h0 h1 hl (some (.sh d)) (some (.sh (codeD c))) x7 x9 x10 h7
  have e3 := rt3_ok K a2 b2 p q sz (by omega) (by omega) hq1 (by omega) hsz (by omega) l c hw w w1 (by omega) (some (.sh d)) x9 x10 h9 h10
  obtain ⟨a4, b4, e4⟩ := rt4_ok K a2 b2 p q sz M hq1 hq hM l (renum c) (renum_wf hw) w w1 w2 (some (.sh d)) (some (.sh (codeD c)))
  refine ⟨a4, b4, some (.sh (codeD c)), some (.sh (.str (T w))), some (.sh (coderD K p q (renum c) w)), some (.sh (codeD (renum c))), shN_sh _, shN_sh _, .inl (shN_sh _), .inl (shN_sh _), ?_⟩
  have g5 : gVar 5 d (rtS a b p q sz l x5 x6 x7 x9 x10) = some (rtS a b p q sz l (some (.sh d)) x6 x7 x9 x10) := by
    rcases h5 with rfl | ⟨_, rfl⟩ <;> simp [rtS]
  rw [g5]
  show rtB K _ = _
  unfold rtB
  rw [sSeq, e1, ok_bind]
  show sSeq _ _ _ = _
  rw [sSeq, e2, ok_bind]
  show sSeq _ _ _ = _
  rw [sSeq, e3, ok_bind]
  exact e4
theorem right_ok (K : PySem.W.Frag) (a b : Int) : ∃ a' b' : Int, F__law_right K [pot a b] = .ok (.bl true, [pot a' b']) := by
  have hs := sl
  obtain ⟨d1, a1, b1, e1, h1⟩ := draw_n K a b 2 (by omega) (by omega)
  replace e1 : F__law_draw K [pot a b, .int 2] = .ok (iD d1, [pot a1 b1]) := e1
  obtain ⟨d2, a2, b2, e2, h2⟩ := draw_n K a1 b1 3 (by omega) (by omega)
  replace e2 : F__law_draw K [pot a1 b1, .int 3] = .ok (iD d2, [pot a2 b2]) := e2
  obtain ⟨j, dl, a3, b3, e3, h3⟩ := pick_lst K a2 b2 [.str "ab", .str "ab", .str "abc"] (by decide) (by decide)
  have hl : ∃ l : List Nat, dl = .str (T l) ∧ 0 < l.length ∧ l.length < 1000 ∧ Sg l := by
    have hm := List.mem_of_getElem? h3
    have t1 : ("ab" : Str) = T [97, 98] := rfl
    have t2 : ("abc" : Str) = T [97, 98, 99] := rfl
    rw [t1, t2] at hm
    simp only [List.mem_cons, List.not_mem_nil, or_false] at hm
    rcases hm with rfl | rfl | rfl
    · exact ⟨_, rfl, by decide, by decide, by unfold Sg; decide⟩
    · exact ⟨_, rfl, by decide, by decide, by unfold Sg; decide⟩
    · exact ⟨_, rfl, by decide, by decide, by unfold Sg; decide⟩
  obtain ⟨l, rfl, l1, l2, l3⟩ := hl
  obtain ⟨sz, M, hsz, hM, hix⟩ : ∃ sz M : Nat, 2 ^ (1 + d1) = sz ∧ (sz = 2 ∧ M = 4 ∨ sz = 4 ∧ M = 2) ∧ atI [D.int 2, D.int 4] (d1 : Int) = some (iD sz) := by
    have : d1 = 0 ∨ d1 = 1 := by omega
    rcases this with rfl | rfl
    · exact ⟨2, 4, rfl, .inl ⟨rfl, rfl⟩, rfl⟩
    · exact ⟨4, 2, rfl, .inr ⟨rfl, rfl⟩, rfl⟩
  have e := sForL_keep (g := gVar 5) (b := rtB K) iD (fun ρ => ∃ (a b : Int) (x5 x6 x7 x9 x10 : Option Sl), shN x5 ∧ shN x6 ∧ shN x7 ∧ shT x9 ∧ shT x10 ∧ ρ = rtS a b (1 + d1) (1 + d2) sz l x5 x6 x7 x9 x10) (List.range 3) (rtS a3 b3 (1 + d1) (1 + d2) sz l none none none none none) (by
    rintro i ρ _ ⟨a, b, x5, x6, x7, x9, x10, h5, h6, h7, h9, h10, rfl⟩
    obtain ⟨a', b', y6, y7, y9, y10, k6, k7, k9, k10, e⟩ := rt_turn K a b (1 + d1) (1 + d2) sz M ⟨by omega, by omega⟩ hsz hM (by omega) (by omega) l l1 l2 l3 (iD i) x5 x6 x7 x9 x10 h5 h6 h7 h9 h10
    exact ⟨_, e, a', b', _, y6, y7, y9, y10, shN_sh _, k6, k7, k9, k10, rfl⟩) ⟨a3, b3, none, none, none, none, none, shN_no, shN_no, shN_no, .inl shN_no, .inl shN_no, rfl⟩
  obtain ⟨ρ', e, a', b', x5, x6, x7, x9, x10, h5, h6, h7, h9, h10, rfl⟩ := e
  rw [rng_i] at e
  have hR : ∀ ρ, rngF ([.int 3], ρ) = .ok (rngL 0 3, ρ) := rngF_n 3 (by omega)
  refine ⟨a', b', ?_⟩
  have q1 : dAdd (.int 1) (iD d1) = some (.im (iD (1 + d1))) := by simp [dAdd, iD]
  have q2 : dAdd (.int 1) (iD d2) = some (.im (iD (1 + d2))) := by simp [dAdd, iD]
  have q3 : dI (fun i j => D.int (i - j)) (iD (1 + d1)) (.int 1) = some (.im (iD d1)) := by
    have : ((1 + d1 : Nat) : Int) - 1 = (d1 : Int) := by omega
    show some (Rz.im (D.int (((1 + d1 : Nat) : Int) - 1))) = _
    rw [this]
  have hs2 : 2 ≤ sizeLine := by omega
  have hs3 : 3 ≤ sizeLine := by omega
  have f3 : B__law_right K [some (.io (pot a b)), none, none, none, none, none, none, none, none, none, none] = .ok (.rt (.val (.bl true)), rtS a' b' (1 + d1) (1 + d2) sz l x5 x6 x7 x9 x10) := by
    unfold B__law_right
    have g1 : sPar [1, 2] (pCons (eOp2 dAdd (eK (.int 1)) (eCall false (F__law_draw K) (mIo (eVar 0) (mSh (eK (.int 2)) (mNil))))) (pCons (eOp2 dAdd (eK (.int 1)) (eCall false (F__law_draw K) (mIo (eVar 0) (mSh (eK (.int 3)) (mNil))))) (pNil))) [some (.io (pot a b)), none, none, none, none, none, none, none, none, none, none] = .ok (.nx, [some (.io (pot a2 b2)), some (.sh (iD (1 + d1))), some (.sh (iD (1 + d2))), none, none, none, none, none, none, none, none]) := by
      simp [-dAdd, e1, e2, q1, q2]
    have g2 : sPar [3, 4] (pCons (eOp2 dIx (eLst (aCons (eV (eK (.int 2))) (aCons (eV (eK (.int 4))) (aNil)))) (eOp2 (dI fun i j => .int (i - j)) (eVar 1) (eK (.int 1)))) (pCons (eCall false (F__law_pick K) (mIo (eVar 0) (mSh (eLst (aCons (eV (eK (.str "ab"))) (aCons (eV (eK (.str "ab"))) (aCons (eV (eK (.str "abc"))) (aNil))))) (mNil)))) (pNil))) [some (.io (pot a2 b2)), some (.sh (iD (1 + d1))), some (.sh (iD (1 + d2))), none, none, none, none, none, none, none, none] = .ok (.nx, rtS a3 b3 (1 + d1) (1 + d2) sz l none none none none none) := by
      simp [-dI, q3, rtS, e3, hix, hs2, hs3]
    have g3 : sFor (itRng1 (aCons (eV (eK (.int 3))) (aNil))) (gVar 5) (rtB K) (rtS a3 b3 (1 + d1) (1 + d2) sz l none none none none none) = .ok (.nx, rtS a' b' (1 + d1) (1 + d2) sz l x5 x6 x7 x9 x10) := by
      have : itRng1 (aCons (eV (eK (.int 3))) (aNil)) (rtS a3 b3 (1 + d1) (1 + d2) sz l none none none none none) = .ok (rngL 0 3, rtS a3 b3 (1 + d1) (1 + d2) sz l none none none none none) := by
        simp [hR]
      unfold sFor
      rw [this]; exact e
    rw [sSeq, g1, ok_bind]
    show sSeq _ _ _ = _
    rw [sSeq, g2, ok_bind]
    show sSeq _ _ _ = _
    rw [sSeq, g3, ok_bind]
    rfl
  unfold F__law_right runF
  have f0 : ini [true] 11 [pot a b] = [some (.io (pot a b)), none, none, none, none, none, none, none, none, none, none] := rfl
  rw [f0, f3]
  simp [rtS]
end LW
set_option Elab.async false
set_option linter.all false
set_option maxRecDepth 100000
set_option maxHeartbeats 1000000
namespace LW
open PySem L2 BR
def c0 : Cod := [[([97], 0), ([97], 0)]]
theorem c0_wf : Wf 1 2 c0 where
  pos := by decide
  few := by decide
  row := by intro r hr; simp [c0] at hr; subst hr; rfl
  ent := by
    intro r hr e he
    simp [c0] at hr; subst hr
    simp at he; subst he
    exact ⟨rfl, by unfold Sg; decide, by decide⟩
theorem c0_renum : renum c0 = c0 := by decide
theorem c0_stp (z : List Nat × Nat) (w : Nat) (hz : z.2 = 0) (hw : w < 2) : stp c0 z w = (z.1 ++ [97], 0) := by
  have : w = 0 ∨ w = 1 := by omega
  rcases this with rfl | rfl <;> simp [stp, ent, c0, hz]
theorem c0_fold : ∀ (t : List Nat) (z : List Nat × Nat), z.2 = 0 → (∀ w ∈ t, w < 2) → (t.foldl (stp c0) z).1 = z.1 ++ List.replicate t.length 97
  | [], z, _, _ => by simp
  | w :: t, z, hz, hw => by
    rw [List.foldl_cons, c0_stp z w hz (hw w (by simp)), c0_fold t _ rfl fun x hx => hw x (by simp [hx])]
    simp [List.replicate_succ]
theorem c0_opn (n : Nat) : opn c0 [98] 1 2 (98 :: List.replicate n 97) = 2 ^ n := by
  unfold opn
  rw [if_pos ⟨⟨List.replicate n 97, rfl⟩, Nat.mod_one _⟩]
  have : ((98 :: List.replicate n 97).length - [98].length) / 1 = n := by simp
  rw [this]
  unfold wsum
  have e : ((texts 2 n).map fun t => if (run c0 [98] t).1 = 98 :: List.replicate n 97 then 1 else 0).sum = ((texts 2 n).map fun _ => 1).sum := by
    apply sum_congr
    intro t ht
    obtain ⟨h1, h2⟩ := texts_mem ht
    have := c0_fold t ([98], 0) rfl h2
    rw [if_pos]
    show (t.foldl (stp c0) ([98], 0)).1 = _
    rw [this, h1]; rfl
  rw [e, sum_one, texts_len]
theorem c0_no (n : Nat) : opn c0 [98] 1 2 (List.replicate n 97) = 0 := by
  unfold opn
  rw [if_neg]
  rintro ⟨⟨t, ht⟩, _⟩
  cases n with
  | zero => cases ht
  | succ n => rw [List.replicate_succ] at ht; cases ht
theorem rep_flat : ∀ n : Nat, (List.replicate n [97]).flatten = List.replicate n 97
  | 0 => rfl
  | n + 1 => by rw [List.replicate_succ, List.flatten_cons, rep_flat n, List.replicate_succ]; rfl
theorem mul_a (n : Nat) (h : n ≤ 100000) : dStrMul (.str "a") (.int (n : Int)) = some (.im (.str (T (List.replicate n 97)))) := by
  have hs := sl
  have h1 : ("a" : Str).length = 1 := rfl
  have h2 : ("a" : Str).cps.toList = [97] := rfl
  show (if 0 ≤ (n : Int) ∧ (n : Int) ≤ 1000000 ∧ ("a" : Str).length * (n : Int).toNat ≤ sizeLine then some (Rz.im (D.str ⟨(List.replicate (n : Int).toNat ("a" : Str).cps.toList).flatten.toArray⟩)) else none) = _
  rw [h1, h2, Int.toNat_natCast, rep_flat, if_pos ⟨by omega, by omega, by omega⟩]
theorem sg_rep (n : Nat) : Sg (List.replicate n 97) := by
  intro c hc
  rw [List.mem_replicate] at hc
  rw [hc.2]; decide
theorem law_ok (K : PySem.W.Frag) (ns : List Int) (hl : ns.length ≤ 63) : ∃ d, F_law K [.scr ns] = .ok (.bl true, d) := by
  have hs := sl
  have tb : ("b" : Str) = T [98] := rfl
  have ta : ("a" : Str) = T [97] := rfl
  have te : ("" : Str) = T [] := rfl
  have hs1 : 1 ≤ sizeLine := by omega
  have hs2 : 2 ≤ sizeLine := by omega
  have sb : Sg [98] := by unfold Sg; decide
  have e1 : F_Rate___init__ K [.ins (He.ga K "Rate") [] [], .int 1, .int 1] = .ok (.non, [rateD K 1 1]) := rate_init K 1 1 (by omega) (by omega) (by omega) (by omega)
  have e2 := coder_init K 1 1 2 rfl c0 [98] (by omega) (by omega) c0_wf sb (by decide)
  rw [c0_renum] at e2
  have hcd : codeD c0 = .lst [.lst [.tup [.str (T [97]), .int 0], .tup [.str (T [97]), .int 0]]] := rfl
  have hso : ∀ row, Sg row → row.length ≤ 2000 → F_still_open K [coderD K 1 1 c0 [98], .str (T row)] = .ok (iD (opn c0 [98] 1 2 row), []) := fun row h1 h2 => still_open_ok K 1 1 2 c0 c0_wf [98] row (by omega) (by omega) h1 h2 (by decide)
  have s1 := hso (98 :: List.replicate 1999 97) (sg_app sb (sg_rep 1999)) (by rw [List.length_cons, List.length_replicate]; omega)
  have s2 := hso (List.replicate 300 97) (sg_rep 300) (by rw [List.length_replicate]; omega)
  have s3 := hso [] (by unfold Sg; simp) (by simp)
  rw [c0_opn] at s1
  rw [c0_no] at s2
  have s3' : opn c0 [98] 1 2 [] = 0 := c0_no 0
  rw [s3'] at s3
  have m1 := mul_a 1999 (by omega)
  have m2 := mul_a 300 (by omega)
  have p1 := add_T [98] (List.replicate 1999 97) (by rw [List.length_replicate]; decide)
  generalize hA : List.replicate 1999 97 = A at *
  generalize hB : List.replicate 300 97 = B at *
  have hR : ∀ ρ, rngF ([.int 1999], ρ) = .ok (rngL 0 1999, ρ) := rngF_n 1999 (by omega)
  obtain ⟨al, hal⟩ : ∃ al, al = coderD K 1 1 c0 [98] := ⟨_, rfl⟩
  rw [← hal] at e2 s1 s2 s3
  -- the powers
  have e3 := sForL_rel (g := gVar 3) (b := sAsg 2 (eOp2 dMulI (eVar 2) (eK (.int 2)))) iD (fun p ρ => ∃ x, shN x ∧ ρ = [some (.sh (.scr ns)), some (.own al), some (.sh (iD (2 ^ p.length))), x, none]) (List.range 1999) [some (.sh (.scr ns)), some (.own al), some (.sh (iD (2 ^ ([] : List Nat).length))), none, none] (by
    rintro p i ρ _ ⟨x, hx, rfl⟩
    refine ⟨_, ?_, some (.sh (iD i)), shN_sh _, rfl⟩
    have m : dMulI (iD (2 ^ p.length)) (.int 2) = some (.im (iD (2 ^ (p ++ [i]).length))) := by
      rw [List.length_append, List.length_singleton, Nat.pow_succ]
      rw [show iD (2 ^ p.length * 2) = .int (((2 ^ p.length : Nat) : Int) * 2) by simp [iD]]
      exact dMulI_ok (.inr ⟨by decide, by decide⟩)
    generalize iD (2 ^ (p ++ [i]).length) = Y at *
    generalize iD (2 ^ p.length) = X at *
    rcases hx with rfl | ⟨_, rfl⟩ <;> simp [m]) ⟨none, shN_no, rfl⟩
  obtain ⟨ρ', e3, x3, h3, rfl⟩ := e3
  rw [rng_i] at e3
  rw [List.length_range] at e3
  have hone : iD (2 ^ ([] : List Nat).length) = .int 1 := rfl
  rw [hone] at e3
  have n1 := ne_n (2 ^ 1999) (2 ^ 1999)
  rw [decide_eq_true rfl] at n1
  generalize hX : iD (2 ^ 1999) = X at *
  have n2 : dNe (iD 0) (.int 0) = some (.im (.bl false)) := by simp [dNe, eqD]
  -- the cells
  have hcells := lcL_map (vs := [4]) (g := gVar 4) (p := pYes) (fe := eCall false (F__law_right K) (mIo (eCall true (F__law_pot K) (mSh (eVar 0) (mSh (eVar 4) (mNil)))) (mNil))) iD (fun _ => D.bl true) [some (.sh (.scr ns)), some (.sh al), some (.sh X), x3, none] (List.range (max 1 (min 4 ns.length))) (by
    intro k hk
    rw [List.mem_range] at hk
    obtain ⟨a, b, f1⟩ := pot_ok K ns hl k (by omega)
    obtain ⟨a', b', f2⟩ := right_ok K a b
    simp [f1, f2]) (by simp; omega)
  rw [rng_i] at hcells
  have e4 := all_true (List.range (max 1 (min 4 ns.length)))
  have hmm : (if (if (ns.length : Int) < 4 then (ns.length : Int) else 4) > 1 then (if (ns.length : Int) < 4 then (ns.length : Int) else 4) else 1) = ((max 1 (min 4 ns.length) : Nat) : Int) := by
    split <;> split at * <;> omega
  have hR2 := rngF_n (max 1 (min 4 ns.length)) (by omega)
  have g1 : sPar [1, 2] (pCons (eMake (He.ga K "Coder") (F_Coder___init__ K) [] (aCons (eV (eMake (He.ga K "Rate") (F_Rate___init__ K) [] (aCons (eV (eK (.int 1))) (aCons (eV (eK (.int 1))) (aNil))))) (aCons (eV (eLst (aCons (eV (eLst (aCons (eV (eTup (aCons (eV (eK (.str "a"))) (aCons (eV (eK (.int 0))) (aNil))))) (aCons (eV (eTup (aCons (eV (eK (.str "a"))) (aCons (eV (eK (.int 0))) (aNil))))) (aNil))))) (aNil)))) (aCons (eV (eK (.str "b"))) (aNil))))) (pCons (eK (.int 1)) (pNil))) [some (.sh (.scr ns)), none, none, none, none] = .ok (.nx, [some (.sh (.scr ns)), some (.own al), some (.sh (.int 1)), none, none]) := by
    rw [ta, tb]
    rw [hcd] at e2
    simp [e1, hs1, hs2, e2]
  have g2 : sFor (itRng1 (aCons (eV (eK (.int 1999))) (aNil))) (gVar 3) (sAsg 2 (eOp2 dMulI (eVar 2) (eK (.int 2)))) [some (.sh (.scr ns)), some (.own al), some (.sh (.int 1)), none, none] = .ok (.nx, [some (.sh (.scr ns)), some (.own al), some (.sh X), x3, none]) := by
    have : itRng1 (aCons (eV (eK (.int 1999))) (aNil)) [some (.sh (.scr ns)), some (.own al), some (.sh (.int 1)), none, none] = .ok (rngL 0 1999, [some (.sh (.scr ns)), some (.own al), some (.sh (.int 1)), none, none]) := by
      simp [hR]
    unfold sFor
    rw [this]; exact e3
  have m1' : dStrMul (.str "a") (.int 1999) = some (.im (.str (T A))) := m1
  have m2' : dStrMul (.str "a") (.int 300) = some (.im (.str (T B))) := m2
  have p1' : dAdd (.str "b") (.str (T A)) = some (.im (.str (T (98 :: A)))) := p1
  have s3'' : F_still_open K [al, .str ""] = .ok (iD 0, []) := s3
  have g3 : sIf (tOrF (tstV (eOp2 dNe (eCall false (F_still_open K) (mSh (eVar 1) (mSh (eOp2 dAdd (eK (.str "b")) (eOp2 dStrMul (eK (.str "a")) (eK (.int 1999)))) (mNil)))) (eVar 2))) (tOrF (tstV (eOp2 dNe (eCall false (F_still_open K) (mSh (eVar 1) (mSh (eOp2 dStrMul (eK (.str "a")) (eK (.int 300))) (mNil)))) (eK (.int 0)))) (tstV (eOp2 dNe (eCall false (F_still_open K) (mSh (eVar 1) (mSh (eK (.str "")) (mNil)))) (eK (.int 0)))))) (sRet (eK (.bl false))) (sNil) [some (.sh (.scr ns)), some (.own al), some (.sh X), x3, none] = .ok (.nx, [some (.sh (.scr ns)), some (.sh al), some (.sh X), x3, none]) := by
    simp [-dAdd, m1', m2', p1', s1, s2, s3'', n1, n2]
  have g4 : itRng1 (aCons (eV (eCB dMax (hCons (eK (.int 1)) (hCons (eCB dMin (hCons (eK (.int 4)) (hCons (eCB dLen (hCons (eVar 0) (hNil))) (hNil)))) (hNil))))) (aNil)) [some (.sh (.scr ns)), some (.sh al), some (.sh X), x3, none] = .ok (rngL 0 (max 1 (min 4 ns.length)), [some (.sh (.scr ns)), some (.sh al), some (.sh X), x3, none]) := by
    simp only [rng1_a, aCons, eV, eCB, hCons, eK, eVar, hNil, aNil, ok_bind, looks, look, ofO_some, dMax, dMin, dLen, fin, share, Sl.d, List.getElem?_cons_zero, Option.bind_some]
    rw [hmm]
    exact hR2 _
  have f3 : B_law K [some (.sh (.scr ns)), none, none, none, none] = .ok (.rt (.val (.bl true)), [some (.sh (.scr ns)), some (.sh al), some (.sh X), x3, none]) := by
    unfold B_law
    rw [sSeq, g1, ok_bind]
    show sSeq _ _ _ = _
    rw [sSeq, g2, ok_bind]
    show sSeq _ _ _ = _
    rw [sSeq, g3, ok_bind]
    have g5 : eLc [4] (itRng1 (aCons (eV (eCB dMax (hCons (eK (.int 1)) (hCons (eCB dMin (hCons (eK (.int 4)) (hCons (eCB dLen (hCons (eVar 0) (hNil))) (hNil)))) (hNil))))) (aNil))) (gVar 4) pYes (eCall false (F__law_right K) (mIo (eCall true (F__law_pot K) (mSh (eVar 0) (mSh (eVar 4) (mNil)))) (mNil))) [some (.sh (.scr ns)), some (.sh al), some (.sh X), x3, none] = .ok (.tmp (.lst ((List.range (max 1 (min 4 ns.length))).map fun _ => D.bl true)), [some (.sh (.scr ns)), some (.sh al), some (.sh X), x3, none]) := by
      unfold eLc
      rw [g4, ok_bind]
      have w : wipeS [some (.sh (.scr ns)), some (.sh al), some (.sh X), x3, none] [4] = [some (.sh (.scr ns)), some (.sh al), some (.sh X), x3, none] := rfl
      have c4 : calmSl [some (.sh (.scr ns)), some (.sh al), some (.sh X), x3, none] [4] = true := rfl
      simp only [c4, if_true, w, hcells, ok_bind]
      simp [rst]
    show sRet _ _ = _
    simp [-eLc, g5, e4]
  refine ⟨[], ?_⟩
  unfold F_law runF
  have f0 : ini [false] 5 [.scr ns] = [some (.sh (.scr ns)), none, none, none, none] := rfl
  rw [f0, f3]
  simp
end LW
set_option Elab.async false
set_option linter.all false
set_option maxRecDepth 100000
set_option maxHeartbeats 0
namespace LW
open PySem L2 BR
theorem pass00 {P : Program} {w : World} {X : Cx} : Passes (L2.CX P w) X (fun _ _ _ => False) := fun _ _ _ _ _ _ _ h => by
  obtain ⟨a, B, H', cls, d, h⟩ := h
  exact h.2.2.2.2.2.2.2.elim
set_option maxHeartbeats 400000
section
variable {P : Program} {w : World} {K : PySem.W.Frag} {mg : Str → Option Value} {base : Heap}
abbrev N_want_rate : List Str := ["value"]
theorem sc_want_rate : FnScope N_want_rate ["value"] (defScope (top 25)) := ⟨rfl, rfl, rfl, by decide +kernel, rfl, by decide +kernel, by decide +kernel⟩
theorem ok_want_rate (m : M K mg) : FnOk P w K mg base (L2.CX P w) 1 (He.ga K "want_rate") m.fd_want_rate ["value"] (spF K [false] false (F_want_rate K)) := by
  have h := fn_ok (P := P) (w := w) (mg := mg) (base := base) (k := 0) (ms := [false]) (own := false) (b := B_want_rate K) m.F_want_rate sc_want_rate rfl
  refine h fun cdv A outer s H E hr => ?_
  have nd := sc_want_rate.nd
  have hu64 := hr.units
  have hu : (A.deeper (PyProof.Rows.envOfC _ _ s.heap.objs.size _ cdv)).units + 1 < cLine := Nat.lt_of_le_of_lt (Nat.add_le_add_left (by decide) _) hu64
  exact sq_one (st_if (pb_not (pb_val (pr_callB call_isiB (d_isi (isi_own m.ci_Rate m.k_Rate_Rate)) rfl m.f_isinstance (by decide +kernel) (hs_cons (pr_var 0) (hs_cons (pr_gobj rfl m.g_Rate) (hs_nil)))))) (sq_one (st_never)) (sq_nil))
abbrev N_is_list : List Str := ["value"]
theorem sc_is_list : FnScope N_is_list ["value"] (defScope (top 18)) := ⟨rfl, rfl, rfl, by decide +kernel, rfl, by decide +kernel, by decide +kernel⟩
theorem ok_is_list (m : M K mg) : FnOk P w K mg base (L2.CX P w) 1 (He.ga K "is_list") m.fd_is_list ["value"] (spF K [false] false (F_is_list K)) := by
  have h := fn_ok (P := P) (w := w) (mg := mg) (base := base) (k := 0) (ms := [false]) (own := false) (b := B_is_list K) m.F_is_list sc_is_list rfl
  refine h fun cdv A outer s H E hr => ?_
  have nd := sc_is_list.nd
  have hu64 := hr.units
  have hu : (A.deeper (PyProof.Rows.envOfC _ _ s.heap.objs.size _ cdv)).units + 1 < cLine := Nat.lt_of_le_of_lt (Nat.add_le_add_left (by decide) _) hu64
  exact sq_one (st_ret (pr_callB call_isiB (d_isi isi_seq) rfl m.f_isinstance (by decide +kernel) (hs_cons (pr_var 0) (hs_cons (pr_tup (as_cons (PR.v (pr_type rfl m.f_list (by decide +kernel))) (as_cons (PR.v (pr_type rfl m.f_tuple (by decide +kernel))) (as_nil)))) (hs_nil)))))
abbrev N_Rate_size : List Str := ["self"]
theorem sc_Rate_size : FnScope N_Rate_size ["self"] (defScope (inClass (top 24) 3)) := ⟨rfl, rfl, rfl, by decide +kernel, rfl, by decide +kernel, by decide +kernel⟩
theorem ok_Rate_size (m : M K mg) : FnOk P w K mg base (L2.CX P w) 1 (He5.wf K (He.ga K "Rate") "property" "size") m.fd_Rate_size ["self"] (spF K [false] false (F_Rate_size K)) := by
  have h := fn_ok (P := P) (w := w) (mg := mg) (base := base) (k := 0) (ms := [false]) (own := false) (b := B_Rate_size K) m.F_Rate_size sc_Rate_size rfl
  refine h fun cdv A outer s H E hr => ?_
  have nd := sc_Rate_size.nd
  have hu64 := hr.units
  have hu : (A.deeper (PyProof.Rows.envOfC _ _ s.heap.objs.size _ cdv)).units + 1 < cLine := Nat.lt_of_le_of_lt (Nat.add_le_add_left (by decide) _) hu64
  exact sq_one (st_ret (pr_bin op_shl d_Ic (pr_int) (pr_fld m.c_Rate m.na_Rate_rate_bits (pr_var 0))))
abbrev N_is_row : List Str := ["value", "sign"]
theorem sc_is_row : FnScope N_is_row ["value"] (defScope (top 19)) := ⟨rfl, rfl, rfl, by decide +kernel, rfl, by decide +kernel, by decide +kernel⟩
theorem ok_is_row (m : M K mg) : FnOk P w K mg base (L2.CX P w) 1 (He.ga K "is_row") m.fd_is_row ["value"] (spF K [false] false (F_is_row K)) := by
  have h := fn_ok (P := P) (w := w) (mg := mg) (base := base) (k := 0) (ms := [false]) (own := false) (b := B_is_row K) m.F_is_row sc_is_row rfl
  refine h fun cdv A outer s H E hr => ?_
  have nd := sc_is_row.nd
  have hu64 := hr.units
  have hu : (A.deeper (PyProof.Rows.envOfC _ _ s.heap.objs.size _ cdv)).units + 1 < cLine := Nat.lt_of_le_of_lt (Nat.add_le_add_left (by decide) _) hu64
  exact sq_one (st_ret (pr_and (pr_callB call_isiB (d_isi isi_str) rfl m.f_isinstance (by decide +kernel) (hs_cons (pr_var 0) (hs_cons (pr_type rfl m.f_str (by decide +kernel)) (hs_nil)))) (pr_one (pr_callB (cr_all rfl) d_all rfl m.f_all (by decide +kernel) (hs_cons (pr_lc0 (hs0 := rfl) nd (it_str (pr_var 0)) (blkOk_by (N := N_is_row) (sc := defScope (top 19)) (own := [("sign", 1)]) (by decide +kernel)) (by decide) (fun _ _ _ _ _ => tg_name (i := 1) nd rfl (by first | exact Or.inl rfl | exact Or.inr rfl)) (fun _ _ _ _ _ => pr_cmp (op_inB hu) d_inB (pr_var 1) (pr_gstr rfl m.s_LETTERS) (by rfl))) (hs_nil))))))
abbrev N_Rate_q : List Str := ["self"]
theorem sc_Rate_q : FnScope N_Rate_q ["self"] (defScope (inClass (top 24) 2)) := ⟨rfl, rfl, rfl, by decide +kernel, rfl, by decide +kernel, by decide +kernel⟩
theorem ok_Rate_q (m : M K mg) : FnOk P w K mg base (L2.CX P w) 1 (He5.wf K (He.ga K "Rate") "property" "q") m.fd_Rate_q ["self"] (spF K [false] false (F_Rate_q K)) := by
  have h := fn_ok (P := P) (w := w) (mg := mg) (base := base) (k := 0) (ms := [false]) (own := false) (b := B_Rate_q K) m.F_Rate_q sc_Rate_q rfl
  refine h fun cdv A outer s H E hr => ?_
  have nd := sc_Rate_q.nd
  have hu64 := hr.units
  have hu : (A.deeper (PyProof.Rows.envOfC _ _ s.heap.objs.size _ cdv)).units + 1 < cLine := Nat.lt_of_le_of_lt (Nat.add_le_add_left (by decide) _) hu64
  exact sq_one (st_ret (pr_fld m.c_Rate m.na_Rate_rate_signs (pr_var 0)))
abbrev N_is_block_of : List Str := ["rate", "value"]
theorem sc_is_block_of : FnScope N_is_block_of ["rate", "value"] (defScope (top 31)) := ⟨rfl, rfl, rfl, by decide +kernel, rfl, by decide +kernel, by decide +kernel⟩
theorem ok_is_block_of (m : M K mg) : FnOk P w K mg base (L2.CX P w) 3 (He.ga K "is_block_of") m.fd_is_block_of ["rate", "value"] (spF K [false, false] false (F_is_block_of K)) := by
  have h := fn_ok (P := P) (w := w) (mg := mg) (base := base) (k := 2) (ms := [false, false]) (own := false) (b := B_is_block_of K) m.F_is_block_of sc_is_block_of rfl
  refine h fun cdv A outer s H E hr => ?_
  have nd := sc_is_block_of.nd
  have hu64 := hr.units
  have hu : (A.deeper (PyProof.Rows.envOfC _ _ s.heap.objs.size _ cdv)).units + 1 < cLine := Nat.lt_of_le_of_lt (Nat.add_le_add_left (by decide) _) hu64
  exact sq_one (st_ret (pr_and (pr_call (ok_is_row m) (hr.mono (by decide)) rfl m.g_is_row m.F_is_row.kp (m.F_is_row.bindsN fun _ _ _ _ _ _ us hl => match us, hl with | [_], _ => rfl) passD (ms_sh (pr_var 1) (ms_nil))) (pr_one (pr_cmp (op_eqB hu64) d_eq (pr_callB call_lenK d_lenK rfl m.f_len (by decide +kernel) (hs_cons (pr_var 1) (hs_nil))) (pr_prop (pr_var 0) m.c_Rate m.pr_Rate_q (ok_Rate_q m) (hr.mono (by decide)) (m.F_Rate_q.bindsN fun _ _ _ _ _ _ us hl => match us, hl with | [_], _ => rfl) pass00) (nomark _)))))
abbrev N_is_integer : List Str := ["value"]
theorem sc_is_integer : FnScope N_is_integer ["value"] (defScope (top 16)) := ⟨rfl, rfl, rfl, by decide +kernel, rfl, by decide +kernel, by decide +kernel⟩
theorem ok_is_integer (m : M K mg) : FnOk P w K mg base (L2.CX P w) 1 (He.ga K "is_integer") m.fd_is_integer ["value"] (spF K [false] false (F_is_integer K)) := by
  have h := fn_ok (P := P) (w := w) (mg := mg) (base := base) (k := 0) (ms := [false]) (own := false) (b := B_is_integer K) m.F_is_integer sc_is_integer rfl
  refine h fun cdv A outer s H E hr => ?_
  have nd := sc_is_integer.nd
  have hu64 := hr.units
  have hu : (A.deeper (PyProof.Rows.envOfC _ _ s.heap.objs.size _ cdv)).units + 1 < cLine := Nat.lt_of_le_of_lt (Nat.add_le_add_left (by decide) _) hu64
  exact sq_one (st_ret (pr_and (pr_callB call_isiB (d_isi isi_int) rfl m.f_isinstance (by decide +kernel) (hs_cons (pr_var 0) (hs_cons (pr_type rfl m.f_int (by decide +kernel)) (hs_nil)))) (pr_one (pr_not (pr_callB call_isiB (d_isi isi_bool) rfl m.f_isinstance (by decide +kernel) (hs_cons (pr_var 0) (hs_cons (pr_type rfl m.f_bool (by decide +kernel)) (hs_nil))))))))
abbrev N_is_count : List Str := ["value"]
theorem sc_is_count : FnScope N_is_count ["value"] (defScope (top 17)) := ⟨rfl, rfl, rfl, by decide +kernel, rfl, by decide +kernel, by decide +kernel⟩
theorem ok_is_count (m : M K mg) : FnOk P w K mg base (L2.CX P w) 2 (He.ga K "is_count") m.fd_is_count ["value"] (spF K [false] false (F_is_count K)) := by
  have h := fn_ok (P := P) (w := w) (mg := mg) (base := base) (k := 1) (ms := [false]) (own := false) (b := B_is_count K) m.F_is_count sc_is_count rfl
  refine h fun cdv A outer s H E hr => ?_
  have nd := sc_is_count.nd
  have hu64 := hr.units
  have hu : (A.deeper (PyProof.Rows.envOfC _ _ s.heap.objs.size _ cdv)).units + 1 < cLine := Nat.lt_of_le_of_lt (Nat.add_le_add_left (by decide) _) hu64
  exact sq_one (st_ret (pr_and (pr_call (ok_is_integer m) (hr.mono (by decide)) rfl m.g_is_integer m.F_is_integer.kp (m.F_is_integer.bindsN fun _ _ _ _ _ _ us hl => match us, hl with | [_], _ => rfl) passD (ms_sh (pr_var 0) (ms_nil))) (pr_one (pr_cmp op_ge d_Ib (pr_var 0) (pr_int) (nomark _)))))
abbrev N_is_entry : List Str := ["rate", "many", "value"]
theorem sc_is_entry : FnScope N_is_entry ["rate", "many", "value"] (defScope (top 33)) := ⟨rfl, rfl, rfl, by decide +kernel, rfl, by decide +kernel, by decide +kernel⟩
theorem ok_is_entry (m : M K mg) : FnOk P w K mg base (L2.CX P w) 4 (He.ga K "is_entry") m.fd_is_entry ["rate", "many", "value"] (spF K [false, false, false] false (F_is_entry K)) := by
  have h := fn_ok (P := P) (w := w) (mg := mg) (base := base) (k := 3) (ms := [false, false, false]) (own := false) (b := B_is_entry K) m.F_is_entry sc_is_entry rfl
  refine h fun cdv A outer s H E hr => ?_
  have nd := sc_is_entry.nd
  have hu64 := hr.units
  have hu : (A.deeper (PyProof.Rows.envOfC _ _ s.heap.objs.size _ cdv)).units + 1 < cLine := Nat.lt_of_le_of_lt (Nat.add_le_add_left (by decide) _) hu64
  exact sq_cons (st_if (pb_w (pb_or (pb_not (pb_val (pr_callB call_isiB (d_isi isi_tup) rfl m.f_isinstance (by decide +kernel) (hs_cons (pr_var 2) (hs_cons (pr_type rfl m.f_tuple (by decide +kernel)) (hs_nil)))))) (pb_or (pb_cmp (op_neB hu64) d_ne (pr_callB call_lenK d_lenK rfl m.f_len (by decide +kernel) (hs_cons (pr_var 2) (hs_nil))) (pr_int) (nomark _)) (pb_or1 (pb_not (pb_val (pr_call (ok_is_block_of m) (hr.mono (by decide)) rfl m.g_is_block_of m.F_is_block_of.kp (m.F_is_block_of.bindsN fun _ _ _ _ _ _ us hl => match us, hl with | [_, _], _ => rfl) passD (ms_sh (pr_var 0) (ms_sh (pr_ix (ix_B hu) d_ix (pr_var 2) (pr_int) (fun _ _ => rfl)) (ms_nil)))))))))) (sq_one (st_ret (pr_bl))) (sq_nil))
    (sq_one (st_ret (pr_and (pr_call (ok_is_count m) (hr.mono (by decide)) rfl m.g_is_count m.F_is_count.kp (m.F_is_count.bindsN fun _ _ _ _ _ _ us hl => match us, hl with | [_], _ => rfl) passD (ms_sh (pr_ix (ix_B hu) d_ix (pr_var 2) (pr_int) (fun _ _ => rfl)) (ms_nil))) (pr_one (pr_cmp op_lt d_Ib (pr_ix (ix_B hu) d_ix (pr_var 2) (pr_int) (fun _ _ => rfl)) (pr_var 1) (nomark _))))))
abbrev N_are_entries : List Str := ["rate", "many", "value", "entry"]
theorem sc_are_entries : FnScope N_are_entries ["rate", "many", "value"] (defScope (top 34)) := ⟨rfl, rfl, rfl, by decide +kernel, rfl, by decide +kernel, by decide +kernel⟩
theorem ok_are_entries (m : M K mg) : FnOk P w K mg base (L2.CX P w) 5 (He.ga K "are_entries") m.fd_are_entries ["rate", "many", "value"] (spF K [false, false, false] false (F_are_entries K)) := by
  have h := fn_ok (P := P) (w := w) (mg := mg) (base := base) (k := 4) (ms := [false, false, false]) (own := false) (b := B_are_entries K) m.F_are_entries sc_are_entries rfl
  refine h fun cdv A outer s H E hr => ?_
  have nd := sc_are_entries.nd
  have hu64 := hr.units
  have hu : (A.deeper (PyProof.Rows.envOfC _ _ s.heap.objs.size _ cdv)).units + 1 < cLine := Nat.lt_of_le_of_lt (Nat.add_le_add_left (by decide) _) hu64
  exact sq_cons (st_if (pb_w (pb_or (pb_not (pb_val (pr_call (ok_is_list m) (hr.mono (by decide)) rfl m.g_is_list m.F_is_list.kp (m.F_is_list.bindsN fun _ _ _ _ _ _ us hl => match us, hl with | [_], _ => rfl) passD (ms_sh (pr_var 2) (ms_nil))))) (pb_or1 (pb_cmp (op_neB hu64) d_ne (pr_callB call_lenK d_lenK rfl m.f_len (by decide +kernel) (hs_cons (pr_var 2) (hs_nil))) (pr_prop (pr_var 0) m.c_Rate m.pr_Rate_size (ok_Rate_size m) (hr.mono (by decide)) (m.F_Rate_size.bindsN fun _ _ _ _ _ _ us hl => match us, hl with | [_], _ => rfl) pass00) (nomark _))))) (sq_one (st_ret (pr_bl))) (sq_nil))
    (sq_one (st_ret (pr_callB (cr_all rfl) d_all rfl m.f_all (by decide +kernel) (hs_cons (pr_lc0 (hs0 := rfl) nd (it_list (pr_var 2)) (blkOk_by (N := N_are_entries) (sc := defScope (top 34)) (own := [("entry", 3)]) (by decide +kernel)) (by decide) (fun _ _ _ _ _ => tg_name (i := 3) nd rfl (by first | exact Or.inl rfl | exact Or.inr rfl)) (fun _ _ _ _ _ => pr_call (ok_is_entry m) (hr.mono (by decide)) rfl m.g_is_entry m.F_is_entry.kp (m.F_is_entry.bindsN fun _ _ _ _ _ _ us hl => match us, hl with | [_, _, _], _ => rfl) pass00 (ms_sh (pr_var 0) (ms_sh (pr_var 1) (ms_sh (pr_var 3) (ms_nil)))))) (hs_nil)))))
abbrev N_want_codes : List Str := ["rate", "codes", "position", "entries"]
theorem sc_want_codes : FnScope N_want_codes ["rate", "codes"] (defScope (top 35)) := ⟨rfl, rfl, rfl, by decide +kernel, rfl, by decide +kernel, by decide +kernel⟩
theorem ok_want_codes (m : M K mg) : FnOk P w K mg base (L2.CX P w) 6 (He.ga K "want_codes") m.fd_want_codes ["rate", "codes"] (spF K [false, false] false (F_want_codes K)) := by
  have h := fn_ok (P := P) (w := w) (mg := mg) (base := base) (k := 5) (ms := [false, false]) (own := false) (b := B_want_codes K) m.F_want_codes sc_want_codes rfl
  refine h fun cdv A outer s H E hr => ?_
  have nd := sc_want_codes.nd
  have hu64 := hr.units
  have hu : (A.deeper (PyProof.Rows.envOfC _ _ s.heap.objs.size _ cdv)).units + 1 < cLine := Nat.lt_of_le_of_lt (Nat.add_le_add_left (by decide) _) hu64
  exact sq_cons (st_if (pb_w (pb_or (pb_not (pb_val (pr_call (ok_is_list m) (hr.mono (by decide)) rfl m.g_is_list m.F_is_list.kp (m.F_is_list.bindsN fun _ _ _ _ _ _ us hl => match us, hl with | [_], _ => rfl) passD (ms_sh (pr_var 1) (ms_nil))))) (pb_or1 (pb_cmp (op_eqB hu64) d_eq (pr_callB call_lenK d_lenK rfl m.f_len (by decide +kernel) (hs_cons (pr_var 1) (hs_nil))) (pr_int) (nomark _))))) (sq_one (st_never)) (sq_nil))
    (sq_one (st_for ownD rfl (it_enum rfl m.f_enumerate (as_cons (PR.v (pr_var 1)) (as_nil))) (tg_tup rfl (tgs_cons (tg_name (i := 2) nd rfl (by first | exact Or.inl rfl | exact Or.inr rfl)) (tgs_cons (tg_name (i := 3) nd rfl (by first | exact Or.inl rfl | exact Or.inr rfl)) (tgs_nil)))) (sq_one (st_if (pb_not (pb_val (pr_call (ok_are_entries m) (hr.mono (by decide)) rfl m.g_are_entries m.F_are_entries.kp (m.F_are_entries.bindsN fun _ _ _ _ _ _ us hl => match us, hl with | [_, _, _], _ => rfl) passD (ms_sh (pr_var 0) (ms_sh (pr_callB call_lenK d_lenK rfl m.f_len (by decide +kernel) (hs_cons (pr_var 1) (hs_nil))) (ms_sh (pr_var 3) (ms_nil))))))) (sq_one (st_never)) (sq_nil)))))
abbrev N_states_met : List Str := ["codes", "found", "known", "at", "block", "later"]
theorem sc_states_met : FnScope N_states_met ["codes"] (defScope (top 36)) := ⟨rfl, rfl, rfl, by decide +kernel, rfl, by decide +kernel, by decide +kernel⟩
theorem ok_states_met (m : M K mg) : FnOk P w K mg base (L2.CX P w) 1 (He.ga K "states_met") m.fd_states_met ["codes"] (spF K [false] false (F_states_met K)) := by
  have h := fn_ok (P := P) (w := w) (mg := mg) (base := base) (k := 0) (ms := [false]) (own := false) (b := B_states_met K) m.F_states_met sc_states_met rfl
  refine h fun cdv A outer s H E hr => ?_
  have nd := sc_states_met.nd
  have hu64 := hr.units
  have hu : (A.deeper (PyProof.Rows.envOfC _ _ s.heap.objs.size _ cdv)).units + 1 < cLine := Nat.lt_of_le_of_lt (Nat.add_le_add_left (by decide) _) hu64
  exact sq_cons (st_par3 (i := 1) (j := 2) (l := 3) rfl nd rfl rfl rfl (by decide) (by decide) (by decide) rfl rfl rfl (pp_cons (pr_lst (as_cons (PR.v (pr_int)) (as_nil))) (pp_cons (pr_dic1 pe_int pe_bl (fun _ => rep_int) (fun _ => rep_bl)) (pp_cons (pr_int) (pp_nil)))) rfl)
    (sq_cons (st_while 2001 ownD (pb_cmp op_lt d_Ib (pr_var 3) (pr_callB call_lenK d_lenK rfl m.f_len (by decide +kernel) (hs_cons (pr_var 1) (hs_nil))) (nomark _)) (sq_cons (st_for ownD rfl (it_list (pr_ix (ix_B hu) d_ix (pr_var 0) (pr_ix (ix_B hu) d_ix (pr_var 1) (pr_var 3) (fun _ _ => rfl)) (fun _ _ => rfl))) (tg_tup rfl (tgs_cons (tg_name (i := 4) nd rfl (by first | exact Or.inl rfl | exact Or.inr rfl)) (tgs_cons (tg_name (i := 5) nd rfl (by first | exact Or.inl rfl | exact Or.inr rfl)) (tgs_nil)))) (sq_one (st_if (pb_cmp (op_notInB hu) d_notInB (pr_var 5) (pr_var 2) (by rfl)) (sq_cons (st_putD (i := 2) hu rfl (by first | exact Or.inl rfl | exact Or.inr (Or.inl rfl) | exact Or.inr (Or.inr rfl)) (pr_bl) (pr_var 5))
    (sq_one (st_expr (pr_append (i := 1) rfl (by first | exact Or.inl rfl | exact Or.inr (Or.inl rfl) | exact Or.inr (Or.inr rfl)) (pr_var 5))))) (sq_nil))))
    (sq_one (st_aug (i := 3) nd rfl (by first | exact Or.inl rfl | exact Or.inr rfl) (pr_int) ip_add))))
    (sq_one (st_ret (pr_var 1))))
abbrev N_Coder___init__ : List Str := ["self", "rate", "codes", "lead", "met", "numbers", "number", "state", "block", "later"]
theorem sc_Coder___init__ : FnScope N_Coder___init__ ["self", "rate", "codes", "lead"] (defScope (inClass (top 40) 1)) := ⟨rfl, rfl, rfl, by decide +kernel, rfl, by decide +kernel, by decide +kernel⟩
theorem ok_Coder___init__ (m : M K mg) : FnOk P w K mg base (L2.CX P w) 7 (He.ma K (He.ga K "Coder") "__init__") m.fd_Coder___init__ ["self", "rate", "codes", "lead"] (spF K [true, false, false, false] false (F_Coder___init__ K)) := by
  have h := fn_ok (P := P) (w := w) (mg := mg) (base := base) (k := 6) (ms := [true, false, false, false]) (own := false) (b := B_Coder___init__ K) m.F_Coder___init__ sc_Coder___init__ rfl
  refine h fun cdv A outer s H E hr => ?_
  have nd := sc_Coder___init__.nd
  have hu64 := hr.units
  have hu : (A.deeper (PyProof.Rows.envOfC _ _ s.heap.objs.size _ cdv)).units + 1 < cLine := Nat.lt_of_le_of_lt (Nat.add_le_add_left (by decide) _) hu64
  exact sq_cons (st_expr (pr_call (ok_want_rate m) (hr.mono (by decide)) rfl m.g_want_rate m.F_want_rate.kp (m.F_want_rate.bindsN fun _ _ _ _ _ _ us hl => match us, hl with | [_], _ => rfl) passD (ms_sh (pr_var 1) (ms_nil))))
    (sq_cons (st_expr (pr_call (ok_want_codes m) (hr.mono (by decide)) rfl m.g_want_codes m.F_want_codes.kp (m.F_want_codes.bindsN fun _ _ _ _ _ _ us hl => match us, hl with | [_, _], _ => rfl) passD (ms_sh (pr_var 1) (ms_sh (pr_var 2) (ms_nil)))))
    (sq_cons (st_if (pb_w (pb_or (pb_not (pb_val (pr_call (ok_is_row m) (hr.mono (by decide)) rfl m.g_is_row m.F_is_row.kp (m.F_is_row.bindsN fun _ _ _ _ _ _ us hl => match us, hl with | [_], _ => rfl) passD (ms_sh (pr_var 3) (ms_nil))))) (pb_or1 (pb_cmp op_gt d_Ib (pr_callB call_lenK d_lenK rfl m.f_len (by decide +kernel) (hs_cons (pr_var 3) (hs_nil))) (pr_gint rfl m.i_MOST_SIGNS) (nomark _))))) (sq_one (st_never)) (sq_nil))
    (sq_cons (st_if (pb_cmp op_gt d_Ib (pr_bin op_mulB d_mul (pr_callB call_lenK d_lenK rfl m.f_len (by decide +kernel) (hs_cons (pr_var 2) (hs_nil))) (pr_prop (pr_var 1) m.c_Rate m.pr_Rate_size (ok_Rate_size m) (hr.mono (by decide)) (m.F_Rate_size.bindsN fun _ _ _ _ _ _ us hl => match us, hl with | [_], _ => rfl) pass00)) (pr_cval m.cr_Coder m.cv_Coder_MOST_ENTRIES.choose_spec (fun _ => rep_int) rfl m.g_Coder) (nomark _)) (sq_one (st_never)) (sq_nil))
    (sq_cons (st_asg (i := 4) nd rfl (by first | exact Or.inl rfl | exact Or.inr rfl) (pr_call (ok_states_met m) (hr.mono (by decide)) rfl m.g_states_met m.F_states_met.kp (m.F_states_met.bindsN fun _ _ _ _ _ _ us hl => match us, hl with | [_], _ => rfl) passD (ms_sh (pr_var 2) (ms_nil))))
    (sq_cons (st_asg (i := 5) nd rfl (by first | exact Or.inl rfl | exact Or.inr rfl) (pr_dc (hs0 := rfl) nd (it_enum rfl m.f_enumerate (as_cons (PR.v (pr_var 4)) (as_nil))) (blkOk_by (N := N_Coder___init__) (sc := defScope (inClass (top 40) 1)) (own := [("number", 6), ("state", 7)]) (by decide +kernel)) (by decide) (fun _ _ _ _ _ => tg_tup rfl (tgs_cons (tg_name (i := 6) nd rfl (by first | exact Or.inl rfl | exact Or.inr rfl)) (tgs_cons (tg_name (i := 7) nd rfl (by first | exact Or.inl rfl | exact Or.inr rfl)) (tgs_nil)))) (fun _ _ _ _ _ => pr_var 7) (fun _ _ _ _ _ => pr_var 6)))
    (sq_cons (st_fld (i := 0) m.c_Coder m.na_Coder_own_rate rfl (by first | exact Or.inl rfl | exact Or.inr (Or.inl rfl) | exact Or.inr (Or.inr rfl)) (pr_var 1))
    (sq_cons (st_fld (i := 0) m.c_Coder m.na_Coder_own_lead rfl (by first | exact Or.inl rfl | exact Or.inr (Or.inl rfl) | exact Or.inr (Or.inr rfl)) (pr_var 3))
    (sq_one (st_fld (i := 0) m.c_Coder m.na_Coder_own_codes rfl (by first | exact Or.inl rfl | exact Or.inr (Or.inl rfl) | exact Or.inr (Or.inr rfl)) (pr_lc0 (hs0 := rfl) nd (it_list (pr_var 4)) (blkOk_by (N := N_Coder___init__) (sc := defScope (inClass (top 40) 1)) (own := [("state", 7)]) (by decide +kernel)) (by decide) (fun _ _ _ _ _ => tg_name (i := 7) nd rfl (by first | exact Or.inl rfl | exact Or.inr rfl)) (fun _ _ _ _ _ => pr_lc0 (hs0 := rfl) nd (it_list (pr_ix (ix_B hu) d_ix (pr_var 2) (pr_var 7) (fun _ _ => rfl))) (blkOk_by (own := [("block", 8), ("later", 9)]) (by kernel_rfl)) (by decide) (fun _ _ _ _ _ => tg_tup rfl (tgs_cons (tg_name (i := 8) nd rfl (by first | exact Or.inl rfl | exact Or.inr rfl)) (tgs_cons (tg_name (i := 9) nd rfl (by first | exact Or.inl rfl | exact Or.inr rfl)) (tgs_nil)))) (fun _ _ _ _ _ => pr_tup (as_cons (PR.v (pr_var 8)) (as_cons (PR.v (pr_ix (ix_B hu) d_ix (pr_var 5) (pr_var 9) (fun _ _ => rfl))) (as_nil)))))))))))))))
theorem BD_Coder___init__ (m : M K mg) : Binds K m.fd_Coder___init__ ["self", "rate", "codes", "lead"] [] := by
  obtain ⟨ds, h1, h2⟩ := m.F_Coder___init__.binds1 4 1 (ps := ["self", "rate", "codes", "lead"]) (by simp) rfl fun _ _ _ _ _ _ _ us its hl hi => match us, its, hl, hi with | [_, _, _, _], [_], _, _ => ⟨_, rfl, rfl⟩
  cases h1
  exact h2
abbrev N_Rate___init__ : List Str := ["self", "p", "q", "value"]
theorem sc_Rate___init__ : FnScope N_Rate___init__ ["self", "p", "q"] (defScope (inClass (top 24) 0)) := ⟨rfl, rfl, rfl, by decide +kernel, rfl, by decide +kernel, by decide +kernel⟩
theorem ok_Rate___init__ (m : M K mg) : FnOk P w K mg base (L2.CX P w) 2 (He.ma K (He.ga K "Rate") "__init__") m.fd_Rate___init__ ["self", "p", "q"] (spF K [true, false, false] false (F_Rate___init__ K)) := by
  have h := fn_ok (P := P) (w := w) (mg := mg) (base := base) (k := 1) (ms := [true, false, false]) (own := false) (b := B_Rate___init__ K) m.F_Rate___init__ sc_Rate___init__ rfl
  refine h fun cdv A outer s H E hr => ?_
  have nd := sc_Rate___init__.nd
  have hu64 := hr.units
  have hu : (A.deeper (PyProof.Rows.envOfC _ _ s.heap.objs.size _ cdv)).units + 1 < cLine := Nat.lt_of_le_of_lt (Nat.add_le_add_left (by decide) _) hu64
  exact sq_cons (st_for ownD rfl (it_tup (pr_tup (as_cons (PR.v (pr_var 1)) (as_cons (PR.v (pr_var 2)) (as_nil))))) (tg_name (i := 3) nd rfl (by first | exact Or.inl rfl | exact Or.inr rfl)) (sq_one (st_if (pb_w (pb_or (pb_not (pb_val (pr_call (ok_is_integer m) (hr.mono (by decide)) rfl m.g_is_integer m.F_is_integer.kp (m.F_is_integer.bindsN fun _ _ _ _ _ _ us hl => match us, hl with | [_], _ => rfl) passD (ms_sh (pr_var 3) (ms_nil))))) (pb_or1 (pb_not (pb_chain op_le op_le (pr_int) (pr_var 3) (pr_gint rfl m.i_MOST_PART)))))) (sq_one (st_never)) (sq_nil))))
    (sq_cons (st_fld (i := 0) m.c_Rate m.na_Rate_rate_bits rfl (by first | exact Or.inl rfl | exact Or.inr (Or.inl rfl) | exact Or.inr (Or.inr rfl)) (pr_var 1))
    (sq_one (st_fld (i := 0) m.c_Rate m.na_Rate_rate_signs rfl (by first | exact Or.inl rfl | exact Or.inr (Or.inl rfl) | exact Or.inr (Or.inr rfl)) (pr_var 2))))
abbrev N_want_coder : List Str := ["value"]
theorem sc_want_coder : FnScope N_want_coder ["value"] (defScope (top 29)) := ⟨rfl, rfl, rfl, by decide +kernel, rfl, by decide +kernel, by decide +kernel⟩
theorem ok_want_coder (m : M K mg) : FnOk P w K mg base (L2.CX P w) 1 (He.ga K "want_coder") m.fd_want_coder ["value"] (spF K [false] false (F_want_coder K)) := by
  have h := fn_ok (P := P) (w := w) (mg := mg) (base := base) (k := 0) (ms := [false]) (own := false) (b := B_want_coder K) m.F_want_coder sc_want_coder rfl
  refine h fun cdv A outer s H E hr => ?_
  have nd := sc_want_coder.nd
  have hu64 := hr.units
  have hu : (A.deeper (PyProof.Rows.envOfC _ _ s.heap.objs.size _ cdv)).units + 1 < cLine := Nat.lt_of_le_of_lt (Nat.add_le_add_left (by decide) _) hu64
  exact sq_one (st_if (pb_not (pb_val (pr_callB call_isiB (d_isi (isi_own m.ci_Coder m.k_Coder_Coder)) rfl m.f_isinstance (by decide +kernel) (hs_cons (pr_var 0) (hs_cons (pr_gobj rfl m.g_Coder) (hs_nil)))))) (sq_one (st_never)) (sq_nil))
abbrev N_want_row : List Str := ["value"]
theorem sc_want_row : FnScope N_want_row ["value"] (defScope (top 20)) := ⟨rfl, rfl, rfl, by decide +kernel, rfl, by decide +kernel, by decide +kernel⟩
theorem ok_want_row (m : M K mg) : FnOk P w K mg base (L2.CX P w) 2 (He.ga K "want_row") m.fd_want_row ["value"] (spF K [false] false (F_want_row K)) := by
  have h := fn_ok (P := P) (w := w) (mg := mg) (base := base) (k := 1) (ms := [false]) (own := false) (b := B_want_row K) m.F_want_row sc_want_row rfl
  refine h fun cdv A outer s H E hr => ?_
  have nd := sc_want_row.nd
  have hu64 := hr.units
  have hu : (A.deeper (PyProof.Rows.envOfC _ _ s.heap.objs.size _ cdv)).units + 1 < cLine := Nat.lt_of_le_of_lt (Nat.add_le_add_left (by decide) _) hu64
  exact sq_one (st_if (pb_w (pb_or (pb_not (pb_val (pr_call (ok_is_row m) (hr.mono (by decide)) rfl m.g_is_row m.F_is_row.kp (m.F_is_row.bindsN fun _ _ _ _ _ _ us hl => match us, hl with | [_], _ => rfl) passD (ms_sh (pr_var 0) (ms_nil))))) (pb_or1 (pb_cmp op_gt d_Ib (pr_callB call_lenK d_lenK rfl m.f_len (by decide +kernel) (hs_cons (pr_var 0) (hs_nil))) (pr_gint rfl m.i_MOST_LENGTH) (nomark _))))) (sq_one (st_never)) (sq_nil))
abbrev N_Coder_rate : List Str := ["self"]
theorem sc_Coder_rate : FnScope N_Coder_rate ["self"] (defScope (inClass (top 40) 2)) := ⟨rfl, rfl, rfl, by decide +kernel, rfl, by decide +kernel, by decide +kernel⟩
theorem ok_Coder_rate (m : M K mg) : FnOk P w K mg base (L2.CX P w) 1 (He5.wf K (He.ga K "Coder") "property" "rate") m.fd_Coder_rate ["self"] (spF K [false] false (F_Coder_rate K)) := by
  have h := fn_ok (P := P) (w := w) (mg := mg) (base := base) (k := 0) (ms := [false]) (own := false) (b := B_Coder_rate K) m.F_Coder_rate sc_Coder_rate rfl
  refine h fun cdv A outer s H E hr => ?_
  have nd := sc_Coder_rate.nd
  have hu64 := hr.units
  have hu : (A.deeper (PyProof.Rows.envOfC _ _ s.heap.objs.size _ cdv)).units + 1 < cLine := Nat.lt_of_le_of_lt (Nat.add_le_add_left (by decide) _) hu64
  exact sq_one (st_ret (pr_fld m.c_Coder m.na_Coder_own_rate (pr_var 0)))
abbrev N_Coder_lead : List Str := ["self"]
theorem sc_Coder_lead : FnScope N_Coder_lead ["self"] (defScope (inClass (top 40) 3)) := ⟨rfl, rfl, rfl, by decide +kernel, rfl, by decide +kernel, by decide +kernel⟩
theorem ok_Coder_lead (m : M K mg) : FnOk P w K mg base (L2.CX P w) 1 (He5.wf K (He.ga K "Coder") "property" "lead") m.fd_Coder_lead ["self"] (spF K [false] false (F_Coder_lead K)) := by
  have h := fn_ok (P := P) (w := w) (mg := mg) (base := base) (k := 0) (ms := [false]) (own := false) (b := B_Coder_lead K) m.F_Coder_lead sc_Coder_lead rfl
  refine h fun cdv A outer s H E hr => ?_
  have nd := sc_Coder_lead.nd
  have hu64 := hr.units
  have hu : (A.deeper (PyProof.Rows.envOfC _ _ s.heap.objs.size _ cdv)).units + 1 < cLine := Nat.lt_of_le_of_lt (Nat.add_le_add_left (by decide) _) hu64
  exact sq_one (st_ret (pr_fld m.c_Coder m.na_Coder_own_lead (pr_var 0)))
abbrev N_Coder_codes : List Str := ["self", "entries"]
theorem sc_Coder_codes : FnScope N_Coder_codes ["self"] (defScope (inClass (top 40) 5)) := ⟨rfl, rfl, rfl, by decide +kernel, rfl, by decide +kernel, by decide +kernel⟩
theorem ok_Coder_codes (m : M K mg) : FnOk P w K mg base (L2.CX P w) 1 (He.ma K (He.ga K "Coder") "codes") m.fd_Coder_codes ["self"] (spF K [false] false (F_Coder_codes K)) := by
  have h := fn_ok (P := P) (w := w) (mg := mg) (base := base) (k := 0) (ms := [false]) (own := false) (b := B_Coder_codes K) m.F_Coder_codes sc_Coder_codes rfl
  refine h fun cdv A outer s H E hr => ?_
  have nd := sc_Coder_codes.nd
  have hu64 := hr.units
  have hu : (A.deeper (PyProof.Rows.envOfC _ _ s.heap.objs.size _ cdv)).units + 1 < cLine := Nat.lt_of_le_of_lt (Nat.add_le_add_left (by decide) _) hu64
  exact sq_one (st_ret (pr_lc0 (hs0 := rfl) nd (it_list (pr_fld m.c_Coder m.na_Coder_own_codes (pr_var 0))) (blkOk_by (N := N_Coder_codes) (sc := defScope (inClass (top 40) 5)) (own := [("entries", 1)]) (by decide +kernel)) (by decide) (fun _ _ _ _ _ => tg_name (i := 1) nd rfl (by first | exact Or.inl rfl | exact Or.inr rfl)) (fun _ _ _ _ _ => pr_callTy call_list_of d_list rfl m.f_list (by decide +kernel) (hs_cons (pr_var 1) (hs_nil)))))
abbrev N_still_open : List Str := ["coder", "row", "begin", "size", "codes", "counts", "at", "block", "later_counts", "state", "many", "written", "later"]
theorem sc_still_open : FnScope N_still_open ["coder", "row"] (defScope (top 42)) := ⟨rfl, rfl, rfl, by decide +kernel, rfl, by decide +kernel, by decide +kernel⟩
theorem ok_still_open (m : M K mg) : FnOk P w K mg base (L2.CX P w) 3 (He.ga K "still_open") m.fd_still_open ["coder", "row"] (spF K [false, false] false (F_still_open K)) := by
  have h := fn_ok (P := P) (w := w) (mg := mg) (base := base) (k := 2) (ms := [false, false]) (own := false) (b := B_still_open K) m.F_still_open sc_still_open rfl
  refine h fun cdv A outer s H E hr => ?_
  have nd := sc_still_open.nd
  have hu64 := hr.units
  have hu : (A.deeper (PyProof.Rows.envOfC _ _ s.heap.objs.size _ cdv)).units + 1 < cLine := Nat.lt_of_le_of_lt (Nat.add_le_add_left (by decide) _) hu64
  exact sq_cons (st_expr (pr_call (ok_want_coder m) (hr.mono (by decide)) rfl m.g_want_coder m.F_want_coder.kp (m.F_want_coder.bindsN fun _ _ _ _ _ _ us hl => match us, hl with | [_], _ => rfl) passD (ms_sh (pr_var 0) (ms_nil))))
    (sq_cons (st_expr (pr_call (ok_want_row m) (hr.mono (by decide)) rfl m.g_want_row m.F_want_row.kp (m.F_want_row.bindsN fun _ _ _ _ _ _ us hl => match us, hl with | [_], _ => rfl) passD (ms_sh (pr_var 1) (ms_nil))))
    (sq_cons (st_par (i := 2) (j := 3) rfl nd rfl rfl (by decide) rfl rfl (pp_cons (pr_callB call_lenK d_lenK rfl m.f_len (by decide +kernel) (hs_cons (pr_prop (pr_var 0) m.c_Coder m.pr_Coder_lead (ok_Coder_lead m) (hr.mono (by decide)) (m.F_Coder_lead.bindsN fun _ _ _ _ _ _ us hl => match us, hl with | [_], _ => rfl) pass00) (hs_nil))) (pp_cons (pr_prop (pr_prop (pr_var 0) m.c_Coder m.pr_Coder_rate (ok_Coder_rate m) (hr.mono (by decide)) (m.F_Coder_rate.bindsN fun _ _ _ _ _ _ us hl => match us, hl with | [_], _ => rfl) pass00) m.c_Rate m.pr_Rate_q (ok_Rate_q m) (hr.mono (by decide)) (m.F_Rate_q.bindsN fun _ _ _ _ _ _ us hl => match us, hl with | [_], _ => rfl) pass00) (pp_nil))) rfl)
    (sq_cons (st_if (pb_w (pb_or (pb_not (pb_val (pr_starts (pr_var 1) (pr_prop (pr_var 0) m.c_Coder m.pr_Coder_lead (ok_Coder_lead m) (hr.mono (by decide)) (m.F_Coder_lead.bindsN fun _ _ _ _ _ _ us hl => match us, hl with | [_], _ => rfl) pass00)))) (pb_or1 (pb_cmp (op_neB hu64) d_ne (pr_bin op_mod d_Ic (pr_bin op_sub d_Ii (pr_callB call_lenK d_lenK rfl m.f_len (by decide +kernel) (hs_cons (pr_var 1) (hs_nil))) (pr_var 2)) (pr_var 3)) (pr_int) (nomark _))))) (sq_one (st_ret (pr_int))) (sq_nil))
    (sq_cons (st_par (i := 4) (j := 5) rfl nd rfl rfl (by decide) rfl rfl (pp_cons (pr_meth0 (ms := []) (pr_var 0) m.c_Coder m.me_Coder_codes (ok_Coder_codes m) (hr.mono (by decide)) (m.F_Coder_codes.bindsN fun _ _ _ _ _ _ us hl => match us, hl with | [_], _ => rfl) .nil (fun _ => .nil) passD) (pp_cons (pr_dic1 pe_int pe_int (fun _ => rep_int) (fun _ => rep_int)) (pp_nil))) rfl)
    (sq_cons (st_for ownD rfl (it_range3 rfl m.f_range (as_cons (PR.v (pr_var 2)) (as_cons (PR.v (pr_callB call_lenK d_lenK rfl m.f_len (by decide +kernel) (hs_cons (pr_var 1) (hs_nil)))) (as_cons (PR.v (pr_var 3)) (as_nil))))) (tg_name (i := 6) nd rfl (by first | exact Or.inl rfl | exact Or.inr rfl)) (sq_cons (st_par (i := 7) (j := 8) rfl nd rfl rfl (by decide) rfl rfl (pp_cons (pr_slice (pr_var 1) (op_some (pr_var 6)) (op_some (pr_bin op_addB d_add (pr_var 6) (pr_var 3)))) (pp_cons (pr_dic0) (pp_nil))) rfl)
    (sq_cons (st_forI (i := 5) ownD rfl rfl (by first | exact Or.inl rfl | exact Or.inr (Or.inl rfl) | exact Or.inr (Or.inr rfl)) (tg_tup rfl (tgs_cons (tg_name (i := 9) nd rfl (by first | exact Or.inl rfl | exact Or.inr rfl)) (tgs_cons (tg_name (i := 10) nd rfl (by first | exact Or.inl rfl | exact Or.inr rfl)) (tgs_nil)))) (sq_one (st_for ownD rfl (it_list (pr_ix (ix_B hu) d_ix (pr_var 4) (pr_var 9) (fun _ _ => rfl))) (tg_tup rfl (tgs_cons (tg_name (i := 11) nd rfl (by first | exact Or.inl rfl | exact Or.inr rfl)) (tgs_cons (tg_name (i := 12) nd rfl (by first | exact Or.inl rfl | exact Or.inr rfl)) (tgs_nil)))) (sq_one (st_if (pb_cmp (op_eqB hu64) d_eq (pr_var 11) (pr_var 7) (nomark _)) (sq_one (st_putD (i := 8) hu rfl (by first | exact Or.inl rfl | exact Or.inr (Or.inl rfl) | exact Or.inr (Or.inr rfl)) (pr_bin op_addB d_add (pr_dget2 hu (pr_var 8) (pr_var 12) (pr_int) ⟨rfl, rfl, rfl, rfl⟩) (pr_var 10)) (pr_var 12))) (sq_nil))))))
    (sq_one (st_asg (i := 5) nd rfl (by first | exact Or.inl rfl | exact Or.inr rfl) (pr_var 8))))))
    (sq_one (st_ret (pr_sumVals rfl rfl m.f_sum (pr_var 5)))))))))
theorem KB_still_open (m : M K mg) : KBn K m.fd_still_open ["coder", "row"] 0 ["row", "coder"] (fun _ ws => sw2 ws) (fun _ zs => sw2 zs) := by
  refine ⟨fun s us ws _ h1 h2 => ?_, fun _ h => vals_sw2 h⟩
  obtain ⟨oc, od, dV, kV, doc, pm, an, cdv, ct, osl, e, lk, hcd, hD, hK⟩ := m.F_still_open.ex
  rcases hD with ⟨_, e2⟩ | ⟨e2, _⟩
  · rw [e, e2]
    match us, ws, h1, h2 with
    | [], [_, _], _, _ => exact BindsTo.of_eq rfl
  · exact absurd rfl e2
abbrev N__law_draw : List Str := ["_law_pot_here", "_law_size", "_law_digit"]
theorem sc__law_draw : FnScope N__law_draw ["_law_pot_here", "_law_size"] (defScope (top 45)) := ⟨rfl, rfl, rfl, by decide +kernel, rfl, by decide +kernel, by decide +kernel⟩
theorem ok__law_draw (m : M K mg) : FnOk P w K mg base (L2.CX P w) 1 (He.ga K "_law_draw") m.fd__law_draw ["_law_pot_here", "_law_size"] (spF K [true, false] false (F__law_draw K)) := by
  have h := fn_ok (P := P) (w := w) (mg := mg) (base := base) (k := 0) (ms := [true, false]) (own := false) (b := B__law_draw K) m.F__law_draw sc__law_draw rfl
  refine h fun cdv A outer s H E hr => ?_
  have nd := sc__law_draw.nd
  have hu64 := hr.units
  have hu : (A.deeper (PyProof.Rows.envOfC _ _ s.heap.objs.size _ cdv)).units + 1 < cLine := Nat.lt_of_le_of_lt (Nat.add_le_add_left (by decide) _) hu64
  exact sq_cons (st_if (pb_cmp op_gt d_Ib (pr_ix (ix_B hu) d_ix (pr_var 0) (pr_int) (fun _ _ => rfl)) (pr_int) (nomark _)) (sq_cons (st_draw (i := 0) (j := 2) rfl (by first | exact Or.inl rfl | exact Or.inr (Or.inl rfl) | exact Or.inr (Or.inr rfl)) nd rfl (by first | exact Or.inl rfl | exact Or.inr rfl) rfl (pr_divmod rfl m.f_divmod (hs_cons (pr_ix (ix_B hu) d_ix (pr_var 0) (pr_int) (fun _ _ => rfl)) (hs_cons (pr_var 1) (hs_nil)))))
    (sq_one (st_ret (pr_var 2)))) (sq_nil))
    (sq_cons (st_setL (i := 0) rfl (by first | exact Or.inl rfl | exact Or.inr (Or.inl rfl) | exact Or.inr (Or.inr rfl)) (pr_bin op_mod d_Ic (pr_callTy call_int1 d_int rfl m.f_int (by decide +kernel) (hs_cons (pr_bin op_addB d_add (pr_bin op_mulB d_mul (pr_ix (ix_B hu) d_ix (pr_var 0) (pr_int) (fun _ _ => rfl)) (pr_int)) (pr_int)) (hs_nil))) (pr_int)) (pr_int))
    (sq_one (st_ret (pr_bin op_mod d_Ic (pr_callTy call_int1 d_int rfl m.f_int (by decide +kernel) (hs_cons (pr_bin op_fdiv d_Ic (pr_bin op_mod d_Ic (pr_callTy call_int1 d_int rfl m.f_int (by decide +kernel) (hs_cons (pr_bin op_mulB d_mul (pr_ix (ix_B hu) d_ix (pr_var 0) (pr_int) (fun _ _ => rfl)) (pr_ix (ix_B hu) d_ix (pr_var 0) (pr_int) (fun _ _ => rfl))) (hs_nil))) (pr_int)) (pr_int)) (hs_nil))) (pr_var 1)))))
abbrev N__law_pick : List Str := ["_law_pot_here", "_law_some"]
theorem sc__law_pick : FnScope N__law_pick ["_law_pot_here", "_law_some"] (defScope (top 46)) := ⟨rfl, rfl, rfl, by decide +kernel, rfl, by decide +kernel, by decide +kernel⟩
theorem ok__law_pick (m : M K mg) : FnOk P w K mg base (L2.CX P w) 2 (He.ga K "_law_pick") m.fd__law_pick ["_law_pot_here", "_law_some"] (spF K [true, false] false (F__law_pick K)) := by
  have h := fn_ok (P := P) (w := w) (mg := mg) (base := base) (k := 1) (ms := [true, false]) (own := false) (b := B__law_pick K) m.F__law_pick sc__law_pick rfl
  refine h fun cdv A outer s H E hr => ?_
  have nd := sc__law_pick.nd
  have hu64 := hr.units
  have hu : (A.deeper (PyProof.Rows.envOfC _ _ s.heap.objs.size _ cdv)).units + 1 < cLine := Nat.lt_of_le_of_lt (Nat.add_le_add_left (by decide) _) hu64
  exact sq_one (st_ret (pr_ix (ix_B hu) d_ix (pr_var 1) (pr_call (ok__law_draw m) (hr.mono (by decide)) rfl m.g__law_draw m.F__law_draw.kp (m.F__law_draw.bindsN fun _ _ _ _ _ _ us hl => match us, hl with | [_, _], _ => rfl) passD (ms_io (pr_var 0) (ms_sh (pr_callB call_lenK d_lenK rfl m.f_len (by decide +kernel) (hs_cons (pr_var 1) (hs_nil))) (ms_nil)))) (fun _ _ => rfl)))
abbrev N__law_pick_io11 : List Str := ["_law_pot_here", "_law_some"]
theorem sc__law_pick_io11 : FnScope N__law_pick_io11 ["_law_pot_here", "_law_some"] (defScope (top 46)) := ⟨rfl, rfl, rfl, by decide +kernel, rfl, by decide +kernel, by decide +kernel⟩
theorem ok__law_pick_io11 (m : M K mg) : FnOk P w K mg base (L2.CX P w) 2 (He.ga K "_law_pick") m.fd__law_pick ["_law_pot_here", "_law_some"] (spF K [true, true] false (F__law_pick_io11 K)) := by
  have h := fn_ok (P := P) (w := w) (mg := mg) (base := base) (k := 1) (ms := [true, true]) (own := false) (b := B__law_pick_io11 K) m.F__law_pick sc__law_pick_io11 rfl
  refine h fun cdv A outer s H E hr => ?_
  have nd := sc__law_pick_io11.nd
  have hu64 := hr.units
  have hu : (A.deeper (PyProof.Rows.envOfC _ _ s.heap.objs.size _ cdv)).units + 1 < cLine := Nat.lt_of_le_of_lt (Nat.add_le_add_left (by decide) _) hu64
  exact sq_one (st_ret (pr_ix (ix_B hu) d_ix (pr_var 1) (pr_call (ok__law_draw m) (hr.mono (by decide)) rfl m.g__law_draw m.F__law_draw.kp (m.F__law_draw.bindsN fun _ _ _ _ _ _ us hl => match us, hl with | [_, _], _ => rfl) passD (ms_io (pr_var 0) (ms_sh (pr_callB call_lenK d_lenK rfl m.f_len (by decide +kernel) (hs_cons (pr_var 1) (hs_nil))) (ms_nil)))) (fun _ _ => rfl)))
abbrev N__law_codes : List Str := ["_law_pot_here", "_law_size", "_law_length", "_law_states", "_law_letters", "_law_found", "_law_at", "_law_here", "_law_word", "_law_block", "_law_turn"]
theorem sc__law_codes : FnScope N__law_codes ["_law_pot_here", "_law_size", "_law_length", "_law_states", "_law_letters"] (defScope (top 47)) := ⟨rfl, rfl, rfl, by decide +kernel, rfl, by decide +kernel, by decide +kernel⟩
theorem ok__law_codes (m : M K mg) : FnOk P w K mg base (L2.CX P w) 3 (He.ga K "_law_codes") m.fd__law_codes ["_law_pot_here", "_law_size", "_law_length", "_law_states", "_law_letters"] (spF K [true, false, false, false, false] false (F__law_codes K)) := by
  have h := fn_ok (P := P) (w := w) (mg := mg) (base := base) (k := 2) (ms := [true, false, false, false, false]) (own := false) (b := B__law_codes K) m.F__law_codes sc__law_codes rfl
  refine h fun cdv A outer s H E hr => ?_
  have nd := sc__law_codes.nd
  have hu64 := hr.units
  have hu : (A.deeper (PyProof.Rows.envOfC _ _ s.heap.objs.size _ cdv)).units + 1 < cLine := Nat.lt_of_le_of_lt (Nat.add_le_add_left (by decide) _) hu64
  exact sq_cons (st_asg (i := 5) nd rfl (by first | exact Or.inl rfl | exact Or.inr rfl) (pr_lst (as_nil)))
    (sq_cons (st_for ownD rfl (it_range1 rfl m.f_range (as_cons (PR.v (pr_var 3)) (as_nil))) (tg_name (i := 6) nd rfl (by first | exact Or.inl rfl | exact Or.inr rfl)) (sq_cons (st_asg (i := 7) nd rfl (by first | exact Or.inl rfl | exact Or.inr rfl) (pr_lst (as_nil)))
    (sq_cons (st_for ownD rfl (it_range1 rfl m.f_range (as_cons (PR.v (pr_var 1)) (as_nil))) (tg_name (i := 8) nd rfl (by first | exact Or.inl rfl | exact Or.inr rfl)) (sq_cons (st_asg (i := 9) nd rfl (by first | exact Or.inl rfl | exact Or.inr rfl) (pr_join (pr_str) (pr_lc0 (hs0 := rfl) nd (it_range1 rfl m.f_range (as_cons (PR.v (pr_var 2)) (as_nil))) (blkOk_by (N := N__law_codes) (sc := defScope (top 47)) (own := [("_law_turn", 10)]) (by decide +kernel)) (by decide) (fun _ _ _ _ _ => tg_name (i := 10) nd rfl (by first | exact Or.inl rfl | exact Or.inr rfl)) (fun _ _ _ _ _ => pr_call (ok__law_pick m) (hr.mono (by decide)) rfl m.g__law_pick m.F__law_pick.kp (m.F__law_pick.bindsN fun _ _ _ _ _ _ us hl => match us, hl with | [_, _], _ => rfl) pass00 (ms_io (pr_var 0) (ms_sh (pr_var 4) (ms_nil)))))))
    (sq_cons (st_if (pb_w (pb_and (pb_cmp (op_neB hu64) d_ne (pr_var 7) (pr_lst (as_nil)) (nomark _)) (pb_and1 (pb_cmp (op_eqB hu64) d_eq (pr_call (ok__law_draw m) (hr.mono (by decide)) rfl m.g__law_draw m.F__law_draw.kp (m.F__law_draw.bindsN fun _ _ _ _ _ _ us hl => match us, hl with | [_, _], _ => rfl) passD (ms_io (pr_var 0) (ms_sh (pr_int) (ms_nil)))) (pr_int) (nomark _))))) (sq_one (st_asg (i := 9) nd rfl (by first | exact Or.inl rfl | exact Or.inr rfl) (pr_ix (ix_B hu) d_ix (pr_call (ok__law_pick_io11 m) (hr.mono (by decide)) rfl m.g__law_pick m.F__law_pick.kp (m.F__law_pick.bindsN fun _ _ _ _ _ _ us hl => match us, hl with | [_, _], _ => rfl) passD (ms_io (pr_var 0) (ms_io (pr_var 7) (ms_nil)))) (pr_int) (fun _ _ => rfl)))) (sq_nil))
    (sq_one (st_expr (pr_append (i := 7) rfl (by first | exact Or.inl rfl | exact Or.inr (Or.inl rfl) | exact Or.inr (Or.inr rfl)) (pr_tup (as_cons (PR.v (pr_var 9)) (as_cons (PR.v (pr_call (ok__law_draw m) (hr.mono (by decide)) rfl m.g__law_draw m.F__law_draw.kp (m.F__law_draw.bindsN fun _ _ _ _ _ _ us hl => match us, hl with | [_, _], _ => rfl) passD (ms_io (pr_var 0) (ms_sh (pr_var 3) (ms_nil))))) (as_nil))))))))))
    (sq_one (st_expr (pr_append (i := 5) rfl (by first | exact Or.inl rfl | exact Or.inr (Or.inl rfl) | exact Or.inr (Or.inr rfl)) (pr_var 7)))))))
    (sq_one (st_ret (pr_var 5))))
abbrev N__law_kept : List Str := ["_law_codes_here", "_law_order", "_law_at", "_law_block", "_law_later", "_law_spot"]
theorem sc__law_kept : FnScope N__law_kept ["_law_codes_here"] (defScope (top 48)) := ⟨rfl, rfl, rfl, by decide +kernel, rfl, by decide +kernel, by decide +kernel⟩
theorem ok__law_kept (m : M K mg) : FnOk P w K mg base (L2.CX P w) 1 (He.ga K "_law_kept") m.fd__law_kept ["_law_codes_here"] (spF K [false] false (F__law_kept K)) := by
  have h := fn_ok (P := P) (w := w) (mg := mg) (base := base) (k := 0) (ms := [false]) (own := false) (b := B__law_kept K) m.F__law_kept sc__law_kept rfl
  refine h fun cdv A outer s H E hr => ?_
  have nd := sc__law_kept.nd
  have hu64 := hr.units
  have hu : (A.deeper (PyProof.Rows.envOfC _ _ s.heap.objs.size _ cdv)).units + 1 < cLine := Nat.lt_of_le_of_lt (Nat.add_le_add_left (by decide) _) hu64
  exact sq_cons (st_parC (i := 1) (j := 2) rfl nd rfl rfl (by first | exact Or.inl rfl | exact Or.inr rfl) (by first | exact Or.inl rfl | exact Or.inr rfl) (pp_cons (pr_lst (as_cons (PR.v (pr_int)) (as_nil))) (pp_cons (pr_int) (pp_nil))))
    (sq_cons (st_while 2001 ownD (pb_cmp op_lt d_Ib (pr_var 2) (pr_callB call_lenK d_lenK rfl m.f_len (by decide +kernel) (hs_cons (pr_var 1) (hs_nil))) (nomark _)) (sq_cons (st_for ownD rfl (it_list (pr_ix (ix_B hu) d_ix (pr_var 0) (pr_ix (ix_B hu) d_ix (pr_var 1) (pr_var 2) (fun _ _ => rfl)) (fun _ _ => rfl))) (tg_tup rfl (tgs_cons (tg_name (i := 3) nd rfl (by first | exact Or.inl rfl | exact Or.inr rfl)) (tgs_cons (tg_name (i := 4) nd rfl (by first | exact Or.inl rfl | exact Or.inr rfl)) (tgs_nil)))) (sq_one (st_if (pb_cmp (op_notInB hu) d_notInB (pr_var 4) (pr_var 1) (by rfl)) (sq_one (st_expr (pr_append (i := 1) rfl (by first | exact Or.inl rfl | exact Or.inr (Or.inl rfl) | exact Or.inr (Or.inr rfl)) (pr_var 4)))) (sq_nil))))
    (sq_one (st_asg (i := 2) nd rfl (by first | exact Or.inl rfl | exact Or.inr rfl) (pr_bin op_addB d_add (pr_var 2) (pr_int))))))
    (sq_one (st_ret (pr_lc0 (hs0 := rfl) nd (it_list (pr_var 1)) (blkOk_by (N := N__law_kept) (sc := defScope (top 48)) (own := [("_law_spot", 5)]) (by decide +kernel)) (by decide) (fun _ _ _ _ _ => tg_name (i := 5) nd rfl (by first | exact Or.inl rfl | exact Or.inr rfl)) (fun _ _ _ _ _ => pr_lc0 (hs0 := rfl) nd (it_list (pr_ix (ix_B hu) d_ix (pr_var 0) (pr_var 5) (fun _ _ => rfl))) (blkOk_by (own := [("_law_block", 3), ("_law_later", 4)]) (by kernel_rfl)) (by decide) (fun _ _ _ _ _ => tg_tup rfl (tgs_cons (tg_name (i := 3) nd rfl (by first | exact Or.inl rfl | exact Or.inr rfl)) (tgs_cons (tg_name (i := 4) nd rfl (by first | exact Or.inl rfl | exact Or.inr rfl)) (tgs_nil)))) (fun _ _ _ _ _ => pr_tup (as_cons (PR.v (pr_var 3)) (as_cons (PR.v (pr_index (pr_var 1) (pr_var 4))) (as_nil)))))))))
abbrev N__law_run : List Str := ["_law_codes_here", "_law_lead_word", "_law_text", "_law_found", "_law_spot", "_law_word", "_law_block"]
theorem sc__law_run : FnScope N__law_run ["_law_codes_here", "_law_lead_word", "_law_text"] (defScope (top 49)) := ⟨rfl, rfl, rfl, by decide +kernel, rfl, by decide +kernel, by decide +kernel⟩
theorem ok__law_run (m : M K mg) : FnOk P w K mg base (L2.CX P w) 1 (He.ga K "_law_run") m.fd__law_run ["_law_codes_here", "_law_lead_word", "_law_text"] (spF K [false, false, false] false (F__law_run K)) := by
  have h := fn_ok (P := P) (w := w) (mg := mg) (base := base) (k := 0) (ms := [false, false, false]) (own := false) (b := B__law_run K) m.F__law_run sc__law_run rfl
  refine h fun cdv A outer s H E hr => ?_
  have nd := sc__law_run.nd
  have hu64 := hr.units
  have hu : (A.deeper (PyProof.Rows.envOfC _ _ s.heap.objs.size _ cdv)).units + 1 < cLine := Nat.lt_of_le_of_lt (Nat.add_le_add_left (by decide) _) hu64
  exact sq_cons (st_par (i := 3) (j := 4) rfl nd rfl rfl (by decide) rfl rfl (pp_cons (pr_var 1) (pp_cons (pr_int) (pp_nil))) rfl)
    (sq_cons (st_for ownD rfl (it_list (pr_var 2)) (tg_name (i := 5) nd rfl (by first | exact Or.inl rfl | exact Or.inr rfl)) (sq_cons (st_asgT (tg_tup rfl (tgs_cons (tg_name (i := 6) nd rfl (by first | exact Or.inl rfl | exact Or.inr rfl)) (tgs_cons (tg_name (i := 4) nd rfl (by first | exact Or.inl rfl | exact Or.inr rfl)) (tgs_nil)))) (pr_ix (ix_B hu) d_ix (pr_ix (ix_B hu) d_ix (pr_var 0) (pr_var 4) (fun _ _ => rfl)) (pr_var 5) (fun _ _ => rfl)))
    (sq_one (st_asg (i := 3) nd rfl (by first | exact Or.inl rfl | exact Or.inr rfl) (pr_bin op_addB d_add (pr_var 3) (pr_var 6))))))
    (sq_one (st_ret (pr_tup (as_cons (PR.v (pr_var 3)) (as_cons (PR.v (pr_var 4)) (as_nil)))))))
abbrev N__law_texts : List Str := ["_law_size", "_law_length", "_law_found", "_law_turn", "_law_longer", "_law_text", "_law_word"]
theorem sc__law_texts : FnScope N__law_texts ["_law_size", "_law_length"] (defScope (top 50)) := ⟨rfl, rfl, rfl, by decide +kernel, rfl, by decide +kernel, by decide +kernel⟩
theorem ok__law_texts (m : M K mg) : FnOk P w K mg base (L2.CX P w) 1 (He.ga K "_law_texts") m.fd__law_texts ["_law_size", "_law_length"] (spF K [false, false] false (F__law_texts K)) := by
  have h := fn_ok (P := P) (w := w) (mg := mg) (base := base) (k := 0) (ms := [false, false]) (own := false) (b := B__law_texts K) m.F__law_texts sc__law_texts rfl
  refine h fun cdv A outer s H E hr => ?_
  have nd := sc__law_texts.nd
  have hu64 := hr.units
  have hu : (A.deeper (PyProof.Rows.envOfC _ _ s.heap.objs.size _ cdv)).units + 1 < cLine := Nat.lt_of_le_of_lt (Nat.add_le_add_left (by decide) _) hu64
  exact sq_cons (st_asg (i := 2) nd rfl (by first | exact Or.inl rfl | exact Or.inr rfl) (pr_lst (as_cons (PR.v (pr_lst (as_nil))) (as_nil))))
    (sq_cons (st_for ownD rfl (it_range1 rfl m.f_range (as_cons (PR.v (pr_var 1)) (as_nil))) (tg_name (i := 3) nd rfl (by first | exact Or.inl rfl | exact Or.inr rfl)) (sq_cons (st_asg (i := 4) nd rfl (by first | exact Or.inl rfl | exact Or.inr rfl) (pr_lst (as_nil)))
    (sq_cons (st_for ownD rfl (it_list (pr_var 2)) (tg_name (i := 5) nd rfl (by first | exact Or.inl rfl | exact Or.inr rfl)) (sq_one (st_expr (pr_extend (i := 4) rfl (by first | exact Or.inl rfl | exact Or.inr (Or.inl rfl) | exact Or.inr (Or.inr rfl)) (pr_lc0 (hs0 := rfl) nd (it_range1 rfl m.f_range (as_cons (PR.v (pr_var 0)) (as_nil))) (blkOk_by (N := N__law_texts) (sc := defScope (top 50)) (own := [("_law_word", 6)]) (by decide +kernel)) (by decide) (fun _ _ _ _ _ => tg_name (i := 6) nd rfl (by first | exact Or.inl rfl | exact Or.inr rfl)) (fun _ _ _ _ _ => pr_bin op_addB d_add (pr_var 5) (pr_lst (as_cons (PR.v (pr_var 6)) (as_nil)))))))))
    (sq_one (st_asg (i := 2) nd rfl (by first | exact Or.inl rfl | exact Or.inr rfl) (pr_var 4))))))
    (sq_one (st_ret (pr_var 2))))
abbrev N__law_table : List Str := ["_law_codes_here", "_law_lead_word", "_law_size", "_law_most", "_law_found", "_law_length", "_law_text", "_law_told"]
theorem sc__law_table : FnScope N__law_table ["_law_codes_here", "_law_lead_word", "_law_size", "_law_most"] (defScope (top 51)) := ⟨rfl, rfl, rfl, by decide +kernel, rfl, by decide +kernel, by decide +kernel⟩
theorem ok__law_table (m : M K mg) : FnOk P w K mg base (L2.CX P w) 2 (He.ga K "_law_table") m.fd__law_table ["_law_codes_here", "_law_lead_word", "_law_size", "_law_most"] (spF K [false, false, false, false] false (F__law_table K)) := by
  have h := fn_ok (P := P) (w := w) (mg := mg) (base := base) (k := 1) (ms := [false, false, false, false]) (own := false) (b := B__law_table K) m.F__law_table sc__law_table rfl
  refine h fun cdv A outer s H E hr => ?_
  have nd := sc__law_table.nd
  have hu64 := hr.units
  have hu : (A.deeper (PyProof.Rows.envOfC _ _ s.heap.objs.size _ cdv)).units + 1 < cLine := Nat.lt_of_le_of_lt (Nat.add_le_add_left (by decide) _) hu64
  exact sq_cons (st_asg (i := 4) nd rfl (by first | exact Or.inl rfl | exact Or.inr rfl) (pr_dic0))
    (sq_cons (st_for ownD rfl (it_range1 rfl m.f_range (as_cons (PR.v (pr_bin op_addB d_add (pr_var 3) (pr_int))) (as_nil))) (tg_name (i := 5) nd rfl (by first | exact Or.inl rfl | exact Or.inr rfl)) (sq_one (st_for ownD rfl (it_list (pr_call (ok__law_texts m) (hr.mono (by decide)) rfl m.g__law_texts m.F__law_texts.kp (m.F__law_texts.bindsN fun _ _ _ _ _ _ us hl => match us, hl with | [_, _], _ => rfl) passD (ms_sh (pr_var 2) (ms_sh (pr_var 5) (ms_nil))))) (tg_name (i := 6) nd rfl (by first | exact Or.inl rfl | exact Or.inr rfl)) (sq_cons (st_asg (i := 7) nd rfl (by first | exact Or.inl rfl | exact Or.inr rfl) (pr_ix (ix_B hu) d_ix (pr_call (ok__law_run m) (hr.mono (by decide)) rfl m.g__law_run m.F__law_run.kp (m.F__law_run.bindsN fun _ _ _ _ _ _ us hl => match us, hl with | [_, _, _], _ => rfl) passD (ms_sh (pr_var 0) (ms_sh (pr_var 1) (ms_sh (pr_var 6) (ms_nil))))) (pr_int) (fun _ _ => rfl)))
    (sq_one (st_putD (i := 4) hu rfl (by first | exact Or.inl rfl | exact Or.inr (Or.inl rfl) | exact Or.inr (Or.inr rfl)) (pr_bin op_addB d_add (pr_dget2 hu (pr_var 4) (pr_var 7) (pr_int) ⟨rfl, rfl, rfl, rfl⟩) (pr_int)) (pr_var 7)))))))
    (sq_one (st_ret (pr_var 4))))
abbrev N__law_spoilt : List Str := ["_law_pot_here", "_law_told", "_law_letters", "_law_way", "_law_at", "_law_turn"]
theorem sc__law_spoilt : FnScope N__law_spoilt ["_law_pot_here", "_law_told", "_law_letters"] (defScope (top 52)) := ⟨rfl, rfl, rfl, by decide +kernel, rfl, by decide +kernel, by decide +kernel⟩
theorem ok__law_spoilt (m : M K mg) : FnOk P w K mg base (L2.CX P w) 3 (He.ga K "_law_spoilt") m.fd__law_spoilt ["_law_pot_here", "_law_told", "_law_letters"] (spF K [true, false, false] false (F__law_spoilt K)) := by
  have h := fn_ok (P := P) (w := w) (mg := mg) (base := base) (k := 2) (ms := [true, false, false]) (own := false) (b := B__law_spoilt K) m.F__law_spoilt sc__law_spoilt rfl
  refine h fun cdv A outer s H E hr => ?_
  have nd := sc__law_spoilt.nd
  have hu64 := hr.units
  have hu : (A.deeper (PyProof.Rows.envOfC _ _ s.heap.objs.size _ cdv)).units + 1 < cLine := Nat.lt_of_le_of_lt (Nat.add_le_add_left (by decide) _) hu64
  exact sq_cons (st_par (i := 3) (j := 4) rfl nd rfl rfl (by decide) rfl rfl (pp_cons (pr_call (ok__law_draw m) (hr.mono (by decide)) rfl m.g__law_draw m.F__law_draw.kp (m.F__law_draw.bindsN fun _ _ _ _ _ _ us hl => match us, hl with | [_, _], _ => rfl) passD (ms_io (pr_var 0) (ms_sh (pr_int) (ms_nil)))) (pp_cons (pr_call (ok__law_draw m) (hr.mono (by decide)) rfl m.g__law_draw m.F__law_draw.kp (m.F__law_draw.bindsN fun _ _ _ _ _ _ us hl => match us, hl with | [_, _], _ => rfl) passD (ms_io (pr_var 0) (ms_sh (pr_bin op_addB d_add (pr_callB call_lenK d_lenK rfl m.f_len (by decide +kernel) (hs_cons (pr_var 1) (hs_nil))) (pr_int)) (ms_nil)))) (pp_nil))) rfl)
    (sq_cons (st_if (pb_cmp (op_eqB hu64) d_eq (pr_var 3) (pr_int) (nomark _)) (sq_one (st_ret (pr_bin op_addB d_add (pr_bin op_addB d_add (pr_slice (pr_var 1) (op_none) (op_some (pr_var 4))) (pr_call (ok__law_pick m) (hr.mono (by decide)) rfl m.g__law_pick m.F__law_pick.kp (m.F__law_pick.bindsN fun _ _ _ _ _ _ us hl => match us, hl with | [_, _], _ => rfl) passD (ms_io (pr_var 0) (ms_sh (pr_var 2) (ms_nil))))) (pr_slice (pr_var 1) (op_some (pr_var 4)) (op_none))))) (sq_nil))
    (sq_cons (st_if (pb_cmp (op_eqB hu64) d_eq (pr_var 3) (pr_int) (nomark _)) (sq_one (st_ret (pr_bin op_addB d_add (pr_slice (pr_var 1) (op_none) (op_some (pr_var 4))) (pr_slice (pr_var 1) (op_some (pr_bin op_addB d_add (pr_var 4) (pr_int))) (op_none))))) (sq_nil))
    (sq_cons (st_if (pb_cmp (op_eqB hu64) d_eq (pr_var 3) (pr_int) (nomark _)) (sq_one (st_ret (pr_bin op_addB d_add (pr_bin op_addB d_add (pr_slice (pr_var 1) (op_none) (op_some (pr_var 4))) (pr_call (ok__law_pick m) (hr.mono (by decide)) rfl m.g__law_pick m.F__law_pick.kp (m.F__law_pick.bindsN fun _ _ _ _ _ _ us hl => match us, hl with | [_, _], _ => rfl) passD (ms_io (pr_var 0) (ms_sh (pr_var 2) (ms_nil))))) (pr_slice (pr_var 1) (op_some (pr_bin op_addB d_add (pr_var 4) (pr_int))) (op_none))))) (sq_nil))
    (sq_cons (st_if (pb_cmp (op_eqB hu64) d_eq (pr_var 3) (pr_int) (nomark _)) (sq_one (st_ret (pr_slice (pr_var 1) (op_none) (op_some (pr_var 4))))) (sq_nil))
    (sq_one (st_ret (pr_join (pr_str) (pr_lc0 (hs0 := rfl) nd (it_range1 rfl m.f_range (as_cons (PR.v (pr_callB call_lenK d_lenK rfl m.f_len (by decide +kernel) (hs_cons (pr_var 1) (hs_nil)))) (as_nil))) (blkOk_by (N := N__law_spoilt) (sc := defScope (top 52)) (own := [("_law_turn", 5)]) (by decide +kernel)) (by decide) (fun _ _ _ _ _ => tg_name (i := 5) nd rfl (by first | exact Or.inl rfl | exact Or.inr rfl)) (fun _ _ _ _ _ => pr_call (ok__law_pick m) (hr.mono (by decide)) rfl m.g__law_pick m.F__law_pick.kp (m.F__law_pick.bindsN fun _ _ _ _ _ _ us hl => match us, hl with | [_, _], _ => rfl) pass00 (ms_io (pr_var 0) (ms_sh (pr_var 2) (ms_nil))))))))))))
abbrev N__law_coder_right : List Str := ["_law_pot_here", "_law_made", "_law_codes_here", "_law_lead_word", "_law_size", "_law_q", "_law_most", "_law_due", "_law_reach", "_law_told", "_law_turn", "_law_near", "_law_length", "_law_spread", "_law_at"]
theorem sc__law_coder_right : FnScope N__law_coder_right ["_law_pot_here", "_law_made", "_law_codes_here", "_law_lead_word", "_law_size", "_law_q"] (defScope (top 53)) := ⟨rfl, rfl, rfl, by decide +kernel, rfl, by decide +kernel, by decide +kernel⟩
theorem ok__law_coder_right (m : M K mg) : FnOk P w K mg base (L2.CX P w) 4 (He.ga K "_law_coder_right") m.fd__law_coder_right ["_law_pot_here", "_law_made", "_law_codes_here", "_law_lead_word", "_law_size", "_law_q"] (spF K [true, false, false, false, false, false] false (F__law_coder_right K)) := by
  have h := fn_ok (P := P) (w := w) (mg := mg) (base := base) (k := 3) (ms := [true, false, false, false, false, false]) (own := false) (b := B__law_coder_right K) m.F__law_coder_right sc__law_coder_right rfl
  refine h fun cdv A outer s H E hr => ?_
  have nd := sc__law_coder_right.nd
  have hu64 := hr.units
  have hu : (A.deeper (PyProof.Rows.envOfC _ _ s.heap.objs.size _ cdv)).units + 1 < cLine := Nat.lt_of_le_of_lt (Nat.add_le_add_left (by decide) _) hu64
  exact sq_cons (st_asg (i := 6) nd rfl (by first | exact Or.inl rfl | exact Or.inr rfl) (pr_ix (ix_B hu) d_ix (pr_lst (as_cons (PR.v (pr_int)) (as_cons (PR.v (pr_int)) (as_nil)))) (pr_callTy call_int1 d_int rfl m.f_int (by decide +kernel) (hs_cons (pr_cmp op_gt d_Ib (pr_var 4) (pr_int) (nomark _)) (hs_nil))) (fun _ _ => rfl)))
    (sq_cons (st_par (i := 7) (j := 8) rfl nd rfl rfl (by decide) rfl rfl (pp_cons (pr_call (ok__law_table m) (hr.mono (by decide)) rfl m.g__law_table m.F__law_table.kp (m.F__law_table.bindsN fun _ _ _ _ _ _ us hl => match us, hl with | [_, _, _, _], _ => rfl) passD (ms_sh (pr_var 2) (ms_sh (pr_var 3) (ms_sh (pr_var 4) (ms_sh (pr_var 6) (ms_nil)))))) (pp_cons (pr_bin op_addB d_add (pr_callB call_lenK d_lenK rfl m.f_len (by decide +kernel) (hs_cons (pr_var 3) (hs_nil))) (pr_bin op_mulB d_mul (pr_var 5) (pr_var 6))) (pp_nil))) rfl)
    (sq_cons (st_forK (i := 7) ownD rfl rfl (by first | exact Or.inl rfl | exact Or.inr (Or.inl rfl) | exact Or.inr (Or.inr rfl)) (tg_name (i := 9) nd rfl (by first | exact Or.inl rfl | exact Or.inr rfl)) (sq_cons (st_if (pb_cmp (op_neB hu64) d_ne (pr_call (ok_still_open m) (hr.mono (by decide)) rfl m.g_still_open m.F_still_open.kp (m.F_still_open.bindsN fun _ _ _ _ _ _ us hl => match us, hl with | [_, _], _ => rfl) passD (ms_sh (pr_var 1) (ms_sh (pr_var 9) (ms_nil)))) (pr_ix (ix_B hu) d_ix (pr_var 7) (pr_var 9) (fun _ _ => rfl)) (nomark _)) (sq_one (st_ret (pr_bl))) (sq_nil))
    (sq_one (st_for ownD rfl (it_range1 rfl m.f_range (as_cons (PR.v (pr_int)) (as_nil))) (tg_name (i := 10) nd rfl (by first | exact Or.inl rfl | exact Or.inr rfl)) (sq_cons (st_asg (i := 11) nd rfl (by first | exact Or.inl rfl | exact Or.inr rfl) (pr_call (ok__law_spoilt m) (hr.mono (by decide)) rfl m.g__law_spoilt m.F__law_spoilt.kp (m.F__law_spoilt.bindsN fun _ _ _ _ _ _ us hl => match us, hl with | [_, _, _], _ => rfl) passD (ms_io (pr_var 0) (ms_sh (pr_var 9) (ms_sh (pr_str) (ms_nil))))))
    (sq_one (st_if (pb_w (pb_and (pb_cmp op_le d_Ib (pr_callB call_lenK d_lenK rfl m.f_len (by decide +kernel) (hs_cons (pr_var 11) (hs_nil))) (pr_var 8) (nomark _)) (pb_and1 (pb_cmp (op_neB hu64) d_ne (pr_callSw (ok_still_open m) (hr.mono (by decide)) rfl m.g_still_open m.F_still_open.kp (KB_still_open m) passD (ks_cons (PR.v (pr_var 11)) (ks_cons (PR.v (pr_var 1)) (ks_nil))) (al_cons (al_cons (al_nil)))) (pr_dget2 hu (pr_var 7) (pr_var 11) (pr_int) ⟨rfl, rfl, rfl, rfl⟩) (nomark _))))) (sq_one (st_ret (pr_bl))) (sq_nil))))))))
    (sq_cons (st_for ownD rfl (it_range1 rfl m.f_range (as_cons (PR.v (pr_bin op_addB d_add (pr_var 6) (pr_int))) (as_nil))) (tg_name (i := 12) nd rfl (by first | exact Or.inl rfl | exact Or.inr rfl)) (sq_cons (st_asgLcK (i := 13) (j := 7) (hs0 := rfl) nd rfl rfl rfl (by first | exact Or.inl rfl | exact Or.inr (Or.inl rfl) | exact Or.inr (Or.inr rfl)) (blkOk_by (N := N__law_coder_right) (sc := defScope (top 53)) (own := [("_law_told", 9)]) (by decide +kernel)) (by decide) (fun _ _ _ _ _ => tg_name (i := 9) nd rfl (by first | exact Or.inl rfl | exact Or.inr rfl)) (fun _ _ _ _ _ => pb_cmp (op_eqB hu64) d_eq (pr_callB call_lenK d_lenK rfl m.f_len (by decide +kernel) (hs_cons (pr_var 9) (hs_nil))) (pr_bin op_addB d_add (pr_callB call_lenK d_lenK rfl m.f_len (by decide +kernel) (hs_cons (pr_var 3) (hs_nil))) (pr_bin op_mulB d_mul (pr_var 5) (pr_var 12))) (nomark _)) (fun _ _ _ _ _ => pr_call (ok_still_open m) (hr.mono (by decide)) rfl m.g_still_open m.F_still_open.kp (m.F_still_open.bindsN fun _ _ _ _ _ _ us hl => match us, hl with | [_, _], _ => rfl) pass00 (ms_sh (pr_var 1) (ms_sh (pr_var 9) (ms_nil)))))
    (sq_one (st_if (pb_cmp (op_neB hu64) d_ne (pr_callB (cr_sum rfl) d_sum rfl m.f_sum (by decide +kernel) (hs_cons (pr_var 13) (hs_nil))) (pr_callB call_lenK d_lenK rfl m.f_len (by decide +kernel) (hs_cons (pr_call (ok__law_texts m) (hr.mono (by decide)) rfl m.g__law_texts m.F__law_texts.kp (m.F__law_texts.bindsN fun _ _ _ _ _ _ us hl => match us, hl with | [_, _], _ => rfl) passD (ms_sh (pr_var 4) (ms_sh (pr_var 12) (ms_nil)))) (hs_nil))) (nomark _)) (sq_one (st_ret (pr_bl))) (sq_nil)))))
    (sq_one (st_ret (pr_callB (cr_all rfl) d_all rfl m.f_all (by decide +kernel) (hs_cons (pr_lc0 (hs0 := rfl) nd (it_range1 rfl m.f_range (as_cons (PR.v (pr_callB call_lenK d_lenK rfl m.f_len (by decide +kernel) (hs_cons (pr_var 3) (hs_nil)))) (as_nil))) (blkOk_by (N := N__law_coder_right) (sc := defScope (top 53)) (own := [("_law_at", 14)]) (by decide +kernel)) (by decide) (fun _ _ _ _ _ => tg_name (i := 14) nd rfl (by first | exact Or.inl rfl | exact Or.inr rfl)) (fun _ _ _ _ _ => pr_cmp (op_eqB hu64) d_eq (pr_call (ok_still_open m) (hr.mono (by decide)) rfl m.g_still_open m.F_still_open.kp (m.F_still_open.bindsN fun _ _ _ _ _ _ us hl => match us, hl with | [_, _], _ => rfl) pass00 (ms_sh (pr_var 1) (ms_sh (pr_slice (pr_var 3) (op_none) (op_some (pr_var 14))) (ms_nil)))) (pr_int) (nomark _))) (hs_nil))))))))
abbrev N__law_right : List Str := ["_law_pot_here", "_law_p", "_law_q", "_law_size", "_law_letters", "_law_turn", "_law_codes_here", "_law_lead_word", "_law_again", "_law_made", "_law_kept_here"]
theorem sc__law_right : FnScope N__law_right ["_law_pot_here"] (defScope (top 54)) := ⟨rfl, rfl, rfl, by decide +kernel, rfl, by decide +kernel, by decide +kernel⟩
theorem ok__law_right (m : M K mg) : FnOk P w K mg base (L2.CX P w) 9 (He.ga K "_law_right") m.fd__law_right ["_law_pot_here"] (spF K [true] false (F__law_right K)) := by
  have h := fn_ok (P := P) (w := w) (mg := mg) (base := base) (k := 8) (ms := [true]) (own := false) (b := B__law_right K) m.F__law_right sc__law_right rfl
  refine h fun cdv A outer s H E hr => ?_
  have nd := sc__law_right.nd
  have hu64 := hr.units
  have hu : (A.deeper (PyProof.Rows.envOfC _ _ s.heap.objs.size _ cdv)).units + 1 < cLine := Nat.lt_of_le_of_lt (Nat.add_le_add_left (by decide) _) hu64
  exact sq_cons (st_par (i := 1) (j := 2) rfl nd rfl rfl (by decide) rfl rfl (pp_cons (pr_bin op_addB d_add (pr_int) (pr_call (ok__law_draw m) (hr.mono (by decide)) rfl m.g__law_draw m.F__law_draw.kp (m.F__law_draw.bindsN fun _ _ _ _ _ _ us hl => match us, hl with | [_, _], _ => rfl) passD (ms_io (pr_var 0) (ms_sh (pr_int) (ms_nil))))) (pp_cons (pr_bin op_addB d_add (pr_int) (pr_call (ok__law_draw m) (hr.mono (by decide)) rfl m.g__law_draw m.F__law_draw.kp (m.F__law_draw.bindsN fun _ _ _ _ _ _ us hl => match us, hl with | [_, _], _ => rfl) passD (ms_io (pr_var 0) (ms_sh (pr_int) (ms_nil))))) (pp_nil))) rfl)
    (sq_cons (st_parC (i := 3) (j := 4) rfl nd rfl rfl (by first | exact Or.inl rfl | exact Or.inr rfl) (by first | exact Or.inl rfl | exact Or.inr rfl) (pp_cons (pr_ix (ix_B hu) d_ix (pr_lst (as_cons (PR.v (pr_int)) (as_cons (PR.v (pr_int)) (as_nil)))) (pr_bin op_sub d_Ii (pr_var 1) (pr_int)) (fun _ _ => rfl)) (pp_cons (pr_call (ok__law_pick m) (hr.mono (by decide)) rfl m.g__law_pick m.F__law_pick.kp (m.F__law_pick.bindsN fun _ _ _ _ _ _ us hl => match us, hl with | [_, _], _ => rfl) passD (ms_io (pr_var 0) (ms_sh (pr_lst (as_cons (PR.v (pr_str)) (as_cons (PR.v (pr_str)) (as_cons (PR.v (pr_str)) (as_nil))))) (ms_nil)))) (pp_nil))))
    (sq_cons (st_for ownD rfl (it_range1 rfl m.f_range (as_cons (PR.v (pr_int)) (as_nil))) (tg_name (i := 5) nd rfl (by first | exact Or.inl rfl | exact Or.inr rfl)) (sq_cons (st_asg (i := 6) nd rfl (by first | exact Or.inl rfl | exact Or.inr rfl) (pr_call (ok__law_codes m) (hr.mono (by decide)) rfl m.g__law_codes m.F__law_codes.kp (m.F__law_codes.bindsN fun _ _ _ _ _ _ us hl => match us, hl with | [_, _, _, _, _], _ => rfl) passD (ms_io (pr_var 0) (ms_sh (pr_var 3) (ms_sh (pr_var 2) (ms_sh (pr_bin op_addB d_add (pr_int) (pr_call (ok__law_draw m) (hr.mono (by decide)) rfl m.g__law_draw m.F__law_draw.kp (m.F__law_draw.bindsN fun _ _ _ _ _ _ us hl => match us, hl with | [_, _], _ => rfl) passD (ms_io (pr_var 0) (ms_sh (pr_int) (ms_nil))))) (ms_sh (pr_var 4) (ms_nil))))))))
    (sq_cons (st_asg (i := 7) nd rfl (by first | exact Or.inl rfl | exact Or.inr rfl) (pr_join (pr_str) (pr_lc0 (hs0 := rfl) nd (it_range1 rfl m.f_range (as_cons (PR.v (pr_call (ok__law_draw m) (hr.mono (by decide)) rfl m.g__law_draw m.F__law_draw.kp (m.F__law_draw.bindsN fun _ _ _ _ _ _ us hl => match us, hl with | [_, _], _ => rfl) passD (ms_io (pr_var 0) (ms_sh (pr_int) (ms_nil))))) (as_nil))) (blkOk_by (N := N__law_right) (sc := defScope (top 54)) (own := [("_law_again", 8)]) (by decide +kernel)) (by decide) (fun _ _ _ _ _ => tg_name (i := 8) nd rfl (by first | exact Or.inl rfl | exact Or.inr rfl)) (fun _ _ _ _ _ => pr_call (ok__law_pick m) (hr.mono (by decide)) rfl m.g__law_pick m.F__law_pick.kp (m.F__law_pick.bindsN fun _ _ _ _ _ _ us hl => match us, hl with | [_, _], _ => rfl) pass00 (ms_io (pr_var 0) (ms_sh (pr_var 4) (ms_nil)))))))
    (sq_cons (st_par (i := 9) (j := 10) rfl nd rfl rfl (by decide) rfl rfl (pp_cons (pr_make m.mk_Coder (ok_Coder___init__ m) (hr.mono (by decide)) rfl m.g_Coder (BD_Coder___init__ m) .nil (fun _ => .nil) passD (as_cons (PR.v (pr_make m.mk_Rate (ok_Rate___init__ m) (hr.mono (by decide)) rfl m.g_Rate (m.F_Rate___init__.bindsN fun _ _ _ _ _ _ us hl => match us, hl with | [_, _, _], _ => rfl) .nil (fun _ => .nil) passD (as_cons (PR.v (pr_var 1)) (as_cons (PR.v (pr_var 2)) (as_nil))) (by decide) (al_cons (al_cons (al_nil))))) (as_cons (PR.v (pr_var 6)) (as_cons (PR.v (pr_var 7)) (as_nil)))) (by decide) (al_cons (al_cons (al_cons (al_nil))))) (pp_cons (pr_call (ok__law_kept m) (hr.mono (by decide)) rfl m.g__law_kept m.F__law_kept.kp (m.F__law_kept.bindsN fun _ _ _ _ _ _ us hl => match us, hl with | [_], _ => rfl) passD (ms_sh (pr_var 6) (ms_nil))) (pp_nil))) rfl)
    (sq_one (st_if (pb_w (pb_or (pb_not (pb_val (pr_call (ok__law_coder_right m) (hr.mono (by decide)) rfl m.g__law_coder_right m.F__law_coder_right.kp (m.F__law_coder_right.bindsN fun _ _ _ _ _ _ us hl => match us, hl with | [_, _, _, _, _, _], _ => rfl) passD (ms_io (pr_var 0) (ms_sh (pr_var 9) (ms_sh (pr_var 10) (ms_sh (pr_var 7) (ms_sh (pr_var 3) (ms_sh (pr_var 2) (ms_nil)))))))))) (pb_or1 (pb_cmp (op_neB hu64) d_ne (pr_meth0 (ms := []) (pr_var 9) m.c_Coder m.me_Coder_codes (ok_Coder_codes m) (hr.mono (by decide)) (m.F_Coder_codes.bindsN fun _ _ _ _ _ _ us hl => match us, hl with | [_], _ => rfl) .nil (fun _ => .nil) passD) (pr_var 10) (nomark _))))) (sq_one (st_ret (pr_bl))) (sq_nil)))))))
    (sq_one (st_ret (pr_bl)))))
abbrev N__law_pot : List Str := ["_law_script", "_law_k", "_law_cell"]
theorem sc__law_pot : FnScope N__law_pot ["_law_script", "_law_k"] (defScope (top 44)) := ⟨rfl, rfl, rfl, by decide +kernel, rfl, by decide +kernel, by decide +kernel⟩
theorem ok__law_pot (m : M K mg) : FnOk P w K mg base (L2.CX P w) 1 (He.ga K "_law_pot") m.fd__law_pot ["_law_script", "_law_k"] (spF K [false, false] true (F__law_pot K)) := by
  have h := fn_ok (P := P) (w := w) (mg := mg) (base := base) (k := 0) (ms := [false, false]) (own := true) (b := B__law_pot K) m.F__law_pot sc__law_pot rfl
  refine h fun cdv A outer s H E hr => ?_
  have nd := sc__law_pot.nd
  have hu64 := hr.units
  have hu : (A.deeper (PyProof.Rows.envOfC _ _ s.heap.objs.size _ cdv)).units + 1 < cLine := Nat.lt_of_le_of_lt (Nat.add_le_add_left (by decide) _) hu64
  exact sq_cons (st_asg (i := 2) nd rfl (by first | exact Or.inl rfl | exact Or.inr rfl) (pr_bin op_addB d_add (pr_bin op_mulB d_mul (pr_int) (pr_var 1)) (pr_int)))
    (sq_cons (st_if (pb_cmp op_lt d_Ib (pr_var 1) (pr_callB call_lenK d_lenK rfl m.f_len (by decide +kernel) (hs_cons (pr_var 0) (hs_nil))) (nomark _)) (sq_one (st_asg (i := 2) nd rfl (by first | exact Or.inl rfl | exact Or.inr rfl) (pr_callB call_abs d_abs rfl m.f_abs (by decide +kernel) (hs_cons (pr_ix (ix_B hu) d_ix (pr_var 0) (pr_var 1) (fun _ _ => rfl)) (hs_nil))))) (sq_nil))
    (sq_one (st_ret (pr_lst (as_cons (PR.v (pr_callB (call_max2 rfl) d_max rfl m.f_max (by decide +kernel) (hs_cons (pr_int) (hs_cons (pr_bin op_sub d_Ii (pr_var 2) (pr_bin op_pow d_Ic (pr_int) (pr_int))) (hs_nil))))) (as_cons (PR.v (pr_bin op_addB d_add (pr_bin op_mod d_Ic (pr_bin op_mulB d_mul (pr_callTy call_int1 d_int rfl m.f_int (by decide +kernel) (hs_cons (pr_bin op_addB d_add (pr_bin op_mod d_Ic (pr_callTy call_int1 d_int rfl m.f_int (by decide +kernel) (hs_cons (pr_var 2) (hs_nil))) (pr_int)) (pr_int)) (hs_nil))) (pr_bin op_pow d_Ic (pr_bin op_addB d_add (pr_bin op_mulB d_mul (pr_int) (pr_var 1)) (pr_int)) (pr_int))) (pr_int)) (pr_int))) (as_nil)))))))
abbrev N_law : List Str := ["_law_script", "_law_alone", "_law_due", "_law_turn", "_law_k"]
theorem sc_law : FnScope N_law ["_law_script"] (defScope (top 55)) := ⟨rfl, rfl, rfl, by decide +kernel, rfl, by decide +kernel, by decide +kernel⟩
theorem ok_law (m : M K mg) : FnOk P w K mg base (L2.CX P w) 10 (He.ga K "law") m.fd_law ["_law_script"] (spF K [false] false (F_law K)) := by
  have h := fn_ok (P := P) (w := w) (mg := mg) (base := base) (k := 9) (ms := [false]) (own := false) (b := B_law K) m.F_law sc_law rfl
  refine h fun cdv A outer s H E hr => ?_
  have nd := sc_law.nd
  have hu64 := hr.units
  have hu : (A.deeper (PyProof.Rows.envOfC _ _ s.heap.objs.size _ cdv)).units + 1 < cLine := Nat.lt_of_le_of_lt (Nat.add_le_add_left (by decide) _) hu64
  exact sq_cons (st_par (i := 1) (j := 2) rfl nd rfl rfl (by decide) rfl rfl (pp_cons (pr_make m.mk_Coder (ok_Coder___init__ m) (hr.mono (by decide)) rfl m.g_Coder (BD_Coder___init__ m) .nil (fun _ => .nil) passD (as_cons (PR.v (pr_make m.mk_Rate (ok_Rate___init__ m) (hr.mono (by decide)) rfl m.g_Rate (m.F_Rate___init__.bindsN fun _ _ _ _ _ _ us hl => match us, hl with | [_, _, _], _ => rfl) .nil (fun _ => .nil) passD (as_cons (PR.v (pr_int)) (as_cons (PR.v (pr_int)) (as_nil))) (by decide) (al_cons (al_cons (al_nil))))) (as_cons (PR.v (pr_lst (as_cons (PR.v (pr_lst (as_cons (PR.v (pr_tup (as_cons (PR.v (pr_str)) (as_cons (PR.v (pr_int)) (as_nil))))) (as_cons (PR.v (pr_tup (as_cons (PR.v (pr_str)) (as_cons (PR.v (pr_int)) (as_nil))))) (as_nil))))) (as_nil)))) (as_cons (PR.v (pr_str)) (as_nil)))) (by decide) (al_cons (al_cons (al_cons (al_nil))))) (pp_cons (pr_int) (pp_nil))) rfl)
    (sq_cons (st_for ownD rfl (it_range1 rfl m.f_range (as_cons (PR.v (pr_int)) (as_nil))) (tg_name (i := 3) nd rfl (by first | exact Or.inl rfl | exact Or.inr rfl)) (sq_one (st_asg (i := 2) nd rfl (by first | exact Or.inl rfl | exact Or.inr rfl) (pr_bin op_mulB d_mul (pr_var 2) (pr_int)))))
    (sq_cons (st_if (pb_w (pb_or (pb_cmp (op_neB hu64) d_ne (pr_call (ok_still_open m) (hr.mono (by decide)) rfl m.g_still_open m.F_still_open.kp (m.F_still_open.bindsN fun _ _ _ _ _ _ us hl => match us, hl with | [_, _], _ => rfl) passD (ms_sh (pr_var 1) (ms_sh (pr_bin op_addB d_add (pr_str) (pr_bin op_strMul d_strMul (pr_str) (pr_int))) (ms_nil)))) (pr_var 2) (nomark _)) (pb_or (pb_cmp (op_neB hu64) d_ne (pr_call (ok_still_open m) (hr.mono (by decide)) rfl m.g_still_open m.F_still_open.kp (m.F_still_open.bindsN fun _ _ _ _ _ _ us hl => match us, hl with | [_, _], _ => rfl) passD (ms_sh (pr_var 1) (ms_sh (pr_bin op_strMul d_strMul (pr_str) (pr_int)) (ms_nil)))) (pr_int) (nomark _)) (pb_or1 (pb_cmp (op_neB hu64) d_ne (pr_call (ok_still_open m) (hr.mono (by decide)) rfl m.g_still_open m.F_still_open.kp (m.F_still_open.bindsN fun _ _ _ _ _ _ us hl => match us, hl with | [_, _], _ => rfl) passD (ms_sh (pr_var 1) (ms_sh (pr_str) (ms_nil)))) (pr_int) (nomark _)))))) (sq_one (st_ret (pr_bl))) (sq_nil))
    (sq_one (st_ret (pr_callB (cr_all rfl) d_all rfl m.f_all (by decide +kernel) (hs_cons (pr_lc0 (hs0 := rfl) nd (it_range1 rfl m.f_range (as_cons (PR.v (pr_callB (call_max2 rfl) d_max rfl m.f_max (by decide +kernel) (hs_cons (pr_int) (hs_cons (pr_callB (call_min2 rfl) d_min rfl m.f_min (by decide +kernel) (hs_cons (pr_int) (hs_cons (pr_callB call_lenK d_lenK rfl m.f_len (by decide +kernel) (hs_cons (pr_var 0) (hs_nil))) (hs_nil)))) (hs_nil))))) (as_nil))) (blkOk_by (N := N_law) (sc := defScope (top 55)) (own := [("_law_k", 4)]) (by decide +kernel)) (by decide) (fun _ _ _ _ _ => tg_name (i := 4) nd rfl (by first | exact Or.inl rfl | exact Or.inr rfl)) (fun _ _ _ _ _ => pr_call (ok__law_right m) (hr.mono (by decide)) rfl m.g__law_right m.F__law_right.kp (m.F__law_right.bindsN fun _ _ _ _ _ _ us hl => match us, hl with | [_], _ => rfl) pass00 (ms_io (pr_call (ok__law_pot m) (hr.mono (by decide)) rfl m.g__law_pot m.F__law_pot.kp (m.F__law_pot.bindsN fun _ _ _ _ _ _ us hl => match us, hl with | [_, _], _ => rfl) pass00 (ms_sh (pr_var 0) (ms_sh (pr_var 4) (ms_nil)))) (ms_nil)))) (hs_nil)))))))
end
end LW
set_option Elab.async false
set_option linter.all false
set_option maxRecDepth 100000
set_option maxHeartbeats 0
namespace LW
open PySem L2 BR
def d_want_rate : He5.DefA := ⟨fun K => He.ga K "want_rate", "want_rate", "want_rate", defArgs (top 25), defBody (top 25), defScope (top 25), [], []⟩
def d_is_list : He5.DefA := ⟨fun K => He.ga K "is_list", "is_list", "is_list", defArgs (top 18), defBody (top 18), defScope (top 18), [], []⟩
def d_Rate_size : He5.DefA := ⟨fun K => He5.wf K (He.ga K "Rate") "property" "size", "size", "Rate.size", defArgs (inClass (top 24) 3), defBody (inClass (top 24) 3), defScope (inClass (top 24) 3), [], []⟩
def d_is_row : He5.DefA := ⟨fun K => He.ga K "is_row", "is_row", "is_row", defArgs (top 19), defBody (top 19), defScope (top 19), [], []⟩
def d_Rate_q : He5.DefA := ⟨fun K => He5.wf K (He.ga K "Rate") "property" "q", "q", "Rate.q", defArgs (inClass (top 24) 2), defBody (inClass (top 24) 2), defScope (inClass (top 24) 2), [], []⟩
def d_is_block_of : He5.DefA := ⟨fun K => He.ga K "is_block_of", "is_block_of", "is_block_of", defArgs (top 31), defBody (top 31), defScope (top 31), [], []⟩
def d_is_integer : He5.DefA := ⟨fun K => He.ga K "is_integer", "is_integer", "is_integer", defArgs (top 16), defBody (top 16), defScope (top 16), [], []⟩
def d_is_count : He5.DefA := ⟨fun K => He.ga K "is_count", "is_count", "is_count", defArgs (top 17), defBody (top 17), defScope (top 17), [], []⟩
def d_is_entry : He5.DefA := ⟨fun K => He.ga K "is_entry", "is_entry", "is_entry", defArgs (top 33), defBody (top 33), defScope (top 33), [], []⟩
def d_are_entries : He5.DefA := ⟨fun K => He.ga K "are_entries", "are_entries", "are_entries", defArgs (top 34), defBody (top 34), defScope (top 34), [], []⟩
def d_want_codes : He5.DefA := ⟨fun K => He.ga K "want_codes", "want_codes", "want_codes", defArgs (top 35), defBody (top 35), defScope (top 35), [], []⟩
def d_states_met : He5.DefA := ⟨fun K => He.ga K "states_met", "states_met", "states_met", defArgs (top 36), defBody (top 36), defScope (top 36), [], []⟩
def d_Coder___init__ : He5.DefA := ⟨fun K => He.ma K (He.ga K "Coder") "__init__", "__init__", "Coder.__init__", defArgs (inClass (top 40) 1), defBody (inClass (top 40) 1), defScope (inClass (top 40) 1), [.str ""], []⟩
def d_Rate___init__ : He5.DefA := ⟨fun K => He.ma K (He.ga K "Rate") "__init__", "__init__", "Rate.__init__", defArgs (inClass (top 24) 0), defBody (inClass (top 24) 0), defScope (inClass (top 24) 0), [], []⟩
def d_want_coder : He5.DefA := ⟨fun K => He.ga K "want_coder", "want_coder", "want_coder", defArgs (top 29), defBody (top 29), defScope (top 29), [], []⟩
def d_want_row : He5.DefA := ⟨fun K => He.ga K "want_row", "want_row", "want_row", defArgs (top 20), defBody (top 20), defScope (top 20), [], []⟩
def d_Coder_rate : He5.DefA := ⟨fun K => He5.wf K (He.ga K "Coder") "property" "rate", "rate", "Coder.rate", defArgs (inClass (top 40) 2), defBody (inClass (top 40) 2), defScope (inClass (top 40) 2), [], []⟩
def d_Coder_lead : He5.DefA := ⟨fun K => He5.wf K (He.ga K "Coder") "property" "lead", "lead", "Coder.lead", defArgs (inClass (top 40) 3), defBody (inClass (top 40) 3), defScope (inClass (top 40) 3), [], []⟩
def d_Coder_codes : He5.DefA := ⟨fun K => He.ma K (He.ga K "Coder") "codes", "codes", "Coder.codes", defArgs (inClass (top 40) 5), defBody (inClass (top 40) 5), defScope (inClass (top 40) 5), [], []⟩
def d_still_open : He5.DefA := ⟨fun K => He.ga K "still_open", "still_open", "still_open", defArgs (top 42), defBody (top 42), defScope (top 42), [], []⟩
def d__law_draw : He5.DefA := ⟨fun K => He.ga K "_law_draw", "_law_draw", "_law_draw", defArgs (top 45), defBody (top 45), defScope (top 45), [], []⟩
def d__law_pick : He5.DefA := ⟨fun K => He.ga K "_law_pick", "_law_pick", "_law_pick", defArgs (top 46), defBody (top 46), defScope (top 46), [], []⟩
def d__law_codes : He5.DefA := ⟨fun K => He.ga K "_law_codes", "_law_codes", "_law_codes", defArgs (top 47), defBody (top 47), defScope (top 47), [], []⟩
def d__law_kept : He5.DefA := ⟨fun K => He.ga K "_law_kept", "_law_kept", "_law_kept", defArgs (top 48), defBody (top 48), defScope (top 48), [], []⟩
def d__law_run : He5.DefA := ⟨fun K => He.ga K "_law_run", "_law_run", "_law_run", defArgs (top 49), defBody (top 49), defScope (top 49), [], []⟩
def d__law_texts : He5.DefA := ⟨fun K => He.ga K "_law_texts", "_law_texts", "_law_texts", defArgs (top 50), defBody (top 50), defScope (top 50), [], []⟩
def d__law_table : He5.DefA := ⟨fun K => He.ga K "_law_table", "_law_table", "_law_table", defArgs (top 51), defBody (top 51), defScope (top 51), [], []⟩
def d__law_spoilt : He5.DefA := ⟨fun K => He.ga K "_law_spoilt", "_law_spoilt", "_law_spoilt", defArgs (top 52), defBody (top 52), defScope (top 52), [], []⟩
def d__law_coder_right : He5.DefA := ⟨fun K => He.ga K "_law_coder_right", "_law_coder_right", "_law_coder_right", defArgs (top 53), defBody (top 53), defScope (top 53), [], []⟩
def d__law_right : He5.DefA := ⟨fun K => He.ga K "_law_right", "_law_right", "_law_right", defArgs (top 54), defBody (top 54), defScope (top 54), [], []⟩
def d__law_pot : He5.DefA := ⟨fun K => He.ga K "_law_pot", "_law_pot", "_law_pot", defArgs (top 44), defBody (top 44), defScope (top 44), [], []⟩
def d_law : He5.DefA := ⟨fun K => He.ga K "law", "law", "law", defArgs (top 55), defBody (top 55), defScope (top 55), [], []⟩
def fn0 : List He5.DefA := [d_want_rate, d_is_list, d_Rate_size, d_is_row, d_Rate_q, d_is_block_of, d_is_integer, d_is_count, d_is_entry, d_are_entries, d_want_codes, d_states_met, d_Coder___init__, d_Rate___init__, d_want_coder]
def fn1 : List He5.DefA := [d_want_row, d_Coder_rate, d_Coder_lead, d_Coder_codes, d_still_open, d__law_draw, d__law_pick, d__law_codes, d__law_kept, d__law_run, d__law_texts, d__law_table, d__law_spoilt, d__law_coder_right, d__law_right]
def fn2 : List He5.DefA := [d__law_pot, d_law]
def fn : List He5.DefA := fn0 ++ fn1 ++ fn2
def fa0 : List Fct := [fF (.glo "want_rate"), fF (.glo "Rate"), fF (.glo "want_codes"), fF (.glo "is_list"), fF (.glo "are_entries"), fF (.glo "is_entry"), fF (.glo "is_block_of"), fF (.glo "is_row"), fF (.glo "is_count"), fF (.glo "is_integer"), fF (.glo "Coder"), fF (.glo "states_met"), fF (.glo "still_open"), fF (.glo "want_coder"), fF (.glo "want_row")]
def fa1 : List Fct := [fF (.glo "_law_right"), fF (.glo "_law_draw"), fF (.glo "_law_pick"), fF (.glo "_law_codes"), fF (.glo "_law_kept"), fF (.glo "_law_coder_right"), fF (.glo "_law_table"), fF (.glo "_law_run"), fF (.glo "_law_texts"), fF (.glo "_law_spoilt"), fF (.glo "_law_pot"), fF (.glo "law"), fF (.free "isinstance"), fF (.free "tuple"), fF (.free "list")]
def fa2 : List Fct := [fF (.free "len"), fF (.free "all"), fF (.free "str"), fF (.free "int"), fF (.free "bool"), fF (.free "enumerate"), fF (.free "range"), fF (.free "sum"), fF (.free "max"), fF (.free "min"), fF (.free "divmod"), fF (.free "abs"), fF (.int "MOST_SIGNS" 2000), fF (.int "MOST_PART" 6), fF (.int "MOST_LENGTH" 2000)]
def fa3 : List Fct := [fF (.str "LETTERS" "abcd"), fF (.cls "Rate"), fF (.cls "Coder"), fF (.noat "Rate" "rate_bits"), fF (.noat "Rate" "rate_signs"), fF (.noat "Coder" "own_rate"), fF (.noat "Coder" "own_lead"), fF (.noat "Coder" "own_codes"), fF (.meth "Coder" "codes"), fF (.mkr "Coder"), fF (.mkr "Rate"), fProp "Rate" "size", fProp "Rate" "q", fProp "Coder" "rate", fProp "Coder" "lead"]
def fa4 : List Fct := [fClsI "Rate", fClsI "Coder", fKit "Rate" "Rate" true, fKit "Coder" "Coder" true, fCRead "Coder", fCVal "Coder" "MOST_ENTRIES" (.int 2000)]
def fa : List Fct := fa0 ++ fa1 ++ fa2 ++ fa3 ++ fa4
def names0 : List PySem.Str := ["BarredError", "Coder", "DIGITS", "InvalidCoder", "InvalidNumber", "InvalidRate", "InvalidRow", "InvalidState", "InvalidTable", "InvalidText", "InvalidWord", "LETTERS", "LimitError", "MOST_LENGTH", "MOST_PART"]
def names1 : List PySem.Str := ["MOST_SIGNS", "MOST_WORDS", "Rate", "TooMany", "_law_coder_right", "_law_codes", "_law_draw", "_law_kept", "_law_pick", "_law_pot", "_law_right", "_law_run", "_law_spoilt", "_law_table", "_law_texts"]
def names2 : List PySem.Str := ["_wall", "are_entries", "blocks_of", "entries_along", "is_block_of", "is_count", "is_entry", "is_integer", "is_list", "is_row", "is_word_of", "row_of", "states_met", "still_open", "want_coder"]
def names3 : List PySem.Str := ["want_codes", "want_rate", "want_row", "want_text"]
def names : List PySem.Str := names0 ++ names1 ++ names2 ++ names3
abbrev R : PySem.W.OpenRow := PySem.W.OpenLaw.row PySem.Challenge.rw_barredrows_k83_whole_texts_still_open
abbrev hk : PySem.W.Hook := hookB 6 fa fn
def ob (s : PySem.W.SharedT) : He.AlD := obsBG 6 fa fn (HandSHeadRun.getT s)
theorem ob_eq (s : PySem.W.SharedT) : ob s = hk.obs s.abs := obsBG_eq (HandSHeadRun.getT_eq s)
theorem run (w : World) : HandSHeadRun.RunEq R (PySem.W.view R.prog [55]) hk ob 6000 names w := by
  intro os
  kernel_rfl
theorem mOf {K : PySem.W.Frag} {h : Heap} {mg : Str → Option Value} (X : K.In h) (G : h.Ns mainGlobals mg) (c : SaysB fa fn K) : Nonempty (M K mg) := by
  obtain ⟨fd_want_rate, F_want_rate⟩ := c.def_ 0 (d := d_want_rate) rfl
  obtain ⟨fd_is_list, F_is_list⟩ := c.def_ 1 (d := d_is_list) rfl
  obtain ⟨fd_Rate_size, F_Rate_size⟩ := c.def_ 2 (d := d_Rate_size) rfl
  obtain ⟨fd_is_row, F_is_row⟩ := c.def_ 3 (d := d_is_row) rfl
  obtain ⟨fd_Rate_q, F_Rate_q⟩ := c.def_ 4 (d := d_Rate_q) rfl
  obtain ⟨fd_is_block_of, F_is_block_of⟩ := c.def_ 5 (d := d_is_block_of) rfl
  obtain ⟨fd_is_integer, F_is_integer⟩ := c.def_ 6 (d := d_is_integer) rfl
  obtain ⟨fd_is_count, F_is_count⟩ := c.def_ 7 (d := d_is_count) rfl
  obtain ⟨fd_is_entry, F_is_entry⟩ := c.def_ 8 (d := d_is_entry) rfl
  obtain ⟨fd_are_entries, F_are_entries⟩ := c.def_ 9 (d := d_are_entries) rfl
  obtain ⟨fd_want_codes, F_want_codes⟩ := c.def_ 10 (d := d_want_codes) rfl
  obtain ⟨fd_states_met, F_states_met⟩ := c.def_ 11 (d := d_states_met) rfl
  obtain ⟨fd_Coder___init__, F_Coder___init__⟩ := c.def_ 12 (d := d_Coder___init__) rfl
  obtain ⟨fd_Rate___init__, F_Rate___init__⟩ := c.def_ 13 (d := d_Rate___init__) rfl
  obtain ⟨fd_want_coder, F_want_coder⟩ := c.def_ 14 (d := d_want_coder) rfl
  obtain ⟨fd_want_row, F_want_row⟩ := c.def_ 15 (d := d_want_row) rfl
  obtain ⟨fd_Coder_rate, F_Coder_rate⟩ := c.def_ 16 (d := d_Coder_rate) rfl
  obtain ⟨fd_Coder_lead, F_Coder_lead⟩ := c.def_ 17 (d := d_Coder_lead) rfl
  obtain ⟨fd_Coder_codes, F_Coder_codes⟩ := c.def_ 18 (d := d_Coder_codes) rfl
  obtain ⟨fd_still_open, F_still_open⟩ := c.def_ 19 (d := d_still_open) rfl
  obtain ⟨fd__law_draw, F__law_draw⟩ := c.def_ 20 (d := d__law_draw) rfl
  obtain ⟨fd__law_pick, F__law_pick⟩ := c.def_ 21 (d := d__law_pick) rfl
  obtain ⟨fd__law_codes, F__law_codes⟩ := c.def_ 22 (d := d__law_codes) rfl
  obtain ⟨fd__law_kept, F__law_kept⟩ := c.def_ 23 (d := d__law_kept) rfl
  obtain ⟨fd__law_run, F__law_run⟩ := c.def_ 24 (d := d__law_run) rfl
  obtain ⟨fd__law_texts, F__law_texts⟩ := c.def_ 25 (d := d__law_texts) rfl
  obtain ⟨fd__law_table, F__law_table⟩ := c.def_ 26 (d := d__law_table) rfl
  obtain ⟨fd__law_spoilt, F__law_spoilt⟩ := c.def_ 27 (d := d__law_spoilt) rfl
  obtain ⟨fd__law_coder_right, F__law_coder_right⟩ := c.def_ 28 (d := d__law_coder_right) rfl
  obtain ⟨fd__law_right, F__law_right⟩ := c.def_ 29 (d := d__law_right) rfl
  obtain ⟨fd__law_pot, F__law_pot⟩ := c.def_ 30 (d := d__law_pot) rfl
  obtain ⟨fd_law, F_law⟩ := c.def_ 31 (d := d_law) rfl
  exact ⟨⟨fd_want_rate, F_want_rate, fd_is_list, F_is_list, fd_Rate_size, F_Rate_size, fd_is_row, F_is_row, fd_Rate_q, F_Rate_q, fd_is_block_of, F_is_block_of, fd_is_integer, F_is_integer, fd_is_count, F_is_count, fd_is_entry, F_is_entry, fd_are_entries, F_are_entries, fd_want_codes, F_want_codes, fd_states_met, F_states_met, fd_Coder___init__, F_Coder___init__, fd_Rate___init__, F_Rate___init__, fd_want_coder, F_want_coder, fd_want_row, F_want_row, fd_Coder_rate, F_Coder_rate, fd_Coder_lead, F_Coder_lead, fd_Coder_codes, F_Coder_codes, fd_still_open, F_still_open, fd__law_draw, F__law_draw, fd__law_pick, F__law_pick, fd__law_codes, F__law_codes, fd__law_kept, F__law_kept, fd__law_run, F__law_run, fd__law_texts, F__law_texts, fd__law_table, F__law_table, fd__law_spoilt, F__law_spoilt, fd__law_coder_right, F__law_coder_right, fd__law_right, F__law_right, fd__law_pot, F__law_pot, fd_law, F_law,
    He.glo_ok X G (c.fact 0),
    He.glo_ok X G (c.fact 1),
    He.glo_ok X G (c.fact 2),
    He.glo_ok X G (c.fact 3),
    He.glo_ok X G (c.fact 4),
    He.glo_ok X G (c.fact 5),
    He.glo_ok X G (c.fact 6),
    He.glo_ok X G (c.fact 7),
    He.glo_ok X G (c.fact 8),
    He.glo_ok X G (c.fact 9),
    He.glo_ok X G (c.fact 10),
    He.glo_ok X G (c.fact 11),
    He.glo_ok X G (c.fact 12),
    He.glo_ok X G (c.fact 13),
    He.glo_ok X G (c.fact 14),
    He.glo_ok X G (c.fact 15),
    He.glo_ok X G (c.fact 16),
    He.glo_ok X G (c.fact 17),
    He.glo_ok X G (c.fact 18),
    He.glo_ok X G (c.fact 19),
    He.glo_ok X G (c.fact 20),
    He.glo_ok X G (c.fact 21),
    He.glo_ok X G (c.fact 22),
    He.glo_ok X G (c.fact 23),
    He.glo_ok X G (c.fact 24),
    He.glo_ok X G (c.fact 25),
    He.glo_ok X G (c.fact 26),
    He.free_ok X G (c.fact 27),
    He.free_ok X G (c.fact 28),
    He.free_ok X G (c.fact 29),
    He.free_ok X G (c.fact 30),
    He.free_ok X G (c.fact 31),
    He.free_ok X G (c.fact 32),
    He.free_ok X G (c.fact 33),
    He.free_ok X G (c.fact 34),
    He.free_ok X G (c.fact 35),
    He.free_ok X G (c.fact 36),
    He.free_ok X G (c.fact 37),
    He.free_ok X G (c.fact 38),
    He.free_ok X G (c.fact 39),
    He.free_ok X G (c.fact 40),
    He.free_ok X G (c.fact 41),
    He.int_ok X G (c.fact 42),
    He.int_ok X G (c.fact 43),
    He.int_ok X G (c.fact 44),
    He.str_ok X G (c.fact 45),
    He.cls_ok (c.fact 46),
    He.cls_ok (c.fact 47),
    He.noat_ok (c.fact 48),
    He.noat_ok (c.fact 49),
    He.noat_ok (c.fact 50),
    He.noat_ok (c.fact 51),
    He.noat_ok (c.fact 52),
    He.meth_ok (c.fact 53),
    He.mkr_ok (c.fact 54),
    He.mkr_ok (c.fact 55),
    prop_ok (c.fact 56),
    prop_ok (c.fact 57),
    prop_ok (c.fact 58),
    prop_ok (c.fact 59),
    clsI_ok (c.fact 60),
    clsI_ok (c.fact 61),
    kit_ok (c.fact 62),
    kit_ok (c.fact 63),
    cread_ok (c.fact 64),
    cval_ok (c.fact 65)⟩⟩
theorem holds (hlaw : ∀ (K : PySem.W.Frag) (ns : List Int), ns.length ≤ 63 → ∃ d, F_law K [.scr ns] = .ok (.bl true, d)) : PySem.Challenge.rw_barredrows_k83_whole_texts_still_open.Holds := by
  w_on; o_law
  refine HandSHeadRun.head_any (r := PySem.W.OpenLaw.row PySem.Challenge.rw_barredrows_k83_whole_texts_still_open) (q := PySem.W.view (PySem.W.OpenLaw.row PySem.Challenge.rw_barredrows_k83_whole_texts_still_open).prog [55]) (H := hk) (ob := ob) (M := 6000) (loose := names) (d := HandSHeadRun.topDef (PySem.W.OpenLaw.row PySem.Challenge.rw_barredrows_k83_whole_texts_still_open).prog 55) (kwd := []) ob_eq
    (by kernel_rfl) (fun s => by kernel_rfl) run (by kernel_rfl) (by kernel_rfl) (by kernel_rfl) (by rfl) (by first | assumption | decide +kernel) (by decide +kernel) ⟨rfl, rfl, rfl, rfl, rfl, by decide +kernel⟩ ?hw ?hc
  case hw => w_witness2
  case hc =>
    refine L2.walk_ofEw (l := PySem.Challenge.rw_barredrows_k83_whole_texts_still_open) (n := 63) (k := 10) (x := "_law_script") (CX := fun w => L2.CX (PySem.Challenge.rw_barredrows_k83_whole_texts_still_open).prog w) rfl (by decide) (by kernel_rfl) ⟨rfl, by decide, by decide⟩ ?F (fun w H s e s' z => L2.cx_out z)
    intro w mg fa h Y G hmg0
    obtain ⟨K, KX, c⟩ := Y
    obtain ⟨m⟩ := mOf KX G c
    have hmg : mg ("law" : PySem.Str) = some (.ref fa) := by
      have e : (HandSHeadRun.topDef (PySem.W.OpenLaw.row PySem.Challenge.rw_barredrows_k83_whole_texts_still_open).prog 55).name = ("law" : PySem.Str) := by kernel_rfl
      rw [← e]
      exact hmg0
    have e := hmg.symm.trans m.g_law
    cases e
    have b := FunD.bindsA (ps := ["_law_script"]) m.F_law fun _ _ _ _ _ _ us hl => match us, hl with | [_], _ => rfl
    refine ⟨K, m.fd_law, spF K [false] false (F_law K), KX, fun s v => b s [v] rfl, fun H a ns hl _ hS => ?_, fun base _ _ => ok_law m⟩
    obtain ⟨d, hd⟩ := hlaw K ns hl
    exact sp_law hd hS
end LW
theorem PySem.Challenge.cw_barredrows_k83_whole_texts_still_open_holds : PySem.Challenge.rw_barredrows_k83_whole_texts_still_open.Holds :=
  LW.holds LW.law_ok
