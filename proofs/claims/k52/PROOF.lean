import PyProof.Rows.All
import Wide.All
import OpenK.AllK
import Wide.FinOn
import KE.KStateDown
import Lean
import HandS.ForMost
import HandS.More
import HandS.Walk
import HandS.Defaults
import HandS.Property
import HandS.IsInst
import HandS.Flow
import HandS.Style
import HandS.DictComp
import HandS.Wide
import HandS.WideBits
import HandS.WordsExc
import HandS.ClsMeth
import HandS.Conv
import HandS.TupMul
import HandS.TupLe
import HandS.Head0
import HandS.Head1
import HandS.Head2
import HandS.HeadEnd
import HandS.HeadHook1
import HandS.HeadHook2
import HandS.HeadHook3
import HandS.HeadNt
import HandS.Lambda
import HandS.ForExc
import HandS.ExcInit
import HandS.TryMany
import HandS.Small
import KE.KDictSum
import HandS.Sort
import HandS.RaiseMore
import HandS.FStr
import PyProof.ReprRoads
import KE.KCallOwn
import KE.KFmtOwn
import PySem.Challenge.RW_barredrows_k52_whole_equal_coders
set_option Elab.async false
set_option linter.all false
set_option maxRecDepth 100000
set_option maxHeartbeats 4000000
namespace BR
open PySem L2

/-! ## data -/
inductive D where
  | non | bl (b : Bool) | int (i : Int) | str (x : Str) | ty (n : String) | obj (a : Addr)
  | lst (xs : List D) | tup (xs : List D)
  | dic (ks : List Key) (xs : List D)
  | ins (C : Addr) (ns : List Str) (xs : List D)
  | scr (ns : List Int)

/-- owned trees: some of the things within are owned, too -/
inductive T where
  | fz (d : D) | lst (ts : List T) | dic (ks : List Key) (ts : List T) | ins (C : Addr) (ns : List Str) (ts : List T)
/-- slots -/
inductive Sl where
  | sh (d : D) | own (d : D) | io (d : D) | dp (t : T)
abbrev S := List (Option Sl)
/-- an exception; st: the slots where it was raised -/
structure Exc where
  cls : Value
  ns : List Str
  xs : List D
  st : S

inductive R (α : Type) where
  | ok (a : α) | exc (x : Exc) | no
def R.bind {α β : Type} : R α → (α → R β) → R β
  | .ok a, f => f a
  | .exc x, _ => .exc x
  | .no, _ => .no
instance : Monad R where
  pure := R.ok
  bind := R.bind
section
variable {α β : Type}
@[simp] theorem ok_bind (a : α) (f : α → R β) : (R.ok a >>= f) = f a := rfl
@[simp] theorem exc_bind (x : Exc) (f : α → R β) : (R.exc x >>= f) = R.exc x := rfl
@[simp] theorem no_bind (f : α → R β) : (R.no >>= f) = R.no := rfl
theorem pure_ok (a : α) : (pure a : R α) = R.ok a := rfl
def Wp (r : R α) (P : α → Prop) (E : Exc → Prop) : Prop := match r with
  | .ok a => P a
  | .exc x => E x
  | .no => False
theorem Wp.bind {r : R α} {f : α → R β} {P : β → Prop} {E : Exc → Prop} (h : Wp (r >>= f) P E) : Wp r (fun a => Wp (f a) P E) E := by
  cases r <;> exact h
theorem Wp.mono {r : R α} {P P' : α → Prop} {E E' : Exc → Prop} (h : Wp r P E) (hp : ∀ a, r = .ok a → P a → P' a) (he : ∀ x, r = .exc x → E x → E' x) : Wp r P' E' := by
  cases r with
  | ok a => exact hp a rfl h
  | exc x => exact he x rfl h
  | no => exact h
def ofO {α : Type} : Option α → R α
  | some a => .ok a
  | none => .no
@[simp] theorem ofO_some {α : Type} (a : α) : ofO (some a) = .ok a := rfl
@[simp] theorem ofO_none {α : Type} : (ofO none : R α) = .no := rfl
theorem Wp.opt {o : Option α} {f : α → R β} {P : β → Prop} {E : Exc → Prop} (h : Wp (ofO o >>= f) P E) : ∃ a, o = some a ∧ Wp (f a) P E := by
  cases o with
  | none => exact h.elim
  | some a => exact ⟨a, rfl, h⟩
theorem Wp.of_ok {r : R α} {P : α → Prop} {E : Exc → Prop} {a : α} (e : r = .ok a) (h : P a) : Wp r P E := by
  rw [e]
  exact h
end

mutual
def Rep (K : PySem.W.Frag) (G : Hp) : D → V → Prop
  | .non, v => v = .non
  | .bl b, v => v = .bl b
  | .int i, v => v = .int i
  | .str x, v => v = .str x
  | .ty n, v => v = .ty n
  | .obj a, v => v = .ref a
  | .lst ds, v => ∃ a vs, v = .ref a ∧ G a = some (.lst vs) ∧ RepL K G ds vs
  | .scr ns, v => ∃ a, v = .ref a ∧ SqL K G a (ns.map V.int)
  | .tup ds, v => ∃ a vs, v = .ref a ∧ SqT K G a vs ∧ RepL K G ds vs
  | .dic ks ds, v => ∃ a kvs, v = .ref a ∧ Rd G a (.dK kvs) ∧ kvs.map (·.1) = ks ∧ RepL K G ds (kvs.map (·.2))
  | .ins C ns ds, v => ∃ a dx fs, v = .ref a ∧ G a = some (.ins C dx fs) ∧ fs.map (·.1) = ns ∧ RepL K G ds (fs.map (·.2))
def RepL (K : PySem.W.Frag) (G : Hp) : List D → List V → Prop
  | [], vs => vs = []
  | d :: ds, vs => ∃ v vs', vs = v :: vs' ∧ Rep K G d v ∧ RepL K G ds vs'
end

theorem sq_l {K : PySem.W.Frag} {G G' : Hp} (e : Same G G') {a : Addr} {vs : List V} (h : SqL K G a vs) : SqL K G' a vs := e.seq h
theorem rd_s {G G' : Hp} (e : Same G G') {a : Addr} {u : HO} (h : Rd G a u) : Rd G' a u := by
  rcases h with h | ⟨o, h⟩
  · exact .inl (e _ _ h)
  · exact .inr ⟨o, e _ _ h⟩
theorem sq_t {K : PySem.W.Frag} {G G' : Hp} (e : Same G G') {a : Addr} {vs : List V} (h : SqT K G a vs) : SqT K G' a vs := by
  rcases h with h | h
  · exact .inl (rd_s e h)
  · exact .inr h

mutual
theorem Rep.mono {K : PySem.W.Frag} {G G' : Hp} (e : Same G G') : ∀ (d : D) {v : V}, Rep K G d v → Rep K G' d v
  | .non, _, h => by unfold Rep at h ⊢; exact h
  | .bl b, _, h => by unfold Rep at h ⊢; exact h
  | .int i, _, h => by unfold Rep at h ⊢; exact h
  | .str x, _, h => by unfold Rep at h ⊢; exact h
  | .ty n, _, h => by unfold Rep at h ⊢; exact h
  | .obj a, _, h => by unfold Rep at h ⊢; exact h
  | .lst ds, _, h => by
    unfold Rep at h ⊢
    obtain ⟨a, vs, e1, e2, e3⟩ := h
    exact ⟨a, vs, e1, e _ _ e2, RepL.mono e ds e3⟩
  | .scr ns, _, h => by
    unfold Rep at h ⊢
    obtain ⟨a, e1, e2⟩ := h
    exact ⟨a, e1, sq_l e e2⟩
  | .tup ds, _, h => by
    unfold Rep at h ⊢
    obtain ⟨a, vs, e1, e2, e3⟩ := h
    exact ⟨a, vs, e1, sq_t e e2, RepL.mono e ds e3⟩
  | .dic ks ds, _, h => by
    unfold Rep at h ⊢
    obtain ⟨a, kvs, e1, e2, e3, e4⟩ := h
    exact ⟨a, kvs, e1, rd_s e e2, e3, RepL.mono e ds e4⟩
  | .ins C ns ds, _, h => by
    unfold Rep at h ⊢
    obtain ⟨a, dx, fs, e1, e2, e3, e4⟩ := h
    exact ⟨a, dx, fs, e1, e _ _ e2, e3, RepL.mono e ds e4⟩
theorem RepL.mono {K : PySem.W.Frag} {G G' : Hp} (e : Same G G') : ∀ (ds : List D) {vs : List V}, RepL K G ds vs → RepL K G' ds vs
  | [], _, h => by unfold RepL at h ⊢; exact h
  | d :: ds, _, h => by
    unfold RepL at h ⊢
    obtain ⟨v, vs', e1, e2, e3⟩ := h
    exact ⟨v, vs', e1, Rep.mono e d e2, RepL.mono e ds e3⟩
end
section
variable {K : PySem.W.Frag} {G : Hp}
theorem repL_nil {vs : List V} : RepL K G [] vs ↔ vs = [] := by unfold RepL; exact Iff.rfl
theorem repL_cons {d : D} {ds : List D} {vs : List V} : RepL K G (d :: ds) vs ↔ ∃ v vs', vs = v :: vs' ∧ Rep K G d v ∧ RepL K G ds vs' := by
  constructor
  · intro h; unfold RepL at h; exact h
  · intro h; unfold RepL; exact h
theorem RepL.nil : RepL K G [] [] := repL_nil.mpr rfl
theorem RepL.cons {d : D} {ds : List D} {v : V} {vs : List V} (a : Rep K G d v) (b : RepL K G ds vs) : RepL K G (d :: ds) (v :: vs) := repL_cons.mpr ⟨v, vs, rfl, a, b⟩
theorem RepL.length : ∀ {ds : List D} {vs : List V}, RepL K G ds vs → ds.length = vs.length
  | [], vs, h => by rw [repL_nil.mp h]; rfl
  | d :: ds, vs, h => by
    obtain ⟨v, vs', rfl, _, h⟩ := repL_cons.mp h
    simp [RepL.length h]
theorem RepL.append : ∀ {ds es : List D} {vs ws : List V}, RepL K G ds vs → RepL K G es ws → RepL K G (ds ++ es) (vs ++ ws)
  | [], _, _, _, h, h2 => by rw [repL_nil.mp h]; exact h2
  | d :: ds, es, vs, ws, h, h2 => by
    obtain ⟨v, vs', rfl, h1, h⟩ := repL_cons.mp h
    exact .cons h1 (RepL.append h h2)
theorem RepL.get : ∀ {ds : List D} {vs : List V} {i : Nat} {d : D}, RepL K G ds vs → ds[i]? = some d → ∃ v, vs[i]? = some v ∧ Rep K G d v
  | [], _, _, _, _, e => by simp at e
  | d :: ds, vs, i, d', h, e => by
    obtain ⟨v, vs', rfl, h1, h⟩ := repL_cons.mp h
    cases i with
    | zero => simp at e; subst e; exact ⟨v, rfl, h1⟩
    | succ i => simp at e; simpa using RepL.get h e
theorem RepL.getV : ∀ {ds : List D} {vs : List V} {i : Nat} {v : V}, RepL K G ds vs → vs[i]? = some v → ∃ d, ds[i]? = some d ∧ Rep K G d v
  | [], vs, i, v, h, e => by rw [repL_nil.mp h] at e; simp at e
  | d :: ds, vs, i, v', h, e => by
    obtain ⟨v, vs', rfl, h1, h⟩ := repL_cons.mp h
    cases i with
    | zero => simp at e; subst e; exact ⟨d, rfl, h1⟩
    | succ i => simp at e; simpa using RepL.getV h e
theorem RepL.take : ∀ {ds : List D} {vs : List V} (n : Nat), RepL K G ds vs → RepL K G (ds.take n) (vs.take n)
  | _, _, 0, _ => by simpa using RepL.nil
  | [], vs, n + 1, h => by rw [repL_nil.mp h]; simpa using RepL.nil
  | d :: ds, vs, n + 1, h => by
    obtain ⟨v, vs', rfl, h1, h⟩ := repL_cons.mp h
    exact .cons h1 (RepL.take n h)
theorem RepL.drop : ∀ {ds : List D} {vs : List V} (n : Nat), RepL K G ds vs → RepL K G (ds.drop n) (vs.drop n)
  | _, _, 0, h => h
  | [], vs, n + 1, h => by rw [repL_nil.mp h]; simpa using RepL.nil
  | d :: ds, vs, n + 1, h => by
    obtain ⟨v, vs', rfl, h1, h⟩ := repL_cons.mp h
    exact RepL.drop n h
theorem RepL.set : ∀ {ds : List D} {vs : List V} (i : Nat) {d : D} {v : V}, RepL K G ds vs → Rep K G d v → RepL K G (ds.set i d) (vs.set i v)
  | [], vs, _, _, _, h, _ => by rw [repL_nil.mp h]; exact .nil
  | d :: ds, vs, 0, _, _, h, r => by
    obtain ⟨v, vs', rfl, h1, h⟩ := repL_cons.mp h
    exact .cons r h
  | d :: ds, vs, i + 1, _, _, h, r => by
    obtain ⟨v, vs', rfl, h1, h⟩ := repL_cons.mp h
    exact .cons h1 (RepL.set i h r)
theorem RepL.rep {d : D} {v : V} (h : Rep K G d v) : ∀ n, RepL K G (List.replicate n d) (List.replicate n v)
  | 0 => .nil
  | n + 1 => .cons h (RepL.rep h n)
end

/-! ## the two heaps: G (frozen) within H -/
def Lk (x : Option HO) (o : HO) : Prop := x = some o ∨ ∃ kvs od, o = .dK kvs ∧ x = some (.frz od o)
def Sub (G H : Hp) : Prop := ∀ b o, G b = some o → Lk (H b) o
section
variable {K : PySem.W.Frag} {G H : Hp}
theorem Sub.rd {a : Addr} {u : HO} (s : Sub G H) (h : Rd G a u) : Rd H a u := by
  rcases h with h | ⟨o, h⟩
  · rcases s _ _ h with e | ⟨kvs, od, e1, e⟩
    · exact .inl e
    · exact .inr ⟨od, e⟩
  · rcases s _ _ h with e | ⟨kvs, od, e1, e⟩
    · exact .inr ⟨o, e⟩
    · cases e1
theorem Sub.l {a : Addr} {vs : List V} (s : Sub G H) (h : SqL K G a vs) : SqL K H a vs := by
  rcases h with h | h
  · exact .inl (s.rd h)
  · exact .inr h
theorem Sub.t {a : Addr} {vs : List V} (s : Sub G H) (h : SqT K G a vs) : SqT K H a vs := by
  rcases h with h | h
  · exact .inl (s.rd h)
  · exact .inr h
theorem Sub.i {a C dx : Addr} {fs : List (Str × V)} (s : Sub G H) (h : G a = some (.ins C dx fs)) : H a = some (.ins C dx fs) := by
  rcases s _ _ h with e | ⟨kvs, od, e1, e⟩
  · exact e
  · cases e1
theorem Sub.ls {a : Addr} {vs : List V} (s : Sub G H) (h : G a = some (.lst vs)) : H a = some (.lst vs) := by
  rcases s _ _ h with e | ⟨kvs, od, e1, e⟩
  · exact e
  · cases e1
theorem Sub.none {a : Addr} (s : Sub G H) (h : H a = none) : G a = none := by
  cases e : G a with
  | none => rfl
  | some o =>
    rcases s _ _ e with z | ⟨_, _, _, z⟩
    · rw [h] at z; cases z
    · rw [h] at z; cases z
end

/-- what stands at an owned address -/
def Cont (K : PySem.W.Frag) (G : Hp) : D → HO → Prop
  | .lst ds, o => ∃ vs, o = .lst vs ∧ RepL K G ds vs
  | .dic ks ds, o => ∃ kvs, o = .dK kvs ∧ kvs.map (·.1) = ks ∧ RepL K G ds (kvs.map (·.2))
  | .ins C ns ds, o => ∃ dx fs, o = .ins C dx fs ∧ fs.map (·.1) = ns ∧ RepL K G ds (fs.map (·.2))
  | _, _ => False
theorem Cont.mono {K : PySem.W.Frag} {G G' : Hp} (e : Same G G') {d : D} {o : HO} (h : Cont K G d o) : Cont K G' d o := by
  cases d with
  | lst ds => obtain ⟨vs, e1, e2⟩ := h; exact ⟨vs, e1, e2.mono e⟩
  | dic ks ds => obtain ⟨kvs, e1, e2, e3⟩ := h; exact ⟨kvs, e1, e2, e3.mono e⟩
  | ins C ns ds => obtain ⟨dx, fs, e1, e2, e3⟩ := h; exact ⟨dx, fs, e1, e2, e3.mono e⟩
  | _ => exact h.elim
/-- what is frozen at p is represented -/
theorem Cont.rep {K : PySem.W.Frag} {G : Hp} {d : D} {o : HO} {p : Addr} (hp : G p = some o) (h : Cont K G d o) : Rep K G d (.ref p) := by
  cases d with
  | lst ds => obtain ⟨vs, rfl, e2⟩ := h; unfold Rep; exact ⟨p, vs, rfl, hp, e2⟩
  | dic ks ds => obtain ⟨kvs, rfl, e2, e3⟩ := h; unfold Rep; exact ⟨p, kvs, rfl, .inl hp, e2, e3⟩
  | ins C ns ds => obtain ⟨dx, fs, rfl, e2, e3⟩ := h; unfold Rep; exact ⟨p, dx, fs, rfl, hp, e2, e3⟩
  | _ => exact h.elim
def OwnAt (K : PySem.W.Frag) (G H : Hp) (a : Addr) (d : D) : Prop := G a = none ∧ ∃ o, H a = some o ∧ Cont K G d o

/-! ## owned trees -/
mutual
@[simp] def T.d : T → D
  | .fz d => d
  | .lst ts => .lst (T.ds ts)
  | .dic ks ts => .dic ks (T.ds ts)
  | .ins C ns ts => .ins C ns (T.ds ts)
@[simp] def T.ds : List T → List D
  | [] => []
  | t :: ts => t.d :: T.ds ts
end
mutual
def fp (H : Hp) : T → V → List Addr
  | .fz _, _ => []
  | .lst ts, v => match v with
    | .ref a => a :: (match H a with
      | some (.lst vs) => fpL H ts vs
      | _ => [])
    | _ => []
  | .dic _ ts, v => match v with
    | .ref a => a :: (match H a with
      | some (.dK kvs) => fpL H ts (kvs.map (·.2))
      | _ => [])
    | _ => []
  | .ins _ _ ts, v => match v with
    | .ref a => a :: (match H a with
      | some (.ins _ _ fs) => fpL H ts (fs.map (·.2))
      | _ => [])
    | _ => []
def fpL (H : Hp) : List T → List V → List Addr
  | [], _ => []
  | t :: ts, vs => match vs with
    | v :: vs' => fp H t v ++ fpL H ts vs'
    | [] => []
end
mutual
def Own (K : PySem.W.Frag) (G H : Hp) : T → V → Prop
  | .fz d, v => Rep K G d v
  | .lst ts, v => ∃ a vs, v = .ref a ∧ G a = none ∧ H a = some (.lst vs) ∧ OwnL K G H ts vs
  | .dic ks ts, v => ∃ a kvs, v = .ref a ∧ G a = none ∧ H a = some (.dK kvs) ∧ kvs.map (·.1) = ks ∧ OwnL K G H ts (kvs.map (·.2))
  | .ins C ns ts, v => ∃ a dx fs, v = .ref a ∧ G a = none ∧ H a = some (.ins C dx fs) ∧ fs.map (·.1) = ns ∧ OwnL K G H ts (fs.map (·.2))
def OwnL (K : PySem.W.Frag) (G H : Hp) : List T → List V → Prop
  | [], vs => vs = []
  | t :: ts, vs => ∃ v vs', vs = v :: vs' ∧ Own K G H t v ∧ OwnL K G H ts vs'
end
section
variable {K : PySem.W.Frag} {G H G' H' : Hp}
theorem fp_lst {ts : List T} {a : Addr} {vs : List V} (h : H a = some (.lst vs)) : fp H (.lst ts) (.ref a) = a :: fpL H ts vs := by
  unfold fp; simp only [h]
theorem fp_dic {ts : List T} {ks : List Key} {a : Addr} {kvs : List (Key × V)} (h : H a = some (.dK kvs)) : fp H (.dic ks ts) (.ref a) = a :: fpL H ts (kvs.map (·.2)) := by
  unfold fp; simp only [h]
theorem fp_ins {ts : List T} {C dx : Addr} {ns : List Str} {a : Addr} {fs : List (Str × V)} (h : H a = some (.ins C dx fs)) : fp H (.ins C ns ts) (.ref a) = a :: fpL H ts (fs.map (·.2)) := by
  unfold fp; simp only [h]
theorem fp_fz {d : D} {v : V} : fp H (.fz d) v = [] := by unfold fp; rfl
theorem fpL_cons {t : T} {ts : List T} {v : V} {vs : List V} : fpL H (t :: ts) (v :: vs) = fp H t v ++ fpL H ts vs := by
  rw [fpL]
theorem fpL_nil {vs : List V} : fpL H [] vs = [] := by rw [fpL]
mutual
theorem Own.in_ : ∀ (t : T) {v : V}, Own K G H t v → ∀ a ∈ fp H t v, G a = none ∧ H a ≠ none
  | .fz d, v, _, a, m => by rw [fp_fz] at m; cases m
  | .lst ts, v, h, a, m => by
    unfold Own at h
    obtain ⟨b, vs, rfl, h1, h2, h3⟩ := h
    rw [fp_lst h2] at m
    rcases List.mem_cons.mp m with rfl | m
    · exact ⟨h1, by rw [h2]; simp⟩
    · exact OwnL.in_ ts h3 a m
  | .dic ks ts, v, h, a, m => by
    unfold Own at h
    obtain ⟨b, vs, rfl, h1, h2, _, h3⟩ := h
    rw [fp_dic h2] at m
    rcases List.mem_cons.mp m with rfl | m
    · exact ⟨h1, by rw [h2]; simp⟩
    · exact OwnL.in_ ts h3 a m
  | .ins C ns ts, v, h, a, m => by
    unfold Own at h
    obtain ⟨b, dx, vs, rfl, h1, h2, _, h3⟩ := h
    rw [fp_ins h2] at m
    rcases List.mem_cons.mp m with rfl | m
    · exact ⟨h1, by rw [h2]; simp⟩
    · exact OwnL.in_ ts h3 a m
theorem OwnL.in_ : ∀ (ts : List T) {vs : List V}, OwnL K G H ts vs → ∀ a ∈ fpL H ts vs, G a = none ∧ H a ≠ none
  | [], vs, _, a, m => by rw [fpL_nil] at m; cases m
  | t :: ts, vs, h, a, m => by
    unfold OwnL at h
    obtain ⟨v, vs', rfl, h1, h2⟩ := h
    rw [fpL_cons] at m
    rcases List.mem_append.mp m with m | m
    · exact Own.in_ t h1 a m
    · exact OwnL.in_ ts h2 a m
end
mutual
theorem Own.go (e : Same G G') : ∀ (t : T) {v : V}, Own K G H t v → (∀ a ∈ fp H t v, H' a = H a ∧ G' a = none) → Own K G' H' t v ∧ fp H' t v = fp H t v
  | .fz d, v, h, k => by
    unfold Own at h ⊢
    exact ⟨h.mono e, by rw [fp_fz, fp_fz]⟩
  | .lst ts, v, h, k => by
    unfold Own at h ⊢
    obtain ⟨b, vs, rfl, h1, h2, h3⟩ := h
    rw [fp_lst h2] at k
    obtain ⟨k1, k2⟩ := k b List.mem_cons_self
    obtain ⟨o, f⟩ := OwnL.go e ts h3 fun a m => k a (List.mem_cons_of_mem _ m)
    rw [h2] at k1
    exact ⟨⟨b, vs, rfl, k2, k1, o⟩, by rw [fp_lst k1, fp_lst h2, f]⟩
  | .dic ks ts, v, h, k => by
    unfold Own at h ⊢
    obtain ⟨b, vs, rfl, h1, h2, h4, h3⟩ := h
    rw [fp_dic h2] at k
    obtain ⟨k1, k2⟩ := k b List.mem_cons_self
    obtain ⟨o, f⟩ := OwnL.go e ts h3 fun a m => k a (List.mem_cons_of_mem _ m)
    rw [h2] at k1
    exact ⟨⟨b, vs, rfl, k2, k1, h4, o⟩, by rw [fp_dic k1, fp_dic h2, f]⟩
  | .ins C ns ts, v, h, k => by
    unfold Own at h ⊢
    obtain ⟨b, dx, vs, rfl, h1, h2, h4, h3⟩ := h
    rw [fp_ins h2] at k
    obtain ⟨k1, k2⟩ := k b List.mem_cons_self
    obtain ⟨o, f⟩ := OwnL.go e ts h3 fun a m => k a (List.mem_cons_of_mem _ m)
    rw [h2] at k1
    exact ⟨⟨b, dx, vs, rfl, k2, k1, h4, o⟩, by rw [fp_ins k1, fp_ins h2, f]⟩
theorem OwnL.go (e : Same G G') : ∀ (ts : List T) {vs : List V}, OwnL K G H ts vs → (∀ a ∈ fpL H ts vs, H' a = H a ∧ G' a = none) → OwnL K G' H' ts vs ∧ fpL H' ts vs = fpL H ts vs
  | [], vs, h, k => by
    unfold OwnL at h ⊢
    exact ⟨h, by rw [fpL_nil, fpL_nil]⟩
  | t :: ts, vs, h, k => by
    unfold OwnL at h ⊢
    obtain ⟨v, vs', rfl, h1, h2⟩ := h
    rw [fpL_cons] at k
    obtain ⟨o1, f1⟩ := Own.go e t h1 fun a m => k a (List.mem_append_left _ m)
    obtain ⟨o2, f2⟩ := OwnL.go e ts h2 fun a m => k a (List.mem_append_right _ m)
    exact ⟨⟨v, vs', rfl, o1, o2⟩, by rw [fpL_cons, fpL_cons, f1, f2]⟩
end
/-- the frozen heap, with all of A -/
def frzA (G H : Hp) (A : List Addr) : Hp := fun b => if b ∈ A then H b else G b
theorem frzA_in {A : List Addr} {b : Addr} (h : b ∈ A) : frzA G H A b = H b := by unfold frzA; rw [if_pos h]
theorem frzA_out {A : List Addr} {b : Addr} (h : b ∉ A) : frzA G H A b = G b := by unfold frzA; rw [if_neg h]
theorem frzA_same {A : List Addr} (h : ∀ a ∈ A, G a = none) : Same G (frzA G H A) := fun b o e => by
  have : b ∉ A := fun m => by rw [h b m] at e; cases e
  rw [frzA_out this]; exact e
mutual
theorem Own.rep {G2 : Hp} (e : Same G G2) : ∀ (t : T) {v : V}, Own K G H t v → (∀ a ∈ fp H t v, G2 a = H a) → Rep K G2 t.d v
  | .fz d, v, h, k => by
    unfold Own at h
    unfold T.d
    exact h.mono e
  | .lst ts, v, h, k => by
    unfold Own at h
    obtain ⟨b, vs, rfl, h1, h2, h3⟩ := h
    rw [fp_lst h2] at k
    unfold T.d Rep
    exact ⟨b, vs, rfl, (k b List.mem_cons_self).trans h2, OwnL.rep e ts h3 fun a m => k a (List.mem_cons_of_mem _ m)⟩
  | .dic ks ts, v, h, k => by
    unfold Own at h
    obtain ⟨b, vs, rfl, h1, h2, h4, h3⟩ := h
    rw [fp_dic h2] at k
    unfold T.d Rep
    exact ⟨b, vs, rfl, .inl ((k b List.mem_cons_self).trans h2), h4, OwnL.rep e ts h3 fun a m => k a (List.mem_cons_of_mem _ m)⟩
  | .ins C ns ts, v, h, k => by
    unfold Own at h
    obtain ⟨b, dx, vs, rfl, h1, h2, h4, h3⟩ := h
    rw [fp_ins h2] at k
    unfold T.d Rep
    exact ⟨b, dx, vs, rfl, (k b List.mem_cons_self).trans h2, h4, OwnL.rep e ts h3 fun a m => k a (List.mem_cons_of_mem _ m)⟩
theorem OwnL.rep {G2 : Hp} (e : Same G G2) : ∀ (ts : List T) {vs : List V}, OwnL K G H ts vs → (∀ a ∈ fpL H ts vs, G2 a = H a) → RepL K G2 (T.ds ts) vs
  | [], vs, h, k => by
    unfold OwnL at h
    unfold T.ds RepL
    exact h
  | t :: ts, vs, h, k => by
    unfold OwnL at h
    obtain ⟨v, vs', rfl, h1, h2⟩ := h
    rw [fpL_cons] at k
    unfold T.ds RepL
    exact ⟨v, vs', rfl, Own.rep e t h1 fun a m => k a (List.mem_append_left _ m), OwnL.rep e ts h2 fun a m => k a (List.mem_append_right _ m)⟩
end

/-! ### flat trees, paths -/
@[simp] def T.isFz : T → Bool
  | .fz _ => true
  | _ => false
@[simp] def T.flat : T → Bool
  | .fz _ => false
  | .lst ts => ts.all T.isFz
  | .dic _ ts => ts.all T.isFz
  | .ins _ _ ts => ts.all T.isFz
@[simp] def T.kids : T → List T
  | .fz _ => []
  | .lst ts => ts
  | .dic _ ts => ts
  | .ins _ _ ts => ts
@[simp] def T.at : T → List Nat → Option T
  | t, [] => some t
  | t, k :: p => t.kids[k]?.bind fun u => u.at p
@[simp] def T.setKids : T → List T → T
  | .fz d, _ => .fz d
  | .lst _, ts => .lst ts
  | .dic ks _, ts => .dic ks ts
  | .ins C ns _, ts => .ins C ns ts
@[simp] def T.put : T → List Nat → T → T
  | _, [], u => u
  | t, k :: p, u => match t.kids[k]? with
    | some x => t.setKids (t.kids.set k (x.put p u))
    | none => t
def vkids : HO → List V
  | .lst vs => vs
  | .dK kvs => kvs.map (·.2)
  | .ins _ _ fs => fs.map (·.2)
  | _ => []
/-- the path p leads from the tree t at w to v -/
def At (H : Hp) : T → V → List Nat → V → Prop
  | _, w, [], v => v = w
  | t, w, k :: p, v => ∃ a o t' w', w = .ref a ∧ H a = some o ∧ t.kids[k]? = some t' ∧ (vkids o)[k]? = some w' ∧ At H t' w' p v
theorem ownL_fz : ∀ {ts : List T} {vs : List V}, ts.all T.isFz = true → OwnL K G H ts vs → RepL K G (T.ds ts) vs
  | [], vs, _, h => by unfold OwnL at h; unfold T.ds RepL; exact h
  | t :: ts, vs, hf, h => by
    unfold OwnL at h
    obtain ⟨v, vs', rfl, h1, h2⟩ := h
    rw [List.all_cons, Bool.and_eq_true] at hf
    unfold T.ds RepL
    refine ⟨v, vs', rfl, ?_, ownL_fz hf.2 h2⟩
    cases t with
    | fz d => unfold Own at h1; unfold T.d; exact h1
    | _ => exact absurd hf.1 (by simp)
theorem own_flat {t : T} {v : V} (hf : t.flat = true) (h : Own K G H t v) : ∃ a, v = .ref a ∧ OwnAt K G H a t.d := by
  cases t with
  | fz d => cases hf
  | lst ts =>
    unfold Own at h
    obtain ⟨a, vs, rfl, h1, h2, h3⟩ := h
    exact ⟨a, rfl, h1, _, h2, vs, rfl, ownL_fz hf h3⟩
  | dic ks ts =>
    unfold Own at h
    obtain ⟨a, kvs, rfl, h1, h2, h4, h3⟩ := h
    exact ⟨a, rfl, h1, _, h2, kvs, rfl, h4, ownL_fz hf h3⟩
  | ins C ns ts =>
    unfold Own at h
    obtain ⟨a, dx, fs, rfl, h1, h2, h4, h3⟩ := h
    exact ⟨a, rfl, h1, _, h2, dx, fs, rfl, h4, ownL_fz hf h3⟩
theorem ownL_get : ∀ {ts : List T} {vs : List V} {k : Nat} {v : V}, OwnL K G H ts vs → vs[k]? = some v → ∃ t, ts[k]? = some t ∧ Own K G H t v ∧ ∀ a ∈ fp H t v, a ∈ fpL H ts vs
  | [], vs, k, v, h, e => by unfold OwnL at h; subst h; simp at e
  | t :: ts, vs, k, v, h, e => by
    unfold OwnL at h
    obtain ⟨w, vs', rfl, h1, h2⟩ := h
    cases k with
    | zero => simp at e; subst e; exact ⟨t, rfl, h1, fun a m => by rw [fpL_cons]; exact List.mem_append_left _ m⟩
    | succ k =>
      simp at e
      obtain ⟨u, e1, h3, h4⟩ := ownL_get h2 e
      exact ⟨u, by simpa using e1, h3, fun a m => by rw [fpL_cons]; exact List.mem_append_right _ (h4 a m)⟩
theorem ownL_len : ∀ {ts : List T} {vs : List V}, OwnL K G H ts vs → ts.length = vs.length
  | [], vs, h => by unfold OwnL at h; subst h; rfl
  | t :: ts, vs, h => by
    unfold OwnL at h
    obtain ⟨w, vs', rfl, _, h2⟩ := h
    simp [ownL_len h2]
/-- an owned node -/
theorem own_node {t : T} {a : Addr} {o : HO} (h : Own K G H t (.ref a)) (ho : H a = some o) (hz : t.isFz = false) : G a = none ∧ OwnL K G H t.kids (vkids o) ∧ fp H t (.ref a) = a :: fpL H t.kids (vkids o) := by
  cases t with
  | fz d => cases hz
  | lst ts =>
    unfold Own at h
    obtain ⟨b, vs, e, h1, h2, h3⟩ := h
    cases e
    rw [ho] at h2; cases h2
    exact ⟨h1, h3, fp_lst ho⟩
  | dic ks ts =>
    unfold Own at h
    obtain ⟨b, kvs, e, h1, h2, _, h3⟩ := h
    cases e
    rw [ho] at h2; cases h2
    exact ⟨h1, h3, fp_dic ho⟩
  | ins C ns ts =>
    unfold Own at h
    obtain ⟨b, dx, fs, e, h1, h2, _, h3⟩ := h
    cases e
    rw [ho] at h2; cases h2
    exact ⟨h1, h3, fp_ins ho⟩
theorem own_at : ∀ (p : List Nat) {t : T} {w v : V}, Own K G H t w → At H t w p v → ∃ t0, t.at p = some t0 ∧ Own K G H t0 v ∧ ∀ a ∈ fp H t0 v, a ∈ fp H t w
  | [], t, w, v, h, e => by
    have e' : v = w := e
    subst e'
    exact ⟨t, by cases t <;> rfl, h, fun _ m => m⟩
  | k :: p, t, w, v, h, e => by
    obtain ⟨a, o, t', w', rfl, ho, hk, hv, e⟩ := e
    have hz : t.isFz = false := by
      cases t with
      | fz d => simp at hk
      | _ => rfl
    obtain ⟨_, h2, h3⟩ := own_node h ho hz
    obtain ⟨u, e1, h4, h5⟩ := ownL_get h2 hv
    rw [hk] at e1; cases e1
    obtain ⟨t0, e2, h6, h7⟩ := own_at p h4 e
    refine ⟨t0, ?_, h6, fun b m => by rw [h3]; exact List.mem_cons_of_mem _ (h5 b (h7 b m))⟩
    have : t.at (k :: p) = t.kids[k]?.bind fun u => u.at p := by cases t <;> rfl
    rw [this, hk]; exact e2
theorem at_go : ∀ (p : List Nat) {t : T} {w v : V}, Own K G H t w → (∀ a ∈ fp H t w, H' a = H a) → At H t w p v → At H' t w p v
  | [], _, _, _, _, _, e => e
  | k :: p, t, w, v, h, hk, e => by
    obtain ⟨a, o, t', w', rfl, ho, ht, hv, e⟩ := e
    have hz : t.isFz = false := by
      cases t with
      | fz d => simp at ht
      | _ => rfl
    obtain ⟨_, h2, h3⟩ := own_node h ho hz
    obtain ⟨u, e1, h4, h5⟩ := ownL_get h2 hv
    rw [ht] at e1; cases e1
    exact ⟨a, o, t', w', rfl, by rw [hk a (by rw [h3]; exact List.mem_cons_self)]; exact ho, ht, hv, at_go p h4 (fun b m => hk b (by rw [h3]; exact List.mem_cons_of_mem _ (h5 b m))) e⟩
end

/-! ## slots -/
@[simp] def Sl.d : Sl → D
  | .sh d => d
  | .own d => d
  | .io d => d
  | .dp t => t.d
def isMut (ρ : S) (i : Nat) : Prop := ∃ d, ρ[i]? = some (some (.own d)) ∨ ρ[i]? = some (some (.io d))
def isIo (ρ : S) (i : Nat) : Prop := ∃ d, ρ[i]? = some (some (.io d))
def SlR (K : PySem.W.Frag) (G H : Hp) (x : Option (Option V)) : Sl → Prop
  | .sh d => ∃ v, x = some (some v) ∧ Rep K G d v
  | .own d => ∃ a, x = some (some (.ref a)) ∧ OwnAt K G H a d
  | .io d => ∃ a, x = some (some (.ref a)) ∧ OwnAt K G H a d
  | .dp t => ∃ v, x = some (some v) ∧ Own K G H t v ∧ (fp H t v).Nodup
/-- an address of a slot with an owned tree -/
def dpa (H : Hp) (σ : St) (ρ : S) (a : Addr) : Prop := ∃ (i : Nat) (t : T) (v : V), ρ[i]? = some (some (Sl.dp t)) ∧ σ[i]? = some (some v) ∧ a ∈ fp H t v
def ads (H : Hp) (σ : St) (ρ : S) (a : Addr) : Prop := (∃ i, isMut ρ i ∧ σ[i]? = some (some (.ref a))) ∨ dpa H σ ρ a
/-- the trees stand apart -/
structure DpR (H : Hp) (σ : St) (ρ : S) : Prop where
  dd : ∀ (i j : Nat) (t u : T) (v w : V) (a : Addr), ρ[i]? = some (some (Sl.dp t)) → σ[i]? = some (some v) → ρ[j]? = some (some (Sl.dp u)) → σ[j]? = some (some w) → a ∈ fp H t v → a ∈ fp H u w → i = j
  ds : ∀ (a : Addr) (i : Nat), dpa H σ ρ a → isMut ρ i → σ[i]? ≠ some (some (.ref a))
structure Rel (K : PySem.W.Frag) (G H : Hp) (σ : St) (ρ : S) : Prop where
  len : ρ.length = σ.length
  sub : Sub G H
  sl : ∀ (i : Nat) (s : Sl), ρ[i]? = some (some s) → SlR K G H σ[i]? s
  dis : ∀ (i j : Nat) (a : Addr), isMut ρ i → isMut ρ j → σ[i]? = some (some (.ref a)) → σ[j]? = some (some (.ref a)) → i = j
  dp : DpR H σ ρ
structure Stp (A : Addr → Prop) (G H G' H' : Hp) : Prop where
  gg : Same G G'
  keep : ∀ b o, H b = some o → ¬ A b → H' b = some o
  thr : ∀ b, H' b = none → H b = none
  fr : ∀ b, H b ≠ none → ¬ A b → G b = none → G' b = none
  tb : ∀ T, LamX.Tabs T H → LamX.Tabs T H'
structure Ker (ρ ρ' : S) : Prop where
  mu : ∀ i, isMut ρ' i → isMut ρ i
  io : ∀ i, isIo ρ i → isIo ρ' i
  dp : ∀ (i : Nat) (t : T), ρ'[i]? = some (some (Sl.dp t)) → ρ[i]? = some (some (Sl.dp t))
structure Out (K : PySem.W.Frag) (G H : Hp) (σ : St) (ρ : S) (G' H' : Hp) (ρ' : S) : Prop where
  rel : Rel K G' H' σ ρ'
  stp : Stp (ads H σ ρ) G H G' H'
  ker : Ker ρ ρ'
  nw : ∀ a, ads H' σ ρ' a → H a ≠ none → ads H σ ρ a
  tre : ∀ a, dpa H σ ρ a → H' a = H a
  rel0 : Rel K G H σ ρ
section
variable {K : PySem.W.Frag} {G H G1 H1 G2 H2 : Hp} {σ : St} {ρ ρ1 ρ2 : S} {A A1 : Addr → Prop}
theorem Stp.refl : Stp A G H G H := ⟨Same.refl _, fun _ _ h _ => h, fun _ h => h, fun _ _ _ h => h, fun _ h => h⟩
/-- a thing that only grows: a table of code objects, a code object -/
def Stat (o : HO) : Prop := (∃ ps, o = .tbl ps) ∨ ∃ c q, o = LamX.CodeO c q
theorem tabs_stat {H H' : Hp} (h : ∀ b o, H b = some o → Stat o → H' b = some o) (T : List (Addr × Str)) (t : LamX.Tabs T H) : LamX.Tabs T H' := fun p hp => by
  obtain ⟨ps, h1, h2, h3⟩ := t p hp
  refine ⟨ps, h _ _ h1 (.inl ⟨ps, rfl⟩), h2, fun pos cv hc => ?_⟩
  obtain ⟨c, e1, e2⟩ := h3 pos cv hc
  exact ⟨c, e1, h _ _ e2 (.inr ⟨_, _, rfl⟩)⟩
theorem cont_stat {K : PySem.W.Frag} {G : Hp} {d : D} {o : HO} (h : Cont K G d o) : ¬ Stat o := by
  cases d with
  | lst ds => obtain ⟨vs, rfl, _⟩ := h; rintro (⟨ps, z⟩ | ⟨c, q, z⟩) <;> (try unfold LamX.CodeO at z) <;> cases z
  | dic ks ds => obtain ⟨vs, rfl, _⟩ := h; rintro (⟨ps, z⟩ | ⟨c, q, z⟩) <;> (try unfold LamX.CodeO at z) <;> cases z
  | ins C ns ds => obtain ⟨dx, vs, rfl, _⟩ := h; rintro (⟨ps, z⟩ | ⟨c, q, z⟩) <;> (try unfold LamX.CodeO at z) <;> cases z
  | _ => exact h.elim
theorem lst_stat {us : List V} : ¬ Stat (.lst us) := by
  rintro (⟨ps, z⟩ | ⟨c, q, z⟩)
  · cases z
  · unfold LamX.CodeO at z; cases z
theorem dK_stat {us : List (Key × V)} : ¬ Stat (.dK us) := by
  rintro (⟨ps, z⟩ | ⟨c, q, z⟩)
  · cases z
  · unfold LamX.CodeO at z; cases z
theorem frz_stat {o : Obj} {u : HO} : ¬ Stat (.frz o u) := by
  rintro (⟨ps, z⟩ | ⟨c, q, z⟩)
  · cases z
  · unfold LamX.CodeO at z; cases z
/-- what is not static at a is changed -/
theorem tabs_upd {H : Hp} {a : Addr} {u : HO} (h : ∀ o, H a = some o → ¬ Stat o) (T : List (Addr × Str)) (t : LamX.Tabs T H) : LamX.Tabs T (upd H a u) :=
  tabs_stat (fun b o e s => by
    by_cases hb : b = a
    · subst hb; exact absurd s (h o e)
    · rw [upd_ne hb]; exact e) T t
theorem Stp.trans (a : Stp A G H G1 H1) (b : Stp A1 G1 H1 G2 H2) (h : ∀ c, H c ≠ none → A1 c → A c) : Stp A G H G2 H2 where
  gg := a.gg.trans b.gg
  keep := fun c o e n => b.keep c o (a.keep c o e n) fun z => n (h c (by rw [e]; simp) z)
  thr := fun c e => a.thr c (b.thr c e)
  fr := fun c e n g => b.fr c (fun z => e (a.thr c z)) (fun z => n (h c e z)) (a.fr c e n g)
  tb := fun T t => b.tb T (a.tb T t)
theorem Stp.mono (a : Stp A G H G1 H1) (h : ∀ c, H c ≠ none → A c → A1 c) : Stp A1 G H G1 H1 :=
  ⟨a.gg, fun b o e n => a.keep b o e fun z => n (h b (by rw [e]; simp) z), a.thr, fun b e n => a.fr b e fun z => n (h b e z), a.tb⟩
theorem Ker.refl : Ker ρ ρ := ⟨fun _ h => h, fun _ h => h, fun _ _ h => h⟩
theorem Ker.trans (a : Ker ρ ρ1) (b : Ker ρ1 ρ2) : Ker ρ ρ2 := ⟨fun i h => a.mu i (b.mu i h), fun i h => b.io i (a.io i h), fun i t h => a.dp i t (b.dp i t h)⟩
theorem Stp.up (a : Stp A G H G1 H1) {c : Addr} (h : H c ≠ none) : H1 c ≠ none := fun z => h (a.thr c z)
/-- the trees stay where their things do -/
theorem Rel.tree (r : Rel K G H σ ρ) {i : Nat} {t : T} (e : ρ[i]? = some (some (Sl.dp t))) : ∃ v, σ[i]? = some (some v) ∧ Own K G H t v ∧ (fp H t v).Nodup := r.sl i _ e
theorem Rel.fp_eq {ρ' : S} {σ' : St} (r : Rel K G H σ ρ) (g : Same G G1) (h : ∀ a, dpa H σ ρ a → H1 a = H a ∧ G1 a = none) (k : ∀ (i : Nat) (t : T), ρ'[i]? = some (some (Sl.dp t)) → ρ[i]? = some (some (Sl.dp t)) ∧ σ'[i]? = σ[i]?) :
    ∀ (i : Nat) (t : T), ρ'[i]? = some (some (Sl.dp t)) → ∃ v, σ'[i]? = some (some v) ∧ Own K G1 H1 t v ∧ (fp H1 t v).Nodup ∧ fp H1 t v = fp H t v ∧ σ[i]? = some (some v) := fun i t e => by
  obtain ⟨k1, k2⟩ := k i t e
  obtain ⟨v, e1, o, nd⟩ := r.tree k1
  obtain ⟨o', f⟩ := o.go g t fun a m => h a ⟨i, t, v, k1, e1, m⟩
  exact ⟨v, k2.trans e1, o', by rw [f]; exact nd, f, e1⟩
theorem Rel.trees {ρ' : S} {σ' : St} (r : Rel K G H σ ρ) (g : Same G G1) (h : ∀ a, dpa H σ ρ a → H1 a = H a ∧ G1 a = none) (k : ∀ (i : Nat) (t : T), ρ'[i]? = some (some (Sl.dp t)) → ρ[i]? = some (some (Sl.dp t)) ∧ σ'[i]? = σ[i]?)
    (m : ∀ (i : Nat) (a : Addr), isMut ρ' i → dpa H σ ρ a → σ'[i]? ≠ some (some (.ref a))) : DpR H1 σ' ρ' ∧ ∀ a, dpa H1 σ' ρ' a → dpa H σ ρ a := by
  have q := r.fp_eq g h k
  have w : ∀ a, dpa H1 σ' ρ' a → dpa H σ ρ a := fun a ⟨i, t, v, e1, e2, hm⟩ => by
    obtain ⟨v', e3, _, _, f, e4⟩ := q i t e1
    rw [e2] at e3; cases e3
    exact ⟨i, t, v, (k i t e1).1, e4, by rw [← f]; exact hm⟩
  refine ⟨⟨fun i j t u v x a e1 e2 e3 e4 m1 m2 => ?_, fun a i h1 h2 => m i a h2 (w a h1)⟩, w⟩
  obtain ⟨v', e5, _, _, f, e6⟩ := q i t e1
  rw [e2] at e5; cases e5
  obtain ⟨x', e7, _, _, f', e8⟩ := q j u e3
  rw [e4] at e7; cases e7
  exact r.dp.dd i j t u v x a (k i t e1).1 e6 (k j u e3).1 e8 (by rw [← f]; exact m1) (by rw [← f']; exact m2)
theorem Rel.dpaH {a : Addr} (r : Rel K G H σ ρ) (h : dpa H σ ρ a) : H a ≠ none ∧ G a = none := by
  obtain ⟨i, t, v, e1, e2, m⟩ := h
  obtain ⟨v', e3, o, _⟩ := r.tree e1
  rw [e2] at e3; cases e3
  exact ⟨(o.in_ t a m).2, (o.in_ t a m).1⟩

theorem Out.refl (r : Rel K G H σ ρ) : Out K G H σ ρ G H ρ := ⟨r, .refl, .refl, fun _ h _ => h, fun _ _ => rfl, r⟩
theorem Out.trans (a : Out K G H σ ρ G1 H1 ρ1) (b : Out K G1 H1 σ ρ1 G2 H2 ρ2) : Out K G H σ ρ G2 H2 ρ2 :=
  ⟨b.rel, a.stp.trans b.stp fun c e z => a.nw c z e, a.ker.trans b.ker, fun c z e => a.nw c (b.nw c z (a.stp.up e)) e, fun c h => by
    have h1 := a.tre c h
    by_cases z : ads H1 σ ρ1 c
    · rcases z with ⟨j, m, e⟩ | z
      · exact absurd e (a.rel0.dp.ds c j h (a.ker.mu j m))
      · rw [b.tre c z, h1]
    · cases e : H1 c with
      | none => rw [h1] at e; exact absurd e (a.rel0.dpaH h).1
      | some u => rw [b.stp.keep c u e z, ← h1, e], a.rel0⟩

/-! ### new objects -/
theorem same_new {p : Addr} {o : HO} (h : G p = none) : Same G (upd G p o) := fun b u e => by
  rw [upd_ne (ne_of_none e h)]
  exact e
theorem lk_ne {x : Option HO} {o : HO} (h : Lk x o) : x ≠ none := by
  rcases h with h | ⟨_, _, _, h⟩ <;> rw [h] <;> simp
theorem lk_upd {p b : Addr} {o u : HO} (hp : H p = none) (h : Lk (H b) o) : Lk (upd H p u b) o := by
  have : b ≠ p := fun z => lk_ne h (by rw [z]; exact hp)
  rw [upd_ne this]
  exact h
theorem OwnAt.new {p a : Addr} {d : D} {o : HO} (hp : H p = none) (h : OwnAt K G H a d) : OwnAt K G (upd H p o) a d := by
  obtain ⟨h1, u, h2, h3⟩ := h
  exact ⟨h1, u, by rw [upd_ne (ne_of_none h2 hp)]; exact h2, h3⟩
theorem OwnAt.grow {p a : Addr} {d : D} {o : HO} (hg : G p = none) (hn : a ≠ p) (h : OwnAt K G H a d) : OwnAt K (upd G p o) H a d := by
  obtain ⟨h1, u, h2, h3⟩ := h
  exact ⟨by rw [upd_ne hn]; exact h1, u, h2, h3.mono (same_new hg)⟩
/-- a new owned (or dropped) object -/
theorem Rel.new {p : Addr} {o : HO} (r : Rel K G H σ ρ) (hp : H p = none) : Rel K G (upd H p o) σ ρ where
  len := r.len
  sub := fun b u e => lk_upd hp (r.sub b u e)
  sl := fun i s e => by
    have h := r.sl i s e
    cases s with
    | sh d => exact h
    | own d => obtain ⟨a, e1, h⟩ := h; exact ⟨a, e1, h.new hp⟩
    | io d => obtain ⟨a, e1, h⟩ := h; exact ⟨a, e1, h.new hp⟩
    | dp t =>
      obtain ⟨v, e1, h1, h2, _⟩ := r.fp_eq (Same.refl _) (fun a h => ⟨upd_ne fun z => (r.dpaH h).1 (by rw [z]; exact hp), (r.dpaH h).2⟩) (fun _ _ e => ⟨e, rfl⟩) i t e
      exact ⟨v, e1, h1, h2⟩
  dis := r.dis
  dp := (r.trees (Same.refl _) (fun a h => ⟨upd_ne fun z => (r.dpaH h).1 (by rw [z]; exact hp), (r.dpaH h).2⟩) (fun _ _ e => ⟨e, rfl⟩) fun i a m h => r.dp.ds a i h m).1
theorem Stp.new {p : Addr} {o : HO} (hp : H p = none) : Stp A G H G (upd H p o) where
  gg := Same.refl _
  keep := fun b u e _ => by rw [upd_ne (ne_of_none e hp)]; exact e
  thr := fun b e => by
    by_cases h : b = p
    · rw [h]; exact hp
    · rw [upd_ne h] at e; exact e
  fr := fun _ _ _ h => h
  tb := tabs_upd fun o e => by rw [hp] at e; cases e
/-- what is not of a slot is frozen -/
theorem Rel.grow {p : Addr} {o : HO} (r : Rel K G H σ ρ) (hg : G p = none) (hp : H p = some o) (hn : ¬ ads H σ ρ p) : Rel K (upd G p o) H σ ρ where
  len := r.len
  sub := fun b u e => by
    by_cases h : b = p
    · subst h; rw [upd_same] at e; cases e; exact .inl hp
    · rw [upd_ne h] at e; exact r.sub b u e
  sl := fun i s e => by
    have h := r.sl i s e
    cases s with
    | sh d => obtain ⟨v, e1, h⟩ := h; exact ⟨v, e1, Rep.mono (same_new hg) _ h⟩
    | own d => obtain ⟨a, e1, h⟩ := h; exact ⟨a, e1, h.grow hg fun z => hn (.inl ⟨i, ⟨d, .inl e⟩, by rw [← z]; exact e1⟩)⟩
    | io d => obtain ⟨a, e1, h⟩ := h; exact ⟨a, e1, h.grow hg fun z => hn (.inl ⟨i, ⟨d, .inr e⟩, by rw [← z]; exact e1⟩)⟩
    | dp t =>
      obtain ⟨v, e1, h1, h2, _⟩ := r.fp_eq (G1 := upd G p o) (same_new hg) (fun a h => ⟨rfl, by rw [upd_ne fun z => hn (by rw [← z]; exact .inr h)]; exact (r.dpaH h).2⟩) (fun _ _ e => ⟨e, rfl⟩) i t e
      exact ⟨v, e1, h1, h2⟩
  dis := r.dis
  dp := r.dp
theorem Rel.adsH {a : Addr} (r : Rel K G H σ ρ) (h : ads H σ ρ a) : H a ≠ none ∧ G a = none := by
  rcases h with h | h
  rotate_left
  · exact r.dpaH h
  obtain ⟨i, ⟨d, m⟩, e⟩ := h
  rcases m with m | m
  · obtain ⟨b, e1, h1, o, h2, _⟩ := r.sl i _ m
    rw [e] at e1; cases e1
    exact ⟨by rw [h2]; simp, h1⟩
  · obtain ⟨b, e1, h1, o, h2, _⟩ := r.sl i _ m
    rw [e] at e1; cases e1
    exact ⟨by rw [h2]; simp, h1⟩
theorem Rel.ads_new {p : Addr} {o : HO} (r : Rel K G H σ ρ) (hp : H p = none) {a : Addr} (h : ads (upd H p o) σ ρ a) : ads H σ ρ a := by
  rcases h with h | h
  · exact .inl h
  · exact .inr ((r.trees (Same.refl _) (fun a h => ⟨upd_ne fun z => (r.dpaH h).1 (by rw [z]; exact hp), (r.dpaH h).2⟩) (fun _ _ e => ⟨e, rfl⟩) fun i a m h => r.dp.ds a i h m).2 a h)
theorem Out.new {p : Addr} {o : HO} (r : Rel K G H σ ρ) (hp : H p = none) : Out K G H σ ρ G (upd H p o) ρ := ⟨r.new hp, .new hp, .refl, fun _ h _ => r.ads_new hp h, fun a h => upd_ne fun z => (r.dpaH h).1 (by rw [z]; exact hp), r⟩
/-- a new object, frozen at once -/
theorem Out.lay {p : Addr} {o : HO} (r : Rel K G H σ ρ) (hp : H p = none) : Out K G H σ ρ (upd G p o) (upd H p o) ρ := by
  have hg := r.sub.none hp
  refine ⟨(r.new hp).grow hg upd_same fun z => (r.adsH (r.ads_new hp z)).1 hp, ⟨same_new hg, (Stp.new (A := ads H σ ρ) (G := G) hp).keep, (Stp.new (A := ads H σ ρ) (G := G) hp).thr, fun b e _ g => ?_, (Stp.new (A := ads H σ ρ) (G := G) hp).tb⟩, .refl, fun _ h _ => r.ads_new hp h, (Out.new r hp).tre, r⟩
  rw [upd_ne fun z => e (by rw [z]; exact hp)]
  exact g
end

/-! ## handles -/
inductive Hd where
  | val (d : D) | slot (i : Nat) | tmp (d : D) | tpd (t : T) | sub (i : Nat) (p : List Nat)
def Hold (K : PySem.W.Frag) (Hs G H : Hp) (σ : St) (ρ : S) : Hd → V → Prop
  | .val d, v => Rep K G d v
  | .slot i, v => σ[i]? = some (some v)
  | .tmp d, v => ∃ p, v = .ref p ∧ OwnAt K G H p d ∧ Hs p = none ∧ ¬ ads H σ ρ p
  | .tpd t, v => Own K G H t v ∧ (fp H t v).Nodup ∧ ∀ p ∈ fp H t v, Hs p = none ∧ ¬ ads H σ ρ p
  | .sub i p, v => ∃ w, σ[i]? = some (some w) ∧ ∀ t, ρ[i]? = some (some (Sl.dp t)) → At H t w p v
@[simp] def flatD (t : T) : Option D := if t.flat = true then some t.d else none
theorem flatD_eq {t : T} {d : D} (h : flatD t = some d) : t.flat = true ∧ d = t.d := by
  unfold flatD at h
  split at h
  · cases h; exact ⟨by assumption, rfl⟩
  · cases h
@[simp] def look : Hd → S → Option D
  | .val d, _ => some d
  | .tmp d, _ => some d
  | .tpd _, _ => none
  | .slot i, ρ => match ρ[i]? with
    | some (some (.sh d)) => some d
    | some (some (.own d)) => some d
    | some (some (.io d)) => some d
    | some (some (.dp t)) => flatD t
    | _ => none
  | .sub i p, ρ => match ρ[i]? with
    | some (some (.dp t)) => (t.at p).bind flatD
    | _ => none
@[simp] def share : Hd → S → Option (D × S)
  | .val d, ρ => some (d, ρ)
  | .tmp d, ρ => some (d, ρ)
  | .tpd t, ρ => some (t.d, ρ)
  | .slot i, ρ => match ρ[i]? with
    | some (some (.own d)) => some (d, ρ.set i (some (.sh d)))
    | some (some (.sh d)) => some (d, ρ)
    | some (some (Sl.dp t)) => some (t.d, ρ.set i (some (.sh t.d)))
    | _ => none
  | .sub _ _, _ => none
def RepP (K : PySem.W.Frag) (G H : Hp) (d : D) (v : V) : Prop := Rep K G d v ∨ ∃ a, v = .ref a ∧ OwnAt K G H a d
section
variable {K : PySem.W.Frag} {Hs Hs' G H G1 H1 : Hp} {σ : St} {ρ ρ1 : S} {v : V} {hd : Hd} {d : D}
theorem hold_look (r : Rel K G H σ ρ) (h : Hold K Hs G H σ ρ hd v) (e : look hd ρ = some d) : RepP K G H d v := by
  cases hd with
  | val d' => cases e; exact .inl h
  | tmp d' => cases e; obtain ⟨p, e1, h1, _⟩ := h; exact .inr ⟨p, e1, h1⟩
  | slot i =>
    have h' : σ[i]? = some (some v) := h
    replace e : (match ρ[i]? with | some (some (.sh d)) => some d | some (some (.own d)) => some d | some (some (.io d)) => some d | some (some (.dp t)) => flatD t | _ => none) = some d := e
    split at e
    · rename_i d0 q
      cases e
      obtain ⟨w, e1, h1⟩ := r.sl i _ q; rw [h'] at e1; cases e1; exact .inl h1
    · rename_i d0 q
      cases e
      obtain ⟨a, e1, h1⟩ := r.sl i _ q; rw [h'] at e1; cases e1; exact .inr ⟨a, rfl, h1⟩
    · rename_i d0 q
      cases e
      obtain ⟨a, e1, h1⟩ := r.sl i _ q; rw [h'] at e1; cases e1; exact .inr ⟨a, rfl, h1⟩
    · rename_i t0 q
      obtain ⟨hf, rfl⟩ := flatD_eq e
      obtain ⟨w, e1, h1, _⟩ := r.tree q; rw [h'] at e1; cases e1
      exact .inr (own_flat hf h1)
    · cases e
  | tpd t => cases e
  | sub i p =>
    obtain ⟨w, hw, ha⟩ := h
    replace e : (match ρ[i]? with | some (some (.dp t)) => (t.at p).bind flatD | _ => none) = some d := e
    split at e
    · rename_i t q
      obtain ⟨w', e1, h1, _⟩ := r.tree q; rw [hw] at e1; cases e1
      obtain ⟨t0, e2, h2, _⟩ := own_at p h1 (ha t q)
      rw [e2] at e
      obtain ⟨hf, rfl⟩ := flatD_eq (show flatD t0 = some d from e)
      exact .inr (own_flat hf h2)
    · cases e
theorem Hold.pers (o : Out K G H σ ρ G1 H1 ρ1) (h : Hold K Hs G H σ ρ hd v) : Hold K Hs G1 H1 σ ρ1 hd v := by
  cases hd with
  | sub i p =>
    obtain ⟨w, hw, ha⟩ := h
    refine ⟨w, hw, fun t q => ?_⟩
    have q' := o.ker.dp i t q
    obtain ⟨w', e1, h1, _⟩ := o.rel0.tree q'; rw [hw] at e1; cases e1
    exact at_go p h1 (fun a m => o.tre a ⟨i, t, w, q', hw, m⟩) (ha t q')
  | val d' => exact Rep.mono o.stp.gg _ h
  | slot i => exact h
  | tmp d' =>
    obtain ⟨p, e1, ⟨h1, u, h2, h3⟩, h4, h5⟩ := h
    exact ⟨p, e1, ⟨o.stp.fr p (by rw [h2]; simp) h5 h1, u, o.stp.keep p u h2 h5, h3.mono o.stp.gg⟩, h4, fun z => h5 (o.nw p z (by rw [h2]; simp))⟩
  | tpd t =>
    obtain ⟨h1, h2, h3⟩ := h
    obtain ⟨h4, h5⟩ := h1.go (G' := G1) (H' := H1) o.stp.gg t fun a m => by
      obtain ⟨x, y⟩ := h1.in_ t a m
      refine ⟨?_, o.stp.fr a y (h3 a m).2 x⟩
      cases e : H a with
      | none => exact absurd e y
      | some u => exact o.stp.keep a u e (h3 a m).2
    exact ⟨h4, by rw [h5]; exact h2, fun p m => by rw [h5] at m; exact ⟨(h3 p m).1, fun z => (h3 p m).2 (o.nw p z (h1.in_ t p m).2)⟩⟩
theorem Hold.back (k : ∀ b, Hs b = none → Hs' b = none) (h : Hold K Hs G H σ ρ hd v) : Hold K Hs' G H σ ρ hd v := by
  cases hd with
  | val d' => exact h
  | slot i => exact h
  | tmp d' => obtain ⟨p, e1, h2, h4, h5⟩ := h; exact ⟨p, e1, h2, k p h4, h5⟩
  | tpd t => obtain ⟨h1, h2, h3⟩ := h; exact ⟨h1, h2, fun p m => ⟨k p (h3 p m).1, (h3 p m).2⟩⟩
  | sub i p => exact h
theorem isMut_set {i j : Nat} {x : Option Sl} (h : isMut (ρ.set i x) j) (hx : ∀ d, x ≠ some (.own d) ∧ x ≠ some (.io d)) : j ≠ i ∧ isMut ρ j := by
  obtain ⟨d, h⟩ := h
  by_cases e : i = j
  · subst e
    rw [List.getElem?_set] at h
    simp only [if_true] at h
    split at h
    · rcases h with h | h
      · exact absurd (Option.some.inj h) (hx d).1
      · exact absurd (Option.some.inj h) (hx d).2
    · rcases h with h | h <;> cases h
  · rw [List.getElem?_set_ne e] at h
    exact ⟨fun z => e z.symm, d, h⟩
/-- an owned slot is frozen -/
theorem Rel.freeze {i : Nat} (r : Rel K G H σ ρ) (e : ρ[i]? = some (some (.own d))) (hv : σ[i]? = some (some v)) : ∃ G', Out K G H σ ρ G' H (ρ.set i (some (.sh d))) ∧ Rep K G' d v := by
  obtain ⟨a, e1, hg, o, ho, hc⟩ := r.sl i _ e
  rw [hv] at e1; cases e1
  have hil : i < ρ.length := (List.getElem?_eq_some_iff.mp e).1
  have hs : Same G (upd G a o) := same_new hg
  have adsA : ads H σ ρ a := .inl ⟨i, ⟨d, .inl e⟩, hv⟩
  have ndp : ∀ b, dpa H σ ρ b → b ≠ a := fun b h z => r.dp.ds b i h ⟨d, .inl e⟩ (by rw [z]; exact hv)
  have kdp : ∀ (j : Nat) (t : T), (ρ.set i (some (.sh d)))[j]? = some (some (Sl.dp t)) → ρ[j]? = some (some (Sl.dp t)) := fun j t q => by
    by_cases hj : i = j
    · subst hj; rw [List.getElem?_set_self hil] at q; cases q
    · rw [List.getElem?_set_ne hj] at q; exact q
  have gdp : ∀ b, dpa H σ ρ b → H b = H b ∧ upd G a o b = none := fun b h => ⟨rfl, by rw [upd_ne (ndp b h)]; exact (r.dpaH h).2⟩
  have mset : ∀ j, isMut (ρ.set i (some (.sh d))) j → j ≠ i ∧ isMut ρ j := fun j h => isMut_set h fun d => ⟨nofun, nofun⟩
  have rp : Rep K (upd G a o) d (.ref a) := Cont.rep upd_same (hc.mono hs)
  refine ⟨upd G a o, ⟨⟨by rw [List.length_set]; exact r.len, fun b u q => ?_, fun j s q => ?_, fun j k b m1 m2 => r.dis j k b (mset j m1).2 (mset k m2).2, (r.trees hs gdp (fun j t q => ⟨kdp j t q, rfl⟩) fun j b m h => r.dp.ds b j h (mset j m).2).1⟩, ⟨hs, fun _ _ h _ => h, fun _ h => h, fun b _ n g => ?_, fun _ h => h⟩, ⟨fun j m => (mset j m).2, fun j m => ?_, kdp⟩, fun b h _ => ?_, fun _ _ => rfl, r⟩, rp⟩
  · by_cases h : b = a
    · subst h; rw [upd_same] at q; cases q; exact .inl ho
    · rw [upd_ne h] at q; exact r.sub b u q
  · by_cases hj : i = j
    · subst hj
      rw [List.getElem?_set_self hil] at q; cases q
      exact ⟨_, hv, rp⟩
    · rw [List.getElem?_set_ne hj] at q
      have z := r.sl j s q
      cases s with
      | sh d' => obtain ⟨w, e2, h⟩ := z; exact ⟨w, e2, Rep.mono hs _ h⟩
      | own d' => obtain ⟨b, e2, h⟩ := z; exact ⟨b, e2, h.grow hg fun z => hj (r.dis i j a ⟨d, .inl e⟩ ⟨d', .inl q⟩ hv (by rw [← z]; exact e2))⟩
      | io d' => obtain ⟨b, e2, h⟩ := z; exact ⟨b, e2, h.grow hg fun z => hj (r.dis i j a ⟨d, .inl e⟩ ⟨d', .inr q⟩ hv (by rw [← z]; exact e2))⟩
      | dp t =>
        obtain ⟨w, e2, h1, h2, _⟩ := r.fp_eq hs gdp (fun _ _ e => ⟨e, rfl⟩) j t q
        exact ⟨w, e2, h1, h2⟩
  · rw [upd_ne fun z => n (by rw [z]; exact adsA)]; exact g
  · obtain ⟨d', m⟩ := m
    refine ⟨d', ?_⟩
    by_cases hj : i = j
    · subst hj; rw [e] at m; cases m
    · rw [List.getElem?_set_ne hj]; exact m
  · rcases h with ⟨j, m, q⟩ | ⟨j, t, w, q1, q2, q3⟩
    · exact .inl ⟨j, (mset j m).2, q⟩
    · exact .inr ⟨j, t, w, kdp j t q1, q2, q3⟩
/-- a slot with an owned tree is frozen -/
theorem Rel.freezeT {i : Nat} {t : T} (r : Rel K G H σ ρ) (e : ρ[i]? = some (some (Sl.dp t))) (hv : σ[i]? = some (some v)) : ∃ G', Out K G H σ ρ G' H (ρ.set i (some (.sh t.d))) ∧ Rep K G' t.d v := by
  obtain ⟨v', e1, ho, nd⟩ := r.tree e
  rw [hv] at e1; cases e1
  have hil : i < ρ.length := (List.getElem?_eq_some_iff.mp e).1
  have inA : ∀ a ∈ fp H t v, ads H σ ρ a := fun a m => .inr ⟨i, t, v, e, hv, m⟩
  have hs : Same G (frzA G H (fp H t v)) := frzA_same fun a m => (ho.in_ t a m).1
  have mset : ∀ j, isMut (ρ.set i (some (.sh t.d))) j → j ≠ i ∧ isMut ρ j := fun j h => isMut_set h fun d => ⟨nofun, nofun⟩
  have rp : Rep K (frzA G H (fp H t v)) t.d v := ho.rep hs t fun a m => frzA_in m
  have kdp : ∀ (j : Nat) (u : T), (ρ.set i (some (.sh t.d)))[j]? = some (some (Sl.dp u)) → ρ[j]? = some (some (Sl.dp u)) ∧ i ≠ j := fun j u q => by
    by_cases hj : i = j
    · subst hj; rw [List.getElem?_set_self hil] at q; cases q
    · rw [List.getElem?_set_ne hj] at q; exact ⟨q, hj⟩
  have other : ∀ (j : Nat) (u : T) (w : V), ρ[j]? = some (some (Sl.dp u)) → i ≠ j → σ[j]? = some (some w) → ∀ a ∈ fp H u w, a ∉ fp H t v := fun j u w q hj q2 a m m2 => hj (r.dp.dd i j t u v w a e hv q q2 m2 m)
  have gt : ∀ (j : Nat) (u : T) (w : V), ρ[j]? = some (some (Sl.dp u)) → i ≠ j → σ[j]? = some (some w) → Own K G H u w → Own K (frzA G H (fp H t v)) H u w := fun j u w q hj q2 ow =>
    (ow.go (H' := H) hs u fun a m => ⟨rfl, by rw [frzA_out (other j u w q hj q2 a m)]; exact (ow.in_ u a m).1⟩).1
  have fl : ∀ (j : Nat) (a : Addr), isMut ρ j → σ[j]? = some (some (.ref a)) → a ∉ fp H t v := fun j a m q z => r.dp.ds a j ⟨i, t, v, e, hv, z⟩ m q
  refine ⟨frzA G H (fp H t v), ⟨⟨by rw [List.length_set]; exact r.len, fun b u q => ?_, fun j s q => ?_, fun j k b m1 m2 => r.dis j k b (mset j m1).2 (mset k m2).2, ⟨fun j k u x w y a q1 q2 q3 q4 => r.dp.dd j k u x w y a (kdp j u q1).1 q2 (kdp k x q3).1 q4, fun a j h m => ?_⟩⟩, ⟨hs, fun _ _ h _ => h, fun _ h => h, fun b _ n g => ?_, fun _ h => h⟩, ⟨fun j m => (mset j m).2, fun j m => ?_, fun j u q => (kdp j u q).1⟩, fun b h _ => ?_, fun _ _ => rfl, r⟩, rp⟩
  · by_cases h : b ∈ fp H t v
    · rw [frzA_in h] at q; exact .inl q
    · rw [frzA_out h] at q; exact r.sub b u q
  · by_cases hj : i = j
    · subst hj
      rw [List.getElem?_set_self hil] at q; cases q
      exact ⟨_, hv, rp⟩
    · rw [List.getElem?_set_ne hj] at q
      have z := r.sl j s q
      cases s with
      | sh d' => obtain ⟨w, e2, h⟩ := z; exact ⟨w, e2, Rep.mono hs _ h⟩
      | own d' => obtain ⟨b, e2, h1, o, h2, h3⟩ := z; exact ⟨b, e2, by rw [frzA_out (fl j b ⟨d', .inl q⟩ e2)]; exact h1, o, h2, h3.mono hs⟩
      | io d' => obtain ⟨b, e2, h1, o, h2, h3⟩ := z; exact ⟨b, e2, by rw [frzA_out (fl j b ⟨d', .inr q⟩ e2)]; exact h1, o, h2, h3.mono hs⟩
      | dp u => obtain ⟨w, e2, h1, h2⟩ := z; exact ⟨w, e2, gt j u w q hj e2 h1, h2⟩
  · obtain ⟨j', u, w, q1, q2, q3⟩ := h
    exact r.dp.ds a j ⟨j', u, w, (kdp j' u q1).1, q2, q3⟩ (mset j m).2
  · rw [frzA_out fun z => n (inA b z)]; exact g
  · obtain ⟨d', m⟩ := m
    refine ⟨d', ?_⟩
    by_cases hj : i = j
    · subst hj; rw [e] at m; cases m
    · rw [List.getElem?_set_ne hj]; exact m
  · rcases h with ⟨j, m, q⟩ | ⟨j, u, w, q1, q2, q3⟩
    · exact .inl ⟨j, (mset j m).2, q⟩
    · exact .inr ⟨j, u, w, (kdp j u q1).1, q2, q3⟩
/-- a new tree is frozen -/
theorem Rel.growT {t : T} (r : Rel K G H σ ρ) (ho : Own K G H t v) (hn : ∀ a ∈ fp H t v, ¬ ads H σ ρ a) : Rel K (frzA G H (fp H t v)) H σ ρ := by
  have hs : Same G (frzA G H (fp H t v)) := frzA_same fun a m => (ho.in_ t a m).1
  have fl : ∀ a, ads H σ ρ a → frzA G H (fp H t v) a = none := fun a h => by rw [frzA_out fun z => hn a z h]; exact (r.adsH h).2
  refine ⟨r.len, fun b u q => ?_, fun j s q => ?_, r.dis, r.dp⟩
  · by_cases h : b ∈ fp H t v
    · rw [frzA_in h] at q; exact .inl q
    · rw [frzA_out h] at q; exact r.sub b u q
  · have z := r.sl j s q
    cases s with
    | sh d' => obtain ⟨w, e2, h⟩ := z; exact ⟨w, e2, Rep.mono hs _ h⟩
    | own d' => obtain ⟨b, e2, h1, o, h2, h3⟩ := z; exact ⟨b, e2, fl b (.inl ⟨j, ⟨d', .inl q⟩, e2⟩), o, h2, h3.mono hs⟩
    | io d' => obtain ⟨b, e2, h1, o, h2, h3⟩ := z; exact ⟨b, e2, fl b (.inl ⟨j, ⟨d', .inr q⟩, e2⟩), o, h2, h3.mono hs⟩
    | dp u =>
      obtain ⟨w, e2, h1, h2⟩ := z
      exact ⟨w, e2, (h1.go (H' := H) hs u fun a m => ⟨rfl, fl a (.inr ⟨j, u, w, q, e2, m⟩)⟩).1, h2⟩
theorem share_ok {Gs : Hp} {ρs ρ' : S} (o : Out K Gs Hs σ ρs G H ρ) (h : Hold K Hs G H σ ρ hd v) (e : share hd ρ = some (d, ρ')) : ∃ G', Out K Gs Hs σ ρs G' H ρ' ∧ Same G G' ∧ Rep K G' d v := by
  cases hd with
  | val d' => cases e; exact ⟨G, o, Same.refl _, h⟩
  | tmp d' =>
    cases e
    obtain ⟨p, e1, ⟨h1, u, h2, h3⟩, h4, h5⟩ := h
    subst e1
    have hs : Same G (upd G p u) := same_new h1
    refine ⟨upd G p u, ⟨o.rel.grow h1 h2 h5, ⟨o.stp.gg.trans hs, o.stp.keep, o.stp.thr, fun b q n g => ?_, o.stp.tb⟩, o.ker, o.nw, o.tre, o.rel0⟩, hs, Cont.rep upd_same (h3.mono hs)⟩
    rw [upd_ne fun z => q (by rw [z]; exact h4)]
    exact o.stp.fr b q n g
  | tpd t =>
    cases e
    obtain ⟨h1, h2, h3⟩ := h
    have hs : Same G (frzA G H (fp H t v)) := frzA_same fun a m => (h1.in_ t a m).1
    refine ⟨_, ⟨o.rel.growT h1 fun a m => (h3 a m).2, ⟨o.stp.gg.trans hs, o.stp.keep, o.stp.thr, fun b q n g => ?_, o.stp.tb⟩, o.ker, o.nw, o.tre, o.rel0⟩, hs, h1.rep hs t fun a m => frzA_in m⟩
    rw [frzA_out fun z => q (h3 b z).1]
    exact o.stp.fr b q n g
  | sub i p => cases e
  | slot i =>
    have h' : σ[i]? = some (some v) := h
    replace e : (match ρ[i]? with | some (some (.own d)) => some (d, ρ.set i (some (.sh d))) | some (some (.sh d)) => some (d, ρ) | some (some (.dp t)) => some (t.d, ρ.set i (some (.sh t.d))) | _ => none) = some (d, ρ') := e
    split at e
    · rename_i d0 q
      cases e
      obtain ⟨G', o', rp⟩ := o.rel.freeze q h'
      exact ⟨G', o.trans o', o'.stp.gg, rp⟩
    · rename_i d0 q
      cases e
      obtain ⟨w, e1, h1⟩ := o.rel.sl i _ q
      rw [h'] at e1; cases e1
      exact ⟨G, o, Same.refl _, h1⟩
    · rename_i t0 q
      cases e
      obtain ⟨G', o', rp⟩ := o.rel.freezeT q h'
      exact ⟨G', o.trans o', o'.stp.gg, rp⟩
    · cases e
end
end BR
set_option Elab.async false
set_option linter.all false
set_option maxRecDepth 100000
set_option maxHeartbeats 4000000
namespace BR
open PySem L2

/-! ## expressions -/
abbrev EF := S → R (Hd × S)
def ExR (K : PySem.W.Frag) (G H : Hp) (x : Exc) (c : Value) (d : Option Addr) : Prop :=
  c = x.cls ∧ ((∃ dx fs, d = some dx ∧ H dx = some (.xd fs) ∧ fs.map (·.1) = x.ns ∧ RepL K G x.xs (fs.map (·.2))) ∨ (x.ns = [] ∧ x.xs = []))
def W0 : WX := fun _ _ _ _ => False
/-- where an exception is raised -/
structure OutX (K : PySem.W.Frag) (G H : Hp) (σ : St) (ρ : S) (G' H' : Hp) (σ' : St) (ρ' : S) : Prop where
  rel : Rel K G' H' σ' ρ'
  stp : Stp (ads H σ ρ) G H G' H'
  nw : ∀ a, ads H' σ' ρ' a → H a ≠ none → ads H σ ρ a
  io : ∀ i, isIo ρ i → σ'[i]? = σ[i]?
def ExE (K : PySem.W.Frag) (E : WX) (G H : Hp) (σ : St) (ρ : S) (x : Exc) : Prop :=
  ∀ c d σ' G' H', OutX K G H σ ρ G' H' σ' x.st → ExR K G' H' x c d → E c d σ' H'
@[simp] def raiseAt {α : Type} (ρ : S) : R α → R α
  | .exc x => .exc { x with st := ρ }
  | r => r
theorem Wp.raised {α : Type} {r : R α} {ρ : S} {P : α → Prop} {E : Exc → Prop} (h : Wp (raiseAt ρ r) P E) : Wp r P fun x => E { x with st := ρ } := by
  cases r <;> exact h
@[simp] theorem raiseAt_ok {α : Type} (ρ : S) (a : α) : raiseAt ρ (R.ok a) = R.ok a := rfl
def Snd (K : PySem.W.Frag) (E : WX) (t : TE) (f : EF) : Prop := ∀ (G H : Hp) (σ : St) (ρ : S), Rel K G H σ ρ → ∀ Q : VK,
  Wp (f ρ) (fun z => ∀ v G' H', Out K G H σ ρ G' H' z.2 → Hold K H G' H' σ z.2 z.1 v → Q v H') (ExE K E G H σ ρ) → t σ H Q
def SndV (K : PySem.W.Frag) (E : WX) (t : TE) (f : S → R (D × S)) : Prop := ∀ (G H : Hp) (σ : St) (ρ : S), Rel K G H σ ρ → ∀ Q : VK,
  Wp (f ρ) (fun z => ∀ v G' H', Out K G H σ ρ G' H' z.2 → Rep K G' z.1 v → Q v H') (ExE K E G H σ ρ) → t σ H Q
def SndT (K : PySem.W.Frag) (E : WX) (t : TT) (f : S → R (Bool × S)) : Prop := ∀ (G H : Hp) (σ : St) (ρ : S), Rel K G H σ ρ → ∀ Q : Bool → Hp → Prop,
  Wp (f ρ) (fun z => ∀ G' H', Out K G H σ ρ G' H' z.2 → Q z.1 H') (ExE K E G H σ ρ) → t σ H Q
/-- shared arguments -/
def SndA (K : PySem.W.Frag) (E : WX) (t : TA) (f : S → R (List D × S)) : Prop := ∀ (G H : Hp) (σ : St) (ρ : S), Rel K G H σ ρ → ∀ Q : List V → Hp → Prop,
  Wp (f ρ) (fun z => ∀ vs G' H', Out K G H σ ρ G' H' z.2 → RepL K G' z.1 vs → Q vs H') (ExE K E G H σ ρ) → t σ H Q
inductive HoldL (K : PySem.W.Frag) (Hs G H : Hp) (σ : St) (ρ : S) : List Hd → List V → Prop where
  | nil : HoldL K Hs G H σ ρ [] []
  | cons {h : Hd} {hs : List Hd} {v : V} {vs : List V} : Hold K Hs G H σ ρ h v → HoldL K Hs G H σ ρ hs vs → HoldL K Hs G H σ ρ (h :: hs) (v :: vs)
/-- arguments by their handles -/
def SndH (K : PySem.W.Frag) (E : WX) (t : TA) (f : S → R (List Hd × S)) : Prop := ∀ (G H : Hp) (σ : St) (ρ : S), Rel K G H σ ρ → ∀ Q : List V → Hp → Prop,
  Wp (f ρ) (fun z => ∀ vs G' H', Out K G H σ ρ G' H' z.2 → HoldL K H G' H' σ z.2 z.1 vs → Q vs H') (ExE K E G H σ ρ) → t σ H Q

structure PR (X : Cx) (E : WX) (e : Expr) (f : EF) : Prop where
  ex : ∃ t, PE X e t ∧ Snd X.K E t f
structure PV (X : Cx) (E : WX) (e : Expr) (f : S → R (D × S)) : Prop where
  ex : ∃ t, PE X e t ∧ SndV X.K E t f
structure PB (X : Cx) (E : WX) (e : Expr) (f : S → R (Bool × S)) : Prop where
  ex : ∃ t, PT X e t ∧ SndT X.K E t f
/-- a test of and, or -/
structure PBw (X : Cx) (E : WX) (e : Expr) (f : S → R (Bool × S)) : Prop where
  ex : ∃ t, PW X e t ∧ SndT X.K E t f
structure PAs (X : Cx) (E : WX) (es : List Expr) (f : S → R (List D × S)) : Prop where
  ex : ∃ t, PA X es t ∧ SndA X.K E t f
structure PHs (X : Cx) (E : WX) (es : List Expr) (f : S → R (List Hd × S)) : Prop where
  ex : ∃ t, PA X es t ∧ SndH X.K E t f

section
variable {K : PySem.W.Frag} {E : WX} {G H G1 H1 Hs Hs' : Hp} {σ : St} {ρ ρ1 : S}
theorem Out.toX {σ' : St} {G' H' : Hp} {ρ' : S} (o : Out K G H σ ρ G1 H1 ρ1) (x : OutX K G1 H1 σ ρ1 G' H' σ' ρ') : OutX K G H σ ρ G' H' σ' ρ' :=
  ⟨x.rel, o.stp.trans x.stp fun c e z => o.nw c z e, fun c z e => o.nw c (x.nw c z (o.stp.up e)) e, fun i h => x.io i (o.ker.io i h)⟩
theorem ExE.step {x : Exc} (o : Out K G H σ ρ G1 H1 ρ1) (h : ExE K E G H σ ρ x) : ExE K E G1 H1 σ ρ1 x := fun c d σ' G' H' s r =>
  h c d σ' G' H' (o.toX s) r
theorem HoldL.pers (o : Out K G H σ ρ G1 H1 ρ1) : ∀ {hs : List Hd} {vs : List V}, HoldL K Hs G H σ ρ hs vs → HoldL K Hs G1 H1 σ ρ1 hs vs
  | _, _, .nil => .nil
  | _, _, .cons h t => .cons (h.pers o) (t.pers o)
theorem HoldL.back (k : ∀ b, Hs b = none → Hs' b = none) : ∀ {hs : List Hd} {vs : List V}, HoldL K Hs G H σ ρ hs vs → HoldL K Hs' G H σ ρ hs vs
  | _, _, .nil => .nil
  | _, _, .cons h t => .cons (h.back k) (t.back k)
end

/-! ### a shared value -/
@[simp] def eV (f : EF) : S → R (D × S) := fun ρ => f ρ >>= fun z => ofO (share z.1 z.2)
section
variable {X : Cx} {E : WX} {e : Expr} {es : List Expr} {f : EF}
theorem PR.v (h : PR X E e f) : PV X E e (eV f) := by
  obtain ⟨t, pe, s⟩ := h.ex
  refine ⟨t, pe, fun G H σ ρ r Q hw => s G H σ ρ r Q (hw.bind.mono (fun z _ q v G' H' o h => ?_) fun _ _ q => q)⟩
  cases e1 : share z.1 z.2 with
  | none => rw [e1] at q; exact q.elim
  | some y =>
    rw [e1] at q
    obtain ⟨d, ρ'⟩ := y
    obtain ⟨G2, o2, _, rp⟩ := share_ok o h e1
    exact q v G2 H' o2 rp
@[simp] def aNil : S → R (List D × S) := fun ρ => .ok ([], ρ)
@[simp] def aCons (f : S → R (D × S)) (g : S → R (List D × S)) : S → R (List D × S) := fun ρ => f ρ >>= fun z => g z.2 >>= fun y => .ok (z.1 :: y.1, y.2)
theorem as_nil : PAs X E [] aNil := ⟨_, pa_nil, fun G H σ ρ r Q hw => hw [] G H (.refl r) .nil⟩
theorem as_cons {f : S → R (D × S)} {g : S → R (List D × S)} (h1 : PV X E e f) (h2 : PAs X E es g) (hs : starEach (e :: es) X.env = (false, eval e X.env) :: starEach es X.env := by rfl) : PAs X E (e :: es) (aCons f g) := by
  obtain ⟨t, pe, s⟩ := h1.ex
  obtain ⟨t2, pa, s2⟩ := h2.ex
  refine ⟨_, pa_cons pe pa hs, fun G H σ ρ r Q hw => s G H σ ρ r _ (hw.bind.mono (fun z _ q v G' H' o h => ?_) fun _ _ q => q)⟩
  refine s2 G' H' σ z.2 o.rel _ (q.bind.mono (fun y _ q2 vs G2 H2 o2 h2 => ?_) fun _ _ q2 => q2.step o)
  exact q2 (v :: vs) G2 H2 (o.trans o2) (.cons (Rep.mono o2.stp.gg _ h) h2)
@[simp] def hNil : S → R (List Hd × S) := fun ρ => .ok ([], ρ)
@[simp] def hCons (f : EF) (g : S → R (List Hd × S)) : S → R (List Hd × S) := fun ρ => f ρ >>= fun z => g z.2 >>= fun y => .ok (z.1 :: y.1, y.2)
theorem hs_nil : PHs X E [] hNil := ⟨_, pa_nil, fun G H σ ρ r Q hw => hw [] G H (.refl r) .nil⟩
theorem hs_cons {g : S → R (List Hd × S)} (h1 : PR X E e f) (h2 : PHs X E es g) (hs : starEach (e :: es) X.env = (false, eval e X.env) :: starEach es X.env := by rfl) : PHs X E (e :: es) (hCons f g) := by
  obtain ⟨t, pe, s⟩ := h1.ex
  obtain ⟨t2, pa, s2⟩ := h2.ex
  refine ⟨_, pa_cons pe pa hs, fun G H σ ρ r Q hw => s G H σ ρ r _ (hw.bind.mono (fun z _ q v G' H' o h => ?_) fun _ _ q => q)⟩
  refine s2 G' H' σ z.2 o.rel _ (q.bind.mono (fun y _ q2 vs G2 H2 o2 h2 => ?_) fun _ _ q2 => q2.step o)
  exact q2 (v :: vs) G2 H2 (o.trans o2) (.cons (h.pers o2) (h2.back o.stp.thr))

/-! ### names, constants -/
@[simp] def eVar (i : Nat) : EF := fun ρ => match ρ[i]? with
  | some (some (.sh d)) => .ok (.val d, ρ)
  | some (some (.own _)) => .ok (.slot i, ρ)
  | some (some (.io _)) => .ok (.slot i, ρ)
  | some (some (.dp _)) => .ok (.slot i, ρ)
  | _ => .no
theorem pr_var (i : Nat) {x : Str} {pos : Pos} (hN : X.N[i]? = some x := by rfl) (hv : Vis X.env.scope x := by first | exact Or.inl rfl | exact Or.inr (Or.inl rfl) | exact Or.inr (Or.inr rfl)) (hd : (x == ("__debug__" : Str)) = false := by decide)
    (hcd : (x == ("__classdict__" : Str)) = false := by decide) : PR X E (.Name x pos) (eVar i) := by
  refine ⟨_, pe_var (i := i) hN hv hd hcd, fun G H σ ρ r Q hw => ?_⟩
  unfold eVar at hw
  split at hw
  · rename_i d q
    obtain ⟨v, e1, h⟩ := r.sl i _ q
    exact ⟨v, e1, hw v G H (.refl r) h⟩
  · rename_i d q
    obtain ⟨a, e1, h⟩ := r.sl i _ q
    exact ⟨_, e1, hw _ G H (.refl r) e1⟩
  · rename_i d q
    obtain ⟨a, e1, h⟩ := r.sl i _ q
    exact ⟨_, e1, hw _ G H (.refl r) e1⟩
  · rename_i d q
    obtain ⟨a, e1, h⟩ := r.sl i _ q
    exact ⟨_, e1, hw _ G H (.refl r) e1⟩
  · exact hw.elim
@[simp] def eK (d : D) : EF := fun ρ => .ok (.val d, ρ)
theorem pr_const {d : D} {v : V} (h : PE X e (tC v)) (hr : ∀ G, Rep X.K G d v) : PR X E e (eK d) :=
  ⟨_, h, fun G H σ ρ r Q hw => hw v G H (.refl r) (hr G)⟩
theorem rep_int {K : PySem.W.Frag} {G : Hp} {i : Int} : Rep K G (.int i) (.int i) := by unfold Rep; rfl
theorem rep_bl {K : PySem.W.Frag} {G : Hp} {i : Bool} : Rep K G (.bl i) (.bl i) := by unfold Rep; rfl
theorem rep_non {K : PySem.W.Frag} {G : Hp} : Rep K G .non .non := by unfold Rep; rfl
theorem rep_str {K : PySem.W.Frag} {G : Hp} {x : Str} : Rep K G (.str x) (.str x) := by unfold Rep; rfl
theorem rep_ty {K : PySem.W.Frag} {G : Hp} {x : String} : Rep K G (.ty x) (.ty x) := by unfold Rep; rfl
theorem rep_obj {K : PySem.W.Frag} {G : Hp} {a : Addr} : Rep K G (.obj a) (.ref a) := by unfold Rep; rfl
theorem pr_int {i j pos} : PR X E (.Constant (.int i) j pos) (eK (.int i)) := pr_const pe_int fun _ => rep_int
theorem pr_bl {i j pos} : PR X E (.Constant (.bool i) j pos) (eK (.bl i)) := pr_const pe_bl fun _ => rep_bl
theorem pr_non {j pos} : PR X E (.Constant .none j pos) (eK .non) := pr_const pe_non fun _ => rep_non
theorem pr_str {x j pos} : PR X E (.Constant (.str x) j pos) (eK (.str x)) := pr_const pe_str fun _ => rep_str
theorem pr_gint {x : Str} {i : Int} {pos : Pos} (hg : Gl X x) (hm : ∃ t, X.mg x = some (.int i t)) (hd : (x == ("__debug__" : Str)) = false := by decide) : PR X E (.Name x pos) (eK (.int i)) :=
  let ⟨t, hm⟩ := hm
  pr_const (pe_glob (v := .int i) hg hm ⟨t, rfl⟩ hd) fun _ => rep_int
theorem pr_gstr {x z : Str} {pos : Pos} (hg : Gl X x) (hm : ∃ t, X.mg x = some (.str z t)) (hd : (x == ("__debug__" : Str)) = false := by decide) : PR X E (.Name x pos) (eK (.str z)) :=
  let ⟨t, hm⟩ := hm
  pr_const (pe_glob (v := .str z) hg hm ⟨t, rfl⟩ hd) fun _ => rep_str
theorem pr_gobj {x : Str} {a : Addr} {pos : Pos} (hg : Gl X x) (hm : X.mg x = some (.ref a)) (hd : (x == ("__debug__" : Str)) = false := by decide) : PR X E (.Name x pos) (eK (.obj a)) :=
  pr_const (pe_glob (v := .ref a) hg hm rfl hd) fun _ => rep_obj
theorem pr_type {x : Str} {n : String} {pos : Pos} (hg : Gl X x) (hm : X.mg x = none) (hv : bootBuiltins x = some (.type n)) (hn : x ≠ "__name__" := by decide) (hd : (x == ("__debug__" : Str)) = false := by decide) : PR X E (.Name x pos) (eK (.ty n)) :=
  pr_const (pe_bltn (v := .ty n) hg hm hv rfl hn hd) fun _ => rep_ty
end

/-! ### results of operations -/
inductive Rz where
  | im (d : D) | nw (d : D)
@[simp] def fin : Rz → S → R (Hd × S)
  | .im d, ρ => .ok (.val d, ρ)
  | .nw d, ρ => .ok (.tmp d, ρ)
def ResP (K : PySem.W.Frag) (G H : Hp) (Q : VK) : Rz → Prop
  | .im d => ∀ v, Rep K G d v → Q v H
  | .nw d => ∀ p o, H p = none → Cont K G d o → Q (.ref p) (upd H p o)
section
variable {K : PySem.W.Frag} {G H Gs Hs : Hp} {σ : St} {ρ ρs : S}
theorem fin_ok {E : Exc → Prop} {z : Rz} {Q : VK} (o : Out K Gs Hs σ ρs G H ρ) (h : Wp (fin z ρ) (fun z => ∀ v G' H', Out K Gs Hs σ ρs G' H' z.2 → Hold K Hs G' H' σ z.2 z.1 v → Q v H') E) : ResP K G H Q z := by
  cases z with
  | im d => exact fun v hv => h v G H o hv
  | nw d =>
    intro p u hp hc
    have hg := o.rel.sub.none hp
    refine h (.ref p) G (upd H p u) (o.trans (.new o.rel hp)) ⟨p, rfl, ⟨hg, u, upd_same, hc⟩, o.stp.thr p hp, fun z => (o.rel.adsH (o.rel.ads_new hp z)).1 hp⟩
end
/-- an operation of two values -/
def OpD (K : PySem.W.Frag) (r : R2) (g : D → D → Option Rz) : Prop := ∀ (G H : Hp) (x y : D) (v w : V), Sub G H → RepP K G H x v → RepP K G H y w → ∀ (z : Rz) (Q : VK), g x y = some z → ResP K G H Q z → r v w H Q
def UnD (K : PySem.W.Frag) (r : V → Hp → VK → Prop) (g : D → Option Rz) : Prop := ∀ (G H : Hp) (x : D) (v : V), Sub G H → RepP K G H x v → ∀ (z : Rz) (Q : VK), g x = some z → ResP K G H Q z → r v H Q
@[simp] def eOp2 (g : D → D → Option Rz) (fa fb : EF) : EF := fun ρ => fa ρ >>= fun z1 => fb z1.2 >>= fun z2 => ofO (look z1.1 z2.2) >>= fun x => ofO (look z2.1 z2.2) >>= fun y => ofO (g x y) >>= fun r => fin r z2.2
@[simp] def eOp1 (g : D → Option Rz) (fa : EF) : EF := fun ρ => fa ρ >>= fun z1 => ofO (look z1.1 z1.2) >>= fun x => ofO (g x) >>= fun r => fin r z1.2
section
variable {X : Cx} {E : WX} {a b : Expr} {fa fb : EF} {pos : Pos} {r : R2} {g : D → D → Option Rz}
theorem snd_op2 {K : PySem.W.Frag} {ta tb : TE} (hg : OpD K r g) (sa : Snd K E ta fa) (sb : Snd K E tb fb) : Snd K E (tOp r ta tb) (eOp2 g fa fb) := by
  intro G H σ ρ R Q hw
  refine sa G H σ ρ R _ (hw.bind.mono (fun z1 _ q v G1 H1 o1 h1 => ?_) fun _ _ q => q)
  refine sb G1 H1 σ z1.2 o1.rel _ (q.bind.mono (fun z2 _ q2 w G2 H2 o2 h2 => ?_) fun _ _ q2 => q2.step o1)
  obtain ⟨x, ex, q2⟩ := q2.opt
  obtain ⟨y, ey, q2⟩ := q2.opt
  obtain ⟨z, ez, q2⟩ := q2.opt
  exact hg G2 H2 x y v w o2.rel.sub (hold_look o2.rel (h1.pers o2) ex) (hold_look o2.rel h2 ey) z Q ez (fin_ok (o1.trans o2) q2)
theorem pr_bin {op : Operator} (ho : OpR X (binaryOp op) r) (hg : OpD X.K r g) (pa : PR X E a fa) (pb : PR X E b fb) : PR X E (.BinOp a op b pos) (eOp2 g fa fb) := by
  obtain ⟨ta, pa, sa⟩ := pa.ex
  obtain ⟨tb, pb, sb⟩ := pb.ex
  exact ⟨_, pe_op ho pa pb, snd_op2 hg sa sb⟩
theorem pr_cmp {op : CmpOp} (ho : OpR X (compareOp op) r) (hg : OpD X.K r g) (pa : PR X E a fa) (pb : PR X E b fb) (hm : behindInMarks op b = false) : PR X E (.Compare a [op] [b] pos) (eOp2 g fa fb) := by
  obtain ⟨ta, pa, sa⟩ := pa.ex
  obtain ⟨tb, pb, sb⟩ := pb.ex
  exact ⟨_, pe_cmpR ho pa pb hm, snd_op2 hg sa sb⟩
theorem pr_un {op : UnaryOp} {r : V → Hp → VK → Prop} {g : D → Option Rz} (ho : UnR X (unaryOp op) r) (hg : UnD X.K r g) (pa : PR X E a fa) : PR X E (.UnaryOp op a pos) (eOp1 g fa) := by
  obtain ⟨ta, pa, sa⟩ := pa.ex
  refine ⟨_, pe_un ho pa, fun G H σ ρ R Q hw => ?_⟩
  refine sa G H σ ρ R _ (hw.bind.mono (fun z1 _ q v G1 H1 o1 h1 => ?_) fun _ _ q => q)
  obtain ⟨x, ex, q2⟩ := q.opt
  obtain ⟨z, ez, q2⟩ := q2.opt
  exact hg G1 H1 x v o1.rel.sub (hold_look o1.rel h1 ex) z Q ez (fin_ok o1 q2)
/-- o[i], by values -/
theorem pr_ix {r : R2} (hr : IxR X r) (hg : OpD X.K r g) (pa : PR X E a fa) (pb : PR X E b fb) (hs : PlainIx b) : PR X E (.Subscript a b pos) (eOp2 g fa fb) := by
  obtain ⟨ta, pa, sa⟩ := pa.ex
  obtain ⟨tb, pb, sb⟩ := pb.ex
  exact ⟨_, pe_ix hr pa pb hs, snd_op2 hg sa sb⟩
end
/-- a chain of two comparisons of ints: a op b op' c -/
@[simp] def eChain (p p' : Int → Int → Bool) (fa fb fc : EF) : EF := fun ρ => fa ρ >>= fun z1 => fb z1.2 >>= fun z2 => ofO (look z1.1 z2.2) >>= fun x => ofO (look z2.1 z2.2) >>= fun y =>
  match x, y with
  | .int i, .int j => if p i j = true then fc z2.2 >>= fun z3 => ofO (look z3.1 z3.2) >>= fun u => (match u with
      | .int k => .ok (.val (.bl (p' j k)), z3.2)
      | _ => .no) else .ok (.val (.bl false), z2.2)
  | _, _ => .no
theorem Hold.val {K : PySem.W.Frag} {Hs G H : Hp} {σ : St} {ρ : S} {d : D} {v : V} (h : Rep K G d v) : Hold K Hs G H σ ρ (.val d) v := h
theorem RepP.int {K : PySem.W.Frag} {G H : Hp} {i : Int} {v : V} (h : RepP K G H (.int i) v) : v = .int i := by
  rcases h with h | ⟨a, _, _, o, _, h⟩
  · unfold Rep at h; exact h
  · exact h.elim
theorem RepP.bl {K : PySem.W.Frag} {G H : Hp} {i : Bool} {v : V} (h : RepP K G H (.bl i) v) : v = .bl i := by
  rcases h with h | ⟨a, _, _, o, _, h⟩
  · unfold Rep at h; exact h
  · exact h.elim
theorem RepP.str {K : PySem.W.Frag} {G H : Hp} {i : Str} {v : V} (h : RepP K G H (.str i) v) : v = .str i := by
  rcases h with h | ⟨a, _, _, o, _, h⟩
  · unfold Rep at h; exact h
  · exact h.elim
theorem RepP.non {K : PySem.W.Frag} {G H : Hp} {v : V} (h : RepP K G H .non v) : v = .non := by
  rcases h with h | ⟨a, _, _, o, _, h⟩
  · unfold Rep at h; exact h
  · exact h.elim
theorem RepP.ty {K : PySem.W.Frag} {G H : Hp} {n : String} {v : V} (h : RepP K G H (.ty n) v) : v = .ty n := by
  rcases h with h | ⟨a, _, _, o, _, h⟩
  · unfold Rep at h; exact h
  · exact h.elim
theorem RepP.obj {K : PySem.W.Frag} {G H : Hp} {n : Addr} {v : V} (h : RepP K G H (.obj n) v) : v = .ref n := by
  rcases h with h | ⟨a, _, _, o, _, h⟩
  · unfold Rep at h; exact h
  · exact h.elim
theorem RepP.lst {K : PySem.W.Frag} {G H : Hp} {ds : List D} {v : V} (s : Sub G H) (h : RepP K G H (.lst ds) v) : ∃ a vs, v = .ref a ∧ H a = some (.lst vs) ∧ RepL K G ds vs := by
  rcases h with h | ⟨a, e, _, o, ho, vs, rfl, h⟩
  · unfold Rep at h
    obtain ⟨a, vs, e, h1, h2⟩ := h
    exact ⟨a, vs, e, s.ls h1, h2⟩
  · exact ⟨a, vs, e, ho, h⟩
theorem RepP.scr {K : PySem.W.Frag} {G H : Hp} {ns : List Int} {v : V} (s : Sub G H) (h : RepP K G H (.scr ns) v) : ∃ a, v = .ref a ∧ SqL K H a (ns.map V.int) := by
  rcases h with h | ⟨a, e, _, o, ho, h⟩
  · unfold Rep at h
    obtain ⟨a, e, h1⟩ := h
    exact ⟨a, e, s.l h1⟩
  · exact h.elim
theorem RepP.tup {K : PySem.W.Frag} {G H : Hp} {ds : List D} {v : V} (s : Sub G H) (h : RepP K G H (.tup ds) v) : ∃ a vs, v = .ref a ∧ SqT K H a vs ∧ RepL K G ds vs := by
  rcases h with h | ⟨a, e, _, o, ho, h⟩
  · unfold Rep at h
    obtain ⟨a, vs, e, h1, h2⟩ := h
    exact ⟨a, vs, e, s.t h1, h2⟩
  · exact h.elim
theorem RepP.dic {K : PySem.W.Frag} {G H : Hp} {ks : List Key} {ds : List D} {v : V} (s : Sub G H) (h : RepP K G H (.dic ks ds) v) : ∃ a kvs, v = .ref a ∧ Rd H a (.dK kvs) ∧ kvs.map (·.1) = ks ∧ RepL K G ds (kvs.map (·.2)) := by
  rcases h with h | ⟨a, e, _, o, ho, kvs, rfl, h, h2⟩
  · unfold Rep at h
    obtain ⟨a, vs, e, h1, h2, h3⟩ := h
    exact ⟨a, vs, e, s.rd h1, h2, h3⟩
  · exact ⟨a, kvs, e, .inl ho, h, h2⟩
theorem RepP.ins {K : PySem.W.Frag} {G H : Hp} {C : Addr} {ns : List Str} {ds : List D} {v : V} (s : Sub G H) (h : RepP K G H (.ins C ns ds) v) : ∃ a dx fs, v = .ref a ∧ H a = some (.ins C dx fs) ∧ fs.map (·.1) = ns ∧ RepL K G ds (fs.map (·.2)) := by
  rcases h with h | ⟨a, e, _, o, ho, dx, fs, rfl, h, h2⟩
  · unfold Rep at h
    obtain ⟨a, dx, fs, e, h1, h2, h3⟩ := h
    exact ⟨a, dx, fs, e, s.i h1, h2, h3⟩
  · exact ⟨a, dx, fs, e, ho, h, h2⟩
section
variable {X : Cx} {E : WX} {a b c : Expr} {fa fb fc : EF} {pos : Pos}
theorem snd_chain {K : PySem.W.Frag} {ta tb tc : TE} {p p' : Int → Int → Bool} (sa : Snd K E ta fa) (sb : Snd K E tb fb) (sc : Snd K E tc fc) : Snd K E (tChain (rI0 fun i j => .bl (p i j)) (rI0 fun i j => .bl (p' i j)) ta tb tc) (eChain p p' fa fb fc) := by
  intro G H σ ρ R Q hw
  refine sa G H σ ρ R _ (hw.bind.mono (fun z1 _ q v G1 H1 o1 h1 => ?_) fun _ _ q => q)
  refine sb G1 H1 σ z1.2 o1.rel _ (q.bind.mono (fun z2 _ q2 w G2 H2 o2 h2 => ?_) fun _ _ q2 => q2.step o1)
  obtain ⟨x, ex, q2⟩ := q2.opt
  obtain ⟨y, ey, q2⟩ := q2.opt
  have rx := hold_look o2.rel (h1.pers o2) ex
  have ry := hold_look o2.rel h2 ey
  cases x with
  | int i =>
    cases y with
    | int j =>
      have ev := rx.int; have ew := ry.int
      subst ev; subst ew
      refine ⟨i, j, rfl, rfl, p i j, rfl, ?_⟩
      by_cases hp : p i j = true
      · rw [if_pos hp]
        replace q2 := (show Wp (if p i j = true then _ else _) _ _ from q2)
        rw [if_pos hp] at q2
        refine sc G2 H2 σ z2.2 o2.rel _ (q2.bind.mono (fun z3 _ q3 u G3 H3 o3 h3 => ?_) fun _ _ q3 => q3.step (o1.trans o2))
        obtain ⟨u', eu, q3⟩ := q3.opt
        have ru := hold_look o3.rel h3 eu
        cases u' with
        | int k =>
          have eu' := ru.int
          subst eu'
          exact ⟨j, k, rfl, rfl, q3 _ G3 H3 ((o1.trans o2).trans o3) (Hold.val rep_bl)⟩
        | _ => exact q3.elim
      · rw [if_neg hp]
        replace q2 := (show Wp (if p i j = true then _ else _) _ _ from q2)
        rw [if_neg hp] at q2
        exact q2 (.bl false) G2 H2 (o1.trans o2) (Hold.val rep_bl)
    | _ => exact q2.elim
  | _ => exact q2.elim
theorem pr_chain {op op' : CmpOp} {p p' : Int → Int → Bool} (ho : OpR X (compareOp op) (rI0 fun i j => .bl (p i j))) (ho' : OpR X (compareOp op') (rI0 fun i j => .bl (p' i j))) (pa : PR X E a fa) (pb : PR X E b fb) (pc : PR X E c fc)
    (hm : lastMarks [op, op'] [b, c] = false := by with_unfolding_all rfl) : PR X E (.Compare a [op, op'] [b, c] pos) (eChain p p' fa fb fc) := by
  obtain ⟨ta, pa, sa⟩ := pa.ex
  obtain ⟨tb, pb, sb⟩ := pb.ex
  obtain ⟨tc, pc, sc⟩ := pc.ex
  exact ⟨_, pe_chain ho ho' pa pb pc hm, snd_chain sa sb sc⟩
/-! ### and, or, not as values of bools; tests -/
@[simp] def eAnd (fa fb : EF) : EF := fun ρ => fa ρ >>= fun z => match z.1 with
  | .val (.bl true) => fb z.2
  | .val (.bl false) => .ok (.val (.bl false), z.2)
  | _ => .no
@[simp] def eOr (fa fb : EF) : EF := fun ρ => fa ρ >>= fun z => match z.1 with
  | .val (.bl true) => .ok (.val (.bl true), z.2)
  | .val (.bl false) => fb z.2
  | _ => .no
@[simp] def eNot (fa : EF) : EF := fun ρ => fa ρ >>= fun z => match z.1 with
  | .val (.bl b) => .ok (.val (.bl (!b)), z.2)
  | _ => .no
theorem Hold.bl {K : PySem.W.Frag} {Hs G H : Hp} {σ : St} {ρ : S} {i : Bool} {v : V} (h : Hold K Hs G H σ ρ (.val (.bl i)) v) : v = .bl i := by
  have h' : Rep K G (.bl i) v := h
  unfold Rep at h'
  exact h'
variable {rest : List Expr}
theorem pr_and (pa : PR X E a fa) (pb : PR X E (.BoolOp .And (b :: rest) pos) fb) : PR X E (.BoolOp .And (a :: b :: rest) pos) (eAnd fa fb) := by
  obtain ⟨ta, pa, sa⟩ := pa.ex
  obtain ⟨tb, pb, sb⟩ := pb.ex
  refine ⟨_, pe_and pa pb, fun G H σ ρ R Q hw => ?_⟩
  refine sa G H σ ρ R _ (hw.bind.mono (fun z1 _ q v G1 H1 o1 h1 => ?_) fun _ _ q => q)
  split at q
  · rename_i e
    rw [e] at h1
    have := h1.bl; subst this
    refine ⟨true, rfl, iteT ?_⟩
    exact sb G1 H1 σ z1.2 o1.rel _ (q.mono (fun z2 _ q2 w G2 H2 o2 h2 => q2 w G2 H2 (o1.trans o2) (h2.back o1.stp.thr)) fun _ _ q2 => q2.step o1)
  · rename_i e
    rw [e] at h1
    have := h1.bl; subst this
    exact ⟨false, rfl, iteF (q (.bl false) G1 H1 o1 (Hold.val rep_bl))⟩
  · exact q.elim
theorem pr_or (pa : PR X E a fa) (pb : PR X E (.BoolOp .Or (b :: rest) pos) fb) : PR X E (.BoolOp .Or (a :: b :: rest) pos) (eOr fa fb) := by
  obtain ⟨ta, pa, sa⟩ := pa.ex
  obtain ⟨tb, pb, sb⟩ := pb.ex
  refine ⟨_, pe_or pa pb, fun G H σ ρ R Q hw => ?_⟩
  refine sa G H σ ρ R _ (hw.bind.mono (fun z1 _ q v G1 H1 o1 h1 => ?_) fun _ _ q => q)
  split at q
  · rename_i e
    rw [e] at h1
    have := h1.bl; subst this
    exact ⟨true, rfl, iteT (q (.bl true) G1 H1 o1 (Hold.val rep_bl))⟩
  · rename_i e
    rw [e] at h1
    have := h1.bl; subst this
    refine ⟨false, rfl, iteF ?_⟩
    exact sb G1 H1 σ z1.2 o1.rel _ (q.mono (fun z2 _ q2 w G2 H2 o2 h2 => q2 w G2 H2 (o1.trans o2) (h2.back o1.stp.thr)) fun _ _ q2 => q2.step o1)
  · exact q.elim
theorem pr_one {op} (pa : PR X E a fa) : PR X E (.BoolOp op [a] pos) fa := by
  obtain ⟨ta, pa, sa⟩ := pa.ex
  exact ⟨_, pe_one pa, sa⟩
theorem pr_not (pa : PR X E a fa) : PR X E (.UnaryOp .Not a pos) (eNot fa) := by
  obtain ⟨ta, pa, sa⟩ := pa.ex
  refine ⟨_, pe_not pa, fun G H σ ρ R Q hw => ?_⟩
  refine sa G H σ ρ R _ (hw.bind.mono (fun z1 _ q v G1 H1 o1 h1 => ?_) fun _ _ q => q)
  split at q
  · rename_i d e
    rw [e] at h1
    have := h1.bl; subst this
    exact ⟨d, rfl, q (.bl !d) G1 H1 o1 (Hold.val rep_bl)⟩
  · exact q.elim
/-- a value as a test -/
@[simp] def tstV (fa : EF) : S → R (Bool × S) := fun ρ => fa ρ >>= fun z => match z.1 with
  | .val (.bl b) => .ok (b, z.2)
  | _ => .no
theorem snd_tst {K : PySem.W.Frag} {ta : TE} (sa : Snd K E ta fa) : SndT K E (tB ta) (tstV fa) := by
  intro G H σ ρ R Q hw
  refine sa G H σ ρ R _ (hw.bind.mono (fun z1 _ q v G1 H1 o1 h1 => ?_) fun _ _ q => q)
  split at q
  · rename_i d e
    rw [e] at h1
    have := h1.bl; subst this
    exact ⟨d, rfl, q G1 H1 o1⟩
  · exact q.elim
theorem pb_val (pa : PR X E a fa) (he : ∀ whole, isTrue a X.env whole = (do let v ← whole; standAt a.pos; holding [v] (truthy v)) := by intro _; rfl) : PB X E a (tstV fa) := by
  obtain ⟨ta, pa, sa⟩ := pa.ex
  exact ⟨_, pt_val pa he, snd_tst sa⟩
theorem pb_cmp {op : CmpOp} {r : R2} {g : D → D → Option Rz} (ho : OpR X (compareOp op) r) (hg : OpD X.K r g) (pa : PR X E a fa) (pb : PR X E b fb) (hm : behindInMarks op b = false) : PB X E (.Compare a [op] [b] pos) (tstV (eOp2 g fa fb)) := by
  obtain ⟨ta, pa, sa⟩ := pa.ex
  obtain ⟨tb, pb, sb⟩ := pb.ex
  exact ⟨_, pt_cmpR ho pa pb hm, snd_tst (snd_op2 hg sa sb)⟩
theorem pb_chain {op op' : CmpOp} {p p' : Int → Int → Bool} (ho : OpR X (compareOp op) (rI0 fun i j => .bl (p i j))) (ho' : OpR X (compareOp op') (rI0 fun i j => .bl (p' i j))) (pa : PR X E a fa) (pb : PR X E b fb) (pc : PR X E c fc)
    (hm : lastMarks [op, op'] [b, c] = false := by with_unfolding_all rfl) : PB X E (.Compare a [op, op'] [b, c] pos) (tstV (eChain p p' fa fb fc)) := by
  obtain ⟨ta, pa, sa⟩ := pa.ex
  obtain ⟨tb, pb, sb⟩ := pb.ex
  obtain ⟨tc, pc, sc⟩ := pc.ex
  exact ⟨_, pt_chain ho ho' pa pb pc hm, snd_tst (snd_chain sa sb sc)⟩
variable {p q : S → R (Bool × S)}
@[simp] def tAndF (p q : S → R (Bool × S)) : S → R (Bool × S) := fun ρ => p ρ >>= fun z => if z.1 = true then q z.2 else .ok (false, z.2)
@[simp] def tOrF (p q : S → R (Bool × S)) : S → R (Bool × S) := fun ρ => p ρ >>= fun z => if z.1 = true then .ok (true, z.2) else q z.2
@[simp] def tNotF (p : S → R (Bool × S)) : S → R (Bool × S) := fun ρ => p ρ >>= fun z => .ok (!z.1, z.2)
theorem pb_w (h : PBw X E a p) : PB X E a p := let ⟨t, h1, h2⟩ := h.ex; ⟨t, h1.pt, h2⟩
theorem pb_and1 (h : PB X E a p) : PBw X E (.BoolOp .And [a] pos) p := let ⟨t, h1, h2⟩ := h.ex; ⟨t, pw_and1 h1, h2⟩
theorem pb_or1 (h : PB X E a p) : PBw X E (.BoolOp .Or [a] pos) p := let ⟨t, h1, h2⟩ := h.ex; ⟨t, pw_or1 h1, h2⟩
theorem pb_and (h : PB X E a p) (h' : PBw X E (.BoolOp .And (b :: rest) pos) q) : PBw X E (.BoolOp .And (a :: b :: rest) pos) (tAndF p q) := by
  obtain ⟨t, h1, s⟩ := h.ex
  obtain ⟨u, h2, s2⟩ := h'.ex
  refine ⟨_, pw_and h1 h2, fun G H σ ρ R Q hw => s G H σ ρ R _ (hw.bind.mono (fun z _ w G1 H1 o1 => ?_) fun _ _ w => w)⟩
  split at w
  · rename_i e
    rw [if_pos e]
    exact s2 G1 H1 σ z.2 o1.rel _ (w.mono (fun z2 _ w2 G2 H2 o2 => w2 G2 H2 (o1.trans o2)) fun _ _ w2 => w2.step o1)
  · rename_i e
    rw [if_neg e]
    exact w G1 H1 o1
theorem pb_or (h : PB X E a p) (h' : PBw X E (.BoolOp .Or (b :: rest) pos) q) : PBw X E (.BoolOp .Or (a :: b :: rest) pos) (tOrF p q) := by
  obtain ⟨t, h1, s⟩ := h.ex
  obtain ⟨u, h2, s2⟩ := h'.ex
  refine ⟨_, pw_or h1 h2, fun G H σ ρ R Q hw => s G H σ ρ R _ (hw.bind.mono (fun z _ w G1 H1 o1 => ?_) fun _ _ w => w)⟩
  split at w
  · rename_i e
    rw [if_pos e]
    exact w G1 H1 o1
  · rename_i e
    rw [if_neg e]
    exact s2 G1 H1 σ z.2 o1.rel _ (w.mono (fun z2 _ w2 G2 H2 o2 => w2 G2 H2 (o1.trans o2)) fun _ _ w2 => w2.step o1)
theorem pb_not (h : PB X E a p) : PB X E (.UnaryOp .Not a pos) (tNotF p) := by
  obtain ⟨t, h1, s⟩ := h.ex
  exact ⟨_, pt_not h1, fun G H σ ρ R Q hw => s G H σ ρ R _ (hw.bind.mono (fun z _ w G1 H1 o1 => w G1 H1 o1) fun _ _ w => w)⟩
@[simp] def eIf (p : S → R (Bool × S)) (fa fb : EF) : EF := fun ρ => p ρ >>= fun z => if z.1 = true then fa z.2 else fb z.2
theorem pr_if (h : PB X E c p) (pa : PR X E a fa) (pb : PR X E b fb) : PR X E (.IfExp c a b pos) (eIf p fa fb) := by
  obtain ⟨t, h1, s⟩ := h.ex
  obtain ⟨ta, pa, sa⟩ := pa.ex
  obtain ⟨tb, pb, sb⟩ := pb.ex
  refine ⟨_, pe_ifExp h1 pa pb, fun G H σ ρ R Q hw => s G H σ ρ R _ (hw.bind.mono (fun z _ w G1 H1 o1 => ?_) fun _ _ w => w)⟩
  split at w
  · rename_i e
    rw [if_pos e]
    exact sa G1 H1 σ z.2 o1.rel _ (w.mono (fun z2 _ w2 v G2 H2 o2 h2 => w2 v G2 H2 (o1.trans o2) (h2.back o1.stp.thr)) fun _ _ w2 => w2.step o1)
  · rename_i e
    rw [if_neg e]
    exact sb G1 H1 σ z.2 o1.rel _ (w.mono (fun z2 _ w2 v G2 H2 o2 h2 => w2 v G2 H2 (o1.trans o2) (h2.back o1.stp.thr)) fun _ _ w2 => w2.step o1)
/-! ### displays -/
variable {es : List Expr} {f : S → R (List D × S)}
@[simp] def eLst (f : S → R (List D × S)) : EF := fun ρ => f ρ >>= fun z => if z.1.length ≤ sizeLine then .ok (.tmp (.lst z.1), z.2) else .no
@[simp] def eTup (f : S → R (List D × S)) : EF := fun ρ => f ρ >>= fun z => if z.1.length ≤ sizeLine then .ok (.val (.tup z.1), z.2) else .no
theorem pr_lst (h : PAs X E es f) : PR X E (.List es pos) (eLst f) := by
  obtain ⟨t, pa, s⟩ := h.ex
  refine ⟨_, pe_lst pa, fun G H σ ρ R Q hw => s G H σ ρ R _ (hw.bind.mono (fun z _ w vs G1 H1 o1 h1 => ?_) fun _ _ w => w)⟩
  split at w
  · rename_i e
    refine ⟨by rw [← h1.length]; exact e, fun q hq => ?_⟩
    exact w _ G1 _ (o1.trans (.new o1.rel hq)) ⟨q, rfl, ⟨o1.rel.sub.none hq, _, upd_same, _, rfl, h1⟩, o1.stp.thr q hq, fun z => (o1.rel.adsH (o1.rel.ads_new hq z)).1 hq⟩
  · exact w.elim
theorem pr_tup {k : Nat} (h : PAs X E es f) : PR X E (.Tuple es k pos) (eTup f) := by
  obtain ⟨t, pa, s⟩ := h.ex
  refine ⟨_, pe_tup pa, fun G H σ ρ R Q hw => s G H σ ρ R _ (hw.bind.mono (fun z _ w vs G1 H1 o1 h1 => ?_) fun _ _ w => w)⟩
  split at w
  · rename_i e
    refine ⟨by rw [← h1.length]; exact e, fun q hq => ?_⟩
    have o2 := Out.lay (o := .tup vs) o1.rel hq
    refine w _ (upd G1 q (.tup vs)) _ (o1.trans o2) ?_
    show Rep _ _ (.tup z.1) _
    unfold Rep
    exact ⟨q, vs, rfl, .inl (.inl upd_same), h1.mono o2.stp.gg⟩
  · exact w.elim
end
end BR
set_option Elab.async false
set_option linter.all false
set_option maxRecDepth 100000
set_option maxHeartbeats 4000000
namespace BR
open PySem L2

/-! ## operations on data -/
mutual
def toP : D → Option PyData
  | .non => some .none
  | .bl b => some (.bool b)
  | .int i => some (.int i)
  | .str x => some (.str x)
  | .lst ds => (toPL ds).map .list
  | .tup ds => (toPL ds).map .tuple
  | _ => none
def toPL : List D → Option (List PyData)
  | [] => some []
  | d :: ds => match toP d, toPL ds with
    | some p, some ps => some (p :: ps)
    | _, _ => none
end
section
variable {K : PySem.W.Frag} {G H : Hp}
mutual
theorem dp_rep (s : Sub G H) : ∀ (d : D) {v : V} {p : PyData}, Rep K G d v → toP d = some p → Dp K H v p
  | .non, v, p, h, e => by unfold Rep at h; unfold toP at e; cases e; subst h; exact .non
  | .bl b, v, p, h, e => by unfold Rep at h; unfold toP at e; cases e; subst h; exact .bl b
  | .int b, v, p, h, e => by unfold Rep at h; unfold toP at e; cases e; subst h; exact .int b
  | .str b, v, p, h, e => by unfold Rep at h; unfold toP at e; cases e; subst h; exact .str b
  | .lst ds, v, p, h, e => by
    unfold Rep at h; unfold toP at e
    obtain ⟨a, vs, rfl, h1, h2⟩ := h
    cases q : toPL ds with
    | none => rw [q] at e; cases e
    | some ps => rw [q] at e; cases e; exact .lst (SqL.of (s.ls h1)) (dp_repL s ds h2 q)
  | .tup ds, v, p, h, e => by
    unfold Rep at h; unfold toP at e
    obtain ⟨a, vs, rfl, h1, h2⟩ := h
    cases q : toPL ds with
    | none => rw [q] at e; cases e
    | some ps => rw [q] at e; cases e; exact .tup (s.t h1) (dp_repL s ds h2 q)
  | .ty _, v, p, h, e => by unfold toP at e; cases e
  | .obj _, v, p, h, e => by unfold toP at e; cases e
  | .dic _ _, v, p, h, e => by unfold toP at e; cases e
  | .ins _ _ _, v, p, h, e => by unfold toP at e; cases e
  | .scr _, v, p, h, e => by unfold toP at e; cases e
theorem dp_repL (s : Sub G H) : ∀ (ds : List D) {vs : List V} {ps : List PyData}, RepL K G ds vs → toPL ds = some ps → DpAll K H vs ps
  | [], vs, ps, h, e => by rw [repL_nil.mp h]; unfold toPL at e; cases e; exact .nil
  | d :: ds, vs, ps, h, e => by
    obtain ⟨v, vs', rfl, h1, h2⟩ := repL_cons.mp h
    unfold toPL at e
    cases q : toP d with
    | none => rw [q] at e; cases e
    | some p =>
      cases q2 : toPL ds with
      | none => rw [q, q2] at e; cases e
      | some ps' => rw [q, q2] at e; cases e; exact .cons (dp_rep s d h1 q) (dp_repL s ds h2 q2)
end
theorem dp_repP (s : Sub G H) {d : D} {v : V} {p : PyData} (h : RepP K G H d v) (e : toP d = some p) : Dp K H v p := by
  rcases h with h | ⟨a, rfl, hg, o, ho, hc⟩
  · exact dp_rep s d h e
  · cases d with
    | lst ds =>
      obtain ⟨vs, rfl, h2⟩ := hc
      unfold toP at e
      cases q : toPL ds with
      | none => rw [q] at e; cases e
      | some ps => rw [q] at e; cases e; exact .lst (SqL.of ho) (dp_repL s ds h2 q)
    | dic ks ds => unfold toP at e; cases e
    | ins C ns ds => unfold toP at e; cases e
    | _ => exact hc.elim
end
def eqD (x y : D) : Option Bool := match x, y with
  | .int i, .int j => some (decide (i = j))
  | .str a, .str b => some (decide (a = b))
  | .bl a, .bl b => some (decide (a = b))
  | x, y => match toP x, toP y with
    | some p, some q => if (SeqAt.shaped p && SeqAt.shaped q) = true then some (PyData.eqv p q) else none
    | _, _ => none
def dEq (x y : D) : Option Rz := (eqD x y).map fun b => .im (.bl b)
def dNe (x y : D) : Option Rz := (eqD x y).map fun b => .im (.bl !b)
section
variable {X : Cx} {K : PySem.W.Frag}
def rEqB (K : PySem.W.Frag) : R2 := fun x y H Q => rEq x y H Q ∨ rEqD K x y H Q
def rNeB (K : PySem.W.Frag) : R2 := fun x y H Q => rNe x y H Q ∨ rNeD K x y H Q
theorem op_eqB (hu : X.A.units + 64 < cLine) : OpR X (compareOp .Eq) (rEqB X.K) := OpR.or op_eq (op_eqD hu)
theorem op_neB (hu : X.A.units + 64 < cLine) : OpR X (compareOp .NotEq) (rNeB X.K) := OpR.or op_ne (op_neD hu)
theorem eqD_cases {G H : Hp} {x y : D} {v w : V} {b : Bool} (s : Sub G H) (hx : RepP K G H x v) (hy : RepP K G H y w) (e : eqD x y = some b) :
    (scal v w = true ∧ b = decide (v = w)) ∨ ∃ p q, Dp K H v p ∧ Dp K H w q ∧ SeqAt.shaped p = true ∧ SeqAt.shaped q = true ∧ b = PyData.eqv p q := by
  have gen : ∀ {x y : D}, RepP K G H x v → RepP K G H y w → (match toP x, toP y with
    | some p, some q => if (SeqAt.shaped p && SeqAt.shaped q) = true then some (PyData.eqv p q) else none
    | _, _ => none) = some b → ∃ p q, Dp K H v p ∧ Dp K H w q ∧ SeqAt.shaped p = true ∧ SeqAt.shaped q = true ∧ b = PyData.eqv p q := by
    intro x y hx hy e
    split at e
    · rename_i p q e1 e2
      split at e
      · rename_i hs
        obtain ⟨s1, s2⟩ := Bool.and_eq_true_iff.mp hs
        cases e
        exact ⟨p, q, dp_repP s hx e1, dp_repP s hy e2, s1, s2, rfl⟩
      · cases e
    · cases e
  unfold eqD at e
  split at e
  · have := hx.int; have := hy.int; subst_vars; cases e
    exact .inl ⟨rfl, by simp⟩
  · have := hx.str; have := hy.str; subst_vars; cases e
    exact .inl ⟨rfl, by simp⟩
  · have := hx.bl; have := hy.bl; subst_vars; cases e
    exact .inl ⟨rfl, by simp⟩
  · exact .inr (gen hx hy e)
theorem d_eq : OpD K (rEqB K) dEq := by
  intro G H x y v w s hx hy z Q e h
  unfold dEq at e
  cases q : eqD x y with
  | none => rw [q] at e; cases e
  | some b =>
    rw [q] at e; cases e
    rcases eqD_cases s hx hy q with ⟨h1, h2⟩ | ⟨p, q, h1, h2, h3, h4, h5⟩
    · exact .inl ⟨h1, by rw [← h2]; exact h _ rep_bl⟩
    · exact .inr ⟨p, q, h1, h2, h3, h4, by rw [← h5]; exact h _ rep_bl⟩
theorem d_ne : OpD K (rNeB K) dNe := by
  intro G H x y v w s hx hy z Q e h
  unfold dNe at e
  cases q : eqD x y with
  | none => rw [q] at e; cases e
  | some b =>
    rw [q] at e; cases e
    rcases eqD_cases s hx hy q with ⟨h1, h2⟩ | ⟨p, q, h1, h2, h3, h4, h5⟩
    · exact .inl ⟨h1, by rw [← h2]; exact h _ rep_bl⟩
    · exact .inr ⟨p, q, h1, h2, h3, h4, by rw [← h5]; exact h _ rep_bl⟩
/-! ints -/
@[simp] def dI (g : Int → Int → D) (x y : D) : Option Rz := match x, y with
  | .int i, .int j => some (.im (g i j))
  | _, _ => none
open Classical in
noncomputable def dIc (C : Int → Int → Prop) (g : Int → Int → Int) (x y : D) : Option Rz := match x, y with
  | .int i, .int j => if C i j then some (.im (.int (g i j))) else none
  | _, _ => none
theorem d_I {g : Int → Int → D} {gv : Int → Int → V} (hg : ∀ i j G, Rep K G (g i j) (gv i j)) : OpD K (rI0 gv) (dI g) := by
  intro G H x y v w s hx hy z Q e h
  unfold dI at e
  split at e
  · have := hx.int; have := hy.int; subst_vars; cases e
    exact ⟨_, _, rfl, rfl, h _ (hg _ _ _)⟩
  · cases e
theorem d_Ib {g : Int → Int → Bool} : OpD K (rI0 fun i j => .bl (g i j)) (dI fun i j => .bl (g i j)) := d_I fun _ _ _ => rep_bl
theorem d_Ii {g : Int → Int → Int} : OpD K (rI0 fun i j => .int (g i j)) (dI fun i j => .int (g i j)) := d_I fun _ _ _ => rep_int
theorem d_Ic {C : Int → Int → Prop} {g : Int → Int → Int} : OpD K (rI C fun i j => .int (g i j)) (dIc C g) := by
  intro G H x y v w s hx hy z Q e h
  unfold dIc at e
  split at e
  · split at e
    · rename_i hc
      have := hx.int; have := hy.int; subst_vars; cases e
      exact ⟨_, _, rfl, rfl, hc, h _ rep_int⟩
    · cases e
  · cases e
theorem d_neg : UnD K (rU fun i => .int (-i)) (fun x => match x with | .int i => some (.im (.int (-i))) | _ => none) := by
  intro G H x v s hx z Q e h
  cases x with
  | int i => have := hx.int; subst_vars; cases e; exact ⟨_, rfl, h _ rep_int⟩
  | _ => cases e
/-! + -/
@[simp] def dAdd (x y : D) : Option Rz := match x, y with
  | .int i, .int j => some (.im (.int (i + j)))
  | .str a, .str b => if a.length + b.length ≤ sizeLine then some (.im (.str (a ++ b))) else none
  | .lst a, .lst b => if a.length + b.length ≤ sizeLine then some (.nw (.lst (a ++ b))) else none
  | _, _ => none
def rStrAdd : R2 := fun x y H Q => ∃ i j, x = .str i ∧ y = .str j ∧ i.length + j.length ≤ sizeLine ∧ Q (.str (i ++ j)) H
def rAddB : R2 := fun x y H Q => (rI0 (fun i j => .int (i + j)) x y H Q ∨ rStrAdd x y H Q) ∨ rCat x y H Q
theorem op_addB : OpR X (binaryOp .Add) rAddB := OpR.or (OpR.or op_add op_add_str) op_cat
theorem d_add : OpD K rAddB dAdd := by
  intro G H x y v w s hx hy z Q e h
  unfold dAdd at e
  split at e
  · have := hx.int; have := hy.int; subst_vars; cases e
    exact .inl (.inl ⟨_, _, rfl, rfl, h _ rep_int⟩)
  · split at e
    · rename_i hl
      have := hx.str; have := hy.str; subst_vars; cases e
      exact .inl (.inr ⟨_, _, rfl, rfl, hl, h _ rep_str⟩)
    · cases e
  · split at e
    · rename_i hl
      obtain ⟨a, vs, rfl, h1, h2⟩ := hx.lst s
      obtain ⟨b, ws, rfl, h3, h4⟩ := hy.lst s
      cases e
      exact .inr ⟨a, b, vs, ws, rfl, rfl, h1, h3, by rw [← h2.length, ← h4.length]; exact hl, fun p hp => h p _ hp ⟨_, rfl, h2.append h4⟩⟩
    · cases e
  · cases e
/-! * -/
open Classical in
noncomputable def dMul (x y : D) : Option Rz := match x, y with
  | .int i, .int j => if CMul i j then some (.im (.int (i * j))) else none
  | .str a, .int n => if 0 ≤ n ∧ n < 2 ^ 62 ∧ a.length * n.toNat ≤ sizeLine then some (.im (.str ⟨(List.replicate n.toNat a.cps.toList).flatten.toArray⟩)) else none
  | .lst a, .int n => if -(2 ^ 63) ≤ n ∧ n < 2 ^ 63 ∧ a.length * n.toNat ≤ sizeLine then some (.nw (.lst (List.replicate n.toNat a).flatten)) else none
  | _, _ => none
end
end BR
set_option Elab.async false
set_option linter.all false
set_option maxRecDepth 100000
set_option maxHeartbeats 4000000
namespace BR
open PySem L2

/-! ## statements -/
inductive Fl where
  | nx | bk | ct | rt (h : Hd)
abbrev SF := S → R (Fl × S)
structure OutS (K : PySem.W.Frag) (G H : Hp) (σ : St) (ρ : S) (G' H' : Hp) (σ' : St) (ρ' : S) : Prop where
  rel : Rel K G' H' σ' ρ'
  stp : Stp (ads H σ ρ) G H G' H'
  nw : ∀ a, ads H' σ' ρ' a → H a ≠ none → ads H σ ρ a
  io : ∀ i, isIo ρ i → isIo ρ' i ∧ σ'[i]? = σ[i]?
def FlP (K : PySem.W.Frag) (G H : Hp) (σ : St) (ρ : S) (Dn : Ends) (z : Fl × S) : Prop := match z.1 with
  | .nx => ∀ σ' G' H', OutS K G H σ ρ G' H' σ' z.2 → Dn.nx σ' H'
  | .bk => ∀ σ' G' H', OutS K G H σ ρ G' H' σ' z.2 → Dn.bk σ' H'
  | .ct => ∀ σ' G' H', OutS K G H σ ρ G' H' σ' z.2 → Dn.ct σ' H'
  | .rt h => ∀ v σ' G' H', OutS K G H σ ρ G' H' σ' z.2 → Hold K H G' H' σ' z.2 h v → Dn.rt v H'
def SndS (K : PySem.W.Frag) (E : WX) (t : TS) (f : SF) : Prop := ∀ (G H : Hp) (σ : St) (ρ : S), Rel K G H σ ρ → ∀ Dn : Ends,
  Wp (f ρ) (FlP K G H σ ρ Dn) (ExE K E G H σ ρ) → t Dn σ H
structure PSt (X : Cx) (E : WX) (st : Stmt) (f : SF) : Prop where
  ex : ∃ t, PS X st t ∧ SndS X.K E t f
structure PSq (X : Cx) (E : WX) (sts : List Stmt) (f : SF) : Prop where
  ex : ∃ t, PSs X sts t ∧ SndS X.K E t f
section
variable {K : PySem.W.Frag} {E : WX} {G H G1 H1 G2 H2 : Hp} {σ σ1 σ2 : St} {ρ ρ1 ρ2 : S}
theorem Out.s (o : Out K G H σ ρ G1 H1 ρ1) : OutS K G H σ ρ G1 H1 σ ρ1 := ⟨o.rel, o.stp, o.nw, fun i h => ⟨o.ker.io i h, rfl⟩⟩
theorem OutS.trans (a : OutS K G H σ ρ G1 H1 σ1 ρ1) (b : OutS K G1 H1 σ1 ρ1 G2 H2 σ2 ρ2) : OutS K G H σ ρ G2 H2 σ2 ρ2 where
  rel := b.rel
  stp := a.stp.trans b.stp fun c e z => a.nw c z e
  nw := fun c z e => a.nw c (b.nw c z fun q => e (a.stp.thr c q)) e
  io := fun i h => ⟨(b.io i (a.io i h).1).1, (b.io i (a.io i h).1).2.trans (a.io i h).2⟩
theorem OutS.toX {σ' : St} {G' H' : Hp} {ρ' : S} (o : OutS K G H σ ρ G1 H1 σ1 ρ1) (x : OutX K G1 H1 σ1 ρ1 G' H' σ' ρ') : OutX K G H σ ρ G' H' σ' ρ' :=
  ⟨x.rel, o.stp.trans x.stp fun c e z => o.nw c z e, fun c z e => o.nw c (x.nw c z fun q => e (o.stp.thr c q)) e, fun i h => (x.io i (o.io i h).1).trans (o.io i h).2⟩
theorem ExE.stepS {x : Exc} (o : OutS K G H σ ρ G1 H1 σ1 ρ1) (h : ExE K E G H σ ρ x) : ExE K E G1 H1 σ1 ρ1 x := fun c d σ' G' H' s r =>
  h c d σ' G' H' (o.toX s) r
theorem FlP.step {Dn : Ends} {z : Fl × S} (o : OutS K G H σ ρ G1 H1 σ1 ρ1) (h : FlP K G H σ ρ Dn z) : FlP K G1 H1 σ1 ρ1 Dn z := by
  obtain ⟨fl, ρ'⟩ := z
  cases fl with
  | nx => exact fun σ' G' H' o' => h σ' G' H' (o.trans o')
  | bk => exact fun σ' G' H' o' => h σ' G' H' (o.trans o')
  | ct => exact fun σ' G' H' o' => h σ' G' H' (o.trans o')
  | rt hd => exact fun v σ' G' H' o' hh => h v σ' G' H' (o.trans o') (hh.back o.stp.thr)
end
section
variable {X : Cx} {E : WX} {st : Stmt} {rest : List Stmt} {f g : SF} {pos : Pos} {e : Expr} {fe : EF}
@[simp] def sNil : SF := fun ρ => .ok (.nx, ρ)
@[simp] def sSeq (f g : SF) : SF := fun ρ => f ρ >>= fun z => match z.1 with
  | .nx => g z.2
  | _ => .ok z
theorem sq_nil : PSq X E [] sNil := ⟨_, pss_nil, fun G H σ ρ R Dn hw => hw σ G H (Out.refl R).s⟩
theorem sq_cons (h1 : PSt X E st f) (h2 : PSq X E rest g) : PSq X E (st :: rest) (sSeq f g) := by
  obtain ⟨t, p1, s1⟩ := h1.ex
  obtain ⟨u, p2, s2⟩ := h2.ex
  refine ⟨_, pss_cons p1 p2, fun G H σ ρ R Dn hw => s1 G H σ ρ R _ (hw.bind.mono (fun z _ q => ?_) fun _ _ q => q)⟩
  obtain ⟨fl, ρ'⟩ := z
  cases fl with
  | nx => exact fun σ' G' H' o => s2 G' H' σ' ρ' o.rel Dn (Wp.mono q (fun z _ q2 => q2.step o) fun _ _ q2 => q2.stepS o)
  | bk => exact q
  | ct => exact q
  | rt hd => exact q
theorem sq_one (h1 : PSt X E st f) : PSq X E [st] f := by
  obtain ⟨t, p1, s1⟩ := h1.ex
  exact ⟨_, pss_one p1, s1⟩
@[simp] def sNo : SF := fun _ => .no
theorem st_never : PSt X E st sNo := ⟨_, ps_never, fun G H σ ρ R Dn hw => hw.elim⟩
@[simp] def sBrk : SF := fun ρ => .ok (.bk, ρ)
@[simp] def sCnt : SF := fun ρ => .ok (.ct, ρ)
theorem st_pass : PSt X E (.Pass pos) sNil := ⟨_, ps_pass, fun G H σ ρ R Dn hw => hw σ G H (Out.refl R).s⟩
theorem st_break : PSt X E (.Break pos) sBrk := ⟨_, ps_break, fun G H σ ρ R Dn hw => hw σ G H (Out.refl R).s⟩
theorem st_cont : PSt X E (.Continue pos) sCnt := ⟨_, ps_continue, fun G H σ ρ R Dn hw => hw σ G H (Out.refl R).s⟩
@[simp] def sDrop (fe : EF) : SF := fun ρ => fe ρ >>= fun z => .ok (.nx, z.2)
theorem st_expr (h : PR X E e fe) (hs : swapsWith e none pos.line X.env = pure false := by rfl) : PSt X E (.Expr e pos) (sDrop fe) := by
  obtain ⟨t, p, s⟩ := h.ex
  exact ⟨_, ps_expr p hs, fun G H σ ρ R Dn hw => s G H σ ρ R _ (hw.bind.mono (fun z _ q v G' H' o _ => q σ G' H' o.s) fun _ _ q => q)⟩
@[simp] def sRet (fe : EF) : SF := fun ρ => fe ρ >>= fun z => .ok (.rt z.1, z.2)
theorem st_ret (h : PR X E e fe) : PSt X E (.Return (some e) pos) (sRet fe) := by
  obtain ⟨t, p, s⟩ := h.ex
  exact ⟨_, ps_ret p, fun G H σ ρ R Dn hw => s G H σ ρ R _ (hw.bind.mono (fun z _ q v G' H' o h => q v σ G' H' o.s h) fun _ _ q => q)⟩
@[simp] def sRetN : SF := fun ρ => .ok (.rt (.val .non), ρ)
theorem st_retN : PSt X E (.Return none pos) sRetN := ⟨_, ps_retN, fun G H σ ρ R Dn hw => hw .non σ G H (Out.refl R).s (Hold.val rep_non)⟩
@[simp] def sIf (p : S → R (Bool × S)) (f g : SF) : SF := fun ρ => p ρ >>= fun z => if z.1 = true then f z.2 else g z.2
theorem st_if {c : Expr} {a b : List Stmt} {p : S → R (Bool × S)} (hc : PB X E c p) (ha : PSq X E a f) (hb : PSq X E b g) : PSt X E (.If c a b pos) (sIf p f g) := by
  obtain ⟨t, p1, s⟩ := hc.ex
  obtain ⟨ta, pa, sa⟩ := ha.ex
  obtain ⟨tb, pb, sb⟩ := hb.ex
  refine ⟨_, ps_if p1 pa pb, fun G H σ ρ R Dn hw => s G H σ ρ R _ (hw.bind.mono (fun z _ q G' H' o => ?_) fun _ _ q => q)⟩
  split at q
  · rename_i e
    rw [if_pos e]
    exact sa G' H' σ z.2 o.rel Dn (q.mono (fun y _ q2 => q2.step o.s) fun _ _ q2 => q2.step o)
  · rename_i e
    rw [if_neg e]
    exact sb G' H' σ z.2 o.rel Dn (q.mono (fun y _ q2 => q2.step o.s) fun _ _ q2 => q2.step o)

/-! ### name = value -/
@[simp] def setS (i : Nat) (s : Sl) (ρ : S) : Option S := match ρ[i]? with
  | some (some (.io _)) => none
  | some _ => some (ρ.set i (some s))
  | none => none
@[simp] def putS (i : Nat) (h : Hd) (ρ : S) : Option S := match h with
  | .val d => setS i (.sh d) ρ
  | .tmp d => setS i (.own d) ρ
  | .tpd t => setS i (.dp t) ρ
  | .slot j => (share (.slot j) ρ).bind fun z => setS i (.sh z.1) z.2
  | .sub _ _ => none
theorem setS_eq {i : Nat} {s : Sl} {ρ ρ' : S} (h : setS i s ρ = some ρ') : i < ρ.length ∧ ρ' = ρ.set i (some s) ∧ ¬ isIo ρ i := by
  unfold setS at h
  split at h
  · cases h
  · rename_i x e q
    cases h
    refine ⟨(List.getElem?_eq_some_iff.mp q).1, rfl, fun ⟨d, z⟩ => ?_⟩
    rw [q] at z
    exact e d (Option.some.inj z)
  · cases h
end
section
variable {K : PySem.W.Frag} {G H Gs Hs : Hp} {σ : St} {ρ ρ' ρs : S} {v : V}
/-- a slot gets a shared value -/
theorem set_sh {σs : St} {i : Nat} {d : D} (o : OutS K Gs Hs σs ρs G H σ ρ) (hv : Rep K G d v) (e : setS i (.sh d) ρ = some ρ') : OutS K Gs Hs σs ρs G H (σ.set i (some v)) ρ' := by
  obtain ⟨hi, rfl, hn⟩ := setS_eq e
  have hσ : i < σ.length := by rw [← o.rel.len]; exact hi
  have mm : ∀ j, isMut (ρ.set i (some (.sh d))) j → j ≠ i ∧ isMut ρ j := fun j h => isMut_set h fun d => ⟨nofun, nofun⟩
  have kd : ∀ (j : Nat) (t : T), (ρ.set i (some (.sh d)))[j]? = some (some (Sl.dp t)) → ρ[j]? = some (some (Sl.dp t)) ∧ (σ.set i (some v))[j]? = σ[j]? := fun j t q => by
    by_cases hj : i = j
    · subst hj; rw [List.getElem?_set_self hi] at q; cases q
    · rw [List.getElem?_set_ne hj] at q; exact ⟨q, List.getElem?_set_ne hj⟩
  have md : ∀ (j : Nat) (a : Addr), isMut (ρ.set i (some (.sh d))) j → dpa H σ ρ a → (σ.set i (some v))[j]? ≠ some (some (.ref a)) := fun j a m h q => by
    obtain ⟨nj, m⟩ := mm j m
    rw [List.getElem?_set_ne (Ne.symm nj)] at q
    exact o.rel.dp.ds a j h m q
  obtain ⟨tr, tw⟩ := o.rel.trees (Same.refl G) (fun a h => ⟨rfl, (o.rel.dpaH h).2⟩) kd md
  have aa : ∀ a, ads H (σ.set i (some v)) (ρ.set i (some (.sh d))) a → ads H σ ρ a := fun a h => by
    rcases h with ⟨j, m, q⟩ | h
    · obtain ⟨nj, m⟩ := mm j m
      rw [List.getElem?_set_ne (Ne.symm nj)] at q
      exact .inl ⟨j, m, q⟩
    · exact .inr (tw a h)
  refine ⟨⟨by simp [o.rel.len], o.rel.sub, fun j s q => ?_, fun j k a m1 m2 q1 q2 => ?_, tr⟩, o.stp, fun a z => o.nw a (aa a z), fun j h => ?_⟩
  · by_cases hj : i = j
    · subst hj
      rw [List.getElem?_set_self hi] at q; cases q
      exact ⟨v, List.getElem?_set_self hσ, hv⟩
    · rw [List.getElem?_set_ne hj] at q
      rw [List.getElem?_set_ne hj]
      exact o.rel.sl j s q
  · obtain ⟨n1, m1⟩ := mm j m1
    obtain ⟨n2, m2⟩ := mm k m2
    rw [List.getElem?_set_ne (Ne.symm n1)] at q1
    rw [List.getElem?_set_ne (Ne.symm n2)] at q2
    exact o.rel.dis j k a m1 m2 q1 q2
  · obtain ⟨⟨d', h1⟩, h2⟩ := o.io j h
    have hj : i ≠ j := fun z => hn (by rw [z]; exact ⟨d', h1⟩)
    exact ⟨⟨d', by rw [List.getElem?_set_ne hj]; exact h1⟩, by rw [List.getElem?_set_ne hj]; exact h2⟩
/-- a slot gets a new owned object -/
theorem set_own {σs : St} {i : Nat} {d : D} {p : Addr} (o : OutS K Gs Hs σs ρs G H σ ρ) (ho : OwnAt K G H p d) (hp : Hs p = none) (hn : ¬ ads H σ ρ p) (e : setS i (.own d) ρ = some ρ') : OutS K Gs Hs σs ρs G H (σ.set i (some (.ref p))) ρ' := by
  obtain ⟨hi, rfl, hio⟩ := setS_eq e
  have hσ : i < σ.length := by rw [← o.rel.len]; exact hi
  have mm : ∀ j, j ≠ i → isMut (ρ.set i (some (.own d))) j → isMut ρ j := fun j nj ⟨d', h⟩ => ⟨d', by rw [List.getElem?_set_ne (Ne.symm nj)] at h; exact h⟩
  have kd : ∀ (j : Nat) (t : T), (ρ.set i (some (.own d)))[j]? = some (some (Sl.dp t)) → ρ[j]? = some (some (Sl.dp t)) ∧ (σ.set i (some (.ref p)))[j]? = σ[j]? := fun j t q => by
    by_cases hj : i = j
    · subst hj; rw [List.getElem?_set_self hi] at q; cases q
    · rw [List.getElem?_set_ne hj] at q; exact ⟨q, List.getElem?_set_ne hj⟩
  have md : ∀ (j : Nat) (a : Addr), isMut (ρ.set i (some (.own d))) j → dpa H σ ρ a → (σ.set i (some (.ref p)))[j]? ≠ some (some (.ref a)) := fun j a m h q => by
    by_cases nj : j = i
    · subst nj
      rw [List.getElem?_set_self hσ] at q; cases q
      exact hn (.inr h)
    · rw [List.getElem?_set_ne (Ne.symm nj)] at q
      exact o.rel.dp.ds a j h (mm j nj m) q
  obtain ⟨tr, tw⟩ := o.rel.trees (Same.refl G) (fun a h => ⟨rfl, (o.rel.dpaH h).2⟩) kd md
  refine ⟨⟨by simp [o.rel.len], o.rel.sub, fun j s q => ?_, fun j k a m1 m2 q1 q2 => ?_, tr⟩, o.stp, fun a h z => ?_, fun j h => ?_⟩
  · by_cases hj : i = j
    · subst hj
      rw [List.getElem?_set_self hi] at q; cases q
      exact ⟨p, List.getElem?_set_self hσ, ho⟩
    · rw [List.getElem?_set_ne hj] at q
      rw [List.getElem?_set_ne hj]
      exact o.rel.sl j s q
  · by_cases n1 : j = i
    · by_cases n2 : k = i
      · exact n1.trans n2.symm
      · subst n1
        rw [List.getElem?_set_self hσ] at q1
        cases q1
        rw [List.getElem?_set_ne (Ne.symm n2)] at q2
        exact absurd (.inl ⟨k, mm k n2 m2, q2⟩) hn
    · by_cases n2 : k = i
      · subst n2
        rw [List.getElem?_set_self hσ] at q2
        cases q2
        rw [List.getElem?_set_ne (Ne.symm n1)] at q1
        exact absurd (.inl ⟨j, mm j n1 m1, q1⟩) hn
      · rw [List.getElem?_set_ne (Ne.symm n1)] at q1
        rw [List.getElem?_set_ne (Ne.symm n2)] at q2
        exact o.rel.dis j k a (mm j n1 m1) (mm k n2 m2) q1 q2
  · rcases h with ⟨j, m, q⟩ | h
    · by_cases nj : j = i
      · subst nj
        rw [List.getElem?_set_self hσ] at q
        cases q
        exact absurd hp z
      · rw [List.getElem?_set_ne (Ne.symm nj)] at q
        exact o.nw a (.inl ⟨j, mm j nj m, q⟩) z
    · exact o.nw a (.inr (tw a h)) z
  · obtain ⟨⟨d', h1⟩, h2⟩ := o.io j h
    have hj : i ≠ j := fun z => hio (by rw [z]; exact ⟨d', h1⟩)
    exact ⟨⟨d', by rw [List.getElem?_set_ne hj]; exact h1⟩, by rw [List.getElem?_set_ne hj]; exact h2⟩
/-- a slot gets a new owned tree -/
theorem set_dp {σs : St} {i : Nat} {t : T} (o : OutS K Gs Hs σs ρs G H σ ρ) (ho : Own K G H t v) (hnd : (fp H t v).Nodup) (hf : ∀ p ∈ fp H t v, Hs p = none ∧ ¬ ads H σ ρ p) (e : setS i (.dp t) ρ = some ρ') : OutS K Gs Hs σs ρs G H (σ.set i (some v)) ρ' := by
  obtain ⟨hi, rfl, hio⟩ := setS_eq e
  have hσ : i < σ.length := by rw [← o.rel.len]; exact hi
  have mm : ∀ j, isMut (ρ.set i (some (.dp t))) j → j ≠ i ∧ isMut ρ j := fun j h => isMut_set h fun d => ⟨nofun, nofun⟩
  have dd : ∀ (j : Nat) (u : T) (w : V), (ρ.set i (some (.dp t)))[j]? = some (some (Sl.dp u)) → (σ.set i (some v))[j]? = some (some w) → (j = i ∧ u = t ∧ w = v) ∨ (j ≠ i ∧ ρ[j]? = some (some (Sl.dp u)) ∧ σ[j]? = some (some w)) := fun j u w q q2 => by
    by_cases hj : i = j
    · subst hj
      rw [List.getElem?_set_self hi] at q; cases q
      rw [List.getElem?_set_self hσ] at q2; cases q2
      exact .inl ⟨rfl, rfl, rfl⟩
    · rw [List.getElem?_set_ne hj] at q q2
      exact .inr ⟨Ne.symm hj, q, q2⟩
  have fl : ∀ (j : Nat) (a : Addr), isMut (ρ.set i (some (.dp t))) j → (σ.set i (some v))[j]? = some (some (.ref a)) → isMut ρ j ∧ σ[j]? = some (some (.ref a)) := fun j a m q => by
    obtain ⟨nj, m⟩ := mm j m
    rw [List.getElem?_set_ne (Ne.symm nj)] at q
    exact ⟨m, q⟩
  refine ⟨⟨by simp [o.rel.len], o.rel.sub, fun j s q => ?_, fun j k a m1 m2 q1 q2 => ?_, ⟨fun j k u x w y a q1 q2 q3 q4 m1 m2 => ?_, fun a j h m q => ?_⟩⟩, o.stp, fun a h z => ?_, fun j h => ?_⟩
  · by_cases hj : i = j
    · subst hj
      rw [List.getElem?_set_self hi] at q; cases q
      exact ⟨v, List.getElem?_set_self hσ, ho, hnd⟩
    · rw [List.getElem?_set_ne hj] at q
      rw [List.getElem?_set_ne hj]
      exact o.rel.sl j s q
  · exact o.rel.dis j k a (fl j a m1 q1).1 (fl k a m2 q2).1 (fl j a m1 q1).2 (fl k a m2 q2).2
  · rcases dd j u w q1 q2 with ⟨rfl, rfl, rfl⟩ | ⟨n1, r1, r2⟩
    · rcases dd k x y q3 q4 with ⟨rfl, rfl, rfl⟩ | ⟨n2, r3, r4⟩
      · rfl
      · exact absurd (.inr ⟨k, x, y, r3, r4, m2⟩) (hf a m1).2
    · rcases dd k x y q3 q4 with ⟨rfl, rfl, rfl⟩ | ⟨n2, r3, r4⟩
      · exact absurd (.inr ⟨j, u, w, r1, r2, m1⟩) (hf a m2).2
      · exact o.rel.dp.dd j k u x w y a r1 r2 r3 r4 m1 m2
  · have fm := fl j a m q
    obtain ⟨k, u, w, q1, q2, q3⟩ := h
    rcases dd k u w q1 q2 with ⟨rfl, rfl, rfl⟩ | ⟨n1, r1, r2⟩
    · exact (hf a q3).2 (.inl ⟨j, fm.1, fm.2⟩)
    · exact o.rel.dp.ds a j ⟨k, u, w, r1, r2, q3⟩ fm.1 fm.2
  · rcases h with ⟨j, m, q⟩ | ⟨k, u, w, q1, q2, q3⟩
    · exact o.nw a (.inl ⟨j, (fl j a m q).1, (fl j a m q).2⟩) z
    · rcases dd k u w q1 q2 with ⟨rfl, rfl, rfl⟩ | ⟨n1, r1, r2⟩
      · exact absurd (hf a q3).1 z
      · exact o.nw a (.inr ⟨k, u, w, r1, r2, q3⟩) z
  · obtain ⟨⟨d', h1⟩, h2⟩ := o.io j h
    have hj : i ≠ j := fun z => hio (by rw [z]; exact ⟨d', h1⟩)
    exact ⟨⟨d', by rw [List.getElem?_set_ne hj]; exact h1⟩, by rw [List.getElem?_set_ne hj]; exact h2⟩
theorem put_ok {i : Nat} {h : Hd} (o : Out K Gs Hs σ ρs G H ρ) (hh : Hold K Hs G H σ ρ h v) (e : putS i h ρ = some ρ') : ∃ G', OutS K Gs Hs σ ρs G' H (σ.set i (some v)) ρ' := by
  cases h with
  | val d => exact ⟨G, set_sh o.s hh e⟩
  | tmp d =>
    obtain ⟨p, rfl, h1, h2, h3⟩ := hh
    exact ⟨G, set_own o.s h1 h2 h3 e⟩
  | tpd t =>
    obtain ⟨h1, h2, h3⟩ := hh
    exact ⟨G, set_dp o.s h1 h2 h3 e⟩
  | sub j p => cases e
  | slot j =>
    have e' : ((share (.slot j) ρ).bind fun z => setS i (.sh z.1) z.2) = some ρ' := e
    cases q : share (.slot j) ρ with
    | none => rw [q] at e'; cases e'
    | some z =>
      rw [q] at e'
      obtain ⟨G', o', _, rp⟩ := share_ok o hh q
      exact ⟨G', set_sh o'.s rp e'⟩
end
section
variable {X : Cx} {E : WX} {f g : SF} {pos : Pos} {e : Expr} {fe : EF}
@[simp] def sAsg (i : Nat) (fe : EF) : SF := fun ρ => fe ρ >>= fun z => ofO (putS i z.1 z.2) >>= fun ρ' => .ok (.nx, ρ')
theorem st_asg {i : Nat} {x : Str} {pos' : Pos} (hN : X.N.Nodup) (hi : X.N[i]? = some x) (hx : Loc X.env.scope x) (h : PR X E e fe) (hs : swapsWith e (some (.Name x pos')) pos.line X.env = pure false := by rfl)
    (hf : X.fn x = true ∨ X.env.scope.names.lookup x = some .local := by first | exact .inl rfl | exact .inr rfl | assumption) : PSt X E (.Assign [.Name x pos'] e pos) (sAsg i fe) := by
  obtain ⟨t, p, s⟩ := h.ex
  refine ⟨_, ps_set hN hi hx p hs hf, fun G H σ ρ R Dn hw => s G H σ ρ R _ (hw.bind.mono (fun z _ q v G' H' o h => ?_) fun _ _ q => q)⟩
  obtain ⟨ρ', e1, q⟩ := q.opt
  obtain ⟨G2, o2⟩ := put_ok o h e1
  exact q _ G2 H' o2
/-! ### while -/
def sWhile (c : S → R (Bool × S)) (b : SF) : Nat → SF
  | 0 => fun _ => .no
  | n + 1 => fun ρ => c ρ >>= fun z => if z.1 = true then b z.2 >>= fun y => (match y.1 with
      | .nx => sWhile c b n y.2
      | .ct => sWhile c b n y.2
      | .bk => .ok (.nx, y.2)
      | .rt h => .ok (.rt h, y.2)) else .ok (.nx, z.2)
theorem st_while {c : Expr} {body : List Stmt} {p : S → R (Bool × S)} (n : Nat) (hp : PassesOwn (model X.prog X.w) X.A X.env X.xe) (hc : PB X E c p) (hb : PSq X E body f) : PSt X E (.While c body [] pos) (sWhile p f n) := by
  obtain ⟨t, p1, s⟩ := hc.ex
  obtain ⟨tb, pb, sb⟩ := hb.ex
  refine ⟨_, ps_while hp p1 pb, fun G H σ ρ R Dn hw => ?_⟩
  refine ⟨fun m σ' H' => ∃ G' ρ', OutS X.K G H σ ρ G' H' σ' ρ' ∧ Wp (sWhile p f m ρ') (FlP X.K G H σ ρ Dn) (ExE X.K E G H σ ρ), ⟨n, G, ρ, (Out.refl R).s, hw⟩, fun m σ' H' ⟨G', ρ', o, w⟩ => ?_⟩
  cases m with
  | zero => exact w.elim
  | succ m =>
    refine s G' H' σ' ρ' o.rel _ (w.bind.mono (fun z _ q G1 H1 o1 => ?_) fun _ _ q => q.stepS o)
    split at q
    · rename_i e
      rw [if_pos e]
      refine ⟨fun σ2 H2 => ∃ G2 ρ2, OutS X.K G H σ ρ G2 H2 σ2 ρ2 ∧ Wp (sWhile p f m ρ2) (FlP X.K G H σ ρ Dn) (ExE X.K E G H σ ρ), fun σ2 H2 h2 => ⟨m, Nat.lt_succ_self m, h2⟩, ?_⟩
      have oo := o.trans o1.s
      refine sb G1 H1 σ' z.2 o1.rel _ (q.bind.mono (fun y _ q2 => ?_) fun _ _ q2 => q2.stepS oo)
      obtain ⟨fl, ρ2⟩ := y
      cases fl with
      | nx => exact fun σ2 G2 H2 o2 => ⟨G2, ρ2, oo.trans o2, q2⟩
      | ct => exact fun σ2 G2 H2 o2 => ⟨G2, ρ2, oo.trans o2, q2⟩
      | bk => exact fun σ2 G2 H2 o2 => q2 σ2 G2 H2 (oo.trans o2)
      | rt h => exact fun v σ2 G2 H2 o2 hh => q2 v σ2 G2 H2 (oo.trans o2) (hh.back oo.stp.thr)
    · rename_i e
      rw [if_neg e]
      exact q σ' G1 H1 (o.trans o1.s)
end
/-! ### for -/
/-- what a walk over the data ds asks: G0, H0 the heaps where it begins -/
structure Wlk (K : PySem.W.Frag) (G0 H0 : Hp) (ds : List D) (J : It) : Prop where
  ex : ∃ (Gd : Hp → Prop) (Y : Nat → Hp → V → Hp → Prop), Walk J ds.length Gd Y ∧ (∀ H1, (∀ b o, G0 b ≠ none → H0 b = some o → H1 b = some o) → Gd H1) ∧
    ∀ i H x H', i < ds.length → Y i H x H' → ∀ G, Same G0 G → Sub G H → (∃ d, ds[i]? = some d ∧ ∃ G', (G' = G ∧ H' = H ∨ ∃ p o, H p = none ∧ G' = upd G p o ∧ H' = upd H p o) ∧ Rep K G' d x)
/-- what is walked: its items as data -/
def SndI (K : PySem.W.Frag) (E : WX) (wi : TI) (f : S → R (List D × S)) : Prop := ∀ (G H : Hp) (σ : St) (ρ : S), Rel K G H σ ρ → ∀ Rr : It → Hp → Prop,
  Wp (f ρ) (fun z => ∀ J G' H', Out K G H σ ρ G' H' z.2 → Wlk K G' H' z.1 J → Rr J H') (ExE K E G H σ ρ) → wi σ H Rr
structure PIt (X : Cx) (E : WX) (tg iter : Expr) (f : S → R (List D × S)) : Prop where
  ex : ∃ wi, PI X tg iter wi ∧ SndI X.K E wi f
/-- a target; tv: the slots that it may store -/
structure Only (tv : List Nat) (σ σ' : St) : Prop where
  len : σ'.length = σ.length
  eq : ∀ j, j ∉ tv → σ'[j]? = σ[j]?
theorem Only.trans {tv : List Nat} {σ σ1 σ2 : St} (a : Only tv σ σ1) (b : Only tv σ1 σ2) : Only tv σ σ2 := ⟨b.len.trans a.len, fun j h => (b.eq j h).trans (a.eq j h)⟩
theorem Only.mono {tv tw : List Nat} {σ σ1 : St} (a : Only tv σ σ1) (h : ∀ i ∈ tv, i ∈ tw) : Only tw σ σ1 := ⟨a.len, fun j n => a.eq j fun z => n (h j z)⟩
/-- the slots that are left mutable are as they were -/
structure Onl (tv : List Nat) (σ σ' : St) (ρ' : S) : Prop where
  on : Only tv σ σ'
  kp : ∀ j, (isMut ρ' j ∨ ∃ t, ρ'[j]? = some (some (Sl.dp t))) → σ'[j]? = σ[j]?
def SndG (K : PySem.W.Frag) (tv : List Nat) (g : TG) (f : D → S → Option S) : Prop := ∀ (Gs Hs : Hp) (σs : St) (ρs : S) (G H : Hp) (σ : St) (ρ ρ' : S) (d : D) (v : V), OutS K Gs Hs σs ρs G H σ ρ → Rep K G d v → f d ρ = some ρ' →
  ∀ Q : St → Hp → Prop, (∀ σ', OutS K Gs Hs σs ρs G H σ' ρ' → Onl tv σ σ' ρ' → Q σ' H) → g v σ H Q
/-- slots are only lost -/
def Lse (ρ ρ' : S) : Prop := (∀ j, isMut ρ' j → isMut ρ j) ∧ ∀ (j : Nat) (t : T), ρ'[j]? = some (some (Sl.dp t)) → ρ[j]? = some (some (Sl.dp t))
theorem Lse.trans {ρ ρ1 ρ2 : S} (a : Lse ρ ρ1) (b : Lse ρ1 ρ2) : Lse ρ ρ2 := ⟨fun j m => a.1 j (b.1 j m), fun j t m => a.2 j t (b.2 j t m)⟩
theorem Ker.lse {ρ ρ1 : S} (a : Ker ρ ρ1) : Lse ρ ρ1 := ⟨a.mu, a.dp⟩
theorem Lse.set {ρ : S} {i : Nat} {d : D} : Lse ρ (ρ.set i (some (.sh d))) := ⟨fun j m => (isMut_set m fun d => ⟨nofun, nofun⟩).2, fun j t q => by
  by_cases hj : i = j
  · subst hj
    by_cases hl : i < ρ.length
    · rw [List.getElem?_set_self hl] at q; cases q
    · rw [List.getElem?_eq_none (by rw [List.length_set]; omega)] at q; cases q
  · rw [List.getElem?_set_ne hj] at q; exact q⟩
structure PTg (X : Cx) (tv : List Nat) (tg : Expr) (f : D → S → Option S) : Prop where
  ex : ∃ g, PG X tg g ∧ SndG X.K tv g f
  mu : ∀ d ρ ρ', f d ρ = some ρ' → Lse ρ ρ'
def SndGs (K : PySem.W.Frag) (tv : List Nat) (g : TGs) (f : List D → S → Option S) : Prop := ∀ (Gs Hs : Hp) (σs : St) (ρs : S) (G H : Hp) (σ : St) (ρ ρ' : S) (ds : List D) (vs : List V), OutS K Gs Hs σs ρs G H σ ρ → RepL K G ds vs → f ds ρ = some ρ' →
  ∀ Q : St → Hp → Prop, (∀ σ', OutS K Gs Hs σs ρs G H σ' ρ' → Onl tv σ σ' ρ' → Q σ' H) → g vs σ H Q
structure PTgs (X : Cx) (tv : List Nat) (tgs : List Expr) (f : List D → S → Option S) : Prop where
  ex : ∃ g, PGs X tgs g ∧ SndGs X.K tv g f
  mu : ∀ d ρ ρ', f d ρ = some ρ' → Lse ρ ρ'
section
variable {X : Cx} {E : WX} {pos : Pos}
/-- slot i gets a shared value, whatever the frame's start -/
theorem set_shS {K : PySem.W.Frag} {Gs Hs G H : Hp} {σs σ : St} {ρs ρ ρ' : S} {i : Nat} {d : D} {v : V} (o : OutS K Gs Hs σs ρs G H σ ρ) (hv : Rep K G d v) (e : setS i (.sh d) ρ = some ρ') : OutS K Gs Hs σs ρs G H (σ.set i (some v)) ρ' :=
  o.trans (set_sh (Out.refl o.rel).s hv e)
@[simp] def gVar (i : Nat) : D → S → Option S := fun d ρ => setS i (.sh d) ρ
theorem tg_name {i : Nat} {x : Str} (hN : X.N.Nodup) (hi : X.N[i]? = some x) (hx : Loc X.env.scope x) (hf : X.fn x = true ∨ X.env.scope.names.lookup x = some .local := by first | exact .inl rfl | exact .inr rfl | assumption) : PTg X [i] (.Name x pos) (gVar i) :=
  ⟨⟨_, pg_name hN hi hx hf, fun Gs Hs σs ρs G H σ ρ ρ' d v o hv e Q q => q _ (set_shS o hv e) ⟨⟨List.length_set .., fun j hj => List.getElem?_set_ne fun z => hj (by simp [z])⟩, fun j hj => List.getElem?_set_ne fun z => by
    subst z
    obtain ⟨hi, rfl, _⟩ := setS_eq e
    rw [List.getElem?_set_self hi] at hj
    rcases hj with ⟨d', z | z⟩ | ⟨t, z⟩
    · rw [List.getElem?_set_self hi] at z; cases z
    · rw [List.getElem?_set_self hi] at z; cases z
    · cases z⟩⟩, fun d ρ ρ' e => by
    obtain ⟨_, rfl, _⟩ := setS_eq e
    exact Lse.set⟩
@[simp] def gsNil : List D → S → Option S := fun ds ρ => match ds with
  | [] => some ρ
  | _ => none
@[simp] def gsCons (f : D → S → Option S) (g : List D → S → Option S) : List D → S → Option S := fun ds ρ => match ds with
  | d :: ds => (f d ρ).bind fun ρ' => g ds ρ'
  | [] => none
theorem tgs_nil : PTgs X [] [] gsNil := ⟨⟨_, pgs_nil, fun Gs Hs σs ρs G H σ ρ ρ' ds vs o hv e Q q => by
  cases ds with
  | nil => cases e; exact ⟨repL_nil.mp hv, q σ o ⟨⟨rfl, fun _ _ => rfl⟩, fun _ _ => rfl⟩⟩
  | cons d ds => cases e⟩, fun ds ρ ρ' e => by
    cases ds with
    | nil => cases e; exact Ker.refl.lse
    | cons d ds => cases e⟩
theorem tgs_cons {e : Expr} {es : List Expr} {f : D → S → Option S} {g : List D → S → Option S} {tv tw : List Nat} (h1 : PTg X tv e f) (h2 : PTgs X tw es g) (hs : (assignEach (e :: es) X.env).map (·.2) = assign e X.env :: (assignEach es X.env).map (·.2) := by rfl) : PTgs X (tv ++ tw) (e :: es) (gsCons f g) := by
  obtain ⟨t, p1, s1⟩ := h1.ex
  obtain ⟨u, p2, s2⟩ := h2.ex
  refine ⟨⟨_, pgs_cons p1 p2 hs, fun Gs Hs σs ρs G H σ ρ ρ' ds vs o hv e Q q => ?_⟩, fun ds ρ ρ' e => ?_⟩
  rotate_left
  · cases ds with
    | nil => cases e
    | cons d ds =>
      have e' : ((f d ρ).bind fun ρ' => g ds ρ') = some ρ' := e
      cases q1 : f d ρ with
      | none => rw [q1] at e'; cases e'
      | some ρ1 =>
        rw [q1] at e'
        exact (h1.mu d ρ ρ1 q1).trans (h2.mu ds ρ1 ρ' e')
  cases ds with
  | nil => cases e
  | cons d ds =>
    obtain ⟨v, vs', rfl, r1, r2⟩ := repL_cons.mp hv
    have e' : ((f d ρ).bind fun ρ' => g ds ρ') = some ρ' := e
    cases q1 : f d ρ with
    | none => rw [q1] at e'; cases e'
    | some ρ1 =>
      rw [q1] at e'
      exact ⟨v, vs', rfl, s1 Gs Hs σs ρs G H σ ρ ρ1 d v o r1 q1 _ fun σ1 o1 n1 => s2 Gs Hs σs ρs G H σ1 ρ1 ρ' ds vs' o1 r2 e' Q fun σ2 o2 n2 => q σ2 o2 ⟨(n1.on.mono fun i h => List.mem_append_left _ h).trans (n2.on.mono fun i h => List.mem_append_right _ h), fun j hj => (n2.kp j hj).trans (n1.kp j (hj.imp ((h2.mu ds ρ1 ρ' e').1 j) fun ⟨t, z⟩ => ⟨t, (h2.mu ds ρ1 ρ' e').2 j t z⟩))⟩⟩
@[simp] def gTupF (n : Nat) (f : List D → S → Option S) : D → S → Option S := fun d ρ => match d with
  | .tup ds => if ds.length = n then f ds ρ else none
  | _ => none
theorem tg_tup {es : List Expr} {k : Nat} {f : List D → S → Option S} {n : Nat} {tv : List Nat} (hc : X.calm = true) (h : PTgs X tv es f) (hn : (assignEach es X.env).length = n := by rfl) (hst : (assignEach es X.env).findIdx? (·.1) = none := by rfl) : PTg X tv (.Tuple es k pos) (gTupF n f) := by
  obtain ⟨t, p, s⟩ := h.ex
  refine ⟨⟨_, pg_tup hc p hn hst, fun Gs Hs σs ρs G H σ ρ ρ' d v o hv e Q q => ?_⟩, fun d ρ ρ' e => ?_⟩
  rotate_left
  · cases d with
    | tup ds =>
      have e' : (if ds.length = n then f ds ρ else none) = some ρ' := e
      split at e'
      · exact h.mu ds ρ ρ' e'
      · cases e'
    | _ => cases e
  cases d with
  | tup ds =>
    have e' : (if ds.length = n then f ds ρ else none) = some ρ' := e
    split at e'
    · rename_i hl
      obtain ⟨a, vs, rfl, h1, h2⟩ := (show RepP X.K G H (.tup ds) v from .inl hv).tup o.rel.sub
      exact ⟨a, vs, rfl, h1, by rw [← h2.length]; exact hl, s Gs Hs σs ρs G H σ ρ ρ' ds vs o h2 e' Q q⟩
    · cases e'
  | _ => cases e
/-- the loop's turns -/
def sForL (g : D → S → Option S) (b : SF) : List D → SF
  | [] => fun ρ => .ok (.nx, ρ)
  | d :: ds => fun ρ => ofO (g d ρ) >>= fun ρ1 => b ρ1 >>= fun y => (match y.1 with
      | .nx => sForL g b ds y.2
      | .ct => sForL g b ds y.2
      | .bk => .ok (.nx, y.2)
      | .rt h => .ok (.rt h, y.2))
@[simp] def sFor (it : S → R (List D × S)) (g : D → S → Option S) (b : SF) : SF := fun ρ => it ρ >>= fun z => sForL g b z.1 z.2
theorem for_sound {K : PySem.W.Frag} {ds : List D} {J : It} {g : TG} {tb : TS} {gf : D → S → Option S} {b : SF} {tv : List Nat} (sg : SndG K tv g gf) (sb : SndS K E tb b) {G H : Hp} {σ : St} {ρ : S} {G1 H1 : Hp} {ρ1 : S} {Dn : Ends} (o1 : Out K G H σ ρ G1 H1 ρ1) (wk : Wlk K G1 H1 ds J)
    (w : Wp (sForL gf b ds ρ1) (FlP K G H σ ρ Dn) (ExE K E G H σ ρ)) : ∃ W : Nat → Nat → St → Hp → Prop, (∃ m, W 0 m σ H1) ∧ ∀ i m σ H, W i m σ H → (J.stop i H ∧ Dn.nx σ H) ∨ (J.go i H ∧ ∃ N : St → Hp → Prop, (∀ σ' H', N σ' H' → ∃ m', m' < m ∧ W (i + 1) m' σ' H') ∧ ∀ x H', J.yld i H x H' → g x σ H' fun σ2 H2 => tb { Dn with nx := N, ct := N, bk := Dn.nx } σ2 H2) := by
  obtain ⟨Gd, Y, wk, hG, hY⟩ := wk.ex
  refine for_it wk (fun i σ' H' => ∃ G' ρ', OutS K G H σ ρ G' H' σ' ρ' ∧ Same G1 G' ∧ (∀ b o, G1 b ≠ none → H1 b = some o → H' b = some o) ∧ Wp (sForL gf b (ds.drop i) ρ') (FlP K G H σ ρ Dn) (ExE K E G H σ ρ)) ?_ ?_ ?_ ?_
  · exact ⟨G1, ρ1, o1.s, Same.refl _, fun _ _ _ h => h, w⟩
  · rintro i σ' H' _ ⟨G', ρ', _, _, k, _⟩
    exact hG H' k
  · rintro i x σ' H' H2 hi ⟨G', ρ', o, sg', k, w⟩ y
    obtain ⟨d, ed, G2, hstep, rx⟩ := hY i H' x H2 hi y G' sg' o.rel.sub
    have o2 : OutS K G H σ ρ G2 H2 σ' ρ' ∧ Same G' G2 ∧ (∀ b o, H' b = some o → H2 b = some o) := by
      rcases hstep with ⟨rfl, rfl⟩ | ⟨p, u, hp, rfl, rfl⟩
      · exact ⟨o, Same.refl _, fun _ _ h => h⟩
      · have z := Out.lay (o := u) o.rel hp
        exact ⟨o.trans z.s, z.stp.gg, fun b u' h => by rw [upd_ne (ne_of_none h hp)]; exact h⟩
    obtain ⟨o2, sg2, k2⟩ := o2
    have hd : ds.drop i = d :: ds.drop (i + 1) := by
      obtain ⟨h1, h2⟩ := List.getElem?_eq_some_iff.mp ed
      rw [← h2]
      exact List.drop_eq_getElem_cons h1
    rw [hd] at w
    obtain ⟨ρ3, e3, w⟩ := w.opt
    refine sg G H σ ρ G2 H2 σ' ρ' ρ3 d x o2 rx e3 _ fun σ3 o3 _ => ?_
    refine sb G2 H2 σ3 ρ3 o3.rel _ (w.bind.mono (fun z _ q => ?_) fun _ _ q => q.stepS o3)
    have nxt : ∀ ρ4, Wp (sForL gf b (ds.drop (i + 1)) ρ4) (FlP K G H σ ρ Dn) (ExE K E G H σ ρ) → ∀ σ4 G4 H4, OutS K G2 H2 σ3 ρ3 G4 H4 σ4 ρ4 → ∃ G' ρ', OutS K G H σ ρ G' H4 σ4 ρ' ∧ Same G1 G' ∧ (∀ b o, G1 b ≠ none → H1 b = some o → H4 b = some o) ∧ Wp (sForL gf b (ds.drop (i + 1)) ρ') (FlP K G H σ ρ Dn) (ExE K E G H σ ρ) := by
      intro ρ4 w4 σ4 G4 H4 o4
      refine ⟨G4, ρ4, o3.trans o4, (sg'.trans sg2).trans o4.stp.gg, fun b u hb hu => ?_, w4⟩
      refine o4.stp.keep b u (k2 b u (k b u hb hu)) fun z => hb ?_
      have hz := (o3.rel.adsH z).2
      cases q : G1 b with
      | none => rfl
      | some u' => rw [(sg'.trans sg2) b u' q] at hz; cases hz
    obtain ⟨fl, ρ4⟩ := z
    cases fl with
    | nx => exact nxt ρ4 q
    | ct => exact nxt ρ4 q
    | bk => exact fun σ4 G4 H4 o4 => q σ4 G4 H4 (o3.trans o4)
    | rt h => exact fun v σ4 G4 H4 o4 hh => q v σ4 G4 H4 (o3.trans o4) (hh.back o3.stp.thr)
  · rintro σ' H' ⟨G', ρ', o, _, _, w⟩
    rw [List.drop_length] at w
    exact w σ' G' H' o
theorem st_for {tg iter : Expr} {body : List Stmt} {it : S → R (List D × S)} {g : D → S → Option S} {b : SF} {tv : List Nat} (hp : PassesOwn (model X.prog X.w) X.A X.env X.xe) (hc : X.calm = true) (hi : PIt X E tg iter it) (hg : PTg X tv tg g) (hb : PSq X E body b) (hs : ∀ x, foldedSetIterable iter X.env x = pure x := by intro _; rfl) :
    PSt X E (.For tg iter body [] pos) (sFor it g b) := by
  obtain ⟨wi, pi, si⟩ := hi.ex
  obtain ⟨gt, pg, sg⟩ := hg.ex
  obtain ⟨tb, pb, sb⟩ := hb.ex
  refine ⟨_, ps_for hp hc pi pg pb hs, fun G H σ ρ R Dn hw => ?_⟩
  exact si G H σ ρ R _ (hw.bind.mono (fun z _ q J G1 H1 o1 wk => for_sound sg sb o1 wk q) fun _ _ q => q)
end
end BR
set_option Elab.async false
set_option linter.all false
set_option maxRecDepth 100000
set_option maxHeartbeats 4000000
namespace BR
open PySem L2

/-! ## what is walked -/
section
variable {X : Cx} {E : WX} {e tg : Expr} {f : EF} {pos p : Pos}
/-- a list or a tuple (shared) -/
@[simp] def itSeq (f : EF) : S → R (List D × S) := fun ρ => eV f ρ >>= fun z => match z.1 with
  | .lst ds => .ok (ds, z.2)
  | _ => .no
@[simp] def itTup (f : EF) : S → R (List D × S) := fun ρ => eV f ρ >>= fun z => match z.1 with
  | .tup ds => .ok (ds, z.2)
  | _ => .no
theorem it_list (h : PR X E e f) : PIt X E tg e (itSeq f) := by
  obtain ⟨t, pe, s⟩ := h.v.ex
  refine ⟨_, pi_list pe, fun G H σ ρ r Rr hw => s G H σ ρ r _ (hw.bind.mono (fun z _ q v G' H' o rv => ?_) fun _ _ q => q)⟩
  obtain ⟨d, ρ'⟩ := z
  cases d with
  | lst ds =>
    have rv' := rv
    unfold Rep at rv'
    obtain ⟨a, vs, rfl, h1, h2⟩ := rv'
    have h1' := o.rel.sub.ls h1
    refine ⟨a, rfl, ⟨vs, SqL.of h1'⟩, q _ G' H' o ⟨fun H => SqL X.K H a vs, YAt vs, by rw [h2.length]; exact walk_list, fun H1 k => SqL.of (k a _ (by rw [h1]; simp) h1'), fun i H x H' hi y G1 sg sb => ?_⟩⟩
    obtain ⟨rfl, y⟩ := y
    obtain ⟨d, ed, rd⟩ := h2.getV y
    exact ⟨d, ed, G1, .inl ⟨rfl, rfl⟩, Rep.mono sg _ rd⟩
  | _ => exact q.elim
theorem it_tup (h : PR X E e f) : PIt X E tg e (itTup f) := by
  obtain ⟨t, pe, s⟩ := h.v.ex
  refine ⟨_, pi_tup pe, fun G H σ ρ r Rr hw => s G H σ ρ r _ (hw.bind.mono (fun z _ q v G' H' o rv => ?_) fun _ _ q => q)⟩
  obtain ⟨d, ρ'⟩ := z
  cases d with
  | tup ds =>
    have rv' := rv
    unfold Rep at rv'
    obtain ⟨a, vs, rfl, h1, h2⟩ := rv'
    have h1' := o.rel.sub.t h1
    refine ⟨a, rfl, ⟨vs, h1'⟩, q _ G' H' o ⟨fun H => SqT X.K H a vs, YAt vs, by rw [h2.length]; exact walk_tup, fun H1 k => ?_, fun i H x H' hi y G1 sg sb => ?_⟩⟩
    · rcases h1 with h1 | h1
      · rcases o.rel.sub.rd h1 with z | ⟨od, z⟩
        · refine SqT.of (k a _ ?_ z)
          rcases h1 with y | ⟨_, y⟩ <;> rw [y] <;> simp
        · refine .inl (.inr ⟨od, k a _ ?_ z⟩)
          rcases h1 with y | ⟨_, y⟩ <;> rw [y] <;> simp
      · exact .inr h1
    · obtain ⟨rfl, y⟩ := y
      obtain ⟨d, ed, rd⟩ := h2.getV y
      exact ⟨d, ed, G1, .inl ⟨rfl, rfl⟩, Rep.mono sg _ rd⟩
  | _ => exact q.elim
def signs (x : Str) : List D := x.cps.toList.map fun c => .str ⟨#[c]⟩
@[simp] def itStr (f : EF) : S → R (List D × S) := fun ρ => eV f ρ >>= fun z => match z.1 with
  | .str x => .ok (signs x, z.2)
  | _ => .no
theorem it_str (h : PR X E e f) : PIt X E tg e (itStr f) := by
  obtain ⟨t, pe, s⟩ := h.v.ex
  refine ⟨_, pi_str pe, fun G H σ ρ r Rr hw => s G H σ ρ r _ (hw.bind.mono (fun z _ q v G' H' o rv => ?_) fun _ _ q => q)⟩
  obtain ⟨d, ρ'⟩ := z
  cases d with
  | str x =>
    have rv' := rv
    unfold Rep at rv'
    subst rv'
    refine ⟨x, rfl, q _ G' H' o ⟨_, _, by rw [show (signs x).length = x.cps.size by simp [signs]]; exact walk_str, fun _ _ => trivial, fun i H v H' hi y G1 sg sb => ?_⟩⟩
    obtain ⟨rfl, c, ec, rfl⟩ := y
    refine ⟨.str ⟨#[c]⟩, ?_, G1, .inl ⟨rfl, rfl⟩, rep_str⟩
    unfold signs
    rw [List.getElem?_map, Array.getElem?_toList, ec]
    rfl
  | _ => exact q.elim
def rngL (lo : Int) (n : Nat) : List D := (List.range n).map fun (i : Nat) => D.int (lo + i)
def rngC (lo c : Int) (n : Nat) : List D := (List.range n).map fun (i : Nat) => D.int (lo + i * c)
theorem wlk_range {K : PySem.W.Frag} {G H : Hp} {lo : Int} {n : Nat} : Wlk K G H (rngL lo n) (Itr lo n) := by
  refine ⟨_, _, by rw [show (rngL lo n).length = n by simp [rngL]]; exact walk_range, fun _ _ => trivial, fun i H x H' hi y G1 sg sb => ?_⟩
  obtain ⟨rfl, rfl⟩ := y
  have hi' : i < n := by simpa [rngL] using hi
  exact ⟨.int (lo + i), by simp [rngL, hi'], G1, .inl ⟨rfl, rfl⟩, rep_int⟩
theorem wlk_rangeC {K : PySem.W.Frag} {G H : Hp} {lo c : Int} {n : Nat} : Wlk K G H (rngC lo c n) (Itc lo c n) := by
  refine ⟨_, _, by rw [show (rngC lo c n).length = n by simp [rngC]]; exact walk_rangeC, fun _ _ => trivial, fun i H x H' hi y G1 sg sb => ?_⟩
  obtain ⟨rfl, rfl⟩ := y
  have hi' : i < n := by simpa [rngC] using hi
  exact ⟨.int (lo + i * c), by simp [rngC, hi'], G1, .inl ⟨rfl, rfl⟩, rep_int⟩

theorem rl_int {K : PySem.W.Frag} {G : Hp} {i : Int} {ds : List D} {vs : List V} (h : RepL K G (.int i :: ds) vs) : ∃ vs', vs = .int i :: vs' ∧ RepL K G ds vs' := by
  obtain ⟨v, vs', rfl, h1, h2⟩ := repL_cons.mp h
  unfold Rep at h1
  exact ⟨vs', by rw [h1], h2⟩
def RngOk (j : Int) : Prop := -(2 ^ 62) ≤ j ∧ j < 2 ^ 62
def RngOk2 (i j : Int) : Prop := -(2 ^ 62) ≤ i ∧ i < 2 ^ 62 ∧ -(2 ^ 62) ≤ j ∧ j < 2 ^ 62
open Classical in
noncomputable def itRng1 (f : S → R (List D × S)) : S → R (List D × S) := fun ρ => f ρ >>= fun z => match z.1 with
  | [.int j] => if RngOk j then .ok (rngL 0 j.toNat, z.2) else .no
  | _ => .no
open Classical in
@[simp] noncomputable def itRng2 (f : S → R (List D × S)) : S → R (List D × S) := fun ρ => f ρ >>= fun z => match z.1 with
  | [.int i, .int j] => if RngOk2 i j then .ok (rngL i (j - i).toNat, z.2) else .no
  | _ => .no
open Classical in
noncomputable def itRng3 (f : S → R (List D × S)) : S → R (List D × S) := fun ρ => f ρ >>= fun z => match z.1 with
  | [.int i, .int j, .int c] => if RgC i j c (Builtin.Range.rangeSize i j c).toNat then .ok (rngC i c (Builtin.Range.rangeSize i j c).toNat, z.2) else .no
  | _ => .no
theorem it_range1 {a : Expr} {f : S → R (List D × S)} (hg : Gl X "range") (hm : X.mg "range" = none) (ha : PAs X E [a] f) (hs : starEach [a] X.env = [(false, eval a X.env)] := by rfl) : PIt X E tg (.Call (.Name "range" p) [a] [] pos) (itRng1 f) := by
  obtain ⟨t, pa, s⟩ := ha.ex
  refine ⟨_, pi_range1 hg hm pa hs, fun G H σ ρ r Rr hw => s G H σ ρ r _ (hw.bind.mono (fun z hz q vs G' H' o rv => ?_) fun _ _ q => q)⟩
  obtain ⟨ds, ρ'⟩ := z
  split at q
  · rename_i j e
    have e' : ds = [.int j] := e
    subst e'
    split at q
    · rename_i hj
      obtain ⟨vs1, rfl, h2⟩ := rl_int rv
      exact ⟨j, by rw [repL_nil.mp h2], hj.1, hj.2, q _ G' H' o wlk_range⟩
    · exact q.elim
  · exact q.elim
theorem it_range2 {a b : Expr} {f : S → R (List D × S)} (hg : Gl X "range") (hm : X.mg "range" = none) (ha : PAs X E [a, b] f) (hs : starEach [a, b] X.env = [(false, eval a X.env), (false, eval b X.env)] := by rfl) (hs2 : starEach [b] X.env = [(false, eval b X.env)] := by rfl) : PIt X E tg (.Call (.Name "range" p) [a, b] [] pos) (itRng2 f) := by
  obtain ⟨t, pa, s⟩ := ha.ex
  refine ⟨_, pi_range2 hg hm pa hs hs2, fun G H σ ρ r Rr hw => s G H σ ρ r _ (hw.bind.mono (fun z hz q vs G' H' o rv => ?_) fun _ _ q => q)⟩
  obtain ⟨ds, ρ'⟩ := z
  split at q
  · rename_i i j e
    have e' : ds = [.int i, .int j] := e
    subst e'
    split at q
    · rename_i hj
      obtain ⟨vs1, rfl, h2⟩ := rl_int rv
      obtain ⟨vs2, rfl, h3⟩ := rl_int h2
      exact ⟨i, j, by rw [repL_nil.mp h3], hj, q _ G' H' o wlk_range⟩
    · exact q.elim
  · exact q.elim
theorem it_range3 {a b c : Expr} {f : S → R (List D × S)} (hg : Gl X "range") (hm : X.mg "range" = none) (ha : PAs X E [a, b, c] f) (hs : starEach [a, b, c] X.env = (false, eval a X.env) :: starEach [b, c] X.env := by rfl) (hpl : (backTo pos (starEach [b, c] X.env)).any (·.1) = false := by rfl) : PIt X E tg (.Call (.Name "range" p) [a, b, c] [] pos) (itRng3 f) := by
  obtain ⟨t, pa, s⟩ := ha.ex
  refine ⟨_, pi_range3 hg hm pa hs hpl, fun G H σ ρ r Rr hw => s G H σ ρ r _ (hw.bind.mono (fun z hz q vs G' H' o rv => ?_) fun _ _ q => q)⟩
  obtain ⟨ds, ρ'⟩ := z
  split at q
  · rename_i i j c e
    have e' : ds = [.int i, .int j, .int c] := e
    subst e'
    split at q
    · rename_i hj
      obtain ⟨vs1, rfl, h2⟩ := rl_int rv
      obtain ⟨vs2, rfl, h3⟩ := rl_int h2
      obtain ⟨vs3, rfl, h4⟩ := rl_int h3
      exact ⟨i, j, c, _, by rw [repL_nil.mp h4], hj, q _ G' H' o wlk_rangeC⟩
    · exact q.elim
  · exact q.elim
def enums (ds : List D) : List D := (List.range ds.length).zipWith (fun (i : Nat) d => D.tup [.int i, d]) ds
@[simp] def itEnum (f : S → R (List D × S)) : S → R (List D × S) := fun ρ => f ρ >>= fun z => match z.1 with
  | [.lst ds] => .ok (enums ds, z.2)
  | _ => .no
theorem enums_get {ds : List D} {i : Nat} {d : D} (h : ds[i]? = some d) : (enums ds)[i]? = some (.tup [.int i, d]) := by
  have hi := (List.getElem?_eq_some_iff.mp h).1
  unfold enums
  rw [List.getElem?_zipWith]
  simp only [List.getElem?_range hi, h]
theorem enums_len (ds : List D) : (enums ds).length = ds.length := by simp [enums]
theorem it_enum {elts : List Expr} {kk : Nat} {tpos : Pos} {f : S → R (List D × S)} (hg : Gl X "enumerate") (hm : X.mg "enumerate" = none) (ha : PAs X E [e] f) (hs : starEach [e] X.env = [(false, eval e X.env)] := by rfl) :
    PIt X E (.Tuple elts kk tpos) (.Call (.Name "enumerate" p) [e] [] pos) (itEnum f) := by
  obtain ⟨t, pa, s⟩ := ha.ex
  refine ⟨_, pi_enum hg hm pa hs, fun G H σ ρ r Rr hw => s G H σ ρ r _ (hw.bind.mono (fun z hz q vs G' H' o rv => ?_) fun _ _ q => q)⟩
  obtain ⟨ds0, ρ'⟩ := z
  split at q
  · rename_i ds e
    have e' : ds0 = [.lst ds] := e
    subst e'
    obtain ⟨v, vs', rfl, h1, h2⟩ := repL_cons.mp rv
    unfold Rep at h1
    obtain ⟨a, xs, rfl, h3, h4⟩ := h1
    have h3' := o.rel.sub.ls h3
    refine ⟨a, xs, by rw [repL_nil.mp h2], SqL.of h3', q _ G' H' o ⟨fun H => SqL X.K H a xs, _, by rw [enums_len, h4.length]; exact walk_enum, fun H1 k => SqL.of (k a _ (by rw [h3]; simp) h3'), fun i H x H' hi y G1 sg sb => ?_⟩⟩
    obtain ⟨T, u, w, rfl, hT, rfl, e1, e2⟩ := y
    obtain ⟨d, ed, rd⟩ := h4.getV e2
    cases e1
    have hg1 : G1 T = none := sb.none hT
    refine ⟨.tup [.int i, d], enums_get ed, upd G1 T (.tup [.int i, w]), .inr ⟨T, _, hT, rfl, rfl⟩, ?_⟩
    unfold Rep
    exact ⟨T, _, rfl, SqT.of upd_same, .cons rep_int (.cons (Rep.mono (sg.trans (same_new hg1)) _ rd) .nil)⟩
  · exact q.elim
end

/-! ## readings made of functions -/
def tF (K : PySem.W.Frag) (E : WX) (f : EF) : TE := fun σ H Q => ∃ G ρ, Rel K G H σ ρ ∧ Wp (f ρ) (fun z => ∀ v G' H', Out K G H σ ρ G' H' z.2 → Hold K H G' H' σ z.2 z.1 v → Q v H') (ExE K E G H σ ρ)
def tFB (K : PySem.W.Frag) (E : WX) (f : S → R (Bool × S)) : TT := fun σ H Q => ∃ G ρ, Rel K G H σ ρ ∧ Wp (f ρ) (fun z => ∀ G' H', Out K G H σ ρ G' H' z.2 → Q z.1 H') (ExE K E G H σ ρ)
def gF (K : PySem.W.Frag) (tv : List Nat) (f : D → S → Option S) : TG := fun v σ H Q => ∃ Gs Hs σs ρs G ρ ρ' d, OutS K Gs Hs σs ρs G H σ ρ ∧ Rep K G d v ∧ f d ρ = some ρ' ∧ ∀ σ', OutS K Gs Hs σs ρs G H σ' ρ' → Onl tv σ σ' ρ' → Q σ' H
section
variable {X : Cx} {E : WX} {e : Expr}
theorem PR.pe {f : EF} (h : PR X E e f) : PE X e (tF X.K E f) := by
  obtain ⟨t, pe, s⟩ := h.ex
  exact ⟨fun pins s' σ H Q I ⟨G, ρ, r, w⟩ => pe.run pins s' σ H Q I (s G H σ ρ r Q w)⟩
theorem PB.pt {f : S → R (Bool × S)} (h : PB X E e f) : PT X e (tFB X.K E f) := by
  obtain ⟨t, pe, s⟩ := h.ex
  exact ⟨fun pins s' σ H Q I ⟨G, ρ, r, w⟩ => pe.run pins s' σ H Q I (s G H σ ρ r Q w)⟩
theorem PTg.pg {tv : List Nat} {f : D → S → Option S} (h : PTg X tv e f) : PG X e (gF X.K tv f) := by
  obtain ⟨g, pg, s⟩ := h.ex
  exact ⟨fun pins s' σ H v u Q I rv ⟨Gs, Hs, σs, ρs, G, ρ, ρ', d, o, rd, ef, q⟩ => pg.run pins s' σ H v u Q I rv (s Gs Hs σs ρs G H σ ρ ρ' d v o rd ef Q q)⟩
end
end BR
set_option Elab.async false
set_option linter.all false
set_option maxRecDepth 100000
set_option maxHeartbeats 4000000
namespace BR
open PySem L2

/-! ## list comprehensions -/
@[simp] def noX {α : Type} : R α → R α
  | .exc _ => .no
  | r => r
@[simp] theorem noX_ok {α : Type} (a : α) : noX (R.ok a) = R.ok a := rfl
theorem Wp.noX {α : Type} {r : R α} {P : α → Prop} {E : Exc → Prop} (h : Wp (noX r) P E) : Wp r P fun _ => False := by
  cases r <;> exact h
@[simp] def wipeS (ρ : S) : List Nat → S
  | [] => ρ
  | v :: vs => (wipeS ρ vs).set v none
/-- the slots vs as in ρ0 -/
@[simp] def rst (ρ0 ρ : S) : List Nat → S
  | [] => ρ
  | v :: vs => (rst ρ0 ρ vs).set v (ρ0.getD v none)
@[simp] def calmSl (ρ : S) (vs : List Nat) : Bool := vs.all fun v => match ρ[v]? with
  | some (some (.sh _)) => true
  | some none => true
  | _ => false
theorem wipeS_len (ρ : S) : ∀ vs, (wipeS ρ vs).length = ρ.length
  | [] => rfl
  | v :: vs => by unfold wipeS; rw [List.length_set, wipeS_len ρ vs]
theorem wipeS_at (ρ : S) {j : Nat} : ∀ vs, (wipeS ρ vs)[j]? = if j ∈ vs ∧ j < ρ.length then some none else ρ[j]?
  | [] => by simp [wipeS]
  | v :: vs => by
    unfold wipeS
    by_cases h : v = j
    · subst h
      by_cases hl : v < ρ.length
      · rw [List.getElem?_set_self (by rw [wipeS_len]; exact hl)]
        simp [hl]
      · rw [List.getElem?_eq_none (by rw [List.length_set, wipeS_len]; omega), List.getElem?_eq_none (by omega)]
        simp [hl]
    · rw [List.getElem?_set_ne h, wipeS_at ρ vs]
      have hn : ¬ j = v := fun z => h z.symm
      simp only [List.mem_cons, hn, false_or]
theorem rst_len (ρ0 ρ : S) : ∀ vs, (rst ρ0 ρ vs).length = ρ.length
  | [] => rfl
  | v :: vs => by unfold rst; rw [List.length_set, rst_len ρ0 ρ vs]
theorem rst_at (ρ0 ρ : S) {j : Nat} : ∀ vs, (rst ρ0 ρ vs)[j]? = if j ∈ vs ∧ j < ρ.length then some (ρ0.getD j none) else ρ[j]?
  | [] => by simp [rst]
  | v :: vs => by
    unfold rst
    by_cases h : v = j
    · subst h
      by_cases hl : v < ρ.length
      · rw [List.getElem?_set_self (by rw [rst_len]; exact hl)]
        simp [hl]
      · rw [List.getElem?_eq_none (by rw [List.length_set, rst_len]; omega), List.getElem?_eq_none (by omega)]
        simp [hl]
    · rw [List.getElem?_set_ne h, rst_at ρ0 ρ vs]
      have hn : ¬ j = v := fun z => h z.symm
      simp only [List.mem_cons, hn, false_or]
theorem wipe_at (σ : St) {j : Nat} : ∀ vs, (wipe σ vs)[j]? = if j ∈ vs ∧ j < σ.length then some none else σ[j]?
  | [] => by simp [wipe]
  | v :: vs => by
    unfold wipe
    by_cases h : v = j
    · subst h
      by_cases hl : v < σ.length
      · rw [List.getElem?_set_self (by rw [wipe_length]; exact hl)]
        simp [hl]
      · rw [List.getElem?_eq_none (by rw [List.length_set, wipe_length]; omega), List.getElem?_eq_none (by omega)]
        simp [hl]
    · rw [List.getElem?_set_ne h, wipe_at σ vs]
      have hn : ¬ j = v := fun z => h z.symm
      simp only [List.mem_cons, hn, false_or]
theorem wipe_only {σ σ' : St} {vs : List Nat} (h : Only vs (wipe σ vs) σ') : wipe σ' vs = wipe σ vs := by
  have hl : σ'.length = σ.length := by rw [h.len, wipe_length]
  apply List.ext_getElem?
  intro j
  rw [wipe_at, wipe_at, hl]
  by_cases c : j ∈ vs ∧ j < σ.length
  · rw [if_pos c, if_pos c]
  · rw [if_neg c, if_neg c]
    by_cases m : j ∈ vs
    · have : ¬ j < σ.length := fun z => c ⟨m, z⟩
      rw [List.getElem?_eq_none (by omega), List.getElem?_eq_none (by omega)]
    · rw [h.eq j m, wipe_at, if_neg fun z => m z.1]
theorem calmSl_not {ρ : S} {vs : List Nat} (h : calmSl ρ vs = true) {j : Nat} (hj : j ∈ vs) : ¬ isMut ρ j := by
  rintro ⟨d, z⟩
  have q := List.all_eq_true.mp h j hj
  rcases z with z | z <;> rw [z] at q <;> cases q
section
variable {K : PySem.W.Frag} {G H G' H' : Hp} {σ : St} {ρ ρ' : S} {vs : List Nat}
/-- into the block -/
theorem Rel.wipe (r : Rel K G H σ ρ) : Rel K G H (wipe σ vs) (wipeS ρ vs) where
  len := by rw [wipeS_len, wipe_length]; exact r.len
  sub := r.sub
  sl := fun i s e => by
    rw [wipeS_at] at e
    by_cases c : i ∈ vs ∧ i < ρ.length
    · rw [if_pos c] at e; cases e
    · rw [if_neg c] at e
      rw [wipe_at, if_neg (by rw [← r.len]; exact c)]
      exact r.sl i s e
  dis := fun i j a m1 m2 q1 q2 => by
    have mm : ∀ k, isMut (wipeS ρ vs) k → isMut ρ k ∧ ¬ (k ∈ vs ∧ k < ρ.length) := fun k ⟨d, m⟩ => by
      rw [wipeS_at] at m
      by_cases c : k ∈ vs ∧ k < ρ.length
      · rw [if_pos c] at m; rcases m with m | m <;> cases m
      · rw [if_neg c] at m; exact ⟨⟨d, m⟩, c⟩
    obtain ⟨m1, c1⟩ := mm i m1
    obtain ⟨m2, c2⟩ := mm j m2
    rw [wipe_at, if_neg (by rw [← r.len]; exact c1)] at q1
    rw [wipe_at, if_neg (by rw [← r.len]; exact c2)] at q2
    exact r.dis i j a m1 m2 q1 q2
  dp := by
    have mm : ∀ k, isMut (wipeS ρ vs) k → isMut ρ k ∧ ¬ (k ∈ vs ∧ k < ρ.length) := fun k ⟨d, m⟩ => by
      rw [wipeS_at] at m
      by_cases c : k ∈ vs ∧ k < ρ.length
      · rw [if_pos c] at m; rcases m with m | m <;> cases m
      · rw [if_neg c] at m; exact ⟨⟨d, m⟩, c⟩
    refine (r.trees (Same.refl G) (fun a h => ⟨rfl, (r.dpaH h).2⟩) (fun i t e => ?_) fun i a m h q => ?_).1
    · rw [wipeS_at] at e
      by_cases c : i ∈ vs ∧ i < ρ.length
      · rw [if_pos c] at e; cases e
      · rw [if_neg c] at e; exact ⟨e, by rw [wipe_at, if_neg (by rw [← r.len]; exact c)]⟩
    · obtain ⟨m, c⟩ := mm i m
      rw [wipe_at, if_neg (by rw [← r.len]; exact c)] at q
      exact r.dp.ds a i h m q
theorem calmSl_dp {ρ : S} {vs : List Nat} (h : calmSl ρ vs = true) {j : Nat} {t : T} (hj : j ∈ vs) : ρ[j]? ≠ some (some (Sl.dp t)) := fun z => by
  have q := List.all_eq_true.mp h j hj
  rw [z] at q; cases q
theorem ads_wipe (hl : ρ.length = σ.length) (h : calmSl ρ vs = true) {a : Addr} : ads H (wipe σ vs) (wipeS ρ vs) a ↔ ads H σ ρ a := by
  constructor
  · rintro (⟨i, ⟨d, m⟩, q⟩ | ⟨i, t, v, m, q, z⟩)
    · rw [wipeS_at] at m
      by_cases c : i ∈ vs ∧ i < ρ.length
      · rw [if_pos c] at m; rcases m with m | m <;> cases m
      · rw [if_neg c] at m
        rw [wipe_at, if_neg (by rw [← hl]; exact c)] at q
        exact .inl ⟨i, ⟨d, m⟩, q⟩
    · rw [wipeS_at] at m
      by_cases c : i ∈ vs ∧ i < ρ.length
      · rw [if_pos c] at m; cases m
      · rw [if_neg c] at m
        rw [wipe_at, if_neg (by rw [← hl]; exact c)] at q
        exact .inr ⟨i, t, v, m, q, z⟩
  · rintro (⟨i, ⟨d, m⟩, q⟩ | ⟨i, t, v, m, q, z⟩)
    · have c : ¬ i ∈ vs := fun z => calmSl_not h z ⟨d, m⟩
      exact .inl ⟨i, ⟨d, by rw [wipeS_at, if_neg fun z => c z.1]; exact m⟩, by rw [wipe_at, if_neg fun z => c z.1]; exact q⟩
    · have c : ¬ i ∈ vs := fun z => calmSl_dp h z m
      exact .inr ⟨i, t, v, by rw [wipeS_at, if_neg fun z => c z.1]; exact m, by rw [wipe_at, if_neg fun z => c z.1]; exact q, z⟩
/-- out of the block -/
theorem unwipe {G0 H0 : Hp} {ρ0 : S} (r0 : Rel K G0 H0 σ ρ0) (hc : calmSl ρ0 vs = true) (o : Out K G0 H0 (wipe σ vs) (wipeS ρ0 vs) G' H' ρ') : Out K G0 H0 σ ρ0 G' H' (rst ρ0 ρ' vs) ∧ ∀ a, ads H' σ (rst ρ0 ρ' vs) a → ads H' (wipe σ vs) ρ' a := by
  have hl : ρ'.length = σ.length := by rw [o.rel.len, wipe_length]
  have at_ : ∀ j, (rst ρ0 ρ' vs)[j]? = if j ∈ vs ∧ j < σ.length then some (ρ0.getD j none) else ρ'[j]? := fun j => by rw [rst_at, hl]
  have mm : ∀ k, isMut (rst ρ0 ρ' vs) k → isMut ρ' k ∧ ¬ (k ∈ vs ∧ k < σ.length) := fun k ⟨d, m⟩ => by
    rw [at_] at m
    by_cases c : k ∈ vs ∧ k < σ.length
    · rw [if_pos c] at m
      exfalso
      have hk : k < ρ0.length := by rw [r0.len]; exact c.2
      refine calmSl_not hc c.1 ⟨d, ?_⟩
      have eg : ρ0[k]? = some (ρ0.getD k none) := by
        rw [List.getD_eq_getElem?_getD, List.getElem?_eq_getElem hk]; rfl
      rw [eg]; exact m
    · rw [if_neg c] at m; exact ⟨⟨d, m⟩, c⟩
  have md : ∀ (k : Nat) (t : T), (rst ρ0 ρ' vs)[k]? = some (some (Sl.dp t)) → ρ'[k]? = some (some (Sl.dp t)) ∧ ¬ (k ∈ vs ∧ k < σ.length) := fun k t m => by
    rw [at_] at m
    by_cases c : k ∈ vs ∧ k < σ.length
    · rw [if_pos c] at m
      exfalso
      have hk : k < ρ0.length := by rw [r0.len]; exact c.2
      refine calmSl_dp hc c.1 (t := t) ?_
      have eg : ρ0[k]? = some (ρ0.getD k none) := by
        rw [List.getD_eq_getElem?_getD, List.getElem?_eq_getElem hk]; rfl
      rw [eg]; exact m
    · rw [if_neg c] at m; exact ⟨m, c⟩
  have mda : ∀ a, dpa H' σ (rst ρ0 ρ' vs) a → dpa H' (wipe σ vs) ρ' a := fun a ⟨k, t, v, q1, q2, q3⟩ => by
    obtain ⟨q1, c⟩ := md k t q1
    exact ⟨k, t, v, q1, by rw [wipe_at, if_neg c]; exact q2, q3⟩
  have mad : ∀ a, ads H' σ (rst ρ0 ρ' vs) a → ads H' (wipe σ vs) ρ' a := fun a h => by
    rcases h with ⟨k, m, q⟩ | h
    · obtain ⟨m, c⟩ := mm k m
      exact .inl ⟨k, m, by rw [wipe_at, if_neg c]; exact q⟩
    · exact .inr (mda a h)
  refine ⟨?_, mad⟩
  have td : ∀ a, dpa H0 σ ρ0 a → dpa H0 (wipe σ vs) (wipeS ρ0 vs) a := fun a ⟨i, t, v, m, q, z⟩ => by
    have c : ¬ i ∈ vs := fun z => calmSl_dp hc z m
    exact ⟨i, t, v, by rw [wipeS_at, if_neg fun z => c z.1]; exact m, by rw [wipe_at, if_neg fun z => c z.1]; exact q, z⟩
  refine ⟨⟨by rw [rst_len]; exact hl, o.rel.sub, fun i s e => ?_, fun i j a m1 m2 q1 q2 => ?_, ⟨fun i j t u v w a q1 q2 q3 q4 => ?_, fun a i h m q => ?_⟩⟩, ?_, ⟨fun i m => ?_, fun i m => ?_, fun i t m => ?_⟩, fun a h z => ?_, fun a h => o.tre a (td a h), r0⟩
  · rw [at_] at e
    by_cases c : i ∈ vs ∧ i < σ.length
    · rw [if_pos c] at e
      have hk : i < ρ0.length := by rw [r0.len]; exact c.2
      have eg : ρ0[i]? = some (some s) := by
        rw [List.getD_eq_getElem?_getD, List.getElem?_eq_getElem hk] at e
        rw [List.getElem?_eq_getElem hk]; exact e
      have q := List.all_eq_true.mp hc i c.1
      rw [eg] at q
      have z := r0.sl i s eg
      cases s with
      | sh d => obtain ⟨v, e1, h⟩ := z; exact ⟨v, e1, Rep.mono o.stp.gg _ h⟩
      | own d => cases q
      | io d => cases q
      | dp t => cases q
    · rw [if_neg c] at e
      have z := o.rel.sl i s e
      rw [wipe_at, if_neg c] at z
      exact z
  · obtain ⟨m1, c1⟩ := mm i m1
    obtain ⟨m2, c2⟩ := mm j m2
    exact o.rel.dis i j a m1 m2 (by rw [wipe_at, if_neg c1]; exact q1) (by rw [wipe_at, if_neg c2]; exact q2)
  · obtain ⟨q1, c1⟩ := md i t q1
    obtain ⟨q3, c2⟩ := md j u q3
    exact o.rel.dp.dd i j t u v w a q1 (by rw [wipe_at, if_neg c1]; exact q2) q3 (by rw [wipe_at, if_neg c2]; exact q4)
  · obtain ⟨m, c⟩ := mm i m
    exact o.rel.dp.ds a i (mda a h) m (by rw [wipe_at, if_neg c]; exact q)
  · exact o.stp.mono fun c _ z => (ads_wipe r0.len hc).mp z
  · obtain ⟨m, c⟩ := mm i m
    obtain ⟨d, m2⟩ := o.ker.mu i m
    refine ⟨d, ?_⟩
    rw [wipeS_at, if_neg (by rw [r0.len]; exact c)] at m2
    exact m2
  · have c : ¬ i ∈ vs := fun z => calmSl_not hc z (let ⟨d, q⟩ := m; ⟨d, .inr q⟩)
    obtain ⟨d, q⟩ := m
    obtain ⟨d', q'⟩ := o.ker.io i ⟨d, by rw [wipeS_at, if_neg fun z => c z.1]; exact q⟩
    exact ⟨d', by rw [at_, if_neg fun z => c z.1]; exact q'⟩
  · obtain ⟨m, c⟩ := md i t m
    have m2 := o.ker.dp i t m
    rw [wipeS_at, if_neg (by rw [r0.len]; exact c)] at m2
    exact m2
  · exact (ads_wipe r0.len hc).mp (o.nw a (mad a h) z)
theorem Out.unwipe {G0 H0 : Hp} {ρ0 : S} (r0 : Rel K G0 H0 σ ρ0) (hc : calmSl ρ0 vs = true) (o : Out K G0 H0 (wipe σ vs) (wipeS ρ0 vs) G' H' ρ') : Out K G0 H0 σ ρ0 G' H' (rst ρ0 ρ' vs) := (BR.unwipe r0 hc o).1
theorem ads_unwipe {G0 H0 : Hp} {ρ0 : S} (r0 : Rel K G0 H0 σ ρ0) (hc : calmSl ρ0 vs = true) (o : Out K G0 H0 (wipe σ vs) (wipeS ρ0 vs) G' H' ρ') {a : Addr} (h : ads H' σ (rst ρ0 ρ' vs) a) : ads H' (wipe σ vs) ρ' a := (BR.unwipe r0 hc o).2 a h
end
/-- the turns: the state is wiped between them -/
def lcL (vs : List Nat) (g : D → S → Option S) (p : S → R (Bool × S)) (fe : EF) : List D → List D → S → R (List D × S)
  | [], acc, ρ => .ok (acc, ρ)
  | d :: ds, acc, ρ => ofO (g d ρ) >>= fun ρ1 => noX (p ρ1) >>= fun z => if z.1 = true then noX (eV fe z.2) >>= fun y => if acc.length < sizeLine then lcL vs g p fe ds (acc ++ [y.1]) (wipeS y.2 vs) else .no else lcL vs g p fe ds acc (wipeS z.2 vs)
@[simp] def eLc (vs : List Nat) (it : S → R (List D × S)) (g : D → S → Option S) (p : S → R (Bool × S)) (fe : EF) : EF := fun ρ => it ρ >>= fun z => if calmSl z.2 vs = true then lcL vs g p fe z.1 [] (wipeS z.2 vs) >>= fun y => .ok (.tmp (.lst y.1), rst z.2 y.2 vs) else .no
@[simp] def pYes : S → R (Bool × S) := fun ρ => .ok (true, ρ)
/-- a turn's end: its own slots wiped -/
theorem OutS.wiped {K : PySem.W.Frag} {G0 H0 : Hp} {σ : St} {ρ0 : S} {vs : List Nat} {G2 H2 : Hp} {σ2 : St} {ρ2 : S} (hc : ∀ j ∈ vs, ¬ isIo ρ0 j) (o : OutS K G0 H0 (L2.wipe σ vs) ρ0 G2 H2 σ2 ρ2) (hw : L2.wipe σ2 vs = L2.wipe σ vs) (hk : Lse ρ0 ρ2) (ht : ∀ a, dpa H0 (L2.wipe σ vs) ρ0 a → H2 a = H0 a) (r0 : Rel K G0 H0 (L2.wipe σ vs) ρ0) : Out K G0 H0 (L2.wipe σ vs) ρ0 G2 H2 (wipeS ρ2 vs) := by
  have r := o.rel.wipe (vs := vs)
  rw [hw] at r
  have mw : ∀ j, isMut (wipeS ρ2 vs) j → isMut ρ2 j := fun j ⟨d, m⟩ => by
    rw [wipeS_at] at m
    by_cases c : j ∈ vs ∧ j < ρ2.length
    · rw [if_pos c] at m; rcases m with m | m <;> cases m
    · rw [if_neg c] at m; exact ⟨d, m⟩
  have md : ∀ (j : Nat) (t : T), (wipeS ρ2 vs)[j]? = some (some (Sl.dp t)) → ρ2[j]? = some (some (Sl.dp t)) ∧ ¬ (j ∈ vs ∧ j < ρ2.length) := fun j t m => by
    rw [wipeS_at] at m
    by_cases c : j ∈ vs ∧ j < ρ2.length
    · rw [if_pos c] at m; cases m
    · rw [if_neg c] at m; exact ⟨m, c⟩
  refine ⟨r, o.stp, ⟨fun j m => hk.1 j (mw j m), fun j m => ?_, fun j t m => hk.2 j t (md j t m).1⟩, fun a h z => o.nw a ?_ z, ht, r0⟩
  · obtain ⟨⟨d, q⟩, _⟩ := o.io j m
    exact ⟨d, by rw [wipeS_at, if_neg fun z => hc j z.1 m]; exact q⟩
  · rcases h with ⟨j, ⟨d, m⟩, q⟩ | ⟨j, t, v, m, q, q3⟩
    · rw [← hw] at q
      rw [wipeS_at] at m
      by_cases c : j ∈ vs ∧ j < ρ2.length
      · rw [if_pos c] at m; rcases m with m | m <;> cases m
      · rw [if_neg c] at m
        rw [wipe_at, if_neg (by rw [← o.rel.len]; exact c)] at q
        exact .inl ⟨j, ⟨d, m⟩, q⟩
    · rw [← hw] at q
      obtain ⟨m, c⟩ := md j t m
      rw [wipe_at, if_neg (by rw [← o.rel.len]; exact c)] at q
      exact .inr ⟨j, t, v, m, q, q3⟩

section
variable {X : Cx} {E : WX} {elt tg iter : Expr} {ifs : List Expr} {scope : Scope} {own : List (Str × Nat)} {pos : Pos} {it : S → R (List D × S)} {g : D → S → Option S} {p : S → R (Bool × S)} {fe : EF} {tv : List Nat}
theorem Out.app {K : PySem.W.Frag} {G1 H1 G H : Hp} {σ : St} {ρ ρ' : S} {a : Addr} {u : HO} (o : Out K G1 H1 σ ρ G H ρ') (h1 : H1 a = none) (hg : G a = none) (ha : H a ≠ none) (hn : ¬ ads H σ ρ' a) (hs : ∀ o, H a = some o → ¬ Stat o) : Out K G1 H1 σ ρ G (upd H a u) ρ' := by
  have hk : ∀ b, dpa H σ ρ' b → upd H a u b = H b ∧ G b = none := fun b h => ⟨upd_ne fun z => hn (by rw [← z]; exact .inr h), (o.rel.dpaH h).2⟩
  obtain ⟨tr, tw⟩ := o.rel.trees (Same.refl G) hk (fun _ _ e => ⟨e, rfl⟩) fun i b m h => o.rel.dp.ds b i h m
  refine ⟨⟨o.rel.len, fun b w e => ?_, fun i s e => ?_, o.rel.dis, tr⟩, ⟨o.stp.gg, fun b w e n => ?_, fun b e => ?_, o.stp.fr, fun T t => tabs_upd hs T (o.stp.tb T t)⟩, o.ker, fun b h z => o.nw b (h.imp id (tw b)) z, fun b h => (upd_ne fun z => (o.rel0.dpaH h).1 (by rw [z]; exact h1)).trans (o.tre b h), o.rel0⟩
  · have hb : b ≠ a := fun z => by rw [z, hg] at e; cases e
    rw [upd_ne hb]
    exact o.rel.sub b w e
  · have z := o.rel.sl i s e
    cases s with
    | sh d => exact z
    | own d =>
      obtain ⟨b, e1, h2, w, h3, h4⟩ := z
      have hb : b ≠ a := fun q => hn (.inl ⟨i, ⟨d, .inl e⟩, by rw [← q]; exact e1⟩)
      exact ⟨b, e1, h2, w, by rw [upd_ne hb]; exact h3, h4⟩
    | io d =>
      obtain ⟨b, e1, h2, w, h3, h4⟩ := z
      have hb : b ≠ a := fun q => hn (.inl ⟨i, ⟨d, .inr e⟩, by rw [← q]; exact e1⟩)
      exact ⟨b, e1, h2, w, by rw [upd_ne hb]; exact h3, h4⟩
    | dp t =>
      obtain ⟨v, e1, h1, h2, _⟩ := o.rel.fp_eq (Same.refl G) hk (fun _ _ e => ⟨e, rfl⟩) i t e
      exact ⟨v, e1, h1, h2⟩
  · rw [upd_ne (ne_of_none e h1)]
    exact o.stp.keep b w e n
  · by_cases hb : b = a
    · rw [hb]; exact h1
    · rw [upd_ne hb] at e
      exact o.stp.thr b e
theorem lc_sound {K : PySem.W.Frag} {vs : List Nat} {tt : TT} (hv : ∀ i ∈ tv, i ∈ vs) (mu : ∀ d ρ ρ', g d ρ = some ρ' → Lse ρ ρ') (st : SndT K W0 tt p) {G H : Hp} {σ : St} {ρ : S} {Q : VK} {z : List D × S} {J : It} {G1 H1 : Hp} (o1 : Out K G H σ ρ G1 H1 z.2) (wk : Wlk K G1 H1 z.1 J)
    (q : Wp (if calmSl z.2 vs = true then lcL vs g p fe z.1 [] (wipeS z.2 vs) >>= fun y => R.ok (Hd.tmp (.lst y.1), rst z.2 y.2 vs) else R.no) (fun z => ∀ v G' H', Out K G H σ ρ G' H' z.2 → Hold K H G' H' σ z.2 z.1 v → Q v H') (ExE K E G H σ ρ)) : tLc (fun _ _ Rr => Rr J H1) (gF K tv g) tt (tF K W0 fe) vs σ H Q := by
  split at q
  rotate_left
  · exact q.elim
  rename_i hc
  intro Da hD
  obtain ⟨Gd, Y, wk, hG, hY⟩ := wk.ex
  have q := q.bind
  have hgD : G1 Da = none := o1.rel.sub.none hD
  have rw0 : Rel K G1 H1 (L2.wipe σ vs) (wipeS z.2 vs) := o1.rel.wipe
  have hDn : ∀ {a : Addr}, ads H1 (L2.wipe σ vs) (wipeS z.2 vs) a → a ≠ Da := fun h e => (rw0.adsH h).1 (by rw [e]; exact hD)
  have mw0 : ∀ j, isMut (wipeS z.2 vs) j → j ∉ vs := fun j ⟨d, m⟩ c => by
    rw [wipeS_at] at m
    by_cases hl : j < z.2.length
    · rw [if_pos ⟨c, hl⟩] at m; rcases m with m | m <;> cases m
    · rw [if_neg fun z => hl z.2, List.getElem?_eq_none (by omega)] at m; rcases m with m | m <;> cases m
  refine lc_it wk (fun i H' => ∃ G' ρ' acc us, Out K G1 H1 (L2.wipe σ vs) (wipeS z.2 vs) G' H' ρ' ∧ G' Da = none ∧ H' Da = some (.lst us) ∧ ¬ ads H' (L2.wipe σ vs) ρ' Da ∧ RepL K G' acc us ∧ (∀ b o, G1 b ≠ none → H1 b = some o → H' b = some o) ∧
      Wp (lcL vs g p fe (z.1.drop i) acc ρ') (fun y => ∀ v G' H', Out K G H σ ρ G' H' (rst z.2 y.2 vs) → Hold K H G' H' σ (rst z.2 y.2 vs) (.tmp (.lst y.1)) v → Q v H') (ExE K E G H σ ρ)) ?_ ?_ ?_ ?_
  · refine ⟨G1, wipeS z.2 vs, [], [], Out.new rw0 hD, hgD, upd_same, fun h => hDn (rw0.ads_new hD h) rfl, .nil, fun b o hb ho => ?_, q⟩
    rw [upd_ne (ne_of_none ho hD)]; exact ho
  · rintro i H' _ ⟨G', ρ', acc, us, _, _, _, _, _, k, _⟩
    exact hG H' k
  · rintro i x H' H2 hi ⟨G', ρ', acc, us, o, gD, hDD, nD, ra, k, w⟩ y
    obtain ⟨d, ed, G2, hstep, rx⟩ := hY i H' x H2 hi y G' o.stp.gg o.rel.sub
    obtain ⟨o2, gD2, hD2, nD2, k2, sg2⟩ : Out K G1 H1 (L2.wipe σ vs) (wipeS z.2 vs) G2 H2 ρ' ∧ G2 Da = none ∧ H2 Da = some (.lst us) ∧ ¬ ads H2 (L2.wipe σ vs) ρ' Da ∧ (∀ b o, H' b = some o → H2 b = some o) ∧ Same G' G2 := by
      rcases hstep with ⟨rfl, rfl⟩ | ⟨pp, u, hp, rfl, rfl⟩
      · exact ⟨o, gD, hDD, nD, fun _ _ h => h, Same.refl _⟩
      · have zz := Out.lay (o := u) o.rel hp
        have hne : Da ≠ pp := ne_of_none hDD hp
        exact ⟨o.trans zz, by rw [upd_ne hne]; exact gD, by rw [upd_ne hne]; exact hDD, fun h => nD (zz.nw Da h (by rw [hDD]; simp)), fun b u' h => by rw [upd_ne (ne_of_none h hp)]; exact h, zz.stp.gg⟩
    have hd : z.1.drop i = d :: z.1.drop (i + 1) := by
      obtain ⟨h1, h2⟩ := List.getElem?_eq_some_iff.mp ed
      rw [← h2]
      exact List.drop_eq_getElem_cons h1
    rw [hd] at w
    obtain ⟨ρ3, e3, w⟩ := w.opt
    refine ⟨G2, H2, L2.wipe σ vs, ρ', G2, ρ', ρ3, d, (Out.refl o2.rel).s, rx, e3, fun σ3 o3 n3 => ?_⟩
    have hws : L2.wipe σ3 vs = L2.wipe σ vs := wipe_only (n3.on.mono hv)
    refine ⟨hws, ?_⟩
    have mu3 := mu d ρ' ρ3 e3
    have tr3 : ∀ (G4 H4 : Hp) (ρ4 : S), Out K G2 H2 σ3 ρ3 G4 H4 ρ4 → ∀ a, dpa H2 (L2.wipe σ vs) ρ' a → H4 a = H2 a := fun G4 H4 ρ4 o4 a h => by
      by_cases zz : ads H2 σ3 ρ3 a
      · rcases zz with ⟨j, m, e⟩ | zz
        · exact absurd ((n3.kp j (.inl m)).symm.trans e) (o2.rel.dp.ds a j h (mu3.1 j m))
        · exact o4.tre a zz
      · cases e : H2 a with
        | none => exact absurd e (o2.rel.dpaH h).1
        | some u => exact o4.stp.keep a u e zz
    have n3D : ¬ ads H2 σ3 ρ3 Da := fun h => nD2 (o3.nw Da h (by rw [hD2]; simp))
    have ioN : ∀ j ∈ vs, ¬ isIo ρ' j := fun j hj ⟨d, m⟩ => mw0 j (o2.ker.mu j ⟨d, .inr m⟩) hj
    refine st G2 H2 σ3 ρ3 o3.rel _ (w.bind.noX.mono (fun b hb w2 G4 H4 o4 => ?_) fun _ _ w2 => w2.elim)
    have hD4 : H4 Da = some (.lst us) := o4.stp.keep Da _ hD2 n3D
    have gD4 : G4 Da = none := o4.stp.fr Da (by rw [hD2]; simp) n3D gD2
    have n4D : ¬ ads H4 σ3 b.2 Da := fun h => n3D (o4.nw Da h (by rw [hD2]; simp))
    have keep4 : ∀ bb oo, G1 bb ≠ none → H1 bb = some oo → H4 bb = some oo := fun bb oo h1 h2 => o4.stp.keep bb oo (k2 bb oo (k bb oo h1 h2)) fun zz => by
      have hz := (o3.rel.adsH zz).2
      cases qq : G1 bb with
      | none => exact h1 qq
      | some u' => rw [(o.stp.gg.trans sg2) bb u' qq] at hz; cases hz
    split at w2
    · rename_i hb1
      rw [if_pos hb1]
      have w3 := w2.bind.noX
      refine ⟨G4, b.2, o4.rel, (Wp.bind w3).mono (fun hh _ w5 v G5 H5 o5 hold => ?_) fun _ _ w5 => w5.elim⟩
      cases es : share hh.1 hh.2 with
      | none => rw [es] at w5; exact w5.elim
      | some y6 =>
        rw [es] at w5
        obtain ⟨d6, ρ6⟩ := y6
        obtain ⟨G6, o6, sg6, rp6⟩ := share_ok o5 hold es
        have w6 : Wp (if acc.length < sizeLine then lcL vs g p fe (z.1.drop (i + 1)) (acc ++ [d6]) (wipeS ρ6 vs) else .no) _ _ := w5
        split at w6
        rotate_left
        · exact w6.elim
        rename_i hsz
        have hD5 : H5 Da = some (.lst us) := o6.stp.keep Da _ hD4 n4D
        have gD6 : G6 Da = none := o6.stp.fr Da (by rw [hD4]; simp) n4D gD4
        refine ⟨us, hD5, by rw [← ra.length]; exact hsz, ?_⟩
        have oA : OutS K G2 H2 (L2.wipe σ vs) ρ' G6 H5 σ3 ρ6 := o3.trans (o4.s.trans o6.s)
        have oW : Out K G2 H2 (L2.wipe σ vs) ρ' G6 H5 (wipeS ρ6 vs) := oA.wiped ioN hws ((mu3.trans o4.ker.lse).trans o6.ker.lse) (tr3 _ _ _ (o4.trans o6)) o2.rel
        have nW : ¬ ads H5 (L2.wipe σ vs) (wipeS ρ6 vs) Da := fun h => nD2 (oW.nw Da h (by rw [hD2]; simp))
        have oB := o2.trans oW
        refine ⟨G6, wipeS ρ6 vs, acc ++ [d6], us ++ [v], oB.app hD gD6 (by rw [hD5]; simp) nW (fun o e => by rw [hD5] at e; cases e; exact lst_stat), gD6, upd_same, ?hnew, (ra.mono (sg2.trans (o4.stp.gg.trans o6.stp.gg))).append (.cons rp6 .nil), fun bb oo h1 h2 => ?_, w6⟩
        case hnew =>
          intro h
          refine nW ?_
          have hk : ∀ b, dpa H5 (L2.wipe σ vs) (wipeS ρ6 vs) b → upd H5 Da (.lst (us ++ [v])) b = H5 b ∧ G6 b = none := fun b h => ⟨upd_ne fun z => nW (by rw [← z]; exact .inr h), (oB.rel.dpaH h).2⟩
          obtain ⟨_, tw⟩ := oB.rel.trees (Same.refl G6) hk (fun _ _ e => ⟨e, rfl⟩) fun i b m h => oB.rel.dp.ds b i h m
          exact h.imp id (tw Da)
        have hne : bb ≠ Da := ne_of_none h2 hD
        rw [upd_ne hne]
        refine o6.stp.keep bb oo (keep4 bb oo h1 h2) fun zz => ?_
        have hz := (o4.rel.adsH zz).2
        cases qq : G1 bb with
        | none => exact h1 qq
        | some u' => rw [(o.stp.gg.trans (sg2.trans o4.stp.gg)) bb u' qq] at hz; cases hz
    · rename_i hb1
      rw [if_neg hb1]
      have oA : OutS K G2 H2 (L2.wipe σ vs) ρ' G4 H4 σ3 b.2 := o3.trans o4.s
      have oW : Out K G2 H2 (L2.wipe σ vs) ρ' G4 H4 (wipeS b.2 vs) := oA.wiped ioN hws (mu3.trans o4.ker.lse) (tr3 _ _ _ o4) o2.rel
      exact ⟨G4, wipeS b.2 vs, acc, us, o2.trans oW, gD4, hD4, fun h => nD2 (oW.nw Da h (by rw [hD2]; simp)), ra.mono (sg2.trans o4.stp.gg), keep4, w2⟩
  · rintro H' ⟨G', ρ', acc, us, o, gD, hDD, nD, ra, k, w⟩
    rw [List.drop_length] at w
    have ou := Out.unwipe o1.rel hc o
    refine w (.ref Da) G' H' (o1.trans ou) ⟨Da, rfl, ⟨gD, _, hDD, us, rfl, ra⟩, o1.stp.thr Da hD, fun h => nD (ads_unwipe o1.rel hc o h)⟩
theorem snd_lc {K : PySem.W.Frag} {wi : TI} {vs : List Nat} {tt : TT} (si : SndI K E wi it) (hv : ∀ i ∈ tv, i ∈ vs) (mu : ∀ d ρ ρ', g d ρ = some ρ' → Lse ρ ρ') (st : SndT K W0 tt p) : Snd K E (tLc wi (gF K tv g) tt (tF K W0 fe) vs) (eLc vs it g p fe) := by
  intro G H σ ρ Rl Q hw
  exact si G H σ ρ Rl _ (hw.bind.mono (fun z _ q J G1 H1 o1 wk => lc_sound hv mu st o1 wk q) fun _ _ q => q)
theorem pr_lc {vs : List Nat} {hs0 : X.calm = true} (hN : X.N.Nodup) (hi : PIt X E tg iter it) (ok : BlkOk X.N X.env.scope scope own) (hv : ∀ i ∈ tv, i ∈ vs)
    (hg : ∀ (s : Shared) (H : Hp) (C : Addr) (cl : List (Str × Addr)) (fp : List Addr), PTg (X.blk s H scope (compEnvC scope cl C X.env) fp) tv tg g)
    (ht : ∀ (s : Shared) (H : Hp) (C : Addr) (cl : List (Str × Addr)) (fp : List Addr), PB (X.blk s H scope (compEnvC scope cl C X.env) fp) W0 (ifs.headD iter) p)
    (he : ∀ (s : Shared) (H : Hp) (C : Addr) (cl : List (Str × Addr)) (fp : List Addr), PR (X.blk s H scope (compEnvC scope cl C X.env) fp) W0 elt fe) (h1 : ifs = [ifs.headD iter]) (hvs : own.map (·.2) = vs := by rfl) (hs : ∀ x, foldedSetIterable iter X.env x = pure x := by intro _; rfl) :
    PR X E (.ListComp elt [⟨tg, iter, ifs, 0⟩] scope pos) (eLc vs it g p fe) := by
  subst hvs
  obtain ⟨wi, pi, si⟩ := hi.ex
  refine ⟨_, pe_lc hs0 hN pi ok (fun s H C cl fp => (hg s H C cl fp).pg) (fun s H C cl fp => ?_) (fun s H C cl fp => (he s H C cl fp).pe) hs, snd_lc si hv (hg X.s_0 X.H_0 0 [] []).mu (tt := tFB X.K W0 p) fun G H σ ρ r Q w => ⟨G, ρ, r, w⟩⟩
  rw [h1]
  exact pts_one (ht s H C cl fp).pt
/-- without a test -/
theorem pr_lc0 {vs : List Nat} {hs0 : X.calm = true} (hN : X.N.Nodup) (hi : PIt X E tg iter it) (ok : BlkOk X.N X.env.scope scope own) (hv : ∀ i ∈ tv, i ∈ vs)
    (hg : ∀ (s : Shared) (H : Hp) (C : Addr) (cl : List (Str × Addr)) (fp : List Addr), PTg (X.blk s H scope (compEnvC scope cl C X.env) fp) tv tg g)
    (he : ∀ (s : Shared) (H : Hp) (C : Addr) (cl : List (Str × Addr)) (fp : List Addr), PR (X.blk s H scope (compEnvC scope cl C X.env) fp) W0 elt fe) (hvs : own.map (·.2) = vs := by rfl) (hs : ∀ x, foldedSetIterable iter X.env x = pure x := by intro _; rfl) :
    PR X E (.ListComp elt [⟨tg, iter, [], 0⟩] scope pos) (eLc vs it g pYes fe) := by
  subst hvs
  obtain ⟨wi, pi, si⟩ := hi.ex
  refine ⟨_, pe_lc hs0 hN pi ok (fun s H C cl fp => (hg s H C cl fp).pg) (fun s H C cl fp => pts_nil) (fun s H C cl fp => (he s H C cl fp).pe) hs, snd_lc si hv (hg X.s_0 X.H_0 0 [] []).mu fun G H σ ρ r Q w => w G H (Out.refl r)⟩
end
end BR
set_option Elab.async false
set_option linter.all false
set_option maxRecDepth 100000
set_option maxHeartbeats 4000000
namespace BR
open PySem PySem.Spec PyProof.Rows L2
/-! ## promises of defs that are called while nothing is being shown (no repr guard stands) -/
structure RmG (k : Nat) (A : Around) : Prop where
  rm : Room k A
  gd : A.guards = some []
section
variable {j k : Nat} {A : Around}
theorem RmG.mono (r : RmG k A) (h : j ≤ k) : RmG j A := ⟨r.rm.mono h, r.gd⟩
theorem RmG.deeper (r : RmG (k + 1) A) (env : Env) : RmG k (A.deeper env) := ⟨r.rm.deeper env, r.gd⟩
theorem RmG.in1 (r : RmG (k + 1) A) : RmG k A.in1 := ⟨r.rm.in1, r.gd⟩
theorem make_guards {C : Addr} {us : List Value} {kw : List (Str × Value)} : (A.under (.builtin "type.__call__" ⟨.ref C :: us, kw⟩)).guards = A.guards := by
  first | rfl | (cases h : A.guards <;> simp [Around.under, Code.guards, Code.isGuard, guardIds, pushGuards, h])
theorem RmG.make (r : RmG (k + 1) A) (C : Addr) (us : List Value) (kw : List (Str × Value)) : RmG k (A.under (.builtin "type.__call__" ⟨.ref C :: us, kw⟩)) := ⟨r.rm.make C us kw, make_guards.trans r.gd⟩
theorem RmG.units (r : RmG k A) : A.units + 64 < cLine := r.rm.units
end
structure FnG (P : Program) (w : World) (K : PySem.W.Frag) (mg : Str → Option Value) (base : Heap) (CX : CXT) (k : Nat) (f : Addr) (fd : FuncData) (ps : List Str) (sp : Sp) : Prop where
  len : ∀ vs H Q E, sp vs H Q E → vs.length = ps.length
  at_ : ∀ (A : Around) (outer : List Env) (s : Shared) (H : Hp) (args : Args) (us : List Value) (vs : List V) (Q : VK) (E : XK), RmG k A ∧ Env0 P w K mg base A outer s H ∧ BindsTo s fd args (ps.zip us) ∧ Vals vs us ∧ sp vs H Q E →
    codeAny (model P w) A (.call (.ref f) args) (CR CX outer P w H s Q E) s
section
variable {P : Program} {w : World} {K : PySem.W.Frag} {mg : Str → Option Value} {base : Heap} {CX : CXT} {j k : Nat} {f : Addr} {fd : FuncData} {ps : List Str} {sp sp' : Sp}
theorem FnG.mono (F : FnG P w K mg base CX j f fd ps sp) (h : j ≤ k) : FnG P w K mg base CX k f fd ps sp :=
  ⟨F.len, fun A outer s H args us vs Q E ⟨hr, q⟩ => F.at_ A outer s H args us vs Q E ⟨hr.mono h, q⟩⟩
theorem FnG.of (F : FnOk P w K mg base CX k f fd ps sp) : FnG P w K mg base CX k f fd ps sp :=
  ⟨F.len, fun A outer s H args us vs Q E ⟨hr, e, b, v, q⟩ => F.run A outer s H args us vs Q E hr.rm e b v q⟩
end
section
variable {X : Cx} {CX : CXT} {k : Nat} {f C : Addr} {fd : FuncData} {ps : List Str} {sp : Sp} {dvs : List V} {ds : List Value} {E : XK} {x m : Str} {p pos apos : Pos} {e o : Expr} {es : List Expr} {ta : TE} {t : TA}
/-- what a finished call means for its caller -/
theorem callEnd {pins : List (Addr × Obj)} {σ : L2.St} {H : Hp} {s : Shared} {Q : VK} (I : Inv X pins σ H s) (hx : PassesAt CX X σ E) {r : Result} {s' : Shared} (hq : CR CX X.stack X.prog X.w H s Q E r s') :
    (∃ u, r = .ok (.ret u) ∧ EP X pins σ Q u s') ∨ ∃ er, r = .error er ∧ X.xe er s' := by
  match r, hq with
  | .error er, hq => exact .inr ⟨er, rfl, hx pins H s er s' I hq⟩
  | .ok (.ret u), hq => exact .inl ⟨u, rfl, I.after hq⟩
/-- the callee runs; keywords kw -/
theorem runG {pins : List (Addr × Obj)} {σ : L2.St} {H : Hp} {s : Shared} {Q : VK} {us ws : List Value} {kw : List (Str × Value)} {vs : List V} (F : FnG X.prog X.w X.K X.mg X.base CX k f fd ps sp) (hr : RmG k X.A) (hx : PassesAt CX X σ E)
    (I : Inv X pins σ H s) (hb : BindsTo s fd ⟨us, kw⟩ (ps.zip ws)) (rv : Vals vs ws) (h : sp vs H Q E) : wpAny (model X.prog X.w) X.A (call (.ref f) us kw) (EP X pins σ Q) X.xe s := by
  have hc := F.at_ X.A X.stack s H ⟨us, kw⟩ ws vs Q E ⟨hr, I.env0, hb, rv, h⟩
  refine wpAny_call (codeAny_mono hc fun r s' hq => ?_)
  rcases callEnd I hx hq with ⟨u, rfl, z⟩ | ⟨er, rfl, z⟩
  · exact z
  · exact z
theorem runG0 {pins : List (Addr × Obj)} {σ : L2.St} {H : Hp} {s : Shared} {Q : VK} {us : List Value} {vs : List V} (F : FnG X.prog X.w X.K X.mg X.base CX k f fd ps sp) (hr : RmG k X.A) (hb : Binds X.K fd ps ds) (hd : Vals dvs ds) (hx : PassesAt CX X σ E)
    (I : Inv X pins σ H s) (r : Vals vs us) (h : sp (vs ++ dvs) H Q E) : wpAny (model X.prog X.w) X.A (call (.ref f) us) (EP X pins σ Q) X.xe s := by
  have r2 := r.append hd
  exact runG F hr hx I (hb s us I.kIn (by rw [← r2.length]; exact F.len _ _ _ _ h)) r2 h
/-- f(e, ..) -/
theorem pe_callG (F : FnG X.prog X.w X.K X.mg X.base CX k f fd ps sp) (hr : RmG k X.A) (hg : Gl X x) (hm : X.mg x = some (.ref f)) (hk : PySem.W.keepIn X.K (.ref f) = true) (hb : Binds X.K fd ps ds) (hd : Vals dvs ds) {E : L2.St → XK} (hx : ∀ σ, PassesAt CX X σ (E σ))
    (ha : PA X (e :: es) t) (hdb : (x == ("__debug__" : Str)) = false := by decide) (he : starEach (e :: es) X.env = (false, eval e X.env) :: starEach es X.env := by rfl) (hpl : (backTo pos (starEach es X.env)).any (·.1) = false := by rfl) :
    PE X (.Call (.Name x p) (e :: es) [] pos) (fun σ => tCall sp dvs (E σ) t σ) := by
  constructor
  intro pins s σ H Q I h
  have key := ha.run pos pins s σ H _ I h
  exact wpAny_Call_Name_kw (ld_glob I hg hm (PySem.W.callWith_K (h₀ := X.base) I.ok.mod.kin hk (thn key fun us s1 ⟨vs, H1, I1, r, q⟩ => ⟨I1.kIn, runG0 F hr hb hd (hx σ) I1 r q⟩) he hpl) hdb)
/-- f() -/
theorem pe_callG0 (F : FnG X.prog X.w X.K X.mg X.base CX k f fd ps sp) (hr : RmG k X.A) (hg : Gl X x) (hm : X.mg x = some (.ref f)) (hk : PySem.W.keepIn X.K (.ref f) = true) (hb : Binds X.K fd ps ds) (hd : Vals dvs ds) {E : L2.St → XK} (hx : ∀ σ, PassesAt CX X σ (E σ))
    (hdb : (x == ("__debug__" : Str)) = false := by decide) : PE X (.Call (.Name x p) [] [] pos) (fun σ => tCall sp dvs (E σ) tNil σ) :=
  ⟨fun pins s σ H Q I h => wpAny_Call_Name_kw (ld_glob I hg hm (PySem.W.callWith_K0 I.kIn hk (runG0 (us := []) F hr hb hd (hx σ) I .nil h)) hdb)⟩
/-- o.m(e, ..) -/
theorem pe_methG {pl : Sem Bool} (he : PE X o ta) (c : Cls X.K C) (hm : Meth X.K C m f) (F : FnG X.prog X.w X.K X.mg X.base CX k f fd ps sp) (hr : RmG k X.A) (hb : Binds X.K fd ps ds) (hd : Vals dvs ds) {E : L2.St → XK} (hx : ∀ σ, PassesAt CX X σ (E σ)) (ha : PA X (e :: es) t)
    (hst : starEach (e :: es) X.env = (false, eval e X.env) :: starEach es X.env := by rfl) (hpl : (backTo pos (starEach es X.env)).any (·.1) = false := by rfl)
    (ht : eval (.Call (.Attribute o m apos) (e :: es) [] pos) X.env = (do
      let ov ← eval o X.env
      standAt apos.atName
      let (f, first) ← holding [ov] (getMethod ov m pl)
      callWith pos f first (backTo pos (starEach (e :: es) X.env)) (backToKw pos (keywordEach [] X.env))) := by rfl) :
    PE X (.Call (.Attribute o m apos) (e :: es) [] pos) (fun σ => tMeth C m sp dvs (E σ) ta t σ) := by
  constructor
  intro pins s σ H Q I h
  have key := he.run pins s σ H _ I h
  refine PySem.W.methodCall_KW (pl := pl) (thn key fun u s1 ⟨x, H1, I1, rx, a, dx, fs, ex, ea, l, q⟩ => ?_) ht
  rw [ex] at rx q
  have hu : u = Value.ref a := rx
  rw [hu]
  have k2 := ha.run pos pins s1 σ H1 _ I1 q
  exact getmeth_ok I1 ea c hm l (PySem.W.callWith_K (first := [.ref a]) (h₀ := X.base) I.ok.mod.kin hm.kp (thn k2 fun us s2 ⟨vs, H2, I2, r, q2⟩ => ⟨I2.kIn, runG0 (us := .ref a :: us) (vs := .ref a :: vs) F hr hb hd (hx σ) I2 (.cons rfl r) q2⟩) hst hpl)
/-- o.m() -/
theorem pe_methG0 {pl : Sem Bool} (he : PE X o ta) (c : Cls X.K C) (hm : Meth X.K C m f) (F : FnG X.prog X.w X.K X.mg X.base CX k f fd ps sp) (hr : RmG k X.A) (hb : Binds X.K fd ps ds) (hd : Vals dvs ds) {E : L2.St → XK} (hx : ∀ σ, PassesAt CX X σ (E σ))
    (ht : eval (.Call (.Attribute o m apos) [] [] pos) X.env = (do
      let ov ← eval o X.env
      standAt apos.atName
      let (f, first) ← holding [ov] (getMethod ov m pl)
      callWith pos f first (backTo pos (starEach [] X.env)) (backToKw pos (keywordEach [] X.env))) := by rfl) :
    PE X (.Call (.Attribute o m apos) [] [] pos) (fun σ => tMeth C m sp dvs (E σ) ta tNil σ) := by
  constructor
  intro pins s σ H Q I h
  have key := he.run pins s σ H _ I h
  refine PySem.W.methodCall_KW (pl := pl) (thn key fun u s1 ⟨x, H1, I1, rx, a, dx, fs, ex, ea, l, q⟩ => ?_) ht
  rw [ex] at rx q
  have hu : u = Value.ref a := rx
  rw [hu]
  exact getmeth_ok I1 ea c hm l (PySem.W.callWith_K0 (first := [.ref a]) I1.kIn hm.kp (runG0 (us := [.ref a]) (vs := [.ref a]) F hr hb hd (hx σ) I1 (.cons rfl .nil) q))
/-- C(..) -/
theorem runMakeG {pins : List (Addr × Obj)} {σ : L2.St} {H : Hp} {s : Shared} {Q : VK} {us : List Value} {vs : List V} (M : Mk X.K C f) (F : FnG X.prog X.w X.K X.mg X.base CX k f fd ps sp) (hr : RmG (k + 1) X.A) (hb : Binds X.K fd ps ds) (hd : Vals dvs ds)
    (hx : PassesAt CX X σ E) (I : Inv X pins σ H s) (r : Vals vs us)
    (h : ∀ x dx, H x = none → H dx = none → dx ≠ x → sp (.ref x :: (vs ++ dvs)) (upd (upd H dx (.own x)) x (.ins C dx [])) (fun v H2 => v = .non ∧ Q (.ref x) H2) E) : wpAny (model X.prog X.w) X.A (call (.ref C) us) (EP X pins σ Q) X.xe s := by
  have hq := h (s.heap.objs.size + 1) s.heap.objs.size (I.hok.fresh (by omega)) (I.hok.fresh (Nat.le_refl _)) (Nat.ne_of_lt (Nat.lt_succ_self _))
  have I2 := Inv.made (C := C) I
  have r2 : Vals (V.ref (s.heap.objs.size + 1) :: (vs ++ dvs)) (Value.ref (s.heap.objs.size + 1) :: (us ++ ds)) := .cons rfl (r.append hd)
  have hl : (Value.ref (s.heap.objs.size + 1) :: us ++ ds).length = ps.length := by
    have z := F.len _ _ _ _ hq
    rw [r2.length] at z
    exact z
  have hc := F.at_ _ X.stack _ _ ⟨Value.ref (s.heap.objs.size + 1) :: us, []⟩ (Value.ref (s.heap.objs.size + 1) :: (us ++ ds)) _ _ E ⟨hr.make C us [], I2.env0.make C us [], hb _ (Value.ref (s.heap.objs.size + 1) :: us) I2.kIn hl, r2, hq⟩
  refine wpAny_call (make_map (f := f) I.kIn M.makes M.init (beq_iff_eq.mp M.fn) (codeAny_mono hc fun r s' hq' => ?_))
  match r, hq' with
  | .error er, hq' => exact hx pins _ _ er s' I2 hq'
  | .ok (.ret u), hq' =>
    obtain ⟨v, H', I3, rv, ev, q3⟩ := I2.after hq'
    rw [ev] at rv
    exact ⟨rv, V.ref (s.heap.objs.size + 1), H', I3, rfl, q3⟩
theorem pe_makeG (M : Mk X.K C f) (F : FnG X.prog X.w X.K X.mg X.base CX k f fd ps sp) (hr : RmG (k + 1) X.A) (hg : Gl X x) (hm : X.mg x = some (.ref C)) (hb : Binds X.K fd ps ds) (hd : Vals dvs ds) {E : L2.St → XK} (hx : ∀ σ, PassesAt CX X σ (E σ))
    (ha : PA X (e :: es) t) (hdb : (x == ("__debug__" : Str)) = false := by decide) (he : starEach (e :: es) X.env = (false, eval e X.env) :: starEach es X.env := by rfl) (hpl : (backTo pos (starEach es X.env)).any (·.1) = false := by rfl) :
    PE X (.Call (.Name x p) (e :: es) [] pos) (fun σ => tMake C sp dvs (E σ) t σ) := by
  constructor
  intro pins s σ H Q I h
  have key := ha.run pos pins s σ H _ I h
  exact wpAny_Call_Name_kw (ld_glob I hg hm (PySem.W.callWith_K (h₀ := X.base) I.ok.mod.kin M.kp (thn key fun us s1 ⟨vs, H1, I1, r, q⟩ => ⟨I1.kIn, runMakeG M F hr hb hd (hx σ) I1 r q⟩) he hpl) hdb)
/-- e.f, a property -/
theorem pe_propG {g p : Addr} {f : Str} (he : PE X e ta) (c : Cls X.K C) (hp : PropOf X.K C f p g) (F : FnG X.prog X.w X.K X.mg X.base CX k g fd ps sp) (hr : RmG (k + 1) X.A) (hb : Binds X.K fd ps ds) (hd : Vals dvs ds) (hx : Passes CX X.nox E)
    (hab : attributeBase e f X.env (eval e X.env) = eval e X.env) : PE X (.Attribute e f pos) (tProp C sp dvs E ta) := by
  constructor
  intro pins s σ H Q I h
  have key := he.run pins s σ H _ I h
  refine attr_of hab (thn key fun u s1 ⟨x, H1, I1, rx, a, dx, fs, ex, ea, q⟩ => ?_)
  rw [ex] at rx
  have hu : u = Value.ref a := rx
  rw [hu]
  obtain ⟨mA, O, _, _, _, _⟩ := ins_get I1.hok ea
  obtain ⟨od, J, _⟩ := O.look
  obtain ⟨rest, hrec⟩ := hp.rec_
  have I2 := I1.tok (s1.toks + 1)
  have hl : ([Value.ref a] ++ ds).length = ps.length := by
    have z := F.len _ _ _ _ q
    simp only [List.length_cons, List.length_append, List.length_nil] at z ⊢
    rw [hd.length] at z
    omega
  have hc : (PySem.W.clsIn X.K C).isSome = true := by
    obtain ⟨cd, hc, _⟩ := PySem.W.any_some c.hd
    simp [hc]
  have pg := PySem.W.plainGet_of (c.get f)
  have hcall := F.at_ X.A.in1 X.stack { s1 with toks := s1.toks + 1 } H1 ⟨[.ref a], []⟩ (.ref a :: ds) (.ref a :: dvs) Q E ⟨hr.in1, I2.env0.in1, hb _ [.ref a] I2.kIn hl, .cons rfl hd, q⟩
  refine PySem.W.get_bind I1.kIn J pg.1 (PySem.W.findObj_data hc hp.at_ hp.get hp.tak) pg.2 (wpAny_call (PySem.W.prop_get (s := { s1 with toks := s1.toks + 1 }) I1.kIn hrec (codeAny_mono hcall fun r s' hq => ?_)))
  match r, hq with
  | .error er, hq => exact (hx pins σ H1 { s1 with toks := s1.toks + 1 } er s' (I2.wish _) hq).elim
  | .ok (.ret u), hq =>
    obtain ⟨v, H', I3, rv, q3⟩ := I2.after hq
    show wpAny _ _ (handedOut u) _ _ _
    rw [PySem.W.handedOut_of (handed_of rv)]
    exact wpAny_pure ⟨v, H', I3, rv, q3⟩
end
section
variable {P : Program} {w : World} {K : PySem.W.Frag} {mg : Str → Option Value} {base : Heap} {x qual : Str} {params : Arguments} {body : List Stmt} {scope : Scope} {dvs : List V} {kws : List (Str × V)} {f : Addr} {fd : FuncData}
/-- the rule of a def -/
theorem fnG_of {CX : CXT} {N ps : List Str} {k : Nat} {sp : Sp} (F : FunD K x qual params body scope dvs kws f fd) (S : FnScope N ps scope) (len : ∀ vs H Q E, sp vs H Q E → vs.length = ps.length)
    (hbody : ∀ (cdv : Value) (A : Around) (outer : List Env) (s : Shared) (H : Hp) (vs : List V) (Q : VK) (E : XK), RmG k (A.deeper (envOfC qual scope s.heap.objs.size f cdv)) → sp vs H Q E →
      ∃ t, PSs (cxOf CX P w K mg base N qual scope f cdv A outer s H E) body t ∧ t { nx := fun _ H' => Q .non H', rt := Q } (start N vs) H) : FnG P w K mg base CX (k + 1) f fd ps sp := by
  refine ⟨len, fun A outer s H args us vs Q E ⟨hr, e0, hb, r, hsp⟩ => ?_⟩
  obtain ⟨oc, od, dV, kV, doc, pm, an, cdv, ct, osl, rfl, lk, hcd, _, _⟩ := F.ex
  obtain ⟨t, ht, hq⟩ := hbody cdv A outer s H vs Q E (hr.deeper _) hsp
  have keep : ∀ b o, base.get? b = some o → s.heap.get? b = some o := fun b o e => (e0.bs b o e).1
  have KX := e0.mod.kin.keeps keep
  have hl := len _ _ _ _ hsp
  have hkind : ∀ y ∈ ps.zip us, scope.names.lookup y.1 = some .local ∨ (scope.names.lookup y.1 = some .cell ∧ ((cellsFrom (s.heap.objs.size + 1) scope.names []).lookup y.1).isSome = true) := by
    rintro ⟨n, v⟩ hy
    exact (S.par n (List.of_mem_zip hy).1).imp id fun q => ⟨q, PySem.W.cellsFrom_some _ _ _ (.inl q)⟩
  refine codeAny_call_function hr.rm.depth (KX _ _ lk) rfl S.co S.gen rfl (PySem.W.codeRec_of KX hcd) (hb _ _ _ _ (wpAny_newFunctionEnv_cells S.kind hkind fun env he s1 x1 => ?_))
  subst he
  refine ⟨(e0.mod.nolimit.keeps keep).keeps x1.toInCall.keep, codeAny_func ?_⟩
  have J0 : Inv (cxOf CX P w K mg base N qual scope f cdv A outer s H E) [] (start N vs) H s1 := inv_start S hr.rm.hd e0 hl r x1
  refine wpAny_mono (ht.run [] s1 (start N vs) H _ J0 hq) (fun fl s' hs => ?_) fun e s' hs => hs
  have fin : ∀ {σ' : L2.St} {H' : Hp} {v : V} {u : Value}, Inv (cxOf CX P w K mg base N qual scope f cdv A outer s H E) [] σ' H' s' → RelV v u → Q v H' → CE outer P w H s Q u s' := by
    intro σ' H' v u J rv q
    exact ⟨v, H', J.os, J.bare, J.base, J.hok, rv, q⟩
  match fl, hs with
  | .ret u, ⟨v, σ', H', J, rv, q⟩ => exact fin J rv q
  | .next, ⟨σ', H', J, q⟩ => exact fin (v := V.non) (u := Value.none) J rfl q
  | .brk, ⟨_, _, _, q⟩ => exact q.elim
  | .cont, ⟨_, _, _, q⟩ => exact q.elim
end
end BR
set_option Elab.async false
set_option linter.all false
set_option maxRecDepth 100000
set_option maxHeartbeats 4000000
namespace BR
open PySem L2

/-! ## defs and their calls -/
abbrev FT := List D → R (D × List D)
inductive ArgR (K : PySem.W.Frag) (G H : Hp) : List Bool → List V → List D → List Addr → Prop where
  | nil : ArgR K G H [] [] [] []
  | sh {d : D} {v : V} {ms : List Bool} {vs : List V} {ds : List D} {as : List Addr} : Rep K G d v → ArgR K G H ms vs ds as → ArgR K G H (false :: ms) (v :: vs) (d :: ds) as
  | io {d : D} {p : Addr} {ms : List Bool} {vs : List V} {ds : List D} {as : List Addr} : OwnAt K G H p d → p ∉ as → ArgR K G H ms vs ds as → ArgR K G H (true :: ms) (.ref p :: vs) (d :: ds) (p :: as)
def RetR (K : PySem.W.Frag) (own : Bool) (H0 G H : Hp) (d : D) (v : V) : Prop := match own with
  | true => ∃ p, v = .ref p ∧ OwnAt K G H p d ∧ H0 p = none
  | false => Rep K G d v
def OutR (K : PySem.W.Frag) (G H : Hp) (as : List Addr) (os : List D) : Prop := ∀ (j : Nat) (p : Addr), as[j]? = some p → ∃ d, os[j]? = some d ∧ OwnAt K G H p d
def spF (K : PySem.W.Frag) (ms : List Bool) (own : Bool) (F : FT) : Sp := fun vs H Q E => ∃ (G : Hp) (ds : List D) (as : List Addr), Sub G H ∧ ArgR K G H ms vs ds as ∧
  Wp (F ds) (fun z => ∀ v G' H', Sub G' H' → Stp (fun b => b ∈ as) G H G' H' → OutR K G' H' as z.2 → RetR K own H G' H' z.1 v → Q v H')
    (fun x => ∀ c d G' H', Sub G' H' → Stp (fun b => b ∈ as) G H G' H' → ExR K G' H' x c d → E c d H')
theorem ArgR.len {K : PySem.W.Frag} {G H : Hp} {ms : List Bool} {vs : List V} {ds : List D} {as : List Addr} (h : ArgR K G H ms vs ds as) : vs.length = ms.length ∧ ds.length = ms.length := by
  induction h with
  | nil => exact ⟨rfl, rfl⟩
  | sh _ _ ih => exact ⟨congrArg Nat.succ ih.1, congrArg Nat.succ ih.2⟩
  | io _ _ _ ih => exact ⟨congrArg Nat.succ ih.1, congrArg Nat.succ ih.2⟩
@[simp] def iniS : List Bool → List D → S
  | false :: ms, d :: ds => some (.sh d) :: iniS ms ds
  | true :: ms, d :: ds => some (.io d) :: iniS ms ds
  | _, _ => []
@[simp] def ini (ms : List Bool) (n : Nat) (ds : List D) : S := iniS ms ds ++ List.replicate (n - ds.length) none
@[simp] def flH : Fl → Option Hd
  | .nx => some (.val .non)
  | .rt h => some h
  | _ => none
@[simp] def finH (own : Bool) (h : Hd) (ρ : S) : Option (D × S) := match own with
  | false => share h ρ
  | true => match h with
    | .tmp d => some (d, ρ)
    | .slot i => (match ρ[i]? with
      | some (some (.own d)) => some (d, ρ)
      | _ => none)
    | _ => none
@[simp] def ioOut : List Bool → Nat → S → Option (List D)
  | [], _, _ => some []
  | false :: ms, k, ρ => ioOut ms (k + 1) ρ
  | true :: ms, k, ρ => match ρ[k]? with
    | some (some (.io d)) => (ioOut ms (k + 1) ρ).map (d :: ·)
    | _ => none
@[simp] def runF (ms : List Bool) (own : Bool) (n : Nat) (b : SF) : FT := fun ds => b (ini ms n ds) >>= fun z => ofO (flH z.1) >>= fun h => ofO (finH own h z.2) >>= fun y => ofO (ioOut ms 0 y.2) >>= fun o => .ok (y.1, o)
section
variable {K : PySem.W.Frag} {G H : Hp}
theorem iniS_len {ms : List Bool} {vs : List V} {ds : List D} {as : List Addr} (h : ArgR K G H ms vs ds as) : (iniS ms ds).length = vs.length := by
  induction h with
  | nil => rfl
  | sh _ _ ih => exact congrArg Nat.succ ih
  | io _ _ _ ih => exact congrArg Nat.succ ih
theorem iniS_sl {ms : List Bool} {vs : List V} {ds : List D} {as : List Addr} (h : ArgR K G H ms vs ds as) : ∀ (i : Nat) (s : Sl), (iniS ms ds)[i]? = some (some s) → SlR K G H (vs.map some)[i]? s ∧ (∀ d, s ≠ .own d) ∧ ∀ t, s ≠ .dp t := by
  induction h with
  | nil => intro i s e; simp [iniS] at e
  | sh r _ ih =>
    intro i s e
    cases i with
    | zero => simp only [iniS, List.getElem?_cons_zero] at e; cases e; exact ⟨⟨_, rfl, r⟩, nofun, nofun⟩
    | succ i => simp only [iniS, List.getElem?_cons_succ] at e; simpa using ih i s e
  | io r _ _ ih =>
    intro i s e
    cases i with
    | zero => simp only [iniS, List.getElem?_cons_zero] at e; cases e; exact ⟨⟨_, rfl, r⟩, nofun, nofun⟩
    | succ i => simp only [iniS, List.getElem?_cons_succ] at e; simpa using ih i s e
/-- the io slots -/
theorem iniS_io {ms : List Bool} {vs : List V} {ds : List D} {as : List Addr} (h : ArgR K G H ms vs ds as) : ∀ i, isIo (iniS ms ds) i → ∃ p, p ∈ as ∧ (vs.map some)[i]? = some (some (.ref p)) ∧ ∀ j, isIo (iniS ms ds) j → (vs.map some)[j]? = some (some (.ref p)) → j = i := by
  induction h with
  | nil => rintro i ⟨d, e⟩; simp [iniS] at e
  | sh r _ ih =>
    rintro i ⟨d, e⟩
    cases i with
    | zero => simp only [iniS, List.getElem?_cons_zero] at e; cases e
    | succ i =>
      simp only [iniS, List.getElem?_cons_succ] at e
      obtain ⟨p, h1, h2, h3⟩ := ih i ⟨d, e⟩
      refine ⟨p, h1, by simpa using h2, fun j ⟨d', e'⟩ ej => ?_⟩
      cases j with
      | zero => simp only [iniS, List.getElem?_cons_zero] at e'; cases e'
      | succ j => simp only [iniS, List.getElem?_cons_succ] at e'; rw [h3 j ⟨d', e'⟩ (by simpa using ej)]
  | io r hn _ ih =>
    rintro i ⟨d, e⟩
    cases i with
    | zero =>
      refine ⟨_, List.mem_cons_self, rfl, fun j ⟨d', e'⟩ ej => ?_⟩
      cases j with
      | zero => rfl
      | succ j =>
        simp only [iniS, List.getElem?_cons_succ] at e'
        obtain ⟨p', h1, h2, _⟩ := ih j ⟨d', e'⟩
        rw [List.map_cons, List.getElem?_cons_succ, h2] at ej
        cases ej
        exact absurd h1 hn
    | succ i =>
      simp only [iniS, List.getElem?_cons_succ] at e
      obtain ⟨p', h1, h2, h3⟩ := ih i ⟨d, e⟩
      refine ⟨p', List.mem_cons_of_mem _ h1, by simpa using h2, fun j ⟨d', e'⟩ ej => ?_⟩
      cases j with
      | zero =>
        rw [List.map_cons, List.getElem?_cons_zero] at ej
        cases ej
        exact absurd h1 hn
      | succ j => simp only [iniS, List.getElem?_cons_succ] at e'; rw [h3 j ⟨d', e'⟩ (by simpa using ej)]
theorem ini_at {ms : List Bool} {n : Nat} {ds : List D} {i : Nat} {s : Sl} (h : (ini ms n ds)[i]? = some (some s)) : (iniS ms ds)[i]? = some (some s) := by
  unfold ini at h
  by_cases hi : i < (iniS ms ds).length
  · rw [List.getElem?_append_left hi] at h; exact h
  · rw [List.getElem?_append_right (by omega), List.getElem?_replicate] at h
    split at h <;> cases h
theorem start_at {N : List Str} {vs : List V} {i : Nat} {v : V} (h : (vs.map some)[i]? = some (some v)) : (L2.start N vs)[i]? = some (some v) := by
  unfold L2.start
  have hi : i < (vs.map some).length := (List.getElem?_eq_some_iff.mp h).1
  rw [List.getElem?_append_left hi]
  exact h
theorem rel_ini {ms : List Bool} {N : List Str} {vs : List V} {ds : List D} {as : List Addr} (s : Sub G H) (h : ArgR K G H ms vs ds as) (hl : ms.length ≤ N.length) : Rel K G H (L2.start N vs) (ini ms N.length ds) where
  len := by
    unfold ini L2.start
    rw [List.length_append, List.length_append, iniS_len h, List.length_map, List.length_replicate, List.length_replicate, h.len.1, h.len.2]
  sub := s
  sl := fun i sl e => by
    obtain ⟨z, _⟩ := iniS_sl h i sl (ini_at e)
    cases sl with
    | sh d => obtain ⟨v, e1, r⟩ := z; exact ⟨v, start_at e1, r⟩
    | own d => obtain ⟨v, e1, r⟩ := z; exact ⟨v, start_at e1, r⟩
    | io d => obtain ⟨v, e1, r⟩ := z; exact ⟨v, start_at e1, r⟩
    | dp t => obtain ⟨v, e1, r⟩ := z; exact ⟨v, start_at e1, r⟩
  dp := ⟨fun i j t u v w a e => absurd rfl ((iniS_sl h i _ (ini_at e)).2.2 t), fun a i ⟨j, t, v, e, _⟩ => absurd rfl ((iniS_sl h j _ (ini_at e)).2.2 t)⟩
  dis := fun i j p m1 m2 q1 q2 => by
    have io_ : ∀ k, isMut (ini ms N.length ds) k → isIo (iniS ms ds) k := fun k ⟨d, m⟩ => by
      rcases m with m | m
      · exact absurd rfl ((iniS_sl h k _ (ini_at m)).2.1 d)
      · exact ⟨d, ini_at m⟩
    obtain ⟨p', _, h2, h3⟩ := iniS_io h j (io_ j m2)
    have e2 := start_at (N := N) h2
    rw [q2] at e2; cases e2
    obtain ⟨p'', _, h4, _⟩ := iniS_io h i (io_ i m1)
    have e1 := start_at (N := N) h4
    rw [q1] at e1; cases e1
    exact h3 i (io_ i m1) h4
theorem ads_ini {ms : List Bool} {N : List Str} {vs : List V} {ds : List D} {as : List Addr} (h : ArgR K G H ms vs ds as) {p : Addr} {H1 : Hp} (z : ads H1 (L2.start N vs) (ini ms N.length ds) p) : p ∈ as := by
  rcases z with ⟨i, ⟨d, m⟩, e⟩ | ⟨j, t, v, e, _⟩
  rotate_left
  · exact absurd rfl ((iniS_sl h j _ (ini_at e)).2.2 t)
  have io_ : isIo (iniS ms ds) i := by
    rcases m with m | m
    · exact absurd rfl ((iniS_sl h i _ (ini_at m)).2.1 d)
    · exact ⟨d, ini_at m⟩
  obtain ⟨p', h1, h2, _⟩ := iniS_io h i io_
  rw [start_at h2] at e
  cases e
  exact h1
theorem ioOut_some {ms : List Bool} {vs : List V} {ds : List D} {as : List Addr} (h : ArgR K G H ms vs ds as) : ∀ (k : Nat) (ρ : S) (os : List D), ioOut ms k ρ = some os → ∀ (j : Nat) (p : Addr), as[j]? = some p → ∃ (i : Nat) (d : D), isIo (iniS ms ds) i ∧ (vs.map some)[i]? = some (some (.ref p)) ∧ ρ[k + i]? = some (some (.io d)) ∧ os[j]? = some d := by
  induction h with
  | nil => intro k ρ os _ j p e; simp at e
  | sh _ _ ih =>
    intro k ρ os e j p ea
    obtain ⟨i, d, ⟨d', h1⟩, h2, h3, h4⟩ := ih (k + 1) ρ os e j p ea
    exact ⟨i + 1, d, ⟨d', by simpa [iniS] using h1⟩, by simpa using h2, by rw [← h3]; congr 1; omega, h4⟩
  | io _ _ _ ih =>
    intro k ρ os e j p ea
    unfold ioOut at e
    split at e
    · rename_i d q
      obtain ⟨os', e1, rfl⟩ := Option.map_eq_some_iff.mp e
      cases j with
      | zero =>
        rw [List.getElem?_cons_zero] at ea
        cases ea
        exact ⟨0, d, ⟨_, rfl⟩, rfl, q, rfl⟩
      | succ j =>
        obtain ⟨i, d2, ⟨d', h1⟩, h2, h3, h4⟩ := ih (k + 1) ρ os' e1 j p (by simpa using ea)
        exact ⟨i + 1, d2, ⟨d', by simpa [iniS] using h1⟩, by simpa using h2, by rw [← h3]; congr 1; omega, by simpa using h4⟩
    · cases e
end
section
variable {P : Program} {w : World} {K : PySem.W.Frag} {mg : Str → Option Value} {base : Heap} {x qual : Str} {params : Arguments} {body : List Stmt} {scope : Scope} {dvs : List V} {kws : List (Str × V)} {f : Addr} {fd : FuncData} {N ps : List Str} {k : Nat}
/-- THE RULE of a def -/
theorem fn_ok {ms : List Bool} {own : Bool} {b : SF} (F : FunD K x qual params body scope dvs kws f fd) (Sc : FnScope N ps scope) (hm : ms.length = ps.length)
    (hb : ∀ (cdv : Value) (A : Around) (outer : List Env) (s : Shared) (H : Hp) (E : XK), RmG k (A.deeper (PyProof.Rows.envOfC qual scope s.heap.objs.size f cdv)) → PSq (cxOf (L2.CX P w) P w K mg base N qual scope f cdv A outer s H E) (fun c d _ H' => E c d H') body b) :
    FnG P w K mg base (L2.CX P w) (k + 1) f fd ps (spF K ms own (runF ms own N.length b)) := by
  have hpl : ps.length ≤ N.length := by have := congrArg List.length Sc.pre; rw [List.length_take] at this; omega
  refine fnG_of F Sc (fun vs H Q E h => ?_) fun cdv A outer s H vs Q E hr h => ?_
  · obtain ⟨G, ds, as, _, h, _⟩ := h
    rw [h.len.1, hm]
  · obtain ⟨G, ds, as, sb, ha, hw⟩ := h
    obtain ⟨t, pt, st⟩ := (hb cdv A outer s H E hr).ex
    refine ⟨t, pt, ?_⟩
    have r0 : Rel K G H (L2.start N vs) (ini ms N.length ds) := rel_ini sb ha (by omega)
    have stp0 : ∀ {G' H' : Hp}, Stp (ads H (L2.start N vs) (ini ms N.length ds)) G H G' H' → Stp (fun b => b ∈ as) G H G' H' := fun st => st.mono fun c _ z => ads_ini ha z
    refine st G H (L2.start N vs) (ini ms N.length ds) r0 _ (hw.bind.mono (fun z _ q => ?_) fun x _ q c d σ' G' H' ox ex => q c d G' H' ox.rel.sub (stp0 ox.stp) ex)
    obtain ⟨hd, e1, qa⟩ := q.opt
    obtain ⟨y, e2, qb⟩ := qa.opt
    obtain ⟨o, e3, qf⟩ := qb.opt
    clear q qa qb
    -- a way out
    have out : ∀ {σ' : St} {G' H' : Hp} {v : V}, OutS K G H (L2.start N vs) (ini ms N.length ds) G' H' σ' z.2 → Hold K H G' H' σ' z.2 hd v → Q v H' := by
      intro σ' G' H' v oo hh
      have fin : ∀ {G'' : Hp} {ρ'' : S}, OutS K G H (L2.start N vs) (ini ms N.length ds) G'' H' σ' ρ'' → ioOut ms 0 ρ'' = some o → OutR K G'' H' as o := by
        intro G'' ρ'' o2 e3' jj p ea
        obtain ⟨i, dd, i1, i2, i3, i4⟩ := ioOut_some ha 0 ρ'' o e3' jj p ea
        rw [Nat.zero_add] at i3
        have hio : isIo (ini ms N.length ds) i := by
          obtain ⟨d, q⟩ := i1
          refine ⟨d, ?_⟩
          unfold ini
          rw [List.getElem?_append_left (List.getElem?_eq_some_iff.mp q).1]
          exact q
        obtain ⟨a', e4, ow⟩ := o2.rel.sl i _ i3
        rw [(o2.io i hio).2, start_at i2] at e4
        cases e4
        exact ⟨dd, i4, ow⟩
      cases own with
      | false =>
        have e2' : share hd z.2 = some y := e2
        obtain ⟨d, ρ2⟩ := y
        have oo' : OutS K G H (L2.start N vs) (ini ms N.length ds) G' H' σ' z.2 := oo
        have rr : Out K G' H' σ' z.2 G' H' z.2 := Out.refl oo.rel
        cases hd with
        | val d0 => cases e2'; exact qf v G' H' oo.rel.sub (stp0 oo.stp) (fin oo e3) hh
        | tmp d0 =>
          cases e2'
          obtain ⟨p, rfl, ⟨h1, u, h2, h3⟩, h4, h5⟩ := hh
          have hs : Same G' (upd G' p u) := same_new h1
          have og : OutS K G H (L2.start N vs) (ini ms N.length ds) (upd G' p u) H' σ' z.2 := ⟨oo.rel.grow h1 h2 h5, ⟨oo.stp.gg.trans hs, oo.stp.keep, oo.stp.thr, fun b qb n g => by rw [upd_ne fun z => qb (by rw [z]; exact h4)]; exact oo.stp.fr b qb n g, oo.stp.tb⟩, oo.nw, oo.io⟩
          exact qf _ _ H' og.rel.sub (stp0 og.stp) (fin og e3) (Cont.rep upd_same (h3.mono hs))
        | tpd t =>
          cases e2'
          obtain ⟨h1, h2, h3⟩ := hh
          have hs : Same G' (frzA G' H' (fp H' t v)) := frzA_same fun a m => (h1.in_ t a m).1
          have og : OutS K G H (L2.start N vs) (ini ms N.length ds) (frzA G' H' (fp H' t v)) H' σ' z.2 := ⟨oo.rel.growT h1 fun a m => (h3 a m).2, ⟨oo.stp.gg.trans hs, oo.stp.keep, oo.stp.thr, fun b qb n g => by rw [frzA_out fun z => qb (h3 b z).1]; exact oo.stp.fr b qb n g, oo.stp.tb⟩, oo.nw, oo.io⟩
          exact qf _ _ H' og.rel.sub (stp0 og.stp) (fin og e3) (h1.rep hs t fun a m => frzA_in m)
        | sub i p => cases e2'
        | slot i =>
          obtain ⟨G2, o2, _, rp⟩ := share_ok (hd := .slot i) rr hh e2'
          have og := oo.trans o2.s
          exact qf v G2 H' og.rel.sub (stp0 og.stp) (fin og e3) rp
      | true =>
        cases hd with
        | val d0 => cases e2
        | tmp d0 =>
          cases e2
          obtain ⟨p, rfl, h1, h4, h5⟩ := hh
          exact qf _ G' H' oo.rel.sub (stp0 oo.stp) (fin oo e3) ⟨p, rfl, h1, h4⟩
        | tpd t => cases e2
        | sub i p => cases e2
        | slot i =>
          have e2' : (match z.2[i]? with | some (some (.own d)) => some (d, z.2) | _ => none) = some y := e2
          split at e2'
          · rename_i d0 qi
            cases e2'
            obtain ⟨p, e5, ow⟩ := oo.rel.sl i _ qi
            have hv : σ'[i]? = some (some v) := hh
            rw [hv] at e5; cases e5
            refine qf _ G' H' oo.rel.sub (stp0 oo.stp) (fin oo e3) ⟨p, rfl, ow, ?_⟩
            cases hp : H p with
            | none => rfl
            | some u =>
              exfalso
              rcases oo.nw p (.inl ⟨i, ⟨d0, .inl qi⟩, hv⟩) (by rw [hp]; simp) with ⟨j, m, ej⟩ | ⟨j, t, v, e, _⟩
              rotate_left
              · exact absurd rfl ((iniS_sl ha j _ (ini_at e)).2.2 t)
              have hio : isIo (ini ms N.length ds) j := by
                obtain ⟨d, m⟩ := m
                rcases m with m | m
                · exact absurd rfl ((iniS_sl ha j _ (ini_at m)).2.1 d)
                · exact ⟨d, m⟩
              obtain ⟨⟨d2, q2⟩, e6⟩ := oo.io j hio
              have := oo.rel.dis i j p ⟨d0, .inl qi⟩ ⟨d2, .inr q2⟩ hv (by rw [e6]; exact ej)
              subst this
              rw [qi] at q2; cases q2
          · cases e2'
    obtain ⟨fl, ρ'⟩ := z
    cases fl with
    | nx =>
      cases e1
      exact fun σ' G' H' oo => out oo (Hold.val rep_non)
    | rt h0 =>
      cases e1
      exact fun v σ' G' H' oo hh => out oo hh
    | bk => cases e1
    | ct => cases e1
/-- what a callee raises leaves the def -/
theorem passD {qual : Str} {f : Addr} {cdv : Value} {A : Around} {outer : List Env} {s : Shared} {H : Hp} {E : XK} : Takes (cxOf (L2.CX P w) P w K mg base N qual scope f cdv A outer s H E) (fun c d _ H' => E c d H') :=
  takes_of rfl rfl rfl rfl
theorem pass00 {X : Cx} : Takes X W0 := fun _ _ x => by
  obtain ⟨_, _, _, _, _, _, _, _, _, _, _, _, _, _, _, _, z⟩ := x
  exact z.elim
theorem ownD {qual : Str} {f : Addr} {cdv : Value} {A : Around} {outer : List Env} {s : Shared} {H : Hp} {E : XK} : PassesOwn (model P w) (A.deeper (PyProof.Rows.envOfC qual scope s.heap.objs.size f cdv)) (PyProof.Rows.envOfC qual scope s.heap.objs.size f cdv) (cxOf (L2.CX P w) P w K mg base N qual scope f cdv A outer s H E).xe :=
  passes_of (X := cxOf (L2.CX P w) P w K mg base N qual scope f cdv A outer s H E) rfl
end
/-! ### arguments, some of them in/out objects -/
inductive ArS : List Bool → List Hd → Prop where
  | nil : ArS [] []
  | sh {ms : List Bool} {hs : List Hd} {d : D} : ArS ms hs → ArS (false :: ms) (.val d :: hs)
  | slot {ms : List Bool} {hs : List Hd} {i : Nat} : ArS ms hs → ArS (true :: ms) (.slot i :: hs)
  | tmp {ms : List Bool} {hs : List Hd} {d : D} : ArS ms hs → ArS (true :: ms) (.tmp d :: hs)
def SndM (K : PySem.W.Frag) (E : WX) (ms : List Bool) (t : TA) (f : S → R (List Hd × S)) : Prop := ∀ (G H : Hp) (σ : St) (ρ : S), Rel K G H σ ρ → ∀ Q : List V → Hp → Prop,
  Wp (f ρ) (fun z => ∀ vs G' H', Out K G H σ ρ G' H' z.2 → HoldL K H G' H' σ z.2 z.1 vs → ArS ms z.1 → Q vs H') (ExE K E G H σ ρ) → t σ H Q
structure PMs (X : Cx) (E : WX) (ms : List Bool) (es : List Expr) (f : S → R (List Hd × S)) : Prop where
  ex : ∃ t, PA X es t ∧ SndM X.K E ms t f
@[simp] def mNil : S → R (List Hd × S) := fun ρ => .ok ([], ρ)
@[simp] def mSh (f : EF) (g : S → R (List Hd × S)) : S → R (List Hd × S) := fun ρ => eV f ρ >>= fun z => g z.2 >>= fun y => .ok (.val z.1 :: y.1, y.2)
@[simp] def mIo (f : EF) (g : S → R (List Hd × S)) : S → R (List Hd × S) := fun ρ => f ρ >>= fun z => match z.1 with
  | .val _ => .no
  | .tpd _ => .no
  | .sub _ _ => .no
  | h => g z.2 >>= fun y => .ok (h :: y.1, y.2)
section
variable {X : Cx} {E : WX} {e : Expr} {es : List Expr} {f : EF} {g : S → R (List Hd × S)} {ms : List Bool}
theorem ms_nil : PMs X E [] [] mNil := ⟨_, pa_nil, fun G H σ ρ r Q hw => hw [] G H (.refl r) .nil .nil⟩
theorem ms_sh (h1 : PR X E e f) (h2 : PMs X E ms es g) (hs : starEach (e :: es) X.env = (false, eval e X.env) :: starEach es X.env := by rfl) : PMs X E (false :: ms) (e :: es) (mSh f g) := by
  obtain ⟨t, pe, s⟩ := h1.v.ex
  obtain ⟨t2, pa, s2⟩ := h2.ex
  refine ⟨_, pa_cons pe pa hs, fun G H σ ρ r Q hw => s G H σ ρ r _ (hw.bind.mono (fun z _ q v G' H' o h => ?_) fun _ _ q => q)⟩
  refine s2 G' H' σ z.2 o.rel _ (q.bind.mono (fun y _ q2 vs G2 H2 o2 h2 a2 => ?_) fun _ _ q2 => q2.step o)
  exact q2 (v :: vs) G2 H2 (o.trans o2) (.cons (Hold.val (Rep.mono o2.stp.gg _ h)) (h2.back o.stp.thr)) (.sh a2)
theorem ms_io (h1 : PR X E e f) (h2 : PMs X E ms es g) (hs : starEach (e :: es) X.env = (false, eval e X.env) :: starEach es X.env := by rfl) : PMs X E (true :: ms) (e :: es) (mIo f g) := by
  obtain ⟨t, pe, s⟩ := h1.ex
  obtain ⟨t2, pa, s2⟩ := h2.ex
  refine ⟨_, pa_cons pe pa hs, fun G H σ ρ r Q hw => s G H σ ρ r _ (hw.bind.mono (fun z _ q v G' H' o h => ?_) fun _ _ q => q)⟩
  obtain ⟨hd, ρ1⟩ := z
  cases hd with
  | val d => exact q.elim
  | tpd t => exact q.elim
  | sub i p => exact q.elim
  | slot i =>
    refine s2 G' H' σ ρ1 o.rel _ ((Wp.bind q).mono (fun y _ q2 vs G2 H2 o2 h2 a2 => ?_) fun _ _ q2 => q2.step o)
    exact q2 (v :: vs) G2 H2 (o.trans o2) (.cons (h.pers o2) (h2.back o.stp.thr)) (.slot a2)
  | tmp d =>
    refine s2 G' H' σ ρ1 o.rel _ ((Wp.bind q).mono (fun y _ q2 vs G2 H2 o2 h2 a2 => ?_) fun _ _ q2 => q2.step o)
    exact q2 (v :: vs) G2 H2 (o.trans o2) (.cons (h.pers o2) (h2.back o.stp.thr)) (.tmp a2)
end
@[simp] def isTmp : Hd → Bool
  | .tmp _ => true
  | _ => false
@[simp] def isSlot (i : Nat) : Hd → Bool
  | .slot j => j == i
  | _ => false
@[simp] def lookM : List Hd → S → Option (List D)
  | [], _ => some []
  | .val d :: hs, ρ => (lookM hs ρ).map (d :: ·)
  | .tmp d :: hs, ρ => if hs.any isTmp = true then none else (lookM hs ρ).map (d :: ·)
  | .tpd _ :: _, _ => none
  | .sub _ _ :: _, _ => none
  | .slot i :: hs, ρ => if hs.any (isSlot i) = true then none else (match ρ[i]? with
    | some (some (.own d)) => (lookM hs ρ).map (d :: ·)
    | some (some (.io d)) => (lookM hs ρ).map (d :: ·)
    | _ => none)
@[simp] def putIo : List Hd → List D → S → Option S
  | [], _, ρ => some ρ
  | .val _ :: hs, os, ρ => putIo hs os ρ
  | .tmp _ :: hs, _ :: os, ρ => putIo hs os ρ
  | .slot i :: hs, d :: os, ρ => (match ρ[i]? with
    | some (some (.own _)) => putIo hs os (ρ.set i (some (.own d)))
    | some (some (.io _)) => putIo hs os (ρ.set i (some (.io d)))
    | _ => none)
  | .tmp _ :: _, [], _ => none
  | .tpd _ :: _, _, _ => none
  | .sub _ _ :: _, _, _ => none
  | .slot _ :: _, [], _ => none
section
variable {K : PySem.W.Frag} {Hs G H G' H' : Hp} {σ : St} {ρ ρ' : S}
theorem Rel.kp {A : Addr → Prop} (r : Rel K G H σ ρ) (st : Stp A G H G' H') (hA : ∀ b, dpa H σ ρ b → ¬ A b) : ∀ b, dpa H σ ρ b → H' b = H b ∧ G' b = none := fun b h => by
  obtain ⟨h1, h2⟩ := r.dpaH h
  refine ⟨?_, st.fr b h1 (hA b h) h2⟩
  cases e : H b with
  | none => exact absurd e h1
  | some o => exact st.keep b o e (hA b h)
theorem Rel.after {A : Addr → Prop} (r : Rel K G H σ ρ) (st : Stp A G H G' H') (sb : Sub G' H') (hl : ρ'.length = ρ.length) (hA : ∀ b, dpa H σ ρ b → ¬ A b)
    (h : ∀ (i : Nat) (s : Sl), ρ'[i]? = some (some s) → (ρ[i]? = some (some s) ∧ (isMut ρ i → ∀ b, σ[i]? = some (some (.ref b)) → ¬ A b)) ∨ (isMut ρ i ∧ ∃ d, (s = .own d ∨ s = .io d) ∧ ∃ p, σ[i]? = some (some (.ref p)) ∧ OwnAt K G' H' p d)) : Rel K G' H' σ ρ' where
  len := hl.trans r.len
  sub := sb
  sl := fun i s e => by
    rcases h i s e with ⟨e1, n⟩ | ⟨m, d, hs, p, e1, ow⟩
    · have z := r.sl i s e1
      cases s with
      | sh d => obtain ⟨v, e2, rp⟩ := z; exact ⟨v, e2, Rep.mono st.gg _ rp⟩
      | own d =>
        obtain ⟨b, e2, h1, o, h2, h3⟩ := z
        have nb := n ⟨d, .inl e1⟩ b e2
        exact ⟨b, e2, st.fr b (by rw [h2]; simp) nb h1, o, st.keep b o h2 nb, h3.mono st.gg⟩
      | io d =>
        obtain ⟨b, e2, h1, o, h2, h3⟩ := z
        have nb := n ⟨d, .inr e1⟩ b e2
        exact ⟨b, e2, st.fr b (by rw [h2]; simp) nb h1, o, st.keep b o h2 nb, h3.mono st.gg⟩
      | dp t =>
        obtain ⟨v, e1, h1, h2, _⟩ := r.fp_eq st.gg (r.kp st hA) (fun _ _ e => ⟨e, rfl⟩) i t e1
        exact ⟨v, e1, h1, h2⟩
    · rcases hs with rfl | rfl
      · exact ⟨p, e1, ow⟩
      · exact ⟨p, e1, ow⟩
  dis := fun i j a m1 m2 => by
    have mm : ∀ k, isMut ρ' k → isMut ρ k := fun k ⟨d, m⟩ => by
      rcases m with m | m
      · rcases h k _ m with ⟨e1, _⟩ | ⟨m, _⟩
        · exact ⟨d, .inl e1⟩
        · exact m
      · rcases h k _ m with ⟨e1, _⟩ | ⟨m, _⟩
        · exact ⟨d, .inr e1⟩
        · exact m
    exact r.dis i j a (mm i m1) (mm j m2)
  dp := by
    refine (r.trees st.gg (r.kp st hA) (fun i t e => ?_) fun k b mk hb => ?_).1
    · rcases h i _ e with ⟨e1, _⟩ | ⟨_, d, hs, _⟩
      · exact ⟨e1, rfl⟩
      · rcases hs with z | z <;> cases z
    · obtain ⟨d, m⟩ := mk
      rcases m with m | m
      · rcases h k _ m with ⟨e1, _⟩ | ⟨m, _⟩
        · exact r.dp.ds b k hb ⟨d, .inl e1⟩
        · exact r.dp.ds b k hb m
      · rcases h k _ m with ⟨e1, _⟩ | ⟨m, _⟩
        · exact r.dp.ds b k hb ⟨d, .inr e1⟩
        · exact r.dp.ds b k hb m
/-- the addresses of the slots behind such a step -/
theorem Rel.afterN {A : Addr → Prop} (r : Rel K G H σ ρ) (st : Stp A G H G' H') (hA : ∀ b, dpa H σ ρ b → ¬ A b) (k : Lse ρ ρ') : ∀ a, ads H' σ ρ' a → ads H σ ρ a := fun a h => by
  rcases h with ⟨i, m, e⟩ | h
  · exact .inl ⟨i, k.1 i m, e⟩
  · refine .inr ((r.trees st.gg (r.kp st hA) (fun i t e => ⟨k.2 i t e, rfl⟩) fun j b m hb => r.dp.ds b j hb (k.1 j m)).2 a h)
/-- the arguments as the callee sees them -/
inductive IoL (K : PySem.W.Frag) (Hs G H : Hp) (σ : St) (ρ : S) : List Bool → List Hd → List V → List D → List Addr → Prop where
  | nil : IoL K Hs G H σ ρ [] [] [] [] []
  | sh {d : D} {v : V} {ms : List Bool} {hs : List Hd} {vs : List V} {ds : List D} {as : List Addr} : Rep K G d v → IoL K Hs G H σ ρ ms hs vs ds as → IoL K Hs G H σ ρ (false :: ms) (.val d :: hs) (v :: vs) (d :: ds) as
  | tmp {d : D} {p : Addr} {ms : List Bool} {hs : List Hd} {vs : List V} {ds : List D} {as : List Addr} : OwnAt K G H p d → Hs p = none → ¬ ads H σ ρ p → p ∉ as → IoL K Hs G H σ ρ ms hs vs ds as → IoL K Hs G H σ ρ (true :: ms) (.tmp d :: hs) (.ref p :: vs) (d :: ds) (p :: as)
  | slot {d : D} {i : Nat} {p : Addr} {ms : List Bool} {hs : List Hd} {vs : List V} {ds : List D} {as : List Addr} : OwnAt K G H p d → σ[i]? = some (some (.ref p)) → (ρ[i]? = some (some (.own d)) ∨ ρ[i]? = some (some (.io d))) → p ∉ as → hs.any (isSlot i) = false →
    IoL K Hs G H σ ρ ms hs vs ds as → IoL K Hs G H σ ρ (true :: ms) (.slot i :: hs) (.ref p :: vs) (d :: ds) (p :: as)
theorem IoL.argR {ms : List Bool} {hs : List Hd} {vs : List V} {ds : List D} {as : List Addr} (h : IoL K Hs G H σ ρ ms hs vs ds as) : ArgR K G H ms vs ds as := by
  induction h with
  | nil => exact .nil
  | sh a _ ih => exact .sh a ih
  | tmp a _ _ n _ ih => exact .io a n ih
  | slot a _ _ n _ _ ih => exact .io a n ih
theorem IoL.mem {ms : List Bool} {hs : List Hd} {vs : List V} {ds : List D} {as : List Addr} (h : IoL K Hs G H σ ρ ms hs vs ds as) {q : Addr} (hq : q ∈ as) : (hs.any isTmp = true ∧ Hs q = none ∧ ¬ ads H σ ρ q) ∨ ∃ j, hs.any (isSlot j) = true ∧ σ[j]? = some (some (.ref q)) ∧ isMut ρ j := by
  induction h with
  | nil => cases hq
  | sh _ _ ih =>
    rcases ih hq with ⟨a, b⟩ | ⟨j, a, b⟩
    · exact .inl ⟨by rw [List.any_cons, a]; exact Bool.or_true _, b⟩
    · exact .inr ⟨j, by rw [List.any_cons, a]; exact Bool.or_true _, b⟩
  | tmp a b c n _ ih =>
    rcases List.mem_cons.mp hq with e | hq
    · subst e; exact .inl ⟨rfl, b, c⟩
    · rcases ih hq with ⟨a, b⟩ | ⟨j, a, b⟩
      · exact .inl ⟨by rw [List.any_cons, a]; exact Bool.or_true _, b⟩
      · exact .inr ⟨j, by rw [List.any_cons, a]; exact Bool.or_true _, b⟩
  | @slot d i p ms hs vs ds as a b c n m _ ih =>
    rcases List.mem_cons.mp hq with e | hq
    · subst e
      refine .inr ⟨i, by simp [isSlot], b, d, c⟩
    · rcases ih hq with ⟨a, b⟩ | ⟨j, a, b⟩
      · exact .inl ⟨by rw [List.any_cons, a]; exact Bool.or_true _, b⟩
      · exact .inr ⟨j, by rw [List.any_cons, a]; exact Bool.or_true _, b⟩
theorem ioL_of (r : Rel K G H σ ρ) : ∀ {ms : List Bool} {hs : List Hd} {vs : List V} {ds : List D}, ArS ms hs → HoldL K Hs G H σ ρ hs vs → lookM hs ρ = some ds → ∃ as, IoL K Hs G H σ ρ ms hs vs ds as
  | _, _, _, _, .nil, .nil, e => by cases e; exact ⟨[], .nil⟩
  | _, _, _, ds, .sh (d := d) (hs := hs) a, .cons h t, e => by
    obtain ⟨ds', e1, rfl⟩ := Option.map_eq_some_iff.mp (show (lookM hs ρ).map (d :: ·) = some ds from e)
    obtain ⟨as, i⟩ := ioL_of r a t e1
    exact ⟨as, .sh h i⟩
  | _, _, _, ds, .tmp (d := d) (hs := hs) a, .cons h t, e => by
    have e' : (if hs.any isTmp = true then none else (lookM hs ρ).map (d :: ·)) = some ds := e
    split at e'
    · cases e'
    · rename_i hn
      obtain ⟨ds', e1, rfl⟩ := Option.map_eq_some_iff.mp e'
      obtain ⟨as, i⟩ := ioL_of r a t e1
      obtain ⟨p, rfl, o, h4, h5⟩ := h
      refine ⟨p :: as, .tmp o h4 h5 (fun hp => ?_) i⟩
      rcases i.mem hp with ⟨z, _⟩ | ⟨j, _, z1, z2⟩
      · exact hn z
      · exact h5 (.inl ⟨j, z2, z1⟩)
  | _, _, _, ds, .slot (i := i) (hs := hs) a, .cons (v := v) h t, e => by
    have hv : σ[i]? = some (some v) := h
    unfold lookM at e
    split at e
    · cases e
    · rename_i hn
      have hn' : hs.any (isSlot i) = false := by simpa using hn
      have fin : ∀ (p : Addr) (as : List Addr) (ms : List Bool) (vs : List V) (ds : List D), IoL K Hs G H σ ρ ms hs vs ds as → σ[i]? = some (some (.ref p)) → isMut ρ i → p ∉ as := fun p as ms vs ds io hp hm hq => by
        rcases io.mem hq with ⟨_, _, z⟩ | ⟨j, z0, z1, z2⟩
        · exact z (.inl ⟨i, hm, hp⟩)
        · have := r.dis i j p hm z2 hp z1
          subst this
          rw [hn'] at z0; cases z0
      split at e
      · rename_i d0 q0
        obtain ⟨ds', e1, rfl⟩ := Option.map_eq_some_iff.mp e
        obtain ⟨as, io⟩ := ioL_of r a t e1
        obtain ⟨p, e2, o⟩ := r.sl i _ q0
        rw [hv] at e2; cases e2
        exact ⟨p :: as, .slot o hv (.inl q0) (fin p as _ _ _ io hv ⟨d0, .inl q0⟩) hn' io⟩
      · rename_i d0 q0
        obtain ⟨ds', e1, rfl⟩ := Option.map_eq_some_iff.mp e
        obtain ⟨as, io⟩ := ioL_of r a t e1
        obtain ⟨p, e2, o⟩ := r.sl i _ q0
        rw [hv] at e2; cases e2
        exact ⟨p :: as, .slot o hv (.inr q0) (fin p as _ _ _ io hv ⟨d0, .inr q0⟩) hn' io⟩
      · cases e
theorem OutR.tail {p : Addr} {as : List Addr} {o : D} {os : List D} (h : OutR K G H (p :: as) (o :: os)) : OutR K G H as os := fun j q e => by
  obtain ⟨d, h1, h2⟩ := h (j + 1) q (by simpa using e)
  exact ⟨d, by simpa using h1, h2⟩
theorem OutR.head {p : Addr} {as : List Addr} {o : D} {os : List D} (h : OutR K G H (p :: as) (o :: os)) : OwnAt K G H p o := by
  obtain ⟨d, h1, h2⟩ := h 0 p rfl
  cases h1
  exact h2
/-- what the call leaves of the slots -/
theorem putIo_ok {ms : List Bool} {hs : List Hd} {vs : List V} {ds : List D} {as : List Addr} (h : IoL K Hs G H σ ρ ms hs vs ds as) : ∀ {os : List D} {ρ0 ρ' : S}, OutR K G' H' as os → (∀ i, hs.any (isSlot i) = true → ρ0[i]? = ρ[i]?) → putIo hs os ρ0 = some ρ' →
    ρ'.length = ρ0.length ∧ ∀ i, (hs.any (isSlot i) = false → ρ'[i]? = ρ0[i]?) ∧ (hs.any (isSlot i) = true → ∃ d p, σ[i]? = some (some (.ref p)) ∧ OwnAt K G' H' p d ∧ p ∈ as ∧ ((∃ d0, ρ[i]? = some (some (.own d0))) ∧ ρ'[i]? = some (some (.own d)) ∨ (∃ d0, ρ[i]? = some (some (.io d0))) ∧ ρ'[i]? = some (some (.io d)))) := by
  induction h with
  | nil => intro os ρ0 ρ' _ _ e; cases e; exact ⟨rfl, fun i => ⟨fun _ => rfl, fun z => by cases z⟩⟩
  | sh _ _ ih =>
    intro os ρ0 ρ' ho hk e
    exact ih ho (fun i z => hk i (by rw [List.any_cons, z]; exact Bool.or_true _)) e
  | @tmp d p ms hs vs ds as _ _ _ _ _ ih =>
    intro os ρ0 ρ' ho hk e
    cases os with
    | nil => cases e
    | cons o os =>
      obtain ⟨l, k⟩ := ih ho.tail (fun i z => hk i (by rw [List.any_cons, z]; exact Bool.or_true _)) e
      refine ⟨l, fun i => ⟨fun z => (k i).1 z, fun z => ?_⟩⟩
      obtain ⟨d', p', h1, h2, h3, h4⟩ := (k i).2 z
      exact ⟨d', p', h1, h2, List.mem_cons_of_mem _ h3, h4⟩
  | @slot d i p ms hs vs ds as ow hi hr hn hni _ ih =>
    intro os ρ0 ρ' ho hk e
    cases os with
    | nil => cases e
    | cons o os =>
      have hi0 : ρ0[i]? = ρ[i]? := hk i (by simp [isSlot])
      have step : ∀ (s0 : D → Sl), ((∃ d0, ρ[i]? = some (some (s0 d0))) ∧ ((∀ d, s0 d = .own d) ∨ ∀ d, s0 d = .io d)) → putIo hs os (ρ0.set i (some (s0 o))) = some ρ' → ρ'.length = ρ0.length ∧ ∀ j, ((Hd.slot i :: hs).any (isSlot j) = false → ρ'[j]? = ρ0[j]?) ∧ ((Hd.slot i :: hs).any (isSlot j) = true → ∃ d q, σ[j]? = some (some (.ref q)) ∧ OwnAt K G' H' q d ∧ q ∈ p :: as ∧ ((∃ d0, ρ[j]? = some (some (.own d0))) ∧ ρ'[j]? = some (some (.own d)) ∨ (∃ d0, ρ[j]? = some (some (.io d0))) ∧ ρ'[j]? = some (some (.io d)))) := by
        intro s0 ⟨⟨d0, hd0⟩, hs0⟩ e'
        have hil : i < ρ0.length := by
          rw [hd0] at hi0
          exact (List.getElem?_eq_some_iff.mp hi0).1
        obtain ⟨l, k⟩ := ih (os := os) (ρ0 := ρ0.set i (some (s0 o))) ho.tail (fun j z => by
          have hj : i ≠ j := fun q => by rw [← q, hni] at z; cases z
          rw [List.getElem?_set_ne hj]
          exact hk j (by rw [List.any_cons, z]; exact Bool.or_true _)) e'
        refine ⟨by rw [l, List.length_set], fun j => ?_⟩
        have anyc : (Hd.slot i :: hs).any (isSlot j) = ((i == j) || hs.any (isSlot j)) := rfl
        rw [anyc]
        by_cases hj : i = j
        · subst hj
          refine ⟨fun z => by simp at z, fun _ => ?_⟩
          have e1 : ρ'[i]? = some (some (s0 o)) := by rw [(k i).1 hni, List.getElem?_set_self hil]
          refine ⟨o, p, hi, ho.head, List.mem_cons_self, ?_⟩
          rcases hs0 with z | z
          · exact .inl ⟨⟨d0, by rw [hd0, z]⟩, by rw [e1, z]⟩
          · exact .inr ⟨⟨d0, by rw [hd0, z]⟩, by rw [e1, z]⟩
        · have hb : (i == j) = false := by simpa using hj
          rw [hb, Bool.false_or]
          refine ⟨fun z => by rw [(k j).1 z, List.getElem?_set_ne hj], fun z => ?_⟩
          obtain ⟨d', p', h1, h2, h3, h4⟩ := (k j).2 z
          exact ⟨d', p', h1, h2, List.mem_cons_of_mem _ h3, h4⟩
      unfold putIo at e
      rw [hi0] at e
      rcases hr with q | q
      · rw [q] at e
        exact step .own ⟨⟨d, q⟩, .inl fun _ => rfl⟩ e
      · rw [q] at e
        exact step .io ⟨⟨d, q⟩, .inr fun _ => rfl⟩ e
end
/-- the slots that were handed on are forgotten -/
@[simp] def forget : List Hd → S → S
  | [], ρ => ρ
  | .slot i :: hs, ρ => forget hs (ρ.set i none)
  | _ :: hs, ρ => forget hs ρ
theorem forget_at : ∀ (hs : List Hd) (ρ : S) (j : Nat) (s : Sl), (forget hs ρ)[j]? = some (some s) → hs.any (isSlot j) = false ∧ ρ[j]? = some (some s)
  | [], ρ, j, s, h => ⟨rfl, h⟩
  | .slot i :: hs, ρ, j, s, h => by
    obtain ⟨h1, h2⟩ := forget_at hs (ρ.set i none) j s h
    by_cases hj : i = j
    · subst hj
      rw [List.getElem?_set] at h2
      simp only [if_true] at h2
      split at h2 <;> cases h2
    · rw [List.getElem?_set_ne hj] at h2
      exact ⟨by simp [isSlot, hj, h1], h2⟩
  | .val _ :: hs, ρ, j, s, h => by
    obtain ⟨h1, h2⟩ := forget_at hs ρ j s h
    exact ⟨by simp [isSlot, h1], h2⟩
  | .tmp _ :: hs, ρ, j, s, h => by
    obtain ⟨h1, h2⟩ := forget_at hs ρ j s h
    exact ⟨by simp [isSlot, h1], h2⟩
  | .tpd _ :: hs, ρ, j, s, h => by
    obtain ⟨h1, h2⟩ := forget_at hs ρ j s h
    exact ⟨by simp [isSlot, h1], h2⟩
  | .sub _ _ :: hs, ρ, j, s, h => by
    obtain ⟨h1, h2⟩ := forget_at hs ρ j s h
    exact ⟨by simp [isSlot, h1], h2⟩
theorem forget_len : ∀ (hs : List Hd) (ρ : S), (forget hs ρ).length = ρ.length
  | [], ρ => rfl
  | .slot i :: hs, ρ => by rw [forget, forget_len hs, List.length_set]
  | .val _ :: hs, ρ => by rw [forget, forget_len hs]; nofun
  | .tmp _ :: hs, ρ => by rw [forget, forget_len hs]; nofun
  | .tpd _ :: hs, ρ => by rw [forget, forget_len hs]; nofun
  | .sub _ _ :: hs, ρ => by rw [forget, forget_len hs]; nofun
@[simp] def eCall (own : Bool) (F : FT) (g : S → R (List Hd × S)) : EF := fun ρ => g ρ >>= fun z => ofO (lookM z.1 z.2) >>= fun ds => raiseAt (forget z.1 z.2) (F ds) >>= fun r => ofO (putIo z.1 r.2 z.2) >>= fun ρ' => .ok (if own = true then .tmp r.1 else .val r.1, ρ')
/-- what a call leaves -/
theorem call_after {K : PySem.W.Frag} {E : WX} {G H G1 H1 : Hp} {σ : St} {ρ ρ1 : S} {own : Bool} {F : FT} {ms : List Bool} {hs : List Hd} {vs : List V} {Q : VK} (o1 : Out K G H σ ρ G1 H1 ρ1) (hl : HoldL K H G1 H1 σ ρ1 hs vs) (ar : ArS ms hs)
    (hw : Wp (ofO (lookM hs ρ1) >>= fun ds => raiseAt (forget hs ρ1) (F ds) >>= fun r => ofO (putIo hs r.2 ρ1) >>= fun ρ' => R.ok ((if own = true then Hd.tmp r.1 else Hd.val r.1), ρ')) (fun z => ∀ v G' H', Out K G H σ ρ G' H' z.2 → Hold K H G' H' σ z.2 z.1 v → Q v H') (ExE K E G H σ ρ)) :
    spF K ms own F vs H1 Q (fun c d H' => E c d σ H') := by
  obtain ⟨ds, eds, hw⟩ := hw.opt
  obtain ⟨as, io⟩ := ioL_of o1.rel ar hl eds
  have adsS : ∀ c, H c ≠ none → c ∈ as → ads H σ ρ c := fun c hc hm => by
    rcases io.mem hm with ⟨_, z, _⟩ | ⟨j, _, z1, z2⟩
    · exact absurd z hc
    · exact o1.nw c (.inl ⟨j, z2, z1⟩) hc
  have hT : ∀ (b : Addr) {G' H' : Hp}, Stp (fun b => b ∈ as) G1 H1 G' H' → dpa H σ ρ b → H' b = H b := fun b G' H' st h => by
    have nb : ¬ b ∈ as := fun hm => by
      rcases io.mem hm with ⟨_, z, _⟩ | ⟨j, _, z1, z2⟩
      · exact (o1.rel0.dpaH h).1 z
      · exact o1.rel0.dp.ds b j h (o1.ker.mu j z2) z1
    cases e : H b with
    | none => exact absurd e (o1.rel0.dpaH h).1
    | some u => exact st.keep b u ((o1.tre b h).trans e) nb
  have hA : ∀ b, dpa H1 σ ρ1 b → ¬ b ∈ as := fun b hb hm => by
    rcases io.mem hm with ⟨_, _, z⟩ | ⟨j, _, z1, z2⟩
    · exact z (.inr hb)
    · exact o1.rel.dp.ds b j hb z2 z1
  refine ⟨G1, ds, as, o1.rel.sub, io.argR, hw.bind.raised.mono (fun r _ q v G' H' sb st ou re => ?_) fun x _ q c d G' H' sb st ex => ?_⟩
  · obtain ⟨ρ', e', q⟩ := q.opt
    obtain ⟨l, k⟩ := putIo_ok io ou (fun _ _ => rfl) e'
    have rl : Rel K G' H' σ ρ' := o1.rel.after st sb l hA fun i s e => by
      cases hb : hs.any (isSlot i) with
      | false =>
        rw [(k i).1 hb] at e
        refine .inl ⟨e, fun m b eb hm => ?_⟩
        rcases io.mem hm with ⟨_, _, z⟩ | ⟨j, z0, z1, z2⟩
        · exact z (.inl ⟨i, m, eb⟩)
        · have := o1.rel.dis i j b m z2 eb z1
          subst this
          rw [hb] at z0; cases z0
      | true =>
        obtain ⟨d, p, h1, h2, h3, h4⟩ := (k i).2 hb
        refine .inr ⟨?_, d, ?_, p, h1, h2⟩
        · rcases h4 with ⟨⟨d0, z⟩, _⟩ | ⟨⟨d0, z⟩, _⟩
          · exact ⟨d0, .inl z⟩
          · exact ⟨d0, .inr z⟩
        · rcases h4 with ⟨_, z⟩ | ⟨_, z⟩
          · rw [z] at e; cases e; exact .inl rfl
          · rw [z] at e; cases e; exact .inr rfl
    have kr : Ker ρ1 ρ' := by
      refine ⟨fun j ⟨d, m⟩ => ?_, fun j ⟨d, m⟩ => ?_, fun j t m => ?_⟩
      rotate_right
      · cases hb : hs.any (isSlot j) with
        | false => rw [(k j).1 hb] at m; exact m
        | true =>
          obtain ⟨_, _, _, _, _, h4⟩ := (k j).2 hb
          rcases h4 with ⟨_, z⟩ | ⟨_, z⟩ <;> rw [z] at m <;> cases m
      · cases hb : hs.any (isSlot j) with
        | false => rw [(k j).1 hb] at m; exact ⟨d, m⟩
        | true =>
          obtain ⟨_, _, _, _, _, h4⟩ := (k j).2 hb
          rcases h4 with ⟨⟨d0, z⟩, _⟩ | ⟨⟨d0, z⟩, _⟩
          · exact ⟨d0, .inl z⟩
          · exact ⟨d0, .inr z⟩
      · cases hb : hs.any (isSlot j) with
        | false => exact ⟨d, by rw [(k j).1 hb]; exact m⟩
        | true =>
          obtain ⟨d2, _, _, _, _, h4⟩ := (k j).2 hb
          rcases h4 with ⟨⟨d0, z⟩, _⟩ | ⟨_, z⟩
          · rw [z] at m; cases m
          · exact ⟨d2, z⟩
    have nN := o1.rel.afterN st hA kr.lse
    have key : Out K G H σ ρ G' H' ρ' := ⟨rl, o1.stp.trans st adsS, o1.ker.trans kr, fun a h z => o1.nw a (nN a h) z, fun b h => hT b st h, o1.rel0⟩
    refine q v G' H' key ?_
    cases own with
    | false => exact re
    | true =>
      obtain ⟨pr, rfl, ow, hn⟩ := re
      exact ⟨pr, rfl, ow, o1.stp.thr pr hn, fun z => (o1.rel.adsH (nN pr z)).1 hn⟩
  · have kf : Lse ρ1 (forget hs ρ1) := ⟨fun j ⟨d, m⟩ => ⟨d, m.imp (fun z => (forget_at hs ρ1 j _ z).2) fun z => (forget_at hs ρ1 j _ z).2⟩, fun j t m => (forget_at hs ρ1 j _ m).2⟩
    have rl : Rel K G' H' σ (forget hs ρ1) := o1.rel.after st sb (forget_len hs ρ1) hA fun i s e => by
      obtain ⟨e1, e2⟩ := forget_at hs ρ1 i s e
      refine .inl ⟨e2, fun m b eb hm => ?_⟩
      rcases io.mem hm with ⟨_, _, z⟩ | ⟨j, z0, z1, z2⟩
      · exact z (.inl ⟨i, m, eb⟩)
      · have := o1.rel.dis i j b m z2 eb z1
        subst this
        rw [e1] at z0; cases z0
    have nN := o1.rel.afterN st hA kf
    exact q c d σ G' H' ⟨rl, o1.stp.trans st adsS, fun a h z => o1.nw a (nN a h) z, fun _ _ => rfl⟩ ex
section
variable {X : Cx} {E : WX} {e : Expr} {es : List Expr} {x : Str} {p pos : Pos} {g : S → R (List Hd × S)} {ms : List Bool} {own : Bool} {F : FT} {k : Nat} {f : Addr} {fd : FuncData} {ps : List Str}
/-- f(e, ..) -/
theorem pr_call (Fn : FnG X.prog X.w X.K X.mg X.base (L2.CX X.prog X.w) k f fd ps (spF X.K ms own F)) (hr : RmG k X.A) (hg : Gl X x) (hm : X.mg x = some (.ref f)) (hk : PySem.W.keepIn X.K (.ref f) = true) (hb : Binds X.K fd ps []) (hx : Takes X E)
    (ha : PMs X E ms (e :: es) g) (hdb : (x == ("__debug__" : Str)) = false := by decide) (he : starEach (e :: es) X.env = (false, eval e X.env) :: starEach es X.env := by rfl) (hpl : (backTo pos (starEach es X.env)).any (·.1) = false := by rfl) :
    PR X E (.Call (.Name x p) (e :: es) [] pos) (eCall own F g) := by
  obtain ⟨t, pa, s⟩ := ha.ex
  refine ⟨_, pe_callG (dvs := []) Fn hr hg hm hk hb .nil (fun σ => passAt hx σ) pa hdb he hpl, fun G H σ ρ r Q hw => s G H σ ρ r _ (hw.bind.mono (fun z _ q vs G1 H1 o1 hl ar => ?_) fun _ _ q => q)⟩
  show spF X.K ms own F (vs ++ []) H1 Q _
  rw [List.append_nil]
  exact call_after o1 hl ar q
end
end BR
set_option Elab.async false
set_option linter.all false
set_option maxRecDepth 100000
set_option maxHeartbeats 4000000
namespace BR
open PySem L2

/-! ## more operations -/
section
variable {X : Cx} {K : PySem.W.Frag}
/-! ### * -/
open Classical in
noncomputable def dMulI (x y : D) : Option Rz := match x, y with
  | .int i, .int j => if CMul i j then some (.im (.int (i * j))) else none
  | .lst a, .int n => if -(2 ^ 63) ≤ n ∧ n < 2 ^ 63 ∧ a.length * n.toNat ≤ sizeLine then some (.nw (.lst (List.replicate n.toNat a).flatten)) else none
  | _, _ => none
def rMulB : R2 := fun x y H Q => rI CMul (fun i j => .int (i * j)) x y H Q ∨ rRep x y H Q
theorem op_mulB : OpR X (binaryOp .Mult) rMulB := OpR.or op_mul op_rep
theorem RepL.flat {G : Hp} {ds : List D} {vs : List V} (h : RepL K G ds vs) : ∀ n, RepL K G (List.replicate n ds).flatten (List.replicate n vs).flatten
  | 0 => .nil
  | n + 1 => by
    rw [List.replicate_succ, List.replicate_succ, List.flatten_cons, List.flatten_cons]
    exact h.append (RepL.flat h n)
theorem d_mul : OpD K rMulB dMulI := by
  intro G H x y v w s hx hy z Q e h
  unfold dMulI at e
  split at e
  · split at e
    · rename_i hc
      have := hx.int; have := hy.int; subst_vars; cases e
      exact .inl ⟨_, _, rfl, rfl, hc, h _ rep_int⟩
    · cases e
  · split at e
    · rename_i hc
      have := hy.int; subst_vars; cases e
      obtain ⟨a, vs, rfl, h1, h2⟩ := hx.lst s
      exact .inr ⟨a, _, vs, rfl, rfl, h1, hc.1, hc.2.1, by rw [← h2.length]; exact hc.2.2, fun p hp => h p _ hp ⟨_, rfl, h2.flat _⟩⟩
    · cases e
  · cases e
/-! str * int -/
def rStrMul : R2 := fun x y H Q => ∃ (a : Str) (n : Nat), x = .str a ∧ y = .int (n : Int) ∧ n ≤ 1000000 ∧ a.length * n ≤ sizeLine ∧ Q (.str ⟨(List.replicate n a.cps.toList).flatten.toArray⟩) H
theorem fold_cat (l : List Nat) : ∀ (n : Nat) (acc : Array Nat), (List.replicate n l.toArray).foldl (fun a b => a ++ b) acc = acc ++ (List.replicate n l).flatten.toArray
  | 0, acc => by simp
  | n + 1, acc => by
    rw [List.replicate_succ, List.foldl_cons, fold_cat l n, List.replicate_succ, List.flatten_cons]
    apply Array.ext'
    simp
theorem op_strMul : OpR X (binaryOp .Mult) rStrMul := by
  intro pins s σ H x y v u Q I rx ry h
  obtain ⟨a, n, rfl, rfl, h1, h2, q⟩ := h
  obtain ⟨t, rfl⟩ := rx
  obtain ⟨t', rfl⟩ := ry
  have hs := sizeLine_eq
  refine PySem.P.mul_str ?_ ?_ ?_ ?_
  · have a1 : ¬ ((n : Int) < -(2 ^ 63)) := by omega
    have a2 : ¬ ((n : Int) ≥ 2 ^ 63) := by omega
    rw [decide_eq_false a1, decide_eq_false a2]; rfl
  · intro hn _ hc
    have : (2 ^ 63 - 1 : Int) / (n : Int) * n + (2 ^ 63 - 1 : Int) % n = 2 ^ 63 - 1 := Int.ediv_mul_add_emod ..
    have b1 : (2 ^ 63 - 1 : Int) % n < n := Int.emod_lt_of_pos _ (by omega)
    have b2 : ((2 ^ 63 - 1 : Int) / (n : Int) + 1) * n ≤ (a.length : Int) * n := Int.mul_le_mul_of_nonneg_right (by omega) (by omega)
    rw [Int.add_mul, Int.one_mul] at b2
    have b3 : (a.length : Int) * n ≤ 16777216 := by
      have : ((a.length * n : Nat) : Int) ≤ (16777216 : Nat) := by rw [← hs]; exact Int.ofNat_le.mpr h2
      simpa using this
    omega
  · intro _ _
    rw [Int.toNat_natCast]
    unfold Builtin.Str.tooLong
    simpa using h2
  · have fin : ∀ z : Str, z.cps.toList = (List.replicate n a.cps.toList).flatten → ∀ t tk, EP X pins σ Q (.str z t) { s with toks := tk } := by
      intro z hz t tk
      refine ⟨.str z, H, I.tok _, ⟨_, rfl⟩, ?_⟩
      have : z = ⟨(List.replicate n a.cps.toList).flatten.toArray⟩ := by
        cases z with
        | mk c => 
          have : c = (List.replicate n a.cps.toList).flatten.toArray := by
            apply Array.ext'
            simpa using hz
          rw [this]
      rw [this]; exact q
    by_cases h0 : (n : Int) < 1
    · rw [if_pos h0]
      have : n = 0 := by omega
      subst this
      exact ⟨by decide, fin _ (by rfl) _ _⟩
    · rw [if_neg h0]
      by_cases h1' : ((n : Int) == 1 || a.length == 0) = true
      · rw [if_pos h1']
        show EP X pins σ Q (.str a t) s
        have e : a.cps.toList = (List.replicate n a.cps.toList).flatten := by
          rcases Bool.or_eq_true_iff.mp h1' with z | z
          · have : n = 1 := by have := eq_of_beq z; omega
            subst this; simp
          · have z' : a.cps.size = 0 := eq_of_beq z
            have : a.cps.toList = [] := by
              apply List.eq_nil_of_length_eq_zero
              simpa using z'
            rw [this]; simp
        have := fin a e t s.toks
        exact this
      · rw [if_neg h1']
        refine ⟨?_, fin _ ?_ _ _⟩
        · show Str.length _ ≤ _
          rw [Int.toNat_natCast, show a.cps = a.cps.toList.toArray by simp, fold_cat]
          have : Str.length ⟨#[] ++ (List.replicate n a.cps.toList).flatten.toArray⟩ = a.length * n := by
            show (#[] ++ (List.replicate n a.cps.toList).flatten.toArray).size = a.cps.size * n
            simp [Nat.mul_comm]
          rw [this]; exact h2
        · rw [Int.toNat_natCast, show a.cps = a.cps.toList.toArray by simp, fold_cat]
          simp
def dStrMul (x y : D) : Option Rz := match x, y with
  | .str a, .int n => if 0 ≤ n ∧ n ≤ 1000000 ∧ a.length * n.toNat ≤ sizeLine then some (.im (.str ⟨(List.replicate n.toNat a.cps.toList).flatten.toArray⟩)) else none
  | _, _ => none
theorem d_strMul : OpD K rStrMul dStrMul := by
  intro G H x y v w s hx hy z Q e h
  unfold dStrMul at e
  split at e
  · split at e
    · rename_i a n hc
      have := hx.str; have := hy.int; subst_vars; cases e
      exact ⟨a, n.toNat, rfl, by rw [Int.toNat_of_nonneg hc.1], by omega, hc.2.2, h _ rep_str⟩
    · cases e
  · cases e
/-! ### in -/
@[simp] def keyD : D → Option Key
  | .int i => some (.inl i)
  | .str x => some (.inr x)
  | _ => none
theorem keyD_v {G H : Hp} {d : D} {v : V} {k : Key} (h : RepP K G H d v) (e : keyD d = some k) : v = kV k := by
  cases d with
  | int i => cases e; exact h.int
  | str x => cases e; exact h.str
  | _ => cases e
def fl : D → Option V
  | .non => some .non
  | .bl b => some (.bl b)
  | .int i => some (.int i)
  | .str x => some (.str x)
  | _ => none
theorem fl_rep {G H : Hp} {d : D} {v x : V} (h : RepP K G H d v) (e : fl d = some x) : v = x ∧ flatV x = true := by
  cases d with
  | non => cases e; exact ⟨h.non, rfl⟩
  | bl b => cases e; exact ⟨h.bl, rfl⟩
  | int i => cases e; exact ⟨h.int, rfl⟩
  | str x => cases e; exact ⟨h.str, rfl⟩
  | _ => cases e
def flL : List D → Option (List V)
  | [] => some []
  | d :: ds => match fl d, flL ds with
    | some v, some vs => some (v :: vs)
    | _, _ => none
theorem flL_rep {G : Hp} : ∀ {ds : List D} {vs xs : List V}, RepL K G ds vs → flL ds = some xs → vs = xs ∧ xs.all flatV = true
  | [], vs, xs, h, e => by cases e; exact ⟨repL_nil.mp h, rfl⟩
  | d :: ds, vs, xs, h, e => by
    obtain ⟨v, vs', rfl, h1, h2⟩ := repL_cons.mp h
    unfold flL at e
    split at e
    · rename_i v' vs'' e1 e2
      cases e
      obtain ⟨rfl, f1⟩ := fl_rep (H := G) (.inl h1) e1
      obtain ⟨rfl, f2⟩ := flL_rep h2 e2
      exact ⟨rfl, by simp [f1, f2]⟩
    · cases e
def hasK (ks : List Key) (k : Key) : Bool := ks.any fun k' => decide (k' = k)
def inD (x y : D) : Option Bool := match y with
  | .dic ks _ => (keyD x).map fun k => hasK ks k
  | .str b => (match x with
    | .str a => (match a.cps.toList with
      | [c] => some (decide (c ∈ b.cps.toList))
      | _ => some (!(Builtin.Str.occurrences b a 0 b.length 1).isEmpty))
    | _ => none)
  | .lst ds => (match fl x, flL ds with
    | some v, some vs => some (inV v vs)
    | _, _ => none)
  | .tup ds => (match fl x, flL ds with
    | some v, some vs => some (inV v vs)
    | _, _ => none)
  | _ => none
def dIn (x y : D) : Option Rz := (inD x y).map fun b => .im (.bl b)
def dNotIn (x y : D) : Option Rz := (inD x y).map fun b => .im (.bl !b)
theorem valV_some {kvs : List (Key × V)} {k : Key} : (valV kvs k).isSome = hasK (kvs.map (·.1)) k := by
  rw [← valV_any]
  unfold hasK
  rw [List.any_map]
  rfl
def rDin (neg : Bool) : R2 := fun y x H Q => ∃ a o, x = .ref a ∧ DGet H a y o ∧ Q (.bl (if neg then !o.isSome else o.isSome)) H
theorem op_din (hu : X.A.units + 1 < cLine) : OpR X (compareOp .In) (rDin false) := by
  intro pins s σ H x y v u Q I rx ry h
  obtain ⟨a, o, rfl, g, q⟩ := h
  obtain rfl : u = Value.ref a := ry
  exact d_in hu I g rx fun s' I' => ⟨.bl o.isSome, H, I', rfl, q⟩
theorem op_dnin (hu : X.A.units + 1 < cLine) : OpR X (compareOp .NotIn) (rDin true) := by
  intro pins s σ H x y v u Q I rx ry h
  obtain ⟨a, o, rfl, g, q⟩ := h
  obtain rfl : u = Value.ref a := ry
  exact d_notIn hu I g rx fun s' I' => ⟨.bl (!o.isSome), H, I', rfl, q⟩
def rInStr (neg : Bool) : R2 := fun x y H Q => ∃ i j, x = .str i ∧ y = .str j ∧ Q (.bl (if neg then !(!(Builtin.Str.occurrences j i 0 j.length 1).isEmpty) else !(Builtin.Str.occurrences j i 0 j.length 1).isEmpty)) H
def rInSg (neg : Bool) : R2 := fun x y H Q => ∃ (c : Nat) (z : Str), x = .str ⟨#[c]⟩ ∧ y = .str z ∧ Q (.bl (if neg then !decide (c ∈ z.cps.toList) else decide (c ∈ z.cps.toList))) H
def rInB (K : PySem.W.Frag) (neg : Bool) : R2 := fun x y H Q => ((rDin neg x y H Q ∨ rInStr neg x y H Q) ∨ rInSg neg x y H Q) ∨ rIn K neg x y H Q
theorem op_inB (hu : X.A.units + 1 < cLine) : OpR X (compareOp .In) (rInB X.K false) := OpR.or (OpR.or (OpR.or (op_din hu) op_in_str) op_in_sign) op_in_seq
theorem op_notInB (hu : X.A.units + 1 < cLine) : OpR X (compareOp .NotIn) (rInB X.K true) := OpR.or (OpR.or (OpR.or (op_dnin hu) op_notin_str) op_notIn_sign) op_notIn_seq
theorem inD_ok {G H : Hp} {x y : D} {v w : V} {b : Bool} {neg : Bool} {Q : VK} (s : Sub G H) (hx : RepP K G H x v) (hy : RepP K G H y w) (e : inD x y = some b) (q : Q (.bl (if neg then !b else b)) H) : rInB K neg v w H Q := by
  unfold inD at e
  split at e
  · rename_i ks ds
    cases ek : keyD x with
    | none => rw [ek] at e; cases e
    | some k =>
      rw [ek] at e; cases e
      obtain ⟨a, kvs, rfl, h1, h2, h3⟩ := hy.dic s
      refine .inl (.inl (.inl ⟨a, valV kvs k, rfl, .inl ⟨kvs, k, h1, keyD_v hx ek, rfl⟩, ?_⟩))
      rw [valV_some, h2]; exact q
  · rename_i b'
    have ew := hy.str
    subst ew
    split at e
    · rename_i a
      have ev := hx.str
      subst ev
      split at e
      · rename_i c ec
        cases e
        refine .inl (.inr ⟨c, b', ?_, rfl, q⟩)
        have : a = ⟨#[c]⟩ := by
          cases a with
          | mk l =>
            have : l = #[c] := by apply Array.ext'; simpa using ec
            rw [this]
        rw [this]
      · cases e
        exact .inl (.inl (.inr ⟨a, b', rfl, rfl, q⟩))
    · cases e
  · rename_i ds
    split at e
    · rename_i v' vs' e1 e2
      cases e
      obtain ⟨a, us, rfl, h1, h2⟩ := hy.lst s
      obtain ⟨rfl, f1⟩ := fl_rep hx e1
      obtain ⟨rfl, f2⟩ := flL_rep h2 e2
      exact .inr ⟨a, us, rfl, .inl (SqL.of h1), f1, f2, q⟩
    · cases e
  · rename_i ds
    split at e
    · rename_i v' vs' e1 e2
      cases e
      obtain ⟨a, us, rfl, h1, h2⟩ := hy.tup s
      obtain ⟨rfl, f1⟩ := fl_rep hx e1
      obtain ⟨rfl, f2⟩ := flL_rep h2 e2
      exact .inr ⟨a, us, rfl, .inr h1, f1, f2, q⟩
    · cases e
  · cases e
theorem d_inB : OpD K (rInB K false) dIn := by
  intro G H x y v w s hx hy z Q e h
  unfold dIn at e
  cases q : inD x y with
  | none => rw [q] at e; cases e
  | some b => rw [q] at e; cases e; exact inD_ok s hx hy q (h _ rep_bl)
theorem d_notInB : OpD K (rInB K true) dNotIn := by
  intro G H x y v w s hx hy z Q e h
  unfold dNotIn at e
  cases q : inD x y with
  | none => rw [q] at e; cases e
  | some b => rw [q] at e; cases e; exact inD_ok s hx hy q (h _ rep_bl)
/-! ### subscripts -/
theorem atI_rep {G : Hp} {ds : List D} {vs : List V} {i : Int} {d : D} (h : RepL K G ds vs) (e : atI ds i = some d) : ∃ v, atI vs i = some v ∧ Rep K G d v := by
  unfold atI at e ⊢
  rw [← h.length]
  cases q : ixN ds.length i with
  | none => rw [q] at e; cases e
  | some j =>
    rw [q] at e
    exact h.get e
def getK : List Key → List D → Key → Option D
  | k' :: ks, d :: ds, k => if k' = k then some d else getK ks ds k
  | _, _, _ => none
theorem getK_rep {G : Hp} {k : Key} : ∀ {kvs : List (Key × V)} {ds : List D} {d : D}, RepL K G ds (kvs.map (·.2)) → getK (kvs.map (·.1)) ds k = some d → ∃ v, valV kvs k = some v ∧ Rep K G d v
  | [], ds, d, h, e => by cases ds <;> cases e
  | p :: kvs, [], d, h, e => by cases e
  | p :: kvs, d0 :: ds, d, h, e => by
    obtain ⟨v, vs', e1, h1, h2⟩ := repL_cons.mp h
    simp only [List.map_cons, List.cons.injEq] at e1
    obtain ⟨e1, e2⟩ := e1
    have e' : (if p.1 = k then some d0 else getK (kvs.map (·.1)) ds k) = some d := e
    by_cases hk : p.1 = k
    · refine ⟨p.2, valV_pos hk, ?_⟩
      rw [if_pos hk] at e'
      cases e'
      rw [e1]; exact h1
    · rw [if_neg hk] at e'
      rw [valV_neg hk]
      rw [← e2] at h2
      exact getK_rep h2 e'
theorem getK_none {k : Key} : ∀ {kvs : List (Key × V)} {ds : List D}, ds.length = kvs.length → getK (kvs.map (·.1)) ds k = none → valV kvs k = none
  | [], ds, _, _ => valV_nil
  | p :: kvs, [], h, _ => by simp at h
  | p :: kvs, d0 :: ds, h, e => by
    have e' : (if p.1 = k then some d0 else getK (kvs.map (·.1)) ds k) = none := e
    by_cases hk : p.1 = k
    · rw [if_pos hk] at e'; cases e'
    · rw [if_neg hk] at e'
      rw [valV_neg hk]
      exact getK_none (by simpa using h) e'
@[simp] def dIx (x y : D) : Option Rz := match x, y with
  | .lst ds, .int i => (atI ds i).map .im
  | .tup ds, .int i => (atI ds i).map .im
  | .scr ns, .int i => (atI ns i).map fun n => .im (.int n)
  | .str z, .int i => if z.length ≤ sizeLine then (atI z.cps.toList i).map fun c => .im (.str ⟨#[c]⟩) else none
  | .dic ks ds, k => (keyD k).bind fun k => (getK ks ds k).map .im
  | _, _ => none
def rIxDk : R2 := fun x y H Q => ∃ a v, x = .ref a ∧ DGet H a y (some v) ∧ Q v H
def rIxB (K : PySem.W.Frag) : R2 := fun x y H Q => rIx K x y H Q ∨ rIxDk x y H Q
theorem ix_dk (hu : X.A.units + 1 < cLine) : IxR X rIxDk := by
  intro value slice pins s σ H x y v u Q I rx ry h hs
  obtain ⟨a, z, rfl, g, q⟩ := h
  obtain rfl : v = Value.ref a := rx
  have hT := dict_typeIs I g
  unfold PyProof.Rows.subscriptTail
  refine wpAny_bind ?_
  rw [getitemInPython_of_ne hT.not_modules]
  refine wpAny_bind (wpAny_specialOf hT PySem.F.slot_dict_getitem.lookup ?_)
  have fin : wpAny (model X.prog X.w) X.A (subscripted slice false (.ref a) u) (fun r s₃ => wpAny (model X.prog X.w) X.A (letTemporaryGo value (.ref a) r >>= fun _ => pure r) (EP X pins σ Q) X.xe s₃) X.xe s := by
    rw [hs]
    exact wpAny_operating (d_getItem hu I g ry fun w' s3 I3 rw' => wpAny_bind (wpAny_letTemporaryGo (wpAny_pure ⟨z, H, I3, rw', q⟩)))
  first
    | exact wpAny_pure (wpAny_bind fin)
    | exact wpAny_bind (wpAny_pure (wpAny_bind fin))
    | exact wpAny_bind fin
theorem ix_B (hu : X.A.units + 1 < cLine) : IxR X (rIxB X.K) := IxR.or ix_seq (ix_dk hu)
theorem atI_map {α β : Type} (f : α → β) (xs : List α) (i : Int) : atI (xs.map f) i = (atI xs i).map f := by
  unfold atI
  rw [List.length_map]
  cases ixN xs.length i with
  | none => rfl
  | some j => simp
theorem d_ix : OpD K (rIxB K) dIx := by
  intro G H x y v w s hx hy z Q e h
  unfold dIx at e
  split at e
  · rename_i ds i
    have := hy.int; subst_vars
    obtain ⟨a, vs, rfl, h1, h2⟩ := hx.lst s
    cases q : atI ds i with
    | none => rw [q] at e; cases e
    | some d =>
      rw [q] at e; cases e
      obtain ⟨u, h3, h4⟩ := atI_rep h2 q
      exact .inl (.inl ⟨a, vs, i, u, rfl, rfl, SqL.of h1, h3, h u h4⟩)
  · rename_i ds i
    have := hy.int; subst_vars
    obtain ⟨a, vs, rfl, h1, h2⟩ := hx.tup s
    cases q : atI ds i with
    | none => rw [q] at e; cases e
    | some d =>
      rw [q] at e; cases e
      obtain ⟨u, h3, h4⟩ := atI_rep h2 q
      exact .inl (.inr (.inl ⟨a, vs, i, u, rfl, rfl, h1, h3, h u h4⟩))
  · rename_i ns i
    have := hy.int; subst_vars
    obtain ⟨a, rfl, h1⟩ := hx.scr s
    cases q : atI ns i with
    | none => rw [q] at e; cases e
    | some n =>
      rw [q] at e; cases e
      exact .inl (.inl ⟨a, _, i, .int n, rfl, rfl, h1, by rw [atI_map, q]; rfl, h _ rep_int⟩)
  · rename_i z' i
    have := hy.int; have := hx.str; subst_vars
    split at e
    · rename_i hl
      cases q : atI z'.cps.toList i with
      | none => rw [q] at e; cases e
      | some c =>
        rw [q] at e; cases e
        exact .inl (.inr (.inr ⟨z', i, c, rfl, rfl, hl, q, h _ rep_str⟩))
    · cases e
  · rename_i ks ds
    cases ek : keyD y with
    | none => rw [ek] at e; cases e
    | some kk =>
      rw [ek] at e
      obtain ⟨a, kvs, rfl, h1, h2, h3⟩ := hx.dic s
      subst h2
      cases q : getK (kvs.map (·.1)) ds kk with
      | none => simp [q] at e
      | some d =>
        simp [q] at e
        subst e
        obtain ⟨u, h4, h5⟩ := getK_rep h3 q
        exact .inr ⟨a, u, rfl, .inl ⟨kvs, kk, h1, keyD_v hy ek, h4.symm⟩, h u h5⟩
  · cases e
end
end BR
set_option Elab.async false
set_option linter.all false
set_option maxRecDepth 100000
set_option maxHeartbeats 4000000
namespace BR
open PySem L2

/-! ## slices -/
def SndO (K : PySem.W.Frag) (E : WX) (t : TO) (f : S → R (Option Int × S)) : Prop := ∀ (G H : Hp) (σ : St) (ρ : S), Rel K G H σ ρ → ∀ Q : Option Int → Hp → Prop,
  Wp (f ρ) (fun z => ∀ G' H', Out K G H σ ρ G' H' z.2 → Q z.1 H') (ExE K E G H σ ρ) → t σ H Q
structure POp (X : Cx) (E : WX) (e : Option Expr) (f : S → R (Option Int × S)) : Prop where
  ex : ∃ t, PO X e t ∧ SndO X.K E t f
section
variable {X : Cx} {E : WX} {e : Expr} {f : EF} {lo hi : Option Expr} {pos p2 : Pos} {fl fh : S → R (Option Int × S)}
@[simp] def oNone : S → R (Option Int × S) := fun ρ => .ok (none, ρ)
@[simp] def oSome (f : EF) : S → R (Option Int × S) := fun ρ => f ρ >>= fun z => match z.1 with
  | .val (.int i) => .ok (some i, z.2)
  | _ => .no
theorem op_none : POp X E none oNone := ⟨_, po_none, fun G H σ ρ r Q hw => hw G H (.refl r)⟩
theorem op_some (h : PR X E e f) : POp X E (some e) (oSome f) := by
  obtain ⟨t, pe, s⟩ := h.ex
  refine ⟨_, po_some pe, fun G H σ ρ r Q hw => s G H σ ρ r _ (hw.bind.mono (fun z _ q v G' H' o h => ?_) fun _ _ q => q)⟩
  split at q
  · rename_i i e
    rw [e] at h
    have h' : Rep X.K G' (.int i) v := h
    unfold Rep at h'
    exact ⟨i, h', q G' H' o⟩
  · exact q.elim
def cutD (ds : List D) (lo hi : Option Int) : List D := (ds.drop (HT.sIx ds.length 0 lo)).take (HT.sIx ds.length ds.length hi - HT.sIx ds.length 0 lo)
def dSl (x : D) (lo hi : Option Int) : Option Rz := match x with
  | .lst ds => some (.nw (.lst (cutD ds lo hi)))
  | .str z => if z.length ≤ sizeLine then some (.im (.str (cutS z lo hi))) else none
  | _ => none
def rSlB (K : PySem.W.Frag) : V → Option Int → Option Int → Hp → VK → Prop := fun x lo hi H Q => rSlL K x lo hi H Q ∨ rSlS x lo hi H Q
@[simp] def eSl (f : EF) (fl fh : S → R (Option Int × S)) : EF := fun ρ => f ρ >>= fun z => fl z.2 >>= fun a => fh a.2 >>= fun b => ofO (look z.1 b.2) >>= fun x => ofO (dSl x a.1 b.1) >>= fun r => fin r b.2
theorem pr_slice (h : PR X E e f) (hl : POp X E lo fl) (hh : POp X E hi fh) : PR X E (.Subscript e (.Slice lo hi none p2) pos) (eSl f fl fh) := by
  obtain ⟨t, pe, s⟩ := h.ex
  obtain ⟨tl, pl, sl⟩ := hl.ex
  obtain ⟨th, ph, sh⟩ := hh.ex
  refine ⟨_, pe_slice (r := rSlB X.K) (SlR.or sl_list sl_str) pe pl ph, fun G H σ ρ r Q hw => s G H σ ρ r _ (hw.bind.mono (fun z _ q v G1 H1 o1 h1 => ?_) fun _ _ q => q)⟩
  refine sl G1 H1 σ z.2 o1.rel _ (q.bind.mono (fun a _ q2 G2 H2 o2 => ?_) fun _ _ q2 => q2.step o1)
  refine sh G2 H2 σ a.2 o2.rel _ (q2.bind.mono (fun b _ q3 G3 H3 o3 => ?_) fun _ _ q3 => q3.step (o1.trans o2))
  obtain ⟨x, ex, q4⟩ := q3.opt
  obtain ⟨rz, ez, q5⟩ := q4.opt
  have rp := hold_look o3.rel (h1.pers (o2.trans o3)) ex
  have rs := fin_ok ((o1.trans o2).trans o3) q5
  cases x with
  | lst ds =>
    cases ez
    obtain ⟨ad, vs, rfl, g1, g2⟩ := rp.lst o3.rel.sub
    refine .inl ⟨ad, vs, rfl, SqL.of g1, fun p hp => rs p _ hp ⟨_, rfl, ?_⟩⟩
    unfold cutD cutV
    rw [g2.length]
    exact (g2.drop _).take _
  | str y =>
    have ez' : (if y.length ≤ sizeLine then some (Rz.im (.str (cutS y a.1 b.1))) else none) = some rz := ez
    split at ez'
    · rename_i hz
      cases ez'
      have := rp.str
      subst this
      exact .inr ⟨y, rfl, hz, rs _ rep_str⟩
    · cases ez'
  | _ => cases ez
end
/-! ## built-in functions and types -/
inductive RepPL (K : PySem.W.Frag) (G H : Hp) : List D → List V → Prop where
  | nil : RepPL K G H [] []
  | cons {d : D} {ds : List D} {v : V} {vs : List V} : RepP K G H d v → RepPL K G H ds vs → RepPL K G H (d :: ds) (v :: vs)
@[simp] def looks : List Hd → S → Option (List D)
  | [], _ => some []
  | h :: hs, ρ => match look h ρ, looks hs ρ with
    | some d, some ds => some (d :: ds)
    | _, _ => none
theorem looks_ok {K : PySem.W.Frag} {Hs G H : Hp} {σ : St} {ρ : S} (r : Rel K G H σ ρ) : ∀ {hs : List Hd} {vs : List V} {ds : List D}, HoldL K Hs G H σ ρ hs vs → looks hs ρ = some ds → RepPL K G H ds vs
  | _, _, _, .nil, e => by cases e; exact .nil
  | _, _, _, .cons (h := h) (hs := hs) a t, e => by
    unfold looks at e
    split at e
    · rename_i d ds e1 e2
      cases e
      exact .cons (hold_look r a e1) (looks_ok r t e2)
    · cases e
def CallD (K : PySem.W.Frag) (r : List V → Hp → VK → Prop) (g : List D → Option Rz) : Prop := ∀ (G H : Hp) (ds : List D) (vs : List V), Sub G H → RepPL K G H ds vs → ∀ (z : Rz) (Q : VK), g ds = some z → ResP K G H Q z → r vs H Q
@[simp] def eCB (g : List D → Option Rz) (f : S → R (List Hd × S)) : EF := fun ρ => f ρ >>= fun z => ofO (looks z.1 z.2) >>= fun ds => ofO (g ds) >>= fun r => fin r z.2
section
variable {X : Cx} {E : WX} {e : Expr} {es : List Expr} {x : Str} {p pos : Pos} {f : S → R (List Hd × S)} {g : List D → Option Rz} {r : List V → Hp → VK → Prop} {id T : String} {K : PySem.W.Frag}
theorem snd_cb {t : TA} (hg : CallD K r g) (s : SndH K E t f) : Snd K E (tCB r t) (eCB g f) := by
  intro G H σ ρ R Q hw
  refine s G H σ ρ R _ (hw.bind.mono (fun z _ q vs G1 H1 o1 h1 => ?_) fun _ _ q => q)
  obtain ⟨ds, e1, q⟩ := q.opt
  obtain ⟨rz, e2, q⟩ := q.opt
  exact hg G1 H1 ds vs o1.rel.sub (looks_ok o1.rel h1 e1) rz Q e2 (fin_ok o1 q)
theorem pr_callB (hc : CallR X (.builtin id) r) (hg : CallD X.K r g) (hgl : Gl X x) (hm : X.mg x = none) (hv : bootBuiltins x = some (.builtin id)) (ha : PHs X E (e :: es) f) (hn : x ≠ "__name__" := by decide) (hdb : (x == ("__debug__" : Str)) = false := by decide)
    (he : starEach (e :: es) X.env = (false, eval e X.env) :: starEach es X.env := by rfl) (hpl : (backTo pos (starEach es X.env)).any (·.1) = false := by rfl) : PR X E (.Call (.Name x p) (e :: es) [] pos) (eCB g f) := by
  obtain ⟨t, pa, s⟩ := ha.ex
  exact ⟨_, pe_callB hc hgl hm hv pa hn hdb he hpl, snd_cb hg s⟩
theorem pr_callTy (hc : CallR X (.type T) r) (hg : CallD X.K r g) (hgl : Gl X x) (hm : X.mg x = none) (hv : bootBuiltins x = some (.type T)) (ha : PHs X E (e :: es) f) (hn : x ≠ "__name__" := by decide) (hdb : (x == ("__debug__" : Str)) = false := by decide)
    (he : starEach (e :: es) X.env = (false, eval e X.env) :: starEach es X.env := by rfl) (hpl : (backTo pos (starEach es X.env)).any (·.1) = false := by rfl) : PR X E (.Call (.Name x p) (e :: es) [] pos) (eCB g f) := by
  obtain ⟨t, pa, s⟩ := ha.ex
  exact ⟨_, pe_callTy hc hgl hm hv pa hn hdb he hpl, snd_cb hg s⟩
theorem CallR.or {c : Value} {r r' : List V → Hp → VK → Prop} (h : CallR X c r) (h' : CallR X c r') : CallR X c (fun xs H Q => r xs H Q ∨ r' xs H Q) := by
  intro pins s σ H xs us Q I rx q
  rcases q with q | q
  · exact h pins s σ H xs us Q I rx q
  · exact h' pins s σ H xs us Q I rx q
theorem rpl1 {G H : Hp} {d : D} {vs : List V} (h : RepPL K G H [d] vs) : ∃ v, vs = [v] ∧ RepP K G H d v := by
  cases h with
  | cons a t => cases t; exact ⟨_, rfl, a⟩
theorem rpl2 {G H : Hp} {d e : D} {vs : List V} (h : RepPL K G H [d, e] vs) : ∃ v w, vs = [v, w] ∧ RepP K G H d v ∧ RepP K G H e w := by
  cases h with
  | cons a t =>
    obtain ⟨w, rfl, b⟩ := rpl1 t
    exact ⟨_, _, rfl, a, b⟩
/-! len -/
@[simp] def dLen : List D → Option Rz
  | [.lst ds] => some (.im (.int ds.length))
  | [.tup ds] => some (.im (.int ds.length))
  | [.scr ns] => some (.im (.int ns.length))
  | [.str x] => if x.length ≤ sizeLine then some (.im (.int x.length)) else none
  | [.dic ks _] => some (.im (.int ks.length))
  | _ => none
def rLenK (K : PySem.W.Frag) : List V → Hp → VK → Prop := fun xs H Q => (∃ x n, xs = [x] ∧ LenV K x H n ∧ Q (.int n) H) ∨ ∃ a kvs, xs = [V.ref a] ∧ Rd H a (.dK kvs) ∧ Q (.int kvs.length) H
theorem call_lenRd : CallR X (.builtin "len") (fun xs H Q => ∃ a kvs, xs = [V.ref a] ∧ Rd H a (.dK kvs) ∧ Q (.int kvs.length) H) := by
  intro pins s σ H xs us Q I r h
  obtain ⟨a, kvs, rfl, e, q⟩ := h
  cases r with
  | cons r1 r2 =>
    cases r2
    cases r1
    exact d_len I e fun t s' I' => ⟨.int kvs.length, H, I', ⟨t, rfl⟩, q⟩
theorem call_lenK : CallR X (.builtin "len") (rLenK X.K) := CallR.or call_len call_lenRd
theorem d_lenK : CallD K (rLenK K) dLen := by
  intro G H ds vs s h z Q e q
  unfold dLen at e
  split at e
  · obtain ⟨v, rfl, rv⟩ := rpl1 h
    cases e
    obtain ⟨a, us, rfl, h1, h2⟩ := rv.lst s
    exact .inl ⟨_, _, rfl, .inl ⟨us, SqL.of h1, h2.length⟩, q _ rep_int⟩
  · obtain ⟨v, rfl, rv⟩ := rpl1 h
    cases e
    obtain ⟨a, us, rfl, h1, h2⟩ := rv.tup s
    exact .inl ⟨_, _, rfl, .inr ⟨us, h1, h2.length⟩, q _ rep_int⟩
  · obtain ⟨v, rfl, rv⟩ := rpl1 h
    cases e
    obtain ⟨a, rfl, h1⟩ := rv.scr s
    exact .inl ⟨_, _, rfl, .inl ⟨_, h1, by rw [List.length_map]⟩, q _ rep_int⟩
  · obtain ⟨v, rfl, rv⟩ := rpl1 h
    split at e
    · rename_i hl
      cases e
      have := rv.str; subst this
      exact .inl ⟨_, _, rfl, ⟨hl, rfl⟩, q _ rep_int⟩
    · cases e
  · obtain ⟨v, rfl, rv⟩ := rpl1 h
    cases e
    obtain ⟨a, kvs, rfl, h1, h2, h3⟩ := rv.dic s
    exact .inr ⟨a, kvs, rfl, h1, by have := q (.int kvs.length); rw [← h2, List.length_map] at this; exact this rep_int⟩
  · cases e
/-! ints -/
@[simp] def dAbs : List D → Option Rz
  | [.int i] => some (.im (.int (if i < 0 then -i else i)))
  | _ => none
theorem d_abs : CallD K (fun xs H Q => ∃ i, xs = [.int i] ∧ Q (.int (if i < 0 then -i else i)) H) dAbs := by
  intro G H ds vs s h z Q e q
  unfold dAbs at e
  split at e
  · obtain ⟨v, rfl, rv⟩ := rpl1 h
    cases e
    have := rv.int; subst this
    exact ⟨_, rfl, q _ rep_int⟩
  · cases e
@[simp] def dMax : List D → Option Rz
  | [.int i, .int j] => some (.im (.int (if j > i then j else i)))
  | _ => none
@[simp] def dMin : List D → Option Rz
  | [.int i, .int j] => some (.im (.int (if j < i then j else i)))
  | _ => none
theorem d_max : CallD K (fun xs H Q => ∃ i j, xs = [.int i, .int j] ∧ Q (.int (if j > i then j else i)) H) dMax := by
  intro G H ds vs s h z Q e q
  unfold dMax at e
  split at e
  · obtain ⟨v, w, rfl, rv, rw'⟩ := rpl2 h
    cases e
    have := rv.int; have := rw'.int; subst_vars
    exact ⟨_, _, rfl, q _ rep_int⟩
  · cases e
theorem d_min : CallD K (fun xs H Q => ∃ i j, xs = [.int i, .int j] ∧ Q (.int (if j < i then j else i)) H) dMin := by
  intro G H ds vs s h z Q e q
  unfold dMin at e
  split at e
  · obtain ⟨v, w, rfl, rv, rw'⟩ := rpl2 h
    cases e
    have := rv.int; have := rw'.int; subst_vars
    exact ⟨_, _, rfl, q _ rep_int⟩
  · cases e
@[simp] def dInt : List D → Option Rz
  | [.int i] => some (.im (.int i))
  | [.bl k] => some (.im (.int (if k then 1 else 0)))
  | _ => none
theorem d_int : CallD K (fun xs H Q => (∃ i, xs = [.int i] ∧ Q (.int i) H) ∨ ∃ k, xs = [.bl k] ∧ Q (.int (if k then 1 else 0)) H) dInt := by
  intro G H ds vs s h z Q e q
  unfold dInt at e
  split at e
  · obtain ⟨v, rfl, rv⟩ := rpl1 h
    cases e
    have := rv.int; subst this
    exact .inl ⟨_, rfl, q _ rep_int⟩
  · obtain ⟨v, rfl, rv⟩ := rpl1 h
    cases e
    have := rv.bl; subst this
    exact .inr ⟨_, rfl, q _ rep_int⟩
  · cases e
/-! all, any, sum over lists -/
def blsD : List D → Option (List Bool)
  | [] => some []
  | .bl b :: ds => (blsD ds).map (b :: ·)
  | _ => none
theorem blsD_rep {G : Hp} : ∀ {ds : List D} {vs : List V} {bs : List Bool}, RepL K G ds vs → blsD ds = some bs → vs = bs.map V.bl
  | [], vs, bs, h, e => by cases e; exact repL_nil.mp h
  | d :: ds, vs, bs, h, e => by
    obtain ⟨v, vs', rfl, h1, h2⟩ := repL_cons.mp h
    cases d with
    | bl b =>
      have e' : (blsD ds).map (b :: ·) = some bs := e
      cases q : blsD ds with
      | none => rw [q] at e'; cases e'
      | some bs' =>
        rw [q] at e'; cases e'
        unfold Rep at h1
        rw [h1, blsD_rep h2 q]; rfl
    | _ => cases e
def intsD : List D → Option (List Int)
  | [] => some []
  | .int b :: ds => (intsD ds).map (b :: ·)
  | _ => none
theorem intsD_rep {G : Hp} : ∀ {ds : List D} {vs : List V} {bs : List Int}, RepL K G ds vs → intsD ds = some bs → vs = bs.map V.int
  | [], vs, bs, h, e => by cases e; exact repL_nil.mp h
  | d :: ds, vs, bs, h, e => by
    obtain ⟨v, vs', rfl, h1, h2⟩ := repL_cons.mp h
    cases d with
    | int b =>
      have e' : (intsD ds).map (b :: ·) = some bs := e
      cases q : intsD ds with
      | none => rw [q] at e'; cases e'
      | some bs' =>
        rw [q] at e'; cases e'
        unfold Rep at h1
        rw [h1, intsD_rep h2 q]; rfl
    | _ => cases e
def dAll : List D → Option Rz
  | [.lst ds] => (blsD ds).map fun bs => .im (.bl (bs.all fun b => b))
  | _ => none
def dAny : List D → Option Rz
  | [.lst ds] => (blsD ds).map fun bs => .im (.bl (bs.any fun b => b))
  | _ => none
def dSum : List D → Option Rz
  | [.lst ds] => (intsD ds).map fun ns => .im (.int ns.sum)
  | _ => none
theorem d_all : CallD K (rAll K) dAll := by
  intro G H ds vs s h z Q e q
  unfold dAll at e
  split at e
  · obtain ⟨v, rfl, rv⟩ := rpl1 h
    obtain ⟨a, us, rfl, h1, h2⟩ := rv.lst s
    rename_i ds
    cases eb : blsD ds with
    | none => rw [eb] at e; cases e
    | some bs => rw [eb] at e; cases e; rw [blsD_rep h2 eb] at h1; exact ⟨a, bs, rfl, SqL.of h1, q _ rep_bl⟩
  · cases e
theorem d_any : CallD K (rAny K) dAny := by
  intro G H ds vs s h z Q e q
  unfold dAny at e
  split at e
  · obtain ⟨v, rfl, rv⟩ := rpl1 h
    obtain ⟨a, us, rfl, h1, h2⟩ := rv.lst s
    rename_i ds
    cases eb : blsD ds with
    | none => rw [eb] at e; cases e
    | some bs => rw [eb] at e; cases e; rw [blsD_rep h2 eb] at h1; exact ⟨a, bs, rfl, SqL.of h1, q _ rep_bl⟩
  · cases e
theorem d_sum : CallD K (rSum K) dSum := by
  intro G H ds vs s h z Q e q
  unfold dSum at e
  split at e
  · obtain ⟨v, rfl, rv⟩ := rpl1 h
    obtain ⟨a, us, rfl, h1, h2⟩ := rv.lst s
    rename_i ds
    cases eb : intsD ds with
    | none => rw [eb] at e; cases e
    | some bs => rw [eb] at e; cases e; rw [intsD_rep h2 eb] at h1; exact ⟨a, bs, rfl, SqL.of h1, q _ rep_int⟩
  · cases e
/-! list(..) -/
def dList : List D → Option Rz
  | [.lst ds] => some (.nw (.lst ds))
  | [.tup ds] => some (.nw (.lst ds))
  | _ => none
theorem d_list : CallD K (fun xs H Q => ∃ p ys, xs = [.ref p] ∧ (SqL K H p ys ∨ SqT K H p ys) ∧ ∀ l, H l = none → Q (.ref l) (upd H l (.lst ys))) dList := by
  intro G H ds vs s h z Q e q
  unfold dList at e
  split at e
  · obtain ⟨v, rfl, rv⟩ := rpl1 h
    obtain ⟨a, us, rfl, h1, h2⟩ := rv.lst s
    cases e
    exact ⟨a, us, rfl, .inl (SqL.of h1), fun l hl => q l _ hl ⟨_, rfl, h2⟩⟩
  · obtain ⟨v, rfl, rv⟩ := rpl1 h
    obtain ⟨a, us, rfl, h1, h2⟩ := rv.tup s
    cases e
    exact ⟨a, us, rfl, .inr h1, fun l hl => q l _ hl ⟨_, rfl, h2⟩⟩
  · cases e
end
/-! ### divmod: a new tuple, frozen -/
section
variable {X : Cx} {E : WX} {e : Expr} {es : List Expr} {x : Str} {p pos : Pos} {f : S → R (List Hd × S)} {K : PySem.W.Frag}
def DmOk (j : Int) : Prop := 0 < j ∧ j < 2 ^ 200
open Classical in
noncomputable def eDivmod (f : S → R (List Hd × S)) : EF := fun ρ => f ρ >>= fun z => match z.1 with
  | [.val (.int i), .val (.int j)] => if DmOk j then .ok (.val (.tup [.int (i / j), .int (i % j)]), z.2) else .no
  | _ => .no
theorem cdivP {i j : Int} (h0 : 0 < j) (h1 : j < 2 ^ 200) : CDivP i j := by
  refine ⟨h0, ?_⟩
  unfold Builtin.divisionGoesByPylong
  have : j.natAbs.log2 < 200 := by
    rw [Nat.log2_lt (by omega)]
    have : (j.natAbs : Int) < 2 ^ 200 := by omega
    exact_mod_cast this
  have h2 : ¬ ((if j == 0 then 0 else j.natAbs.log2 / 30 + 1) > 300) := by
    split
    · omega
    · have : j.natAbs.log2 / 30 ≤ 200 / 30 := Nat.div_le_div_right (by omega)
      omega
  simp only [decide_eq_false h2, Bool.false_and]
theorem pr_divmod (hgl : Gl X "divmod") (hm : X.mg "divmod" = none) (ha : PHs X E (e :: es) f) (he : starEach (e :: es) X.env = (false, eval e X.env) :: starEach es X.env := by rfl) (hpl : (backTo pos (starEach es X.env)).any (·.1) = false := by rfl) : PR X E (.Call (.Name "divmod" p) (e :: es) [] pos) (eDivmod f) := by
  obtain ⟨t, pa, s⟩ := ha.ex
  refine ⟨_, pe_callB call_divmodW hgl hm (by decide +kernel) pa (by decide) (by decide) he hpl, fun G H σ ρ R Q hw => s G H σ ρ R _ (hw.bind.mono (fun z _ q vs G1 H1 o1 h1 => ?_) fun _ _ q => q)⟩
  obtain ⟨hs, ρ1⟩ := z
  split at q
  · rename_i i j e
    have e' : hs = [.val (.int i), .val (.int j)] := e
    subst e'
    split at q
    · rename_i hj
      cases h1 with
      | cons a1 t1 =>
        cases t1 with
        | cons a2 t2 =>
          cases t2
          have b1 : Rep X.K G1 (.int i) _ := a1
          have b2 : Rep X.K G1 (.int j) _ := a2
          unfold Rep at b1 b2
          subst b1 b2
          refine ⟨i, j, rfl, cdivP hj.1 hj.2, fun pp hp => ?_⟩
          have o2 := Out.lay (o := .tup [.int (i / j), .int (i % j)]) o1.rel hp
          refine q _ _ _ (o1.trans o2) (Hold.val ?_)
          unfold Rep
          exact ⟨pp, _, rfl, SqT.of upd_same, .cons rep_int (.cons rep_int .nil)⟩
    · exact q.elim
  · exact q.elim
end
end BR
set_option Elab.async false
set_option linter.all false
set_option maxRecDepth 100000
set_option maxHeartbeats 4000000
namespace BR
open PySem L2

/-! ## owned objects changed -/
@[simp] def updSl (ρ : S) (i : Nat) (d : D) : Option S := match ρ[i]? with
  | some (some (.own _)) => some (ρ.set i (some (.own d)))
  | some (some (.io _)) => some (ρ.set i (some (.io d)))
  | _ => none
@[simp] def lookMu (ρ : S) (i : Nat) : Option D := match ρ[i]? with
  | some (some (.own d)) => some d
  | some (some (.io d)) => some d
  | _ => none
section
variable {K : PySem.W.Frag} {Gs Hs G H : Hp} {σ : St} {ρs ρ ρ' : S} {i : Nat} {a : Addr} {d : D} {u : HO}
theorem lookMu_ok (r : Rel K G H σ ρ) (e : lookMu ρ i = some d) : isMut ρ i ∧ ∃ a, σ[i]? = some (some (.ref a)) ∧ OwnAt K G H a d := by
  unfold lookMu at e
  split at e
  · rename_i d0 q
    cases e
    exact ⟨⟨_, .inl q⟩, r.sl i _ q⟩
  · rename_i d0 q
    cases e
    exact ⟨⟨_, .inr q⟩, r.sl i _ q⟩
  · cases e
theorem mut_ok (o : Out K Gs Hs σ ρs G H ρ) (hi : σ[i]? = some (some (.ref a))) (hm : isMut ρ i) (hc : Cont K G d u) (e : updSl ρ i d = some ρ') : Out K Gs Hs σ ρs G (upd H a u) ρ' := by
  have nst : ∀ o', H a = some o' → ¬ Stat o' := fun o' e' => by
    obtain ⟨d', m⟩ := hm
    rcases m with m | m
    · obtain ⟨b, e1, _, o'', h2, h3⟩ := o.rel.sl i _ m
      rw [hi] at e1; cases e1
      rw [e'] at h2; cases h2
      exact cont_stat h3
    · obtain ⟨b, e1, _, o'', h2, h3⟩ := o.rel.sl i _ m
      rw [hi] at e1; cases e1
      rw [e'] at h2; cases h2
      exact cont_stat h3
  have adsA : ads H σ ρ a := .inl ⟨i, hm, hi⟩
  have hA : ∀ b, dpa H σ ρ b → ¬ b = a := fun b hb z => o.rel.dp.ds b i hb hm (by rw [z]; exact hi)
  have hga := (o.rel.adsH adsA)
  have st : Stp (fun b => b = a) G H G (upd H a u) := ⟨Same.refl _, fun b w e n => by rw [upd_ne n]; exact e, fun b e => by
    by_cases hb : b = a
    · subst hb; rw [upd_same] at e; cases e
    · rw [upd_ne hb] at e; exact e, fun _ _ _ h => h, tabs_upd nst⟩
  have sb : Sub G (upd H a u) := fun b w e => by
    have hb : b ≠ a := fun z => by rw [z, hga.2] at e; cases e
    rw [upd_ne hb]; exact o.rel.sub b w e
  have ow : OwnAt K G (upd H a u) a d := ⟨hga.2, u, upd_same, hc⟩
  have go : ∀ s0 : D → Sl, ((∀ d, s0 d = .own d) ∨ ∀ d, s0 d = .io d) → (∃ d0, ρ[i]? = some (some (s0 d0))) → ρ' = ρ.set i (some (s0 d)) → Out K Gs Hs σ ρs G (upd H a u) ρ' := by
    intro s0 hs0 ⟨d0, h0⟩ er
    have hil : i < ρ.length := (List.getElem?_eq_some_iff.mp h0).1
    subst er
    have rl := o.rel.after (ρ' := ρ.set i (some (s0 d))) st sb (List.length_set ..) hA fun j s e => by
      by_cases hj : i = j
      · subst hj
        rw [List.getElem?_set_self hil] at e; cases e
        refine .inr ⟨hm, d, ?_, a, hi, ow⟩
        rcases hs0 with z | z <;> rw [z]
        · exact .inl rfl
        · exact .inr rfl
      · rw [List.getElem?_set_ne hj] at e
        refine .inl ⟨e, fun m b eb z => hj ?_⟩
        subst z
        exact o.rel.dis i j b hm m hi eb
    have kr : Ker ρ (ρ.set i (some (s0 d))) := by
     refine ⟨fun j m => ?_, fun j m => ?_, fun j t m => ?_⟩
     rotate_right
     · by_cases hj : i = j
       · subst hj
         rw [List.getElem?_set_self hil] at m
         rcases hs0 with z | z <;> rw [z] at m <;> cases m
       · rw [List.getElem?_set_ne hj] at m; exact m
     · by_cases hj : i = j
       · subst hj; exact hm
       · obtain ⟨d, m⟩ := m
         rw [List.getElem?_set_ne hj] at m
         exact ⟨d, m⟩
     · by_cases hj : i = j
       · subst hj
         obtain ⟨d', m⟩ := m
         rcases hs0 with z | z
         · rw [z, m] at h0; cases h0
         · exact ⟨d, by rw [List.getElem?_set_self hil, z]⟩
       · obtain ⟨d, m⟩ := m
         exact ⟨d, by rw [List.getElem?_set_ne hj]; exact m⟩
    exact ⟨rl, o.stp.trans st fun c e z => by subst z; exact o.nw c adsA e, o.ker.trans kr, fun b h z => o.nw b (o.rel.afterN st hA kr.lse b h) z, fun b h => (upd_ne fun z => o.rel0.dp.ds b i h (o.ker.mu i hm) (by rw [z]; exact hi)).trans (o.tre b h), o.rel0⟩
  unfold updSl at e
  split at e
  · rename_i d0 q; cases e; exact go .own (.inl fun _ => rfl) ⟨d0, q⟩ rfl
  · rename_i d0 q; cases e; exact go .io (.inr fun _ => rfl) ⟨d0, q⟩ rfl
  · cases e
end

@[simp] def lookL (ρ : S) (i : Nat) : Option (List D) := match lookMu ρ i with
  | some (.lst ds) => some ds
  | _ => none
@[simp] def lookDic (ρ : S) (i : Nat) : Option (List Key × List D) := match lookMu ρ i with
  | some (.dic ks ds) => some (ks, ds)
  | _ => none
def lookIns (ρ : S) (i : Nat) : Option (Addr × List Str × List D) := match lookMu ρ i with
  | some (.ins C ns ds) => some (C, ns, ds)
  | _ => none
@[simp] def asL : D → Option (List D)
  | .lst ds => some ds
  | _ => none
@[simp] def asInt : Hd → Option Int
  | .val (.int i) => some i
  | _ => none
theorem asL_eq {d : D} {ds : List D} (h : asL d = some ds) : d = .lst ds := by cases d <;> cases h; rfl
theorem asInt_eq {h : Hd} {i : Int} (e : asInt h = some i) : h = .val (.int i) := by
  cases h with
  | val d => cases d <;> cases e; rfl
  | _ => cases e
section
variable {K : PySem.W.Frag} {G H : Hp} {σ : St} {ρ : S} {i : Nat}
theorem lookL_ok {ds : List D} (r : Rel K G H σ ρ) (e : lookL ρ i = some ds) : isMut ρ i ∧ ∃ a vs, σ[i]? = some (some (.ref a)) ∧ G a = none ∧ H a = some (.lst vs) ∧ RepL K G ds vs := by
  unfold lookL at e
  split at e
  · rename_i d q
    cases e
    obtain ⟨m, a, ea, hg, u, hu, vs, rfl, hc⟩ := lookMu_ok r q
    exact ⟨m, a, vs, ea, hg, hu, hc⟩
  · cases e
theorem lookDic_ok {ks : List Key} {ds : List D} (r : Rel K G H σ ρ) (e : lookDic ρ i = some (ks, ds)) : isMut ρ i ∧ ∃ a kvs, σ[i]? = some (some (.ref a)) ∧ G a = none ∧ H a = some (.dK kvs) ∧ kvs.map (·.1) = ks ∧ RepL K G ds (kvs.map (·.2)) := by
  unfold lookDic at e
  split at e
  · rename_i k d q
    cases e
    obtain ⟨m, a, ea, hg, u, hu, kvs, rfl, hc, hc2⟩ := lookMu_ok r q
    exact ⟨m, a, kvs, ea, hg, hu, hc, hc2⟩
  · cases e
theorem lookIns_ok {C : Addr} {ns : List Str} {ds : List D} (r : Rel K G H σ ρ) (e : lookIns ρ i = some (C, ns, ds)) : isMut ρ i ∧ ∃ a dx fs, σ[i]? = some (some (.ref a)) ∧ G a = none ∧ H a = some (.ins C dx fs) ∧ fs.map (·.1) = ns ∧ RepL K G ds (fs.map (·.2)) := by
  unfold lookIns at e
  split at e
  · rename_i c k d q
    cases e
    obtain ⟨m, a, ea, hg, u, hu, dx, fs, rfl, hc, hc2⟩ := lookMu_ok r q
    exact ⟨m, a, dx, fs, ea, hg, hu, hc, hc2⟩
  · cases e
end
@[simp] def guard (b : Bool) : Option Unit := if b = true then some () else none
theorem guard_eq {b : Bool} {u : Unit} (h : guard b = some u) : b = true := by
  unfold guard at h
  split at h
  · assumption
  · cases h
theorem guard_true : guard true = some () := rfl
theorem cont_l {K : PySem.W.Frag} {G : Hp} {ds : List D} {vs : List V} (h : RepL K G ds vs) : Cont K G (.lst ds) (.lst vs) := ⟨vs, rfl, h⟩
theorem cont_d {K : PySem.W.Frag} {G : Hp} {ks : List Key} {ds : List D} {kvs : List (Key × V)} (h1 : kvs.map (·.1) = ks) (h : RepL K G ds (kvs.map (·.2))) : Cont K G (.dic ks ds) (.dK kvs) := ⟨kvs, rfl, h1, h⟩
theorem cont_i {K : PySem.W.Frag} {G : Hp} {C dx : Addr} {ns : List Str} {ds : List D} {fs : List (Str × V)} (h1 : fs.map (·.1) = ns) (h : RepL K G ds (fs.map (·.2))) : Cont K G (.ins C ns ds) (.ins C dx fs) := ⟨dx, fs, rfl, h1, h⟩
section
variable {X : Cx} {E : WX} {e o : Expr} {f fo : EF} {pos pos' apos cpos : Pos} {x : Str} {i : Nat}
/-- x.append(e) -/
@[simp] def eAppend (i : Nat) (f : EF) : EF := fun ρ => ofO (lookL ρ i) >>= fun _ => eV f ρ >>= fun z => ofO (lookL z.2 i) >>= fun ds => ofO (guard (decide (ds.length < sizeLine))) >>= fun _ => ofO (updSl z.2 i (.lst (ds ++ [z.1]))) >>= fun ρ2 => .ok (.val .non, ρ2)
theorem pr_append (hN : X.N[i]? = some x) (hv : Vis X.env.scope x) (h : PR X E e f) (hd : (x == ("__debug__" : Str)) = false := by decide) (hcd : (x == ("__classdict__" : Str)) = false := by decide)
    (hfew : ((backTo cpos (starEach (e :: []) X.env)).all (fun x => !x.1) && (backToKw cpos (keywordEach [] X.env)).all (fun x => x.1.isSome)
      && decide ((e :: []).length + ([] : List Keyword).length + (if ([] : List Keyword).isEmpty then 0 else 1) < 30)) = true := by rfl)
    (hbase : attributeBase (.Name x pos') "append" X.env (eval (.Name x pos') X.env) = eval (.Name x pos') X.env := by rfl) (hline : (apos.endLine == cpos.line) = true := by rfl) (hs : starEach (e :: []) X.env = (false, eval e X.env) :: starEach [] X.env := by rfl) :
    PR X E (.Call (.Attribute (.Name x pos') "append" apos) [e] [] cpos) (eAppend i f) := by
  obtain ⟨t, pe, s⟩ := h.v.ex
  refine ⟨_, pe_bm PySem.F.plainAttrs_list PySem.F.slot_list_append PySem.F.type_list_append mt_append (pe_var (i := i) hN hv hd hcd) (pa_cons pe pa_nil hs) hbase hfew hline hs rfl, fun G H σ ρ r Q hw => ?_⟩
  obtain ⟨ds0, q0, hw⟩ := hw.opt
  obtain ⟨_, a, vs0, ea, hg0, hu0, hc0⟩ := lookL_ok r q0
  refine ⟨.ref a, ea, .inl ⟨rfl, vs0, SqL.of hu0⟩, s G H σ ρ r _ (hw.bind.mono (fun z _ q v G1 H1 o1 rv => ?_) fun _ _ q => q)⟩
  obtain ⟨ds, q1, q⟩ := q.opt
  obtain ⟨_, q2, q⟩ := q.opt
  obtain ⟨ρ2, e2, q⟩ := q.opt
  obtain ⟨hm, a', vs1, ea', hg1, hu1, hc1⟩ := lookL_ok o1.rel q1
  rw [ea] at ea'; cases ea'
  refine ⟨a, vs1, v, rfl, rfl, hu1, by rw [← hc1.length]; exact of_decide_eq_true (guard_eq q2), ?_⟩
  exact q .non G1 _ (mut_ok o1 ea hm (cont_l (hc1.append (.cons rv .nil))) e2) (Hold.val rep_non)
/-- x.extend(e), e a list -/
@[simp] def eExtend (i : Nat) (f : EF) : EF := fun ρ => ofO (lookL ρ i) >>= fun _ => eV f ρ >>= fun z => ofO (lookL z.2 i) >>= fun ds => ofO (asL z.1) >>= fun es => ofO (guard (decide (ds.length + es.length ≤ sizeLine))) >>= fun _ => ofO (updSl z.2 i (.lst (ds ++ es))) >>= fun ρ2 => .ok (.val .non, ρ2)
theorem pr_extend (hN : X.N[i]? = some x) (hv : Vis X.env.scope x) (h : PR X E e f) (hd : (x == ("__debug__" : Str)) = false := by decide) (hcd : (x == ("__classdict__" : Str)) = false := by decide)
    (hfew : ((backTo cpos (starEach (e :: []) X.env)).all (fun x => !x.1) && (backToKw cpos (keywordEach [] X.env)).all (fun x => x.1.isSome)
      && decide ((e :: []).length + ([] : List Keyword).length + (if ([] : List Keyword).isEmpty then 0 else 1) < 30)) = true := by rfl)
    (hbase : attributeBase (.Name x pos') "extend" X.env (eval (.Name x pos') X.env) = eval (.Name x pos') X.env := by rfl) (hline : (apos.endLine == cpos.line) = true := by rfl) (hs : starEach (e :: []) X.env = (false, eval e X.env) :: starEach [] X.env := by rfl) :
    PR X E (.Call (.Attribute (.Name x pos') "extend" apos) [e] [] cpos) (eExtend i f) := by
  obtain ⟨t, pe, s⟩ := h.v.ex
  refine ⟨_, pe_bm PySem.F.plainAttrs_list PySem.F.slot_list_extend PySem.F.type_list_extend mt_extend (pe_var (i := i) hN hv hd hcd) (pa_cons pe pa_nil hs) hbase hfew hline hs rfl, fun G H σ ρ r Q hw => ?_⟩
  obtain ⟨ds0, q0, hw⟩ := hw.opt
  obtain ⟨_, a, vs0, ea, hg0, hu0, hc0⟩ := lookL_ok r q0
  refine ⟨.ref a, ea, .inl ⟨rfl, vs0, SqL.of hu0⟩, s G H σ ρ r _ (hw.bind.mono (fun z _ q v G1 H1 o1 rv => ?_) fun _ _ q => q)⟩
  obtain ⟨ds, q1, q⟩ := q.opt
  obtain ⟨es, q3, q⟩ := q.opt
  obtain ⟨_, q2, q⟩ := q.opt
  obtain ⟨ρ2, e2, q⟩ := q.opt
  obtain ⟨hm, a', vs1, ea', hg1, hu1, hc1⟩ := lookL_ok o1.rel q1
  rw [ea] at ea'; cases ea'
  rw [asL_eq q3] at rv
  unfold Rep at rv
  obtain ⟨b, ws, rfl, hb, hws⟩ := rv
  refine ⟨a, b, vs1, ws, rfl, rfl, hu1, o1.rel.sub.ls hb, by rw [← hc1.length, ← hws.length]; exact of_decide_eq_true (guard_eq q2), ?_⟩
  exact q .non G1 _ (mut_ok o1 ea hm (cont_l (hc1.append hws)) e2) (Hold.val rep_non)
/-- x[k] = e, x an owned list -/
@[simp] def sSetL (i : Nat) (fk f : EF) : SF := fun ρ => eV f ρ >>= fun z => ofO (lookL z.2 i) >>= fun _ => fk z.2 >>= fun y => ofO (asInt y.1) >>= fun k => ofO (lookL y.2 i) >>= fun ds => ofO (ixN ds.length k) >>= fun j => ofO (updSl y.2 i (.lst (ds.set j z.1))) >>= fun ρ2 => .ok (.nx, ρ2)
theorem st_setL {k : Expr} {fk : EF} {spos : Pos} (hN : X.N[i]? = some x) (hv : Vis X.env.scope x) (h : PR X E e f) (hk : PR X E k fk) (hd : (x == ("__debug__" : Str)) = false := by decide) (hcd : (x == ("__classdict__" : Str)) = false := by decide)
    (hs : swapsWithSole [.Subscript (.Name x pos') k spos] e pos.line X.env = pure false := by rfl) (hw : swappedStores [.Subscript (.Name x pos') k spos] e X.env = pure none := by rfl)
    (h1 : (assignEach [.Subscript (.Name x pos') k spos] X.env).map (·.2) = [assign (.Subscript (.Name x pos') k spos) X.env] := by rfl)
    (ha : ∀ v, assign (.Subscript (.Name x pos') k spos) X.env v = (do
      let ov ← holding [v] (eval (.Name x pos') X.env)
      let iv ← holding [v, ov] (eval k X.env)
      standAt spos
      holding [v, ov, iv] (setItem ov iv v)
      release [v, ov, iv] []) := by intro _; rfl) :
    PSt X E (.Assign [.Subscript (.Name x pos') k spos] e pos) (sSetL i fk f) := by
  obtain ⟨t, pe, s⟩ := h.v.ex
  obtain ⟨tk, pk, sk⟩ := hk.ex
  refine ⟨_, ps_asg pe (pg_sub (pe_var (i := i) hN hv hd hcd) pk set_list ha) hs hw h1, fun G H σ ρ r Dn hw => s G H σ ρ r _ (hw.bind.mono (fun z _ q v G1 H1 o1 rv => ?_) fun _ _ q => q)⟩
  obtain ⟨ds0, q0, q⟩ := q.opt
  obtain ⟨_, a, vs0, ea, hg0, hu0, hc0⟩ := lookL_ok o1.rel q0
  refine ⟨.ref a, ea, sk G1 H1 σ z.2 o1.rel _ (q.bind.mono (fun y _ q2 vk G2 H2 o2 hk2 => ?_) fun _ _ q2 => q2.step o1)⟩
  obtain ⟨kk, e1, q2⟩ := q2.opt
  obtain ⟨ds, e2, q2⟩ := q2.opt
  obtain ⟨j, e3, q2⟩ := q2.opt
  obtain ⟨ρ2, e4, q2⟩ := q2.opt
  rw [asInt_eq e1] at hk2
  have hk3 : Rep X.K G2 (.int kk) vk := hk2
  unfold Rep at hk3
  obtain ⟨hm, a', vs1, ea', hg1, hu1, hc1⟩ := lookL_ok o2.rel e2
  rw [ea] at ea'; cases ea'
  refine ⟨a, vs1, kk, j, rfl, hk3, hu1, by rw [← hc1.length]; exact e3, ?_⟩
  exact q2 σ G2 _ (mut_ok (o1.trans o2) ea hm (cont_l (hc1.set j (Rep.mono o2.stp.gg _ rv))) e4).s
/-- x[0], y = e: the first item of an owned list, and a name -/
@[simp] def sDraw (i j : Nat) (f : EF) : SF := fun ρ => eV f ρ >>= fun z => match z.1 with
  | .tup [a, b] => ofO (lookL z.2 i) >>= fun ds => ofO (guard (decide (0 < ds.length))) >>= fun _ => ofO (updSl z.2 i (.lst (ds.set 0 a))) >>= fun ρ2 => ofO (setS j (.sh b) ρ2) >>= fun ρ3 => .ok (.nx, ρ3)
  | _ => .no
theorem st_draw {j : Nat} {y : Str} {kt k0 : Nat} {spos p0 py tpos : Pos} (hN : X.N[i]? = some x) (hv : Vis X.env.scope x) (hN2 : X.N.Nodup) (hj : X.N[j]? = some y) (hy : Loc X.env.scope y) (hc : X.calm = true) (h : PR X E e f) (hd : (x == ("__debug__" : Str)) = false := by decide) (hcd : (x == ("__classdict__" : Str)) = false := by decide)
    (hf : X.fn y = true ∨ X.env.scope.names.lookup y = some .local := by first | exact .inl rfl | exact .inr rfl | assumption)
    (hs : swapsWithSole [.Tuple [.Subscript (.Name x pos') (.Constant (.int 0) k0 p0) spos, .Name y py] kt tpos] e pos.line X.env = pure false := by rfl) (hw : swappedStores [.Tuple [.Subscript (.Name x pos') (.Constant (.int 0) k0 p0) spos, .Name y py] kt tpos] e X.env = pure none := by rfl)
    (h1 : (assignEach [.Tuple [.Subscript (.Name x pos') (.Constant (.int 0) k0 p0) spos, .Name y py] kt tpos] X.env).map (·.2) = [assign (.Tuple [.Subscript (.Name x pos') (.Constant (.int 0) k0 p0) spos, .Name y py] kt tpos) X.env] := by rfl)
    (ha : ∀ v, assign (.Subscript (.Name x pos') (.Constant (.int 0) k0 p0) spos) X.env v = (do
      let ov ← holding [v] (eval (.Name x pos') X.env)
      let iv ← holding [v, ov] (eval (.Constant (.int 0) k0 p0) X.env)
      standAt spos
      holding [v, ov, iv] (setItem ov iv v)
      release [v, ov, iv] []) := by intro _; rfl)
    (hn : (assignEach [.Subscript (.Name x pos') (.Constant (.int 0) k0 p0) spos, .Name y py] X.env).length = 2 := by rfl) (hst : (assignEach [.Subscript (.Name x pos') (.Constant (.int 0) k0 p0) spos, .Name y py] X.env).findIdx? (·.1) = none := by rfl)
    (hs1 : (assignEach [.Subscript (.Name x pos') (.Constant (.int 0) k0 p0) spos, .Name y py] X.env).map (·.2) = assign (.Subscript (.Name x pos') (.Constant (.int 0) k0 p0) spos) X.env :: (assignEach [.Name y py] X.env).map (·.2) := by rfl)
    (hs2 : (assignEach [.Name y py] X.env).map (·.2) = assign (.Name y py) X.env :: (assignEach [] X.env).map (·.2) := by rfl) :
    PSt X E (.Assign [.Tuple [.Subscript (.Name x pos') (.Constant (.int 0) k0 p0) spos, .Name y py] kt tpos] e pos) (sDraw i j f) := by
  obtain ⟨t, pe, s⟩ := h.v.ex
  refine ⟨_, ps_asg pe (pg_tup hc (pgs_cons (pg_sub (pe_var (i := i) hN hv hd hcd) pe_int set_list ha) (pgs_cons (pg_name (i := j) hN2 hj hy hf) pgs_nil hs2) hs1) hn hst) hs hw h1, fun G H σ ρ r Dn hw => s G H σ ρ r _ (hw.bind.mono (fun z _ q v G1 H1 o1 rv => ?_) fun _ _ q => q)⟩
  obtain ⟨d, ρ1⟩ := z
  split at q
  rotate_left
  · exact q.elim
  rename_i aa bb ed
  have ed' : d = .tup [aa, bb] := ed
  subst ed'
  obtain ⟨ds, e2, q⟩ := q.opt
  obtain ⟨_, e3, q⟩ := q.opt
  obtain ⟨ρ2, e4, q⟩ := q.opt
  obtain ⟨ρ3, e5, q⟩ := q.opt
  have rv' : Rep X.K G1 (.tup [aa, bb]) v := rv
  unfold Rep at rv'
  obtain ⟨tp, us, rfl, ht, hus⟩ := rv'
  obtain ⟨u1, us1, rfl, r1, hus⟩ := repL_cons.mp hus
  obtain ⟨u2, us2, rfl, r2, hus⟩ := repL_cons.mp hus
  have en := repL_nil.mp hus
  subst en
  obtain ⟨hm, a, vs1, ea, hg1, hu1, hc1⟩ := lookL_ok o1.rel e2
  have hpos : 0 < vs1.length := by rw [← hc1.length]; exact of_decide_eq_true (guard_eq e3)
  refine ⟨tp, [u1, u2], rfl, o1.rel.sub.t ht, rfl, u1, [u2], rfl, .ref a, ea, a, vs1, 0, 0, rfl, rfl, hu1, ?_, u2, [], rfl, rfl, ?_⟩
  · unfold ixN
    simp [hpos]
  · have o2 := mut_ok o1 ea hm (cont_l (hc1.set 0 r1)) e4
    exact q _ G1 _ (set_sh o2.s r2 e5)
end
end BR
set_option Elab.async false
set_option linter.all false
set_option maxRecDepth 100000
set_option maxHeartbeats 4000000
namespace BR
open PySem L2

/-! ## dicts -/
def replD : List Key → List D → Key → D → List D
  | k' :: ks, x :: ds, k, d => (if k' = k then d else x) :: replD ks ds k d
  | [], ds, _, _ => ds
  | _ :: _, [], _, _ => []
def putDk (ks : List Key) (k : Key) : List Key := if hasK ks k = true then ks else ks ++ [k]
def putDx (ks : List Key) (ds : List D) (k : Key) (d : D) : List D := if hasK ks k = true then replD ks ds k d else ds ++ [d]
section
variable {K : PySem.W.Frag} {G : Hp}
theorem replD_rep {k : Key} {d : D} {v : V} (hv : Rep K G d v) : ∀ {kvs : List (Key × V)} {ds : List D}, RepL K G ds (kvs.map (·.2)) → RepL K G (replD (kvs.map (·.1)) ds k d) ((kvs.map (fun kv => if kv.1 = k then (kv.1, v) else kv)).map (·.2))
  | [], ds, h => by
    have := RepL.length h
    cases ds with
    | nil => exact h
    | cons => cases this
  | p :: kvs, ds, h => by
    cases ds with
    | nil => have := RepL.length h; cases this
    | cons x ds =>
      obtain ⟨v1, vs1, e1, h1, h2⟩ := repL_cons.mp h
      have e2 : p.2 = v1 ∧ kvs.map (·.2) = vs1 := by simpa using e1
      obtain ⟨rfl, rfl⟩ := e2
      show RepL K G ((if p.1 = k then d else x) :: replD (kvs.map (·.1)) ds k d) ((if p.1 = k then (p.1, v) else p).2 :: _)
      refine .cons ?_ (replD_rep hv h2)
      by_cases e : p.1 = k
      · rw [if_pos e, if_pos e]; exact hv
      · rw [if_neg e, if_neg e]; exact h1
theorem putD_rep {k : Key} {d : D} {v : V} {kvs : List (Key × V)} {ds : List D} (h : RepL K G ds (kvs.map (·.2))) (hv : Rep K G d v) : (putK kvs k v).map (·.1) = putDk (kvs.map (·.1)) k ∧ RepL K G (putDx (kvs.map (·.1)) ds k d) ((putK kvs k v).map (·.2)) := by
  have hh : hasK (kvs.map (·.1)) k = (kvs.any fun kv => decide (kv.1 = k)) := by simp [hasK, List.any_map, Function.comp_def]
  unfold putK putDk putDx
  rw [hh]
  by_cases e : (kvs.any fun kv => decide (kv.1 = k)) = true
  · rw [if_pos e, if_pos e, if_pos e]
    refine ⟨?_, replD_rep hv h⟩
    rw [List.map_map]
    apply List.map_congr_left
    intro p _
    show (if p.1 = k then (p.1, v) else p).1 = p.1
    split <;> rfl
  · rw [if_neg e, if_neg e, if_neg e]
    refine ⟨by simp, ?_⟩
    rw [List.map_append]
    exact h.append (.cons hv .nil)
end
section
variable {X : Cx} {E : WX} {e o k : Expr} {f fo fk : EF} {pos pos' spos apos cpos : Pos} {x : Str} {i : Nat}
@[simp] def asKey (h : Hd) : Option Key := match h with
  | .val d => keyD d
  | _ => none
theorem asKey_v {K : PySem.W.Frag} {Hs G H : Hp} {σ : St} {ρ : S} {h : Hd} {v : V} {kk : Key} (hh : Hold K Hs G H σ ρ h v) (e : asKey h = some kk) : v = kV kk := by
  cases h with
  | val d => exact keyD_v (H := H) (.inl hh) e
  | _ => cases e
/-- x[k] = e, x an owned dict -/
@[simp] def sPutD (i : Nat) (fk f : EF) : SF := fun ρ => eV f ρ >>= fun z => ofO (lookDic z.2 i) >>= fun _ => fk z.2 >>= fun y => ofO (asKey y.1) >>= fun k => ofO (lookDic y.2 i) >>= fun c => ofO (guard (decide (c.1.length < sizeLine))) >>= fun _ => ofO (updSl y.2 i (.dic (putDk c.1 k) (putDx c.1 c.2 k z.1))) >>= fun ρ2 => .ok (.nx, ρ2)
theorem st_putD (hu : X.A.units + 1 < cLine) (hN : X.N[i]? = some x) (hv : Vis X.env.scope x) (h : PR X E e f) (hk : PR X E k fk) (hd : (x == ("__debug__" : Str)) = false := by decide) (hcd : (x == ("__classdict__" : Str)) = false := by decide)
    (hs : swapsWithSole [.Subscript (.Name x pos') k spos] e pos.line X.env = pure false := by rfl) (hw : swappedStores [.Subscript (.Name x pos') k spos] e X.env = pure none := by rfl)
    (h1 : (assignEach [.Subscript (.Name x pos') k spos] X.env).map (·.2) = [assign (.Subscript (.Name x pos') k spos) X.env] := by rfl)
    (ha : ∀ v, assign (.Subscript (.Name x pos') k spos) X.env v = (do
      let ov ← holding [v] (eval (.Name x pos') X.env)
      let iv ← holding [v, ov] (eval k X.env)
      standAt spos
      holding [v, ov, iv] (setItem ov iv v)
      release [v, ov, iv] []) := by intro _; rfl) :
    PSt X E (.Assign [.Subscript (.Name x pos') k spos] e pos) (sPutD i fk f) := by
  obtain ⟨t, pe, s⟩ := h.v.ex
  obtain ⟨tk, pk, sk⟩ := hk.ex
  refine ⟨_, ps_asg pe (pg_sub (pe_var (i := i) hN hv hd hcd) pk (set_dict hu) ha) hs hw h1, fun G H σ ρ r Dn hw => s G H σ ρ r _ (hw.bind.mono (fun z _ q v G1 H1 o1 rv => ?_) fun _ _ q => q)⟩
  obtain ⟨⟨ks0, ds0⟩, q0, q⟩ := q.opt
  obtain ⟨_, a, vs0, ea, hg0, hu0, _⟩ := lookDic_ok o1.rel q0
  refine ⟨.ref a, ea, sk G1 H1 σ z.2 o1.rel _ (q.bind.mono (fun y _ q2 vk G2 H2 o2 hk2 => ?_) fun _ _ q2 => q2.step o1)⟩
  obtain ⟨kk, e1, q3⟩ := q2.opt
  obtain ⟨⟨ks, ds⟩, e2, q4⟩ := q3.opt
  obtain ⟨_, e3, q5⟩ := q4.opt
  obtain ⟨ρ2, e4, q6⟩ := q5.opt
  have hk3 := asKey_v hk2 e1
  obtain ⟨hm, a', kvs, ea', hg1, hu1, hks, hc1⟩ := lookDic_ok o2.rel e2
  rw [ea] at ea'; cases ea'
  subst hks
  obtain ⟨p1, p2⟩ := putD_rep (k := kk) hc1 (Rep.mono o2.stp.gg _ rv)
  refine ⟨a, _, rfl, .inl ⟨kvs, kk, hu1, hk3, by have := of_decide_eq_true (guard_eq e3); rw [List.length_map] at this; exact this, rfl⟩, ?_⟩
  exact q6 σ G2 _ (mut_ok (o1.trans o2) ea hm (cont_d p1 p2) e4).s
/-- {} -/
@[simp] def eDic0 : EF := fun ρ => .ok (.tmp (.dic [] []), ρ)
theorem pr_dic0 : PR X E (.Dict [] [] pos) eDic0 := by
  refine ⟨_, pe_dnewK, fun G H σ ρ r Q hw p hp => ?_⟩
  exact hw _ G _ (.new r hp) ⟨p, rfl, ⟨r.sub.none hp, _, upd_same, [], rfl, rfl, .nil⟩, hp, fun z => (r.adsH (r.ads_new hp z)).1 hp⟩
/-- {k: e}, k and e immediate -/
@[simp] def eDic1 (kc vc : D) : EF := fun ρ => ofO (keyD kc) >>= fun k => .ok (.tmp (.dic [k] [vc]), ρ)
theorem pr_dic1 {kc vc : D} {wk wv : V} (hk : PE X k (tC wk)) (he : PE X e (tC wv)) (rk : ∀ G, Rep X.K G kc wk) (re : ∀ G, Rep X.K G vc wv) : PR X E (.Dict [some k] [e] pos) (eDic1 kc vc) := by
  refine ⟨_, pe_disp (pps_cons hk he pps_nil) rfl rfl (by simp) (by simp), fun G H σ ρ r Q hw p hp => ?_⟩
  obtain ⟨kk, ek, hw⟩ := hw.opt
  have hkv : wk = kV kk := keyD_v (H := H) (.inl (rk G)) ek
  refine ⟨upd_same, [(kk, wv)], by rw [hkv]; rfl, by simp, ?_⟩
  have : upd (upd H p (.dK [])) p (.dK (mergeK [] [(kk, wv)])) = upd H p (.dK [(kk, wv)]) := by
    funext b
    unfold upd
    by_cases hb : b = p
    · simp [hb]; rfl
    · simp [hb]
  rw [this]
  exact hw _ G _ (.new r hp) ⟨p, rfl, ⟨r.sub.none hp, _, upd_same, [(kk, wv)], rfl, rfl, .cons (re G) .nil⟩, hp, fun z => (r.adsH (r.ads_new hp z)).1 hp⟩
/-- o.get(k, e) -/
@[simp] def asDic : D → Option (List Key × List D)
  | .dic ks ds => some (ks, ds)
  | _ => none
theorem asDic_eq {d : D} {c : List Key × List D} (h : asDic d = some c) : d = .dic c.1 c.2 := by cases d <;> cases h; rfl
@[simp] def eDGet2 (fo fk f : EF) : EF := fun ρ => fo ρ >>= fun z => ofO (look z.1 z.2) >>= fun d0 => ofO (asDic d0) >>= fun _ => fk z.2 >>= fun y => eV f y.2 >>= fun u => ofO (look z.1 u.2) >>= fun d => ofO (asDic d) >>= fun c => ofO (asKey y.1) >>= fun k => .ok (.val ((getK c.1 c.2 k).getD u.1), u.2)
theorem pr_dget2 (hu : X.A.units + 1 < cLine) (ho : PR X E o fo) (hk : PR X E k fk) (h : PR X E e f) (m : M2 X o "get" apos k e cpos) : PR X E (.Call (.Attribute o "get" apos) [k, e] [] cpos) (eDGet2 fo fk f) := by
  obtain ⟨to, po, so⟩ := ho.ex
  obtain ⟨tk, pk, sk⟩ := hk.ex
  obtain ⟨t, pe, s⟩ := h.v.ex
  refine ⟨_, pe_dget2 hu po pk pe m, fun G H σ ρ r Q hw => so G H σ ρ r _ (hw.bind.mono (fun z _ q v G1 H1 o1 h1 => ?_) fun _ _ q => q)⟩
  obtain ⟨d0, ed0, q⟩ := q.opt
  obtain ⟨c0, ec0, q⟩ := q.opt
  have r0 := hold_look o1.rel h1 ed0
  rw [asDic_eq ec0] at r0
  obtain ⟨a, kvs0, rfl, rd0, _⟩ := r0.dic o1.rel.sub
  refine ⟨a, rfl, .inl ⟨kvs0, rd0⟩, sk G1 H1 σ z.2 o1.rel _ (q.bind.mono (fun y _ q2 vk G2 H2 o2 h2 => ?_) fun _ _ q2 => q2.step o1)⟩
  refine s G2 H2 σ y.2 o2.rel _ (q2.bind.mono (fun u _ q3 w G3 H3 o3 h3 => ?_) fun _ _ q3 => q3.step (o1.trans o2))
  obtain ⟨d, ed, q3⟩ := q3.opt
  obtain ⟨c, ec, q3⟩ := q3.opt
  obtain ⟨kk, ekk, q3⟩ := q3.opt
  have r3 := hold_look o3.rel (h1.pers (o2.trans o3)) ed
  rw [asDic_eq ec] at r3
  obtain ⟨a', kvs, ea, rd, hks, hds⟩ := r3.dic o3.rel.sub
  cases ea
  have hkv := asKey_v h2 ekk
  refine ⟨valV kvs kk, .inl ⟨kvs, kk, rd, hkv, rfl⟩, q3 _ G3 H3 ((o1.trans o2).trans o3) ?_⟩
  rw [← hks]
  cases eg : getK (kvs.map (·.1)) c.2 kk with
  | some d1 =>
    obtain ⟨v1, ev1, rv1⟩ := getK_rep hds eg
    rw [ev1]
    exact rv1
  | none =>
    rw [getK_none (by rw [hds.length, List.length_map]) eg]
    exact h3
end
end BR
set_option Elab.async false
set_option linter.all false
set_option maxRecDepth 100000
set_option maxHeartbeats 4000000
namespace BR
open PySem L2

/-! ## a, b = x, y -/
@[simp] def normH : Hd → S → Option (Hd × S)
  | .val d, ρ => some (.val d, ρ)
  | .tmp d, ρ => some (.tmp d, ρ)
  | .tpd t, ρ => some (.val t.d, ρ)
  | .sub _ _, _ => none
  | .slot i, ρ => (share (.slot i) ρ).map fun z => (.val z.1, z.2)
def notSlot : Hd → Prop
  | .slot _ => False
  | .tpd _ => False
  | .sub _ _ => False
  | _ => True
def tmpV : Hd → V → List V
  | .tmp _, v => [v]
  | _, _ => []
inductive HoldT (K : PySem.W.Frag) (Hs G H : Hp) (σ : St) (ρ : S) : List Hd → List V → List V → Prop where
  | nil : HoldT K Hs G H σ ρ [] [] []
  | cons {h : Hd} {hs : List Hd} {v : V} {vs ts : List V} : notSlot h → Hold K Hs G H σ ρ h v → HoldT K Hs G H σ ρ hs vs ts → (∀ d, h = .tmp d → v ∉ ts) → HoldT K Hs G H σ ρ (h :: hs) (v :: vs) (tmpV h v ++ ts)
section
variable {K : PySem.W.Frag} {Hs Hs' G H G1 H1 : Hp} {σ : St} {ρ ρ1 : S}
theorem HoldT.pers (o : Out K G H σ ρ G1 H1 ρ1) {hs : List Hd} {vs ts : List V} (h : HoldT K Hs G H σ ρ hs vs ts) : HoldT K Hs G1 H1 σ ρ1 hs vs ts := by
  induction h with
  | nil => exact .nil
  | cons a b _ d ih => exact .cons a (b.pers o) ih d
theorem HoldT.back (k : ∀ b, Hs b = none → Hs' b = none) {hs : List Hd} {vs ts : List V} (h : HoldT K Hs G H σ ρ hs vs ts) : HoldT K Hs' G H σ ρ hs vs ts := by
  induction h with
  | nil => exact .nil
  | cons a b _ d ih => exact .cons a (b.back k) ih d
theorem HoldT.fresh {hs : List Hd} {vs ts : List V} (h : HoldT K Hs G H σ ρ hs vs ts) {p : Addr} (hp : V.ref p ∈ ts) : Hs p = none := by
  induction h with
  | nil => cases hp
  | @cons h hs v vs ts a b _ d ih =>
    rcases List.mem_append.mp hp with z | z
    · cases h with
      | tmp d' =>
        have : V.ref p = v := by simpa [tmpV] using z
        subst this
        obtain ⟨p', e, _, h4, _⟩ := b
        cases e
        exact h4
      | _ => simp [tmpV] at z
    · exact ih z
end
def SndP (K : PySem.W.Frag) (E : WX) (t : TA) (f : S → R (List Hd × S)) : Prop := ∀ (G H : Hp) (σ : St) (ρ : S), Rel K G H σ ρ → ∀ Q : List V → Hp → Prop,
  Wp (f ρ) (fun z => ∀ vs ts G' H', Out K G H σ ρ G' H' z.2 → HoldT K H G' H' σ z.2 z.1 vs ts → Q vs H') (ExE K E G H σ ρ) → t σ H Q
structure PPr (X : Cx) (E : WX) (es : List Expr) (f : S → R (List Hd × S)) : Prop where
  ex : ∃ t, PA X es t ∧ SndP X.K E t f
@[simp] def pNil : S → R (List Hd × S) := fun ρ => .ok ([], ρ)
@[simp] def pCons (f : EF) (g : S → R (List Hd × S)) : S → R (List Hd × S) := fun ρ => f ρ >>= fun z => ofO (normH z.1 z.2) >>= fun u => g u.2 >>= fun y => .ok (u.1 :: y.1, y.2)
section
variable {X : Cx} {E : WX} {e : Expr} {es : List Expr} {f : EF} {g : S → R (List Hd × S)}
theorem norm_ok {K : PySem.W.Frag} {Gs Hs G H : Hp} {σ : St} {ρs ρ : S} {h : Hd} {v : V} {u : Hd × S} (o : Out K Gs Hs σ ρs G H ρ) (hh : Hold K Hs G H σ ρ h v) (e : normH h ρ = some u) : ∃ G', Out K Gs Hs σ ρs G' H u.2 ∧ Hold K Hs G' H σ u.2 u.1 v ∧ notSlot u.1 := by
  cases h with
  | val d => cases e; exact ⟨G, o, hh, True.intro⟩
  | tmp d => cases e; exact ⟨G, o, hh, True.intro⟩
  | tpd t =>
    cases e
    obtain ⟨G', o', _, rp⟩ := share_ok (hd := .tpd t) o hh rfl
    exact ⟨G', o', rp, True.intro⟩
  | sub i p => cases e
  | slot i =>
    have e' : (share (.slot i) ρ).map (fun z => (Hd.val z.1, z.2)) = some u := e
    cases q : share (.slot i) ρ with
    | none => rw [q] at e'; cases e'
    | some z =>
      rw [q] at e'; cases e'
      obtain ⟨G', o', _, rp⟩ := share_ok o hh q
      exact ⟨G', o', rp, True.intro⟩
theorem pp_nil : PPr X E [] pNil := ⟨_, pa_nil, fun G H σ ρ r Q hw => hw [] [] G H (.refl r) .nil⟩
theorem pp_cons (h1 : PR X E e f) (h2 : PPr X E es g) (hs : starEach (e :: es) X.env = (false, eval e X.env) :: starEach es X.env := by rfl) : PPr X E (e :: es) (pCons f g) := by
  obtain ⟨t, pe, s⟩ := h1.ex
  obtain ⟨t2, pa, s2⟩ := h2.ex
  refine ⟨_, pa_cons pe pa hs, fun G H σ ρ r Q hw => s G H σ ρ r _ (hw.bind.mono (fun z _ q v G1 H1 o1 hh => ?_) fun _ _ q => q)⟩
  obtain ⟨u, eu, q⟩ := q.opt
  obtain ⟨G', o, h, ns⟩ := norm_ok o1 hh eu
  refine s2 G' H1 σ u.2 o.rel _ (q.bind.mono (fun y _ q2 vs ts G2 H2 o2 h2 => ?_) fun _ _ q2 => q2.step o)
  refine q2 (v :: vs) _ G2 H2 (o.trans o2) (.cons ns (h.pers o2) (h2.back o.stp.thr) fun d ed hm => ?_)
  rw [ed] at h
  obtain ⟨p, rfl, ⟨_, w, hw1, _⟩, _⟩ := h
  have := h2.fresh hm
  rw [hw1] at this; cases this
end
@[simp] def putAll : List Nat → List Hd → S → Option S
  | [], [], ρ => some ρ
  | i :: is, h :: hs, ρ => (putS i h ρ).bind fun ρ' => putAll is hs ρ'
  | [], _ :: _, _ => none
  | _ :: _, [], _ => none
def setAll : List Nat → List V → St → St
  | i :: is, v :: vs, σ => setAll is vs (σ.set i (some v))
  | [], _, σ => σ
  | _ :: _, [], σ => σ
section
variable {K : PySem.W.Frag} {Gs Hs G H : Hp} {σ σs : St} {ρ ρ' ρs : S}
theorem putAll_ok : ∀ {is : List Nat} {hs : List Hd} {vs ts : List V} {σ : St} {ρ : S}, OutS K Gs Hs σs ρs G H σ ρ → HoldT K Hs G H σ ρ hs vs ts → putAll is hs ρ = some ρ' → OutS K Gs Hs σs ρs G H (setAll is vs σ) ρ'
  | [], [], _, _, _, _, o, h, e => by cases e; exact o
  | i :: is, [], _, _, _, _, o, h, e => by cases e
  | [], h0 :: hs, _, _, _, _, o, h, e => by cases e
  | i :: is, h0 :: hs, _, _, σ, ρ, o, .cons (v := v) (vs := vs) (ts := ts) ns hh ht nd, e => by
    have e' : ((putS i h0 ρ).bind fun ρ' => putAll is hs ρ') = some ρ' := e
    cases q : putS i h0 ρ with
    | none => rw [q] at e'; cases e'
    | some ρ1 =>
      rw [q] at e'
      -- the first name gets its value
      have key : OutS K Gs Hs σs ρs G H (σ.set i (some v)) ρ1 ∧ ∀ p, V.ref p ∈ ts → ads H (σ.set i (some v)) ρ1 p → ads H σ ρ p := by
        have dpk : ∀ (s : Sl) (w : V) (p : Addr), (∀ t, s ≠ .dp t) → i < ρ.length → dpa H (σ.set i (some w)) (ρ.set i (some s)) p → dpa H σ ρ p := fun s w p hs hi ⟨j, t, u, q1, q2, q3⟩ => by
          by_cases hj : i = j
          · subst hj
            rw [List.getElem?_set_self hi] at q1; cases q1
            exact absurd rfl (hs t)
          · rw [List.getElem?_set_ne hj] at q1 q2
            exact ⟨j, t, u, q1, q2, q3⟩
        cases h0 with
        | slot j => exact ns.elim
        | tpd t => exact ns.elim
        | sub j p => exact ns.elim
        | val d =>
          have q' : setS i (.sh d) ρ = some ρ1 := q
          refine ⟨set_sh o hh q', fun p _ hz => ?_⟩
          obtain ⟨hi, rfl, _⟩ := setS_eq q'
          rcases hz with ⟨j, m, ej⟩ | hz
          · obtain ⟨nj, m⟩ := isMut_set m fun d => ⟨nofun, nofun⟩
            rw [List.getElem?_set_ne (Ne.symm nj)] at ej
            exact .inl ⟨j, m, ej⟩
          · exact .inr (dpk _ _ p (fun t z => by cases z) hi hz)
        | tmp d =>
          have q' : setS i (.own d) ρ = some ρ1 := q
          obtain ⟨p0, rfl, h1, h2, h3⟩ := hh
          refine ⟨set_own o h1 h2 h3 q', fun p hp hz => ?_⟩
          obtain ⟨hi, rfl, _⟩ := setS_eq q'
          rcases hz with ⟨j, m, ej⟩ | hz
          rotate_left
          · exact .inr (dpk _ _ p (fun t z => by cases z) hi hz)
          have hσ : i < σ.length := by rw [← o.rel.len]; exact hi
          by_cases nj : j = i
          · subst nj
            rw [List.getElem?_set_self hσ] at ej
            cases ej
            exact absurd hp (nd d rfl)
          · rw [List.getElem?_set_ne (Ne.symm nj)] at ej
            obtain ⟨d', m⟩ := m
            rw [List.getElem?_set_ne (Ne.symm nj)] at m
            exact .inl ⟨j, ⟨d', m⟩, ej⟩
      have ht2 : HoldT K Hs G H (σ.set i (some v)) ρ1 hs vs ts := by
        have gen : ∀ {hs : List Hd} {vs ts' : List V}, HoldT K Hs G H σ ρ hs vs ts' → (∀ x ∈ ts', x ∈ ts) → HoldT K Hs G H (σ.set i (some v)) ρ1 hs vs ts' := by
          intro hs vs ts' z
          induction z with
          | nil => exact fun _ => .nil
          | @cons h hs v' vs ts1 a b c d ih =>
            intro sub
            refine .cons a ?_ (ih fun x hx => sub x (List.mem_append_right _ hx)) d
            cases h with
            | slot j => exact a.elim
            | tpd t => exact a.elim
            | sub j p => exact a.elim
            | val d => exact b
            | tmp d =>
              obtain ⟨p, rfl, g1, g2, g3⟩ := b
              exact ⟨p, rfl, g1, g2, fun z => g3 (key.2 p (sub _ (List.mem_append_left _ (by simp [tmpV]))) z)⟩
        exact gen ht fun _ h => h
      exact putAll_ok (is := is) (hs := hs) key.1 ht2 e'
end
section
variable {X : Cx} {E : WX} {a b c : Expr} {f : S → R (List Hd × S)} {pos : Pos} {i j l : Nat} {x y z : Str} {px py pz pt pt2 : Pos} {kt k2 : Nat}
@[simp] def sPar (is : List Nat) (f : S → R (List Hd × S)) : SF := fun ρ => f ρ >>= fun z => ofO (putAll is z.1 z.2) >>= fun ρ' => .ok (.nx, ρ')
theorem st_par (hc : X.calm = true) (hN : X.N.Nodup) (hi : X.N[i]? = some x) (hj : X.N[j]? = some y) (hij : i ≠ j)
    (hx : X.env.scope.names.lookup x = some .local) (hy : X.env.scope.names.lookup y = some .local) (ha : PPr X E [a, b] f)
    (hw : swappedStores [.Tuple [.Name x px, .Name y py] kt pt] (.Tuple [a, b] k2 pt2) X.env = pure (some [x, y]))
    (hs : swapsWithSole [.Tuple [.Name x px, .Name y py] kt pt] (.Tuple [a, b] k2 pt2) pos.line X.env = pure false := by rfl) :
    PSt X E (.Assign [.Tuple [.Name x px, .Name y py] kt pt] (.Tuple [a, b] k2 pt2) pos) (sPar [i, j] f) := by
  obtain ⟨t, pe, s⟩ := ha.ex
  refine ⟨_, ps_par hc hN hi hj hij hx hy pe hw hs, fun G H σ ρ r Dn hw => s G H σ ρ r _ (hw.bind.mono (fun z _ q vs ts G1 H1 o1 h1 => ?_) fun _ _ q => q)⟩
  obtain ⟨ρ', e1, qq⟩ := q.opt
  have o2 := putAll_ok o1.s h1 e1
  obtain ⟨hs, ρ1⟩ := z
  cases h1 with
  | nil => cases e1
  | cons a1 b1 c1 d1 =>
    cases c1 with
    | nil =>
      simp only [putAll] at e1
      cases hp : putS i _ ρ1 with
      | none => rw [hp] at e1; cases e1
      | some ρ2 => rw [hp] at e1; cases e1
    | cons a2 b2 c2 d2 =>
      cases c2 with
      | nil => exact ⟨_, _, rfl, qq _ G1 H1 o2⟩
      | cons a3 b3 c3 d3 =>
        exfalso
        simp only [putAll] at e1
        cases hp : putS i _ ρ1 with
        | none => rw [hp] at e1; cases e1
        | some ρ2 =>
          rw [hp] at e1
          simp only [Option.bind] at e1
          split at e1 <;> cases e1
theorem st_par3 (hc : X.calm = true) (hN : X.N.Nodup) (hi : X.N[i]? = some x) (hj : X.N[j]? = some y) (hl : X.N[l]? = some z) (hij : i ≠ j) (hil : i ≠ l) (hjl : j ≠ l)
    (hx : X.env.scope.names.lookup x = some .local) (hy : X.env.scope.names.lookup y = some .local) (hz : X.env.scope.names.lookup z = some .local) (ha : PPr X E [a, b, c] f)
    (hw : swappedStores [.Tuple [.Name x px, .Name y py, .Name z pz] kt pt] (.Tuple [a, b, c] k2 pt2) X.env = pure (some [x, y, z]))
    (hs : swapsWithSole [.Tuple [.Name x px, .Name y py, .Name z pz] kt pt] (.Tuple [a, b, c] k2 pt2) pos.line X.env = pure false := by rfl) :
    PSt X E (.Assign [.Tuple [.Name x px, .Name y py, .Name z pz] kt pt] (.Tuple [a, b, c] k2 pt2) pos) (sPar [i, j, l] f) := by
  obtain ⟨t, pe, s⟩ := ha.ex
  refine ⟨_, ps_par3 hc hN hi hj hl hij hil hjl hx hy hz pe hw hs, fun G H σ ρ r Dn hw => s G H σ ρ r _ (hw.bind.mono (fun z _ q vs ts G1 H1 o1 h1 => ?_) fun _ _ q => q)⟩
  obtain ⟨ρ', e1, qq⟩ := q.opt
  have o2 := putAll_ok o1.s h1 e1
  have hlen : ∀ {is : List Nat} {hs : List Hd} {ρ : S}, putAll is hs ρ = some ρ' → is.length = hs.length := by
    intro is
    induction is with
    | nil => intro hs ρ e; cases hs with
      | nil => rfl
      | cons => cases e
    | cons i is ih => intro hs ρ e; cases hs with
      | nil => cases e
      | cons h hs =>
        have e' : ((putS i h ρ).bind fun ρ' => putAll is hs ρ') = some ρ' := e
        cases hp : putS i h ρ with
        | none => rw [hp] at e'; cases e'
        | some ρ2 => rw [hp] at e'; exact congrArg Nat.succ (ih e')
  have hl3 := hlen e1
  obtain ⟨hs, ρ1⟩ := z
  cases h1 with
  | nil => cases hl3
  | cons a1 b1 c1 d1 =>
    cases c1 with
    | nil => cases hl3
    | cons a2 b2 c2 d2 =>
      cases c2 with
      | nil => cases hl3
      | cons a3 b3 c3 d3 =>
        cases c3 with
        | nil => exact ⟨_, _, _, rfl, qq _ G1 H1 o2⟩
        | cons => cases hl3
/-- a target gets a shared value -/
@[simp] def sAsgT (g : D → S → Option S) (fe : EF) : SF := fun ρ => eV fe ρ >>= fun z => ofO (g z.1 z.2) >>= fun ρ' => .ok (.nx, ρ')
theorem st_asgT {tv : List Nat} {tg e : Expr} {g : D → S → Option S} {fe : EF} (hg : PTg X tv tg g) (h : PR X E e fe) (hs : swapsWithSole [tg] e pos.line X.env = pure false := by rfl) (hw : swappedStores [tg] e X.env = pure none := by rfl)
    (h1 : (assignEach [tg] X.env).map (·.2) = [assign tg X.env] := by rfl) : PSt X E (.Assign [tg] e pos) (sAsgT g fe) := by
  obtain ⟨t, pe, s⟩ := h.v.ex
  obtain ⟨u, pg, sg⟩ := hg.ex
  refine ⟨_, ps_asg pe pg hs hw h1, fun G H σ ρ r Dn hw => s G H σ ρ r _ (hw.bind.mono (fun z _ q v G1 H1 o1 h1 => ?_) fun _ _ q => q)⟩
  obtain ⟨ρ', e1, q⟩ := q.opt
  exact sg G H σ ρ G1 H1 σ z.2 ρ' z.1 v o1.s h1 e1 _ fun σ' o2 _ => q σ' G1 H1 o2
/-- x += e, ints -/
@[simp] def sAug (i : Nat) (op : Int → Int → Int) (fe : EF) : SF := fun ρ => match ρ[i]? with
  | some (some (.sh (.int a))) => fe ρ >>= fun z => ofO (asInt z.1) >>= fun b => ofO (setS i (.sh (.int (op a b))) z.2) >>= fun ρ' => .ok (.nx, ρ')
  | _ => .no
theorem st_aug {op : Operator} {g : Int → Int → Int} {e : Expr} {fe : EF} {pos' : Pos} (hN : X.N.Nodup) (hi : X.N[i]? = some x) (hx : Loc X.env.scope x) (h : PR X E e fe) (ho : PIp X op (ipI g)) (hf : X.fn x = true ∨ X.env.scope.names.lookup x = some .local := by first | exact .inl rfl | exact .inr rfl | assumption) :
    PSt X E (.AugAssign (.Name x pos') op e pos) (sAug i g fe) := by
  obtain ⟨t, pe, s⟩ := h.ex
  refine ⟨_, ps_aug hN hi hx pe ho hf, fun G H σ ρ r Dn hw => ?_⟩
  unfold sAug at hw
  split at hw
  · rename_i a q
    obtain ⟨v, e1, h⟩ := r.sl i _ q
    unfold Rep at h
    refine ⟨v, e1, s G H σ ρ r _ (hw.bind.mono (fun z _ q v' G1 H1 o1 h1 => ?_) fun _ _ q => q)⟩
    obtain ⟨b, eb, q⟩ := q.opt
    obtain ⟨ρ', e2, q⟩ := q.opt
    rw [asInt_eq eb] at h1
    have h2 : Rep X.K G1 (.int b) v' := h1
    unfold Rep at h2
    exact ⟨a, b, h, h2, q _ G1 H1 (set_sh o1.s rep_int e2)⟩
  · exact hw.elim
end
end BR
set_option Elab.async false
set_option linter.all false
set_option maxRecDepth 100000
set_option maxHeartbeats 4000000
namespace BR
open PySem L2

/-! ## instances -/
@[simp] def fldD : List Str → List D → Str → Option D
  | n :: ns, d :: ds, f => if f = n then some d else fldD ns ds f
  | [], _, _ => none
  | _ :: _, [], _ => none
@[simp] def setFn : List Str → Str → List Str
  | [], f => [f]
  | n :: ns, f => if n = f then n :: ns else n :: setFn ns f
@[simp] def setFx : List Str → List D → Str → D → List D
  | n :: ns, x :: ds, f, d => if n = f then d :: ds else x :: setFx ns ds f d
  | [], _, _, d => [d]
  | _ :: _, [], _, _ => []
@[simp] def hasF (ns : List Str) (f : Str) : Bool := ns.any fun n => decide (n = f)
section
variable {K : PySem.W.Frag} {G H : Hp}
theorem fldD_rep {f : Str} : ∀ {fs : List (Str × V)} {ds : List D} {d : D}, RepL K G ds (fs.map (·.2)) → fldD (fs.map (·.1)) ds f = some d → ∃ v, fs.lookup f = some v ∧ Rep K G d v
  | [], ds, d, h, e => by cases e
  | p :: fs, ds, d, h, e => by
    cases ds with
    | nil => have := RepL.length h; cases this
    | cons x ds =>
      obtain ⟨v1, vs1, e1, h1, h2⟩ := repL_cons.mp h
      have e2 : p.2 = v1 ∧ fs.map (·.2) = vs1 := by simpa using e1
      obtain ⟨rfl, rfl⟩ := e2
      have e' : (if f = p.1 then some x else fldD (fs.map (·.1)) ds f) = some d := e
      obtain ⟨n, v⟩ := p
      rw [List.lookup_cons]
      by_cases hf : f = n
      · rw [if_pos hf] at e'
        cases e'
        subst hf
        exact ⟨v, by simp, h1⟩
      · rw [if_neg hf] at e'
        obtain ⟨w, h3, h4⟩ := fldD_rep h2 e'
        have : (f == n) = false := by simpa using hf
        rw [this]
        exact ⟨w, h3, h4⟩
theorem hasF_none {f : Str} : ∀ {fs : List (Str × V)}, hasF (fs.map (·.1)) f = false → fs.lookup f = none
  | [], _ => rfl
  | (n, v) :: fs, h => by
    have h' : (decide (n = f) || hasF (fs.map (·.1)) f) = false := h
    rw [Bool.or_eq_false_iff] at h'
    rw [List.lookup_cons]
    have : (f == n) = false := by
      have := h'.1
      simp at this
      simpa using fun z => this z.symm
    rw [this]
    exact hasF_none h'.2
theorem putF_rep {f : Str} {d : D} {v : V} (hv : Rep K G d v) : ∀ {fs : List (Str × V)} {ds : List D}, RepL K G ds (fs.map (·.2)) → (putF f v fs).map (·.1) = setFn (fs.map (·.1)) f ∧ RepL K G (setFx (fs.map (·.1)) ds f d) ((putF f v fs).map (·.2))
  | [], ds, h => ⟨rfl, .cons hv .nil⟩
  | (n, x) :: fs, ds, h => by
    cases ds with
    | nil => have := RepL.length h; cases this
    | cons y ds =>
      obtain ⟨v1, vs1, e1, h1, h2⟩ := repL_cons.mp h
      have e2 : x = v1 ∧ fs.map (·.2) = vs1 := by simpa using e1
      obtain ⟨rfl, rfl⟩ := e2
      obtain ⟨i1, i2⟩ := putF_rep (f := f) hv h2
      show (if n = f then (n, v) :: fs else (n, x) :: putF f v fs).map (·.1) = (if n = f then n :: fs.map (·.1) else n :: setFn (fs.map (·.1)) f) ∧ RepL K G (if n = f then d :: ds else y :: setFx (fs.map (·.1)) ds f d) ((if n = f then (n, v) :: fs else (n, x) :: putF f v fs).map (·.2))
      by_cases hf : n = f
      · rw [if_pos hf, if_pos hf, if_pos hf]
        exact ⟨rfl, .cons hv h2⟩
      · rw [if_neg hf, if_neg hf, if_neg hf]
        exact ⟨by rw [List.map_cons, i1], .cons h1 i2⟩
end
@[simp] def asIns (C : Addr) : D → Option (List Str × List D)
  | .ins C' ns ds => if C' = C then some (ns, ds) else none
  | _ => none
theorem asIns_eq {C : Addr} {d : D} {c : List Str × List D} (h : asIns C d = some c) : d = .ins C c.1 c.2 := by
  cases d with
  | ins C' ns ds =>
    have h' : (if C' = C then some (ns, ds) else none) = some c := h
    split at h'
    · rename_i e; cases h'; rw [e]
    · cases h'
  | _ => cases h
section
variable {X : Cx} {E : WX} {e o k : Expr} {f fo fk : EF} {pos pos' spos apos cpos p : Pos} {x m fl : Str} {i : Nat} {C : Addr} {es : List Expr}
/-- o.f -/
@[simp] def eFld (C : Addr) (fl : Str) (fo : EF) : EF := fun ρ => fo ρ >>= fun z => ofO (look z.1 z.2) >>= fun d => ofO (asIns C d) >>= fun c => ofO (fldD c.1 c.2 fl) >>= fun x => .ok (.val x, z.2)
theorem pr_fld (c : Cls X.K C) (n : NoAttr X.K C fl) (h : PR X E o fo) (hb : attributeBase o fl X.env (eval o X.env) = eval o X.env := by rfl) : PR X E (.Attribute o fl pos) (eFld C fl fo) := by
  obtain ⟨t, pe, s⟩ := h.ex
  refine ⟨_, pe_fld pe hb, fun G H σ ρ r Q hw => s G H σ ρ r _ (hw.bind.mono (fun z _ q v G1 H1 o1 h1 => ?_) fun _ _ q => q)⟩
  obtain ⟨d, e1, q1⟩ := q.opt
  obtain ⟨cc, e2, q2⟩ := q1.opt
  obtain ⟨x, e3, q3⟩ := q2.opt
  have rp := hold_look o1.rel h1 e1
  rw [asIns_eq e2] at rp
  obtain ⟨a, dx, fs, rfl, ha, hn, hds⟩ := rp.ins o1.rel.sub
  rw [← hn] at e3
  obtain ⟨w, l, rw'⟩ := fldD_rep hds e3
  exact ⟨a, C, dx, fs, w, rfl, ha, c, n, l, q3 w G1 H1 o1 rw'⟩
/-- self.f = e -/
@[simp] def sFldS (C : Addr) (i : Nat) (fl : Str) (f : EF) : SF := fun ρ => eV f ρ >>= fun z => ofO (lookMu z.2 i) >>= fun d => ofO (asIns C d) >>= fun c => ofO (guard (decide (c.1.length < 1000))) >>= fun _ => ofO (updSl z.2 i (.ins C (setFn c.1 fl) (setFx c.1 c.2 fl z.1))) >>= fun ρ2 => .ok (.nx, ρ2)
theorem st_fld (c : Cls X.K C) (n : NoAttr X.K C fl) (hN : X.N[i]? = some x) (hv : Vis X.env.scope x) (h : PR X E e f) (hd : (x == ("__debug__" : Str)) = false := by decide) (hcd : (x == ("__classdict__" : Str)) = false := by decide)
    (hs : swapsWith e (some (.Attribute (.Name x p) fl pos')) pos.line X.env = pure false := by rfl) : PSt X E (.Assign [.Attribute (.Name x p) fl pos'] e pos) (sFldS C i fl f) := by
  obtain ⟨t, pe, s⟩ := h.v.ex
  refine ⟨_, ps_fld (pe_var (i := i) hN hv hd hcd) pe hs, fun G H σ ρ r Dn hw => s G H σ ρ r _ (hw.bind.mono (fun z _ q v G1 H1 o1 rv => ?_) fun _ _ q => q)⟩
  obtain ⟨d, e1, q1⟩ := q.opt
  obtain ⟨cc, e2, q2⟩ := q1.opt
  obtain ⟨_, e3, q3⟩ := q2.opt
  obtain ⟨ρ2, e4, q4⟩ := q3.opt
  rw [asIns_eq e2] at e1
  obtain ⟨hm, a, ea, hg, u, hu, dx, fs, rfl, hns, hc⟩ := lookMu_ok o1.rel e1
  obtain ⟨p1, p2⟩ := putF_rep (f := fl) rv hc
  rw [hns] at p1 p2
  refine ⟨.ref a, ea, a, C, dx, fs, rfl, hu, c, n, ?_, q4 σ G1 _ (mut_ok o1 ea hm (cont_i p1 p2) e4).s⟩
  have := of_decide_eq_true (guard_eq e3)
  rw [← hns, List.length_map] at this
  exact this
/-- C.f, a constant of the class -/
theorem pr_cval {C : Addr} {mc u : Value} {v : V} {d : D} (r : ClX.CRead X.K C mc) (c : ClX.CVal X.K C mc fl v u) (rd : ∀ G, Rep X.K G d v) (hg : Gl X x) (hm : X.mg x = some (.ref C)) (hd : (x == ("__debug__" : Str)) = false := by decide)
    (hb : attributeBase (.Name x p) fl X.env (eval (.Name x p) X.env) = eval (.Name x p) X.env := by rfl) : PR X E (.Attribute (.Name x p) fl pos) (eK d) :=
  ⟨_, ClX.pe_cval (pe_glob (v := .ref C) hg hm rfl hd) hb, fun G H σ ρ R Q hw => ⟨C, mc, v, u, rfl, r, c, hw v G H (.refl R) (rd G)⟩⟩

/-! ### making -/
variable {F : FT} {kk : Nat} {fa : Addr} {fd : FuncData} {ps : List Str} {ms : List Bool} {own : Bool} {dD : List D} {dvs : List V} {ds : List Value}
@[simp] def eMake (C : Addr) (F : FT) (dD : List D) (g : S → R (List D × S)) : EF := fun ρ => g ρ >>= fun z => raiseAt z.2 (F (.ins C [] [] :: (z.1 ++ dD))) >>= fun r => (match r with
  | (.non, [d]) => .ok (.tmp d, z.2)
  | _ => .no)
def ALen (g : S → R (List D × S)) (n : Nat) : Prop := ∀ ρ z, g ρ = .ok z → z.1.length = n
theorem al_nil : ALen aNil 0 := fun ρ z h => by cases h; rfl
theorem al_cons {f : S → R (D × S)} {g : S → R (List D × S)} {n : Nat} (h : ALen g n) : ALen (aCons f g) (n + 1) := fun ρ z e => by
  have e' : (f ρ >>= fun z => g z.2 >>= fun y => R.ok (z.1 :: y.1, y.2)) = .ok z := e
  cases hf : f ρ with
  | ok a =>
    rw [hf, ok_bind] at e'
    cases hg : g a.2 with
    | ok b => rw [hg, ok_bind] at e'; cases e'; exact congrArg Nat.succ (h _ _ hg)
    | exc _ => rw [hg] at e'; cases e'
    | no => rw [hg] at e'; cases e'
  | exc _ => rw [hf] at e'; cases e'
  | no => rw [hf] at e'; cases e'
theorem argR_sh {K : PySem.W.Frag} {G H : Hp} : ∀ {ds : List D} {vs : List V} {ms : List Bool}, (∀ b ∈ ms, b = false) → ms.length = ds.length → RepL K G ds vs → ArgR K G H ms vs ds []
  | [], vs, ms, hm, hl, h => by
    rw [repL_nil.mp h]
    cases ms with
    | nil => exact .nil
    | cons => cases hl
  | d :: ds, vs, ms, hm, hl, h => by
    obtain ⟨v, vs', rfl, h1, h2⟩ := repL_cons.mp h
    cases ms with
    | nil => cases hl
    | cons b ms =>
      have := hm b List.mem_cons_self
      subst this
      exact .sh h1 (argR_sh (fun c hc => hm c (List.mem_cons_of_mem _ hc)) (Nat.succ.inj hl) h2)
/-- C(e, ..) -/
theorem pr_make {g : S → R (List D × S)} (M : Mk X.K C fa) (Fn : FnG X.prog X.w X.K X.mg X.base (L2.CX X.prog X.w) kk fa fd ps (spF X.K (true :: ms) false F)) (hr : RmG (kk + 1) X.A) (hg : Gl X x) (hm : X.mg x = some (.ref C)) (hb : Binds X.K fd ps ds) (hd : Vals dvs ds) (rd : ∀ G, RepL X.K G dD dvs) (hx : Takes X E)
    (ha : PAs X E (e :: es) g) (hms : ∀ b ∈ ms, b = false := by decide) {n : Nat} (hal : ALen g n) (hml : ms.length = n + dD.length := by rfl) (hdb : (x == ("__debug__" : Str)) = false := by decide) (he : starEach (e :: es) X.env = (false, eval e X.env) :: starEach es X.env := by rfl) (hpl : (backTo pos (starEach es X.env)).any (·.1) = false := by rfl) :
    PR X E (.Call (.Name x p) (e :: es) [] pos) (eMake C F dD g) := by
  obtain ⟨t, pa, s⟩ := ha.ex
  refine ⟨_, pe_makeG (dvs := dvs) M Fn hr hg hm hb hd (fun σ => passAt hx σ) pa hdb he hpl, fun G H σ ρ r Q hw => s G H σ ρ r _ (hw.bind.mono (fun z hz q vs G1 H1 o1 hl => ?_) fun _ _ q => q)⟩
  intro xx dx hx0 hdx hne
  have h1 : upd H1 dx (.own xx) xx = none := by rw [upd_ne (Ne.symm hne)]; exact hx0
  have ob := (Out.new (o := .own xx) o1.rel hdx).trans (Out.new (o := .ins C dx []) (o1.rel.new hdx) h1)
  have gx : G1 xx = none := o1.rel.sub.none hx0
  have nx : ¬ ads H1 σ z.2 xx := fun zz => (o1.rel.adsH zz).1 hx0
  have bN : ∀ a, ads (upd (upd H1 dx (.own xx)) xx (.ins C dx [])) σ z.2 a → ads H1 σ z.2 a := fun a h => o1.rel.ads_new hdx ((o1.rel.new hdx).ads_new h1 h)
  have hA : ∀ b, dpa (upd (upd H1 dx (.own xx)) xx (.ins C dx [])) σ z.2 b → ¬ b ∈ [xx] := fun b hb hm => by
    rw [List.mem_singleton] at hm
    rw [hm] at hb
    exact nx (bN xx (.inr hb))
  have hT : ∀ (b : Addr) {G' H' : Hp}, Stp (fun b => b ∈ [xx]) G1 (upd (upd H1 dx (.own xx)) xx (.ins C dx [])) G' H' → dpa H1 σ z.2 b → H' b = H1 b := fun b G' H' st h => by
    have h0 := (o1.rel.dpaH h).1
    have nb : ¬ b ∈ [xx] := fun zz => by rw [List.mem_singleton] at zz; rw [zz] at h0; exact h0 hx0
    cases e : H1 b with
    | none => exact absurd e h0
    | some u =>
      refine st.keep b u ?_ nb
      rw [upd_ne fun zz => nb (List.mem_singleton.mpr zz), upd_ne fun zz => h0 (by rw [zz]; exact hdx)]
      exact e
  refine ⟨G1, .ins C [] [] :: (z.1 ++ dD), [xx], ob.rel.sub, .io ⟨gx, _, upd_same, dx, [], rfl, rfl, .nil⟩ (by simp) (argR_sh hms (by rw [List.length_append, hal ρ z hz]; exact hml) (hl.append (rd G1))), q.bind.raised.mono (fun rr _ q2 v G' H' sb st ou re => ?_) fun xc _ q2 c d G' H' sb st ex => ?_⟩
  · have rl : Rel X.K G' H' σ z.2 := ob.rel.after st sb rfl hA fun i s e => .inl ⟨e, fun mm b eb zz => by rw [List.mem_singleton] at zz; rw [zz] at eb; exact nx (.inl ⟨i, mm, eb⟩)⟩
    have nN : ∀ a, ads H' σ z.2 a → ads H1 σ z.2 a := fun a h => bN a (ob.rel.afterN st hA Ker.refl.lse a h)
    have oo : Out X.K G1 H1 σ z.2 G' H' z.2 := ⟨rl, ob.stp.trans st fun c hc zz => (by rw [List.mem_singleton] at zz; rw [zz] at hc; exact absurd hx0 hc), .refl, fun a h _ => nN a h, fun b h => hT b st h, o1.rel⟩
    obtain ⟨r1, r2⟩ := rr
    split at q2
    · rename_i d0 e0
      cases e0
      obtain ⟨d1, h1, ow⟩ := ou 0 xx rfl
      cases h1
      have re' : Rep X.K G' .non v := re
      unfold Rep at re'
      exact ⟨re', q2 (.ref xx) G' H' (o1.trans oo) ⟨xx, rfl, ow, o1.stp.thr xx hx0, fun z => nx (nN xx z)⟩⟩
    · exact q2.elim
  · have rl : Rel X.K G' H' σ z.2 := ob.rel.after st sb rfl hA fun i s e => .inl ⟨e, fun mm b eb zz => by rw [List.mem_singleton] at zz; rw [zz] at eb; exact nx (.inl ⟨i, mm, eb⟩)⟩
    have nN : ∀ a, ads H' σ z.2 a → ads H1 σ z.2 a := fun a h => bN a (ob.rel.afterN st hA Ker.refl.lse a h)
    exact q2 c d σ G' H' ⟨rl, (o1.stp.trans ob.stp fun c e zz => o1.nw c zz e).trans st fun cc hc zz => (by rw [List.mem_singleton] at zz; rw [zz] at hc; exact absurd (o1.stp.thr xx hx0) hc), fun a h hz => o1.nw a (nN a h) hz, fun _ _ => rfl⟩ ex
/-! ### methods, properties: the object shared -/
@[simp] def eMeth (C : Addr) (m : Str) (own : Bool) (F : FT) (dD : List D) (fo : EF) (g : S → R (List D × S)) : EF := fun ρ => eV fo ρ >>= fun z => ofO (asIns C z.1) >>= fun c => ofO (guard (!hasF c.1 m)) >>= fun _ => g z.2 >>= fun y => raiseAt y.2 (F (z.1 :: (y.1 ++ dD))) >>= fun r => .ok (if own = true then .tmp r.1 else .val r.1, y.2)
/-- a call with shared arguments -/
theorem call_sh {K : PySem.W.Frag} {G H G1 H1 : Hp} {σ : St} {ρ ρ1 : S} {ds : List D} {vs : List V} {Q : VK} (hms : ∀ b ∈ ms, b = false) (hml : ms.length = ds.length) (o1 : Out K G H σ ρ G1 H1 ρ1) (hl : RepL K G1 ds vs)
    (hw : Wp (raiseAt ρ1 (F ds) >>= fun r => R.ok ((if own = true then Hd.tmp r.1 else Hd.val r.1), ρ1)) (fun z => ∀ v G' H', Out K G H σ ρ G' H' z.2 → Hold K H G' H' σ z.2 z.1 v → Q v H') (ExE K E G H σ ρ)) : spF K ms own F vs H1 Q (fun c d H' => E c d σ H') := by
  refine ⟨G1, ds, [], o1.rel.sub, argR_sh hms hml hl, hw.bind.raised.mono (fun rr _ q2 v G' H' sb st ou re => ?_) fun xc _ q2 c d G' H' sb st ex => ?_⟩
  · have hA : ∀ b, dpa H1 σ ρ1 b → ¬ b ∈ ([] : List Addr) := fun b hb hm => by cases hm
    have rl : Rel K G' H' σ ρ1 := o1.rel.after st sb rfl hA fun i s e => .inl ⟨e, fun mm b eb zz => by cases zz⟩
    have nN := o1.rel.afterN st hA Ker.refl.lse
    have oo : Out K G1 H1 σ ρ1 G' H' ρ1 := ⟨rl, st.mono fun c hc zz => (by cases zz), .refl, fun a h _ => nN a h, fun b h => by
      cases e : H1 b with
      | none => exact absurd e (o1.rel.dpaH h).1
      | some u => exact st.keep b u e (fun zz => absurd zz (by simp)), o1.rel⟩
    refine q2 v G' H' (o1.trans oo) ?_
    cases own with
    | false => exact re
    | true =>
      obtain ⟨pr, rfl, ow, hn⟩ := re
      exact ⟨pr, rfl, ow, o1.stp.thr pr hn, fun z => (o1.rel.adsH (nN pr z)).1 hn⟩
  · have hA : ∀ b, dpa H1 σ ρ1 b → ¬ b ∈ ([] : List Addr) := fun b hb hm => by cases hm
    have rl : Rel K G' H' σ ρ1 := o1.rel.after st sb rfl hA fun i s e => .inl ⟨e, fun mm b eb zz => by cases zz⟩
    have nN := o1.rel.afterN st hA Ker.refl.lse
    exact q2 c d σ G' H' (o1.toX ⟨rl, st.mono fun c hc zz => (by cases zz), fun a h _ => nN a h, fun _ _ => rfl⟩) ex
theorem aNil_ok {ρ : S} {z : List D × S} (h : aNil ρ = .ok z) : z.1 = [] := by cases h; rfl
theorem pr_meth {g : S → R (List D × S)} {pl : Sem Bool} (ho : PR X E o fo) (c : Cls X.K C) (hm : Meth X.K C m fa) (Fn : FnG X.prog X.w X.K X.mg X.base (L2.CX X.prog X.w) kk fa fd ps (spF X.K (false :: ms) own F)) (hr : RmG kk X.A) (hb : Binds X.K fd ps ds) (hd : Vals dvs ds) (rd : ∀ G, RepL X.K G dD dvs) (hx : Takes X E)
    (ha : PAs X E (e :: es) g) (hms : ∀ b ∈ ms, b = false := by decide) {n : Nat} (hal : ALen g n) (hml : ms.length = n + dD.length := by rfl)
    (hst : starEach (e :: es) X.env = (false, eval e X.env) :: starEach es X.env := by rfl) (hpl : (backTo pos (starEach es X.env)).any (·.1) = false := by rfl)
    (ht : eval (.Call (.Attribute o m apos) (e :: es) [] pos) X.env = (do
      let ov ← eval o X.env
      standAt apos.atName
      let (f, first) ← holding [ov] (getMethod ov m pl)
      callWith pos f first (backTo pos (starEach (e :: es) X.env)) (backToKw pos (keywordEach [] X.env))) := by rfl) :
    PR X E (.Call (.Attribute o m apos) (e :: es) [] pos) (eMeth C m own F dD fo g) := by
  obtain ⟨to, po, so⟩ := ho.v.ex
  obtain ⟨t, pa, s⟩ := ha.ex
  refine ⟨_, pe_methG (dvs := dvs) po c hm Fn hr hb hd (fun σ => passAt hx σ) pa hst hpl ht, fun G H σ ρ r Q hw => so G H σ ρ r _ (hw.bind.mono (fun z _ q v G1 H1 o1 h1 => ?_) fun _ _ q => q)⟩
  obtain ⟨cc, e1, q1⟩ := q.opt
  obtain ⟨_, e2, q2⟩ := q1.opt
  have h1' := h1
  rw [asIns_eq e1] at h1'
  unfold Rep at h1'
  obtain ⟨a, dx, fs, rfl, ha, hn, hds⟩ := h1'
  refine ⟨a, dx, fs, rfl, o1.rel.sub.i ha, hasF_none (by rw [hn]; simpa using guard_eq e2), s G1 H1 σ z.2 o1.rel _ (q2.bind.mono (fun y hy q3 vs G2 H2 o2 h2 => ?_) fun _ _ q3 => q3.step o1)⟩
  refine call_sh (ms := false :: ms) (ds := z.1 :: (y.1 ++ dD)) (fun b hb => ?_) (congrArg Nat.succ (by rw [List.length_append, hal _ y hy]; exact hml)) (o1.trans o2) (.cons (Rep.mono o2.stp.gg _ h1) (h2.append (rd G2))) q3
  rcases List.mem_cons.mp hb with z | z
  · exact z
  · exact hms b z
theorem pr_meth0 {pl : Sem Bool} (ho : PR X E o fo) (c : Cls X.K C) (hm : Meth X.K C m fa) (Fn : FnG X.prog X.w X.K X.mg X.base (L2.CX X.prog X.w) kk fa fd ps (spF X.K (false :: ms) own F)) (hr : RmG kk X.A) (hb : Binds X.K fd ps ds) (hd : Vals dvs ds) (rd : ∀ G, RepL X.K G dD dvs) (hx : Takes X E)
    (hms : ∀ b ∈ ms, b = false := by decide) (hml : ms.length = dD.length := by rfl)
    (ht : eval (.Call (.Attribute o m apos) [] [] pos) X.env = (do
      let ov ← eval o X.env
      standAt apos.atName
      let (f, first) ← holding [ov] (getMethod ov m pl)
      callWith pos f first (backTo pos (starEach [] X.env)) (backToKw pos (keywordEach [] X.env))) := by rfl) :
    PR X E (.Call (.Attribute o m apos) [] [] pos) (eMeth C m own F dD fo aNil) := by
  obtain ⟨to, po, so⟩ := ho.v.ex
  refine ⟨_, pe_methG0 (dvs := dvs) po c hm Fn hr hb hd (fun σ => passAt hx σ) ht, fun G H σ ρ r Q hw => so G H σ ρ r _ (hw.bind.mono (fun z _ q v G1 H1 o1 h1 => ?_) fun _ _ q => q)⟩
  obtain ⟨cc, e1, q1⟩ := q.opt
  obtain ⟨_, e2, q2⟩ := q1.opt
  have h1' := h1
  rw [asIns_eq e1] at h1'
  unfold Rep at h1'
  obtain ⟨a, dx, fs, rfl, ha, hn, hds⟩ := h1'
  refine ⟨a, dx, fs, rfl, o1.rel.sub.i ha, hasF_none (by rw [hn]; simpa using guard_eq e2), ?_⟩
  refine call_sh (ms := false :: ms) (ds := z.1 :: dD) (fun b hb => ?_) (congrArg Nat.succ hml) o1 (.cons h1 (rd G1)) q2
  rcases List.mem_cons.mp hb with z | z
  · exact z
  · exact hms b z
@[simp] def eProp (C : Addr) (own : Bool) (F : FT) (fo : EF) : EF := fun ρ => eV fo ρ >>= fun z => ofO (asIns C z.1) >>= fun _ => noX (F [z.1]) >>= fun r => .ok (if own = true then .tmp r.1 else .val r.1, z.2)
theorem pr_prop {pp : Addr} (ho : PR X E o fo) (c : Cls X.K C) (hp : PropOf X.K C fl pp fa) (Fn : FnG X.prog X.w X.K X.mg X.base (L2.CX X.prog X.w) kk fa fd ps (spF X.K [false] own F)) (hr : RmG (kk + 1) X.A) (hb : Binds X.K fd ps []) (hx : Takes X.nox W0)
    (hab : attributeBase o fl X.env (eval o X.env) = eval o X.env := by rfl) : PR X E (.Attribute o fl pos) (eProp C own F fo) := by
  obtain ⟨to, po, so⟩ := ho.v.ex
  have hx2 : Passes (L2.CX X.prog X.w) X.nox (fun _ _ _ => False) := passes_call hx fun _ _ _ _ h => h.elim
  refine ⟨_, pe_propG (dvs := []) po c hp Fn hr hb .nil hx2 hab, fun G H σ ρ r Q hw => so G H σ ρ r _ (hw.bind.mono (fun z _ q v G1 H1 o1 h1 => ?_) fun _ _ q => q)⟩
  obtain ⟨cc, e1, q1⟩ := q.opt
  have h1' := h1
  rw [asIns_eq e1] at h1'
  unfold Rep at h1'
  obtain ⟨a, dx, fs, rfl, ha, hn, hds⟩ := h1'
  refine ⟨a, dx, fs, rfl, o1.rel.sub.i ha, ?_⟩
  refine call_sh (E := W0) (ms := [false]) (F := F) (own := own) (by decide) rfl o1 (.cons h1 .nil) ?_
  have q2 := q1.bind.noX
  cases hF : F [z.1] with
  | ok rr => rw [hF] at q2; exact q2
  | exc xx => rw [hF] at q2; exact q2.elim
  | no => rw [hF] at q2; exact q2.elim
/-! ### keywords -/
def SndKw (K : PySem.W.Frag) (E : WX) (t : TA) (f : S → R (List D × S)) : Prop := SndA K E t f
structure PKs (X : Cx) (E : WX) (kws : List Keyword) (f : S → R (List D × S)) : Prop where
  ex : ∃ t, PK X kws t ∧ SndA X.K E t f
theorem ks_nil : PKs X E [] aNil := ⟨_, pk_nil, fun G H σ ρ r Q hw => hw [] G H (.refl r) .nil⟩
theorem ks_cons {f : S → R (D × S)} {g : S → R (List D × S)} {kws : List Keyword} {nm : Option Str} {kpos : Pos} (h1 : PV X E e f) (h2 : PKs X E kws g) : PKs X E (⟨nm, e, kpos⟩ :: kws) (aCons f g) := by
  obtain ⟨t, pe, s⟩ := h1.ex
  obtain ⟨t2, pa, s2⟩ := h2.ex
  refine ⟨_, pk_cons pe pa, fun G H σ ρ r Q hw => s G H σ ρ r _ (hw.bind.mono (fun z _ q v G' H' o h => ?_) fun _ _ q => q)⟩
  refine s2 G' H' σ z.2 o.rel _ (q.bind.mono (fun y _ q2 vs G2 H2 o2 h2 => ?_) fun _ _ q2 => q2.step o)
  exact q2 (v :: vs) G2 H2 (o.trans o2) (.cons (Rep.mono o2.stp.gg _ h) h2)
end
end BR
set_option Elab.async false
set_option linter.all false
set_option maxRecDepth 100000
set_option maxHeartbeats 4000000
namespace BR
open PySem L2

/-! ## walks over dicts -/
def kD : Key → D
  | .inl i => .int i
  | .inr x => .str x
theorem kD_rep {K : PySem.W.Frag} {G : Hp} : ∀ k : Key, Rep K G (kD k) (kV k)
  | .inl i => rep_int
  | .inr x => rep_str
def itemsD (ks : List Key) (ds : List D) : List D := List.zipWith (fun k d => D.tup [kD k, d]) ks ds
def keysD (ks : List Key) : List D := ks.map kD
section
variable {K : PySem.W.Frag} {G H : Hp} {a : Addr} {o : Obj} {kvs : List (Key × V)} {ds : List D}
theorem wlk_keysD (hG : G a ≠ none) (hH : H a = some (.frz o (.dK kvs))) : Wlk K G H (keysD (kvs.map (·.1))) (Itk a o kvs) := by
  refine ⟨_, _, by unfold keysD; rw [List.length_map, List.length_map]; exact walk_keys, fun H1 k => k a _ hG hH, fun i H x H' hi y G1 sg sb => ?_⟩
  obtain ⟨rfl, k, v, e, rfl⟩ := y
  exact ⟨kD k, by simp [keysD, e], G1, .inl ⟨rfl, rfl⟩, kD_rep k⟩
theorem zipWith_get {α β γ : Type} (f : α → β → γ) : ∀ {xs : List α} {ys : List β} {i : Nat} {x : α} {y : β}, xs[i]? = some x → ys[i]? = some y → (List.zipWith f xs ys)[i]? = some (f x y)
  | [], _, _, _, _, h, _ => by simp at h
  | _ :: _, [], _, _, _, _, h => by simp at h
  | a :: xs, b :: ys, 0, x, y, h1, h2 => by simp at h1 h2; subst h1; subst h2; rfl
  | a :: xs, b :: ys, i + 1, x, y, h1, h2 => by simp at h1 h2; simpa using zipWith_get f h1 h2
theorem wlk_itemsD (hG : G a ≠ none) (hH : H a = some (.frz o (.dK kvs))) (hr : RepL K G ds (kvs.map (·.2))) : Wlk K G H (itemsD (kvs.map (·.1)) ds) (Iti a o kvs) := by
  have hl : (itemsD (kvs.map (·.1)) ds).length = kvs.length := by
    unfold itemsD
    rw [List.length_zipWith, hr.length, List.length_map, List.length_map, Nat.min_self]
  refine ⟨_, _, by rw [hl]; exact walk_items, fun H1 k => k a _ hG hH, fun i H x H' hi y G1 sg sb => ?_⟩
  obtain ⟨T, x1, y1, rfl, hT, rfl, e1, e2⟩ := y
  rw [hl] at hi
  have ek : kvs[i]? = some kvs[i] := List.getElem?_eq_getElem hi
  replace e1 : kvs[i]?.map (fun kv => kV kv.1) = some x1 := e1
  replace e2 : kvs[i]?.map Prod.snd = some y1 := e2
  rw [ek] at e1 e2
  cases e1; cases e2
  obtain ⟨d, ed, rd⟩ := hr.getV (i := i) (v := kvs[i].2) (by rw [List.getElem?_map, ek]; rfl)
  refine ⟨.tup [kD kvs[i].1, d], ?_, upd G1 T (.tup [kV kvs[i].1, kvs[i].2]), .inr ⟨T, _, hT, rfl, rfl⟩, ?_⟩
  · exact zipWith_get _ (by rw [List.getElem?_map, ek]; rfl) ed
  · have hs : Same G1 (upd G1 T (.tup [kV kvs[i].1, kvs[i].2])) := same_new (sb.none hT)
    unfold Rep
    exact ⟨T, _, rfl, .inl (.inl upd_same), .cons (kD_rep _) (.cons (Rep.mono (sg.trans hs) _ rd) .nil)⟩
/-! ### locking -/
theorem ps_or {X : Cx} {st : Stmt} {t u : TS} (h : PS X st t) (h' : PS X st u) : PS X st (fun D σ H => t D σ H ∨ u D σ H) := ⟨fun pins s σ H D I hw => hw.elim (h.run pins s σ H D I) (h'.run pins s σ H D I)⟩
theorem pe_or {X : Cx} {e : Expr} {t u : TE} (h : PE X e t) (h' : PE X e u) : PE X e (fun σ H Q => t σ H Q ∨ u σ H Q) := ⟨fun pins s σ H Q I hw => hw.elim (h.run pins s σ H Q I) (h'.run pins s σ H Q I)⟩
variable {σ σ' : St} {ρ ρ' : S} {G' H' : Hp} {od : Obj}
theorem at_out {o : HO} (r : Rel K G H σ ρ) (hG : G a ≠ none) : ∀ b, dpa H σ ρ b → upd H a o b = H b ∧ G b = none := fun b h => ⟨upd_ne fun z => hG (by rw [← z]; exact (r.dpaH h).2), (r.dpaH h).2⟩
theorem at_dp {o : HO} (r : Rel K G H σ ρ) (hG : G a ≠ none) : DpR (upd H a o) σ ρ := (r.trees (Same.refl G) (at_out r hG) (fun _ _ e => ⟨e, rfl⟩) fun i b m h => r.dp.ds b i h m).1
theorem at_ads {o : HO} (r : Rel K G H σ ρ) (hG : G a ≠ none) {b : Addr} : ads (upd H a o) σ ρ b ↔ ads H σ ρ b := by
  constructor
  · exact fun h => h.imp id ((r.trees (Same.refl G) (at_out r hG) (fun _ _ e => ⟨e, rfl⟩) fun i b m h => r.dp.ds b i h m).2 b)
  · rintro (h | ⟨i, t, v, e1, e2, m⟩)
    · exact .inl h
    · obtain ⟨v', e3, _, _, f, _⟩ := r.fp_eq (Same.refl G) (at_out (o := o) r hG) (fun _ _ e => ⟨e, rfl⟩) i t e1
      rw [e2] at e3; cases e3
      exact .inr ⟨i, t, v, e1, e2, by rw [f]; exact m⟩
theorem at_dpa {o : HO} (r : Rel K G H σ ρ) (hG : G a ≠ none) {b : Addr} (h : dpa H σ ρ b) : dpa (upd H a o) σ ρ b := by
  obtain ⟨i, t, v, e1, e2, m⟩ := h
  obtain ⟨v', e3, _, _, f, _⟩ := r.fp_eq (Same.refl G) (at_out (o := o) r hG) (fun _ _ e => ⟨e, rfl⟩) i t e1
  rw [e2] at e3; cases e3
  exact ⟨i, t, v, e1, e2, by rw [f]; exact m⟩
theorem rel_lock (r : Rel K G H σ ρ) (hG : G a = some (.dK kvs)) : Rel K G (upd H a (.frz od (.dK kvs))) σ ρ := by
  have ne : ∀ b, G b = none → b ≠ a := fun b e z => by rw [z, hG] at e; cases e
  have hGn : G a ≠ none := by rw [hG]; simp
  refine ⟨r.len, fun b u e => ?_, fun i s e => ?_, r.dis, at_dp r hGn⟩
  · by_cases hb : b = a
    · subst hb; rw [hG] at e; cases e; rw [upd_same]; exact .inr ⟨kvs, od, rfl, rfl⟩
    · rw [upd_ne hb]; exact r.sub b u e
  · have z := r.sl i s e
    cases s with
    | sh d => exact z
    | own d => obtain ⟨b, e1, h1, u, h2, h3⟩ := z; exact ⟨b, e1, h1, u, by rw [upd_ne (ne b h1)]; exact h2, h3⟩
    | io d => obtain ⟨b, e1, h1, u, h2, h3⟩ := z; exact ⟨b, e1, h1, u, by rw [upd_ne (ne b h1)]; exact h2, h3⟩
    | dp t =>
      obtain ⟨v, e1, h1, h2, _⟩ := r.fp_eq (Same.refl _) (at_out r hGn) (fun _ _ e => ⟨e, rfl⟩) i t e
      exact ⟨v, e1, h1, h2⟩
theorem rel_unlock (r : Rel K G' H' σ ρ) (hG : G' a = some (.dK kvs)) : Rel K G' (upd H' a (.dK kvs)) σ ρ := by
  have ne : ∀ b, G' b = none → b ≠ a := fun b e z => by rw [z, hG] at e; cases e
  have hGn : G' a ≠ none := by rw [hG]; simp
  refine ⟨r.len, fun b u e => ?_, fun i s e => ?_, r.dis, at_dp r hGn⟩
  · by_cases hb : b = a
    · subst hb; rw [hG] at e; cases e; rw [upd_same]; exact .inl rfl
    · rw [upd_ne hb]; exact r.sub b u e
  · have z := r.sl i s e
    cases s with
    | sh d => exact z
    | own d => obtain ⟨b, e1, h1, u, h2, h3⟩ := z; exact ⟨b, e1, h1, u, by rw [upd_ne (ne b h1)]; exact h2, h3⟩
    | io d => obtain ⟨b, e1, h1, u, h2, h3⟩ := z; exact ⟨b, e1, h1, u, by rw [upd_ne (ne b h1)]; exact h2, h3⟩
    | dp t =>
      obtain ⟨v, e1, h1, h2, _⟩ := r.fp_eq (Same.refl _) (at_out r hGn) (fun _ _ e => ⟨e, rfl⟩) i t e
      exact ⟨v, e1, h1, h2⟩
theorem stp_unlock {A : Addr → Prop} (st : Stp A G (upd H a (.frz od (.dK kvs))) G' H') (hH : H a = some (.dK kvs)) (nA : ¬ A a) : Stp A G H G' (upd H' a (.dK kvs)) where
  gg := st.gg
  keep := fun b u e n => by
    by_cases hb : b = a
    · subst hb; rw [upd_same, ← e, hH]
    · rw [upd_ne hb]; exact st.keep b u (by rw [upd_ne hb]; exact e) n
  thr := fun b e => by
    by_cases hb : b = a
    · subst hb; rw [upd_same] at e; cases e
    · rw [upd_ne hb] at e
      have := st.thr b e
      rw [upd_ne hb] at this; exact this
  fr := fun b e n g => st.fr b (by
    by_cases hb : b = a
    · subst hb; rw [upd_same]; simp
    · rw [upd_ne hb]; exact e) n g
  tb := fun T t => tabs_upd (fun o e => by rw [st.keep a _ upd_same nA] at e; cases e; exact frz_stat) T (st.tb T (tabs_upd (fun o e => by rw [hH] at e; cases e; exact dK_stat) T t))
theorem outS_unlock (r : Rel K G H σ ρ) (o : OutS K G (upd H a (.frz od (.dK kvs))) σ ρ G' H' σ' ρ') (hG : G a = some (.dK kvs)) (hH : H a = some (.dK kvs)) : H' a = some (.frz od (.dK kvs)) ∧ OutS K G H σ ρ G' (upd H' a (.dK kvs)) σ' ρ' := by
  have nA : ¬ ads H σ ρ a := fun z => by have := (r.adsH z).2; rw [hG] at this; cases this
  have hGn : G a ≠ none := by rw [hG]; simp
  have st : Stp (ads H σ ρ) G (upd H a (.frz od (.dK kvs))) G' H' := o.stp.mono fun c _ z => (at_ads r hGn).mp z
  refine ⟨st.keep a _ upd_same nA, rel_unlock o.rel (o.stp.gg _ _ hG), stp_unlock st hH nA, fun b z hb => ?_, o.io⟩
  refine (at_ads r hGn).mp (o.nw b ((at_ads o.rel (by rw [o.stp.gg _ _ hG]; simp)).mp z) ?_)
  by_cases hb' : b = a
  · subst hb'; rw [upd_same]; simp
  · rw [upd_ne hb']; exact hb
theorem out_unlock (r : Rel K G H σ ρ) (o : Out K G (upd H a (.frz od (.dK kvs))) σ ρ G' H' ρ') (hG : G a = some (.dK kvs)) (hH : H a = some (.dK kvs)) : H' a = some (.frz od (.dK kvs)) ∧ Out K G H σ ρ G' (upd H' a (.dK kvs)) ρ' := by
  have nA : ¬ ads H σ ρ a := fun z => by have := (r.adsH z).2; rw [hG] at this; cases this
  have hGn : G a ≠ none := by rw [hG]; simp
  have st : Stp (ads H σ ρ) G (upd H a (.frz od (.dK kvs))) G' H' := o.stp.mono fun c _ z => (at_ads r hGn).mp z
  refine ⟨st.keep a _ upd_same nA, rel_unlock o.rel (o.stp.gg _ _ hG), stp_unlock st hH nA, o.ker, fun b z hb => ?_, fun b h => ?_, r⟩
  rotate_left
  · have nb : b ≠ a := fun z => by rw [z] at h; have := (r.dpaH h).2; rw [hG] at this; cases this
    rw [upd_ne nb, o.tre b (at_dpa r hGn h), upd_ne nb]
  refine (at_ads r hGn).mp (o.nw b ((at_ads o.rel (by rw [o.stp.gg _ _ hG]; simp)).mp z) ?_)
  by_cases hb' : b = a
  · subst hb'; rw [upd_same]; simp
  · rw [upd_ne hb']; exact hb
theorem hold_unlock {h : Hd} {v : V} (r : Rel K G' H' σ' ρ') (hh : Hold K (upd H a (.frz od (.dK kvs))) G' H' σ' ρ' h v) (hG : G' a ≠ none) : Hold K H G' (upd H' a (.dK kvs)) σ' ρ' h v := by
  cases h with
  | val d => exact hh
  | slot i => exact hh
  | tmp d =>
    obtain ⟨p, rfl, ⟨h1, u, h2, h3⟩, h4, h5⟩ := hh
    have hne : p ≠ a := fun z => hG (by rw [← z]; exact h1)
    rw [upd_ne hne] at h4
    exact ⟨p, rfl, ⟨h1, u, by rw [upd_ne hne]; exact h2, h3⟩, h4, fun z => h5 ((at_ads r hG).mp z)⟩
  | sub i p =>
    obtain ⟨w, hw, ha⟩ := hh
    refine ⟨w, hw, fun t q => ?_⟩
    obtain ⟨w', e1, h1, _⟩ := r.tree q; rw [hw] at e1; cases e1
    exact at_go p h1 (fun b m => upd_ne fun z => hG (by rw [← z]; exact (h1.in_ t b m).1)) (ha t q)
  | tpd t =>
    obtain ⟨h1, h2, h3⟩ := hh
    have hne : ∀ p ∈ fp H' t v, p ≠ a := fun p m z => hG (by rw [← z]; exact (h1.in_ t p m).1)
    obtain ⟨h4, h5⟩ := h1.go (H' := upd H' a (.dK kvs)) (Same.refl G') t fun p m => ⟨upd_ne (hne p m), (h1.in_ t p m).1⟩
    refine ⟨h4, by rw [h5]; exact h2, fun p m => ?_⟩
    rw [h5] at m
    obtain ⟨h6, h7⟩ := h3 p m
    rw [upd_ne (hne p m)] at h6
    exact ⟨h6, fun z => h7 ((at_ads r hG).mp z)⟩
theorem flP_lock {G0 H0 : Hp} {σ0 : St} {ρ0 : S} {Dn : Ends} {z : Fl × S} (o0 : Out K G0 H0 σ ρ0 G H ρ) (hG : G a = some (.dK kvs)) (hH : H a = some (.dK kvs)) (h : FlP K G0 H0 σ ρ0 Dn z) :
    FlP K G (upd H a (.frz od (.dK kvs))) σ ρ ⟨fun σ' H' => H' a = some (.frz od (.dK kvs)) ∧ Dn.nx σ' (upd H' a (.dK kvs)), fun v H' => H' a = some (.frz od (.dK kvs)) ∧ Dn.rt v (upd H' a (.dK kvs)), fun σ' H' => H' a = some (.frz od (.dK kvs)) ∧ Dn.bk σ' (upd H' a (.dK kvs)), fun σ' H' => H' a = some (.frz od (.dK kvs)) ∧ Dn.ct σ' (upd H' a (.dK kvs))⟩ z := by
  obtain ⟨fl, ρ'⟩ := z
  cases fl with
  | nx => exact fun σ' G' H' o => let ⟨e, o'⟩ := outS_unlock o0.rel o hG hH; ⟨e, h σ' G' _ (o0.s.trans o')⟩
  | bk => exact fun σ' G' H' o => let ⟨e, o'⟩ := outS_unlock o0.rel o hG hH; ⟨e, h σ' G' _ (o0.s.trans o')⟩
  | ct => exact fun σ' G' H' o => let ⟨e, o'⟩ := outS_unlock o0.rel o hG hH; ⟨e, h σ' G' _ (o0.s.trans o')⟩
  | rt hd => exact fun v σ' G' H' o hh => let ⟨e, o'⟩ := outS_unlock o0.rel o hG hH; ⟨e, h v σ' G' _ (o0.s.trans o') ((hold_unlock o.rel hh (by rw [o.stp.gg _ _ hG]; simp)).back o0.stp.thr)⟩
end
/-- a dict in a slot, shared -/
@[simp] def dicAt (i : Nat) (ρ : S) : Option ((List Key × List D) × S) := match share (.slot i) ρ with
  | some (.dic ks ds, ρ') => some ((ks, ds), ρ')
  | _ => none
theorem dicAt_ok {K : PySem.W.Frag} {G H : Hp} {σ : St} {ρ : S} {i : Nat} {z : (List Key × List D) × S} (r : Rel K G H σ ρ) (e : dicAt i ρ = some z) : ∃ G1 a kvs, Out K G H σ ρ G1 H z.2 ∧ σ[i]? = some (some (.ref a)) ∧ kvs.map (·.1) = z.1.1 ∧ RepL K G1 z.1.2 (kvs.map (·.2)) ∧ ((G1 a = some (.dK kvs) ∧ H a = some (.dK kvs)) ∨ ∃ od, G1 a ≠ none ∧ H a = some (.frz od (.dK kvs))) := by
  unfold dicAt at e
  split at e
  · rename_i ks ds ρ' q
    cases e
    have hv : ∃ v, σ[i]? = some (some v) := by
      have q' : (match ρ[i]? with | some (some (.own d)) => some (d, ρ.set i (some (.sh d))) | some (some (.sh d)) => some (d, ρ) | some (some (.dp t)) => some (t.d, ρ.set i (some (.sh t.d))) | _ => none) = some (D.dic ks ds, ρ') := q
      split at q'
      · rename_i d0 q0; obtain ⟨a, e1, _⟩ := r.sl i _ q0; exact ⟨_, e1⟩
      · rename_i d0 q0; obtain ⟨a, e1, _⟩ := r.sl i _ q0; exact ⟨_, e1⟩
      · rename_i d0 q0; obtain ⟨a, e1, _⟩ := r.sl i _ q0; exact ⟨_, e1⟩
      · cases q'
    obtain ⟨v, hv⟩ := hv
    obtain ⟨G1, o1, _, rp⟩ := share_ok (hd := .slot i) (Out.refl r) hv q
    unfold Rep at rp
    obtain ⟨a, kvs, rfl, h1, h2, h3⟩ := rp
    refine ⟨G1, a, kvs, o1, hv, h2, h3, ?_⟩
    rcases h1 with h1 | ⟨ob, h1⟩
    · rcases o1.rel.sub _ _ h1 with z | ⟨kv2, od, e1, z⟩
      · exact .inl ⟨h1, z⟩
      · cases e1; exact .inr ⟨od, by rw [h1]; simp, z⟩
    · rcases o1.rel.sub _ _ h1 with z | ⟨kv2, od, e1, z⟩
      · exact .inr ⟨ob, by rw [h1]; simp, z⟩
      · cases e1
  · cases e
section
variable {X : Cx} {E : WX} {tg : Expr} {body : List Stmt} {g : D → S → Option S} {b : SF} {tv : List Nat} {i : Nat} {x : Str} {pos pos' apos cpos tpos : Pos} {elts : List Expr} {kk : Nat}
/-- for .. in x / x.items(), x a dict: no exception leaves -/
@[simp] def sForD (sel : List Key → List D → List D) (i : Nat) (g : D → S → Option S) (b : SF) : SF := fun ρ => ofO (dicAt i ρ) >>= fun z => noX (sForL g b (sel z.1.1 z.1.2) z.2)
theorem forD_core {gt : TG} {tb : TS} {wi : TI} {sel : List Key → List D → List D} (J : Addr → Obj → List (Key × V) → It)
    (hwi : ∀ (σ : St) (H : Hp) (Rr : It → Hp → Prop) (a : Addr) (od : Obj) (kvs : List (Key × V)), σ[i]? = some (some (.ref a)) → H a = some (.frz od (.dK kvs)) → Rr (J a od kvs) H → wi σ H Rr)
    (hJ : ∀ {G H : Hp} {a : Addr} {o : Obj} {kvs : List (Key × V)} {ds : List D}, G a ≠ none → H a = some (.frz o (.dK kvs)) → RepL X.K G ds (kvs.map (·.2)) → Wlk X.K G H (sel (kvs.map (·.1)) ds) (J a o kvs))
    (sg : SndG X.K tv gt g) (sb : SndS X.K E tb b) : SndS X.K E (fun D σ H => tLock (tFor wi gt tb) D σ H ∨ tFor wi gt tb D σ H) (sForD sel i g b) := by
  intro G H σ ρ r Dn hw
  obtain ⟨z, e1, hw⟩ := hw.opt
  obtain ⟨G1, a, kvs, o1, hv, hks, hds, cs⟩ := dicAt_ok r e1
  rw [← hks] at hw
  have w := hw.noX
  rcases cs with ⟨hG, hH⟩ | ⟨od, hG, hH⟩
  · refine .inl ⟨a, .dK kvs, hH, True.intro, fun od => hwi σ _ _ a od kvs hv upd_same ?_⟩
    have rl := rel_lock (od := od) o1.rel hG
    refine for_sound sg sb (Out.refl rl) (hJ (by rw [hG]; simp) upd_same hds) ?_
    exact w.mono (fun y _ q => flP_lock (σ0 := σ) o1 hG hH q) fun _ _ q => q.elim
  · refine .inr (hwi σ H _ a od kvs hv hH ?_)
    exact for_sound sg sb o1 (hJ hG hH hds) (w.mono (fun y _ q => q) fun _ _ q => q.elim)
theorem st_forK (hp : PassesOwn (model X.prog X.w) X.A X.env X.xe) (hc : X.calm = true) (hN : X.N[i]? = some x) (hv : Vis X.env.scope x) (hg : PTg X tv tg g) (hb : PSq X E body b) (hd : (x == ("__debug__" : Str)) = false := by decide) (hcd : (x == ("__classdict__" : Str)) = false := by decide)
    (hs : ∀ y, foldedSetIterable (.Name x pos') X.env y = pure y := by intro _; rfl) : PSt X E (.For tg (.Name x pos') body [] pos) (sForD (fun ks _ => keysD ks) i g b) := by
  obtain ⟨gt, pg, sg⟩ := hg.ex
  obtain ⟨tb, pb, sb⟩ := hb.ex
  have ps := ps_for (pos := pos) hp hc (pi_keys (tg := tg) (pe_var (i := i) (pos := pos') hN hv hd hcd)) pg pb hs
  exact ⟨_, ps_or (ps_lock ps) ps, forD_core (fun a o kvs => Itk a o kvs) (fun σ H Rr a od kvs h1 h2 h3 => ⟨_, h1, a, od, rfl, .inl ⟨kvs, h2, h3⟩⟩) (fun h1 h2 _ => wlk_keysD h1 h2) sg sb⟩
theorem st_forI (hp : PassesOwn (model X.prog X.w) X.A X.env X.xe) (hc : X.calm = true) (hN : X.N[i]? = some x) (hv : Vis X.env.scope x) (hg : PTg X tv (.Tuple elts kk tpos) g) (hb : PSq X E body b) (hd : (x == ("__debug__" : Str)) = false := by decide) (hcd : (x == ("__classdict__" : Str)) = false := by decide)
    (hbase : attributeBase (.Name x pos') "items" X.env (eval (.Name x pos') X.env) = eval (.Name x pos') X.env := by rfl) (hline : (apos.endLine == cpos.line) = true := by rfl)
    (hs : ∀ y, foldedSetIterable (.Call (.Attribute (.Name x pos') "items" apos) [] [] cpos) X.env y = pure y := by intro _; rfl) : PSt X E (.For (.Tuple elts kk tpos) (.Call (.Attribute (.Name x pos') "items" apos) [] [] cpos) body [] pos) (sForD itemsD i g b) := by
  obtain ⟨gt, pg, sg⟩ := hg.ex
  obtain ⟨tb, pb, sb⟩ := hb.ex
  have ps := ps_for (pos := pos) hp hc (pi_items (elts := elts) (kk := kk) (tpos := tpos) (pe_var (i := i) (pos := pos') hN hv hd hcd) hbase hline) pg pb hs
  exact ⟨_, ps_or (ps_lock ps) ps, forD_core (fun a o kvs => Iti a o kvs) (fun σ H Rr a od kvs h1 h2 h3 => ⟨_, h1, a, od, kvs, rfl, h2, h3⟩) (fun h1 h2 h3 => wlk_itemsD h1 h2 h3) sg sb⟩
/-! ### a list comprehension over the keys -/
variable {elt c : Expr} {scope : Scope} {own : List (Str × Nat)} {p : S → R (Bool × S)} {fe : EF}
@[simp] def eLcD (vs : List Nat) (sel : List Key → List D → List D) (i : Nat) (g : D → S → Option S) (p : S → R (Bool × S)) (fe : EF) : EF := fun ρ => ofO (dicAt i ρ) >>= fun z => noX (if calmSl z.2 vs = true then lcL vs g p fe (sel z.1.1 z.1.2) [] (wipeS z.2 vs) >>= fun y => .ok (.tmp (.lst y.1), rst z.2 y.2 vs) else .no)
theorem lcD_core {gt : TG} {tt : TT} {wi : TI} {vs : List Nat} {sel : List Key → List D → List D} (J : Addr → Obj → List (Key × V) → It)
    (hwi : ∀ (σ : St) (H : Hp) (Rr : It → Hp → Prop) (a : Addr) (od : Obj) (kvs : List (Key × V)), σ[i]? = some (some (.ref a)) → H a = some (.frz od (.dK kvs)) → Rr (J a od kvs) H → wi σ H Rr)
    (hJ : ∀ {G H : Hp} {a : Addr} {o : Obj} {kvs : List (Key × V)} {ds : List D}, G a ≠ none → H a = some (.frz o (.dK kvs)) → RepL X.K G ds (kvs.map (·.2)) → Wlk X.K G H (sel (kvs.map (·.1)) ds) (J a o kvs))
    (hv : ∀ i ∈ tv, i ∈ vs) (mu : ∀ d ρ ρ', g d ρ = some ρ' → Lse ρ ρ') (st : SndT X.K W0 tt p) : Snd X.K E (fun σ H Q => tLockE (tLc wi (gF X.K tv g) tt (tF X.K W0 fe) vs) σ H Q ∨ tLc wi (gF X.K tv g) tt (tF X.K W0 fe) vs σ H Q) (eLcD vs sel i g p fe) := by
  intro G H σ ρ r Q hw
  obtain ⟨z, e1, hw⟩ := hw.opt
  obtain ⟨G1, a, kvs, o1, hvv, hks, hds, cs⟩ := dicAt_ok r e1
  rw [← hks] at hw
  have w := hw.noX
  rcases cs with ⟨hG, hH⟩ | ⟨od, hG, hH⟩
  · refine .inl ⟨a, .dK kvs, hH, True.intro, fun od => hwi σ _ _ a od kvs hvv upd_same ?_⟩
    have rl := rel_lock (od := od) o1.rel hG
    have key : tLc (fun _ _ Rr => Rr (J a od kvs) (upd H a (.frz od (.dK kvs)))) (gF X.K tv g) tt (tF X.K W0 fe) vs σ (upd H a (.frz od (.dK kvs))) (fun v H' => H' a = some (.frz od (.dK kvs)) ∧ Q v (upd H' a (.dK kvs))) := by
      refine lc_sound (E := E) (z := (sel (kvs.map (·.1)) z.1.2, z.2)) hv mu st (Out.refl rl) (hJ (by rw [hG]; simp) upd_same hds) ?_
      refine w.mono (fun y _ q v G' H' o hh => ?_) fun _ _ q => q.elim
      obtain ⟨e, o'⟩ := out_unlock o1.rel o hG hH
      exact ⟨e, q v G' _ (o1.trans o') ((hold_unlock o.rel hh (by rw [o.stp.gg _ _ hG]; simp)).back o1.stp.thr)⟩
    exact key
  · refine .inr (hwi σ H _ a od kvs hvv hH ?_)
    have key : tLc (fun _ _ Rr => Rr (J a od kvs) H) (gF X.K tv g) tt (tF X.K W0 fe) vs σ H Q := lc_sound (E := E) (z := (sel (kvs.map (·.1)) z.1.2, z.2)) hv mu st o1 (hJ hG hH hds) (w.mono (fun y _ q => q) fun _ _ q => q.elim)
    exact key
theorem pr_lcK {vs : List Nat} {hs0 : X.calm = true} (hN : X.N.Nodup) (hNi : X.N[i]? = some x) (hvi : Vis X.env.scope x) (ok : BlkOk X.N X.env.scope scope own) (hv : ∀ i ∈ tv, i ∈ vs)
    (hg : ∀ (s : Shared) (H : Hp) (C : Addr) (cl : List (Str × Addr)) (fp : List Addr), PTg (X.blk s H scope (compEnvC scope cl C X.env) fp) tv tg g)
    (ht : ∀ (s : Shared) (H : Hp) (C : Addr) (cl : List (Str × Addr)) (fp : List Addr), PB (X.blk s H scope (compEnvC scope cl C X.env) fp) W0 c p)
    (he : ∀ (s : Shared) (H : Hp) (C : Addr) (cl : List (Str × Addr)) (fp : List Addr), PR (X.blk s H scope (compEnvC scope cl C X.env) fp) W0 elt fe) (hd : (x == ("__debug__" : Str)) = false := by decide) (hcd : (x == ("__classdict__" : Str)) = false := by decide)
    (hvs : own.map (·.2) = vs := by rfl) (hs : ∀ y, foldedSetIterable (.Name x pos') X.env y = pure y := by intro _; rfl) :
    PR X E (.ListComp elt [⟨tg, .Name x pos', [c], 0⟩] scope pos) (eLcD vs (fun ks _ => keysD ks) i g p fe) := by
  subst hvs
  have pe := pe_lc (pos := pos) (elt := elt) (ifs := [c]) (g := gF X.K tv g) (tt := tFB X.K W0 p) (te := tF X.K W0 fe) hs0 hN (pi_keys (tg := tg) (pe_var (i := i) (pos := pos') hNi hvi hd hcd)) ok (fun s H C cl fp => (hg s H C cl fp).pg) (fun s H C cl fp => pts_one (ht s H C cl fp).pt) (fun s H C cl fp => (he s H C cl fp).pe) hs
  exact ⟨_, pe_or (pe_lock pe) pe, lcD_core (gt := gF X.K tv g) (fun a o kvs => Itk a o kvs) (fun σ H Rr a od kvs h1 h2 h3 => ⟨_, h1, a, od, rfl, .inl ⟨kvs, h2, h3⟩⟩) (fun h1 h2 _ => wlk_keysD h1 h2) hv (hg X.s_0 X.H_0 0 [] []).mu (tt := tFB X.K W0 p) fun G H σ ρ r Q w => ⟨G, ρ, r, w⟩⟩
end
end BR
set_option Elab.async false
set_option linter.all false
set_option maxRecDepth 100000
set_option maxHeartbeats 4000000
namespace L2
open PySem PySem.Spec PyProof.Rows
theorem preSum_list : ∀ (is : List Int) (n : Nat), n ≤ is.length → preSum (fun i => is.getD i 0) n = (is.take n).sum := by
  intro is n
  induction n with
  | zero => intro _; simp [preSum]
  | succ n ih =>
    intro h
    have hn : n < is.length := h
    rw [preSum, ih (by omega), List.take_add_one, List.getElem?_eq_getElem hn, List.sum_append, List.getD_eq_getElem?_getD, List.getElem?_eq_getElem hn]
    simp
section
variable {X : Cx} {o : Expr} {p pos apos mpos : Pos} {td : TE}
/-- sum(o.values()), a dict with int values -/
def tSumVals (td : TE) : TE := fun σ H Q => td σ H fun x H1 => ∃ (a : Addr) (kvs : List (Key × V)) (is : List Int), x = V.ref a ∧ Rd H1 a (.dK kvs) ∧ kvs.map (·.2) = is.map V.int ∧ Q (.int is.sum) H1
theorem pe_sumVals (hc : X.calm = true) (hg : Gl X "sum") (hm : X.mg "sum" = none) (hd : PE X o td) (hbase : attributeBase o "values" X.env (eval o X.env) = eval o X.env := by rfl) (hline : (apos.endLine == mpos.line) = true := by rfl)
    (hse : starEach [Expr.Call (.Attribute o "values" apos) [] [] mpos] X.env = [(false, eval (Expr.Call (.Attribute o "values" apos) [] [] mpos) X.env)] := by rfl) :
    PE X (.Call (.Name "sum" p) [.Call (.Attribute o "values" apos) [] [] mpos] [] pos) (tSumVals td) := by
  refine ⟨fun pins s σ H Q I h => ?_⟩
  refine wpAny_Call_Name_kw (ld_blt I hg hm (u := .builtin "sum") (by first | rfl | decide +kernel) ?_ (by first | decide +kernel | decide) (by first | decide +kernel | decide))
  rw [hse]
  refine PySem.callWith_builtin1 (wpAny_Call_method0_late hbase hline (thn (hd.run pins s σ H _ I h) fun v s1 ⟨x, H1, I1, r1, a, kvs, is, ex, ha, hv, q⟩ => ?_))
  subst ex
  obtain rfl : v = Value.ref a := r1
  obtain ⟨_, hsys, vs, rel, dof⟩ := dk_rd I1.hok ha
  obtain ⟨ep, dat⟩ := dof.dictAt
  have dat' := dat
  obtain ⟨ob, es, ho, ex, hdat, hko, hpr, hnd⟩ := dat'
  refine ⟨"dict", "dict.values", F.plainAttrs_dict, F.slot_dict_values, F.type_dict_values, ⟨ob, ho, ex.1⟩, fun b e => ?_, Calls.callWith_builtin rfl (PySem.evalArgs_none ?_)⟩
  · cases e
    exact ⟨ob, ho, ex.2.1⟩
  refine call_meetsIn F.slot_dict_values ⟨ob, ho, ex.1⟩ F.entry_dict_values (F.args_dict_values_1 _) (meets_dict_values (mixKind X.prog X.w) a hsys) ⟨⟨vs, dof⟩, ?_⟩
  have k1 : ∀ b u, s1.heap.get? b = some u → (s1.heap.push { cls := .type "dict_values", data := .fields #[.ref a] }).get? b = some u := fun b u e => Heap.get?_push_of_some _ e
  have dat1 : (s1.heap.push { cls := .type "dict_values", data := .fields #[.ref a] }).DictAt (mixKind X.prog X.w) a vs ep := dat.keep k1
  have hlv : vs.length = is.length := by
    have e1 := congrArg List.length hv
    rw [List.length_map, List.length_map] at e1
    rw [← e1]
    exact (KV.length rel).symm
  have hval : ∀ (i : Nat) (v : Value), (∃ k, vs[i]? = some (k, v)) → ∃ t, v = Value.int (is.getD i 0) t := fun i v ⟨k, hk⟩ => by
    obtain ⟨x, h1, h2⟩ := KV.at' rel hk
    have e1 : (kvs.map (·.2))[i]? = some x := by rw [List.getElem?_map, h1] <;> rfl
    rw [hv, List.getElem?_map] at e1
    obtain ⟨j, hj, e2⟩ := Option.map_eq_some_iff.mp e1
    subst e2
    obtain ⟨t, e3⟩ := h2
    refine ⟨t, ?_⟩
    rw [e3, List.getD_eq_getElem?_getD, hj] <;> rfl
  refine call_sum_walkAnyS (wpAny_pyIter_values (v := s1.heap.objs.size) (d := a) ⟨_, Heap.get?_push_size _ rfl, rfl, rfl⟩ dat1 ?_)
  have hlt : a < s1.heap.objs.size := Heap.lt_size ho
  have hsz : (s1.heap.push { cls := .type "dict_values", data := .fields #[.ref a] }).objs.size = s1.heap.objs.size + 1 := Heap.size_push _ _
  refine ⟨_, _, _, _, _, _, _, fun i => is.getD i 0, rfl, (Walks.dictValues (knd := mixKind X.prog X.w) (A := X.A.in1) (I.ok.hd hc) (s1.heap.push { cls := .type "dict_values", data := .fields #[.ref a] }).objs.size a (by rw [hsz]; exact Nat.ne_of_lt (Nat.lt_succ_of_lt hlt)) vs ep).toS,
    ⟨⟨_, Heap.get?_push_size _ rfl, rfl, rfl⟩, dat1.keep fun b u e => Heap.get?_push_of_some _ e⟩, fun b hb => ?_, hval, fun s' t' hm => ?_⟩
  · show b < ((s1.heap.push _).push _).objs.size
    rw [Heap.size_push, Heap.size_push]
    rw [hsz] at hb
    rcases List.mem_cons.mp hb with e | hb
    · rw [e]
      exact Nat.lt_succ_self _
    · have e : b = a := List.mem_singleton.mp hb
      rw [e]
      exact Nat.lt_succ_of_lt (Nat.lt_succ_of_lt hlt)
  · rw [Moved.eq_with hm]
    have es : preSum (fun i => is.getD i 0) vs.length = is.sum := by
      rw [hlv, preSum_list is is.length (Nat.le_refl _), List.take_length]
    rw [es]
    refine ⟨.int _, H1, I1.kept (t' := s'.toks) fun b u e => hm.heap b u (fun hmem => ?_) (Heap.get?_push_of_some _ (k1 b u e)), ⟨t', rfl⟩, q⟩
    have e1 : b = (s1.heap.push { cls := .type "dict_values", data := .fields #[.ref a] }).objs.size := List.mem_singleton.mp hmem
    have e2 := Heap.lt_size e
    rw [hsz] at e1
    rw [e1] at e2
    exact absurd e2 (Nat.not_lt.mpr (Nat.le_succ _))
end
end L2
namespace BR
open PySem L2
section
variable {X : Cx} {E : WX} {e o k : Expr} {f fo fk : EF} {pos pos' spos apos cpos mpos p : Pos} {x m : Str} {es : List Expr}
@[simp] def eSumV (fo : EF) : EF := fun ρ => fo ρ >>= fun z => ofO (look z.1 z.2) >>= fun d => ofO (asDic d) >>= fun c => ofO (intsD c.2) >>= fun is => .ok (.val (.int is.sum), z.2)
theorem pr_sumVals (hc : X.calm = true) (hg : Gl X "sum") (hm : X.mg "sum" = none) (h : PR X E o fo) (hbase : attributeBase o "values" X.env (eval o X.env) = eval o X.env := by rfl) (hline : (apos.endLine == mpos.line) = true := by rfl)
    (hse : starEach [Expr.Call (.Attribute o "values" apos) [] [] mpos] X.env = [(false, eval (Expr.Call (.Attribute o "values" apos) [] [] mpos) X.env)] := by rfl) :
    PR X E (.Call (.Name "sum" p) [.Call (.Attribute o "values" apos) [] [] mpos] [] pos) (eSumV fo) := by
  obtain ⟨t, pe, s⟩ := h.ex
  refine ⟨_, pe_sumVals hc hg hm pe hbase hline hse, fun G H σ ρ r Q hw => s G H σ ρ r _ (hw.bind.mono (fun z _ q v G1 H1 o1 h1 => ?_) fun _ _ q => q)⟩
  obtain ⟨d, e1, q1⟩ := q.opt
  obtain ⟨c, e2, q2⟩ := q1.opt
  obtain ⟨is, e3, q3⟩ := q2.opt
  have rp := hold_look o1.rel h1 e1
  rw [asDic_eq e2] at rp
  obtain ⟨a, kvs, rfl, rd, hks, hds⟩ := rp.dic o1.rel.sub
  exact ⟨a, kvs, is, rfl, rd, intsD_rep hds e3, q3 _ G1 H1 o1 (Hold.val rep_int)⟩
/-! ### text methods -/
def strsD : List D → Option (List Str)
  | [] => some []
  | .str b :: ds => (strsD ds).map (b :: ·)
  | _ => none
theorem strsD_rep {K : PySem.W.Frag} {G : Hp} : ∀ {ds : List D} {vs : List V} {bs : List Str}, RepL K G ds vs → strsD ds = some bs → vs = bs.map V.str
  | [], vs, bs, h, e => by cases e; exact repL_nil.mp h
  | d :: ds, vs, bs, h, e => by
    obtain ⟨v, vs', rfl, h1, h2⟩ := repL_cons.mp h
    cases d with
    | str b =>
      have e' : (strsD ds).map (b :: ·) = some bs := e
      cases q : strsD ds with
      | none => rw [q] at e'; cases e'
      | some bs' =>
        rw [q] at e'; cases e'
        unfold Rep at h1
        rw [h1, strsD_rep h2 q]; rfl
    | _ => cases e
/-- a method of a text with one argument, by values -/
def MtD (K : PySem.W.Frag) (r : V → List V → Hp → VK → Prop) (g : Str → D → Option Rz) : Prop := ∀ (G H : Hp) (a : Str) (y : D) (w : V), Sub G H → RepP K G H y w → ∀ (z : Rz) (Q : VK), g a y = some z → ResP K G H Q z → r (.str a) [w] H Q
@[simp] def asStr : Hd → Option Str
  | .val (.str x) => some x
  | _ => none
theorem asStr_eq {h : Hd} {i : Str} (e : asStr h = some i) : h = .val (.str i) := by
  cases h with
  | val d => cases d <;> cases e; rfl
  | _ => cases e
@[simp] def eM1 (g : Str → D → Option Rz) (fo f : EF) : EF := fun ρ => fo ρ >>= fun z => ofO (asStr z.1) >>= fun a => f z.2 >>= fun y => ofO (look y.1 y.2) >>= fun d => ofO (g a d) >>= fun r => fin r y.2
theorem pr_m1 {id : String} {r : V → List V → Hp → VK → Prop} {g : Str → D → Option Rz} (slot : Slot "str" m id) (ty : typeOf (.builtin id) = pure (.type "method_descriptor")) (rule : MtR X id r) (hg : MtD X.K r g) (ho : PR X E o fo) (h : PR X E e f)
    (hs : starEach [e] X.env = [(false, eval e X.env)] := by rfl) (hbase : attributeBase o m X.env (eval o X.env) = eval o X.env := by rfl) (hline : (apos.endLine == pos.line) = true := by rfl) : PR X E (.Call (.Attribute o m apos) [e] [] pos) (eM1 g fo f) := by
  obtain ⟨to, po, so⟩ := ho.ex
  obtain ⟨t, pe, s⟩ := h.ex
  refine ⟨_, pe_m1 slot ty rule po pe hs hbase hline, fun G H σ ρ r Q hw => so G H σ ρ r _ (hw.bind.mono (fun z _ q v G1 H1 o1 h1 => ?_) fun _ _ q => q)⟩
  obtain ⟨a, ea, q1⟩ := q.opt
  rw [asStr_eq ea] at h1
  have h1' : Rep X.K G1 (.str a) v := h1
  unfold Rep at h1'
  subst h1'
  refine ⟨⟨a, rfl⟩, s G1 H1 σ z.2 o1.rel _ (q1.bind.mono (fun y _ q2 w G2 H2 o2 h2 => ?_) fun _ _ q2 => q2.step o1)⟩
  obtain ⟨d, ed, q3⟩ := q2.opt
  obtain ⟨rz, ez, q4⟩ := q3.opt
  exact hg G2 H2 a d w o2.rel.sub (hold_look o2.rel h2 ed) rz Q ez (fin_ok (o1.trans o2) q4)
def dJoin (a : Str) (d : D) : Option Rz := match d with
  | .lst ds => (strsD ds).bind fun ys => if (ys.map (·.length)).sum + ys.length * a.length ≤ 16777216 then some (.im (.str (Txt.join a ys))) else none
  | _ => none
theorem d_join {K : PySem.W.Frag} : MtD K (fun x xs H Q => ∃ a p, ∃ ys : List Str, x = .str a ∧ xs = [.ref p] ∧ (SqL K H p (ys.map V.str) ∨ SqT K H p (ys.map V.str)) ∧ (ys.map (·.length)).sum + ys.length * a.length ≤ 16777216 ∧ Q (.str (Txt.join a ys)) H) dJoin := by
  intro G H a y w s ry z Q e q
  cases y with
  | lst ds =>
    have e' : ((strsD ds).bind fun ys => if (ys.map (·.length)).sum + ys.length * a.length ≤ 16777216 then some (Rz.im (.str (Txt.join a ys))) else none) = some z := e
    cases hs : strsD ds with
    | none => rw [hs] at e'; cases e'
    | some ys =>
      rw [hs] at e'
      replace e' : (if (ys.map (·.length)).sum + ys.length * a.length ≤ 16777216 then some (Rz.im (.str (Txt.join a ys))) else none) = some z := e'
      split at e'
      · rename_i hl
        cases e'
        obtain ⟨ad, vs, rfl, h1, h2⟩ := ry.lst s
        rw [strsD_rep h2 hs] at h1
        exact ⟨a, ad, ys, rfl, rfl, .inl (SqL.of h1), hl, q _ rep_str⟩
      · cases e'
  | _ => cases e
def dStarts (a : Str) (d : D) : Option Rz := match d with
  | .str b => some (.im (.bl (Txt.startswith a b)))
  | _ => none
theorem d_starts {K : PySem.W.Frag} : MtD K (fun x xs H Q => ∃ a b, x = .str a ∧ xs = [.str b] ∧ Q (.bl (Txt.startswith a b)) H) dStarts := by
  intro G H a y w s ry z Q e q
  cases y with
  | str b => cases e; have := ry.str; subst this; exact ⟨a, b, rfl, rfl, q _ rep_bl⟩
  | _ => cases e
theorem pr_join (ho : PR X E o fo) (h : PR X E e f) (hs : starEach [e] X.env = [(false, eval e X.env)] := by rfl) (hbase : attributeBase o "join" X.env (eval o X.env) = eval o X.env := by rfl) (hline : (apos.endLine == pos.line) = true := by rfl) :
    PR X E (.Call (.Attribute o "join" apos) [e] [] pos) (eM1 dJoin fo f) := pr_m1 F.slot_str_join F.type_str_join mt_join d_join ho h hs hbase hline
theorem pr_starts (ho : PR X E o fo) (h : PR X E e f) (hs : starEach [e] X.env = [(false, eval e X.env)] := by rfl) (hbase : attributeBase o "startswith" X.env (eval o X.env) = eval o X.env := by rfl) (hline : (apos.endLine == pos.line) = true := by rfl) :
    PR X E (.Call (.Attribute o "startswith" apos) [e] [] pos) (eM1 dStarts fo f) := pr_m1 F.slot_str_startswith F.type_str_startswith mt_startswith d_starts ho h hs hbase hline
/-! ### list.index, flat items -/
def ixF : List V → V → Option Nat
  | [], _ => none
  | z :: ys, y => if eqV z y = true then some 0 else (ixF ys y).map (· + 1)
theorem ixF_ok : ∀ {ys : List V} {y : V} {j : Nat}, ixF ys y = some j → ∃ z, ys[j]? = some z ∧ eqV z y = true ∧ ∀ (m : Nat) (z' : V), m < j → ys[m]? = some z' → eqV z' y = false
  | [], y, j, h => by cases h
  | z :: ys, y, j, h => by
    have h' : (if eqV z y = true then some 0 else (ixF ys y).map (· + 1)) = some j := h
    by_cases e : eqV z y = true
    · rw [if_pos e] at h'
      cases h'
      exact ⟨z, rfl, e, fun m z' hm => absurd hm (Nat.not_lt_zero m)⟩
    · rw [if_neg e] at h'
      cases q : ixF ys y with
      | none => rw [q] at h'; cases h'
      | some j' =>
        rw [q] at h'; cases h'
        obtain ⟨z1, h1, h2, h3⟩ := ixF_ok q
        refine ⟨z1, by simpa using h1, h2, fun m z' hm hz => ?_⟩
        cases m with
        | zero => simp at hz; subst hz; simpa using e
        | succ m => exact h3 m z' (Nat.lt_of_succ_lt_succ hm) (by simpa using hz)
def dIndex (d x : D) : Option Int := match d with
  | .lst ds => (flL ds).bind fun ys => (fl x).bind fun y => (ixF ys y).map fun (j : Nat) => (j : Int)
  | _ => none
@[simp] def eIndex (fo f : EF) : EF := fun ρ => fo ρ >>= fun z => ofO (look z.1 z.2) >>= fun d0 => ofO (asL d0) >>= fun _ => f z.2 >>= fun y => ofO (look z.1 y.2) >>= fun d => ofO (look y.1 y.2) >>= fun x => ofO (dIndex d x) >>= fun j => .ok (.val (.int j), y.2)
theorem pr_index (ho : PR X E o fo) (h : PR X E e f) (hbase : attributeBase o "index" X.env (eval o X.env) = eval o X.env := by rfl)
    (hfew : ((backTo cpos (starEach (e :: []) X.env)).all (fun x => !x.1) && (backToKw cpos (keywordEach [] X.env)).all (fun x => x.1.isSome)
      && decide ((e :: []).length + ([] : List Keyword).length + (if ([] : List Keyword).isEmpty then 0 else 1) < 30)) = true := by rfl) (hline : (apos.endLine == cpos.line) = true := by rfl) (hs : starEach (e :: []) X.env = (false, eval e X.env) :: starEach [] X.env := by rfl) :
    PR X E (.Call (.Attribute o "index" apos) [e] [] cpos) (eIndex fo f) := by
  obtain ⟨to, po, so⟩ := ho.ex
  obtain ⟨t, pe, s⟩ := h.ex
  refine ⟨_, pe_bm PySem.F.plainAttrs_list PySem.F.slot_list_index PySem.F.type_list_index mt_index po (pa_cons pe pa_nil hs) hbase hfew hline hs rfl, fun G H σ ρ r Q hw => so G H σ ρ r _ (hw.bind.mono (fun z _ q v G1 H1 o1 h1 => ?_) fun _ _ q => q)⟩
  obtain ⟨d0, ed0, q1⟩ := q.opt
  obtain ⟨l0, el0, q2⟩ := q1.opt
  have r0 := hold_look o1.rel h1 ed0
  rw [asL_eq el0] at r0
  obtain ⟨a, vs0, rfl, ha0, _⟩ := r0.lst o1.rel.sub
  refine ⟨.inl ⟨rfl, vs0, SqL.of ha0⟩, s G1 H1 σ z.2 o1.rel _ (q2.bind.mono (fun y _ q3 w G2 H2 o2 h2 => ?_) fun _ _ q3 => q3.step o1)⟩
  obtain ⟨d, ed, q4⟩ := q3.opt
  obtain ⟨xx, ex, q5⟩ := q4.opt
  obtain ⟨j, ej, q6⟩ := q5.opt
  have r1 := hold_look o2.rel (h1.pers o2) ed
  have r2 := hold_look o2.rel h2 ex
  cases d with
  | lst ds =>
    have ej' : ((flL ds).bind fun ys => (fl xx).bind fun y => (ixF ys y).map fun (j : Nat) => (j : Int)) = some j := ej
    cases e1 : flL ds with
    | none => rw [e1] at ej'; cases ej'
    | some ys =>
      rw [e1] at ej'
      cases e2 : fl xx with
      | none => rw [e2] at ej'; cases ej'
      | some yv =>
        rw [e2] at ej'
        cases e3 : ixF ys yv with
        | none =>
          replace ej' : (ixF ys yv).map (fun (j : Nat) => (j : Int)) = some j := ej'
          rw [e3] at ej'; cases ej'
        | some jn =>
          replace ej' : (ixF ys yv).map (fun (j : Nat) => (j : Int)) = some j := ej'
          rw [e3] at ej'; cases ej'
          obtain ⟨a', vs, ea, ha, hds⟩ := r1.lst o2.rel.sub
          cases ea
          obtain ⟨rfl, f1⟩ := flL_rep hds e1
          obtain ⟨rfl, f2⟩ := fl_rep r2 e2
          obtain ⟨zz, g1, g2, g3⟩ := ixF_ok e3
          exact ⟨a, vs, w, jn, zz, rfl, rfl, SqL.of ha, f2, f1, g1, g2, g3, q6 _ G2 H2 (o1.trans o2) (Hold.val rep_int)⟩
  | _ => cases ej
end
end BR
set_option Elab.async false
set_option linter.all false
set_option maxRecDepth 100000
set_option maxHeartbeats 4000000
namespace BR
open PySem L2

/-! ## a dict comprehension without a test -/
def dcL (vs : List Nat) (g : D → S → Option S) (fk fe : EF) : List D → (List Key × List D) → S → R ((List Key × List D) × S)
  | [], acc, ρ => .ok (acc, ρ)
  | d :: ds, acc, ρ => ofO (g d ρ) >>= fun ρ1 => noX (fk ρ1) >>= fun z => noX (eV fe z.2) >>= fun y => ofO (asKey z.1) >>= fun k => if acc.1.length < sizeLine then dcL vs g fk fe ds (putDk acc.1 k, putDx acc.1 acc.2 k y.1) (wipeS y.2 vs) else .no
@[simp] def eDc (vs : List Nat) (it : S → R (List D × S)) (g : D → S → Option S) (fk fe : EF) : EF := fun ρ => it ρ >>= fun z => if calmSl z.2 vs = true then dcL vs g fk fe z.1 ([], []) (wipeS z.2 vs) >>= fun y => .ok (.tmp (.dic y.1.1 y.1.2), rst z.2 y.2 vs) else .no
section
variable {J : It} {n : Nat} {G : Hp → Prop} {Y : Nat → Hp → V → Hp → Prop}
theorem dc_it (w : Walk J n G Y) {g : TG} {tt : TT} {tk tv : TE} {vs : List Nat} {σ : St} {H1 : Hp} {D : Addr} {Qd : Hp → Prop} (Pv : Nat → Hp → Prop) (h0 : Pv 0 (upd H1 D (.dK []))) (hG : ∀ i H, i ≤ n → Pv i H → G H)
    (hs : ∀ i x H H', i < n → Pv i H → Y i H x H' → g x (wipe σ vs) H' fun σ2 H2 => wipe σ2 vs = wipe σ vs ∧ tt σ2 H2 fun b H3 =>
      if b = true then tk σ2 H3 fun y H4 => tv σ2 H4 fun z H5 => ∃ kvs k, y = kV k ∧ H5 D = some (.dK kvs) ∧ kvs.length < sizeLine ∧ Pv (i + 1) (upd H5 D (.dK (putK kvs k z))) else Pv (i + 1) H3) (hd : ∀ H, Pv n H → Qd H) :
    ∃ W : Nat → Nat → Hp → Prop, (∃ m, W 0 m (upd H1 D (.dK []))) ∧ ∀ i m H, W i m H →
      (J.stop i H ∧ Qd H) ∨ (J.go i H ∧ ∃ Nx : Hp → Prop, (∀ H', Nx H' → ∃ m', m' < m ∧ W (i + 1) m' H') ∧ ∀ x H', J.yld i H x H' → g x (wipe σ vs) H' fun σ2 H2 => wipe σ2 vs = wipe σ vs ∧ tt σ2 H2 fun b H3 =>
        if b = true then tk σ2 H3 fun y H4 => tv σ2 H4 fun z H5 => ∃ kvs k, y = kV k ∧ H5 D = some (.dK kvs) ∧ kvs.length < sizeLine ∧ Nx (upd H5 D (.dK (putK kvs k z))) else Nx H3) := by
  refine ⟨fun i m H => m = n - i ∧ i ≤ n ∧ Pv i H, ⟨n, by simp, Nat.zero_le _, h0⟩, ?_⟩
  rintro i m H ⟨rfl, hi, p⟩
  have q := hG i H hi p
  by_cases hlt : i < n
  · refine .inr ⟨w.goes i H hlt q, Pv (i + 1), fun H' p' => ⟨n - (i + 1), by omega, rfl, hlt, p'⟩, fun x H' y => hs i x H H' hlt p (w.yields i H x H' hlt q y)⟩
  · have e : i = n := by omega
    subst e
    exact .inl ⟨w.stops H q, hd H p⟩
end
section
variable {X : Cx} {E : WX} {kx elt tg iter : Expr} {scope : Scope} {own : List (Str × Nat)} {pos : Pos} {it : S → R (List D × S)} {g : D → S → Option S} {fk fe : EF} {tv : List Nat}
theorem dc_sound {K : PySem.W.Frag} {vs : List Nat} (hv : ∀ i ∈ tv, i ∈ vs) (mu : ∀ d ρ ρ', g d ρ = some ρ' → Lse ρ ρ') {G H : Hp} {σ : St} {ρ : S} {Q : VK} {z : List D × S} {J : It} {G1 H1 : Hp} (o1 : Out K G H σ ρ G1 H1 z.2) (wk : Wlk K G1 H1 z.1 J)
    (q : Wp (if calmSl z.2 vs = true then dcL vs g fk fe z.1 ([], []) (wipeS z.2 vs) >>= fun y => R.ok (Hd.tmp (.dic y.1.1 y.1.2), rst z.2 y.2 vs) else R.no) (fun z => ∀ v G' H', Out K G H σ ρ G' H' z.2 → Hold K H G' H' σ z.2 z.1 v → Q v H') (ExE K E G H σ ρ)) : tDc (fun _ _ Rr => Rr J H1) (gF K tv g) tYes (tF K W0 fk) (tF K W0 fe) vs σ H Q := by
  split at q
  rotate_left
  · exact q.elim
  rename_i hc
  intro Da hD
  obtain ⟨Gd, Y, wk, hG, hY⟩ := wk.ex
  have q := q.bind
  have hgD : G1 Da = none := o1.rel.sub.none hD
  have rw0 : Rel K G1 H1 (L2.wipe σ vs) (wipeS z.2 vs) := o1.rel.wipe
  have hDn : ∀ {a : Addr}, ads H1 (L2.wipe σ vs) (wipeS z.2 vs) a → a ≠ Da := fun h e => (rw0.adsH h).1 (by rw [e]; exact hD)
  have mw0 : ∀ j, isMut (wipeS z.2 vs) j → j ∉ vs := fun j ⟨d, m⟩ c => by
    rw [wipeS_at] at m
    by_cases hl : j < z.2.length
    · rw [if_pos ⟨c, hl⟩] at m; rcases m with m | m <;> cases m
    · rw [if_neg fun z => hl z.2, List.getElem?_eq_none (by omega)] at m; rcases m with m | m <;> cases m
  refine dc_it wk (fun i H' => ∃ G' ρ' acc kvs, Out K G1 H1 (L2.wipe σ vs) (wipeS z.2 vs) G' H' ρ' ∧ G' Da = none ∧ H' Da = some (.dK kvs) ∧ ¬ ads H' (L2.wipe σ vs) ρ' Da ∧ kvs.map (·.1) = acc.1 ∧ RepL K G' acc.2 (kvs.map (·.2)) ∧ (∀ b o, G1 b ≠ none → H1 b = some o → H' b = some o) ∧
      Wp (dcL vs g fk fe (z.1.drop i) acc ρ') (fun y => ∀ v G' H', Out K G H σ ρ G' H' (rst z.2 y.2 vs) → Hold K H G' H' σ (rst z.2 y.2 vs) (.tmp (.dic y.1.1 y.1.2)) v → Q v H') (ExE K E G H σ ρ)) ?_ ?_ ?_ ?_
  · refine ⟨G1, wipeS z.2 vs, ([], []), [], Out.new rw0 hD, hgD, upd_same, fun h => hDn (rw0.ads_new hD h) rfl, rfl, .nil, fun b o hb ho => ?_, q⟩
    rw [upd_ne (ne_of_none ho hD)]; exact ho
  · rintro i H' _ ⟨G', ρ', acc, us, _, _, _, _, _, _, k, _⟩
    exact hG H' k
  · rintro i x H' H2 hi ⟨G', ρ', acc, us, o, gD, hDD, nD, hks, ra, k, w⟩ y
    obtain ⟨d, ed, G2, hstep, rx⟩ := hY i H' x H2 hi y G' o.stp.gg o.rel.sub
    obtain ⟨o2, gD2, hD2, nD2, k2, sg2⟩ : Out K G1 H1 (L2.wipe σ vs) (wipeS z.2 vs) G2 H2 ρ' ∧ G2 Da = none ∧ H2 Da = some (.dK us) ∧ ¬ ads H2 (L2.wipe σ vs) ρ' Da ∧ (∀ b o, H' b = some o → H2 b = some o) ∧ Same G' G2 := by
      rcases hstep with ⟨rfl, rfl⟩ | ⟨pp, u, hp, rfl, rfl⟩
      · exact ⟨o, gD, hDD, nD, fun _ _ h => h, Same.refl _⟩
      · have zz := Out.lay (o := u) o.rel hp
        have hne : Da ≠ pp := ne_of_none hDD hp
        exact ⟨o.trans zz, by rw [upd_ne hne]; exact gD, by rw [upd_ne hne]; exact hDD, fun h => nD (zz.nw Da h (by rw [hDD]; simp)), fun b u' h => by rw [upd_ne (ne_of_none h hp)]; exact h, zz.stp.gg⟩
    have hd : z.1.drop i = d :: z.1.drop (i + 1) := by
      obtain ⟨h1, h2⟩ := List.getElem?_eq_some_iff.mp ed
      rw [← h2]
      exact List.drop_eq_getElem_cons h1
    rw [hd] at w
    obtain ⟨ρ3, e3, w⟩ := w.opt
    refine ⟨G2, H2, L2.wipe σ vs, ρ', G2, ρ', ρ3, d, (Out.refl o2.rel).s, rx, e3, fun σ3 o3 n3 => ?_⟩
    have hws : L2.wipe σ3 vs = L2.wipe σ vs := wipe_only (n3.on.mono hv)
    refine ⟨hws, ?_⟩
    have mu3 := mu d ρ' ρ3 e3
    have tr3 : ∀ (G4 H4 : Hp) (ρ4 : S), Out K G2 H2 σ3 ρ3 G4 H4 ρ4 → ∀ a, dpa H2 (L2.wipe σ vs) ρ' a → H4 a = H2 a := fun G4 H4 ρ4 o4 a h => by
      by_cases zz : ads H2 σ3 ρ3 a
      · rcases zz with ⟨j, m, e⟩ | zz
        · exact absurd ((n3.kp j (.inl m)).symm.trans e) (o2.rel.dp.ds a j h (mu3.1 j m))
        · exact o4.tre a zz
      · cases e : H2 a with
        | none => exact absurd e (o2.rel.dpaH h).1
        | some u => exact o4.stp.keep a u e zz
    have n3D : ¬ ads H2 σ3 ρ3 Da := fun h => nD2 (o3.nw Da h (by rw [hD2]; simp))
    have ioN : ∀ j ∈ vs, ¬ isIo ρ' j := fun j hj ⟨d, m⟩ => mw0 j (o2.ker.mu j ⟨d, .inr m⟩) hj
    simp only [tYes, if_true]
    refine ⟨G2, ρ3, o3.rel, w.bind.noX.mono (fun b hb w2 vk G4 H4 o4 hk4 => ?_) fun _ _ w2 => w2.elim⟩
    have hD4 : H4 Da = some (.dK us) := o4.stp.keep Da _ hD2 n3D
    have gD4 : G4 Da = none := o4.stp.fr Da (by rw [hD2]; simp) n3D gD2
    have n4D : ¬ ads H4 σ3 b.2 Da := fun h => n3D (o4.nw Da h (by rw [hD2]; simp))
    have keep4 : ∀ bb oo, G1 bb ≠ none → H1 bb = some oo → H4 bb = some oo := fun bb oo h1 h2 => o4.stp.keep bb oo (k2 bb oo (k bb oo h1 h2)) fun zz => by
      have hz := (o3.rel.adsH zz).2
      cases qq : G1 bb with
      | none => exact h1 qq
      | some u' => rw [(o.stp.gg.trans sg2) bb u' qq] at hz; cases hz
    have w3 := w2.bind.noX
    refine ⟨G4, b.2, o4.rel, (Wp.bind w3).mono (fun hh _ w5 v G5 H5 o5 hold => ?_) fun _ _ w5 => w5.elim⟩
    cases es : share hh.1 hh.2 with
    | none => rw [es] at w5; exact w5.elim
    | some y6 =>
      rw [es] at w5
      obtain ⟨d6, ρ6⟩ := y6
      obtain ⟨G6, o6, sg6, rp6⟩ := share_ok o5 hold es
      have w6 : Wp (ofO (asKey b.1) >>= fun k => if acc.1.length < sizeLine then dcL vs g fk fe (z.1.drop (i + 1)) (putDk acc.1 k, putDx acc.1 acc.2 k d6) (wipeS ρ6 vs) else .no) _ _ := w5
      obtain ⟨kk, ekk, w7⟩ := w6.opt
      split at w7
      rotate_left
      · exact w7.elim
      rename_i hsz
      have hD5 : H5 Da = some (.dK us) := o6.stp.keep Da _ hD4 n4D
      have gD6 : G6 Da = none := o6.stp.fr Da (by rw [hD4]; simp) n4D gD4
      refine ⟨us, kk, asKey_v hk4 ekk, hD5, by rw [← hks, List.length_map] at hsz; exact hsz, ?_⟩
      have oA : OutS K G2 H2 (L2.wipe σ vs) ρ' G6 H5 σ3 ρ6 := o3.trans (o4.s.trans o6.s)
      have oW : Out K G2 H2 (L2.wipe σ vs) ρ' G6 H5 (wipeS ρ6 vs) := oA.wiped ioN hws ((mu3.trans o4.ker.lse).trans o6.ker.lse) (tr3 _ _ _ (o4.trans o6)) o2.rel
      have nW : ¬ ads H5 (L2.wipe σ vs) (wipeS ρ6 vs) Da := fun h => nD2 (oW.nw Da h (by rw [hD2]; simp))
      have oB := o2.trans oW
      obtain ⟨p1, p2⟩ := putD_rep (k := kk) (ra.mono (sg2.trans (o4.stp.gg.trans o6.stp.gg))) rp6
      rw [hks] at p1 p2
      refine ⟨G6, wipeS ρ6 vs, _, putK us kk v, oB.app hD gD6 (by rw [hD5]; simp) nW (fun o e => by rw [hD5] at e; cases e; exact dK_stat), gD6, upd_same, ?hnew, p1, p2, fun bb oo h1 h2 => ?_, w7⟩
      case hnew =>
        intro h
        refine nW ?_
        have hk : ∀ b, dpa H5 (L2.wipe σ vs) (wipeS ρ6 vs) b → upd H5 Da (.dK (putK us kk v)) b = H5 b ∧ G6 b = none := fun b h => ⟨upd_ne fun z => nW (by rw [← z]; exact .inr h), (oB.rel.dpaH h).2⟩
        obtain ⟨_, tw⟩ := oB.rel.trees (Same.refl G6) hk (fun _ _ e => ⟨e, rfl⟩) fun i b m h => oB.rel.dp.ds b i h m
        exact h.imp id (tw Da)
      have hne : bb ≠ Da := ne_of_none h2 hD
      rw [upd_ne hne]
      refine o6.stp.keep bb oo (keep4 bb oo h1 h2) fun zz => ?_
      have hz := (o4.rel.adsH zz).2
      cases qq : G1 bb with
      | none => exact h1 qq
      | some u' => rw [(o.stp.gg.trans (sg2.trans o4.stp.gg)) bb u' qq] at hz; cases hz
  · rintro H' ⟨G', ρ', acc, us, o, gD, hDD, nD, hks, ra, k, w⟩
    rw [List.drop_length] at w
    have ou := Out.unwipe o1.rel hc o
    refine w (.ref Da) G' H' (o1.trans ou) ⟨Da, rfl, ⟨gD, _, hDD, us, rfl, hks, ra⟩, o1.stp.thr Da hD, fun h => nD (ads_unwipe o1.rel hc o h)⟩
theorem pr_dc {vs : List Nat} {hs0 : X.calm = true} (hN : X.N.Nodup) (hi : PIt X E tg iter it) (ok : BlkOk X.N X.env.scope scope own) (hv : ∀ i ∈ tv, i ∈ vs)
    (hg : ∀ (s : Shared) (H : Hp) (C : Addr) (cl : List (Str × Addr)) (fp : List Addr), PTg (X.blk s H scope (compEnvC scope cl C X.env) fp) tv tg g)
    (hk : ∀ (s : Shared) (H : Hp) (C : Addr) (cl : List (Str × Addr)) (fp : List Addr), PR (X.blk s H scope (compEnvC scope cl C X.env) fp) W0 kx fk)
    (he : ∀ (s : Shared) (H : Hp) (C : Addr) (cl : List (Str × Addr)) (fp : List Addr), PR (X.blk s H scope (compEnvC scope cl C X.env) fp) W0 elt fe) (hvs : own.map (·.2) = vs := by rfl) (hs : ∀ x, foldedSetIterable iter X.env x = pure x := by intro _; rfl) :
    PR X E (.DictComp kx elt [⟨tg, iter, [], 0⟩] scope pos) (eDc vs it g fk fe) := by
  subst hvs
  obtain ⟨wi, pi, si⟩ := hi.ex
  refine ⟨_, pe_dc (pos := pos) (kx := kx) (vx := elt) (ifs := []) (g := gF X.K tv g) (tk := tF X.K W0 fk) (tv := tF X.K W0 fe) hs0 hN pi ok (fun s H C cl fp => (hg s H C cl fp).pg) (fun s H C cl fp => pts_nil) (fun s H C cl fp => (hk s H C cl fp).pe) (fun s H C cl fp => (he s H C cl fp).pe) hs, fun G H σ ρ r Q hw => si G H σ ρ r _ (hw.bind.mono (fun z _ q J G1 H1 o1 wk => ?_) fun _ _ q => q)⟩
  have key : tDc (fun _ _ Rr => Rr J H1) (gF X.K tv g) tYes (tF X.K W0 fk) (tF X.K W0 fe) (own.map (·.2)) σ H Q := dc_sound hv (hg X.s_0 X.H_0 0 [] []).mu o1 wk q
  exact key
end
/-! ## isinstance -/
/-- the type of a value -/
def tyD : D → Option Value
  | .non => some (.type "NoneType")
  | .bl _ => some (.type "bool")
  | .int _ => some (.type "int")
  | .str _ => some (.type "str")
  | .lst _ => some (.type "list")
  | .scr _ => some (.type "list")
  | .tup _ => some (.type "tuple")
  | .dic _ _ => some (.type "dict")
  | .ins C _ _ => some (.ref C)
  | _ => none
/-- the own classes whose instances may be asked -/
structure ClsI (K : PySem.W.Frag) (C : Addr) : Prop where
  cl : Cls K C
  ha : PySem.W.findIn K (.ref C) "__class__" = some (some (.builtin "object.__class__"))
  hn : PySem.W.specialIn K (.builtin "object.__class__") "__get__" = some (some (.builtin "getset_descriptor.__get__"))
  htk : PySem.W.takesIn K (.builtin "object.__class__") = some true
  hm : PySem.W.mroIn K C (.type "object") = some true
section
variable {K : PySem.W.Frag} {G H : Hp}
def insIn (Cs : List Addr) : D → Bool
  | .ins C _ _ => Cs.any fun c => decide (c = C)
  | .obj _ => false
  | .ty _ => false
  | _ => true
theorem tyD_ok {Cs : List Addr} (hC : ∀ C ∈ Cs, ClsI K C) {d : D} {v : V} {t : Value} (s : Sub G H) (h : RepP K G H d v) (hi : insIn Cs d = true) (e : tyD d = some t) : TyX K H v t := by
  have rdT : ∀ {a : Addr} {vs : List V}, SqT K H a vs → TyX K H (.ref a) (.type "tuple") := by
    intro a vs h
    rcases h with (h | ⟨o, h⟩) | h
    · exact .base (.tup h)
    · exact .fTuple h
    · obtain ⟨o, _, _, e1, e2, _⟩ := h
      exact .kTuple e1 e2
  have rdL : ∀ {a : Addr} {vs : List V}, SqL K H a vs → TyX K H (.ref a) (.type "list") := by
    intro a vs h
    rcases h with (h | ⟨o, h⟩) | h
    · exact .base (.lst h)
    · exact .base (.frz h)
    · obtain ⟨o, _, _, e1, e2, _⟩ := h
      exact .kList e1 e2
  cases d with
  | non => cases e; rw [h.non]; exact .base .non
  | bl b => cases e; rw [h.bl]; exact .base (.bl b)
  | int b => cases e; rw [h.int]; exact .base (.int b)
  | str b => cases e; rw [h.str]; exact .base (.str b)
  | lst ds => cases e; obtain ⟨a, vs, rfl, h1, _⟩ := h.lst s; exact .base (.lst h1)
  | scr ns => cases e; obtain ⟨a, rfl, h1⟩ := h.scr s; exact rdL h1
  | tup ds => cases e; obtain ⟨a, vs, rfl, h1, _⟩ := h.tup s; exact rdT h1
  | dic ks ds =>
    cases e
    obtain ⟨a, kvs, rfl, h1, _⟩ := h.dic s
    rcases h1 with h1 | ⟨o, h1⟩
    · exact .base (.dK h1)
    · exact .fDict h1
  | ins C ns ds =>
    cases e
    obtain ⟨a, dx, fs, rfl, h1, _⟩ := h.ins s
    have hm : C ∈ Cs := by
      have : (Cs.any fun c => decide (c = C)) = true := hi
      obtain ⟨c, hc, e⟩ := List.any_eq_true.mp this
      have := of_decide_eq_true e
      rw [← this]; exact hc
    have q := hC C hm
    exact .base (.ins h1 q.cl q.ha q.hn q.htk q.hm)
  | ty n => cases e
  | obj a => cases e
end
section
variable {X : Cx} {K : PySem.W.Frag}
/-- what may be asked, and the answer -/
structure IsiT (K : PySem.W.Frag) (us : List Value) (ok isi : D → Bool) : Prop where
  an : ∀ (d : D) (t : Value), ok d = true → tyD d = some t → PySem.W.kitAny K t us = some (isi d)
  ty : ∀ (d : D) (G H : Hp) (v : V), Sub G H → RepP K G H d v → ok d = true → ∃ t, tyD d = some t ∧ TyX K H v t
def clsDs : List Value → List D → Bool
  | [], [] => true
  | .type n :: us, .ty m :: ds => decide (n = m) && clsDs us ds
  | .ref C :: us, .obj a :: ds => decide (C = a) && clsDs us ds
  | _, _ => false
theorem clsDs_rep {G : Hp} : ∀ {us : List Value} {ds : List D} {vs : List V}, clsDs us ds = true → RepL K G ds vs → Paired ClsV vs us
  | [], [], vs, _, h => by rw [repL_nil.mp h]; exact .nil
  | [], _ :: _, vs, e, h => by cases e
  | u :: us, [], vs, e, h => by cases u <;> cases e
  | u :: us, d :: ds, vs, e, h => by
    obtain ⟨v, vs', rfl, h1, h2⟩ := repL_cons.mp h
    cases u with
    | type n =>
      cases d with
      | ty m =>
        have e' : (decide (n = m) && clsDs us ds) = true := e
        rw [Bool.and_eq_true] at e'
        have := of_decide_eq_true e'.1
        subst this
        unfold Rep at h1
        rw [h1]
        exact .cons (.ty n) (clsDs_rep e'.2 h2)
      | _ => cases e
    | ref C =>
      cases d with
      | obj m =>
        have e' : (decide (C = m) && clsDs us ds) = true := e
        rw [Bool.and_eq_true] at e'
        have := of_decide_eq_true e'.1
        subst this
        unfold Rep at h1
        rw [h1]
        exact .cons (.own C) (clsDs_rep e'.2 h2)
      | _ => cases e
    | _ => cases e
def rIsiS (K : PySem.W.Frag) : List V → Hp → VK → Prop := fun xs H Q => ∃ (x : V) (tp : Addr) (cs : List V) (t : Value) (us : List Value) (b : Bool), xs = [x, .ref tp] ∧ SqT K H tp cs ∧ Paired ClsV cs us ∧ TyX K H x t ∧ PySem.W.kitAny K t us = some b ∧ Q (.bl b) H
theorem call_isiS : CallR X (.builtin "isinstance") (rIsiS X.K) := by
  intro pins s σ H xs us Q I r h
  obtain ⟨x, tp, cs, t, ws, b, rfl, hT, k, ty, e, q⟩ := h
  obtain ⟨u1, u2, rfl, r1, r2⟩ := vals2 r
  cases (show u2 = Value.ref tp from r2)
  obtain ⟨P, Z, p, hx⟩ := kit_of I r1 ty
  obtain ⟨its, rv, ⟨o, h1, h2, n, h3⟩, _⟩ := I.tuple hT
  have e3 := ClsV.all k rv
  subst e3
  obtain ⟨oc, od, dt, sl⟩ := o
  simp only at h2 h3
  subst h2 h3
  exact PySem.W.kia_tup Z I.kIn p h1 e hx fun tk => ⟨.bl b, H, I.tok tk, rfl, q⟩
def dIsi (us : List Value) (ok isi : D → Bool) : List D → Option Rz
  | [d, .tup ds] => if (ok d && clsDs us ds) = true then some (.im (.bl (isi d))) else none
  | [d, .ty n] => if (ok d && clsDs us [.ty n]) = true then some (.im (.bl (isi d))) else none
  | [d, .obj a] => if (ok d && clsDs us [.obj a]) = true then some (.im (.bl (isi d))) else none
  | _ => none
def rIsiB (K : PySem.W.Frag) : List V → Hp → VK → Prop := fun xs H Q => rIsi K xs H Q ∨ rIsiS K xs H Q
theorem call_isiB : CallR X (.builtin "isinstance") (rIsiB X.K) := CallR.or call_isi call_isiS
theorem kitAny1 {t u : Value} {b : Bool} (h : PySem.W.kitAny K t [u] = some b) : PySem.W.kitOne K t u = some b := by
  unfold PySem.W.kitAny at h
  cases q : PySem.W.kitOne K t u with
  | none => rw [q] at h; cases h
  | some c =>
    rw [q] at h
    cases c with
    | true => exact h
    | false => exact h
theorem d_isi {us : List Value} {ok isi : D → Bool} (T : IsiT K us ok isi) : CallD K (rIsiB K) (dIsi us ok isi) := by
  intro G H ds vs s h z Q e q
  unfold dIsi at e
  split at e
  · obtain ⟨v, w, rfl, rv, rw'⟩ := rpl2 h
    split at e
    · rename_i hb
      rw [Bool.and_eq_true] at hb
      cases e
      obtain ⟨a, us', rfl, h1, h2⟩ := rw'.tup s
      obtain ⟨t, et, tx⟩ := T.ty _ G H v s rv hb.1
      exact .inr ⟨v, a, us', t, us, _, rfl, h1, clsDs_rep hb.2 h2, tx, T.an _ t hb.1 et, q _ rep_bl⟩
    · cases e
  · obtain ⟨v, w, rfl, rv, rw'⟩ := rpl2 h
    split at e
    · rename_i hb
      rw [Bool.and_eq_true] at hb
      cases e
      have hr : RepL K G [_] [w] := .cons (by rw [rw'.ty]; exact rep_ty) .nil
      have pc := clsDs_rep hb.2 hr
      obtain ⟨t, et, tx⟩ := T.ty _ G H v s rv hb.1
      have an := T.an _ t hb.1 et
      cases pc with
      | cons p1 p2 =>
        cases p2
        exact .inl ⟨v, w, t, _, _, rfl, p1, tx, kitAny1 an, q _ rep_bl⟩
    · cases e
  · obtain ⟨v, w, rfl, rv, rw'⟩ := rpl2 h
    split at e
    · rename_i hb
      rw [Bool.and_eq_true] at hb
      cases e
      have hr : RepL K G [_] [w] := .cons (by rw [rw'.obj]; exact rep_obj) .nil
      have pc := clsDs_rep hb.2 hr
      obtain ⟨t, et, tx⟩ := T.ty _ G H v s rv hb.1
      have an := T.an _ t hb.1 et
      cases pc with
      | cons p1 p2 =>
        cases p2
        exact .inl ⟨v, w, t, _, _, rfl, p1, tx, kitAny1 an, q _ rep_bl⟩
    · cases e
  · cases e
/-- plain data: no instance, no class -/
def plD : D → Bool
  | .ins _ _ _ => false
  | .obj _ => false
  | .ty _ => false
  | _ => true
theorem plD_ty {d : D} {G H : Hp} {v : V} (s : Sub G H) (h : RepP K G H d v) (e : plD d = true) : ∃ t, tyD d = some t ∧ TyX K H v t := by
  have key : ∀ t, tyD d = some t → TyX K H v t := fun t et => tyD_ok (Cs := []) (fun C hC => by cases hC) s h (by cases d <;> first | rfl | cases e) et
  cases d <;> first | exact ⟨_, rfl, key _ rfl⟩ | cases e
def isIntD : D → Bool
  | .int _ => true
  | .bl _ => true
  | _ => false
def isBoolD : D → Bool
  | .bl _ => true
  | _ => false
def isStrD : D → Bool
  | .str _ => true
  | _ => false
def isTupD : D → Bool
  | .tup _ => true
  | _ => false
def isLstD : D → Bool
  | .lst _ => true
  | .scr _ => true
  | _ => false
def isSeqD : D → Bool
  | .lst _ => true
  | .scr _ => true
  | .tup _ => true
  | _ => false
def isDicD : D → Bool
  | .dic _ _ => true
  | _ => false
theorem ka1 {a b : String} {r : Bool} (h : kitB a b = some r) : PySem.W.kitAny K (.type a) [.type b] = some r := kitAny_cons (kit_ty h) (fun e => by rw [e]; rfl) fun e => e
theorem ka2 {a b c : String} {r r' : Bool} (h : kitB a b = some r) (h' : kitB a c = some r') : PySem.W.kitAny K (.type a) [.type b, .type c] = some (r || r') := kitAny_cons (kit_ty h) (fun e => by rw [e]; exact ka1 h') fun e => by rw [e]; rfl
theorem isi_int : IsiT K [.type "int"] plD isIntD := ⟨fun d t hp e => by (cases d <;> first | exact Bool.noConfusion hp | (cases e; first | exact ka1 (r := true) (by decide +kernel) | exact ka1 (r := false) (by decide +kernel))), fun d G H v s h e => plD_ty s h e⟩
theorem isi_bool : IsiT K [.type "bool"] plD isBoolD := ⟨fun d t hp e => by (cases d <;> first | exact Bool.noConfusion hp | (cases e; first | exact ka1 (r := true) (by decide +kernel) | exact ka1 (r := false) (by decide +kernel))), fun d G H v s h e => plD_ty s h e⟩
theorem isi_str : IsiT K [.type "str"] plD isStrD := ⟨fun d t hp e => by (cases d <;> first | exact Bool.noConfusion hp | (cases e; first | exact ka1 (r := true) (by decide +kernel) | exact ka1 (r := false) (by decide +kernel))), fun d G H v s h e => plD_ty s h e⟩
theorem isi_tup : IsiT K [.type "tuple"] plD isTupD := ⟨fun d t hp e => by (cases d <;> first | exact Bool.noConfusion hp | (cases e; first | exact ka1 (r := true) (by decide +kernel) | exact ka1 (r := false) (by decide +kernel))), fun d G H v s h e => plD_ty s h e⟩
theorem isi_lst : IsiT K [.type "list"] plD isLstD := ⟨fun d t hp e => by (cases d <;> first | exact Bool.noConfusion hp | (cases e; first | exact ka1 (r := true) (by decide +kernel) | exact ka1 (r := false) (by decide +kernel))), fun d G H v s h e => plD_ty s h e⟩
theorem isi_dic : IsiT K [.type "dict"] plD isDicD := ⟨fun d t hp e => by (cases d <;> first | exact Bool.noConfusion hp | (cases e; first | exact ka1 (r := true) (by decide +kernel) | exact ka1 (r := false) (by decide +kernel))), fun d G H v s h e => plD_ty s h e⟩
theorem isi_seq : IsiT K [.type "list", .type "tuple"] plD isSeqD := ⟨fun d t hp e => by (cases d <;> first | exact Bool.noConfusion hp | (cases e; first | exact ka2 (r := true) (r' := false) (by decide +kernel) (by decide +kernel) | exact ka2 (r := false) (r' := true) (by decide +kernel) (by decide +kernel) | exact ka2 (r := false) (r' := false) (by decide +kernel) (by decide +kernel))), fun d G H v s h e => plD_ty s h e⟩
/-- one own class, asked of its own instances -/
def okC (C : Addr) : D → Bool
  | .ins C' _ _ => decide (C' = C)
  | _ => false
theorem isi_own {C : Addr} (q : ClsI K C) (hk : PySem.W.kitOne K (.ref C) (.ref C) = some true) : IsiT K [.ref C] (okC C) fun _ => true := by
  refine ⟨fun d t hp e => ?_, fun d G H v s h e => ?_⟩
  · cases d with
    | ins C' ns ds =>
      have := of_decide_eq_true (show decide (C' = C) = true from hp)
      subst this
      cases e
      exact kitAny_cons hk (fun e => by cases e) fun _ => rfl
    | _ => cases hp
  · cases d with
    | ins C' ns ds =>
      have := of_decide_eq_true (show decide (C' = C) = true from e)
      subst this
      exact ⟨_, rfl, tyD_ok (Cs := [C']) (fun c hc => by rw [List.mem_singleton.mp hc]; exact q) s h (by simp [insIn]) rfl⟩
    | _ => cases e
end
/-! ## calls with keywords only -/
section
variable {X : Cx} {CX : CXT} {k n : Nat} {f : Addr} {fd : FuncData} {ps ks : List Str} {sp : Sp} {E : St → XK} {x : Str} {p pos : Pos} {kws : List Keyword} {tk : TA} {g : List Value → List Value → List Value} {gV : List V → List V → List V}
def tCallN0 (m : Nat) (sp : Sp) (gV : List V → List V → List V) (E : St → XK) (tk : TA) : TE := fun σ H Q => tk σ H fun zs H2 => zs.length = m ∧ sp (gV [] zs) H2 Q (E σ)
theorem pe_callN0 (F : FnG X.prog X.w X.K X.mg X.base CX k f fd ps sp) (hr : RmG k X.A) (hg : Gl X x) (hm : X.mg x = some (.ref f)) (hk : PySem.W.keepIn X.K (.ref f) = true) (hb : KBn X.K fd ps 0 ks g gV) (hx : ∀ σ, PassesAt CX X σ (E σ))
    (hkw : PK X kws tk) (hall : (backToKw pos (keywordEach kws X.env)).all (·.1.isSome) = true := by rfl) (hks : (backToKw pos (keywordEach kws X.env)).filterMap (·.1) = ks := by rfl)
    (hdb : (x == ("__debug__" : Str)) = false := by decide)
    (hpl : ((backTo pos (starEach [] X.env)).any (·.1) || (backToKw pos (keywordEach kws X.env)).any (·.1.isNone)) = false := by rfl) :
    PE X (.Call (.Name x p) [] kws pos) (tCallN0 ks.length sp gV E tk) := by
  refine ⟨fun pins s σ H Q I h => ?_⟩
  refine PySem.wpAny_Call_Name_kw (ld_glob I hg hm ?_ hdb)
  refine PySem.W.callWith_KW0 (h₀ := X.base) I.ok.mod.kin hk hall (thn (hkw.run pos pins s σ H _ I h) fun ws s2 ⟨zs, H2, I2, rz, l2, q2⟩ => ⟨I2.kIn, ?_⟩) hpl
  rw [hks]
  exact runG (us := []) F hr (hx σ) I2 (hb.to _ [] _ I2.kIn rfl (rz.length.symm.trans l2)) (hb.rel .nil rz) q2
end
@[simp] def sw2 {α : Type} : List α → List α
  | [a, b] => [b, a]
  | l => l
theorem vals_sw2 {zs : List V} {ws : List Value} (h : Vals zs ws) : Vals (sw2 zs) (sw2 ws) := by
  cases h with
  | nil => exact .nil
  | cons a t =>
    cases t with
    | nil => exact .cons a .nil
    | cons b u =>
      cases u with
      | nil => exact .cons b (.cons a .nil)
      | cons c v => exact .cons a (.cons b (.cons c v))
theorem repL_sw2 {K : PySem.W.Frag} {G : Hp} {ds : List D} {vs : List V} (h : RepL K G ds vs) : RepL K G (sw2 ds) (sw2 vs) := by
  cases ds with
  | nil => rw [repL_nil.mp h]; exact .nil
  | cons a ds =>
    obtain ⟨v, vs', rfl, h1, h2⟩ := repL_cons.mp h
    cases ds with
    | nil => rw [repL_nil.mp h2]; exact .cons h1 .nil
    | cons b ds =>
      obtain ⟨w, vs2, rfl, h3, h4⟩ := repL_cons.mp h2
      cases ds with
      | nil => rw [repL_nil.mp h4]; exact .cons h3 (.cons h1 .nil)
      | cons c ds =>
        obtain ⟨u, vs3, rfl, h5, h6⟩ := repL_cons.mp h4
        exact .cons h1 (.cons h3 (.cons h5 h6))
section
variable {X : Cx} {E : WX} {kws : List Keyword} {x : Str} {p pos : Pos} {g : S → R (List D × S)} {ms : List Bool} {own : Bool} {F : FT} {k : Nat} {f : Addr} {fd : FuncData} {ps ks : List Str}
@[simp] def eCallSw (own : Bool) (F : FT) (g : S → R (List D × S)) : EF := fun ρ => g ρ >>= fun z => raiseAt z.2 (F (sw2 z.1)) >>= fun r => .ok (if own = true then .tmp r.1 else .val r.1, z.2)
/-- f(b = .., a = ..) of f(a, b) -/
theorem pr_callSw (Fn : FnG X.prog X.w X.K X.mg X.base (L2.CX X.prog X.w) k f fd ps (spF X.K [false, false] own F)) (hr : RmG k X.A) (hg : Gl X x) (hm : X.mg x = some (.ref f)) (hk : PySem.W.keepIn X.K (.ref f) = true) (hb : KBn X.K fd ps 0 ks (fun _ ws => sw2 ws) (fun _ zs => sw2 zs)) (hx : Takes X E)
    (ha : PKs X E kws g) (hal : ALen g 2) (hkl : ks.length = 2 := by rfl) (hall : (backToKw pos (keywordEach kws X.env)).all (·.1.isSome) = true := by rfl) (hks : (backToKw pos (keywordEach kws X.env)).filterMap (·.1) = ks := by rfl)
    (hdb : (x == ("__debug__" : Str)) = false := by decide) (hpl : ((backTo pos (starEach [] X.env)).any (·.1) || (backToKw pos (keywordEach kws X.env)).any (·.1.isNone)) = false := by rfl) :
    PR X E (.Call (.Name x p) [] kws pos) (eCallSw own F g) := by
  obtain ⟨t, pa, s⟩ := ha.ex
  refine ⟨_, pe_callN0 Fn hr hg hm hk hb (fun σ => passAt hx σ) pa hall hks hdb hpl, fun G H σ ρ r Q hw => s G H σ ρ r _ (hw.bind.mono (fun z hz q vs G1 H1 o1 h1 => ⟨?_, ?_⟩) fun _ _ q => q)⟩
  · rw [← h1.length, hal ρ z hz, hkl]
  · have hl : z.1.length = 2 := hal ρ z hz
    refine call_sh (ms := [false, false]) (ds := sw2 z.1) (by decide) ?_ o1 (repL_sw2 h1) q
    match z.1, hl with
    | [a, b], _ => rfl
end
end BR
set_option Elab.async false
set_option linter.all false
set_option maxRecDepth 100000
set_option maxHeartbeats 4000000
namespace L2
open PySem PySem.Spec PyProof.Rows
/-- the law's promise at the heap behind the top (while nothing is being shown) -/
theorem law_callG {P : Program} {w : World} {K : PySem.W.Frag} {mg mb : Str → Option Value} {CX : CXT} {k : Nat} {fa a : Addr} {fd : FuncData} {x : Str} {sp : Sp} {s₁ : Shared} {vs : List Value} {ns : List Int} (KX : K.In s₁.heap) (hns : s₁.heap.Ns mainGlobals mg)
    (hb : s₁.heap.Ns builtinsNs mb) (hbb : ∀ x : Str, x ≠ "__name__" → mb x = bootBuiltins x) (hlim : s₁.heap.NoLimit) (hg : s₁.gens = #[]) (ha : s₁.heap.get? a = some { cls := .type "list", data := .seq vs.toArray }) (hi : IntsAre vs ns) (hl : ns.length ≤ sizeLine)
    (hr : BR.RmG k callerA) (F : ∀ base : Heap, K.In base → base.Ns mainGlobals mg → BR.FnG P w K mg base CX k fa fd [x] sp) (hbind : ∀ (s : Shared) (u : Value), BindsTo s fd ⟨[u], []⟩ [(x, u)])
    (hsp : ∀ H : Hp, Only H → SqL K H a (ns.map V.int) → sp [.ref a] H (fun v _ => v = .bl true) fun _ _ _ => False) (hCX : ∀ H e s', CX [] H s₁ (fun _ _ _ => False) e s' → False) :
    codeAny (model P w) callerA (.call (.ref fa) ⟨[.ref a], []⟩) (fun r s' => r = .ok (.ret (.bool true)) ∧ OldK s₁.heap s'.heap ∧ s'.os = s₁.os ∧ AllBare s'.gens) s₁ := by
  have rv := vals_ints hi
  have lenV := hi.length
  have main : ∀ H : Hp, Only H ∧ SqL K H a (ns.map V.int) ∧ HOk P w H s₁.heap ∧ (∀ b, H b ≠ none → b = a) ∧ (H a ≠ none → K.lookup a = none) →
      codeAny (model P w) callerA (.call (.ref fa) ⟨[.ref a], []⟩) (fun r s' => r = .ok (.ret (.bool true)) ∧ OldK s₁.heap s'.heap ∧ s'.os = s₁.os ∧ AllBare s'.gens) s₁ := by
    rintro H ⟨hO, hS, hok, hA, hK⟩
    have onlyA : ∀ {b : Addr} {u : HO}, H b = some u → b = a := fun {b u} q => hA b (by rw [q]; simp)
    have noA : ∀ {b : Addr} {o : Obj} {es : Array DictEntry} {ep : Nat}, s₁.heap.get? b = some o → o.data = .dict es ep → H b = none := by
      intro b o es ep e d
      cases q : H b with
      | none => rfl
      | some u =>
        rw [onlyA q, ha] at e
        cases e
        cases (show Data.seq vs.toArray _ = Data.dict es ep from d)
    have nsK : ∀ {b : Addr} {m : Str → Option Value}, s₁.heap.Ns b m → (hidT s₁.heap H).Ns b m := by
      rintro b m ⟨o, es, ep, e, d, r⟩
      exact ⟨o, es, ep, hidT_get e (noA e d), d, r⟩
    have hKb : K.In (hidT s₁.heap H) := by
      intro b o e
      refine hidT_get (KX b o e) ?_
      cases q : H b with
      | none => rfl
      | some u =>
        have e' := onlyA q
        subst e'
        rw [hK (by rw [q]; simp)] at e
        cases e
    obtain ⟨mc, l1, l2⟩ := hlim
    have e0 : Env0 P w K mg (hidT s₁.heap H) callerA [] s₁ H :=
      ⟨rfl, ⟨hKb, nsK hns, ⟨mb, nsK hb, hbb⟩, ⟨mc, nsK l1, l2⟩⟩, fun b o e => of_hidT e, Nat.le_of_eq (hidT_size _ _), trivial, fun b z => absurd (show b ∈ ([] : List Addr) from z) (by simp), hok, .of_eq hg⟩
    have hc := (F _ hKb (nsK hns)).at_ callerA [] s₁ H ⟨[.ref a], []⟩ [.ref a] [.ref a] _ _ ⟨hr, e0, hbind s₁ (.ref a), .cons rfl .nil, hsp H hO hS⟩
    refine codeAny_mono hc fun r s' h => ?_
    match r, h with
    | .error e, h => exact (hCX H e s' h).elim
    | .ok (.ret u), ⟨v, H', os, bare, un, hok', r', q⟩ =>
      have q' : v = .bl true := q
      rw [q'] at r'
      have hu : u = Value.bool true := r'
      refine ⟨by rw [hu], OldK.of_keep fun b o e => ?_, os, bare⟩
      rcases hO b with z | ⟨ob, xs, z⟩
      · exact un.keep b o e z (by intro y; exact absurd (show b ∈ ([] : List Addr) from y) (by simp)) (by simp)
      · obtain ⟨e1, _⟩ := hok b _ z
        obtain ⟨e2, _⟩ := hok' b _ (un.frzs b ob _ z)
        rw [e] at e1
        cases e1
        exact e2
  cases hk : K.lookup a with
  | some o =>
    have e := KX a o hk
    rw [ha] at e
    cases e
    refine main (fun _ => none) ⟨fun _ => .inl rfl, .inr ⟨_, vs.toArray, _, hk, rfl, rfl, rfl, by rw [List.size_toArray, lenV]; exact hl, by simpa using rv⟩, fun b u z => ?_, fun b z => absurd rfl z, fun z => absurd rfl z⟩
    cases (show (none : Option HO) = some u from z)
  | none =>
    refine main (fun b => if b = a then some (.frz { cls := .type "list", data := .seq vs.toArray } (.lst (ns.map V.int))) else none) ⟨fun b => ?_, .inl (.inr ⟨{ cls := .type "list", data := .seq vs.toArray }, if_pos rfl⟩), fun b u z => ?_, fun b z => ?_, fun _ => hk⟩
    · by_cases hb : b = a
      · exact .inr ⟨_, _, if_pos hb⟩
      · exact .inl (if_neg hb)
    · by_cases hb : b = a
      · cases (if_pos hb).symm.trans z
        subst hb
        exact ⟨ha, by rw [List.length_map]; exact hl, vs, _, rv, ha⟩
      · cases (if_neg hb).symm.trans z
    · by_cases hb : b = a
      · exact hb
      · exact absurd (if_neg hb) z
theorem walk_ofEw {l : PySem.W.OpenLaw} {n k : Nat} {q : Program} {loose : List Str} {XP : (Str → Option Value) → Heap → Prop} {YP : World → Heap → Prop} {d : DefRec} {CX : World → CXT} {x : Str}
    (hn : l.most = some n) (hn2 : n ≤ sizeLine) (hdf : d.params.defaults = []) (hr : BR.RmG k callerA)
    (F : ∀ (w : World) (mg : Str → Option Value) (fa : Addr) (h : Heap), YP w h → h.Ns mainGlobals mg → mg d.name = some (.ref fa) →
      ∃ (K : PySem.W.Frag) (fd : FuncData) (sp : Sp), K.In h ∧ (∀ (s : Shared) (u : Value), BindsTo s fd ⟨[u], []⟩ [(x, u)]) ∧
        (∀ (H : Hp) (a : Addr) (ns : List Int), ns.length ≤ n → Only H → SqL K H a (ns.map V.int) → sp [.ref a] H (fun v _ => v = .bl true) fun _ _ _ => False) ∧
        ∀ base : Heap, K.In base → base.Ns mainGlobals mg → BR.FnG l.prog w K mg base (CX w) k fa fd [x] sp)
    (hCX : ∀ (w : World) (H : Hp) (s : Shared) (e : Value) (s' : Shared), CX w [] H s (fun _ _ _ => False) e s' → False) :
    PySem.W.WalkO q loose XP YP l.row.toRowW d [] (fun f vs => PySem.call f vs) := by
  refine Att.attach_call hn hdf fun w s₀ s₁ mg mb fa o pm cd doc a vs ns G Y ho hd hcd hmg hobj hints hlen hg => ?_
  obtain ⟨K, fd, sp, KX, hb, hsp, hF⟩ := F w mg fa _ Y G.T.g hmg
  exact law_callG KX G.T.g G.T.b G.T.builtins G.T.nolimit hg hobj hints (Nat.le_trans hlen hn2) hr hF hb (fun H hO hS => hsp H a ns hlen hO hS) fun H e s' => hCX w H s₁ e s'
theorem cx_out {P : Program} {w : World} {H : Hp} {s : Shared} {e : Value} {s' : Shared} (h : L2.CX P w [] H s (fun _ _ _ => False) e s') : False := by
  obtain ⟨a, B, H', cls, d, h⟩ := h
  exact h.2.2.2.2.2.2.2
end L2
namespace BR
open PySem PySem.W PySem.Calls L2

/-! ## the head: facts are Bools of the written part -/
abbrev Fct := PySem.W.Frag → Bool
def obsB (fa : List Fct) (fn : List He5.DefA) (K : Frag) : He.AlD := ((fa.all fun f => f K) && fn.all fun d => d.ok K, fn.map fun d => He5.fnA K (d.at_ K))
def SaysB (fa : List Fct) (fn : List He5.DefA) (K : Frag) : Prop := obsB fa fn K = He5.valA fn
def obsBG (n : Nat) (fa : List Fct) (fn : List He5.DefA) (g : Addr → Option Obj) : He.AlD := obsB fa fn (He.frG g (He5.asA g n))
def hookB (n : Nat) (fa : List Fct) (fn : List He5.DefA) : PySem.W.Hook where
  α := He.AlD
  obs := fun s => obsBG n fa fn s.heap.get?
  val := fun _ => He5.valA fn
  says := fun _ h => ∃ K : Frag, K.In h ∧ SaysB fa fn K
  of := fun _ _ e => ⟨_, He.frG_in, e⟩
  keeps := fun _ _ _ ⟨K, hK, c⟩ k => ⟨K, Frag.In.keeps hK k, c⟩
theorem obsBG_eq {n : Nat} {fa : List Fct} {fn : List He5.DefA} {g : Addr → Option Obj} {s : Shared} (h : ∀ a, g a = s.heap.get? a) : obsBG n fa fn g = (hookB n fa fn).obs s := by
  have e : g = s.heap.get? := funext h
  rw [e] <;> rfl
theorem ba' {a b : Bool} (h : (a && b) = true) : a = true ∧ b = true := by cases a <;> cases b <;> simp_all
section
variable {fa : List Fct} {fn : List He5.DefA} {K : Frag}
theorem SaysB.fact (c : SaysB fa fn K) (i : Nat) {f : Fct} (h : fa[i]? = some f := by rfl) : f K = true := by
  have c1 := (ba' (show ((fa.all fun f => f K) && fn.all fun d => d.ok K) = true from congrArg (fun z : He.AlD => z.1) c)).1
  exact List.all_eq_true.mp c1 f (List.mem_of_getElem? h)
theorem SaysB.def_ (c : SaysB fa fn K) (i : Nat) {d : He5.DefA} (h : fn[i]? = some d := by rfl) : ∃ fd, L2.FunD K d.name d.qual d.params d.body d.scope (d.dvs K) (d.kws K) (d.at_ K) fd := by
  have c2 := (ba' (show ((fa.all fun f => f K) && fn.all fun d => d.ok K) = true from congrArg (fun z : He.AlD => z.1) c)).2
  have e : fn.map (fun d => He5.fnA K (d.at_ K)) = fn.map He5.DefA.val := congrArg (fun z : He.AlD => z.2) c
  have e2 : (fn.map fun d => He5.fnA K (d.at_ K))[i]? = (fn.map He5.DefA.val)[i]? := by rw [e]
  rw [List.getElem?_map, List.getElem?_map, h] at e2
  exact He5.DefA.funD (Option.some.inj e2) (List.all_eq_true.mp c2 d (List.mem_of_getElem? h))
end
/-! ### facts -/
def fF (f : He.Fa) : Fct := fun K => f.ok K
def fProp (C f : PySem.Str) : Fct := fun K => He.eqO (findIn K (.ref (He.ga K C)) f) (some (some (.ref (He.ma K (He.ga K C) f)))) && (He.eqO (specialIn K (.ref (He.ma K (He.ga K C) f)) "__get__") (some (some (.builtin "property.__get__"))) && (decide (takesIn K (.ref (He.ma K (He.ga K C) f)) = some true) && (match recIn K (He.ma K (He.ga K C) f) "property" with
  | some (.ref _ :: _) => true
  | _ => false)))
theorem prop_ok {K : Frag} {C f : PySem.Str} (h : fProp C f K = true) : PropOf K (He.ga K C) f (He.ma K (He.ga K C) f) (He5.wf K (He.ga K C) "property" f) := by
  obtain ⟨h1, h⟩ := ba' h
  obtain ⟨h2, h⟩ := ba' h
  obtain ⟨h3, h4⟩ := ba' h
  refine ⟨He.eqO_ok h1, He.eqO_ok h2, of_decide_eq_true h3, ?_⟩
  unfold He5.wf
  split at h4
  · rename_i f r e
    exact ⟨r, by rw [e]⟩
  · cases h4
def fClsI (C : PySem.Str) : Fct := fun K => (He.Fa.cls C).ok K && (He.eqO (findIn K (.ref (He.ga K C)) "__class__") (some (some (.builtin "object.__class__"))) && (He.eqO (specialIn K (.builtin "object.__class__") "__get__") (some (some (.builtin "getset_descriptor.__get__"))) && (decide (takesIn K (.builtin "object.__class__") = some true) && decide (mroIn K (He.ga K C) (.type "object") = some true))))
theorem clsI_ok {K : Frag} {C : PySem.Str} (h : fClsI C K = true) : ClsI K (He.ga K C) := by
  obtain ⟨h1, h⟩ := ba' h
  obtain ⟨h2, h⟩ := ba' h
  obtain ⟨h3, h⟩ := ba' h
  obtain ⟨h4, h5⟩ := ba' h
  exact ⟨He.cls_ok h1, He.eqO_ok h2, He.eqO_ok h3, of_decide_eq_true h4, of_decide_eq_true h5⟩
def fKit (C D : PySem.Str) (b : Bool) : Fct := fun K => decide (kitOne K (.ref (He.ga K C)) (.ref (He.ga K D)) = some b)
theorem kit_ok {K : Frag} {C D : PySem.Str} {b : Bool} (h : fKit C D b K = true) : kitOne K (.ref (He.ga K C)) (.ref (He.ga K D)) = some b := of_decide_eq_true h
def fKitT (C : PySem.Str) (T : String) (b : Bool) : Fct := fun K => decide (kitOne K (.ref (He.ga K C)) (.type T) = some b)
theorem kitT_ok {K : Frag} {C : PySem.Str} {T : String} {b : Bool} (h : fKitT C T b K = true) : kitOne K (.ref (He.ga K C)) (.type T) = some b := of_decide_eq_true h
def fKitB (T : String) (C : PySem.Str) (b : Bool) : Fct := fun K => decide (kitOne K (.type T) (.ref (He.ga K C)) = some b)
theorem kitB_ok {K : Frag} {C : PySem.Str} {T : String} {b : Bool} (h : fKitB T C b K = true) : kitOne K (.type T) (.ref (He.ga K C)) = some b := of_decide_eq_true h
def fCRead (C : PySem.Str) : Fct := fun K => readsIn K (He.ga K C) (.type "type") && He.eqO (specialIn K (.ref (He.ga K C)) "__getattribute__") (some (some (.builtin "type.__getattribute__")))
theorem cread_ok {K : Frag} {C : PySem.Str} (h : fCRead C K = true) : ClX.CRead K (He.ga K C) (.type "type") := by
  obtain ⟨h1, h2⟩ := ba' h
  exact ⟨h1, He.eqO_ok h2⟩
def fCVal (C f : PySem.Str) (v : V) : Fct := fun K => match findCls K (.ref (He.ga K C)) (.type "type") f with
  | some (.val u) => He.relB v u
  | _ => false
theorem cval_ok {K : Frag} {C f : PySem.Str} {v : V} (h : fCVal C f v K = true) : ∃ u, ClX.CVal K (He.ga K C) (.type "type") f v u := by
  unfold fCVal at h
  split at h
  · rename_i u e
    exact ⟨u, e, He.relB_ok h⟩
  · cases h
/-- the law's end -/
theorem sp_law {K : Frag} {F : FT} {d : List D} {H : Hp} {a : Addr} {ns : List Int} (h : F [.scr ns] = .ok (.bl true, d)) (hS : SqL K H a (ns.map V.int)) : spF K [false] false F [.ref a] H (fun v _ => v = .bl true) fun _ _ _ => False := by
  refine ⟨H, [.scr ns], [], fun b o e => .inl e, .sh (by unfold Rep; exact ⟨a, rfl, hS⟩) .nil, ?_⟩
  rw [h]
  intro v G' H' _ _ _ re
  have re' : Rep K G' (.bl true) v := re
  unfold Rep at re'
  exact re'
end BR
set_option Elab.async false
set_option linter.all false
set_option maxRecDepth 100000
set_option maxHeartbeats 4000000
namespace BR
open PySem L2
section
variable {X : Cx} {E : WX} {elt c tg iter : Expr} {scope : Scope} {own : List (Str × Nat)} {pos py spos pos' : Pos} {it : S → R (List D × S)} {g : D → S → Option S} {p : S → R (Bool × S)} {fe : EF} {tv vs : List Nat} {i j : Nat} {x y : Str}
theorem asg_snd {te : TE} {f : EF} (s : Snd X.K E te f) : SndS X.K E (tAsg te (gName i)) (sAsg i f) := by
  intro G H σ ρ r Dn hw
  refine s G H σ ρ r _ (hw.bind.mono (fun z _ q v G' H' o h => ?_) fun _ _ q => q)
  obtain ⟨ρ', e1, q⟩ := q.opt
  obtain ⟨G2, o2⟩ := put_ok o h e1
  exact q _ G2 H' o2
/-- y = [e for x in ..] on one line, y a local -/
theorem st_asgLc0 {hs0 : X.calm = true} (hN : X.N.Nodup) (hy : X.N[i]? = some y) (hyl : X.env.scope.names.lookup y = some .local) (hi : PIt X E tg iter it) (ok : BlkOk X.N X.env.scope scope own) (hv : ∀ i ∈ tv, i ∈ vs)
    (hg : ∀ (s : Shared) (H : Hp) (C : Addr) (cl : List (Str × Addr)) (fp : List Addr), PTg (X.blk s H scope (compEnvC scope cl C X.env) fp) tv tg g)
    (he : ∀ (s : Shared) (H : Hp) (C : Addr) (cl : List (Str × Addr)) (fp : List Addr), PR (X.blk s H scope (compEnvC scope cl C X.env) fp) W0 elt fe)
    (hsw : swapsWith (.ListComp elt [⟨tg, iter, [], 0⟩] scope pos) (some (.Name y py)) spos.line X.env = pure true := by exact sw_true rfl rfl rfl rfl) (hvs : own.map (·.2) = vs := by rfl) (hs : ∀ x, foldedSetIterable iter X.env x = pure x := by intro _; rfl) :
    PSt X E (.Assign [.Name y py] (.ListComp elt [⟨tg, iter, [], 0⟩] scope pos) spos) (sAsg i (eLc vs it g pYes fe)) := by
  subst hvs
  obtain ⟨wi, pi, si⟩ := hi.ex
  exact ⟨_, ps_setLc (elt := elt) (ifs := []) (g := gF X.K tv g) (tt := tYes) (te := tF X.K W0 fe) hs0 hN hy hyl hsw pi ok (fun s H C cl fp => (hg s H C cl fp).pg) (fun s H C cl fp => pts_nil) (fun s H C cl fp => (he s H C cl fp).pe) hs,
    asg_snd (snd_lc si hv (hg X.s_0 X.H_0 0 [] []).mu fun G H σ ρ r Q w => w G H (Out.refl r))⟩
/-- .. with a test -/
theorem st_asgLc {hs0 : X.calm = true} (hN : X.N.Nodup) (hy : X.N[i]? = some y) (hyl : X.env.scope.names.lookup y = some .local) (hi : PIt X E tg iter it) (ok : BlkOk X.N X.env.scope scope own) (hv : ∀ i ∈ tv, i ∈ vs)
    (hg : ∀ (s : Shared) (H : Hp) (C : Addr) (cl : List (Str × Addr)) (fp : List Addr), PTg (X.blk s H scope (compEnvC scope cl C X.env) fp) tv tg g)
    (ht : ∀ (s : Shared) (H : Hp) (C : Addr) (cl : List (Str × Addr)) (fp : List Addr), PB (X.blk s H scope (compEnvC scope cl C X.env) fp) W0 c p)
    (he : ∀ (s : Shared) (H : Hp) (C : Addr) (cl : List (Str × Addr)) (fp : List Addr), PR (X.blk s H scope (compEnvC scope cl C X.env) fp) W0 elt fe)
    (hsw : swapsWith (.ListComp elt [⟨tg, iter, [c], 0⟩] scope pos) (some (.Name y py)) spos.line X.env = pure true := by exact sw_true rfl rfl rfl rfl) (hvs : own.map (·.2) = vs := by rfl) (hs : ∀ x, foldedSetIterable iter X.env x = pure x := by intro _; rfl) :
    PSt X E (.Assign [.Name y py] (.ListComp elt [⟨tg, iter, [c], 0⟩] scope pos) spos) (sAsg i (eLc vs it g p fe)) := by
  subst hvs
  obtain ⟨wi, pi, si⟩ := hi.ex
  exact ⟨_, ps_setLc (elt := elt) (ifs := [c]) (g := gF X.K tv g) (tt := tFB X.K W0 p) (te := tF X.K W0 fe) hs0 hN hy hyl hsw pi ok (fun s H C cl fp => (hg s H C cl fp).pg) (fun s H C cl fp => pts_one (ht s H C cl fp).pt) (fun s H C cl fp => (he s H C cl fp).pe) hs,
    asg_snd (snd_lc si hv (hg X.s_0 X.H_0 0 [] []).mu fun G H σ ρ r Q w => ⟨G, ρ, r, w⟩)⟩
/-- .. over the keys of a dict -/
theorem st_asgLcK {hs0 : X.calm = true} (hN : X.N.Nodup) (hy : X.N[i]? = some y) (hyl : X.env.scope.names.lookup y = some .local) (hNj : X.N[j]? = some x) (hvj : Vis X.env.scope x) (ok : BlkOk X.N X.env.scope scope own) (hv : ∀ i ∈ tv, i ∈ vs)
    (hg : ∀ (s : Shared) (H : Hp) (C : Addr) (cl : List (Str × Addr)) (fp : List Addr), PTg (X.blk s H scope (compEnvC scope cl C X.env) fp) tv tg g)
    (ht : ∀ (s : Shared) (H : Hp) (C : Addr) (cl : List (Str × Addr)) (fp : List Addr), PB (X.blk s H scope (compEnvC scope cl C X.env) fp) W0 c p)
    (he : ∀ (s : Shared) (H : Hp) (C : Addr) (cl : List (Str × Addr)) (fp : List Addr), PR (X.blk s H scope (compEnvC scope cl C X.env) fp) W0 elt fe) (hd : (x == ("__debug__" : Str)) = false := by decide) (hcd : (x == ("__classdict__" : Str)) = false := by decide)
    (hsw : swapsWith (.ListComp elt [⟨tg, .Name x pos', [c], 0⟩] scope pos) (some (.Name y py)) spos.line X.env = pure true := by exact sw_true rfl rfl rfl rfl) (hvs : own.map (·.2) = vs := by rfl) (hs : ∀ z, foldedSetIterable (.Name x pos') X.env z = pure z := by intro _; rfl) :
    PSt X E (.Assign [.Name y py] (.ListComp elt [⟨tg, .Name x pos', [c], 0⟩] scope pos) spos) (sAsg i (eLcD vs (fun ks _ => keysD ks) j g p fe)) := by
  subst hvs
  have ps := ps_setLc (pos := pos) (spos := spos) (py := py) (elt := elt) (ifs := [c]) (g := gF X.K tv g) (tt := tFB X.K W0 p) (te := tF X.K W0 fe) hs0 hN hy hyl hsw (pi_keys (tg := tg) (pe_var (i := j) (pos := pos') hNj hvj hd hcd)) ok (fun s H C cl fp => (hg s H C cl fp).pg) (fun s H C cl fp => pts_one (ht s H C cl fp).pt) (fun s H C cl fp => (he s H C cl fp).pe) hs
  have sn := lcD_core (E := E) (fe := fe) (gt := gF X.K tv g) (X := X) (i := j) (fun a o kvs => Itk a o kvs) (wi := iKeys (tVar j)) (fun σ H Rr a od kvs h1 h2 h3 => ⟨_, h1, a, od, rfl, .inl ⟨kvs, h2, h3⟩⟩) (sel := fun ks _ => keysD ks) (fun h1 h2 _ => wlk_keysD h1 h2) hv (hg X.s_0 X.H_0 0 [] []).mu (tt := tFB X.K W0 p) fun G H σ ρ r Q w => ⟨G, ρ, r, w⟩
  refine ⟨_, ps_or (ps_lock ps) ps, fun G H σ ρ r Dn hw => ?_⟩
  rcases asg_snd (i := i) sn G H σ ρ r Dn hw with q | q
  · exact .inl q
  · exact .inr q
/-! ### a, b = x, y where some name is a cell: the pair is made and taken apart -/
theorem HoldT.newT {K : PySem.W.Frag} {Hs G H G1 H1 : Hp} {σ : St} {ρ ρ1 : S} {hs : List Hd} {ws ts : List V} (o : Out K G H σ ρ G1 H1 ρ1) (h : HoldT K Hs G H σ ρ hs ws ts) : HoldT K Hs G1 H1 σ ρ1 hs ws ts := h.pers o
theorem st_parC {a b : Expr} {f : S → R (List Hd × S)} {px : Pos} {kt k2 : Nat} {pt pt2 : Pos} (hc : X.calm = true) (hN : X.N.Nodup) (hi : X.N[i]? = some x) (hj : X.N[j]? = some y) (hx : Loc X.env.scope x) (hy : Loc X.env.scope y) (ha : PPr X E [a, b] f)
    (hfx : X.fn x = true ∨ X.env.scope.names.lookup x = some .local := by first | exact .inl rfl | exact .inr rfl | assumption) (hfy : X.fn y = true ∨ X.env.scope.names.lookup y = some .local := by first | exact .inl rfl | exact .inr rfl | assumption)
    (hs : swapsWithSole [.Tuple [.Name x px, .Name y py] kt pt] (.Tuple [a, b] k2 pt2) pos.line X.env = pure false := by rfl) (hw : swappedStores [.Tuple [.Name x px, .Name y py] kt pt] (.Tuple [a, b] k2 pt2) X.env = pure none := by rfl)
    (h1 : (assignEach [.Tuple [.Name x px, .Name y py] kt pt] X.env).map (·.2) = [assign (.Tuple [.Name x px, .Name y py] kt pt) X.env] := by rfl)
    (hn : (assignEach [.Name x px, .Name y py] X.env).length = 2 := by rfl) (hst : (assignEach [.Name x px, .Name y py] X.env).findIdx? (·.1) = none := by rfl)
    (hs1 : (assignEach [.Name x px, .Name y py] X.env).map (·.2) = assign (.Name x px) X.env :: (assignEach [.Name y py] X.env).map (·.2) := by rfl)
    (hs2 : (assignEach [.Name y py] X.env).map (·.2) = assign (.Name y py) X.env :: (assignEach [] X.env).map (·.2) := by rfl) :
    PSt X E (.Assign [.Tuple [.Name x px, .Name y py] kt pt] (.Tuple [a, b] k2 pt2) pos) (sPar [i, j] f) := by
  obtain ⟨t, pe, s⟩ := ha.ex
  refine ⟨_, ps_asg (pe_tup pe) (pg_tup hc (pgs_cons (pg_name (i := i) hN hi hx hfx) (pgs_cons (pg_name (i := j) hN hj hy hfy) pgs_nil hs2) hs1) hn hst) hs hw h1, fun G H σ ρ r Dn hw => s G H σ ρ r _ (hw.bind.mono (fun z _ q vs ts G1 H1 o1 h1 => ?_) fun _ _ q => q)⟩
  obtain ⟨ρ', e1, qq⟩ := q.opt
  have hlen : ∀ {is : List Nat} {hs : List Hd} {ρ : S}, putAll is hs ρ = some ρ' → is.length = hs.length := by
    intro is
    induction is with
    | nil => intro hs ρ e; cases hs with
      | nil => rfl
      | cons => cases e
    | cons i is ih => intro hs ρ e; cases hs with
      | nil => cases e
      | cons h hs =>
        have e' : ((putS i h ρ).bind fun ρ' => putAll is hs ρ') = some ρ' := e
        cases hp : putS i h ρ with
        | none => rw [hp] at e'; cases e'
        | some ρ2 => rw [hp] at e'; exact congrArg Nat.succ (ih e')
  have hl2 := hlen e1
  have hv : vs.length = 2 := by
    have : ∀ {hs : List Hd} {ws ts : List V}, HoldT X.K H G1 H1 σ z.2 hs ws ts → ws.length = hs.length := fun h => by
      induction h with
      | nil => rfl
      | cons _ _ _ _ ih => exact congrArg Nat.succ ih
    rw [this h1, ← hl2]; rfl
  refine ⟨by rw [hv]; decide, fun q0 hq => ?_⟩
  have on := Out.new (o := .tup vs) o1.rel hq
  have o2 := putAll_ok (o1.trans on).s (h1.pers on) e1
  match vs, hv with
  | [u1, u2], _ => exact ⟨q0, [u1, u2], rfl, SqT.of upd_same, rfl, u1, [u2], rfl, u2, [], rfl, rfl, qq _ G1 _ o2⟩
end
end BR
set_option Elab.async false
set_option linter.all false
set_option maxRecDepth 100000
set_option maxHeartbeats 400000
namespace BR
open PySem L2
/-! ## evaluation by simp -/
theorem dIc_ok {C : Int → Int → Prop} {g : Int → Int → Int} {i j : Int} (h : C i j) : dIc C g (.int i) (.int j) = some (.im (.int (g i j))) := by
  unfold dIc
  exact if_pos h
theorem dMulI_ok {i j : Int} (h : CMul i j) : dMulI (.int i) (.int j) = some (.im (.int (i * j))) := by
  unfold dMulI
  exact if_pos h
end BR
set_option Elab.async false
set_option linter.all false
set_option maxRecDepth 100000
set_option maxHeartbeats 4000000
namespace BR
open PySem L2
/-! ## repr of data -/
section
variable {K : PySem.W.Frag} {H : Hp}
mutual
theorem dp_noDict : ∀ (p : PyData) {v : V}, Dp K H v p → p.hasDict = false
  | .none, _, h => rfl
  | .bool _, _, h => rfl
  | .int _, _, h => rfl
  | .str _, _, h => rfl
  | .list ds, _, h => by
    cases h with
    | lst _ h2 => simp only [PyData.hasDict]; exact dp_noDictL ds h2
  | .tuple ds, _, h => by
    cases h with
    | tup _ h2 => simp only [PyData.hasDict]; exact dp_noDictL ds h2
  | .dict _, _, h => by cases h
theorem dp_noDictL : ∀ (ps : List PyData) {vs : List V}, DpAll K H vs ps → PyData.hasDictAll ps = false
  | [], _, h => rfl
  | p :: ps, _, h => by
    cases h with
    | cons h1 h2 => simp only [PyData.hasDictAll, dp_noDict p h1, dp_noDictL ps h2, Bool.or_false]
end
end
def rReprD (K : PySem.W.Frag) : List V → Hp → VK → Prop := fun xs H Q => ∃ x p, xs = [x] ∧ Dp K H x p ∧ p.showable = true ∧ p.depth ≤ 60 ∧ p.shown.length ≤ sizeLine ∧ Q (.str p.shown) H
section
variable {X : Cx} {K : PySem.W.Frag}
theorem call_reprD (hg : X.A.guards = some []) (hu : X.A.units + 64 < cLine) : CallR X (.builtin "repr") (rReprD X.K) := by
  intro pins s σ H xs us Q I r h
  obtain ⟨x, p, rfl, hd, hs, hdp, hl, q⟩ := h
  cases r with
  | cons rx rt =>
    rename_i u ut
    cases rt
    have nd := dp_noDict p hd
    obtain ⟨as, rd⟩ := Dp.reads I p x u hd rx
    cases hd with
    | non => cases rx; exact PySem.P.repr_of_none ⟨.str _, H, I.tok _, ⟨_, rfl⟩, q⟩
    | bl b => cases rx; exact PySem.P.repr_of_bool ⟨.str _, H, I.tok _, ⟨_, rfl⟩, q⟩
    | int i =>
      obtain ⟨t, rfl⟩ := rx
      exact PySem.P.repr_of_int (by simpa [PyData.showable] using hs) ⟨.str _, H, I.tok _, ⟨_, rfl⟩, q⟩
    | str y =>
      obtain ⟨t, rfl⟩ := rx
      exact PySem.P.repr_of_str ⟨.str _, H, I.tok _, ⟨_, rfl⟩, q⟩ hl
    | lst h1 h2 =>
      cases rx
      exact PySem.repr_of_reads' rd hs (fun z => by rw [nd] at z; cases z) hg (by omega) (fun _ _ z => z) (fun h' u tk hk => ⟨.str _, H, I.kept hk, ⟨_, rfl⟩, q⟩) hl
    | tup h1 h2 =>
      cases rx
      exact PySem.repr_of_reads' rd hs (fun z => by rw [nd] at z; cases z) hg (by omega) (fun _ _ z => z) (fun h' u tk hk => ⟨.str _, H, I.kept hk, ⟨_, rfl⟩, q⟩) hl
def okShow (p : PyData) : Prop := p.showable = true ∧ p.depth ≤ 60 ∧ p.shown.length ≤ sizeLine
open Classical in
noncomputable def dRepr : List D → Option Rz
  | [d] => match toP d with
    | some p => if okShow p then some (.im (.str p.shown)) else none
    | none => none
  | _ => none
theorem d_repr : CallD K (rReprD K) dRepr := by
  intro G H ds vs s h z Q e q
  unfold dRepr at e
  split at e
  · obtain ⟨v, rfl, rv⟩ := rpl1 h
    split at e
    · rename_i p ep
      split at e
      · rename_i hs
        cases e
        exact ⟨v, p, rfl, dp_repP s rv ep, hs.1, hs.2.1, hs.2.2, q _ rep_str⟩
      · cases e
    · cases e
  · cases e
/-- str of an int -/
def dStrI : List D → Option Rz
  | [.int i] => if i.natAbs.log2 < 1920 then some (.im (.str (toString i))) else none
  | _ => none
theorem d_strI : CallD K (fun xs H Q => ∃ i : Int, xs = [.int i] ∧ i.natAbs.log2 < 1920 ∧ Q (.str (toString i)) H) dStrI := by
  intro G H ds vs s h z Q e q
  unfold dStrI at e
  split at e
  · obtain ⟨v, rfl, rv⟩ := rpl1 h
    split at e
    · cases e
      have := rv.int; subst this
      exact ⟨_, rfl, by assumption, q _ rep_str⟩
    · cases e
  · cases e
end
end BR
set_option Elab.async false
set_option linter.all false
set_option maxRecDepth 100000
set_option maxHeartbeats 4000000
namespace BR
open PySem PySem.Spec PyProof.Rows L2
/-! ## len, str, repr, ==, != and calls by an own class's defs -/
section
variable {X : Cx} {CX : CXT} {k : Nat} {f C : Addr} {fd : FuncData} {ps : List Str} {sp : Sp} {E : XK} {pins : List (Addr × Obj)} {σ : L2.St} {H : Hp} {s : Shared}
theorem runAt {A' : Around} {us : List Value} {vs : List V} {Q : VK} (hr : RmG k A') (hfr : A'.frames = X.A.frames) (F : FnG X.prog X.w X.K X.mg X.base CX k f fd ps sp) (hb : Binds X.K fd ps []) (hx : Passes CX X E) (I : Inv X pins σ H s) (r : Vals vs us) (h : sp vs H Q E) :
    wpAny (model X.prog X.w) A' (call (.ref f) us) (EP X pins σ Q) X.xe s := by
  have e := I.env0
  have e0 : Env0 X.prog X.w X.K X.mg X.base A' X.stack s H := ⟨by rw [hfr]; exact e.frames, e.mod, e.bs, e.bsz, e.funs, e.frf, e.hok, e.bare⟩
  have hl : us.length = ps.length := by rw [← r.length]; exact F.len _ _ _ _ h
  have b := hb s us I.kIn (by simpa using hl)
  rw [List.append_nil] at b
  refine wpAny_call (codeAny_mono (F.at_ A' X.stack s H ⟨us, []⟩ us vs Q E ⟨hr, e0, b, r, h⟩) fun r s' hq => ?_)
  rcases callEnd I (fun p H s e s' => hx p σ H s e s') hq with ⟨u, rfl, z⟩ | ⟨er, rfl, z⟩
  · exact z
  · exact z
theorem inst_at {a dx : Addr} {fs : List (Str × V)} (I : Inv X pins σ H s) (ea : H a = some (.ins C dx fs)) : ∃ ox od, PySem.W.InstAt s.heap a ox C od ∧ ox.data = .plain := by
  obtain ⟨mA, O, _⟩ := ins_get I.hok ea
  obtain ⟨od, J, _⟩ := O.look
  exact ⟨_, _, J, rfl⟩
/-- the class C has the special name as the def at f -/
structure SpOf (K : PySem.W.Frag) (C f : Addr) (nm : Str) : Prop where
  at_ : PySem.W.findIn K (.ref C) nm = some (some (.ref f))
  fn : PySem.W.isFn K (.ref f) = true
theorem cr_lenO (hs : SpOf X.K C f "__len__") (F : FnG X.prog X.w X.K X.mg X.base CX k f fd ps sp) (hr : RmG (k + 1) X.A) (hb : Binds X.K fd ps []) (hx : Passes CX X E) :
    CallR X (.builtin "len") (fun xs H Q => ∃ a dx fs, xs = [.ref a] ∧ H a = some (.ins C dx fs) ∧ sp [.ref a] H (fun v H2 => ∃ n : Nat, v = .int n ∧ n ≤ 1000000 ∧ Q (.int n) H2) E) := by
  intro pins s σ H xs us Q I r h
  obtain ⟨a, dx, fs, rfl, ea, hsp⟩ := h
  obtain ⟨u, rfl, rfl⟩ : ∃ u, us = [u] ∧ u = Value.ref a := by
    cases r with
    | cons rx rt => cases rt; exact ⟨_, rfl, rx⟩
  obtain ⟨ox, od, J, _⟩ := inst_at I ea
  obtain ⟨m, hF⟩ := I.fr
  refine PySem.W.len_K hF I.ok.mod.kin J hs.at_ hs.fn (wpAny_mono (runAt (A' := X.A.in1) hr.in1 rfl F hb hx I (vs := [.ref a]) (.cons rfl .nil) hsp) (fun v s' z => ?_) fun _ _ z => z)
  obtain ⟨v', H', I', rv, n, rfl, hn, q⟩ := z
  obtain ⟨t, rfl⟩ := rv
  exact ⟨⟨by omega, by have : (n : Int) ≤ 1000000 := by omega
                       exact Int.lt_of_le_of_lt this (by decide)⟩, .int n, H', I'.tok _, ⟨_, rfl⟩, q⟩
theorem cr_reprO (hs : SpOf X.K C f "__repr__") (F : FnG X.prog X.w X.K X.mg X.base CX k f fd ps sp) (hr : RmG (k + 1) X.A) (hb : Binds X.K fd ps []) (hx : Passes CX X E) :
    CallR X (.builtin "repr") (fun xs H Q => ∃ a dx fs, xs = [.ref a] ∧ H a = some (.ins C dx fs) ∧ sp [.ref a] H (fun v H2 => ∃ y, v = .str y ∧ Q (.str y) H2) E) := by
  intro pins s σ H xs us Q I r h
  obtain ⟨a, dx, fs, rfl, ea, hsp⟩ := h
  obtain ⟨u, rfl, rfl⟩ : ∃ u, us = [u] ∧ u = Value.ref a := by
    cases r with
    | cons rx rt => cases rt; exact ⟨_, rfl, rx⟩
  obtain ⟨ox, od, J, _⟩ := inst_at I ea
  obtain ⟨m, hF⟩ := I.fr
  have hu := hr.units
  refine PySem.W.repr_K (show X.A.units + 1 < cLine by omega) hF I.ok.mod.kin J hs.at_ hs.fn (wpAny_mono (runAt (A' := X.A.in1) hr.in1 rfl F hb hx I (vs := [.ref a]) (.cons rfl .nil) hsp) (fun v s' z => ?_) fun _ _ z => z)
  obtain ⟨v', H', I', rv, y, rfl, q⟩ := z
  obtain ⟨t, rfl⟩ := rv
  exact ⟨.str y, H', I', ⟨_, rfl⟩, q⟩
theorem cr_strO (hs : SpOf X.K C f "__str__") (F : FnG X.prog X.w X.K X.mg X.base CX k f fd ps sp) (hr : RmG (k + 2) X.A) (hb : Binds X.K fd ps []) (hx : Passes CX X E) :
    CallR X (.type "str") (fun xs H Q => ∃ a dx fs, xs = [.ref a] ∧ H a = some (.ins C dx fs) ∧ sp [.ref a] H (fun v H2 => ∃ y, v = .str y ∧ Q (.str y) H2) E) := by
  intro pins s σ H xs us Q I r h
  obtain ⟨a, dx, fs, rfl, ea, hsp⟩ := h
  obtain ⟨u, rfl, rfl⟩ : ∃ u, us = [u] ∧ u = Value.ref a := by
    cases r with
    | cons rx rt => cases rt; exact ⟨_, rfl, rx⟩
  obtain ⟨ox, od, J, _⟩ := inst_at I ea
  have hu := hr.units
  refine PySem.W.kso_call (show X.A.units + 1 + 1 < cLine by omega) I.kIn J hs.at_ hs.fn (wpAny_mono (runAt (A' := X.A.in1.in1) hr.in1.in1 rfl F hb hx I (vs := [.ref a]) (.cons rfl .nil) hsp) (fun v s' z => ?_) fun _ _ z => z)
  obtain ⟨v', H', I', rv, y, rfl, q⟩ := z
  obtain ⟨t, rfl⟩ := rv
  exact ⟨.str y, H', I', ⟨_, rfl⟩, q⟩
theorem typ_of {x : V} {u t : Value} (I : Inv X pins σ H s) (rx : RelV x u) (ty : TyX X.K H x t) : PySem.W.Looks (model X.prog X.w) s.heap (typeOf u) t := by
  obtain ⟨P, Z, hP, _⟩ := kit_of I rx ty
  exact Z.ty _ _ I.kIn hP
def rEqO (K : PySem.W.Frag) (C : Addr) (sp : Sp) (E : XK) (g : Bool → Bool) : R2 := fun x y H Q => ∃ a dx fs t, x = .ref a ∧ H a = some (.ins C dx fs) ∧ TyX K H y t ∧ PySem.W.notFirst K C t = true ∧ sp [.ref a, y] H (fun v H2 => ∃ b, v = .bl b ∧ Q (.bl (g b)) H2) E
theorem op_eqO (hs : SpOf X.K C f "__eq__") (F : FnG X.prog X.w X.K X.mg X.base CX k f fd ps sp) (hr : RmG (k + 1) X.A) (hb : Binds X.K fd ps []) (hx : Passes CX X E) : OpR X (compareOp .Eq) (rEqO X.K C sp E id) := by
  intro pins s σ H x y v u Q I rx ry h
  obtain ⟨a, dx, fs, t, rfl, ea, ty, nf, hsp⟩ := h
  have hv : v = Value.ref a := rx
  subst hv
  obtain ⟨ox, od, J, _⟩ := inst_at I ea
  obtain ⟨m, hF⟩ := I.fr
  have hu := hr.units
  refine PySem.W.cmp_ofEq (PySem.W.cmp_K (op := .Eq) (tb := t) (show X.A.units < cLine by omega) hF I.ok.mod.kin J (typ_of I ry ty) nf hs.at_ hs.fn (wpAny_mono (runAt (A' := X.A) (hr.mono (by omega)) rfl F hb hx I (vs := [.ref a, y]) (.cons rfl (.cons ry .nil)) hsp) (fun v s' z => ?_) fun _ _ z => z))
  obtain ⟨v', H', I', rv, b, rfl, q⟩ := z
  have hv : v = Value.bool b := rv
  subst hv
  exact ⟨.bl b, H', I', rfl, q⟩
end
section
variable {prog : Program} {w : World} {A : Around} {E : Value → Shared → Prop} {s : Shared} {K : PySem.W.Frag} {x C f : Addr} {ox : Obj} {od : Option Obj} {b tb : Value}
theorem ne_entry {Q : PySem.Fin → Shared → Prop} (hu : A.units < cLine) (X : K.In s.heap) (I : PySem.W.InstAt s.heap x ox C od) (hs : SpOf K C f "__eq__")
    (h : wpAny (model prog w) A (call (.ref f) [.ref x, b]) (fun v s' => ∃ c, v = .bool c ∧ Q (.done (.ret (.bool (!c)))) s') E s) : wpAny (model prog w) A (Builtin.«object.__ne__» ⟨[.ref x, b], []⟩) Q E s := by
  unfold Builtin.«object.__ne__»
  repeat (first
    | with_reducible refine wpAny_cRoomFor hu ?_
    | (refine wpAny_bind (m := callSpecialIfBound? (.ref x) (Str.ofString "__eq__") [b])
        (PySem.W.ifBound_K X I hs.at_ hs.fn (wpAny_mono h (fun r s' hr => by
          obtain ⟨c, rfl, hq⟩ := hr
          repeat (first | exact hq | exact wpAny_pure hq | exact wpAny_truthy_bool hq | (refine wpAny_bind (m := truthy (.bool _)) (wpAny_truthy_bool ?_)) | wp_step)) fun _ _ e => e)))
    | wp_step)
theorem ne_own {Q : Value → Shared → Prop} (hu : A.units + 1 < cLine) (X : K.In s.heap) (I : PySem.W.InstAt s.heap x ox C od) (hb : PySem.W.Looks (model prog w) s.heap (typeOf b) tb) (hn : PySem.W.notFirst K C tb = true)
    (hne : PySem.W.findIn K (.ref C) "__ne__" = some (some (.builtin "object.__ne__"))) (hm : PySem.W.mroIn K C (.type "object") = some true) (hs : SpOf K C f "__eq__")
    (h : wpAny (model prog w) A.in1 (call (.ref f) [.ref x, b]) (fun v s' => ∃ c, v = .bool c ∧ Q (.bool (!c)) s') E s) : wpAny (model prog w) A (richCompare .NotEq (.ref x) b) Q E s := by
  have one : wpAny (model prog w) A (tryCompare (.ref x) "__ne__" b) (fun r s' => ∃ v, r = some v ∧ Q v s') E s := by
    have two : wpAny (model prog w) A (call (.builtin "object.__ne__") ([.ref x] ++ [b])) (fun v s' => ∃ c, v = .bool c ∧ Q (.bool c) s') E s := by
      refine wpAny_call (codeAny_call_builtin F.cmp_object.ne.plain F.cmpEntry_ne (PySem.W.check_slot F.cmpKind_ne F.cmpSplit_ne (I.type.andThen (PySem.W.looks_mroIn X hm)) (F.cmpArgs_ne _ _) (ne_entry (A := A.in1) hu X I hs (wpAny_mono h (fun v s' z => ?_) fun _ _ z => z))))
      obtain ⟨c, rfl, q⟩ := z
      exact ⟨c, rfl, !c, rfl, q⟩
    have fin : wpAny (model prog w) A (call (.builtin "object.__ne__") ([.ref x] ++ [b]) >>= fun v => pure (some v)) (fun r s' => ∃ c, r = some (.bool c) ∧ Q (.bool c) s') E s :=
      wpAny_bind (wpAny_mono two (fun v s' ⟨c, e, q⟩ => wpAny_pure ⟨c, by rw [e], q⟩) fun _ _ z => z)
    unfold tryCompare
    simp only [callSpecialIfBound?, bindSpecialIfBound?]
    refine wpAny_bind (wpAny_mono (Q := fun r s' => ∃ c, r = some (.bool c) ∧ Q (.bool c) s') (wpAny_holding (wpAny_bind (wpAny_bind (wpAny_bind (I.type.here ((PySem.W.looks_findIn X hne).here ?_)))))) (fun r s' ⟨c, e, q⟩ => ?_) fun _ _ z => z)
    · refine wpAny_bind (wpAny_askSetting (wpAny_ite ?_))
      split
      · exact wpAny_bind (wpAny_of_eq (F.cmp_object.ne.bind _) (wpAny_pure (by exact fin)))
      · exact wpAny_tryCatch (wpAny_bind (wpAny_of_eq (F.cmp_object.ne.bind _) (wpAny_pure (by exact fin))))
    · subst e
      exact wpAny_pure ⟨_, rfl, q⟩
  unfold richCompare
  simp only [oneThing_ref]
  refine wpAny_holding (wpAny_bind (wpAny_cRoomFor (Nat.lt_of_succ_lt hu) ?_))
  refine wpAny_bind (I.type.here (wpAny_bind (hb.here ?_)))
  split
  · rename_i q
    have e : PySem.W.subIn K tb (.ref C) = some false := by
      rcases Bool.or_eq_true_iff.mp hn with e | e
      · rw [beq_iff_eq.mp e] at q; simp at q
      · exact beq_iff_eq.mp e
    refine wpAny_bind ((PySem.W.looks_subIn X e).here ?_)
    simp only [Bool.false_eq_true, if_false]
    refine wpAny_bind (wpAny_mono one (fun r s' z => ?_) fun _ _ e => e)
    obtain ⟨v, rfl, hq⟩ := z
    exact wpAny_pure hq
  · refine wpAny_bind (wpAny_pure ?_)
    simp only [Bool.false_eq_true, if_false]
    refine wpAny_bind (wpAny_mono one (fun r s' z => ?_) fun _ _ e => e)
    obtain ⟨v, rfl, hq⟩ := z
    exact wpAny_pure hq
end
section
variable {X : Cx} {CX : CXT} {k : Nat} {f C : Addr} {fd : FuncData} {ps : List Str} {sp : Sp} {E : XK}
/-- C has no __ne__ of its own -/
structure NoNe (K : PySem.W.Frag) (C : Addr) : Prop where
  ne : PySem.W.findIn K (.ref C) "__ne__" = some (some (.builtin "object.__ne__"))
  mro : PySem.W.mroIn K C (.type "object") = some true
theorem op_neO (hn : NoNe X.K C) (hs : SpOf X.K C f "__eq__") (F : FnG X.prog X.w X.K X.mg X.base CX k f fd ps sp) (hr : RmG (k + 1) X.A) (hb : Binds X.K fd ps []) (hx : Passes CX X E) : OpR X (compareOp .NotEq) (rEqO X.K C sp E (fun b => !b)) := by
  intro pins s σ H x y v u Q I rx ry h
  obtain ⟨a, dx, fs, t, rfl, ea, ty, nf, hsp⟩ := h
  have hv : v = Value.ref a := rx
  subst hv
  obtain ⟨ox, od, J, _⟩ := inst_at I ea
  have hu := hr.units
  refine PySem.W.cmp_ofNotEq (ne_own (tb := t) (show X.A.units + 1 < cLine by omega) I.kIn J (typ_of I ry ty) nf hn.ne hn.mro hs (wpAny_mono (runAt (A' := X.A.in1) hr.in1 rfl F hb hx I (vs := [.ref a, y]) (.cons rfl (.cons ry .nil)) hsp) (fun v s' z => ?_) fun _ _ z => z))
  obtain ⟨v', H', I', rv, b, rfl, q⟩ := z
  exact ⟨b, rv, .bl (!b), H', I', rfl, q⟩
end
end BR
set_option Elab.async false
set_option linter.all false
set_option maxRecDepth 100000
set_option maxHeartbeats 4000000
namespace BR
open PySem L2
/-! ## the same as functions on data -/
/-- a def of one shared argument, then a look at its answer -/
@[simp] def eSpO (C : Addr) (F : FT) (post : D → Option D) (fo : EF) : EF := fun ρ => eV fo ρ >>= fun z => ofO (asIns C z.1) >>= fun _ => noX (F [z.1]) >>= fun r => ofO (post r.1) >>= fun d => .ok (.val d, z.2)
@[simp] def poLen : D → Option D
  | .int i => if 0 ≤ i ∧ i ≤ 1000000 then some (.int i) else none
  | _ => none
@[simp] def poStr : D → Option D
  | .str x => some (.str x)
  | _ => none
@[simp] def poBl (g : Bool → Bool) : D → Option D
  | .bl b => some (.bl (g b))
  | _ => none
/-- == of an own class: the left one is of the class C, the right one a plain value or of one of Cs -/
@[simp] def okR (Cs : List Addr) : D → Bool
  | .ins C _ _ => Cs.any fun c => decide (c = C)
  | .obj _ => false
  | .ty _ => false
  | _ => true
@[simp] def eEqO (C : Addr) (Cs : List Addr) (F : FT) (g : Bool → Bool) (fa fb : EF) : EF := fun ρ => eV fa ρ >>= fun z1 => eV fb z1.2 >>= fun z2 => ofO (asIns C z1.1) >>= fun _ => ofO (guard (okR Cs z2.1)) >>= fun _ => noX (F [z1.1, z2.1]) >>= fun r => ofO (poBl g r.1) >>= fun d => .ok (.val d, z2.2)
section
variable {X : Cx} {E : WX} {k : Nat} {f C : Addr} {fd : FuncData} {ps : List Str} {F : FT} {x : Str} {p pos : Pos} {e : Expr} {fo : EF}
/-- what is left of a call when its answer is looked at -/
theorem call_post {K : PySem.W.Frag} {G H G1 H1 : Hp} {σ : St} {ρ ρ1 : S} {ds : List D} {vs : List V} {ms : List Bool} {Q Q' : VK} {post : D → Option D} (hms : ∀ b ∈ ms, b = false) (hml : ms.length = ds.length) (o1 : Out K G H σ ρ G1 H1 ρ1) (hl : RepL K G1 ds vs)
    (hp : ∀ (d d' : D) (v : V) (G' H' : Hp), post d = some d' → Rep K G' d v → (∀ v', Rep K G' d' v' → Q v' H') → Q' v H')
    (hw : Wp (noX (F ds) >>= fun r => ofO (post r.1) >>= fun d => R.ok (Hd.val d, ρ1)) (fun z => ∀ v G' H', Out K G H σ ρ G' H' z.2 → Hold K H G' H' σ z.2 z.1 v → Q v H') (ExE K E G H σ ρ)) : spF K ms false F vs H1 Q' (fun _ _ _ => False) := by
  refine call_sh (E := W0) (own := false) hms hml o1 hl ?_
  cases hF : F ds with
  | no => rw [hF] at hw; exact hw.elim
  | exc xc => rw [hF] at hw; exact hw.elim
  | ok r =>
    rw [hF] at hw
    obtain ⟨d', e1, q⟩ := Wp.opt (show Wp (ofO (post r.1) >>= fun d => R.ok (Hd.val d, ρ1)) _ _ from hw)
    exact fun v G' H' o h => hp r.1 d' v G' H' e1 h fun v' hv' => q v' G' H' o hv'
theorem snd_spO {K : PySem.W.Frag} {t : TA} {r : List V → Hp → VK → Prop} {post : D → Option D} (s : SndA K E t (aCons (eV fo) aNil))
    (hr : ∀ (G H : Hp) (σ : St) (ρ ρ1 : S) (G1 H1 : Hp) (a dx : Addr) (fs : List (Str × V)) (d : D) (Q : VK), Out K G H σ ρ G1 H1 ρ1 → Rep K G1 d (.ref a) → H1 a = some (.ins C dx fs) →
      Wp (noX (F [d]) >>= fun r => ofO (post r.1) >>= fun d => R.ok (Hd.val d, ρ1)) (fun z => ∀ v G' H', Out K G H σ ρ G' H' z.2 → Hold K H G' H' σ z.2 z.1 v → Q v H') (ExE K E G H σ ρ) → r [.ref a] H1 Q) : Snd K E (tCB r t) (eSpO C F post fo) := by
  intro G H σ ρ R Q hw
  refine s G H σ ρ R _ ?_
  have hw2 := hw.bind
  have e0 : aCons (eV fo) aNil ρ = (eV fo ρ >>= fun z => BR.R.ok ([z.1], z.2)) := rfl
  rw [e0]
  cases hF : eV fo ρ with
  | no => rw [hF] at hw2; exact hw2
  | exc x => rw [hF] at hw2; exact hw2
  | ok z =>
    rw [hF] at hw2
    intro vs G1 H1 o1 h1
    obtain ⟨v, vs', rfl, h1, h2⟩ := repL_cons.mp h1
    rw [repL_nil.mp h2]
    obtain ⟨cc, e1, q1⟩ := hw2.opt
    have h1' := h1
    rw [asIns_eq e1] at h1'
    unfold Rep at h1'
    obtain ⟨a, dx, fs, rfl, ha, hn, hds⟩ := h1'
    exact hr G H σ ρ z.2 G1 H1 a dx fs z.1 Q o1 h1 (o1.rel.sub.i ha) q1
theorem pr_lenO (hs : SpOf X.K C f "__len__") (Fn : FnG X.prog X.w X.K X.mg X.base (L2.CX X.prog X.w) k f fd ps (spF X.K [false] false F)) (hr : RmG (k + 1) X.A) (hb : Binds X.K fd ps []) (hx : Passes (L2.CX X.prog X.w) X (fun _ _ _ => False)) (hgl : Gl X "len") (hm : X.mg "len" = none) (ha : PAs X E [e] (aCons (eV fo) aNil))
    (he : starEach [e] X.env = (false, eval e X.env) :: starEach [] X.env := by rfl) (hpl : (backTo pos (starEach [] X.env)).any (·.1) = false := by rfl) : PR X E (.Call (.Name "len" p) [e] [] pos) (eSpO C F poLen fo) := by
  obtain ⟨t, pa, s⟩ := ha.ex
  refine ⟨_, pe_callB (cr_lenO hs Fn hr hb hx) hgl hm (by decide +kernel) pa (by decide) (by decide) he hpl, snd_spO s fun G H σ ρ ρ1 G1 H1 a dx fs d Q o1 h1 ea hw => ⟨a, dx, fs, rfl, ea, call_post (ms := [false]) (by decide) rfl o1 (.cons h1 .nil) (fun d d' v G' H' e1 h2 q => ?_) hw⟩⟩
  unfold poLen at e1
  split at e1
  · split at e1
    · rename_i i hi
      cases e1
      have hv : v = .int i := by unfold Rep at h2; exact h2
      have hn : ((i.toNat : Nat) : Int) = i := by omega
      exact ⟨i.toNat, by rw [hv, hn], by omega, by rw [hn]; exact q _ rep_int⟩
    · cases e1
  · cases e1
theorem pr_reprO (hs : SpOf X.K C f "__repr__") (Fn : FnG X.prog X.w X.K X.mg X.base (L2.CX X.prog X.w) k f fd ps (spF X.K [false] false F)) (hr : RmG (k + 1) X.A) (hb : Binds X.K fd ps []) (hx : Passes (L2.CX X.prog X.w) X (fun _ _ _ => False)) (hgl : Gl X "repr") (hm : X.mg "repr" = none) (ha : PAs X E [e] (aCons (eV fo) aNil))
    (he : starEach [e] X.env = (false, eval e X.env) :: starEach [] X.env := by rfl) (hpl : (backTo pos (starEach [] X.env)).any (·.1) = false := by rfl) : PR X E (.Call (.Name "repr" p) [e] [] pos) (eSpO C F poStr fo) := by
  obtain ⟨t, pa, s⟩ := ha.ex
  refine ⟨_, pe_callB (cr_reprO hs Fn hr hb hx) hgl hm (by decide +kernel) pa (by decide) (by decide) he hpl, snd_spO s fun G H σ ρ ρ1 G1 H1 a dx fs d Q o1 h1 ea hw => ⟨a, dx, fs, rfl, ea, call_post (ms := [false]) (by decide) rfl o1 (.cons h1 .nil) (fun d d' v G' H' e1 h2 q => ?_) hw⟩⟩
  unfold poStr at e1
  split at e1
  · cases e1
    unfold Rep at h2
    exact ⟨_, h2, q _ rep_str⟩
  · cases e1
theorem pr_strO (hs : SpOf X.K C f "__str__") (Fn : FnG X.prog X.w X.K X.mg X.base (L2.CX X.prog X.w) k f fd ps (spF X.K [false] false F)) (hr : RmG (k + 2) X.A) (hb : Binds X.K fd ps []) (hx : Passes (L2.CX X.prog X.w) X (fun _ _ _ => False)) (hgl : Gl X "str") (hm : X.mg "str" = none) (ha : PAs X E [e] (aCons (eV fo) aNil))
    (he : starEach [e] X.env = (false, eval e X.env) :: starEach [] X.env := by rfl) (hpl : (backTo pos (starEach [] X.env)).any (·.1) = false := by rfl) : PR X E (.Call (.Name "str" p) [e] [] pos) (eSpO C F poStr fo) := by
  obtain ⟨t, pa, s⟩ := ha.ex
  refine ⟨_, pe_callTy (cr_strO hs Fn hr hb hx) hgl hm (by decide +kernel) pa (by decide) (by decide) he hpl, snd_spO s fun G H σ ρ ρ1 G1 H1 a dx fs d Q o1 h1 ea hw => ⟨a, dx, fs, rfl, ea, call_post (ms := [false]) (by decide) rfl o1 (.cons h1 .nil) (fun d d' v G' H' e1 h2 q => ?_) hw⟩⟩
  unfold poStr at e1
  split at e1
  · cases e1
    unfold Rep at h2
    exact ⟨_, h2, q _ rep_str⟩
  · cases e1
end
end BR
set_option Elab.async false
set_option linter.all false
set_option maxRecDepth 100000
set_option maxHeartbeats 4000000
namespace BR
open PySem L2
section
variable {X : Cx} {E : WX} {k : Nat} {f C : Addr} {fd : FuncData} {ps : List Str} {F : FT} {p pos : Pos} {a b : Expr} {fa fb : EF} {Cs : List Addr}
/-- what is known of the classes that may stand on the right -/
structure RightOk (K : PySem.W.Frag) (C : Addr) (Cs : List Addr) : Prop where
  cls : ∀ c ∈ Cs, ClsI K c
  nf : ∀ c ∈ Cs, PySem.W.notFirst K C (.ref c) = true
theorem notFirst_ty {K : PySem.W.Frag} {T : String} {l : List Value} (e : fastBuiltinMro T = some l) (h : ∀ c : Addr, l.contains (.ref c) = false) : PySem.W.notFirst K C (.type T) = true := by
  show (_ || ((fastBuiltinMro T).map (·.contains (.ref C)) == some false)) = true
  rw [e]
  simp only [Option.map_some, h C]
  simp
theorem snd_eqO {K : PySem.W.Frag} {g : Bool → Bool} {ta tb : TE} (R0 : RightOk K C Cs) (sa : SndV K E ta (eV fa)) (sb : SndV K E tb (eV fb)) : Snd K E (tOp (rEqO K C (spF K [false, false] false F) (fun _ _ _ => False) g) ta tb) (eEqO C Cs F g fa fb) := by
  intro G H σ ρ R Q hw
  refine sa G H σ ρ R _ (hw.bind.mono (fun z1 _ q v G1 H1 o1 h1 => ?_) fun _ _ q => q)
  refine sb G1 H1 σ z1.2 o1.rel _ (q.bind.mono (fun z2 _ q2 w G2 H2 o2 h2 => ?_) fun _ _ q => q.step o1)
  obtain ⟨cc, e1, q3⟩ := q2.opt
  obtain ⟨_, e2, q4⟩ := q3.opt
  have h1m := Rep.mono o2.stp.gg _ h1
  have h1' := h1m
  rw [asIns_eq e1] at h1'
  unfold Rep at h1'
  obtain ⟨a, dx, fs, rfl, ha, hn, hds⟩ := h1'
  have hok : okR Cs z2.1 = true := guard_eq e2
  have hty : ∃ t, TyX K H2 w t ∧ PySem.W.notFirst K C t = true := by
    have hin : insIn Cs z2.1 = true := by rw [← hok]; cases z2.1 <;> rfl
    have hT : ∀ t, tyD z2.1 = some t → TyX K H2 w t := fun t et => tyD_ok R0.cls o2.rel.sub (.inl h2) hin et
    cases hz : z2.1 with
    | obj _ => rw [hz] at hin; cases hin
    | ty _ => rw [hz] at hin; cases hin
    | ins C' ns xs =>
      refine ⟨.ref C', hT _ (by rw [hz]; rfl), R0.nf C' ?_⟩
      rw [hz] at hin
      obtain ⟨c, hc, e⟩ := List.any_eq_true.mp (show (Cs.any fun c => decide (c = C')) = true from hin)
      rw [← of_decide_eq_true e]; exact hc
    | non => exact ⟨_, hT _ (by rw [hz]; rfl), notFirst_ty (l := [.type "NoneType", .type "object"]) (by decide +kernel) fun c => by simp⟩
    | bl _ => exact ⟨_, hT _ (by rw [hz]; rfl), notFirst_ty (l := [.type "bool", .type "int", .type "object"]) (by decide +kernel) fun c => by simp⟩
    | int _ => exact ⟨_, hT _ (by rw [hz]; rfl), notFirst_ty (l := [.type "int", .type "object"]) (by decide +kernel) fun c => by simp⟩
    | str _ => exact ⟨_, hT _ (by rw [hz]; rfl), notFirst_ty (l := [.type "str", .type "object"]) (by decide +kernel) fun c => by simp⟩
    | lst _ => exact ⟨_, hT _ (by rw [hz]; rfl), notFirst_ty (l := [.type "list", .type "object"]) (by decide +kernel) fun c => by simp⟩
    | scr _ => exact ⟨_, hT _ (by rw [hz]; rfl), notFirst_ty (l := [.type "list", .type "object"]) (by decide +kernel) fun c => by simp⟩
    | tup _ => exact ⟨_, hT _ (by rw [hz]; rfl), notFirst_ty (l := [.type "tuple", .type "object"]) (by decide +kernel) fun c => by simp⟩
    | dic _ _ => exact ⟨_, hT _ (by rw [hz]; rfl), notFirst_ty (l := [.type "dict", .type "object"]) (by decide +kernel) fun c => by simp⟩
  obtain ⟨t, ht, hnf⟩ := hty
  exact ⟨a, dx, fs, t, rfl, o2.rel.sub.i ha, ht, hnf, call_post (ms := [false, false]) (by decide) rfl (o1.trans o2) (.cons h1m (.cons h2 .nil)) (fun d d' v G' H' e1 h2 q => by
    unfold poBl at e1
    split at e1
    · cases e1
      unfold Rep at h2
      exact ⟨_, h2, q _ rep_bl⟩
    · cases e1) q4⟩
theorem pr_eqO (R0 : RightOk X.K C Cs) (hs : SpOf X.K C f "__eq__") (Fn : FnG X.prog X.w X.K X.mg X.base (L2.CX X.prog X.w) k f fd ps (spF X.K [false, false] false F)) (hr : RmG (k + 1) X.A) (hb : Binds X.K fd ps []) (hx : Passes (L2.CX X.prog X.w) X (fun _ _ _ => False)) (pa : PR X E a fa) (pb : PR X E b fb)
    (hm : behindInMarks .Eq b = false := by rfl) : PR X E (.Compare a [.Eq] [b] pos) (eEqO C Cs F id fa fb) := by
  obtain ⟨ta, pa, sa⟩ := pa.v.ex
  obtain ⟨tb, pb, sb⟩ := pb.v.ex
  exact ⟨_, pe_cmpR (op_eqO hs Fn hr hb hx) pa pb hm, snd_eqO R0 sa sb⟩
theorem pr_neO (R0 : RightOk X.K C Cs) (hn : NoNe X.K C) (hs : SpOf X.K C f "__eq__") (Fn : FnG X.prog X.w X.K X.mg X.base (L2.CX X.prog X.w) k f fd ps (spF X.K [false, false] false F)) (hr : RmG (k + 1) X.A) (hb : Binds X.K fd ps []) (hx : Passes (L2.CX X.prog X.w) X (fun _ _ _ => False)) (pa : PR X E a fa) (pb : PR X E b fb)
    (hm : behindInMarks .NotEq b = false := by rfl) : PR X E (.Compare a [.NotEq] [b] pos) (eEqO C Cs F (fun b => !b) fa fb) := by
  obtain ⟨ta, pa, sa⟩ := pa.v.ex
  obtain ⟨tb, pb, sb⟩ := pb.v.ex
  exact ⟨_, pe_cmpR (op_neO hn hs Fn hr hb hx) pa pb hm, snd_eqO R0 sa sb⟩
end
end BR
set_option Elab.async false
set_option linter.all false
set_option maxRecDepth 100000
set_option maxHeartbeats 4000000
namespace BR
open PySem PySem.Spec PyProof.Rows L2
/-! ## o(e, ..) by the class's __call__ -/
section
variable {M : Model} {A : Around} {E : Value → Shared → Prop} {s : Shared} {env : Env} {pos : Pos} {x : Addr} {Q : Value → Shared → Prop}
/-- the object at x is a plain one -/
def PlainAt (h : Heap) (x : Addr) : Prop := ∃ o, h.get? x = some o ∧ o.data = .plain
theorem callWith_inst {e : Expr} {rest : List Expr} (h : wpAny M A (spliced (backTo pos (starEach (e :: rest) env))) (fun vs s₁ => PlainAt s₁.heap x ∧ wpAny M A (call (.ref x) ([] ++ vs)) Q E s₁) E s)
    (he : starEach (e :: rest) env = (false, eval e env) :: starEach rest env := by rfl) (hplain : (backTo pos (starEach rest env)).any (·.1) = false := by rfl) : wpAny M A (callWith pos (.ref x) [] (backTo pos (starEach (e :: rest) env)) []) Q E s := by
  rw [he] at h ⊢
  have ha := PySem.Calls.evalArgs_plain (f := .ref x) (Q := fun a s₁ => PlainAt s₁.heap x ∧ wpAny M A (call (.ref x) ([] ++ a.pos) a.kw) Q E s₁) h
  unfold callWith
  refine wpAny_bind (wpAny_holding (wpAny_mono ha (fun a s₁ h₁ => wpAny_bind (wpAny_standAt ?_)) fun _ _ y => y))
  obtain ⟨⟨o, ho, hd⟩, hq⟩ := h₁
  have L : PySem.W.Looks M s₁.heap (keeperOf (.ref x)) .caller := by
    refine (PySem.W.Looks.ld (part := none) ho).andThen ?_
    simp only [hd]
    exact .now
  have tail : ∀ {t : Sem Value}, wpAny M A t Q E s₁ → wpAny M A (t >>= fun r => holding [r] point >>= fun _ => pure r) Q E s₁ :=
    fun ht => wpAny_bind (wpAny_mono ht (fun r s₂ hr => wpAny_bind (wpAny_holding (wpAny_point (wpAny_pure hr)))) fun _ _ y => y)
  have hp : ((backTo pos ((false, eval e env) :: starEach rest env)).any (·.1) || ([] : List (Option Str × Sem Value)).any (·.1.isNone)) = false := by
    show ((false || (backTo pos (starEach rest env)).any (·.1)) || false) = false
    rw [hplain]; rfl
  simp only [hp]
  refine wpAny_bind (L.here ?_)
  exact tail (wpAny_operateT hq)
end
section
variable {X : Cx} {CX : CXT} {k i : Nat} {f C : Addr} {fd : FuncData} {ps : List Str} {sp : Sp} {dvs : List V} {ds : List Value} {E : L2.St → XK} {x : Str} {p pos : Pos} {e : Expr} {es : List Expr} {t : TA}
def tCallO (i : Nat) (C : Addr) (sp : Sp) (dvs : List V) (E : L2.St → XK) (t : TA) : TE := fun σ H Q => ∃ a dx fs, σ[i]? = some (some (.ref a)) ∧ t σ H fun vs H1 => H1 a = some (.ins C dx fs) ∧ sp (.ref a :: (vs ++ dvs)) H1 Q (E σ)
theorem pe_callO (hs : SpOf X.K C f "__call__") (hfn : PySem.W.fnIn X.K f = true) (F : FnG X.prog X.w X.K X.mg X.base CX k f fd ps sp) (hr : RmG k X.A) (hN : X.N[i]? = some x) (hv : Vis X.env.scope x) (hb : Binds X.K fd ps ds) (hd : Vals dvs ds) (hx : ∀ σ, PassesAt CX X σ (E σ)) (ha : PA X (e :: es) t)
    (hdb : (x == ("__debug__" : Str)) = false := by decide) (hcd : (x == ("__classdict__" : Str)) = false := by decide)
    (he : starEach (e :: es) X.env = (false, eval e X.env) :: starEach es X.env := by rfl) (hpl : (backTo pos (starEach es X.env)).any (·.1) = false := by rfl) : PE X (.Call (.Name x p) (e :: es) [] pos) (tCallO i C sp dvs E t) := by
  constructor
  intro pins s σ H Q I h
  obtain ⟨a, dx, fs, hs1, ht⟩ := h
  refine wpAny_Call_Name_kw (thn ((pe_var (pos := p) hN hv hdb hcd).run pins s σ H (fun v H1 => v = .ref a ∧ H1 = H) I ⟨.ref a, hs1, rfl, rfl⟩) fun u s1 ⟨v, H1, I1, r1, q1, q2⟩ => ?_)
  subst q1 q2
  have hu : u = Value.ref a := r1
  subst hu
  refine callWith_inst (thn (ha.run pos pins s1 σ _ _ I1 ht) fun us s2 ⟨vs, H2, I2, r, ea, q⟩ => ?_) he hpl
  obtain ⟨ox, od, J, hp⟩ := inst_at I2 ea
  refine ⟨⟨ox, J.at_, hp⟩, ?_⟩
  have r2 : Vals (V.ref a :: (vs ++ dvs)) (Value.ref a :: (us ++ ds)) := .cons rfl (r.append hd)
  have hl : (Value.ref a :: us ++ ds).length = ps.length := by
    have z := F.len _ _ _ _ q
    rw [r2.length] at z
    exact z
  have hc := F.at_ X.A X.stack s2 H2 ⟨.ref a :: us, []⟩ (.ref a :: (us ++ ds)) _ Q (E σ) ⟨hr, I2.env0, hb s2 (.ref a :: us) I2.kIn hl, r2, q⟩
  refine wpAny_call (PySem.W.kco_code (a := ⟨[] ++ us, []⟩) I2.kIn J hp hs.at_ hs.fn hfn (codeAny_mono hc fun r s' hq => ?_))
  rcases callEnd I2 (hx σ) hq with ⟨u, rfl, z⟩ | ⟨er, rfl, z⟩
  · exact z
  · exact z
end
@[simp] def eCallO (i : Nat) (C : Addr) (own : Bool) (F : FT) (g : S → R (List D × S)) : EF := fun ρ => match ρ[i]? with
  | some (some (.sh d)) => ofO (asIns C d) >>= fun _ => g ρ >>= fun y => raiseAt y.2 (F (d :: y.1)) >>= fun r => .ok (if own = true then .tmp r.1 else .val r.1, y.2)
  | _ => .no
section
variable {X : Cx} {E : WX} {k i : Nat} {f C : Addr} {fd : FuncData} {ps : List Str} {own : Bool} {F : FT} {ms : List Bool} {x : Str} {p pos : Pos} {e : Expr} {es : List Expr} {g : S → R (List D × S)}
/-- o(e, ..), o an instance in a slot -/
theorem pr_callO (hs : SpOf X.K C f "__call__") (hfn : PySem.W.fnIn X.K f = true) (Fn : FnG X.prog X.w X.K X.mg X.base (L2.CX X.prog X.w) k f fd ps (spF X.K (false :: ms) own F)) (hr : RmG k X.A) (hN : X.N[i]? = some x) (hv : Vis X.env.scope x) (hb : Binds X.K fd ps []) (hx : Takes X E) (ha : PAs X E (e :: es) g)
    (hms : ∀ b ∈ ms, b = false := by decide) {n : Nat} (hal : ALen g n) (hml : ms.length = n := by rfl)
    (hdb : (x == ("__debug__" : Str)) = false := by decide) (hcd : (x == ("__classdict__" : Str)) = false := by decide)
    (he : starEach (e :: es) X.env = (false, eval e X.env) :: starEach es X.env := by rfl) (hpl : (backTo pos (starEach es X.env)).any (·.1) = false := by rfl) : PR X E (.Call (.Name x p) (e :: es) [] pos) (eCallO i C own F g) := by
  obtain ⟨t, pa, s⟩ := ha.ex
  refine ⟨_, pe_callO (dvs := []) (E := fun σ => WE E σ) hs hfn Fn hr hN hv hb .nil (fun σ => passAt hx σ) pa hdb hcd he hpl, fun G H σ ρ r Q hw => ?_⟩
  unfold eCallO at hw
  split at hw
  rotate_left
  · exact hw.elim
  rename_i d q
  obtain ⟨cc, e1, hw⟩ := hw.opt
  obtain ⟨v, ev, h1⟩ := r.sl i _ q
  have h1' := h1
  rw [asIns_eq e1] at h1'
  unfold Rep at h1'
  obtain ⟨a, dx, fs, rfl, ha, hn, hds⟩ := h1'
  refine ⟨a, dx, fs, ev, s G H σ ρ r _ (hw.bind.mono (fun y hy q3 vs G2 H2 o2 h2 => ⟨o2.rel.sub.i (o2.stp.gg _ _ ha), ?_⟩) fun _ _ q3 => q3)⟩
  rw [List.append_nil]
  refine call_sh (ms := false :: ms) (ds := d :: y.1) (fun b hb => ?_) (congrArg Nat.succ (by rw [hal _ y hy]; exact hml)) o2 (.cons (Rep.mono o2.stp.gg _ h1) h2) q3
  rcases List.mem_cons.mp hb with z | z
  · exact z
  · exact hms b z
end
end BR
set_option Elab.async false
set_option linter.all false
set_option maxRecDepth 100000
set_option maxHeartbeats 4000000
namespace BR
open PySem L2
/-! ## owned trees: reading and changing along paths -/
section
variable {K : PySem.W.Frag} {G H : Hp} {a : Addr} {u : HO}
theorem upd_away {A : List Addr} (h : a ∉ A) : ∀ b ∈ A, upd H a u b = H b := fun b m => upd_ne fun z => h (by rw [← z]; exact m)
theorem own_away {t : T} {v : V} (h : Own K G H t v) (n : a ∉ fp H t v) : Own K G (upd H a u) t v ∧ fp (upd H a u) t v = fp H t v :=
  h.go (Same.refl G) t fun b m => ⟨upd_away n b m, (h.in_ t b m).1⟩
theorem ownL_away {ts : List T} {vs : List V} (h : OwnL K G H ts vs) (n : a ∉ fpL H ts vs) : OwnL K G (upd H a u) ts vs ∧ fpL (upd H a u) ts vs = fpL H ts vs :=
  h.go (Same.refl G) ts fun b m => ⟨upd_away n b m, (h.in_ ts b m).1⟩
theorem nodup_app {l₁ l₂ : List Addr} : (l₁ ++ l₂).Nodup ↔ l₁.Nodup ∧ l₂.Nodup ∧ ∀ x ∈ l₁, x ∉ l₂ := by
  rw [List.nodup_append]
  constructor
  · rintro ⟨h1, h2, h3⟩; exact ⟨h1, h2, fun x m z => h3 x m x z rfl⟩
  · rintro ⟨h1, h2, h3⟩; exact ⟨h1, h2, fun x m y n e => h3 x m (by rw [e]; exact n)⟩
/-- one of the things within is changed -/
theorem ownL_set : ∀ {ts : List T} {vs : List V} {k : Nat} {t t2 : T} {w : V}, OwnL K G H ts vs → (fpL H ts vs).Nodup → ts[k]? = some t → vs[k]? = some w → a ∈ fp H t w → Own K G (upd H a u) t2 w → (fp (upd H a u) t2 w).Nodup → (∀ x ∈ fp (upd H a u) t2 w, x ∈ fp H t w ∨ x ∉ fpL H ts vs) →
    OwnL K G (upd H a u) (ts.set k t2) vs ∧ (fpL (upd H a u) (ts.set k t2) vs).Nodup ∧ ∀ x ∈ fpL (upd H a u) (ts.set k t2) vs, x ∈ fpL H ts vs ∨ x ∈ fp (upd H a u) t2 w
  | [], vs, k, t, t2, w, _, _, e, _, _, _, _, _ => by simp at e
  | t0 :: ts, vs, k, t, t2, w, h, nd, e, ev, m, h2, nd2, hn => by
    unfold OwnL at h
    obtain ⟨v0, vs', rfl, o0, os⟩ := h
    rw [fpL_cons] at nd
    obtain ⟨n1, n2, n3⟩ := nodup_app.mp nd
    cases k with
    | zero =>
      simp at e ev; subst e; subst ev
      obtain ⟨o1, f1⟩ := ownL_away (u := u) os (n3 a m)
      rw [List.set_cons_zero]
      refine ⟨by unfold OwnL; exact ⟨v0, vs', rfl, h2, o1⟩, ?_, fun x hx => ?_⟩
      · rw [fpL_cons, f1, nodup_app]
        refine ⟨nd2, n2, fun x hx hx2 => ?_⟩
        rcases hn x hx with z | z
        · exact n3 x z hx2
        · exact z (by rw [fpL_cons]; exact List.mem_append_right _ hx2)
      · rw [fpL_cons, f1] at hx
        rcases List.mem_append.mp hx with z | z
        · exact .inr z
        · exact .inl (by rw [fpL_cons]; exact List.mem_append_right _ z)
    | succ k =>
      simp at e ev
      obtain ⟨tt, e1, o3, h4⟩ := ownL_get os ev
      rw [e] at e1; cases e1
      have na : a ∉ fp H t0 v0 := fun z => n3 a z (h4 a m)
      obtain ⟨o1, f1⟩ := own_away (u := u) o0 na
      obtain ⟨o5, n5, s5⟩ := ownL_set os n2 e ev m h2 nd2 fun x hx => (hn x hx).imp id fun z y => z (by rw [fpL_cons]; exact List.mem_append_right _ y)
      rw [List.set_cons_succ]
      refine ⟨by unfold OwnL; exact ⟨v0, vs', rfl, o1, o5⟩, ?_, fun x hx => ?_⟩
      · rw [fpL_cons, f1, nodup_app]
        refine ⟨n1, n5, fun x hx hx2 => ?_⟩
        rcases s5 x hx2 with z | z
        · exact n3 x hx z
        · rcases hn x z with y | y
          · exact n3 x hx (h4 x y)
          · exact y (by rw [fpL_cons]; exact List.mem_append_left _ hx)
      · rw [fpL_cons, f1] at hx
        rcases List.mem_append.mp hx with z | z
        · exact .inl (by rw [fpL_cons]; exact List.mem_append_left _ z)
        · exact (s5 x z).imp (fun y => by rw [fpL_cons]; exact List.mem_append_right _ y) id
theorem own_setKids {t : T} {b : Addr} {o : HO} {ts : List T} (h : Own K G H t (.ref b)) (ho : H b = some o) (hz : t.isFz = false) (hb : upd H a u b = some o) (hl : ts.length = t.kids.length) (hk : OwnL K G (upd H a u) ts (vkids o)) :
    Own K G (upd H a u) (t.setKids ts) (.ref b) ∧ fp (upd H a u) (t.setKids ts) (.ref b) = b :: fpL (upd H a u) ts (vkids o) := by
  cases t with
  | fz d => cases hz
  | lst ts0 =>
    unfold Own at h
    obtain ⟨b', vs, e, h1, h2, h3⟩ := h
    cases e
    rw [ho] at h2; cases h2
    exact ⟨by unfold T.setKids Own; exact ⟨b, vs, rfl, h1, hb, hk⟩, fp_lst hb⟩
  | dic ks ts0 =>
    unfold Own at h
    obtain ⟨b', kvs, e, h1, h2, h4, h3⟩ := h
    cases e
    rw [ho] at h2; cases h2
    exact ⟨by unfold T.setKids Own; exact ⟨b, kvs, rfl, h1, hb, h4, hk⟩, fp_dic hb⟩
  | ins C ns ts0 =>
    unfold Own at h
    obtain ⟨b', dx, fs, e, h1, h2, h4, h3⟩ := h
    cases e
    rw [ho] at h2; cases h2
    exact ⟨by unfold T.setKids Own; exact ⟨b, dx, fs, rfl, h1, hb, h4, hk⟩, fp_ins hb⟩
/-- the node at the path p is changed -/
theorem own_put : ∀ (p : List Nat) {t t0 t2 : T} {w : V}, Own K G H t w → (fp H t w).Nodup → At H t w p (.ref a) → t.at p = some t0 → t0.isFz = false → Own K G (upd H a u) t2 (.ref a) → (fp (upd H a u) t2 (.ref a)).Nodup → (∀ x ∈ fp (upd H a u) t2 (.ref a), x ∈ fp H t0 (.ref a) ∨ x ∉ fp H t w) →
    Own K G (upd H a u) (t.put p t2) w ∧ (fp (upd H a u) (t.put p t2) w).Nodup ∧ ∀ x ∈ fp (upd H a u) (t.put p t2) w, x ∈ fp H t w ∨ x ∈ fp (upd H a u) t2 (.ref a)
  | [], t, t0, t2, w, h, nd, at_, e, hz, h2, nd2, hn => by
    have e' : V.ref a = w := at_
    subst e'
    have : t.put [] t2 = t2 := by cases t <;> rfl
    rw [this]
    exact ⟨h2, nd2, fun x m => .inr m⟩
  | k :: p, t, t0, t2, w, h, nd, at_, e, hz, h2, nd2, hn => by
    obtain ⟨b, o, t', w', rfl, ho, ht, hv, at2⟩ := at_
    have hzt : t.isFz = false := by
      cases t with
      | fz d => simp at ht
      | _ => rfl
    obtain ⟨hg, hk, hf⟩ := own_node h ho hzt
    rw [hf] at nd
    obtain ⟨nb, ndk⟩ := List.nodup_cons.mp nd
    have e2 : t.at (k :: p) = t'.at p := by
      have : t.at (k :: p) = t.kids[k]?.bind fun u => u.at p := by cases t <;> rfl
      rw [this, ht]; rfl
    rw [e2] at e
    obtain ⟨tt, e1, o3, h4⟩ := ownL_get hk hv
    rw [ht] at e1; cases e1
    obtain ⟨t1, e3, o4, h5⟩ := own_at p o3 at2
    rw [e] at e3; cases e3
    obtain ⟨oa, hoa⟩ : ∃ oa, H a = some oa := by
      cases q : H a with
      | some oa => exact ⟨oa, rfl⟩
      | none =>
        exfalso
        cases t0 with
        | fz d => cases hz
        | lst ts => unfold Own at o4; obtain ⟨_, _, z, _, h2, _⟩ := o4; cases z; rw [q] at h2; cases h2
        | dic ks ts => unfold Own at o4; obtain ⟨_, _, z, _, h2, _⟩ := o4; cases z; rw [q] at h2; cases h2
        | ins C ns ts => unfold Own at o4; obtain ⟨_, _, _, z, _, h2, _⟩ := o4; cases z; rw [q] at h2; cases h2
    have ma0 : a ∈ fp H t0 (.ref a) := by rw [(own_node o4 hoa hz).2.2]; exact List.mem_cons_self
    have ma : a ∈ fp H t' w' := h5 a ma0
    have nba : b ≠ a := fun z => nb (by rw [z]; exact h4 a ma)
    have nd' : (fp H t' w').Nodup := by
      have : ∀ {ts : List T} {vs : List V} {k : Nat}, OwnL K G H ts vs → (fpL H ts vs).Nodup → ts[k]? = some t' → vs[k]? = some w' → (fp H t' w').Nodup := by
        intro ts
        induction ts with
        | nil => intro vs k _ _ e _; simp at e
        | cons t0 ts ih =>
          intro vs k hh nn e ev
          unfold OwnL at hh
          obtain ⟨v0, vs', rfl, _, os⟩ := hh
          rw [fpL_cons] at nn
          obtain ⟨n1, n2, _⟩ := nodup_app.mp nn
          cases k with
          | zero => simp at e ev; subst e; subst ev; exact n1
          | succ k => simp at e ev; exact ih os n2 e ev
      exact this hk ndk ht hv
    obtain ⟨o6, n6, s6⟩ := own_put p o3 nd' at2 e hz h2 nd2 fun x hx => (hn x hx).imp id fun z y => z (by rw [hf]; exact List.mem_cons_of_mem _ (h4 x y))
    obtain ⟨o7, n7, s7⟩ := ownL_set hk ndk ht hv ma o6 n6 fun x hx => by
      rcases s6 x hx with z | z
      · exact .inl z
      · rcases hn x z with y | y
        · exact .inl (h5 x y)
        · exact .inr fun q => y (by rw [hf]; exact List.mem_cons_of_mem _ q)
    have hb : upd H a u b = some o := by rw [upd_ne nba]; exact ho
    obtain ⟨o8, f8⟩ := own_setKids h ho hzt hb (by rw [List.length_set]) o7
    have ep : t.put (k :: p) t2 = t.setKids (t.kids.set k (t'.put p t2)) := by
      have : t.put (k :: p) t2 = (match t.kids[k]? with | some x => t.setKids (t.kids.set k (x.put p t2)) | none => t) := by cases t <;> rfl
      rw [this, ht]
    rw [ep, f8]
    refine ⟨o8, List.nodup_cons.mpr ⟨fun z => ?_, n7⟩, fun x hx => ?_⟩
    · rcases s7 b z with y | y
      · exact nb y
      · rcases s6 b y with q | q
        · exact nb (h4 b q)
        · rcases hn b q with r | r
          · exact nb (h4 b (h5 b r))
          · exact r (by rw [hf]; exact List.mem_cons_self)
    · rcases List.mem_cons.mp hx with rfl | z
      · exact .inl (by rw [hf]; exact List.mem_cons_self)
      · rcases s7 x z with y | y
        · exact .inl (by rw [hf]; exact List.mem_cons_of_mem _ y)
        · rcases s6 x y with q | q
          · exact .inl (by rw [hf]; exact List.mem_cons_of_mem _ (h4 x q))
          · exact .inr q
theorem own_some {t : T} (h : Own K G H t (.ref a)) (hz : t.isFz = false) : ∃ o, H a = some o ∧ ¬ Stat o := by
  cases t with
  | fz d => cases hz
  | lst ts => unfold Own at h; obtain ⟨_, _, z, _, h2, _⟩ := h; cases z; exact ⟨_, h2, lst_stat⟩
  | dic ks ts => unfold Own at h; obtain ⟨_, _, z, _, h2, _⟩ := h; cases z; exact ⟨_, h2, dK_stat⟩
  | ins C ns ts =>
    unfold Own at h; obtain ⟨_, _, _, z, _, h2, _⟩ := h; cases z
    refine ⟨_, h2, ?_⟩
    rintro (⟨ps, z⟩ | ⟨c, q, z⟩)
    · cases z
    · unfold LamX.CodeO at z; cases z
end
/-- the slot's tree is changed at a node -/
theorem tree_ok {K : PySem.W.Frag} {Gs Hs G H : Hp} {σs σ : St} {ρs ρ : S} {i : Nat} {p : List Nat} {t t0 t2 : T} {w : V} {a : Addr} {u : HO} (o : OutS K Gs Hs σs ρs G H σ ρ) (e : ρ[i]? = some (some (.dp t))) (hw : σ[i]? = some (some w)) (at_ : At H t w p (.ref a)) (ep : t.at p = some t0) (hz : t0.isFz = false)
    (h2 : Own K G (upd H a u) t2 (.ref a)) (nd2 : (fp (upd H a u) t2 (.ref a)).Nodup) (hn : ∀ x ∈ fp (upd H a u) t2 (.ref a), x ∈ fp H t0 (.ref a) ∨ (Hs x = none ∧ ¬ ads H σ ρ x)) : OutS K Gs Hs σs ρs G (upd H a u) σ (ρ.set i (some (.dp (t.put p t2)))) := by
  obtain ⟨w', e1, ow, nd⟩ := o.rel.tree e
  rw [hw] at e1; cases e1
  have hil : i < ρ.length := (List.getElem?_eq_some_iff.mp e).1
  have inA : ∀ x ∈ fp H t w, ads H σ ρ x := fun x m => .inr ⟨i, t, w, e, hw, m⟩
  obtain ⟨t1, e3, o4, h5⟩ := own_at p ow at_
  rw [ep] at e3; cases e3
  obtain ⟨oa, hoa, nst⟩ := own_some o4 hz
  have ma : a ∈ fp H t w := h5 a (by rw [(own_node o4 hoa hz).2.2]; exact List.mem_cons_self)
  obtain ⟨o6, n6, s6⟩ := own_put p ow nd at_ ep hz h2 nd2 fun x hx => (hn x hx).imp id fun z y => z.2 (inA x y)
  have s7 : ∀ x ∈ fp (upd H a u) (t.put p t2) w, x ∈ fp H t w ∨ (Hs x = none ∧ ¬ ads H σ ρ x) := fun x hx => by
    rcases s6 x hx with z | z
    · exact .inl z
    · exact (hn x z).imp (h5 x) id
  have hga := (ow.in_ t a ma).1
  have sb : Sub G (upd H a u) := fun b x eb => by
    have hb : b ≠ a := fun z => by rw [z, hga] at eb; cases eb
    rw [upd_ne hb]; exact o.rel.sub b x eb
  have mset : ∀ j, isMut (ρ.set i (some (.dp (t.put p t2)))) j → j ≠ i ∧ isMut ρ j := fun j h => isMut_set h fun d => ⟨nofun, nofun⟩
  have dset : ∀ (j : Nat) (x : T), (ρ.set i (some (.dp (t.put p t2))))[j]? = some (some (Sl.dp x)) → (j = i ∧ x = t.put p t2) ∨ (j ≠ i ∧ ρ[j]? = some (some (Sl.dp x))) := fun j x q => by
    by_cases hj : i = j
    · subst hj; rw [List.getElem?_set_self hil] at q; cases q; exact .inl ⟨rfl, rfl⟩
    · rw [List.getElem?_set_ne hj] at q; exact .inr ⟨Ne.symm hj, q⟩
  have oth : ∀ (j : Nat) (x : T) (v : V), j ≠ i → ρ[j]? = some (some (Sl.dp x)) → σ[j]? = some (some v) → Own K G (upd H a u) x v ∧ fp (upd H a u) x v = fp H x v ∧ (fp H x v).Nodup := fun j x v hj q qv => by
    obtain ⟨v', e2, h1, h3⟩ := o.rel.tree q
    rw [qv] at e2; cases e2
    obtain ⟨h6, h7⟩ := own_away (u := u) h1 fun m => hj (o.rel.dp.dd j i x t v w a q qv e hw m ma)
    exact ⟨h6, h7, h3⟩
  have adsN : ∀ x, ads (upd H a u) σ (ρ.set i (some (.dp (t.put p t2)))) x → ads H σ ρ x ∨ Hs x = none := fun x h => by
    rcases h with ⟨j, m, q⟩ | ⟨j, y, v, q, qv, m⟩
    · exact .inl (.inl ⟨j, (mset j m).2, q⟩)
    · rcases dset j y q with ⟨rfl, rfl⟩ | ⟨hj, q⟩
      · rw [hw] at qv; cases qv
        rcases s7 x m with z | z
        · exact .inl (inA x z)
        · exact .inr z.1
      · rw [(oth j y v hj q qv).2.1] at m
        exact .inl (.inr ⟨j, y, v, q, qv, m⟩)
  refine ⟨⟨by rw [List.length_set]; exact o.rel.len, sb, fun j s q => ?_, fun j k b m1 m2 => o.rel.dis j k b (mset j m1).2 (mset k m2).2, ⟨fun j k x y v v2 b q1 q2 q3 q4 m1 m2 => ?_, fun b j h m q => ?_⟩⟩, o.stp.trans ⟨Same.refl _, fun b x eb n => ?_, fun b eb => ?_, fun _ _ _ h => h, tabs_upd fun o' e' => by rw [hoa] at e'; cases e'; exact nst⟩ fun c hc (z : ads H σ ρ c) => o.nw c z hc, fun x h hx => ?_, fun j h => ?_⟩
  · by_cases hj : i = j
    · subst hj
      rw [List.getElem?_set_self hil] at q; cases q
      exact ⟨w, hw, o6, n6⟩
    · rw [List.getElem?_set_ne hj] at q
      have z := o.rel.sl j s q
      cases s with
      | sh d => exact z
      | own d =>
        obtain ⟨b, e2, g1, x, g2, g3⟩ := z
        have nb : b ≠ a := fun z => o.rel.dp.ds a j ⟨i, t, w, e, hw, ma⟩ ⟨d, .inl q⟩ (by rw [← z]; exact e2)
        exact ⟨b, e2, g1, x, by rw [upd_ne nb]; exact g2, g3⟩
      | io d =>
        obtain ⟨b, e2, g1, x, g2, g3⟩ := z
        have nb : b ≠ a := fun z => o.rel.dp.ds a j ⟨i, t, w, e, hw, ma⟩ ⟨d, .inr q⟩ (by rw [← z]; exact e2)
        exact ⟨b, e2, g1, x, by rw [upd_ne nb]; exact g2, g3⟩
      | dp y =>
        obtain ⟨v, e2, g1, g2⟩ := z
        obtain ⟨h6, h7, h8⟩ := oth j y v (Ne.symm hj) q e2
        exact ⟨v, e2, h6, by rw [h7]; exact h8⟩
  · rcases dset j x q1 with ⟨rfl, rfl⟩ | ⟨hj, r1⟩
    · rw [hw] at q2; cases q2
      rcases dset k y q3 with ⟨rfl, rfl⟩ | ⟨hk, r3⟩
      · rfl
      · rw [(oth k y v2 hk r3 q4).2.1] at m2
        rcases s7 b m1 with z | z
        · exact o.rel.dp.dd j k t y w v2 b e hw r3 q4 z m2
        · exact absurd (.inr ⟨k, y, v2, r3, q4, m2⟩) z.2
    · rw [(oth j x v hj r1 q2).2.1] at m1
      rcases dset k y q3 with ⟨rfl, rfl⟩ | ⟨hk, r3⟩
      · rw [hw] at q4; cases q4
        rcases s7 b m2 with z | z
        · exact o.rel.dp.dd j k x t v w b r1 q2 e hw m1 z
        · exact absurd (.inr ⟨j, x, v, r1, q2, m1⟩) z.2
      · rw [(oth k y v2 hk r3 q4).2.1] at m2
        exact o.rel.dp.dd j k x y v v2 b r1 q2 r3 q4 m1 m2
  · obtain ⟨hj, m'⟩ := mset j m
    obtain ⟨k, y, v, q1, q2, m1⟩ := h
    rcases dset k y q1 with ⟨rfl, rfl⟩ | ⟨hk, r1⟩
    · rw [hw] at q2; cases q2
      rcases s7 b m1 with z | z
      · exact o.rel.dp.ds b j ⟨k, t, w, e, hw, z⟩ m' q
      · exact z.2 (.inl ⟨j, m', q⟩)
    · rw [(oth k y v hk r1 q2).2.1] at m1
      exact o.rel.dp.ds b j ⟨k, y, v, r1, q2, m1⟩ m' q
  · rw [upd_ne fun z => n (by rw [z]; exact inA a ma)]; exact eb
  · by_cases hb : b = a
    · subst hb; rw [upd_same] at eb; cases eb
    · rw [upd_ne hb] at eb; exact eb
  · rcases adsN x h with z | z
    · exact o.nw x z hx
    · exact absurd z hx
  · obtain ⟨⟨d, q⟩, q2⟩ := o.io j h
    have hj : i ≠ j := fun z => by subst z; rw [e] at q; cases q
    exact ⟨⟨d, by rw [List.getElem?_set_ne hj]; exact q⟩, q2⟩
end BR
set_option Elab.async false
set_option linter.all false
set_option maxRecDepth 100000
set_option maxHeartbeats 4000000
namespace BR
open PySem L2
/-! ## trees in expressions and statements -/
@[simp] def node : Hd → S → Option T
  | .slot i, ρ => (match ρ[i]? with
    | some (some (.dp t)) => some t
    | _ => none)
  | .sub i p, ρ => (match ρ[i]? with
    | some (some (.dp t)) => t.at p
    | _ => none)
  | _, _ => none
@[simp] def subH : Hd → Nat → Hd
  | .slot i, k => .sub i [k]
  | .sub i p, k => .sub i (p ++ [k])
  | h, _ => h
@[simp] def putT : Hd → T → S → Option S
  | .slot i, u, ρ => (match ρ[i]? with
    | some (some (.dp _)) => some (ρ.set i (some (.dp u)))
    | _ => none)
  | .sub i p, u, ρ => (match ρ[i]? with
    | some (some (.dp t)) => some (ρ.set i (some (.dp (t.put p u))))
    | _ => none)
  | _, _, _ => none
@[simp] def kidL : T → Option (List T)
  | .lst ts => some ts
  | _ => none
@[simp] def lookQ : Hd → S → Option D
  | .slot i, ρ => (match ρ[i]? with
    | some (some (.dp t)) => some t.d
    | _ => look (.slot i) ρ)
  | .sub i p, ρ => (match ρ[i]? with
    | some (some (.dp t)) => (t.at p).map T.d
    | _ => none)
  | .tpd t, _ => some t.d
  | h, ρ => look h ρ
def RepQ (K : PySem.W.Frag) (G H : Hp) (d : D) (v : V) : Prop := RepP K G H d v ∨ ∃ t, t.d = d ∧ Own K G H t v
section
variable {K : PySem.W.Frag} {Hs G H : Hp} {σ : St} {ρ ρ' : S} {hd : Hd} {v : V} {t : T} {d : D}
theorem at_put_nil (t u : T) : t.put [] u = u := by cases t <;> rfl
theorem at_nil (t : T) : t.at [] = some t := by cases t <;> rfl
/-- where a node stands -/
theorem node_ok (r : Rel K G H σ ρ) (h : Hold K Hs G H σ ρ hd v) (e : node hd ρ = some t) : ∃ i p t1 w, ρ[i]? = some (some (.dp t1)) ∧ σ[i]? = some (some w) ∧ At H t1 w p v ∧ t1.at p = some t ∧ Own K G H t v ∧ (∀ k, subH hd k = .sub i (p ++ [k])) ∧ ∀ u, putT hd u ρ = some (ρ.set i (some (.dp (t1.put p u)))) := by
  cases hd with
  | slot i =>
    have h' : σ[i]? = some (some v) := h
    replace e : (match ρ[i]? with | some (some (.dp t)) => some t | _ => none) = some t := e
    split at e
    · rename_i t0 q
      cases e
      obtain ⟨w, e1, h1, _⟩ := r.tree q
      rw [h'] at e1; cases e1
      exact ⟨i, [], t, v, q, h', rfl, at_nil t, h1, fun k => rfl, fun u => by simp only [putT, q, at_put_nil]⟩
    · cases e
  | sub i p =>
    obtain ⟨w, hw, ha⟩ := h
    replace e : (match ρ[i]? with | some (some (.dp t)) => t.at p | _ => none) = some t := e
    split at e
    · rename_i t0 q
      obtain ⟨w', e1, h1, _⟩ := r.tree q
      rw [hw] at e1; cases e1
      obtain ⟨t2, e2, h2, _⟩ := own_at p h1 (ha t0 q)
      rw [e2] at e; cases e
      exact ⟨i, p, t0, w, q, hw, ha t0 q, e2, h2, fun k => rfl, fun u => by simp only [putT, q]⟩
    · cases e
  | _ => cases e
theorem at_snoc : ∀ (p : List Nat) {t t0 : T} {w v' : V} {a : Addr} {o : HO} {k : Nat} {t' : T}, At H t w p (.ref a) → t.at p = some t0 → H a = some o → t0.kids[k]? = some t' → (vkids o)[k]? = some v' → At H t w (p ++ [k]) v'
  | [], t, t0, w, v', a, o, k, t', h, e, ho, hk, hv => by
    have h' : V.ref a = w := h
    subst h'
    rw [at_nil] at e; cases e
    exact ⟨a, o, t', v', rfl, ho, hk, hv, rfl⟩
  | j :: p, t, t0, w, v', a, o, k, t', h, e, ho, hk, hv => by
    obtain ⟨b, ob, x, y, rfl, h1, h2, h3, h4⟩ := h
    have e2 : t.at (j :: p) = x.at p := by
      have : t.at (j :: p) = t.kids[j]?.bind fun u => u.at p := by cases t <;> rfl
      rw [this, h2]; rfl
    rw [e2] at e
    exact ⟨b, ob, x, y, rfl, h1, h2, h3, at_snoc p h4 e ho hk hv⟩
theorem at_some : ∀ (p : List Nat) {t t0 t' : T} {k : Nat}, t.at p = some t0 → t0.kids[k]? = some t' → t.at (p ++ [k]) = some t'
  | [], t, t0, t', k, e, hk => by
    rw [at_nil] at e; cases e
    have : t.at ([] ++ [k]) = t.kids[k]?.bind fun u => u.at [] := by cases t <;> rfl
    rw [this, hk]; exact at_nil t'
  | j :: p, t, t0, t', k, e, hk => by
    have e2 : ∀ q, t.at (j :: q) = t.kids[j]?.bind fun u => u.at q := fun q => by cases t <;> rfl
    rw [e2] at e
    rw [List.cons_append, e2]
    cases q : t.kids[j]? with
    | none => rw [q] at e; cases e
    | some x => rw [q] at e; exact at_some p e hk
theorem own_lst {ts : List T} (h : Own K G H (.lst ts) v) : ∃ a vs, v = .ref a ∧ G a = none ∧ H a = some (.lst vs) ∧ OwnL K G H ts vs := by unfold Own at h; exact h
theorem ownL_getT : ∀ {ts : List T} {vs : List V} {k : Nat} {t : T}, OwnL K G H ts vs → ts[k]? = some t → ∃ v, vs[k]? = some v ∧ Own K G H t v
  | [], vs, k, t, h, e => by simp at e
  | t0 :: ts, vs, k, t, h, e => by
    unfold OwnL at h
    obtain ⟨w, vs', rfl, h1, h2⟩ := h
    cases k with
    | zero => simp at e; subst e; exact ⟨w, rfl, h1⟩
    | succ k => simp at e; simpa using ownL_getT h2 e
theorem lookQ_ok (r : Rel K G H σ ρ) (h : Hold K Hs G H σ ρ hd v) (e : lookQ hd ρ = some d) : RepQ K G H d v := by
  cases hd with
  | val d' => exact .inl (hold_look r h e)
  | tmp d' => exact .inl (hold_look r h e)
  | tpd t' => cases e; exact .inr ⟨t', rfl, h.1⟩
  | slot i =>
    cases q : ρ[i]? with
    | none => exact .inl (hold_look r h (by simp only [lookQ, q] at e; simpa only [look, q] using e))
    | some s =>
      cases s with
      | none => exact .inl (hold_look r h (by simp only [lookQ, q] at e; simpa only [look, q] using e))
      | some s =>
        cases s with
        | dp t' =>
          simp only [lookQ, q] at e; cases e
          obtain ⟨w, e1, h1, _⟩ := r.tree q
          have h' : σ[i]? = some (some v) := h
          rw [h'] at e1; cases e1
          exact .inr ⟨t', rfl, h1⟩
        | _ => exact .inl (hold_look r h (by simp only [lookQ, q] at e; simpa only [look, q] using e))
  | sub i p =>
    cases q : node (.sub i p) ρ with
    | none =>
      simp only [node] at q
      simp only [lookQ] at e
      split at e
      · rename_i t' q'
        rw [q'] at q
        simp only at q
        rw [q] at e; cases e
      · cases e
    | some t' =>
      obtain ⟨j, p', t1, w, q1, q2, q3, q4, q5, q6, _⟩ := node_ok r h q
      simp only [node] at q
      simp only [lookQ] at e
      split at e
      · rename_i t2 q'
        rw [q'] at q
        simp only at q
        rw [q] at e; cases e
        exact .inr ⟨t', rfl, q5⟩
      · cases e
mutual
theorem own_dp (s : Sub G H) : ∀ (t : T) {v : V} {p : PyData}, Own K G H t v → toP t.d = some p → Dp K H v p
  | .fz d, v, p, h, e => by unfold Own at h; unfold T.d at e; exact dp_rep s d h e
  | .lst ts, v, p, h, e => by
    unfold Own at h; unfold T.d toP at e
    obtain ⟨a, vs, rfl, _, h1, h2⟩ := h
    cases q : toPL (T.ds ts) with
    | none => rw [q] at e; cases e
    | some ps => rw [q] at e; cases e; exact .lst (SqL.of h1) (ownL_dp s ts h2 q)
  | .dic ks ts, v, p, h, e => by unfold T.d toP at e; cases e
  | .ins C ns ts, v, p, h, e => by unfold T.d toP at e; cases e
theorem ownL_dp (s : Sub G H) : ∀ (ts : List T) {vs : List V} {ps : List PyData}, OwnL K G H ts vs → toPL (T.ds ts) = some ps → DpAll K H vs ps
  | [], vs, ps, h, e => by unfold OwnL at h; subst h; unfold T.ds toPL at e; cases e; exact .nil
  | t :: ts, vs, ps, h, e => by
    unfold OwnL at h
    obtain ⟨v, vs', rfl, h1, h2⟩ := h
    unfold T.ds toPL at e
    cases q : toP t.d with
    | none => rw [q] at e; cases e
    | some p =>
      cases q2 : toPL (T.ds ts) with
      | none => rw [q, q2] at e; cases e
      | some ps' => rw [q, q2] at e; cases e; exact .cons (own_dp s t h1 q) (ownL_dp s ts h2 q2)
end
theorem RepQ.dp {p : PyData} (s : Sub G H) (h : RepQ K G H d v) (e : toP d = some p) : Dp K H v p := by
  rcases h with h | ⟨t, rfl, h⟩
  · exact dp_repP s h e
  · exact own_dp s t h e
theorem RepQ.int {i : Int} (h : RepQ K G H (.int i) v) : v = .int i := by
  rcases h with h | ⟨t, e, h⟩
  · exact h.int
  · cases t <;> simp at e; subst e; unfold Own Rep at h; exact h
theorem RepQ.bl {i : Bool} (h : RepQ K G H (.bl i) v) : v = .bl i := by
  rcases h with h | ⟨t, e, h⟩
  · exact h.bl
  · cases t <;> simp at e; subst e; unfold Own Rep at h; exact h
theorem RepQ.str {i : Str} (h : RepQ K G H (.str i) v) : v = .str i := by
  rcases h with h | ⟨t, e, h⟩
  · exact h.str
  · cases t <;> simp at e; subst e; unfold Own Rep at h; exact h
end
/-! ### == and !=, repr and len of trees -/
section
variable {X : Cx} {K : PySem.W.Frag} {E : WX} {a b e : Expr} {fa fb f : EF} {pos p : Pos} {x : Str}
theorem eqD_casesQ {G H : Hp} {x y : D} {v w : V} {b : Bool} (s : Sub G H) (hx : RepQ K G H x v) (hy : RepQ K G H y w) (e : eqD x y = some b) :
    (scal v w = true ∧ b = decide (v = w)) ∨ ∃ p q, Dp K H v p ∧ Dp K H w q ∧ SeqAt.shaped p = true ∧ SeqAt.shaped q = true ∧ b = PyData.eqv p q := by
  have gen : ∀ {x y : D}, RepQ K G H x v → RepQ K G H y w → (match toP x, toP y with
    | some p, some q => if (SeqAt.shaped p && SeqAt.shaped q) = true then some (PyData.eqv p q) else none
    | _, _ => none) = some b → ∃ p q, Dp K H v p ∧ Dp K H w q ∧ SeqAt.shaped p = true ∧ SeqAt.shaped q = true ∧ b = PyData.eqv p q := by
    intro x y hx hy e
    split at e
    · rename_i p q e1 e2
      split at e
      · rename_i hs
        obtain ⟨s1, s2⟩ := Bool.and_eq_true_iff.mp hs
        cases e
        exact ⟨p, q, hx.dp s e1, hy.dp s e2, s1, s2, rfl⟩
      · cases e
    · cases e
  unfold eqD at e
  split at e
  · have := hx.int; have := hy.int; subst_vars; cases e
    exact .inl ⟨rfl, by simp⟩
  · have := hx.str; have := hy.str; subst_vars; cases e
    exact .inl ⟨rfl, by simp⟩
  · have := hx.bl; have := hy.bl; subst_vars; cases e
    exact .inl ⟨rfl, by simp⟩
  · exact .inr (gen hx hy e)
@[simp] def eCmpQ (g : Bool → Bool) (fa fb : EF) : EF := fun ρ => fa ρ >>= fun z1 => fb z1.2 >>= fun z2 => ofO (lookQ z1.1 z2.2) >>= fun x => ofO (lookQ z2.1 z2.2) >>= fun y => ofO (eqD x y) >>= fun c => .ok (.val (.bl (g c)), z2.2)
theorem snd_cmpQ {g : Bool → Bool} {r : R2} {ta tb : TE} (hr : ∀ (v w : V) (H : Hp) (Q : VK) (b : Bool), ((scal v w = true ∧ b = decide (v = w)) ∨ ∃ p q, Dp K H v p ∧ Dp K H w q ∧ SeqAt.shaped p = true ∧ SeqAt.shaped q = true ∧ b = PyData.eqv p q) → Q (.bl (g b)) H → r v w H Q)
    (sa : Snd K E ta fa) (sb : Snd K E tb fb) : Snd K E (tOp r ta tb) (eCmpQ g fa fb) := by
  intro G H σ ρ R Q hw
  refine sa G H σ ρ R _ (hw.bind.mono (fun z1 _ q v G1 H1 o1 h1 => ?_) fun _ _ q => q)
  refine sb G1 H1 σ z1.2 o1.rel _ (q.bind.mono (fun z2 _ q2 w G2 H2 o2 h2 => ?_) fun _ _ q2 => q2.step o1)
  obtain ⟨x, ex, q2⟩ := q2.opt
  obtain ⟨y, ey, q2⟩ := q2.opt
  obtain ⟨c, ec, q2⟩ := q2.opt
  exact hr v w H2 Q c (eqD_casesQ o2.rel.sub (lookQ_ok o2.rel (h1.pers o2) ex) (lookQ_ok o2.rel h2 ey) ec) (q2 _ G2 H2 (o1.trans o2) (Hold.val rep_bl))
theorem pr_eqQ (hu : X.A.units + 64 < cLine) (pa : PR X E a fa) (pb : PR X E b fb) (hm : behindInMarks .Eq b = false) : PR X E (.Compare a [.Eq] [b] pos) (eCmpQ id fa fb) := by
  obtain ⟨ta, pa, sa⟩ := pa.ex
  obtain ⟨tb, pb, sb⟩ := pb.ex
  refine ⟨_, pe_cmpR (op_eqB hu) pa pb hm, snd_cmpQ (fun v w H Q b hc hq => ?_) sa sb⟩
  rcases hc with ⟨h1, h2⟩ | ⟨p, q, h1, h2, h3, h4, h5⟩
  · exact .inl ⟨h1, by rw [← h2]; exact hq⟩
  · exact .inr ⟨p, q, h1, h2, h3, h4, by rw [← h5]; exact hq⟩
theorem pr_neQ (hu : X.A.units + 64 < cLine) (pa : PR X E a fa) (pb : PR X E b fb) (hm : behindInMarks .NotEq b = false) : PR X E (.Compare a [.NotEq] [b] pos) (eCmpQ (fun b => !b) fa fb) := by
  obtain ⟨ta, pa, sa⟩ := pa.ex
  obtain ⟨tb, pb, sb⟩ := pb.ex
  refine ⟨_, pe_cmpR (op_neB hu) pa pb hm, snd_cmpQ (fun v w H Q b hc hq => ?_) sa sb⟩
  rcases hc with ⟨h1, h2⟩ | ⟨p, q, h1, h2, h3, h4, h5⟩
  · exact .inl ⟨h1, by rw [← h2]; exact hq⟩
  · exact .inr ⟨p, q, h1, h2, h3, h4, by rw [← h5]; exact hq⟩
/-- a built-in of one argument, trees too -/
@[simp] def eCBq (g : List D → Option D) (f : EF) : EF := fun ρ => f ρ >>= fun z => ofO (lookQ z.1 z.2) >>= fun d => ofO (g [d]) >>= fun r => .ok (.val r, z.2)
open Classical in
noncomputable def qRepr : List D → Option D
  | [d] => match toP d with
    | some p => if okShow p then some (.str p.shown) else none
    | none => none
  | _ => none
theorem pr_reprQ (hg : X.A.guards = some []) (hu : X.A.units + 64 < cLine) (hgl : Gl X "repr") (hm : X.mg "repr" = none) (ha : PR X E e f)
    (he : starEach [e] X.env = (false, eval e X.env) :: starEach [] X.env := by rfl) (hpl : (backTo pos (starEach [] X.env)).any (·.1) = false := by rfl) : PR X E (.Call (.Name "repr" p) [e] [] pos) (eCBq qRepr f) := by
  obtain ⟨t, pe, s⟩ := ha.ex
  refine ⟨_, pe_callB (call_reprD hg hu) hgl hm (by decide +kernel) (pa_cons pe pa_nil he) (by decide) (by decide) he hpl, fun G H σ ρ r Q hw => s G H σ ρ r _ (hw.bind.mono (fun z _ q v G1 H1 o1 h1 => ?_) fun _ _ q => q)⟩
  obtain ⟨d, e1, q⟩ := q.opt
  obtain ⟨d2, e2, q⟩ := q.opt
  unfold qRepr at e2
  simp only at e2
  split at e2
  · rename_i p ep
    split at e2
    · rename_i hs
      cases e2
      exact ⟨v, p, rfl, (lookQ_ok o1.rel h1 e1).dp o1.rel.sub ep, hs.1, hs.2.1, hs.2.2, q _ G1 H1 o1 (Hold.val rep_str)⟩
    · cases e2
  · cases e2
@[simp] def qLen : List D → Option D
  | [.lst ds] => some (.int ds.length)
  | [.tup ds] => some (.int ds.length)
  | _ => none
theorem ds_len : ∀ ts : List T, (T.ds ts).length = ts.length
  | [] => rfl
  | t :: ts => by unfold T.ds; rw [List.length_cons, List.length_cons, ds_len ts]
theorem pr_lenQ (hgl : Gl X "len") (hm : X.mg "len" = none) (ha : PR X E e f)
    (he : starEach [e] X.env = (false, eval e X.env) :: starEach [] X.env := by rfl) (hpl : (backTo pos (starEach [] X.env)).any (·.1) = false := by rfl) : PR X E (.Call (.Name "len" p) [e] [] pos) (eCBq qLen f) := by
  obtain ⟨t, pe, s⟩ := ha.ex
  refine ⟨_, pe_callB call_lenK hgl hm (by decide +kernel) (pa_cons pe pa_nil he) (by decide) (by decide) he hpl, fun G H σ ρ r Q hw => s G H σ ρ r _ (hw.bind.mono (fun z _ q v G1 H1 o1 h1 => ?_) fun _ _ q => q)⟩
  obtain ⟨d, e1, q⟩ := q.opt
  obtain ⟨d2, e2, q⟩ := q.opt
  have hv := lookQ_ok o1.rel h1 e1
  unfold qLen at e2
  split at e2
  · rename_i ds ed
    cases ed; cases e2
    refine .inl ⟨v, ds.length, rfl, ?_, q _ G1 H1 o1 (Hold.val rep_int)⟩
    rcases hv with hv | ⟨t, et, hv⟩
    · obtain ⟨a, us, rfl, g1, g2⟩ := hv.lst o1.rel.sub
      exact .inl ⟨us, SqL.of g1, g2.length⟩
    · cases t with
      | fz d => simp at et; subst et; obtain ⟨a, us, rfl, g1, g2⟩ := (show RepP X.K G1 H1 (.lst ds) v from .inl (by unfold Own at hv; exact hv)).lst o1.rel.sub; exact .inl ⟨us, SqL.of g1, g2.length⟩
      | lst ts =>
        simp at et; subst et
        obtain ⟨a, vs, rfl, _, g1, g2⟩ := own_lst hv
        exact .inl ⟨vs, SqL.of g1, by rw [ds_len]; exact ownL_len g2⟩
      | _ => simp at et
  · rename_i ds ed
    cases ed; cases e2
    refine .inl ⟨v, ds.length, rfl, ?_, q _ G1 H1 o1 (Hold.val rep_int)⟩
    rcases hv with hv | ⟨t, et, hv⟩
    · obtain ⟨a, us, rfl, g1, g2⟩ := hv.tup o1.rel.sub
      exact .inr ⟨us, g1, g2.length⟩
    · cases t with
      | fz d => simp at et; subst et; obtain ⟨a, us, rfl, g1, g2⟩ := (show RepP X.K G1 H1 (.tup ds) v from .inl (by unfold Own at hv; exact hv)).tup o1.rel.sub; exact .inr ⟨us, g1, g2.length⟩
      | _ => simp at et
  · cases e2
/-- o[k] of a list in a tree -/
@[simp] def eIxT (fo fb : EF) : EF := fun ρ => fo ρ >>= fun z1 => fb z1.2 >>= fun z2 => ofO (node z1.1 z2.2) >>= fun t => ofO (kidL t) >>= fun ts => ofO (asInt z2.1) >>= fun k => ofO (ixN ts.length k) >>= fun j => (match ts[j]? with
  | some (.fz d) => .ok (.val d, z2.2)
  | some _ => .ok (subH z1.1 j, z2.2)
  | none => .no)
theorem pr_ixT (pa : PR X E a fa) (pb : PR X E b fb) (hs : PlainIx b) : PR X E (.Subscript a b pos) (eIxT fa fb) := by
  obtain ⟨ta, pa, sa⟩ := pa.ex
  obtain ⟨tb, pb, sb⟩ := pb.ex
  refine ⟨_, pe_ix ix_list pa pb hs, fun G H σ ρ R Q hw => sa G H σ ρ R _ (hw.bind.mono (fun z1 _ q v G1 H1 o1 h1 => ?_) fun _ _ q => q)⟩
  refine sb G1 H1 σ z1.2 o1.rel _ (q.bind.mono (fun z2 _ q2 w G2 H2 o2 h2 => ?_) fun _ _ q2 => q2.step o1)
  obtain ⟨t, e1, q3⟩ := q2.opt
  obtain ⟨ts, e2, q4⟩ := q3.opt
  obtain ⟨k, e3, q5⟩ := q4.opt
  obtain ⟨j, e4, q6⟩ := q5.opt
  clear q2 q3 q4 q5
  have h1' := h1.pers o2
  obtain ⟨i, p, t1, w1, g1, g2, g3, g4, g5, g6, _⟩ := node_ok o2.rel h1' e1
  have et : t = .lst ts := by cases t <;> cases e2; rfl
  subst et
  obtain ⟨a', vs, rfl, g7, g8, g9⟩ := own_lst g5
  rw [asInt_eq e3] at h2
  have hw' : Rep X.K G2 (.int k) w := h2
  unfold Rep at hw'
  subst hw'
  have hl := ownL_len g9
  cases ej : ts[j]? with
  | none => rw [ej] at q6; exact q6.elim
  | some tj =>
    rw [ej] at q6
    obtain ⟨vj, ev, oj⟩ := ownL_getT g9 ej
    refine ⟨a', vs, k, vj, rfl, rfl, SqL.of g8, ?_, ?_⟩
    · unfold atI
      rw [← hl, e4]
      exact ev
    · have done : ∀ t' : T, ts[j]? = some t' → Wp (BR.R.ok (subH z1.1 j, z2.2)) (fun z => ∀ v G' H', Out X.K G H σ ρ G' H' z.2 → Hold X.K H G' H' σ z.2 z.1 v → Q v H') (ExE X.K E G H σ ρ) → Q vj H2 := fun t' et' q3 => by
        refine q3 vj G2 H2 (o1.trans o2) ?_
        rw [g6 j]
        exact ⟨w1, g2, fun t2 q => by
          rw [g1] at q; cases q
          exact at_snoc p g3 g4 g8 et' ev⟩
      cases tj with
      | fz d => exact q6 vj G2 H2 (o1.trans o2) (Hold.val (by unfold Own at oj; exact oj))
      | lst _ => exact done _ ej q6
      | dic _ _ => exact done _ ej q6
      | ins _ _ _ => exact done _ ej q6
end
end BR
set_option Elab.async false
set_option linter.all false
set_option maxRecDepth 100000
set_option maxHeartbeats 4000000
namespace BR
open PySem L2
/-! ## trees made and changed -/
@[simp] def ofD : D → Option T
  | .lst ds => some (.lst (ds.map .fz))
  | .dic ks ds => some (.dic ks (ds.map .fz))
  | .ins C ns ds => some (.ins C ns (ds.map .fz))
  | _ => none
@[simp] def normT : Hd → S → Option (T × S)
  | .val d, ρ => some (.fz d, ρ)
  | .tmp d, ρ => (ofD d).map fun t => (t, ρ)
  | .tpd t, ρ => some (t, ρ)
  | .slot i, ρ => (share (.slot i) ρ).map fun z => (.fz z.1, z.2)
  | .sub _ _, _ => none
section
variable {K : PySem.W.Frag} {Hs G H : Hp} {σ : St} {ρ ρ' : S} {hd : Hd} {v : V} {t : T} {a : Addr}
theorem ownL_ofz : ∀ {ds : List D} {vs : List V}, RepL K G ds vs → OwnL K G H (ds.map .fz) vs ∧ fpL H (ds.map .fz) vs = []
  | [], vs, h => by rw [repL_nil.mp h]; exact ⟨by unfold List.map OwnL; rfl, by rw [List.map_nil, fpL_nil]⟩
  | d :: ds, vs, h => by
    obtain ⟨v, vs', rfl, h1, h2⟩ := repL_cons.mp h
    obtain ⟨o, f⟩ := ownL_ofz h2
    exact ⟨by rw [List.map_cons]; unfold OwnL; exact ⟨v, vs', rfl, by unfold Own; exact h1, o⟩, by rw [List.map_cons, fpL_cons, fp_fz, f]; rfl⟩
theorem own_ofD {d : D} {p : Addr} (h : OwnAt K G H p d) (e : ofD d = some t) : Own K G H t (.ref p) ∧ fp H t (.ref p) = [p] := by
  obtain ⟨hg, o, ho, hc⟩ := h
  cases d with
  | lst ds =>
    cases e
    obtain ⟨vs, rfl, hr⟩ := hc
    obtain ⟨o1, f⟩ := ownL_ofz (H := H) hr
    exact ⟨by unfold Own; exact ⟨p, vs, rfl, hg, ho, o1⟩, by rw [fp_lst ho, f]⟩
  | dic ks ds =>
    cases e
    obtain ⟨vs, rfl, hk, hr⟩ := hc
    obtain ⟨o1, f⟩ := ownL_ofz (H := H) hr
    exact ⟨by unfold Own; exact ⟨p, vs, rfl, hg, ho, hk, o1⟩, by rw [fp_dic ho, f]⟩
  | ins C ns ds =>
    cases e
    obtain ⟨dx, vs, rfl, hk, hr⟩ := hc
    obtain ⟨o1, f⟩ := ownL_ofz (H := H) hr
    exact ⟨by unfold Own; exact ⟨p, dx, vs, rfl, hg, ho, hk, o1⟩, by rw [fp_ins ho, f]⟩
  | _ => cases e
theorem normT_ok {Gs : Hp} {ρs : S} {z : T × S} (o : Out K Gs Hs σ ρs G H ρ) (h : Hold K Hs G H σ ρ hd v) (e : normT hd ρ = some z) : ∃ G', Out K Gs Hs σ ρs G' H z.2 ∧ Same G G' ∧ Hold K Hs G' H σ z.2 (.tpd z.1) v := by
  cases hd with
  | val d => cases e; exact ⟨G, o, Same.refl _, by unfold Own; exact h, by rw [fp_fz]; exact List.nodup_nil, fun p m => by rw [fp_fz] at m; cases m⟩
  | tpd t => cases e; exact ⟨G, o, Same.refl _, h⟩
  | tmp d =>
    obtain ⟨p, rfl, h1, h2, h3⟩ := h
    replace e : (ofD d).map (fun t => (t, ρ)) = some z := e
    cases q : ofD d with
    | none => rw [q] at e; cases e
    | some t =>
      rw [q] at e; cases e
      obtain ⟨o1, f⟩ := own_ofD h1 q
      exact ⟨G, o, Same.refl _, o1, by rw [f]; simp, fun x m => by rw [f, List.mem_singleton] at m; subst m; exact ⟨h2, h3⟩⟩
  | slot i =>
    replace e : (share (.slot i) ρ).map (fun z => (T.fz z.1, z.2)) = some z := e
    cases q : share (.slot i) ρ with
    | none => rw [q] at e; cases e
    | some y =>
      rw [q] at e; cases e
      obtain ⟨G', o', sg, rp⟩ := share_ok (d := y.1) (ρ' := y.2) o h q
      exact ⟨G', o', sg, by unfold Own; exact rp, by rw [fp_fz]; exact List.nodup_nil, fun p m => by rw [fp_fz] at m; cases m⟩
  | sub i p => cases e
theorem ownL_put : ∀ {ts : List T} {vs : List V} {j : Nat} {tv : T} {v : V}, OwnL K G H ts vs → (fpL H ts vs).Nodup → Own K G H tv v → (fp H tv v).Nodup → (∀ x ∈ fp H tv v, x ∉ fpL H ts vs) →
    OwnL K G H (ts.set j tv) (vs.set j v) ∧ (fpL H (ts.set j tv) (vs.set j v)).Nodup ∧ ∀ x ∈ fpL H (ts.set j tv) (vs.set j v), x ∈ fpL H ts vs ∨ x ∈ fp H tv v
  | [], vs, j, tv, v, h, nd, _, _, _ => by
    unfold OwnL at h; subst h
    exact ⟨by unfold List.set OwnL; rfl, nd, fun x m => .inl m⟩
  | t0 :: ts, vs, j, tv, v, h, nd, h1, nd1, hn => by
    unfold OwnL at h
    obtain ⟨v0, vs', rfl, o0, os⟩ := h
    rw [fpL_cons] at nd
    obtain ⟨n1, n2, n3⟩ := nodup_app.mp nd
    cases j with
    | zero =>
      rw [List.set_cons_zero, List.set_cons_zero]
      refine ⟨by unfold OwnL; exact ⟨v, vs', rfl, h1, os⟩, ?_, fun x m => ?_⟩
      · rw [fpL_cons, nodup_app]
        exact ⟨nd1, n2, fun x m m2 => hn x m (by rw [fpL_cons]; exact List.mem_append_right _ m2)⟩
      · rw [fpL_cons] at m
        rcases List.mem_append.mp m with z | z
        · exact .inr z
        · exact .inl (by rw [fpL_cons]; exact List.mem_append_right _ z)
    | succ j =>
      obtain ⟨o2, n4, s4⟩ := ownL_put (j := j) os n2 h1 nd1 fun x m m2 => hn x m (by rw [fpL_cons]; exact List.mem_append_right _ m2)
      rw [List.set_cons_succ, List.set_cons_succ]
      refine ⟨by unfold OwnL; exact ⟨v0, _, rfl, o0, o2⟩, ?_, fun x m => ?_⟩
      · rw [fpL_cons, nodup_app]
        refine ⟨n1, n4, fun x m m2 => ?_⟩
        rcases s4 x m2 with z | z
        · exact n3 x m z
        · exact hn x z (by rw [fpL_cons]; exact List.mem_append_left _ m)
      · rw [fpL_cons] at m
        rcases List.mem_append.mp m with z | z
        · exact .inl (by rw [fpL_cons]; exact List.mem_append_left _ z)
        · exact (s4 x z).imp (fun y => by rw [fpL_cons]; exact List.mem_append_right _ y) id
theorem ownL_snoc : ∀ {ts : List T} {vs : List V} {tv : T} {v : V}, OwnL K G H ts vs → (fpL H ts vs).Nodup → Own K G H tv v → (fp H tv v).Nodup → (∀ x ∈ fp H tv v, x ∉ fpL H ts vs) →
    OwnL K G H (ts ++ [tv]) (vs ++ [v]) ∧ (fpL H (ts ++ [tv]) (vs ++ [v])).Nodup ∧ ∀ x ∈ fpL H (ts ++ [tv]) (vs ++ [v]), x ∈ fpL H ts vs ∨ x ∈ fp H tv v
  | [], vs, tv, v, h, nd, h1, nd1, hn => by
    unfold OwnL at h; subst h
    refine ⟨by rw [List.nil_append, List.nil_append]; unfold OwnL; exact ⟨v, [], rfl, h1, by unfold OwnL; rfl⟩, ?_, fun x m => ?_⟩
    · rw [List.nil_append, List.nil_append, fpL_cons, fpL_nil, List.append_nil]; exact nd1
    · rw [List.nil_append, List.nil_append, fpL_cons, fpL_nil, List.append_nil] at m; exact .inr m
  | t0 :: ts, vs, tv, v, h, nd, h1, nd1, hn => by
    unfold OwnL at h
    obtain ⟨v0, vs', rfl, o0, os⟩ := h
    rw [fpL_cons] at nd
    obtain ⟨n1, n2, n3⟩ := nodup_app.mp nd
    obtain ⟨o2, n4, s4⟩ := ownL_snoc os n2 h1 nd1 fun x m m2 => hn x m (by rw [fpL_cons]; exact List.mem_append_right _ m2)
    rw [List.cons_append, List.cons_append]
    refine ⟨by unfold OwnL; exact ⟨v0, _, rfl, o0, o2⟩, ?_, fun x m => ?_⟩
    · rw [fpL_cons, nodup_app]
      refine ⟨n1, n4, fun x m m2 => ?_⟩
      rcases s4 x m2 with z | z
      · exact n3 x m z
      · exact hn x z (by rw [fpL_cons]; exact List.mem_append_left _ m)
    · rw [fpL_cons] at m
      rcases List.mem_append.mp m with z | z
      · exact .inl (by rw [fpL_cons]; exact List.mem_append_left _ z)
      · exact (s4 x z).imp (fun y => by rw [fpL_cons]; exact List.mem_append_right _ y) id
/-- a list's node gets other things -/
theorem own_lst_new {ts : List T} {vs : List V} (hg : G a = none) (h : OwnL K G H ts vs) (nd : (fpL H ts vs).Nodup) (na : a ∉ fpL H ts vs) :
    Own K G (upd H a (.lst vs)) (.lst ts) (.ref a) ∧ (fp (upd H a (.lst vs)) (.lst ts) (.ref a)).Nodup ∧ ∀ x ∈ fp (upd H a (.lst vs)) (.lst ts) (.ref a), x = a ∨ x ∈ fpL H ts vs := by
  obtain ⟨o, f⟩ := ownL_away (u := .lst vs) h na
  have e : fp (upd H a (.lst vs)) (.lst ts) (.ref a) = a :: fpL H ts vs := by rw [fp_lst upd_same, f]
  refine ⟨by unfold Own; exact ⟨a, vs, rfl, hg, upd_same, o⟩, by rw [e]; exact List.nodup_cons.mpr ⟨na, nd⟩, fun x m => ?_⟩
  rw [e] at m
  exact List.mem_cons.mp m
/-- a list's node in a slot's tree gets other things: some are new -/
theorem node_lst {Gs : Hp} {σs : St} {ρs : S} {ts ts2 : List T} {vs2 : List V} {tv : T} {w : V} (o : OutS K Gs Hs σs ρs G H σ ρ) (h : Hold K Hs G H σ ρ hd v) (e : node hd ρ = some (.lst ts)) (hv : Hold K Hs G H σ ρ (.tpd tv) w) (e2 : putT hd (.lst ts2) ρ = some ρ')
    (hs : ∀ (a : Addr) (vs : List V), v = .ref a → H a = some (.lst vs) → OwnL K G H ts vs → (fpL H ts vs).Nodup → (∀ x ∈ fp H tv w, x ∉ fpL H ts vs) → (OwnL K G H ts2 (vs2) ∧ (fpL H ts2 vs2).Nodup ∧ ∀ x ∈ fpL H ts2 vs2, x ∈ fpL H ts vs ∨ x ∈ fp H tv w)) : ∃ a, v = .ref a ∧ OutS K Gs Hs σs ρs G (upd H a (.lst vs2)) σ ρ' := by
  obtain ⟨i, p, t1, w1, g1, g2, g3, g4, g5, _, g6⟩ := node_ok o.rel h e
  rw [g6] at e2; cases e2
  obtain ⟨a, vs, rfl, hg, ha, ol⟩ := own_lst g5
  obtain ⟨w', e1, ow, nd⟩ := o.rel.tree g1
  rw [g2] at e1; cases e1
  obtain ⟨t0, e3, o4, h5⟩ := own_at p ow g3
  rw [g4] at e3; cases e3
  obtain ⟨v1, v2, v3⟩ := hv
  have hf : fp H (.lst ts) (.ref a) = a :: fpL H ts vs := fp_lst ha
  have inA : ∀ x ∈ fp H (.lst ts) (.ref a), ads H σ ρ x := fun x m => .inr ⟨i, t1, w1, g1, g2, h5 x m⟩
  have ndn : (a :: fpL H ts vs).Nodup := by
    rw [← hf]
    have key : ∀ (p : List Nat) {t : T} {w : V}, Own K G H t w → (fp H t w).Nodup → At H t w p (.ref a) → t.at p = some (.lst ts) → (fp H (.lst ts) (.ref a)).Nodup := by
      intro p
      induction p with
      | nil =>
        intro t w _ n at_ e
        have e' : V.ref a = w := at_
        subst e'
        rw [at_nil] at e; cases e
        exact n
      | cons k p ih =>
        intro t w h n at_ e
        obtain ⟨b, ob, x, y, rfl, q1, q2, q3, q4⟩ := at_
        have hz : t.isFz = false := by
          cases t with
          | fz d => simp at q2
          | _ => rfl
        obtain ⟨_, hk, hff⟩ := own_node h q1 hz
        rw [hff] at n
        have n2 := (List.nodup_cons.mp n).2
        obtain ⟨tt, e1, o3, _⟩ := ownL_get hk q3
        rw [q2] at e1; cases e1
        have e2 : t.at (k :: p) = x.at p := by
          have : t.at (k :: p) = t.kids[k]?.bind fun u => u.at p := by cases t <;> rfl
          rw [this, q2]; rfl
        rw [e2] at e
        refine ih o3 ?_ q4 e
        have : ∀ {ts : List T} {vs : List V} {k : Nat}, OwnL K G H ts vs → (fpL H ts vs).Nodup → ts[k]? = some x → vs[k]? = some y → (fp H x y).Nodup := by
          intro ts
          induction ts with
          | nil => intro vs k _ _ e _; simp at e
          | cons t0 ts ih =>
            intro vs k hh nn e ev
            unfold OwnL at hh
            obtain ⟨v0, vs', rfl, _, os⟩ := hh
            rw [fpL_cons] at nn
            obtain ⟨n1, n2, _⟩ := nodup_app.mp nn
            cases k with
            | zero => simp at e ev; subst e; subst ev; exact n1
            | succ k => simp at e ev; exact ih os n2 e ev
        exact this hk n2 q2 q3
    exact key p ow nd g3 g4
  obtain ⟨na, nl⟩ := List.nodup_cons.mp ndn
  obtain ⟨o5, n5, s5⟩ := hs a vs rfl ha ol nl fun x m m2 => (v3 x m).2 (inA x (by rw [hf]; exact List.mem_cons_of_mem _ m2))
  have na2 : a ∉ fpL H ts2 vs2 := fun z => by
    rcases s5 a z with y | y
    · exact na y
    · exact (v3 a y).2 (inA a (by rw [hf]; exact List.mem_cons_self))
  obtain ⟨o6, n6, s6⟩ := own_lst_new hg o5 n5 na2
  refine ⟨a, rfl, tree_ok o g1 g2 g3 g4 rfl o6 n6 fun x m => ?_⟩
  rcases s6 x m with rfl | z
  · exact .inl (by rw [hf]; exact List.mem_cons_self)
  · rcases s5 x z with y | y
    · exact .inl (by rw [hf]; exact List.mem_cons_of_mem _ y)
    · exact .inr (v3 x y)
end
section
variable {X : Cx} {E : WX} {e o k : Expr} {f fo fk : EF} {pos pos' spos apos cpos : Pos}
/-- o[k] = e in a tree -/
@[simp] def sSetT (fo fk f : EF) : SF := fun ρ => f ρ >>= fun z => ofO (normT z.1 z.2) >>= fun u => fo u.2 >>= fun y => fk y.2 >>= fun x => ofO (asInt x.1) >>= fun k => ofO (node y.1 x.2) >>= fun t => ofO (kidL t) >>= fun ts => ofO (ixN ts.length k) >>= fun j => ofO (putT y.1 (.lst (ts.set j u.1)) x.2) >>= fun ρ2 => .ok (.nx, ρ2)
theorem st_setT (h : PR X E e f) (ho : PR X E o fo) (hk : PR X E k fk)
    (hs : swapsWithSole [.Subscript o k spos] e pos.line X.env = pure false := by rfl) (hw : swappedStores [.Subscript o k spos] e X.env = pure none := by rfl)
    (h1 : (assignEach [.Subscript o k spos] X.env).map (·.2) = [assign (.Subscript o k spos) X.env] := by rfl)
    (ha : ∀ v, assign (.Subscript o k spos) X.env v = (do
      let ov ← holding [v] (eval o X.env)
      let iv ← holding [v, ov] (eval k X.env)
      standAt spos
      holding [v, ov, iv] (setItem ov iv v)
      release [v, ov, iv] []) := by intro _; rfl) :
    PSt X E (.Assign [.Subscript o k spos] e pos) (sSetT fo fk f) := by
  obtain ⟨t, pe, s⟩ := h.ex
  obtain ⟨to, po, so⟩ := ho.ex
  obtain ⟨tk, pk, sk⟩ := hk.ex
  refine ⟨_, ps_asg pe (pg_sub po pk set_list ha) hs hw h1, fun G H σ ρ r Dn hw => s G H σ ρ r _ (hw.bind.mono (fun z _ q v G1 H1 o1 rv => ?_) fun _ _ q => q)⟩
  obtain ⟨u, e0, q1⟩ := q.opt
  obtain ⟨G2, o2, _, hT⟩ := normT_ok o1 rv e0
  refine so G2 H1 σ u.2 o2.rel _ (q1.bind.mono (fun y _ q2 vo G3 H3 o3 h3 => ?_) fun _ _ q2 => q2.step o2)
  refine sk G3 H3 σ y.2 o3.rel _ (q2.bind.mono (fun x _ q3 vk G4 H4 o4 h4 => ?_) fun _ _ q3 => q3.step (o2.trans o3))
  obtain ⟨kk, e1, q4⟩ := q3.opt
  obtain ⟨t', e2, q5⟩ := q4.opt
  obtain ⟨ts, e3, q6⟩ := q5.opt
  obtain ⟨j, e4, q7⟩ := q6.opt
  obtain ⟨ρ2, e5, q8⟩ := q7.opt
  clear q q1 q2 q3 q4 q5 q6 q7
  have et : t' = .lst ts := by cases t' <;> cases e3; rfl
  subst et
  rw [asInt_eq e1] at h4
  have hk3 : Rep X.K G4 (.int kk) vk := h4
  unfold Rep at hk3
  have oo := (o2.trans o3).trans o4
  have hT' := (hT.pers o3).pers o4
  have ho4 := (h3.pers o4).back (Hs' := H) (fun b e => (o2.stp.thr b e))
  obtain ⟨i0, p0, t1, w1, g1, g2, g3, g4, g5, _, g6⟩ := node_ok oo.rel ho4 e2
  obtain ⟨a, vs, rfl, hg, ha4, ol⟩ := own_lst g5
  obtain ⟨a', ea, fin⟩ := node_lst (vs2 := vs.set j v) oo.s ho4 e2 hT' e5 fun a2 vs' q1 q2 h1 h2 h3 => by
    cases q1
    rw [ha4] at q2; cases q2
    exact ownL_put h1 h2 hT'.1 hT'.2.1 h3
  cases ea
  exact ⟨a, vs, kk, j, rfl, hk3, ha4, by rw [← ownL_len ol]; exact e4, q8 σ G4 _ fin⟩
/-- o.append(e) in a tree -/
@[simp] def sAppT (fo f : EF) : SF := fun ρ => fo ρ >>= fun y => ofO (node y.1 y.2) >>= fun t => ofO (kidL t) >>= fun _ => f y.2 >>= fun z => ofO (normT z.1 z.2) >>= fun u => ofO (node y.1 u.2) >>= fun t => ofO (kidL t) >>= fun ts => ofO (guard (decide (ts.length < sizeLine))) >>= fun _ => ofO (putT y.1 (.lst (ts ++ [u.1])) u.2) >>= fun ρ2 => .ok (.nx, ρ2)
theorem st_appT (ho : PR X E o fo) (h : PR X E e f)
    (hfew : ((backTo cpos (starEach (e :: []) X.env)).all (fun x => !x.1) && (backToKw cpos (keywordEach [] X.env)).all (fun x => x.1.isSome)
      && decide ((e :: []).length + ([] : List Keyword).length + (if ([] : List Keyword).isEmpty then 0 else 1) < 30)) = true := by rfl)
    (hbase : attributeBase o "append" X.env (eval o X.env) = eval o X.env := by rfl) (hline : (apos.endLine == cpos.line) = true := by rfl) (hs : starEach (e :: []) X.env = (false, eval e X.env) :: starEach [] X.env := by rfl)
    (hsw : swapsWith (.Call (.Attribute o "append" apos) [e] [] cpos) none pos.line X.env = pure false := by rfl) :
    PSt X E (.Expr (.Call (.Attribute o "append" apos) [e] [] cpos) pos) (sAppT fo f) := by
  obtain ⟨t, pe, s⟩ := h.ex
  obtain ⟨to, po, so⟩ := ho.ex
  refine ⟨_, ps_expr (pe_bm PySem.F.plainAttrs_list PySem.F.slot_list_append PySem.F.type_list_append mt_append po (pa_cons pe pa_nil hs) hbase hfew hline hs rfl) hsw, fun G H σ ρ r Dn hw => so G H σ ρ r _ (hw.bind.mono (fun y _ q vo G1 H1 o1 h1 => ?_) fun _ _ q => q)⟩
  obtain ⟨t0, e0, q1⟩ := q.opt
  obtain ⟨ts0, e1, q2⟩ := q1.opt
  have et0 : t0 = .lst ts0 := by cases t0 <;> cases e1; rfl
  subst et0
  obtain ⟨_, _, _, _, _, _, _, _, g5, _, _⟩ := node_ok o1.rel h1 e0
  obtain ⟨a, vs0, rfl, _, ha1, _⟩ := own_lst g5
  refine ⟨.inl ⟨rfl, vs0, SqL.of ha1⟩, s G1 H1 σ y.2 o1.rel _ (q2.bind.mono (fun z _ q3 v G2 H2 o2 rv => ?_) fun _ _ q3 => q3.step o1)⟩
  obtain ⟨u, e2, q4⟩ := q3.opt
  obtain ⟨t3, e3, q5⟩ := q4.opt
  obtain ⟨ts, e4, q6⟩ := q5.opt
  obtain ⟨_, e5, q7⟩ := q6.opt
  obtain ⟨ρ2, e6, q8⟩ := q7.opt
  clear q q1 q2 q3 q4 q5 q6 q7
  obtain ⟨G3, o3, _, hT⟩ := normT_ok (o1.trans o2) (rv.back o1.stp.thr) e2
  have et : t3 = .lst ts := by cases t3 <;> cases e4; rfl
  subst et
  have ho3 : Hold X.K H G3 H2 σ u.2 y.1 (.ref a) := by
    obtain ⟨G3', o3', _, _⟩ := normT_ok o2 rv e2
    have h2 := h1.pers o3'
    cases hy : y.1 with
    | slot i => rw [hy] at h2; exact h2
    | sub i p => rw [hy] at h2; exact h2
    | val d => rw [hy] at e3; cases e3
    | tmp d => rw [hy] at e3; cases e3
    | tpd d => rw [hy] at e3; cases e3
  obtain ⟨_, _, _, _, _, _, _, _, g5, _, _⟩ := node_ok o3.rel ho3 e3
  obtain ⟨a2, vs, ea, _, ha3, ol⟩ := own_lst g5
  cases ea
  obtain ⟨a', ea, fin⟩ := node_lst (vs2 := vs ++ [v]) o3.s ho3 e3 hT e6 fun a2 vs' q1 q2 h1 h2 h3 => by
    cases q1
    rw [ha3] at q2; cases q2
    exact ownL_snoc h1 h2 hT.1 hT.2.1 h3
  cases ea
  refine ⟨a, vs, v, rfl, rfl, ha3, by rw [← ownL_len ol]; exact of_decide_eq_true (guard_eq e5), q8 σ G3 _ fin⟩
end
/-! ### lists of trees -/
def SndTs (K : PySem.W.Frag) (E : WX) (t : TA) (f : S → R (List T × S)) : Prop := ∀ (G H : Hp) (σ : St) (ρ : S), Rel K G H σ ρ → ∀ Q : List V → Hp → Prop,
  Wp (f ρ) (fun z => ∀ vs G' H', Out K G H σ ρ G' H' z.2 → OwnL K G' H' z.1 vs → (fpL H' z.1 vs).Nodup → (∀ p ∈ fpL H' z.1 vs, H p = none ∧ ¬ ads H' σ z.2 p) → Q vs H') (ExE K E G H σ ρ) → t σ H Q
structure PTrs (X : Cx) (E : WX) (es : List Expr) (f : S → R (List T × S)) : Prop where
  ex : ∃ t, PA X es t ∧ SndTs X.K E t f
@[simp] def tNil : S → R (List T × S) := fun ρ => .ok ([], ρ)
@[simp] def tCons (f : EF) (g : S → R (List T × S)) : S → R (List T × S) := fun ρ => f ρ >>= fun z => ofO (normT z.1 z.2) >>= fun u => g u.2 >>= fun y => .ok (u.1 :: y.1, y.2)
@[simp] def eLstT (f : S → R (List T × S)) : EF := fun ρ => f ρ >>= fun z => if z.1.length ≤ sizeLine then .ok (.tpd (.lst z.1), z.2) else .no
section
variable {X : Cx} {E : WX} {e : Expr} {es : List Expr} {f : EF} {g : S → R (List T × S)} {pos : Pos}
theorem tr_nil : PTrs X E [] tNil := ⟨_, pa_nil, fun G H σ ρ r Q hw => hw [] G H (.refl r) (by unfold OwnL; rfl) (by rw [fpL_nil]; exact List.nodup_nil) fun p m => by rw [fpL_nil] at m; cases m⟩
theorem tr_cons (h1 : PR X E e f) (h2 : PTrs X E es g) (hs : starEach (e :: es) X.env = (false, eval e X.env) :: starEach es X.env := by rfl) : PTrs X E (e :: es) (tCons f g) := by
  obtain ⟨t, pe, s⟩ := h1.ex
  obtain ⟨t2, pa, s2⟩ := h2.ex
  refine ⟨_, pa_cons pe pa hs, fun G H σ ρ r Q hw => s G H σ ρ r _ (hw.bind.mono (fun z _ q v G1 H1 o1 hh => ?_) fun _ _ q => q)⟩
  obtain ⟨u, eu, q⟩ := q.opt
  obtain ⟨G2, o2, _, hT⟩ := normT_ok o1 hh eu
  refine s2 G2 H1 σ u.2 o2.rel _ (q.bind.mono (fun y _ q2 vs G3 H3 o3 ol nl fr => ?_) fun _ _ q2 => q2.step o2)
  obtain ⟨k1, k2, k3⟩ := hT.pers o3
  have hu : ∀ x ∈ fp H3 u.1 v, x ∉ fpL H3 y.1 vs := fun x m m2 => by
    obtain ⟨l1, l2⟩ := hT.1.go (H' := H3) o3.stp.gg u.1 fun a ma => by
      obtain ⟨n1, n2⟩ := hT.1.in_ u.1 a ma
      refine ⟨?_, o3.stp.fr a n2 (hT.2.2 a ma).2 n1⟩
      cases e : H1 a with
      | none => exact absurd e n2
      | some u => exact o3.stp.keep a u e (hT.2.2 a ma).2
    rw [l2] at m
    exact (hT.1.in_ u.1 x m).2 (fr x m2).1
  refine q2 (v :: vs) G3 H3 (o2.trans o3) (by unfold OwnL; exact ⟨v, vs, rfl, k1, ol⟩) (by rw [fpL_cons, nodup_app]; exact ⟨k2, nl, hu⟩) fun p m => ?_
  rw [fpL_cons] at m
  rcases List.mem_append.mp m with z | z
  · exact k3 p z
  · exact ⟨o2.stp.thr p (fr p z).1, (fr p z).2⟩
theorem pr_lstT (h : PTrs X E es g) : PR X E (.List es pos) (eLstT g) := by
  obtain ⟨t, pa, s⟩ := h.ex
  refine ⟨_, pe_lst pa, fun G H σ ρ R Q hw => s G H σ ρ R _ (hw.bind.mono (fun z _ w vs G1 H1 o1 ol nl fr => ?_) fun _ _ w => w)⟩
  split at w
  · rename_i e
    refine ⟨by rw [← ownL_len ol]; exact e, fun q hq => ?_⟩
    have na : q ∉ fpL H1 z.1 vs := fun m => (ol.in_ z.1 q m).2 hq
    obtain ⟨k1, k2, k3⟩ := own_lst_new (o1.rel.sub.none hq) ol nl na
    have on := Out.new (o := .lst vs) o1.rel hq
    refine w _ G1 _ (o1.trans on) ⟨k1, k2, fun p m => ?_⟩
    rcases k3 p m with rfl | y
    · exact ⟨o1.stp.thr p hq, fun z => (o1.rel.adsH (o1.rel.ads_new hq z)).1 hq⟩
    · exact ⟨(fr p y).1, fun z => (fr p y).2 (o1.rel.ads_new hq z)⟩
  · exact w.elim
end
end BR
set_option Elab.async false
set_option linter.all false
set_option maxRecDepth 100000
set_option maxHeartbeats 4000000
namespace BR
open PySem L2
/-! ## comprehensions that make trees -/
def lcTL (vs : List Nat) (g : D → S → Option S) (p : S → R (Bool × S)) (fe : EF) : List D → List T → S → R (List T × S)
  | [], acc, ρ => .ok (acc, ρ)
  | d :: ds, acc, ρ => ofO (g d ρ) >>= fun ρ1 => noX (p ρ1) >>= fun z => if z.1 = true then noX (fe z.2) >>= fun y => ofO (normT y.1 y.2) >>= fun u => if acc.length < sizeLine then lcTL vs g p fe ds (acc ++ [u.1]) (wipeS u.2 vs) else .no else lcTL vs g p fe ds acc (wipeS z.2 vs)
@[simp] def eLcT (vs : List Nat) (it : S → R (List D × S)) (g : D → S → Option S) (p : S → R (Bool × S)) (fe : EF) : EF := fun ρ => it ρ >>= fun z => if calmSl z.2 vs = true then lcTL vs g p fe z.1 [] (wipeS z.2 vs) >>= fun y => .ok (.tpd (.lst y.1), rst z.2 y.2 vs) else .no
section
variable {X : Cx} {E : WX} {elt tg iter : Expr} {ifs : List Expr} {scope : Scope} {own : List (Str × Nat)} {pos : Pos} {it : S → R (List D × S)} {g : D → S → Option S} {p : S → R (Bool × S)} {fe : EF} {tv : List Nat}
theorem tpd_ads {K : PySem.W.Frag} {Hs G H : Hp} {σ σ' : St} {ρ ρ' : S} {t : T} {v : V} (h : Hold K Hs G H σ ρ (.tpd t) v) (k : ∀ a, H a ≠ none → ads H σ' ρ' a → ads H σ ρ a) : Hold K Hs G H σ' ρ' (.tpd t) v :=
  ⟨h.1, h.2.1, fun p m => ⟨(h.2.2 p m).1, fun z => (h.2.2 p m).2 (k p (h.1.in_ t p m).2 z)⟩⟩
theorem lcT_sound {K : PySem.W.Frag} {vs : List Nat} {tt : TT} (hv : ∀ i ∈ tv, i ∈ vs) (mu : ∀ d ρ ρ', g d ρ = some ρ' → Lse ρ ρ') (st : SndT K W0 tt p) {G H : Hp} {σ : St} {ρ : S} {Q : VK} {z : List D × S} {J : It} {G1 H1 : Hp} (o1 : Out K G H σ ρ G1 H1 z.2) (wk : Wlk K G1 H1 z.1 J)
    (q : Wp (if calmSl z.2 vs = true then lcTL vs g p fe z.1 [] (wipeS z.2 vs) >>= fun y => R.ok (Hd.tpd (.lst y.1), rst z.2 y.2 vs) else R.no) (fun z => ∀ v G' H', Out K G H σ ρ G' H' z.2 → Hold K H G' H' σ z.2 z.1 v → Q v H') (ExE K E G H σ ρ)) : tLc (fun _ _ Rr => Rr J H1) (gF K tv g) tt (tF K W0 fe) vs σ H Q := by
  split at q
  rotate_left
  · exact q.elim
  rename_i hc
  intro Da hD
  obtain ⟨Gd, Y, wk, hG, hY⟩ := wk.ex
  have q := q.bind
  have hgD : G1 Da = none := o1.rel.sub.none hD
  have rw0 : Rel K G1 H1 (L2.wipe σ vs) (wipeS z.2 vs) := o1.rel.wipe
  have hDn : ∀ {a : Addr}, ads H1 (L2.wipe σ vs) (wipeS z.2 vs) a → a ≠ Da := fun h e => (rw0.adsH h).1 (by rw [e]; exact hD)
  have mw0 : ∀ j, isMut (wipeS z.2 vs) j → j ∉ vs := fun j ⟨d, m⟩ c => by
    rw [wipeS_at] at m
    by_cases hl : j < z.2.length
    · rw [if_pos ⟨c, hl⟩] at m; rcases m with m | m <;> cases m
    · rw [if_neg fun z => hl z.2, List.getElem?_eq_none (by omega)] at m; rcases m with m | m <;> cases m
  refine lc_it wk (fun i H' => ∃ G' ρ' acc, Out K G1 H1 (L2.wipe σ vs) (wipeS z.2 vs) G' H' ρ' ∧ Hold K H1 G' H' (L2.wipe σ vs) ρ' (.tpd (.lst acc)) (.ref Da) ∧ (∀ b o, G1 b ≠ none → H1 b = some o → H' b = some o) ∧
      Wp (lcTL vs g p fe (z.1.drop i) acc ρ') (fun y => ∀ v G' H', Out K G H σ ρ G' H' (rst z.2 y.2 vs) → Hold K H G' H' σ (rst z.2 y.2 vs) (.tpd (.lst y.1)) v → Q v H') (ExE K E G H σ ρ)) ?_ ?_ ?_ ?_
  · refine ⟨G1, wipeS z.2 vs, [], Out.new rw0 hD, ⟨by unfold Own; exact ⟨Da, [], rfl, hgD, upd_same, by unfold OwnL; rfl⟩, by rw [fp_lst upd_same, fpL_nil]; simp, fun p m => ?_⟩, fun b o hb ho => ?_, q⟩
    · rw [fp_lst upd_same, fpL_nil, List.mem_singleton] at m
      rw [m]
      exact ⟨hD, fun h => hDn (rw0.ads_new hD h) rfl⟩
    rw [upd_ne (ne_of_none ho hD)]; exact ho
  · rintro i H' _ ⟨G', ρ', acc, _, _, k, _⟩
    exact hG H' k
  · rintro i x H' H2 hi ⟨G', ρ', acc, o, hh0, k, w⟩ y
    obtain ⟨d, ed, G2, hstep, rx⟩ := hY i H' x H2 hi y G' o.stp.gg o.rel.sub
    obtain ⟨o2, hh2, k2, sg2⟩ : Out K G1 H1 (L2.wipe σ vs) (wipeS z.2 vs) G2 H2 ρ' ∧ Hold K H1 G2 H2 (L2.wipe σ vs) ρ' (.tpd (.lst acc)) (.ref Da) ∧ (∀ b o, H' b = some o → H2 b = some o) ∧ Same G' G2 := by
      rcases hstep with ⟨rfl, rfl⟩ | ⟨pp, u, hp, rfl, rfl⟩
      · exact ⟨o, hh0, fun _ _ h => h, Same.refl _⟩
      · have zz := Out.lay (o := u) o.rel hp
        exact ⟨o.trans zz, hh0.pers zz, fun b u' h => by rw [upd_ne (ne_of_none h hp)]; exact h, zz.stp.gg⟩
    have hd : z.1.drop i = d :: z.1.drop (i + 1) := by
      obtain ⟨h1, h2⟩ := List.getElem?_eq_some_iff.mp ed
      rw [← h2]
      exact List.drop_eq_getElem_cons h1
    rw [hd] at w
    obtain ⟨ρ3, e3, w⟩ := w.opt
    refine ⟨G2, H2, L2.wipe σ vs, ρ', G2, ρ', ρ3, d, (Out.refl o2.rel).s, rx, e3, fun σ3 o3 n3 => ?_⟩
    have hws : L2.wipe σ3 vs = L2.wipe σ vs := wipe_only (n3.on.mono hv)
    refine ⟨hws, ?_⟩
    have mu3 := mu d ρ' ρ3 e3
    have tr3 : ∀ (G4 H4 : Hp) (ρ4 : S), Out K G2 H2 σ3 ρ3 G4 H4 ρ4 → ∀ a, dpa H2 (L2.wipe σ vs) ρ' a → H4 a = H2 a := fun G4 H4 ρ4 o4 a h => by
      by_cases zz : ads H2 σ3 ρ3 a
      · rcases zz with ⟨j, m, e⟩ | zz
        · exact absurd ((n3.kp j (.inl m)).symm.trans e) (o2.rel.dp.ds a j h (mu3.1 j m))
        · exact o4.tre a zz
      · cases e : H2 a with
        | none => exact absurd e (o2.rel.dpaH h).1
        | some u => exact o4.stp.keep a u e zz
    have hh3 : Hold K H1 G2 H2 σ3 ρ3 (.tpd (.lst acc)) (.ref Da) := tpd_ads hh2 fun a ha zz => o3.nw a zz ha
    have ioN : ∀ j ∈ vs, ¬ isIo ρ' j := fun j hj ⟨d, m⟩ => mw0 j (o2.ker.mu j ⟨d, .inr m⟩) hj
    refine st G2 H2 σ3 ρ3 o3.rel _ (w.bind.noX.mono (fun b hb w2 G4 H4 o4 => ?_) fun _ _ w2 => w2.elim)
    have hh4 := hh3.pers o4
    have keepA : ∀ (G5 H5 : Hp) (ρ5 : S), Out K G2 H2 σ3 ρ3 G5 H5 ρ5 → ∀ bb oo, G1 bb ≠ none → H1 bb = some oo → H5 bb = some oo := fun G5 H5 ρ5 o5 bb oo h1 h2 => o5.stp.keep bb oo (k2 bb oo (k bb oo h1 h2)) fun zz => by
      have hz := (o3.rel.adsH zz).2
      cases qq : G1 bb with
      | none => exact h1 qq
      | some u' => rw [(o.stp.gg.trans sg2) bb u' qq] at hz; cases hz
    split at w2
    · rename_i hb1
      rw [if_pos hb1]
      have w3 := w2.bind.noX
      refine ⟨G4, b.2, o4.rel, w3.mono (fun hh _ w5 v G5 H5 o5 hold => ?_) fun _ _ w5 => w5.elim⟩
      obtain ⟨u6, es, w6⟩ := w5.opt
      obtain ⟨G6, o6, sg6, hT⟩ := normT_ok o5 hold es
      split at w6
      rotate_left
      · exact w6.elim
      rename_i hsz
      have hh6 := hh4.pers o6
      obtain ⟨h61, h62, h63⟩ := id hh6
      obtain ⟨b', us, eb, gD6, hD5, ol⟩ := own_lst h61
      cases eb
      have hf : fp H5 (.lst acc) (.ref Da) = Da :: fpL H5 acc us := fp_lst hD5
      rw [hf] at h62 h63
      obtain ⟨naD, ndl⟩ := List.nodup_cons.mp h62
      refine ⟨us, hD5, by rw [← ownL_len ol]; exact hsz, ?_⟩
      have oA : OutS K G2 H2 (L2.wipe σ vs) ρ' G6 H5 σ3 u6.2 := o3.trans (o4.s.trans o6.s)
      have oW : Out K G2 H2 (L2.wipe σ vs) ρ' G6 H5 (wipeS u6.2 vs) := oA.wiped ioN hws ((mu3.trans o4.ker.lse).trans o6.ker.lse) (tr3 _ _ _ (o4.trans o6)) o2.rel
      have nW : ¬ ads H5 (L2.wipe σ vs) (wipeS u6.2 vs) Da := fun h => (hh2.2.2 Da (by
        obtain ⟨b', us', eb, _, hD2, _⟩ := own_lst hh2.1
        cases eb
        rw [fp_lst hD2]; exact List.mem_cons_self)).2 (oW.nw Da h (by
        obtain ⟨b', us', eb, _, hD2, _⟩ := own_lst hh2.1
        cases eb
        rw [hD2]; simp))
      have oB := o2.trans oW
      have dis : ∀ x ∈ fp H5 u6.1 v, x ∉ Da :: fpL H5 acc us := fun x m m2 => by
        have e4 := (hT.2.2 x m).1
        have m3 : x ∈ fp H4 (.lst acc) (.ref Da) := by
          obtain ⟨l1, l2⟩ := hh4.1.go (H' := H5) o6.stp.gg (.lst acc) fun a ma => by
            obtain ⟨n1, n2⟩ := hh4.1.in_ _ a ma
            refine ⟨?_, o6.stp.fr a n2 (hh4.2.2 a ma).2 n1⟩
            cases e : H4 a with
            | none => exact absurd e n2
            | some u => exact o6.stp.keep a u e (hh4.2.2 a ma).2
          rw [← l2, hf]; exact m2
        exact (hh4.1.in_ _ x m3).2 e4
      obtain ⟨k5, k6, k7⟩ := ownL_snoc ol ndl hT.1 hT.2.1 fun x m m2 => dis x m (List.mem_cons_of_mem _ m2)
      have naD2 : Da ∉ fpL H5 (acc ++ [u6.1]) (us ++ [v]) := fun m => by
        rcases k7 Da m with zz | zz
        · exact naD zz
        · exact dis Da zz List.mem_cons_self
      obtain ⟨l5, l6, l7⟩ := own_lst_new gD6 k5 k6 naD2
      have oC := oB.app (u := .lst (us ++ [v])) hD gD6 (by rw [hD5]; simp) nW (fun o e => by rw [hD5] at e; cases e; exact lst_stat)
      have adsC : ∀ a, ads (upd H5 Da (.lst (us ++ [v]))) (L2.wipe σ vs) (wipeS u6.2 vs) a → ads H5 (L2.wipe σ vs) (wipeS u6.2 vs) a := fun a h => by
        have hk : ∀ b, dpa H5 (L2.wipe σ vs) (wipeS u6.2 vs) b → upd H5 Da (.lst (us ++ [v])) b = H5 b ∧ G6 b = none := fun b h => ⟨upd_ne fun z => nW (by rw [← z]; exact .inr h), (oB.rel.dpaH h).2⟩
        obtain ⟨_, tw⟩ := oB.rel.trees (Same.refl G6) hk (fun _ _ e => ⟨e, rfl⟩) fun i b m h => oB.rel.dp.ds b i h m
        exact h.imp id (tw a)
      refine ⟨G6, wipeS u6.2 vs, acc ++ [u6.1], oC, ⟨l5, l6, fun x m => ?_⟩, fun bb oo h1 h2 => ?_, w6⟩
      · rcases l7 x m with rfl | zz
        · exact ⟨hD, fun h => nW (adsC _ h)⟩
        · have nx : H1 x = none ∧ ¬ ads H5 σ3 u6.2 x := by
            rcases k7 x zz with y | y
            · exact h63 x (List.mem_cons_of_mem _ y)
            · refine ⟨?_, (hT.2.2 x y).2⟩
              have := (hT.2.2 x y).1
              exact o2.stp.thr x (o3.stp.thr x (o4.stp.thr x this))
          refine ⟨nx.1, fun h => ?_⟩
          have h5 := adsC x h
          rcases h5 with ⟨j, ⟨dd, mm⟩, q5⟩ | ⟨j, tq, vq, mm, q5, q6⟩
          · rw [wipeS_at] at mm
            by_cases c : j ∈ vs ∧ j < u6.2.length
            · rw [if_pos c] at mm; rcases mm with mm | mm <;> cases mm
            · rw [if_neg c] at mm
              rw [← hws, wipe_at, if_neg (by rw [← o6.rel.len]; exact c)] at q5
              exact nx.2 (.inl ⟨j, ⟨dd, mm⟩, q5⟩)
          · rw [wipeS_at] at mm
            by_cases c : j ∈ vs ∧ j < u6.2.length
            · rw [if_pos c] at mm; cases mm
            · rw [if_neg c] at mm
              rw [← hws, wipe_at, if_neg (by rw [← o6.rel.len]; exact c)] at q5
              exact nx.2 (.inr ⟨j, tq, vq, mm, q5, q6⟩)
      · rw [upd_ne (ne_of_none h2 hD)]
        exact keepA G6 H5 u6.2 (o4.trans o6) bb oo h1 h2
    · rename_i hb1
      rw [if_neg hb1]
      have oA : OutS K G2 H2 (L2.wipe σ vs) ρ' G4 H4 σ3 b.2 := o3.trans o4.s
      have oW : Out K G2 H2 (L2.wipe σ vs) ρ' G4 H4 (wipeS b.2 vs) := oA.wiped ioN hws (mu3.trans o4.ker.lse) (tr3 _ _ _ o4) o2.rel
      exact ⟨G4, wipeS b.2 vs, acc, o2.trans oW, hh2.pers oW, keepA G4 H4 b.2 o4, w2⟩
  · rintro H' ⟨G', ρ', acc, o, hh, k, w⟩
    rw [List.drop_length] at w
    have ou := Out.unwipe o1.rel hc o
    refine w (.ref Da) G' H' (o1.trans ou) ⟨hh.1, hh.2.1, fun x m => ⟨o1.stp.thr x (hh.2.2 x m).1, fun h => (hh.2.2 x m).2 (ads_unwipe o1.rel hc o h)⟩⟩
theorem snd_lcT {K : PySem.W.Frag} {wi : TI} {vs : List Nat} {tt : TT} (si : SndI K E wi it) (hv : ∀ i ∈ tv, i ∈ vs) (mu : ∀ d ρ ρ', g d ρ = some ρ' → Lse ρ ρ') (st : SndT K W0 tt p) : Snd K E (tLc wi (gF K tv g) tt (tF K W0 fe) vs) (eLcT vs it g p fe) := by
  intro G H σ ρ Rl Q hw
  exact si G H σ ρ Rl _ (hw.bind.mono (fun z _ q J G1 H1 o1 wk => lcT_sound hv mu st o1 wk q) fun _ _ q => q)
theorem pr_lcT {vs : List Nat} {hs0 : X.calm = true} (hN : X.N.Nodup) (hi : PIt X E tg iter it) (ok : BlkOk X.N X.env.scope scope own) (hv : ∀ i ∈ tv, i ∈ vs)
    (hg : ∀ (s : Shared) (H : Hp) (C : Addr) (cl : List (Str × Addr)) (fp : List Addr), PTg (X.blk s H scope (compEnvC scope cl C X.env) fp) tv tg g)
    (he : ∀ (s : Shared) (H : Hp) (C : Addr) (cl : List (Str × Addr)) (fp : List Addr), PR (X.blk s H scope (compEnvC scope cl C X.env) fp) W0 elt fe) (hvs : own.map (·.2) = vs := by rfl) (hs : ∀ x, foldedSetIterable iter X.env x = pure x := by intro _; rfl) :
    PR X E (.ListComp elt [⟨tg, iter, [], 0⟩] scope pos) (eLcT vs it g pYes fe) := by
  subst hvs
  obtain ⟨wi, pi, si⟩ := hi.ex
  exact ⟨_, pe_lc (g := gF X.K tv g) (te := tF X.K W0 fe) hs0 hN pi ok (fun s H C cl fp => (hg s H C cl fp).pg) (fun s H C cl fp => pts_nil) (fun s H C cl fp => (he s H C cl fp).pe) hs, snd_lcT si hv (hg X.s_0 X.H_0 0 [] []).mu fun G H σ ρ r Q w => w G H (Out.refl r)⟩
theorem st_asgLcT {vs : List Nat} {i : Nat} {y : Str} {py spos : Pos} {hs0 : X.calm = true} (hN : X.N.Nodup) (hy : X.N[i]? = some y) (hyl : X.env.scope.names.lookup y = some .local) (hi : PIt X E tg iter it) (ok : BlkOk X.N X.env.scope scope own) (hv : ∀ i ∈ tv, i ∈ vs)
    (hg : ∀ (s : Shared) (H : Hp) (C : Addr) (cl : List (Str × Addr)) (fp : List Addr), PTg (X.blk s H scope (compEnvC scope cl C X.env) fp) tv tg g)
    (he : ∀ (s : Shared) (H : Hp) (C : Addr) (cl : List (Str × Addr)) (fp : List Addr), PR (X.blk s H scope (compEnvC scope cl C X.env) fp) W0 elt fe)
    (hsw : swapsWith (.ListComp elt [⟨tg, iter, [], 0⟩] scope pos) (some (.Name y py)) spos.line X.env = pure true := by exact sw_true rfl rfl rfl rfl) (hvs : own.map (·.2) = vs := by rfl) (hs : ∀ x, foldedSetIterable iter X.env x = pure x := by intro _; rfl) :
    PSt X E (.Assign [.Name y py] (.ListComp elt [⟨tg, iter, [], 0⟩] scope pos) spos) (sAsg i (eLcT vs it g pYes fe)) := by
  subst hvs
  obtain ⟨wi, pi, si⟩ := hi.ex
  exact ⟨_, ps_setLc (elt := elt) (ifs := []) (g := gF X.K tv g) (tt := tYes) (te := tF X.K W0 fe) hs0 hN hy hyl hsw pi ok (fun s H C cl fp => (hg s H C cl fp).pg) (fun s H C cl fp => pts_nil) (fun s H C cl fp => (he s H C cl fp).pe) hs,
    asg_snd (snd_lcT si hv (hg X.s_0 X.H_0 0 [] []).mu fun G H σ ρ r Q w => w G H (Out.refl r))⟩
end
end BR
set_option Elab.async false
set_option linter.all false
set_option maxRecDepth 100000
set_option maxHeartbeats 4000000
namespace BR
open PySem L2
/-! ## list(range(..)) -/
theorem repL_rg {K : PySem.W.Frag} {G : Hp} {a b : Int} : RepL K G (rngL a (b - a).toNat) (rgV a b) := by
  unfold rngL rgV
  generalize (b - a).toNat = n
  generalize List.range n = l
  induction l with
  | nil => exact .nil
  | cons x l ih => exact .cons rep_int ih
theorem repI {K : PySem.W.Frag} {G : Hp} {i : Int} {v : V} (h : Rep K G (.int i) v) : v = .int i := by unfold Rep at h; exact h
@[simp] def asI : D → Option Int
  | .int i => some i
  | _ => none
theorem asI_eq {d : D} {i : Int} (e : asI d = some i) : d = .int i := by cases d <;> cases e; rfl
open Classical in
@[simp] noncomputable def eLstR1 (fa : EF) : EF := fun ρ => eV fa ρ >>= fun z => ofO (asI z.1) >>= fun n => if RgOk 0 n then .ok (.tmp (.lst (rngL 0 (n - 0).toNat)), z.2) else .no
open Classical in
@[simp] noncomputable def eLstR2 (fa fb : EF) : EF := fun ρ => eV fa ρ >>= fun z => eV fb z.2 >>= fun y => ofO (asI z.1) >>= fun a => ofO (asI y.1) >>= fun b => if RgOk a b then .ok (.tmp (.lst (rngL a (b - a).toNat)), y.2) else .no
section
variable {X : Cx} {E : WX} {e : Expr} {fa fb : EF} {p pos p2 pos2 : Pos} {a b : Expr}
theorem pr_lstR1 (hc : X.calm = true) (hg : Gl X "list") (hm : X.mg "list" = none) (hg2 : Gl X "range") (hm2 : X.mg "range" = none) (pa : PR X E a fa) (na : starEach [Expr.Call (.Name "range" p2) [a] [] pos2] X.env = (false, eval (Expr.Call (.Name "range" p2) [a] [] pos2) X.env) :: starEach [] X.env := by rfl) (nb : starEach [a] X.env = (false, eval a X.env) :: starEach [] X.env := by rfl) :
    PR X E (.Call (.Name "list" p) [.Call (.Name "range" p2) [a] [] pos2] [] pos) (eLstR1 fa) := by
  obtain ⟨t, pe, s⟩ := pa.v.ex
  refine ⟨_, pe_listRg hc hg hm (prg_1 hg2 hm2 pe nb) na, fun G H σ ρ r Q hw => s G H σ ρ r _ (hw.bind.mono (fun z _ q v G1 H1 o1 rv => ?_) fun _ _ q => q)⟩
  obtain ⟨n, e1, q⟩ := q.opt
  have e2 := asI_eq e1
  split at q
  · rename_i hk
    rw [e2] at rv
    refine ⟨n, (repI rv), hk, fun l hl => ?_⟩
    exact q _ G1 _ (o1.trans (.new o1.rel hl)) ⟨l, rfl, ⟨o1.rel.sub.none hl, _, upd_same, _, rfl, repL_rg⟩, o1.stp.thr l hl, fun z => (o1.rel.adsH (o1.rel.ads_new hl z)).1 hl⟩
  · exact q.elim
theorem pr_lstR2 (hc : X.calm = true) (hg : Gl X "list") (hm : X.mg "list" = none) (hg2 : Gl X "range") (hm2 : X.mg "range" = none) (pa : PR X E a fa) (pb : PR X E b fb) (na : starEach [Expr.Call (.Name "range" p2) [a, b] [] pos2] X.env = (false, eval (Expr.Call (.Name "range" p2) [a, b] [] pos2) X.env) :: starEach [] X.env := by rfl)
    (nb : starEach [a, b] X.env = (false, eval a X.env) :: starEach [b] X.env := by rfl) (nc : starEach [b] X.env = (false, eval b X.env) :: starEach [] X.env := by rfl) (hp : (backTo pos2 (starEach [b] X.env)).any (·.1) = false := by rfl) :
    PR X E (.Call (.Name "list" p) [.Call (.Name "range" p2) [a, b] [] pos2] [] pos) (eLstR2 fa fb) := by
  obtain ⟨t, pe, s⟩ := pa.v.ex
  obtain ⟨t2, pe2, s2⟩ := pb.v.ex
  refine ⟨_, pe_listRg hc hg hm (prg_2 hg2 hm2 pe pe2 nb nc hp) na, fun G H σ ρ r Q hw => s G H σ ρ r _ (hw.bind.mono (fun z _ q v G1 H1 o1 rv => ?_) fun _ _ q => q)⟩
  refine s2 G1 H1 σ z.2 o1.rel _ (q.bind.mono (fun y _ q v2 G2 H2 o2 rv2 => ?_) fun _ _ q => q.step o1)
  obtain ⟨i, e1, q⟩ := q.opt
  obtain ⟨j, e3, q⟩ := q.opt
  rw [asI_eq e1] at rv
  rw [asI_eq e3] at rv2
  split at q
  · rename_i hk
    have o := o1.trans o2
    refine ⟨i, j, (repI rv), (repI rv2), hk, fun l hl => ?_⟩
    exact q _ G2 _ (o.trans (.new o.rel hl)) ⟨l, rfl, ⟨o.rel.sub.none hl, _, upd_same, _, rfl, repL_rg⟩, o.stp.thr l hl, fun z => (o.rel.adsH (o.rel.ads_new hl z)).1 hl⟩
  · exact q.elim
end
/-! ## x.pop(k), x.pop() -/
@[simp] def ePopAt (i : Nat) (f : EF) : EF := fun ρ => ofO (lookL ρ i) >>= fun _ => eV f ρ >>= fun z => ofO (lookL z.2 i) >>= fun ds => ofO (asI z.1) >>= fun k => ofO (ixN ds.length k) >>= fun j => ofO ds[j]? >>= fun d => ofO (guard (decide (ds.length ≤ 1000000))) >>= fun _ => ofO (updSl z.2 i (.lst (ds.eraseIdx j))) >>= fun ρ2 => .ok (.val d, ρ2)
@[simp] def ePop (i : Nat) : EF := fun ρ => ofO (lookL ρ i) >>= fun ds => ofO ds[ds.length - 1]? >>= fun d => ofO (updSl ρ i (.lst ds.dropLast)) >>= fun ρ2 => .ok (.val d, ρ2)
theorem RepL.eraseIdx {K : PySem.W.Frag} {G : Hp} : ∀ {ds : List D} {vs : List V} (i : Nat), RepL K G ds vs → RepL K G (ds.eraseIdx i) (vs.eraseIdx i)
  | [], _, _, h => by rw [repL_nil.mp h]; exact .nil
  | d :: ds, _, 0, h => by
    obtain ⟨v, vs', rfl, h1, h2⟩ := repL_cons.mp h
    exact h2
  | d :: ds, _, i + 1, h => by
    obtain ⟨v, vs', rfl, h1, h2⟩ := repL_cons.mp h
    exact .cons h1 (h2.eraseIdx i)
theorem RepL.dropLast {K : PySem.W.Frag} {G : Hp} : ∀ {ds : List D} {vs : List V}, RepL K G ds vs → RepL K G ds.dropLast vs.dropLast
  | [], _, h => by rw [repL_nil.mp h]; exact .nil
  | [d], _, h => by
    obtain ⟨v, vs', rfl, h1, h2⟩ := repL_cons.mp h
    rw [repL_nil.mp h2]; exact .nil
  | d :: e :: ds, _, h => by
    obtain ⟨v, vs', rfl, h1, h2⟩ := repL_cons.mp h
    obtain ⟨w, vs'', rfl, h3, h4⟩ := repL_cons.mp h2
    exact .cons h1 (RepL.dropLast h2)
section
variable {X : Cx} {E : WX} {e o : Expr} {f fo : EF} {pos pos' apos cpos : Pos} {x : Str} {i : Nat}
theorem pr_popAt (hN : X.N[i]? = some x) (hv : Vis X.env.scope x) (h : PR X E e f) (hd : (x == ("__debug__" : Str)) = false := by decide) (hcd : (x == ("__classdict__" : Str)) = false := by decide)
    (hfew : ((backTo cpos (starEach (e :: []) X.env)).all (fun x => !x.1) && (backToKw cpos (keywordEach [] X.env)).all (fun x => x.1.isSome)
      && decide ((e :: []).length + ([] : List Keyword).length + (if ([] : List Keyword).isEmpty then 0 else 1) < 30)) = true := by rfl)
    (hbase : attributeBase (.Name x pos') "pop" X.env (eval (.Name x pos') X.env) = eval (.Name x pos') X.env := by rfl) (hline : (apos.endLine == cpos.line) = true := by rfl) (hs : starEach (e :: []) X.env = (false, eval e X.env) :: starEach [] X.env := by rfl) :
    PR X E (.Call (.Attribute (.Name x pos') "pop" apos) [e] [] cpos) (ePopAt i f) := by
  obtain ⟨t, pe, s⟩ := h.v.ex
  refine ⟨_, pe_bm PySem.F.plainAttrs_list PySem.F.slot_list_pop PySem.F.type_list_pop mt_popAt (pe_var (i := i) hN hv hd hcd) (pa_cons pe pa_nil hs) hbase hfew hline hs rfl, fun G H σ ρ r Q hw => ?_⟩
  obtain ⟨ds0, q0, hw⟩ := hw.opt
  obtain ⟨_, a, vs0, ea, hg0, hu0, hc0⟩ := lookL_ok r q0
  refine ⟨.ref a, ea, .inl ⟨rfl, vs0, SqL.of hu0⟩, s G H σ ρ r _ (hw.bind.mono (fun z _ q v G1 H1 o1 rv => ?_) fun _ _ q => q)⟩
  obtain ⟨ds, q1, q⟩ := q.opt
  obtain ⟨k, ek, q⟩ := q.opt
  obtain ⟨j, ej, q⟩ := q.opt
  obtain ⟨d, ed, q⟩ := q.opt
  obtain ⟨_, q2, q⟩ := q.opt
  obtain ⟨ρ2, e2, q⟩ := q.opt
  obtain ⟨hm, a', vs1, ea', hg1, hu1, hc1⟩ := lookL_ok o1.rel q1
  rw [ea] at ea'; cases ea'
  rw [asI_eq ek] at rv
  have hz := of_decide_eq_true (guard_eq q2)
  obtain ⟨s1, s2, s3, s4⟩ := ixN_seq ej
  obtain ⟨y, ey, ry⟩ := hc1.get ed
  refine ⟨a, vs1, k, j, y, rfl, by rw [(repI rv)], hu1, by omega, by omega, by rw [← hc1.length]; exact s1, ey, ?_⟩
  exact q y G1 _ (mut_ok o1 ea hm (cont_l (hc1.eraseIdx j)) e2) (Hold.val ry)
theorem pr_pop (hN : X.N[i]? = some x) (hv : Vis X.env.scope x) (hd : (x == ("__debug__" : Str)) = false := by decide) (hcd : (x == ("__classdict__" : Str)) = false := by decide)
    (hbase : attributeBase (.Name x pos') "pop" X.env (eval (.Name x pos') X.env) = eval (.Name x pos') X.env := by rfl) (hline : (apos.endLine == cpos.line) = true := by rfl) :
    PR X E (.Call (.Attribute (.Name x pos') "pop" apos) [] [] cpos) (ePop i) := by
  refine ⟨_, pe_bm0 PySem.F.plainAttrs_list PySem.F.slot_list_pop PySem.F.type_list_pop (fun pins s σ H x vs v us Q => mt_pop pins s σ H x vs v us Q) (pe_var (i := i) hN hv hd hcd) hbase hline, fun G H σ ρ r Q hw => ?_⟩
  obtain ⟨ds, q0, hw⟩ := hw.opt
  obtain ⟨d, ed, hw⟩ := hw.opt
  obtain ⟨ρ2, e2, hw⟩ := hw.opt
  obtain ⟨hm, a, vs1, ea, hg1, hu1, hc1⟩ := lookL_ok r q0
  obtain ⟨y, ey, ry⟩ := hc1.get ed
  refine ⟨.ref a, ea, .inl ⟨rfl, vs1, SqL.of hu1⟩, a, vs1, y, rfl, rfl, hu1, by rw [← hc1.length]; exact ey, ?_⟩
  exact hw y G _ (mut_ok (.refl r) ea hm (cont_l hc1.dropLast) e2) (Hold.val ry)
end
/-! ## f-strings -/
open Classical in
@[simp] noncomputable def fPart : D → Option Str
  | .str y => if y.length ≤ sizeLine then some y else none
  | .int i => if i.natAbs.log2 < 1920 then some (toString i) else none
  | _ => none
@[simp] noncomputable def eFv (f : EF) : EF := fun ρ => eV f ρ >>= fun z => ofO (fPart z.1) >>= fun y => .ok (.val (.str y), z.2)
/-- parts one behind the other -/
abbrev JF := Str → S → R (Str × S)
def SndJ (K : PySem.W.Frag) (E : WX) (ts : List TE) (f : JF) : Prop := ∀ (acc : Str) (G H : Hp) (σ : St) (ρ : S), Rel K G H σ ρ → ∀ Q : Str → Hp → Prop,
  Wp (f acc ρ) (fun z => ∀ G' H', Out K G H σ ρ G' H' z.2 → Q z.1 H') (ExE K E G H σ ρ) → tJs ts acc σ H Q
structure PJs (X : Cx) (E : WX) (es : List Expr) (f : JF) : Prop where
  ex : ∃ ts, PJ X es ts ∧ SndJ X.K E ts f
@[simp] def asSt : D → Option Str
  | .str i => some i
  | _ => none
theorem asSt_eq {d : D} {i : Str} (e : asSt d = some i) : d = .str i := by cases d <;> cases e; rfl
@[simp] def jNil : JF := fun acc ρ => .ok (acc, ρ)
@[simp] def jCons (f : EF) (g : JF) : JF := fun acc ρ => eV f ρ >>= fun z => ofO (asSt z.1) >>= fun y => ofO (guard (decide ((acc ++ y).length ≤ sizeLine))) >>= fun _ => g (acc ++ y) z.2
@[simp] def eJoin (g : JF) : EF := fun ρ => g Str.empty ρ >>= fun z => .ok (.val (.str z.1), z.2)
section
variable {X : Cx} {E : WX} {e v1 v2 : Expr} {es rest : List Expr} {f : EF} {g : JF} {pos : Pos}
theorem pr_fv (h : PR X E e f) : PR X E (.FormattedValue e (-1) none pos) (eFv f) := by
  obtain ⟨t, pe, s⟩ := h.v.ex
  refine ⟨_, pe_fmt pe, fun G H σ ρ r Q hw => s G H σ ρ r _ (hw.bind.mono (fun z _ q v G1 H1 o1 rv => ?_) fun _ _ q => q)⟩
  obtain ⟨y, e1, q⟩ := q.opt
  unfold fPart at e1
  split at e1
  · rename_i y0 ey
    split at e1
    · cases e1
      rw [ey] at rv
      unfold Rep at rv
      exact .inl ⟨_, rv, by assumption, q _ G1 H1 o1 (Hold.val rep_str)⟩
    · cases e1
  · rename_i i ey
    split at e1
    · cases e1
      rw [ey] at rv
      exact .inr ⟨_, (repI rv), by assumption, q _ G1 H1 o1 (Hold.val rep_str)⟩
    · cases e1
  · cases e1
theorem js_nil : PJs X E [] jNil := ⟨[], .nil, fun acc G H σ ρ r Q hw => hw G H (.refl r)⟩
theorem js_cons (h : PR X E e f) (hr : PJs X E es g) : PJs X E (e :: es) (jCons f g) := by
  obtain ⟨t, pe, s⟩ := h.v.ex
  obtain ⟨ts, pj, s2⟩ := hr.ex
  refine ⟨t :: ts, .cons pe pj, fun acc G H σ ρ r Q hw => s G H σ ρ r _ (hw.bind.mono (fun z _ q v G1 H1 o1 rv => ?_) fun _ _ q => q)⟩
  obtain ⟨y, e1, q⟩ := q.opt
  obtain ⟨_, e2, q⟩ := q.opt
  rw [asSt_eq e1] at rv
  unfold Rep at rv
  exact ⟨y, rv, of_decide_eq_true (guard_eq e2), s2 _ G1 H1 σ z.2 o1.rel Q (q.mono (fun z2 _ q2 G2 H2 o2 => q2 G2 H2 (o1.trans o2)) fun _ _ q2 => q2.step o1)⟩
theorem pr_joined (h : PJs X E (v1 :: v2 :: rest) g) : PR X E (.JoinedStr (v1 :: v2 :: rest) pos) (eJoin g) := by
  obtain ⟨ts, pj, s⟩ := h.ex
  refine ⟨_, pe_joined pj, fun G H σ ρ r Q hw => s _ G H σ ρ r _ (hw.bind.mono (fun z _ q G1 H1 o1 => ?_) fun _ _ q => q)⟩
  exact q _ G1 H1 o1 (Hold.val rep_str)
theorem pr_joined1 (h : PR X E e f) : PR X E (.JoinedStr [e] pos) f := by
  obtain ⟨t, pe, s⟩ := h.ex
  exact ⟨t, pe_joined1 pe, s⟩
end
/-- a class whose objects are shown in f-strings by their own __str__ -/
structure FmtOf (K : PySem.W.Frag) (C f : Addr) : Prop where
  fm : PySem.W.findIn K (.ref C) "__format__" = some (some (.builtin "object.__format__"))
  mr : PySem.W.mroIn K C (.type "object") = some true
  st : SpOf K C f "__str__"
section
variable {X : Cx} {E : WX} {k : Nat} {f C : Addr} {fd : FuncData} {ps : List Str} {F : FT} {pos : Pos} {e : Expr} {fo : EF}
@[simp] def poStrZ : D → Option D
  | .str x => if x.length ≤ sizeLine then some (.str x) else none
  | _ => none
theorem pr_fvO (hs : FmtOf X.K C f) (Fn : FnG X.prog X.w X.K X.mg X.base (L2.CX X.prog X.w) k f fd ps (spF X.K [false] false F)) (hr : RmG (k + 2) X.A) (hb : Binds X.K fd ps []) (hx : Passes (L2.CX X.prog X.w) X (fun _ _ _ => False)) (ha : PR X E e fo) :
    PR X E (.FormattedValue e (-1) none pos) (eSpO C F poStr fo) := by
  obtain ⟨t, pa, s⟩ := ha.v.ex
  refine ⟨fun σ H Q => t σ H fun x H1 => ∃ a dx fs, x = .ref a ∧ H1 a = some (.ins C dx fs) ∧ spF X.K [false] false F [.ref a] H1 (fun v H2 => ∃ y, v = .str y ∧ Q (.str y) H2) (fun _ _ _ => False), ⟨fun pins s σ H Q I h => ?_⟩, ?_⟩
  · refine wpAny_FormattedValue_plain (L2.thn (pa.run pins s σ H _ I h) fun v s1 hv => ?_)
    obtain ⟨x, H1, I1, r1, a, dx, fs, rfl, ea, hsp⟩ := hv
    have : v = Value.ref a := r1
    subst this
    obtain ⟨ox, od, J, _⟩ := inst_at I1 ea
    have hu := hr.units
    refine PySem.W.kfo_fieldS (show X.A.units + 1 < cLine by omega) I1.kIn J hs.fm hs.mr hs.st.at_ hs.st.fn (wpAny_mono (runAt (A' := X.A.in1) (hr.in1.mono (by omega)) rfl Fn hb hx (I1.tok _) (vs := [.ref a]) (.cons rfl .nil) hsp) (fun v s' z => ?_) fun _ _ z => z)
    obtain ⟨v', H', I', rv, y, rfl, q⟩ := z
    obtain ⟨tk, rfl⟩ := rv
    exact ⟨.str y, H', I', ⟨_, rfl⟩, q⟩
  · intro G H σ ρ r Q hw
    refine s G H σ ρ r _ (hw.bind.mono (fun z _ q v G1 H1 o1 rv => ?_) fun _ _ q => q)
    obtain ⟨cc, e1, q1⟩ := q.opt
    have h1' := rv
    rw [asIns_eq e1] at h1'
    unfold Rep at h1'
    obtain ⟨a, dx, fs, rfl, ha, hn, hds⟩ := h1'
    refine ⟨a, dx, fs, rfl, o1.rel.sub.i ha, call_post (ms := [false]) (by decide) rfl o1 (.cons rv .nil) (fun d d' v G' H' e1 h2 q => ?_) q1⟩
    unfold poStr at e1
    split at e1
    · cases e1
      unfold Rep at h2
      exact ⟨_, h2, q _ rep_str⟩
    · cases e1
end
end BR
set_option Elab.async false
set_option linter.all false
set_option maxRecDepth 100000
set_option maxHeartbeats 4000000
namespace BR
open PySem L2
open PySem.W (Frag findIn specialIn takesIn mroIn kitOne kitAny isFn fnIn notFirst)
/-! ## isinstance of an own class, of all kinds of values -/
def isIns (C : Addr) : D → Bool
  | .ins c _ _ => decide (c = C)
  | _ => false
def baseTs : List String := ["NoneType", "bool", "int", "str", "list", "tuple", "dict"]
structure IsG (K : Frag) (C : Addr) (Cs : List Addr) : Prop where
  cls : ∀ c ∈ Cs, ClsI K c
  kit : ∀ c ∈ Cs, kitOne K (.ref c) (.ref C) = some (decide (c = C))
  base : ∀ T ∈ baseTs, kitOne K (.type T) (.ref C) = some false
theorem kitAny_one {K : Frag} {t u : Value} {b : Bool} (h : kitOne K t u = some b) : kitAny K t [u] = some b := by
  cases b with
  | true => exact kitAny_cons h (fun e => by cases e) fun _ => rfl
  | false => exact kitAny_cons h (fun _ => rfl) fun e => by cases e
theorem isi_G {K : Frag} {C : Addr} {Cs : List Addr} (g : IsG K C Cs) : IsiT K [.ref C] (insIn Cs) (isIns C) := by
  refine ⟨fun d t hp e => ?_, fun d G H v s h e => ?_⟩
  · have hb : ∀ T, T ∈ baseTs → kitAny K (.type T) [.ref C] = some false := fun T hT => kitAny_one (g.base T hT)
    cases d with
    | ins c ns ds =>
      cases e
      obtain ⟨c', hc, e⟩ := List.any_eq_true.mp (show (Cs.any fun x => decide (x = c)) = true from hp)
      have := of_decide_eq_true e
      subst this
      exact kitAny_one (g.kit _ hc)
    | non => cases e; exact hb _ (by decide)
    | bl _ => cases e; exact hb _ (by decide)
    | int _ => cases e; exact hb _ (by decide)
    | str _ => cases e; exact hb _ (by decide)
    | lst _ => cases e; exact hb _ (by decide)
    | scr _ => cases e; exact hb _ (by decide)
    | tup _ => cases e; exact hb _ (by decide)
    | dic _ _ => cases e; exact hb _ (by decide)
    | ty _ => cases e
    | obj _ => cases e
  · have key : ∀ t, tyD d = some t → TyX K H v t := fun t et => tyD_ok g.cls s h e et
    cases d <;> first | exact ⟨_, rfl, key _ rfl⟩ | cases e
/-! ## facts -/
def fIsG (C : PySem.Str) (Cs : List PySem.Str) : Fct := fun K => (Cs.all fun c => fClsI c K && decide (kitOne K (.ref (He.ga K c)) (.ref (He.ga K C)) = some (decide (He.ga K c = He.ga K C)))) && baseTs.all fun T => decide (kitOne K (.type T) (.ref (He.ga K C)) = some false)
theorem isG_ok {K : Frag} {C : PySem.Str} {Cs : List PySem.Str} (h : fIsG C Cs K = true) : IsG K (He.ga K C) (Cs.map (He.ga K)) := by
  obtain ⟨h1, h2⟩ := ba' h
  have h1 := List.all_eq_true.mp h1
  have h2 := List.all_eq_true.mp h2
  refine ⟨fun c hc => ?_, fun c hc => ?_, fun T hT => of_decide_eq_true (h2 T hT)⟩
  · obtain ⟨x, hx, rfl⟩ := List.mem_map.mp hc
    exact clsI_ok (ba' (h1 x hx)).1
  · obtain ⟨x, hx, rfl⟩ := List.mem_map.mp hc
    exact of_decide_eq_true (ba' (h1 x hx)).2
def fRight (C : PySem.Str) (Cs : List PySem.Str) : Fct := fun K => Cs.all fun c => fClsI c K && notFirst K (He.ga K C) (.ref (He.ga K c))
theorem right_ok {K : Frag} {C : PySem.Str} {Cs : List PySem.Str} (h : fRight C Cs K = true) : RightOk K (He.ga K C) (Cs.map (He.ga K)) := by
  have h := List.all_eq_true.mp h
  refine ⟨fun c hc => ?_, fun c hc => ?_⟩
  · obtain ⟨x, hx, rfl⟩ := List.mem_map.mp hc
    exact clsI_ok (ba' (h x hx)).1
  · obtain ⟨x, hx, rfl⟩ := List.mem_map.mp hc
    exact (ba' (h x hx)).2
def fSp (C nm : PySem.Str) : Fct := fun K => He.eqO (findIn K (.ref (He.ga K C)) nm) (some (some (.ref (He.ma K (He.ga K C) nm)))) && isFn K (.ref (He.ma K (He.ga K C) nm))
theorem sp_ok {K : Frag} {C nm : PySem.Str} (h : fSp C nm K = true) : SpOf K (He.ga K C) (He.ma K (He.ga K C) nm) nm := by
  obtain ⟨h1, h2⟩ := ba' h
  exact ⟨He.eqO_ok h1, h2⟩
def fFnIn (C nm : PySem.Str) : Fct := fun K => fnIn K (He.ma K (He.ga K C) nm)
theorem fnIn_ok {K : Frag} {C nm : PySem.Str} (h : fFnIn C nm K = true) : fnIn K (He.ma K (He.ga K C) nm) = true := h
def fFmt (C : PySem.Str) : Fct := fun K => He.eqO (findIn K (.ref (He.ga K C)) "__format__") (some (some (.builtin "object.__format__"))) && (decide (mroIn K (He.ga K C) (.type "object") = some true) && fSp C "__str__" K)
theorem fmt_ok {K : Frag} {C : PySem.Str} (h : fFmt C K = true) : FmtOf K (He.ga K C) (He.ma K (He.ga K C) "__str__") := by
  obtain ⟨h1, h⟩ := ba' h
  obtain ⟨h2, h3⟩ := ba' h
  exact ⟨He.eqO_ok h1, of_decide_eq_true h2, sp_ok h3⟩
def fNoNe (C : PySem.Str) : Fct := fun K => He.eqO (findIn K (.ref (He.ga K C)) "__ne__") (some (some (.builtin "object.__ne__"))) && decide (mroIn K (He.ga K C) (.type "object") = some true)
theorem noNe_ok {K : Frag} {C : PySem.Str} (h : fNoNe C K = true) : NoNe K (He.ga K C) := by
  obtain ⟨h1, h2⟩ := ba' h
  exact ⟨He.eqO_ok h1, of_decide_eq_true h2⟩
def fNd (C D : PySem.Str) : Fct := fun K => !decide (He.ga K C = He.ga K D)
theorem nd_ok {K : Frag} {C D : PySem.Str} (h : fNd C D K = true) : He.ga K C ≠ He.ga K D := fun e => by
  unfold fNd at h
  rw [decide_eq_true e] at h
  cases h
@[simp] def dNeg : D → Option Rz
  | .int i => some (.im (.int (-i)))
  | _ => none
theorem d_negU {K : Frag} : UnD K (rU fun i => .int (-i)) dNeg := by
  intro G H x v s hx z Q e h
  unfold dNeg at e
  split at e
  · cases e
    rename_i i
    have := hx.int; subst this
    exact ⟨i, rfl, h _ rep_int⟩
  · cases e
section
variable {X : Cx} {E : WX} {k : Nat} {f C : Addr} {fd : FuncData} {ps : List Str} {F : FT} {p pos : Pos} {a b : Expr} {fa fb : EF} {Cs : List Addr}
theorem pb_eqO (R0 : RightOk X.K C Cs) (hs : SpOf X.K C f "__eq__") (Fn : FnG X.prog X.w X.K X.mg X.base (L2.CX X.prog X.w) k f fd ps (spF X.K [false, false] false F)) (hr : RmG (k + 1) X.A) (hb : Binds X.K fd ps []) (hx : Passes (L2.CX X.prog X.w) X (fun _ _ _ => False)) (pa : PR X E a fa) (pb : PR X E b fb)
    (hm : behindInMarks .Eq b = false := by rfl) : PB X E (.Compare a [.Eq] [b] pos) (tstV (eEqO C Cs F id fa fb)) := by
  obtain ⟨ta, pa, sa⟩ := pa.v.ex
  obtain ⟨tb, pb, sb⟩ := pb.v.ex
  exact ⟨_, pt_cmpR (op_eqO hs Fn hr hb hx) pa pb hm, snd_tst (snd_eqO R0 sa sb)⟩
theorem pb_neO (R0 : RightOk X.K C Cs) (hn : NoNe X.K C) (hs : SpOf X.K C f "__eq__") (Fn : FnG X.prog X.w X.K X.mg X.base (L2.CX X.prog X.w) k f fd ps (spF X.K [false, false] false F)) (hr : RmG (k + 1) X.A) (hb : Binds X.K fd ps []) (hx : Passes (L2.CX X.prog X.w) X (fun _ _ _ => False)) (pa : PR X E a fa) (pb : PR X E b fb)
    (hm : behindInMarks .NotEq b = false := by rfl) : PB X E (.Compare a [.NotEq] [b] pos) (tstV (eEqO C Cs F (fun b => !b) fa fb)) := by
  obtain ⟨ta, pa, sa⟩ := pa.v.ex
  obtain ⟨tb, pb, sb⟩ := pb.v.ex
  exact ⟨_, pt_cmpR (op_neO hn hs Fn hr hb hx) pa pb hm, snd_tst (snd_eqO R0 sa sb)⟩
end
theorem passF {X : Cx} : Passes (L2.CX X.prog X.w) X (fun _ _ _ => False) := passes_call pass00 fun _ _ _ _ h => h.elim
end BR
set_option Elab.async false
set_option linter.all false
set_option maxRecDepth 100000
set_option maxHeartbeats 0
namespace LW
open PySem L2 BR
/-- _law_draw -/
noncomputable def B__law_draw (K : PySem.W.Frag) : SF := sSeq (sIf (tstV (eOp2 (dI fun i j => .bl (decide (j < i))) (eOp2 dIx (eVar 0) (eK (.int 0))) (eK (.int 0)))) (sSeq (sDraw 0 2 (eDivmod (hCons (eOp2 dIx (eVar 0) (eK (.int 0))) (hCons (eVar 1) (hNil)))))
    (sRet (eVar 2))) (sNil))
    (sSeq (sSetL 0 (eK (.int 1)) (eOp2 (dIc (fun _ j => 0 < j) fun i j => i % j) (eCB dInt (hCons (eOp2 dAdd (eOp2 dMulI (eOp2 dIx (eVar 0) (eK (.int 1))) (eK (.int 48271))) (eK (.int 12343))) (hNil))) (eK (.int 2147483587))))
    (sRet (eOp2 (dIc (fun _ j => 0 < j) fun i j => i % j) (eCB dInt (hCons (eOp2 (dIc CDiv fun i j => i / j) (eOp2 (dIc (fun _ j => 0 < j) fun i j => i % j) (eCB dInt (hCons (eOp2 dMulI (eOp2 dIx (eVar 0) (eK (.int 1))) (eOp2 dIx (eVar 0) (eK (.int 1)))) (hNil))) (eK (.int 2147483549))) (eK (.int 17))) (hNil))) (eVar 1))))
noncomputable def F__law_draw (K : PySem.W.Frag) : FT := runF [true, false] false 3 (B__law_draw K)
/-- _law_pick -/
noncomputable def B__law_pick (K : PySem.W.Frag) : SF := sRet (eOp2 dIx (eVar 1) (eCall false (F__law_draw K) (mIo (eVar 0) (mSh (eCB dLen (hCons (eVar 1) (hNil))) (mNil)))))
noncomputable def F__law_pick (K : PySem.W.Frag) : FT := runF [true, false] false 2 (B__law_pick K)
/-- _law_loose_codes -/
noncomputable def B__law_loose_codes (K : PySem.W.Frag) : SF := sSeq (sPar [4, 5] (pCons (eLst (aNil)) (pCons (eOp2 dAdd (eK (.int 1)) (eCall false (F__law_draw K) (mIo (eVar 0) (mSh (eVar 2) (mNil))))) (pNil))))
    (sSeq (sFor (itRng1 (aCons (eV (eVar 5)) (aNil))) (gVar 6) (sSeq (sAsg 7 (eLst (aNil)))
    (sSeq (sFor (itRng1 (aCons (eV (eOp2 (dIc CPow fun i j => i * 2 ^ j.toNat) (eK (.int 1)) (eOp2 dIx (eVar 1) (eK (.int 0))))) (aNil))) (gVar 8) (sSeq (sAsg 9 (eM1 dJoin (eK (.str "")) (eLc [10] (itRng1 (aCons (eV (eOp2 dIx (eVar 1) (eK (.int 1)))) (aNil))) (gVar 10) pYes (eCall false (F__law_pick K) (mIo (eVar 0) (mSh (eVar 3) (mNil)))))))
    (sDrop (eAppend 7 (eTup (aCons (eV (eVar 9)) (aCons (eV (eCall false (F__law_draw K) (mIo (eVar 0) (mSh (eVar 5) (mNil))))) (aNil))))))))
    (sDrop (eAppend 4 (eVar 7))))))
    (sRet (eVar 4)))
noncomputable def F__law_loose_codes (K : PySem.W.Frag) : FT := runF [true, false, false, false] false 11 (B__law_loose_codes K)
/-- _law_reached -/
noncomputable def B__law_reached (K : PySem.W.Frag) : SF := sSeq (sPar [1, 2] (pCons (eLst (aCons (eV (eK (.int 0))) (aNil))) (pCons (eK (.int 0)) (pNil))))
    (sSeq (sWhile (tstV (eOp2 (dI fun i j => .bl (decide (i < j))) (eVar 2) (eCB dLen (hCons (eVar 1) (hNil))))) (sSeq (sFor (itSeq (eOp2 dIx (eVar 0) (eOp2 dIx (eVar 1) (eVar 2)))) (gTupF 2 (gsCons (gVar 3) (gsCons (gVar 4) (gsNil)))) (sIf (tstV (eOp2 dNotIn (eVar 4) (eVar 1))) (sDrop (eAppend 1 (eVar 4))) (sNil)))
    (sAsg 2 (eOp2 dAdd (eVar 2) (eK (.int 1))))) 64)
    (sRet (eVar 1)))
noncomputable def F__law_reached (K : PySem.W.Frag) : FT := runF [false] false 5 (B__law_reached K)
/-- _law_kept -/
noncomputable def B__law_kept (K : PySem.W.Frag) : SF := sSeq (sAsg 1 (eCall false (F__law_reached K) (mSh (eVar 0) (mNil))))
    (sRet (eLc [2] (itSeq (eVar 1)) (gVar 2) pYes (eLc [3, 4] (itSeq (eOp2 dIx (eVar 0) (eVar 2))) (gTupF 2 (gsCons (gVar 3) (gsCons (gVar 4) (gsNil)))) pYes (eTup (aCons (eV (eVar 3)) (aCons (eV (eIndex (eVar 1) (eVar 4))) (aNil)))))))
noncomputable def F__law_kept (K : PySem.W.Frag) : FT := runF [false] false 5 (B__law_kept K)
/-- want_rate -/
noncomputable def B_want_rate (K : PySem.W.Frag) : SF := sIf (tNotF (tstV (eCB (dIsi [.ref (He.ga K "Rate")] (insIn [He.ga K "Rate"]) (isIns (He.ga K "Rate"))) (hCons (eVar 0) (hCons (eK (.obj (He.ga K "Rate"))) (hNil)))))) (sNo) (sNil)
noncomputable def F_want_rate (K : PySem.W.Frag) : FT := runF [false] false 1 (B_want_rate K)
/-- is_list -/
noncomputable def B_is_list (K : PySem.W.Frag) : SF := sRet (eCB (dIsi [.type "list", .type "tuple"] plD isSeqD) (hCons (eVar 0) (hCons (eTup (aCons (eV (eK (.ty "list"))) (aCons (eV (eK (.ty "tuple"))) (aNil)))) (hNil))))
noncomputable def F_is_list (K : PySem.W.Frag) : FT := runF [false] false 1 (B_is_list K)
/-- Rate.size -/
noncomputable def B_Rate_size (K : PySem.W.Frag) : SF := sRet (eOp2 (dIc CPow fun i j => i * 2 ^ j.toNat) (eK (.int 1)) (eFld (He.ga K "Rate") "rate_bits" (eVar 0)))
noncomputable def F_Rate_size (K : PySem.W.Frag) : FT := runF [false] false 1 (B_Rate_size K)
/-- is_row -/
noncomputable def B_is_row (K : PySem.W.Frag) : SF := sRet (eAnd (eCB (dIsi [.type "str"] plD isStrD) (hCons (eVar 0) (hCons (eK (.ty "str")) (hNil)))) (eCB dAll (hCons (eLc [1] (itStr (eVar 0)) (gVar 1) pYes (eOp2 dIn (eVar 1) (eK (.str "abcd")))) (hNil))))
noncomputable def F_is_row (K : PySem.W.Frag) : FT := runF [false] false 2 (B_is_row K)
/-- Rate.q -/
noncomputable def B_Rate_q (K : PySem.W.Frag) : SF := sRet (eFld (He.ga K "Rate") "rate_signs" (eVar 0))
noncomputable def F_Rate_q (K : PySem.W.Frag) : FT := runF [false] false 1 (B_Rate_q K)
/-- is_block_of -/
noncomputable def B_is_block_of (K : PySem.W.Frag) : SF := sRet (eAnd (eCall false (F_is_row K) (mSh (eVar 1) (mNil))) (eOp2 dEq (eCB dLen (hCons (eVar 1) (hNil))) (eProp (He.ga K "Rate") false (F_Rate_q K) (eVar 0))))
noncomputable def F_is_block_of (K : PySem.W.Frag) : FT := runF [false, false] false 2 (B_is_block_of K)
/-- is_integer -/
noncomputable def B_is_integer (K : PySem.W.Frag) : SF := sRet (eAnd (eCB (dIsi [.type "int"] plD isIntD) (hCons (eVar 0) (hCons (eK (.ty "int")) (hNil)))) (eNot (eCB (dIsi [.type "bool"] plD isBoolD) (hCons (eVar 0) (hCons (eK (.ty "bool")) (hNil))))))
noncomputable def F_is_integer (K : PySem.W.Frag) : FT := runF [false] false 1 (B_is_integer K)
/-- is_count -/
noncomputable def B_is_count (K : PySem.W.Frag) : SF := sRet (eAnd (eCall false (F_is_integer K) (mSh (eVar 0) (mNil))) (eOp2 (dI fun i j => .bl (decide (j ≤ i))) (eVar 0) (eK (.int 0))))
noncomputable def F_is_count (K : PySem.W.Frag) : FT := runF [false] false 1 (B_is_count K)
/-- is_entry -/
noncomputable def B_is_entry (K : PySem.W.Frag) : SF := sSeq (sIf (tOrF (tNotF (tstV (eCB (dIsi [.type "tuple"] plD isTupD) (hCons (eVar 2) (hCons (eK (.ty "tuple")) (hNil)))))) (tOrF (tstV (eOp2 dNe (eCB dLen (hCons (eVar 2) (hNil))) (eK (.int 2)))) (tNotF (tstV (eCall false (F_is_block_of K) (mSh (eVar 0) (mSh (eOp2 dIx (eVar 2) (eK (.int 0))) (mNil)))))))) (sRet (eK (.bl false))) (sNil))
    (sRet (eAnd (eCall false (F_is_count K) (mSh (eOp2 dIx (eVar 2) (eK (.int 1))) (mNil))) (eOp2 (dI fun i j => .bl (decide (i < j))) (eOp2 dIx (eVar 2) (eK (.int 1))) (eVar 1))))
noncomputable def F_is_entry (K : PySem.W.Frag) : FT := runF [false, false, false] false 3 (B_is_entry K)
/-- are_entries -/
noncomputable def B_are_entries (K : PySem.W.Frag) : SF := sSeq (sIf (tOrF (tNotF (tstV (eCall false (F_is_list K) (mSh (eVar 2) (mNil))))) (tstV (eOp2 dNe (eCB dLen (hCons (eVar 2) (hNil))) (eProp (He.ga K "Rate") false (F_Rate_size K) (eVar 0))))) (sRet (eK (.bl false))) (sNil))
    (sRet (eCB dAll (hCons (eLc [3] (itSeq (eVar 2)) (gVar 3) pYes (eCall false (F_is_entry K) (mSh (eVar 0) (mSh (eVar 1) (mSh (eVar 3) (mNil)))))) (hNil))))
noncomputable def F_are_entries (K : PySem.W.Frag) : FT := runF [false, false, false] false 4 (B_are_entries K)
/-- want_codes -/
noncomputable def B_want_codes (K : PySem.W.Frag) : SF := sSeq (sIf (tOrF (tNotF (tstV (eCall false (F_is_list K) (mSh (eVar 1) (mNil))))) (tstV (eOp2 dEq (eCB dLen (hCons (eVar 1) (hNil))) (eK (.int 0))))) (sNo) (sNil))
    (sFor (itEnum (aCons (eV (eVar 1)) (aNil))) (gTupF 2 (gsCons (gVar 2) (gsCons (gVar 3) (gsNil)))) (sIf (tNotF (tstV (eCall false (F_are_entries K) (mSh (eVar 0) (mSh (eCB dLen (hCons (eVar 1) (hNil))) (mSh (eVar 3) (mNil))))))) (sNo) (sNil)))
noncomputable def F_want_codes (K : PySem.W.Frag) : FT := runF [false, false] false 4 (B_want_codes K)
/-- states_met -/
noncomputable def B_states_met (K : PySem.W.Frag) : SF := sSeq (sPar [1, 2, 3] (pCons (eLst (aCons (eV (eK (.int 0))) (aNil))) (pCons (eDic1 (.int 0) (.bl true)) (pCons (eK (.int 0)) (pNil)))))
    (sSeq (sWhile (tstV (eOp2 (dI fun i j => .bl (decide (i < j))) (eVar 3) (eCB dLen (hCons (eVar 1) (hNil))))) (sSeq (sFor (itSeq (eOp2 dIx (eVar 0) (eOp2 dIx (eVar 1) (eVar 3)))) (gTupF 2 (gsCons (gVar 4) (gsCons (gVar 5) (gsNil)))) (sIf (tstV (eOp2 dNotIn (eVar 5) (eVar 2))) (sSeq (sPutD 2 (eVar 5) (eK (.bl true)))
    (sDrop (eAppend 1 (eVar 5)))) (sNil)))
    (sAug 3 (fun i j => i + j) (eK (.int 1)))) 64)
    (sRet (eVar 1)))
noncomputable def F_states_met (K : PySem.W.Frag) : FT := runF [false] false 6 (B_states_met K)
/-- Coder.__init__ -/
noncomputable def B_Coder___init__ (K : PySem.W.Frag) : SF := sSeq (sDrop (eCall false (F_want_rate K) (mSh (eVar 1) (mNil))))
    (sSeq (sDrop (eCall false (F_want_codes K) (mSh (eVar 1) (mSh (eVar 2) (mNil)))))
    (sSeq (sIf (tOrF (tNotF (tstV (eCall false (F_is_row K) (mSh (eVar 3) (mNil))))) (tstV (eOp2 (dI fun i j => .bl (decide (j < i))) (eCB dLen (hCons (eVar 3) (hNil))) (eK (.int 2000))))) (sNo) (sNil))
    (sSeq (sIf (tstV (eOp2 (dI fun i j => .bl (decide (j < i))) (eOp2 dMulI (eCB dLen (hCons (eVar 2) (hNil))) (eProp (He.ga K "Rate") false (F_Rate_size K) (eVar 1))) (eK (.int 2000)))) (sNo) (sNil))
    (sSeq (sAsg 4 (eCall false (F_states_met K) (mSh (eVar 2) (mNil))))
    (sSeq (sAsg 5 (eDc [6, 7] (itEnum (aCons (eV (eVar 4)) (aNil))) (gTupF 2 (gsCons (gVar 6) (gsCons (gVar 7) (gsNil)))) (eVar 7) (eVar 6)))
    (sSeq (sFldS (He.ga K "Coder") 0 "own_rate" (eVar 1))
    (sSeq (sFldS (He.ga K "Coder") 0 "own_lead" (eVar 3))
    (sFldS (He.ga K "Coder") 0 "own_codes" (eLc [7] (itSeq (eVar 4)) (gVar 7) pYes (eLc [8, 9] (itSeq (eOp2 dIx (eVar 2) (eVar 7))) (gTupF 2 (gsCons (gVar 8) (gsCons (gVar 9) (gsNil)))) pYes (eTup (aCons (eV (eVar 8)) (aCons (eV (eOp2 dIx (eVar 5) (eVar 9))) (aNil))))))))))))))
noncomputable def F_Coder___init__ (K : PySem.W.Frag) : FT := runF [true, false, false, false] false 10 (B_Coder___init__ K)
/-- Rate.__init__ -/
noncomputable def B_Rate___init__ (K : PySem.W.Frag) : SF := sSeq (sFor (itTup (eTup (aCons (eV (eVar 1)) (aCons (eV (eVar 2)) (aNil))))) (gVar 3) (sIf (tOrF (tNotF (tstV (eCall false (F_is_integer K) (mSh (eVar 3) (mNil))))) (tNotF (tstV (eChain (fun i j => decide (i ≤ j)) (fun i j => decide (i ≤ j)) (eK (.int 1)) (eVar 3) (eK (.int 6)))))) (sNo) (sNil)))
    (sSeq (sFldS (He.ga K "Rate") 0 "rate_bits" (eVar 1))
    (sFldS (He.ga K "Rate") 0 "rate_signs" (eVar 2)))
noncomputable def F_Rate___init__ (K : PySem.W.Frag) : FT := runF [true, false, false] false 4 (B_Rate___init__ K)
/-- _law_made -/
noncomputable def B__law_made (K : PySem.W.Frag) : SF := sRet (eMake (He.ga K "Coder") (F_Coder___init__ K) [] (aCons (eV (eMake (He.ga K "Rate") (F_Rate___init__ K) [] (aCons (eV (eOp2 dIx (eVar 0) (eK (.int 0)))) (aCons (eV (eOp2 dIx (eVar 0) (eK (.int 1)))) (aNil))))) (aCons (eV (eVar 1)) (aCons (eV (eVar 2)) (aNil)))))
noncomputable def F__law_made (K : PySem.W.Frag) : FT := runF [false, false, false] false 3 (B__law_made K)
/-- Coder.__len__ -/
noncomputable def B_Coder___len__ (K : PySem.W.Frag) : SF := sRet (eCB dLen (hCons (eFld (He.ga K "Coder") "own_codes" (eVar 0)) (hNil)))
noncomputable def F_Coder___len__ (K : PySem.W.Frag) : FT := runF [false] false 1 (B_Coder___len__ K)
/-- Coder.codes -/
noncomputable def B_Coder_codes (K : PySem.W.Frag) : SF := sRet (eLc [1] (itSeq (eFld (He.ga K "Coder") "own_codes" (eVar 0))) (gVar 1) pYes (eCB dList (hCons (eVar 1) (hNil))))
noncomputable def F_Coder_codes (K : PySem.W.Frag) : FT := runF [false] false 2 (B_Coder_codes K)
/-- Coder.lead -/
noncomputable def B_Coder_lead (K : PySem.W.Frag) : SF := sRet (eFld (He.ga K "Coder") "own_lead" (eVar 0))
noncomputable def F_Coder_lead (K : PySem.W.Frag) : FT := runF [false] false 1 (B_Coder_lead K)
/-- Coder.rate -/
noncomputable def B_Coder_rate (K : PySem.W.Frag) : SF := sRet (eFld (He.ga K "Coder") "own_rate" (eVar 0))
noncomputable def F_Coder_rate (K : PySem.W.Frag) : FT := runF [false] false 1 (B_Coder_rate K)
/-- Rate.__str__ -/
noncomputable def B_Rate___str__ (K : PySem.W.Frag) : SF := sRet (eJoin (jCons (eFv (eFld (He.ga K "Rate") "rate_bits" (eVar 0))) (jCons (eK (.str ":")) (jCons (eFv (eFld (He.ga K "Rate") "rate_signs" (eVar 0))) (jNil)))))
noncomputable def F_Rate___str__ (K : PySem.W.Frag) : FT := runF [false] false 1 (B_Rate___str__ K)
/-- _law_told -/
noncomputable def B__law_told (K : PySem.W.Frag) : SF := sRet (eLst (aCons (eV (eSpO (He.ga K "Rate") (F_Rate___str__ K) poStr (eProp (He.ga K "Coder") false (F_Coder_rate K) (eVar 0)))) (aCons (eV (eProp (He.ga K "Coder") false (F_Coder_lead K) (eVar 0))) (aCons (eV (eMeth (He.ga K "Coder") "codes" false (F_Coder_codes K) [] (eVar 0) aNil)) (aCons (eV (eSpO (He.ga K "Coder") (F_Coder___len__ K) poLen (eVar 0))) (aNil))))))
noncomputable def F__law_told (K : PySem.W.Frag) : FT := runF [false] false 1 (B__law_told K)
/-- _law_wider -/
noncomputable def B__law_wider (K : PySem.W.Frag) : SF := sSeq (sPar [3, 4] (pCons (eOp2 dAdd (eK (.int 1)) (eCall false (F__law_draw K) (mIo (eVar 0) (mSh (eK (.int 3)) (mNil))))) (pCons (eLc [5] (itSeq (eVar 2)) (gVar 5) pYes (eCB dList (hCons (eVar 5) (hNil)))) (pNil))))
    (sSeq (sFor (itRng1 (aCons (eV (eVar 3)) (aNil))) (gVar 6) (sSeq (sAsg 5 (eLc [7] (itRng1 (aCons (eV (eOp2 (dIc CPow fun i j => i * 2 ^ j.toNat) (eK (.int 1)) (eOp2 dIx (eVar 1) (eK (.int 0))))) (aNil))) (gVar 7) pYes (eTup (aCons (eV (eOp2 dStrMul (eK (.str "c")) (eOp2 dIx (eVar 1) (eK (.int 1))))) (aCons (eV (eCall false (F__law_draw K) (mIo (eVar 0) (mSh (eOp2 dAdd (eCB dLen (hCons (eVar 2) (hNil))) (eVar 3)) (mNil))))) (aNil))))))
    (sDrop (eAppend 4 (eVar 5)))))
    (sRet (eVar 4)))
noncomputable def F__law_wider (K : PySem.W.Frag) : FT := runF [true, false, false] false 8 (B__law_wider K)
/-- Rate.__eq__ -/
noncomputable def B_Rate___eq__ (K : PySem.W.Frag) : SF := sSeq (sIf (tNotF (tstV (eCB (dIsi [.ref (He.ga K "Rate")] (insIn [He.ga K "Rate"]) (isIns (He.ga K "Rate"))) (hCons (eVar 1) (hCons (eK (.obj (He.ga K "Rate"))) (hNil)))))) (sRet (eK (.bl false))) (sNil))
    (sRet (eAnd (eOp2 dEq (eFld (He.ga K "Rate") "rate_bits" (eVar 0)) (eFld (He.ga K "Rate") "rate_bits" (eVar 1))) (eOp2 dEq (eFld (He.ga K "Rate") "rate_signs" (eVar 0)) (eFld (He.ga K "Rate") "rate_signs" (eVar 1)))))
noncomputable def F_Rate___eq__ (K : PySem.W.Frag) : FT := runF [false, false] false 2 (B_Rate___eq__ K)
/-- Coder.__eq__ -/
noncomputable def B_Coder___eq__ (K : PySem.W.Frag) : SF := sSeq (sIf (tOrF (tNotF (tstV (eCB (dIsi [.ref (He.ga K "Coder")] (insIn [He.ga K "Coder", He.ga K "Rate"]) (isIns (He.ga K "Coder"))) (hCons (eVar 1) (hCons (eK (.obj (He.ga K "Coder"))) (hNil)))))) (tstV (eOp2 dNe (eFld (He.ga K "Coder") "own_lead" (eVar 0)) (eFld (He.ga K "Coder") "own_lead" (eVar 1))))) (sRet (eK (.bl false))) (sNil))
    (sRet (eAnd (eEqO (He.ga K "Rate") [He.ga K "Rate"] (F_Rate___eq__ K) id (eFld (He.ga K "Coder") "own_rate" (eVar 0)) (eFld (He.ga K "Coder") "own_rate" (eVar 1))) (eOp2 dEq (eFld (He.ga K "Coder") "own_codes" (eVar 0)) (eFld (He.ga K "Coder") "own_codes" (eVar 1)))))
noncomputable def F_Coder___eq__ (K : PySem.W.Frag) : FT := runF [false, false] false 2 (B_Coder___eq__ K)
/-- _law_mixed -/
noncomputable def B__law_mixed (K : PySem.W.Frag) : SF := sSeq (sPar [2, 3] (pCons (eCB dList (hCons (eVar 1) (hNil))) (pCons (eLst (aNil)) (pNil))))
    (sSeq (sFor (itRng1 (aCons (eV (eCB dLen (hCons (eVar 2) (hNil)))) (aNil))) (gVar 4) (sDrop (eAppend 3 (ePopAt 2 (eCall false (F__law_draw K) (mIo (eVar 0) (mSh (eCB dLen (hCons (eVar 2) (hNil))) (mNil))))))))
    (sRet (eVar 3)))
noncomputable def F__law_mixed (K : PySem.W.Frag) : FT := runF [true, false] false 5 (B__law_mixed K)
/-- _law_turned -/
noncomputable def B__law_turned (K : PySem.W.Frag) : SF := sSeq (sAsg 2 (eOp2 dAdd (eLst (aCons (eV (eK (.int 0))) (aNil))) (eCall false (F__law_mixed K) (mIo (eVar 0) (mSh (eLstR2 (eK (.int 1)) (eCB dLen (hCons (eVar 1) (hNil)))) (mNil))))))
    (sRet (eLc [3] (itSeq (eVar 2)) (gVar 3) pYes (eLc [4, 5] (itSeq (eOp2 dIx (eVar 1) (eVar 3))) (gTupF 2 (gsCons (gVar 4) (gsCons (gVar 5) (gsNil)))) pYes (eTup (aCons (eV (eVar 4)) (aCons (eV (eIndex (eVar 2) (eVar 5))) (aNil)))))))
noncomputable def F__law_turned (K : PySem.W.Frag) : FT := runF [true, false] false 6 (B__law_turned K)
/-- _law_words -/
noncomputable def B__law_words (K : PySem.W.Frag) : SF := sRet (eLc [3] (itRng1 (aCons (eV (eVar 2)) (aNil))) (gVar 3) pYes (eCall false (F__law_draw K) (mIo (eVar 0) (mSh (eOp2 (dIc CPow fun i j => i * 2 ^ j.toNat) (eK (.int 1)) (eOp2 dIx (eVar 1) (eK (.int 0)))) (mNil)))))
noncomputable def F__law_words (K : PySem.W.Frag) : FT := runF [true, false, false] false 4 (B__law_words K)
/-- is_word_of -/
noncomputable def B_is_word_of (K : PySem.W.Frag) : SF := sRet (eAnd (eCall false (F_is_count K) (mSh (eVar 1) (mNil))) (eOp2 (dI fun i j => .bl (decide (i < j))) (eVar 1) (eProp (He.ga K "Rate") false (F_Rate_size K) (eVar 0))))
noncomputable def F_is_word_of (K : PySem.W.Frag) : FT := runF [false, false] false 2 (B_is_word_of K)
/-- want_text -/
noncomputable def B_want_text (K : PySem.W.Frag) : SF := sSeq (sIf (tOrF (tNotF (tstV (eCall false (F_is_list K) (mSh (eVar 1) (mNil))))) (tstV (eOp2 (dI fun i j => .bl (decide (j < i))) (eCB dLen (hCons (eVar 1) (hNil))) (eK (.int 200))))) (sNo) (sNil))
    (sFor (itEnum (aCons (eV (eVar 1)) (aNil))) (gTupF 2 (gsCons (gVar 2) (gsCons (gVar 3) (gsNil)))) (sIf (tNotF (tstV (eCall false (F_is_word_of K) (mSh (eVar 0) (mSh (eVar 3) (mNil)))))) (sNo) (sNil)))
noncomputable def F_want_text (K : PySem.W.Frag) : FT := runF [false, false] false 4 (B_want_text K)
/-- entries_along -/
noncomputable def B_entries_along (K : PySem.W.Frag) : SF := sSeq (sPar [3, 4] (pCons (eLst (aNil)) (pCons (eVar 1) (pNil))))
    (sSeq (sFor (itSeq (eVar 2)) (gVar 5) (sSeq (sDrop (eAppend 3 (eOp2 dIx (eOp2 dIx (eFld (He.ga K "Coder") "own_codes" (eVar 0)) (eVar 4)) (eVar 5))))
    (sAsg 4 (eOp2 dIx (eOp2 dIx (eVar 3) (eOp1 dNeg (eK (.int 1)))) (eK (.int 1))))))
    (sRet (eVar 3)))
noncomputable def F_entries_along (K : PySem.W.Frag) : FT := runF [false, false, false] false 6 (B_entries_along K)
/-- blocks_of -/
noncomputable def B_blocks_of (K : PySem.W.Frag) : SF := sRet (eLc [3, 4] (itSeq (eCall false (F_entries_along K) (mSh (eVar 0) (mSh (eVar 1) (mSh (eVar 2) (mNil)))))) (gTupF 2 (gsCons (gVar 3) (gsCons (gVar 4) (gsNil)))) pYes (eVar 3))
noncomputable def F_blocks_of (K : PySem.W.Frag) : FT := runF [false, false, false] false 5 (B_blocks_of K)
/-- row_of -/
noncomputable def B_row_of (K : PySem.W.Frag) : SF := sRet (eOp2 dAdd (eFld (He.ga K "Coder") "own_lead" (eVar 0)) (eM1 dJoin (eK (.str "")) (eCall false (F_blocks_of K) (mSh (eVar 0) (mSh (eK (.int 0)) (mSh (eVar 1) (mNil)))))))
noncomputable def F_row_of (K : PySem.W.Frag) : FT := runF [false, false] false 2 (B_row_of K)
/-- Coder.__call__ -/
noncomputable def B_Coder___call__ (K : PySem.W.Frag) : SF := sSeq (sDrop (eCall false (F_want_text K) (mSh (eFld (He.ga K "Coder") "own_rate" (eVar 0)) (mSh (eVar 1) (mNil)))))
    (sRet (eCall false (F_row_of K) (mSh (eVar 0) (mSh (eVar 1) (mNil)))))
noncomputable def F_Coder___call__ (K : PySem.W.Frag) : FT := runF [false, false] false 2 (B_Coder___call__ K)
/-- Coder.want_state -/
noncomputable def B_Coder_want_state (K : PySem.W.Frag) : SF := sIf (tOrF (tNotF (tstV (eCall false (F_is_count K) (mSh (eVar 1) (mNil))))) (tstV (eOp2 (dI fun i j => .bl (decide (j ≤ i))) (eVar 1) (eCB dLen (hCons (eFld (He.ga K "Coder") "own_codes" (eVar 0)) (hNil)))))) (sNo) (sNil)
noncomputable def F_Coder_want_state (K : PySem.W.Frag) : FT := runF [false, false] false 2 (B_Coder_want_state K)
/-- end_of -/
noncomputable def B_end_of (K : PySem.W.Frag) : SF := sSeq (sAsg 3 (eCall false (F_entries_along K) (mSh (eVar 0) (mSh (eVar 1) (mSh (eVar 2) (mNil))))))
    (sRet (eIf (tstV (eOp2 dNe (eVar 3) (eLst (aNil)))) (eOp2 dIx (eOp2 dIx (eVar 3) (eOp1 dNeg (eK (.int 1)))) (eK (.int 1))) (eVar 1)))
noncomputable def F_end_of (K : PySem.W.Frag) : FT := runF [false, false, false] false 4 (B_end_of K)
/-- Coder.end -/
noncomputable def B_Coder_end (K : PySem.W.Frag) : SF := sSeq (sDrop (eCall false (F_want_text K) (mSh (eFld (He.ga K "Coder") "own_rate" (eVar 0)) (mSh (eVar 1) (mNil)))))
    (sSeq (sDrop (eMeth (He.ga K "Coder") "want_state" false (F_Coder_want_state K) [] (eVar 0) (aCons (eV (eVar 2)) (aNil))))
    (sRet (eCall false (F_end_of K) (mSh (eVar 0) (mSh (eVar 2) (mSh (eVar 1) (mNil)))))))
noncomputable def F_Coder_end (K : PySem.W.Frag) : FT := runF [false, false, false] false 3 (B_Coder_end K)
/-- _law_beside_right -/
noncomputable def B__law_beside_right (K : PySem.W.Frag) : SF := sSeq (sAsg 4 (eOp2 dEq (eCall false (F__law_told K) (mSh (eVar 1) (mNil))) (eCall false (F__law_told K) (mSh (eVar 2) (mNil)))))
    (sSeq (sIf (tstV (eOp2 dNe (eCB dRepr (hCons (eLst (aCons (eV (eEqO (He.ga K "Coder") [He.ga K "Coder", He.ga K "Rate"] (F_Coder___eq__ K) id (eVar 1) (eVar 2))) (aCons (eV (eEqO (He.ga K "Coder") [He.ga K "Coder", He.ga K "Rate"] (F_Coder___eq__ K) id (eVar 2) (eVar 1))) (aCons (eV (eEqO (He.ga K "Coder") [He.ga K "Coder", He.ga K "Rate"] (F_Coder___eq__ K) (fun b => !b) (eVar 1) (eVar 2))) (aCons (eV (eEqO (He.ga K "Coder") [He.ga K "Coder", He.ga K "Rate"] (F_Coder___eq__ K) (fun b => !b) (eVar 2) (eVar 1))) (aNil)))))) (hNil))) (eCB dRepr (hCons (eLst (aCons (eV (eVar 4)) (aCons (eV (eVar 4)) (aCons (eV (eNot (eVar 4))) (aCons (eV (eNot (eVar 4))) (aNil)))))) (hNil))))) (sRet (eK (.bl false))) (sNil))
    (sSeq (sAsg 5 (eCall false (F__law_words K) (mIo (eVar 0) (mSh (eVar 3) (mSh (eK (.int 5)) (mNil))))))
    (sRet (eOr (eNot (eVar 4)) (eAnd (eOp2 dEq (eCallO 1 (He.ga K "Coder") false (F_Coder___call__ K) (aCons (eV (eVar 5)) (aNil))) (eCallO 2 (He.ga K "Coder") false (F_Coder___call__ K) (aCons (eV (eVar 5)) (aNil)))) (eOp2 dEq (eMeth (He.ga K "Coder") "end" false (F_Coder_end K) [.int 0] (eVar 1) (aCons (eV (eVar 5)) (aNil))) (eMeth (He.ga K "Coder") "end" false (F_Coder_end K) [.int 0] (eVar 2) (aCons (eV (eVar 5)) (aNil)))))))))
noncomputable def F__law_beside_right (K : PySem.W.Frag) : FT := runF [true, false, false, false] false 6 (B__law_beside_right K)
/-- _law_doubled -/
noncomputable def B__law_doubled (K : PySem.W.Frag) : SF := sSeq (sAsg 2 (eLst (aNil)))
    (sSeq (sFor (itRng1 (aCons (eV (eK (.int 2))) (aNil))) (gVar 3) (sFor (itSeq (eVar 1)) (gVar 4) (sDrop (eAppend 2 (eLc [5, 6] (itSeq (eVar 4)) (gTupF 2 (gsCons (gVar 5) (gsCons (gVar 6) (gsNil)))) pYes (eTup (aCons (eV (eVar 5)) (aCons (eV (eOp2 dAdd (eVar 6) (eOp2 dMulI (eCB dLen (hCons (eVar 1) (hNil))) (eCall false (F__law_draw K) (mIo (eVar 0) (mSh (eK (.int 2)) (mNil))))))) (aNil)))))))))
    (sRet (eVar 2)))
noncomputable def F__law_doubled (K : PySem.W.Frag) : FT := runF [true, false] false 7 (B__law_doubled K)
/-- _law_other -/
noncomputable def B__law_other (K : PySem.W.Frag) : SF := sSeq (sAsg 2 (eLcT [3] (itSeq (eVar 1)) (gVar 3) pYes (eCB dList (hCons (eVar 3) (hNil)))))
    (sSeq (sAsg 4 (eCall false (F__law_draw K) (mIo (eVar 0) (mSh (eCBq qLen (eVar 2)) (mNil)))))
    (sSeq (sAsg 5 (eCall false (F__law_draw K) (mIo (eVar 0) (mSh (eCBq qLen (eIxT (eVar 2) (eVar 4))) (mNil)))))
    (sSeq (sAsgT (gTupF 2 (gsCons (gVar 6) (gsCons (gVar 7) (gsNil)))) (eIxT (eIxT (eVar 2) (eVar 4)) (eVar 5)))
    (sSeq (sIf (tstV (eOp2 dEq (eCall false (F__law_draw K) (mIo (eVar 0) (mSh (eK (.int 2)) (mNil)))) (eK (.int 0)))) (sSetT (eIxT (eVar 2) (eVar 4)) (eVar 5) (eTup (aCons (eV (eVar 6)) (aCons (eV (eOp2 (dIc (fun _ j => 0 < j) fun i j => i % j) (eOp2 dAdd (eVar 7) (eK (.int 1))) (eCBq qLen (eVar 2)))) (aNil))))) (sSeq (sAsg 8 (eCall false (F__law_draw K) (mIo (eVar 0) (mSh (eCB dLen (hCons (eVar 6) (hNil))) (mNil)))))
    (sSetT (eIxT (eVar 2) (eVar 4)) (eVar 5) (eTup (aCons (eV (eOp2 dAdd (eOp2 dAdd (eSl (eVar 6) (oNone) (oSome (eVar 8))) (eCall false (F__law_pick K) (mIo (eVar 0) (mSh (eK (.str "abcd")) (mNil))))) (eSl (eVar 6) (oSome (eOp2 dAdd (eVar 8) (eK (.int 1)))) (oNone)))) (aCons (eV (eVar 7)) (aNil)))))))
    (sRet (eVar 2))))))
noncomputable def F__law_other (K : PySem.W.Frag) : FT := runF [true, false] false 9 (B__law_other K)
/-- Coder.__repr__ -/
noncomputable def B_Coder___repr__ (K : PySem.W.Frag) : SF := sRet (eJoin (jCons (eK (.str "Coder(")) (jCons (eSpO (He.ga K "Rate") (F_Rate___str__ K) poStr (eFld (He.ga K "Coder") "own_rate" (eVar 0))) (jCons (eK (.str ", ")) (jCons (eFv (eCB dLen (hCons (eFld (He.ga K "Coder") "own_codes" (eVar 0)) (hNil)))) (jCons (eK (.str ")")) (jNil)))))))
noncomputable def F_Coder___repr__ (K : PySem.W.Frag) : FT := runF [false] false 1 (B_Coder___repr__ K)
/-- _law_right -/
noncomputable def B__law_right (K : PySem.W.Frag) : SF := sSeq (sAsg 1 (eTup (aCons (eV (eOp2 dAdd (eK (.int 1)) (eCall false (F__law_draw K) (mIo (eVar 0) (mSh (eK (.int 2)) (mNil)))))) (aCons (eV (eOp2 dAdd (eK (.int 1)) (eCall false (F__law_draw K) (mIo (eVar 0) (mSh (eK (.int 3)) (mNil)))))) (aNil)))))
    (sSeq (sPar [2, 3] (pCons (eCall false (F__law_loose_codes K) (mIo (eVar 0) (mSh (eVar 1) (mSh (eK (.int 5)) (mSh (eK (.str "abcd")) (mNil)))))) (pCons (eCall false (F__law_pick K) (mIo (eVar 0) (mSh (eLst (aCons (eV (eK (.str ""))) (aCons (eV (eK (.str "a"))) (aCons (eV (eK (.str "dab"))) (aNil))))) (mNil)))) (pNil))))
    (sSeq (sPar [4, 5] (pCons (eCall false (F__law_made K) (mSh (eVar 1) (mSh (eVar 2) (mSh (eVar 3) (mNil))))) (pCons (eCall false (F__law_kept K) (mSh (eVar 2) (mNil))) (pNil))))
    (sSeq (sAsg 6 (eCB dRepr (hCons (eCall false (F__law_told K) (mSh (eVar 4) (mNil))) (hNil))))
    (sSeq (sIf (tstV (eOp2 dNe (eVar 6) (eCB dRepr (hCons (eLst (aCons (eV (eOp2 dAdd (eOp2 dAdd (eCB dStrI (hCons (eOp2 dIx (eVar 1) (eK (.int 0))) (hNil))) (eK (.str ":"))) (eCB dStrI (hCons (eOp2 dIx (eVar 1) (eK (.int 1))) (hNil))))) (aCons (eV (eVar 3)) (aCons (eV (eVar 5)) (aCons (eV (eCB dLen (hCons (eVar 5) (hNil)))) (aNil)))))) (hNil))))) (sRet (eK (.bl false))) (sNil))
    (sSeq (sAsg 7 (eCall false (F__law_wider K) (mIo (eVar 0) (mSh (eVar 1) (mSh (eVar 2) (mNil))))))
    (sSeq (sFor (itSeq (eLst (aCons (eV (eCall false (F__law_turned K) (mIo (eVar 0) (mSh (eVar 2) (mNil))))) (aCons (eV (eVar 7)) (aCons (eV (eCall false (F__law_turned K) (mIo (eVar 0) (mSh (eVar 7) (mNil))))) (aNil)))))) (gVar 8) (sSeq (sAsg 9 (eCall false (F__law_made K) (mSh (eVar 1) (mSh (eVar 8) (mSh (eVar 3) (mNil))))))
    (sIf (tOrF (tstV (eOp2 dNe (eCB dRepr (hCons (eCall false (F__law_told K) (mSh (eVar 9) (mNil))) (hNil))) (eVar 6))) (tOrF (tNotF (tstV (eEqO (He.ga K "Coder") [He.ga K "Coder", He.ga K "Rate"] (F_Coder___eq__ K) id (eVar 4) (eVar 9)))) (tstV (eEqO (He.ga K "Coder") [He.ga K "Coder", He.ga K "Rate"] (F_Coder___eq__ K) (fun b => !b) (eVar 4) (eVar 9))))) (sRet (eK (.bl false))) (sNil))))
    (sSeq (sIf (tOrF (tNotF (tstV (eEqO (He.ga K "Coder") [He.ga K "Coder", He.ga K "Rate"] (F_Coder___eq__ K) id (eVar 4) (eCall false (F__law_made K) (mSh (eVar 1) (mSh (eVar 5) (mSh (eVar 3) (mNil)))))))) (tNotF (tstV (eEqO (He.ga K "Coder") [He.ga K "Coder", He.ga K "Rate"] (F_Coder___eq__ K) id (eVar 4) (eCall false (F__law_made K) (mSh (eVar 1) (mSh (eMeth (He.ga K "Coder") "codes" false (F_Coder_codes K) [] (eVar 4) aNil) (mSh (eProp (He.ga K "Coder") false (F_Coder_lead K) (eVar 4)) (mNil))))))))) (sRet (eK (.bl false))) (sNil))
    (sSeq (sFor (itSeq (eLst (aCons (eV (eCall false (F__law_other K) (mIo (eVar 0) (mSh (eVar 2) (mNil))))) (aCons (eV (eCall false (F__law_other K) (mIo (eVar 0) (mSh (eVar 2) (mNil))))) (aCons (eV (eCall false (F__law_doubled K) (mIo (eVar 0) (mSh (eVar 2) (mNil))))) (aNil)))))) (gVar 8) (sSeq (sAsg 10 (eCall false (F__law_made K) (mSh (eVar 1) (mSh (eVar 8) (mSh (eVar 3) (mNil))))))
    (sIf (tOrF (tstV (eOp2 dNe (eMeth (He.ga K "Coder") "codes" false (F_Coder_codes K) [] (eVar 10) aNil) (eCall false (F__law_kept K) (mSh (eVar 8) (mNil))))) (tNotF (tstV (eCall false (F__law_beside_right K) (mIo (eVar 0) (mSh (eVar 4) (mSh (eVar 10) (mSh (eVar 1) (mNil))))))))) (sRet (eK (.bl false))) (sNil))))
    (sSeq (sIf (tNotF (tstV (eCall false (F__law_beside_right K) (mIo (eVar 0) (mSh (eVar 4) (mSh (eCall false (F__law_made K) (mSh (eVar 1) (mSh (eVar 2) (mSh (eOp2 dAdd (eVar 3) (eK (.str "a"))) (mNil))))) (mSh (eVar 1) (mNil)))))))) (sRet (eK (.bl false))) (sNil))
    (sSeq (sAsg 11 (eLc [12] (itSeq (eVar 2)) (gVar 12) pYes (eLc [13, 14] (itSeq (eVar 12)) (gTupF 2 (gsCons (gVar 13) (gsCons (gVar 14) (gsNil)))) pYes (eTup (aCons (eV (eOp2 dAdd (eVar 13) (eK (.str "a")))) (aCons (eV (eVar 14)) (aNil)))))))
    (sSeq (sIf (tstV (eEqO (He.ga K "Coder") [He.ga K "Coder", He.ga K "Rate"] (F_Coder___eq__ K) id (eVar 4) (eMake (He.ga K "Coder") (F_Coder___init__ K) [] (aCons (eV (eMake (He.ga K "Rate") (F_Rate___init__ K) [] (aCons (eV (eOp2 dIx (eVar 1) (eK (.int 0)))) (aCons (eV (eOp2 dAdd (eOp2 dIx (eVar 1) (eK (.int 1))) (eK (.int 1)))) (aNil))))) (aCons (eV (eVar 11)) (aCons (eV (eVar 3)) (aNil))))))) (sRet (eK (.bl false))) (sNil))
    (sSeq (sIf (tstV (eCB dAny (hCons (eLc [15] (itSeq (eLst (aCons (eV (eK .non)) (aCons (eV (eK (.int 0))) (aCons (eV (eK (.str ""))) (aCons (eV (eVar 3)) (aCons (eV (eVar 5)) (aCons (eV (eMeth (He.ga K "Coder") "codes" false (F_Coder_codes K) [] (eVar 4) aNil)) (aCons (eV (eTup (aCons (eV (eVar 1)) (aCons (eV (eVar 5)) (aNil))))) (aCons (eV (eProp (He.ga K "Coder") false (F_Coder_rate K) (eVar 4))) (aCons (eV (eSpO (He.ga K "Coder") (F_Coder___repr__ K) poStr (eVar 4))) (aNil)))))))))))) (gVar 15) pYes (eEqO (He.ga K "Coder") [He.ga K "Coder", He.ga K "Rate"] (F_Coder___eq__ K) id (eVar 4) (eVar 15))) (hNil)))) (sRet (eK (.bl false))) (sNil))
    (sRet (eOp2 dEq (eCB dRepr (hCons (eCall false (F__law_told K) (mSh (eVar 4) (mNil))) (hNil))) (eVar 6)))))))))))))))
noncomputable def F__law_right (K : PySem.W.Frag) : FT := runF [true] false 16 (B__law_right K)
/-- _law_pot -/
noncomputable def B__law_pot (K : PySem.W.Frag) : SF := sSeq (sAsg 2 (eOp2 dAdd (eOp2 dMulI (eK (.int 31)) (eVar 1)) (eK (.int 17))))
    (sSeq (sIf (tstV (eOp2 (dI fun i j => .bl (decide (i < j))) (eVar 1) (eCB dLen (hCons (eVar 0) (hNil))))) (sAsg 2 (eCB dAbs (hCons (eOp2 dIx (eVar 0) (eVar 1)) (hNil)))) (sNil))
    (sRet (eLst (aCons (eV (eCB dMax (hCons (eK (.int 0)) (hCons (eOp2 (dI fun i j => .int (i - j)) (eVar 2) (eOp2 (dIc CPow fun i j => i ^ j.toNat) (eK (.int 10)) (eK (.int 18)))) (hNil))))) (aCons (eV (eOp2 dAdd (eOp2 (dIc (fun _ j => 0 < j) fun i j => i % j) (eOp2 dMulI (eCB dInt (hCons (eOp2 dAdd (eOp2 (dIc (fun _ j => 0 < j) fun i j => i % j) (eCB dInt (hCons (eVar 2) (hNil))) (eK (.int 2147483549))) (eK (.int 5))) (hNil))) (eOp2 (dIc CPow fun i j => i ^ j.toNat) (eOp2 dAdd (eOp2 dMulI (eK (.int 2)) (eVar 1)) (eK (.int 3))) (eK (.int 3)))) (eK (.int 2147483477))) (eK (.int 1)))) (aNil))))))
noncomputable def F__law_pot (K : PySem.W.Frag) : FT := runF [false, false] true 3 (B__law_pot K)
/-- law -/
noncomputable def B_law (K : PySem.W.Frag) : SF := sRet (eCB dAll (hCons (eLc [1] (itRng1 (aCons (eV (eCB dMax (hCons (eK (.int 1)) (hCons (eCB dMin (hCons (eK (.int 4)) (hCons (eCB dLen (hCons (eVar 0) (hNil))) (hNil)))) (hNil))))) (aNil))) (gVar 1) pYes (eCall false (F__law_right K) (mIo (eCall true (F__law_pot K) (mSh (eVar 0) (mSh (eVar 1) (mNil)))) (mNil)))) (hNil)))
noncomputable def F_law (K : PySem.W.Frag) : FT := runF [false] false 2 (B_law K)
def top (i : Nat) : Stmt := PySem.Challenge.pw_barredrows_k52_whole_equal_coders.main.body.getD i (.Pass ⟨0, 0, 0, 0⟩)
structure M (K : PySem.W.Frag) (mg : Str → Option Value) where
  fd__law_draw : FuncData
  F__law_draw : FunD K "_law_draw" "_law_draw" (defArgs (top 40)) (defBody (top 40)) (defScope (top 40)) [] [] (He.ga K "_law_draw") fd__law_draw
  fd__law_pick : FuncData
  F__law_pick : FunD K "_law_pick" "_law_pick" (defArgs (top 41)) (defBody (top 41)) (defScope (top 41)) [] [] (He.ga K "_law_pick") fd__law_pick
  fd__law_loose_codes : FuncData
  F__law_loose_codes : FunD K "_law_loose_codes" "_law_loose_codes" (defArgs (top 46)) (defBody (top 46)) (defScope (top 46)) [] [] (He.ga K "_law_loose_codes") fd__law_loose_codes
  fd__law_reached : FuncData
  F__law_reached : FunD K "_law_reached" "_law_reached" (defArgs (top 43)) (defBody (top 43)) (defScope (top 43)) [] [] (He.ga K "_law_reached") fd__law_reached
  fd__law_kept : FuncData
  F__law_kept : FunD K "_law_kept" "_law_kept" (defArgs (top 44)) (defBody (top 44)) (defScope (top 44)) [] [] (He.ga K "_law_kept") fd__law_kept
  fd_want_rate : FuncData
  F_want_rate : FunD K "want_rate" "want_rate" (defArgs (top 22)) (defBody (top 22)) (defScope (top 22)) [] [] (He.ga K "want_rate") fd_want_rate
  fd_is_list : FuncData
  F_is_list : FunD K "is_list" "is_list" (defArgs (top 16)) (defBody (top 16)) (defScope (top 16)) [] [] (He.ga K "is_list") fd_is_list
  fd_Rate_size : FuncData
  F_Rate_size : FunD K "size" "Rate.size" (defArgs (inClass (top 21) 3)) (defBody (inClass (top 21) 3)) (defScope (inClass (top 21) 3)) [] [] (He5.wf K (He.ga K "Rate") "property" "size") fd_Rate_size
  fd_is_row : FuncData
  F_is_row : FunD K "is_row" "is_row" (defArgs (top 17)) (defBody (top 17)) (defScope (top 17)) [] [] (He.ga K "is_row") fd_is_row
  fd_Rate_q : FuncData
  F_Rate_q : FunD K "q" "Rate.q" (defArgs (inClass (top 21) 2)) (defBody (inClass (top 21) 2)) (defScope (inClass (top 21) 2)) [] [] (He5.wf K (He.ga K "Rate") "property" "q") fd_Rate_q
  fd_is_block_of : FuncData
  F_is_block_of : FunD K "is_block_of" "is_block_of" (defArgs (top 27)) (defBody (top 27)) (defScope (top 27)) [] [] (He.ga K "is_block_of") fd_is_block_of
  fd_is_integer : FuncData
  F_is_integer : FunD K "is_integer" "is_integer" (defArgs (top 14)) (defBody (top 14)) (defScope (top 14)) [] [] (He.ga K "is_integer") fd_is_integer
  fd_is_count : FuncData
  F_is_count : FunD K "is_count" "is_count" (defArgs (top 15)) (defBody (top 15)) (defScope (top 15)) [] [] (He.ga K "is_count") fd_is_count
  fd_is_entry : FuncData
  F_is_entry : FunD K "is_entry" "is_entry" (defArgs (top 29)) (defBody (top 29)) (defScope (top 29)) [] [] (He.ga K "is_entry") fd_is_entry
  fd_are_entries : FuncData
  F_are_entries : FunD K "are_entries" "are_entries" (defArgs (top 30)) (defBody (top 30)) (defScope (top 30)) [] [] (He.ga K "are_entries") fd_are_entries
  fd_want_codes : FuncData
  F_want_codes : FunD K "want_codes" "want_codes" (defArgs (top 31)) (defBody (top 31)) (defScope (top 31)) [] [] (He.ga K "want_codes") fd_want_codes
  fd_states_met : FuncData
  F_states_met : FunD K "states_met" "states_met" (defArgs (top 32)) (defBody (top 32)) (defScope (top 32)) [] [] (He.ga K "states_met") fd_states_met
  fd_Coder___init__ : FuncData
  F_Coder___init__ : FunD K "__init__" "Coder.__init__" (defArgs (inClass (top 37) 1)) (defBody (inClass (top 37) 1)) (defScope (inClass (top 37) 1)) [.str ""] [] (He.ma K (He.ga K "Coder") "__init__") fd_Coder___init__
  fd_Rate___init__ : FuncData
  F_Rate___init__ : FunD K "__init__" "Rate.__init__" (defArgs (inClass (top 21) 0)) (defBody (inClass (top 21) 0)) (defScope (inClass (top 21) 0)) [] [] (He.ma K (He.ga K "Rate") "__init__") fd_Rate___init__
  fd__law_made : FuncData
  F__law_made : FunD K "_law_made" "_law_made" (defArgs (top 48)) (defBody (top 48)) (defScope (top 48)) [] [] (He.ga K "_law_made") fd__law_made
  fd_Coder___len__ : FuncData
  F_Coder___len__ : FunD K "__len__" "Coder.__len__" (defArgs (inClass (top 37) 12)) (defBody (inClass (top 37) 12)) (defScope (inClass (top 37) 12)) [] [] (He.ma K (He.ga K "Coder") "__len__") fd_Coder___len__
  fd_Coder_codes : FuncData
  F_Coder_codes : FunD K "codes" "Coder.codes" (defArgs (inClass (top 37) 5)) (defBody (inClass (top 37) 5)) (defScope (inClass (top 37) 5)) [] [] (He.ma K (He.ga K "Coder") "codes") fd_Coder_codes
  fd_Coder_lead : FuncData
  F_Coder_lead : FunD K "lead" "Coder.lead" (defArgs (inClass (top 37) 3)) (defBody (inClass (top 37) 3)) (defScope (inClass (top 37) 3)) [] [] (He5.wf K (He.ga K "Coder") "property" "lead") fd_Coder_lead
  fd_Coder_rate : FuncData
  F_Coder_rate : FunD K "rate" "Coder.rate" (defArgs (inClass (top 37) 2)) (defBody (inClass (top 37) 2)) (defScope (inClass (top 37) 2)) [] [] (He5.wf K (He.ga K "Coder") "property" "rate") fd_Coder_rate
  fd_Rate___str__ : FuncData
  F_Rate___str__ : FunD K "__str__" "Rate.__str__" (defArgs (inClass (top 21) 8)) (defBody (inClass (top 21) 8)) (defScope (inClass (top 21) 8)) [] [] (He.ma K (He.ga K "Rate") "__str__") fd_Rate___str__
  fd__law_told : FuncData
  F__law_told : FunD K "_law_told" "_law_told" (defArgs (top 49)) (defBody (top 49)) (defScope (top 49)) [] [] (He.ga K "_law_told") fd__law_told
  fd__law_wider : FuncData
  F__law_wider : FunD K "_law_wider" "_law_wider" (defArgs (top 51)) (defBody (top 51)) (defScope (top 51)) [] [] (He.ga K "_law_wider") fd__law_wider
  fd_Rate___eq__ : FuncData
  F_Rate___eq__ : FunD K "__eq__" "Rate.__eq__" (defArgs (inClass (top 21) 7)) (defBody (inClass (top 21) 7)) (defScope (inClass (top 21) 7)) [] [] (He.ma K (He.ga K "Rate") "__eq__") fd_Rate___eq__
  fd_Coder___eq__ : FuncData
  F_Coder___eq__ : FunD K "__eq__" "Coder.__eq__" (defArgs (inClass (top 37) 13)) (defBody (inClass (top 37) 13)) (defScope (inClass (top 37) 13)) [] [] (He.ma K (He.ga K "Coder") "__eq__") fd_Coder___eq__
  fd__law_mixed : FuncData
  F__law_mixed : FunD K "_law_mixed" "_law_mixed" (defArgs (top 42)) (defBody (top 42)) (defScope (top 42)) [] [] (He.ga K "_law_mixed") fd__law_mixed
  fd__law_turned : FuncData
  F__law_turned : FunD K "_law_turned" "_law_turned" (defArgs (top 50)) (defBody (top 50)) (defScope (top 50)) [] [] (He.ga K "_law_turned") fd__law_turned
  fd__law_words : FuncData
  F__law_words : FunD K "_law_words" "_law_words" (defArgs (top 47)) (defBody (top 47)) (defScope (top 47)) [] [] (He.ga K "_law_words") fd__law_words
  fd_is_word_of : FuncData
  F_is_word_of : FunD K "is_word_of" "is_word_of" (defArgs (top 26)) (defBody (top 26)) (defScope (top 26)) [] [] (He.ga K "is_word_of") fd_is_word_of
  fd_want_text : FuncData
  F_want_text : FunD K "want_text" "want_text" (defArgs (top 28)) (defBody (top 28)) (defScope (top 28)) [] [] (He.ga K "want_text") fd_want_text
  fd_entries_along : FuncData
  F_entries_along : FunD K "entries_along" "entries_along" (defArgs (top 33)) (defBody (top 33)) (defScope (top 33)) [] [] (He.ga K "entries_along") fd_entries_along
  fd_blocks_of : FuncData
  F_blocks_of : FunD K "blocks_of" "blocks_of" (defArgs (top 35)) (defBody (top 35)) (defScope (top 35)) [] [] (He.ga K "blocks_of") fd_blocks_of
  fd_row_of : FuncData
  F_row_of : FunD K "row_of" "row_of" (defArgs (top 36)) (defBody (top 36)) (defScope (top 36)) [] [] (He.ga K "row_of") fd_row_of
  fd_Coder___call__ : FuncData
  F_Coder___call__ : FunD K "__call__" "Coder.__call__" (defArgs (inClass (top 37) 9)) (defBody (inClass (top 37) 9)) (defScope (inClass (top 37) 9)) [] [] (He.ma K (He.ga K "Coder") "__call__") fd_Coder___call__
  fd_Coder_want_state : FuncData
  F_Coder_want_state : FunD K "want_state" "Coder.want_state" (defArgs (inClass (top 37) 4)) (defBody (inClass (top 37) 4)) (defScope (inClass (top 37) 4)) [] [] (He.ma K (He.ga K "Coder") "want_state") fd_Coder_want_state
  fd_end_of : FuncData
  F_end_of : FunD K "end_of" "end_of" (defArgs (top 34)) (defBody (top 34)) (defScope (top 34)) [] [] (He.ga K "end_of") fd_end_of
  fd_Coder_end : FuncData
  F_Coder_end : FunD K "end" "Coder.end" (defArgs (inClass (top 37) 6)) (defBody (inClass (top 37) 6)) (defScope (inClass (top 37) 6)) [.int 0] [] (He.ma K (He.ga K "Coder") "end") fd_Coder_end
  fd__law_beside_right : FuncData
  F__law_beside_right : FunD K "_law_beside_right" "_law_beside_right" (defArgs (top 54)) (defBody (top 54)) (defScope (top 54)) [] [] (He.ga K "_law_beside_right") fd__law_beside_right
  fd__law_doubled : FuncData
  F__law_doubled : FunD K "_law_doubled" "_law_doubled" (defArgs (top 52)) (defBody (top 52)) (defScope (top 52)) [] [] (He.ga K "_law_doubled") fd__law_doubled
  fd__law_other : FuncData
  F__law_other : FunD K "_law_other" "_law_other" (defArgs (top 53)) (defBody (top 53)) (defScope (top 53)) [] [] (He.ga K "_law_other") fd__law_other
  fd_Coder___repr__ : FuncData
  F_Coder___repr__ : FunD K "__repr__" "Coder.__repr__" (defArgs (inClass (top 37) 14)) (defBody (inClass (top 37) 14)) (defScope (inClass (top 37) 14)) [] [] (He.ma K (He.ga K "Coder") "__repr__") fd_Coder___repr__
  fd__law_right : FuncData
  F__law_right : FunD K "_law_right" "_law_right" (defArgs (top 55)) (defBody (top 55)) (defScope (top 55)) [] [] (He.ga K "_law_right") fd__law_right
  fd__law_pot : FuncData
  F__law_pot : FunD K "_law_pot" "_law_pot" (defArgs (top 39)) (defBody (top 39)) (defScope (top 39)) [] [] (He.ga K "_law_pot") fd__law_pot
  fd_law : FuncData
  F_law : FunD K "law" "law" (defArgs (top 56)) (defBody (top 56)) (defScope (top 56)) [] [] (He.ga K "law") fd_law
  g__law_right : mg "_law_right" = some (.ref (He.ga K "_law_right"))
  g__law_draw : mg "_law_draw" = some (.ref (He.ga K "_law_draw"))
  g__law_pick : mg "_law_pick" = some (.ref (He.ga K "_law_pick"))
  g__law_loose_codes : mg "_law_loose_codes" = some (.ref (He.ga K "_law_loose_codes"))
  g__law_kept : mg "_law_kept" = some (.ref (He.ga K "_law_kept"))
  g__law_reached : mg "_law_reached" = some (.ref (He.ga K "_law_reached"))
  g__law_made : mg "_law_made" = some (.ref (He.ga K "_law_made"))
  g_want_rate : mg "want_rate" = some (.ref (He.ga K "want_rate"))
  g_Rate : mg "Rate" = some (.ref (He.ga K "Rate"))
  g_want_codes : mg "want_codes" = some (.ref (He.ga K "want_codes"))
  g_is_list : mg "is_list" = some (.ref (He.ga K "is_list"))
  g_are_entries : mg "are_entries" = some (.ref (He.ga K "are_entries"))
  g_is_entry : mg "is_entry" = some (.ref (He.ga K "is_entry"))
  g_is_block_of : mg "is_block_of" = some (.ref (He.ga K "is_block_of"))
  g_is_row : mg "is_row" = some (.ref (He.ga K "is_row"))
  g_is_count : mg "is_count" = some (.ref (He.ga K "is_count"))
  g_is_integer : mg "is_integer" = some (.ref (He.ga K "is_integer"))
  g_Coder : mg "Coder" = some (.ref (He.ga K "Coder"))
  g_states_met : mg "states_met" = some (.ref (He.ga K "states_met"))
  g__law_told : mg "_law_told" = some (.ref (He.ga K "_law_told"))
  g__law_wider : mg "_law_wider" = some (.ref (He.ga K "_law_wider"))
  g__law_turned : mg "_law_turned" = some (.ref (He.ga K "_law_turned"))
  g__law_mixed : mg "_law_mixed" = some (.ref (He.ga K "_law_mixed"))
  g__law_beside_right : mg "_law_beside_right" = some (.ref (He.ga K "_law_beside_right"))
  g__law_words : mg "_law_words" = some (.ref (He.ga K "_law_words"))
  g_want_text : mg "want_text" = some (.ref (He.ga K "want_text"))
  g_is_word_of : mg "is_word_of" = some (.ref (He.ga K "is_word_of"))
  g_row_of : mg "row_of" = some (.ref (He.ga K "row_of"))
  g_blocks_of : mg "blocks_of" = some (.ref (He.ga K "blocks_of"))
  g_entries_along : mg "entries_along" = some (.ref (He.ga K "entries_along"))
  g_end_of : mg "end_of" = some (.ref (He.ga K "end_of"))
  g__law_doubled : mg "_law_doubled" = some (.ref (He.ga K "_law_doubled"))
  g__law_other : mg "_law_other" = some (.ref (He.ga K "_law_other"))
  g__law_pot : mg "_law_pot" = some (.ref (He.ga K "_law_pot"))
  g_law : mg "law" = some (.ref (He.ga K "law"))
  f_all : mg "all" = none
  f_range : mg "range" = none
  f_max : mg "max" = none
  f_min : mg "min" = none
  f_len : mg "len" = none
  f_divmod : mg "divmod" = none
  f_int : mg "int" = none
  f_isinstance : mg "isinstance" = none
  f_tuple : mg "tuple" = none
  f_list : mg "list" = none
  f_str : mg "str" = none
  f_bool : mg "bool" = none
  f_enumerate : mg "enumerate" = none
  f_repr : mg "repr" = none
  f_any : mg "any" = none
  f_abs : mg "abs" = none
  i_MOST_SIGNS : ∃ t, mg "MOST_SIGNS" = some (.int 2000 t)
  i_MOST_PART : ∃ t, mg "MOST_PART" = some (.int 6 t)
  i_MOST_WORDS : ∃ t, mg "MOST_WORDS" = some (.int 200 t)
  s_LETTERS : ∃ t, mg "LETTERS" = some (.str "abcd" t)
  c_Rate : Cls K (He.ga K "Rate")
  c_Coder : Cls K (He.ga K "Coder")
  na_Rate_rate_bits : NoAttr K (He.ga K "Rate") "rate_bits"
  na_Rate_rate_signs : NoAttr K (He.ga K "Rate") "rate_signs"
  na_Coder_own_rate : NoAttr K (He.ga K "Coder") "own_rate"
  na_Coder_own_lead : NoAttr K (He.ga K "Coder") "own_lead"
  na_Coder_own_codes : NoAttr K (He.ga K "Coder") "own_codes"
  me_Coder_codes : Meth K (He.ga K "Coder") "codes" (He.ma K (He.ga K "Coder") "codes")
  me_Coder_want_state : Meth K (He.ga K "Coder") "want_state" (He.ma K (He.ga K "Coder") "want_state")
  me_Coder_end : Meth K (He.ga K "Coder") "end" (He.ma K (He.ga K "Coder") "end")
  mk_Coder : Mk K (He.ga K "Coder") (He.ma K (He.ga K "Coder") "__init__")
  mk_Rate : Mk K (He.ga K "Rate") (He.ma K (He.ga K "Rate") "__init__")
  pr_Rate_size : PropOf K (He.ga K "Rate") "size" (He.ma K (He.ga K "Rate") "size") (He5.wf K (He.ga K "Rate") "property" "size")
  pr_Rate_q : PropOf K (He.ga K "Rate") "q" (He.ma K (He.ga K "Rate") "q") (He5.wf K (He.ga K "Rate") "property" "q")
  pr_Coder_lead : PropOf K (He.ga K "Coder") "lead" (He.ma K (He.ga K "Coder") "lead") (He5.wf K (He.ga K "Coder") "property" "lead")
  pr_Coder_rate : PropOf K (He.ga K "Coder") "rate" (He.ma K (He.ga K "Coder") "rate") (He5.wf K (He.ga K "Coder") "property" "rate")
  cr_Coder : ClX.CRead K (He.ga K "Coder") (.type "type")
  ig_Rate : IsG K (He.ga K "Rate") [He.ga K "Rate"]
  ig_Coder : IsG K (He.ga K "Coder") [He.ga K "Coder", He.ga K "Rate"]
  ri_Rate : RightOk K (He.ga K "Rate") [He.ga K "Rate"]
  ri_Coder : RightOk K (He.ga K "Coder") [He.ga K "Coder", He.ga K "Rate"]
  sp_Coder___len__ : SpOf K (He.ga K "Coder") (He.ma K (He.ga K "Coder") "__len__") "__len__"
  sp_Rate___str__ : SpOf K (He.ga K "Rate") (He.ma K (He.ga K "Rate") "__str__") "__str__"
  sp_Rate___eq__ : SpOf K (He.ga K "Rate") (He.ma K (He.ga K "Rate") "__eq__") "__eq__"
  sp_Coder___eq__ : SpOf K (He.ga K "Coder") (He.ma K (He.ga K "Coder") "__eq__") "__eq__"
  sp_Coder___call__ : SpOf K (He.ga K "Coder") (He.ma K (He.ga K "Coder") "__call__") "__call__"
  sp_Coder___repr__ : SpOf K (He.ga K "Coder") (He.ma K (He.ga K "Coder") "__repr__") "__repr__"
  fi_Coder___call__ : PySem.W.fnIn K (He.ma K (He.ga K "Coder") "__call__") = true
  fm_Rate : FmtOf K (He.ga K "Rate") (He.ma K (He.ga K "Rate") "__str__")
  nn_Coder : NoNe K (He.ga K "Coder")
  nd_Rate_Coder : He.ga K "Rate" ≠ He.ga K "Coder"
  cv_Coder_MOST_ENTRIES : ∃ u, ClX.CVal K (He.ga K "Coder") (.type "type") "MOST_ENTRIES" (.int 2000) u
end LW
set_option Elab.async false
set_option linter.all false
set_option maxRecDepth 100000
set_option maxHeartbeats 0
namespace LW
open PySem L2 BR
def d__law_draw : He5.DefA := ⟨fun K => He.ga K "_law_draw", "_law_draw", "_law_draw", defArgs (top 40), defBody (top 40), defScope (top 40), [], []⟩
def d__law_pick : He5.DefA := ⟨fun K => He.ga K "_law_pick", "_law_pick", "_law_pick", defArgs (top 41), defBody (top 41), defScope (top 41), [], []⟩
def d__law_loose_codes : He5.DefA := ⟨fun K => He.ga K "_law_loose_codes", "_law_loose_codes", "_law_loose_codes", defArgs (top 46), defBody (top 46), defScope (top 46), [], []⟩
def d__law_reached : He5.DefA := ⟨fun K => He.ga K "_law_reached", "_law_reached", "_law_reached", defArgs (top 43), defBody (top 43), defScope (top 43), [], []⟩
def d__law_kept : He5.DefA := ⟨fun K => He.ga K "_law_kept", "_law_kept", "_law_kept", defArgs (top 44), defBody (top 44), defScope (top 44), [], []⟩
def d_want_rate : He5.DefA := ⟨fun K => He.ga K "want_rate", "want_rate", "want_rate", defArgs (top 22), defBody (top 22), defScope (top 22), [], []⟩
def d_is_list : He5.DefA := ⟨fun K => He.ga K "is_list", "is_list", "is_list", defArgs (top 16), defBody (top 16), defScope (top 16), [], []⟩
def d_Rate_size : He5.DefA := ⟨fun K => He5.wf K (He.ga K "Rate") "property" "size", "size", "Rate.size", defArgs (inClass (top 21) 3), defBody (inClass (top 21) 3), defScope (inClass (top 21) 3), [], []⟩
def d_is_row : He5.DefA := ⟨fun K => He.ga K "is_row", "is_row", "is_row", defArgs (top 17), defBody (top 17), defScope (top 17), [], []⟩
def d_Rate_q : He5.DefA := ⟨fun K => He5.wf K (He.ga K "Rate") "property" "q", "q", "Rate.q", defArgs (inClass (top 21) 2), defBody (inClass (top 21) 2), defScope (inClass (top 21) 2), [], []⟩
def d_is_block_of : He5.DefA := ⟨fun K => He.ga K "is_block_of", "is_block_of", "is_block_of", defArgs (top 27), defBody (top 27), defScope (top 27), [], []⟩
def d_is_integer : He5.DefA := ⟨fun K => He.ga K "is_integer", "is_integer", "is_integer", defArgs (top 14), defBody (top 14), defScope (top 14), [], []⟩
def d_is_count : He5.DefA := ⟨fun K => He.ga K "is_count", "is_count", "is_count", defArgs (top 15), defBody (top 15), defScope (top 15), [], []⟩
def d_is_entry : He5.DefA := ⟨fun K => He.ga K "is_entry", "is_entry", "is_entry", defArgs (top 29), defBody (top 29), defScope (top 29), [], []⟩
def d_are_entries : He5.DefA := ⟨fun K => He.ga K "are_entries", "are_entries", "are_entries", defArgs (top 30), defBody (top 30), defScope (top 30), [], []⟩
def d_want_codes : He5.DefA := ⟨fun K => He.ga K "want_codes", "want_codes", "want_codes", defArgs (top 31), defBody (top 31), defScope (top 31), [], []⟩
def d_states_met : He5.DefA := ⟨fun K => He.ga K "states_met", "states_met", "states_met", defArgs (top 32), defBody (top 32), defScope (top 32), [], []⟩
def d_Coder___init__ : He5.DefA := ⟨fun K => He.ma K (He.ga K "Coder") "__init__", "__init__", "Coder.__init__", defArgs (inClass (top 37) 1), defBody (inClass (top 37) 1), defScope (inClass (top 37) 1), [.str ""], []⟩
def d_Rate___init__ : He5.DefA := ⟨fun K => He.ma K (He.ga K "Rate") "__init__", "__init__", "Rate.__init__", defArgs (inClass (top 21) 0), defBody (inClass (top 21) 0), defScope (inClass (top 21) 0), [], []⟩
def d__law_made : He5.DefA := ⟨fun K => He.ga K "_law_made", "_law_made", "_law_made", defArgs (top 48), defBody (top 48), defScope (top 48), [], []⟩
def d_Coder___len__ : He5.DefA := ⟨fun K => He.ma K (He.ga K "Coder") "__len__", "__len__", "Coder.__len__", defArgs (inClass (top 37) 12), defBody (inClass (top 37) 12), defScope (inClass (top 37) 12), [], []⟩
def d_Coder_codes : He5.DefA := ⟨fun K => He.ma K (He.ga K "Coder") "codes", "codes", "Coder.codes", defArgs (inClass (top 37) 5), defBody (inClass (top 37) 5), defScope (inClass (top 37) 5), [], []⟩
def d_Coder_lead : He5.DefA := ⟨fun K => He5.wf K (He.ga K "Coder") "property" "lead", "lead", "Coder.lead", defArgs (inClass (top 37) 3), defBody (inClass (top 37) 3), defScope (inClass (top 37) 3), [], []⟩
def d_Coder_rate : He5.DefA := ⟨fun K => He5.wf K (He.ga K "Coder") "property" "rate", "rate", "Coder.rate", defArgs (inClass (top 37) 2), defBody (inClass (top 37) 2), defScope (inClass (top 37) 2), [], []⟩
def d_Rate___str__ : He5.DefA := ⟨fun K => He.ma K (He.ga K "Rate") "__str__", "__str__", "Rate.__str__", defArgs (inClass (top 21) 8), defBody (inClass (top 21) 8), defScope (inClass (top 21) 8), [], []⟩
def d__law_told : He5.DefA := ⟨fun K => He.ga K "_law_told", "_law_told", "_law_told", defArgs (top 49), defBody (top 49), defScope (top 49), [], []⟩
def d__law_wider : He5.DefA := ⟨fun K => He.ga K "_law_wider", "_law_wider", "_law_wider", defArgs (top 51), defBody (top 51), defScope (top 51), [], []⟩
def d_Rate___eq__ : He5.DefA := ⟨fun K => He.ma K (He.ga K "Rate") "__eq__", "__eq__", "Rate.__eq__", defArgs (inClass (top 21) 7), defBody (inClass (top 21) 7), defScope (inClass (top 21) 7), [], []⟩
def d_Coder___eq__ : He5.DefA := ⟨fun K => He.ma K (He.ga K "Coder") "__eq__", "__eq__", "Coder.__eq__", defArgs (inClass (top 37) 13), defBody (inClass (top 37) 13), defScope (inClass (top 37) 13), [], []⟩
def d__law_mixed : He5.DefA := ⟨fun K => He.ga K "_law_mixed", "_law_mixed", "_law_mixed", defArgs (top 42), defBody (top 42), defScope (top 42), [], []⟩
def d__law_turned : He5.DefA := ⟨fun K => He.ga K "_law_turned", "_law_turned", "_law_turned", defArgs (top 50), defBody (top 50), defScope (top 50), [], []⟩
def d__law_words : He5.DefA := ⟨fun K => He.ga K "_law_words", "_law_words", "_law_words", defArgs (top 47), defBody (top 47), defScope (top 47), [], []⟩
def d_is_word_of : He5.DefA := ⟨fun K => He.ga K "is_word_of", "is_word_of", "is_word_of", defArgs (top 26), defBody (top 26), defScope (top 26), [], []⟩
def d_want_text : He5.DefA := ⟨fun K => He.ga K "want_text", "want_text", "want_text", defArgs (top 28), defBody (top 28), defScope (top 28), [], []⟩
def d_entries_along : He5.DefA := ⟨fun K => He.ga K "entries_along", "entries_along", "entries_along", defArgs (top 33), defBody (top 33), defScope (top 33), [], []⟩
def d_blocks_of : He5.DefA := ⟨fun K => He.ga K "blocks_of", "blocks_of", "blocks_of", defArgs (top 35), defBody (top 35), defScope (top 35), [], []⟩
def d_row_of : He5.DefA := ⟨fun K => He.ga K "row_of", "row_of", "row_of", defArgs (top 36), defBody (top 36), defScope (top 36), [], []⟩
def d_Coder___call__ : He5.DefA := ⟨fun K => He.ma K (He.ga K "Coder") "__call__", "__call__", "Coder.__call__", defArgs (inClass (top 37) 9), defBody (inClass (top 37) 9), defScope (inClass (top 37) 9), [], []⟩
def d_Coder_want_state : He5.DefA := ⟨fun K => He.ma K (He.ga K "Coder") "want_state", "want_state", "Coder.want_state", defArgs (inClass (top 37) 4), defBody (inClass (top 37) 4), defScope (inClass (top 37) 4), [], []⟩
def d_end_of : He5.DefA := ⟨fun K => He.ga K "end_of", "end_of", "end_of", defArgs (top 34), defBody (top 34), defScope (top 34), [], []⟩
def d_Coder_end : He5.DefA := ⟨fun K => He.ma K (He.ga K "Coder") "end", "end", "Coder.end", defArgs (inClass (top 37) 6), defBody (inClass (top 37) 6), defScope (inClass (top 37) 6), [.int 0], []⟩
def d__law_beside_right : He5.DefA := ⟨fun K => He.ga K "_law_beside_right", "_law_beside_right", "_law_beside_right", defArgs (top 54), defBody (top 54), defScope (top 54), [], []⟩
def d__law_doubled : He5.DefA := ⟨fun K => He.ga K "_law_doubled", "_law_doubled", "_law_doubled", defArgs (top 52), defBody (top 52), defScope (top 52), [], []⟩
def d__law_other : He5.DefA := ⟨fun K => He.ga K "_law_other", "_law_other", "_law_other", defArgs (top 53), defBody (top 53), defScope (top 53), [], []⟩
def d_Coder___repr__ : He5.DefA := ⟨fun K => He.ma K (He.ga K "Coder") "__repr__", "__repr__", "Coder.__repr__", defArgs (inClass (top 37) 14), defBody (inClass (top 37) 14), defScope (inClass (top 37) 14), [], []⟩
def d__law_right : He5.DefA := ⟨fun K => He.ga K "_law_right", "_law_right", "_law_right", defArgs (top 55), defBody (top 55), defScope (top 55), [], []⟩
def d__law_pot : He5.DefA := ⟨fun K => He.ga K "_law_pot", "_law_pot", "_law_pot", defArgs (top 39), defBody (top 39), defScope (top 39), [], []⟩
def d_law : He5.DefA := ⟨fun K => He.ga K "law", "law", "law", defArgs (top 56), defBody (top 56), defScope (top 56), [], []⟩
def fn0 : List He5.DefA := [d__law_draw, d__law_pick, d__law_loose_codes, d__law_reached, d__law_kept, d_want_rate, d_is_list, d_Rate_size, d_is_row, d_Rate_q, d_is_block_of, d_is_integer, d_is_count, d_is_entry, d_are_entries]
def fn1 : List He5.DefA := [d_want_codes, d_states_met, d_Coder___init__, d_Rate___init__, d__law_made, d_Coder___len__, d_Coder_codes, d_Coder_lead, d_Coder_rate, d_Rate___str__, d__law_told, d__law_wider, d_Rate___eq__, d_Coder___eq__, d__law_mixed]
def fn2 : List He5.DefA := [d__law_turned, d__law_words, d_is_word_of, d_want_text, d_entries_along, d_blocks_of, d_row_of, d_Coder___call__, d_Coder_want_state, d_end_of, d_Coder_end, d__law_beside_right, d__law_doubled, d__law_other, d_Coder___repr__]
def fn3 : List He5.DefA := [d__law_right, d__law_pot, d_law]
def fn : List He5.DefA := fn0 ++ fn1 ++ fn2 ++ fn3
def fa0 : List Fct := [fF (.glo "_law_right"), fF (.glo "_law_draw"), fF (.glo "_law_pick"), fF (.glo "_law_loose_codes"), fF (.glo "_law_kept"), fF (.glo "_law_reached"), fF (.glo "_law_made"), fF (.glo "want_rate"), fF (.glo "Rate"), fF (.glo "want_codes"), fF (.glo "is_list"), fF (.glo "are_entries"), fF (.glo "is_entry"), fF (.glo "is_block_of"), fF (.glo "is_row")]
def fa1 : List Fct := [fF (.glo "is_count"), fF (.glo "is_integer"), fF (.glo "Coder"), fF (.glo "states_met"), fF (.glo "_law_told"), fF (.glo "_law_wider"), fF (.glo "_law_turned"), fF (.glo "_law_mixed"), fF (.glo "_law_beside_right"), fF (.glo "_law_words"), fF (.glo "want_text"), fF (.glo "is_word_of"), fF (.glo "row_of"), fF (.glo "blocks_of"), fF (.glo "entries_along")]
def fa2 : List Fct := [fF (.glo "end_of"), fF (.glo "_law_doubled"), fF (.glo "_law_other"), fF (.glo "_law_pot"), fF (.glo "law"), fF (.free "all"), fF (.free "range"), fF (.free "max"), fF (.free "min"), fF (.free "len"), fF (.free "divmod"), fF (.free "int"), fF (.free "isinstance"), fF (.free "tuple"), fF (.free "list")]
def fa3 : List Fct := [fF (.free "str"), fF (.free "bool"), fF (.free "enumerate"), fF (.free "repr"), fF (.free "any"), fF (.free "abs"), fF (.int "MOST_SIGNS" 2000), fF (.int "MOST_PART" 6), fF (.int "MOST_WORDS" 200), fF (.str "LETTERS" "abcd"), fF (.cls "Rate"), fF (.cls "Coder"), fF (.noat "Rate" "rate_bits"), fF (.noat "Rate" "rate_signs"), fF (.noat "Coder" "own_rate")]
def fa4 : List Fct := [fF (.noat "Coder" "own_lead"), fF (.noat "Coder" "own_codes"), fF (.meth "Coder" "codes"), fF (.meth "Coder" "want_state"), fF (.meth "Coder" "end"), fF (.mkr "Coder"), fF (.mkr "Rate"), fProp "Rate" "size", fProp "Rate" "q", fProp "Coder" "lead", fProp "Coder" "rate", fCRead "Coder", fIsG "Rate" ["Rate"], fIsG "Coder" ["Coder", "Rate"], fRight "Rate" ["Rate"]]
def fa5 : List Fct := [fRight "Coder" ["Coder", "Rate"], fSp "Coder" "__len__", fSp "Rate" "__str__", fSp "Rate" "__eq__", fSp "Coder" "__eq__", fSp "Coder" "__call__", fSp "Coder" "__repr__", fFnIn "Coder" "__call__", fFmt "Rate", fNoNe "Coder", fNd "Rate" "Coder", fCVal "Coder" "MOST_ENTRIES" (.int 2000)]
def fa : List Fct := fa0 ++ fa1 ++ fa2 ++ fa3 ++ fa4 ++ fa5
def names0 : List PySem.Str := ["BarredError", "Coder", "DIGITS", "InvalidNumber", "InvalidRate", "InvalidRow", "InvalidState", "InvalidTable", "InvalidText", "InvalidWord", "LETTERS", "LimitError", "MOST_PART", "MOST_SIGNS", "MOST_WORDS"]
def names1 : List PySem.Str := ["Rate", "TooMany", "_law_beside_right", "_law_doubled", "_law_draw", "_law_kept", "_law_loose_codes", "_law_made", "_law_mixed", "_law_other", "_law_pick", "_law_pot", "_law_reached", "_law_right", "_law_told"]
def names2 : List PySem.Str := ["_law_turned", "_law_way", "_law_wider", "_law_words", "_wall", "are_entries", "blocks_of", "end_of", "entries_along", "is_block_of", "is_count", "is_entry", "is_integer", "is_list", "is_row"]
def names3 : List PySem.Str := ["is_word_of", "row_of", "states_met", "want_codes", "want_rate", "want_text"]
def names : List PySem.Str := names0 ++ names1 ++ names2 ++ names3
abbrev hR : PySem.W.OpenRow := PySem.W.OpenLaw.row PySem.Challenge.rw_barredrows_k52_whole_equal_coders
abbrev hk : PySem.W.Hook := hookB 6 fa fn
def ob (s : PySem.W.SharedT) : He.AlD := obsBG 6 fa fn (HandSHeadRun.getT s)
theorem ob_eq (s : PySem.W.SharedT) : ob s = hk.obs s.abs := obsBG_eq (HandSHeadRun.getT_eq s)
theorem hRun (w : World) : HandSHeadRun.RunEq hR (PySem.W.view hR.prog [56]) hk ob 6000 names w := by
  intro os
  kernel_rfl
end LW
set_option Elab.async false
set_option linter.all false
set_option maxRecDepth 100000
set_option maxHeartbeats 0
namespace LW
open PySem L2 BR
set_option maxHeartbeats 400000
section
variable {P : Program} {w : World} {K : PySem.W.Frag} {mg : Str → Option Value} {base : Heap}
abbrev N__law_draw : List Str := ["_law_pot_here", "_law_bound", "_law_digit"]
theorem sc__law_draw : FnScope N__law_draw ["_law_pot_here", "_law_bound"] (defScope (top 40)) := ⟨rfl, rfl, rfl, by decide +kernel, rfl, by decide +kernel, by decide +kernel⟩
theorem ok__law_draw (m : M K mg) : FnG P w K mg base (L2.CX P w) 1 (He.ga K "_law_draw") m.fd__law_draw ["_law_pot_here", "_law_bound"] (spF K [true, false] false (F__law_draw K)) := by
  have h := fn_ok (P := P) (w := w) (mg := mg) (base := base) (k := 0) (ms := [true, false]) (own := false) (b := B__law_draw K) m.F__law_draw sc__law_draw rfl
  refine h fun cdv A outer s H E hr => ?_
  have nd := sc__law_draw.nd
  have hu64 := hr.units
  have hu : (A.deeper (PyProof.Rows.envOfC _ _ s.heap.objs.size _ cdv)).units + 1 < cLine := Nat.lt_of_le_of_lt (Nat.add_le_add_left (by decide) _) hu64
  exact sq_cons (st_if (pb_cmp op_gt d_Ib (pr_ix (ix_B hu) d_ix (pr_var 0) (pr_int) (fun _ _ => rfl)) (pr_int) (nomark _)) (sq_cons (st_draw (i := 0) (j := 2) rfl (by first | exact Or.inl rfl | exact Or.inr (Or.inl rfl) | exact Or.inr (Or.inr rfl)) nd rfl (by first | exact Or.inl rfl | exact Or.inr rfl) rfl (pr_divmod rfl m.f_divmod (hs_cons (pr_ix (ix_B hu) d_ix (pr_var 0) (pr_int) (fun _ _ => rfl)) (hs_cons (pr_var 1) (hs_nil)))))
    (sq_one (st_ret (pr_var 2)))) (sq_nil))
    (sq_cons (st_setL (i := 0) rfl (by first | exact Or.inl rfl | exact Or.inr (Or.inl rfl) | exact Or.inr (Or.inr rfl)) (pr_bin op_mod d_Ic (pr_callTy call_int1 d_int rfl m.f_int (by decide +kernel) (hs_cons (pr_bin op_addB d_add (pr_bin op_mulB d_mul (pr_ix (ix_B hu) d_ix (pr_var 0) (pr_int) (fun _ _ => rfl)) (pr_int)) (pr_int)) (hs_nil))) (pr_int)) (pr_int))
    (sq_one (st_ret (pr_bin op_mod d_Ic (pr_callTy call_int1 d_int rfl m.f_int (by decide +kernel) (hs_cons (pr_bin op_fdiv d_Ic (pr_bin op_mod d_Ic (pr_callTy call_int1 d_int rfl m.f_int (by decide +kernel) (hs_cons (pr_bin op_mulB d_mul (pr_ix (ix_B hu) d_ix (pr_var 0) (pr_int) (fun _ _ => rfl)) (pr_ix (ix_B hu) d_ix (pr_var 0) (pr_int) (fun _ _ => rfl))) (hs_nil))) (pr_int)) (pr_int)) (hs_nil))) (pr_var 1)))))
abbrev N__law_pick : List Str := ["_law_pot_here", "_law_some"]
theorem sc__law_pick : FnScope N__law_pick ["_law_pot_here", "_law_some"] (defScope (top 41)) := ⟨rfl, rfl, rfl, by decide +kernel, rfl, by decide +kernel, by decide +kernel⟩
theorem ok__law_pick (m : M K mg) : FnG P w K mg base (L2.CX P w) 2 (He.ga K "_law_pick") m.fd__law_pick ["_law_pot_here", "_law_some"] (spF K [true, false] false (F__law_pick K)) := by
  have h := fn_ok (P := P) (w := w) (mg := mg) (base := base) (k := 1) (ms := [true, false]) (own := false) (b := B__law_pick K) m.F__law_pick sc__law_pick rfl
  refine h fun cdv A outer s H E hr => ?_
  have nd := sc__law_pick.nd
  have hu64 := hr.units
  have hu : (A.deeper (PyProof.Rows.envOfC _ _ s.heap.objs.size _ cdv)).units + 1 < cLine := Nat.lt_of_le_of_lt (Nat.add_le_add_left (by decide) _) hu64
  exact sq_one (st_ret (pr_ix (ix_B hu) d_ix (pr_var 1) (pr_call (ok__law_draw m) (hr.mono (by decide)) rfl m.g__law_draw m.F__law_draw.kp (m.F__law_draw.bindsN fun _ _ _ _ _ _ us hl => match us, hl with | [_, _], _ => rfl) passD (ms_io (pr_var 0) (ms_sh (pr_callB call_lenK d_lenK rfl m.f_len (by decide +kernel) (hs_cons (pr_var 1) (hs_nil))) (ms_nil)))) (fun _ _ => rfl)))
abbrev N__law_loose_codes : List Str := ["_law_pot_here", "_law_pace", "_law_most", "_law_letters", "_law_found", "_law_size", "_law_spot", "_law_line", "_law_word_now", "_law_piece", "_law_turn"]
theorem sc__law_loose_codes : FnScope N__law_loose_codes ["_law_pot_here", "_law_pace", "_law_most", "_law_letters"] (defScope (top 46)) := ⟨rfl, rfl, rfl, by decide +kernel, rfl, by decide +kernel, by decide +kernel⟩
theorem ok__law_loose_codes (m : M K mg) : FnG P w K mg base (L2.CX P w) 3 (He.ga K "_law_loose_codes") m.fd__law_loose_codes ["_law_pot_here", "_law_pace", "_law_most", "_law_letters"] (spF K [true, false, false, false] false (F__law_loose_codes K)) := by
  have h := fn_ok (P := P) (w := w) (mg := mg) (base := base) (k := 2) (ms := [true, false, false, false]) (own := false) (b := B__law_loose_codes K) m.F__law_loose_codes sc__law_loose_codes rfl
  refine h fun cdv A outer s H E hr => ?_
  have nd := sc__law_loose_codes.nd
  have hu64 := hr.units
  have hu : (A.deeper (PyProof.Rows.envOfC _ _ s.heap.objs.size _ cdv)).units + 1 < cLine := Nat.lt_of_le_of_lt (Nat.add_le_add_left (by decide) _) hu64
  exact sq_cons (st_par (i := 4) (j := 5) rfl nd rfl rfl (by decide) rfl rfl (pp_cons (pr_lst (as_nil)) (pp_cons (pr_bin op_addB d_add (pr_int) (pr_call (ok__law_draw m) (hr.mono (by decide)) rfl m.g__law_draw m.F__law_draw.kp (m.F__law_draw.bindsN fun _ _ _ _ _ _ us hl => match us, hl with | [_, _], _ => rfl) passD (ms_io (pr_var 0) (ms_sh (pr_var 2) (ms_nil))))) (pp_nil))) rfl)
    (sq_cons (st_for ownD rfl (it_range1 rfl m.f_range (as_cons (PR.v (pr_var 5)) (as_nil))) (tg_name (i := 6) nd rfl (by first | exact Or.inl rfl | exact Or.inr rfl)) (sq_cons (st_asg (i := 7) nd rfl (by first | exact Or.inl rfl | exact Or.inr rfl) (pr_lst (as_nil)))
    (sq_cons (st_for ownD rfl (it_range1 rfl m.f_range (as_cons (PR.v (pr_bin op_shl d_Ic (pr_int) (pr_ix (ix_B hu) d_ix (pr_var 1) (pr_int) (fun _ _ => rfl)))) (as_nil))) (tg_name (i := 8) nd rfl (by first | exact Or.inl rfl | exact Or.inr rfl)) (sq_cons (st_asg (i := 9) nd rfl (by first | exact Or.inl rfl | exact Or.inr rfl) (pr_join (pr_str) (pr_lc0 (hs0 := rfl) nd (it_range1 rfl m.f_range (as_cons (PR.v (pr_ix (ix_B hu) d_ix (pr_var 1) (pr_int) (fun _ _ => rfl))) (as_nil))) (blkOk_by (N := N__law_loose_codes) (sc := defScope (top 46)) (own := [("_law_turn", 10)]) (by decide +kernel)) (by decide) (fun _ _ _ _ _ => tg_name (i := 10) nd rfl (by first | exact Or.inl rfl | exact Or.inr rfl)) (fun _ _ _ _ _ => pr_call (ok__law_pick m) (hr.mono (by decide)) rfl m.g__law_pick m.F__law_pick.kp (m.F__law_pick.bindsN fun _ _ _ _ _ _ us hl => match us, hl with | [_, _], _ => rfl) pass00 (ms_io (pr_var 0) (ms_sh (pr_var 3) (ms_nil)))))))
    (sq_one (st_expr (pr_append (i := 7) rfl (by first | exact Or.inl rfl | exact Or.inr (Or.inl rfl) | exact Or.inr (Or.inr rfl)) (pr_tup (as_cons (PR.v (pr_var 9)) (as_cons (PR.v (pr_call (ok__law_draw m) (hr.mono (by decide)) rfl m.g__law_draw m.F__law_draw.kp (m.F__law_draw.bindsN fun _ _ _ _ _ _ us hl => match us, hl with | [_, _], _ => rfl) passD (ms_io (pr_var 0) (ms_sh (pr_var 5) (ms_nil))))) (as_nil)))))))))
    (sq_one (st_expr (pr_append (i := 4) rfl (by first | exact Or.inl rfl | exact Or.inr (Or.inl rfl) | exact Or.inr (Or.inr rfl)) (pr_var 7)))))))
    (sq_one (st_ret (pr_var 4))))
abbrev N__law_reached : List Str := ["_law_chart", "_law_found", "_law_at", "_law_piece", "_law_to"]
theorem sc__law_reached : FnScope N__law_reached ["_law_chart"] (defScope (top 43)) := ⟨rfl, rfl, rfl, by decide +kernel, rfl, by decide +kernel, by decide +kernel⟩
theorem ok__law_reached (m : M K mg) : FnG P w K mg base (L2.CX P w) 1 (He.ga K "_law_reached") m.fd__law_reached ["_law_chart"] (spF K [false] false (F__law_reached K)) := by
  have h := fn_ok (P := P) (w := w) (mg := mg) (base := base) (k := 0) (ms := [false]) (own := false) (b := B__law_reached K) m.F__law_reached sc__law_reached rfl
  refine h fun cdv A outer s H E hr => ?_
  have nd := sc__law_reached.nd
  have hu64 := hr.units
  have hu : (A.deeper (PyProof.Rows.envOfC _ _ s.heap.objs.size _ cdv)).units + 1 < cLine := Nat.lt_of_le_of_lt (Nat.add_le_add_left (by decide) _) hu64
  exact sq_cons (st_par (i := 1) (j := 2) rfl nd rfl rfl (by decide) rfl rfl (pp_cons (pr_lst (as_cons (PR.v (pr_int)) (as_nil))) (pp_cons (pr_int) (pp_nil))) rfl)
    (sq_cons (st_while 64 ownD (pb_cmp op_lt d_Ib (pr_var 2) (pr_callB call_lenK d_lenK rfl m.f_len (by decide +kernel) (hs_cons (pr_var 1) (hs_nil))) (nomark _)) (sq_cons (st_for ownD rfl (it_list (pr_ix (ix_B hu) d_ix (pr_var 0) (pr_ix (ix_B hu) d_ix (pr_var 1) (pr_var 2) (fun _ _ => rfl)) (fun _ _ => rfl))) (tg_tup rfl (tgs_cons (tg_name (i := 3) nd rfl (by first | exact Or.inl rfl | exact Or.inr rfl)) (tgs_cons (tg_name (i := 4) nd rfl (by first | exact Or.inl rfl | exact Or.inr rfl)) (tgs_nil)))) (sq_one (st_if (pb_cmp (op_notInB hu) d_notInB (pr_var 4) (pr_var 1) (by rfl)) (sq_one (st_expr (pr_append (i := 1) rfl (by first | exact Or.inl rfl | exact Or.inr (Or.inl rfl) | exact Or.inr (Or.inr rfl)) (pr_var 4)))) (sq_nil))))
    (sq_one (st_asg (i := 2) nd rfl (by first | exact Or.inl rfl | exact Or.inr rfl) (pr_bin op_addB d_add (pr_var 2) (pr_int))))))
    (sq_one (st_ret (pr_var 1))))
abbrev N__law_kept : List Str := ["_law_chart", "_law_spots", "_law_spot", "_law_piece", "_law_to"]
theorem sc__law_kept : FnScope N__law_kept ["_law_chart"] (defScope (top 44)) := ⟨rfl, rfl, rfl, by decide +kernel, rfl, by decide +kernel, by decide +kernel⟩
theorem ok__law_kept (m : M K mg) : FnG P w K mg base (L2.CX P w) 2 (He.ga K "_law_kept") m.fd__law_kept ["_law_chart"] (spF K [false] false (F__law_kept K)) := by
  have h := fn_ok (P := P) (w := w) (mg := mg) (base := base) (k := 1) (ms := [false]) (own := false) (b := B__law_kept K) m.F__law_kept sc__law_kept rfl
  refine h fun cdv A outer s H E hr => ?_
  have nd := sc__law_kept.nd
  have hu64 := hr.units
  have hu : (A.deeper (PyProof.Rows.envOfC _ _ s.heap.objs.size _ cdv)).units + 1 < cLine := Nat.lt_of_le_of_lt (Nat.add_le_add_left (by decide) _) hu64
  exact sq_cons (st_asg (i := 1) nd rfl (by first | exact Or.inl rfl | exact Or.inr rfl) (pr_call (ok__law_reached m) (hr.mono (by decide)) rfl m.g__law_reached m.F__law_reached.kp (m.F__law_reached.bindsN fun _ _ _ _ _ _ us hl => match us, hl with | [_], _ => rfl) passD (ms_sh (pr_var 0) (ms_nil))))
    (sq_one (st_ret (pr_lc0 (hs0 := rfl) nd (it_list (pr_var 1)) (blkOk_by (N := N__law_kept) (sc := defScope (top 44)) (own := [("_law_spot", 2)]) (by decide +kernel)) (by decide) (fun _ _ _ _ _ => tg_name (i := 2) nd rfl (by first | exact Or.inl rfl | exact Or.inr rfl)) (fun _ _ _ _ _ => pr_lc0 (hs0 := rfl) nd (it_list (pr_ix (ix_B hu) d_ix (pr_var 0) (pr_var 2) (fun _ _ => rfl))) (blkOk_by (own := [("_law_piece", 3), ("_law_to", 4)]) (by kernel_rfl)) (by decide) (fun _ _ _ _ _ => tg_tup rfl (tgs_cons (tg_name (i := 3) nd rfl (by first | exact Or.inl rfl | exact Or.inr rfl)) (tgs_cons (tg_name (i := 4) nd rfl (by first | exact Or.inl rfl | exact Or.inr rfl)) (tgs_nil)))) (fun _ _ _ _ _ => pr_tup (as_cons (PR.v (pr_var 3)) (as_cons (PR.v (pr_index (pr_var 1) (pr_var 4))) (as_nil))))))))
abbrev N_want_rate : List Str := ["value"]
theorem sc_want_rate : FnScope N_want_rate ["value"] (defScope (top 22)) := ⟨rfl, rfl, rfl, by decide +kernel, rfl, by decide +kernel, by decide +kernel⟩
theorem ok_want_rate (m : M K mg) : FnG P w K mg base (L2.CX P w) 1 (He.ga K "want_rate") m.fd_want_rate ["value"] (spF K [false] false (F_want_rate K)) := by
  have h := fn_ok (P := P) (w := w) (mg := mg) (base := base) (k := 0) (ms := [false]) (own := false) (b := B_want_rate K) m.F_want_rate sc_want_rate rfl
  refine h fun cdv A outer s H E hr => ?_
  have nd := sc_want_rate.nd
  have hu64 := hr.units
  have hu : (A.deeper (PyProof.Rows.envOfC _ _ s.heap.objs.size _ cdv)).units + 1 < cLine := Nat.lt_of_le_of_lt (Nat.add_le_add_left (by decide) _) hu64
  exact sq_one (st_if (pb_not (pb_val (pr_callB call_isiB (d_isi (isi_G m.ig_Rate)) rfl m.f_isinstance (by decide +kernel) (hs_cons (pr_var 0) (hs_cons (pr_gobj rfl m.g_Rate) (hs_nil)))))) (sq_one (st_never)) (sq_nil))
abbrev N_is_list : List Str := ["value"]
theorem sc_is_list : FnScope N_is_list ["value"] (defScope (top 16)) := ⟨rfl, rfl, rfl, by decide +kernel, rfl, by decide +kernel, by decide +kernel⟩
theorem ok_is_list (m : M K mg) : FnG P w K mg base (L2.CX P w) 1 (He.ga K "is_list") m.fd_is_list ["value"] (spF K [false] false (F_is_list K)) := by
  have h := fn_ok (P := P) (w := w) (mg := mg) (base := base) (k := 0) (ms := [false]) (own := false) (b := B_is_list K) m.F_is_list sc_is_list rfl
  refine h fun cdv A outer s H E hr => ?_
  have nd := sc_is_list.nd
  have hu64 := hr.units
  have hu : (A.deeper (PyProof.Rows.envOfC _ _ s.heap.objs.size _ cdv)).units + 1 < cLine := Nat.lt_of_le_of_lt (Nat.add_le_add_left (by decide) _) hu64
  exact sq_one (st_ret (pr_callB call_isiB (d_isi isi_seq) rfl m.f_isinstance (by decide +kernel) (hs_cons (pr_var 0) (hs_cons (pr_tup (as_cons (PR.v (pr_type rfl m.f_list (by decide +kernel))) (as_cons (PR.v (pr_type rfl m.f_tuple (by decide +kernel))) (as_nil)))) (hs_nil)))))
abbrev N_Rate_size : List Str := ["self"]
theorem sc_Rate_size : FnScope N_Rate_size ["self"] (defScope (inClass (top 21) 3)) := ⟨rfl, rfl, rfl, by decide +kernel, rfl, by decide +kernel, by decide +kernel⟩
theorem ok_Rate_size (m : M K mg) : FnG P w K mg base (L2.CX P w) 1 (He5.wf K (He.ga K "Rate") "property" "size") m.fd_Rate_size ["self"] (spF K [false] false (F_Rate_size K)) := by
  have h := fn_ok (P := P) (w := w) (mg := mg) (base := base) (k := 0) (ms := [false]) (own := false) (b := B_Rate_size K) m.F_Rate_size sc_Rate_size rfl
  refine h fun cdv A outer s H E hr => ?_
  have nd := sc_Rate_size.nd
  have hu64 := hr.units
  have hu : (A.deeper (PyProof.Rows.envOfC _ _ s.heap.objs.size _ cdv)).units + 1 < cLine := Nat.lt_of_le_of_lt (Nat.add_le_add_left (by decide) _) hu64
  exact sq_one (st_ret (pr_bin op_shl d_Ic (pr_int) (pr_fld m.c_Rate m.na_Rate_rate_bits (pr_var 0))))
abbrev N_is_row : List Str := ["value", "sign"]
theorem sc_is_row : FnScope N_is_row ["value"] (defScope (top 17)) := ⟨rfl, rfl, rfl, by decide +kernel, rfl, by decide +kernel, by decide +kernel⟩
theorem ok_is_row (m : M K mg) : FnG P w K mg base (L2.CX P w) 1 (He.ga K "is_row") m.fd_is_row ["value"] (spF K [false] false (F_is_row K)) := by
  have h := fn_ok (P := P) (w := w) (mg := mg) (base := base) (k := 0) (ms := [false]) (own := false) (b := B_is_row K) m.F_is_row sc_is_row rfl
  refine h fun cdv A outer s H E hr => ?_
  have nd := sc_is_row.nd
  have hu64 := hr.units
  have hu : (A.deeper (PyProof.Rows.envOfC _ _ s.heap.objs.size _ cdv)).units + 1 < cLine := Nat.lt_of_le_of_lt (Nat.add_le_add_left (by decide) _) hu64
  exact sq_one (st_ret (pr_and (pr_callB call_isiB (d_isi isi_str) rfl m.f_isinstance (by decide +kernel) (hs_cons (pr_var 0) (hs_cons (pr_type rfl m.f_str (by decide +kernel)) (hs_nil)))) (pr_one (pr_callB (cr_all rfl) d_all rfl m.f_all (by decide +kernel) (hs_cons (pr_lc0 (hs0 := rfl) nd (it_str (pr_var 0)) (blkOk_by (N := N_is_row) (sc := defScope (top 17)) (own := [("sign", 1)]) (by decide +kernel)) (by decide) (fun _ _ _ _ _ => tg_name (i := 1) nd rfl (by first | exact Or.inl rfl | exact Or.inr rfl)) (fun _ _ _ _ _ => pr_cmp (op_inB hu) d_inB (pr_var 1) (pr_gstr rfl m.s_LETTERS) (by rfl))) (hs_nil))))))
abbrev N_Rate_q : List Str := ["self"]
theorem sc_Rate_q : FnScope N_Rate_q ["self"] (defScope (inClass (top 21) 2)) := ⟨rfl, rfl, rfl, by decide +kernel, rfl, by decide +kernel, by decide +kernel⟩
theorem ok_Rate_q (m : M K mg) : FnG P w K mg base (L2.CX P w) 1 (He5.wf K (He.ga K "Rate") "property" "q") m.fd_Rate_q ["self"] (spF K [false] false (F_Rate_q K)) := by
  have h := fn_ok (P := P) (w := w) (mg := mg) (base := base) (k := 0) (ms := [false]) (own := false) (b := B_Rate_q K) m.F_Rate_q sc_Rate_q rfl
  refine h fun cdv A outer s H E hr => ?_
  have nd := sc_Rate_q.nd
  have hu64 := hr.units
  have hu : (A.deeper (PyProof.Rows.envOfC _ _ s.heap.objs.size _ cdv)).units + 1 < cLine := Nat.lt_of_le_of_lt (Nat.add_le_add_left (by decide) _) hu64
  exact sq_one (st_ret (pr_fld m.c_Rate m.na_Rate_rate_signs (pr_var 0)))
abbrev N_is_block_of : List Str := ["rate", "value"]
theorem sc_is_block_of : FnScope N_is_block_of ["rate", "value"] (defScope (top 27)) := ⟨rfl, rfl, rfl, by decide +kernel, rfl, by decide +kernel, by decide +kernel⟩
theorem ok_is_block_of (m : M K mg) : FnG P w K mg base (L2.CX P w) 3 (He.ga K "is_block_of") m.fd_is_block_of ["rate", "value"] (spF K [false, false] false (F_is_block_of K)) := by
  have h := fn_ok (P := P) (w := w) (mg := mg) (base := base) (k := 2) (ms := [false, false]) (own := false) (b := B_is_block_of K) m.F_is_block_of sc_is_block_of rfl
  refine h fun cdv A outer s H E hr => ?_
  have nd := sc_is_block_of.nd
  have hu64 := hr.units
  have hu : (A.deeper (PyProof.Rows.envOfC _ _ s.heap.objs.size _ cdv)).units + 1 < cLine := Nat.lt_of_le_of_lt (Nat.add_le_add_left (by decide) _) hu64
  exact sq_one (st_ret (pr_and (pr_call (ok_is_row m) (hr.mono (by decide)) rfl m.g_is_row m.F_is_row.kp (m.F_is_row.bindsN fun _ _ _ _ _ _ us hl => match us, hl with | [_], _ => rfl) passD (ms_sh (pr_var 1) (ms_nil))) (pr_one (pr_cmp (op_eqB hu64) d_eq (pr_callB call_lenK d_lenK rfl m.f_len (by decide +kernel) (hs_cons (pr_var 1) (hs_nil))) (pr_prop (pr_var 0) m.c_Rate m.pr_Rate_q (ok_Rate_q m) (hr.mono (by decide)) (m.F_Rate_q.bindsN fun _ _ _ _ _ _ us hl => match us, hl with | [_], _ => rfl) pass00) (nomark _)))))
abbrev N_is_integer : List Str := ["value"]
theorem sc_is_integer : FnScope N_is_integer ["value"] (defScope (top 14)) := ⟨rfl, rfl, rfl, by decide +kernel, rfl, by decide +kernel, by decide +kernel⟩
theorem ok_is_integer (m : M K mg) : FnG P w K mg base (L2.CX P w) 1 (He.ga K "is_integer") m.fd_is_integer ["value"] (spF K [false] false (F_is_integer K)) := by
  have h := fn_ok (P := P) (w := w) (mg := mg) (base := base) (k := 0) (ms := [false]) (own := false) (b := B_is_integer K) m.F_is_integer sc_is_integer rfl
  refine h fun cdv A outer s H E hr => ?_
  have nd := sc_is_integer.nd
  have hu64 := hr.units
  have hu : (A.deeper (PyProof.Rows.envOfC _ _ s.heap.objs.size _ cdv)).units + 1 < cLine := Nat.lt_of_le_of_lt (Nat.add_le_add_left (by decide) _) hu64
  exact sq_one (st_ret (pr_and (pr_callB call_isiB (d_isi isi_int) rfl m.f_isinstance (by decide +kernel) (hs_cons (pr_var 0) (hs_cons (pr_type rfl m.f_int (by decide +kernel)) (hs_nil)))) (pr_one (pr_not (pr_callB call_isiB (d_isi isi_bool) rfl m.f_isinstance (by decide +kernel) (hs_cons (pr_var 0) (hs_cons (pr_type rfl m.f_bool (by decide +kernel)) (hs_nil))))))))
abbrev N_is_count : List Str := ["value"]
theorem sc_is_count : FnScope N_is_count ["value"] (defScope (top 15)) := ⟨rfl, rfl, rfl, by decide +kernel, rfl, by decide +kernel, by decide +kernel⟩
theorem ok_is_count (m : M K mg) : FnG P w K mg base (L2.CX P w) 2 (He.ga K "is_count") m.fd_is_count ["value"] (spF K [false] false (F_is_count K)) := by
  have h := fn_ok (P := P) (w := w) (mg := mg) (base := base) (k := 1) (ms := [false]) (own := false) (b := B_is_count K) m.F_is_count sc_is_count rfl
  refine h fun cdv A outer s H E hr => ?_
  have nd := sc_is_count.nd
  have hu64 := hr.units
  have hu : (A.deeper (PyProof.Rows.envOfC _ _ s.heap.objs.size _ cdv)).units + 1 < cLine := Nat.lt_of_le_of_lt (Nat.add_le_add_left (by decide) _) hu64
  exact sq_one (st_ret (pr_and (pr_call (ok_is_integer m) (hr.mono (by decide)) rfl m.g_is_integer m.F_is_integer.kp (m.F_is_integer.bindsN fun _ _ _ _ _ _ us hl => match us, hl with | [_], _ => rfl) passD (ms_sh (pr_var 0) (ms_nil))) (pr_one (pr_cmp op_ge d_Ib (pr_var 0) (pr_int) (nomark _)))))
abbrev N_is_entry : List Str := ["rate", "many", "value"]
theorem sc_is_entry : FnScope N_is_entry ["rate", "many", "value"] (defScope (top 29)) := ⟨rfl, rfl, rfl, by decide +kernel, rfl, by decide +kernel, by decide +kernel⟩
theorem ok_is_entry (m : M K mg) : FnG P w K mg base (L2.CX P w) 4 (He.ga K "is_entry") m.fd_is_entry ["rate", "many", "value"] (spF K [false, false, false] false (F_is_entry K)) := by
  have h := fn_ok (P := P) (w := w) (mg := mg) (base := base) (k := 3) (ms := [false, false, false]) (own := false) (b := B_is_entry K) m.F_is_entry sc_is_entry rfl
  refine h fun cdv A outer s H E hr => ?_
  have nd := sc_is_entry.nd
  have hu64 := hr.units
  have hu : (A.deeper (PyProof.Rows.envOfC _ _ s.heap.objs.size _ cdv)).units + 1 < cLine := Nat.lt_of_le_of_lt (Nat.add_le_add_left (by decide) _) hu64
  exact sq_cons (st_if (pb_w (pb_or (pb_not (pb_val (pr_callB call_isiB (d_isi isi_tup) rfl m.f_isinstance (by decide +kernel) (hs_cons (pr_var 2) (hs_cons (pr_type rfl m.f_tuple (by decide +kernel)) (hs_nil)))))) (pb_or (pb_cmp (op_neB hu64) d_ne (pr_callB call_lenK d_lenK rfl m.f_len (by decide +kernel) (hs_cons (pr_var 2) (hs_nil))) (pr_int) (nomark _)) (pb_or1 (pb_not (pb_val (pr_call (ok_is_block_of m) (hr.mono (by decide)) rfl m.g_is_block_of m.F_is_block_of.kp (m.F_is_block_of.bindsN fun _ _ _ _ _ _ us hl => match us, hl with | [_, _], _ => rfl) passD (ms_sh (pr_var 0) (ms_sh (pr_ix (ix_B hu) d_ix (pr_var 2) (pr_int) (fun _ _ => rfl)) (ms_nil)))))))))) (sq_one (st_ret (pr_bl))) (sq_nil))
    (sq_one (st_ret (pr_and (pr_call (ok_is_count m) (hr.mono (by decide)) rfl m.g_is_count m.F_is_count.kp (m.F_is_count.bindsN fun _ _ _ _ _ _ us hl => match us, hl with | [_], _ => rfl) passD (ms_sh (pr_ix (ix_B hu) d_ix (pr_var 2) (pr_int) (fun _ _ => rfl)) (ms_nil))) (pr_one (pr_cmp op_lt d_Ib (pr_ix (ix_B hu) d_ix (pr_var 2) (pr_int) (fun _ _ => rfl)) (pr_var 1) (nomark _))))))
abbrev N_are_entries : List Str := ["rate", "many", "value", "entry"]
theorem sc_are_entries : FnScope N_are_entries ["rate", "many", "value"] (defScope (top 30)) := ⟨rfl, rfl, rfl, by decide +kernel, rfl, by decide +kernel, by decide +kernel⟩
theorem ok_are_entries (m : M K mg) : FnG P w K mg base (L2.CX P w) 5 (He.ga K "are_entries") m.fd_are_entries ["rate", "many", "value"] (spF K [false, false, false] false (F_are_entries K)) := by
  have h := fn_ok (P := P) (w := w) (mg := mg) (base := base) (k := 4) (ms := [false, false, false]) (own := false) (b := B_are_entries K) m.F_are_entries sc_are_entries rfl
  refine h fun cdv A outer s H E hr => ?_
  have nd := sc_are_entries.nd
  have hu64 := hr.units
  have hu : (A.deeper (PyProof.Rows.envOfC _ _ s.heap.objs.size _ cdv)).units + 1 < cLine := Nat.lt_of_le_of_lt (Nat.add_le_add_left (by decide) _) hu64
  exact sq_cons (st_if (pb_w (pb_or (pb_not (pb_val (pr_call (ok_is_list m) (hr.mono (by decide)) rfl m.g_is_list m.F_is_list.kp (m.F_is_list.bindsN fun _ _ _ _ _ _ us hl => match us, hl with | [_], _ => rfl) passD (ms_sh (pr_var 2) (ms_nil))))) (pb_or1 (pb_cmp (op_neB hu64) d_ne (pr_callB call_lenK d_lenK rfl m.f_len (by decide +kernel) (hs_cons (pr_var 2) (hs_nil))) (pr_prop (pr_var 0) m.c_Rate m.pr_Rate_size (ok_Rate_size m) (hr.mono (by decide)) (m.F_Rate_size.bindsN fun _ _ _ _ _ _ us hl => match us, hl with | [_], _ => rfl) pass00) (nomark _))))) (sq_one (st_ret (pr_bl))) (sq_nil))
    (sq_one (st_ret (pr_callB (cr_all rfl) d_all rfl m.f_all (by decide +kernel) (hs_cons (pr_lc0 (hs0 := rfl) nd (it_list (pr_var 2)) (blkOk_by (N := N_are_entries) (sc := defScope (top 30)) (own := [("entry", 3)]) (by decide +kernel)) (by decide) (fun _ _ _ _ _ => tg_name (i := 3) nd rfl (by first | exact Or.inl rfl | exact Or.inr rfl)) (fun _ _ _ _ _ => pr_call (ok_is_entry m) (hr.mono (by decide)) rfl m.g_is_entry m.F_is_entry.kp (m.F_is_entry.bindsN fun _ _ _ _ _ _ us hl => match us, hl with | [_, _, _], _ => rfl) pass00 (ms_sh (pr_var 0) (ms_sh (pr_var 1) (ms_sh (pr_var 3) (ms_nil)))))) (hs_nil)))))
abbrev N_want_codes : List Str := ["rate", "codes", "position", "entries"]
theorem sc_want_codes : FnScope N_want_codes ["rate", "codes"] (defScope (top 31)) := ⟨rfl, rfl, rfl, by decide +kernel, rfl, by decide +kernel, by decide +kernel⟩
theorem ok_want_codes (m : M K mg) : FnG P w K mg base (L2.CX P w) 6 (He.ga K "want_codes") m.fd_want_codes ["rate", "codes"] (spF K [false, false] false (F_want_codes K)) := by
  have h := fn_ok (P := P) (w := w) (mg := mg) (base := base) (k := 5) (ms := [false, false]) (own := false) (b := B_want_codes K) m.F_want_codes sc_want_codes rfl
  refine h fun cdv A outer s H E hr => ?_
  have nd := sc_want_codes.nd
  have hu64 := hr.units
  have hu : (A.deeper (PyProof.Rows.envOfC _ _ s.heap.objs.size _ cdv)).units + 1 < cLine := Nat.lt_of_le_of_lt (Nat.add_le_add_left (by decide) _) hu64
  exact sq_cons (st_if (pb_w (pb_or (pb_not (pb_val (pr_call (ok_is_list m) (hr.mono (by decide)) rfl m.g_is_list m.F_is_list.kp (m.F_is_list.bindsN fun _ _ _ _ _ _ us hl => match us, hl with | [_], _ => rfl) passD (ms_sh (pr_var 1) (ms_nil))))) (pb_or1 (pb_cmp (op_eqB hu64) d_eq (pr_callB call_lenK d_lenK rfl m.f_len (by decide +kernel) (hs_cons (pr_var 1) (hs_nil))) (pr_int) (nomark _))))) (sq_one (st_never)) (sq_nil))
    (sq_one (st_for ownD rfl (it_enum rfl m.f_enumerate (as_cons (PR.v (pr_var 1)) (as_nil))) (tg_tup rfl (tgs_cons (tg_name (i := 2) nd rfl (by first | exact Or.inl rfl | exact Or.inr rfl)) (tgs_cons (tg_name (i := 3) nd rfl (by first | exact Or.inl rfl | exact Or.inr rfl)) (tgs_nil)))) (sq_one (st_if (pb_not (pb_val (pr_call (ok_are_entries m) (hr.mono (by decide)) rfl m.g_are_entries m.F_are_entries.kp (m.F_are_entries.bindsN fun _ _ _ _ _ _ us hl => match us, hl with | [_, _, _], _ => rfl) passD (ms_sh (pr_var 0) (ms_sh (pr_callB call_lenK d_lenK rfl m.f_len (by decide +kernel) (hs_cons (pr_var 1) (hs_nil))) (ms_sh (pr_var 3) (ms_nil))))))) (sq_one (st_never)) (sq_nil)))))
abbrev N_states_met : List Str := ["codes", "found", "known", "at", "block", "later"]
theorem sc_states_met : FnScope N_states_met ["codes"] (defScope (top 32)) := ⟨rfl, rfl, rfl, by decide +kernel, rfl, by decide +kernel, by decide +kernel⟩
theorem ok_states_met (m : M K mg) : FnG P w K mg base (L2.CX P w) 1 (He.ga K "states_met") m.fd_states_met ["codes"] (spF K [false] false (F_states_met K)) := by
  have h := fn_ok (P := P) (w := w) (mg := mg) (base := base) (k := 0) (ms := [false]) (own := false) (b := B_states_met K) m.F_states_met sc_states_met rfl
  refine h fun cdv A outer s H E hr => ?_
  have nd := sc_states_met.nd
  have hu64 := hr.units
  have hu : (A.deeper (PyProof.Rows.envOfC _ _ s.heap.objs.size _ cdv)).units + 1 < cLine := Nat.lt_of_le_of_lt (Nat.add_le_add_left (by decide) _) hu64
  exact sq_cons (st_par3 (i := 1) (j := 2) (l := 3) rfl nd rfl rfl rfl (by decide) (by decide) (by decide) rfl rfl rfl (pp_cons (pr_lst (as_cons (PR.v (pr_int)) (as_nil))) (pp_cons (pr_dic1 pe_int pe_bl (fun _ => rep_int) (fun _ => rep_bl)) (pp_cons (pr_int) (pp_nil)))) rfl)
    (sq_cons (st_while 64 ownD (pb_cmp op_lt d_Ib (pr_var 3) (pr_callB call_lenK d_lenK rfl m.f_len (by decide +kernel) (hs_cons (pr_var 1) (hs_nil))) (nomark _)) (sq_cons (st_for ownD rfl (it_list (pr_ix (ix_B hu) d_ix (pr_var 0) (pr_ix (ix_B hu) d_ix (pr_var 1) (pr_var 3) (fun _ _ => rfl)) (fun _ _ => rfl))) (tg_tup rfl (tgs_cons (tg_name (i := 4) nd rfl (by first | exact Or.inl rfl | exact Or.inr rfl)) (tgs_cons (tg_name (i := 5) nd rfl (by first | exact Or.inl rfl | exact Or.inr rfl)) (tgs_nil)))) (sq_one (st_if (pb_cmp (op_notInB hu) d_notInB (pr_var 5) (pr_var 2) (by rfl)) (sq_cons (st_putD (i := 2) hu rfl (by first | exact Or.inl rfl | exact Or.inr (Or.inl rfl) | exact Or.inr (Or.inr rfl)) (pr_bl) (pr_var 5))
    (sq_one (st_expr (pr_append (i := 1) rfl (by first | exact Or.inl rfl | exact Or.inr (Or.inl rfl) | exact Or.inr (Or.inr rfl)) (pr_var 5))))) (sq_nil))))
    (sq_one (st_aug (i := 3) nd rfl (by first | exact Or.inl rfl | exact Or.inr rfl) (pr_int) ip_add))))
    (sq_one (st_ret (pr_var 1))))
abbrev N_Coder___init__ : List Str := ["self", "rate", "codes", "lead", "met", "numbers", "number", "state", "block", "later"]
theorem sc_Coder___init__ : FnScope N_Coder___init__ ["self", "rate", "codes", "lead"] (defScope (inClass (top 37) 1)) := ⟨rfl, rfl, rfl, by decide +kernel, rfl, by decide +kernel, by decide +kernel⟩
theorem ok_Coder___init__ (m : M K mg) : FnG P w K mg base (L2.CX P w) 7 (He.ma K (He.ga K "Coder") "__init__") m.fd_Coder___init__ ["self", "rate", "codes", "lead"] (spF K [true, false, false, false] false (F_Coder___init__ K)) := by
  have h := fn_ok (P := P) (w := w) (mg := mg) (base := base) (k := 6) (ms := [true, false, false, false]) (own := false) (b := B_Coder___init__ K) m.F_Coder___init__ sc_Coder___init__ rfl
  refine h fun cdv A outer s H E hr => ?_
  have nd := sc_Coder___init__.nd
  have hu64 := hr.units
  have hu : (A.deeper (PyProof.Rows.envOfC _ _ s.heap.objs.size _ cdv)).units + 1 < cLine := Nat.lt_of_le_of_lt (Nat.add_le_add_left (by decide) _) hu64
  exact sq_cons (st_expr (pr_call (ok_want_rate m) (hr.mono (by decide)) rfl m.g_want_rate m.F_want_rate.kp (m.F_want_rate.bindsN fun _ _ _ _ _ _ us hl => match us, hl with | [_], _ => rfl) passD (ms_sh (pr_var 1) (ms_nil))))
    (sq_cons (st_expr (pr_call (ok_want_codes m) (hr.mono (by decide)) rfl m.g_want_codes m.F_want_codes.kp (m.F_want_codes.bindsN fun _ _ _ _ _ _ us hl => match us, hl with | [_, _], _ => rfl) passD (ms_sh (pr_var 1) (ms_sh (pr_var 2) (ms_nil)))))
    (sq_cons (st_if (pb_w (pb_or (pb_not (pb_val (pr_call (ok_is_row m) (hr.mono (by decide)) rfl m.g_is_row m.F_is_row.kp (m.F_is_row.bindsN fun _ _ _ _ _ _ us hl => match us, hl with | [_], _ => rfl) passD (ms_sh (pr_var 3) (ms_nil))))) (pb_or1 (pb_cmp op_gt d_Ib (pr_callB call_lenK d_lenK rfl m.f_len (by decide +kernel) (hs_cons (pr_var 3) (hs_nil))) (pr_gint rfl m.i_MOST_SIGNS) (nomark _))))) (sq_one (st_never)) (sq_nil))
    (sq_cons (st_if (pb_cmp op_gt d_Ib (pr_bin op_mulB d_mul (pr_callB call_lenK d_lenK rfl m.f_len (by decide +kernel) (hs_cons (pr_var 2) (hs_nil))) (pr_prop (pr_var 1) m.c_Rate m.pr_Rate_size (ok_Rate_size m) (hr.mono (by decide)) (m.F_Rate_size.bindsN fun _ _ _ _ _ _ us hl => match us, hl with | [_], _ => rfl) pass00)) (pr_cval m.cr_Coder m.cv_Coder_MOST_ENTRIES.choose_spec (fun _ => rep_int) rfl m.g_Coder) (nomark _)) (sq_one (st_never)) (sq_nil))
    (sq_cons (st_asg (i := 4) nd rfl (by first | exact Or.inl rfl | exact Or.inr rfl) (pr_call (ok_states_met m) (hr.mono (by decide)) rfl m.g_states_met m.F_states_met.kp (m.F_states_met.bindsN fun _ _ _ _ _ _ us hl => match us, hl with | [_], _ => rfl) passD (ms_sh (pr_var 2) (ms_nil))))
    (sq_cons (st_asg (i := 5) nd rfl (by first | exact Or.inl rfl | exact Or.inr rfl) (pr_dc (hs0 := rfl) nd (it_enum rfl m.f_enumerate (as_cons (PR.v (pr_var 4)) (as_nil))) (blkOk_by (N := N_Coder___init__) (sc := defScope (inClass (top 37) 1)) (own := [("number", 6), ("state", 7)]) (by decide +kernel)) (by decide) (fun _ _ _ _ _ => tg_tup rfl (tgs_cons (tg_name (i := 6) nd rfl (by first | exact Or.inl rfl | exact Or.inr rfl)) (tgs_cons (tg_name (i := 7) nd rfl (by first | exact Or.inl rfl | exact Or.inr rfl)) (tgs_nil)))) (fun _ _ _ _ _ => pr_var 7) (fun _ _ _ _ _ => pr_var 6)))
    (sq_cons (st_fld (i := 0) m.c_Coder m.na_Coder_own_rate rfl (by first | exact Or.inl rfl | exact Or.inr (Or.inl rfl) | exact Or.inr (Or.inr rfl)) (pr_var 1))
    (sq_cons (st_fld (i := 0) m.c_Coder m.na_Coder_own_lead rfl (by first | exact Or.inl rfl | exact Or.inr (Or.inl rfl) | exact Or.inr (Or.inr rfl)) (pr_var 3))
    (sq_one (st_fld (i := 0) m.c_Coder m.na_Coder_own_codes rfl (by first | exact Or.inl rfl | exact Or.inr (Or.inl rfl) | exact Or.inr (Or.inr rfl)) (pr_lc0 (hs0 := rfl) nd (it_list (pr_var 4)) (blkOk_by (N := N_Coder___init__) (sc := defScope (inClass (top 37) 1)) (own := [("state", 7)]) (by decide +kernel)) (by decide) (fun _ _ _ _ _ => tg_name (i := 7) nd rfl (by first | exact Or.inl rfl | exact Or.inr rfl)) (fun _ _ _ _ _ => pr_lc0 (hs0 := rfl) nd (it_list (pr_ix (ix_B hu) d_ix (pr_var 2) (pr_var 7) (fun _ _ => rfl))) (blkOk_by (own := [("block", 8), ("later", 9)]) (by kernel_rfl)) (by decide) (fun _ _ _ _ _ => tg_tup rfl (tgs_cons (tg_name (i := 8) nd rfl (by first | exact Or.inl rfl | exact Or.inr rfl)) (tgs_cons (tg_name (i := 9) nd rfl (by first | exact Or.inl rfl | exact Or.inr rfl)) (tgs_nil)))) (fun _ _ _ _ _ => pr_tup (as_cons (PR.v (pr_var 8)) (as_cons (PR.v (pr_ix (ix_B hu) d_ix (pr_var 5) (pr_var 9) (fun _ _ => rfl))) (as_nil)))))))))))))))
theorem BD_Coder___init__ (m : M K mg) : Binds K m.fd_Coder___init__ ["self", "rate", "codes", "lead"] [] := by
  obtain ⟨ds, h1, h2⟩ := m.F_Coder___init__.binds1 4 1 (ps := ["self", "rate", "codes", "lead"]) (by simp) rfl fun _ _ _ _ _ _ _ us its hl hi => match us, its, hl, hi with | [_, _, _, _], [_], _, _ => ⟨_, rfl, rfl⟩
  cases h1
  exact h2
abbrev N_Rate___init__ : List Str := ["self", "p", "q", "value"]
theorem sc_Rate___init__ : FnScope N_Rate___init__ ["self", "p", "q"] (defScope (inClass (top 21) 0)) := ⟨rfl, rfl, rfl, by decide +kernel, rfl, by decide +kernel, by decide +kernel⟩
theorem ok_Rate___init__ (m : M K mg) : FnG P w K mg base (L2.CX P w) 2 (He.ma K (He.ga K "Rate") "__init__") m.fd_Rate___init__ ["self", "p", "q"] (spF K [true, false, false] false (F_Rate___init__ K)) := by
  have h := fn_ok (P := P) (w := w) (mg := mg) (base := base) (k := 1) (ms := [true, false, false]) (own := false) (b := B_Rate___init__ K) m.F_Rate___init__ sc_Rate___init__ rfl
  refine h fun cdv A outer s H E hr => ?_
  have nd := sc_Rate___init__.nd
  have hu64 := hr.units
  have hu : (A.deeper (PyProof.Rows.envOfC _ _ s.heap.objs.size _ cdv)).units + 1 < cLine := Nat.lt_of_le_of_lt (Nat.add_le_add_left (by decide) _) hu64
  exact sq_cons (st_for ownD rfl (it_tup (pr_tup (as_cons (PR.v (pr_var 1)) (as_cons (PR.v (pr_var 2)) (as_nil))))) (tg_name (i := 3) nd rfl (by first | exact Or.inl rfl | exact Or.inr rfl)) (sq_one (st_if (pb_w (pb_or (pb_not (pb_val (pr_call (ok_is_integer m) (hr.mono (by decide)) rfl m.g_is_integer m.F_is_integer.kp (m.F_is_integer.bindsN fun _ _ _ _ _ _ us hl => match us, hl with | [_], _ => rfl) passD (ms_sh (pr_var 3) (ms_nil))))) (pb_or1 (pb_not (pb_chain op_le op_le (pr_int) (pr_var 3) (pr_gint rfl m.i_MOST_PART)))))) (sq_one (st_never)) (sq_nil))))
    (sq_cons (st_fld (i := 0) m.c_Rate m.na_Rate_rate_bits rfl (by first | exact Or.inl rfl | exact Or.inr (Or.inl rfl) | exact Or.inr (Or.inr rfl)) (pr_var 1))
    (sq_one (st_fld (i := 0) m.c_Rate m.na_Rate_rate_signs rfl (by first | exact Or.inl rfl | exact Or.inr (Or.inl rfl) | exact Or.inr (Or.inr rfl)) (pr_var 2))))
abbrev N__law_made : List Str := ["_law_pace", "_law_chart", "_law_start"]
theorem sc__law_made : FnScope N__law_made ["_law_pace", "_law_chart", "_law_start"] (defScope (top 48)) := ⟨rfl, rfl, rfl, by decide +kernel, rfl, by decide +kernel, by decide +kernel⟩
theorem ok__law_made (m : M K mg) : FnG P w K mg base (L2.CX P w) 9 (He.ga K "_law_made") m.fd__law_made ["_law_pace", "_law_chart", "_law_start"] (spF K [false, false, false] false (F__law_made K)) := by
  have h := fn_ok (P := P) (w := w) (mg := mg) (base := base) (k := 8) (ms := [false, false, false]) (own := false) (b := B__law_made K) m.F__law_made sc__law_made rfl
  refine h fun cdv A outer s H E hr => ?_
  have nd := sc__law_made.nd
  have hu64 := hr.units
  have hu : (A.deeper (PyProof.Rows.envOfC _ _ s.heap.objs.size _ cdv)).units + 1 < cLine := Nat.lt_of_le_of_lt (Nat.add_le_add_left (by decide) _) hu64
  exact sq_one (st_ret (pr_make m.mk_Coder (ok_Coder___init__ m) (hr.mono (by decide)) rfl m.g_Coder (BD_Coder___init__ m) .nil (fun _ => .nil) passD (as_cons (PR.v (pr_make m.mk_Rate (ok_Rate___init__ m) (hr.mono (by decide)) rfl m.g_Rate (m.F_Rate___init__.bindsN fun _ _ _ _ _ _ us hl => match us, hl with | [_, _, _], _ => rfl) .nil (fun _ => .nil) passD (as_cons (PR.v (pr_ix (ix_B hu) d_ix (pr_var 0) (pr_int) (fun _ _ => rfl))) (as_cons (PR.v (pr_ix (ix_B hu) d_ix (pr_var 0) (pr_int) (fun _ _ => rfl))) (as_nil))) (by decide) (al_cons (al_cons (al_nil))))) (as_cons (PR.v (pr_var 1)) (as_cons (PR.v (pr_var 2)) (as_nil)))) (by decide) (al_cons (al_cons (al_cons (al_nil))))))
abbrev N_Coder___len__ : List Str := ["self"]
theorem sc_Coder___len__ : FnScope N_Coder___len__ ["self"] (defScope (inClass (top 37) 12)) := ⟨rfl, rfl, rfl, by decide +kernel, rfl, by decide +kernel, by decide +kernel⟩
theorem ok_Coder___len__ (m : M K mg) : FnG P w K mg base (L2.CX P w) 1 (He.ma K (He.ga K "Coder") "__len__") m.fd_Coder___len__ ["self"] (spF K [false] false (F_Coder___len__ K)) := by
  have h := fn_ok (P := P) (w := w) (mg := mg) (base := base) (k := 0) (ms := [false]) (own := false) (b := B_Coder___len__ K) m.F_Coder___len__ sc_Coder___len__ rfl
  refine h fun cdv A outer s H E hr => ?_
  have nd := sc_Coder___len__.nd
  have hu64 := hr.units
  have hu : (A.deeper (PyProof.Rows.envOfC _ _ s.heap.objs.size _ cdv)).units + 1 < cLine := Nat.lt_of_le_of_lt (Nat.add_le_add_left (by decide) _) hu64
  exact sq_one (st_ret (pr_callB call_lenK d_lenK rfl m.f_len (by decide +kernel) (hs_cons (pr_fld m.c_Coder m.na_Coder_own_codes (pr_var 0)) (hs_nil))))
abbrev N_Coder_codes : List Str := ["self", "entries"]
theorem sc_Coder_codes : FnScope N_Coder_codes ["self"] (defScope (inClass (top 37) 5)) := ⟨rfl, rfl, rfl, by decide +kernel, rfl, by decide +kernel, by decide +kernel⟩
theorem ok_Coder_codes (m : M K mg) : FnG P w K mg base (L2.CX P w) 1 (He.ma K (He.ga K "Coder") "codes") m.fd_Coder_codes ["self"] (spF K [false] false (F_Coder_codes K)) := by
  have h := fn_ok (P := P) (w := w) (mg := mg) (base := base) (k := 0) (ms := [false]) (own := false) (b := B_Coder_codes K) m.F_Coder_codes sc_Coder_codes rfl
  refine h fun cdv A outer s H E hr => ?_
  have nd := sc_Coder_codes.nd
  have hu64 := hr.units
  have hu : (A.deeper (PyProof.Rows.envOfC _ _ s.heap.objs.size _ cdv)).units + 1 < cLine := Nat.lt_of_le_of_lt (Nat.add_le_add_left (by decide) _) hu64
  exact sq_one (st_ret (pr_lc0 (hs0 := rfl) nd (it_list (pr_fld m.c_Coder m.na_Coder_own_codes (pr_var 0))) (blkOk_by (N := N_Coder_codes) (sc := defScope (inClass (top 37) 5)) (own := [("entries", 1)]) (by decide +kernel)) (by decide) (fun _ _ _ _ _ => tg_name (i := 1) nd rfl (by first | exact Or.inl rfl | exact Or.inr rfl)) (fun _ _ _ _ _ => pr_callTy call_list_of d_list rfl m.f_list (by decide +kernel) (hs_cons (pr_var 1) (hs_nil)))))
abbrev N_Coder_lead : List Str := ["self"]
theorem sc_Coder_lead : FnScope N_Coder_lead ["self"] (defScope (inClass (top 37) 3)) := ⟨rfl, rfl, rfl, by decide +kernel, rfl, by decide +kernel, by decide +kernel⟩
theorem ok_Coder_lead (m : M K mg) : FnG P w K mg base (L2.CX P w) 1 (He5.wf K (He.ga K "Coder") "property" "lead") m.fd_Coder_lead ["self"] (spF K [false] false (F_Coder_lead K)) := by
  have h := fn_ok (P := P) (w := w) (mg := mg) (base := base) (k := 0) (ms := [false]) (own := false) (b := B_Coder_lead K) m.F_Coder_lead sc_Coder_lead rfl
  refine h fun cdv A outer s H E hr => ?_
  have nd := sc_Coder_lead.nd
  have hu64 := hr.units
  have hu : (A.deeper (PyProof.Rows.envOfC _ _ s.heap.objs.size _ cdv)).units + 1 < cLine := Nat.lt_of_le_of_lt (Nat.add_le_add_left (by decide) _) hu64
  exact sq_one (st_ret (pr_fld m.c_Coder m.na_Coder_own_lead (pr_var 0)))
abbrev N_Coder_rate : List Str := ["self"]
theorem sc_Coder_rate : FnScope N_Coder_rate ["self"] (defScope (inClass (top 37) 2)) := ⟨rfl, rfl, rfl, by decide +kernel, rfl, by decide +kernel, by decide +kernel⟩
theorem ok_Coder_rate (m : M K mg) : FnG P w K mg base (L2.CX P w) 1 (He5.wf K (He.ga K "Coder") "property" "rate") m.fd_Coder_rate ["self"] (spF K [false] false (F_Coder_rate K)) := by
  have h := fn_ok (P := P) (w := w) (mg := mg) (base := base) (k := 0) (ms := [false]) (own := false) (b := B_Coder_rate K) m.F_Coder_rate sc_Coder_rate rfl
  refine h fun cdv A outer s H E hr => ?_
  have nd := sc_Coder_rate.nd
  have hu64 := hr.units
  have hu : (A.deeper (PyProof.Rows.envOfC _ _ s.heap.objs.size _ cdv)).units + 1 < cLine := Nat.lt_of_le_of_lt (Nat.add_le_add_left (by decide) _) hu64
  exact sq_one (st_ret (pr_fld m.c_Coder m.na_Coder_own_rate (pr_var 0)))
abbrev N_Rate___str__ : List Str := ["self"]
theorem sc_Rate___str__ : FnScope N_Rate___str__ ["self"] (defScope (inClass (top 21) 8)) := ⟨rfl, rfl, rfl, by decide +kernel, rfl, by decide +kernel, by decide +kernel⟩
theorem ok_Rate___str__ (m : M K mg) : FnG P w K mg base (L2.CX P w) 1 (He.ma K (He.ga K "Rate") "__str__") m.fd_Rate___str__ ["self"] (spF K [false] false (F_Rate___str__ K)) := by
  have h := fn_ok (P := P) (w := w) (mg := mg) (base := base) (k := 0) (ms := [false]) (own := false) (b := B_Rate___str__ K) m.F_Rate___str__ sc_Rate___str__ rfl
  refine h fun cdv A outer s H E hr => ?_
  have nd := sc_Rate___str__.nd
  have hu64 := hr.units
  have hu : (A.deeper (PyProof.Rows.envOfC _ _ s.heap.objs.size _ cdv)).units + 1 < cLine := Nat.lt_of_le_of_lt (Nat.add_le_add_left (by decide) _) hu64
  exact sq_one (st_ret (pr_joined (js_cons (pr_fv (pr_fld m.c_Rate m.na_Rate_rate_bits (pr_var 0))) (js_cons (pr_str) (js_cons (pr_fv (pr_fld m.c_Rate m.na_Rate_rate_signs (pr_var 0))) (js_nil))))))
abbrev N__law_told : List Str := ["_law_made_here"]
theorem sc__law_told : FnScope N__law_told ["_law_made_here"] (defScope (top 49)) := ⟨rfl, rfl, rfl, by decide +kernel, rfl, by decide +kernel, by decide +kernel⟩
theorem ok__law_told (m : M K mg) : FnG P w K mg base (L2.CX P w) 4 (He.ga K "_law_told") m.fd__law_told ["_law_made_here"] (spF K [false] false (F__law_told K)) := by
  have h := fn_ok (P := P) (w := w) (mg := mg) (base := base) (k := 3) (ms := [false]) (own := false) (b := B__law_told K) m.F__law_told sc__law_told rfl
  refine h fun cdv A outer s H E hr => ?_
  have nd := sc__law_told.nd
  have hu64 := hr.units
  have hu : (A.deeper (PyProof.Rows.envOfC _ _ s.heap.objs.size _ cdv)).units + 1 < cLine := Nat.lt_of_le_of_lt (Nat.add_le_add_left (by decide) _) hu64
  exact sq_one (st_ret (pr_lst (as_cons (PR.v (pr_strO m.sp_Rate___str__ (ok_Rate___str__ m) (hr.mono (by decide)) (m.F_Rate___str__.bindsN fun _ _ _ _ _ _ us hl => match us, hl with | [_], _ => rfl) passF rfl m.f_str (as_cons (PR.v (pr_prop (pr_var 0) m.c_Coder m.pr_Coder_rate (ok_Coder_rate m) (hr.mono (by decide)) (m.F_Coder_rate.bindsN fun _ _ _ _ _ _ us hl => match us, hl with | [_], _ => rfl) pass00)) as_nil))) (as_cons (PR.v (pr_prop (pr_var 0) m.c_Coder m.pr_Coder_lead (ok_Coder_lead m) (hr.mono (by decide)) (m.F_Coder_lead.bindsN fun _ _ _ _ _ _ us hl => match us, hl with | [_], _ => rfl) pass00)) (as_cons (PR.v (pr_meth0 (ms := []) (pr_var 0) m.c_Coder m.me_Coder_codes (ok_Coder_codes m) (hr.mono (by decide)) (m.F_Coder_codes.bindsN fun _ _ _ _ _ _ us hl => match us, hl with | [_], _ => rfl) .nil (fun _ => .nil) passD)) (as_cons (PR.v (pr_lenO m.sp_Coder___len__ (ok_Coder___len__ m) (hr.mono (by decide)) (m.F_Coder___len__.bindsN fun _ _ _ _ _ _ us hl => match us, hl with | [_], _ => rfl) passF rfl m.f_len (as_cons (PR.v (pr_var 0)) as_nil))) (as_nil)))))))
abbrev N__law_wider : List Str := ["_law_pot_here", "_law_pace", "_law_chart", "_law_size", "_law_found", "_law_line", "_law_turn", "_law_word_now"]
theorem sc__law_wider : FnScope N__law_wider ["_law_pot_here", "_law_pace", "_law_chart"] (defScope (top 51)) := ⟨rfl, rfl, rfl, by decide +kernel, rfl, by decide +kernel, by decide +kernel⟩
theorem ok__law_wider (m : M K mg) : FnG P w K mg base (L2.CX P w) 2 (He.ga K "_law_wider") m.fd__law_wider ["_law_pot_here", "_law_pace", "_law_chart"] (spF K [true, false, false] false (F__law_wider K)) := by
  have h := fn_ok (P := P) (w := w) (mg := mg) (base := base) (k := 1) (ms := [true, false, false]) (own := false) (b := B__law_wider K) m.F__law_wider sc__law_wider rfl
  refine h fun cdv A outer s H E hr => ?_
  have nd := sc__law_wider.nd
  have hu64 := hr.units
  have hu : (A.deeper (PyProof.Rows.envOfC _ _ s.heap.objs.size _ cdv)).units + 1 < cLine := Nat.lt_of_le_of_lt (Nat.add_le_add_left (by decide) _) hu64
  exact sq_cons (st_parC (i := 3) (j := 4) rfl nd rfl rfl (by first | exact Or.inl rfl | exact Or.inr rfl) (by first | exact Or.inl rfl | exact Or.inr rfl) (pp_cons (pr_bin op_addB d_add (pr_int) (pr_call (ok__law_draw m) (hr.mono (by decide)) rfl m.g__law_draw m.F__law_draw.kp (m.F__law_draw.bindsN fun _ _ _ _ _ _ us hl => match us, hl with | [_, _], _ => rfl) passD (ms_io (pr_var 0) (ms_sh (pr_int) (ms_nil))))) (pp_cons (pr_lc0 (hs0 := rfl) nd (it_list (pr_var 2)) (blkOk_by (N := N__law_wider) (sc := defScope (top 51)) (own := [("_law_line", 5)]) (by decide +kernel)) (by decide) (fun _ _ _ _ _ => tg_name (i := 5) nd rfl (by first | exact Or.inl rfl | exact Or.inr rfl)) (fun _ _ _ _ _ => pr_callTy call_list_of d_list rfl m.f_list (by decide +kernel) (hs_cons (pr_var 5) (hs_nil)))) (pp_nil))))
    (sq_cons (st_for ownD rfl (it_range1 rfl m.f_range (as_cons (PR.v (pr_var 3)) (as_nil))) (tg_name (i := 6) nd rfl (by first | exact Or.inl rfl | exact Or.inr rfl)) (sq_cons (st_asgLc0 (i := 5) (hs0 := rfl) nd rfl rfl (it_range1 rfl m.f_range (as_cons (PR.v (pr_bin op_shl d_Ic (pr_int) (pr_ix (ix_B hu) d_ix (pr_var 1) (pr_int) (fun _ _ => rfl)))) (as_nil))) (blkOk_by (N := N__law_wider) (sc := defScope (top 51)) (own := [("_law_word_now", 7)]) (by decide +kernel)) (by decide) (fun _ _ _ _ _ => tg_name (i := 7) nd rfl (by first | exact Or.inl rfl | exact Or.inr rfl)) (fun _ _ _ _ _ => pr_tup (as_cons (PR.v (pr_bin op_strMul d_strMul (pr_str) (pr_ix (ix_B hu) d_ix (pr_var 1) (pr_int) (fun _ _ => rfl)))) (as_cons (PR.v (pr_call (ok__law_draw m) (hr.mono (by decide)) rfl m.g__law_draw m.F__law_draw.kp (m.F__law_draw.bindsN fun _ _ _ _ _ _ us hl => match us, hl with | [_, _], _ => rfl) pass00 (ms_io (pr_var 0) (ms_sh (pr_bin op_addB d_add (pr_callB call_lenK d_lenK rfl m.f_len (by decide +kernel) (hs_cons (pr_var 2) (hs_nil))) (pr_var 3)) (ms_nil))))) (as_nil)))))
    (sq_one (st_expr (pr_append (i := 4) rfl (by first | exact Or.inl rfl | exact Or.inr (Or.inl rfl) | exact Or.inr (Or.inr rfl)) (pr_var 5))))))
    (sq_one (st_ret (pr_var 4))))
abbrev N_Rate___eq__ : List Str := ["self", "other"]
theorem sc_Rate___eq__ : FnScope N_Rate___eq__ ["self", "other"] (defScope (inClass (top 21) 7)) := ⟨rfl, rfl, rfl, by decide +kernel, rfl, by decide +kernel, by decide +kernel⟩
theorem ok_Rate___eq__ (m : M K mg) : FnG P w K mg base (L2.CX P w) 1 (He.ma K (He.ga K "Rate") "__eq__") m.fd_Rate___eq__ ["self", "other"] (spF K [false, false] false (F_Rate___eq__ K)) := by
  have h := fn_ok (P := P) (w := w) (mg := mg) (base := base) (k := 0) (ms := [false, false]) (own := false) (b := B_Rate___eq__ K) m.F_Rate___eq__ sc_Rate___eq__ rfl
  refine h fun cdv A outer s H E hr => ?_
  have nd := sc_Rate___eq__.nd
  have hu64 := hr.units
  have hu : (A.deeper (PyProof.Rows.envOfC _ _ s.heap.objs.size _ cdv)).units + 1 < cLine := Nat.lt_of_le_of_lt (Nat.add_le_add_left (by decide) _) hu64
  exact sq_cons (st_if (pb_not (pb_val (pr_callB call_isiB (d_isi (isi_G m.ig_Rate)) rfl m.f_isinstance (by decide +kernel) (hs_cons (pr_var 1) (hs_cons (pr_gobj rfl m.g_Rate) (hs_nil)))))) (sq_one (st_ret (pr_bl))) (sq_nil))
    (sq_one (st_ret (pr_and (pr_cmp (op_eqB hu64) d_eq (pr_fld m.c_Rate m.na_Rate_rate_bits (pr_var 0)) (pr_fld m.c_Rate m.na_Rate_rate_bits (pr_var 1)) (nomark _)) (pr_one (pr_cmp (op_eqB hu64) d_eq (pr_fld m.c_Rate m.na_Rate_rate_signs (pr_var 0)) (pr_fld m.c_Rate m.na_Rate_rate_signs (pr_var 1)) (nomark _))))))
abbrev N_Coder___eq__ : List Str := ["self", "other"]
theorem sc_Coder___eq__ : FnScope N_Coder___eq__ ["self", "other"] (defScope (inClass (top 37) 13)) := ⟨rfl, rfl, rfl, by decide +kernel, rfl, by decide +kernel, by decide +kernel⟩
theorem ok_Coder___eq__ (m : M K mg) : FnG P w K mg base (L2.CX P w) 3 (He.ma K (He.ga K "Coder") "__eq__") m.fd_Coder___eq__ ["self", "other"] (spF K [false, false] false (F_Coder___eq__ K)) := by
  have h := fn_ok (P := P) (w := w) (mg := mg) (base := base) (k := 2) (ms := [false, false]) (own := false) (b := B_Coder___eq__ K) m.F_Coder___eq__ sc_Coder___eq__ rfl
  refine h fun cdv A outer s H E hr => ?_
  have nd := sc_Coder___eq__.nd
  have hu64 := hr.units
  have hu : (A.deeper (PyProof.Rows.envOfC _ _ s.heap.objs.size _ cdv)).units + 1 < cLine := Nat.lt_of_le_of_lt (Nat.add_le_add_left (by decide) _) hu64
  exact sq_cons (st_if (pb_w (pb_or (pb_not (pb_val (pr_callB call_isiB (d_isi (isi_G m.ig_Coder)) rfl m.f_isinstance (by decide +kernel) (hs_cons (pr_var 1) (hs_cons (pr_gobj rfl m.g_Coder) (hs_nil)))))) (pb_or1 (pb_cmp (op_neB hu64) d_ne (pr_fld m.c_Coder m.na_Coder_own_lead (pr_var 0)) (pr_fld m.c_Coder m.na_Coder_own_lead (pr_var 1)) (nomark _))))) (sq_one (st_ret (pr_bl))) (sq_nil))
    (sq_one (st_ret (pr_and (pr_eqO m.ri_Rate m.sp_Rate___eq__ (ok_Rate___eq__ m) (hr.mono (by decide)) (m.F_Rate___eq__.bindsN fun _ _ _ _ _ _ us hl => match us, hl with | [_, _], _ => rfl) passF (pr_fld m.c_Coder m.na_Coder_own_rate (pr_var 0)) (pr_fld m.c_Coder m.na_Coder_own_rate (pr_var 1))) (pr_one (pr_cmp (op_eqB hu64) d_eq (pr_fld m.c_Coder m.na_Coder_own_codes (pr_var 0)) (pr_fld m.c_Coder m.na_Coder_own_codes (pr_var 1)) (nomark _))))))
abbrev N__law_mixed : List Str := ["_law_pot_here", "_law_some", "_law_left", "_law_found", "_law_turn"]
theorem sc__law_mixed : FnScope N__law_mixed ["_law_pot_here", "_law_some"] (defScope (top 42)) := ⟨rfl, rfl, rfl, by decide +kernel, rfl, by decide +kernel, by decide +kernel⟩
theorem ok__law_mixed (m : M K mg) : FnG P w K mg base (L2.CX P w) 2 (He.ga K "_law_mixed") m.fd__law_mixed ["_law_pot_here", "_law_some"] (spF K [true, false] false (F__law_mixed K)) := by
  have h := fn_ok (P := P) (w := w) (mg := mg) (base := base) (k := 1) (ms := [true, false]) (own := false) (b := B__law_mixed K) m.F__law_mixed sc__law_mixed rfl
  refine h fun cdv A outer s H E hr => ?_
  have nd := sc__law_mixed.nd
  have hu64 := hr.units
  have hu : (A.deeper (PyProof.Rows.envOfC _ _ s.heap.objs.size _ cdv)).units + 1 < cLine := Nat.lt_of_le_of_lt (Nat.add_le_add_left (by decide) _) hu64
  exact sq_cons (st_par (i := 2) (j := 3) rfl nd rfl rfl (by decide) rfl rfl (pp_cons (pr_callTy call_list_of d_list rfl m.f_list (by decide +kernel) (hs_cons (pr_var 1) (hs_nil))) (pp_cons (pr_lst (as_nil)) (pp_nil))) rfl)
    (sq_cons (st_for ownD rfl (it_range1 rfl m.f_range (as_cons (PR.v (pr_callB call_lenK d_lenK rfl m.f_len (by decide +kernel) (hs_cons (pr_var 2) (hs_nil)))) (as_nil))) (tg_name (i := 4) nd rfl (by first | exact Or.inl rfl | exact Or.inr rfl)) (sq_one (st_expr (pr_append (i := 3) rfl (by first | exact Or.inl rfl | exact Or.inr (Or.inl rfl) | exact Or.inr (Or.inr rfl)) (pr_popAt (i := 2) rfl (by first | exact Or.inl rfl | exact Or.inr (Or.inl rfl) | exact Or.inr (Or.inr rfl)) (pr_call (ok__law_draw m) (hr.mono (by decide)) rfl m.g__law_draw m.F__law_draw.kp (m.F__law_draw.bindsN fun _ _ _ _ _ _ us hl => match us, hl with | [_, _], _ => rfl) passD (ms_io (pr_var 0) (ms_sh (pr_callB call_lenK d_lenK rfl m.f_len (by decide +kernel) (hs_cons (pr_var 2) (hs_nil))) (ms_nil)))))))))
    (sq_one (st_ret (pr_var 3))))
abbrev N__law_turned : List Str := ["_law_pot_here", "_law_chart", "_law_spots", "_law_spot", "_law_piece", "_law_to"]
theorem sc__law_turned : FnScope N__law_turned ["_law_pot_here", "_law_chart"] (defScope (top 50)) := ⟨rfl, rfl, rfl, by decide +kernel, rfl, by decide +kernel, by decide +kernel⟩
theorem ok__law_turned (m : M K mg) : FnG P w K mg base (L2.CX P w) 3 (He.ga K "_law_turned") m.fd__law_turned ["_law_pot_here", "_law_chart"] (spF K [true, false] false (F__law_turned K)) := by
  have h := fn_ok (P := P) (w := w) (mg := mg) (base := base) (k := 2) (ms := [true, false]) (own := false) (b := B__law_turned K) m.F__law_turned sc__law_turned rfl
  refine h fun cdv A outer s H E hr => ?_
  have nd := sc__law_turned.nd
  have hu64 := hr.units
  have hu : (A.deeper (PyProof.Rows.envOfC _ _ s.heap.objs.size _ cdv)).units + 1 < cLine := Nat.lt_of_le_of_lt (Nat.add_le_add_left (by decide) _) hu64
  exact sq_cons (st_asg (i := 2) nd rfl (by first | exact Or.inl rfl | exact Or.inr rfl) (pr_bin op_addB d_add (pr_lst (as_cons (PR.v (pr_int)) (as_nil))) (pr_call (ok__law_mixed m) (hr.mono (by decide)) rfl m.g__law_mixed m.F__law_mixed.kp (m.F__law_mixed.bindsN fun _ _ _ _ _ _ us hl => match us, hl with | [_, _], _ => rfl) passD (ms_io (pr_var 0) (ms_sh (pr_lstR2 rfl rfl m.f_list rfl m.f_range (pr_int) (pr_callB call_lenK d_lenK rfl m.f_len (by decide +kernel) (hs_cons (pr_var 1) (hs_nil)))) (ms_nil))))))
    (sq_one (st_ret (pr_lc0 (hs0 := rfl) nd (it_list (pr_var 2)) (blkOk_by (N := N__law_turned) (sc := defScope (top 50)) (own := [("_law_spot", 3)]) (by decide +kernel)) (by decide) (fun _ _ _ _ _ => tg_name (i := 3) nd rfl (by first | exact Or.inl rfl | exact Or.inr rfl)) (fun _ _ _ _ _ => pr_lc0 (hs0 := rfl) nd (it_list (pr_ix (ix_B hu) d_ix (pr_var 1) (pr_var 3) (fun _ _ => rfl))) (blkOk_by (own := [("_law_piece", 4), ("_law_to", 5)]) (by kernel_rfl)) (by decide) (fun _ _ _ _ _ => tg_tup rfl (tgs_cons (tg_name (i := 4) nd rfl (by first | exact Or.inl rfl | exact Or.inr rfl)) (tgs_cons (tg_name (i := 5) nd rfl (by first | exact Or.inl rfl | exact Or.inr rfl)) (tgs_nil)))) (fun _ _ _ _ _ => pr_tup (as_cons (PR.v (pr_var 4)) (as_cons (PR.v (pr_index (pr_var 2) (pr_var 5))) (as_nil))))))))
abbrev N__law_words : List Str := ["_law_pot_here", "_law_pace", "_law_size", "_law_turn"]
theorem sc__law_words : FnScope N__law_words ["_law_pot_here", "_law_pace", "_law_size"] (defScope (top 47)) := ⟨rfl, rfl, rfl, by decide +kernel, rfl, by decide +kernel, by decide +kernel⟩
theorem ok__law_words (m : M K mg) : FnG P w K mg base (L2.CX P w) 2 (He.ga K "_law_words") m.fd__law_words ["_law_pot_here", "_law_pace", "_law_size"] (spF K [true, false, false] false (F__law_words K)) := by
  have h := fn_ok (P := P) (w := w) (mg := mg) (base := base) (k := 1) (ms := [true, false, false]) (own := false) (b := B__law_words K) m.F__law_words sc__law_words rfl
  refine h fun cdv A outer s H E hr => ?_
  have nd := sc__law_words.nd
  have hu64 := hr.units
  have hu : (A.deeper (PyProof.Rows.envOfC _ _ s.heap.objs.size _ cdv)).units + 1 < cLine := Nat.lt_of_le_of_lt (Nat.add_le_add_left (by decide) _) hu64
  exact sq_one (st_ret (pr_lc0 (hs0 := rfl) nd (it_range1 rfl m.f_range (as_cons (PR.v (pr_var 2)) (as_nil))) (blkOk_by (N := N__law_words) (sc := defScope (top 47)) (own := [("_law_turn", 3)]) (by decide +kernel)) (by decide) (fun _ _ _ _ _ => tg_name (i := 3) nd rfl (by first | exact Or.inl rfl | exact Or.inr rfl)) (fun _ _ _ _ _ => pr_call (ok__law_draw m) (hr.mono (by decide)) rfl m.g__law_draw m.F__law_draw.kp (m.F__law_draw.bindsN fun _ _ _ _ _ _ us hl => match us, hl with | [_, _], _ => rfl) pass00 (ms_io (pr_var 0) (ms_sh (pr_bin op_shl d_Ic (pr_int) (pr_ix (ix_B hu) d_ix (pr_var 1) (pr_int) (fun _ _ => rfl))) (ms_nil))))))
abbrev N_is_word_of : List Str := ["rate", "value"]
theorem sc_is_word_of : FnScope N_is_word_of ["rate", "value"] (defScope (top 26)) := ⟨rfl, rfl, rfl, by decide +kernel, rfl, by decide +kernel, by decide +kernel⟩
theorem ok_is_word_of (m : M K mg) : FnG P w K mg base (L2.CX P w) 3 (He.ga K "is_word_of") m.fd_is_word_of ["rate", "value"] (spF K [false, false] false (F_is_word_of K)) := by
  have h := fn_ok (P := P) (w := w) (mg := mg) (base := base) (k := 2) (ms := [false, false]) (own := false) (b := B_is_word_of K) m.F_is_word_of sc_is_word_of rfl
  refine h fun cdv A outer s H E hr => ?_
  have nd := sc_is_word_of.nd
  have hu64 := hr.units
  have hu : (A.deeper (PyProof.Rows.envOfC _ _ s.heap.objs.size _ cdv)).units + 1 < cLine := Nat.lt_of_le_of_lt (Nat.add_le_add_left (by decide) _) hu64
  exact sq_one (st_ret (pr_and (pr_call (ok_is_count m) (hr.mono (by decide)) rfl m.g_is_count m.F_is_count.kp (m.F_is_count.bindsN fun _ _ _ _ _ _ us hl => match us, hl with | [_], _ => rfl) passD (ms_sh (pr_var 1) (ms_nil))) (pr_one (pr_cmp op_lt d_Ib (pr_var 1) (pr_prop (pr_var 0) m.c_Rate m.pr_Rate_size (ok_Rate_size m) (hr.mono (by decide)) (m.F_Rate_size.bindsN fun _ _ _ _ _ _ us hl => match us, hl with | [_], _ => rfl) pass00) (nomark _)))))
abbrev N_want_text : List Str := ["rate", "text", "position", "word"]
theorem sc_want_text : FnScope N_want_text ["rate", "text"] (defScope (top 28)) := ⟨rfl, rfl, rfl, by decide +kernel, rfl, by decide +kernel, by decide +kernel⟩
theorem ok_want_text (m : M K mg) : FnG P w K mg base (L2.CX P w) 4 (He.ga K "want_text") m.fd_want_text ["rate", "text"] (spF K [false, false] false (F_want_text K)) := by
  have h := fn_ok (P := P) (w := w) (mg := mg) (base := base) (k := 3) (ms := [false, false]) (own := false) (b := B_want_text K) m.F_want_text sc_want_text rfl
  refine h fun cdv A outer s H E hr => ?_
  have nd := sc_want_text.nd
  have hu64 := hr.units
  have hu : (A.deeper (PyProof.Rows.envOfC _ _ s.heap.objs.size _ cdv)).units + 1 < cLine := Nat.lt_of_le_of_lt (Nat.add_le_add_left (by decide) _) hu64
  exact sq_cons (st_if (pb_w (pb_or (pb_not (pb_val (pr_call (ok_is_list m) (hr.mono (by decide)) rfl m.g_is_list m.F_is_list.kp (m.F_is_list.bindsN fun _ _ _ _ _ _ us hl => match us, hl with | [_], _ => rfl) passD (ms_sh (pr_var 1) (ms_nil))))) (pb_or1 (pb_cmp op_gt d_Ib (pr_callB call_lenK d_lenK rfl m.f_len (by decide +kernel) (hs_cons (pr_var 1) (hs_nil))) (pr_gint rfl m.i_MOST_WORDS) (nomark _))))) (sq_one (st_never)) (sq_nil))
    (sq_one (st_for ownD rfl (it_enum rfl m.f_enumerate (as_cons (PR.v (pr_var 1)) (as_nil))) (tg_tup rfl (tgs_cons (tg_name (i := 2) nd rfl (by first | exact Or.inl rfl | exact Or.inr rfl)) (tgs_cons (tg_name (i := 3) nd rfl (by first | exact Or.inl rfl | exact Or.inr rfl)) (tgs_nil)))) (sq_one (st_if (pb_not (pb_val (pr_call (ok_is_word_of m) (hr.mono (by decide)) rfl m.g_is_word_of m.F_is_word_of.kp (m.F_is_word_of.bindsN fun _ _ _ _ _ _ us hl => match us, hl with | [_, _], _ => rfl) passD (ms_sh (pr_var 0) (ms_sh (pr_var 3) (ms_nil)))))) (sq_one (st_never)) (sq_nil)))))
abbrev N_entries_along : List Str := ["coder", "state", "text", "found", "here", "word"]
theorem sc_entries_along : FnScope N_entries_along ["coder", "state", "text"] (defScope (top 33)) := ⟨rfl, rfl, rfl, by decide +kernel, rfl, by decide +kernel, by decide +kernel⟩
theorem ok_entries_along (m : M K mg) : FnG P w K mg base (L2.CX P w) 1 (He.ga K "entries_along") m.fd_entries_along ["coder", "state", "text"] (spF K [false, false, false] false (F_entries_along K)) := by
  have h := fn_ok (P := P) (w := w) (mg := mg) (base := base) (k := 0) (ms := [false, false, false]) (own := false) (b := B_entries_along K) m.F_entries_along sc_entries_along rfl
  refine h fun cdv A outer s H E hr => ?_
  have nd := sc_entries_along.nd
  have hu64 := hr.units
  have hu : (A.deeper (PyProof.Rows.envOfC _ _ s.heap.objs.size _ cdv)).units + 1 < cLine := Nat.lt_of_le_of_lt (Nat.add_le_add_left (by decide) _) hu64
  exact sq_cons (st_par (i := 3) (j := 4) rfl nd rfl rfl (by decide) rfl rfl (pp_cons (pr_lst (as_nil)) (pp_cons (pr_var 1) (pp_nil))) rfl)
    (sq_cons (st_for ownD rfl (it_list (pr_var 2)) (tg_name (i := 5) nd rfl (by first | exact Or.inl rfl | exact Or.inr rfl)) (sq_cons (st_expr (pr_append (i := 3) rfl (by first | exact Or.inl rfl | exact Or.inr (Or.inl rfl) | exact Or.inr (Or.inr rfl)) (pr_ix (ix_B hu) d_ix (pr_ix (ix_B hu) d_ix (pr_fld m.c_Coder m.na_Coder_own_codes (pr_var 0)) (pr_var 4) (fun _ _ => rfl)) (pr_var 5) (fun _ _ => rfl))))
    (sq_one (st_asg (i := 4) nd rfl (by first | exact Or.inl rfl | exact Or.inr rfl) (pr_ix (ix_B hu) d_ix (pr_ix (ix_B hu) d_ix (pr_var 3) (pr_un un_neg d_negU (pr_int)) (fun _ _ => rfl)) (pr_int) (fun _ _ => rfl))))))
    (sq_one (st_ret (pr_var 3))))
abbrev N_blocks_of : List Str := ["coder", "state", "text", "block", "later"]
theorem sc_blocks_of : FnScope N_blocks_of ["coder", "state", "text"] (defScope (top 35)) := ⟨rfl, rfl, rfl, by decide +kernel, rfl, by decide +kernel, by decide +kernel⟩
theorem ok_blocks_of (m : M K mg) : FnG P w K mg base (L2.CX P w) 2 (He.ga K "blocks_of") m.fd_blocks_of ["coder", "state", "text"] (spF K [false, false, false] false (F_blocks_of K)) := by
  have h := fn_ok (P := P) (w := w) (mg := mg) (base := base) (k := 1) (ms := [false, false, false]) (own := false) (b := B_blocks_of K) m.F_blocks_of sc_blocks_of rfl
  refine h fun cdv A outer s H E hr => ?_
  have nd := sc_blocks_of.nd
  have hu64 := hr.units
  have hu : (A.deeper (PyProof.Rows.envOfC _ _ s.heap.objs.size _ cdv)).units + 1 < cLine := Nat.lt_of_le_of_lt (Nat.add_le_add_left (by decide) _) hu64
  exact sq_one (st_ret (pr_lc0 (hs0 := rfl) nd (it_list (pr_call (ok_entries_along m) (hr.mono (by decide)) rfl m.g_entries_along m.F_entries_along.kp (m.F_entries_along.bindsN fun _ _ _ _ _ _ us hl => match us, hl with | [_, _, _], _ => rfl) passD (ms_sh (pr_var 0) (ms_sh (pr_var 1) (ms_sh (pr_var 2) (ms_nil)))))) (blkOk_by (N := N_blocks_of) (sc := defScope (top 35)) (own := [("block", 3), ("later", 4)]) (by decide +kernel)) (by decide) (fun _ _ _ _ _ => tg_tup rfl (tgs_cons (tg_name (i := 3) nd rfl (by first | exact Or.inl rfl | exact Or.inr rfl)) (tgs_cons (tg_name (i := 4) nd rfl (by first | exact Or.inl rfl | exact Or.inr rfl)) (tgs_nil)))) (fun _ _ _ _ _ => pr_var 3)))
abbrev N_row_of : List Str := ["coder", "text"]
theorem sc_row_of : FnScope N_row_of ["coder", "text"] (defScope (top 36)) := ⟨rfl, rfl, rfl, by decide +kernel, rfl, by decide +kernel, by decide +kernel⟩
theorem ok_row_of (m : M K mg) : FnG P w K mg base (L2.CX P w) 3 (He.ga K "row_of") m.fd_row_of ["coder", "text"] (spF K [false, false] false (F_row_of K)) := by
  have h := fn_ok (P := P) (w := w) (mg := mg) (base := base) (k := 2) (ms := [false, false]) (own := false) (b := B_row_of K) m.F_row_of sc_row_of rfl
  refine h fun cdv A outer s H E hr => ?_
  have nd := sc_row_of.nd
  have hu64 := hr.units
  have hu : (A.deeper (PyProof.Rows.envOfC _ _ s.heap.objs.size _ cdv)).units + 1 < cLine := Nat.lt_of_le_of_lt (Nat.add_le_add_left (by decide) _) hu64
  exact sq_one (st_ret (pr_bin op_addB d_add (pr_fld m.c_Coder m.na_Coder_own_lead (pr_var 0)) (pr_join (pr_str) (pr_call (ok_blocks_of m) (hr.mono (by decide)) rfl m.g_blocks_of m.F_blocks_of.kp (m.F_blocks_of.bindsN fun _ _ _ _ _ _ us hl => match us, hl with | [_, _, _], _ => rfl) passD (ms_sh (pr_var 0) (ms_sh (pr_int) (ms_sh (pr_var 1) (ms_nil))))))))
abbrev N_Coder___call__ : List Str := ["self", "text"]
theorem sc_Coder___call__ : FnScope N_Coder___call__ ["self", "text"] (defScope (inClass (top 37) 9)) := ⟨rfl, rfl, rfl, by decide +kernel, rfl, by decide +kernel, by decide +kernel⟩
theorem ok_Coder___call__ (m : M K mg) : FnG P w K mg base (L2.CX P w) 5 (He.ma K (He.ga K "Coder") "__call__") m.fd_Coder___call__ ["self", "text"] (spF K [false, false] false (F_Coder___call__ K)) := by
  have h := fn_ok (P := P) (w := w) (mg := mg) (base := base) (k := 4) (ms := [false, false]) (own := false) (b := B_Coder___call__ K) m.F_Coder___call__ sc_Coder___call__ rfl
  refine h fun cdv A outer s H E hr => ?_
  have nd := sc_Coder___call__.nd
  have hu64 := hr.units
  have hu : (A.deeper (PyProof.Rows.envOfC _ _ s.heap.objs.size _ cdv)).units + 1 < cLine := Nat.lt_of_le_of_lt (Nat.add_le_add_left (by decide) _) hu64
  exact sq_cons (st_expr (pr_call (ok_want_text m) (hr.mono (by decide)) rfl m.g_want_text m.F_want_text.kp (m.F_want_text.bindsN fun _ _ _ _ _ _ us hl => match us, hl with | [_, _], _ => rfl) passD (ms_sh (pr_fld m.c_Coder m.na_Coder_own_rate (pr_var 0)) (ms_sh (pr_var 1) (ms_nil)))))
    (sq_one (st_ret (pr_call (ok_row_of m) (hr.mono (by decide)) rfl m.g_row_of m.F_row_of.kp (m.F_row_of.bindsN fun _ _ _ _ _ _ us hl => match us, hl with | [_, _], _ => rfl) passD (ms_sh (pr_var 0) (ms_sh (pr_var 1) (ms_nil))))))
abbrev N_Coder_want_state : List Str := ["self", "state"]
theorem sc_Coder_want_state : FnScope N_Coder_want_state ["self", "state"] (defScope (inClass (top 37) 4)) := ⟨rfl, rfl, rfl, by decide +kernel, rfl, by decide +kernel, by decide +kernel⟩
theorem ok_Coder_want_state (m : M K mg) : FnG P w K mg base (L2.CX P w) 3 (He.ma K (He.ga K "Coder") "want_state") m.fd_Coder_want_state ["self", "state"] (spF K [false, false] false (F_Coder_want_state K)) := by
  have h := fn_ok (P := P) (w := w) (mg := mg) (base := base) (k := 2) (ms := [false, false]) (own := false) (b := B_Coder_want_state K) m.F_Coder_want_state sc_Coder_want_state rfl
  refine h fun cdv A outer s H E hr => ?_
  have nd := sc_Coder_want_state.nd
  have hu64 := hr.units
  have hu : (A.deeper (PyProof.Rows.envOfC _ _ s.heap.objs.size _ cdv)).units + 1 < cLine := Nat.lt_of_le_of_lt (Nat.add_le_add_left (by decide) _) hu64
  exact sq_one (st_if (pb_w (pb_or (pb_not (pb_val (pr_call (ok_is_count m) (hr.mono (by decide)) rfl m.g_is_count m.F_is_count.kp (m.F_is_count.bindsN fun _ _ _ _ _ _ us hl => match us, hl with | [_], _ => rfl) passD (ms_sh (pr_var 1) (ms_nil))))) (pb_or1 (pb_cmp op_ge d_Ib (pr_var 1) (pr_callB call_lenK d_lenK rfl m.f_len (by decide +kernel) (hs_cons (pr_fld m.c_Coder m.na_Coder_own_codes (pr_var 0)) (hs_nil))) (nomark _))))) (sq_one (st_never)) (sq_nil))
abbrev N_end_of : List Str := ["coder", "state", "text", "found"]
theorem sc_end_of : FnScope N_end_of ["coder", "state", "text"] (defScope (top 34)) := ⟨rfl, rfl, rfl, by decide +kernel, rfl, by decide +kernel, by decide +kernel⟩
theorem ok_end_of (m : M K mg) : FnG P w K mg base (L2.CX P w) 2 (He.ga K "end_of") m.fd_end_of ["coder", "state", "text"] (spF K [false, false, false] false (F_end_of K)) := by
  have h := fn_ok (P := P) (w := w) (mg := mg) (base := base) (k := 1) (ms := [false, false, false]) (own := false) (b := B_end_of K) m.F_end_of sc_end_of rfl
  refine h fun cdv A outer s H E hr => ?_
  have nd := sc_end_of.nd
  have hu64 := hr.units
  have hu : (A.deeper (PyProof.Rows.envOfC _ _ s.heap.objs.size _ cdv)).units + 1 < cLine := Nat.lt_of_le_of_lt (Nat.add_le_add_left (by decide) _) hu64
  exact sq_cons (st_asg (i := 3) nd rfl (by first | exact Or.inl rfl | exact Or.inr rfl) (pr_call (ok_entries_along m) (hr.mono (by decide)) rfl m.g_entries_along m.F_entries_along.kp (m.F_entries_along.bindsN fun _ _ _ _ _ _ us hl => match us, hl with | [_, _, _], _ => rfl) passD (ms_sh (pr_var 0) (ms_sh (pr_var 1) (ms_sh (pr_var 2) (ms_nil))))))
    (sq_one (st_ret (pr_if (pb_cmp (op_neB hu64) d_ne (pr_var 3) (pr_lst (as_nil)) (nomark _)) (pr_ix (ix_B hu) d_ix (pr_ix (ix_B hu) d_ix (pr_var 3) (pr_un un_neg d_negU (pr_int)) (fun _ _ => rfl)) (pr_int) (fun _ _ => rfl)) (pr_var 1))))
abbrev N_Coder_end : List Str := ["self", "text", "state"]
theorem sc_Coder_end : FnScope N_Coder_end ["self", "text", "state"] (defScope (inClass (top 37) 6)) := ⟨rfl, rfl, rfl, by decide +kernel, rfl, by decide +kernel, by decide +kernel⟩
theorem ok_Coder_end (m : M K mg) : FnG P w K mg base (L2.CX P w) 5 (He.ma K (He.ga K "Coder") "end") m.fd_Coder_end ["self", "text", "state"] (spF K [false, false, false] false (F_Coder_end K)) := by
  have h := fn_ok (P := P) (w := w) (mg := mg) (base := base) (k := 4) (ms := [false, false, false]) (own := false) (b := B_Coder_end K) m.F_Coder_end sc_Coder_end rfl
  refine h fun cdv A outer s H E hr => ?_
  have nd := sc_Coder_end.nd
  have hu64 := hr.units
  have hu : (A.deeper (PyProof.Rows.envOfC _ _ s.heap.objs.size _ cdv)).units + 1 < cLine := Nat.lt_of_le_of_lt (Nat.add_le_add_left (by decide) _) hu64
  exact sq_cons (st_expr (pr_call (ok_want_text m) (hr.mono (by decide)) rfl m.g_want_text m.F_want_text.kp (m.F_want_text.bindsN fun _ _ _ _ _ _ us hl => match us, hl with | [_, _], _ => rfl) passD (ms_sh (pr_fld m.c_Coder m.na_Coder_own_rate (pr_var 0)) (ms_sh (pr_var 1) (ms_nil)))))
    (sq_cons (st_expr (pr_meth (pr_var 0) m.c_Coder m.me_Coder_want_state (ok_Coder_want_state m) (hr.mono (by decide)) (m.F_Coder_want_state.bindsN fun _ _ _ _ _ _ us hl => match us, hl with | [_, _], _ => rfl) .nil (fun _ => .nil) passD (as_cons (PR.v (pr_var 2)) (as_nil)) (by decide) (al_cons (al_nil))))
    (sq_one (st_ret (pr_call (ok_end_of m) (hr.mono (by decide)) rfl m.g_end_of m.F_end_of.kp (m.F_end_of.bindsN fun _ _ _ _ _ _ us hl => match us, hl with | [_, _, _], _ => rfl) passD (ms_sh (pr_var 0) (ms_sh (pr_var 2) (ms_sh (pr_var 1) (ms_nil))))))))
theorem BD_Coder_end (m : M K mg) : Binds K m.fd_Coder_end ["self", "text", "state"] [] := by
  obtain ⟨ds, h1, h2⟩ := m.F_Coder_end.binds1 3 1 (ps := ["self", "text", "state"]) (by simp) rfl fun _ _ _ _ _ _ _ us its hl hi => match us, its, hl, hi with | [_, _, _], [_], _, _ => ⟨_, rfl, rfl⟩
  cases h1
  exact h2
theorem BD_Coder_end_2 (m : M K mg) : ∃ ds, Vals [.int 0] ds ∧ Binds K m.fd_Coder_end ["self", "text", "state"] ds := by
  refine m.F_Coder_end.binds1 2 0 (ps := ["self", "text", "state"]) (by simp) rfl fun _ _ _ _ _ _ _ us its hl hi => match us, its, hl, hi with | [_, _], [_], _, _ => ⟨_, rfl, rfl⟩
abbrev N__law_beside_right : List Str := ["_law_pot_here", "_law_one", "_law_two", "_law_pace", "_law_due", "_law_words_here"]
theorem sc__law_beside_right : FnScope N__law_beside_right ["_law_pot_here", "_law_one", "_law_two", "_law_pace"] (defScope (top 54)) := ⟨rfl, rfl, rfl, by decide +kernel, rfl, by decide +kernel, by decide +kernel⟩
theorem ok__law_beside_right (m : M K mg) : FnG P w K mg base (L2.CX P w) 6 (He.ga K "_law_beside_right") m.fd__law_beside_right ["_law_pot_here", "_law_one", "_law_two", "_law_pace"] (spF K [true, false, false, false] false (F__law_beside_right K)) := by
  have h := fn_ok (P := P) (w := w) (mg := mg) (base := base) (k := 5) (ms := [true, false, false, false]) (own := false) (b := B__law_beside_right K) m.F__law_beside_right sc__law_beside_right rfl
  refine h fun cdv A outer s H E hr => ?_
  have nd := sc__law_beside_right.nd
  have hu64 := hr.units
  have hu : (A.deeper (PyProof.Rows.envOfC _ _ s.heap.objs.size _ cdv)).units + 1 < cLine := Nat.lt_of_le_of_lt (Nat.add_le_add_left (by decide) _) hu64
  exact sq_cons (st_asg (i := 4) nd rfl (by first | exact Or.inl rfl | exact Or.inr rfl) (pr_cmp (op_eqB hu64) d_eq (pr_call (ok__law_told m) (hr.mono (by decide)) rfl m.g__law_told m.F__law_told.kp (m.F__law_told.bindsN fun _ _ _ _ _ _ us hl => match us, hl with | [_], _ => rfl) passD (ms_sh (pr_var 1) (ms_nil))) (pr_call (ok__law_told m) (hr.mono (by decide)) rfl m.g__law_told m.F__law_told.kp (m.F__law_told.bindsN fun _ _ _ _ _ _ us hl => match us, hl with | [_], _ => rfl) passD (ms_sh (pr_var 2) (ms_nil))) (nomark _)))
    (sq_cons (st_if (pb_cmp (op_neB hu64) d_ne (pr_callB (call_reprD hr.gd hu64) d_repr rfl m.f_repr (by decide +kernel) (hs_cons (pr_lst (as_cons (PR.v (pr_eqO m.ri_Coder m.sp_Coder___eq__ (ok_Coder___eq__ m) (hr.mono (by decide)) (m.F_Coder___eq__.bindsN fun _ _ _ _ _ _ us hl => match us, hl with | [_, _], _ => rfl) passF (pr_var 1) (pr_var 2))) (as_cons (PR.v (pr_eqO m.ri_Coder m.sp_Coder___eq__ (ok_Coder___eq__ m) (hr.mono (by decide)) (m.F_Coder___eq__.bindsN fun _ _ _ _ _ _ us hl => match us, hl with | [_, _], _ => rfl) passF (pr_var 2) (pr_var 1))) (as_cons (PR.v (pr_neO m.ri_Coder m.nn_Coder m.sp_Coder___eq__ (ok_Coder___eq__ m) (hr.mono (by decide)) (m.F_Coder___eq__.bindsN fun _ _ _ _ _ _ us hl => match us, hl with | [_, _], _ => rfl) passF (pr_var 1) (pr_var 2))) (as_cons (PR.v (pr_neO m.ri_Coder m.nn_Coder m.sp_Coder___eq__ (ok_Coder___eq__ m) (hr.mono (by decide)) (m.F_Coder___eq__.bindsN fun _ _ _ _ _ _ us hl => match us, hl with | [_, _], _ => rfl) passF (pr_var 2) (pr_var 1))) (as_nil)))))) (hs_nil))) (pr_callB (call_reprD hr.gd hu64) d_repr rfl m.f_repr (by decide +kernel) (hs_cons (pr_lst (as_cons (PR.v (pr_var 4)) (as_cons (PR.v (pr_var 4)) (as_cons (PR.v (pr_not (pr_var 4))) (as_cons (PR.v (pr_not (pr_var 4))) (as_nil)))))) (hs_nil))) (nomark _)) (sq_one (st_ret (pr_bl))) (sq_nil))
    (sq_cons (st_asg (i := 5) nd rfl (by first | exact Or.inl rfl | exact Or.inr rfl) (pr_call (ok__law_words m) (hr.mono (by decide)) rfl m.g__law_words m.F__law_words.kp (m.F__law_words.bindsN fun _ _ _ _ _ _ us hl => match us, hl with | [_, _, _], _ => rfl) passD (ms_io (pr_var 0) (ms_sh (pr_var 3) (ms_sh (pr_int) (ms_nil))))))
    (sq_one (st_ret (pr_or (pr_not (pr_var 4)) (pr_one (pr_and (pr_cmp (op_eqB hu64) d_eq (pr_callO (i := 1) m.sp_Coder___call__ m.fi_Coder___call__ (ok_Coder___call__ m) (hr.mono (by decide)) rfl (by first | exact Or.inl rfl | exact Or.inr (Or.inl rfl) | exact Or.inr (Or.inr rfl)) (m.F_Coder___call__.bindsN fun _ _ _ _ _ _ us hl => match us, hl with | [_, _], _ => rfl) passD (as_cons (PR.v (pr_var 5)) (as_nil)) (by decide) (al_cons (al_nil))) (pr_callO (i := 2) m.sp_Coder___call__ m.fi_Coder___call__ (ok_Coder___call__ m) (hr.mono (by decide)) rfl (by first | exact Or.inl rfl | exact Or.inr (Or.inl rfl) | exact Or.inr (Or.inr rfl)) (m.F_Coder___call__.bindsN fun _ _ _ _ _ _ us hl => match us, hl with | [_, _], _ => rfl) passD (as_cons (PR.v (pr_var 5)) (as_nil)) (by decide) (al_cons (al_nil))) (nomark _)) (pr_one (pr_cmp (op_eqB hu64) d_eq (pr_meth (dD := [.int 0]) (pr_var 1) m.c_Coder m.me_Coder_end (ok_Coder_end m) (hr.mono (by decide)) (BD_Coder_end_2 m).choose_spec.2 (BD_Coder_end_2 m).choose_spec.1 (fun _ => .cons rep_int (.nil)) passD (as_cons (PR.v (pr_var 5)) (as_nil)) (by decide) (al_cons (al_nil))) (pr_meth (dD := [.int 0]) (pr_var 2) m.c_Coder m.me_Coder_end (ok_Coder_end m) (hr.mono (by decide)) (BD_Coder_end_2 m).choose_spec.2 (BD_Coder_end_2 m).choose_spec.1 (fun _ => .cons rep_int (.nil)) passD (as_cons (PR.v (pr_var 5)) (as_nil)) (by decide) (al_cons (al_nil))) (nomark _))))))))))
abbrev N__law_doubled : List Str := ["_law_pot_here", "_law_chart", "_law_found", "_law_turn", "_law_line", "_law_piece", "_law_to"]
theorem sc__law_doubled : FnScope N__law_doubled ["_law_pot_here", "_law_chart"] (defScope (top 52)) := ⟨rfl, rfl, rfl, by decide +kernel, rfl, by decide +kernel, by decide +kernel⟩
theorem ok__law_doubled (m : M K mg) : FnG P w K mg base (L2.CX P w) 2 (He.ga K "_law_doubled") m.fd__law_doubled ["_law_pot_here", "_law_chart"] (spF K [true, false] false (F__law_doubled K)) := by
  have h := fn_ok (P := P) (w := w) (mg := mg) (base := base) (k := 1) (ms := [true, false]) (own := false) (b := B__law_doubled K) m.F__law_doubled sc__law_doubled rfl
  refine h fun cdv A outer s H E hr => ?_
  have nd := sc__law_doubled.nd
  have hu64 := hr.units
  have hu : (A.deeper (PyProof.Rows.envOfC _ _ s.heap.objs.size _ cdv)).units + 1 < cLine := Nat.lt_of_le_of_lt (Nat.add_le_add_left (by decide) _) hu64
  exact sq_cons (st_asg (i := 2) nd rfl (by first | exact Or.inl rfl | exact Or.inr rfl) (pr_lst (as_nil)))
    (sq_cons (st_for ownD rfl (it_range1 rfl m.f_range (as_cons (PR.v (pr_int)) (as_nil))) (tg_name (i := 3) nd rfl (by first | exact Or.inl rfl | exact Or.inr rfl)) (sq_one (st_for ownD rfl (it_list (pr_var 1)) (tg_name (i := 4) nd rfl (by first | exact Or.inl rfl | exact Or.inr rfl)) (sq_one (st_expr (pr_append (i := 2) rfl (by first | exact Or.inl rfl | exact Or.inr (Or.inl rfl) | exact Or.inr (Or.inr rfl)) (pr_lc0 (hs0 := rfl) nd (it_list (pr_var 4)) (blkOk_by (N := N__law_doubled) (sc := defScope (top 52)) (own := [("_law_piece", 5), ("_law_to", 6)]) (by decide +kernel)) (by decide) (fun _ _ _ _ _ => tg_tup rfl (tgs_cons (tg_name (i := 5) nd rfl (by first | exact Or.inl rfl | exact Or.inr rfl)) (tgs_cons (tg_name (i := 6) nd rfl (by first | exact Or.inl rfl | exact Or.inr rfl)) (tgs_nil)))) (fun _ _ _ _ _ => pr_tup (as_cons (PR.v (pr_var 5)) (as_cons (PR.v (pr_bin op_addB d_add (pr_var 6) (pr_bin op_mulB d_mul (pr_callB call_lenK d_lenK rfl m.f_len (by decide +kernel) (hs_cons (pr_var 1) (hs_nil))) (pr_call (ok__law_draw m) (hr.mono (by decide)) rfl m.g__law_draw m.F__law_draw.kp (m.F__law_draw.bindsN fun _ _ _ _ _ _ us hl => match us, hl with | [_, _], _ => rfl) pass00 (ms_io (pr_var 0) (ms_sh (pr_int) (ms_nil))))))) (as_nil)))))))))))
    (sq_one (st_ret (pr_var 2))))
abbrev N__law_other : List Str := ["_law_pot_here", "_law_chart", "_law_found", "_law_line", "_law_at", "_law_spot_now", "_law_piece", "_law_to", "_law_place"]
theorem sc__law_other : FnScope N__law_other ["_law_pot_here", "_law_chart"] (defScope (top 53)) := ⟨rfl, rfl, rfl, by decide +kernel, rfl, by decide +kernel, by decide +kernel⟩
theorem ok__law_other (m : M K mg) : FnG P w K mg base (L2.CX P w) 3 (He.ga K "_law_other") m.fd__law_other ["_law_pot_here", "_law_chart"] (spF K [true, false] false (F__law_other K)) := by
  have h := fn_ok (P := P) (w := w) (mg := mg) (base := base) (k := 2) (ms := [true, false]) (own := false) (b := B__law_other K) m.F__law_other sc__law_other rfl
  refine h fun cdv A outer s H E hr => ?_
  have nd := sc__law_other.nd
  have hu64 := hr.units
  have hu : (A.deeper (PyProof.Rows.envOfC _ _ s.heap.objs.size _ cdv)).units + 1 < cLine := Nat.lt_of_le_of_lt (Nat.add_le_add_left (by decide) _) hu64
  exact sq_cons (st_asgLcT (i := 2) (hs0 := rfl) nd rfl rfl (it_list (pr_var 1)) (blkOk_by (N := N__law_other) (sc := defScope (top 53)) (own := [("_law_line", 3)]) (by decide +kernel)) (by decide) (fun _ _ _ _ _ => tg_name (i := 3) nd rfl (by first | exact Or.inl rfl | exact Or.inr rfl)) (fun _ _ _ _ _ => pr_callTy call_list_of d_list rfl m.f_list (by decide +kernel) (hs_cons (pr_var 3) (hs_nil))))
    (sq_cons (st_asg (i := 4) nd rfl (by first | exact Or.inl rfl | exact Or.inr rfl) (pr_call (ok__law_draw m) (hr.mono (by decide)) rfl m.g__law_draw m.F__law_draw.kp (m.F__law_draw.bindsN fun _ _ _ _ _ _ us hl => match us, hl with | [_, _], _ => rfl) passD (ms_io (pr_var 0) (ms_sh (pr_lenQ rfl m.f_len (pr_var 2)) (ms_nil)))))
    (sq_cons (st_asg (i := 5) nd rfl (by first | exact Or.inl rfl | exact Or.inr rfl) (pr_call (ok__law_draw m) (hr.mono (by decide)) rfl m.g__law_draw m.F__law_draw.kp (m.F__law_draw.bindsN fun _ _ _ _ _ _ us hl => match us, hl with | [_, _], _ => rfl) passD (ms_io (pr_var 0) (ms_sh (pr_lenQ rfl m.f_len (pr_ixT (pr_var 2) (pr_var 4) (fun _ _ => rfl))) (ms_nil)))))
    (sq_cons (st_asgT (tg_tup rfl (tgs_cons (tg_name (i := 6) nd rfl (by first | exact Or.inl rfl | exact Or.inr rfl)) (tgs_cons (tg_name (i := 7) nd rfl (by first | exact Or.inl rfl | exact Or.inr rfl)) (tgs_nil)))) (pr_ixT (pr_ixT (pr_var 2) (pr_var 4) (fun _ _ => rfl)) (pr_var 5) (fun _ _ => rfl)))
    (sq_cons (st_if (pb_cmp (op_eqB hu64) d_eq (pr_call (ok__law_draw m) (hr.mono (by decide)) rfl m.g__law_draw m.F__law_draw.kp (m.F__law_draw.bindsN fun _ _ _ _ _ _ us hl => match us, hl with | [_, _], _ => rfl) passD (ms_io (pr_var 0) (ms_sh (pr_int) (ms_nil)))) (pr_int) (nomark _)) (sq_one (st_setT (pr_tup (as_cons (PR.v (pr_var 6)) (as_cons (PR.v (pr_bin op_mod d_Ic (pr_bin op_addB d_add (pr_var 7) (pr_int)) (pr_lenQ rfl m.f_len (pr_var 2)))) (as_nil)))) (pr_ixT (pr_var 2) (pr_var 4) (fun _ _ => rfl)) (pr_var 5))) (sq_cons (st_asg (i := 8) nd rfl (by first | exact Or.inl rfl | exact Or.inr rfl) (pr_call (ok__law_draw m) (hr.mono (by decide)) rfl m.g__law_draw m.F__law_draw.kp (m.F__law_draw.bindsN fun _ _ _ _ _ _ us hl => match us, hl with | [_, _], _ => rfl) passD (ms_io (pr_var 0) (ms_sh (pr_callB call_lenK d_lenK rfl m.f_len (by decide +kernel) (hs_cons (pr_var 6) (hs_nil))) (ms_nil)))))
    (sq_one (st_setT (pr_tup (as_cons (PR.v (pr_bin op_addB d_add (pr_bin op_addB d_add (pr_slice (pr_var 6) (op_none) (op_some (pr_var 8))) (pr_call (ok__law_pick m) (hr.mono (by decide)) rfl m.g__law_pick m.F__law_pick.kp (m.F__law_pick.bindsN fun _ _ _ _ _ _ us hl => match us, hl with | [_, _], _ => rfl) passD (ms_io (pr_var 0) (ms_sh (pr_str) (ms_nil))))) (pr_slice (pr_var 6) (op_some (pr_bin op_addB d_add (pr_var 8) (pr_int))) (op_none)))) (as_cons (PR.v (pr_var 7)) (as_nil)))) (pr_ixT (pr_var 2) (pr_var 4) (fun _ _ => rfl)) (pr_var 5)))))
    (sq_one (st_ret (pr_var 2)))))))
abbrev N_Coder___repr__ : List Str := ["self"]
theorem sc_Coder___repr__ : FnScope N_Coder___repr__ ["self"] (defScope (inClass (top 37) 14)) := ⟨rfl, rfl, rfl, by decide +kernel, rfl, by decide +kernel, by decide +kernel⟩
theorem ok_Coder___repr__ (m : M K mg) : FnG P w K mg base (L2.CX P w) 4 (He.ma K (He.ga K "Coder") "__repr__") m.fd_Coder___repr__ ["self"] (spF K [false] false (F_Coder___repr__ K)) := by
  have h := fn_ok (P := P) (w := w) (mg := mg) (base := base) (k := 3) (ms := [false]) (own := false) (b := B_Coder___repr__ K) m.F_Coder___repr__ sc_Coder___repr__ rfl
  refine h fun cdv A outer s H E hr => ?_
  have nd := sc_Coder___repr__.nd
  have hu64 := hr.units
  have hu : (A.deeper (PyProof.Rows.envOfC _ _ s.heap.objs.size _ cdv)).units + 1 < cLine := Nat.lt_of_le_of_lt (Nat.add_le_add_left (by decide) _) hu64
  exact sq_one (st_ret (pr_joined (js_cons (pr_str) (js_cons (pr_fvO m.fm_Rate (ok_Rate___str__ m) (hr.mono (by decide)) (m.F_Rate___str__.bindsN fun _ _ _ _ _ _ us hl => match us, hl with | [_], _ => rfl) passF (pr_fld m.c_Coder m.na_Coder_own_rate (pr_var 0))) (js_cons (pr_str) (js_cons (pr_fv (pr_callB call_lenK d_lenK rfl m.f_len (by decide +kernel) (hs_cons (pr_fld m.c_Coder m.na_Coder_own_codes (pr_var 0)) (hs_nil)))) (js_cons (pr_str) (js_nil))))))))
abbrev N__law_right : List Str := ["_law_pot_here", "_law_pace", "_law_chart", "_law_start", "_law_made_here", "_law_kept_here", "_law_shown", "_law_wide", "_law_other_here", "_law_same", "_law_near", "_law_single", "_law_line", "_law_piece", "_law_to", "_law_thing"]
theorem sc__law_right : FnScope N__law_right ["_law_pot_here"] (defScope (top 55)) := ⟨rfl, rfl, rfl, by decide +kernel, rfl, by decide +kernel, by decide +kernel⟩
theorem ok__law_right (m : M K mg) : FnG P w K mg base (L2.CX P w) 10 (He.ga K "_law_right") m.fd__law_right ["_law_pot_here"] (spF K [true] false (F__law_right K)) := by
  have h := fn_ok (P := P) (w := w) (mg := mg) (base := base) (k := 9) (ms := [true]) (own := false) (b := B__law_right K) m.F__law_right sc__law_right rfl
  refine h fun cdv A outer s H E hr => ?_
  have nd := sc__law_right.nd
  have hu64 := hr.units
  have hu : (A.deeper (PyProof.Rows.envOfC _ _ s.heap.objs.size _ cdv)).units + 1 < cLine := Nat.lt_of_le_of_lt (Nat.add_le_add_left (by decide) _) hu64
  exact sq_cons (st_asg (i := 1) nd rfl (by first | exact Or.inl rfl | exact Or.inr rfl) (pr_tup (as_cons (PR.v (pr_bin op_addB d_add (pr_int) (pr_call (ok__law_draw m) (hr.mono (by decide)) rfl m.g__law_draw m.F__law_draw.kp (m.F__law_draw.bindsN fun _ _ _ _ _ _ us hl => match us, hl with | [_, _], _ => rfl) passD (ms_io (pr_var 0) (ms_sh (pr_int) (ms_nil)))))) (as_cons (PR.v (pr_bin op_addB d_add (pr_int) (pr_call (ok__law_draw m) (hr.mono (by decide)) rfl m.g__law_draw m.F__law_draw.kp (m.F__law_draw.bindsN fun _ _ _ _ _ _ us hl => match us, hl with | [_, _], _ => rfl) passD (ms_io (pr_var 0) (ms_sh (pr_int) (ms_nil)))))) (as_nil)))))
    (sq_cons (st_par (i := 2) (j := 3) rfl nd rfl rfl (by decide) rfl rfl (pp_cons (pr_call (ok__law_loose_codes m) (hr.mono (by decide)) rfl m.g__law_loose_codes m.F__law_loose_codes.kp (m.F__law_loose_codes.bindsN fun _ _ _ _ _ _ us hl => match us, hl with | [_, _, _, _], _ => rfl) passD (ms_io (pr_var 0) (ms_sh (pr_var 1) (ms_sh (pr_int) (ms_sh (pr_str) (ms_nil)))))) (pp_cons (pr_call (ok__law_pick m) (hr.mono (by decide)) rfl m.g__law_pick m.F__law_pick.kp (m.F__law_pick.bindsN fun _ _ _ _ _ _ us hl => match us, hl with | [_, _], _ => rfl) passD (ms_io (pr_var 0) (ms_sh (pr_lst (as_cons (PR.v (pr_str)) (as_cons (PR.v (pr_str)) (as_cons (PR.v (pr_str)) (as_nil))))) (ms_nil)))) (pp_nil))) rfl)
    (sq_cons (st_parC (i := 4) (j := 5) rfl nd rfl rfl (by first | exact Or.inl rfl | exact Or.inr rfl) (by first | exact Or.inl rfl | exact Or.inr rfl) (pp_cons (pr_call (ok__law_made m) (hr.mono (by decide)) rfl m.g__law_made m.F__law_made.kp (m.F__law_made.bindsN fun _ _ _ _ _ _ us hl => match us, hl with | [_, _, _], _ => rfl) passD (ms_sh (pr_var 1) (ms_sh (pr_var 2) (ms_sh (pr_var 3) (ms_nil))))) (pp_cons (pr_call (ok__law_kept m) (hr.mono (by decide)) rfl m.g__law_kept m.F__law_kept.kp (m.F__law_kept.bindsN fun _ _ _ _ _ _ us hl => match us, hl with | [_], _ => rfl) passD (ms_sh (pr_var 2) (ms_nil))) (pp_nil))))
    (sq_cons (st_asg (i := 6) nd rfl (by first | exact Or.inl rfl | exact Or.inr rfl) (pr_callB (call_reprD hr.gd hu64) d_repr rfl m.f_repr (by decide +kernel) (hs_cons (pr_call (ok__law_told m) (hr.mono (by decide)) rfl m.g__law_told m.F__law_told.kp (m.F__law_told.bindsN fun _ _ _ _ _ _ us hl => match us, hl with | [_], _ => rfl) passD (ms_sh (pr_var 4) (ms_nil))) (hs_nil))))
    (sq_cons (st_if (pb_cmp (op_neB hu64) d_ne (pr_var 6) (pr_callB (call_reprD hr.gd hu64) d_repr rfl m.f_repr (by decide +kernel) (hs_cons (pr_lst (as_cons (PR.v (pr_bin op_addB d_add (pr_bin op_addB d_add (pr_callTy call_str_int d_strI rfl m.f_str (by decide +kernel) (hs_cons (pr_ix (ix_B hu) d_ix (pr_var 1) (pr_int) (fun _ _ => rfl)) (hs_nil))) (pr_str)) (pr_callTy call_str_int d_strI rfl m.f_str (by decide +kernel) (hs_cons (pr_ix (ix_B hu) d_ix (pr_var 1) (pr_int) (fun _ _ => rfl)) (hs_nil))))) (as_cons (PR.v (pr_var 3)) (as_cons (PR.v (pr_var 5)) (as_cons (PR.v (pr_callB call_lenK d_lenK rfl m.f_len (by decide +kernel) (hs_cons (pr_var 5) (hs_nil)))) (as_nil)))))) (hs_nil))) (nomark _)) (sq_one (st_ret (pr_bl))) (sq_nil))
    (sq_cons (st_asg (i := 7) nd rfl (by first | exact Or.inl rfl | exact Or.inr rfl) (pr_call (ok__law_wider m) (hr.mono (by decide)) rfl m.g__law_wider m.F__law_wider.kp (m.F__law_wider.bindsN fun _ _ _ _ _ _ us hl => match us, hl with | [_, _, _], _ => rfl) passD (ms_io (pr_var 0) (ms_sh (pr_var 1) (ms_sh (pr_var 2) (ms_nil))))))
    (sq_cons (st_for ownD rfl (it_list (pr_lst (as_cons (PR.v (pr_call (ok__law_turned m) (hr.mono (by decide)) rfl m.g__law_turned m.F__law_turned.kp (m.F__law_turned.bindsN fun _ _ _ _ _ _ us hl => match us, hl with | [_, _], _ => rfl) passD (ms_io (pr_var 0) (ms_sh (pr_var 2) (ms_nil))))) (as_cons (PR.v (pr_var 7)) (as_cons (PR.v (pr_call (ok__law_turned m) (hr.mono (by decide)) rfl m.g__law_turned m.F__law_turned.kp (m.F__law_turned.bindsN fun _ _ _ _ _ _ us hl => match us, hl with | [_, _], _ => rfl) passD (ms_io (pr_var 0) (ms_sh (pr_var 7) (ms_nil))))) (as_nil)))))) (tg_name (i := 8) nd rfl (by first | exact Or.inl rfl | exact Or.inr rfl)) (sq_cons (st_asg (i := 9) nd rfl (by first | exact Or.inl rfl | exact Or.inr rfl) (pr_call (ok__law_made m) (hr.mono (by decide)) rfl m.g__law_made m.F__law_made.kp (m.F__law_made.bindsN fun _ _ _ _ _ _ us hl => match us, hl with | [_, _, _], _ => rfl) passD (ms_sh (pr_var 1) (ms_sh (pr_var 8) (ms_sh (pr_var 3) (ms_nil))))))
    (sq_one (st_if (pb_w (pb_or (pb_cmp (op_neB hu64) d_ne (pr_callB (call_reprD hr.gd hu64) d_repr rfl m.f_repr (by decide +kernel) (hs_cons (pr_call (ok__law_told m) (hr.mono (by decide)) rfl m.g__law_told m.F__law_told.kp (m.F__law_told.bindsN fun _ _ _ _ _ _ us hl => match us, hl with | [_], _ => rfl) passD (ms_sh (pr_var 9) (ms_nil))) (hs_nil))) (pr_var 6) (nomark _)) (pb_or (pb_not (pb_eqO m.ri_Coder m.sp_Coder___eq__ (ok_Coder___eq__ m) (hr.mono (by decide)) (m.F_Coder___eq__.bindsN fun _ _ _ _ _ _ us hl => match us, hl with | [_, _], _ => rfl) passF (pr_var 4) (pr_var 9))) (pb_or1 (pb_neO m.ri_Coder m.nn_Coder m.sp_Coder___eq__ (ok_Coder___eq__ m) (hr.mono (by decide)) (m.F_Coder___eq__.bindsN fun _ _ _ _ _ _ us hl => match us, hl with | [_, _], _ => rfl) passF (pr_var 4) (pr_var 9)))))) (sq_one (st_ret (pr_bl))) (sq_nil)))))
    (sq_cons (st_if (pb_w (pb_or (pb_not (pb_eqO m.ri_Coder m.sp_Coder___eq__ (ok_Coder___eq__ m) (hr.mono (by decide)) (m.F_Coder___eq__.bindsN fun _ _ _ _ _ _ us hl => match us, hl with | [_, _], _ => rfl) passF (pr_var 4) (pr_call (ok__law_made m) (hr.mono (by decide)) rfl m.g__law_made m.F__law_made.kp (m.F__law_made.bindsN fun _ _ _ _ _ _ us hl => match us, hl with | [_, _, _], _ => rfl) passD (ms_sh (pr_var 1) (ms_sh (pr_var 5) (ms_sh (pr_var 3) (ms_nil))))))) (pb_or1 (pb_not (pb_eqO m.ri_Coder m.sp_Coder___eq__ (ok_Coder___eq__ m) (hr.mono (by decide)) (m.F_Coder___eq__.bindsN fun _ _ _ _ _ _ us hl => match us, hl with | [_, _], _ => rfl) passF (pr_var 4) (pr_call (ok__law_made m) (hr.mono (by decide)) rfl m.g__law_made m.F__law_made.kp (m.F__law_made.bindsN fun _ _ _ _ _ _ us hl => match us, hl with | [_, _, _], _ => rfl) passD (ms_sh (pr_var 1) (ms_sh (pr_meth0 (ms := []) (pr_var 4) m.c_Coder m.me_Coder_codes (ok_Coder_codes m) (hr.mono (by decide)) (m.F_Coder_codes.bindsN fun _ _ _ _ _ _ us hl => match us, hl with | [_], _ => rfl) .nil (fun _ => .nil) passD) (ms_sh (pr_prop (pr_var 4) m.c_Coder m.pr_Coder_lead (ok_Coder_lead m) (hr.mono (by decide)) (m.F_Coder_lead.bindsN fun _ _ _ _ _ _ us hl => match us, hl with | [_], _ => rfl) pass00) (ms_nil)))))))))) (sq_one (st_ret (pr_bl))) (sq_nil))
    (sq_cons (st_for ownD rfl (it_list (pr_lst (as_cons (PR.v (pr_call (ok__law_other m) (hr.mono (by decide)) rfl m.g__law_other m.F__law_other.kp (m.F__law_other.bindsN fun _ _ _ _ _ _ us hl => match us, hl with | [_, _], _ => rfl) passD (ms_io (pr_var 0) (ms_sh (pr_var 2) (ms_nil))))) (as_cons (PR.v (pr_call (ok__law_other m) (hr.mono (by decide)) rfl m.g__law_other m.F__law_other.kp (m.F__law_other.bindsN fun _ _ _ _ _ _ us hl => match us, hl with | [_, _], _ => rfl) passD (ms_io (pr_var 0) (ms_sh (pr_var 2) (ms_nil))))) (as_cons (PR.v (pr_call (ok__law_doubled m) (hr.mono (by decide)) rfl m.g__law_doubled m.F__law_doubled.kp (m.F__law_doubled.bindsN fun _ _ _ _ _ _ us hl => match us, hl with | [_, _], _ => rfl) passD (ms_io (pr_var 0) (ms_sh (pr_var 2) (ms_nil))))) (as_nil)))))) (tg_name (i := 8) nd rfl (by first | exact Or.inl rfl | exact Or.inr rfl)) (sq_cons (st_asg (i := 10) nd rfl (by first | exact Or.inl rfl | exact Or.inr rfl) (pr_call (ok__law_made m) (hr.mono (by decide)) rfl m.g__law_made m.F__law_made.kp (m.F__law_made.bindsN fun _ _ _ _ _ _ us hl => match us, hl with | [_, _, _], _ => rfl) passD (ms_sh (pr_var 1) (ms_sh (pr_var 8) (ms_sh (pr_var 3) (ms_nil))))))
    (sq_one (st_if (pb_w (pb_or (pb_cmp (op_neB hu64) d_ne (pr_meth0 (ms := []) (pr_var 10) m.c_Coder m.me_Coder_codes (ok_Coder_codes m) (hr.mono (by decide)) (m.F_Coder_codes.bindsN fun _ _ _ _ _ _ us hl => match us, hl with | [_], _ => rfl) .nil (fun _ => .nil) passD) (pr_call (ok__law_kept m) (hr.mono (by decide)) rfl m.g__law_kept m.F__law_kept.kp (m.F__law_kept.bindsN fun _ _ _ _ _ _ us hl => match us, hl with | [_], _ => rfl) passD (ms_sh (pr_var 8) (ms_nil))) (nomark _)) (pb_or1 (pb_not (pb_val (pr_call (ok__law_beside_right m) (hr.mono (by decide)) rfl m.g__law_beside_right m.F__law_beside_right.kp (m.F__law_beside_right.bindsN fun _ _ _ _ _ _ us hl => match us, hl with | [_, _, _, _], _ => rfl) passD (ms_io (pr_var 0) (ms_sh (pr_var 4) (ms_sh (pr_var 10) (ms_sh (pr_var 1) (ms_nil))))))))))) (sq_one (st_ret (pr_bl))) (sq_nil)))))
    (sq_cons (st_if (pb_not (pb_val (pr_call (ok__law_beside_right m) (hr.mono (by decide)) rfl m.g__law_beside_right m.F__law_beside_right.kp (m.F__law_beside_right.bindsN fun _ _ _ _ _ _ us hl => match us, hl with | [_, _, _, _], _ => rfl) passD (ms_io (pr_var 0) (ms_sh (pr_var 4) (ms_sh (pr_call (ok__law_made m) (hr.mono (by decide)) rfl m.g__law_made m.F__law_made.kp (m.F__law_made.bindsN fun _ _ _ _ _ _ us hl => match us, hl with | [_, _, _], _ => rfl) passD (ms_sh (pr_var 1) (ms_sh (pr_var 2) (ms_sh (pr_bin op_addB d_add (pr_var 3) (pr_str)) (ms_nil))))) (ms_sh (pr_var 1) (ms_nil)))))))) (sq_one (st_ret (pr_bl))) (sq_nil))
    (sq_cons (st_asgLc0 (i := 11) (hs0 := rfl) nd rfl rfl (it_list (pr_var 2)) (blkOk_by (N := N__law_right) (sc := defScope (top 55)) (own := [("_law_line", 12)]) (by decide +kernel)) (by decide) (fun _ _ _ _ _ => tg_name (i := 12) nd rfl (by first | exact Or.inl rfl | exact Or.inr rfl)) (fun _ _ _ _ _ => pr_lc0 (hs0 := rfl) nd (it_list (pr_var 12)) (blkOk_by (own := [("_law_piece", 13), ("_law_to", 14)]) (by kernel_rfl)) (by decide) (fun _ _ _ _ _ => tg_tup rfl (tgs_cons (tg_name (i := 13) nd rfl (by first | exact Or.inl rfl | exact Or.inr rfl)) (tgs_cons (tg_name (i := 14) nd rfl (by first | exact Or.inl rfl | exact Or.inr rfl)) (tgs_nil)))) (fun _ _ _ _ _ => pr_tup (as_cons (PR.v (pr_bin op_addB d_add (pr_var 13) (pr_str))) (as_cons (PR.v (pr_var 14)) (as_nil))))))
    (sq_cons (st_if (pb_eqO m.ri_Coder m.sp_Coder___eq__ (ok_Coder___eq__ m) (hr.mono (by decide)) (m.F_Coder___eq__.bindsN fun _ _ _ _ _ _ us hl => match us, hl with | [_, _], _ => rfl) passF (pr_var 4) (pr_make m.mk_Coder (ok_Coder___init__ m) (hr.mono (by decide)) rfl m.g_Coder (BD_Coder___init__ m) .nil (fun _ => .nil) passD (as_cons (PR.v (pr_make m.mk_Rate (ok_Rate___init__ m) (hr.mono (by decide)) rfl m.g_Rate (m.F_Rate___init__.bindsN fun _ _ _ _ _ _ us hl => match us, hl with | [_, _, _], _ => rfl) .nil (fun _ => .nil) passD (as_cons (PR.v (pr_ix (ix_B hu) d_ix (pr_var 1) (pr_int) (fun _ _ => rfl))) (as_cons (PR.v (pr_bin op_addB d_add (pr_ix (ix_B hu) d_ix (pr_var 1) (pr_int) (fun _ _ => rfl)) (pr_int))) (as_nil))) (by decide) (al_cons (al_cons (al_nil))))) (as_cons (PR.v (pr_var 11)) (as_cons (PR.v (pr_var 3)) (as_nil)))) (by decide) (al_cons (al_cons (al_cons (al_nil)))))) (sq_one (st_ret (pr_bl))) (sq_nil))
    (sq_cons (st_if (pb_val (pr_callB (cr_any rfl) d_any rfl m.f_any (by decide +kernel) (hs_cons (pr_lc0 (hs0 := rfl) nd (it_list (pr_lst (as_cons (PR.v (pr_non)) (as_cons (PR.v (pr_int)) (as_cons (PR.v (pr_str)) (as_cons (PR.v (pr_var 3)) (as_cons (PR.v (pr_var 5)) (as_cons (PR.v (pr_meth0 (ms := []) (pr_var 4) m.c_Coder m.me_Coder_codes (ok_Coder_codes m) (hr.mono (by decide)) (m.F_Coder_codes.bindsN fun _ _ _ _ _ _ us hl => match us, hl with | [_], _ => rfl) .nil (fun _ => .nil) passD)) (as_cons (PR.v (pr_tup (as_cons (PR.v (pr_var 1)) (as_cons (PR.v (pr_var 5)) (as_nil))))) (as_cons (PR.v (pr_prop (pr_var 4) m.c_Coder m.pr_Coder_rate (ok_Coder_rate m) (hr.mono (by decide)) (m.F_Coder_rate.bindsN fun _ _ _ _ _ _ us hl => match us, hl with | [_], _ => rfl) pass00)) (as_cons (PR.v (pr_reprO m.sp_Coder___repr__ (ok_Coder___repr__ m) (hr.mono (by decide)) (m.F_Coder___repr__.bindsN fun _ _ _ _ _ _ us hl => match us, hl with | [_], _ => rfl) passF rfl m.f_repr (as_cons (PR.v (pr_var 4)) as_nil))) (as_nil)))))))))))) (blkOk_by (N := N__law_right) (sc := defScope (top 55)) (own := [("_law_thing", 15)]) (by decide +kernel)) (by decide) (fun _ _ _ _ _ => tg_name (i := 15) nd rfl (by first | exact Or.inl rfl | exact Or.inr rfl)) (fun _ _ _ _ _ => pr_eqO m.ri_Coder m.sp_Coder___eq__ (ok_Coder___eq__ m) (hr.mono (by decide)) (m.F_Coder___eq__.bindsN fun _ _ _ _ _ _ us hl => match us, hl with | [_, _], _ => rfl) passF (pr_var 4) (pr_var 15))) (hs_nil)))) (sq_one (st_ret (pr_bl))) (sq_nil))
    (sq_one (st_ret (pr_cmp (op_eqB hu64) d_eq (pr_callB (call_reprD hr.gd hu64) d_repr rfl m.f_repr (by decide +kernel) (hs_cons (pr_call (ok__law_told m) (hr.mono (by decide)) rfl m.g__law_told m.F__law_told.kp (m.F__law_told.bindsN fun _ _ _ _ _ _ us hl => match us, hl with | [_], _ => rfl) passD (ms_sh (pr_var 4) (ms_nil))) (hs_nil))) (pr_var 6) (nomark _))))))))))))))))
abbrev N__law_pot : List Str := ["_law_script", "_law_k", "_law_cell"]
theorem sc__law_pot : FnScope N__law_pot ["_law_script", "_law_k"] (defScope (top 39)) := ⟨rfl, rfl, rfl, by decide +kernel, rfl, by decide +kernel, by decide +kernel⟩
theorem ok__law_pot (m : M K mg) : FnG P w K mg base (L2.CX P w) 1 (He.ga K "_law_pot") m.fd__law_pot ["_law_script", "_law_k"] (spF K [false, false] true (F__law_pot K)) := by
  have h := fn_ok (P := P) (w := w) (mg := mg) (base := base) (k := 0) (ms := [false, false]) (own := true) (b := B__law_pot K) m.F__law_pot sc__law_pot rfl
  refine h fun cdv A outer s H E hr => ?_
  have nd := sc__law_pot.nd
  have hu64 := hr.units
  have hu : (A.deeper (PyProof.Rows.envOfC _ _ s.heap.objs.size _ cdv)).units + 1 < cLine := Nat.lt_of_le_of_lt (Nat.add_le_add_left (by decide) _) hu64
  exact sq_cons (st_asg (i := 2) nd rfl (by first | exact Or.inl rfl | exact Or.inr rfl) (pr_bin op_addB d_add (pr_bin op_mulB d_mul (pr_int) (pr_var 1)) (pr_int)))
    (sq_cons (st_if (pb_cmp op_lt d_Ib (pr_var 1) (pr_callB call_lenK d_lenK rfl m.f_len (by decide +kernel) (hs_cons (pr_var 0) (hs_nil))) (nomark _)) (sq_one (st_asg (i := 2) nd rfl (by first | exact Or.inl rfl | exact Or.inr rfl) (pr_callB call_abs d_abs rfl m.f_abs (by decide +kernel) (hs_cons (pr_ix (ix_B hu) d_ix (pr_var 0) (pr_var 1) (fun _ _ => rfl)) (hs_nil))))) (sq_nil))
    (sq_one (st_ret (pr_lst (as_cons (PR.v (pr_callB (call_max2 rfl) d_max rfl m.f_max (by decide +kernel) (hs_cons (pr_int) (hs_cons (pr_bin op_sub d_Ii (pr_var 2) (pr_bin op_pow d_Ic (pr_int) (pr_int))) (hs_nil))))) (as_cons (PR.v (pr_bin op_addB d_add (pr_bin op_mod d_Ic (pr_bin op_mulB d_mul (pr_callTy call_int1 d_int rfl m.f_int (by decide +kernel) (hs_cons (pr_bin op_addB d_add (pr_bin op_mod d_Ic (pr_callTy call_int1 d_int rfl m.f_int (by decide +kernel) (hs_cons (pr_var 2) (hs_nil))) (pr_int)) (pr_int)) (hs_nil))) (pr_bin op_pow d_Ic (pr_bin op_addB d_add (pr_bin op_mulB d_mul (pr_int) (pr_var 1)) (pr_int)) (pr_int))) (pr_int)) (pr_int))) (as_nil)))))))
abbrev N_law : List Str := ["_law_script", "_law_k"]
theorem sc_law : FnScope N_law ["_law_script"] (defScope (top 56)) := ⟨rfl, rfl, rfl, by decide +kernel, rfl, by decide +kernel, by decide +kernel⟩
theorem ok_law (m : M K mg) : FnG P w K mg base (L2.CX P w) 11 (He.ga K "law") m.fd_law ["_law_script"] (spF K [false] false (F_law K)) := by
  have h := fn_ok (P := P) (w := w) (mg := mg) (base := base) (k := 10) (ms := [false]) (own := false) (b := B_law K) m.F_law sc_law rfl
  refine h fun cdv A outer s H E hr => ?_
  have nd := sc_law.nd
  have hu64 := hr.units
  have hu : (A.deeper (PyProof.Rows.envOfC _ _ s.heap.objs.size _ cdv)).units + 1 < cLine := Nat.lt_of_le_of_lt (Nat.add_le_add_left (by decide) _) hu64
  exact sq_one (st_ret (pr_callB (cr_all rfl) d_all rfl m.f_all (by decide +kernel) (hs_cons (pr_lc0 (hs0 := rfl) nd (it_range1 rfl m.f_range (as_cons (PR.v (pr_callB (call_max2 rfl) d_max rfl m.f_max (by decide +kernel) (hs_cons (pr_int) (hs_cons (pr_callB (call_min2 rfl) d_min rfl m.f_min (by decide +kernel) (hs_cons (pr_int) (hs_cons (pr_callB call_lenK d_lenK rfl m.f_len (by decide +kernel) (hs_cons (pr_var 0) (hs_nil))) (hs_nil)))) (hs_nil))))) (as_nil))) (blkOk_by (N := N_law) (sc := defScope (top 56)) (own := [("_law_k", 1)]) (by decide +kernel)) (by decide) (fun _ _ _ _ _ => tg_name (i := 1) nd rfl (by first | exact Or.inl rfl | exact Or.inr rfl)) (fun _ _ _ _ _ => pr_call (ok__law_right m) (hr.mono (by decide)) rfl m.g__law_right m.F__law_right.kp (m.F__law_right.bindsN fun _ _ _ _ _ _ us hl => match us, hl with | [_], _ => rfl) pass00 (ms_io (pr_call (ok__law_pot m) (hr.mono (by decide)) rfl m.g__law_pot m.F__law_pot.kp (m.F__law_pot.bindsN fun _ _ _ _ _ _ us hl => match us, hl with | [_, _], _ => rfl) pass00 (ms_sh (pr_var 0) (ms_sh (pr_var 1) (ms_nil)))) (ms_nil)))) (hs_nil))))
end
end LW
set_option Elab.async false
set_option linter.all false
set_option maxRecDepth 100000
set_option maxHeartbeats 0
namespace LW
open PySem L2 BR
theorem mOf {K : PySem.W.Frag} {h : Heap} {mg : Str → Option Value} (X : K.In h) (G : h.Ns mainGlobals mg) (c : SaysB fa fn K) : Nonempty (M K mg) := by
  obtain ⟨fd__law_draw, F__law_draw⟩ := c.def_ 0 (d := d__law_draw) rfl
  obtain ⟨fd__law_pick, F__law_pick⟩ := c.def_ 1 (d := d__law_pick) rfl
  obtain ⟨fd__law_loose_codes, F__law_loose_codes⟩ := c.def_ 2 (d := d__law_loose_codes) rfl
  obtain ⟨fd__law_reached, F__law_reached⟩ := c.def_ 3 (d := d__law_reached) rfl
  obtain ⟨fd__law_kept, F__law_kept⟩ := c.def_ 4 (d := d__law_kept) rfl
  obtain ⟨fd_want_rate, F_want_rate⟩ := c.def_ 5 (d := d_want_rate) rfl
  obtain ⟨fd_is_list, F_is_list⟩ := c.def_ 6 (d := d_is_list) rfl
  obtain ⟨fd_Rate_size, F_Rate_size⟩ := c.def_ 7 (d := d_Rate_size) rfl
  obtain ⟨fd_is_row, F_is_row⟩ := c.def_ 8 (d := d_is_row) rfl
  obtain ⟨fd_Rate_q, F_Rate_q⟩ := c.def_ 9 (d := d_Rate_q) rfl
  obtain ⟨fd_is_block_of, F_is_block_of⟩ := c.def_ 10 (d := d_is_block_of) rfl
  obtain ⟨fd_is_integer, F_is_integer⟩ := c.def_ 11 (d := d_is_integer) rfl
  obtain ⟨fd_is_count, F_is_count⟩ := c.def_ 12 (d := d_is_count) rfl
  obtain ⟨fd_is_entry, F_is_entry⟩ := c.def_ 13 (d := d_is_entry) rfl
  obtain ⟨fd_are_entries, F_are_entries⟩ := c.def_ 14 (d := d_are_entries) rfl
  obtain ⟨fd_want_codes, F_want_codes⟩ := c.def_ 15 (d := d_want_codes) rfl
  obtain ⟨fd_states_met, F_states_met⟩ := c.def_ 16 (d := d_states_met) rfl
  obtain ⟨fd_Coder___init__, F_Coder___init__⟩ := c.def_ 17 (d := d_Coder___init__) rfl
  obtain ⟨fd_Rate___init__, F_Rate___init__⟩ := c.def_ 18 (d := d_Rate___init__) rfl
  obtain ⟨fd__law_made, F__law_made⟩ := c.def_ 19 (d := d__law_made) rfl
  obtain ⟨fd_Coder___len__, F_Coder___len__⟩ := c.def_ 20 (d := d_Coder___len__) rfl
  obtain ⟨fd_Coder_codes, F_Coder_codes⟩ := c.def_ 21 (d := d_Coder_codes) rfl
  obtain ⟨fd_Coder_lead, F_Coder_lead⟩ := c.def_ 22 (d := d_Coder_lead) rfl
  obtain ⟨fd_Coder_rate, F_Coder_rate⟩ := c.def_ 23 (d := d_Coder_rate) rfl
  obtain ⟨fd_Rate___str__, F_Rate___str__⟩ := c.def_ 24 (d := d_Rate___str__) rfl
  obtain ⟨fd__law_told, F__law_told⟩ := c.def_ 25 (d := d__law_told) rfl
  obtain ⟨fd__law_wider, F__law_wider⟩ := c.def_ 26 (d := d__law_wider) rfl
  obtain ⟨fd_Rate___eq__, F_Rate___eq__⟩ := c.def_ 27 (d := d_Rate___eq__) rfl
  obtain ⟨fd_Coder___eq__, F_Coder___eq__⟩ := c.def_ 28 (d := d_Coder___eq__) rfl
  obtain ⟨fd__law_mixed, F__law_mixed⟩ := c.def_ 29 (d := d__law_mixed) rfl
  obtain ⟨fd__law_turned, F__law_turned⟩ := c.def_ 30 (d := d__law_turned) rfl
  obtain ⟨fd__law_words, F__law_words⟩ := c.def_ 31 (d := d__law_words) rfl
  obtain ⟨fd_is_word_of, F_is_word_of⟩ := c.def_ 32 (d := d_is_word_of) rfl
  obtain ⟨fd_want_text, F_want_text⟩ := c.def_ 33 (d := d_want_text) rfl
  obtain ⟨fd_entries_along, F_entries_along⟩ := c.def_ 34 (d := d_entries_along) rfl
  obtain ⟨fd_blocks_of, F_blocks_of⟩ := c.def_ 35 (d := d_blocks_of) rfl
  obtain ⟨fd_row_of, F_row_of⟩ := c.def_ 36 (d := d_row_of) rfl
  obtain ⟨fd_Coder___call__, F_Coder___call__⟩ := c.def_ 37 (d := d_Coder___call__) rfl
  obtain ⟨fd_Coder_want_state, F_Coder_want_state⟩ := c.def_ 38 (d := d_Coder_want_state) rfl
  obtain ⟨fd_end_of, F_end_of⟩ := c.def_ 39 (d := d_end_of) rfl
  obtain ⟨fd_Coder_end, F_Coder_end⟩ := c.def_ 40 (d := d_Coder_end) rfl
  obtain ⟨fd__law_beside_right, F__law_beside_right⟩ := c.def_ 41 (d := d__law_beside_right) rfl
  obtain ⟨fd__law_doubled, F__law_doubled⟩ := c.def_ 42 (d := d__law_doubled) rfl
  obtain ⟨fd__law_other, F__law_other⟩ := c.def_ 43 (d := d__law_other) rfl
  obtain ⟨fd_Coder___repr__, F_Coder___repr__⟩ := c.def_ 44 (d := d_Coder___repr__) rfl
  obtain ⟨fd__law_right, F__law_right⟩ := c.def_ 45 (d := d__law_right) rfl
  obtain ⟨fd__law_pot, F__law_pot⟩ := c.def_ 46 (d := d__law_pot) rfl
  obtain ⟨fd_law, F_law⟩ := c.def_ 47 (d := d_law) rfl
  exact ⟨⟨fd__law_draw, F__law_draw, fd__law_pick, F__law_pick, fd__law_loose_codes, F__law_loose_codes, fd__law_reached, F__law_reached, fd__law_kept, F__law_kept, fd_want_rate, F_want_rate, fd_is_list, F_is_list, fd_Rate_size, F_Rate_size, fd_is_row, F_is_row, fd_Rate_q, F_Rate_q, fd_is_block_of, F_is_block_of, fd_is_integer, F_is_integer, fd_is_count, F_is_count, fd_is_entry, F_is_entry, fd_are_entries, F_are_entries, fd_want_codes, F_want_codes, fd_states_met, F_states_met, fd_Coder___init__, F_Coder___init__, fd_Rate___init__, F_Rate___init__, fd__law_made, F__law_made, fd_Coder___len__, F_Coder___len__, fd_Coder_codes, F_Coder_codes, fd_Coder_lead, F_Coder_lead, fd_Coder_rate, F_Coder_rate, fd_Rate___str__, F_Rate___str__, fd__law_told, F__law_told, fd__law_wider, F__law_wider, fd_Rate___eq__, F_Rate___eq__, fd_Coder___eq__, F_Coder___eq__, fd__law_mixed, F__law_mixed, fd__law_turned, F__law_turned, fd__law_words, F__law_words, fd_is_word_of, F_is_word_of, fd_want_text, F_want_text, fd_entries_along, F_entries_along, fd_blocks_of, F_blocks_of, fd_row_of, F_row_of, fd_Coder___call__, F_Coder___call__, fd_Coder_want_state, F_Coder_want_state, fd_end_of, F_end_of, fd_Coder_end, F_Coder_end, fd__law_beside_right, F__law_beside_right, fd__law_doubled, F__law_doubled, fd__law_other, F__law_other, fd_Coder___repr__, F_Coder___repr__, fd__law_right, F__law_right, fd__law_pot, F__law_pot, fd_law, F_law,
    He.glo_ok X G (c.fact 0),
    He.glo_ok X G (c.fact 1),
    He.glo_ok X G (c.fact 2),
    He.glo_ok X G (c.fact 3),
    He.glo_ok X G (c.fact 4),
    He.glo_ok X G (c.fact 5),
    He.glo_ok X G (c.fact 6),
    He.glo_ok X G (c.fact 7),
    He.glo_ok X G (c.fact 8),
    He.glo_ok X G (c.fact 9),
    He.glo_ok X G (c.fact 10),
    He.glo_ok X G (c.fact 11),
    He.glo_ok X G (c.fact 12),
    He.glo_ok X G (c.fact 13),
    He.glo_ok X G (c.fact 14),
    He.glo_ok X G (c.fact 15),
    He.glo_ok X G (c.fact 16),
    He.glo_ok X G (c.fact 17),
    He.glo_ok X G (c.fact 18),
    He.glo_ok X G (c.fact 19),
    He.glo_ok X G (c.fact 20),
    He.glo_ok X G (c.fact 21),
    He.glo_ok X G (c.fact 22),
    He.glo_ok X G (c.fact 23),
    He.glo_ok X G (c.fact 24),
    He.glo_ok X G (c.fact 25),
    He.glo_ok X G (c.fact 26),
    He.glo_ok X G (c.fact 27),
    He.glo_ok X G (c.fact 28),
    He.glo_ok X G (c.fact 29),
    He.glo_ok X G (c.fact 30),
    He.glo_ok X G (c.fact 31),
    He.glo_ok X G (c.fact 32),
    He.glo_ok X G (c.fact 33),
    He.glo_ok X G (c.fact 34),
    He.free_ok X G (c.fact 35),
    He.free_ok X G (c.fact 36),
    He.free_ok X G (c.fact 37),
    He.free_ok X G (c.fact 38),
    He.free_ok X G (c.fact 39),
    He.free_ok X G (c.fact 40),
    He.free_ok X G (c.fact 41),
    He.free_ok X G (c.fact 42),
    He.free_ok X G (c.fact 43),
    He.free_ok X G (c.fact 44),
    He.free_ok X G (c.fact 45),
    He.free_ok X G (c.fact 46),
    He.free_ok X G (c.fact 47),
    He.free_ok X G (c.fact 48),
    He.free_ok X G (c.fact 49),
    He.free_ok X G (c.fact 50),
    He.int_ok X G (c.fact 51),
    He.int_ok X G (c.fact 52),
    He.int_ok X G (c.fact 53),
    He.str_ok X G (c.fact 54),
    He.cls_ok (c.fact 55),
    He.cls_ok (c.fact 56),
    He.noat_ok (c.fact 57),
    He.noat_ok (c.fact 58),
    He.noat_ok (c.fact 59),
    He.noat_ok (c.fact 60),
    He.noat_ok (c.fact 61),
    He.meth_ok (c.fact 62),
    He.meth_ok (c.fact 63),
    He.meth_ok (c.fact 64),
    He.mkr_ok (c.fact 65),
    He.mkr_ok (c.fact 66),
    prop_ok (c.fact 67),
    prop_ok (c.fact 68),
    prop_ok (c.fact 69),
    prop_ok (c.fact 70),
    cread_ok (c.fact 71),
    isG_ok (c.fact 72),
    isG_ok (c.fact 73),
    right_ok (c.fact 74),
    right_ok (c.fact 75),
    sp_ok (c.fact 76),
    sp_ok (c.fact 77),
    sp_ok (c.fact 78),
    sp_ok (c.fact 79),
    sp_ok (c.fact 80),
    sp_ok (c.fact 81),
    fnIn_ok (c.fact 82),
    fmt_ok (c.fact 83),
    noNe_ok (c.fact 84),
    nd_ok (c.fact 85),
    cval_ok (c.fact 86)⟩⟩
theorem holds (hlaw : ∀ (K : PySem.W.Frag) (ns : List Int), ns.length ≤ 63 → He.ga K "Rate" ≠ He.ga K "Coder" → ∃ d, F_law K [.scr ns] = .ok (.bl true, d)) : PySem.Challenge.rw_barredrows_k52_whole_equal_coders.Holds := by
  w_on; o_law
  refine HandSHeadRun.head_any (r := PySem.W.OpenLaw.row PySem.Challenge.rw_barredrows_k52_whole_equal_coders) (q := PySem.W.view (PySem.W.OpenLaw.row PySem.Challenge.rw_barredrows_k52_whole_equal_coders).prog [56]) (H := hk) (ob := ob) (M := 6000) (loose := names) (d := HandSHeadRun.topDef (PySem.W.OpenLaw.row PySem.Challenge.rw_barredrows_k52_whole_equal_coders).prog 56) (kwd := []) ob_eq
    (by kernel_rfl) (fun s => by kernel_rfl) hRun (by kernel_rfl) (by kernel_rfl) (by kernel_rfl) (by rfl) (by first | assumption | decide +kernel) (by decide +kernel) ⟨rfl, rfl, rfl, rfl, rfl, by decide +kernel⟩ ?hw ?hc
  case hw => w_witness2
  case hc =>
    refine L2.walk_ofEw (l := PySem.Challenge.rw_barredrows_k52_whole_equal_coders) (n := 63) (k := 11) (x := "_law_script") (CX := fun w => L2.CX (PySem.Challenge.rw_barredrows_k52_whole_equal_coders).prog w) rfl (by decide) (by kernel_rfl) ⟨⟨rfl, by decide, by decide⟩, rfl⟩ ?F (fun w H s e s' z => L2.cx_out z)
    intro w mg fa h Y G hmg0
    obtain ⟨K, KX, c⟩ := Y
    obtain ⟨m⟩ := mOf KX G c
    have hmg : mg ("law" : PySem.Str) = some (.ref fa) := by
      have e : (HandSHeadRun.topDef (PySem.W.OpenLaw.row PySem.Challenge.rw_barredrows_k52_whole_equal_coders).prog 56).name = ("law" : PySem.Str) := by kernel_rfl
      rw [← e]
      exact hmg0
    have e := hmg.symm.trans m.g_law
    cases e
    have b := FunD.bindsA (ps := ["_law_script"]) m.F_law fun _ _ _ _ _ _ us hl => match us, hl with | [_], _ => rfl
    refine ⟨K, m.fd_law, spF K [false] false (F_law K), KX, fun s v => b s [v] rfl, fun H a ns hl _ hS => ?_, fun base _ _ => ok_law m⟩
    obtain ⟨d, hd⟩ := hlaw K ns hl m.nd_Rate_Coder
    exact sp_law hd hS
end LW
set_option Elab.async false
set_option linter.all false
set_option maxRecDepth 100000
set_option maxHeartbeats 400000
namespace BR
open PySem L2
/-! ## loops by invariants -/
theorem sForL_relP {β : Type} {g : D → S → Option S} {b : SF} (toD : β → D) (I : List β → S → Prop) : ∀ (post pre : List β) (ρ : S),
    (∀ (p : List β) (x : β) (q : List β) (ρ : S), pre ++ post = p ++ x :: q → I p ρ → ∃ ρ2, (ofO (g (toD x) ρ) >>= b) = .ok (.nx, ρ2) ∧ I (p ++ [x]) ρ2) → I pre ρ →
    ∃ ρ', sForL g b (post.map toD) ρ = .ok (.nx, ρ') ∧ I (pre ++ post) ρ' := by
  intro post
  induction post with
  | nil => intro pre ρ _ hi; exact ⟨ρ, rfl, by simpa using hi⟩
  | cons x post ih =>
    intro pre ρ h hi
    obtain ⟨ρ2, e, hi2⟩ := h pre x post ρ rfl hi
    have h' := h
    rw [show pre ++ x :: post = (pre ++ [x]) ++ post by simp] at h'
    obtain ⟨ρ', e', hi'⟩ := ih (pre ++ [x]) ρ2 h' hi2
    refine ⟨ρ', ?_, by simpa using hi'⟩
    cases hg : g (toD x) ρ with
    | none => rw [hg] at e; cases e
    | some ρ1 =>
      rw [hg] at e
      have e2 : b ρ1 = .ok (.nx, ρ2) := e
      simp only [List.map_cons, sForL, hg, ofO_some, ok_bind, e2]
      exact e'
theorem sForL_rel {β : Type} {g : D → S → Option S} {b : SF} (toD : β → D) (I : List β → S → Prop) (xs : List β) (ρ : S)
    (h : ∀ (p : List β) (x : β) (ρ : S), x ∈ xs → I p ρ → ∃ ρ2, (ofO (g (toD x) ρ) >>= b) = .ok (.nx, ρ2) ∧ I (p ++ [x]) ρ2) (h0 : I [] ρ) :
    ∃ ρ', sForL g b (xs.map toD) ρ = .ok (.nx, ρ') ∧ I xs ρ' := by
  have := sForL_relP (g := g) (b := b) toD I xs [] ρ (fun p x q ρ e hi => h p x ρ (by rw [List.nil_append] at e; rw [e]; simp) hi) h0
  simpa using this
/-- a loop that only keeps something -/
theorem sForL_keep {β : Type} {g : D → S → Option S} {b : SF} (toD : β → D) (I : S → Prop) (xs : List β) (ρ : S)
    (h : ∀ (x : β) (ρ : S), x ∈ xs → I ρ → ∃ ρ2, (ofO (g (toD x) ρ) >>= b) = .ok (.nx, ρ2) ∧ I ρ2) (h0 : I ρ) :
    ∃ ρ', sForL g b (xs.map toD) ρ = .ok (.nx, ρ') ∧ I ρ' :=
  sForL_rel toD (fun _ => I) xs ρ (fun _ => h) h0
/-- one turn of a comprehension -/
@[simp] def lcT (vs : List Nat) (g : D → S → Option S) (p : S → R (Bool × S)) (fe : EF) (d : D) (ρ : S) : R (Option D × S) :=
  ofO (g d ρ) >>= fun ρ1 => noX (p ρ1) >>= fun z => if z.1 = true then noX (eV fe z.2) >>= fun y => .ok (some y.1, wipeS y.2 vs) else .ok (none, wipeS z.2 vs)
theorem lcL_cons {vs : List Nat} {g : D → S → Option S} {p : S → R (Bool × S)} {fe : EF} (d : D) (ds acc : List D) (ρ ρ' : S) (o : Option D) (e : lcT vs g p fe d ρ = .ok (o, ρ')) (h : acc.length < sizeLine) :
    lcL vs g p fe (d :: ds) acc ρ = lcL vs g p fe ds (acc ++ o.toList) ρ' := by
  unfold lcT at e
  simp only [lcL]
  cases hg : g d ρ with
  | none => rw [hg] at e; cases e
  | some ρ1 =>
    rw [hg] at e
    simp only [ofO_some, ok_bind] at e ⊢
    cases hp : noX (p ρ1) with
    | no => rw [hp] at e; cases e
    | exc x => rw [hp] at e; cases e
    | ok z =>
      rw [hp] at e
      simp only [ok_bind] at e ⊢
      by_cases hz : z.1 = true
      · rw [if_pos hz] at e ⊢
        cases hy : noX (eV fe z.2) with
        | no => rw [hy] at e; cases e
        | exc x => rw [hy] at e; cases e
        | ok y =>
          rw [hy] at e
          simp only [ok_bind] at e ⊢
          cases e
          rw [if_pos h]; rfl
      · rw [if_neg hz] at e ⊢
        cases e
        simp
theorem lcL_pure {β : Type} {vs : List Nat} {g : D → S → Option S} {p : S → R (Bool × S)} {fe : EF} (toD : β → D) (out : β → Option D) (ρ : S) : ∀ (xs : List β) (acc : List D),
    (∀ x ∈ xs, lcT vs g p fe (toD x) ρ = .ok (out x, ρ)) → acc.length + xs.length ≤ sizeLine → lcL vs g p fe (xs.map toD) acc ρ = .ok (acc ++ xs.filterMap out, ρ) := by
  intro xs
  induction xs with
  | nil => intro acc _ _; simp [lcL]
  | cons x xs ih =>
    intro acc h hl
    rw [List.map_cons, lcL_cons (toD x) _ acc ρ ρ (out x) (h x (by simp)) (by simp at hl; omega), ih _ (fun y hy => h y (by simp [hy])) (by
      simp at hl
      cases out x <;> simp <;> omega)]
    cases ho : out x <;> simp [List.filterMap_cons, ho]
theorem lcL_map {β : Type} {vs : List Nat} {g : D → S → Option S} {p : S → R (Bool × S)} {fe : EF} (toD : β → D) (out : β → D) (ρ : S) (xs : List β)
    (h : ∀ x ∈ xs, lcT vs g p fe (toD x) ρ = .ok (some (out x), ρ)) (hl : xs.length ≤ sizeLine) : lcL vs g p fe (xs.map toD) [] ρ = .ok (xs.map out, ρ) := by
  rw [lcL_pure toD (fun x => some (out x)) ρ xs [] h (by simpa using hl)]
  simp [List.filterMap_eq_map]
theorem lcL_rel {β : Type} {vs : List Nat} {g : D → S → Option S} {p : S → R (Bool × S)} {fe : EF} (toD : β → D) (I : List D → S → Prop) : ∀ (xs : List β) (acc : List D) (ρ : S),
    (∀ x acc ρ, x ∈ xs → I acc ρ → ∃ o ρ', lcT vs g p fe (toD x) ρ = .ok (o, ρ') ∧ I (acc ++ o.toList) ρ') → acc.length + xs.length ≤ sizeLine → I acc ρ → ∃ ys ρ', lcL vs g p fe (xs.map toD) acc ρ = .ok (ys, ρ') ∧ I ys ρ' := by
  intro xs
  induction xs with
  | nil => intro acc ρ _ _ hi; exact ⟨acc, ρ, rfl, hi⟩
  | cons x xs ih =>
    intro acc ρ h hl hi
    obtain ⟨o, ρ', e, hi'⟩ := h x acc ρ (by simp) hi
    obtain ⟨ys, ρ2, e2, hi2⟩ := ih (acc ++ o.toList) ρ' (fun y acc ρ hy => h y acc ρ (by simp [hy])) (by
      simp at hl
      cases o <;> simp <;> omega) hi'
    refine ⟨ys, ρ2, ?_, hi2⟩
    rw [List.map_cons, lcL_cons (toD x) _ acc ρ ρ' o e (by simp at hl; omega), e2]
/-- while, by a number of turns that are left -/
theorem sWhile_rel {c : S → R (Bool × S)} {b : SF} (I : Nat → S → Prop) (P : S → Prop)
    (h : ∀ m ρ, I m ρ → (∃ ρ', c ρ = .ok (false, ρ') ∧ P ρ') ∨ (∃ ρ1 ρ2 m', c ρ = .ok (true, ρ1) ∧ b ρ1 = .ok (.nx, ρ2) ∧ m' < m ∧ I m' ρ2)) :
    ∀ (n m : Nat) (ρ : S), m < n → I m ρ → ∃ ρ', sWhile c b n ρ = .ok (.nx, ρ') ∧ P ρ' := by
  intro n
  induction n with
  | zero => intro m ρ hm; omega
  | succ n ih =>
    intro m ρ hm hi
    rcases h m ρ hi with ⟨ρ', e, hp⟩ | ⟨ρ1, ρ2, m', e1, e2, hm', hi'⟩
    · refine ⟨ρ', ?_, hp⟩
      simp [sWhile, e]
    · obtain ⟨ρ', e3, hp⟩ := ih m' ρ2 (by omega) hi'
      refine ⟨ρ', ?_, hp⟩
      simp [sWhile, e1, e2, e3]
end BR
namespace BR
open PySem L2
open Classical in
noncomputable def rngF (z : List D × S) : R (List D × S) := match z.1 with
  | [.int j] => if RngOk j then .ok (rngL 0 j.toNat, z.2) else .no
  | _ => .no
@[simp] theorem rng1_a (f : S → R (List D × S)) (ρ : S) : itRng1 f ρ = f ρ >>= rngF := rfl
theorem big62 (n : Nat) (h : n ≤ 1000000) : -(2 ^ 62) ≤ ((n : Nat) : Int) ∧ ((n : Nat) : Int) < 2 ^ 62 := by
  have h1 : ((n : Nat) : Int) ≤ 1000000 := by omega
  have h2 : (0 : Int) ≤ ((n : Nat) : Int) := by omega
  have h3 : (1000000 : Int) < 2 ^ 62 := by decide
  have h4 : -(2 ^ 62) ≤ (0 : Int) := by decide
  exact ⟨Int.le_trans h4 h2, Int.lt_of_le_of_lt h1 h3⟩
theorem rngF_n (n : Nat) (h : n ≤ 1000000) (ρ : S) : rngF ([.int (n : Int)], ρ) = .ok (rngL 0 n, ρ) := by
  unfold rngF
  exact if_pos (big62 n h)
end BR
set_option Elab.async false
set_option linter.all false
set_option maxRecDepth 100000
set_option maxHeartbeats 400000
namespace BR
open PySem L2
/-! ## texts as lists -/
abbrev Tx (l : List Nat) : Str := ⟨l.toArray⟩
theorem T_cps (l : List Nat) : (Tx l).cps.toList = l := by simp [Tx]
theorem T_len (l : List Nat) : (Tx l).length = l.length := by simp [Tx, Str.length]
theorem T_app (l m : List Nat) : Tx l ++ Tx m = Tx (l ++ m) := by
  show Str.append _ _ = _
  simp [Str.append]
theorem T_inj {l m : List Nat} : Tx l = Tx m ↔ l = m := by
  constructor
  · intro h
    have := congrArg (fun s : Str => s.cps.toList) h
    simpa using this
  · intro h; rw [h]
theorem glue_fold : ∀ (xs : List (List Nat)) (acc : Array Nat), (xs.map Tx).foldl (fun acc p => acc ++ (Tx []).cps ++ p.cps) acc = acc ++ xs.flatten.toArray
  | [], acc => by simp
  | x :: xs, acc => by
    rw [List.map_cons, List.foldl_cons, glue_fold xs]
    apply Array.ext'
    simp [Tx]
theorem T_join (xs : List (List Nat)) : Txt.join (Tx []) (xs.map Tx) = Tx xs.flatten := by
  unfold Txt.join Builtin.Str.glued
  cases xs with
  | nil => rfl
  | cons x xs =>
    have e := glue_fold xs (Tx x).cps
    show (⟨(xs.map Tx).foldl (fun acc p => acc ++ (Tx []).cps ++ p.cps) (Tx x).cps⟩ : Str) = _
    rw [e]
    congr 1
    apply Array.ext'
    simp [Tx]
theorem T_starts (l m : List Nat) : Txt.startswith (Tx l) (Tx m) = decide (m <+: l) := by
  unfold Txt.startswith
  rw [PySem.StrLaws.subAt_eq, T_len, T_len]
  have e1 : (Tx l).cps.toList = l := by simp [Tx]
  have e2 : (Tx m).cps.toList = m := by simp [Tx]
  rw [e1, e2, List.drop_zero]
  by_cases h : m <+: l
  · have hl := h.length_le
    obtain ⟨t, rfl⟩ := h
    simp
  · rw [decide_eq_false h]
    have : ((List.take m.length l) == m) = false := by
      rw [beq_eq_false_iff_ne]
      intro e
      exact h ⟨l.drop m.length, by have := List.take_append_drop m.length l; rw [e] at this; exact this⟩
    rw [this, Bool.and_false]
theorem cut_to (l : List Nat) (k : Nat) : cutS (Tx l) none (some (k : Int)) = Tx (l.take k) := by
  unfold cutS
  rw [T_len, HT.sIx_none, HT.sIx_nat]
  show Tx ((l.drop 0).take (min k l.length - 0)) = _
  rw [List.drop_zero, Nat.sub_zero, T_inj, ← List.take_eq_take_min]
theorem cut_from (l : List Nat) (k : Nat) : cutS (Tx l) (some (k : Int)) none = Tx (l.drop k) := by
  unfold cutS
  rw [T_len, HT.sIx_none, HT.sIx_nat]
  show Tx ((l.drop (min k l.length)).take (l.length - min k l.length)) = _
  rw [T_inj]
  by_cases h : k ≤ l.length
  · rw [Nat.min_eq_left h, List.take_of_length_le (by simp)]
  · rw [Nat.min_eq_right (by omega), List.drop_eq_nil_of_le (Nat.le_refl _), List.drop_eq_nil_of_le (by omega)]; simp
theorem cut_mid (l : List Nat) (a b : Nat) (h : a ≤ l.length) : cutS (Tx l) (some (a : Int)) (some (b : Int)) = Tx ((l.drop a).take (b - a)) := by
  unfold cutS
  rw [T_len, HT.sIx_nat, HT.sIx_nat]
  show Tx ((l.drop (min a l.length)).take (min b l.length - min a l.length)) = _
  rw [T_inj, Nat.min_eq_left h]
  by_cases hb : b ≤ l.length
  · rw [Nat.min_eq_left hb]
  · rw [Nat.min_eq_right (by omega), List.take_of_length_le (by simp), List.take_of_length_le (by simp; omega)]
theorem strsD_T (w : List Nat) : strsD (w.map fun c => D.str (Tx [c])) = some (w.map fun c => Tx [c]) := by
  induction w with
  | nil => rfl
  | cons c w ih => simp [strsD, ih]
theorem flat1 : ∀ w : List Nat, (w.map fun c => [c]).flatten = w
  | [] => rfl
  | c :: w => by simp [flat1 w]
theorem join_signs (w : List Nat) (h : w.length ≤ 1000000) : dJoin (Tx []) (.lst (w.map fun c => D.str (Tx [c]))) = some (.im (.str (Tx w))) := by
  unfold dJoin
  simp only [strsD_T, Option.bind_some]
  have e : Txt.join (Tx []) (w.map fun c => Tx [c]) = Tx w := by
    have := T_join (w.map fun c => [c])
    rw [List.map_map] at this
    have e2 : (w.map fun c => [c]).flatten = w := flat1 w
    rw [e2] at this
    exact this
  rw [e, if_pos]
  have : (List.map (fun x : Str => x.length) (w.map fun c => Tx [c])).sum = w.length := by
    clear e h
    induction w with
    | nil => rfl
    | cons c w ih =>
      simp only [List.map_cons, List.sum_cons, ih, List.length_cons, T_len]
      simp; omega
  rw [this, T_len]
  simp; omega
theorem atI_nat {α : Type} (ds : List α) (i : Int) (h : 0 ≤ i) (hi : i.toNat < ds.length) : atI ds i = some ds[i.toNat] := by
  unfold atI ixN
  have h2 : i < ds.length := by omega
  rw [if_pos h, if_pos h2]
  exact List.getElem?_eq_getElem hi
theorem atI_n {α : Type} (ds : List α) (i : Nat) (hi : i < ds.length) : atI ds (i : Int) = some ds[i] := by
  have := atI_nat ds (i : Int) (by omega) (by simpa using hi)
  simpa using this
theorem atI_m {α β : Type} (f : α → β) (ds : List α) (i : Nat) (hi : i < ds.length) : atI (ds.map f) (i : Int) = some (f ds[i]) := by
  rw [atI_n _ _ (by simpa using hi)]; simp
/-! ## dicts of numbers -/
section
variable {α : Type} [DecidableEq α] (κ : α → Key)
def dD (al : List (α × Nat)) : D := .dic (al.map fun p => κ p.1) (al.map fun p => .int (p.2 : Int))
def get0 : List (α × Nat) → α → Nat
  | [], _ => 0
  | p :: al, k => if p.1 = k then p.2 else get0 al k
def putA (al : List (α × Nat)) (k : α) (v : Nat) : List (α × Nat) := if k ∈ al.map (·.1) then al.map (fun p => if p.1 = k then (p.1, v) else p) else al ++ [(k, v)]
def dsum (φ : α → Nat) (al : List (α × Nat)) : Nat := (al.map fun p => p.2 * φ p.1).sum
variable (hκ : ∀ a b, κ a = κ b → a = b)
include hκ
theorem hasK_d (al : List (α × Nat)) (k : α) : hasK (al.map fun p => κ p.1) (κ k) = decide (k ∈ al.map (·.1)) := by
  induction al with
  | nil => simp [hasK]
  | cons p al ih =>
    have e : hasK ((p :: al).map fun p => κ p.1) (κ k) = (decide (κ p.1 = κ k) || hasK (al.map fun p => κ p.1) (κ k)) := rfl
    rw [e, ih]
    by_cases h : p.1 = k
    · simp [h]
    · have : ¬ κ p.1 = κ k := fun z => h (hκ _ _ z)
      have h2 : ¬ k = p.1 := fun z => h z.symm
      simp [this, h2]
theorem getK_d (al : List (α × Nat)) (k : α) : (getK (al.map fun p => κ p.1) (al.map fun p => D.int (p.2 : Int)) (κ k)).getD (.int 0) = .int (get0 al k : Int) := by
  induction al with
  | nil => rfl
  | cons p al ih =>
    by_cases h : p.1 = k
    · simp [getK, get0, h]
    · have : ¬ κ p.1 = κ k := fun z => h (hκ _ _ z)
      simp [getK, get0, h, this, ih]
theorem getK_mem (al : List (α × Nat)) (k : α) (h : k ∈ al.map (·.1)) : getK (al.map fun p => κ p.1) (al.map fun p => D.int (p.2 : Int)) (κ k) = some (.int (get0 al k : Int)) := by
  induction al with
  | nil => simp at h
  | cons p al ih =>
    by_cases hk : p.1 = k
    · simp [getK, get0, hk]
    · have : ¬ κ p.1 = κ k := fun z => hk (hκ _ _ z)
      rw [List.map_cons, List.mem_cons] at h
      rcases h with h | h
      · exact absurd h.symm hk
      · have := ih h
        simp [getK, get0, hk, ‹¬ κ p.1 = κ k›, this]
theorem put_d (al : List (α × Nat)) (k : α) (v : Nat) : D.dic (putDk (al.map fun p => κ p.1) (κ k)) (putDx (al.map fun p => κ p.1) (al.map fun p => D.int (p.2 : Int)) (κ k) (.int (v : Int))) = dD κ (putA al k v) := by
  unfold putDk putDx
  rw [hasK_d κ hκ]
  unfold dD putA
  by_cases h : k ∈ al.map (·.1)
  · rw [if_pos h, decide_eq_true h]
    simp only [if_true]
    congr 1
    · rw [List.map_map]
      apply List.map_congr_left
      intro p _
      simp only [Function.comp]
      split <;> rfl
    · clear h
      induction al with
      | nil => rfl
      | cons p al ih =>
        by_cases hk : p.1 = k
        · simp [replD, hk, ih]
        · have : ¬ κ p.1 = κ k := fun z => hk (hκ _ _ z)
          simp [replD, hk, this, ih]
  · rw [if_neg h, decide_eq_false h]
    simp
omit hκ
theorem keys_put (al : List (α × Nat)) (k : α) (v : Nat) : (putA al k v).map (·.1) = if k ∈ al.map (·.1) then al.map (·.1) else al.map (·.1) ++ [k] := by
  unfold putA
  split
  · rw [List.map_map]
    apply List.map_congr_left
    intro p _
    simp only [Function.comp]
    split <;> rfl
  · simp
theorem nodup_put {al : List (α × Nat)} (h : (al.map (·.1)).Nodup) (k : α) (v : Nat) : ((putA al k v).map (·.1)).Nodup := by
  rw [keys_put]
  split
  · exact h
  · rename_i hk
    rw [List.nodup_append]
    refine ⟨h, by simp, ?_⟩
    intro a ha b hb
    simp at hb
    subst hb
    intro e
    subst e
    exact hk ha
theorem len_put (al : List (α × Nat)) (k : α) (v : Nat) : (putA al k v).length ≤ al.length + 1 := by
  unfold putA
  split <;> simp
theorem get0_put (al : List (α × Nat)) (k : α) (v : Nat) (x : α) : get0 (putA al k v) x = if x = k then v else get0 al x := by
  unfold putA
  split
  · rename_i h
    induction al with
    | nil => simp at h
    | cons p al ih =>
      simp only [List.map_cons, List.mem_cons] at h
      by_cases hk : p.1 = k
      · by_cases hx : x = k
        · subst hx; simp [get0, hk]
        · have h2 : ¬ k = x := fun z => hx z.symm
          have e2 : get0 (al.map fun p => if p.1 = k then (p.1, v) else p) x = get0 al x := by
            clear ih h hk p
            induction al with
            | nil => rfl
            | cons p al ih =>
              by_cases hk : p.1 = k
              · simp [get0, hk, h2, ih]
              · simp [get0, hk, ih]
          simp [get0, hk, hx, h2, e2]
      · rcases h with h | h
        · exact absurd h.symm hk
        · have := ih h
          by_cases hx : x = k
          · subst hx; simp [get0, hk, this]
          · simp [get0, hk, hx, this]
  · rename_i h
    induction al with
    | nil => by_cases hx : x = k <;> simp [get0, hx, eq_comm]; exact fun z => absurd z.symm hx
    | cons p al ih =>
      have h1 : ¬ p.1 = k := fun z => h (by simp [z])
      have h2 : k ∉ al.map (·.1) := fun z => h (by rw [List.map_cons]; exact List.mem_cons_of_mem _ z)
      have := ih h2
      by_cases hp : p.1 = x
      · have : ¬ x = k := fun z => h1 (hp.trans z)
        simp [get0, hp, this]
      · simp [get0, hp, this]
theorem get0_not (al : List (α × Nat)) (k : α) (h : k ∉ al.map (·.1)) : get0 al k = 0 := by
  induction al with
  | nil => rfl
  | cons p al ih =>
    have h1 : ¬ p.1 = k := fun z => h (by simp [z])
    simp [get0, h1, ih fun z => h (by rw [List.map_cons]; exact List.mem_cons_of_mem _ z)]
theorem get0_item {al : List (α × Nat)} (h : (al.map (·.1)).Nodup) {p : α × Nat} (hp : p ∈ al) : get0 al p.1 = p.2 := by
  induction al with
  | nil => cases hp
  | cons q al ih =>
    rw [List.map_cons, List.nodup_cons] at h
    rcases List.mem_cons.mp hp with rfl | hp
    · simp [get0]
    · have : ¬ q.1 = p.1 := fun z => h.1 (by rw [z]; exact List.mem_map_of_mem hp)
      simp [get0, this, ih h.2 hp]
theorem dsum_add {al : List (α × Nat)} (h : (al.map (·.1)).Nodup) (φ : α → Nat) (k : α) (m : Nat) : dsum φ (putA al k (get0 al k + m)) = dsum φ al + m * φ k := by
  unfold putA
  split
  · rename_i hk
    induction al with
    | nil => simp at hk
    | cons p al ih =>
      rw [List.map_cons, List.nodup_cons] at h
      by_cases hp : p.1 = k
      · have e2 : ∀ v, (al.map fun p => if p.1 = k then (p.1, v) else p) = al := by
          intro v
          have h1 := h.1
          rw [hp] at h1
          clear ih h hk
          induction al with
          | nil => rfl
          | cons q al ih =>
            have hq : ¬ q.1 = k := fun z => h1 (by simp [z])
            rw [List.map_cons, if_neg hq, ih fun z => h1 (by rw [List.map_cons]; exact List.mem_cons_of_mem _ z)]
        rw [List.map_cons, if_pos hp, e2]
        simp only [dsum, List.map_cons, List.sum_cons, get0, hp, if_true, Nat.add_mul]
        omega
      · have hk2 : k ∈ al.map (·.1) := by
          rw [List.map_cons, List.mem_cons] at hk
          rcases hk with z | z
          · exact absurd z.symm hp
          · exact z
        have := ih h.2 hk2
        simp only [dsum] at this
        simp only [dsum, List.map_cons, if_neg hp, List.sum_cons, get0, this]
        omega
  · rename_i hk
    rw [get0_not al k hk]
    simp [dsum]
end
theorem kN_inj : ∀ a b : Nat, (Sum.inl (a : Int) : Key) = Sum.inl (b : Int) → a = b := fun a b h => by
  have := Sum.inl.inj h; omega
theorem kT_inj : ∀ a b : List Nat, (Sum.inr (Tx a) : Key) = Sum.inr (Tx b) → a = b := fun a b h => T_inj.mp (Sum.inr.inj h)
abbrev kN (a : Nat) : Key := Sum.inl (a : Int)
abbrev kT (a : List Nat) : Key := Sum.inr (Tx a)
theorem intsD_d {α : Type} (al : List (α × Nat)) : intsD (al.map fun p => D.int (p.2 : Int)) = some (al.map fun p => (p.2 : Int)) := by
  induction al with
  | nil => rfl
  | cons p al ih => simp [intsD, ih]
theorem sum_cast (l : List Nat) : (l.map fun n : Nat => (n : Int)).sum = ((l.sum : Nat) : Int) := by
  induction l with
  | nil => rfl
  | cons a l ih => simp [ih]
end BR
set_option Elab.async false
set_option linter.all false
set_option maxRecDepth 100000
set_option maxHeartbeats 400000
namespace BR
open PySem L2
abbrev Cod := List (List (List Nat × Nat))
def Sg (l : List Nat) : Prop := ∀ c ∈ l, c ∈ [97, 98, 99, 100]
structure WfE (q n : Nat) (e : List Nat × Nat) : Prop where
  len : e.1.length = q
  sub : Sg e.1
  lt : e.2 < n
structure Wf (q sz : Nat) (c : Cod) : Prop where
  pos : 0 < c.length
  few : c.length ≤ 10
  row : ∀ r ∈ c, r.length = sz
  ent : ∀ r ∈ c, ∀ e ∈ r, WfE q c.length e
/-! ## states as they are met -/
def add1 (o : List Nat) (l : Nat) : List Nat := if l ∈ o then o else o ++ [l]
def addR (o : List Nat) (r : List (List Nat × Nat)) : List Nat := r.foldl (fun o e => add1 o e.2) o
def bfs (c : Cod) : Nat → List Nat → Nat → List Nat
  | 0, o, _ => o
  | n + 1, o, i => if i < o.length then bfs c n (addR o (c.getD (o.getD i 0) [])) (i + 1) else o
def met (c : Cod) : List Nat := bfs c (c.length + 1) [0] 0
def renum (c : Cod) : Cod := (met c).map fun s => (c.getD s []).map fun e => (e.1, (met c).idxOf e.2)
/-- numbers below n, each once -/
structure Gd (n : Nat) (o : List Nat) : Prop where
  nd : o.Nodup
  lt : ∀ x ∈ o, x < n
theorem nodup_len : ∀ (n : Nat) (o : List Nat), o.Nodup → (∀ x ∈ o, x < n) → o.length ≤ n
  | 0, o, _, h => by
    cases o with
    | nil => simp
    | cons a o => exact absurd (h a (by simp)) (by omega)
  | n + 1, o, hn, h => by
    by_cases hm : n ∈ o
    · have := nodup_len n (o.erase n) (hn.erase n) (fun x hx => by
        have h1 := (hn.mem_erase_iff).mp hx
        have h2 := h x h1.2
        have h3 := h1.1
        omega)
      rw [List.length_erase_of_mem hm] at this
      omega
    · have := nodup_len n o hn (fun x hx => by
        have h2 := h x hx
        have h3 : x ≠ n := fun z => hm (z ▸ hx)
        omega)
      omega
theorem Gd.len {n : Nat} {o : List Nat} (h : Gd n o) : o.length ≤ n := nodup_len n o h.nd h.lt
theorem Gd.add {n l : Nat} {o : List Nat} (h : Gd n o) (hl : l < n) : Gd n (add1 o l) := by
  unfold add1
  split
  · exact h
  · rename_i hk
    refine ⟨?_, ?_⟩
    · rw [List.nodup_append]
      refine ⟨h.nd, by simp, ?_⟩
      intro a ha b hb
      simp at hb; subst hb
      intro e; subst e; exact hk ha
    · intro x hx
      rcases List.mem_append.mp hx with hx | hx
      · exact h.lt x hx
      · simp at hx; omega
theorem add1_pre (o : List Nat) (l : Nat) : o <+: add1 o l := by
  unfold add1; split
  · exact List.prefix_refl _
  · exact List.prefix_append _ _
theorem add1_mem (o : List Nat) (l : Nat) : l ∈ add1 o l := by
  unfold add1; split
  · assumption
  · simp
theorem addR_pre (r : List (List Nat × Nat)) : ∀ o, o <+: addR o r := by
  induction r with
  | nil => intro o; exact List.prefix_refl _
  | cons e r ih => intro o; exact (add1_pre o e.2).trans (ih _)
theorem addR_mem (r : List (List Nat × Nat)) : ∀ o, ∀ e ∈ r, e.2 ∈ addR o r := by
  induction r with
  | nil => intro o e he; cases he
  | cons e r ih =>
    intro o e' he
    rcases List.mem_cons.mp he with rfl | he
    · exact (addR_pre r (add1 o e'.2)).subset (add1_mem o e'.2)
    · exact ih (add1 o e.2) e' he
theorem addR_gd {n : Nat} (r : List (List Nat × Nat)) : ∀ o, Gd n o → (∀ e ∈ r, e.2 < n) → Gd n (addR o r) := by
  induction r with
  | nil => intro o h _; exact h
  | cons e r ih => intro o h hr; exact ih _ (h.add (hr e (by simp))) fun e' he => hr e' (by simp [he])
theorem getD_row {q sz : Nat} {c : Cod} (h : Wf q sz c) {s : Nat} (hs : s < c.length) : c.getD s [] ∈ c := by
  rw [List.getD_eq_getElem?_getD, List.getElem?_eq_getElem hs]; exact List.getElem_mem hs
/-- the first i states of o are done -/
def Done (c : Cod) (o : List Nat) (i : Nat) : Prop := ∀ j, j < i → ∀ e ∈ c.getD (o.getD j 0) [], e.2 ∈ o
theorem getD_pre {o o' : List Nat} (h : o <+: o') {i : Nat} (hi : i < o.length) : o'.getD i 0 = o.getD i 0 := by
  obtain ⟨t, rfl⟩ := h
  rw [List.getD_eq_getElem?_getD, List.getD_eq_getElem?_getD, List.getElem?_append_left hi]
theorem row_lt {q sz : Nat} {c : Cod} (h : Wf q sz c) (s : Nat) : ∀ e ∈ c.getD s [], e.2 < c.length := by
  intro e he
  by_cases hs : s < c.length
  · exact (h.ent _ (getD_row h hs) e he).lt
  · rw [List.getD_eq_getElem?_getD, List.getElem?_eq_none (by omega)] at he; simp at he
theorem bfs_good {q sz : Nat} {c : Cod} (h : Wf q sz c) : ∀ (n : Nat) (o : List Nat) (i : Nat), Gd c.length o → i ≤ o.length → Done c o i → c.length - i ≤ n → Gd c.length (bfs c (n + 1) o i) ∧ Done c (bfs c (n + 1) o i) (bfs c (n + 1) o i).length ∧ o <+: bfs c (n + 1) o i := by
  intro n
  induction n with
  | zero =>
    intro o i hg hi hd hn
    have := hg.len
    have e : bfs c 1 o i = o := by
      unfold bfs
      rw [if_neg (by omega)]
    rw [e]
    have : i = o.length := by omega
    subst this
    exact ⟨hg, hd, List.prefix_refl _⟩
  | succ n ih =>
    intro o i hg hi hd hn
    by_cases hlt : i < o.length
    · have e : bfs c (n + 1 + 1) o i = bfs c (n + 1) (addR o (c.getD (o.getD i 0) [])) (i + 1) := by
        rw [bfs, if_pos hlt]
      rw [e]
      have hp := addR_pre (c.getD (o.getD i 0) []) o
      have := ih (addR o (c.getD (o.getD i 0) [])) (i + 1) (addR_gd _ _ hg (row_lt h _)) (by have := hp.length_le; omega) (by
        intro j hj en he
        by_cases hji : j = i
        · subst hji
          rw [getD_pre hp hlt] at he
          exact addR_mem _ _ en he
        · rw [getD_pre hp (by omega)] at he
          exact hp.subset (hd j (by omega) en he)) (by omega)
      exact ⟨this.1, this.2.1, hp.trans this.2.2⟩
    · have e : bfs c (n + 1 + 1) o i = o := by rw [bfs, if_neg hlt]
      rw [e]
      have : i = o.length := by omega
      subst this
      exact ⟨hg, hd, List.prefix_refl _⟩
theorem gd0 {q sz : Nat} {c : Cod} (h : Wf q sz c) : Gd c.length [0] := ⟨by simp, fun x hx => by simp at hx; have := h.pos; omega⟩
theorem met_good {q sz : Nat} {c : Cod} (h : Wf q sz c) : Gd c.length (met c) ∧ Done c (met c) (met c).length ∧ [0] <+: met c :=
  bfs_good h c.length [0] 0 (gd0 h) (by simp) (fun j hj => absurd hj (by omega)) (by omega)
theorem met_closed {q sz : Nat} {c : Cod} (h : Wf q sz c) {s : Nat} (hs : s ∈ met c) : ∀ e ∈ c.getD s [], e.2 ∈ met c := by
  obtain ⟨i, hi, e⟩ := List.getElem_of_mem hs
  have := (met_good h).2.1 i hi
  rw [List.getD_eq_getElem?_getD (l := met c), List.getElem?_eq_getElem hi] at this
  simp only [Option.getD_some, e] at this
  exact this
theorem renum_wf {q sz : Nat} {c : Cod} (h : Wf q sz c) : Wf q sz (renum c) where
  pos := by
    have := (met_good h).2.2.length_le
    simp at this
    simp [renum]; omega
  few := by
    have := (met_good h).1.len
    have := h.few
    simp [renum]; omega
  row := by
    intro r hr
    simp only [renum, List.mem_map] at hr
    obtain ⟨s, hs, rfl⟩ := hr
    rw [List.length_map]
    exact h.row _ (getD_row h ((met_good h).1.lt s hs))
  ent := by
    intro r hr e he
    simp only [renum, List.mem_map] at hr
    obtain ⟨s, hs, rfl⟩ := hr
    simp only [List.mem_map] at he
    obtain ⟨e0, he0, rfl⟩ := he
    have w := h.ent _ (getD_row h ((met_good h).1.lt s hs)) e0 he0
    refine ⟨w.len, w.sub, ?_⟩
    have := List.idxOf_lt_length_of_mem (met_closed h hs e0 he0)
    simpa [renum] using this
/-! ## order in Python's data -/
abbrev iD (n : Nat) : D := .int (n : Int)
theorem hasK_n (o : List Nat) (k : Nat) : hasK (o.map kN) (kN k) = decide (k ∈ o) := by
  induction o with
  | nil => simp [hasK]
  | cons p o ih =>
    have e : hasK ((p :: o).map kN) (kN k) = (decide (kN p = kN k) || hasK (o.map kN) (kN k)) := rfl
    rw [e, ih]
    by_cases h : p = k
    · simp [h]
    · have : ¬ kN p = kN k := fun z => h (kN_inj _ _ z)
      have h2 : ¬ k = p := fun z => h z.symm
      simp [this, h2]
theorem flL_n (o : List Nat) : flL (o.map iD) = some (o.map fun n : Nat => V.int (n : Int)) := by
  induction o with
  | nil => rfl
  | cons p o ih => simp [flL, fl, ih]
theorem inV_n (o : List Nat) (k : Nat) : inV (V.int (k : Int)) (o.map fun n : Nat => V.int (n : Int)) = decide (k ∈ o) := by
  induction o with
  | nil => rfl
  | cons p o ih =>
    have e : inV (V.int (k : Int)) ((p :: o).map fun n : Nat => V.int (n : Int)) = (eqV (V.int (p : Int)) (V.int (k : Int)) || inV (V.int (k : Int)) (o.map fun n : Nat => V.int (n : Int))) := by
      rfl
    rw [e, ih]
    by_cases h : p = k
    · simp [h, eqV]
    · have h2 : ¬ k = p := fun z => h z.symm
      have h3 : ¬ ((p : Int) = (k : Int)) := by omega
      simp [eqV, h2, h3]
theorem notIn_n (o : List Nat) (k : Nat) : dNotIn (iD k) (.lst (o.map iD)) = some (.im (.bl (!decide (k ∈ o)))) := by
  simp only [dNotIn, inD, fl, flL_n, inV_n, Option.map_some]
theorem index_n (o : List Nat) (k : Nat) (h : k ∈ o) : dIndex (.lst (o.map iD)) (iD k) = some ((o.idxOf k : Nat) : Int) := by
  have e : ixF (o.map fun n : Nat => V.int (n : Int)) (V.int (k : Int)) = some (o.idxOf k) := by
    induction o with
    | nil => cases h
    | cons p o ih =>
      by_cases hp : p = k
      · subst hp; simp [ixF, eqV]
      · have h3 : ¬ ((p : Int) = (k : Int)) := by omega
        have := ih (by rcases List.mem_cons.mp h with z | z; exact absurd z.symm hp; exact z)
        simp [ixF, eqV, h3, this, List.idxOf_cons, hp, beq_iff_eq, cond]
        have : (p == k) = false := by simpa using hp
        simp [this]
  simp only [dIndex, flL_n, fl, Option.bind_some, e, Option.map_some]
end BR
set_option Elab.async false
set_option linter.all false
set_option maxRecDepth 100000
set_option maxHeartbeats 1000000
namespace BR
open PySem L2
/-! ## the same code under other numbers -/
/-- enough fuel is enough -/
theorem bfs_more {q sz : Nat} {c : Cod} (h : Wf q sz c) : ∀ (n : Nat) (o : List Nat) (i : Nat), Gd c.length o → i ≤ o.length → c.length - i ≤ n → ∀ k, bfs c (n + 1 + k) o i = bfs c (n + 1) o i := by
  intro n
  induction n with
  | zero =>
    intro o i hg hi hn k
    have := hg.len
    rw [show 0 + 1 + k = k + 1 by omega, bfs, bfs, if_neg (by omega), if_neg (by omega)]
  | succ n ih =>
    intro o i hg hi hn k
    rw [show n + 1 + 1 + k = (n + 1 + k) + 1 by omega, bfs]
    rw [show bfs c (n + 1 + 1) o i = if i < o.length then bfs c (n + 1) (addR o (c.getD (o.getD i 0) [])) (i + 1) else o from rfl]
    by_cases hlt : i < o.length
    · rw [if_pos hlt, if_pos hlt]
      have hp := addR_pre (c.getD (o.getD i 0) []) o
      exact ih _ (i + 1) (addR_gd _ _ hg (row_lt h _)) (by have := hp.length_le; omega) (by omega) k
    · rw [if_neg hlt, if_neg hlt]
theorem met_more {q sz : Nat} {c : Cod} (h : Wf q sz c) (k : Nat) : bfs c (c.length + 1 + k) [0] 0 = met c :=
  bfs_more h c.length [0] 0 (gd0 h) (by simp) (by omega) k
/-- how the states of c' stand for those of c -/
structure Sim (c c' : Cod) (S : Nat → Prop) (f : Nat → Nat) : Prop where
  inj : ∀ a b, S a → S b → f a = f b → a = b
  z : f 0 = 0
  s0 : S 0
  cl : ∀ s, S s → ∀ e ∈ c'.getD s [], S e.2
  row : ∀ s, S s → c.getD (f s) [] = (c'.getD s []).map fun e => (e.1, f e.2)
section
variable {c c' : Cod} {S : Nat → Prop} {f : Nat → Nat}
theorem mem_map_sim (h : Sim c c' S f) {o : List Nat} (ho : ∀ x ∈ o, S x) {l : Nat} (hl : S l) : f l ∈ o.map f ↔ l ∈ o := by
  constructor
  · intro m
    obtain ⟨x, hx, e⟩ := List.mem_map.mp m
    rw [← h.inj x l (ho x hx) hl e]; exact hx
  · exact fun m => List.mem_map.mpr ⟨l, m, rfl⟩
theorem add1_sim (h : Sim c c' S f) {o : List Nat} (ho : ∀ x ∈ o, S x) {l : Nat} (hl : S l) : add1 (o.map f) (f l) = (add1 o l).map f ∧ ∀ x ∈ add1 o l, S x := by
  have m := mem_map_sim h ho hl
  unfold add1
  by_cases k : l ∈ o
  · rw [if_pos k, if_pos (m.mpr k)]; exact ⟨rfl, ho⟩
  · rw [if_neg k, if_neg (fun z => k (m.mp z))]
    refine ⟨by simp, fun x hx => ?_⟩
    rcases List.mem_append.mp hx with z | z
    · exact ho x z
    · simp at z; subst z; exact hl
theorem addR_sim (h : Sim c c' S f) : ∀ (r : List (List Nat × Nat)) (o : List Nat), (∀ x ∈ o, S x) → (∀ e ∈ r, S e.2) → addR (o.map f) (r.map fun e => (e.1, f e.2)) = (addR o r).map f ∧ ∀ x ∈ addR o r, S x
  | [], o, ho, _ => ⟨rfl, ho⟩
  | e :: r, o, ho, hr => by
    obtain ⟨e1, h1⟩ := add1_sim h ho (hr e (by simp))
    have := addR_sim h r (add1 o e.2) h1 fun e' he' => hr e' (by simp [he'])
    simp only [addR, List.map_cons, List.foldl_cons] at this ⊢
    rw [e1]; exact this
theorem getD_map_f (hz : f 0 = 0) (o : List Nat) (i : Nat) : (o.map f).getD i 0 = f (o.getD i 0) := by
  rw [List.getD_eq_getElem?_getD, List.getD_eq_getElem?_getD, List.getElem?_map]
  cases o[i]? with
  | none => exact hz.symm
  | some x => rfl
theorem bfs_sim (h : Sim c c' S f) : ∀ (n : Nat) (o : List Nat) (i : Nat), (∀ x ∈ o, S x) → bfs c n (o.map f) i = (bfs c' n o i).map f ∧ ∀ x ∈ bfs c' n o i, S x
  | 0, o, i, ho => ⟨rfl, ho⟩
  | n + 1, o, i, ho => by
    rw [bfs, bfs, List.length_map]
    by_cases hi : i < o.length
    · rw [if_pos hi, if_pos hi, getD_map_f h.z]
      have hs : S (o.getD i 0) := ho _ (by rw [List.getD_eq_getElem?_getD, List.getElem?_eq_getElem hi]; exact List.getElem_mem hi)
      rw [h.row _ hs]
      obtain ⟨e1, h1⟩ := addR_sim h (c'.getD (o.getD i 0) []) o ho (h.cl _ hs)
      rw [e1]
      exact bfs_sim h n _ (i + 1) h1
    · rw [if_neg hi, if_neg hi]; exact ⟨rfl, ho⟩
theorem idxOf_map (h : Sim c c' S f) : ∀ (o : List Nat), (∀ x ∈ o, S x) → ∀ l, S l → (o.map f).idxOf (f l) = o.idxOf l
  | [], _, _, _ => rfl
  | x :: o, ho, l, hl => by
    rw [List.map_cons, List.idxOf_cons, List.idxOf_cons]
    by_cases k : x = l
    · subst k; simp
    · have k2 : f x ≠ f l := fun z => k (h.inj x l (ho x (by simp)) hl z)
      have b1 : (f x == f l) = false := beq_eq_false_iff_ne.mpr k2
      have b2 : (x == l) = false := beq_eq_false_iff_ne.mpr k
      rw [idxOf_map h o (fun y hy => ho y (by simp [hy])) l hl, b1, b2]
theorem renum_sim {q sz : Nat} (h : Sim c c' S f) (w : Wf q sz c) (w' : Wf q sz c') : renum c' = renum c := by
  have e1 := met_more w c'.length
  have e2 := met_more w' c.length
  rw [show c'.length + 1 + c.length = c.length + 1 + c'.length by omega] at e2
  obtain ⟨e3, hS⟩ := bfs_sim h (c.length + 1 + c'.length) [0] 0 (fun x hx => by simp at hx; subst hx; exact h.s0)
  have e0 : [0].map f = [0] := by simp [h.z]
  rw [e0, e1, e2] at e3
  rw [e2] at hS
  unfold renum
  rw [e3, List.map_map]
  refine List.map_congr_left fun s hs => ?_
  show _ = ((c.getD (f s) []).map fun e => (e.1, ((met c').map f).idxOf e.2))
  rw [h.row s (hS s hs), List.map_map]
  refine List.map_congr_left fun e he => ?_
  show (e.1, (met c').idxOf e.2) = (e.1, ((met c').map f).idxOf (f e.2))
  rw [idxOf_map h _ hS _ (h.cl s (hS s hs) e he)]
end
/-! ### the code with its states in the order of o -/
def ren (c : Cod) (o : List Nat) : Cod := o.map fun s => (c.getD s []).map fun e => (e.1, o.idxOf e.2)
/-- an order of states -/
structure Ord (c : Cod) (o : List Nat) : Prop where
  gd : Gd c.length o
  z : [0] <+: o
  cl : ∀ s ∈ o, ∀ e ∈ c.getD s [], e.2 ∈ o
theorem renum_ren (c : Cod) : renum c = ren c (met c) := rfl
theorem ord_met {q sz : Nat} {c : Cod} (h : Wf q sz c) : Ord c (met c) := ⟨(met_good h).1, (met_good h).2.2, fun s hs => met_closed h hs⟩
theorem ren_wf {q sz : Nat} {c : Cod} (h : Wf q sz c) {o : List Nat} (ho : Ord c o) : Wf q sz (ren c o) where
  pos := by
    have := ho.z.length_le
    simp at this
    simp [ren]; omega
  few := by
    have := ho.gd.len
    have := h.few
    simp [ren]; omega
  row := by
    intro r hr
    simp only [ren, List.mem_map] at hr
    obtain ⟨s, hs, rfl⟩ := hr
    rw [List.length_map]
    exact h.row _ (getD_row h (ho.gd.lt s hs))
  ent := by
    intro r hr e he
    simp only [ren, List.mem_map] at hr
    obtain ⟨s, hs, rfl⟩ := hr
    simp only [List.mem_map] at he
    obtain ⟨e0, he0, rfl⟩ := he
    have w := h.ent _ (getD_row h (ho.gd.lt s hs)) e0 he0
    refine ⟨w.len, w.sub, ?_⟩
    have := List.idxOf_lt_length_of_mem (ho.cl s hs e0 he0)
    simpa [ren] using this
theorem sim_ren {c : Cod} {o : List Nat} (ho : Ord c o) : Sim c (ren c o) (fun s => s < o.length) (fun s => o.getD s 0) := by
  obtain ⟨t, ht⟩ := ho.z
  have gd : ∀ s (hs : s < o.length), o.getD s 0 = o[s] := fun s hs => by rw [List.getD_eq_getElem?_getD, List.getElem?_eq_getElem hs]; rfl
  have row : ∀ s (hs : s < o.length), (ren c o).getD s [] = (c.getD o[s] []).map fun e => (e.1, o.idxOf e.2) := fun s hs => by
    rw [List.getD_eq_getElem?_getD, ren, List.getElem?_map, List.getElem?_eq_getElem hs]; rfl
  refine ⟨fun a b ha hb e => ?_, ?_, ?_, fun s hs e he => ?_, fun s hs => ?_⟩
  · rw [gd a ha, gd b hb] at e
    have h1 := ho.gd.nd.idxOf_getElem a ha
    have h2 := ho.gd.nd.idxOf_getElem b hb
    rw [e] at h1
    exact h1.symm.trans h2
  · rw [← ht]; rfl
  · rw [← ht]; simp
  · rw [row s hs] at he
    obtain ⟨e0, he0, rfl⟩ := List.mem_map.mp he
    exact List.idxOf_lt_length_of_mem (ho.cl _ (List.getElem_mem hs) e0 he0)
  · rw [row s hs, gd s hs, List.map_map]
    have : ∀ e ∈ c.getD o[s] [], ((fun e : List Nat × Nat => (e.1, o.getD e.2 0)) ∘ fun e => (e.1, o.idxOf e.2)) e = e := fun e he => by
      have hi := List.idxOf_lt_length_of_mem (ho.cl _ (List.getElem_mem hs) e he)
      show (e.1, o.getD (o.idxOf e.2) 0) = e
      rw [gd _ hi, List.getElem_idxOf]
    rw [List.map_congr_left this, List.map_id']
theorem renum_inv {q sz : Nat} {c : Cod} (h : Wf q sz c) {o : List Nat} (ho : Ord c o) : renum (ren c o) = renum c := renum_sim (sim_ren ho) h (ren_wf h ho)
theorem renum_idem {q sz : Nat} {c : Cod} (h : Wf q sz c) : renum (renum c) = renum c := renum_inv h (ord_met h)
theorem renum_wide {q sz : Nat} {c x : Cod} (h : Wf q sz c) (h' : Wf q sz (c ++ x)) : renum (c ++ x) = renum c := by
  have row : ∀ s, s < c.length → (c ++ x).getD s [] = c.getD s [] := fun s hs => by
    rw [List.getD_eq_getElem?_getD, List.getD_eq_getElem?_getD, List.getElem?_append_left hs]
  refine renum_sim (S := fun s => s < c.length) (f := fun s => s) ⟨fun _ _ _ _ e => e, rfl, h.pos, fun s hs e he => ?_, fun s hs => ?_⟩ h h'
  · rw [row s hs] at he; exact row_lt h s e he
  · rw [row s hs]; simp
/-- a turn: 0 stays, the rest in any order -/
theorem ord_turn {q sz : Nat} {c : Cod} (h : Wf q sz c) {t : List Nat} (ht : t.Perm (List.range' 1 (c.length - 1))) : Ord c (0 :: t) := by
  have hm : ∀ x, x ∈ t ↔ 1 ≤ x ∧ x < c.length := fun x => by
    rw [ht.mem_iff, List.mem_range'_1]; omega
  have hp := h.pos
  refine ⟨⟨?_, fun x hx => ?_⟩, ⟨t, rfl⟩, fun s hs e he => ?_⟩
  · rw [List.nodup_cons]
    exact ⟨fun z => by have := (hm 0).mp z; omega, ht.nodup_iff.mpr List.nodup_range'⟩
  · rcases List.mem_cons.mp hx with rfl | z
    · exact hp
    · exact ((hm x).mp z).2
  · have := row_lt h s e he
    by_cases k : e.2 = 0
    · rw [k]; simp
    · exact List.mem_cons_of_mem _ ((hm _).mpr ⟨by omega, this⟩)
end BR
set_option Elab.async false
set_option linter.all false
set_option maxRecDepth 100000
set_option maxHeartbeats 400000
namespace LW
open PySem L2 BR
abbrev eD (e : List Nat × Nat) : D := .tup [.str (Tx e.1), .int (e.2 : Int)]
abbrev rowD (r : List (List Nat × Nat)) : D := .lst (r.map eD)
abbrev codeD (c : Cod) : D := .lst (c.map rowD)
noncomputable abbrev rateD (K : PySem.W.Frag) (p q : Nat) : D := .ins (He.ga K "Rate") ["rate_bits", "rate_signs"] [.int (p : Int), .int (q : Int)]
noncomputable abbrev coderD (K : PySem.W.Frag) (p q : Nat) (c : Cod) (lead : List Nat) : D := .ins (He.ga K "Coder") ["own_rate", "own_lead", "own_codes"] [rateD K p q, .str (Tx lead), codeD c]
theorem sl : 1000000 ≤ sizeLine := by have := sizeLine_eq; omega
theorem is_integer_ok (K : PySem.W.Frag) (i : Int) : F_is_integer K [.int i] = .ok (.bl true, []) := by rfl
theorem is_count_ok (K : PySem.W.Frag) (i : Nat) : F_is_count K [.int (i : Int)] = .ok (.bl true, []) := by
  have : decide (0 ≤ (i : Int)) = true := decide_eq_true (by omega)
  show R.ok (D.bl (decide (0 ≤ (i : Int))), []) = _
  rw [this]
theorem is_list_ok (K : PySem.W.Frag) (ds : List D) : F_is_list K [.lst ds] = .ok (.bl true, []) := by rfl
theorem fr_bits (C : Addr) (a b : D) : fldD ["rate_bits", "rate_signs"] [a, b] "rate_bits" = some a := rfl
theorem fr_signs (C : Addr) (a b : D) : fldD ["rate_bits", "rate_signs"] [a, b] "rate_signs" = some b := rfl
theorem fc_rate (a b c : D) : fldD ["own_rate", "own_lead", "own_codes"] [a, b, c] "own_rate" = some a := rfl
theorem fc_lead (a b c : D) : fldD ["own_rate", "own_lead", "own_codes"] [a, b, c] "own_lead" = some b := rfl
theorem fc_codes (a b c : D) : fldD ["own_rate", "own_lead", "own_codes"] [a, b, c] "own_codes" = some c := rfl
theorem rate_q (K : PySem.W.Frag) (p q : Nat) : F_Rate_q K [rateD K p q] = .ok (.int (q : Int), []) := by
  simp [F_Rate_q, B_Rate_q, fr_signs, -fldD]
theorem rate_size (K : PySem.W.Frag) (p q : Nat) (h : p ≤ 6) : F_Rate_size K [rateD K p q] = .ok (.int ((2 ^ p : Nat) : Int), []) := by
  have e : dIc CPow (fun i j => i * 2 ^ j.toNat) (.int 1) (.int (p : Int)) = some (.im (.int ((2 ^ p : Nat) : Int))) := by
    rw [dIc_ok (by unfold CPow; omega)]
    simp
  simp [F_Rate_size, B_Rate_size, fr_bits, -fldD, e]
theorem want_rate_ok (K : PySem.W.Frag) (p q : Nat) : F_want_rate K [rateD K p q] = .ok (.non, []) := by
  simp [F_want_rate, B_want_rate, dIsi, insIn, isIns, clsDs]
theorem coder_rate (K : PySem.W.Frag) (p q : Nat) (c : Cod) (lead : List Nat) : F_Coder_rate K [coderD K p q c lead] = .ok (rateD K p q, []) := by
  simp [F_Coder_rate, B_Coder_rate, fc_rate, -fldD]
theorem coder_lead (K : PySem.W.Frag) (p q : Nat) (c : Cod) (lead : List Nat) : F_Coder_lead K [coderD K p q c lead] = .ok (.str (Tx lead), []) := by
  simp [F_Coder_lead, B_Coder_lead, fc_lead, -fldD]
theorem blsD_map {α : Type} (f : α → Bool) (xs : List α) : blsD (xs.map fun x => D.bl (f x)) = some (xs.map f) := by
  induction xs with
  | nil => rfl
  | cons x xs ih => simp [blsD, ih]
theorem all_true {α : Type} (xs : List α) : dAll [.lst (xs.map fun _ => D.bl true)] = some (.im (.bl true)) := by
  simp only [dAll, blsD_map (fun _ => true), Option.map_some]
  congr 3
  simp
theorem is_row_ok (K : PySem.W.Frag) (l : List Nat) (h : Sg l) (hl : l.length ≤ 100000) : F_is_row K [.str (Tx l)] = .ok (.bl true, []) := by
  have e := lcL_map (vs := [1]) (g := gVar 1) (p := pYes) (fe := eOp2 dIn (eVar 1) (eK (.str "abcd"))) (fun c : Nat => D.str ⟨#[c]⟩) (fun _ => .bl true) [some (.sh (.str (Tx l))), none] l (by
    intro c hc
    have hc' : c ∈ ("abcd" : Str).cps.toList := h c hc
    have e1 : dIn (.str ⟨#[c]⟩) (.str "abcd") = some (.im (.bl true)) := by
      show some (Rz.im (D.bl (decide (c ∈ ("abcd" : Str).cps.toList)))) = _
      rw [decide_eq_true hc']
    simp [e1]) (by have := sl; omega)
  have a := all_true l
  simp [F_is_row, B_is_row, dIsi, clsDs, plD, isStrD, signs, e, a]
theorem is_block_of_ok (K : PySem.W.Frag) (p q : Nat) (l : List Nat) (h : Sg l) (hl : l.length = q) (hq : q ≤ 1000) : F_is_block_of K [rateD K p q, .str (Tx l)] = .ok (.bl true, []) := by
  have e := is_row_ok K l h (by omega)
  have h1 : l.length ≤ sizeLine := by have := sl; omega
  have e2 := rate_q K p q
  subst hl
  simp [F_is_block_of, B_is_block_of, e, T_len, h1, e2, dEq, eqD]
theorem is_entry_ok (K : PySem.W.Frag) (p q n : Nat) (e : List Nat × Nat) (hq : q ≤ 1000) (h : WfE q n e) : F_is_entry K [rateD K p q, .int (n : Int), eD e] = .ok (.bl true, []) := by
  have e1 := is_block_of_ok K p q e.1 h.sub h.len hq
  have e2 := is_count_ok K e.2
  have a0 : ∀ x y : D, atI [x, y] 0 = some x := fun _ _ => rfl
  have a1 : ∀ x y : D, atI [x, y] 1 = some y := fun _ _ => rfl
  have h3 := h.lt
  simp [F_is_entry, B_is_entry, e1, e2, a0, a1, dNe, eqD, dIsi, clsDs, plD, isTupD, h3]
theorem are_entries_ok (K : PySem.W.Frag) (p q n : Nat) (r : List (List Nat × Nat)) (hp : p ≤ 6) (hq : q ≤ 1000) (hr : r.length = 2 ^ p) (h : ∀ e ∈ r, WfE q n e) : F_are_entries K [rateD K p q, .int (n : Int), rowD r] = .ok (.bl true, []) := by
  have e1 := is_list_ok K (r.map eD)
  have e2 := rate_size K p q hp
  have hl : r.length ≤ 1000 := by
    rw [hr]
    calc 2 ^ p ≤ 2 ^ 6 := Nat.pow_le_pow_right (by omega) hp
      _ ≤ 1000 := by decide
  have e := lcL_map (vs := [3]) (g := gVar 3) (p := pYes) (fe := eCall false (F_is_entry K) (mSh (eVar 0) (mSh (eVar 1) (mSh (eVar 3) (mNil))))) eD (fun _ => .bl true) [some (.sh (rateD K p q)), some (.sh (.int (n : Int))), some (.sh (rowD r)), none] r (by
    intro e he
    have e3 := is_entry_ok K p q n e hq (h e he)
    simp [e3]) (by have := sl; omega)
  have a := all_true r
  simp [F_are_entries, B_are_entries, e1, e2, e, a, dNe, eqD, hr]
theorem enums_map {β : Type} (toD : β → D) (xs : List β) : enums (xs.map toD) = ((List.range xs.length).zip xs).map fun z => D.tup [.int (z.1 : Int), toD z.2] := by
  unfold enums
  rw [List.length_map, List.zipWith_map_right, List.zip, List.map_zipWith]
def shN (x : Option Sl) : Prop := x = none ∨ ∃ d, x = some (.sh d)
theorem shN_sh (d : D) : shN (some (.sh d)) := .inr ⟨d, rfl⟩
theorem shN_no : shN none := .inl rfl
theorem want_codes_ok (K : PySem.W.Frag) (p q : Nat) (c : Cod) (hp : p ≤ 6) (hq : q ≤ 1000) (h : Wf q (2 ^ p) c) : F_want_codes K [rateD K p q, codeD c] = .ok (.non, []) := by
  have e1 := is_list_ok K (c.map rowD)
  have h0 : ¬ (c = []) := fun z => by have := h.pos; rw [z] at this; cases this
  have hF := sForL_keep (g := gTupF 2 (gsCons (gVar 2) (gsCons (gVar 3) (gsNil)))) (b := sIf (tNotF (tstV (eCall false (F_are_entries K) (mSh (eVar 0) (mSh (eCB dLen (hCons (eVar 1) (hNil))) (mSh (eVar 3) (mNil))))))) (sNo) (sNil))
    (fun z : Nat × List (List Nat × Nat) => D.tup [.int (z.1 : Int), rowD z.2]) (fun ρ => ∃ x y, shN x ∧ shN y ∧ ρ = [some (.sh (rateD K p q)), some (.sh (codeD c)), x, y]) ((List.range c.length).zip c) [some (.sh (rateD K p q)), some (.sh (codeD c)), none, none] (by
      rintro z ρ hz ⟨x, y, hx, hy, rfl⟩
      have hz2 : z.2 ∈ c := (List.of_mem_zip hz).2
      have e3 := are_entries_ok K p q c.length z.2 hp hq (h.row _ hz2) (h.ent _ hz2)
      refine ⟨[some (.sh (rateD K p q)), some (.sh (codeD c)), some (.sh (.int z.1)), some (.sh (rowD z.2))], ?_, _, _, shN_sh _, shN_sh _, rfl⟩
      rcases hx with rfl | ⟨d, rfl⟩ <;> rcases hy with rfl | ⟨d', rfl⟩ <;> simp [e3]) ⟨_, _, shN_no, shN_no, rfl⟩
  obtain ⟨ρ', e, x, y, hx, hy, rfl⟩ := hF
  rw [← enums_map] at e
  simp [F_want_codes, B_want_codes, e1, e, dEq, eqD, h0]
end LW
set_option Elab.async false
set_option linter.all false
set_option maxRecDepth 100000
set_option maxHeartbeats 400000
namespace LW
open PySem L2 BR
theorem rate_init (K : PySem.W.Frag) (p q : Nat) (h1 : 1 ≤ p) (h2 : p ≤ 6) (h3 : 1 ≤ q) (h4 : q ≤ 6) : F_Rate___init__ K [.ins (He.ga K "Rate") [] [], .int (p : Int), .int (q : Int)] = .ok (.non, [rateD K p q]) := by
  have e := sForL_keep (g := gVar 3) (b := sIf (tOrF (tNotF (tstV (eCall false (F_is_integer K) (mSh (eVar 3) (mNil))))) (tNotF (tstV (eChain (fun i j => decide (i ≤ j)) (fun i j => decide (i ≤ j)) (eK (.int 1)) (eVar 3) (eK (.int 6)))))) (sNo) (sNil))
    iD (fun ρ => ∃ x, shN x ∧ ρ = [some (.io (.ins (He.ga K "Rate") [] [])), some (.sh (.int (p : Int))), some (.sh (.int (q : Int))), x]) [p, q] [some (.io (.ins (He.ga K "Rate") [] [])), some (.sh (.int (p : Int))), some (.sh (.int (q : Int))), none] (by
      rintro z ρ hz ⟨x, hx, rfl⟩
      have hz2 : 1 ≤ (z : Int) ∧ (z : Int) ≤ 6 := by simp at hz; omega
      have e1 := is_integer_ok K (z : Int)
      refine ⟨[some (.io (.ins (He.ga K "Rate") [] [])), some (.sh (.int (p : Int))), some (.sh (.int (q : Int))), some (.sh (iD z))], ?_, _, shN_sh _, rfl⟩
      rcases hx with rfl | ⟨d, rfl⟩ <;> simp [e1, hz2.1, hz2.2]) ⟨_, shN_no, rfl⟩
  obtain ⟨ρ', e, x, hx, rfl⟩ := e
  simp only [List.map_cons, List.map_nil] at e
  have f1 : setFn ["rate_bits"] "rate_signs" = (["rate_bits", "rate_signs"] : List Str) := rfl
  have f2 : ∀ a b : D, setFx ["rate_bits"] [a] "rate_signs" b = [a, b] := fun _ _ => rfl
  have hs : 2 ≤ sizeLine := by have := sl; omega
  have f3 : setFn [] "rate_bits" = (["rate_bits"] : List Str) := rfl
  have f4 : ∀ b : D, setFx [] [] "rate_bits" b = [b] := fun _ => rfl
  simp [F_Rate___init__, B_Rate___init__, e, f1, f2, f3, f4, hs, -setFn, -setFx]
theorem coder_codes (K : PySem.W.Frag) (p q : Nat) (c : Cod) (lead : List Nat) (hc : c.length ≤ 100000) : F_Coder_codes K [coderD K p q c lead] = .ok (codeD c, []) := by
  have e := lcL_map (vs := [1]) (g := gVar 1) (p := pYes) (fe := eCB dList (hCons (eVar 1) (hNil))) rowD rowD [some (.sh (coderD K p q c lead)), none] c (by
    intro r hr
    simp [dList]) (by have := sl; omega)
  simp [F_Coder_codes, B_Coder_codes, fc_codes, -fldD, e]
/-! ### states_met -/
noncomputable abbrev smG : D → S → Option S := gTupF 2 (gsCons (gVar 4) (gsCons (gVar 5) (gsNil)))
noncomputable abbrev smB : SF := sIf (tstV (eOp2 dNotIn (eVar 5) (eVar 2))) (sSeq (sPutD 2 (eVar 5) (eK (.bl true))) (sDrop (eAppend 1 (eVar 5)))) (sNil)
abbrev knD (o : List Nat) : D := .dic (o.map kN) (o.map fun _ => .bl true)
theorem sm_row (c : Cod) (n i : Nat) (hn : n ≤ 1000) (o : List Nat) (r : List (List Nat × Nat)) (hg : Gd n o) (hr : ∀ e ∈ r, e.2 < n) (x y : Option Sl) (hx : shN x) (hy : shN y) : ∃ x' y', shN x' ∧ shN y' ∧
    sForL smG smB (r.map eD) [some (.sh (codeD c)), some (.own (.lst (o.map iD))), some (.own (knD o)), some (.sh (iD i)), x, y] =
      .ok (.nx, [some (.sh (codeD c)), some (.own (.lst ((addR o r).map iD))), some (.own (knD (addR o r))), some (.sh (iD i)), x', y']) := by
  have e := sForL_rel (g := smG) (b := smB) eD (fun p ρ => ∃ x y, shN x ∧ shN y ∧ (∀ e ∈ p, e.2 < n) ∧ ρ = [some (.sh (codeD c)), some (.own (.lst ((addR o p).map iD))), some (.own (knD (addR o p))), some (.sh (iD i)), x, y]) r _ (by
    rintro p e ρ he ⟨x, y, hx, hy, hp, rfl⟩
    have hp2 : ∀ e' ∈ p ++ [e], e'.2 < n := by
      intro e' he'
      rcases List.mem_append.mp he' with z | z
      · exact hp e' z
      · simp at z; subst z; exact hr _ he
    refine ⟨_, ?_, some (.sh (.str (Tx e.1))), some (.sh (iD e.2)), shN_sh _, shN_sh _, hp2, rfl⟩
    have hgp := addR_gd p o hg hp
    have ha : addR o (p ++ [e]) = add1 (addR o p) e.2 := by simp [addR]
    rw [ha]
    have hl := hgp.len
    have hs : (addR o p).length < sizeLine := by have := sl; omega
    have e1 : dNotIn (iD e.2) (knD (addR o p)) = some (.im (.bl (!decide (e.2 ∈ addR o p)))) := by
      simp only [dNotIn, inD, keyD, Option.map_some]
      rw [hasK_n]
    have e2 : putDk ((addR o p).map kN) (kN e.2) = (add1 (addR o p) e.2).map kN := by
      unfold putDk add1
      rw [hasK_n]
      by_cases h : e.2 ∈ addR o p <;> simp [h]
    have e3 : e.2 ∉ addR o p → putDx ((addR o p).map kN) ((addR o p).map fun _ => D.bl true) (kN e.2) (.bl true) = (add1 (addR o p) e.2).map fun _ => D.bl true := by
      intro h
      unfold putDx add1
      rw [hasK_n]
      simp [h]
    by_cases h : e.2 ∈ addR o p
    · have e4 : add1 (addR o p) e.2 = addR o p := by unfold add1; rw [if_pos h]
      rw [e4]
      rcases hx with rfl | ⟨d, rfl⟩ <;> rcases hy with rfl | ⟨d', rfl⟩ <;> simp [e1, h]
    · have e4 : (add1 (addR o p) e.2).map iD = (addR o p).map iD ++ [iD e.2] := by unfold add1; rw [if_neg h]; simp
      have e3' := e3 h
      rcases hx with rfl | ⟨d, rfl⟩ <;> rcases hy with rfl | ⟨d', rfl⟩ <;> simp [e1, h, hs, e2, e3', e4]) ⟨x, y, hx, hy, by simp, rfl⟩
  obtain ⟨ρ', e, x', y', hx', hy', _, rfl⟩ := e
  exact ⟨x', y', hx', hy', e⟩
theorem getD_getElem {α : Type} (l : List α) (i : Nat) (d : α) (h : i < l.length) : l.getD i d = l[i] := by
  rw [List.getD_eq_getElem?_getD, List.getElem?_eq_getElem h]; rfl
theorem states_met_ok (K : PySem.W.Frag) (q sz : Nat) (c : Cod) (h : Wf q sz c) : F_states_met K [codeD c] = .ok (.lst ((met c).map iD), []) := by
  have hf := h.few
  have hw := sWhile_rel (c := tstV (eOp2 (dI fun i j => .bl (decide (i < j))) (eVar 3) (eCB dLen (hCons (eVar 1) (hNil))))) (b := sSeq (sFor (itSeq (eOp2 dIx (eVar 0) (eOp2 dIx (eVar 1) (eVar 3)))) smG smB) (sAug 3 (fun i j => i + j) (eK (.int 1))))
    (fun m ρ => ∃ o i x y, shN x ∧ shN y ∧ Gd c.length o ∧ i ≤ o.length ∧ m = c.length - i ∧ bfs c (m + 1) o i = met c ∧ ρ = [some (.sh (codeD c)), some (.own (.lst (o.map iD))), some (.own (knD o)), some (.sh (iD i)), x, y])
    (fun ρ => ∃ i x y, ρ = [some (.sh (codeD c)), some (.own (.lst ((met c).map iD))), some (.own (knD (met c))), some (.sh (iD i)), x, y]) (by
      rintro m ρ ⟨o, i, x, y, hx, hy, hg, hi, hm, hb, rfl⟩
      by_cases hlt : i < o.length
      · right
        have hl := hg.len
        obtain ⟨x', y', hx', hy', e⟩ := sm_row c c.length i (by omega) o (c.getD (o.getD i 0) []) hg (row_lt h _) x y hx hy
        have hil : ((i : Int) < (o.length : Int)) := by omega
        have ho : o[i] < c.length := hg.lt _ (List.getElem_mem hlt)
        have a1 : atI (o.map iD) (i : Int) = some (iD o[i]) := atI_m iD o i hlt
        have a2 : atI (c.map rowD) ((o[i] : Nat) : Int) = some (rowD c[o[i]]) := atI_m rowD c o[i] ho
        have e5 : c.getD (o.getD i 0) [] = c[o[i]] := by rw [getD_getElem o i 0 hlt, getD_getElem c _ [] ho]
        rw [e5] at e
        refine ⟨[some (.sh (codeD c)), some (.own (.lst (o.map iD))), some (.own (knD o)), some (.sh (iD i)), x, y], [some (.sh (codeD c)), some (.own (.lst ((addR o c[o[i]]).map iD))), some (.own (knD (addR o c[o[i]]))), some (.sh (iD (i + 1))), x', y'], c.length - (i + 1), ?_, ?_, by omega, addR o c[o[i]], i + 1, x', y', hx', hy', ?_, ?_, rfl, ?_, rfl⟩
        · simp [hlt]
        · simp [a1, a2, e]
        · exact addR_gd _ _ hg (by rw [← e5]; exact row_lt h _)
        · have := (addR_pre c[o[i]] o).length_le; omega
        · rw [bfs, if_pos hlt, e5] at hb
          rw [show c.length - (i + 1) + 1 = m by omega]
          exact hb
      · left
        rw [bfs, if_neg hlt] at hb
        rw [← hb]
        refine ⟨[some (.sh (codeD c)), some (.own (.lst (o.map iD))), some (.own (knD o)), some (.sh (iD i)), x, y], ?_, i, x, y, rfl⟩
        simp [hlt]) 64 c.length [some (.sh (codeD c)), some (.own (.lst ([0].map iD))), some (.own (knD [0])), some (.sh (iD 0)), none, none] (by omega) ⟨[0], 0, none, none, shN_no, shN_no, gd0 h, by simp, by omega, rfl, rfl⟩
  obtain ⟨ρ', e, i, x, y, rfl⟩ := hw
  have hs : 1 ≤ sizeLine := by have := sl; omega
  replace e : sWhile _ _ 64 [some (.sh (codeD c)), some (.own (.lst [.int 0])), some (.own (.dic [.inl 0] [.bl true])), some (.sh (.int 0)), none, none] = _ := e
  simp [F_states_met, B_states_met, e, hs]
end LW
set_option Elab.async false
set_option linter.all false
set_option maxRecDepth 100000
set_option maxHeartbeats 1000000
namespace BR
open PySem L2
/-- one turn of a dict comprehension -/
def dcT (vs : List Nat) (g : D → S → Option S) (fk fe : EF) (d : D) (ρ : S) : R ((Key × D) × S) :=
  ofO (g d ρ) >>= fun ρ1 => noX (fk ρ1) >>= fun z => noX (eV fe z.2) >>= fun y => ofO (asKey z.1) >>= fun k => .ok ((k, y.1), wipeS y.2 vs)
theorem dcL_cons {vs : List Nat} {g : D → S → Option S} {fk fe : EF} (d : D) (ds : List D) (acc : List Key × List D) (ρ ρ' : S) (k : Key) (x : D) (e : dcT vs g fk fe d ρ = .ok ((k, x), ρ')) (h : acc.1.length < sizeLine) :
    dcL vs g fk fe (d :: ds) acc ρ = dcL vs g fk fe ds (putDk acc.1 k, putDx acc.1 acc.2 k x) ρ' := by
  unfold dcT at e
  simp only [dcL]
  cases hg : g d ρ with
  | none => rw [hg] at e; cases e
  | some ρ1 =>
    rw [hg] at e
    simp only [ofO_some, ok_bind] at e ⊢
    cases hp : noX (fk ρ1) with
    | no => rw [hp] at e; cases e
    | exc x => rw [hp] at e; cases e
    | ok z =>
      rw [hp] at e
      simp only [ok_bind] at e ⊢
      cases hy : noX (eV fe z.2) with
      | no => rw [hy] at e; cases e
      | exc x => rw [hy] at e; cases e
      | ok y =>
        rw [hy] at e
        simp only [ok_bind] at e ⊢
        cases hk : asKey z.1 with
        | none => rw [hk] at e; cases e
        | some k' =>
          rw [hk] at e
          simp only [ofO_some, ok_bind] at e ⊢
          cases e
          rw [if_pos h]
theorem dcL_nodup {α β : Type} [DecidableEq α] {vs : List Nat} {g : D → S → Option S} {fk fe : EF} (κ : α → Key) (hκ : ∀ a b, κ a = κ b → a = b) (toD : β → D) (kv : β → α × Nat) (ρ : S) : ∀ (xs : List β) (al : List (α × Nat)),
    (∀ x ∈ xs, dcT vs g fk fe (toD x) ρ = .ok ((κ (kv x).1, .int ((kv x).2 : Int)), ρ)) → ((al ++ xs.map kv).map (·.1)).Nodup → al.length + xs.length ≤ sizeLine →
    dcL vs g fk fe (xs.map toD) (al.map fun p => κ p.1, al.map fun p => .int (p.2 : Int)) ρ = .ok (((al ++ xs.map kv).map fun p => κ p.1, (al ++ xs.map kv).map fun p => .int (p.2 : Int)), ρ) := by
  intro xs
  induction xs with
  | nil => intro al _ _ _; simp [dcL]
  | cons x xs ih =>
    intro al h hn hl
    have hx : (kv x).1 ∉ al.map (·.1) := by
      intro z
      rw [List.map_append, List.nodup_append] at hn
      exact hn.2.2 _ z (kv x).1 (by simp) rfl
    rw [List.map_cons, dcL_cons (toD x) _ _ ρ ρ _ _ (h x (by simp)) (by simp at hl ⊢; omega)]
    have hp := put_d κ hκ al (kv x).1 (kv x).2
    have e : putA al (kv x).1 (kv x).2 = al ++ [kv x] := by unfold putA; rw [if_neg hx]
    rw [e] at hp
    unfold dD at hp
    obtain ⟨h1, h2⟩ := D.dic.inj hp
    rw [h1, h2, ih (al ++ [kv x]) (fun y hy => h y (by simp [hy])) (by simpa using hn) (by simp at hl ⊢; omega)]
    simp
theorem get0_idx : ∀ (xs : List Nat) (a k : Nat), k ∈ xs → get0 (((List.range' a xs.length).zip xs).map fun z => (z.2, z.1)) k = a + xs.idxOf k
  | [], _, _, h => by cases h
  | x :: xs, a, k, h => by
    rw [List.length_cons, List.range'_succ, List.zip_cons_cons, List.map_cons]
    by_cases hx : x = k
    · subst hx; simp [get0]
    · have := get0_idx xs (a + 1) k (by rcases List.mem_cons.mp h with z | z; exact absurd z.symm hx; exact z)
      have h2 : (x == k) = false := by simpa using hx
      simp only [get0, hx, if_false, this, List.idxOf_cons, h2, cond_false]
      omega
theorem zip_fst_snd : ∀ (xs : List Nat) (a : Nat), (((List.range' a xs.length).zip xs).map fun z => (z.2, z.1)).map (·.1) = xs
  | [], _ => rfl
  | x :: xs, a => by
    rw [List.length_cons, List.range'_succ, List.zip_cons_cons, List.map_cons, List.map_cons, zip_fst_snd xs (a + 1)]
end BR
namespace LW
open PySem L2 BR
def numsA (c : Cod) : List (Nat × Nat) := ((List.range (met c).length).zip (met c)).map fun z => (z.2, z.1)
abbrev numsD (c : Cod) : D := dD kN (numsA c)
theorem nums_get (c : Cod) (k : Nat) (h : k ∈ met c) : dIx (numsD c) (iD k) = some (.im (iD ((met c).idxOf k))) := by
  have h1 : (numsA c).map (·.1) = met c := by
    unfold numsA; rw [List.range_eq_range']; exact zip_fst_snd (met c) 0
  have h2 := getK_mem kN kN_inj (numsA c) k (by rw [h1]; exact h)
  have h3 : get0 (numsA c) k = (met c).idxOf k := by
    unfold numsA; rw [List.range_eq_range', get0_idx _ 0 k h]; omega
  rw [h3] at h2
  show (keyD (iD k)).bind (fun k => (getK ((numsA c).map fun p => kN p.1) ((numsA c).map fun p => D.int (p.2 : Int)) k).map Rz.im) = _
  simp only [keyD, Option.bind_some]
  rw [h2]; rfl
theorem coder_init (K : PySem.W.Frag) (p q sz : Nat) (hsz : 2 ^ p = sz) (c : Cod) (lead : List Nat) (hp : p ≤ 6) (hq : q ≤ 1000) (h : Wf q sz c) (hl : Sg lead) (hn : lead.length ≤ 2000) :
    F_Coder___init__ K [.ins (He.ga K "Coder") [] [], rateD K p q, codeD c, .str (Tx lead)] = .ok (.non, [coderD K p q (renum c) lead]) := by
  have e1 := want_rate_ok K p q
  have e2 := want_codes_ok K p q c hp hq (by rw [hsz]; exact h)
  have e3 := is_row_ok K lead hl (by omega)
  have e4 := rate_size K p q hp
  rw [hsz] at e4
  have e5 := states_met_ok K q sz c h
  have hs := sl
  have hf := h.few
  have hm := (met_good h).1.len
  have h1 : lead.length ≤ sizeLine := by omega
  have h2 : ¬ (2000 < (lead.length : Int)) := by omega
  have h64 : sz ≤ 64 := by
    rw [← hsz]
    calc 2 ^ p ≤ 2 ^ 6 := Nat.pow_le_pow_right (by omega) hp
      _ = 64 := by decide
  have h3 : ¬ (2000 < (c.length : Int) * (sz : Int)) := by
    have : c.length * sz ≤ 10 * 64 := Nat.mul_le_mul hf h64
    have h4 : (c.length : Int) * (sz : Int) = ((c.length * sz : Nat) : Int) := by simp
    rw [h4]; omega
  have e6 : dMulI (.int (c.length : Int)) (.int (sz : Int)) = some (.im (.int ((c.length : Int) * (sz : Int)))) := dMulI_ok (.inr ⟨by omega, by omega⟩)
  have e7 := dcL_nodup (vs := [6, 7]) (g := gTupF 2 (gsCons (gVar 6) (gsCons (gVar 7) (gsNil)))) (fk := eVar 7) (fe := eVar 6) kN kN_inj (fun z : Nat × Nat => D.tup [.int (z.1 : Int), iD z.2]) (fun z => (z.2, z.1))
    [some (.io (.ins (He.ga K "Coder") [] [])), some (.sh (rateD K p q)), some (.sh (codeD c)), some (.sh (.str (Tx lead))), some (.sh (.lst ((met c).map iD))), none, none, none, none, none] ((List.range (met c).length).zip (met c)) [] (by
      intro z hz
      simp [dcT, keyD]) (by
      rw [List.nil_append, List.range_eq_range', zip_fst_snd]
      exact (met_good h).1.nd) (by simp; omega)
  rw [← enums_map, List.nil_append] at e7
  simp only [List.map_nil] at e7
  have nl : ∀ s ∈ met c, (c.getD s []).length ≤ 1000 := fun s hs => by
    have := h.row _ (getD_row h ((met_good h).1.lt s hs)); omega
  have e8 := lcL_map (vs := [7]) (g := gVar 7) (p := pYes) (fe := eLc [8, 9] (itSeq (eOp2 dIx (eVar 2) (eVar 7))) (gTupF 2 (gsCons (gVar 8) (gsCons (gVar 9) (gsNil)))) pYes (eTup (aCons (eV (eVar 8)) (aCons (eV (eOp2 dIx (eVar 5) (eVar 9))) (aNil)))))
    iD (fun s => rowD ((c.getD s []).map fun e => (e.1, (met c).idxOf e.2)))
    [some (.io (.ins (He.ga K "Coder") ["own_rate", "own_lead"] [rateD K p q, .str (Tx lead)])), some (.sh (rateD K p q)), some (.sh (codeD c)), some (.sh (.str (Tx lead))), some (.sh (.lst ((met c).map iD))), some (.own (numsD c)), none, none, none, none] (met c) (by
      intro s hs
      have hlt := (met_good h).1.lt s hs
      have a1 : atI (c.map rowD) (s : Int) = some (rowD c[s]) := atI_m rowD c s hlt
      have a2 : c.getD s [] = c[s] := getD_getElem c s [] hlt
      have hcl := met_closed h hs
      have hnl := nl s hs
      rw [a2] at hcl hnl ⊢
      have e9 := lcL_map (vs := [8, 9]) (g := gTupF 2 (gsCons (gVar 8) (gsCons (gVar 9) (gsNil)))) (p := pYes) (fe := eTup (aCons (eV (eVar 8)) (aCons (eV (eOp2 dIx (eVar 5) (eVar 9))) (aNil)))) eD (fun e => eD (e.1, (met c).idxOf e.2))
        [some (.io (.ins (He.ga K "Coder") ["own_rate", "own_lead"] [rateD K p q, .str (Tx lead)])), some (.sh (rateD K p q)), some (.sh (codeD c)), some (.sh (.str (Tx lead))), some (.sh (.lst ((met c).map iD))), some (.own (numsD c)), none, some (.sh (iD s)), none, none] c[s] (by
          intro e he
          have a3 := nums_get c e.2 (hcl e he)
          have h2 : 2 ≤ sizeLine := by omega
          simp [a3, h2, -dIx]) (by omega)
      simp [a1, e9]) (by omega)
  have f1 : setFn [] "own_rate" = (["own_rate"] : List Str) := rfl
  have f2 : setFn ["own_rate"] "own_lead" = (["own_rate", "own_lead"] : List Str) := rfl
  have f3 : setFn ["own_rate", "own_lead"] "own_codes" = (["own_rate", "own_lead", "own_codes"] : List Str) := rfl
  have f4 : ∀ b : D, setFx [] [] "own_rate" b = [b] := fun _ => rfl
  have f5 : ∀ a b : D, setFx ["own_rate"] [a] "own_lead" b = [a, b] := fun _ _ => rfl
  have f6 : ∀ a b d : D, setFx ["own_rate", "own_lead"] [a, b] "own_codes" d = [a, b, d] := fun _ _ _ => rfl
  have hD : D.dic (List.map (fun p => kN p.1) (List.map (fun z : Nat × Nat => (z.2, z.1)) ((List.range (met c).length).zip (met c)))) (List.map (fun p => D.int (p.2 : Int)) (List.map (fun z : Nat × Nat => (z.2, z.1)) ((List.range (met c).length).zip (met c)))) = numsD c := rfl
  have hR : D.lst ((met c).map fun s => rowD ((c.getD s []).map fun e => (e.1, (met c).idxOf e.2))) = codeD (renum c) := by
    simp only [codeD, renum, List.map_map]; rfl
  simp only [F_Coder___init__, B_Coder___init__, runF]
  have n1 : ¬ Str.ofString "own_rate" = Str.ofString "own_lead" := by decide
  have n2 : ¬ Str.ofString "own_rate" = Str.ofString "own_codes" := by decide
  have n3 : ¬ Str.ofString "own_lead" = Str.ofString "own_codes" := by decide
  simp [e1, e2, e3, e4, e5, h1, h2, h3, T_len, e6, e7, -List.map_map, n1, n2, n3]
  rw [hD]
  simp [e8, -List.map_map, hR, n1, n2, n3, -List.getD_eq_getElem?_getD]
end LW
set_option Elab.async false
set_option linter.all false
set_option maxRecDepth 100000
set_option maxHeartbeats 1000000
namespace LW
open PySem L2 BR
/-! ### _law_kept -/
noncomputable abbrev kpG : D → S → Option S := gTupF 2 (gsCons (gVar 3) (gsCons (gVar 4) (gsNil)))
noncomputable abbrev kpB : SF := sIf (tstV (eOp2 dNotIn (eVar 4) (eVar 1))) (sDrop (eAppend 1 (eVar 4))) (sNil)
theorem kp_row (c : Cod) (n i : Nat) (hn : n ≤ 1000) (o : List Nat) (r : List (List Nat × Nat)) (hg : Gd n o) (hr : ∀ e ∈ r, e.2 < n) (x y : Option Sl) (hx : shN x) (hy : shN y) : ∃ x' y', shN x' ∧ shN y' ∧
    sForL kpG kpB (r.map eD) [some (.sh (codeD c)), some (.own (.lst (o.map iD))), some (.sh (iD i)), x, y] =
      .ok (.nx, [some (.sh (codeD c)), some (.own (.lst ((addR o r).map iD))), some (.sh (iD i)), x', y']) := by
  have e := sForL_rel (g := kpG) (b := kpB) eD (fun p ρ => ∃ x y, shN x ∧ shN y ∧ (∀ e ∈ p, e.2 < n) ∧ ρ = [some (.sh (codeD c)), some (.own (.lst ((addR o p).map iD))), some (.sh (iD i)), x, y]) r _ (by
    rintro p e ρ he ⟨x, y, hx, hy, hp, rfl⟩
    have hp2 : ∀ e' ∈ p ++ [e], e'.2 < n := by
      intro e' he'
      rcases List.mem_append.mp he' with z | z
      · exact hp e' z
      · simp at z; subst z; exact hr _ he
    refine ⟨_, ?_, some (.sh (.str (Tx e.1))), some (.sh (iD e.2)), shN_sh _, shN_sh _, hp2, rfl⟩
    have hgp := addR_gd p o hg hp
    have ha : addR o (p ++ [e]) = add1 (addR o p) e.2 := by simp [addR]
    rw [ha]
    have hl := hgp.len
    have hs : (addR o p).length < sizeLine := by have := sl; omega
    have e1 := notIn_n (addR o p) e.2
    by_cases h : e.2 ∈ addR o p
    · have e4 : add1 (addR o p) e.2 = addR o p := by unfold add1; rw [if_pos h]
      rw [e4]
      rcases hx with rfl | ⟨d, rfl⟩ <;> rcases hy with rfl | ⟨d', rfl⟩ <;> simp [e1, h]
    · have e4 : (add1 (addR o p) e.2).map iD = (addR o p).map iD ++ [iD e.2] := by unfold add1; rw [if_neg h]; simp
      rcases hx with rfl | ⟨d, rfl⟩ <;> rcases hy with rfl | ⟨d', rfl⟩ <;> simp [e1, h, hs, e4]) ⟨x, y, hx, hy, by simp, rfl⟩
  obtain ⟨ρ', e, x', y', hx', hy', _, rfl⟩ := e
  exact ⟨x', y', hx', hy', e⟩
theorem reached_ok (K : PySem.W.Frag) (q sz : Nat) (c : Cod) (h : Wf q sz c) : F__law_reached K [codeD c] = .ok (.lst ((met c).map iD), []) := by
  have hf := h.few
  have hsl := sl
  have hw := sWhile_rel (c := tstV (eOp2 (dI fun i j => .bl (decide (i < j))) (eVar 2) (eCB dLen (hCons (eVar 1) (hNil))))) (b := sSeq (sFor (itSeq (eOp2 dIx (eVar 0) (eOp2 dIx (eVar 1) (eVar 2)))) kpG kpB) (sAsg 2 (eOp2 dAdd (eVar 2) (eK (.int 1)))))
    (fun m ρ => ∃ o i x y, shN x ∧ shN y ∧ Gd c.length o ∧ i ≤ o.length ∧ m = c.length - i ∧ bfs c (m + 1) o i = met c ∧ ρ = [some (.sh (codeD c)), some (.own (.lst (o.map iD))), some (.sh (iD i)), x, y])
    (fun ρ => ∃ i x y, shN x ∧ shN y ∧ ρ = [some (.sh (codeD c)), some (.own (.lst ((met c).map iD))), some (.sh (iD i)), x, y]) (by
      rintro m ρ ⟨o, i, x, y, hx, hy, hg, hi, hm, hb, rfl⟩
      by_cases hlt : i < o.length
      · right
        have hl := hg.len
        obtain ⟨x', y', hx', hy', e⟩ := kp_row c c.length i (by omega) o (c.getD (o.getD i 0) []) hg (row_lt h _) x y hx hy
        have ho : o[i] < c.length := hg.lt _ (List.getElem_mem hlt)
        have a1 : atI (o.map iD) (i : Int) = some (iD o[i]) := atI_m iD o i hlt
        have a2 : atI (c.map rowD) ((o[i] : Nat) : Int) = some (rowD c[o[i]]) := atI_m rowD c o[i] ho
        have e5 : c.getD (o.getD i 0) [] = c[o[i]] := by rw [getD_getElem o i 0 hlt, getD_getElem c _ [] ho]
        rw [e5] at e
        refine ⟨[some (.sh (codeD c)), some (.own (.lst (o.map iD))), some (.sh (iD i)), x, y], [some (.sh (codeD c)), some (.own (.lst ((addR o c[o[i]]).map iD))), some (.sh (iD (i + 1))), x', y'], c.length - (i + 1), ?_, ?_, by omega, addR o c[o[i]], i + 1, x', y', hx', hy', ?_, ?_, rfl, ?_, rfl⟩
        · simp [hlt]
        · simp [a1, a2, e]
        · exact addR_gd _ _ hg (by rw [← e5]; exact row_lt h _)
        · have := (addR_pre c[o[i]] o).length_le; omega
        · rw [bfs, if_pos hlt, e5] at hb
          rw [show c.length - (i + 1) + 1 = m by omega]
          exact hb
      · left
        rw [bfs, if_neg hlt] at hb
        rw [← hb]
        refine ⟨[some (.sh (codeD c)), some (.own (.lst (o.map iD))), some (.sh (iD i)), x, y], ?_, i, x, y, hx, hy, rfl⟩
        simp [hlt]) 64 c.length [some (.sh (codeD c)), some (.own (.lst ([0].map iD))), some (.sh (iD 0)), none, none] (by omega) ⟨[0], 0, none, none, shN_no, shN_no, gd0 h, by simp, by omega, rfl, rfl⟩
  obtain ⟨ρ', e, i, x, y, hx, hy, rfl⟩ := hw
  have hs : 1 ≤ sizeLine := by have := sl; omega
  replace e : sWhile _ _ 64 [some (.sh (codeD c)), some (.own (.lst [.int 0])), some (.sh (.int 0)), none, none] = _ := e
  simp [F__law_reached, B__law_reached, e, hs]

abbrev spG (i j : Nat) : D → S → Option S := gTupF 2 (gsCons (gVar i) (gsCons (gVar j) (gsNil)))
theorem codeD_ren (c : Cod) (o : List Nat) : D.lst (o.map fun s => rowD ((c.getD s []).map fun e => (e.1, o.idxOf e.2))) = codeD (ren c o) := by
  simp only [codeD, ren, List.map_map]; rfl
theorem kept_ok (K : PySem.W.Frag) (q sz : Nat) (c : Cod) (h : Wf q sz c) (hsz : sz ≤ 1000) : F__law_kept K [codeD c] = .ok (codeD (renum c), []) := by
  have hf := h.few
  have hsl := sl
  have ho := ord_met h
  have er := reached_ok K q sz c h
  rw [renum_ren, ← codeD_ren]
  generalize met c = o at ho er ⊢
  have nl : ∀ s ∈ o, (c.getD s []).length ≤ 1000 := fun s hs => by
    have := h.row _ (getD_row h (ho.gd.lt s hs)); omega
  have hm := ho.gd.len
  have e8 : lcL [2] (gVar 2) pYes (eLc [3, 4] (itSeq (eOp2 dIx (eVar 0) (eVar 2))) (spG 3 4) pYes (eTup (aCons (eV (eVar 3)) (aCons (eV (eIndex (eVar 1) (eVar 4))) (aNil))))) (o.map iD) []
      [some (.sh (codeD c)), some (.sh (.lst (o.map iD))), none, none, none] = .ok (o.map fun s => rowD ((c.getD s []).map fun e => (e.1, o.idxOf e.2)), [some (.sh (codeD c)), some (.sh (.lst (o.map iD))), none, none, none]) := by
    refine lcL_map iD (fun s => rowD ((c.getD s []).map fun e => (e.1, o.idxOf e.2))) _ o ?_ (by omega)
    intro s hs
    have hlt := ho.gd.lt s hs
    have a1 : atI (c.map rowD) (s : Int) = some (rowD c[s]) := atI_m rowD c s hlt
    have a2 : c.getD s [] = c[s] := getD_getElem c s [] hlt
    have hcl := ho.cl s hs
    have hnl := nl s hs
    rw [a2] at hcl hnl ⊢
    have e9 := lcL_map (vs := [3, 4]) (g := spG 3 4) (p := pYes) (fe := eTup (aCons (eV (eVar 3)) (aCons (eV (eIndex (eVar 1) (eVar 4))) (aNil)))) eD (fun e => eD (e.1, o.idxOf e.2))
      [some (.sh (codeD c)), some (.sh (.lst (o.map iD))), some (.sh (iD s)), none, none] c[s] (by
        intro e he
        have a3 := index_n o e.2 (hcl e he)
        have h2 : 2 ≤ sizeLine := by omega
        simp [a3, h2]) (by omega)
    simp [a1, e9]
  simp [F__law_kept, B__law_kept, er, e8, -List.map_map, -List.getD_eq_getElem?_getD]
end LW
set_option Elab.async false
set_option linter.all false
set_option maxRecDepth 100000
set_option maxHeartbeats 1000000
namespace LW
open PySem L2 BR
abbrev pot (a b : Int) : D := .lst [.int a, .int b]
def nxt (b : Int) : Int := (b * 48271 + 12343) % 2147483587
theorem draw_neg (K : PySem.W.Frag) (a b s : Int) (ha : ¬ 0 < a) (h0 : 0 < s) : F__law_draw K [pot a b, .int s] = .ok (.int ((nxt b * nxt b % 2147483549 / 17) % s), [pot a (nxt b)]) := by
  have hn : 0 ≤ nxt b ∧ nxt b < 2147483587 := ⟨Int.emod_nonneg _ (by decide), Int.emod_lt_of_pos _ (by decide)⟩
  have m1 : dMulI (.int b) (.int 48271) = some (.im (.int (b * 48271))) := dMulI_ok (.inr ⟨by decide, by decide⟩)
  have m2 : dMulI (.int (nxt b)) (.int (nxt b)) = some (.im (.int (nxt b * nxt b))) := dMulI_ok (.inr ⟨by omega, by omega⟩)
  have c1 : ∀ i : Int, dIc (fun _ j => 0 < j) (fun i j => i % j) (.int i) (.int 2147483587) = some (.im (.int (i % 2147483587))) := fun i => dIc_ok (by decide)
  have c2 : ∀ i : Int, dIc (fun _ j => 0 < j) (fun i j => i % j) (.int i) (.int 2147483549) = some (.im (.int (i % 2147483549))) := fun i => dIc_ok (by decide)
  have c3 : ∀ i : Int, dIc CDiv (fun i j => i / j) (.int i) (.int 17) = some (.im (.int (i / 17))) := fun i => dIc_ok ⟨by decide, by decide⟩
  have c4 : ∀ i : Int, dIc (fun _ j => 0 < j) (fun i j => i % j) (.int i) (.int s) = some (.im (.int (i % s))) := fun i => dIc_ok h0
  have e1 : (b * 48271 + 12343) % 2147483587 = nxt b := rfl
  have a0 : ∀ x y : D, atI [x, y] 0 = some x := fun _ _ => rfl
  have a1 : ∀ x y : D, atI [x, y] 1 = some y := fun _ _ => rfl
  have i1 : ixN 2 1 = some 1 := rfl
  simp [F__law_draw, B__law_draw, ha, m1, m2, c1, c2, c3, c4, e1, a0, a1, i1]
theorem draw_pos (K : PySem.W.Frag) (a b s : Int) (ha : 0 < a) (h0 : 0 < s) (h1 : s < 2 ^ 200) : F__law_draw K [pot a b, .int s] = .ok (.int (a % s), [pot (a / s) b]) := by
  have a0 : ∀ x y : D, atI [x, y] 0 = some x := fun _ _ => rfl
  have e : eDivmod (hCons (eOp2 dIx (eVar 0) (eK (.int 0))) (hCons (eVar 1) hNil)) [some (.io (pot a b)), some (.sh (.int s)), none] = .ok (.val (.tup [.int (a / s), .int (a % s)]), [some (.io (pot a b)), some (.sh (.int s)), none]) := if_pos ⟨h0, h1⟩
  simp [F__law_draw, B__law_draw, ha, a0, -hCons, -hNil, -eOp2, e]
  simp [eOp2, ha, a0, e]
theorem draw_ok (K : PySem.W.Frag) (a b s : Int) (h0 : 0 < s) (h1 : s ≤ 1000000) : ∃ d a' b', F__law_draw K [pot a b, .int s] = .ok (.int d, [pot a' b']) ∧ 0 ≤ d ∧ d < s := by
  by_cases ha : 0 < a
  · exact ⟨_, _, _, draw_pos K a b s ha h0 (Int.lt_of_le_of_lt h1 (by decide)), Int.emod_nonneg _ (by omega), Int.emod_lt_of_pos _ h0⟩
  · exact ⟨_, _, _, draw_neg K a b s ha h0, Int.emod_nonneg _ (by omega), Int.emod_lt_of_pos _ h0⟩
/-- a draw of n sides -/
theorem draw_n (K : PySem.W.Frag) (a b : Int) (n : Nat) (h0 : 0 < n) (h1 : n ≤ 1000000) : ∃ (d : Nat) (a' b' : Int), F__law_draw K [pot a b, iD n] = .ok (iD d, [pot a' b']) ∧ d < n := by
  obtain ⟨d, a', b', e, h2, h3⟩ := draw_ok K a b n (by omega) (by omega)
  refine ⟨d.toNat, a', b', ?_, by omega⟩
  rw [e]
  have : ((d.toNat : Nat) : Int) = d := by omega
  simp only [iD, this]
theorem pick_lst (K : PySem.W.Frag) (a b : Int) (ds : List D) (h0 : 0 < ds.length) (h1 : ds.length ≤ 1000000) : ∃ (j : Nat) (d : D) (a' b' : Int), F__law_pick K [pot a b, .lst ds] = .ok (d, [pot a' b']) ∧ ds[j]? = some d := by
  obtain ⟨i, a', b', e, h3⟩ := draw_n K a b ds.length h0 h1
  refine ⟨i, ds[i], a', b', ?_, List.getElem?_eq_getElem h3⟩
  have ea := atI_n ds i h3
  simp [F__law_pick, B__law_pick, e, ea]
theorem pick_str (K : PySem.W.Frag) (a b : Int) (l : List Nat) (h0 : 0 < l.length) (h1 : l.length < 1000) : ∃ (c : Nat) (a' b' : Int), F__law_pick K [pot a b, .str (Tx l)] = .ok (.str (Tx [c]), [pot a' b']) ∧ c ∈ l := by
  obtain ⟨i, a', b', e, h3⟩ := draw_n K a b l.length h0 (by omega)
  refine ⟨l[i], a', b', ?_, List.getElem_mem h3⟩
  have ea := atI_n l i h3
  have hs : l.length ≤ sizeLine := by have := sl; omega
  simp [F__law_pick, B__law_pick, T_len, hs, e, ea]
theorem picks_gen {vs : List Nat} {g : D → S → Option S} {p : S → R (Bool × S)} {fe : EF} (l : List Nat) (ρ : Int → Int → S) (h : ∀ d a b, ∃ c a' b', lcT vs g p fe d (ρ a b) = .ok (some (.str (Tx [c])), ρ a' b') ∧ c ∈ l) :
    ∀ (ds : List D) (acc : List D) (a b : Int), acc.length + ds.length ≤ sizeLine → ∃ (w : List Nat) (a' b' : Int), lcL vs g p fe ds acc (ρ a b) = .ok (acc ++ w.map (fun c => .str (Tx [c])), ρ a' b') ∧ w.length = ds.length ∧ ∀ c ∈ w, c ∈ l := by
  intro ds
  induction ds with
  | nil => intro acc a b _; exact ⟨[], a, b, by simp [lcL], rfl, by simp⟩
  | cons d ds ih =>
    intro acc a b hl
    obtain ⟨c, a1, b1, e, hc⟩ := h d a b
    obtain ⟨w, a', b', e2, hw, hm⟩ := ih (acc ++ [.str (Tx [c])]) a1 b1 (by simp at hl ⊢; omega)
    refine ⟨c :: w, a', b', ?_, by simp [hw], by simpa using ⟨hc, hm⟩⟩
    rw [lcL_cons d ds acc _ _ _ e (by simp at hl; omega)]
    simpa [List.append_assoc] using e2

theorem rng_i2 (n : Nat) : (List.range n).map iD = rngL 0 n := by simp [rngL, iD]
abbrev paceD (p q : Nat) : D := .tup [iD p, iD q]
theorem at0 (x y : D) : atI [x, y] 0 = some x := rfl
theorem at1 (x y : D) : atI [x, y] 1 = some y := rfl
theorem shl_p (p : Nat) (h : p ≤ 6) : dIc CPow (fun i j => i * 2 ^ j.toNat) (.int 1) (.int (p : Int)) = some (.im (.int ((2 ^ p : Nat) : Int))) := by
  rw [dIc_ok (by unfold CPow; omega)]
  simp
noncomputable abbrev cdB1 (K : PySem.W.Frag) : SF := sAsg 9 (eM1 dJoin (eK (.str "")) (eLc [10] (itRng1 (aCons (eV (eOp2 dIx (eVar 1) (eK (.int 1)))) (aNil))) (gVar 10) pYes (eCall false (F__law_pick K) (mIo (eVar 0) (mSh (eVar 3) (mNil))))))
noncomputable abbrev cdB3 (K : PySem.W.Frag) : SF := sDrop (eAppend 7 (eTup (aCons (eV (eVar 9)) (aCons (eV (eCall false (F__law_draw K) (mIo (eVar 0) (mSh (eVar 5) (mNil))))) (aNil)))))
theorem cd1 (K : PySem.W.Frag) (l : List Nat) (h0 : 0 < l.length) (h1 : l.length < 1000) (p q : Nat) (hq : q ≤ 1000) (a b : Int) (s2 x4 x5 x6 x7 x8 x9 : Option Sl) (h9 : shN x9) : ∃ (w : List Nat) (a' b' : Int),
    cdB1 K [some (.io (pot a b)), some (.sh (paceD p q)), s2, some (.sh (.str (Tx l))), x4, x5, x6, x7, x8, x9, none] =
      .ok (.nx, [some (.io (pot a' b')), some (.sh (paceD p q)), s2, some (.sh (.str (Tx l))), x4, x5, x6, x7, x8, some (.sh (.str (Tx w))), none]) ∧ w.length = q ∧ ∀ c ∈ w, c ∈ l := by
  have hs := sl
  obtain ⟨w, a', b', e, hw, hm⟩ := picks_gen (vs := [10]) (g := gVar 10) (p := pYes) (fe := eCall false (F__law_pick K) (mIo (eVar 0) (mSh (eVar 3) (mNil)))) l (fun a b => [some (.io (pot a b)), some (.sh (paceD p q)), s2, some (.sh (.str (Tx l))), x4, x5, x6, x7, x8, x9, none]) (by
    intro d a b
    obtain ⟨c, a1, b1, e, hc⟩ := pick_str K a b l h0 h1
    exact ⟨c, a1, b1, by simp [e], hc⟩) (rngL 0 q) [] a b (by simp [rngL]; omega)
  refine ⟨w, a', b', ?_, by simpa [rngL] using hw, hm⟩
  have hwl : w.length = q := by simpa [rngL] using hw
  have hj := join_signs w (by omega)
  have hR := rngF_n q (by omega)
  have e0 : ("" : Str) = Tx [] := rfl
  simp only [List.nil_append] at e
  rcases h9 with rfl | ⟨d, rfl⟩ <;> simp [at1, hR, e, e0, hj]
theorem cd3 (K : PySem.W.Frag) (n : Nat) (hn : 0 < n) (hn2 : n ≤ 1000) (a b : Int) (s1 s2 s3 x4 x6 x8 : Option Sl) (r : List (List Nat × Nat)) (hr : r.length ≤ 1000) (w : List Nat) : ∃ (d : Nat) (a' b' : Int),
    cdB3 K [some (.io (pot a b)), s1, s2, s3, x4, some (.sh (iD n)), x6, some (.own (rowD r)), x8, some (.sh (.str (Tx w))), none] =
      .ok (.nx, [some (.io (pot a' b')), s1, s2, s3, x4, some (.sh (iD n)), x6, some (.own (rowD (r ++ [(w, d)]))), x8, some (.sh (.str (Tx w))), none]) ∧ d < n := by
  have hs := sl
  obtain ⟨d, a1, b1, e2, hd⟩ := draw_n K a b n hn (by omega)
  refine ⟨d, a1, b1, ?_, hd⟩
  have h2 : 2 ≤ sizeLine := by omega
  have h3 : r.length < sizeLine := by omega
  simp [e2, h2, h3]
noncomputable abbrev cdIn (K : PySem.W.Frag) : SF := sSeq (cdB1 K) (cdB3 K)
theorem cd_turn (K : PySem.W.Frag) (l : List Nat) (h0 : 0 < l.length) (h1 : l.length < 1000) (hl : Sg l) (p q n : Nat) (hq : q ≤ 1000) (hn : 0 < n) (hn2 : n ≤ 1000) (a b : Int) (s2 x4 x6 x8 x9 : Option Sl) (h9 : shN x9) (r : List (List Nat × Nat)) (hr : r.length ≤ 1000) : ∃ (e : List Nat × Nat) (a' b' : Int) (y9 : Option Sl),
    cdIn K [some (.io (pot a b)), some (.sh (paceD p q)), s2, some (.sh (.str (Tx l))), x4, some (.sh (iD n)), x6, some (.own (rowD r)), x8, x9, none] =
      .ok (.nx, [some (.io (pot a' b')), some (.sh (paceD p q)), s2, some (.sh (.str (Tx l))), x4, some (.sh (iD n)), x6, some (.own (rowD (r ++ [e]))), x8, y9, none]) ∧ WfE q n e ∧ shN y9 := by
  obtain ⟨w, a1, b1, e1, w1, w2⟩ := cd1 K l h0 h1 p q hq a b s2 x4 (some (.sh (iD n))) x6 (some (.own (rowD r))) x8 x9 h9
  obtain ⟨d, a3, b3, e3, hd⟩ := cd3 K n hn hn2 a1 b1 (some (.sh (paceD p q))) s2 (some (.sh (.str (Tx l)))) x4 x6 x8 r hr w
  refine ⟨(w, d), a3, b3, some (.sh (.str (Tx w))), ?_, ⟨w1, fun c hc => hl c (w2 c hc), hd⟩, shN_sh _⟩
  unfold cdIn
  rw [sSeq, e1]
  exact e3
theorem loose_ok (K : PySem.W.Frag) (l : List Nat) (h0 : 0 < l.length) (h1 : l.length < 1000) (hl : Sg l) (p q m : Nat) (hp : p ≤ 6) (hq : q ≤ 1000) (hm0 : 0 < m) (hm : m ≤ 10) (a b : Int) : ∃ (c : Cod) (a' b' : Int),
    F__law_loose_codes K [pot a b, paceD p q, iD m, .str (Tx l)] = .ok (codeD c, [pot a' b']) ∧ Wf q (2 ^ p) c ∧ c.length ≤ m := by
  have hs := sl
  have hsz : 2 ^ p ≤ 64 := Nat.pow_le_pow_right (n := 2) (by decide) hp
  obtain ⟨d0, a0, b0, ed, hd0⟩ := draw_n K a b m hm0 (by omega)
  have hn : 0 < d0 + 1 := by omega
  have hn2 : d0 + 1 ≤ 10 := by omega
  generalize hnn : d0 + 1 = n at hn hn2
  generalize hszz : 2 ^ p = sz at hsz ⊢
  have row : ∀ (a b : Int) (x4 x6 x8 x9 : Option Sl), shN x8 → shN x9 → ∃ (r : List (List Nat × Nat)) (a' b' : Int) (y8 y9 : Option Sl), sForL (gVar 8) (cdIn K) (rngL 0 sz) [some (.io (pot a b)), some (.sh (paceD p q)), some (.sh (iD m)), some (.sh (.str (Tx l))), x4, some (.sh (iD n)), x6, some (.own (rowD [])), x8, x9, none] =
      .ok (.nx, [some (.io (pot a' b')), some (.sh (paceD p q)), some (.sh (iD m)), some (.sh (.str (Tx l))), x4, some (.sh (iD n)), x6, some (.own (rowD r)), y8, y9, none]) ∧ r.length = sz ∧ (∀ e ∈ r, WfE q n e) ∧ shN y8 ∧ shN y9 := by
    intro a b x4 x6 x8 x9 h8 h9
    have e := sForL_relP (g := gVar 8) (b := cdIn K) iD (fun pp ρ => ∃ (r : List (List Nat × Nat)) (a b : Int) (x8 x9 : Option Sl), ρ = [some (.io (pot a b)), some (.sh (paceD p q)), some (.sh (iD m)), some (.sh (.str (Tx l))), x4, some (.sh (iD n)), x6, some (.own (rowD r)), x8, x9, none] ∧ r.length = pp.length ∧ (∀ e ∈ r, WfE q n e) ∧ shN x8 ∧ shN x9) (List.range sz) [] _ (by
      rintro pp i post ρ hpp ⟨r, a, b, x8, x9, rfl, hrl, hr, h8, h9⟩
      have hpl : pp.length ≤ 64 := by have := congrArg List.length hpp; simp at this; omega
      obtain ⟨e, a', b', y9, e1, we, hy9⟩ := cd_turn K l h0 h1 hl p q n hq hn (by omega) a b (some (.sh (iD m))) x4 x6 (some (.sh (iD i))) x9 h9 r (by omega)
      refine ⟨_, ?_, r ++ [e], a', b', some (.sh (iD i)), y9, rfl, by simp [hrl], ?_, shN_sh _, hy9⟩
      · have g1 : gVar 8 (iD i) [some (.io (pot a b)), some (.sh (paceD p q)), some (.sh (iD m)), some (.sh (.str (Tx l))), x4, some (.sh (iD n)), x6, some (.own (rowD r)), x8, x9, none] = some [some (.io (pot a b)), some (.sh (paceD p q)), some (.sh (iD m)), some (.sh (.str (Tx l))), x4, some (.sh (iD n)), x6, some (.own (rowD r)), some (.sh (iD i)), x9, none] := by
          rcases h8 with rfl | ⟨_, rfl⟩ <;> simp
        rw [g1]
        exact e1
      · intro e' he'
        rcases List.mem_append.mp he' with z | z
        · exact hr e' z
        · simp at z; subst z; exact we) ⟨[], a, b, x8, x9, rfl, rfl, by simp, h8, h9⟩
    obtain ⟨ρ', e, r, a', b', y8, y9, rfl, hrl, hr, hy8, hy9⟩ := e
    rw [rng_i2] at e
    exact ⟨r, a', b', y8, y9, e, by simpa using hrl, hr, hy8, hy9⟩
  have e := sForL_relP (g := gVar 6) (b := sSeq (sAsg 7 (eLst (aNil))) (sSeq (sFor (itRng1 (aCons (eV (eOp2 (dIc CPow fun i j => i * 2 ^ j.toNat) (eK (.int 1)) (eOp2 dIx (eVar 1) (eK (.int 0))))) (aNil))) (gVar 8) (cdIn K)) (sDrop (eAppend 4 (eVar 7))))) iD
    (fun pp ρ => ∃ (c : Cod) (a b : Int) (x6 x7 x8 x9 : Option Sl), ρ = [some (.io (pot a b)), some (.sh (paceD p q)), some (.sh (iD m)), some (.sh (.str (Tx l))), some (.own (codeD c)), some (.sh (iD n)), x6, x7, x8, x9, none] ∧ c.length = pp.length ∧ (∀ r ∈ c, r.length = sz) ∧ (∀ r ∈ c, ∀ e ∈ r, WfE q n e) ∧ shN x6 ∧ (shN x7 ∨ ∃ d, x7 = some (.own d)) ∧ shN x8 ∧ shN x9) (List.range n) [] [some (.io (pot a0 b0)), some (.sh (paceD p q)), some (.sh (iD m)), some (.sh (.str (Tx l))), some (.own (.lst [])), some (.sh (iD n)), none, none, none, none, none] (by
      rintro pp i post ρ hpp ⟨c, a, b, x6, x7, x8, x9, rfl, hcl, hc1, hc2, h6, h7, h8, h9⟩
      have hpl : pp.length ≤ 10 := by have := congrArg List.length hpp; simp at this; omega
      obtain ⟨r, a', b', y8, y9, e1, hrl, hr, hy8, hy9⟩ := row a b (some (.own (codeD c))) (some (.sh (iD i))) x8 x9 h8 h9
      have hR := rngF_n sz (by omega)
      have hlt : c.length < sizeLine := by omega
      have hsh := shl_p p hp
      rw [hszz] at hsh
      replace e1 : sForL (gVar 8) (cdIn K) (rngL 0 sz) [some (.io (pot a b)), some (.sh (paceD p q)), some (.sh (iD m)), some (.sh (.str (Tx l))), some (.own (codeD c)), some (.sh (iD n)), some (.sh (iD i)), some (.own (.lst [])), x8, x9, none] = _ := e1
      refine ⟨[some (.io (pot a' b')), some (.sh (paceD p q)), some (.sh (iD m)), some (.sh (.str (Tx l))), some (.own (codeD (c ++ [r]))), some (.sh (iD n)), some (.sh (iD i)), some (.sh (rowD r)), y8, y9, none], ?_, c ++ [r], a', b', _, _, y8, y9, rfl, by simp [hcl], ?_, ?_, shN_sh _, .inl (shN_sh _), hy8, hy9⟩
      · rcases h6 with rfl | ⟨_, rfl⟩ <;> rcases h7 with (rfl | ⟨_, rfl⟩) | ⟨_, rfl⟩ <;> simp [at0, hsh, hR, e1, hlt]
      · intro r' hr'
        rcases List.mem_append.mp hr' with z | z
        · exact hc1 r' z
        · simp at z; subst z; exact hrl
      · intro r' hr'
        rcases List.mem_append.mp hr' with z | z
        · exact hc2 r' z
        · simp at z; subst z; exact hr) ⟨[], a0, b0, none, none, none, none, rfl, rfl, by simp, by simp, shN_no, .inl shN_no, shN_no, shN_no⟩
  obtain ⟨ρ', e, c, a', b', x6, x7, x8, x9, rfl, hcl, hc1, hc2, h6, h7, h8, h9⟩ := e
  have hcn : c.length = n := by simpa using hcl
  rw [rng_i2] at e
  have hR := rngF_n n (by omega)
  have hnI : (1 : Int) + (d0 : Int) = (n : Int) := by omega
  refine ⟨c, a', b', ?_, ⟨by omega, by omega, hc1, by rw [hcn]; exact hc2⟩, by omega⟩
  simp [F__law_loose_codes, B__law_loose_codes, ed, hnI, hR, e]
/-! ### == of rows and codes -/
def eP (e : List Nat × Nat) : PyData := .tuple [.str (Tx e.1), .int (e.2 : Int)]
def rowP (r : List (List Nat × Nat)) : PyData := .list (r.map eP)
def codeP (c : Cod) : PyData := .list (c.map rowP)
theorem toPL_map {α : Type} (f : α → D) (g : α → PyData) (h : ∀ x, toP (f x) = some (g x)) : ∀ xs : List α, toPL (xs.map f) = some (xs.map g)
  | [] => by simp [toPL]
  | x :: xs => by simp [toPL, h x, toPL_map f g h xs]
theorem toP_e (e : List Nat × Nat) : toP (eD e) = some (eP e) := by simp [toP, toPL, eP]
theorem toP_row (r : List (List Nat × Nat)) : toP (rowD r) = some (rowP r) := by
  unfold rowD toP
  rw [toPL_map eD eP toP_e]; rfl
theorem toP_code (c : Cod) : toP (codeD c) = some (codeP c) := by
  unfold codeD toP
  rw [toPL_map rowD rowP toP_row]; rfl
theorem strOk_T (l : List Nat) (h : Sg l) : PyData.strOk (Tx l) = true := by
  unfold PyData.strOk
  simp only [Tx, Array.all_eq_true', List.mem_toArray] at *
  intro c hc
  have := h c hc
  simp at this
  rcases this with rfl | rfl | rfl | rfl <;> decide
theorem lay_all {α : Type} (g : α → PyData) : ∀ (xs : List α), (∀ x ∈ xs, PyData.canLay0 (g x) = true) → PyData.canLayAll0 (xs.map g) = true
  | [], _ => by simp [PyData.canLayAll0]
  | x :: xs, h => by simp [PyData.canLayAll0, h x (by simp), lay_all g xs fun y hy => h y (by simp [hy])]
theorem dep_all {α : Type} (g : α → PyData) (n : Nat) : ∀ (xs : List α), (∀ x ∈ xs, PyData.depth (g x) ≤ n) → PyData.depthAll (xs.map g) ≤ n
  | [], _ => by simp [PyData.depthAll]
  | x :: xs, h => by
    have h1 := h x (by simp)
    have h2 := dep_all g n xs fun y hy => h y (by simp [hy])
    simp only [List.map_cons, PyData.depthAll]; omega
theorem eqv_all {α : Type} (g : α → PyData) : ∀ (xs : List α), (∀ x ∈ xs, PyData.eqv (g x) (g x) = true) → PyData.eqvAll (xs.map g) (xs.map g) = true
  | [], _ => by simp [PyData.eqvAll]
  | x :: xs, h => by simp [PyData.eqvAll, h x (by simp), eqv_all g xs fun y hy => h y (by simp [hy])]
theorem e_lay (e : List Nat × Nat) (h : Sg e.1) : PyData.canLay0 (eP e) = true := by
  simp [eP, PyData.canLay0, PyData.canLayAll0, strOk_T e.1 h]
theorem e_dep (e : List Nat × Nat) : PyData.depth (eP e) ≤ 1 := by
  simp [eP, PyData.depth, PyData.depthAll]
theorem e_eqv (e : List Nat × Nat) : PyData.eqv (eP e) (eP e) = true := by
  simp [eP, PyData.eqv, PyData.eqvAll]
theorem row_lay (r : List (List Nat × Nat)) (h : ∀ e ∈ r, Sg e.1) : PyData.canLay0 (rowP r) = true := by
  simp only [rowP, PyData.canLay0]
  exact lay_all eP r fun e he => e_lay e (h e he)
theorem row_dep (r : List (List Nat × Nat)) : PyData.depth (rowP r) ≤ 2 := by
  have := dep_all eP 1 r fun e _ => e_dep e
  simp only [rowP, PyData.depth]; omega
theorem row_eqv (r : List (List Nat × Nat)) : PyData.eqv (rowP r) (rowP r) = true := by
  simp only [rowP, PyData.eqv]
  exact eqv_all eP r fun e _ => e_eqv e
theorem code_lay (c : Cod) (h : ∀ r ∈ c, ∀ e ∈ r, Sg e.1) : PyData.canLay0 (codeP c) = true := by
  simp only [codeP, PyData.canLay0]
  exact lay_all rowP c fun r hr => row_lay r (h r hr)
theorem code_dep (c : Cod) : PyData.depth (codeP c) ≤ 3 := by
  have := dep_all rowP 2 c fun r _ => row_dep r
  simp only [codeP, PyData.depth]; omega
theorem code_eqv (c : Cod) : PyData.eqv (codeP c) (codeP c) = true := by
  simp only [codeP, PyData.eqv]
  exact eqv_all rowP c fun r _ => row_eqv r
theorem shaped_of {d : PyData} (h1 : PyData.canLay0 d = true) (h2 : PyData.depth d ≤ 64) : SeqAt.shaped d = true := by
  unfold SeqAt.shaped
  rw [h1, decide_eq_true h2]; rfl
theorem ne_code (c : Cod) (h : ∀ r ∈ c, ∀ e ∈ r, Sg e.1) : dNe (codeD c) (codeD c) = some (.im (.bl false)) := by
  have e : eqD (codeD c) (codeD c) = some true := by
    have hs := shaped_of (code_lay c h) (by have := code_dep c; omega)
    have : eqD (codeD c) (codeD c) = (match toP (codeD c), toP (codeD c) with
      | some p, some q => if (SeqAt.shaped p && SeqAt.shaped q) = true then some (PyData.eqv p q) else none
      | _, _ => none) := rfl
    rw [this, toP_code]
    simp only [hs, Bool.and_self, if_true, code_eqv]
  unfold dNe; rw [e]; rfl
theorem ne_row (r : List (List Nat × Nat)) (h : ∀ e ∈ r, Sg e.1) : dNe (rowD r) (.lst []) = some (.im (.bl (!decide (r = [])))) := by
  have e : eqD (rowD r) (.lst []) = some (decide (r = [])) := by
    have hs := shaped_of (row_lay r h) (by have := row_dep r; omega)
    have hs2 : SeqAt.shaped (.list []) = true := by decide
    have h0 : toP (.lst []) = some (.list []) := by simp [toP, toPL]
    have : eqD (rowD r) (.lst []) = (match toP (rowD r), toP (.lst []) with
      | some p, some q => if (SeqAt.shaped p && SeqAt.shaped q) = true then some (PyData.eqv p q) else none
      | _, _ => none) := rfl
    rw [this, toP_row, h0]
    simp only [hs, hs2, Bool.and_self, if_true]
    cases r with
    | nil => simp [rowP, PyData.eqv, PyData.eqvAll]
    | cons e r => simp [rowP, PyData.eqv, PyData.eqvAll]
  unfold dNe; rw [e]; rfl
end LW
set_option Elab.async false
set_option linter.all false
set_option maxRecDepth 100000
set_option maxHeartbeats 1000000
namespace LW
open PySem L2 BR
/-! ### _law_mixed, _law_turned -/
theorem ixN_n {n k : Nat} (h : k < n) : ixN n (k : Int) = some k := by
  unfold ixN
  simp [h]
theorem erase_map {α β : Type} (f : α → β) : ∀ (l : List α) (i : Nat), (l.map f).eraseIdx i = (l.eraseIdx i).map f
  | [], _ => rfl
  | _ :: _, 0 => rfl
  | x :: l, i + 1 => by simp [List.eraseIdx_cons_succ, erase_map f l i]
theorem erase_perm : ∀ (l : List Nat) (i : Nat) (h : i < l.length), (l[i] :: l.eraseIdx i).Perm l
  | x :: l, 0, _ => .refl _
  | x :: l, i + 1, h => by
    have h' : i < l.length := by simpa using h
    exact (List.Perm.swap _ _ _).trans (List.Perm.cons x (erase_perm l i h'))
theorem dList_n (ds : List D) (h : ds.length ≤ sizeLine) : dList [.lst ds] = some (.nw (.lst ds)) := by
  simp [dList, h]
theorem mixed_ok (K : PySem.W.Frag) (xs : List Nat) (hx : xs.length ≤ 1000) (a b : Int) : ∃ (ys : List Nat) (a' b' : Int),
    F__law_mixed K [pot a b, .lst (xs.map iD)] = .ok (.lst (ys.map iD), [pot a' b']) ∧ ys.Perm xs := by
  have hs := sl
  have e := sForL_relP (g := gVar 4) (b := sDrop (eAppend 3 (ePopAt 2 (eCall false (F__law_draw K) (mIo (eVar 0) (mSh (eCB dLen (hCons (eVar 2) (hNil))) (mNil))))))) iD
    (fun pp ρ => ∃ (l o : List Nat) (a b : Int) (x4 : Option Sl), ρ = [some (.io (pot a b)), some (.sh (.lst (xs.map iD))), some (.own (.lst (l.map iD))), some (.own (.lst (o.map iD))), x4] ∧ o.length = pp.length ∧ (o ++ l).Perm xs ∧ shN x4) (List.range xs.length) [] [some (.io (pot a b)), some (.sh (.lst (xs.map iD))), some (.own (.lst (xs.map iD))), some (.own (.lst [])), none] (by
      rintro pp i post ρ hpp ⟨l, o, a, b, x4, rfl, hol, hperm, h4⟩
      have hpl : pp.length < xs.length := by have := congrArg List.length hpp; simp at this; omega
      have hll := hperm.length_eq
      simp at hll
      have hl0 : 0 < l.length := by omega
      obtain ⟨d, a1, b1, e1, hd⟩ := draw_n K a b l.length hl0 (by omega)
      have hix := ixN_n hd
      have hlt : o.length < sizeLine := by omega
      have hz : l.length ≤ 1000000 := by omega
      have hget : l[d]? = some l[d] := List.getElem?_eq_getElem hd
      have hmap : (l.map iD).eraseIdx d = (l.eraseIdx d).map iD := erase_map iD l d
      refine ⟨_, ?_, l.eraseIdx d, o ++ [l[d]], a1, b1, some (.sh (iD i)), rfl, by simp [hol], ?_, shN_sh _⟩
      · rcases h4 with rfl | ⟨_, rfl⟩ <;> simp [e1, hix, hz, hget, hmap, hlt]
      · refine List.Perm.trans ?_ hperm
        rw [List.append_assoc]
        refine List.Perm.append_left o ?_
        exact erase_perm l d hd) ⟨xs, [], a, b, none, rfl, rfl, by simp, shN_no⟩
  obtain ⟨ρ', e, l, o, a', b', x4, rfl, hol, hperm, h4⟩ := e
  have hl0 : l = [] := by
    have := hperm.length_eq
    simp at this hol
    exact List.length_eq_zero_iff.mp (by omega)
  subst hl0
  rw [rng_i2] at e
  have hR := rngF_n xs.length (by omega)
  refine ⟨o, a', b', ?_, by simpa using hperm⟩
  have hdl := dList_n (xs.map iD) (by simp; omega)
  simp [F__law_mixed, B__law_mixed, hdl, hR, e]
theorem turned_ok (K : PySem.W.Frag) (q sz : Nat) (c : Cod) (h : Wf q sz c) (hsz : sz ≤ 1000) (a b : Int) : ∃ (o : List Nat) (a' b' : Int),
    F__law_turned K [pot a b, codeD c] = .ok (codeD (ren c o), [pot a' b']) ∧ Ord c o := by
  have hf := h.few
  have hp0 := h.pos
  have hsl := sl
  obtain ⟨t, a', b', em, hperm⟩ := mixed_ok K (List.range' 1 (c.length - 1)) (by simp; omega) a b
  have ho := ord_turn h hperm
  have er : rngL 1 (c.length - 1) = (List.range' 1 (c.length - 1)).map iD := by
    rw [List.range'_eq_map_range, rngL, List.map_map]
    refine List.map_congr_left fun x _ => ?_
    show D.int _ = D.int _
    congr 1
  have hrg : RgOk 1 (c.length : Int) := ⟨by omega, by omega, by omega, by omega, by omega⟩
  have hadd : dAdd (.lst [.int 0]) (.lst (t.map iD)) = some (.nw (.lst ((0 :: t).map iD))) := by
    have := hperm.length_eq
    simp at this
    simp [dAdd]
    omega
  generalize 0 :: t = o at ho hadd
  refine ⟨o, a', b', ?_, ho⟩
  rw [← codeD_ren]
  have nl : ∀ s ∈ o, (c.getD s []).length ≤ 1000 := fun s hs => by
    have := h.row _ (getD_row h (ho.gd.lt s hs)); omega
  have hm := ho.gd.len
  have e8 : lcL [3] (gVar 3) pYes (eLc [4, 5] (itSeq (eOp2 dIx (eVar 1) (eVar 3))) (spG 4 5) pYes (eTup (aCons (eV (eVar 4)) (aCons (eV (eIndex (eVar 2) (eVar 5))) (aNil))))) (o.map iD) []
      [some (.io (pot a' b')), some (.sh (codeD c)), some (.sh (.lst (o.map iD))), none, none, none] = .ok (o.map fun s => rowD ((c.getD s []).map fun e => (e.1, o.idxOf e.2)), [some (.io (pot a' b')), some (.sh (codeD c)), some (.sh (.lst (o.map iD))), none, none, none]) := by
    refine lcL_map iD (fun s => rowD ((c.getD s []).map fun e => (e.1, o.idxOf e.2))) _ o ?_ (by omega)
    intro s hs
    have hlt := ho.gd.lt s hs
    have a1 : atI (c.map rowD) (s : Int) = some (rowD c[s]) := atI_m rowD c s hlt
    have a2 : c.getD s [] = c[s] := getD_getElem c s [] hlt
    have hcl := ho.cl s hs
    have hnl := nl s hs
    rw [a2] at hcl hnl ⊢
    have e9 := lcL_map (vs := [4, 5]) (g := spG 4 5) (p := pYes) (fe := eTup (aCons (eV (eVar 4)) (aCons (eV (eIndex (eVar 2) (eVar 5))) (aNil)))) eD (fun e => eD (e.1, o.idxOf e.2))
      [some (.io (pot a' b')), some (.sh (codeD c)), some (.sh (.lst (o.map iD))), some (.sh (iD s)), none, none] c[s] (by
        intro e he
        have a3 := index_n o e.2 (hcl e he)
        have h2 : 2 ≤ sizeLine := by omega
        simp [a3, h2]) (by omega)
    simp [a1, e9]
  have h1 : 1 ≤ sizeLine := by omega
  simp [F__law_turned, B__law_turned, hrg, er, h1, em, hadd, e8, -dAdd, -List.map_map, -List.getD_eq_getElem?_getD]
/-- a comprehension by an invariant of its turns -/
theorem lcL_relN {β : Type} {vs : List Nat} {g : D → S → Option S} {p : S → R (Bool × S)} {fe : EF} (toD : β → D) (I : List β → List D → S → Prop) : ∀ (xs pre : List β) (acc : List D) (ρ : S),
    (∀ x pre acc ρ, x ∈ xs → I pre acc ρ → ∃ o ρ', lcT vs g p fe (toD x) ρ = .ok (o, ρ') ∧ I (pre ++ [x]) (acc ++ o.toList) ρ') → acc.length + xs.length ≤ sizeLine → I pre acc ρ → ∃ ys ρ', lcL vs g p fe (xs.map toD) acc ρ = .ok (ys, ρ') ∧ I (pre ++ xs) ys ρ' := by
  intro xs
  induction xs with
  | nil => intro pre acc ρ _ _ hi; exact ⟨acc, ρ, rfl, by simpa using hi⟩
  | cons x xs ih =>
    intro pre acc ρ h hl hi
    obtain ⟨o, ρ', e, hi'⟩ := h x pre acc ρ (by simp) hi
    obtain ⟨ys, ρ2, e2, hi2⟩ := ih (pre ++ [x]) (acc ++ o.toList) ρ' (fun y pre acc ρ hy => h y pre acc ρ (by simp [hy])) (by
      simp at hl
      cases o <;> simp <;> omega) hi'
    refine ⟨ys, ρ2, ?_, by simpa using hi2⟩
    rw [List.map_cons, lcL_cons (toD x) _ acc ρ ρ' o e (by simp at hl; omega), e2]
/-! ### _law_words -/
theorem words_ok (K : PySem.W.Frag) (p q : Nat) (hp : p ≤ 6) (m : Nat) (hm : m ≤ 1000) (a b : Int) : ∃ (ws : List Nat) (a' b' : Int),
    F__law_words K [pot a b, paceD p q, iD m] = .ok (.lst (ws.map iD), [pot a' b']) ∧ ws.length = m ∧ ∀ w ∈ ws, w < 2 ^ p := by
  have hs := sl
  have hsz : 2 ^ p ≤ 64 := Nat.pow_le_pow_right (n := 2) (by decide) hp
  have hpos : 0 < 2 ^ p := Nat.pow_pos (by decide)
  have hsh := shl_p p hp
  generalize 2 ^ p = sz at hsz hpos hsh ⊢
  have e := lcL_relN (vs := [3]) (g := gVar 3) (p := pYes) (fe := eCall false (F__law_draw K) (mIo (eVar 0) (mSh (eOp2 (dIc CPow fun i j => i * 2 ^ j.toNat) (eK (.int 1)) (eOp2 dIx (eVar 1) (eK (.int 0)))) (mNil)))) iD
    (fun pre acc ρ => ∃ (ws : List Nat) (a b : Int), acc = ws.map iD ∧ ws.length = pre.length ∧ (∀ w ∈ ws, w < sz) ∧ ρ = [some (.io (pot a b)), some (.sh (paceD p q)), some (.sh (iD m)), none]) (List.range m) [] [] [some (.io (pot a b)), some (.sh (paceD p q)), some (.sh (iD m)), none] (by
      rintro i pre acc ρ hi ⟨ws, a, b, rfl, hwl, hw, rfl⟩
      obtain ⟨d, a1, b1, e1, hd⟩ := draw_n K a b sz hpos (by omega)
      refine ⟨some (iD d), [some (.io (pot a1 b1)), some (.sh (paceD p q)), some (.sh (iD m)), none], ?_, ws ++ [d], a1, b1, by simp, by simp [hwl], ?_, rfl⟩
      · simp only [iD] at e1
        simp [at0, hsh, e1]
      · intro w hw'
        rcases List.mem_append.mp hw' with z | z
        · exact hw w z
        · simp at z; subst z; exact hd) (by simp; omega) ⟨[], a, b, rfl, rfl, by simp, rfl⟩
  obtain ⟨ys, ρ', e, ws, a', b', rfl, hwl, hw, rfl⟩ := e
  rw [rng_i2] at e
  have hR := rngF_n m (by omega)
  have hl : ws.length = m := by simpa using hwl
  refine ⟨ws, a', b', ?_, hl, hw⟩
  simp [F__law_words, B__law_words, hR, e]
/-! ### _law_wider -/
theorem row_end {q n : Nat} {l : List (List (List Nat × Nat))} {P : List (List Nat × Nat) → Prop} {r : List (List Nat × Nat)} (h : ∀ r ∈ l, P r) (hr : P r) : ∀ r' ∈ l ++ [r], P r' := by
  intro r' hr'
  rcases List.mem_append.mp hr' with z | z
  · exact h r' z
  · simp at z; subst z; exact hr
theorem strMul_c (q : Nat) (hq : q ≤ 1000) : dStrMul (.str "c") (.int (q : Int)) = some (.im (.str (Tx (List.replicate q 99)))) := by
  have hs := sl
  have e0 : ("c" : Str) = Tx [99] := rfl
  have e1 : ∀ q : Nat, (List.replicate q [99]).flatten = List.replicate q 99 := fun q => by
    induction q with
    | zero => rfl
    | succ q ih => rw [List.replicate_succ, List.replicate_succ, List.flatten_cons, ih]; rfl
  unfold dStrMul
  rw [e0]
  show (if 0 ≤ (q : Int) ∧ (q : Int) ≤ 1000000 ∧ (Tx [99]).length * (q : Int).toNat ≤ sizeLine then _ else none) = _
  rw [if_pos ⟨by omega, by omega, by rw [T_len]; simp; omega⟩, T_cps]
  simp only [Int.toNat_natCast, e1]
noncomputable abbrev wdB (K : PySem.W.Frag) : SF := sSeq (sAsg 5 (eLc [7] (itRng1 (aCons (eV (eOp2 (dIc CPow fun i j => i * 2 ^ j.toNat) (eK (.int 1)) (eOp2 dIx (eVar 1) (eK (.int 0))))) (aNil))) (gVar 7) pYes (eTup (aCons (eV (eOp2 dStrMul (eK (.str "c")) (eOp2 dIx (eVar 1) (eK (.int 1))))) (aCons (eV (eCall false (F__law_draw K) (mIo (eVar 0) (mSh (eOp2 dAdd (eCB dLen (hCons (eVar 2) (hNil))) (eVar 3)) (mNil))))) (aNil))))))
    (sDrop (eAppend 4 (eVar 5)))
theorem wd_turn (K : PySem.W.Frag) (p q sz n m : Nat) (hsh : dIc CPow (fun i j => i * 2 ^ j.toNat) (.int 1) (.int (p : Int)) = some (.im (.int (sz : Int)))) (hsz : sz ≤ 64) (hq : q ≤ 1000) (c : Cod) (hcn : c.length = n) (hn0 : 0 < n) (hn : n ≤ 1000) (hm : m ≤ 1000) (f : Cod) (hf : f.length ≤ 1000) (a b : Int) (x5 x6 : Option Sl) (h5 : shN x5) : ∃ (r : List (List Nat × Nat)) (a' b' : Int),
    wdB K [some (.io (pot a b)), some (.sh (paceD p q)), some (.sh (codeD c)), some (.sh (iD m)), some (.own (codeD f)), x5, x6, none] =
      .ok (.nx, [some (.io (pot a' b')), some (.sh (paceD p q)), some (.sh (codeD c)), some (.sh (iD m)), some (.own (codeD (f ++ [r]))), some (.sh (rowD r)), x6, none]) ∧ r.length = sz ∧ ∀ e ∈ r, WfE q (n + m) e := by
  have hs := sl
  have hmc := strMul_c q hq
  have e := lcL_relN (vs := [7]) (g := gVar 7) (p := pYes) (fe := eTup (aCons (eV (eOp2 dStrMul (eK (.str "c")) (eOp2 dIx (eVar 1) (eK (.int 1))))) (aCons (eV (eCall false (F__law_draw K) (mIo (eVar 0) (mSh (eOp2 dAdd (eCB dLen (hCons (eVar 2) (hNil))) (eVar 3)) (mNil))))) (aNil)))) iD
    (fun pre acc ρ => ∃ (r : List (List Nat × Nat)) (a b : Int), acc = r.map eD ∧ r.length = pre.length ∧ (∀ e ∈ r, WfE q (n + m) e) ∧ ρ = [some (.io (pot a b)), some (.sh (paceD p q)), some (.sh (codeD c)), some (.sh (iD m)), some (.own (codeD f)), x5, x6, none]) (List.range sz) [] [] [some (.io (pot a b)), some (.sh (paceD p q)), some (.sh (codeD c)), some (.sh (iD m)), some (.own (codeD f)), x5, x6, none] (by
      rintro i pre acc ρ hi ⟨r, a, b, rfl, hrl, hr, rfl⟩
      obtain ⟨d, a1, b1, e1, hd⟩ := draw_n K a b (n + m) (by omega) (by omega)
      have h2 : 2 ≤ sizeLine := by omega
      refine ⟨some (eD (List.replicate q 99, d)), [some (.io (pot a1 b1)), some (.sh (paceD p q)), some (.sh (codeD c)), some (.sh (iD m)), some (.own (codeD f)), x5, x6, none], ?_, r ++ [(List.replicate q 99, d)], a1, b1, by simp, by simp [hrl], ?_, rfl⟩
      · have e1' : F__law_draw K [pot a b, .int ((n : Int) + (m : Int))] = _ := e1
        simp [at1, hmc, hcn, e1', h2]
      · intro e he
        rcases List.mem_append.mp he with z | z
        · exact hr e z
        · simp at z; subst z
          exact ⟨by simp, fun x hx => by rw [List.eq_of_mem_replicate hx]; decide, hd⟩) (by simp; omega) ⟨[], a, b, rfl, rfl, by simp, rfl⟩
  obtain ⟨ys, ρ', e, r, a', b', rfl, hrl, hr, rfl⟩ := e
  rw [rng_i2] at e
  have hR := rngF_n sz (by omega)
  have hlt : f.length < sizeLine := by omega
  refine ⟨r, a', b', ?_, by simpa using hrl, hr⟩
  rcases h5 with rfl | ⟨_, rfl⟩ <;> simp [at0, hsh, hR, e, hlt]
theorem wider_ok (K : PySem.W.Frag) (p q : Nat) (hp : p ≤ 6) (hq : q ≤ 1000) (c : Cod) (h : Wf q (2 ^ p) c) (hc : c.length ≤ 5) (a b : Int) : ∃ (x : Cod) (a' b' : Int),
    F__law_wider K [pot a b, paceD p q, codeD c] = .ok (codeD (c ++ x), [pot a' b']) ∧ Wf q (2 ^ p) (c ++ x) := by
  have hs := sl
  have hsz : 2 ^ p ≤ 64 := Nat.pow_le_pow_right (n := 2) (by decide) hp
  have hsh := shl_p p hp
  have hpos := h.pos
  generalize hszz : 2 ^ p = sz at hsz hsh h ⊢
  obtain ⟨d0, a0, b0, ed, hd0⟩ := draw_n K a b 3 (by omega) (by omega)
  replace ed : F__law_draw K [pot a b, .int 3] = .ok (iD d0, [pot a0 b0]) := ed
  have e0 : lcL [5] (gVar 5) pYes (eCB dList (hCons (eVar 5) (hNil))) (c.map rowD) [] [some (.io (pot a0 b0)), some (.sh (paceD p q)), some (.sh (codeD c)), none, none, none, none, none] = .ok (c.map rowD, [some (.io (pot a0 b0)), some (.sh (paceD p q)), some (.sh (codeD c)), none, none, none, none, none]) := by
    refine lcL_map rowD rowD _ c ?_ (by omega)
    intro r hr
    have hdl := dList_n (r.map eD) (by have := h.row r hr; simp; omega)
    simp [hdl]
  have hm1 : d0 + 1 ≤ 3 := by omega
  generalize hmm : d0 + 1 = m at hm1
  have e := sForL_relP (g := gVar 6) (b := wdB K) iD (fun pp ρ => ∃ (x : Cod) (a b : Int) (x5 x6 : Option Sl), ρ = [some (.io (pot a b)), some (.sh (paceD p q)), some (.sh (codeD c)), some (.sh (iD m)), some (.own (codeD (c ++ x))), x5, x6, none] ∧ x.length = pp.length ∧ (∀ r ∈ x, r.length = sz) ∧ (∀ r ∈ x, ∀ e ∈ r, WfE q (c.length + m) e) ∧ shN x5 ∧ shN x6) (List.range m) [] [some (.io (pot a0 b0)), some (.sh (paceD p q)), some (.sh (codeD c)), some (.sh (iD m)), some (.own (codeD c)), none, none, none] (by
      rintro pp i post ρ hpp ⟨x, a, b, x5, x6, rfl, hxl, hx1, hx2, h5, h6⟩
      have hpl : pp.length ≤ 3 := by have := congrArg List.length hpp; simp at this; omega
      obtain ⟨r, a', b', e1, hrl, hr⟩ := wd_turn K p q sz c.length m hsh hsz hq c rfl hpos (by omega) (by omega) (c ++ x) (by simp; omega) a b x5 (some (.sh (iD i))) h5
      refine ⟨_, ?_, x ++ [r], a', b', some (.sh (rowD r)), some (.sh (iD i)), rfl, by simp [hxl], ?_, ?_, shN_sh _, shN_sh _⟩
      · have g1 : gVar 6 (iD i) [some (.io (pot a b)), some (.sh (paceD p q)), some (.sh (codeD c)), some (.sh (iD m)), some (.own (codeD (c ++ x))), x5, x6, none] = some [some (.io (pot a b)), some (.sh (paceD p q)), some (.sh (codeD c)), some (.sh (iD m)), some (.own (codeD (c ++ x))), x5, some (.sh (iD i)), none] := by
          rcases h6 with rfl | ⟨_, rfl⟩ <;> simp
        rw [g1, ← List.append_assoc]
        exact e1
      · exact row_end (q := q) (n := 0) (P := fun r => r.length = sz) hx1 hrl
      · exact row_end (q := q) (n := 0) (P := fun r => ∀ e ∈ r, WfE q (c.length + m) e) hx2 hr) ⟨[], a0, b0, none, none, by simp, rfl, by simp, by simp, shN_no, shN_no⟩
  obtain ⟨ρ', e, x, a', b', x5, x6, rfl, hxl, hx1, hx2, h5, h6⟩ := e
  have hxn : x.length = m := by simpa using hxl
  rw [rng_i2] at e
  have hR := rngF_n m (by omega)
  have hnI : (1 : Int) + (d0 : Int) = (m : Int) := by omega
  refine ⟨x, a', b', ?_, ⟨by simp; omega, by simp; omega, fun r hr => ?_, fun r hr e he => ?_⟩⟩
  · simp only [codeD] at e0 e ⊢
    simp [F__law_wider, B__law_wider, ed, hnI, e0, hR, e, -List.map_append]
  · rcases List.mem_append.mp hr with z | z
    · exact h.row r z
    · exact hx1 r z
  · rcases List.mem_append.mp hr with z | z
    · have w := h.ent r z e he
      exact ⟨w.len, w.sub, by have := w.lt; simp; omega⟩
    · have w := hx2 r z e he
      exact ⟨w.len, w.sub, by have := w.lt; simp; omega⟩
end LW
set_option Elab.async false
set_option linter.all false
set_option maxRecDepth 100000
set_option maxHeartbeats 1000000
namespace LW
open PySem L2 BR
/-! ### _law_doubled -/
noncomputable abbrev dbB (K : PySem.W.Frag) : SF := sDrop (eAppend 2 (eLc [5, 6] (itSeq (eVar 4)) (spG 5 6) pYes (eTup (aCons (eV (eVar 5)) (aCons (eV (eOp2 dAdd (eVar 6) (eOp2 dMulI (eCB dLen (hCons (eVar 1) (hNil))) (eCall false (F__law_draw K) (mIo (eVar 0) (mSh (eK (.int 2)) (mNil))))))) (aNil))))))
theorem db_row (K : PySem.W.Frag) (q : Nat) (c : Cod) (hn0 : 0 < c.length) (hn : c.length ≤ 1000) (f : Cod) (hf : f.length ≤ 1000) (r : List (List Nat × Nat)) (hr : r.length ≤ 1000) (hw : ∀ e ∈ r, WfE q c.length e) (a b : Int) (x3 : Option Sl) : ∃ (r' : List (List Nat × Nat)) (a' b' : Int),
    dbB K [some (.io (pot a b)), some (.sh (codeD c)), some (.own (codeD f)), x3, some (.sh (rowD r)), none, none] =
      .ok (.nx, [some (.io (pot a' b')), some (.sh (codeD c)), some (.own (codeD (f ++ [r']))), x3, some (.sh (rowD r)), none, none]) ∧ r'.length = r.length ∧ ∀ e ∈ r', WfE q (2 * c.length) e := by
  have hs := sl
  have e := lcL_relN (vs := [5, 6]) (g := spG 5 6) (p := pYes) (fe := eTup (aCons (eV (eVar 5)) (aCons (eV (eOp2 dAdd (eVar 6) (eOp2 dMulI (eCB dLen (hCons (eVar 1) (hNil))) (eCall false (F__law_draw K) (mIo (eVar 0) (mSh (eK (.int 2)) (mNil))))))) (aNil)))) eD
    (fun pre acc ρ => ∃ (r' : List (List Nat × Nat)) (a b : Int), acc = r'.map eD ∧ r'.length = pre.length ∧ (∀ e ∈ r', WfE q (2 * c.length) e) ∧ ρ = [some (.io (pot a b)), some (.sh (codeD c)), some (.own (codeD f)), x3, some (.sh (rowD r)), none, none]) r [] [] [some (.io (pot a b)), some (.sh (codeD c)), some (.own (codeD f)), x3, some (.sh (rowD r)), none, none] (by
      rintro e pre acc ρ he ⟨r', a, b, rfl, hrl, hr', rfl⟩
      obtain ⟨d, a1, b1, e1, hd⟩ := draw_n K a b 2 (by omega) (by omega)
      replace e1 : F__law_draw K [pot a b, .int 2] = .ok (iD d, [pot a1 b1]) := e1
      have h2 : 2 ≤ sizeLine := by omega
      have hm : dMulI (.int (c.length : Int)) (.int (d : Int)) = some (.im (.int ((c.length : Int) * (d : Int)))) := dMulI_ok (.inr ⟨by omega, by omega⟩)
      have w := hw e he
      refine ⟨some (eD (e.1, e.2 + c.length * d)), [some (.io (pot a1 b1)), some (.sh (codeD c)), some (.own (codeD f)), x3, some (.sh (rowD r)), none, none], ?_, r' ++ [(e.1, e.2 + c.length * d)], a1, b1, by simp, by simp [hrl], ?_, rfl⟩
      · simp [e1, hm, h2]
      · intro e' he'
        rcases List.mem_append.mp he' with z | z
        · exact hr' e' z
        · simp at z; subst z
          refine ⟨w.len, w.sub, ?_⟩
          have := w.lt
          have : c.length * d ≤ c.length * 1 := Nat.mul_le_mul_left _ (by omega)
          show e.2 + c.length * d < 2 * c.length
          omega) (by simp; omega) ⟨[], a, b, rfl, rfl, by simp, rfl⟩
  obtain ⟨ys, ρ', e, r', a', b', rfl, hrl, hr', rfl⟩ := e
  have hlt : f.length < sizeLine := by omega
  refine ⟨r', a', b', ?_, by simpa using hrl, hr'⟩
  simp [e, hlt]
theorem doubled_ok (K : PySem.W.Frag) (q sz : Nat) (hsz : sz ≤ 1000) (c : Cod) (h : Wf q sz c) (hc : c.length ≤ 5) (a b : Int) : ∃ (c' : Cod) (a' b' : Int),
    F__law_doubled K [pot a b, codeD c] = .ok (codeD c', [pot a' b']) ∧ Wf q sz c' := by
  have hs := sl
  have hpos := h.pos
  have one : ∀ (f : Cod) (hf : f.length ≤ 5) (a b : Int) (x3 x4 : Option Sl), shN x4 → ∃ (c' : Cod) (a' b' : Int) (y4 : Option Sl), sForL (gVar 4) (dbB K) (c.map rowD) [some (.io (pot a b)), some (.sh (codeD c)), some (.own (codeD f)), x3, x4, none, none] =
      .ok (.nx, [some (.io (pot a' b')), some (.sh (codeD c)), some (.own (codeD (f ++ c'))), x3, y4, none, none]) ∧ c'.length = c.length ∧ (∀ r ∈ c', r.length = sz) ∧ (∀ r ∈ c', ∀ e ∈ r, WfE q (2 * c.length) e) ∧ shN y4 := by
    intro f hf a b x3 x4 h4
    have e := sForL_relP (g := gVar 4) (b := dbB K) rowD (fun pp ρ => ∃ (c' : Cod) (a b : Int) (x4 : Option Sl), ρ = [some (.io (pot a b)), some (.sh (codeD c)), some (.own (codeD (f ++ c'))), x3, x4, none, none] ∧ c'.length = pp.length ∧ (∀ r ∈ c', r.length = sz) ∧ (∀ r ∈ c', ∀ e ∈ r, WfE q (2 * c.length) e) ∧ shN x4) c [] [some (.io (pot a b)), some (.sh (codeD c)), some (.own (codeD f)), x3, x4, none, none] (by
      rintro pp r post ρ hpp ⟨c', a, b, x4, rfl, hcl, h1, h2, h4⟩
      have hpl : pp.length ≤ 5 := by have := congrArg List.length hpp; simp at this; omega
      have hrc : r ∈ c := by rw [List.nil_append] at hpp; rw [hpp]; simp
      have hrl := h.row r hrc
      obtain ⟨r', a', b', e1, hrl', hr'⟩ := db_row K q c hpos (by omega) (f ++ c') (by simp; omega) r (by omega) (h.ent r hrc) a b x3
      refine ⟨_, ?_, c' ++ [r'], a', b', some (.sh (rowD r)), rfl, by simp [hcl], ?_, ?_, shN_sh _⟩
      · have g1 : gVar 4 (rowD r) [some (.io (pot a b)), some (.sh (codeD c)), some (.own (codeD (f ++ c'))), x3, x4, none, none] = some [some (.io (pot a b)), some (.sh (codeD c)), some (.own (codeD (f ++ c'))), x3, some (.sh (rowD r)), none, none] := by
          rcases h4 with rfl | ⟨_, rfl⟩ <;> simp
        rw [g1, ← List.append_assoc]
        exact e1
      · exact row_end (q := q) (n := 0) (P := fun r => r.length = sz) h1 (by omega)
      · exact row_end (q := q) (n := 0) (P := fun r => ∀ e ∈ r, WfE q (2 * c.length) e) h2 hr') ⟨[], a, b, x4, by simp, rfl, by simp, by simp, h4⟩
    obtain ⟨ρ', e, c', a', b', y4, rfl, hcl, h1, h2, hy4⟩ := e
    exact ⟨c', a', b', y4, e, by simpa using hcl, h1, h2, hy4⟩
  obtain ⟨c1, a1, b1, y4, e1, l1, h1, h2, hy4⟩ := one [] (by simp) a b (some (.sh (.int 0))) none shN_no
  obtain ⟨c2, a2, b2, z4, e2, l2, h3, h4, hz4⟩ := one c1 (by omega) a1 b1 (some (.sh (.int 1))) y4 hy4
  have hl : (c1 ++ c2).length = 2 * c.length := by simp; omega
  refine ⟨c1 ++ c2, a2, b2, ?_, ⟨by omega, by omega, fun r hr => ?_, fun r hr e he => ?_⟩⟩
  · have hR : rngF ([.int 2], [some (.io (pot a b)), some (.sh (codeD c)), some (.own (.lst [])), none, none, none, none]) = .ok (rngL 0 2, [some (.io (pot a b)), some (.sh (codeD c)), some (.own (.lst [])), none, none, none, none]) := rngF_n 2 (by omega) _
    have r2 : rngL 0 2 = [.int 0, .int 1] := rfl
    simp only [codeD, List.nil_append, List.map_nil] at e1 e2 ⊢
    simp [F__law_doubled, B__law_doubled, hR, r2, sForL, e1, e2]
  · rcases List.mem_append.mp hr with z | z
    · exact h1 r z
    · exact h3 r z
  · rw [hl]
    rcases List.mem_append.mp hr with z | z
    · exact h2 r z e he
    · exact h4 r z e he
end LW
set_option Elab.async false
set_option linter.all false
set_option maxRecDepth 100000
set_option maxHeartbeats 1000000
namespace LW
open PySem L2 BR
/-! ### _law_other -/
abbrev rT (r : List (List Nat × Nat)) : BR.T := .lst (r.map fun e => .fz (eD e))
abbrev codeT (c : Cod) : BR.T := .lst (c.map rT)
theorem ds_fz (r : List (List Nat × Nat)) : BR.T.ds (r.map fun e => .fz (eD e)) = r.map eD := by
  induction r with
  | nil => rfl
  | cons e r ih => simp only [List.map_cons, BR.T.ds, ih, BR.T.d]
theorem ds_code (c : Cod) : BR.T.ds (c.map rT) = c.map rowD := by
  induction c with
  | nil => rfl
  | cons r c ih => simp only [List.map_cons, BR.T.ds, ih, BR.T.d, ds_fz]
theorem codeT_d (c : Cod) : (codeT c).d = codeD c := by
  show D.lst _ = D.lst _
  rw [ds_code]
theorem rT_d (r : List (List Nat × Nat)) : (rT r).d = rowD r := by
  show D.lst _ = D.lst _
  rw [ds_fz]
theorem lcTL_map {β : Type} {vs : List Nat} {g : D → S → Option S} {fe : EF} (toD : β → D) (out : β → BR.T) (ρ : S) : ∀ (xs : List β) (acc : List BR.T),
    (∀ x ∈ xs, ∃ ρ1 y u, g (toD x) ρ = some ρ1 ∧ fe ρ1 = .ok y ∧ normT y.1 y.2 = some (out x, u) ∧ wipeS u vs = ρ) → acc.length + xs.length ≤ sizeLine →
    lcTL vs g pYes fe (xs.map toD) acc ρ = .ok (acc ++ xs.map out, ρ) := by
  intro xs
  induction xs with
  | nil => intro acc _ _; simp [lcTL]
  | cons x xs ih =>
    intro acc h hl
    obtain ⟨ρ1, y, u, e1, e2, e3, e4⟩ := h x (by simp)
    have hlt : acc.length < sizeLine := by simp at hl; omega
    have e5 := ih (acc ++ [out x]) (fun z hz => h z (by simp [hz])) (by simp at hl ⊢; omega)
    rw [List.map_cons, lcTL, e1]
    simp only [ofO_some, ok_bind, pYes, noX, if_true, e2, e3, hlt, e4]
    rw [e5]
    simp
abbrev st9 (a b : Int) (s1 : Option Sl) (c : Cod) (s4 s5 s6 s7 s8 : Option Sl) : S := [some (.io (pot a b)), s1, some (.dp (codeT c)), none, s4, s5, s6, s7, s8]
section
variable (a b : Int) (s1 : Option Sl) (c : Cod) (s5 s6 s7 s8 : Option Sl) (i j : Nat)
theorem ot_row (hi : i < c.length) : eIxT (eVar 2) (eVar 4) (st9 a b s1 c (some (.sh (iD i))) s5 s6 s7 s8) = .ok (.sub 2 [i], st9 a b s1 c (some (.sh (iD i))) s5 s6 s7 s8) := by
  have h1 : (c.map rT)[i]? = some (rT c[i]) := by rw [List.getElem?_map, List.getElem?_eq_getElem hi]; rfl
  have h2 := ixN_n hi
  simp [h2, -List.getElem?_map, h1]
theorem ot_len : eCBq qLen (eVar 2) (st9 a b s1 c s6 s5 s6 s7 s8) = .ok (.val (iD c.length), st9 a b s1 c s6 s5 s6 s7 s8) := by
  have h := codeT_d c
  simp [ds_code]
theorem ot_node (hi : i < c.length) : node (.sub 2 [i]) (st9 a b s1 c (some (.sh (iD i))) s5 s6 s7 s8) = some (rT c[i]) := by
  have h1 : (c.map rT)[i]? = some (rT c[i]) := by rw [List.getElem?_map, List.getElem?_eq_getElem hi]; rfl
  show (codeT c).at [i] = some (rT c[i])
  simp only [BR.T.at, BR.T.kids, h1, Option.bind_some]
theorem ot_lenR (hi : i < c.length) : eCBq qLen (eIxT (eVar 2) (eVar 4)) (st9 a b s1 c (some (.sh (iD i))) s5 s6 s7 s8) = .ok (.val (iD c[i].length), st9 a b s1 c (some (.sh (iD i))) s5 s6 s7 s8) := by
  have e := ot_row a b s1 c s5 s6 s7 s8 i hi
  have hn := ot_node a b s1 c s5 s6 s7 s8 i hi
  have hq : lookQ (.sub 2 [i]) (st9 a b s1 c (some (.sh (iD i))) s5 s6 s7 s8) = some (rowD c[i]) := by
    show ((codeT c).at [i]).map BR.T.d = _
    rw [show (codeT c).at [i] = some (rT c[i]) from hn, Option.map_some, rT_d]
  unfold eCBq
  rw [e]
  simp only [ok_bind, hq, ofO_some, qLen, rowD, List.length_map, iD]
theorem ot_ent (hi : i < c.length) (hj : j < c[i].length) : eIxT (eIxT (eVar 2) (eVar 4)) (eVar 5) (st9 a b s1 c (some (.sh (iD i))) (some (.sh (iD j))) s6 s7 s8) = .ok (.val (eD c[i][j]), st9 a b s1 c (some (.sh (iD i))) (some (.sh (iD j))) s6 s7 s8) := by
  have e := ot_row a b s1 c (some (.sh (iD j))) s6 s7 s8 i hi
  have hn := ot_node a b s1 c (some (.sh (iD j))) s6 s7 s8 i hi
  have hv : eVar 5 (st9 a b s1 c (some (.sh (iD i))) (some (.sh (iD j))) s6 s7 s8) = .ok (.val (iD j), st9 a b s1 c (some (.sh (iD i))) (some (.sh (iD j))) s6 s7 s8) := by simp
  have h2 := ixN_n hj
  have h3 : (c[i].map fun e => BR.T.fz (eD e))[j]? = some (.fz (eD c[i][j])) := by rw [List.getElem?_map, List.getElem?_eq_getElem hj]; rfl
  rw [eIxT, e]
  simp only [ok_bind, hv, hn, ofO_some, kidL, asInt, List.length_map, h2, h3]
theorem ot_set (hi : i < c.length) (hj : j < c[i].length) (e' : List Nat × Nat) (f : EF) (a' b' : Int) (t8 : Option Sl) (hf : f (st9 a b s1 c (some (.sh (iD i))) (some (.sh (iD j))) s6 s7 s8) = .ok (.val (eD e'), st9 a' b' s1 c (some (.sh (iD i))) (some (.sh (iD j))) s6 s7 t8)) :
    sSetT (eIxT (eVar 2) (eVar 4)) (eVar 5) f (st9 a b s1 c (some (.sh (iD i))) (some (.sh (iD j))) s6 s7 s8) = .ok (.nx, st9 a' b' s1 (c.set i (c[i].set j e')) (some (.sh (iD i))) (some (.sh (iD j))) s6 s7 t8) := by
  have e := ot_row a' b' s1 c (some (.sh (iD j))) s6 s7 t8 i hi
  have hn := ot_node a' b' s1 c (some (.sh (iD j))) s6 s7 t8 i hi
  have hv : eVar 5 (st9 a' b' s1 c (some (.sh (iD i))) (some (.sh (iD j))) s6 s7 t8) = .ok (.val (iD j), st9 a' b' s1 c (some (.sh (iD i))) (some (.sh (iD j))) s6 s7 t8) := by simp
  have h2 := ixN_n hj
  have h1 : (c.map rT)[i]? = some (rT c[i]) := by rw [List.getElem?_map, List.getElem?_eq_getElem hi]; rfl
  have hp : (codeT c).put [i] (.lst ((c[i].map fun e => BR.T.fz (eD e)).set j (.fz (eD e')))) = codeT (c.set i (c[i].set j e')) := by
    simp only [BR.T.put, BR.T.kids, h1, BR.T.setKids]
    show BR.T.lst _ = BR.T.lst _
    rw [← List.map_set (f := fun e => BR.T.fz (eD e)), List.map_set (f := rT)]
  unfold sSetT
  rw [hf]
  simp only [ok_bind, normT, ofO_some, e, hv, asInt, hn, kidL, List.length_map, h2]
  show ofO (some ((st9 a' b' s1 c (some (.sh (iD i))) (some (.sh (iD j))) s6 s7 t8).set 2 (some (.dp ((codeT c).put [i] (.lst ((c[i].map fun e => BR.T.fz (eD e)).set j (.fz (eD e'))))))))) >>= _ = _
  rw [hp]
  rfl
end
theorem set_wf {q sz : Nat} {c : Cod} (h : Wf q sz c) {i j : Nat} (hi : i < c.length) (hj : j < c[i].length) {e : List Nat × Nat} (he : WfE q c.length e) : Wf q sz (c.set i (c[i].set j e)) where
  pos := by simpa using h.pos
  few := by simpa using h.few
  row := by
    intro r hr
    rcases List.mem_or_eq_of_mem_set hr with z | z
    · exact h.row r z
    · subst z; simpa using h.row _ (List.getElem_mem hi)
  ent := by
    intro r hr e' he'
    rw [List.length_set]
    rcases List.mem_or_eq_of_mem_set hr with z | z
    · exact h.ent r z e' he'
    · subst z
      rcases List.mem_or_eq_of_mem_set he' with z | z
      · exact h.ent _ (List.getElem_mem hi) e' z
      · subst z; exact he

theorem add_T (u v : List Nat) (h : u.length + v.length ≤ 1000000) : dAdd (.str (Tx u)) (.str (Tx v)) = some (.im (.str (Tx (u ++ v)))) := by
  have hs := sl
  have hk : (Tx u).length + (Tx v).length ≤ sizeLine := by rw [T_len, T_len]; omega
  show (if (Tx u).length + (Tx v).length ≤ sizeLine then some (Rz.im (.str (Tx u ++ Tx v))) else none) = _
  rw [if_pos hk, T_app]
theorem other_ok (K : PySem.W.Frag) (q sz : Nat) (hq0 : 0 < q) (hq : q ≤ 1000) (hsz0 : 0 < sz) (hsz : sz ≤ 1000) (c : Cod) (h : Wf q sz c) (a b : Int) : ∃ (c' : Cod) (a' b' : Int),
    F__law_other K [pot a b, codeD c] = .ok (codeD c', [pot a' b']) ∧ Wf q sz c' := by
  have hs := sl
  have hpos := h.pos
  have hfew := h.few
  obtain ⟨i, a1, b1, e1, hi⟩ := draw_n K a b c.length hpos (by omega)
  have hrow := h.row _ (List.getElem_mem hi)
  obtain ⟨j, a2, b2, e2, hj⟩ := draw_n K a1 b1 c[i].length (by omega) (by omega)
  have w := h.ent _ (List.getElem_mem hi) _ (List.getElem_mem hj)
  obtain ⟨d, a3, b3, e3, hd⟩ := draw_n K a2 b2 2 (by omega) (by omega)
  replace e3 : F__law_draw K [pot a2 b2, .int 2] = .ok (iD d, [pot a3 b3]) := e3
  have h2 : 2 ≤ sizeLine := by omega
  have e0 : lcTL [3] (gVar 3) pYes (eCB dList (hCons (eVar 3) (hNil))) (c.map rowD) [] [some (.io (pot a b)), some (.sh (codeD c)), none, none, none, none, none, none, none] = .ok ([] ++ c.map rT, [some (.io (pot a b)), some (.sh (codeD c)), none, none, none, none, none, none, none]) := by
    refine lcTL_map rowD rT _ c [] (fun r hr => ?_) (by simp; omega)
    have hdl := dList_n (r.map eD) (by have := h.row r hr; simp; omega)
    refine ⟨[some (.io (pot a b)), some (.sh (codeD c)), none, some (.sh (rowD r)), none, none, none, none, none], (.tmp (rowD r), [some (.io (pot a b)), some (.sh (codeD c)), none, some (.sh (rowD r)), none, none, none, none, none]), [some (.io (pot a b)), some (.sh (codeD c)), none, some (.sh (rowD r)), none, none, none, none, none], ?_, ?_, ?_, ?_⟩
    · simp
    · simp [hdl]
    · simp
    · simp
  have s0 : sAsg 2 (eLcT [3] (itSeq (eVar 1)) (gVar 3) pYes (eCB dList (hCons (eVar 3) (hNil)))) [some (.io (pot a b)), some (.sh (codeD c)), none, none, none, none, none, none, none] = .ok (.nx, st9 a b (some (.sh (codeD c))) c none none none none none) := by
    simp only [List.nil_append] at e0
    simp [e0]
  have s1 : sAsg 4 (eCall false (F__law_draw K) (mIo (eVar 0) (mSh (eCBq qLen (eVar 2)) (mNil)))) (st9 a b (some (.sh (codeD c))) c none none none none none) = .ok (.nx, st9 a1 b1 (some (.sh (codeD c))) c (some (.sh (iD i))) none none none none) := by
    have := ot_len a b (some (.sh (codeD c))) c none none none
    simp [-eCBq, this, e1]
  have s2 : sAsg 5 (eCall false (F__law_draw K) (mIo (eVar 0) (mSh (eCBq qLen (eIxT (eVar 2) (eVar 4))) (mNil)))) (st9 a1 b1 (some (.sh (codeD c))) c (some (.sh (iD i))) none none none none) = .ok (.nx, st9 a2 b2 (some (.sh (codeD c))) c (some (.sh (iD i))) (some (.sh (iD j))) none none none) := by
    have := ot_lenR a1 b1 (some (.sh (codeD c))) c none none none none i hi
    simp [-eCBq, -eIxT, this, e2]
  have s3 : sAsgT (gTupF 2 (gsCons (gVar 6) (gsCons (gVar 7) (gsNil)))) (eIxT (eIxT (eVar 2) (eVar 4)) (eVar 5)) (st9 a2 b2 (some (.sh (codeD c))) c (some (.sh (iD i))) (some (.sh (iD j))) none none none) = .ok (.nx, st9 a2 b2 (some (.sh (codeD c))) c (some (.sh (iD i))) (some (.sh (iD j))) (some (.sh (.str (Tx c[i][j].1)))) (some (.sh (iD c[i][j].2))) none) := by
    have := ot_ent a2 b2 (some (.sh (codeD c))) c none none none i j hi hj
    simp [-eIxT, this]
  have fin : ∀ (a' b' : Int) (t8 : Option Sl) (e' : List Nat × Nat), WfE q c.length e' →
      sIf (tstV (eOp2 dEq (eCall false (F__law_draw K) (mIo (eVar 0) (mSh (eK (.int 2)) (mNil)))) (eK (.int 0)))) (sSetT (eIxT (eVar 2) (eVar 4)) (eVar 5) (eTup (aCons (eV (eVar 6)) (aCons (eV (eOp2 (dIc (fun _ j => 0 < j) fun i j => i % j) (eOp2 dAdd (eVar 7) (eK (.int 1))) (eCBq qLen (eVar 2)))) (aNil))))) (sSeq (sAsg 8 (eCall false (F__law_draw K) (mIo (eVar 0) (mSh (eCB dLen (hCons (eVar 6) (hNil))) (mNil)))))
    (sSetT (eIxT (eVar 2) (eVar 4)) (eVar 5) (eTup (aCons (eV (eOp2 dAdd (eOp2 dAdd (eSl (eVar 6) (oNone) (oSome (eVar 8))) (eCall false (F__law_pick K) (mIo (eVar 0) (mSh (eK (.str "abcd")) (mNil))))) (eSl (eVar 6) (oSome (eOp2 dAdd (eVar 8) (eK (.int 1)))) (oNone)))) (aCons (eV (eVar 7)) (aNil))))))
        (st9 a2 b2 (some (.sh (codeD c))) c (some (.sh (iD i))) (some (.sh (iD j))) (some (.sh (.str (Tx c[i][j].1)))) (some (.sh (iD c[i][j].2))) none) = .ok (.nx, st9 a' b' (some (.sh (codeD c))) (c.set i (c[i].set j e')) (some (.sh (iD i))) (some (.sh (iD j))) (some (.sh (.str (Tx c[i][j].1)))) (some (.sh (iD c[i][j].2))) t8) →
      ∃ (c' : Cod) (a' b' : Int), F__law_other K [pot a b, codeD c] = .ok (codeD c', [pot a' b']) ∧ Wf q sz c' := by
    intro a' b' t8 e' he' hs
    refine ⟨_, a', b', ?_, set_wf h hi hj he'⟩
    have hd := codeT_d (c.set i (c[i].set j e'))
    unfold F__law_other B__law_other runF
    show (sSeq _ _ [some (.io (pot a b)), some (.sh (codeD c)), none, none, none, none, none, none, none] >>= _) = _
    rw [sSeq, s0]
    simp only [ok_bind]
    rw [sSeq, s1]
    simp only [ok_bind]
    rw [sSeq, s2]
    simp only [ok_bind]
    rw [sSeq, s3]
    simp only [ok_bind]
    rw [sSeq, hs]
    simp only [ok_bind]
    generalize c.set i (c[i].set j e') = c2
    simp [ds_code]
  by_cases hd0 : d = 0
  · subst hd0
    have e4 : dEq (iD 0) (.int 0) = some (.im (.bl true)) := by simp [dEq, eqD]
    refine fin a3 b3 none (c[i][j].1, (c[i][j].2 + 1) % c.length) ⟨w.len, w.sub, Nat.mod_lt _ hpos⟩ ?_
    have hm : dIc (fun _ j => 0 < j) (fun i j => i % j) (.int ((c[i][j].2 : Int) + 1)) (.int (c.length : Int)) = some (.im (.int (((c[i][j].2 : Int) + 1) % (c.length : Int)))) := dIc_ok (by omega)
    have hl := ot_len a3 b3 (some (.sh (codeD c))) c (some (.sh (iD j))) (some (.sh (.str (Tx c[i][j].1)))) (some (.sh (iD c[i][j].2)))
    have hf := ot_set a3 b3 (some (.sh (codeD c))) c (some (.sh (.str (Tx c[i][j].1)))) (some (.sh (iD c[i][j].2))) none i j hi hj (c[i][j].1, (c[i][j].2 + 1) % c.length) (eTup (aCons (eV (eVar 6)) (aCons (eV (eOp2 (dIc (fun _ j => 0 < j) fun i j => i % j) (eOp2 dAdd (eVar 7) (eK (.int 1))) (eCBq qLen (eVar 2)))) (aNil)))) a3 b3 none (by
      simp [ds_code, hm, h2])
    have ht : tstV (eOp2 dEq (eCall false (F__law_draw K) (mIo (eVar 0) (mSh (eK (.int 2)) (mNil)))) (eK (.int 0))) (st9 a2 b2 (some (.sh (codeD c))) c (some (.sh (iD i))) (some (.sh (iD j))) (some (.sh (.str (Tx c[i][j].1)))) (some (.sh (iD c[i][j].2))) none) = .ok (true, st9 a3 b3 (some (.sh (codeD c))) c (some (.sh (iD i))) (some (.sh (iD j))) (some (.sh (.str (Tx c[i][j].1)))) (some (.sh (iD c[i][j].2))) none) := by
      simp [e3, e4]
    rw [sIf, ht]
    simp only [ok_bind, if_true]
    exact hf
  · have e4 : dEq (iD d) (.int 0) = some (.im (.bl false)) := by
      simp [dEq, eqD, hd0]
    obtain ⟨k, a4, b4, e5, hk⟩ := draw_n K a3 b3 c[i][j].1.length (by rw [w.len]; exact hq0) (by rw [w.len]; omega)
    obtain ⟨x, a5, b5, e6, hx⟩ := pick_str K a4 b4 [97, 98, 99, 100] (by simp) (by simp)
    replace e6 : F__law_pick K [pot a4 b4, .str "abcd"] = .ok (.str (Tx [x]), [pot a5 b5]) := e6
    have hwl := w.len
    refine fin a5 b5 (some (.sh (iD k))) (c[i][j].1.take k ++ [x] ++ c[i][j].1.drop (k + 1), c[i][j].2) ⟨by simp; omega, fun y hy => ?_, w.lt⟩ ?_
    · simp at hy
      rcases hy with z | z | z
      · exact w.sub y (List.mem_of_mem_take z)
      · subst z; exact hx
      · exact w.sub y (List.mem_of_mem_drop z)
    · have ht : tstV (eOp2 dEq (eCall false (F__law_draw K) (mIo (eVar 0) (mSh (eK (.int 2)) (mNil)))) (eK (.int 0))) (st9 a2 b2 (some (.sh (codeD c))) c (some (.sh (iD i))) (some (.sh (iD j))) (some (.sh (.str (Tx c[i][j].1)))) (some (.sh (iD c[i][j].2))) none) = .ok (false, st9 a3 b3 (some (.sh (codeD c))) c (some (.sh (iD i))) (some (.sh (iD j))) (some (.sh (.str (Tx c[i][j].1)))) (some (.sh (iD c[i][j].2))) none) := by
        simp [e3, e4]
      have s8 : sAsg 8 (eCall false (F__law_draw K) (mIo (eVar 0) (mSh (eCB dLen (hCons (eVar 6) (hNil))) (mNil)))) (st9 a3 b3 (some (.sh (codeD c))) c (some (.sh (iD i))) (some (.sh (iD j))) (some (.sh (.str (Tx c[i][j].1)))) (some (.sh (iD c[i][j].2))) none) = .ok (.nx, st9 a4 b4 (some (.sh (codeD c))) c (some (.sh (iD i))) (some (.sh (iD j))) (some (.sh (.str (Tx c[i][j].1)))) (some (.sh (iD c[i][j].2))) (some (.sh (iD k)))) := by
        have hz1 : c[i][j].1.length ≤ sizeLine := by omega
        simp [T_len, hz1, e5]
      have hf := ot_set a4 b4 (some (.sh (codeD c))) c (some (.sh (.str (Tx c[i][j].1)))) (some (.sh (iD c[i][j].2))) (some (.sh (iD k))) i j hi hj (c[i][j].1.take k ++ [x] ++ c[i][j].1.drop (k + 1), c[i][j].2) (eTup (aCons (eV (eOp2 dAdd (eOp2 dAdd (eSl (eVar 6) (oNone) (oSome (eVar 8))) (eCall false (F__law_pick K) (mIo (eVar 0) (mSh (eK (.str "abcd")) (mNil))))) (eSl (eVar 6) (oSome (eOp2 dAdd (eVar 8) (eK (.int 1)))) (oNone)))) (aCons (eV (eVar 7)) (aNil)))) a5 b5 (some (.sh (iD k))) (by
        have c1 := cut_to c[i][j].1 k
        have c2 := cut_from c[i][j].1 (k + 1)
        have hz : (Tx c[i][j].1).length ≤ sizeLine := by rw [T_len]; omega
        have d1 : dSl (.str (Tx c[i][j].1)) none (some (k : Int)) = some (.im (.str (Tx (c[i][j].1.take k)))) := by
          show (if (Tx c[i][j].1).length ≤ sizeLine then some (Rz.im (.str (cutS (Tx c[i][j].1) none (some (k : Int))))) else none) = _
          rw [if_pos hz, c1]
        have d2 : dSl (.str (Tx c[i][j].1)) (some ((k : Int) + 1)) none = some (.im (.str (Tx (c[i][j].1.drop (k + 1))))) := by
          show (if (Tx c[i][j].1).length ≤ sizeLine then some (Rz.im (.str (cutS (Tx c[i][j].1) (some ((k : Int) + 1)) none))) else none) = _
          rw [if_pos hz]
          have : ((k : Int) + 1) = ((k + 1 : Nat) : Int) := by omega
          rw [this, c2]
        have d3 : dAdd (.str (Tx (c[i][j].1.take k))) (.str (Tx [x])) = some (.im (.str (Tx (c[i][j].1.take k ++ [x])))) := by
          exact add_T _ _ (by simp; omega)
        have d4 : dAdd (.str (Tx (c[i][j].1.take k ++ [x]))) (.str (Tx (c[i][j].1.drop (k + 1)))) = some (.im (.str (Tx (c[i][j].1.take k ++ [x] ++ c[i][j].1.drop (k + 1))))) := by
          exact add_T _ _ (by simp; omega)
        have d5 : dAdd (.int (k : Int)) (.int 1) = some (.im (.int ((k : Int) + 1))) := rfl
        generalize c[i][j].1.take k = u at d1 d3 d4 ⊢
        generalize c[i][j].1.drop (k + 1) = v at d2 d4 ⊢
        simp only [List.append_assoc] at d3 d4 ⊢
        simp [e6, h2, d1, d2, d3, d4, d5, -dAdd])
      rw [sIf, ht]
      simp only [ok_bind]
      show sSeq _ _ _ = _
      rw [sSeq, s8]
      simp only [ok_bind]
      exact hf
end LW
set_option Elab.async false
set_option linter.all false
set_option maxRecDepth 100000
set_option maxHeartbeats 1000000
namespace LW
open PySem L2 BR
/-! ### == of codes and of what is told -/
theorem eqv_map {α : Type} [DecidableEq α] (g : α → PyData) (h : ∀ x y, PyData.eqv (g x) (g y) = decide (x = y)) : ∀ xs ys : List α, PyData.eqvAll (xs.map g) (ys.map g) = decide (xs = ys)
  | [], [] => by simp [PyData.eqvAll]
  | [], _ :: _ => by simp [PyData.eqvAll]
  | _ :: _, [] => by simp [PyData.eqvAll]
  | x :: xs, y :: ys => by
    simp only [List.map_cons, PyData.eqvAll, h x y, eqv_map g h xs ys, List.cons.injEq, Bool.decide_and]
theorem str_beq (l m : List Nat) : (Tx l == Tx m) = decide (l = m) := by
  by_cases h : l = m
  · subst h; simp
  · have : Tx l ≠ Tx m := fun z => h (T_inj.mp z)
    simp [h, this]
theorem eqv_e (e f : List Nat × Nat) : PyData.eqv (eP e) (eP f) = decide (e = f) := by
  obtain ⟨a, b⟩ := e
  obtain ⟨a', b'⟩ := f
  have h1 := str_beq a a'
  have h2 : (((b : Nat) : Int) == ((b' : Nat) : Int)) = decide (b = b') := by
    by_cases h : b = b'
    · subst h; simp
    · have : ((b : Nat) : Int) ≠ ((b' : Nat) : Int) := by omega
      simp [h, this]
  simp only [eP, PyData.eqv, PyData.eqvAll, h1, h2, Bool.and_true, Prod.mk.injEq, Bool.decide_and]
theorem eqv_row (r s : List (List Nat × Nat)) : PyData.eqv (rowP r) (rowP s) = decide (r = s) := by
  simp only [rowP, PyData.eqv]
  exact eqv_map eP eqv_e r s
theorem eqv_code (c d : Cod) : PyData.eqv (codeP c) (codeP d) = decide (c = d) := by
  simp only [codeP, PyData.eqv]
  exact eqv_map rowP eqv_row c d
theorem wf_sg {q sz : Nat} {c : Cod} (h : Wf q sz c) : ∀ r ∈ c, ∀ e ∈ r, Sg e.1 := fun r hr e he => (h.ent r hr e he).sub
theorem eqD_code (c d : Cod) (h : ∀ r ∈ c, ∀ e ∈ r, Sg e.1) (h' : ∀ r ∈ d, ∀ e ∈ r, Sg e.1) : eqD (codeD c) (codeD d) = some (decide (c = d)) := by
  have hs := shaped_of (code_lay c h) (by have := code_dep c; omega)
  have hs' := shaped_of (code_lay d h') (by have := code_dep d; omega)
  have : eqD (codeD c) (codeD d) = (match toP (codeD c), toP (codeD d) with
    | some p, some q => if (SeqAt.shaped p && SeqAt.shaped q) = true then some (PyData.eqv p q) else none
    | _, _ => none) := rfl
  rw [this, toP_code, toP_code]
  simp only [hs, hs', Bool.and_self, if_true, eqv_code]
abbrev tellD (s : Str) (l : List Nat) (c : Cod) : D := .lst [.str s, .str (Tx l), codeD c, iD c.length]
def tellP (s : Str) (l : List Nat) (c : Cod) : PyData := .list [.str s, .str (Tx l), codeP c, .int (c.length : Int)]
theorem toP_tell (s : Str) (l : List Nat) (c : Cod) : toP (tellD s l c) = some (tellP s l c) := by
  simp only [tellD, toP, toPL, tellP, iD]
  rw [show toPL (c.map rowD) = some (c.map rowP) from toPL_map rowD rowP toP_row c]
  simp [codeP]
theorem tell_shaped {s : Str} (hs : PyData.strOk s = true) {l : List Nat} (hl : Sg l) {c : Cod} (h : ∀ r ∈ c, ∀ e ∈ r, Sg e.1) : SeqAt.shaped (tellP s l c) = true := by
  refine shaped_of ?_ ?_
  · simp only [tellP, PyData.canLay0, PyData.canLayAll0, hs, strOk_T l hl, code_lay c h, Bool.and_self]
  · have := code_dep c
    simp only [tellP, PyData.depth, PyData.depthAll]; omega
theorem eqD_tell {s : Str} (hs : PyData.strOk s = true) {l m : List Nat} (hl : Sg l) (hm : Sg m) {c d : Cod} (h : ∀ r ∈ c, ∀ e ∈ r, Sg e.1) (h' : ∀ r ∈ d, ∀ e ∈ r, Sg e.1) : eqD (tellD s l c) (tellD s m d) = some (decide (l = m ∧ c = d)) := by
  have : eqD (tellD s l c) (tellD s m d) = (match toP (tellD s l c), toP (tellD s m d) with
    | some p, some q => if (SeqAt.shaped p && SeqAt.shaped q) = true then some (PyData.eqv p q) else none
    | _, _ => none) := rfl
  have s1 := tell_shaped hs hl h
  have s2 := tell_shaped hs hm h'
  rw [this, toP_tell, toP_tell]
  simp only [s1, s2, Bool.and_self, if_true]
  simp only [tellP, PyData.eqv, PyData.eqvAll, str_beq, eqv_code, BEq.rfl, Bool.true_and, Bool.and_true]
  by_cases k : c = d
  · subst k; by_cases k2 : l = m <;> simp [k2]
  · by_cases k2 : l = m <;> simp [k, k2]
/-! ### lengths of shown data -/
theorem textFrom_le (B : Nat) : ∀ (ts : List Str) (k : Nat) (acc : Str), (∀ t ∈ ts, t.length ≤ B) → (textFrom k acc ts).length ≤ acc.length + ts.length * (B + 2)
  | [], k, acc, _ => by simp [textFrom]
  | t :: ts, k, acc, h => by
    have ih := textFrom_le B ts (k + 1) (acc ++ (if k > 0 then ", " else "" : String) ++ t) fun x hx => h x (by simp [hx])
    have e : (acc ++ (if k > 0 then ", " else "" : String) ++ t).length ≤ acc.length + 2 + B := by
      rw [strLen_append, strLen_append]
      have := h t (by simp)
      have h2 : ((if k > 0 then ", " else "" : String) : Str).length ≤ 2 := by split <;> decide
      omega
    rw [textFrom, List.length_cons, Nat.add_mul]
    omega
theorem listText_le (B : Nat) (ts : List Str) (h : ∀ t ∈ ts, t.length ≤ B) : (listText ts).length ≤ 2 + ts.length * (B + 2) := by
  have := textFrom_le B ts 0 "[" h
  unfold listText
  rw [strLen_append]
  have h1 : (("[" : String) : Str).length = 1 := by decide
  have h2 : (("]" : String) : Str).length = 1 := by decide
  omega
theorem shownAll_map {α : Type} (g : α → PyData) : ∀ xs : List α, PyData.shownAll (xs.map g) = xs.map fun x => PyData.shown (g x)
  | [] => by simp [PyData.shownAll]
  | x :: xs => by simp [PyData.shownAll, shownAll_map g xs]
theorem shown_list_le {α : Type} (g : α → PyData) (B : Nat) (xs : List α) (h : ∀ x ∈ xs, (PyData.shown (g x)).length ≤ B) : (PyData.shown (.list (xs.map g))).length ≤ 2 + xs.length * (B + 2) := by
  have := listText_le B (PyData.shownAll (xs.map g)) (by
    rw [shownAll_map]
    intro t ht
    obtain ⟨x, hx, rfl⟩ := List.mem_map.mp ht
    exact h x hx)
  simp only [PyData.shown]
  rw [shownAll_map] at this ⊢
  simpa using this
theorem reprT_le (l : List Nat) (h : Sg l) : (reprText (Tx l)).length ≤ 2 + l.length * 20 := by
  rw [← reprLen_eq]
  have hq : reprQuote (Tx l) = 39 ∨ reprQuote (Tx l) = 34 := by
    unfold reprQuote
    split <;> simp
  have hc : ∀ c ∈ l, (Builtin.Str.reprChar (reprQuote (Tx l)) c).length ≤ 20 := by
    intro c hc
    have := h c hc
    simp at this
    rcases hq with e | e <;> rw [e] <;> rcases this with rfl | rfl | rfl | rfl <;> decide +kernel
  have key : ∀ (xs : List Nat) (n : Nat), (∀ c ∈ xs, c ∈ l) → xs.foldl (fun n c => n + (Builtin.Str.reprChar (reprQuote (Tx l)) c).length) n ≤ n + xs.length * 20 := by
    intro xs
    induction xs with
    | nil => intro n _; simp
    | cons c xs ih =>
      intro n hm
      have h1 := hc c (hm c (by simp))
      have h2 := ih (n + (Builtin.Str.reprChar (reprQuote (Tx l)) c).length) fun x hx => hm x (by simp [hx])
      simp only [List.foldl_cons, List.length_cons, Nat.add_mul]
      omega
  have := key l 2 fun c hc => hc
  rw [show (Tx l).cps = l.toArray from rfl, ← Array.foldl_toList]
  simpa using this
theorem int_le : ∀ n < 20, (((toString ((n : Nat) : Int) : String) : Str)).length ≤ 3 ∧ (n.log2 < 1920) := by decide +kernel
theorem e_shown (e : List Nat × Nat) (h : Sg e.1) (hl : e.1.length ≤ 10) (hn : e.2 < 20) : (PyData.shown (eP e)).length ≤ 300 := by
  have h1 := reprT_le e.1 h
  have h2 := (int_le e.2 hn).1
  have h3 := join_length_add [reprText (Tx e.1), ((toString ((e.2 : Nat) : Int) : String) : Str)] (by simp)
  have h4 : ((tupleText [reprText (Tx e.1), ((toString ((e.2 : Nat) : Int) : String) : Str)])).length ≤ 300 := by
    unfold tupleText
    rw [strLen_append, strLen_append]
    have h5 : ((if [reprText (Tx e.1), ((toString ((e.2 : Nat) : Int) : String) : Str)].length == 1 then ",)" else ")" : String) : Str).length ≤ 2 := by
      split <;> decide
    have h6 : (("(" : String) : Str).length = 1 := by decide
    rw [piled_cons, piled_cons, piled_nil] at h3
    omega
  simpa only [eP, PyData.shown, PyData.shownAll] using h4
theorem row_shown {q n : Nat} (hq : q ≤ 10) (hn : n ≤ 20) (r : List (List Nat × Nat)) (h : ∀ e ∈ r, WfE q n e) (hr : r.length ≤ 64) : (PyData.shown (rowP r)).length ≤ 20000 := by
  have := shown_list_le eP 300 r fun e he => e_shown e (h e he).sub (by rw [(h e he).len]; exact hq) (Nat.lt_of_lt_of_le (h e he).lt hn)
  have h2 : r.length * (300 + 2) ≤ 64 * 302 := Nat.mul_le_mul_right _ hr
  exact Nat.le_trans this (by omega)
theorem code_shown {q sz : Nat} (hq : q ≤ 10) (hsz : sz ≤ 64) (c : Cod) (h : Wf q sz c) : (PyData.shown (codeP c)).length ≤ 200100 := by
  have hf := h.few
  have := shown_list_le rowP 20000 c fun r hr => row_shown hq (by omega) r (h.ent r hr) (by rw [h.row r hr]; exact hsz)
  have h2 : c.length * (20000 + 2) ≤ 10 * 20002 := Nat.mul_le_mul_right _ hf
  exact Nat.le_trans this (by omega)
theorem code_showable {q sz : Nat} (c : Cod) (h : Wf q sz c) : PyData.showable (codeP c) = true := by
  have all : ∀ {α : Type} (g : α → PyData) (xs : List α), (∀ x ∈ xs, PyData.showable (g x) = true) → PyData.showableAll (xs.map g) = true := by
    intro α g xs
    induction xs with
    | nil => intro _; simp [PyData.showableAll]
    | cons x xs ih => intro h; simp [PyData.showableAll, h x (by simp), ih fun y hy => h y (by simp [hy])]
  have hf := h.few
  simp only [codeP, PyData.showable]
  refine all rowP c fun r hr => ?_
  simp only [rowP, PyData.showable]
  refine all eP r fun e he => ?_
  have h2 := (int_le e.2 (by have := (h.ent r hr e he).lt; omega)).2
  simp [eP, PyData.showable, PyData.showableAll, h2]
/-! ### a rate as a text -/
def nS (n : Nat) : Str := ((toString ((n : Nat) : Int) : String) : Str)
abbrev ratS (p q : Nat) : Str := Str.empty ++ nS p ++ ":" ++ nS q
theorem rat_facts : ∀ p < 8, ∀ q < 8, (Str.empty ++ nS p).length ≤ 10 ∧ (Str.empty ++ nS p ++ ":").length ≤ 20 ∧ (ratS p q).length ≤ 30 ∧ (reprText (ratS p q)).length ≤ 100 ∧ PyData.strOk (ratS p q) = true ∧ ratS p q = nS p ++ ":" ++ nS q ∧ (nS p).length + (":" : Str).length ≤ 20 ∧ (nS p ++ ":").length + (nS q).length ≤ 20 := by decide +kernel
theorem tell_ok {q sz : Nat} (hq : q ≤ 10) (hsz : sz ≤ 64) {c : Cod} (h : Wf q sz c) {s : Str} (hs : (reprText s).length ≤ 100) {l : List Nat} (hl : Sg l) (hll : l.length ≤ 10) : dRepr [tellD s l c] = some (.im (.str (PyData.shown (tellP s l c)))) := by
  have hf := h.few
  have h1 := reprT_le l hl
  have h2 := int_le c.length (by omega)
  have h3 := code_shown hq hsz c h
  have h5 := code_showable c h
  have h4 : (PyData.shown (tellP s l c)).length ≤ 2 + 4 * (200100 + 2) := by
    have := shown_list_le (fun x : PyData => x) 200100 [.str s, .str (Tx l), codeP c, .int (c.length : Int)] (by
      intro x hx
      simp only [List.mem_cons, List.not_mem_nil, or_false] at hx
      rcases hx with rfl | rfl | rfl | rfl
      · simp only [PyData.shown]; omega
      · simp only [PyData.shown]; omega
      · exact h3
      · simp only [PyData.shown]; omega)
    simpa [tellP] using this
  have hz := sizeLine_eq
  have ok : okShow (tellP s l c) := by
    refine ⟨?_, ?_, by omega⟩
    · simp [tellP, PyData.showable, PyData.showableAll, h5, h2.2]
    · have := code_dep c
      simp only [tellP, PyData.depth, PyData.depthAll]; omega
  unfold dRepr
  simp only [toP_tell]
  rw [if_pos ok]
theorem fp_int (n : Nat) (h : n < 20) : fPart (.int (n : Int)) = some (nS n) := by
  have h2 := (int_le n h).2
  show (if (n : Int).natAbs.log2 < 1920 then some (nS n) else none) = _
  rw [if_pos (by simpa using h2)]
theorem strI (n : Nat) (h : n < 20) : dStrI [.int (n : Int)] = some (.im (.str (nS n))) := by
  have h2 := (int_le n h).2
  show (if (n : Int).natAbs.log2 < 1920 then some (Rz.im (.str (nS n))) else none) = _
  rw [if_pos (by simpa using h2)]
end LW
set_option Elab.async false
set_option linter.all false
set_option maxRecDepth 100000
set_option maxHeartbeats 1000000
namespace LW
open PySem L2 BR
theorem made_ok (K : PySem.W.Frag) (p q sz : Nat) (hsz : 2 ^ p = sz) (hp0 : 1 ≤ p) (hp : p ≤ 2) (hq0 : 1 ≤ q) (hq : q ≤ 4) (c : Cod) (h : Wf q sz c) (l : List Nat) (hl : Sg l) (hll : l.length ≤ 10) :
    F__law_made K [paceD p q, codeD c, .str (Tx l)] = .ok (coderD K p q (renum c) l, []) := by
  have e1 := rate_init K p q hp0 (by omega) hq0 (by omega)
  have e2 := coder_init K p q sz hsz c l (by omega) (by omega) h hl (by omega)
  simp [F__law_made, B__law_made, at0, at1, e1, e2]
theorem rate_str (K : PySem.W.Frag) (p q : Nat) (hp : p < 8) (hq : q < 8) : F_Rate___str__ K [rateD K p q] = .ok (.str (ratS p q), []) := by
  obtain ⟨h1, h2, h3, _⟩ := rat_facts p hp q hq
  have i1 := fp_int p (by omega)
  have i2 := fp_int q (by omega)
  have hs := sl
  have g1 : (Str.empty ++ nS p).length ≤ sizeLine := by omega
  have g2 : (Str.empty ++ nS p ++ ":").length ≤ sizeLine := by omega
  have g3 : (ratS p q).length ≤ sizeLine := by omega
  simp [F_Rate___str__, B_Rate___str__, fr_bits, fr_signs, -fldD, -fPart, i1, i2, g1, g2, g3]
theorem coder_len (K : PySem.W.Frag) (p q : Nat) (c : Cod) (l : List Nat) : F_Coder___len__ K [coderD K p q c l] = .ok (iD c.length, []) := by
  simp [F_Coder___len__, B_Coder___len__, fc_codes, -fldD]
theorem hf_codes : hasF ["own_rate", "own_lead", "own_codes"] "codes" = false := by decide
theorem hf_end : hasF ["own_rate", "own_lead", "own_codes"] "end" = false := by decide
theorem hf_ws : hasF ["own_rate", "own_lead", "own_codes"] "want_state" = false := by decide
theorem told_ok (K : PySem.W.Frag) (p q : Nat) (hp : p < 8) (hq : q < 8) (c : Cod) (hc : c.length ≤ 1000) (l : List Nat) : F__law_told K [coderD K p q c l] = .ok (tellD (ratS p q) l c, []) := by
  have e1 := rate_str K p q hp hq
  have e2 := coder_len K p q c l
  have e3 := coder_codes K p q c l (by omega)
  have e4 := coder_rate K p q c l
  have e5 := coder_lead K p q c l
  have hs := sl
  have h4 : 4 ≤ sizeLine := by omega
  have h5 : 0 ≤ (c.length : Int) ∧ (c.length : Int) ≤ 1000000 := by omega
  simp [F__law_told, B__law_told, e1, e2, e3, e4, e5, h4, h5, hf_codes, -hasF]
theorem rate_eq (K : PySem.W.Frag) (p q p' q' : Nat) : F_Rate___eq__ K [rateD K p q, rateD K p' q'] = .ok (.bl (decide (p = p' ∧ q = q')), []) := by
  have d1 : dEq (.int (p : Int)) (.int (p' : Int)) = some (.im (.bl (decide (p = p')))) := by
    have : ((p : Int) = (p' : Int)) ↔ p = p' := by omega
    simp [dEq, eqD, this]
  have d2 : dEq (.int (q : Int)) (.int (q' : Int)) = some (.im (.bl (decide (q = q')))) := by
    have : ((q : Int) = (q' : Int)) ↔ q = q' := by omega
    simp [dEq, eqD, this]
  by_cases h1 : p = p'
  · subst h1
    rw [decide_eq_true rfl] at d1
    simp [F_Rate___eq__, B_Rate___eq__, dIsi, insIn, isIns, clsDs, fr_bits, fr_signs, -fldD, d1, d2]
  · rw [decide_eq_false h1] at d1
    simp [F_Rate___eq__, B_Rate___eq__, dIsi, insIn, isIns, clsDs, fr_bits, fr_signs, -fldD, d1, d2, h1]
theorem coder_eq (K : PySem.W.Frag) (p q p' q' : Nat) (c c' : Cod) (h : ∀ r ∈ c, ∀ e ∈ r, Sg e.1) (h' : ∀ r ∈ c', ∀ e ∈ r, Sg e.1) (l l' : List Nat) :
    F_Coder___eq__ K [coderD K p q c l, coderD K p' q' c' l'] = .ok (.bl (decide (l = l' ∧ (p = p' ∧ q = q') ∧ c = c')), []) := by
  have d1 : dNe (.str (Tx l)) (.str (Tx l')) = some (.im (.bl (!decide (l = l')))) := by simp [dNe, eqD]
  have d2 := rate_eq K p q p' q'
  have d3 : dEq (codeD c) (codeD c') = some (.im (.bl (decide (c = c')))) := by simp only [dEq, eqD_code c c' h h', Option.map_some]
  by_cases h1 : l = l'
  · subst h1
    rw [decide_eq_true rfl] at d1
    by_cases h2 : p = p' ∧ q = q'
    · rw [decide_eq_true h2] at d2
      obtain ⟨rfl, rfl⟩ := h2
      simp [F_Coder___eq__, B_Coder___eq__, dIsi, insIn, isIns, clsDs, fc_rate, fc_lead, fc_codes, okR, -fldD, d1, d2, d3]
    · rw [decide_eq_false h2] at d2
      simp [F_Coder___eq__, B_Coder___eq__, dIsi, insIn, isIns, clsDs, fc_rate, fc_lead, fc_codes, okR, -fldD, d1, d2, d3, h2]
  · rw [decide_eq_false h1] at d1
    simp [F_Coder___eq__, B_Coder___eq__, dIsi, insIn, isIns, clsDs, fc_rate, fc_lead, fc_codes, okR, -fldD, d1, d2, d3, h1]
/-- another kind of thing is not equal -/
theorem coder_no (K : PySem.W.Frag) (p q : Nat) (c : Cod) (l : List Nat) (d : D) (h1 : insIn [He.ga K "Coder", He.ga K "Rate"] d = true) (h2 : isIns (He.ga K "Coder") d = false) : F_Coder___eq__ K [coderD K p q c l, d] = .ok (.bl false, []) := by
  simp [F_Coder___eq__, B_Coder___eq__, dIsi, h1, h2, clsDs]
theorem coder_repr (K : PySem.W.Frag) (p q : Nat) (hp : p < 8) (hq : q < 8) (c : Cod) (hc : c.length < 20) (l : List Nat) : ∃ s : Str, F_Coder___repr__ K [coderD K p q c l] = .ok (.str s, []) := by
  have e1 := rate_str K p q hp hq
  obtain ⟨_, _, h3, _⟩ := rat_facts p hp q hq
  obtain ⟨i0, _⟩ := int_le c.length hc
  have i1 := fp_int c.length hc
  replace i0 : (nS c.length).length ≤ 3 := i0
  have hs := sl
  have k0 : ("Coder(" : Str).length = 6 := by decide
  have k1 : (", " : Str).length = 2 := by decide
  have k2 : (")" : Str).length = 1 := by decide
  have k3 : Str.empty.length = 0 := by decide
  have g1 : (Str.empty ++ "Coder(").length ≤ sizeLine := by rw [strLen_append]; omega
  have g2 : (Str.empty ++ "Coder(" ++ ratS p q).length ≤ sizeLine := by rw [strLen_append, strLen_append]; omega
  have g3 : (Str.empty ++ "Coder(" ++ ratS p q ++ ", ").length ≤ sizeLine := by rw [strLen_append, strLen_append, strLen_append]; omega
  have g4 : (Str.empty ++ "Coder(" ++ ratS p q ++ ", " ++ nS c.length).length ≤ sizeLine := by rw [strLen_append, strLen_append, strLen_append, strLen_append]; omega
  have g5 : (Str.empty ++ "Coder(" ++ ratS p q ++ ", " ++ nS c.length ++ ")").length ≤ sizeLine := by rw [strLen_append, strLen_append, strLen_append, strLen_append, strLen_append]; omega
  refine ⟨Str.empty ++ "Coder(" ++ ratS p q ++ ", " ++ nS c.length ++ ")", ?_⟩
  simp [F_Coder___repr__, B_Coder___repr__, fc_rate, fc_codes, -fldD, -fPart, e1, i1, g1, g2, g3, g4, g5]
end LW
set_option Elab.async false
set_option linter.all false
set_option maxRecDepth 100000
set_option maxHeartbeats 1000000
namespace LW
open PySem L2 BR
/-! ### texts coded -/
theorem atI_last {α : Type} (ds : List α) (x : α) : atI (ds ++ [x]) (-1) = some x := by
  have : ixN (ds.length + 1) (-1) = some ds.length := by
    unfold ixN
    simp
    omega
  unfold atI
  simp [this]
theorem word_of_ok (K : PySem.W.Frag) (p q w : Nat) (hp : p ≤ 6) (hw : w < 2 ^ p) : F_is_word_of K [rateD K p q, iD w] = .ok (.bl true, []) := by
  have e1 := is_count_ok K w
  have e2 := rate_size K p q hp
  generalize 2 ^ p = sz at hw e2
  simp [F_is_word_of, B_is_word_of, e1, e2, hw]
theorem want_text_ok (K : PySem.W.Frag) (p q : Nat) (hp : p ≤ 6) (ws : List Nat) (hl : ws.length ≤ 200) (hw : ∀ w ∈ ws, w < 2 ^ p) : F_want_text K [rateD K p q, .lst (ws.map iD)] = .ok (.non, []) := by
  have e0 := is_list_ok K (ws.map iD)
  have hz : ¬ (200 < (ws.length : Int)) := by omega
  have e := sForL_keep (g := gTupF 2 (gsCons (gVar 2) (gsCons (gVar 3) (gsNil)))) (b := sIf (tNotF (tstV (eCall false (F_is_word_of K) (mSh (eVar 0) (mSh (eVar 3) (mNil)))))) (sNo) (sNil)) (fun z : Nat × Nat => .tup [.int (z.1 : Int), iD z.2])
    (fun ρ => ∃ x y, shN x ∧ shN y ∧ ρ = [some (.sh (rateD K p q)), some (.sh (.lst (ws.map iD))), x, y]) ((List.range ws.length).zip ws) [some (.sh (rateD K p q)), some (.sh (.lst (ws.map iD))), none, none] (by
      rintro z ρ hz ⟨x, y, hx, hy, rfl⟩
      have hzw : z.2 ∈ ws := (List.of_mem_zip hz).2
      have ew := word_of_ok K p q z.2 hp (hw _ hzw)
      refine ⟨_, ?_, some (.sh (.int (z.1 : Int))), some (.sh (iD z.2)), shN_sh _, shN_sh _, rfl⟩
      rcases hx with rfl | ⟨_, rfl⟩ <;> rcases hy with rfl | ⟨_, rfl⟩ <;> simp [ew]) ⟨none, none, shN_no, shN_no, rfl⟩
  obtain ⟨ρ', e, x, y, hx, hy, rfl⟩ := e
  have e1 := enums_map iD ws
  rw [← e1] at e
  simp [F_want_text, B_want_text, e0, hz, e]
theorem entries_ok (K : PySem.W.Frag) (p q : Nat) (c : Cod) (sz : Nat) (h : Wf q sz c) (l : List Nat) (s : Nat) (hs : s < c.length) (ws : List Nat) (hl : ws.length ≤ 200) (hw : ∀ w ∈ ws, w < sz) : ∃ es : List (List Nat × Nat),
    F_entries_along K [coderD K p q c l, iD s, .lst (ws.map iD)] = .ok (.lst (es.map eD), []) ∧ es.length = ws.length ∧ ∀ e ∈ es, WfE q c.length e := by
  have hsl := sl
  have e := sForL_relP (g := gVar 5) (b := sSeq (sDrop (eAppend 3 (eOp2 dIx (eOp2 dIx (eFld (He.ga K "Coder") "own_codes" (eVar 0)) (eVar 4)) (eVar 5)))) (sAsg 4 (eOp2 dIx (eOp2 dIx (eVar 3) (eOp1 dNeg (eK (.int 1)))) (eK (.int 1))))) iD
    (fun pp ρ => ∃ (es : List (List Nat × Nat)) (n : Nat) (x : Option Sl), shN x ∧ ρ = [some (.sh (coderD K p q c l)), some (.sh (iD s)), some (.sh (.lst (ws.map iD))), some (.own (.lst (es.map eD))), some (.sh (iD n)), x] ∧ es.length = pp.length ∧ (∀ e ∈ es, WfE q c.length e) ∧ n < c.length) ws [] [some (.sh (coderD K p q c l)), some (.sh (iD s)), some (.sh (.lst (ws.map iD))), some (.own (.lst [])), some (.sh (iD s)), none] (by
      rintro pp w post ρ hpp ⟨es, n, x, hx, rfl, hel, hes, hn⟩
      rw [List.nil_append] at hpp
      have hwm : w ∈ ws := by rw [hpp]; simp
      have hpl : pp.length ≤ 200 := by have := congrArg List.length hpp; simp at this; omega
      have hrow := h.row _ (List.getElem_mem hn)
      have hwz : w < c[n].length := by rw [hrow]; exact hw w hwm
      have a1 : atI (c.map rowD) (n : Int) = some (rowD c[n]) := atI_m rowD c n hn
      have a2 : atI (c[n].map eD) (w : Int) = some (eD c[n][w]) := atI_m eD c[n] w hwz
      have a3 := atI_last (es.map eD) (eD c[n][w])
      have wf := h.ent _ (List.getElem_mem hn) _ (List.getElem_mem hwz)
      have hlt : es.length < sizeLine := by omega
      refine ⟨[some (.sh (coderD K p q c l)), some (.sh (iD s)), some (.sh (.lst (ws.map iD))), some (.own (.lst ((es ++ [c[n][w]]).map eD))), some (.sh (iD c[n][w].2)), some (.sh (iD w))], ?_, es ++ [c[n][w]], c[n][w].2, some (.sh (iD w)), shN_sh _, rfl, by simp [hel], ?_, wf.lt⟩
      · rcases hx with rfl | ⟨_, rfl⟩ <;> simp [fc_codes, -fldD, a1, a2, a3, at1, hlt]
      · intro e' he'
        rcases List.mem_append.mp he' with z | z
        · exact hes e' z
        · simp at z; subst z; exact wf) ⟨[], s, none, shN_no, rfl, rfl, by simp, hs⟩
  obtain ⟨ρ', e, es, n, x, hx, rfl, hel, hes, hn⟩ := e
  refine ⟨es, ?_, by simpa using hel, hes⟩
  simp [F_entries_along, B_entries_along, e]
theorem row_sg (es : List (List Nat × Nat)) (h : ∀ e ∈ es, Sg e.1) : Sg (es.map (·.1)).flatten := by
  intro c hc
  obtain ⟨x, hx, hcx⟩ := List.mem_flatten.mp hc
  obtain ⟨e, he, rfl⟩ := List.mem_map.mp hx
  exact h e he c hcx
theorem row_len {q n : Nat} (es : List (List Nat × Nat)) (h : ∀ e ∈ es, WfE q n e) : (es.map (·.1)).flatten.length = es.length * q := by
  induction es with
  | nil => simp
  | cons e es ih =>
    rw [List.map_cons, List.flatten_cons, List.length_append, ih fun x hx => h x (by simp [hx]), (h e (by simp)).len, List.length_cons, Nat.add_mul]
    omega
theorem strsD_rows : ∀ xs : List (List Nat), strsD (xs.map fun x => D.str (Tx x)) = some (xs.map Tx)
  | [] => rfl
  | x :: xs => by simp [strsD, strsD_rows xs]
theorem join_rows (xs : List (List Nat)) (h : xs.flatten.length ≤ 1000000) : dJoin (Tx []) (.lst (xs.map fun x => D.str (Tx x))) = some (.im (.str (Tx xs.flatten))) := by
  unfold dJoin
  simp only [strsD_rows, Option.bind_some]
  rw [T_join, if_pos]
  have e : (List.map (fun x : Str => x.length) (xs.map Tx)).sum = xs.flatten.length := by
    clear h
    induction xs with
    | nil => rfl
    | cons x xs ih => simp only [List.map_cons, List.sum_cons, ih, List.flatten_cons, List.length_append, T_len]
  have e2 : (Tx []).length = 0 := rfl
  rw [e, e2, Nat.mul_zero]
  omega
theorem call_ok (K : PySem.W.Frag) (p q : Nat) (hp : p ≤ 6) (hq : q ≤ 10) (c : Cod) (sz : Nat) (hsz : 2 ^ p = sz) (h : Wf q sz c) (l : List Nat) (hll : l.length ≤ 1000) (ws : List Nat) (hl : ws.length ≤ 200) (hw : ∀ w ∈ ws, w < sz) : ∃ t : Str,
    F_Coder___call__ K [coderD K p q c l, .lst (ws.map iD)] = .ok (.str t, []) := by
  have hs := sl
  obtain ⟨es, e1, hel, hes⟩ := entries_ok K p q c sz h l 0 h.pos ws hl hw
  have e2 := want_text_ok K p q hp ws hl (by rw [hsz]; exact hw)
  have e3 : F_blocks_of K [coderD K p q c l, .int 0, .lst (ws.map iD)] = .ok (.lst ((es.map (·.1)).map fun x => D.str (Tx x)), []) := by
    replace e1 : F_entries_along K [coderD K p q c l, .int 0, .lst (ws.map iD)] = _ := e1
    have e4 := lcL_map (vs := [3, 4]) (g := spG 3 4) (p := pYes) (fe := eVar 3) eD (fun e => .str (Tx e.1)) [some (.sh (coderD K p q c l)), some (.sh (.int 0)), some (.sh (.lst (ws.map iD))), none, none] es (by
      intro e he
      simp) (by omega)
    simp [F_blocks_of, B_blocks_of, e1, e4]
  have e5 := row_len es hes
  have e8 : es.length * q ≤ 200 * 10 := Nat.mul_le_mul (by omega) hq
  have e6 := join_rows (es.map (·.1)) (by rw [e5]; omega)
  have e0 : ("" : Str) = Tx [] := rfl
  have e7 := add_T l (es.map (·.1)).flatten (by rw [e5]; omega)
  have e9 : F_row_of K [coderD K p q c l, .lst (ws.map iD)] = .ok (.str (Tx (l ++ (es.map (·.1)).flatten)), []) := by
    generalize (es.map (·.1)) = bs at e3 e6 e7
    simp [F_row_of, B_row_of, fc_lead, -fldD, -dAdd, e0, e3, e6, e7, -List.map_map]
  generalize l ++ (es.map (·.1)).flatten = tt at e9
  refine ⟨Tx tt, ?_⟩
  simp [F_Coder___call__, B_Coder___call__, fc_rate, -fldD, e2, e9]
theorem end_ok (K : PySem.W.Frag) (p q : Nat) (hp : p ≤ 6) (c : Cod) (sz : Nat) (hsz : 2 ^ p = sz) (h : Wf q sz c) (l : List Nat) (ws : List Nat) (hl : ws.length ≤ 200) (hw : ∀ w ∈ ws, w < sz) : ∃ n : Nat,
    F_Coder_end K [coderD K p q c l, .lst (ws.map iD), .int 0] = .ok (iD n, []) := by
  have hs := sl
  obtain ⟨es, e1, hel, hes⟩ := entries_ok K p q c sz h l 0 h.pos ws hl hw
  replace e1 : F_entries_along K [coderD K p q c l, .int 0, .lst (ws.map iD)] = _ := e1
  have e2 := want_text_ok K p q hp ws hl (by rw [hsz]; exact hw)
  have e3 : F_Coder_want_state K [coderD K p q c l, .int 0] = .ok (.non, []) := by
    have := is_count_ok K 0
    replace this : F_is_count K [.int 0] = _ := this
    have hpos := h.pos
    have hz : ¬ (c = []) := fun z => by rw [z] at hpos; cases hpos
    simp [F_Coder_want_state, B_Coder_want_state, fc_codes, -fldD, this, hz]
  have hne := ne_row es fun e he => (hes e he).sub
  by_cases hem : es = []
  · subst hem
    refine ⟨0, ?_⟩
    simp only [decide_true, Bool.not_true, rowD, List.map_nil] at hne e1
    have e4 : F_end_of K [coderD K p q c l, .int 0, .lst (ws.map iD)] = .ok (.int 0, []) := by
      simp [F_end_of, B_end_of, e1, hne]
    simp [F_Coder_end, B_Coder_end, fc_rate, -fldD, e2, e3, e4, hf_ws, -hasF]
  · obtain ⟨e, es', hee⟩ : ∃ e es', es = es' ++ [e] := ⟨_, _, (List.dropLast_concat_getLast hem).symm⟩
    subst hee
    rw [decide_eq_false hem] at hne
    have a := atI_last (es'.map eD) (eD e)
    refine ⟨e.2, ?_⟩
    simp only [rowD, List.map_append, List.map_cons, List.map_nil] at e1 hne
    have e4 : F_end_of K [coderD K p q c l, .int 0, .lst (ws.map iD)] = .ok (iD e.2, []) := by
      simp [F_end_of, B_end_of, e1, hne, a, at1]
    simp [F_Coder_end, B_Coder_end, fc_rate, -fldD, e2, e3, e4, hf_ws, -hasF]
end LW
set_option Elab.async false
set_option linter.all false
set_option maxRecDepth 100000
set_option maxHeartbeats 1000000
namespace LW
open PySem L2 BR
def blP (b : Bool) : PyData := .list [.bool b, .bool b, .bool !b, .bool !b]
theorem bl_repr (b : Bool) : dRepr [.lst [.bl b, .bl b, .bl !b, .bl !b]] = some (.im (.str (PyData.shown (blP b)))) := by
  have h1 : toP (.lst [.bl b, .bl b, .bl !b, .bl !b]) = some (blP b) := by simp [toP, toPL, blP]
  have hz := sizeLine_eq
  have h2 : (PyData.shown (blP b)).length ≤ 100 := by cases b <;> decide +kernel
  have ok : okShow (blP b) := ⟨by cases b <;> decide +kernel, by cases b <;> decide +kernel, by omega⟩
  unfold dRepr
  simp only [h1]
  rw [if_pos ok]
theorem ne_str (s : Str) : dNe (.str s) (.str s) = some (.im (.bl false)) := by simp [dNe, eqD]
theorem eq_str (s : Str) : dEq (.str s) (.str s) = some (.im (.bl true)) := by simp [dEq, eqD]
theorem eq_int (s : Int) : dEq (.int s) (.int s) = some (.im (.bl true)) := by simp [dEq, eqD]
theorem beside_ok (K : PySem.W.Frag) (p q sz : Nat) (hsz : 2 ^ p = sz) (hp : p ≤ 2) (hq : q ≤ 4) (c c' : Cod) (h : Wf q sz c) (h' : Wf q sz c') (l l' : List Nat) (hl : Sg l) (hl' : Sg l') (hll : l.length ≤ 10) (hll' : l'.length ≤ 10) (a b : Int) : ∃ a' b' : Int,
    F__law_beside_right K [pot a b, coderD K p q c l, coderD K p q c' l', paceD p q] = .ok (.bl true, [pot a' b']) := by
  have hs := sl
  have hf := h.few
  have hf' := h'.few
  obtain ⟨_, _, _, _, r1, _⟩ := rat_facts p (by omega) q (by omega)
  have t1 := told_ok K p q (by omega) (by omega) c (by omega) l
  have t2 := told_ok K p q (by omega) (by omega) c' (by omega) l'
  have d1 : dEq (tellD (ratS p q) l c) (tellD (ratS p q) l' c') = some (.im (.bl (decide (l = l' ∧ c = c')))) := by
    simp only [dEq, eqD_tell r1 hl hl' (wf_sg h) (wf_sg h'), Option.map_some]
  have e1 : F_Coder___eq__ K [coderD K p q c l, coderD K p q c' l'] = .ok (.bl (decide (l = l' ∧ c = c')), []) := by
    rw [coder_eq K p q p q c c' (wf_sg h) (wf_sg h') l l']
    simp
  have e2 : F_Coder___eq__ K [coderD K p q c' l', coderD K p q c l] = .ok (.bl (decide (l = l' ∧ c = c')), []) := by
    rw [coder_eq K p q p q c' c (wf_sg h') (wf_sg h) l' l]
    simp only [and_self, true_and]
    have : (l' = l ∧ c' = c) ↔ (l = l' ∧ c = c') := ⟨fun ⟨x, y⟩ => ⟨x.symm, y.symm⟩, fun ⟨x, y⟩ => ⟨x.symm, y.symm⟩⟩
    simp only [this]
  obtain ⟨ws, a', b', ew, hwl, hw⟩ := words_ok K p q (by omega) 5 (by omega) a b
  replace ew : F__law_words K [pot a b, paceD p q, .int 5] = .ok (.lst (ws.map iD), [pot a' b']) := ew
  rw [hsz] at hw
  have h4 : 4 ≤ sizeLine := by omega
  refine ⟨a', b', ?_⟩
  generalize hdue : decide (l = l' ∧ c = c') = due at d1 e1 e2
  have hb := bl_repr due
  have hn := ne_str (PyData.shown (blP due))
  cases due with
  | false =>
    simp only [Bool.not_false] at hb
    simp [F__law_beside_right, B__law_beside_right, t1, t2, d1, e1, e2, h4, okR, hb, hn, ew]
  | true =>
    obtain ⟨rfl, rfl⟩ := of_decide_eq_true hdue
    simp only [Bool.not_true] at hb
    obtain ⟨t, c1⟩ := call_ok K p q (by omega) (by omega) c sz hsz h l (by omega) ws (by omega) hw
    obtain ⟨n, c2⟩ := end_ok K p q (by omega) c sz hsz h l ws (by omega) hw
    have k1 := eq_str t
    have k2 := eq_int (n : Int)
    generalize tellD (ratS p q) l c = tl at t1 d1
    simp [F__law_beside_right, B__law_beside_right, t1, d1, e1, h4, okR, hb, hn, ew, c1, c2, k1, k2, hf_end, -hasF]
end LW
set_option Elab.async false
set_option linter.all false
set_option maxRecDepth 100000
set_option maxHeartbeats 2000000
namespace LW
open PySem L2 BR
noncomputable abbrev rt1 (K : PySem.W.Frag) : SF := sAsg 1 (eTup (aCons (eV (eOp2 dAdd (eK (.int 1)) (eCall false (F__law_draw K) (mIo (eVar 0) (mSh (eK (.int 2)) (mNil)))))) (aCons (eV (eOp2 dAdd (eK (.int 1)) (eCall false (F__law_draw K) (mIo (eVar 0) (mSh (eK (.int 3)) (mNil)))))) (aNil))))
noncomputable abbrev rt2 (K : PySem.W.Frag) : SF := sPar [2, 3] (pCons (eCall false (F__law_loose_codes K) (mIo (eVar 0) (mSh (eVar 1) (mSh (eK (.int 5)) (mSh (eK (.str "abcd")) (mNil)))))) (pCons (eCall false (F__law_pick K) (mIo (eVar 0) (mSh (eLst (aCons (eV (eK (.str ""))) (aCons (eV (eK (.str "a"))) (aCons (eV (eK (.str "dab"))) (aNil))))) (mNil)))) (pNil)))
noncomputable abbrev rt3 (K : PySem.W.Frag) : SF := sPar [4, 5] (pCons (eCall false (F__law_made K) (mSh (eVar 1) (mSh (eVar 2) (mSh (eVar 3) (mNil))))) (pCons (eCall false (F__law_kept K) (mSh (eVar 2) (mNil))) (pNil)))
noncomputable abbrev rt4 (K : PySem.W.Frag) : SF := sAsg 6 (eCB dRepr (hCons (eCall false (F__law_told K) (mSh (eVar 4) (mNil))) (hNil)))
noncomputable abbrev rt5 (K : PySem.W.Frag) : SF := sIf (tstV (eOp2 dNe (eVar 6) (eCB dRepr (hCons (eLst (aCons (eV (eOp2 dAdd (eOp2 dAdd (eCB dStrI (hCons (eOp2 dIx (eVar 1) (eK (.int 0))) (hNil))) (eK (.str ":"))) (eCB dStrI (hCons (eOp2 dIx (eVar 1) (eK (.int 1))) (hNil))))) (aCons (eV (eVar 3)) (aCons (eV (eVar 5)) (aCons (eV (eCB dLen (hCons (eVar 5) (hNil)))) (aNil)))))) (hNil))))) (sRet (eK (.bl false))) (sNil)
noncomputable abbrev rt6 (K : PySem.W.Frag) : SF := sAsg 7 (eCall false (F__law_wider K) (mIo (eVar 0) (mSh (eVar 1) (mSh (eVar 2) (mNil)))))
noncomputable abbrev rt7 (K : PySem.W.Frag) : SF := sFor (itSeq (eLst (aCons (eV (eCall false (F__law_turned K) (mIo (eVar 0) (mSh (eVar 2) (mNil))))) (aCons (eV (eVar 7)) (aCons (eV (eCall false (F__law_turned K) (mIo (eVar 0) (mSh (eVar 7) (mNil))))) (aNil)))))) (gVar 8) (sSeq (sAsg 9 (eCall false (F__law_made K) (mSh (eVar 1) (mSh (eVar 8) (mSh (eVar 3) (mNil)))))) (sIf (tOrF (tstV (eOp2 dNe (eCB dRepr (hCons (eCall false (F__law_told K) (mSh (eVar 9) (mNil))) (hNil))) (eVar 6))) (tOrF (tNotF (tstV (eEqO (He.ga K "Coder") [He.ga K "Coder", He.ga K "Rate"] (F_Coder___eq__ K) id (eVar 4) (eVar 9)))) (tstV (eEqO (He.ga K "Coder") [He.ga K "Coder", He.ga K "Rate"] (F_Coder___eq__ K) (fun b => !b) (eVar 4) (eVar 9))))) (sRet (eK (.bl false))) (sNil)))
noncomputable abbrev rt8 (K : PySem.W.Frag) : SF := sIf (tOrF (tNotF (tstV (eEqO (He.ga K "Coder") [He.ga K "Coder", He.ga K "Rate"] (F_Coder___eq__ K) id (eVar 4) (eCall false (F__law_made K) (mSh (eVar 1) (mSh (eVar 5) (mSh (eVar 3) (mNil)))))))) (tNotF (tstV (eEqO (He.ga K "Coder") [He.ga K "Coder", He.ga K "Rate"] (F_Coder___eq__ K) id (eVar 4) (eCall false (F__law_made K) (mSh (eVar 1) (mSh (eMeth (He.ga K "Coder") "codes" false (F_Coder_codes K) [] (eVar 4) aNil) (mSh (eProp (He.ga K "Coder") false (F_Coder_lead K) (eVar 4)) (mNil))))))))) (sRet (eK (.bl false))) (sNil)
noncomputable abbrev rt9 (K : PySem.W.Frag) : SF := sFor (itSeq (eLst (aCons (eV (eCall false (F__law_other K) (mIo (eVar 0) (mSh (eVar 2) (mNil))))) (aCons (eV (eCall false (F__law_other K) (mIo (eVar 0) (mSh (eVar 2) (mNil))))) (aCons (eV (eCall false (F__law_doubled K) (mIo (eVar 0) (mSh (eVar 2) (mNil))))) (aNil)))))) (gVar 8) (sSeq (sAsg 10 (eCall false (F__law_made K) (mSh (eVar 1) (mSh (eVar 8) (mSh (eVar 3) (mNil)))))) (sIf (tOrF (tstV (eOp2 dNe (eMeth (He.ga K "Coder") "codes" false (F_Coder_codes K) [] (eVar 10) aNil) (eCall false (F__law_kept K) (mSh (eVar 8) (mNil))))) (tNotF (tstV (eCall false (F__law_beside_right K) (mIo (eVar 0) (mSh (eVar 4) (mSh (eVar 10) (mSh (eVar 1) (mNil))))))))) (sRet (eK (.bl false))) (sNil)))
noncomputable abbrev rt10 (K : PySem.W.Frag) : SF := sIf (tNotF (tstV (eCall false (F__law_beside_right K) (mIo (eVar 0) (mSh (eVar 4) (mSh (eCall false (F__law_made K) (mSh (eVar 1) (mSh (eVar 2) (mSh (eOp2 dAdd (eVar 3) (eK (.str "a"))) (mNil))))) (mSh (eVar 1) (mNil)))))))) (sRet (eK (.bl false))) (sNil)
noncomputable abbrev rt11 (K : PySem.W.Frag) : SF := sAsg 11 (eLc [12] (itSeq (eVar 2)) (gVar 12) pYes (eLc [13, 14] (itSeq (eVar 12)) (gTupF 2 (gsCons (gVar 13) (gsCons (gVar 14) (gsNil)))) pYes (eTup (aCons (eV (eOp2 dAdd (eVar 13) (eK (.str "a")))) (aCons (eV (eVar 14)) (aNil))))))
noncomputable abbrev rt12 (K : PySem.W.Frag) : SF := sIf (tstV (eEqO (He.ga K "Coder") [He.ga K "Coder", He.ga K "Rate"] (F_Coder___eq__ K) id (eVar 4) (eMake (He.ga K "Coder") (F_Coder___init__ K) [] (aCons (eV (eMake (He.ga K "Rate") (F_Rate___init__ K) [] (aCons (eV (eOp2 dIx (eVar 1) (eK (.int 0)))) (aCons (eV (eOp2 dAdd (eOp2 dIx (eVar 1) (eK (.int 1))) (eK (.int 1)))) (aNil))))) (aCons (eV (eVar 11)) (aCons (eV (eVar 3)) (aNil))))))) (sRet (eK (.bl false))) (sNil)
noncomputable abbrev rt13 (K : PySem.W.Frag) : SF := sIf (tstV (eCB dAny (hCons (eLc [15] (itSeq (eLst (aCons (eV (eK .non)) (aCons (eV (eK (.int 0))) (aCons (eV (eK (.str ""))) (aCons (eV (eVar 3)) (aCons (eV (eVar 5)) (aCons (eV (eMeth (He.ga K "Coder") "codes" false (F_Coder_codes K) [] (eVar 4) aNil)) (aCons (eV (eTup (aCons (eV (eVar 1)) (aCons (eV (eVar 5)) (aNil))))) (aCons (eV (eProp (He.ga K "Coder") false (F_Coder_rate K) (eVar 4))) (aCons (eV (eSpO (He.ga K "Coder") (F_Coder___repr__ K) poStr (eVar 4))) (aNil)))))))))))) (gVar 15) pYes (eEqO (He.ga K "Coder") [He.ga K "Coder", He.ga K "Rate"] (F_Coder___eq__ K) id (eVar 4) (eVar 15))) (hNil)))) (sRet (eK (.bl false))) (sNil)
noncomputable abbrev rt14 (K : PySem.W.Frag) : SF := sRet (eOp2 dEq (eCB dRepr (hCons (eCall false (F__law_told K) (mSh (eVar 4) (mNil))) (hNil))) (eVar 6))
theorem rt_all (K : PySem.W.Frag) : B__law_right K = sSeq (rt1 K) ( sSeq (rt2 K) ( sSeq (rt3 K) ( sSeq (rt4 K) ( sSeq (rt5 K) ( sSeq (rt6 K) ( sSeq (rt7 K) ( sSeq (rt8 K) ( sSeq (rt9 K) ( sSeq (rt10 K) ( sSeq (rt11 K) ( sSeq (rt12 K) ( sSeq (rt13 K) (rt14 K))))))))))))) := rfl

noncomputable abbrev rl7 (K : PySem.W.Frag) : SF := sSeq (sAsg 9 (eCall false (F__law_made K) (mSh (eVar 1) (mSh (eVar 8) (mSh (eVar 3) (mNil)))))) (sIf (tOrF (tstV (eOp2 dNe (eCB dRepr (hCons (eCall false (F__law_told K) (mSh (eVar 9) (mNil))) (hNil))) (eVar 6))) (tOrF (tNotF (tstV (eEqO (He.ga K "Coder") [He.ga K "Coder", He.ga K "Rate"] (F_Coder___eq__ K) id (eVar 4) (eVar 9)))) (tstV (eEqO (He.ga K "Coder") [He.ga K "Coder", He.ga K "Rate"] (F_Coder___eq__ K) (fun b => !b) (eVar 4) (eVar 9))))) (sRet (eK (.bl false))) (sNil))
noncomputable abbrev rl9 (K : PySem.W.Frag) : SF := sSeq (sAsg 10 (eCall false (F__law_made K) (mSh (eVar 1) (mSh (eVar 8) (mSh (eVar 3) (mNil)))))) (sIf (tOrF (tstV (eOp2 dNe (eMeth (He.ga K "Coder") "codes" false (F_Coder_codes K) [] (eVar 10) aNil) (eCall false (F__law_kept K) (mSh (eVar 8) (mNil))))) (tNotF (tstV (eCall false (F__law_beside_right K) (mIo (eVar 0) (mSh (eVar 4) (mSh (eVar 10) (mSh (eVar 1) (mNil))))))))) (sRet (eK (.bl false))) (sNil))
structure Q52 (p q sz : Nat) (c : Cod) (l : List Nat) : Prop where
  hsz : 2 ^ p = sz
  p0 : 1 ≤ p
  p2 : p ≤ 2
  q0 : 1 ≤ q
  q3 : q ≤ 3
  wf : Wf q sz c
  c5 : c.length ≤ 5
  sg : Sg l
  ll : l.length ≤ 3
theorem Q52.sz64 {p q sz : Nat} {c : Cod} {l : List Nat} (h : Q52 p q sz c l) : sz ≤ 64 := by
  have := Nat.pow_le_pow_right (n := 2) (by decide) h.p2
  have := h.hsz
  omega
theorem Q52.sz0 {p q sz : Nat} {c : Cod} {l : List Nat} (h : Q52 p q sz c l) : 0 < sz := by
  rw [← h.hsz]; exact Nat.pow_pos (by decide)
noncomputable abbrev shw (p q : Nat) (c : Cod) (l : List Nat) : Str := PyData.shown (tellP (ratS p q) l (renum c))
noncomputable abbrev rs (K : PySem.W.Frag) (a b : Int) (p q : Nat) (c : Cod) (l : List Nat) (s7 s8 s9 s10 s11 : Option Sl) : S := [some (.io (pot a b)), some (.sh (paceD p q)), some (.sh (codeD c)), some (.sh (.str (Tx l))), some (.sh (coderD K p q (renum c) l)), some (.sh (codeD (renum c))), some (.sh (.str (shw p q c l))), s7, s8, s9, s10, s11, none, none, none, none]
section
variable (K : PySem.W.Frag) {p q sz : Nat} {c : Cod} {l : List Nat} (h : Q52 p q sz c l)
theorem sFor_step {g : D → S → Option S} {b : SF} {d : D} {ds : List D} {ρ ρ1 ρ2 : S} (h1 : g d ρ = some ρ1) (h2 : b ρ1 = .ok (.nx, ρ2)) : sForL g b (d :: ds) ρ = sForL g b ds ρ2 := by
  simp only [sForL, h1, ofO_some, ok_bind, h2]
theorem a_step1 (a b : Int) : ∃ (p q : Nat) (a' b' : Int), rt1 K [some (.io (pot a b)), none, none, none, none, none, none, none, none, none, none, none, none, none, none, none] = .ok (.nx, [some (.io (pot a' b')), some (.sh (paceD p q)), none, none, none, none, none, none, none, none, none, none, none, none, none, none]) ∧ 1 ≤ p ∧ p ≤ 2 ∧ 1 ≤ q ∧ q ≤ 3 := by
  have hs := sl
  obtain ⟨d1, a1, b1, e1, h1⟩ := draw_n K a b 2 (by omega) (by omega)
  obtain ⟨d2, a2, b2, e2, h2⟩ := draw_n K a1 b1 3 (by omega) (by omega)
  replace e1 : F__law_draw K [pot a b, .int 2] = .ok (iD d1, [pot a1 b1]) := e1
  replace e2 : F__law_draw K [pot a1 b1, .int 3] = .ok (iD d2, [pot a2 b2]) := e2
  have k : 2 ≤ sizeLine := by omega
  refine ⟨1 + d1, 1 + d2, a2, b2, ?_, by omega, by omega, by omega, by omega⟩
  simp [e1, e2, k]
theorem a_step2 (a b : Int) (p q : Nat) (p0 : 1 ≤ p) (p2 : p ≤ 2) (q0 : 1 ≤ q) (q3 : q ≤ 3) : ∃ (c : Cod) (l : List Nat) (a' b' : Int), rt2 K [some (.io (pot a b)), some (.sh (paceD p q)), none, none, none, none, none, none, none, none, none, none, none, none, none, none] = .ok (.nx, [some (.io (pot a' b')), some (.sh (paceD p q)), some (.sh (codeD c)), some (.sh (.str (Tx l))), none, none, none, none, none, none, none, none, none, none, none, none]) ∧ Q52 p q (2 ^ p) c l := by
  have hs := sl
  obtain ⟨c, a1, b1, e1, w, hc⟩ := loose_ok K [97, 98, 99, 100] (by simp) (by simp) (fun x hx => hx) p q 5 (by omega) (by omega) (by omega) (by omega) a b
  replace e1 : F__law_loose_codes K [pot a b, paceD p q, .int 5, .str "abcd"] = .ok (codeD c, [pot a1 b1]) := e1
  obtain ⟨j, d, a2, b2, e2, hd⟩ := pick_lst K a1 b1 [.str "", .str "a", .str "dab"] (by simp) (by simp)
  have k : 3 ≤ sizeLine := by omega
  have hl : ∃ l : List Nat, d = .str (Tx l) ∧ Sg l ∧ l.length ≤ 3 := by
    match j with
    | 0 => cases hd; exact ⟨[], rfl, (by intro x hx; cases hx), by simp⟩
    | 1 => cases hd; exact ⟨[97], rfl, (by intro x hx; simp at hx; subst hx; decide), by simp⟩
    | 2 => cases hd; exact ⟨[100, 97, 98], rfl, (by intro x hx; simp at hx; rcases hx with rfl | rfl | rfl <;> decide), by simp⟩
    | j + 3 => simp at hd
  obtain ⟨l, rfl, hsg, hll⟩ := hl
  refine ⟨c, l, a2, b2, ?_, ⟨rfl, p0, p2, q0, q3, w, hc, hsg, hll⟩⟩
  simp [e1, e2, k]
include h
theorem a_step3 (a b : Int) : rt3 K [some (.io (pot a b)), some (.sh (paceD p q)), some (.sh (codeD c)), some (.sh (.str (Tx l))), none, none, none, none, none, none, none, none, none, none, none, none] = .ok (.nx, [some (.io (pot a b)), some (.sh (paceD p q)), some (.sh (codeD c)), some (.sh (.str (Tx l))), some (.sh (coderD K p q (renum c) l)), some (.sh (codeD (renum c))), none, none, none, none, none, none, none, none, none, none]) := by
  have e1 := made_ok K p q sz h.hsz h.p0 h.p2 h.q0 (by have := h.q3; omega) c h.wf l h.sg (by have := h.ll; omega)
  have e2 := kept_ok K q sz c h.wf (by have := h.sz64; omega)
  simp [e1, e2]
theorem a_tell : dRepr [tellD (ratS p q) l (renum c)] = some (.im (.str (shw p q c l))) := by
  have h1 := h.p2
  have h2 := h.q3
  obtain ⟨_, _, _, r1, _⟩ := rat_facts p (by omega) q (by omega)
  exact tell_ok (by omega) h.sz64 (renum_wf h.wf) r1 h.sg (by have := h.ll; omega)
theorem a_told : F__law_told K [coderD K p q (renum c) l] = .ok (tellD (ratS p q) l (renum c), []) := by
  have h1 := h.p2
  have h2 := h.q3
  have := (renum_wf h.wf).few
  exact told_ok K p q (by omega) (by omega) (renum c) (by omega) l
theorem a_step4 (a b : Int) : rt4 K [some (.io (pot a b)), some (.sh (paceD p q)), some (.sh (codeD c)), some (.sh (.str (Tx l))), some (.sh (coderD K p q (renum c) l)), some (.sh (codeD (renum c))), none, none, none, none, none, none, none, none, none, none] = .ok (.nx, rs K a b p q c l none none none none none) := by
  have e1 := a_told K h
  have e2 := a_tell h
  generalize tellD (ratS p q) l (renum c) = t at e1 e2
  simp [e1, e2]
theorem a_step5 (a b : Int) : rt5 K (rs K a b p q c l none none none none none) = .ok (.nx, rs K a b p q c l none none none none none) := by
  have hs := sl
  have h1 := h.p2
  have h2 := h.q3
  obtain ⟨_, _, _, _, _, r5, r6, r7⟩ := rat_facts p (by omega) q (by omega)
  have e2 := a_tell h
  rw [show tellD (ratS p q) l (renum c) = tellD (nS p ++ ":" ++ nS q) l (renum c) by rw [r5]] at e2
  have i1 := strI p (by omega)
  have i2 := strI q (by omega)
  have d1 : dAdd (.str (nS p)) (.str ":") = some (.im (.str (nS p ++ ":"))) := if_pos (show (nS p).length + (":" : Str).length ≤ sizeLine by omega)
  have d2 : dAdd (.str (nS p ++ ":")) (.str (nS q)) = some (.im (.str (nS p ++ ":" ++ nS q))) := if_pos (show (nS p ++ ":").length + (nS q).length ≤ sizeLine by omega)
  have hn := ne_str (shw p q c l)
  have k : 4 ≤ sizeLine := by omega
  simp [at0, at1, i1, i2, d1, d2, -dAdd, k, e2, hn]
theorem a_step6 (a b : Int) : ∃ (x : Cod) (a' b' : Int), rt6 K (rs K a b p q c l none none none none none) = .ok (.nx, rs K a' b' p q c l (some (.sh (codeD (c ++ x)))) none none none none) ∧ Wf q sz (c ++ x) := by
  have h1 := h.p2
  have h2 := h.q3
  obtain ⟨x, a', b', e, w⟩ := wider_ok K p q (by omega) (by omega) c (by rw [h.hsz]; exact h.wf) h.c5 a b
  rw [h.hsz] at w
  generalize hy : codeD (c ++ x) = y at e
  refine ⟨x, a', b', ?_, w⟩
  rw [hy]
  simp [e]
/-- a coder of the same code -/
theorem a_same (a b : Int) (x : Cod) (wx : Wf q sz x) (hx : renum x = renum c) (s7 s9 : Option Sl) (h9 : shN s9) : rl7 K (rs K a b p q c l s7 (some (.sh (codeD x))) s9 none none) = .ok (.nx, rs K a b p q c l s7 (some (.sh (codeD x))) (some (.sh (coderD K p q (renum c) l))) none none) := by
  have e1 := made_ok K p q sz h.hsz h.p0 h.p2 h.q0 (by have := h.q3; omega) x wx l h.sg (by have := h.ll; omega)
  rw [hx] at e1
  have e2 := a_told K h
  have e3 := a_tell h
  have hn := ne_str (shw p q c l)
  have e4 := coder_eq K p q p q (renum c) (renum c) (wf_sg (renum_wf h.wf)) (wf_sg (renum_wf h.wf)) l l
  simp only [and_self, decide_true] at e4
  generalize tellD (ratS p q) l (renum c) = t at e2 e3
  rcases h9 with rfl | ⟨_, rfl⟩ <;> simp [e1, e2, e3, hn, e4, okR]
end
end LW
set_option Elab.async false
set_option linter.all false
set_option maxRecDepth 100000
set_option maxHeartbeats 2000000
namespace LW
open PySem L2 BR
section
variable (K : PySem.W.Frag) {p q sz : Nat} {c : Cod} {l : List Nat} (h : Q52 p q sz c l)
include h
theorem a_set8 (a b : Int) (d : D) (s7 s8 s9 s10 s11 : Option Sl) (h8 : shN s8) : gVar 8 d (rs K a b p q c l s7 s8 s9 s10 s11) = some (rs K a b p q c l s7 (some (.sh d)) s9 s10 s11) := by
  rcases h8 with rfl | ⟨_, rfl⟩ <;> simp
theorem a_step7 (a b : Int) (x : Cod) (wx : Wf q sz (c ++ x)) : ∃ (a' b' : Int) (y : Cod), rt7 K (rs K a b p q c l (some (.sh (codeD (c ++ x)))) none none none none) = .ok (.nx, rs K a' b' p q c l (some (.sh (codeD (c ++ x)))) (some (.sh (codeD y))) (some (.sh (coderD K p q (renum c) l))) none none) := by
  have hs := sl
  have hz := h.sz64
  obtain ⟨o1, a1, b1, e1, k1⟩ := turned_ok K q sz c h.wf (by omega) a b
  obtain ⟨o2, a2, b2, e2, k2⟩ := turned_ok K q sz (c ++ x) wx (by omega) a1 b1
  have w1 := ren_wf h.wf k1
  have w2 := ren_wf wx k2
  have r1 := renum_inv h.wf k1
  have r2 := renum_inv wx k2
  have r3 := renum_wide h.wf wx
  rw [r3] at r2
  generalize ren c o1 = y1 at e1 w1 r1
  generalize ren (c ++ x) o2 = y2 at e2 w2 r2
  generalize c ++ x = z at e2 wx r3
  have k3 : 3 ≤ sizeLine := by omega
  have s1 := a_same K h a2 b2 y1 w1 r1 (some (.sh (codeD z))) none shN_no
  have s2 := a_same K h a2 b2 z wx r3 (some (.sh (codeD z))) (some (.sh (coderD K p q (renum c) l))) (shN_sh _)
  have s3 := a_same K h a2 b2 y2 w2 r2 (some (.sh (codeD z))) (some (.sh (coderD K p q (renum c) l))) (shN_sh _)
  refine ⟨a2, b2, y2, ?_⟩
  have lp : sForL (gVar 8) (rl7 K) [codeD y1, codeD z, codeD y2] (rs K a2 b2 p q c l (some (.sh (codeD z))) none none none none) = .ok (.nx, rs K a2 b2 p q c l (some (.sh (codeD z))) (some (.sh (codeD y2))) (some (.sh (coderD K p q (renum c) l))) none none) := by
    rw [sFor_step (a_set8 K h a2 b2 _ _ _ _ _ _ shN_no) s1]
    rw [sFor_step (a_set8 K h a2 b2 _ _ _ _ _ _ (shN_sh _)) s2]
    rw [sFor_step (a_set8 K h a2 b2 _ _ _ _ _ _ (shN_sh _)) s3]
    rfl
  generalize codeD z = dz at *
  have it : (itSeq (eLst (aCons (eV (eCall false (F__law_turned K) (mIo (eVar 0) (mSh (eVar 2) (mNil))))) (aCons (eV (eVar 7)) (aCons (eV (eCall false (F__law_turned K) (mIo (eVar 0) (mSh (eVar 7) (mNil))))) (aNil)))))) (rs K a b p q c l (some (.sh dz)) none none none none) = .ok ([codeD y1, dz, codeD y2], rs K a2 b2 p q c l (some (.sh dz)) none none none none) := by
    simp [e1, e2, k3]
  show (itSeq (eLst (aCons (eV (eCall false (F__law_turned K) (mIo (eVar 0) (mSh (eVar 2) (mNil))))) (aCons (eV (eVar 7)) (aCons (eV (eCall false (F__law_turned K) (mIo (eVar 0) (mSh (eVar 7) (mNil))))) (aNil)))))) (rs K a b p q c l (some (.sh dz)) none none none none) >>= (fun z => sForL (gVar 8) (rl7 K) z.1 z.2) = _
  rw [it]
  exact lp
theorem a_step8 (a b : Int) (s7 s8 s9 s10 s11 : Option Sl) : rt8 K (rs K a b p q c l s7 s8 s9 s10 s11) = .ok (.nx, rs K a b p q c l s7 s8 s9 s10 s11) := by
  have e1 := made_ok K p q sz h.hsz h.p0 h.p2 h.q0 (by have := h.q3; omega) (renum c) (renum_wf h.wf) l h.sg (by have := h.ll; omega)
  rw [renum_idem h.wf] at e1
  have e2 := coder_codes K p q (renum c) l (by have := (renum_wf h.wf).few; omega)
  have e3 := coder_lead K p q (renum c) l
  have e4 := coder_eq K p q p q (renum c) (renum c) (wf_sg (renum_wf h.wf)) (wf_sg (renum_wf h.wf)) l l
  simp only [and_self, decide_true] at e4
  simp [e1, e2, e3, e4, okR, hf_codes, -hasF]
theorem a_near (a b : Int) (x : Cod) (wx : Wf q sz x) (s7 s9 s10 : Option Sl) (h10 : shN s10) : ∃ a' b' : Int, rl9 K (rs K a b p q c l s7 (some (.sh (codeD x))) s9 s10 none) = .ok (.nx, rs K a' b' p q c l s7 (some (.sh (codeD x))) s9 (some (.sh (coderD K p q (renum x) l))) none) := by
  have e1 := made_ok K p q sz h.hsz h.p0 h.p2 h.q0 (by have := h.q3; omega) x wx l h.sg (by have := h.ll; omega)
  have e2 := coder_codes K p q (renum x) l (by have := (renum_wf wx).few; omega)
  have e3 := kept_ok K q sz x wx (by have := h.sz64; omega)
  have hn := ne_code (renum x) (wf_sg (renum_wf wx))
  obtain ⟨a', b', e4⟩ := beside_ok K p q sz h.hsz h.p2 (by have := h.q3; omega) (renum c) (renum x) (renum_wf h.wf) (renum_wf wx) l l h.sg h.sg (by have := h.ll; omega) (by have := h.ll; omega) a b
  refine ⟨a', b', ?_⟩
  rcases h10 with rfl | ⟨_, rfl⟩ <;> simp [e1, e2, e3, hn, e4, hf_codes, -hasF]
theorem a_step9 (a b : Int) (s7 s8 s9 : Option Sl) (h8 : shN s8) : ∃ (a' b' : Int) (y z : D), rt9 K (rs K a b p q c l s7 s8 s9 none none) = .ok (.nx, rs K a' b' p q c l s7 (some (.sh y)) s9 (some (.sh z)) none) := by
  have hs := sl
  have hz := h.sz64
  obtain ⟨x1, a1, b1, e1, w1⟩ := other_ok K q sz (by have := h.q0; omega) (by have := h.q3; omega) h.sz0 (by omega) c h.wf a b
  obtain ⟨x2, a2, b2, e2, w2⟩ := other_ok K q sz (by have := h.q0; omega) (by have := h.q3; omega) h.sz0 (by omega) c h.wf a1 b1
  obtain ⟨x3, a3, b3, e3, w3⟩ := doubled_ok K q sz (by omega) c h.wf h.c5 a2 b2
  obtain ⟨a4, b4, s1⟩ := a_near K h a3 b3 x1 w1 s7 s9 none shN_no
  obtain ⟨a5, b5, s2⟩ := a_near K h a4 b4 x2 w2 s7 s9 _ (shN_sh (coderD K p q (renum x1) l))
  obtain ⟨a6, b6, s3⟩ := a_near K h a5 b5 x3 w3 s7 s9 _ (shN_sh (coderD K p q (renum x2) l))
  have k3 : 3 ≤ sizeLine := by omega
  refine ⟨a6, b6, codeD x3, coderD K p q (renum x3) l, ?_⟩
  have lp : sForL (gVar 8) (rl9 K) [codeD x1, codeD x2, codeD x3] (rs K a3 b3 p q c l s7 s8 s9 none none) = .ok (.nx, rs K a6 b6 p q c l s7 (some (.sh (codeD x3))) s9 (some (.sh (coderD K p q (renum x3) l))) none) := by
    rw [sFor_step (a_set8 K h a3 b3 _ _ _ _ _ _ h8) s1]
    rw [sFor_step (a_set8 K h a4 b4 _ _ _ _ _ _ (shN_sh _)) s2]
    rw [sFor_step (a_set8 K h a5 b5 _ _ _ _ _ _ (shN_sh _)) s3]
    rfl
  have it : (itSeq (eLst (aCons (eV (eCall false (F__law_other K) (mIo (eVar 0) (mSh (eVar 2) (mNil))))) (aCons (eV (eCall false (F__law_other K) (mIo (eVar 0) (mSh (eVar 2) (mNil))))) (aCons (eV (eCall false (F__law_doubled K) (mIo (eVar 0) (mSh (eVar 2) (mNil))))) (aNil)))))) (rs K a b p q c l s7 s8 s9 none none) = .ok ([codeD x1, codeD x2, codeD x3], rs K a3 b3 p q c l s7 s8 s9 none none) := by
    generalize codeD x1 = y1 at e1
    generalize codeD x2 = y2 at e2
    generalize codeD x3 = y3 at e3
    simp [e1, e2, e3, k3]
  show (itSeq (eLst (aCons (eV (eCall false (F__law_other K) (mIo (eVar 0) (mSh (eVar 2) (mNil))))) (aCons (eV (eCall false (F__law_other K) (mIo (eVar 0) (mSh (eVar 2) (mNil))))) (aCons (eV (eCall false (F__law_doubled K) (mIo (eVar 0) (mSh (eVar 2) (mNil))))) (aNil)))))) (rs K a b p q c l s7 s8 s9 none none) >>= (fun z => sForL (gVar 8) (rl9 K) z.1 z.2) = _
  rw [it]
  exact lp
theorem a_step10 (a b : Int) (s7 s8 s9 s10 s11 : Option Sl) : ∃ a' b' : Int, rt10 K (rs K a b p q c l s7 s8 s9 s10 s11) = .ok (.nx, rs K a' b' p q c l s7 s8 s9 s10 s11) := by
  have hll := h.ll
  have hs := sl
  have sg2 : Sg (l ++ [97]) := by
    intro x hx
    rcases List.mem_append.mp hx with z | z
    · exact h.sg x z
    · simp at z; subst z; decide
  have e1 := made_ok K p q sz h.hsz h.p0 h.p2 h.q0 (by have := h.q3; omega) c h.wf (l ++ [97]) sg2 (by simp; omega)
  have d1 : dAdd (.str (Tx l)) (.str "a") = some (.im (.str (Tx (l ++ [97])))) := add_T l [97] (by simp; omega)
  obtain ⟨a', b', e4⟩ := beside_ok K p q sz h.hsz h.p2 (by have := h.q3; omega) (renum c) (renum c) (renum_wf h.wf) (renum_wf h.wf) l (l ++ [97]) h.sg sg2 (by omega) (by simp; omega) a b
  refine ⟨a', b', ?_⟩
  generalize l ++ [97] = l2 at *
  simp [d1, -dAdd, e1, e4]
abbrev sgl (c : Cod) : Cod := c.map fun r => r.map fun e => (e.1 ++ [97], e.2)
theorem sgl_wf : Wf (q + 1) sz (sgl c) where
  pos := by simpa [sgl] using h.wf.pos
  few := by simpa [sgl] using h.wf.few
  row := by
    intro r hr
    obtain ⟨r0, h0, rfl⟩ := List.mem_map.mp hr
    simpa using h.wf.row r0 h0
  ent := by
    intro r hr e he
    obtain ⟨r0, h0, rfl⟩ := List.mem_map.mp hr
    obtain ⟨e0, he0, rfl⟩ := List.mem_map.mp he
    have w := h.wf.ent r0 h0 e0 he0
    refine ⟨by simp [w.len], fun x hx => ?_, by simpa [sgl] using w.lt⟩
    rcases List.mem_append.mp hx with z | z
    · exact w.sub x z
    · simp at z; subst z; decide
theorem a_step11 (a b : Int) (s7 s8 s9 s10 : Option Sl) : rt11 K (rs K a b p q c l s7 s8 s9 s10 none) = .ok (.nx, rs K a b p q c l s7 s8 s9 s10 (some (.own (codeD (sgl c))))) := by
  have hs := sl
  have hz := h.sz64
  have hc := h.c5
  have e8 := lcL_map (vs := [12]) (g := gVar 12) (p := pYes) (fe := eLc [13, 14] (itSeq (eVar 12)) (spG 13 14) pYes (eTup (aCons (eV (eOp2 dAdd (eVar 13) (eK (.str "a")))) (aCons (eV (eVar 14)) (aNil))))) rowD (fun r => rowD (r.map fun e => (e.1 ++ [97], e.2))) (rs K a b p q c l s7 s8 s9 s10 none) c (by
    intro r hr
    have hrl := h.wf.row r hr
    have e9 := lcL_map (vs := [13, 14]) (g := spG 13 14) (p := pYes) (fe := eTup (aCons (eV (eOp2 dAdd (eVar 13) (eK (.str "a")))) (aCons (eV (eVar 14)) (aNil)))) eD (fun e => eD (e.1 ++ [97], e.2))
      [some (.io (pot a b)), some (.sh (paceD p q)), some (.sh (codeD c)), some (.sh (.str (Tx l))), some (.sh (coderD K p q (renum c) l)), some (.sh (codeD (renum c))), some (.sh (.str (shw p q c l))), s7, s8, s9, s10, none, some (.sh (rowD r)), none, none, none] r (by
        intro e he
        have w := h.wf.ent r hr e he
        have d1 : dAdd (.str (Tx e.1)) (.str "a") = some (.im (.str (Tx (e.1 ++ [97])))) := add_T e.1 [97] (by rw [w.len]; have := h.q3; simp; omega)
        have h2 : 2 ≤ sizeLine := by omega
        simp [d1, -dAdd, h2]) (by omega)
    simp [e9]) (by omega)
  simp [e8]
theorem a_step12 (a b : Int) (s7 s8 s9 s10 : Option Sl) : rt12 K (rs K a b p q c l s7 s8 s9 s10 (some (.own (codeD (sgl c))))) = .ok (.nx, rs K a b p q c l s7 s8 s9 s10 (some (.sh (codeD (sgl c))))) := by
  have h1 := h.p2
  have h2 := h.q3
  have h3 := h.p0
  have e1 := rate_init K p (q + 1) (by omega) (by omega) (by omega) (by omega)
  have e2 := coder_init K p (q + 1) sz h.hsz (sgl c) l (by omega) (by omega) (sgl_wf h) h.sg (by have := h.ll; omega)
  have e4 := coder_eq K p q p (q + 1) (renum c) (renum (sgl c)) (wf_sg (renum_wf h.wf)) (wf_sg (renum_wf (sgl_wf h))) l l
  have hk : decide (l = l ∧ (p = p ∧ q = q + 1) ∧ renum c = renum (sgl c)) = false := decide_eq_false fun ⟨_, ⟨_, z⟩, _⟩ => by omega
  rw [hk] at e4
  have d1 : dAdd (.int (q : Int)) (.int 1) = some (.im (iD (q + 1))) := rfl
  generalize sgl c = s at *
  have e1' : F_Rate___init__ K [.ins (He.ga K "Rate") [] [], iD p, iD (q + 1)] = .ok (.non, [rateD K p (q + 1)]) := e1
  generalize hr : rateD K p (q + 1) = rt at e1' e2
  generalize hcd : coderD K p (q + 1) (renum s) l = cd at e2 e4
  have hok : okR [He.ga K "Coder", He.ga K "Rate"] cd = true := by rw [← hcd]; simp [okR]
  generalize iD (q + 1) = qq at *
  simp [at0, at1, d1, -dAdd, e1', e2, e4, hok, -okR]
end
end LW
set_option Elab.async false
set_option linter.all false
set_option maxRecDepth 100000
set_option maxHeartbeats 2000000
namespace LW
open PySem L2 BR
theorem seq_step {s t : SF} {ρ ρ' : S} (h : s ρ = .ok (.nx, ρ')) : sSeq s t ρ = t ρ' := by
  rw [sSeq, h]
  rfl
section
variable (K : PySem.W.Frag) {p q sz : Nat} {c : Cod} {l : List Nat} (h : Q52 p q sz c l) (hnd : He.ga K "Rate" ≠ He.ga K "Coder")
include h hnd
theorem a_step13 (a b : Int) (s7 s8 s9 s10 s11 : Option Sl) : rt13 K (rs K a b p q c l s7 s8 s9 s10 s11) = .ok (.nx, rs K a b p q c l s7 s8 s9 s10 s11) := by
  have hs := sl
  have h1 := h.p2
  have h2 := h.q3
  have hf := (renum_wf h.wf).few
  have e1 := coder_codes K p q (renum c) l (by omega)
  have e2 := coder_rate K p q (renum c) l
  obtain ⟨s, e3⟩ := coder_repr K p q (by omega) (by omega) (renum c) (by omega) l
  have k9 : 9 ≤ sizeLine := by omega
  have k2 : 2 ≤ sizeLine := by omega
  have hno := fun (d : D) h1 h2 => coder_no K p q (renum c) l d h1 h2
  have e4 := lcL_map (vs := [15]) (g := gVar 15) (p := pYes) (fe := eEqO (He.ga K "Coder") [He.ga K "Coder", He.ga K "Rate"] (F_Coder___eq__ K) id (eVar 4) (eVar 15)) (fun d : D => d) (fun _ => .bl false) (rs K a b p q c l s7 s8 s9 s10 s11)
    [.non, .int 0, .str "", .str (Tx l), codeD (renum c), codeD (renum c), .tup [paceD p q, codeD (renum c)], rateD K p q, .str s] (by
      intro d hd
      have hi : insIn [He.ga K "Coder", He.ga K "Rate"] d = true ∧ isIns (He.ga K "Coder") d = false ∧ okR [He.ga K "Coder", He.ga K "Rate"] d = true := by
        simp only [List.mem_cons, List.not_mem_nil, or_false] at hd
        rcases hd with rfl | rfl | rfl | rfl | rfl | rfl | rfl | rfl | rfl
        all_goals first | exact ⟨rfl, rfl, rfl⟩ | exact ⟨by simp [insIn], by simp [isIns, hnd], by simp [okR]⟩
      have e5 := hno d hi.1 hi.2.1
      have e6 := hi.2.2
      have hok : okR [He.ga K "Coder", He.ga K "Rate"] (coderD K p q (renum c) l) = true := by simp [okR]
      simp [e5, e6, -okR]) (by simp; omega)
  rw [List.map_id'] at e4
  have e7 : dAny [.lst (List.map (fun _ => D.bl false) ([.non, .int 0, .str "", .str (Tx l), codeD (renum c), codeD (renum c), .tup [paceD p q, codeD (renum c)], rateD K p q, .str s] : List D))] = some (.im (.bl false)) := rfl
  generalize List.map (fun _ => D.bl false) ([.non, .int 0, .str "", .str (Tx l), codeD (renum c), codeD (renum c), .tup [paceD p q, codeD (renum c)], rateD K p q, .str s] : List D) = ys at e4 e7
  simp [e1, e2, e3, e4, e7, k9, k2, hf_codes, -hasF]
end
theorem lawR_ok (K : PySem.W.Frag) (hnd : He.ga K "Rate" ≠ He.ga K "Coder") (a b : Int) : ∃ a' b' : Int, F__law_right K [pot a b] = .ok (.bl true, [pot a' b']) := by
  obtain ⟨p, q, a1, b1, t1, p0, p2, q0, q3⟩ := a_step1 K a b
  obtain ⟨c, l, a2, b2, t2, h⟩ := a_step2 K a1 b1 p q p0 p2 q0 q3
  have t3 := a_step3 K h a2 b2
  have t4 := a_step4 K h a2 b2
  have t5 := a_step5 K h a2 b2
  obtain ⟨x, a3, b3, t6, wx⟩ := a_step6 K h a2 b2
  obtain ⟨a4, b4, y, t7⟩ := a_step7 K h a3 b3 x wx
  have t8 := a_step8 K h a4 b4 (some (.sh (codeD (c ++ x)))) (some (.sh (codeD y))) (some (.sh (coderD K p q (renum c) l))) none none
  obtain ⟨a5, b5, y2, z2, t9⟩ := a_step9 K h a4 b4 (some (.sh (codeD (c ++ x)))) (some (.sh (codeD y))) (some (.sh (coderD K p q (renum c) l))) (shN_sh _)
  obtain ⟨a6, b6, t10⟩ := a_step10 K h a5 b5 (some (.sh (codeD (c ++ x)))) (some (.sh y2)) (some (.sh (coderD K p q (renum c) l))) (some (.sh z2)) none
  have t11 : rt11 K (rs K a6 b6 p q c l (some (.sh (codeD (c ++ x)))) (some (.sh y2)) (some (.sh (coderD K p q (renum c) l))) (some (.sh z2)) none) = .ok (.nx, rs K a6 b6 p q c l (some (.sh (codeD (c ++ x)))) (some (.sh y2)) (some (.sh (coderD K p q (renum c) l))) (some (.sh z2)) (some (.own (codeD (sgl c))))) := (a_step11 K h a6 b6 _ _ _ _)
  have t12 := a_step12 K h a6 b6 (some (.sh (codeD (c ++ x)))) (some (.sh y2)) (some (.sh (coderD K p q (renum c) l))) (some (.sh z2))
  have t13 := a_step13 K h hnd a6 b6 (some (.sh (codeD (c ++ x)))) (some (.sh y2)) (some (.sh (coderD K p q (renum c) l))) (some (.sh z2)) (some (.sh (codeD (sgl c))))
  have t14 : rt14 K (rs K a6 b6 p q c l (some (.sh (codeD (c ++ x)))) (some (.sh y2)) (some (.sh (coderD K p q (renum c) l))) (some (.sh z2)) (some (.sh (codeD (sgl c))))) = .ok (.rt (.val (.bl true)), rs K a6 b6 p q c l (some (.sh (codeD (c ++ x)))) (some (.sh y2)) (some (.sh (coderD K p q (renum c) l))) (some (.sh z2)) (some (.sh (codeD (sgl c))))) := by
    have e1 := a_told K h
    have e2 := a_tell h
    have e3 := eq_str (shw p q c l)
    generalize tellD (ratS p q) l (renum c) = t at e1 e2
    simp [e1, e2, e3]
  have hB : B__law_right K [some (.io (pot a b)), none, none, none, none, none, none, none, none, none, none, none, none, none, none, none] = .ok (.rt (.val (.bl true)), rs K a6 b6 p q c l (some (.sh (codeD (c ++ x)))) (some (.sh y2)) (some (.sh (coderD K p q (renum c) l))) (some (.sh z2)) (some (.sh (codeD (sgl c))))) := by
    rw [rt_all]
    exact (seq_step t1).trans ((seq_step t2).trans ((seq_step t3).trans ((seq_step t4).trans ((seq_step t5).trans ((seq_step t6).trans ((seq_step t7).trans ((seq_step t8).trans ((seq_step t9).trans ((seq_step t10).trans ((seq_step t11).trans ((seq_step t12).trans ((seq_step t13).trans t14))))))))))))
  refine ⟨a6, b6, ?_⟩
  clear t1 t2 t3 t4 t5 t6 t7 t8 t9 t10 t11 t12 t13 t14
  have hR : ∀ ds, F__law_right K ds = (B__law_right K (ini [true] 16 ds) >>= fun z => ofO (flH z.1) >>= fun h => ofO (finH false h z.2) >>= fun y => ofO (ioOut [true] 0 y.2) >>= fun o => .ok (y.1, o)) := fun _ => rfl
  have h0 : ini [true] 16 [pot a b] = [some (.io (pot a b)), none, none, none, none, none, none, none, none, none, none, none, none, none, none, none] := rfl
  rw [hR, h0, hB]
  generalize codeD (c ++ x) = u1
  generalize coderD K p q (renum c) l = u2
  generalize codeD (sgl c) = u3
  generalize codeD (renum c) = u4
  generalize codeD c = u5
  generalize shw p q c l = u6
  rfl
end LW
set_option Elab.async false
set_option linter.all false
set_option maxRecDepth 100000
set_option maxHeartbeats 2000000
namespace LW
open PySem L2 BR
theorem pot_ok (K : PySem.W.Frag) (ns : List Int) (hl : ns.length ≤ 63) (k : Nat) (hk : k < 4) : ∃ a b : Int, F__law_pot K [.scr ns, iD k] = .ok (pot a b, []) := by
  have hs := sl
  have m1 : ∀ i : Int, dMulI (.int 31) (.int i) = some (.im (.int (31 * i))) := fun i => dMulI_ok (.inl ⟨by decide, by decide⟩)
  have m2 : ∀ i : Int, dMulI (.int 2) (.int i) = some (.im (.int (2 * i))) := fun i => dMulI_ok (.inl ⟨by decide, by decide⟩)
  have c1 : ∀ i : Int, dIc (fun _ j => 0 < j) (fun i j => i % j) (.int i) (.int 2147483477) = some (.im (.int (i % 2147483477))) := fun i => dIc_ok (by decide)
  have c2 : ∀ i : Int, dIc (fun _ j => 0 < j) (fun i j => i % j) (.int i) (.int 2147483549) = some (.im (.int (i % 2147483549))) := fun i => dIc_ok (by decide)
  have c3 : dIc CPow (fun i j => i ^ j.toNat) (.int 10) (.int 18) = some (.im (.int 1000000000000000000)) := dIc_ok ⟨by decide, by decide, by decide⟩
  have c4 : dIc CPow (fun i j => i ^ j.toNat) (.int (2 * (k : Int) + 3)) (.int 3) = some (.im (.int ((2 * (k : Int) + 3) ^ 3))) := dIc_ok ⟨by decide, by decide, by omega⟩
  have m3 : ∀ i : Int, dMulI (.int (i % 2147483549 + 5)) (.int ((2 * (k : Int) + 3) ^ 3)) = some (.im (.int ((i % 2147483549 + 5) * (2 * (k : Int) + 3) ^ 3))) := fun i => dMulI_ok (.inl (by
    have h1 := Int.emod_nonneg i (show (2147483549 : Int) ≠ 0 by decide)
    have h2 := Int.emod_lt_of_pos i (show (0 : Int) < 2147483549 by decide)
    constructor <;> omega))
  have h2 : 2 ≤ sizeLine := by omega
  generalize hp : (2 * (k : Int) + 3) ^ 3 = P at *
  by_cases hc : k < ns.length
  · have a1 := atI_n ns k hc
    exact ⟨_, _, by simp [F__law_pot, B__law_pot, m1, m2, hc, a1, c1, c2, c3, c4, m3, h2]; exact ⟨rfl, rfl⟩⟩
  · exact ⟨_, _, by simp [F__law_pot, B__law_pot, m1, m2, hc, c1, c2, c3, c4, m3, h2]; exact ⟨rfl, rfl⟩⟩
theorem law_ok (K : PySem.W.Frag) (ns : List Int) (hl : ns.length ≤ 63) (hnd : He.ga K "Rate" ≠ He.ga K "Coder") : ∃ d, F_law K [.scr ns] = .ok (.bl true, d) := by
  have hs := sl
  have hcells := lcL_map (vs := [1]) (g := gVar 1) (p := pYes) (fe := eCall false (F__law_right K) (mIo (eCall true (F__law_pot K) (mSh (eVar 0) (mSh (eVar 1) (mNil)))) (mNil))) iD (fun _ => D.bl true) [some (.sh (.scr ns)), none] (List.range (max 1 (min 4 ns.length))) (by
    intro k hk
    rw [List.mem_range] at hk
    obtain ⟨a, b, f1⟩ := pot_ok K ns hl k (by omega)
    obtain ⟨a', b', f2⟩ := lawR_ok K hnd a b
    simp [f1, f2]) (by simp; omega)
  rw [rng_i2] at hcells
  have e4 := all_true (List.range (max 1 (min 4 ns.length)))
  have hmm : (if (if (ns.length : Int) < 4 then (ns.length : Int) else 4) > 1 then (if (ns.length : Int) < 4 then (ns.length : Int) else 4) else 1) = ((max 1 (min 4 ns.length) : Nat) : Int) := by
    split <;> split at * <;> omega
  have hR2 := rngF_n (max 1 (min 4 ns.length)) (by omega)
  have g4 : itRng1 (aCons (eV (eCB dMax (hCons (eK (.int 1)) (hCons (eCB dMin (hCons (eK (.int 4)) (hCons (eCB dLen (hCons (eVar 0) (hNil))) (hNil)))) (hNil))))) (aNil)) [some (.sh (.scr ns)), none] = .ok (rngL 0 (max 1 (min 4 ns.length)), [some (.sh (.scr ns)), none]) := by
    simp only [rng1_a, aCons, eV, eCB, hCons, eK, eVar, hNil, aNil, ok_bind, looks, look, ofO_some, dMax, dMin, dLen, fin, share, Sl.d, List.getElem?_cons_zero, Option.bind_some]
    rw [hmm]
    exact hR2 _
  have g5 : eLc [1] (itRng1 (aCons (eV (eCB dMax (hCons (eK (.int 1)) (hCons (eCB dMin (hCons (eK (.int 4)) (hCons (eCB dLen (hCons (eVar 0) (hNil))) (hNil)))) (hNil))))) (aNil))) (gVar 1) pYes (eCall false (F__law_right K) (mIo (eCall true (F__law_pot K) (mSh (eVar 0) (mSh (eVar 1) (mNil)))) (mNil))) [some (.sh (.scr ns)), none] = .ok (.tmp (.lst ((List.range (max 1 (min 4 ns.length))).map fun _ => D.bl true)), [some (.sh (.scr ns)), none]) := by
    unfold eLc
    rw [g4, ok_bind]
    have w : wipeS [some (.sh (.scr ns)), none] [1] = [some (.sh (.scr ns)), none] := rfl
    have c4 : calmSl [some (.sh (.scr ns)), none] [1] = true := rfl
    simp only [c4, if_true, w, hcells, ok_bind]
    simp [rst]
  have f3 : B_law K [some (.sh (.scr ns)), none] = .ok (.rt (.val (.bl true)), [some (.sh (.scr ns)), none]) := by
    unfold B_law
    simp [-eLc, g5, e4]
  refine ⟨[], ?_⟩
  unfold F_law runF
  have f0 : ini [false] 2 [.scr ns] = [some (.sh (.scr ns)), none] := rfl
  rw [f0, f3]
  simp
end LW
theorem PySem.Challenge.cw_barredrows_k52_whole_equal_coders_holds : PySem.Challenge.rw_barredrows_k52_whole_equal_coders.Holds :=
  LW.holds LW.law_ok
