import PyProof.Rows.All
import HandS.Lambda
import KE.KNest
import Wide.All
import OpenK.AllK
import Wide.FinOn
import KE.KStateDown
import Lean
import HandS.ForMost
import HandS.More
import HandS.Walk
import HandS.Defaults
import HandS.Property
import HandS.IsInst
import HandS.Flow
import HandS.Style
import HandS.DictComp
import HandS.Wide
import HandS.WideBits
import HandS.WordsExc
import HandS.ClsMeth
import HandS.Conv
import HandS.TupMul
import HandS.TupLe
import HandS.Head0
import HandS.Head1
import HandS.Head2
import HandS.HeadEnd
import HandS.HeadHook1
import HandS.HeadHook2
import HandS.HeadHook3
import HandS.HeadNt
import HandS.ForExc
import HandS.ExcInit
import HandS.TryMany
import HandS.Small
import KE.KDictSum
import HandS.Sort
import HandS.RaiseMore
import HandS.FStr
import PyProof.ReprRoads
import KE.KCallOwn
import KE.KFmtOwn
import HandS.ExcField
import HandS.ExcIs
import KE.KExcIs
import HandS.EndTab
import HandS.EndBits
import KE.KNestM
import KE.GoesMore
import PySem.Challenge.RW_barredrows_k90_whole_bits_packed
import KE.BitLaws
import PyProof.P3Eq
set_option Elab.async false
set_option linter.all false
namespace BR
open PySem L2
/-- the law's defs that make lambdas (law by law) -/
def mkrs : List Str := ["_law_texts_right", "_law_refused"]
/-- the tables of code objects that they use -/
@[irreducible] def tbT (K : PySem.W.Frag) : List (Addr × Str) := mkrs.filterMap fun x => (PySem.W.tabIn K x).map fun q => (q.2, (x ++ ".<locals>.") ++ "<lambda>")
end BR
set_option Elab.async false
set_option linter.all false
set_option maxRecDepth 100000
set_option maxHeartbeats 4000000
namespace BR
open PySem L2

/-! ## data -/
inductive D where
  | non | bl (b : Bool) | int (i : Int) | str (x : Str) | ty (n : String) | obj (a : Addr)
  | lst (xs : List D) | tup (xs : List D)
  | dic (ks : List Key) (xs : List D)
  | ins (C : Addr) (ns : List Str) (xs : List D)
  | scr (ns : List Int)

/-- owned trees: some of the things within are owned, too -/
inductive T where
  | fz (d : D) | lst (ts : List T) | dic (ks : List Key) (ts : List T) | ins (C : Addr) (ns : List Str) (ts : List T)
/-- slots -/
inductive Sl where
  | sh (d : D) | own (d : D) | io (d : D) | dp (t : T) | gh (a : Addr) (G0 H0 : Hp)
abbrev S := List (Option Sl)
/-- an exception; st: the slots where it was raised -/
structure Exc where
  cls : Value
  ns : List Str
  xs : List D
  st : S

inductive R (α : Type) where
  | ok (a : α) | exc (x : Exc) | no
def R.bind {α β : Type} : R α → (α → R β) → R β
  | .ok a, f => f a
  | .exc x, _ => .exc x
  | .no, _ => .no
instance : Monad R where
  pure := R.ok
  bind := R.bind
section
variable {α β : Type}
@[simp] theorem ok_bind (a : α) (f : α → R β) : (R.ok a >>= f) = f a := rfl
@[simp] theorem exc_bind (x : Exc) (f : α → R β) : (R.exc x >>= f) = R.exc x := rfl
@[simp] theorem no_bind (f : α → R β) : (R.no >>= f) = R.no := rfl
theorem pure_ok (a : α) : (pure a : R α) = R.ok a := rfl
def Wp (r : R α) (P : α → Prop) (E : Exc → Prop) : Prop := match r with
  | .ok a => P a
  | .exc x => E x
  | .no => False
theorem Wp.bind {r : R α} {f : α → R β} {P : β → Prop} {E : Exc → Prop} (h : Wp (r >>= f) P E) : Wp r (fun a => Wp (f a) P E) E := by
  cases r <;> exact h
theorem Wp.mono {r : R α} {P P' : α → Prop} {E E' : Exc → Prop} (h : Wp r P E) (hp : ∀ a, r = .ok a → P a → P' a) (he : ∀ x, r = .exc x → E x → E' x) : Wp r P' E' := by
  cases r with
  | ok a => exact hp a rfl h
  | exc x => exact he x rfl h
  | no => exact h
def ofO {α : Type} : Option α → R α
  | some a => .ok a
  | none => .no
@[simp] theorem ofO_some {α : Type} (a : α) : ofO (some a) = .ok a := rfl
@[simp] theorem ofO_none {α : Type} : (ofO none : R α) = .no := rfl
theorem Wp.opt {o : Option α} {f : α → R β} {P : β → Prop} {E : Exc → Prop} (h : Wp (ofO o >>= f) P E) : ∃ a, o = some a ∧ Wp (f a) P E := by
  cases o with
  | none => exact h.elim
  | some a => exact ⟨a, rfl, h⟩
theorem Wp.of_ok {r : R α} {P : α → Prop} {E : Exc → Prop} {a : α} (e : r = .ok a) (h : P a) : Wp r P E := by
  rw [e]
  exact h
end

mutual
def Rep (K : PySem.W.Frag) (G : Hp) : D → V → Prop
  | .non, v => v = .non
  | .bl b, v => v = .bl b
  | .int i, v => v = .int i
  | .str x, v => v = .str x
  | .ty n, v => v = .ty n
  | .obj a, v => v = .ref a
  | .lst ds, v => ∃ a vs, v = .ref a ∧ G a = some (.lst vs) ∧ RepL K G ds vs
  | .scr ns, v => ∃ a, v = .ref a ∧ SqL K G a (ns.map V.int)
  | .tup ds, v => ∃ a vs, v = .ref a ∧ SqT K G a vs ∧ RepL K G ds vs
  | .dic ks ds, v => ∃ a kvs, v = .ref a ∧ Rd G a (.dK kvs) ∧ kvs.map (·.1) = ks ∧ RepL K G ds (kvs.map (·.2))
  | .ins C ns ds, v => ∃ a dx fs, v = .ref a ∧ G a = some (.ins C dx fs) ∧ fs.map (·.1) = ns ∧ RepL K G ds (fs.map (·.2))
def RepL (K : PySem.W.Frag) (G : Hp) : List D → List V → Prop
  | [], vs => vs = []
  | d :: ds, vs => ∃ v vs', vs = v :: vs' ∧ Rep K G d v ∧ RepL K G ds vs'
end

theorem sq_l {K : PySem.W.Frag} {G G' : Hp} (e : Same G G') {a : Addr} {vs : List V} (h : SqL K G a vs) : SqL K G' a vs := e.seq h
theorem rd_s {G G' : Hp} (e : Same G G') {a : Addr} {u : HO} (h : Rd G a u) : Rd G' a u := by
  rcases h with h | ⟨o, h⟩
  · exact .inl (e _ _ h)
  · exact .inr ⟨o, e _ _ h⟩
theorem sq_t {K : PySem.W.Frag} {G G' : Hp} (e : Same G G') {a : Addr} {vs : List V} (h : SqT K G a vs) : SqT K G' a vs := by
  rcases h with h | h
  · exact .inl (rd_s e h)
  · exact .inr h

mutual
theorem Rep.mono {K : PySem.W.Frag} {G G' : Hp} (e : Same G G') : ∀ (d : D) {v : V}, Rep K G d v → Rep K G' d v
  | .non, _, h => by unfold Rep at h ⊢; exact h
  | .bl b, _, h => by unfold Rep at h ⊢; exact h
  | .int i, _, h => by unfold Rep at h ⊢; exact h
  | .str x, _, h => by unfold Rep at h ⊢; exact h
  | .ty n, _, h => by unfold Rep at h ⊢; exact h
  | .obj a, _, h => by unfold Rep at h ⊢; exact h
  | .lst ds, _, h => by
    unfold Rep at h ⊢
    obtain ⟨a, vs, e1, e2, e3⟩ := h
    exact ⟨a, vs, e1, e _ _ e2, RepL.mono e ds e3⟩
  | .scr ns, _, h => by
    unfold Rep at h ⊢
    obtain ⟨a, e1, e2⟩ := h
    exact ⟨a, e1, sq_l e e2⟩
  | .tup ds, _, h => by
    unfold Rep at h ⊢
    obtain ⟨a, vs, e1, e2, e3⟩ := h
    exact ⟨a, vs, e1, sq_t e e2, RepL.mono e ds e3⟩
  | .dic ks ds, _, h => by
    unfold Rep at h ⊢
    obtain ⟨a, kvs, e1, e2, e3, e4⟩ := h
    exact ⟨a, kvs, e1, rd_s e e2, e3, RepL.mono e ds e4⟩
  | .ins C ns ds, _, h => by
    unfold Rep at h ⊢
    obtain ⟨a, dx, fs, e1, e2, e3, e4⟩ := h
    exact ⟨a, dx, fs, e1, e _ _ e2, e3, RepL.mono e ds e4⟩
theorem RepL.mono {K : PySem.W.Frag} {G G' : Hp} (e : Same G G') : ∀ (ds : List D) {vs : List V}, RepL K G ds vs → RepL K G' ds vs
  | [], _, h => by unfold RepL at h ⊢; exact h
  | d :: ds, _, h => by
    unfold RepL at h ⊢
    obtain ⟨v, vs', e1, e2, e3⟩ := h
    exact ⟨v, vs', e1, Rep.mono e d e2, RepL.mono e ds e3⟩
end
section
variable {K : PySem.W.Frag} {G : Hp}
theorem repL_nil {vs : List V} : RepL K G [] vs ↔ vs = [] := by unfold RepL; exact Iff.rfl
theorem repL_cons {d : D} {ds : List D} {vs : List V} : RepL K G (d :: ds) vs ↔ ∃ v vs', vs = v :: vs' ∧ Rep K G d v ∧ RepL K G ds vs' := by
  constructor
  · intro h; unfold RepL at h; exact h
  · intro h; unfold RepL; exact h
theorem RepL.nil : RepL K G [] [] := repL_nil.mpr rfl
theorem RepL.cons {d : D} {ds : List D} {v : V} {vs : List V} (a : Rep K G d v) (b : RepL K G ds vs) : RepL K G (d :: ds) (v :: vs) := repL_cons.mpr ⟨v, vs, rfl, a, b⟩
theorem RepL.length : ∀ {ds : List D} {vs : List V}, RepL K G ds vs → ds.length = vs.length
  | [], vs, h => by rw [repL_nil.mp h]; rfl
  | d :: ds, vs, h => by
    obtain ⟨v, vs', rfl, _, h⟩ := repL_cons.mp h
    simp [RepL.length h]
theorem RepL.append : ∀ {ds es : List D} {vs ws : List V}, RepL K G ds vs → RepL K G es ws → RepL K G (ds ++ es) (vs ++ ws)
  | [], _, _, _, h, h2 => by rw [repL_nil.mp h]; exact h2
  | d :: ds, es, vs, ws, h, h2 => by
    obtain ⟨v, vs', rfl, h1, h⟩ := repL_cons.mp h
    exact .cons h1 (RepL.append h h2)
theorem RepL.get : ∀ {ds : List D} {vs : List V} {i : Nat} {d : D}, RepL K G ds vs → ds[i]? = some d → ∃ v, vs[i]? = some v ∧ Rep K G d v
  | [], _, _, _, _, e => by simp at e
  | d :: ds, vs, i, d', h, e => by
    obtain ⟨v, vs', rfl, h1, h⟩ := repL_cons.mp h
    cases i with
    | zero => simp at e; subst e; exact ⟨v, rfl, h1⟩
    | succ i => simp at e; simpa using RepL.get h e
theorem RepL.getV : ∀ {ds : List D} {vs : List V} {i : Nat} {v : V}, RepL K G ds vs → vs[i]? = some v → ∃ d, ds[i]? = some d ∧ Rep K G d v
  | [], vs, i, v, h, e => by rw [repL_nil.mp h] at e; simp at e
  | d :: ds, vs, i, v', h, e => by
    obtain ⟨v, vs', rfl, h1, h⟩ := repL_cons.mp h
    cases i with
    | zero => simp at e; subst e; exact ⟨d, rfl, h1⟩
    | succ i => simp at e; simpa using RepL.getV h e
theorem RepL.take : ∀ {ds : List D} {vs : List V} (n : Nat), RepL K G ds vs → RepL K G (ds.take n) (vs.take n)
  | _, _, 0, _ => by simpa using RepL.nil
  | [], vs, n + 1, h => by rw [repL_nil.mp h]; simpa using RepL.nil
  | d :: ds, vs, n + 1, h => by
    obtain ⟨v, vs', rfl, h1, h⟩ := repL_cons.mp h
    exact .cons h1 (RepL.take n h)
theorem RepL.drop : ∀ {ds : List D} {vs : List V} (n : Nat), RepL K G ds vs → RepL K G (ds.drop n) (vs.drop n)
  | _, _, 0, h => h
  | [], vs, n + 1, h => by rw [repL_nil.mp h]; simpa using RepL.nil
  | d :: ds, vs, n + 1, h => by
    obtain ⟨v, vs', rfl, h1, h⟩ := repL_cons.mp h
    exact RepL.drop n h
theorem RepL.set : ∀ {ds : List D} {vs : List V} (i : Nat) {d : D} {v : V}, RepL K G ds vs → Rep K G d v → RepL K G (ds.set i d) (vs.set i v)
  | [], vs, _, _, _, h, _ => by rw [repL_nil.mp h]; exact .nil
  | d :: ds, vs, 0, _, _, h, r => by
    obtain ⟨v, vs', rfl, h1, h⟩ := repL_cons.mp h
    exact .cons r h
  | d :: ds, vs, i + 1, _, _, h, r => by
    obtain ⟨v, vs', rfl, h1, h⟩ := repL_cons.mp h
    exact .cons h1 (RepL.set i h r)
theorem RepL.rep {d : D} {v : V} (h : Rep K G d v) : ∀ n, RepL K G (List.replicate n d) (List.replicate n v)
  | 0 => .nil
  | n + 1 => .cons h (RepL.rep h n)
end

/-! ## the two heaps: G (frozen) within H -/
/-- no table of code objects (these grow where a lambda is made) -/
def NT (o : HO) : Prop := ∀ ps, o ≠ .tbl ps
def Lk (x : Option HO) (o : HO) : Prop := (x = some o ∨ ∃ kvs od, o = .dK kvs ∧ x = some (.frz od o)) ∨ ((∃ ps, o = .tbl ps) ∧ ∃ ps, x = some (.tbl ps))
def Sub (G H : Hp) : Prop := ∀ b o, G b = some o → Lk (H b) o
section
variable {K : PySem.W.Frag} {G H : Hp}
theorem Sub.rd {a : Addr} {u : HO} (s : Sub G H) (h : Rd G a u) (hu : NT u := by intro _ z; cases z) : Rd H a u := by
  rcases h with h | ⟨o, h⟩
  · rcases s _ _ h with (e | ⟨kvs, od, e1, e⟩) | ⟨⟨ps, e1⟩, qs, e2⟩
    · exact .inl e
    · exact .inr ⟨od, e⟩
    · exact (hu _ e1).elim
  · rcases s _ _ h with (e | ⟨kvs, od, e1, e⟩) | ⟨⟨ps, e1⟩, _⟩
    · exact .inr ⟨o, e⟩
    · cases e1
    · cases e1
theorem Sub.l {a : Addr} {vs : List V} (s : Sub G H) (h : SqL K G a vs) : SqL K H a vs := by
  rcases h with h | h
  · exact .inl (s.rd h)
  · exact .inr h
theorem Sub.t {a : Addr} {vs : List V} (s : Sub G H) (h : SqT K G a vs) : SqT K H a vs := by
  rcases h with h | h
  · exact .inl (s.rd h)
  · exact .inr h
theorem Sub.i {a C dx : Addr} {fs : List (Str × V)} (s : Sub G H) (h : G a = some (.ins C dx fs)) : H a = some (.ins C dx fs) := by
  rcases s _ _ h with (e | ⟨kvs, od, e1, e⟩) | ⟨⟨ps, e1⟩, _⟩
  · exact e
  · cases e1
  · cases e1
theorem Sub.ls {a : Addr} {vs : List V} (s : Sub G H) (h : G a = some (.lst vs)) : H a = some (.lst vs) := by
  rcases s _ _ h with (e | ⟨kvs, od, e1, e⟩) | ⟨⟨ps, e1⟩, _⟩
  · exact e
  · cases e1
  · cases e1
theorem Sub.none {a : Addr} (s : Sub G H) (h : H a = none) : G a = none := by
  cases e : G a with
  | none => rfl
  | some o =>
    rcases s _ _ e with (z | ⟨_, _, _, z⟩) | ⟨_, _, z⟩
    · rw [h] at z; cases z
    · rw [h] at z; cases z
    · rw [h] at z; cases z
end

/-- what stands at an owned address -/
def Cont (K : PySem.W.Frag) (G : Hp) : D → HO → Prop
  | .lst ds, o => ∃ vs, o = .lst vs ∧ RepL K G ds vs
  | .dic ks ds, o => ∃ kvs, o = .dK kvs ∧ kvs.map (·.1) = ks ∧ RepL K G ds (kvs.map (·.2))
  | .ins C ns ds, o => ∃ dx fs, o = .ins C dx fs ∧ fs.map (·.1) = ns ∧ RepL K G ds (fs.map (·.2))
  | _, _ => False
theorem Cont.mono {K : PySem.W.Frag} {G G' : Hp} (e : Same G G') {d : D} {o : HO} (h : Cont K G d o) : Cont K G' d o := by
  cases d with
  | lst ds => obtain ⟨vs, e1, e2⟩ := h; exact ⟨vs, e1, e2.mono e⟩
  | dic ks ds => obtain ⟨kvs, e1, e2, e3⟩ := h; exact ⟨kvs, e1, e2, e3.mono e⟩
  | ins C ns ds => obtain ⟨dx, fs, e1, e2, e3⟩ := h; exact ⟨dx, fs, e1, e2, e3.mono e⟩
  | _ => exact h.elim
/-- what is frozen at p is represented -/
theorem Cont.rep {K : PySem.W.Frag} {G : Hp} {d : D} {o : HO} {p : Addr} (hp : G p = some o) (h : Cont K G d o) : Rep K G d (.ref p) := by
  cases d with
  | lst ds => obtain ⟨vs, rfl, e2⟩ := h; unfold Rep; exact ⟨p, vs, rfl, hp, e2⟩
  | dic ks ds => obtain ⟨kvs, rfl, e2, e3⟩ := h; unfold Rep; exact ⟨p, kvs, rfl, .inl hp, e2, e3⟩
  | ins C ns ds => obtain ⟨dx, fs, rfl, e2, e3⟩ := h; unfold Rep; exact ⟨p, dx, fs, rfl, hp, e2, e3⟩
  | _ => exact h.elim
def OwnAt (K : PySem.W.Frag) (G H : Hp) (a : Addr) (d : D) : Prop := G a = none ∧ ∃ o, H a = some o ∧ Cont K G d o

/-! ## owned trees -/
mutual
@[simp] def T.d : T → D
  | .fz d => d
  | .lst ts => .lst (T.ds ts)
  | .dic ks ts => .dic ks (T.ds ts)
  | .ins C ns ts => .ins C ns (T.ds ts)
@[simp] def T.ds : List T → List D
  | [] => []
  | t :: ts => t.d :: T.ds ts
end
mutual
def fp (H : Hp) : T → V → List Addr
  | .fz _, _ => []
  | .lst ts, v => match v with
    | .ref a => a :: (match H a with
      | some (.lst vs) => fpL H ts vs
      | _ => [])
    | _ => []
  | .dic _ ts, v => match v with
    | .ref a => a :: (match H a with
      | some (.dK kvs) => fpL H ts (kvs.map (·.2))
      | _ => [])
    | _ => []
  | .ins _ _ ts, v => match v with
    | .ref a => a :: (match H a with
      | some (.ins _ _ fs) => fpL H ts (fs.map (·.2))
      | _ => [])
    | _ => []
def fpL (H : Hp) : List T → List V → List Addr
  | [], _ => []
  | t :: ts, vs => match vs with
    | v :: vs' => fp H t v ++ fpL H ts vs'
    | [] => []
end
mutual
def Own (K : PySem.W.Frag) (G H : Hp) : T → V → Prop
  | .fz d, v => Rep K G d v
  | .lst ts, v => ∃ a vs, v = .ref a ∧ G a = none ∧ H a = some (.lst vs) ∧ OwnL K G H ts vs
  | .dic ks ts, v => ∃ a kvs, v = .ref a ∧ G a = none ∧ H a = some (.dK kvs) ∧ kvs.map (·.1) = ks ∧ OwnL K G H ts (kvs.map (·.2))
  | .ins C ns ts, v => ∃ a dx fs, v = .ref a ∧ G a = none ∧ H a = some (.ins C dx fs) ∧ fs.map (·.1) = ns ∧ OwnL K G H ts (fs.map (·.2))
def OwnL (K : PySem.W.Frag) (G H : Hp) : List T → List V → Prop
  | [], vs => vs = []
  | t :: ts, vs => ∃ v vs', vs = v :: vs' ∧ Own K G H t v ∧ OwnL K G H ts vs'
end
section
variable {K : PySem.W.Frag} {G H G' H' : Hp}
theorem fp_lst {ts : List T} {a : Addr} {vs : List V} (h : H a = some (.lst vs)) : fp H (.lst ts) (.ref a) = a :: fpL H ts vs := by
  unfold fp; simp only [h]
theorem fp_dic {ts : List T} {ks : List Key} {a : Addr} {kvs : List (Key × V)} (h : H a = some (.dK kvs)) : fp H (.dic ks ts) (.ref a) = a :: fpL H ts (kvs.map (·.2)) := by
  unfold fp; simp only [h]
theorem fp_ins {ts : List T} {C dx : Addr} {ns : List Str} {a : Addr} {fs : List (Str × V)} (h : H a = some (.ins C dx fs)) : fp H (.ins C ns ts) (.ref a) = a :: fpL H ts (fs.map (·.2)) := by
  unfold fp; simp only [h]
theorem fp_fz {d : D} {v : V} : fp H (.fz d) v = [] := by unfold fp; rfl
theorem fpL_cons {t : T} {ts : List T} {v : V} {vs : List V} : fpL H (t :: ts) (v :: vs) = fp H t v ++ fpL H ts vs := by
  rw [fpL]
theorem fpL_nil {vs : List V} : fpL H [] vs = [] := by rw [fpL]
mutual
theorem Own.in_ : ∀ (t : T) {v : V}, Own K G H t v → ∀ a ∈ fp H t v, G a = none ∧ H a ≠ none
  | .fz d, v, _, a, m => by rw [fp_fz] at m; cases m
  | .lst ts, v, h, a, m => by
    unfold Own at h
    obtain ⟨b, vs, rfl, h1, h2, h3⟩ := h
    rw [fp_lst h2] at m
    rcases List.mem_cons.mp m with rfl | m
    · exact ⟨h1, by rw [h2]; simp⟩
    · exact OwnL.in_ ts h3 a m
  | .dic ks ts, v, h, a, m => by
    unfold Own at h
    obtain ⟨b, vs, rfl, h1, h2, _, h3⟩ := h
    rw [fp_dic h2] at m
    rcases List.mem_cons.mp m with rfl | m
    · exact ⟨h1, by rw [h2]; simp⟩
    · exact OwnL.in_ ts h3 a m
  | .ins C ns ts, v, h, a, m => by
    unfold Own at h
    obtain ⟨b, dx, vs, rfl, h1, h2, _, h3⟩ := h
    rw [fp_ins h2] at m
    rcases List.mem_cons.mp m with rfl | m
    · exact ⟨h1, by rw [h2]; simp⟩
    · exact OwnL.in_ ts h3 a m
theorem OwnL.in_ : ∀ (ts : List T) {vs : List V}, OwnL K G H ts vs → ∀ a ∈ fpL H ts vs, G a = none ∧ H a ≠ none
  | [], vs, _, a, m => by rw [fpL_nil] at m; cases m
  | t :: ts, vs, h, a, m => by
    unfold OwnL at h
    obtain ⟨v, vs', rfl, h1, h2⟩ := h
    rw [fpL_cons] at m
    rcases List.mem_append.mp m with m | m
    · exact Own.in_ t h1 a m
    · exact OwnL.in_ ts h2 a m
end
mutual
theorem Own.nt : ∀ (t : T) {v : V}, Own K G H t v → ∀ a ∈ fp H t v, ∀ u, H a = some u → NT u
  | .fz d, v, _, a, m => by rw [fp_fz] at m; cases m
  | .lst ts, v, h, a, m => by
    unfold Own at h
    obtain ⟨b, vs, rfl, h1, h2, h3⟩ := h
    rw [fp_lst h2] at m
    rcases List.mem_cons.mp m with rfl | m
    · intro u e ps z; rw [h2] at e; cases e; cases z
    · exact OwnL.nt ts h3 a m
  | .dic ks ts, v, h, a, m => by
    unfold Own at h
    obtain ⟨b, vs, rfl, h1, h2, _, h3⟩ := h
    rw [fp_dic h2] at m
    rcases List.mem_cons.mp m with rfl | m
    · intro u e ps z; rw [h2] at e; cases e; cases z
    · exact OwnL.nt ts h3 a m
  | .ins C ns ts, v, h, a, m => by
    unfold Own at h
    obtain ⟨b, dx, vs, rfl, h1, h2, _, h3⟩ := h
    rw [fp_ins h2] at m
    rcases List.mem_cons.mp m with rfl | m
    · intro u e ps z; rw [h2] at e; cases e; cases z
    · exact OwnL.nt ts h3 a m
theorem OwnL.nt : ∀ (ts : List T) {vs : List V}, OwnL K G H ts vs → ∀ a ∈ fpL H ts vs, ∀ u, H a = some u → NT u
  | [], vs, _, a, m => by rw [fpL_nil] at m; cases m
  | t :: ts, vs, h, a, m => by
    unfold OwnL at h
    obtain ⟨v, vs', rfl, h1, h2⟩ := h
    rw [fpL_cons] at m
    rcases List.mem_append.mp m with m | m
    · exact Own.nt t h1 a m
    · exact OwnL.nt ts h2 a m
end
mutual
theorem Own.go (e : Same G G') : ∀ (t : T) {v : V}, Own K G H t v → (∀ a ∈ fp H t v, H' a = H a ∧ G' a = none) → Own K G' H' t v ∧ fp H' t v = fp H t v
  | .fz d, v, h, k => by
    unfold Own at h ⊢
    exact ⟨h.mono e, by rw [fp_fz, fp_fz]⟩
  | .lst ts, v, h, k => by
    unfold Own at h ⊢
    obtain ⟨b, vs, rfl, h1, h2, h3⟩ := h
    rw [fp_lst h2] at k
    obtain ⟨k1, k2⟩ := k b List.mem_cons_self
    obtain ⟨o, f⟩ := OwnL.go e ts h3 fun a m => k a (List.mem_cons_of_mem _ m)
    rw [h2] at k1
    exact ⟨⟨b, vs, rfl, k2, k1, o⟩, by rw [fp_lst k1, fp_lst h2, f]⟩
  | .dic ks ts, v, h, k => by
    unfold Own at h ⊢
    obtain ⟨b, vs, rfl, h1, h2, h4, h3⟩ := h
    rw [fp_dic h2] at k
    obtain ⟨k1, k2⟩ := k b List.mem_cons_self
    obtain ⟨o, f⟩ := OwnL.go e ts h3 fun a m => k a (List.mem_cons_of_mem _ m)
    rw [h2] at k1
    exact ⟨⟨b, vs, rfl, k2, k1, h4, o⟩, by rw [fp_dic k1, fp_dic h2, f]⟩
  | .ins C ns ts, v, h, k => by
    unfold Own at h ⊢
    obtain ⟨b, dx, vs, rfl, h1, h2, h4, h3⟩ := h
    rw [fp_ins h2] at k
    obtain ⟨k1, k2⟩ := k b List.mem_cons_self
    obtain ⟨o, f⟩ := OwnL.go e ts h3 fun a m => k a (List.mem_cons_of_mem _ m)
    rw [h2] at k1
    exact ⟨⟨b, dx, vs, rfl, k2, k1, h4, o⟩, by rw [fp_ins k1, fp_ins h2, f]⟩
theorem OwnL.go (e : Same G G') : ∀ (ts : List T) {vs : List V}, OwnL K G H ts vs → (∀ a ∈ fpL H ts vs, H' a = H a ∧ G' a = none) → OwnL K G' H' ts vs ∧ fpL H' ts vs = fpL H ts vs
  | [], vs, h, k => by
    unfold OwnL at h ⊢
    exact ⟨h, by rw [fpL_nil, fpL_nil]⟩
  | t :: ts, vs, h, k => by
    unfold OwnL at h ⊢
    obtain ⟨v, vs', rfl, h1, h2⟩ := h
    rw [fpL_cons] at k
    obtain ⟨o1, f1⟩ := Own.go e t h1 fun a m => k a (List.mem_append_left _ m)
    obtain ⟨o2, f2⟩ := OwnL.go e ts h2 fun a m => k a (List.mem_append_right _ m)
    exact ⟨⟨v, vs', rfl, o1, o2⟩, by rw [fpL_cons, fpL_cons, f1, f2]⟩
end
/-- the frozen heap, with all of A -/
def frzA (G H : Hp) (A : List Addr) : Hp := fun b => if b ∈ A then H b else G b
theorem frzA_in {A : List Addr} {b : Addr} (h : b ∈ A) : frzA G H A b = H b := by unfold frzA; rw [if_pos h]
theorem frzA_out {A : List Addr} {b : Addr} (h : b ∉ A) : frzA G H A b = G b := by unfold frzA; rw [if_neg h]
theorem frzA_same {A : List Addr} (h : ∀ a ∈ A, G a = none) : Same G (frzA G H A) := fun b o e => by
  have : b ∉ A := fun m => by rw [h b m] at e; cases e
  rw [frzA_out this]; exact e
mutual
theorem Own.rep {G2 : Hp} (e : Same G G2) : ∀ (t : T) {v : V}, Own K G H t v → (∀ a ∈ fp H t v, G2 a = H a) → Rep K G2 t.d v
  | .fz d, v, h, k => by
    unfold Own at h
    unfold T.d
    exact h.mono e
  | .lst ts, v, h, k => by
    unfold Own at h
    obtain ⟨b, vs, rfl, h1, h2, h3⟩ := h
    rw [fp_lst h2] at k
    unfold T.d Rep
    exact ⟨b, vs, rfl, (k b List.mem_cons_self).trans h2, OwnL.rep e ts h3 fun a m => k a (List.mem_cons_of_mem _ m)⟩
  | .dic ks ts, v, h, k => by
    unfold Own at h
    obtain ⟨b, vs, rfl, h1, h2, h4, h3⟩ := h
    rw [fp_dic h2] at k
    unfold T.d Rep
    exact ⟨b, vs, rfl, .inl ((k b List.mem_cons_self).trans h2), h4, OwnL.rep e ts h3 fun a m => k a (List.mem_cons_of_mem _ m)⟩
  | .ins C ns ts, v, h, k => by
    unfold Own at h
    obtain ⟨b, dx, vs, rfl, h1, h2, h4, h3⟩ := h
    rw [fp_ins h2] at k
    unfold T.d Rep
    exact ⟨b, dx, vs, rfl, (k b List.mem_cons_self).trans h2, h4, OwnL.rep e ts h3 fun a m => k a (List.mem_cons_of_mem _ m)⟩
theorem OwnL.rep {G2 : Hp} (e : Same G G2) : ∀ (ts : List T) {vs : List V}, OwnL K G H ts vs → (∀ a ∈ fpL H ts vs, G2 a = H a) → RepL K G2 (T.ds ts) vs
  | [], vs, h, k => by
    unfold OwnL at h
    unfold T.ds RepL
    exact h
  | t :: ts, vs, h, k => by
    unfold OwnL at h
    obtain ⟨v, vs', rfl, h1, h2⟩ := h
    rw [fpL_cons] at k
    unfold T.ds RepL
    exact ⟨v, vs', rfl, Own.rep e t h1 fun a m => k a (List.mem_append_left _ m), OwnL.rep e ts h2 fun a m => k a (List.mem_append_right _ m)⟩
end

/-! ### flat trees, paths -/
@[simp] def T.isFz : T → Bool
  | .fz _ => true
  | _ => false
@[simp] def T.flat : T → Bool
  | .fz _ => false
  | .lst ts => ts.all T.isFz
  | .dic _ ts => ts.all T.isFz
  | .ins _ _ ts => ts.all T.isFz
@[simp] def T.kids : T → List T
  | .fz _ => []
  | .lst ts => ts
  | .dic _ ts => ts
  | .ins _ _ ts => ts
@[simp] def T.at : T → List Nat → Option T
  | t, [] => some t
  | t, k :: p => t.kids[k]?.bind fun u => u.at p
@[simp] def T.setKids : T → List T → T
  | .fz d, _ => .fz d
  | .lst _, ts => .lst ts
  | .dic ks _, ts => .dic ks ts
  | .ins C ns _, ts => .ins C ns ts
@[simp] def T.put : T → List Nat → T → T
  | _, [], u => u
  | t, k :: p, u => match t.kids[k]? with
    | some x => t.setKids (t.kids.set k (x.put p u))
    | none => t
def vkids : HO → List V
  | .lst vs => vs
  | .dK kvs => kvs.map (·.2)
  | .ins _ _ fs => fs.map (·.2)
  | _ => []
/-- the path p leads from the tree t at w to v -/
def At (H : Hp) : T → V → List Nat → V → Prop
  | _, w, [], v => v = w
  | t, w, k :: p, v => ∃ a o t' w', w = .ref a ∧ H a = some o ∧ t.kids[k]? = some t' ∧ (vkids o)[k]? = some w' ∧ At H t' w' p v
theorem ownL_fz : ∀ {ts : List T} {vs : List V}, ts.all T.isFz = true → OwnL K G H ts vs → RepL K G (T.ds ts) vs
  | [], vs, _, h => by unfold OwnL at h; unfold T.ds RepL; exact h
  | t :: ts, vs, hf, h => by
    unfold OwnL at h
    obtain ⟨v, vs', rfl, h1, h2⟩ := h
    rw [List.all_cons, Bool.and_eq_true] at hf
    unfold T.ds RepL
    refine ⟨v, vs', rfl, ?_, ownL_fz hf.2 h2⟩
    cases t with
    | fz d => unfold Own at h1; unfold T.d; exact h1
    | _ => exact absurd hf.1 (by simp)
theorem own_flat {t : T} {v : V} (hf : t.flat = true) (h : Own K G H t v) : ∃ a, v = .ref a ∧ OwnAt K G H a t.d := by
  cases t with
  | fz d => cases hf
  | lst ts =>
    unfold Own at h
    obtain ⟨a, vs, rfl, h1, h2, h3⟩ := h
    exact ⟨a, rfl, h1, _, h2, vs, rfl, ownL_fz hf h3⟩
  | dic ks ts =>
    unfold Own at h
    obtain ⟨a, kvs, rfl, h1, h2, h4, h3⟩ := h
    exact ⟨a, rfl, h1, _, h2, kvs, rfl, h4, ownL_fz hf h3⟩
  | ins C ns ts =>
    unfold Own at h
    obtain ⟨a, dx, fs, rfl, h1, h2, h4, h3⟩ := h
    exact ⟨a, rfl, h1, _, h2, dx, fs, rfl, h4, ownL_fz hf h3⟩
theorem ownL_get : ∀ {ts : List T} {vs : List V} {k : Nat} {v : V}, OwnL K G H ts vs → vs[k]? = some v → ∃ t, ts[k]? = some t ∧ Own K G H t v ∧ ∀ a ∈ fp H t v, a ∈ fpL H ts vs
  | [], vs, k, v, h, e => by unfold OwnL at h; subst h; simp at e
  | t :: ts, vs, k, v, h, e => by
    unfold OwnL at h
    obtain ⟨w, vs', rfl, h1, h2⟩ := h
    cases k with
    | zero => simp at e; subst e; exact ⟨t, rfl, h1, fun a m => by rw [fpL_cons]; exact List.mem_append_left _ m⟩
    | succ k =>
      simp at e
      obtain ⟨u, e1, h3, h4⟩ := ownL_get h2 e
      exact ⟨u, by simpa using e1, h3, fun a m => by rw [fpL_cons]; exact List.mem_append_right _ (h4 a m)⟩
theorem ownL_len : ∀ {ts : List T} {vs : List V}, OwnL K G H ts vs → ts.length = vs.length
  | [], vs, h => by unfold OwnL at h; subst h; rfl
  | t :: ts, vs, h => by
    unfold OwnL at h
    obtain ⟨w, vs', rfl, _, h2⟩ := h
    simp [ownL_len h2]
/-- an owned node -/
theorem own_node {t : T} {a : Addr} {o : HO} (h : Own K G H t (.ref a)) (ho : H a = some o) (hz : t.isFz = false) : G a = none ∧ OwnL K G H t.kids (vkids o) ∧ fp H t (.ref a) = a :: fpL H t.kids (vkids o) := by
  cases t with
  | fz d => cases hz
  | lst ts =>
    unfold Own at h
    obtain ⟨b, vs, e, h1, h2, h3⟩ := h
    cases e
    rw [ho] at h2; cases h2
    exact ⟨h1, h3, fp_lst ho⟩
  | dic ks ts =>
    unfold Own at h
    obtain ⟨b, kvs, e, h1, h2, _, h3⟩ := h
    cases e
    rw [ho] at h2; cases h2
    exact ⟨h1, h3, fp_dic ho⟩
  | ins C ns ts =>
    unfold Own at h
    obtain ⟨b, dx, fs, e, h1, h2, _, h3⟩ := h
    cases e
    rw [ho] at h2; cases h2
    exact ⟨h1, h3, fp_ins ho⟩
theorem own_at : ∀ (p : List Nat) {t : T} {w v : V}, Own K G H t w → At H t w p v → ∃ t0, t.at p = some t0 ∧ Own K G H t0 v ∧ ∀ a ∈ fp H t0 v, a ∈ fp H t w
  | [], t, w, v, h, e => by
    have e' : v = w := e
    subst e'
    exact ⟨t, by cases t <;> rfl, h, fun _ m => m⟩
  | k :: p, t, w, v, h, e => by
    obtain ⟨a, o, t', w', rfl, ho, hk, hv, e⟩ := e
    have hz : t.isFz = false := by
      cases t with
      | fz d => simp at hk
      | _ => rfl
    obtain ⟨_, h2, h3⟩ := own_node h ho hz
    obtain ⟨u, e1, h4, h5⟩ := ownL_get h2 hv
    rw [hk] at e1; cases e1
    obtain ⟨t0, e2, h6, h7⟩ := own_at p h4 e
    refine ⟨t0, ?_, h6, fun b m => by rw [h3]; exact List.mem_cons_of_mem _ (h5 b (h7 b m))⟩
    have : t.at (k :: p) = t.kids[k]?.bind fun u => u.at p := by cases t <;> rfl
    rw [this, hk]; exact e2
theorem at_go : ∀ (p : List Nat) {t : T} {w v : V}, Own K G H t w → (∀ a ∈ fp H t w, H' a = H a) → At H t w p v → At H' t w p v
  | [], _, _, _, _, _, e => e
  | k :: p, t, w, v, h, hk, e => by
    obtain ⟨a, o, t', w', rfl, ho, ht, hv, e⟩ := e
    have hz : t.isFz = false := by
      cases t with
      | fz d => simp at ht
      | _ => rfl
    obtain ⟨_, h2, h3⟩ := own_node h ho hz
    obtain ⟨u, e1, h4, h5⟩ := ownL_get h2 hv
    rw [ht] at e1; cases e1
    exact ⟨a, o, t', w', rfl, by rw [hk a (by rw [h3]; exact List.mem_cons_self)]; exact ho, ht, hv, at_go p h4 (fun b m => hk b (by rw [h3]; exact List.mem_cons_of_mem _ (h5 b m))) e⟩
end

/-! ## slots -/
@[simp] def Sl.d : Sl → D
  | .sh d => d
  | .own d => d
  | .io d => d
  | .dp t => t.d
  | .gh a _ _ => .obj a
def isMut (ρ : S) (i : Nat) : Prop := ∃ d, ρ[i]? = some (some (.own d)) ∨ ρ[i]? = some (some (.io d))
def isIo (ρ : S) (i : Nat) : Prop := ∃ d, ρ[i]? = some (some (.io d))
/-- a thing that only grows: a table of code objects, a code object, an exception's dict -/
def Stat (o : HO) : Prop := (∃ ps, o = .tbl ps) ∨ (∃ c q, o = LamX.CodeO c q) ∨ ∃ fs, o = .xd fs
/-- the things that only grow are there still -/
structure Fut (H H' : Hp) : Prop where
  tn : ∀ b ps, H' b = some (.tbl ps) → ∃ qs, H b = some (.tbl qs)
  at_ : ∀ b o, H b = some o → Stat o → (∀ ps, o ≠ .tbl ps) → H' b = some o
theorem Fut.refl (H : Hp) : Fut H H := ⟨fun _ ps h => ⟨ps, h⟩, fun _ _ h _ _ => h⟩
theorem Fut.trans {H H1 H2 : Hp} (a : Fut H H1) (b : Fut H1 H2) : Fut H H2 := ⟨fun c ps e => let ⟨_, e1⟩ := b.tn c ps e; a.tn c _ e1, fun c o e s n => b.at_ c o (a.at_ c o e s n) s n⟩
def SlR (K : PySem.W.Frag) (G H : Hp) (x : Option (Option V)) : Sl → Prop
  | .sh d => ∃ v, x = some (some v) ∧ Rep K G d v
  | .own d => ∃ a, x = some (some (.ref a)) ∧ OwnAt K G H a d
  | .io d => ∃ a, x = some (some (.ref a)) ∧ OwnAt K G H a d
  | .dp t => ∃ v, x = some (some v) ∧ Own K G H t v ∧ (fp H t v).Nodup
  | .gh a G0 H0 => x = some (some (.ref a)) ∧ Same G0 G ∧ Fut H0 H
/-- an address of a slot with an owned tree -/
def dpa (H : Hp) (σ : St) (ρ : S) (a : Addr) : Prop := ∃ (i : Nat) (t : T) (v : V), ρ[i]? = some (some (Sl.dp t)) ∧ σ[i]? = some (some v) ∧ a ∈ fp H t v
def ads (H : Hp) (σ : St) (ρ : S) (a : Addr) : Prop := (∃ i, isMut ρ i ∧ σ[i]? = some (some (.ref a))) ∨ dpa H σ ρ a
/-- the trees stand apart -/
structure DpR (H : Hp) (σ : St) (ρ : S) : Prop where
  dd : ∀ (i j : Nat) (t u : T) (v w : V) (a : Addr), ρ[i]? = some (some (Sl.dp t)) → σ[i]? = some (some v) → ρ[j]? = some (some (Sl.dp u)) → σ[j]? = some (some w) → a ∈ fp H t v → a ∈ fp H u w → i = j
  ds : ∀ (a : Addr) (i : Nat), dpa H σ ρ a → isMut ρ i → σ[i]? ≠ some (some (.ref a))
/-- the law's tables are there, and no others -/
def TbOk (K : PySem.W.Frag) (H : Hp) : Prop := LamX.Tabs (tbT K) H ∧ ∀ b ps, H b = some (.tbl ps) → ∃ q, (b, q) ∈ tbT K
structure Rel (K : PySem.W.Frag) (G H : Hp) (σ : St) (ρ : S) : Prop where
  len : ρ.length = σ.length
  sub : Sub G H
  sl : ∀ (i : Nat) (s : Sl), ρ[i]? = some (some s) → SlR K G H σ[i]? s
  dis : ∀ (i j : Nat) (a : Addr), isMut ρ i → isMut ρ j → σ[i]? = some (some (.ref a)) → σ[j]? = some (some (.ref a)) → i = j
  dp : DpR H σ ρ
  tt : TbOk K H
structure Stp (A : Addr → Prop) (G H G' H' : Hp) : Prop where
  gg : Same G G'
  keep : ∀ b o, H b = some o → (na : ¬ A b) → (nt : NT o) → H' b = some o
  thr : ∀ b, H' b = none → H b = none
  fr : ∀ b, H b ≠ none → ¬ A b → G b = none → G' b = none
  tb : Fut H H'
structure Ker (ρ ρ' : S) : Prop where
  mu : ∀ i, isMut ρ' i → isMut ρ i
  io : ∀ i, isIo ρ i → isIo ρ' i
  dp : ∀ (i : Nat) (t : T), ρ'[i]? = some (some (Sl.dp t)) → ρ[i]? = some (some (Sl.dp t))
structure Out (K : PySem.W.Frag) (G H : Hp) (σ : St) (ρ : S) (G' H' : Hp) (ρ' : S) : Prop where
  rel : Rel K G' H' σ ρ'
  stp : Stp (ads H σ ρ) G H G' H'
  ker : Ker ρ ρ'
  nw : ∀ a, ads H' σ ρ' a → H a ≠ none → ads H σ ρ a
  tre : ∀ a, dpa H σ ρ a → H' a = H a
  rel0 : Rel K G H σ ρ
section
variable {K : PySem.W.Frag} {G H G1 H1 G2 H2 : Hp} {σ : St} {ρ ρ1 ρ2 : S} {A A1 : Addr → Prop}
theorem Stp.refl : Stp A G H G H := ⟨Same.refl _, fun _ _ h _ _ => h, fun _ h => h, fun _ _ _ h => h, .refl _⟩
theorem tabs_stat {H H' : Hp} (h : ∀ b o, H b = some o → Stat o → H' b = some o) {T : List (Addr × Str)} (t : LamX.Tabs T H) : LamX.Tabs T H' := fun p hp => by
  obtain ⟨ps, h1, h2, h3⟩ := t p hp
  refine ⟨ps, h _ _ h1 (.inl ⟨ps, rfl⟩), h2, fun pos cv hc => ?_⟩
  obtain ⟨c, e1, e2⟩ := h3 pos cv hc
  exact ⟨c, e1, h _ _ e2 (.inr (.inl ⟨_, _, rfl⟩))⟩
theorem cont_stat {K : PySem.W.Frag} {G : Hp} {d : D} {o : HO} (h : Cont K G d o) : ¬ Stat o := by
  cases d with
  | lst ds => obtain ⟨vs, rfl, _⟩ := h; rintro (⟨ps, z⟩ | ⟨c, q, z⟩ | ⟨fs, z⟩) <;> (try unfold LamX.CodeO at z) <;> cases z
  | dic ks ds => obtain ⟨vs, rfl, _⟩ := h; rintro (⟨ps, z⟩ | ⟨c, q, z⟩ | ⟨fs, z⟩) <;> (try unfold LamX.CodeO at z) <;> cases z
  | ins C ns ds => obtain ⟨dx, vs, rfl, _⟩ := h; rintro (⟨ps, z⟩ | ⟨c, q, z⟩ | ⟨fs, z⟩) <;> (try unfold LamX.CodeO at z) <;> cases z
  | _ => exact h.elim
theorem cont_nt {K : PySem.W.Frag} {G : Hp} {d : D} {o : HO} (h : Cont K G d o) : NT o := fun ps z => cont_stat h (.inl ⟨ps, z⟩)
theorem lst_stat {us : List V} : ¬ Stat (.lst us) := by
  rintro (⟨ps, z⟩ | ⟨c, q, z⟩ | ⟨fs, z⟩)
  · cases z
  · unfold LamX.CodeO at z; cases z
  · cases z
theorem dK_stat {us : List (Key × V)} : ¬ Stat (.dK us) := by
  rintro (⟨ps, z⟩ | ⟨c, q, z⟩ | ⟨fs, z⟩)
  · cases z
  · unfold LamX.CodeO at z; cases z
  · cases z
theorem frz_stat {o : Obj} {u : HO} : ¬ Stat (.frz o u) := by
  rintro (⟨ps, z⟩ | ⟨c, q, z⟩ | ⟨fs, z⟩)
  · cases z
  · unfold LamX.CodeO at z; cases z
  · cases z
/-- what is not static at a is changed -/
theorem tbU {K : PySem.W.Frag} {H : Hp} {a : Addr} {u : HO} (h : ∀ o, H a = some o → ¬ Stat o) (t : TbOk K H) (hu : NT u := by intro _ z; cases z) : TbOk K (upd H a u) :=
  ⟨tabs_stat (fun b o e s => by
    by_cases hb : b = a
    · subst hb; exact absurd s (h o e)
    · rw [upd_ne hb]; exact e) t.1, fun b ps e => by
    by_cases hb : b = a
    · subst hb; rw [upd_same] at e; exact absurd (Option.some.inj e) (hu ps)
    · rw [upd_ne hb] at e; exact t.2 b ps e⟩
theorem tabs_upd {H : Hp} {a : Addr} {u : HO} (h : ∀ o, H a = some o → ¬ Stat o) (hu : NT u := by intro _ z; cases z) : Fut H (upd H a u) :=
  ⟨fun b ps e => by
    by_cases hb : b = a
    · subst hb; rw [upd_same] at e; exact absurd (Option.some.inj e) (hu ps)
    · rw [upd_ne hb] at e; exact ⟨ps, e⟩, fun b o e s _ => by
    by_cases hb : b = a
    · subst hb; exact absurd s (h o e)
    · rw [upd_ne hb]; exact e⟩
theorem Stp.trans (a : Stp A G H G1 H1) (b : Stp A1 G1 H1 G2 H2) (h : ∀ c, H c ≠ none → A1 c → A c) : Stp A G H G2 H2 where
  gg := a.gg.trans b.gg
  keep := fun c o e n t => b.keep c o (a.keep c o e n t) (fun z => n (h c (by rw [e]; simp) z)) t
  thr := fun c e => a.thr c (b.thr c e)
  fr := fun c e n g => b.fr c (fun z => e (a.thr c z)) (fun z => n (h c e z)) (a.fr c e n g)
  tb := a.tb.trans b.tb
theorem Stp.mono (a : Stp A G H G1 H1) (h : ∀ c, H c ≠ none → A c → A1 c) : Stp A1 G H G1 H1 :=
  ⟨a.gg, fun b o e n t => a.keep b o e (fun z => n (h b (by rw [e]; simp) z)) t, a.thr, fun b e n => a.fr b e fun z => n (h b e z), a.tb⟩
theorem Ker.refl : Ker ρ ρ := ⟨fun _ h => h, fun _ h => h, fun _ _ h => h⟩
theorem Ker.trans (a : Ker ρ ρ1) (b : Ker ρ1 ρ2) : Ker ρ ρ2 := ⟨fun i h => a.mu i (b.mu i h), fun i h => b.io i (a.io i h), fun i t h => a.dp i t (b.dp i t h)⟩
theorem Stp.up (a : Stp A G H G1 H1) {c : Addr} (h : H c ≠ none) : H1 c ≠ none := fun z => h (a.thr c z)
/-- the trees stay where their things do -/
theorem Rel.tree (r : Rel K G H σ ρ) {i : Nat} {t : T} (e : ρ[i]? = some (some (Sl.dp t))) : ∃ v, σ[i]? = some (some v) ∧ Own K G H t v ∧ (fp H t v).Nodup := r.sl i _ e
theorem Rel.fp_eq {ρ' : S} {σ' : St} (r : Rel K G H σ ρ) (g : Same G G1) (h : ∀ a, dpa H σ ρ a → H1 a = H a ∧ G1 a = none) (k : ∀ (i : Nat) (t : T), ρ'[i]? = some (some (Sl.dp t)) → ρ[i]? = some (some (Sl.dp t)) ∧ σ'[i]? = σ[i]?) :
    ∀ (i : Nat) (t : T), ρ'[i]? = some (some (Sl.dp t)) → ∃ v, σ'[i]? = some (some v) ∧ Own K G1 H1 t v ∧ (fp H1 t v).Nodup ∧ fp H1 t v = fp H t v ∧ σ[i]? = some (some v) := fun i t e => by
  obtain ⟨k1, k2⟩ := k i t e
  obtain ⟨v, e1, o, nd⟩ := r.tree k1
  obtain ⟨o', f⟩ := o.go g t fun a m => h a ⟨i, t, v, k1, e1, m⟩
  exact ⟨v, k2.trans e1, o', by rw [f]; exact nd, f, e1⟩
theorem Rel.trees {ρ' : S} {σ' : St} (r : Rel K G H σ ρ) (g : Same G G1) (h : ∀ a, dpa H σ ρ a → H1 a = H a ∧ G1 a = none) (k : ∀ (i : Nat) (t : T), ρ'[i]? = some (some (Sl.dp t)) → ρ[i]? = some (some (Sl.dp t)) ∧ σ'[i]? = σ[i]?)
    (m : ∀ (i : Nat) (a : Addr), isMut ρ' i → dpa H σ ρ a → σ'[i]? ≠ some (some (.ref a))) : DpR H1 σ' ρ' ∧ ∀ a, dpa H1 σ' ρ' a → dpa H σ ρ a := by
  have q := r.fp_eq g h k
  have w : ∀ a, dpa H1 σ' ρ' a → dpa H σ ρ a := fun a ⟨i, t, v, e1, e2, hm⟩ => by
    obtain ⟨v', e3, _, _, f, e4⟩ := q i t e1
    rw [e2] at e3; cases e3
    exact ⟨i, t, v, (k i t e1).1, e4, by rw [← f]; exact hm⟩
  refine ⟨⟨fun i j t u v x a e1 e2 e3 e4 m1 m2 => ?_, fun a i h1 h2 => m i a h2 (w a h1)⟩, w⟩
  obtain ⟨v', e5, _, _, f, e6⟩ := q i t e1
  rw [e2] at e5; cases e5
  obtain ⟨x', e7, _, _, f', e8⟩ := q j u e3
  rw [e4] at e7; cases e7
  exact r.dp.dd i j t u v x a (k i t e1).1 e6 (k j u e3).1 e8 (by rw [← f]; exact m1) (by rw [← f']; exact m2)
theorem Rel.dpaH {a : Addr} (r : Rel K G H σ ρ) (h : dpa H σ ρ a) : H a ≠ none ∧ G a = none := by
  obtain ⟨i, t, v, e1, e2, m⟩ := h
  obtain ⟨v', e3, o, _⟩ := r.tree e1
  rw [e2] at e3; cases e3
  exact ⟨(o.in_ t a m).2, (o.in_ t a m).1⟩

theorem Rel.dpaNT {a : Addr} {u : HO} (r : Rel K G H σ ρ) (h : dpa H σ ρ a) (e : H a = some u) : NT u := by
  obtain ⟨i, t, v, e1, e2, m⟩ := h
  obtain ⟨v', e3, o, _⟩ := r.tree e1
  rw [e2] at e3; cases e3
  exact o.nt t a m u e
theorem Out.refl (r : Rel K G H σ ρ) : Out K G H σ ρ G H ρ := ⟨r, .refl, .refl, fun _ h _ => h, fun _ _ => rfl, r⟩
theorem Out.trans (a : Out K G H σ ρ G1 H1 ρ1) (b : Out K G1 H1 σ ρ1 G2 H2 ρ2) : Out K G H σ ρ G2 H2 ρ2 :=
  ⟨b.rel, a.stp.trans b.stp fun c e z => a.nw c z e, a.ker.trans b.ker, fun c z e => a.nw c (b.nw c z (a.stp.up e)) e, fun c h => by
    have h1 := a.tre c h
    by_cases z : ads H1 σ ρ1 c
    · rcases z with ⟨j, m, e⟩ | z
      · exact absurd e (a.rel0.dp.ds c j h (a.ker.mu j m))
      · rw [b.tre c z, h1]
    · cases e : H1 c with
      | none => rw [h1] at e; exact absurd e (a.rel0.dpaH h).1
      | some u => rw [b.stp.keep c u e z (by
          obtain ⟨i, t, v, e1, e2, m⟩ := h
          obtain ⟨v', e3, o, _⟩ := a.rel0.tree e1
          rw [e2] at e3; cases e3
          exact o.nt t c m u (by rw [← h1]; exact e)), ← h1, e], a.rel0⟩

/-! ### new objects -/
theorem same_new {p : Addr} {o : HO} (h : G p = none) : Same G (upd G p o) := fun b u e => by
  rw [upd_ne (ne_of_none e h)]
  exact e
theorem lk_ne {x : Option HO} {o : HO} (h : Lk x o) : x ≠ none := by
  rcases h with (h | ⟨_, _, _, h⟩) | ⟨_, _, h⟩ <;> rw [h] <;> simp
theorem lk_upd {p b : Addr} {o u : HO} (hp : H p = none) (h : Lk (H b) o) : Lk (upd H p u b) o := by
  have : b ≠ p := fun z => lk_ne h (by rw [z]; exact hp)
  rw [upd_ne this]
  exact h
theorem OwnAt.new {p a : Addr} {d : D} {o : HO} (hp : H p = none) (h : OwnAt K G H a d) : OwnAt K G (upd H p o) a d := by
  obtain ⟨h1, u, h2, h3⟩ := h
  exact ⟨h1, u, by rw [upd_ne (ne_of_none h2 hp)]; exact h2, h3⟩
theorem OwnAt.grow {p a : Addr} {d : D} {o : HO} (hg : G p = none) (hn : a ≠ p) (h : OwnAt K G H a d) : OwnAt K (upd G p o) H a d := by
  obtain ⟨h1, u, h2, h3⟩ := h
  exact ⟨by rw [upd_ne hn]; exact h1, u, h2, h3.mono (same_new hg)⟩
/-- a new owned (or dropped) object -/
theorem Rel.new {p : Addr} {o : HO} (r : Rel K G H σ ρ) (hp : H p = none) (ho : NT o := by intro _ z; cases z) : Rel K G (upd H p o) σ ρ where
  len := r.len
  sub := fun b u e => lk_upd hp (r.sub b u e)
  sl := fun i s e => by
    have h := r.sl i s e
    cases s with
    | sh d => exact h
    | own d => obtain ⟨a, e1, h⟩ := h; exact ⟨a, e1, h.new hp⟩
    | io d => obtain ⟨a, e1, h⟩ := h; exact ⟨a, e1, h.new hp⟩
    | gh a g0 h0 => obtain ⟨e1, h1, h2⟩ := h; exact ⟨e1, h1, h2.trans (tabs_upd (fun o e => by rw [hp] at e; cases e) ho)⟩
    | dp t =>
      obtain ⟨v, e1, h1, h2, _⟩ := r.fp_eq (Same.refl _) (fun a h => ⟨upd_ne fun z => (r.dpaH h).1 (by rw [z]; exact hp), (r.dpaH h).2⟩) (fun _ _ e => ⟨e, rfl⟩) i t e
      exact ⟨v, e1, h1, h2⟩
  dis := r.dis
  dp := (r.trees (Same.refl _) (fun a h => ⟨upd_ne fun z => (r.dpaH h).1 (by rw [z]; exact hp), (r.dpaH h).2⟩) (fun _ _ e => ⟨e, rfl⟩) fun i a m h => r.dp.ds a i h m).1
  tt := tbU (fun o e => by rw [hp] at e; cases e) r.tt ho
theorem Stp.new {p : Addr} {o : HO} (hp : H p = none) (ho : NT o := by intro _ z; cases z) : Stp A G H G (upd H p o) where
  gg := Same.refl _
  keep := fun b u e _ _ => by rw [upd_ne (ne_of_none e hp)]; exact e
  thr := fun b e => by
    by_cases h : b = p
    · rw [h]; exact hp
    · rw [upd_ne h] at e; exact e
  fr := fun _ _ _ h => h
  tb := tabs_upd (fun o e => by rw [hp] at e; cases e) ho
/-- what is not of a slot is frozen -/
theorem Rel.grow {p : Addr} {o : HO} (r : Rel K G H σ ρ) (hg : G p = none) (hp : H p = some o) (hn : ¬ ads H σ ρ p) : Rel K (upd G p o) H σ ρ where
  len := r.len
  sub := fun b u e => by
    by_cases h : b = p
    · subst h; rw [upd_same] at e; cases e; exact .inl (.inl hp)
    · rw [upd_ne h] at e; exact r.sub b u e
  sl := fun i s e => by
    have h := r.sl i s e
    cases s with
    | sh d => obtain ⟨v, e1, h⟩ := h; exact ⟨v, e1, Rep.mono (same_new hg) _ h⟩
    | own d => obtain ⟨a, e1, h⟩ := h; exact ⟨a, e1, h.grow hg fun z => hn (.inl ⟨i, ⟨d, .inl e⟩, by rw [← z]; exact e1⟩)⟩
    | io d => obtain ⟨a, e1, h⟩ := h; exact ⟨a, e1, h.grow hg fun z => hn (.inl ⟨i, ⟨d, .inr e⟩, by rw [← z]; exact e1⟩)⟩
    | gh a g0 h0 => obtain ⟨e1, h1, h2⟩ := h; exact ⟨e1, h1.trans (same_new hg), h2⟩
    | dp t =>
      obtain ⟨v, e1, h1, h2, _⟩ := r.fp_eq (G1 := upd G p o) (same_new hg) (fun a h => ⟨rfl, by rw [upd_ne fun z => hn (by rw [← z]; exact .inr h)]; exact (r.dpaH h).2⟩) (fun _ _ e => ⟨e, rfl⟩) i t e
      exact ⟨v, e1, h1, h2⟩
  dis := r.dis
  dp := r.dp
  tt := r.tt
theorem Rel.adsH {a : Addr} (r : Rel K G H σ ρ) (h : ads H σ ρ a) : H a ≠ none ∧ G a = none := by
  rcases h with h | h
  rotate_left
  · exact r.dpaH h
  obtain ⟨i, ⟨d, m⟩, e⟩ := h
  rcases m with m | m
  · obtain ⟨b, e1, h1, o, h2, _⟩ := r.sl i _ m
    rw [e] at e1; cases e1
    exact ⟨by rw [h2]; simp, h1⟩
  · obtain ⟨b, e1, h1, o, h2, _⟩ := r.sl i _ m
    rw [e] at e1; cases e1
    exact ⟨by rw [h2]; simp, h1⟩
theorem Rel.ads_new {p : Addr} {o : HO} (r : Rel K G H σ ρ) (hp : H p = none) {a : Addr} (h : ads (upd H p o) σ ρ a) : ads H σ ρ a := by
  rcases h with h | h
  · exact .inl h
  · exact .inr ((r.trees (Same.refl _) (fun a h => ⟨upd_ne fun z => (r.dpaH h).1 (by rw [z]; exact hp), (r.dpaH h).2⟩) (fun _ _ e => ⟨e, rfl⟩) fun i a m h => r.dp.ds a i h m).2 a h)
theorem Out.new {p : Addr} {o : HO} (r : Rel K G H σ ρ) (hp : H p = none) (ho : NT o := by intro _ z; cases z) : Out K G H σ ρ G (upd H p o) ρ := ⟨r.new hp ho, .new hp ho, .refl, fun _ h _ => r.ads_new hp h, fun a h => upd_ne fun z => (r.dpaH h).1 (by rw [z]; exact hp), r⟩
/-- a new object, frozen at once -/
theorem Out.lay {p : Addr} {o : HO} (r : Rel K G H σ ρ) (hp : H p = none) (ho : NT o := by intro _ z; cases z) : Out K G H σ ρ (upd G p o) (upd H p o) ρ := by
  have hg := r.sub.none hp
  refine ⟨(r.new hp ho).grow hg upd_same fun z => (r.adsH (r.ads_new hp z)).1 hp, ⟨same_new hg, (Stp.new (A := ads H σ ρ) (G := G) hp ho).keep, (Stp.new (A := ads H σ ρ) (G := G) hp ho).thr, fun b e _ g => ?_, (Stp.new (A := ads H σ ρ) (G := G) hp ho).tb⟩, .refl, fun _ h _ => r.ads_new hp h, (Out.new r hp ho).tre, r⟩
  rw [upd_ne fun z => e (by rw [z]; exact hp)]
  exact g
end

/-! ## handles -/
inductive Hd where
  | val (d : D) | slot (i : Nat) | tmp (d : D) | tpd (t : T) | sub (i : Nat) (p : List Nat)
def Hold (K : PySem.W.Frag) (Hs G H : Hp) (σ : St) (ρ : S) : Hd → V → Prop
  | .val d, v => Rep K G d v
  | .slot i, v => σ[i]? = some (some v)
  | .tmp d, v => ∃ p, v = .ref p ∧ OwnAt K G H p d ∧ Hs p = none ∧ ¬ ads H σ ρ p
  | .tpd t, v => Own K G H t v ∧ (fp H t v).Nodup ∧ ∀ p ∈ fp H t v, Hs p = none ∧ ¬ ads H σ ρ p
  | .sub i p, v => ∃ w, σ[i]? = some (some w) ∧ ∀ t, ρ[i]? = some (some (Sl.dp t)) → At H t w p v
@[simp] def flatD (t : T) : Option D := if t.flat = true then some t.d else none
theorem flatD_eq {t : T} {d : D} (h : flatD t = some d) : t.flat = true ∧ d = t.d := by
  unfold flatD at h
  split at h
  · cases h; exact ⟨by assumption, rfl⟩
  · cases h
@[simp] def look : Hd → S → Option D
  | .val d, _ => some d
  | .tmp d, _ => some d
  | .tpd _, _ => none
  | .slot i, ρ => match ρ[i]? with
    | some (some (.sh d)) => some d
    | some (some (.own d)) => some d
    | some (some (.io d)) => some d
    | some (some (.dp t)) => flatD t
    | _ => none
  | .sub i p, ρ => match ρ[i]? with
    | some (some (.dp t)) => (t.at p).bind flatD
    | _ => none
@[simp] def share : Hd → S → Option (D × S)
  | .val d, ρ => some (d, ρ)
  | .tmp d, ρ => some (d, ρ)
  | .tpd t, ρ => some (t.d, ρ)
  | .slot i, ρ => match ρ[i]? with
    | some (some (.own d)) => some (d, ρ.set i (some (.sh d)))
    | some (some (.sh d)) => some (d, ρ)
    | some (some (Sl.dp t)) => some (t.d, ρ.set i (some (.sh t.d)))
    | _ => none
  | .sub _ _, _ => none
def RepP (K : PySem.W.Frag) (G H : Hp) (d : D) (v : V) : Prop := Rep K G d v ∨ ∃ a, v = .ref a ∧ OwnAt K G H a d
section
variable {K : PySem.W.Frag} {Hs Hs' G H G1 H1 : Hp} {σ : St} {ρ ρ1 : S} {v : V} {hd : Hd} {d : D}
theorem hold_look (r : Rel K G H σ ρ) (h : Hold K Hs G H σ ρ hd v) (e : look hd ρ = some d) : RepP K G H d v := by
  cases hd with
  | val d' => cases e; exact .inl h
  | tmp d' => cases e; obtain ⟨p, e1, h1, _⟩ := h; exact .inr ⟨p, e1, h1⟩
  | slot i =>
    have h' : σ[i]? = some (some v) := h
    replace e : (match ρ[i]? with | some (some (.sh d)) => some d | some (some (.own d)) => some d | some (some (.io d)) => some d | some (some (.dp t)) => flatD t | _ => none) = some d := e
    split at e
    · rename_i d0 q
      cases e
      obtain ⟨w, e1, h1⟩ := r.sl i _ q; rw [h'] at e1; cases e1; exact .inl h1
    · rename_i d0 q
      cases e
      obtain ⟨a, e1, h1⟩ := r.sl i _ q; rw [h'] at e1; cases e1; exact .inr ⟨a, rfl, h1⟩
    · rename_i d0 q
      cases e
      obtain ⟨a, e1, h1⟩ := r.sl i _ q; rw [h'] at e1; cases e1; exact .inr ⟨a, rfl, h1⟩
    · rename_i t0 q
      obtain ⟨hf, rfl⟩ := flatD_eq e
      obtain ⟨w, e1, h1, _⟩ := r.tree q; rw [h'] at e1; cases e1
      exact .inr (own_flat hf h1)
    · cases e
  | tpd t => cases e
  | sub i p =>
    obtain ⟨w, hw, ha⟩ := h
    replace e : (match ρ[i]? with | some (some (.dp t)) => (t.at p).bind flatD | _ => none) = some d := e
    split at e
    · rename_i t q
      obtain ⟨w', e1, h1, _⟩ := r.tree q; rw [hw] at e1; cases e1
      obtain ⟨t0, e2, h2, _⟩ := own_at p h1 (ha t q)
      rw [e2] at e
      obtain ⟨hf, rfl⟩ := flatD_eq (show flatD t0 = some d from e)
      exact .inr (own_flat hf h2)
    · cases e
theorem Hold.pers (o : Out K G H σ ρ G1 H1 ρ1) (h : Hold K Hs G H σ ρ hd v) : Hold K Hs G1 H1 σ ρ1 hd v := by
  cases hd with
  | sub i p =>
    obtain ⟨w, hw, ha⟩ := h
    refine ⟨w, hw, fun t q => ?_⟩
    have q' := o.ker.dp i t q
    obtain ⟨w', e1, h1, _⟩ := o.rel0.tree q'; rw [hw] at e1; cases e1
    exact at_go p h1 (fun a m => o.tre a ⟨i, t, w, q', hw, m⟩) (ha t q')
  | val d' => exact Rep.mono o.stp.gg _ h
  | slot i => exact h
  | tmp d' =>
    obtain ⟨p, e1, ⟨h1, u, h2, h3⟩, h4, h5⟩ := h
    exact ⟨p, e1, ⟨o.stp.fr p (by rw [h2]; simp) h5 h1, u, o.stp.keep p u h2 h5 (cont_nt h3), h3.mono o.stp.gg⟩, h4, fun z => h5 (o.nw p z (by rw [h2]; simp))⟩
  | tpd t =>
    obtain ⟨h1, h2, h3⟩ := h
    obtain ⟨h4, h5⟩ := h1.go (G' := G1) (H' := H1) o.stp.gg t fun a m => by
      obtain ⟨x, y⟩ := h1.in_ t a m
      refine ⟨?_, o.stp.fr a y (h3 a m).2 x⟩
      cases e : H a with
      | none => exact absurd e y
      | some u => exact o.stp.keep a u e (h3 a m).2 (h1.nt t a m u e)
    exact ⟨h4, by rw [h5]; exact h2, fun p m => by rw [h5] at m; exact ⟨(h3 p m).1, fun z => (h3 p m).2 (o.nw p z (h1.in_ t p m).2)⟩⟩
theorem Hold.back (k : ∀ b, Hs b = none → Hs' b = none) (h : Hold K Hs G H σ ρ hd v) : Hold K Hs' G H σ ρ hd v := by
  cases hd with
  | val d' => exact h
  | slot i => exact h
  | tmp d' => obtain ⟨p, e1, h2, h4, h5⟩ := h; exact ⟨p, e1, h2, k p h4, h5⟩
  | tpd t => obtain ⟨h1, h2, h3⟩ := h; exact ⟨h1, h2, fun p m => ⟨k p (h3 p m).1, (h3 p m).2⟩⟩
  | sub i p => exact h
theorem isMut_set {i j : Nat} {x : Option Sl} (h : isMut (ρ.set i x) j) (hx : ∀ d, x ≠ some (.own d) ∧ x ≠ some (.io d)) : j ≠ i ∧ isMut ρ j := by
  obtain ⟨d, h⟩ := h
  by_cases e : i = j
  · subst e
    rw [List.getElem?_set] at h
    simp only [if_true] at h
    split at h
    · rcases h with h | h
      · exact absurd (Option.some.inj h) (hx d).1
      · exact absurd (Option.some.inj h) (hx d).2
    · rcases h with h | h <;> cases h
  · rw [List.getElem?_set_ne e] at h
    exact ⟨fun z => e z.symm, d, h⟩
/-- an owned slot is frozen -/
theorem Rel.freeze {i : Nat} (r : Rel K G H σ ρ) (e : ρ[i]? = some (some (.own d))) (hv : σ[i]? = some (some v)) : ∃ G', Out K G H σ ρ G' H (ρ.set i (some (.sh d))) ∧ Rep K G' d v := by
  obtain ⟨a, e1, hg, o, ho, hc⟩ := r.sl i _ e
  rw [hv] at e1; cases e1
  have hil : i < ρ.length := (List.getElem?_eq_some_iff.mp e).1
  have hs : Same G (upd G a o) := same_new hg
  have adsA : ads H σ ρ a := .inl ⟨i, ⟨d, .inl e⟩, hv⟩
  have ndp : ∀ b, dpa H σ ρ b → b ≠ a := fun b h z => r.dp.ds b i h ⟨d, .inl e⟩ (by rw [z]; exact hv)
  have kdp : ∀ (j : Nat) (t : T), (ρ.set i (some (.sh d)))[j]? = some (some (Sl.dp t)) → ρ[j]? = some (some (Sl.dp t)) := fun j t q => by
    by_cases hj : i = j
    · subst hj; rw [List.getElem?_set_self hil] at q; cases q
    · rw [List.getElem?_set_ne hj] at q; exact q
  have gdp : ∀ b, dpa H σ ρ b → H b = H b ∧ upd G a o b = none := fun b h => ⟨rfl, by rw [upd_ne (ndp b h)]; exact (r.dpaH h).2⟩
  have mset : ∀ j, isMut (ρ.set i (some (.sh d))) j → j ≠ i ∧ isMut ρ j := fun j h => isMut_set h fun d => ⟨nofun, nofun⟩
  have rp : Rep K (upd G a o) d (.ref a) := Cont.rep upd_same (hc.mono hs)
  refine ⟨upd G a o, ⟨⟨by rw [List.length_set]; exact r.len, fun b u q => ?_, fun j s q => ?_, fun j k b m1 m2 => r.dis j k b (mset j m1).2 (mset k m2).2, (r.trees hs gdp (fun j t q => ⟨kdp j t q, rfl⟩) fun j b m h => r.dp.ds b j h (mset j m).2).1, r.tt⟩, ⟨hs, fun _ _ h _ _ => h, fun _ h => h, fun b _ n g => ?_, .refl _⟩, ⟨fun j m => (mset j m).2, fun j m => ?_, kdp⟩, fun b h _ => ?_, fun _ _ => rfl, r⟩, rp⟩
  · by_cases h : b = a
    · subst h; rw [upd_same] at q; cases q; exact .inl (.inl ho)
    · rw [upd_ne h] at q; exact r.sub b u q
  · by_cases hj : i = j
    · subst hj
      rw [List.getElem?_set_self hil] at q; cases q
      exact ⟨_, hv, rp⟩
    · rw [List.getElem?_set_ne hj] at q
      have z := r.sl j s q
      cases s with
      | sh d' => obtain ⟨w, e2, h⟩ := z; exact ⟨w, e2, Rep.mono hs _ h⟩
      | own d' => obtain ⟨b, e2, h⟩ := z; exact ⟨b, e2, h.grow hg fun z => hj (r.dis i j a ⟨d, .inl e⟩ ⟨d', .inl q⟩ hv (by rw [← z]; exact e2))⟩
      | io d' => obtain ⟨b, e2, h⟩ := z; exact ⟨b, e2, h.grow hg fun z => hj (r.dis i j a ⟨d, .inl e⟩ ⟨d', .inr q⟩ hv (by rw [← z]; exact e2))⟩
      | gh b g0 h0 => obtain ⟨e1, h1, h2⟩ := z; exact ⟨e1, h1.trans hs, h2⟩
      | dp t =>
        obtain ⟨w, e2, h1, h2, _⟩ := r.fp_eq hs gdp (fun _ _ e => ⟨e, rfl⟩) j t q
        exact ⟨w, e2, h1, h2⟩
  · rw [upd_ne fun z => n (by rw [z]; exact adsA)]; exact g
  · obtain ⟨d', m⟩ := m
    refine ⟨d', ?_⟩
    by_cases hj : i = j
    · subst hj; rw [e] at m; cases m
    · rw [List.getElem?_set_ne hj]; exact m
  · rcases h with ⟨j, m, q⟩ | ⟨j, t, w, q1, q2, q3⟩
    · exact .inl ⟨j, (mset j m).2, q⟩
    · exact .inr ⟨j, t, w, kdp j t q1, q2, q3⟩
/-- a slot with an owned tree is frozen -/
theorem Rel.freezeT {i : Nat} {t : T} (r : Rel K G H σ ρ) (e : ρ[i]? = some (some (Sl.dp t))) (hv : σ[i]? = some (some v)) : ∃ G', Out K G H σ ρ G' H (ρ.set i (some (.sh t.d))) ∧ Rep K G' t.d v := by
  obtain ⟨v', e1, ho, nd⟩ := r.tree e
  rw [hv] at e1; cases e1
  have hil : i < ρ.length := (List.getElem?_eq_some_iff.mp e).1
  have inA : ∀ a ∈ fp H t v, ads H σ ρ a := fun a m => .inr ⟨i, t, v, e, hv, m⟩
  have hs : Same G (frzA G H (fp H t v)) := frzA_same fun a m => (ho.in_ t a m).1
  have mset : ∀ j, isMut (ρ.set i (some (.sh t.d))) j → j ≠ i ∧ isMut ρ j := fun j h => isMut_set h fun d => ⟨nofun, nofun⟩
  have rp : Rep K (frzA G H (fp H t v)) t.d v := ho.rep hs t fun a m => frzA_in m
  have kdp : ∀ (j : Nat) (u : T), (ρ.set i (some (.sh t.d)))[j]? = some (some (Sl.dp u)) → ρ[j]? = some (some (Sl.dp u)) ∧ i ≠ j := fun j u q => by
    by_cases hj : i = j
    · subst hj; rw [List.getElem?_set_self hil] at q; cases q
    · rw [List.getElem?_set_ne hj] at q; exact ⟨q, hj⟩
  have other : ∀ (j : Nat) (u : T) (w : V), ρ[j]? = some (some (Sl.dp u)) → i ≠ j → σ[j]? = some (some w) → ∀ a ∈ fp H u w, a ∉ fp H t v := fun j u w q hj q2 a m m2 => hj (r.dp.dd i j t u v w a e hv q q2 m2 m)
  have gt : ∀ (j : Nat) (u : T) (w : V), ρ[j]? = some (some (Sl.dp u)) → i ≠ j → σ[j]? = some (some w) → Own K G H u w → Own K (frzA G H (fp H t v)) H u w := fun j u w q hj q2 ow =>
    (ow.go (H' := H) hs u fun a m => ⟨rfl, by rw [frzA_out (other j u w q hj q2 a m)]; exact (ow.in_ u a m).1⟩).1
  have fl : ∀ (j : Nat) (a : Addr), isMut ρ j → σ[j]? = some (some (.ref a)) → a ∉ fp H t v := fun j a m q z => r.dp.ds a j ⟨i, t, v, e, hv, z⟩ m q
  refine ⟨frzA G H (fp H t v), ⟨⟨by rw [List.length_set]; exact r.len, fun b u q => ?_, fun j s q => ?_, fun j k b m1 m2 => r.dis j k b (mset j m1).2 (mset k m2).2, ⟨fun j k u x w y a q1 q2 q3 q4 => r.dp.dd j k u x w y a (kdp j u q1).1 q2 (kdp k x q3).1 q4, fun a j h m => ?_⟩, r.tt⟩, ⟨hs, fun _ _ h _ _ => h, fun _ h => h, fun b _ n g => ?_, .refl _⟩, ⟨fun j m => (mset j m).2, fun j m => ?_, fun j u q => (kdp j u q).1⟩, fun b h _ => ?_, fun _ _ => rfl, r⟩, rp⟩
  · by_cases h : b ∈ fp H t v
    · rw [frzA_in h] at q; exact .inl (.inl q)
    · rw [frzA_out h] at q; exact r.sub b u q
  · by_cases hj : i = j
    · subst hj
      rw [List.getElem?_set_self hil] at q; cases q
      exact ⟨_, hv, rp⟩
    · rw [List.getElem?_set_ne hj] at q
      have z := r.sl j s q
      cases s with
      | sh d' => obtain ⟨w, e2, h⟩ := z; exact ⟨w, e2, Rep.mono hs _ h⟩
      | own d' => obtain ⟨b, e2, h1, o, h2, h3⟩ := z; exact ⟨b, e2, by rw [frzA_out (fl j b ⟨d', .inl q⟩ e2)]; exact h1, o, h2, h3.mono hs⟩
      | io d' => obtain ⟨b, e2, h1, o, h2, h3⟩ := z; exact ⟨b, e2, by rw [frzA_out (fl j b ⟨d', .inr q⟩ e2)]; exact h1, o, h2, h3.mono hs⟩
      | gh b g0 h0 => obtain ⟨e1, h1, h2⟩ := z; exact ⟨e1, h1.trans hs, h2⟩
      | dp u => obtain ⟨w, e2, h1, h2⟩ := z; exact ⟨w, e2, gt j u w q hj e2 h1, h2⟩
  · obtain ⟨j', u, w, q1, q2, q3⟩ := h
    exact r.dp.ds a j ⟨j', u, w, (kdp j' u q1).1, q2, q3⟩ (mset j m).2
  · rw [frzA_out fun z => n (inA b z)]; exact g
  · obtain ⟨d', m⟩ := m
    refine ⟨d', ?_⟩
    by_cases hj : i = j
    · subst hj; rw [e] at m; cases m
    · rw [List.getElem?_set_ne hj]; exact m
  · rcases h with ⟨j, m, q⟩ | ⟨j, u, w, q1, q2, q3⟩
    · exact .inl ⟨j, (mset j m).2, q⟩
    · exact .inr ⟨j, u, w, (kdp j u q1).1, q2, q3⟩
/-- a new tree is frozen -/
theorem Rel.growT {t : T} (r : Rel K G H σ ρ) (ho : Own K G H t v) (hn : ∀ a ∈ fp H t v, ¬ ads H σ ρ a) : Rel K (frzA G H (fp H t v)) H σ ρ := by
  have hs : Same G (frzA G H (fp H t v)) := frzA_same fun a m => (ho.in_ t a m).1
  have fl : ∀ a, ads H σ ρ a → frzA G H (fp H t v) a = none := fun a h => by rw [frzA_out fun z => hn a z h]; exact (r.adsH h).2
  refine ⟨r.len, fun b u q => ?_, fun j s q => ?_, r.dis, r.dp, r.tt⟩
  · by_cases h : b ∈ fp H t v
    · rw [frzA_in h] at q; exact .inl (.inl q)
    · rw [frzA_out h] at q; exact r.sub b u q
  · have z := r.sl j s q
    cases s with
    | sh d' => obtain ⟨w, e2, h⟩ := z; exact ⟨w, e2, Rep.mono hs _ h⟩
    | own d' => obtain ⟨b, e2, h1, o, h2, h3⟩ := z; exact ⟨b, e2, fl b (.inl ⟨j, ⟨d', .inl q⟩, e2⟩), o, h2, h3.mono hs⟩
    | io d' => obtain ⟨b, e2, h1, o, h2, h3⟩ := z; exact ⟨b, e2, fl b (.inl ⟨j, ⟨d', .inr q⟩, e2⟩), o, h2, h3.mono hs⟩
    | gh b g0 h0 => obtain ⟨e1, h1, h2⟩ := z; exact ⟨e1, h1.trans hs, h2⟩
    | dp u =>
      obtain ⟨w, e2, h1, h2⟩ := z
      exact ⟨w, e2, (h1.go (H' := H) hs u fun a m => ⟨rfl, fl a (.inr ⟨j, u, w, q, e2, m⟩)⟩).1, h2⟩
theorem share_ok {Gs : Hp} {ρs ρ' : S} (o : Out K Gs Hs σ ρs G H ρ) (h : Hold K Hs G H σ ρ hd v) (e : share hd ρ = some (d, ρ')) : ∃ G', Out K Gs Hs σ ρs G' H ρ' ∧ Same G G' ∧ Rep K G' d v := by
  cases hd with
  | val d' => cases e; exact ⟨G, o, Same.refl _, h⟩
  | tmp d' =>
    cases e
    obtain ⟨p, e1, ⟨h1, u, h2, h3⟩, h4, h5⟩ := h
    subst e1
    have hs : Same G (upd G p u) := same_new h1
    refine ⟨upd G p u, ⟨o.rel.grow h1 h2 h5, ⟨o.stp.gg.trans hs, o.stp.keep, o.stp.thr, fun b q n g => ?_, o.stp.tb⟩, o.ker, o.nw, o.tre, o.rel0⟩, hs, Cont.rep upd_same (h3.mono hs)⟩
    rw [upd_ne fun z => q (by rw [z]; exact h4)]
    exact o.stp.fr b q n g
  | tpd t =>
    cases e
    obtain ⟨h1, h2, h3⟩ := h
    have hs : Same G (frzA G H (fp H t v)) := frzA_same fun a m => (h1.in_ t a m).1
    refine ⟨_, ⟨o.rel.growT h1 fun a m => (h3 a m).2, ⟨o.stp.gg.trans hs, o.stp.keep, o.stp.thr, fun b q n g => ?_, o.stp.tb⟩, o.ker, o.nw, o.tre, o.rel0⟩, hs, h1.rep hs t fun a m => frzA_in m⟩
    rw [frzA_out fun z => q (h3 b z).1]
    exact o.stp.fr b q n g
  | sub i p => cases e
  | slot i =>
    have h' : σ[i]? = some (some v) := h
    replace e : (match ρ[i]? with | some (some (.own d)) => some (d, ρ.set i (some (.sh d))) | some (some (.sh d)) => some (d, ρ) | some (some (.dp t)) => some (t.d, ρ.set i (some (.sh t.d))) | _ => none) = some (d, ρ') := e
    split at e
    · rename_i d0 q
      cases e
      obtain ⟨G', o', rp⟩ := o.rel.freeze q h'
      exact ⟨G', o.trans o', o'.stp.gg, rp⟩
    · rename_i d0 q
      cases e
      obtain ⟨w, e1, h1⟩ := o.rel.sl i _ q
      rw [h'] at e1; cases e1
      exact ⟨G, o, Same.refl _, h1⟩
    · rename_i t0 q
      cases e
      obtain ⟨G', o', rp⟩ := o.rel.freezeT q h'
      exact ⟨G', o.trans o', o'.stp.gg, rp⟩
    · cases e
end
end BR
set_option Elab.async false
set_option linter.all false
set_option maxRecDepth 100000
set_option maxHeartbeats 4000000
namespace BR
open PySem L2

/-! ## expressions -/
abbrev EF := S → R (Hd × S)
def ExR (K : PySem.W.Frag) (G H : Hp) (x : Exc) (c : Value) (d : Option Addr) : Prop :=
  c = x.cls ∧ ((∃ dx fs, d = some dx ∧ H dx = some (.xd fs) ∧ fs.map (·.1) = x.ns ∧ RepL K G x.xs (fs.map (·.2))) ∨ (x.ns = [] ∧ x.xs = []))
def W0 : WX := fun _ _ _ _ => False
/-- where an exception is raised -/
structure OutX (K : PySem.W.Frag) (G H : Hp) (σ : St) (ρ : S) (G' H' : Hp) (σ' : St) (ρ' : S) : Prop where
  rel : Rel K G' H' σ' ρ'
  stp : Stp (ads H σ ρ) G H G' H'
  nw : ∀ a, ads H' σ' ρ' a → H a ≠ none → ads H σ ρ a
  io : ∀ i, isIo ρ i → σ'[i]? = σ[i]?
def ExE (K : PySem.W.Frag) (E : WX) (G H : Hp) (σ : St) (ρ : S) (x : Exc) : Prop :=
  ∀ c d σ' G' H', OutX K G H σ ρ G' H' σ' x.st → ExR K G' H' x c d → E c d σ' H'
@[simp] def raiseAt {α : Type} (ρ : S) : R α → R α
  | .exc x => .exc { x with st := ρ }
  | r => r
theorem Wp.raised {α : Type} {r : R α} {ρ : S} {P : α → Prop} {E : Exc → Prop} (h : Wp (raiseAt ρ r) P E) : Wp r P fun x => E { x with st := ρ } := by
  cases r <;> exact h
@[simp] theorem raiseAt_ok {α : Type} (ρ : S) (a : α) : raiseAt ρ (R.ok a) = R.ok a := rfl
def Snd (K : PySem.W.Frag) (E : WX) (t : TE) (f : EF) : Prop := ∀ (G H : Hp) (σ : St) (ρ : S), Rel K G H σ ρ → ∀ Q : VK,
  Wp (f ρ) (fun z => ∀ v G' H', Out K G H σ ρ G' H' z.2 → Hold K H G' H' σ z.2 z.1 v → Q v H') (ExE K E G H σ ρ) → t σ H Q
def SndV (K : PySem.W.Frag) (E : WX) (t : TE) (f : S → R (D × S)) : Prop := ∀ (G H : Hp) (σ : St) (ρ : S), Rel K G H σ ρ → ∀ Q : VK,
  Wp (f ρ) (fun z => ∀ v G' H', Out K G H σ ρ G' H' z.2 → Rep K G' z.1 v → Q v H') (ExE K E G H σ ρ) → t σ H Q
def SndT (K : PySem.W.Frag) (E : WX) (t : TT) (f : S → R (Bool × S)) : Prop := ∀ (G H : Hp) (σ : St) (ρ : S), Rel K G H σ ρ → ∀ Q : Bool → Hp → Prop,
  Wp (f ρ) (fun z => ∀ G' H', Out K G H σ ρ G' H' z.2 → Q z.1 H') (ExE K E G H σ ρ) → t σ H Q
/-- shared arguments -/
def SndA (K : PySem.W.Frag) (E : WX) (t : TA) (f : S → R (List D × S)) : Prop := ∀ (G H : Hp) (σ : St) (ρ : S), Rel K G H σ ρ → ∀ Q : List V → Hp → Prop,
  Wp (f ρ) (fun z => ∀ vs G' H', Out K G H σ ρ G' H' z.2 → RepL K G' z.1 vs → Q vs H') (ExE K E G H σ ρ) → t σ H Q
inductive HoldL (K : PySem.W.Frag) (Hs G H : Hp) (σ : St) (ρ : S) : List Hd → List V → Prop where
  | nil : HoldL K Hs G H σ ρ [] []
  | cons {h : Hd} {hs : List Hd} {v : V} {vs : List V} : Hold K Hs G H σ ρ h v → HoldL K Hs G H σ ρ hs vs → HoldL K Hs G H σ ρ (h :: hs) (v :: vs)
/-- arguments by their handles -/
def SndH (K : PySem.W.Frag) (E : WX) (t : TA) (f : S → R (List Hd × S)) : Prop := ∀ (G H : Hp) (σ : St) (ρ : S), Rel K G H σ ρ → ∀ Q : List V → Hp → Prop,
  Wp (f ρ) (fun z => ∀ vs G' H', Out K G H σ ρ G' H' z.2 → HoldL K H G' H' σ z.2 z.1 vs → Q vs H') (ExE K E G H σ ρ) → t σ H Q

structure PR (X : Cx) (E : WX) (e : Expr) (f : EF) : Prop where
  ex : ∃ t, PE X e t ∧ Snd X.K E t f
structure PV (X : Cx) (E : WX) (e : Expr) (f : S → R (D × S)) : Prop where
  ex : ∃ t, PE X e t ∧ SndV X.K E t f
structure PB (X : Cx) (E : WX) (e : Expr) (f : S → R (Bool × S)) : Prop where
  ex : ∃ t, PT X e t ∧ SndT X.K E t f
/-- a test of and, or -/
structure PBw (X : Cx) (E : WX) (e : Expr) (f : S → R (Bool × S)) : Prop where
  ex : ∃ t, PW X e t ∧ SndT X.K E t f
structure PAs (X : Cx) (E : WX) (es : List Expr) (f : S → R (List D × S)) : Prop where
  ex : ∃ t, PA X es t ∧ SndA X.K E t f
structure PHs (X : Cx) (E : WX) (es : List Expr) (f : S → R (List Hd × S)) : Prop where
  ex : ∃ t, PA X es t ∧ SndH X.K E t f

section
variable {K : PySem.W.Frag} {E : WX} {G H G1 H1 Hs Hs' : Hp} {σ : St} {ρ ρ1 : S}
theorem Out.toX {σ' : St} {G' H' : Hp} {ρ' : S} (o : Out K G H σ ρ G1 H1 ρ1) (x : OutX K G1 H1 σ ρ1 G' H' σ' ρ') : OutX K G H σ ρ G' H' σ' ρ' :=
  ⟨x.rel, o.stp.trans x.stp fun c e z => o.nw c z e, fun c z e => o.nw c (x.nw c z (o.stp.up e)) e, fun i h => x.io i (o.ker.io i h)⟩
theorem ExE.step {x : Exc} (o : Out K G H σ ρ G1 H1 ρ1) (h : ExE K E G H σ ρ x) : ExE K E G1 H1 σ ρ1 x := fun c d σ' G' H' s r =>
  h c d σ' G' H' (o.toX s) r
theorem HoldL.pers (o : Out K G H σ ρ G1 H1 ρ1) : ∀ {hs : List Hd} {vs : List V}, HoldL K Hs G H σ ρ hs vs → HoldL K Hs G1 H1 σ ρ1 hs vs
  | _, _, .nil => .nil
  | _, _, .cons h t => .cons (h.pers o) (t.pers o)
theorem HoldL.back (k : ∀ b, Hs b = none → Hs' b = none) : ∀ {hs : List Hd} {vs : List V}, HoldL K Hs G H σ ρ hs vs → HoldL K Hs' G H σ ρ hs vs
  | _, _, .nil => .nil
  | _, _, .cons h t => .cons (h.back k) (t.back k)
end

/-! ### a shared value -/
@[simp] def eV (f : EF) : S → R (D × S) := fun ρ => f ρ >>= fun z => ofO (share z.1 z.2)
section
variable {X : Cx} {E : WX} {e : Expr} {es : List Expr} {f : EF}
theorem PR.v (h : PR X E e f) : PV X E e (eV f) := by
  obtain ⟨t, pe, s⟩ := h.ex
  refine ⟨t, pe, fun G H σ ρ r Q hw => s G H σ ρ r Q (hw.bind.mono (fun z _ q v G' H' o h => ?_) fun _ _ q => q)⟩
  cases e1 : share z.1 z.2 with
  | none => rw [e1] at q; exact q.elim
  | some y =>
    rw [e1] at q
    obtain ⟨d, ρ'⟩ := y
    obtain ⟨G2, o2, _, rp⟩ := share_ok o h e1
    exact q v G2 H' o2 rp
@[simp] def aNil : S → R (List D × S) := fun ρ => .ok ([], ρ)
@[simp] def aCons (f : S → R (D × S)) (g : S → R (List D × S)) : S → R (List D × S) := fun ρ => f ρ >>= fun z => g z.2 >>= fun y => .ok (z.1 :: y.1, y.2)
theorem as_nil : PAs X E [] aNil := ⟨_, pa_nil, fun G H σ ρ r Q hw => hw [] G H (.refl r) .nil⟩
theorem as_cons {f : S → R (D × S)} {g : S → R (List D × S)} (h1 : PV X E e f) (h2 : PAs X E es g) (hs : starEach (e :: es) X.env = (false, eval e X.env) :: starEach es X.env := by rfl) : PAs X E (e :: es) (aCons f g) := by
  obtain ⟨t, pe, s⟩ := h1.ex
  obtain ⟨t2, pa, s2⟩ := h2.ex
  refine ⟨_, pa_cons pe pa hs, fun G H σ ρ r Q hw => s G H σ ρ r _ (hw.bind.mono (fun z _ q v G' H' o h => ?_) fun _ _ q => q)⟩
  refine s2 G' H' σ z.2 o.rel _ (q.bind.mono (fun y _ q2 vs G2 H2 o2 h2 => ?_) fun _ _ q2 => q2.step o)
  exact q2 (v :: vs) G2 H2 (o.trans o2) (.cons (Rep.mono o2.stp.gg _ h) h2)
@[simp] def hNil : S → R (List Hd × S) := fun ρ => .ok ([], ρ)
@[simp] def hCons (f : EF) (g : S → R (List Hd × S)) : S → R (List Hd × S) := fun ρ => f ρ >>= fun z => g z.2 >>= fun y => .ok (z.1 :: y.1, y.2)
theorem hs_nil : PHs X E [] hNil := ⟨_, pa_nil, fun G H σ ρ r Q hw => hw [] G H (.refl r) .nil⟩
theorem hs_cons {g : S → R (List Hd × S)} (h1 : PR X E e f) (h2 : PHs X E es g) (hs : starEach (e :: es) X.env = (false, eval e X.env) :: starEach es X.env := by rfl) : PHs X E (e :: es) (hCons f g) := by
  obtain ⟨t, pe, s⟩ := h1.ex
  obtain ⟨t2, pa, s2⟩ := h2.ex
  refine ⟨_, pa_cons pe pa hs, fun G H σ ρ r Q hw => s G H σ ρ r _ (hw.bind.mono (fun z _ q v G' H' o h => ?_) fun _ _ q => q)⟩
  refine s2 G' H' σ z.2 o.rel _ (q.bind.mono (fun y _ q2 vs G2 H2 o2 h2 => ?_) fun _ _ q2 => q2.step o)
  exact q2 (v :: vs) G2 H2 (o.trans o2) (.cons (h.pers o2) (h2.back o.stp.thr))

/-! ### names, constants -/
@[simp] def eVar (i : Nat) : EF := fun ρ => match ρ[i]? with
  | some (some (.sh d)) => .ok (.val d, ρ)
  | some (some (.own _)) => .ok (.slot i, ρ)
  | some (some (.io _)) => .ok (.slot i, ρ)
  | some (some (.dp _)) => .ok (.slot i, ρ)
  | _ => .no
theorem pr_var (i : Nat) {x : Str} {pos : Pos} (hN : X.N[i]? = some x := by rfl) (hv : Vis X.env.scope x := by first | exact Or.inl rfl | exact Or.inr (Or.inl rfl) | exact Or.inr (Or.inr rfl)) (hd : (x == ("__debug__" : Str)) = false := by decide)
    (hcd : (x == ("__classdict__" : Str)) = false := by decide) : PR X E (.Name x pos) (eVar i) := by
  refine ⟨_, pe_var (i := i) hN hv hd hcd, fun G H σ ρ r Q hw => ?_⟩
  unfold eVar at hw
  split at hw
  · rename_i d q
    obtain ⟨v, e1, h⟩ := r.sl i _ q
    exact ⟨v, e1, hw v G H (.refl r) h⟩
  · rename_i d q
    obtain ⟨a, e1, h⟩ := r.sl i _ q
    exact ⟨_, e1, hw _ G H (.refl r) e1⟩
  · rename_i d q
    obtain ⟨a, e1, h⟩ := r.sl i _ q
    exact ⟨_, e1, hw _ G H (.refl r) e1⟩
  · rename_i d q
    obtain ⟨a, e1, h⟩ := r.sl i _ q
    exact ⟨_, e1, hw _ G H (.refl r) e1⟩
  · exact hw.elim
@[simp] def eK (d : D) : EF := fun ρ => .ok (.val d, ρ)
theorem pr_const {d : D} {v : V} (h : PE X e (tC v)) (hr : ∀ G, Rep X.K G d v) : PR X E e (eK d) :=
  ⟨_, h, fun G H σ ρ r Q hw => hw v G H (.refl r) (hr G)⟩
theorem rep_int {K : PySem.W.Frag} {G : Hp} {i : Int} : Rep K G (.int i) (.int i) := by unfold Rep; rfl
theorem rep_bl {K : PySem.W.Frag} {G : Hp} {i : Bool} : Rep K G (.bl i) (.bl i) := by unfold Rep; rfl
theorem rep_non {K : PySem.W.Frag} {G : Hp} : Rep K G .non .non := by unfold Rep; rfl
theorem rep_str {K : PySem.W.Frag} {G : Hp} {x : Str} : Rep K G (.str x) (.str x) := by unfold Rep; rfl
theorem rep_ty {K : PySem.W.Frag} {G : Hp} {x : String} : Rep K G (.ty x) (.ty x) := by unfold Rep; rfl
theorem rep_obj {K : PySem.W.Frag} {G : Hp} {a : Addr} : Rep K G (.obj a) (.ref a) := by unfold Rep; rfl
theorem pr_int {i j pos} : PR X E (.Constant (.int i) j pos) (eK (.int i)) := pr_const pe_int fun _ => rep_int
theorem pr_bl {i j pos} : PR X E (.Constant (.bool i) j pos) (eK (.bl i)) := pr_const pe_bl fun _ => rep_bl
theorem pr_non {j pos} : PR X E (.Constant .none j pos) (eK .non) := pr_const pe_non fun _ => rep_non
theorem pr_str {x j pos} : PR X E (.Constant (.str x) j pos) (eK (.str x)) := pr_const pe_str fun _ => rep_str
theorem pr_gint {x : Str} {i : Int} {pos : Pos} (hg : Gl X x) (hm : ∃ t, X.mg x = some (.int i t)) (hd : (x == ("__debug__" : Str)) = false := by decide) : PR X E (.Name x pos) (eK (.int i)) :=
  let ⟨t, hm⟩ := hm
  pr_const (pe_glob (v := .int i) hg hm ⟨t, rfl⟩ hd) fun _ => rep_int
theorem pr_gstr {x z : Str} {pos : Pos} (hg : Gl X x) (hm : ∃ t, X.mg x = some (.str z t)) (hd : (x == ("__debug__" : Str)) = false := by decide) : PR X E (.Name x pos) (eK (.str z)) :=
  let ⟨t, hm⟩ := hm
  pr_const (pe_glob (v := .str z) hg hm ⟨t, rfl⟩ hd) fun _ => rep_str
theorem pr_gobj {x : Str} {a : Addr} {pos : Pos} (hg : Gl X x) (hm : X.mg x = some (.ref a)) (hd : (x == ("__debug__" : Str)) = false := by decide) : PR X E (.Name x pos) (eK (.obj a)) :=
  pr_const (pe_glob (v := .ref a) hg hm rfl hd) fun _ => rep_obj
theorem pr_type {x : Str} {n : String} {pos : Pos} (hg : Gl X x) (hm : X.mg x = none) (hv : bootBuiltins x = some (.type n)) (hn : x ≠ "__name__" := by decide) (hd : (x == ("__debug__" : Str)) = false := by decide) : PR X E (.Name x pos) (eK (.ty n)) :=
  pr_const (pe_bltn (v := .ty n) hg hm hv rfl hn hd) fun _ => rep_ty
end

/-! ### results of operations -/
inductive Rz where
  | im (d : D) | nw (d : D)
@[simp] def fin : Rz → S → R (Hd × S)
  | .im d, ρ => .ok (.val d, ρ)
  | .nw d, ρ => .ok (.tmp d, ρ)
def ResP (K : PySem.W.Frag) (G H : Hp) (Q : VK) : Rz → Prop
  | .im d => ∀ v, Rep K G d v → Q v H
  | .nw d => ∀ p o, H p = none → Cont K G d o → Q (.ref p) (upd H p o)
section
variable {K : PySem.W.Frag} {G H Gs Hs : Hp} {σ : St} {ρ ρs : S}
theorem fin_ok {E : Exc → Prop} {z : Rz} {Q : VK} (o : Out K Gs Hs σ ρs G H ρ) (h : Wp (fin z ρ) (fun z => ∀ v G' H', Out K Gs Hs σ ρs G' H' z.2 → Hold K Hs G' H' σ z.2 z.1 v → Q v H') E) : ResP K G H Q z := by
  cases z with
  | im d => exact fun v hv => h v G H o hv
  | nw d =>
    intro p u hp hc
    have hg := o.rel.sub.none hp
    refine h (.ref p) G (upd H p u) (o.trans (.new o.rel hp (cont_nt hc))) ⟨p, rfl, ⟨hg, u, upd_same, hc⟩, o.stp.thr p hp, fun z => (o.rel.adsH (o.rel.ads_new hp z)).1 hp⟩
end
/-- an operation of two values -/
def OpD (K : PySem.W.Frag) (r : R2) (g : D → D → Option Rz) : Prop := ∀ (G H : Hp) (x y : D) (v w : V), Sub G H → RepP K G H x v → RepP K G H y w → ∀ (z : Rz) (Q : VK), g x y = some z → ResP K G H Q z → r v w H Q
def UnD (K : PySem.W.Frag) (r : V → Hp → VK → Prop) (g : D → Option Rz) : Prop := ∀ (G H : Hp) (x : D) (v : V), Sub G H → RepP K G H x v → ∀ (z : Rz) (Q : VK), g x = some z → ResP K G H Q z → r v H Q
@[simp] def eOp2 (g : D → D → Option Rz) (fa fb : EF) : EF := fun ρ => fa ρ >>= fun z1 => fb z1.2 >>= fun z2 => ofO (look z1.1 z2.2) >>= fun x => ofO (look z2.1 z2.2) >>= fun y => ofO (g x y) >>= fun r => fin r z2.2
@[simp] def eOp1 (g : D → Option Rz) (fa : EF) : EF := fun ρ => fa ρ >>= fun z1 => ofO (look z1.1 z1.2) >>= fun x => ofO (g x) >>= fun r => fin r z1.2
section
variable {X : Cx} {E : WX} {a b : Expr} {fa fb : EF} {pos : Pos} {r : R2} {g : D → D → Option Rz}
theorem snd_op2 {K : PySem.W.Frag} {ta tb : TE} (hg : OpD K r g) (sa : Snd K E ta fa) (sb : Snd K E tb fb) : Snd K E (tOp r ta tb) (eOp2 g fa fb) := by
  intro G H σ ρ R Q hw
  refine sa G H σ ρ R _ (hw.bind.mono (fun z1 _ q v G1 H1 o1 h1 => ?_) fun _ _ q => q)
  refine sb G1 H1 σ z1.2 o1.rel _ (q.bind.mono (fun z2 _ q2 w G2 H2 o2 h2 => ?_) fun _ _ q2 => q2.step o1)
  obtain ⟨x, ex, q2⟩ := q2.opt
  obtain ⟨y, ey, q2⟩ := q2.opt
  obtain ⟨z, ez, q2⟩ := q2.opt
  exact hg G2 H2 x y v w o2.rel.sub (hold_look o2.rel (h1.pers o2) ex) (hold_look o2.rel h2 ey) z Q ez (fin_ok (o1.trans o2) q2)
theorem pr_bin {op : Operator} (ho : OpR X (binaryOp op) r) (hg : OpD X.K r g) (pa : PR X E a fa) (pb : PR X E b fb) : PR X E (.BinOp a op b pos) (eOp2 g fa fb) := by
  obtain ⟨ta, pa, sa⟩ := pa.ex
  obtain ⟨tb, pb, sb⟩ := pb.ex
  exact ⟨_, pe_op ho pa pb, snd_op2 hg sa sb⟩
theorem pr_cmp {op : CmpOp} (ho : OpR X (compareOp op) r) (hg : OpD X.K r g) (pa : PR X E a fa) (pb : PR X E b fb) (hm : behindInMarks op b = false) : PR X E (.Compare a [op] [b] pos) (eOp2 g fa fb) := by
  obtain ⟨ta, pa, sa⟩ := pa.ex
  obtain ⟨tb, pb, sb⟩ := pb.ex
  exact ⟨_, pe_cmpR ho pa pb hm, snd_op2 hg sa sb⟩
theorem pr_un {op : UnaryOp} {r : V → Hp → VK → Prop} {g : D → Option Rz} (ho : UnR X (unaryOp op) r) (hg : UnD X.K r g) (pa : PR X E a fa) : PR X E (.UnaryOp op a pos) (eOp1 g fa) := by
  obtain ⟨ta, pa, sa⟩ := pa.ex
  refine ⟨_, pe_un ho pa, fun G H σ ρ R Q hw => ?_⟩
  refine sa G H σ ρ R _ (hw.bind.mono (fun z1 _ q v G1 H1 o1 h1 => ?_) fun _ _ q => q)
  obtain ⟨x, ex, q2⟩ := q.opt
  obtain ⟨z, ez, q2⟩ := q2.opt
  exact hg G1 H1 x v o1.rel.sub (hold_look o1.rel h1 ex) z Q ez (fin_ok o1 q2)
/-- o[i], by values -/
theorem pr_ix {r : R2} (hr : IxR X r) (hg : OpD X.K r g) (pa : PR X E a fa) (pb : PR X E b fb) (hs : PlainIx b) : PR X E (.Subscript a b pos) (eOp2 g fa fb) := by
  obtain ⟨ta, pa, sa⟩ := pa.ex
  obtain ⟨tb, pb, sb⟩ := pb.ex
  exact ⟨_, pe_ix hr pa pb hs, snd_op2 hg sa sb⟩
end
/-- a chain of two comparisons of ints: a op b op' c -/
@[simp] def eChain (p p' : Int → Int → Bool) (fa fb fc : EF) : EF := fun ρ => fa ρ >>= fun z1 => fb z1.2 >>= fun z2 => ofO (look z1.1 z2.2) >>= fun x => ofO (look z2.1 z2.2) >>= fun y =>
  match x, y with
  | .int i, .int j => if p i j = true then fc z2.2 >>= fun z3 => ofO (look z3.1 z3.2) >>= fun u => (match u with
      | .int k => .ok (.val (.bl (p' j k)), z3.2)
      | _ => .no) else .ok (.val (.bl false), z2.2)
  | _, _ => .no
theorem Hold.val {K : PySem.W.Frag} {Hs G H : Hp} {σ : St} {ρ : S} {d : D} {v : V} (h : Rep K G d v) : Hold K Hs G H σ ρ (.val d) v := h
theorem RepP.int {K : PySem.W.Frag} {G H : Hp} {i : Int} {v : V} (h : RepP K G H (.int i) v) : v = .int i := by
  rcases h with h | ⟨a, _, _, o, _, h⟩
  · unfold Rep at h; exact h
  · exact h.elim
theorem RepP.bl {K : PySem.W.Frag} {G H : Hp} {i : Bool} {v : V} (h : RepP K G H (.bl i) v) : v = .bl i := by
  rcases h with h | ⟨a, _, _, o, _, h⟩
  · unfold Rep at h; exact h
  · exact h.elim
theorem RepP.str {K : PySem.W.Frag} {G H : Hp} {i : Str} {v : V} (h : RepP K G H (.str i) v) : v = .str i := by
  rcases h with h | ⟨a, _, _, o, _, h⟩
  · unfold Rep at h; exact h
  · exact h.elim
theorem RepP.non {K : PySem.W.Frag} {G H : Hp} {v : V} (h : RepP K G H .non v) : v = .non := by
  rcases h with h | ⟨a, _, _, o, _, h⟩
  · unfold Rep at h; exact h
  · exact h.elim
theorem RepP.ty {K : PySem.W.Frag} {G H : Hp} {n : String} {v : V} (h : RepP K G H (.ty n) v) : v = .ty n := by
  rcases h with h | ⟨a, _, _, o, _, h⟩
  · unfold Rep at h; exact h
  · exact h.elim
theorem RepP.obj {K : PySem.W.Frag} {G H : Hp} {n : Addr} {v : V} (h : RepP K G H (.obj n) v) : v = .ref n := by
  rcases h with h | ⟨a, _, _, o, _, h⟩
  · unfold Rep at h; exact h
  · exact h.elim
theorem RepP.lst {K : PySem.W.Frag} {G H : Hp} {ds : List D} {v : V} (s : Sub G H) (h : RepP K G H (.lst ds) v) : ∃ a vs, v = .ref a ∧ H a = some (.lst vs) ∧ RepL K G ds vs := by
  rcases h with h | ⟨a, e, _, o, ho, vs, rfl, h⟩
  · unfold Rep at h
    obtain ⟨a, vs, e, h1, h2⟩ := h
    exact ⟨a, vs, e, s.ls h1, h2⟩
  · exact ⟨a, vs, e, ho, h⟩
theorem RepP.scr {K : PySem.W.Frag} {G H : Hp} {ns : List Int} {v : V} (s : Sub G H) (h : RepP K G H (.scr ns) v) : ∃ a, v = .ref a ∧ SqL K H a (ns.map V.int) := by
  rcases h with h | ⟨a, e, _, o, ho, h⟩
  · unfold Rep at h
    obtain ⟨a, e, h1⟩ := h
    exact ⟨a, e, s.l h1⟩
  · exact h.elim
theorem RepP.tup {K : PySem.W.Frag} {G H : Hp} {ds : List D} {v : V} (s : Sub G H) (h : RepP K G H (.tup ds) v) : ∃ a vs, v = .ref a ∧ SqT K H a vs ∧ RepL K G ds vs := by
  rcases h with h | ⟨a, e, _, o, ho, h⟩
  · unfold Rep at h
    obtain ⟨a, vs, e, h1, h2⟩ := h
    exact ⟨a, vs, e, s.t h1, h2⟩
  · exact h.elim
theorem RepP.dic {K : PySem.W.Frag} {G H : Hp} {ks : List Key} {ds : List D} {v : V} (s : Sub G H) (h : RepP K G H (.dic ks ds) v) : ∃ a kvs, v = .ref a ∧ Rd H a (.dK kvs) ∧ kvs.map (·.1) = ks ∧ RepL K G ds (kvs.map (·.2)) := by
  rcases h with h | ⟨a, e, _, o, ho, kvs, rfl, h, h2⟩
  · unfold Rep at h
    obtain ⟨a, vs, e, h1, h2, h3⟩ := h
    exact ⟨a, vs, e, s.rd h1, h2, h3⟩
  · exact ⟨a, kvs, e, .inl ho, h, h2⟩
theorem RepP.ins {K : PySem.W.Frag} {G H : Hp} {C : Addr} {ns : List Str} {ds : List D} {v : V} (s : Sub G H) (h : RepP K G H (.ins C ns ds) v) : ∃ a dx fs, v = .ref a ∧ H a = some (.ins C dx fs) ∧ fs.map (·.1) = ns ∧ RepL K G ds (fs.map (·.2)) := by
  rcases h with h | ⟨a, e, _, o, ho, dx, fs, rfl, h, h2⟩
  · unfold Rep at h
    obtain ⟨a, dx, fs, e, h1, h2, h3⟩ := h
    exact ⟨a, dx, fs, e, s.i h1, h2, h3⟩
  · exact ⟨a, dx, fs, e, ho, h, h2⟩
section
variable {X : Cx} {E : WX} {a b c : Expr} {fa fb fc : EF} {pos : Pos}
theorem snd_chain {K : PySem.W.Frag} {ta tb tc : TE} {p p' : Int → Int → Bool} (sa : Snd K E ta fa) (sb : Snd K E tb fb) (sc : Snd K E tc fc) : Snd K E (tChain (rI0 fun i j => .bl (p i j)) (rI0 fun i j => .bl (p' i j)) ta tb tc) (eChain p p' fa fb fc) := by
  intro G H σ ρ R Q hw
  refine sa G H σ ρ R _ (hw.bind.mono (fun z1 _ q v G1 H1 o1 h1 => ?_) fun _ _ q => q)
  refine sb G1 H1 σ z1.2 o1.rel _ (q.bind.mono (fun z2 _ q2 w G2 H2 o2 h2 => ?_) fun _ _ q2 => q2.step o1)
  obtain ⟨x, ex, q2⟩ := q2.opt
  obtain ⟨y, ey, q2⟩ := q2.opt
  have rx := hold_look o2.rel (h1.pers o2) ex
  have ry := hold_look o2.rel h2 ey
  cases x with
  | int i =>
    cases y with
    | int j =>
      have ev := rx.int; have ew := ry.int
      subst ev; subst ew
      refine ⟨i, j, rfl, rfl, p i j, rfl, ?_⟩
      by_cases hp : p i j = true
      · rw [if_pos hp]
        replace q2 := (show Wp (if p i j = true then _ else _) _ _ from q2)
        rw [if_pos hp] at q2
        refine sc G2 H2 σ z2.2 o2.rel _ (q2.bind.mono (fun z3 _ q3 u G3 H3 o3 h3 => ?_) fun _ _ q3 => q3.step (o1.trans o2))
        obtain ⟨u', eu, q3⟩ := q3.opt
        have ru := hold_look o3.rel h3 eu
        cases u' with
        | int k =>
          have eu' := ru.int
          subst eu'
          exact ⟨j, k, rfl, rfl, q3 _ G3 H3 ((o1.trans o2).trans o3) (Hold.val rep_bl)⟩
        | _ => exact q3.elim
      · rw [if_neg hp]
        replace q2 := (show Wp (if p i j = true then _ else _) _ _ from q2)
        rw [if_neg hp] at q2
        exact q2 (.bl false) G2 H2 (o1.trans o2) (Hold.val rep_bl)
    | _ => exact q2.elim
  | _ => exact q2.elim
theorem pr_chain {op op' : CmpOp} {p p' : Int → Int → Bool} (ho : OpR X (compareOp op) (rI0 fun i j => .bl (p i j))) (ho' : OpR X (compareOp op') (rI0 fun i j => .bl (p' i j))) (pa : PR X E a fa) (pb : PR X E b fb) (pc : PR X E c fc)
    (hm : lastMarks [op, op'] [b, c] = false := by with_unfolding_all rfl) : PR X E (.Compare a [op, op'] [b, c] pos) (eChain p p' fa fb fc) := by
  obtain ⟨ta, pa, sa⟩ := pa.ex
  obtain ⟨tb, pb, sb⟩ := pb.ex
  obtain ⟨tc, pc, sc⟩ := pc.ex
  exact ⟨_, pe_chain ho ho' pa pb pc hm, snd_chain sa sb sc⟩
/-! ### and, or, not as values of bools; tests -/
@[simp] def eAnd (fa fb : EF) : EF := fun ρ => fa ρ >>= fun z => match z.1 with
  | .val (.bl true) => fb z.2
  | .val (.bl false) => .ok (.val (.bl false), z.2)
  | _ => .no
@[simp] def eOr (fa fb : EF) : EF := fun ρ => fa ρ >>= fun z => match z.1 with
  | .val (.bl true) => .ok (.val (.bl true), z.2)
  | .val (.bl false) => fb z.2
  | _ => .no
@[simp] def eNot (fa : EF) : EF := fun ρ => fa ρ >>= fun z => match z.1 with
  | .val (.bl b) => .ok (.val (.bl (!b)), z.2)
  | _ => .no
theorem Hold.bl {K : PySem.W.Frag} {Hs G H : Hp} {σ : St} {ρ : S} {i : Bool} {v : V} (h : Hold K Hs G H σ ρ (.val (.bl i)) v) : v = .bl i := by
  have h' : Rep K G (.bl i) v := h
  unfold Rep at h'
  exact h'
variable {rest : List Expr}
theorem pr_and (pa : PR X E a fa) (pb : PR X E (.BoolOp .And (b :: rest) pos) fb) : PR X E (.BoolOp .And (a :: b :: rest) pos) (eAnd fa fb) := by
  obtain ⟨ta, pa, sa⟩ := pa.ex
  obtain ⟨tb, pb, sb⟩ := pb.ex
  refine ⟨_, pe_and pa pb, fun G H σ ρ R Q hw => ?_⟩
  refine sa G H σ ρ R _ (hw.bind.mono (fun z1 _ q v G1 H1 o1 h1 => ?_) fun _ _ q => q)
  split at q
  · rename_i e
    rw [e] at h1
    have := h1.bl; subst this
    refine ⟨true, rfl, iteT ?_⟩
    exact sb G1 H1 σ z1.2 o1.rel _ (q.mono (fun z2 _ q2 w G2 H2 o2 h2 => q2 w G2 H2 (o1.trans o2) (h2.back o1.stp.thr)) fun _ _ q2 => q2.step o1)
  · rename_i e
    rw [e] at h1
    have := h1.bl; subst this
    exact ⟨false, rfl, iteF (q (.bl false) G1 H1 o1 (Hold.val rep_bl))⟩
  · exact q.elim
theorem pr_or (pa : PR X E a fa) (pb : PR X E (.BoolOp .Or (b :: rest) pos) fb) : PR X E (.BoolOp .Or (a :: b :: rest) pos) (eOr fa fb) := by
  obtain ⟨ta, pa, sa⟩ := pa.ex
  obtain ⟨tb, pb, sb⟩ := pb.ex
  refine ⟨_, pe_or pa pb, fun G H σ ρ R Q hw => ?_⟩
  refine sa G H σ ρ R _ (hw.bind.mono (fun z1 _ q v G1 H1 o1 h1 => ?_) fun _ _ q => q)
  split at q
  · rename_i e
    rw [e] at h1
    have := h1.bl; subst this
    exact ⟨true, rfl, iteT (q (.bl true) G1 H1 o1 (Hold.val rep_bl))⟩
  · rename_i e
    rw [e] at h1
    have := h1.bl; subst this
    refine ⟨false, rfl, iteF ?_⟩
    exact sb G1 H1 σ z1.2 o1.rel _ (q.mono (fun z2 _ q2 w G2 H2 o2 h2 => q2 w G2 H2 (o1.trans o2) (h2.back o1.stp.thr)) fun _ _ q2 => q2.step o1)
  · exact q.elim
theorem pr_one {op} (pa : PR X E a fa) : PR X E (.BoolOp op [a] pos) fa := by
  obtain ⟨ta, pa, sa⟩ := pa.ex
  exact ⟨_, pe_one pa, sa⟩
theorem pr_not (pa : PR X E a fa) : PR X E (.UnaryOp .Not a pos) (eNot fa) := by
  obtain ⟨ta, pa, sa⟩ := pa.ex
  refine ⟨_, pe_not pa, fun G H σ ρ R Q hw => ?_⟩
  refine sa G H σ ρ R _ (hw.bind.mono (fun z1 _ q v G1 H1 o1 h1 => ?_) fun _ _ q => q)
  split at q
  · rename_i d e
    rw [e] at h1
    have := h1.bl; subst this
    exact ⟨d, rfl, q (.bl !d) G1 H1 o1 (Hold.val rep_bl)⟩
  · exact q.elim
/-- a value as a test -/
@[simp] def tstV (fa : EF) : S → R (Bool × S) := fun ρ => fa ρ >>= fun z => match z.1 with
  | .val (.bl b) => .ok (b, z.2)
  | _ => .no
theorem snd_tst {K : PySem.W.Frag} {ta : TE} (sa : Snd K E ta fa) : SndT K E (tB ta) (tstV fa) := by
  intro G H σ ρ R Q hw
  refine sa G H σ ρ R _ (hw.bind.mono (fun z1 _ q v G1 H1 o1 h1 => ?_) fun _ _ q => q)
  split at q
  · rename_i d e
    rw [e] at h1
    have := h1.bl; subst this
    exact ⟨d, rfl, q G1 H1 o1⟩
  · exact q.elim
theorem pb_val (pa : PR X E a fa) (he : ∀ whole, isTrue a X.env whole = (do let v ← whole; standAt a.pos; holding [v] (truthy v)) := by intro _; rfl) : PB X E a (tstV fa) := by
  obtain ⟨ta, pa, sa⟩ := pa.ex
  exact ⟨_, pt_val pa he, snd_tst sa⟩
theorem pb_cmp {op : CmpOp} {r : R2} {g : D → D → Option Rz} (ho : OpR X (compareOp op) r) (hg : OpD X.K r g) (pa : PR X E a fa) (pb : PR X E b fb) (hm : behindInMarks op b = false) : PB X E (.Compare a [op] [b] pos) (tstV (eOp2 g fa fb)) := by
  obtain ⟨ta, pa, sa⟩ := pa.ex
  obtain ⟨tb, pb, sb⟩ := pb.ex
  exact ⟨_, pt_cmpR ho pa pb hm, snd_tst (snd_op2 hg sa sb)⟩
theorem pb_chain {op op' : CmpOp} {p p' : Int → Int → Bool} (ho : OpR X (compareOp op) (rI0 fun i j => .bl (p i j))) (ho' : OpR X (compareOp op') (rI0 fun i j => .bl (p' i j))) (pa : PR X E a fa) (pb : PR X E b fb) (pc : PR X E c fc)
    (hm : lastMarks [op, op'] [b, c] = false := by with_unfolding_all rfl) : PB X E (.Compare a [op, op'] [b, c] pos) (tstV (eChain p p' fa fb fc)) := by
  obtain ⟨ta, pa, sa⟩ := pa.ex
  obtain ⟨tb, pb, sb⟩ := pb.ex
  obtain ⟨tc, pc, sc⟩ := pc.ex
  exact ⟨_, pt_chain ho ho' pa pb pc hm, snd_tst (snd_chain sa sb sc)⟩
variable {p q : S → R (Bool × S)}
@[simp] def tAndF (p q : S → R (Bool × S)) : S → R (Bool × S) := fun ρ => p ρ >>= fun z => if z.1 = true then q z.2 else .ok (false, z.2)
@[simp] def tOrF (p q : S → R (Bool × S)) : S → R (Bool × S) := fun ρ => p ρ >>= fun z => if z.1 = true then .ok (true, z.2) else q z.2
@[simp] def tNotF (p : S → R (Bool × S)) : S → R (Bool × S) := fun ρ => p ρ >>= fun z => .ok (!z.1, z.2)
theorem pb_w (h : PBw X E a p) : PB X E a p := let ⟨t, h1, h2⟩ := h.ex; ⟨t, h1.pt, h2⟩
theorem pb_and1 (h : PB X E a p) : PBw X E (.BoolOp .And [a] pos) p := let ⟨t, h1, h2⟩ := h.ex; ⟨t, pw_and1 h1, h2⟩
theorem pb_or1 (h : PB X E a p) : PBw X E (.BoolOp .Or [a] pos) p := let ⟨t, h1, h2⟩ := h.ex; ⟨t, pw_or1 h1, h2⟩
theorem pb_and (h : PB X E a p) (h' : PBw X E (.BoolOp .And (b :: rest) pos) q) : PBw X E (.BoolOp .And (a :: b :: rest) pos) (tAndF p q) := by
  obtain ⟨t, h1, s⟩ := h.ex
  obtain ⟨u, h2, s2⟩ := h'.ex
  refine ⟨_, pw_and h1 h2, fun G H σ ρ R Q hw => s G H σ ρ R _ (hw.bind.mono (fun z _ w G1 H1 o1 => ?_) fun _ _ w => w)⟩
  split at w
  · rename_i e
    rw [if_pos e]
    exact s2 G1 H1 σ z.2 o1.rel _ (w.mono (fun z2 _ w2 G2 H2 o2 => w2 G2 H2 (o1.trans o2)) fun _ _ w2 => w2.step o1)
  · rename_i e
    rw [if_neg e]
    exact w G1 H1 o1
theorem pb_or (h : PB X E a p) (h' : PBw X E (.BoolOp .Or (b :: rest) pos) q) : PBw X E (.BoolOp .Or (a :: b :: rest) pos) (tOrF p q) := by
  obtain ⟨t, h1, s⟩ := h.ex
  obtain ⟨u, h2, s2⟩ := h'.ex
  refine ⟨_, pw_or h1 h2, fun G H σ ρ R Q hw => s G H σ ρ R _ (hw.bind.mono (fun z _ w G1 H1 o1 => ?_) fun _ _ w => w)⟩
  split at w
  · rename_i e
    rw [if_pos e]
    exact w G1 H1 o1
  · rename_i e
    rw [if_neg e]
    exact s2 G1 H1 σ z.2 o1.rel _ (w.mono (fun z2 _ w2 G2 H2 o2 => w2 G2 H2 (o1.trans o2)) fun _ _ w2 => w2.step o1)
theorem pb_not (h : PB X E a p) : PB X E (.UnaryOp .Not a pos) (tNotF p) := by
  obtain ⟨t, h1, s⟩ := h.ex
  exact ⟨_, pt_not h1, fun G H σ ρ R Q hw => s G H σ ρ R _ (hw.bind.mono (fun z _ w G1 H1 o1 => w G1 H1 o1) fun _ _ w => w)⟩
@[simp] def eIf (p : S → R (Bool × S)) (fa fb : EF) : EF := fun ρ => p ρ >>= fun z => if z.1 = true then fa z.2 else fb z.2
theorem pr_if (h : PB X E c p) (pa : PR X E a fa) (pb : PR X E b fb) : PR X E (.IfExp c a b pos) (eIf p fa fb) := by
  obtain ⟨t, h1, s⟩ := h.ex
  obtain ⟨ta, pa, sa⟩ := pa.ex
  obtain ⟨tb, pb, sb⟩ := pb.ex
  refine ⟨_, pe_ifExp h1 pa pb, fun G H σ ρ R Q hw => s G H σ ρ R _ (hw.bind.mono (fun z _ w G1 H1 o1 => ?_) fun _ _ w => w)⟩
  split at w
  · rename_i e
    rw [if_pos e]
    exact sa G1 H1 σ z.2 o1.rel _ (w.mono (fun z2 _ w2 v G2 H2 o2 h2 => w2 v G2 H2 (o1.trans o2) (h2.back o1.stp.thr)) fun _ _ w2 => w2.step o1)
  · rename_i e
    rw [if_neg e]
    exact sb G1 H1 σ z.2 o1.rel _ (w.mono (fun z2 _ w2 v G2 H2 o2 h2 => w2 v G2 H2 (o1.trans o2) (h2.back o1.stp.thr)) fun _ _ w2 => w2.step o1)
/-! ### displays -/
variable {es : List Expr} {f : S → R (List D × S)}
@[simp] def eLst (f : S → R (List D × S)) : EF := fun ρ => f ρ >>= fun z => if z.1.length ≤ sizeLine then .ok (.tmp (.lst z.1), z.2) else .no
@[simp] def eTup (f : S → R (List D × S)) : EF := fun ρ => f ρ >>= fun z => if z.1.length ≤ sizeLine then .ok (.val (.tup z.1), z.2) else .no
theorem pr_lst (h : PAs X E es f) : PR X E (.List es pos) (eLst f) := by
  obtain ⟨t, pa, s⟩ := h.ex
  refine ⟨_, pe_lst pa, fun G H σ ρ R Q hw => s G H σ ρ R _ (hw.bind.mono (fun z _ w vs G1 H1 o1 h1 => ?_) fun _ _ w => w)⟩
  split at w
  · rename_i e
    refine ⟨by rw [← h1.length]; exact e, fun q hq => ?_⟩
    exact w _ G1 _ (o1.trans (.new o1.rel hq)) ⟨q, rfl, ⟨o1.rel.sub.none hq, _, upd_same, _, rfl, h1⟩, o1.stp.thr q hq, fun z => (o1.rel.adsH (o1.rel.ads_new hq z)).1 hq⟩
  · exact w.elim
theorem pr_tup {k : Nat} (h : PAs X E es f) : PR X E (.Tuple es k pos) (eTup f) := by
  obtain ⟨t, pa, s⟩ := h.ex
  refine ⟨_, pe_tup pa, fun G H σ ρ R Q hw => s G H σ ρ R _ (hw.bind.mono (fun z _ w vs G1 H1 o1 h1 => ?_) fun _ _ w => w)⟩
  split at w
  · rename_i e
    refine ⟨by rw [← h1.length]; exact e, fun q hq => ?_⟩
    have o2 := Out.lay (o := .tup vs) o1.rel hq
    refine w _ (upd G1 q (.tup vs)) _ (o1.trans o2) ?_
    show Rep _ _ (.tup z.1) _
    unfold Rep
    exact ⟨q, vs, rfl, .inl (.inl upd_same), h1.mono o2.stp.gg⟩
  · exact w.elim
end
end BR
set_option Elab.async false
set_option linter.all false
set_option maxRecDepth 100000
set_option maxHeartbeats 4000000
namespace BR
open PySem L2

/-! ## operations on data -/
mutual
def toP : D → Option PyData
  | .non => some .none
  | .bl b => some (.bool b)
  | .int i => some (.int i)
  | .str x => some (.str x)
  | .lst ds => (toPL ds).map .list
  | .tup ds => (toPL ds).map .tuple
  | _ => none
def toPL : List D → Option (List PyData)
  | [] => some []
  | d :: ds => match toP d, toPL ds with
    | some p, some ps => some (p :: ps)
    | _, _ => none
end
section
variable {K : PySem.W.Frag} {G H : Hp}
mutual
theorem dp_rep (s : Sub G H) : ∀ (d : D) {v : V} {p : PyData}, Rep K G d v → toP d = some p → Dp K H v p
  | .non, v, p, h, e => by unfold Rep at h; unfold toP at e; cases e; subst h; exact .non
  | .bl b, v, p, h, e => by unfold Rep at h; unfold toP at e; cases e; subst h; exact .bl b
  | .int b, v, p, h, e => by unfold Rep at h; unfold toP at e; cases e; subst h; exact .int b
  | .str b, v, p, h, e => by unfold Rep at h; unfold toP at e; cases e; subst h; exact .str b
  | .lst ds, v, p, h, e => by
    unfold Rep at h; unfold toP at e
    obtain ⟨a, vs, rfl, h1, h2⟩ := h
    cases q : toPL ds with
    | none => rw [q] at e; cases e
    | some ps => rw [q] at e; cases e; exact .lst (SqL.of (s.ls h1)) (dp_repL s ds h2 q)
  | .tup ds, v, p, h, e => by
    unfold Rep at h; unfold toP at e
    obtain ⟨a, vs, rfl, h1, h2⟩ := h
    cases q : toPL ds with
    | none => rw [q] at e; cases e
    | some ps => rw [q] at e; cases e; exact .tup (s.t h1) (dp_repL s ds h2 q)
  | .ty _, v, p, h, e => by unfold toP at e; cases e
  | .obj _, v, p, h, e => by unfold toP at e; cases e
  | .dic _ _, v, p, h, e => by unfold toP at e; cases e
  | .ins _ _ _, v, p, h, e => by unfold toP at e; cases e
  | .scr _, v, p, h, e => by unfold toP at e; cases e
theorem dp_repL (s : Sub G H) : ∀ (ds : List D) {vs : List V} {ps : List PyData}, RepL K G ds vs → toPL ds = some ps → DpAll K H vs ps
  | [], vs, ps, h, e => by rw [repL_nil.mp h]; unfold toPL at e; cases e; exact .nil
  | d :: ds, vs, ps, h, e => by
    obtain ⟨v, vs', rfl, h1, h2⟩ := repL_cons.mp h
    unfold toPL at e
    cases q : toP d with
    | none => rw [q] at e; cases e
    | some p =>
      cases q2 : toPL ds with
      | none => rw [q, q2] at e; cases e
      | some ps' => rw [q, q2] at e; cases e; exact .cons (dp_rep s d h1 q) (dp_repL s ds h2 q2)
end
theorem dp_repP (s : Sub G H) {d : D} {v : V} {p : PyData} (h : RepP K G H d v) (e : toP d = some p) : Dp K H v p := by
  rcases h with h | ⟨a, rfl, hg, o, ho, hc⟩
  · exact dp_rep s d h e
  · cases d with
    | lst ds =>
      obtain ⟨vs, rfl, h2⟩ := hc
      unfold toP at e
      cases q : toPL ds with
      | none => rw [q] at e; cases e
      | some ps => rw [q] at e; cases e; exact .lst (SqL.of ho) (dp_repL s ds h2 q)
    | dic ks ds => unfold toP at e; cases e
    | ins C ns ds => unfold toP at e; cases e
    | _ => exact hc.elim
end
def eqD (x y : D) : Option Bool := match x, y with
  | .int i, .int j => some (decide (i = j))
  | .str a, .str b => some (decide (a = b))
  | .bl a, .bl b => some (decide (a = b))
  | x, y => match toP x, toP y with
    | some p, some q => if (SeqAt.shaped p && SeqAt.shaped q) = true then some (PyData.eqv p q) else none
    | _, _ => none
def dEq (x y : D) : Option Rz := (eqD x y).map fun b => .im (.bl b)
def dNe (x y : D) : Option Rz := (eqD x y).map fun b => .im (.bl !b)
section
variable {X : Cx} {K : PySem.W.Frag}
def rEqB (K : PySem.W.Frag) : R2 := fun x y H Q => rEq x y H Q ∨ rEqD K x y H Q
def rNeB (K : PySem.W.Frag) : R2 := fun x y H Q => rNe x y H Q ∨ rNeD K x y H Q
theorem op_eqB (hu : X.A.units + 64 < cLine) : OpR X (compareOp .Eq) (rEqB X.K) := OpR.or op_eq (op_eqD hu)
theorem op_neB (hu : X.A.units + 64 < cLine) : OpR X (compareOp .NotEq) (rNeB X.K) := OpR.or op_ne (op_neD hu)
theorem eqD_cases {G H : Hp} {x y : D} {v w : V} {b : Bool} (s : Sub G H) (hx : RepP K G H x v) (hy : RepP K G H y w) (e : eqD x y = some b) :
    (scal v w = true ∧ b = decide (v = w)) ∨ ∃ p q, Dp K H v p ∧ Dp K H w q ∧ SeqAt.shaped p = true ∧ SeqAt.shaped q = true ∧ b = PyData.eqv p q := by
  have gen : ∀ {x y : D}, RepP K G H x v → RepP K G H y w → (match toP x, toP y with
    | some p, some q => if (SeqAt.shaped p && SeqAt.shaped q) = true then some (PyData.eqv p q) else none
    | _, _ => none) = some b → ∃ p q, Dp K H v p ∧ Dp K H w q ∧ SeqAt.shaped p = true ∧ SeqAt.shaped q = true ∧ b = PyData.eqv p q := by
    intro x y hx hy e
    split at e
    · rename_i p q e1 e2
      split at e
      · rename_i hs
        obtain ⟨s1, s2⟩ := Bool.and_eq_true_iff.mp hs
        cases e
        exact ⟨p, q, dp_repP s hx e1, dp_repP s hy e2, s1, s2, rfl⟩
      · cases e
    · cases e
  unfold eqD at e
  split at e
  · have := hx.int; have := hy.int; subst_vars; cases e
    exact .inl ⟨rfl, by simp⟩
  · have := hx.str; have := hy.str; subst_vars; cases e
    exact .inl ⟨rfl, by simp⟩
  · have := hx.bl; have := hy.bl; subst_vars; cases e
    exact .inl ⟨rfl, by simp⟩
  · exact .inr (gen hx hy e)
theorem d_eq : OpD K (rEqB K) dEq := by
  intro G H x y v w s hx hy z Q e h
  unfold dEq at e
  cases q : eqD x y with
  | none => rw [q] at e; cases e
  | some b =>
    rw [q] at e; cases e
    rcases eqD_cases s hx hy q with ⟨h1, h2⟩ | ⟨p, q, h1, h2, h3, h4, h5⟩
    · exact .inl ⟨h1, by rw [← h2]; exact h _ rep_bl⟩
    · exact .inr ⟨p, q, h1, h2, h3, h4, by rw [← h5]; exact h _ rep_bl⟩
theorem d_ne : OpD K (rNeB K) dNe := by
  intro G H x y v w s hx hy z Q e h
  unfold dNe at e
  cases q : eqD x y with
  | none => rw [q] at e; cases e
  | some b =>
    rw [q] at e; cases e
    rcases eqD_cases s hx hy q with ⟨h1, h2⟩ | ⟨p, q, h1, h2, h3, h4, h5⟩
    · exact .inl ⟨h1, by rw [← h2]; exact h _ rep_bl⟩
    · exact .inr ⟨p, q, h1, h2, h3, h4, by rw [← h5]; exact h _ rep_bl⟩
/-! ints -/
@[simp] def dI (g : Int → Int → D) (x y : D) : Option Rz := match x, y with
  | .int i, .int j => some (.im (g i j))
  | _, _ => none
open Classical in
noncomputable def dIc (C : Int → Int → Prop) (g : Int → Int → Int) (x y : D) : Option Rz := match x, y with
  | .int i, .int j => if C i j then some (.im (.int (g i j))) else none
  | _, _ => none
theorem d_I {g : Int → Int → D} {gv : Int → Int → V} (hg : ∀ i j G, Rep K G (g i j) (gv i j)) : OpD K (rI0 gv) (dI g) := by
  intro G H x y v w s hx hy z Q e h
  unfold dI at e
  split at e
  · have := hx.int; have := hy.int; subst_vars; cases e
    exact ⟨_, _, rfl, rfl, h _ (hg _ _ _)⟩
  · cases e
theorem d_Ib {g : Int → Int → Bool} : OpD K (rI0 fun i j => .bl (g i j)) (dI fun i j => .bl (g i j)) := d_I fun _ _ _ => rep_bl
theorem d_Ii {g : Int → Int → Int} : OpD K (rI0 fun i j => .int (g i j)) (dI fun i j => .int (g i j)) := d_I fun _ _ _ => rep_int
theorem d_Ic {C : Int → Int → Prop} {g : Int → Int → Int} : OpD K (rI C fun i j => .int (g i j)) (dIc C g) := by
  intro G H x y v w s hx hy z Q e h
  unfold dIc at e
  split at e
  · split at e
    · rename_i hc
      have := hx.int; have := hy.int; subst_vars; cases e
      exact ⟨_, _, rfl, rfl, hc, h _ rep_int⟩
    · cases e
  · cases e
theorem d_neg : UnD K (rU fun i => .int (-i)) (fun x => match x with | .int i => some (.im (.int (-i))) | _ => none) := by
  intro G H x v s hx z Q e h
  cases x with
  | int i => have := hx.int; subst_vars; cases e; exact ⟨_, rfl, h _ rep_int⟩
  | _ => cases e
/-! + -/
@[simp] def dAdd (x y : D) : Option Rz := match x, y with
  | .int i, .int j => some (.im (.int (i + j)))
  | .str a, .str b => if a.length + b.length ≤ sizeLine then some (.im (.str (a ++ b))) else none
  | .lst a, .lst b => if a.length + b.length ≤ sizeLine then some (.nw (.lst (a ++ b))) else none
  | _, _ => none
def rStrAdd : R2 := fun x y H Q => ∃ i j, x = .str i ∧ y = .str j ∧ i.length + j.length ≤ sizeLine ∧ Q (.str (i ++ j)) H
def rAddB : R2 := fun x y H Q => (rI0 (fun i j => .int (i + j)) x y H Q ∨ rStrAdd x y H Q) ∨ rCat x y H Q
theorem op_addB : OpR X (binaryOp .Add) rAddB := OpR.or (OpR.or op_add op_add_str) op_cat
theorem d_add : OpD K rAddB dAdd := by
  intro G H x y v w s hx hy z Q e h
  unfold dAdd at e
  split at e
  · have := hx.int; have := hy.int; subst_vars; cases e
    exact .inl (.inl ⟨_, _, rfl, rfl, h _ rep_int⟩)
  · split at e
    · rename_i hl
      have := hx.str; have := hy.str; subst_vars; cases e
      exact .inl (.inr ⟨_, _, rfl, rfl, hl, h _ rep_str⟩)
    · cases e
  · split at e
    · rename_i hl
      obtain ⟨a, vs, rfl, h1, h2⟩ := hx.lst s
      obtain ⟨b, ws, rfl, h3, h4⟩ := hy.lst s
      cases e
      exact .inr ⟨a, b, vs, ws, rfl, rfl, h1, h3, by rw [← h2.length, ← h4.length]; exact hl, fun p hp => h p _ hp ⟨_, rfl, h2.append h4⟩⟩
    · cases e
  · cases e
/-! * -/
open Classical in
noncomputable def dMul (x y : D) : Option Rz := match x, y with
  | .int i, .int j => if CMul i j then some (.im (.int (i * j))) else none
  | .str a, .int n => if 0 ≤ n ∧ n < 2 ^ 62 ∧ a.length * n.toNat ≤ sizeLine then some (.im (.str ⟨(List.replicate n.toNat a.cps.toList).flatten.toArray⟩)) else none
  | .lst a, .int n => if -(2 ^ 63) ≤ n ∧ n < 2 ^ 63 ∧ a.length * n.toNat ≤ sizeLine then some (.nw (.lst (List.replicate n.toNat a).flatten)) else none
  | _, _ => none
end
end BR
set_option Elab.async false
set_option linter.all false
set_option maxRecDepth 100000
set_option maxHeartbeats 4000000
namespace BR
open PySem L2

/-! ## statements -/
inductive Fl where
  | nx | bk | ct | rt (h : Hd)
abbrev SF := S → R (Fl × S)
structure OutS (K : PySem.W.Frag) (G H : Hp) (σ : St) (ρ : S) (G' H' : Hp) (σ' : St) (ρ' : S) : Prop where
  rel : Rel K G' H' σ' ρ'
  stp : Stp (ads H σ ρ) G H G' H'
  nw : ∀ a, ads H' σ' ρ' a → H a ≠ none → ads H σ ρ a
  io : ∀ i, isIo ρ i → isIo ρ' i ∧ σ'[i]? = σ[i]?
def FlP (K : PySem.W.Frag) (G H : Hp) (σ : St) (ρ : S) (Dn : Ends) (z : Fl × S) : Prop := match z.1 with
  | .nx => ∀ σ' G' H', OutS K G H σ ρ G' H' σ' z.2 → Dn.nx σ' H'
  | .bk => ∀ σ' G' H', OutS K G H σ ρ G' H' σ' z.2 → Dn.bk σ' H'
  | .ct => ∀ σ' G' H', OutS K G H σ ρ G' H' σ' z.2 → Dn.ct σ' H'
  | .rt h => ∀ v σ' G' H', OutS K G H σ ρ G' H' σ' z.2 → Hold K H G' H' σ' z.2 h v → Dn.rt v H'
def SndS (K : PySem.W.Frag) (E : WX) (t : TS) (f : SF) : Prop := ∀ (G H : Hp) (σ : St) (ρ : S), Rel K G H σ ρ → ∀ Dn : Ends,
  Wp (f ρ) (FlP K G H σ ρ Dn) (ExE K E G H σ ρ) → t Dn σ H
structure PSt (X : Cx) (E : WX) (st : Stmt) (f : SF) : Prop where
  ex : ∃ t, PS X st t ∧ SndS X.K E t f
structure PSq (X : Cx) (E : WX) (sts : List Stmt) (f : SF) : Prop where
  ex : ∃ t, PSs X sts t ∧ SndS X.K E t f
section
variable {K : PySem.W.Frag} {E : WX} {G H G1 H1 G2 H2 : Hp} {σ σ1 σ2 : St} {ρ ρ1 ρ2 : S}
theorem Out.s (o : Out K G H σ ρ G1 H1 ρ1) : OutS K G H σ ρ G1 H1 σ ρ1 := ⟨o.rel, o.stp, o.nw, fun i h => ⟨o.ker.io i h, rfl⟩⟩
theorem OutS.trans (a : OutS K G H σ ρ G1 H1 σ1 ρ1) (b : OutS K G1 H1 σ1 ρ1 G2 H2 σ2 ρ2) : OutS K G H σ ρ G2 H2 σ2 ρ2 where
  rel := b.rel
  stp := a.stp.trans b.stp fun c e z => a.nw c z e
  nw := fun c z e => a.nw c (b.nw c z fun q => e (a.stp.thr c q)) e
  io := fun i h => ⟨(b.io i (a.io i h).1).1, (b.io i (a.io i h).1).2.trans (a.io i h).2⟩
theorem OutS.toX {σ' : St} {G' H' : Hp} {ρ' : S} (o : OutS K G H σ ρ G1 H1 σ1 ρ1) (x : OutX K G1 H1 σ1 ρ1 G' H' σ' ρ') : OutX K G H σ ρ G' H' σ' ρ' :=
  ⟨x.rel, o.stp.trans x.stp fun c e z => o.nw c z e, fun c z e => o.nw c (x.nw c z fun q => e (o.stp.thr c q)) e, fun i h => (x.io i (o.io i h).1).trans (o.io i h).2⟩
theorem ExE.stepS {x : Exc} (o : OutS K G H σ ρ G1 H1 σ1 ρ1) (h : ExE K E G H σ ρ x) : ExE K E G1 H1 σ1 ρ1 x := fun c d σ' G' H' s r =>
  h c d σ' G' H' (o.toX s) r
theorem FlP.step {Dn : Ends} {z : Fl × S} (o : OutS K G H σ ρ G1 H1 σ1 ρ1) (h : FlP K G H σ ρ Dn z) : FlP K G1 H1 σ1 ρ1 Dn z := by
  obtain ⟨fl, ρ'⟩ := z
  cases fl with
  | nx => exact fun σ' G' H' o' => h σ' G' H' (o.trans o')
  | bk => exact fun σ' G' H' o' => h σ' G' H' (o.trans o')
  | ct => exact fun σ' G' H' o' => h σ' G' H' (o.trans o')
  | rt hd => exact fun v σ' G' H' o' hh => h v σ' G' H' (o.trans o') (hh.back o.stp.thr)
end
section
variable {X : Cx} {E : WX} {st : Stmt} {rest : List Stmt} {f g : SF} {pos : Pos} {e : Expr} {fe : EF}
@[simp] def sNil : SF := fun ρ => .ok (.nx, ρ)
@[simp] def sSeq (f g : SF) : SF := fun ρ => f ρ >>= fun z => match z.1 with
  | .nx => g z.2
  | _ => .ok z
theorem sq_nil : PSq X E [] sNil := ⟨_, pss_nil, fun G H σ ρ R Dn hw => hw σ G H (Out.refl R).s⟩
theorem sq_cons (h1 : PSt X E st f) (h2 : PSq X E rest g) : PSq X E (st :: rest) (sSeq f g) := by
  obtain ⟨t, p1, s1⟩ := h1.ex
  obtain ⟨u, p2, s2⟩ := h2.ex
  refine ⟨_, pss_cons p1 p2, fun G H σ ρ R Dn hw => s1 G H σ ρ R _ (hw.bind.mono (fun z _ q => ?_) fun _ _ q => q)⟩
  obtain ⟨fl, ρ'⟩ := z
  cases fl with
  | nx => exact fun σ' G' H' o => s2 G' H' σ' ρ' o.rel Dn (Wp.mono q (fun z _ q2 => q2.step o) fun _ _ q2 => q2.stepS o)
  | bk => exact q
  | ct => exact q
  | rt hd => exact q
theorem sq_one (h1 : PSt X E st f) : PSq X E [st] f := by
  obtain ⟨t, p1, s1⟩ := h1.ex
  exact ⟨_, pss_one p1, s1⟩
@[simp] def sNo : SF := fun _ => .no
theorem st_never : PSt X E st sNo := ⟨_, ps_never, fun G H σ ρ R Dn hw => hw.elim⟩
@[simp] def sBrk : SF := fun ρ => .ok (.bk, ρ)
@[simp] def sCnt : SF := fun ρ => .ok (.ct, ρ)
theorem st_pass : PSt X E (.Pass pos) sNil := ⟨_, ps_pass, fun G H σ ρ R Dn hw => hw σ G H (Out.refl R).s⟩
theorem st_break : PSt X E (.Break pos) sBrk := ⟨_, ps_break, fun G H σ ρ R Dn hw => hw σ G H (Out.refl R).s⟩
theorem st_cont : PSt X E (.Continue pos) sCnt := ⟨_, ps_continue, fun G H σ ρ R Dn hw => hw σ G H (Out.refl R).s⟩
@[simp] def sDrop (fe : EF) : SF := fun ρ => fe ρ >>= fun z => .ok (.nx, z.2)
theorem st_expr (h : PR X E e fe) (hs : swapsWith e none pos.line X.env = pure false := by rfl) : PSt X E (.Expr e pos) (sDrop fe) := by
  obtain ⟨t, p, s⟩ := h.ex
  exact ⟨_, ps_expr p hs, fun G H σ ρ R Dn hw => s G H σ ρ R _ (hw.bind.mono (fun z _ q v G' H' o _ => q σ G' H' o.s) fun _ _ q => q)⟩
@[simp] def sRet (fe : EF) : SF := fun ρ => fe ρ >>= fun z => .ok (.rt z.1, z.2)
theorem st_ret (h : PR X E e fe) : PSt X E (.Return (some e) pos) (sRet fe) := by
  obtain ⟨t, p, s⟩ := h.ex
  exact ⟨_, ps_ret p, fun G H σ ρ R Dn hw => s G H σ ρ R _ (hw.bind.mono (fun z _ q v G' H' o h => q v σ G' H' o.s h) fun _ _ q => q)⟩
@[simp] def sRetN : SF := fun ρ => .ok (.rt (.val .non), ρ)
theorem st_retN : PSt X E (.Return none pos) sRetN := ⟨_, ps_retN, fun G H σ ρ R Dn hw => hw .non σ G H (Out.refl R).s (Hold.val rep_non)⟩
@[simp] def sIf (p : S → R (Bool × S)) (f g : SF) : SF := fun ρ => p ρ >>= fun z => if z.1 = true then f z.2 else g z.2
theorem st_if {c : Expr} {a b : List Stmt} {p : S → R (Bool × S)} (hc : PB X E c p) (ha : PSq X E a f) (hb : PSq X E b g) : PSt X E (.If c a b pos) (sIf p f g) := by
  obtain ⟨t, p1, s⟩ := hc.ex
  obtain ⟨ta, pa, sa⟩ := ha.ex
  obtain ⟨tb, pb, sb⟩ := hb.ex
  refine ⟨_, ps_if p1 pa pb, fun G H σ ρ R Dn hw => s G H σ ρ R _ (hw.bind.mono (fun z _ q G' H' o => ?_) fun _ _ q => q)⟩
  split at q
  · rename_i e
    rw [if_pos e]
    exact sa G' H' σ z.2 o.rel Dn (q.mono (fun y _ q2 => q2.step o.s) fun _ _ q2 => q2.step o)
  · rename_i e
    rw [if_neg e]
    exact sb G' H' σ z.2 o.rel Dn (q.mono (fun y _ q2 => q2.step o.s) fun _ _ q2 => q2.step o)

/-! ### name = value -/
@[simp] def setS (i : Nat) (s : Sl) (ρ : S) : Option S := match ρ[i]? with
  | some (some (.io _)) => none
  | some _ => some (ρ.set i (some s))
  | none => none
@[simp] def putS (i : Nat) (h : Hd) (ρ : S) : Option S := match h with
  | .val d => setS i (.sh d) ρ
  | .tmp d => setS i (.own d) ρ
  | .tpd t => setS i (.dp t) ρ
  | .slot j => (share (.slot j) ρ).bind fun z => setS i (.sh z.1) z.2
  | .sub _ _ => none
theorem setS_eq {i : Nat} {s : Sl} {ρ ρ' : S} (h : setS i s ρ = some ρ') : i < ρ.length ∧ ρ' = ρ.set i (some s) ∧ ¬ isIo ρ i := by
  unfold setS at h
  split at h
  · cases h
  · rename_i x e q
    cases h
    refine ⟨(List.getElem?_eq_some_iff.mp q).1, rfl, fun ⟨d, z⟩ => ?_⟩
    rw [q] at z
    exact e d (Option.some.inj z)
  · cases h
end
section
variable {K : PySem.W.Frag} {G H Gs Hs : Hp} {σ : St} {ρ ρ' ρs : S} {v : V}
/-- a slot gets a shared value -/
theorem set_sh {σs : St} {i : Nat} {d : D} (o : OutS K Gs Hs σs ρs G H σ ρ) (hv : Rep K G d v) (e : setS i (.sh d) ρ = some ρ') : OutS K Gs Hs σs ρs G H (σ.set i (some v)) ρ' := by
  obtain ⟨hi, rfl, hn⟩ := setS_eq e
  have hσ : i < σ.length := by rw [← o.rel.len]; exact hi
  have mm : ∀ j, isMut (ρ.set i (some (.sh d))) j → j ≠ i ∧ isMut ρ j := fun j h => isMut_set h fun d => ⟨nofun, nofun⟩
  have kd : ∀ (j : Nat) (t : T), (ρ.set i (some (.sh d)))[j]? = some (some (Sl.dp t)) → ρ[j]? = some (some (Sl.dp t)) ∧ (σ.set i (some v))[j]? = σ[j]? := fun j t q => by
    by_cases hj : i = j
    · subst hj; rw [List.getElem?_set_self hi] at q; cases q
    · rw [List.getElem?_set_ne hj] at q; exact ⟨q, List.getElem?_set_ne hj⟩
  have md : ∀ (j : Nat) (a : Addr), isMut (ρ.set i (some (.sh d))) j → dpa H σ ρ a → (σ.set i (some v))[j]? ≠ some (some (.ref a)) := fun j a m h q => by
    obtain ⟨nj, m⟩ := mm j m
    rw [List.getElem?_set_ne (Ne.symm nj)] at q
    exact o.rel.dp.ds a j h m q
  obtain ⟨tr, tw⟩ := o.rel.trees (Same.refl G) (fun a h => ⟨rfl, (o.rel.dpaH h).2⟩) kd md
  have aa : ∀ a, ads H (σ.set i (some v)) (ρ.set i (some (.sh d))) a → ads H σ ρ a := fun a h => by
    rcases h with ⟨j, m, q⟩ | h
    · obtain ⟨nj, m⟩ := mm j m
      rw [List.getElem?_set_ne (Ne.symm nj)] at q
      exact .inl ⟨j, m, q⟩
    · exact .inr (tw a h)
  refine ⟨⟨by simp [o.rel.len], o.rel.sub, fun j s q => ?_, fun j k a m1 m2 q1 q2 => ?_, tr, o.rel.tt⟩, o.stp, fun a z => o.nw a (aa a z), fun j h => ?_⟩
  · by_cases hj : i = j
    · subst hj
      rw [List.getElem?_set_self hi] at q; cases q
      exact ⟨v, List.getElem?_set_self hσ, hv⟩
    · rw [List.getElem?_set_ne hj] at q
      rw [List.getElem?_set_ne hj]
      exact o.rel.sl j s q
  · obtain ⟨n1, m1⟩ := mm j m1
    obtain ⟨n2, m2⟩ := mm k m2
    rw [List.getElem?_set_ne (Ne.symm n1)] at q1
    rw [List.getElem?_set_ne (Ne.symm n2)] at q2
    exact o.rel.dis j k a m1 m2 q1 q2
  · obtain ⟨⟨d', h1⟩, h2⟩ := o.io j h
    have hj : i ≠ j := fun z => hn (by rw [z]; exact ⟨d', h1⟩)
    exact ⟨⟨d', by rw [List.getElem?_set_ne hj]; exact h1⟩, by rw [List.getElem?_set_ne hj]; exact h2⟩
/-- a slot gets a new owned object -/
theorem set_own {σs : St} {i : Nat} {d : D} {p : Addr} (o : OutS K Gs Hs σs ρs G H σ ρ) (ho : OwnAt K G H p d) (hp : Hs p = none) (hn : ¬ ads H σ ρ p) (e : setS i (.own d) ρ = some ρ') : OutS K Gs Hs σs ρs G H (σ.set i (some (.ref p))) ρ' := by
  obtain ⟨hi, rfl, hio⟩ := setS_eq e
  have hσ : i < σ.length := by rw [← o.rel.len]; exact hi
  have mm : ∀ j, j ≠ i → isMut (ρ.set i (some (.own d))) j → isMut ρ j := fun j nj ⟨d', h⟩ => ⟨d', by rw [List.getElem?_set_ne (Ne.symm nj)] at h; exact h⟩
  have kd : ∀ (j : Nat) (t : T), (ρ.set i (some (.own d)))[j]? = some (some (Sl.dp t)) → ρ[j]? = some (some (Sl.dp t)) ∧ (σ.set i (some (.ref p)))[j]? = σ[j]? := fun j t q => by
    by_cases hj : i = j
    · subst hj; rw [List.getElem?_set_self hi] at q; cases q
    · rw [List.getElem?_set_ne hj] at q; exact ⟨q, List.getElem?_set_ne hj⟩
  have md : ∀ (j : Nat) (a : Addr), isMut (ρ.set i (some (.own d))) j → dpa H σ ρ a → (σ.set i (some (.ref p)))[j]? ≠ some (some (.ref a)) := fun j a m h q => by
    by_cases nj : j = i
    · subst nj
      rw [List.getElem?_set_self hσ] at q; cases q
      exact hn (.inr h)
    · rw [List.getElem?_set_ne (Ne.symm nj)] at q
      exact o.rel.dp.ds a j h (mm j nj m) q
  obtain ⟨tr, tw⟩ := o.rel.trees (Same.refl G) (fun a h => ⟨rfl, (o.rel.dpaH h).2⟩) kd md
  refine ⟨⟨by simp [o.rel.len], o.rel.sub, fun j s q => ?_, fun j k a m1 m2 q1 q2 => ?_, tr, o.rel.tt⟩, o.stp, fun a h z => ?_, fun j h => ?_⟩
  · by_cases hj : i = j
    · subst hj
      rw [List.getElem?_set_self hi] at q; cases q
      exact ⟨p, List.getElem?_set_self hσ, ho⟩
    · rw [List.getElem?_set_ne hj] at q
      rw [List.getElem?_set_ne hj]
      exact o.rel.sl j s q
  · by_cases n1 : j = i
    · by_cases n2 : k = i
      · exact n1.trans n2.symm
      · subst n1
        rw [List.getElem?_set_self hσ] at q1
        cases q1
        rw [List.getElem?_set_ne (Ne.symm n2)] at q2
        exact absurd (.inl ⟨k, mm k n2 m2, q2⟩) hn
    · by_cases n2 : k = i
      · subst n2
        rw [List.getElem?_set_self hσ] at q2
        cases q2
        rw [List.getElem?_set_ne (Ne.symm n1)] at q1
        exact absurd (.inl ⟨j, mm j n1 m1, q1⟩) hn
      · rw [List.getElem?_set_ne (Ne.symm n1)] at q1
        rw [List.getElem?_set_ne (Ne.symm n2)] at q2
        exact o.rel.dis j k a (mm j n1 m1) (mm k n2 m2) q1 q2
  · rcases h with ⟨j, m, q⟩ | h
    · by_cases nj : j = i
      · subst nj
        rw [List.getElem?_set_self hσ] at q
        cases q
        exact absurd hp z
      · rw [List.getElem?_set_ne (Ne.symm nj)] at q
        exact o.nw a (.inl ⟨j, mm j nj m, q⟩) z
    · exact o.nw a (.inr (tw a h)) z
  · obtain ⟨⟨d', h1⟩, h2⟩ := o.io j h
    have hj : i ≠ j := fun z => hio (by rw [z]; exact ⟨d', h1⟩)
    exact ⟨⟨d', by rw [List.getElem?_set_ne hj]; exact h1⟩, by rw [List.getElem?_set_ne hj]; exact h2⟩
/-- a slot gets a new owned tree -/
theorem set_dp {σs : St} {i : Nat} {t : T} (o : OutS K Gs Hs σs ρs G H σ ρ) (ho : Own K G H t v) (hnd : (fp H t v).Nodup) (hf : ∀ p ∈ fp H t v, Hs p = none ∧ ¬ ads H σ ρ p) (e : setS i (.dp t) ρ = some ρ') : OutS K Gs Hs σs ρs G H (σ.set i (some v)) ρ' := by
  obtain ⟨hi, rfl, hio⟩ := setS_eq e
  have hσ : i < σ.length := by rw [← o.rel.len]; exact hi
  have mm : ∀ j, isMut (ρ.set i (some (.dp t))) j → j ≠ i ∧ isMut ρ j := fun j h => isMut_set h fun d => ⟨nofun, nofun⟩
  have dd : ∀ (j : Nat) (u : T) (w : V), (ρ.set i (some (.dp t)))[j]? = some (some (Sl.dp u)) → (σ.set i (some v))[j]? = some (some w) → (j = i ∧ u = t ∧ w = v) ∨ (j ≠ i ∧ ρ[j]? = some (some (Sl.dp u)) ∧ σ[j]? = some (some w)) := fun j u w q q2 => by
    by_cases hj : i = j
    · subst hj
      rw [List.getElem?_set_self hi] at q; cases q
      rw [List.getElem?_set_self hσ] at q2; cases q2
      exact .inl ⟨rfl, rfl, rfl⟩
    · rw [List.getElem?_set_ne hj] at q q2
      exact .inr ⟨Ne.symm hj, q, q2⟩
  have fl : ∀ (j : Nat) (a : Addr), isMut (ρ.set i (some (.dp t))) j → (σ.set i (some v))[j]? = some (some (.ref a)) → isMut ρ j ∧ σ[j]? = some (some (.ref a)) := fun j a m q => by
    obtain ⟨nj, m⟩ := mm j m
    rw [List.getElem?_set_ne (Ne.symm nj)] at q
    exact ⟨m, q⟩
  refine ⟨⟨by simp [o.rel.len], o.rel.sub, fun j s q => ?_, fun j k a m1 m2 q1 q2 => ?_, ⟨fun j k u x w y a q1 q2 q3 q4 m1 m2 => ?_, fun a j h m q => ?_⟩, o.rel.tt⟩, o.stp, fun a h z => ?_, fun j h => ?_⟩
  · by_cases hj : i = j
    · subst hj
      rw [List.getElem?_set_self hi] at q; cases q
      exact ⟨v, List.getElem?_set_self hσ, ho, hnd⟩
    · rw [List.getElem?_set_ne hj] at q
      rw [List.getElem?_set_ne hj]
      exact o.rel.sl j s q
  · exact o.rel.dis j k a (fl j a m1 q1).1 (fl k a m2 q2).1 (fl j a m1 q1).2 (fl k a m2 q2).2
  · rcases dd j u w q1 q2 with ⟨rfl, rfl, rfl⟩ | ⟨n1, r1, r2⟩
    · rcases dd k x y q3 q4 with ⟨rfl, rfl, rfl⟩ | ⟨n2, r3, r4⟩
      · rfl
      · exact absurd (.inr ⟨k, x, y, r3, r4, m2⟩) (hf a m1).2
    · rcases dd k x y q3 q4 with ⟨rfl, rfl, rfl⟩ | ⟨n2, r3, r4⟩
      · exact absurd (.inr ⟨j, u, w, r1, r2, m1⟩) (hf a m2).2
      · exact o.rel.dp.dd j k u x w y a r1 r2 r3 r4 m1 m2
  · have fm := fl j a m q
    obtain ⟨k, u, w, q1, q2, q3⟩ := h
    rcases dd k u w q1 q2 with ⟨rfl, rfl, rfl⟩ | ⟨n1, r1, r2⟩
    · exact (hf a q3).2 (.inl ⟨j, fm.1, fm.2⟩)
    · exact o.rel.dp.ds a j ⟨k, u, w, r1, r2, q3⟩ fm.1 fm.2
  · rcases h with ⟨j, m, q⟩ | ⟨k, u, w, q1, q2, q3⟩
    · exact o.nw a (.inl ⟨j, (fl j a m q).1, (fl j a m q).2⟩) z
    · rcases dd k u w q1 q2 with ⟨rfl, rfl, rfl⟩ | ⟨n1, r1, r2⟩
      · exact absurd (hf a q3).1 z
      · exact o.nw a (.inr ⟨k, u, w, r1, r2, q3⟩) z
  · obtain ⟨⟨d', h1⟩, h2⟩ := o.io j h
    have hj : i ≠ j := fun z => hio (by rw [z]; exact ⟨d', h1⟩)
    exact ⟨⟨d', by rw [List.getElem?_set_ne hj]; exact h1⟩, by rw [List.getElem?_set_ne hj]; exact h2⟩
theorem put_ok {i : Nat} {h : Hd} (o : Out K Gs Hs σ ρs G H ρ) (hh : Hold K Hs G H σ ρ h v) (e : putS i h ρ = some ρ') : ∃ G', OutS K Gs Hs σ ρs G' H (σ.set i (some v)) ρ' := by
  cases h with
  | val d => exact ⟨G, set_sh o.s hh e⟩
  | tmp d =>
    obtain ⟨p, rfl, h1, h2, h3⟩ := hh
    exact ⟨G, set_own o.s h1 h2 h3 e⟩
  | tpd t =>
    obtain ⟨h1, h2, h3⟩ := hh
    exact ⟨G, set_dp o.s h1 h2 h3 e⟩
  | sub j p => cases e
  | slot j =>
    have e' : ((share (.slot j) ρ).bind fun z => setS i (.sh z.1) z.2) = some ρ' := e
    cases q : share (.slot j) ρ with
    | none => rw [q] at e'; cases e'
    | some z =>
      rw [q] at e'
      obtain ⟨G', o', _, rp⟩ := share_ok o hh q
      exact ⟨G', set_sh o'.s rp e'⟩
end
section
variable {X : Cx} {E : WX} {f g : SF} {pos : Pos} {e : Expr} {fe : EF}
@[simp] def sAsg (i : Nat) (fe : EF) : SF := fun ρ => fe ρ >>= fun z => ofO (putS i z.1 z.2) >>= fun ρ' => .ok (.nx, ρ')
theorem st_asg {i : Nat} {x : Str} {pos' : Pos} (hN : X.N.Nodup) (hi : X.N[i]? = some x) (hx : Loc X.env.scope x) (h : PR X E e fe) (hs : swapsWith e (some (.Name x pos')) pos.line X.env = pure false := by rfl)
    (hf : X.fn x = true ∨ X.env.scope.names.lookup x = some .local := by first | exact .inl rfl | exact .inr rfl | assumption) : PSt X E (.Assign [.Name x pos'] e pos) (sAsg i fe) := by
  obtain ⟨t, p, s⟩ := h.ex
  refine ⟨_, ps_set hN hi hx p hs hf, fun G H σ ρ R Dn hw => s G H σ ρ R _ (hw.bind.mono (fun z _ q v G' H' o h => ?_) fun _ _ q => q)⟩
  obtain ⟨ρ', e1, q⟩ := q.opt
  obtain ⟨G2, o2⟩ := put_ok o h e1
  exact q _ G2 H' o2
/-! ### while -/
def sWhile (c : S → R (Bool × S)) (b : SF) : Nat → SF
  | 0 => fun _ => .no
  | n + 1 => fun ρ => c ρ >>= fun z => if z.1 = true then b z.2 >>= fun y => (match y.1 with
      | .nx => sWhile c b n y.2
      | .ct => sWhile c b n y.2
      | .bk => .ok (.nx, y.2)
      | .rt h => .ok (.rt h, y.2)) else .ok (.nx, z.2)
theorem st_while {c : Expr} {body : List Stmt} {p : S → R (Bool × S)} (n : Nat) (hp : PassesOwn (model X.prog X.w) X.A X.env X.xe) (hc : PB X E c p) (hb : PSq X E body f) : PSt X E (.While c body [] pos) (sWhile p f n) := by
  obtain ⟨t, p1, s⟩ := hc.ex
  obtain ⟨tb, pb, sb⟩ := hb.ex
  refine ⟨_, ps_while hp p1 pb, fun G H σ ρ R Dn hw => ?_⟩
  refine ⟨fun m σ' H' => ∃ G' ρ', OutS X.K G H σ ρ G' H' σ' ρ' ∧ Wp (sWhile p f m ρ') (FlP X.K G H σ ρ Dn) (ExE X.K E G H σ ρ), ⟨n, G, ρ, (Out.refl R).s, hw⟩, fun m σ' H' ⟨G', ρ', o, w⟩ => ?_⟩
  cases m with
  | zero => exact w.elim
  | succ m =>
    refine s G' H' σ' ρ' o.rel _ (w.bind.mono (fun z _ q G1 H1 o1 => ?_) fun _ _ q => q.stepS o)
    split at q
    · rename_i e
      rw [if_pos e]
      refine ⟨fun σ2 H2 => ∃ G2 ρ2, OutS X.K G H σ ρ G2 H2 σ2 ρ2 ∧ Wp (sWhile p f m ρ2) (FlP X.K G H σ ρ Dn) (ExE X.K E G H σ ρ), fun σ2 H2 h2 => ⟨m, Nat.lt_succ_self m, h2⟩, ?_⟩
      have oo := o.trans o1.s
      refine sb G1 H1 σ' z.2 o1.rel _ (q.bind.mono (fun y _ q2 => ?_) fun _ _ q2 => q2.stepS oo)
      obtain ⟨fl, ρ2⟩ := y
      cases fl with
      | nx => exact fun σ2 G2 H2 o2 => ⟨G2, ρ2, oo.trans o2, q2⟩
      | ct => exact fun σ2 G2 H2 o2 => ⟨G2, ρ2, oo.trans o2, q2⟩
      | bk => exact fun σ2 G2 H2 o2 => q2 σ2 G2 H2 (oo.trans o2)
      | rt h => exact fun v σ2 G2 H2 o2 hh => q2 v σ2 G2 H2 (oo.trans o2) (hh.back oo.stp.thr)
    · rename_i e
      rw [if_neg e]
      exact q σ' G1 H1 (o.trans o1.s)
end
/-! ### for -/
/-- what a walk over the data ds asks: G0, H0 the heaps where it begins -/
structure Wlk (K : PySem.W.Frag) (G0 H0 : Hp) (ds : List D) (J : It) : Prop where
  ex : ∃ (Gd : Hp → Prop) (Y : Nat → Hp → V → Hp → Prop), Walk J ds.length Gd Y ∧ (∀ H1, (∀ b o, G0 b ≠ none → H0 b = some o → NT o → H1 b = some o) → Gd H1) ∧
    ∀ i H x H', i < ds.length → Y i H x H' → ∀ G, Same G0 G → Sub G H → (∃ d, ds[i]? = some d ∧ ∃ G', (G' = G ∧ H' = H ∨ ∃ p o, H p = none ∧ NT o ∧ G' = upd G p o ∧ H' = upd H p o) ∧ Rep K G' d x)
/-- what is walked: its items as data -/
def SndI (K : PySem.W.Frag) (E : WX) (wi : TI) (f : S → R (List D × S)) : Prop := ∀ (G H : Hp) (σ : St) (ρ : S), Rel K G H σ ρ → ∀ Rr : It → Hp → Prop,
  Wp (f ρ) (fun z => ∀ J G' H', Out K G H σ ρ G' H' z.2 → Wlk K G' H' z.1 J → Rr J H') (ExE K E G H σ ρ) → wi σ H Rr
structure PIt (X : Cx) (E : WX) (tg iter : Expr) (f : S → R (List D × S)) : Prop where
  ex : ∃ wi, PI X tg iter wi ∧ SndI X.K E wi f
/-- a target; tv: the slots that it may store -/
structure Only (tv : List Nat) (σ σ' : St) : Prop where
  len : σ'.length = σ.length
  eq : ∀ j, j ∉ tv → σ'[j]? = σ[j]?
theorem Only.trans {tv : List Nat} {σ σ1 σ2 : St} (a : Only tv σ σ1) (b : Only tv σ1 σ2) : Only tv σ σ2 := ⟨b.len.trans a.len, fun j h => (b.eq j h).trans (a.eq j h)⟩
theorem Only.mono {tv tw : List Nat} {σ σ1 : St} (a : Only tv σ σ1) (h : ∀ i ∈ tv, i ∈ tw) : Only tw σ σ1 := ⟨a.len, fun j n => a.eq j fun z => n (h j z)⟩
/-- the slots that are left mutable are as they were -/
structure Onl (tv : List Nat) (σ σ' : St) (ρ' : S) : Prop where
  on : Only tv σ σ'
  kp : ∀ j, (isMut ρ' j ∨ ∃ t, ρ'[j]? = some (some (Sl.dp t))) → σ'[j]? = σ[j]?
def SndG (K : PySem.W.Frag) (tv : List Nat) (g : TG) (f : D → S → Option S) : Prop := ∀ (Gs Hs : Hp) (σs : St) (ρs : S) (G H : Hp) (σ : St) (ρ ρ' : S) (d : D) (v : V), OutS K Gs Hs σs ρs G H σ ρ → Rep K G d v → f d ρ = some ρ' →
  ∀ Q : St → Hp → Prop, (∀ σ', OutS K Gs Hs σs ρs G H σ' ρ' → Onl tv σ σ' ρ' → Q σ' H) → g v σ H Q
/-- slots are only lost -/
def Lse (ρ ρ' : S) : Prop := (∀ j, isMut ρ' j → isMut ρ j) ∧ ∀ (j : Nat) (t : T), ρ'[j]? = some (some (Sl.dp t)) → ρ[j]? = some (some (Sl.dp t))
theorem Lse.trans {ρ ρ1 ρ2 : S} (a : Lse ρ ρ1) (b : Lse ρ1 ρ2) : Lse ρ ρ2 := ⟨fun j m => a.1 j (b.1 j m), fun j t m => a.2 j t (b.2 j t m)⟩
theorem Ker.lse {ρ ρ1 : S} (a : Ker ρ ρ1) : Lse ρ ρ1 := ⟨a.mu, a.dp⟩
theorem Lse.set {ρ : S} {i : Nat} {d : D} : Lse ρ (ρ.set i (some (.sh d))) := ⟨fun j m => (isMut_set m fun d => ⟨nofun, nofun⟩).2, fun j t q => by
  by_cases hj : i = j
  · subst hj
    by_cases hl : i < ρ.length
    · rw [List.getElem?_set_self hl] at q; cases q
    · rw [List.getElem?_eq_none (by rw [List.length_set]; omega)] at q; cases q
  · rw [List.getElem?_set_ne hj] at q; exact q⟩
structure PTg (X : Cx) (tv : List Nat) (tg : Expr) (f : D → S → Option S) : Prop where
  ex : ∃ g, PG X tg g ∧ SndG X.K tv g f
  mu : ∀ d ρ ρ', f d ρ = some ρ' → Lse ρ ρ'
def SndGs (K : PySem.W.Frag) (tv : List Nat) (g : TGs) (f : List D → S → Option S) : Prop := ∀ (Gs Hs : Hp) (σs : St) (ρs : S) (G H : Hp) (σ : St) (ρ ρ' : S) (ds : List D) (vs : List V), OutS K Gs Hs σs ρs G H σ ρ → RepL K G ds vs → f ds ρ = some ρ' →
  ∀ Q : St → Hp → Prop, (∀ σ', OutS K Gs Hs σs ρs G H σ' ρ' → Onl tv σ σ' ρ' → Q σ' H) → g vs σ H Q
structure PTgs (X : Cx) (tv : List Nat) (tgs : List Expr) (f : List D → S → Option S) : Prop where
  ex : ∃ g, PGs X tgs g ∧ SndGs X.K tv g f
  mu : ∀ d ρ ρ', f d ρ = some ρ' → Lse ρ ρ'
section
variable {X : Cx} {E : WX} {pos : Pos}
/-- slot i gets a shared value, whatever the frame's start -/
theorem set_shS {K : PySem.W.Frag} {Gs Hs G H : Hp} {σs σ : St} {ρs ρ ρ' : S} {i : Nat} {d : D} {v : V} (o : OutS K Gs Hs σs ρs G H σ ρ) (hv : Rep K G d v) (e : setS i (.sh d) ρ = some ρ') : OutS K Gs Hs σs ρs G H (σ.set i (some v)) ρ' :=
  o.trans (set_sh (Out.refl o.rel).s hv e)
@[simp] def gVar (i : Nat) : D → S → Option S := fun d ρ => setS i (.sh d) ρ
theorem tg_name {i : Nat} {x : Str} (hN : X.N.Nodup) (hi : X.N[i]? = some x) (hx : Loc X.env.scope x) (hf : X.fn x = true ∨ X.env.scope.names.lookup x = some .local := by first | exact .inl rfl | exact .inr rfl | assumption) : PTg X [i] (.Name x pos) (gVar i) :=
  ⟨⟨_, pg_name hN hi hx hf, fun Gs Hs σs ρs G H σ ρ ρ' d v o hv e Q q => q _ (set_shS o hv e) ⟨⟨List.length_set .., fun j hj => List.getElem?_set_ne fun z => hj (by simp [z])⟩, fun j hj => List.getElem?_set_ne fun z => by
    subst z
    obtain ⟨hi, rfl, _⟩ := setS_eq e
    rw [List.getElem?_set_self hi] at hj
    rcases hj with ⟨d', z | z⟩ | ⟨t, z⟩
    · rw [List.getElem?_set_self hi] at z; cases z
    · rw [List.getElem?_set_self hi] at z; cases z
    · cases z⟩⟩, fun d ρ ρ' e => by
    obtain ⟨_, rfl, _⟩ := setS_eq e
    exact Lse.set⟩
@[simp] def gsNil : List D → S → Option S := fun ds ρ => match ds with
  | [] => some ρ
  | _ => none
@[simp] def gsCons (f : D → S → Option S) (g : List D → S → Option S) : List D → S → Option S := fun ds ρ => match ds with
  | d :: ds => (f d ρ).bind fun ρ' => g ds ρ'
  | [] => none
theorem tgs_nil : PTgs X [] [] gsNil := ⟨⟨_, pgs_nil, fun Gs Hs σs ρs G H σ ρ ρ' ds vs o hv e Q q => by
  cases ds with
  | nil => cases e; exact ⟨repL_nil.mp hv, q σ o ⟨⟨rfl, fun _ _ => rfl⟩, fun _ _ => rfl⟩⟩
  | cons d ds => cases e⟩, fun ds ρ ρ' e => by
    cases ds with
    | nil => cases e; exact Ker.refl.lse
    | cons d ds => cases e⟩
theorem tgs_cons {e : Expr} {es : List Expr} {f : D → S → Option S} {g : List D → S → Option S} {tv tw : List Nat} (h1 : PTg X tv e f) (h2 : PTgs X tw es g) (hs : (assignEach (e :: es) X.env).map (·.2) = assign e X.env :: (assignEach es X.env).map (·.2) := by rfl) : PTgs X (tv ++ tw) (e :: es) (gsCons f g) := by
  obtain ⟨t, p1, s1⟩ := h1.ex
  obtain ⟨u, p2, s2⟩ := h2.ex
  refine ⟨⟨_, pgs_cons p1 p2 hs, fun Gs Hs σs ρs G H σ ρ ρ' ds vs o hv e Q q => ?_⟩, fun ds ρ ρ' e => ?_⟩
  rotate_left
  · cases ds with
    | nil => cases e
    | cons d ds =>
      have e' : ((f d ρ).bind fun ρ' => g ds ρ') = some ρ' := e
      cases q1 : f d ρ with
      | none => rw [q1] at e'; cases e'
      | some ρ1 =>
        rw [q1] at e'
        exact (h1.mu d ρ ρ1 q1).trans (h2.mu ds ρ1 ρ' e')
  cases ds with
  | nil => cases e
  | cons d ds =>
    obtain ⟨v, vs', rfl, r1, r2⟩ := repL_cons.mp hv
    have e' : ((f d ρ).bind fun ρ' => g ds ρ') = some ρ' := e
    cases q1 : f d ρ with
    | none => rw [q1] at e'; cases e'
    | some ρ1 =>
      rw [q1] at e'
      exact ⟨v, vs', rfl, s1 Gs Hs σs ρs G H σ ρ ρ1 d v o r1 q1 _ fun σ1 o1 n1 => s2 Gs Hs σs ρs G H σ1 ρ1 ρ' ds vs' o1 r2 e' Q fun σ2 o2 n2 => q σ2 o2 ⟨(n1.on.mono fun i h => List.mem_append_left _ h).trans (n2.on.mono fun i h => List.mem_append_right _ h), fun j hj => (n2.kp j hj).trans (n1.kp j (hj.imp ((h2.mu ds ρ1 ρ' e').1 j) fun ⟨t, z⟩ => ⟨t, (h2.mu ds ρ1 ρ' e').2 j t z⟩))⟩⟩
@[simp] def gTupF (n : Nat) (f : List D → S → Option S) : D → S → Option S := fun d ρ => match d with
  | .tup ds => if ds.length = n then f ds ρ else none
  | _ => none
theorem tg_tup {es : List Expr} {k : Nat} {f : List D → S → Option S} {n : Nat} {tv : List Nat} (hc : X.calm = true) (h : PTgs X tv es f) (hn : (assignEach es X.env).length = n := by rfl) (hst : (assignEach es X.env).findIdx? (·.1) = none := by rfl) : PTg X tv (.Tuple es k pos) (gTupF n f) := by
  obtain ⟨t, p, s⟩ := h.ex
  refine ⟨⟨_, pg_tup hc p hn hst, fun Gs Hs σs ρs G H σ ρ ρ' d v o hv e Q q => ?_⟩, fun d ρ ρ' e => ?_⟩
  rotate_left
  · cases d with
    | tup ds =>
      have e' : (if ds.length = n then f ds ρ else none) = some ρ' := e
      split at e'
      · exact h.mu ds ρ ρ' e'
      · cases e'
    | _ => cases e
  cases d with
  | tup ds =>
    have e' : (if ds.length = n then f ds ρ else none) = some ρ' := e
    split at e'
    · rename_i hl
      obtain ⟨a, vs, rfl, h1, h2⟩ := (show RepP X.K G H (.tup ds) v from .inl hv).tup o.rel.sub
      exact ⟨a, vs, rfl, h1, by rw [← h2.length]; exact hl, s Gs Hs σs ρs G H σ ρ ρ' ds vs o h2 e' Q q⟩
    · cases e'
  | _ => cases e
/-- the loop's turns -/
def sForL (g : D → S → Option S) (b : SF) : List D → SF
  | [] => fun ρ => .ok (.nx, ρ)
  | d :: ds => fun ρ => ofO (g d ρ) >>= fun ρ1 => b ρ1 >>= fun y => (match y.1 with
      | .nx => sForL g b ds y.2
      | .ct => sForL g b ds y.2
      | .bk => .ok (.nx, y.2)
      | .rt h => .ok (.rt h, y.2))
@[simp] def sFor (it : S → R (List D × S)) (g : D → S → Option S) (b : SF) : SF := fun ρ => it ρ >>= fun z => sForL g b z.1 z.2
theorem for_sound {K : PySem.W.Frag} {ds : List D} {J : It} {g : TG} {tb : TS} {gf : D → S → Option S} {b : SF} {tv : List Nat} (sg : SndG K tv g gf) (sb : SndS K E tb b) {G H : Hp} {σ : St} {ρ : S} {G1 H1 : Hp} {ρ1 : S} {Dn : Ends} (o1 : Out K G H σ ρ G1 H1 ρ1) (wk : Wlk K G1 H1 ds J)
    (w : Wp (sForL gf b ds ρ1) (FlP K G H σ ρ Dn) (ExE K E G H σ ρ)) : ∃ W : Nat → Nat → St → Hp → Prop, (∃ m, W 0 m σ H1) ∧ ∀ i m σ H, W i m σ H → (J.stop i H ∧ Dn.nx σ H) ∨ (J.go i H ∧ ∃ N : St → Hp → Prop, (∀ σ' H', N σ' H' → ∃ m', m' < m ∧ W (i + 1) m' σ' H') ∧ ∀ x H', J.yld i H x H' → g x σ H' fun σ2 H2 => tb { Dn with nx := N, ct := N, bk := Dn.nx } σ2 H2) := by
  obtain ⟨Gd, Y, wk, hG, hY⟩ := wk.ex
  refine for_it wk (fun i σ' H' => ∃ G' ρ', OutS K G H σ ρ G' H' σ' ρ' ∧ Same G1 G' ∧ (∀ b o, G1 b ≠ none → H1 b = some o → NT o → H' b = some o) ∧ Wp (sForL gf b (ds.drop i) ρ') (FlP K G H σ ρ Dn) (ExE K E G H σ ρ)) ?_ ?_ ?_ ?_
  · exact ⟨G1, ρ1, o1.s, Same.refl _, fun _ _ _ h _ => h, w⟩
  · rintro i σ' H' _ ⟨G', ρ', _, _, k, _⟩
    exact hG H' k
  · rintro i x σ' H' H2 hi ⟨G', ρ', o, sg', k, w⟩ y
    obtain ⟨d, ed, G2, hstep, rx⟩ := hY i H' x H2 hi y G' sg' o.rel.sub
    have o2 : OutS K G H σ ρ G2 H2 σ' ρ' ∧ Same G' G2 ∧ (∀ b o, H' b = some o → H2 b = some o) := by
      rcases hstep with ⟨rfl, rfl⟩ | ⟨p, u, hp, nu, rfl, rfl⟩
      · exact ⟨o, Same.refl _, fun _ _ h => h⟩
      · have z := Out.lay (o := u) o.rel hp nu
        exact ⟨o.trans z.s, z.stp.gg, fun b u' h => by rw [upd_ne (ne_of_none h hp)]; exact h⟩
    obtain ⟨o2, sg2, k2⟩ := o2
    have hd : ds.drop i = d :: ds.drop (i + 1) := by
      obtain ⟨h1, h2⟩ := List.getElem?_eq_some_iff.mp ed
      rw [← h2]
      exact List.drop_eq_getElem_cons h1
    rw [hd] at w
    obtain ⟨ρ3, e3, w⟩ := w.opt
    refine sg G H σ ρ G2 H2 σ' ρ' ρ3 d x o2 rx e3 _ fun σ3 o3 _ => ?_
    refine sb G2 H2 σ3 ρ3 o3.rel _ (w.bind.mono (fun z _ q => ?_) fun _ _ q => q.stepS o3)
    have nxt : ∀ ρ4, Wp (sForL gf b (ds.drop (i + 1)) ρ4) (FlP K G H σ ρ Dn) (ExE K E G H σ ρ) → ∀ σ4 G4 H4, OutS K G2 H2 σ3 ρ3 G4 H4 σ4 ρ4 → ∃ G' ρ', OutS K G H σ ρ G' H4 σ4 ρ' ∧ Same G1 G' ∧ (∀ b o, G1 b ≠ none → H1 b = some o → NT o → H4 b = some o) ∧ Wp (sForL gf b (ds.drop (i + 1)) ρ') (FlP K G H σ ρ Dn) (ExE K E G H σ ρ) := by
      intro ρ4 w4 σ4 G4 H4 o4
      refine ⟨G4, ρ4, o3.trans o4, (sg'.trans sg2).trans o4.stp.gg, fun b u hb hu nt => ?_, w4⟩
      refine o4.stp.keep b u (k2 b u (k b u hb hu nt)) (fun z => hb ?_) nt
      have hz := (o3.rel.adsH z).2
      cases q : G1 b with
      | none => rfl
      | some u' => rw [(sg'.trans sg2) b u' q] at hz; cases hz
    obtain ⟨fl, ρ4⟩ := z
    cases fl with
    | nx => exact nxt ρ4 q
    | ct => exact nxt ρ4 q
    | bk => exact fun σ4 G4 H4 o4 => q σ4 G4 H4 (o3.trans o4)
    | rt h => exact fun v σ4 G4 H4 o4 hh => q v σ4 G4 H4 (o3.trans o4) (hh.back o3.stp.thr)
  · rintro σ' H' ⟨G', ρ', o, _, _, w⟩
    rw [List.drop_length] at w
    exact w σ' G' H' o
theorem st_for {tg iter : Expr} {body : List Stmt} {it : S → R (List D × S)} {g : D → S → Option S} {b : SF} {tv : List Nat} (hp : PassesOwn (model X.prog X.w) X.A X.env X.xe) (hc : X.calm = true) (hi : PIt X E tg iter it) (hg : PTg X tv tg g) (hb : PSq X E body b) (hs : ∀ x, foldedSetIterable iter X.env x = pure x := by intro _; rfl) :
    PSt X E (.For tg iter body [] pos) (sFor it g b) := by
  obtain ⟨wi, pi, si⟩ := hi.ex
  obtain ⟨gt, pg, sg⟩ := hg.ex
  obtain ⟨tb, pb, sb⟩ := hb.ex
  refine ⟨_, ps_for hp hc pi pg pb hs, fun G H σ ρ R Dn hw => ?_⟩
  exact si G H σ ρ R _ (hw.bind.mono (fun z _ q J G1 H1 o1 wk => for_sound sg sb o1 wk q) fun _ _ q => q)
end
end BR
set_option Elab.async false
set_option linter.all false
set_option maxRecDepth 100000
set_option maxHeartbeats 4000000
namespace BR
open PySem L2

/-! ## what is walked -/
section
variable {X : Cx} {E : WX} {e tg : Expr} {f : EF} {pos p : Pos}
/-- a list or a tuple (shared) -/
@[simp] def itSeq (f : EF) : S → R (List D × S) := fun ρ => eV f ρ >>= fun z => match z.1 with
  | .lst ds => .ok (ds, z.2)
  | _ => .no
@[simp] def itTup (f : EF) : S → R (List D × S) := fun ρ => eV f ρ >>= fun z => match z.1 with
  | .tup ds => .ok (ds, z.2)
  | _ => .no
theorem it_list (h : PR X E e f) : PIt X E tg e (itSeq f) := by
  obtain ⟨t, pe, s⟩ := h.v.ex
  refine ⟨_, pi_list pe, fun G H σ ρ r Rr hw => s G H σ ρ r _ (hw.bind.mono (fun z _ q v G' H' o rv => ?_) fun _ _ q => q)⟩
  obtain ⟨d, ρ'⟩ := z
  cases d with
  | lst ds =>
    have rv' := rv
    unfold Rep at rv'
    obtain ⟨a, vs, rfl, h1, h2⟩ := rv'
    have h1' := o.rel.sub.ls h1
    refine ⟨a, rfl, ⟨vs, SqL.of h1'⟩, q _ G' H' o ⟨fun H => SqL X.K H a vs, YAt vs, by rw [h2.length]; exact walk_list, fun H1 k => SqL.of (k a _ (by rw [h1]; simp) h1' nofun), fun i H x H' hi y G1 sg sb => ?_⟩⟩
    obtain ⟨rfl, y⟩ := y
    obtain ⟨d, ed, rd⟩ := h2.getV y
    exact ⟨d, ed, G1, .inl ⟨rfl, rfl⟩, Rep.mono sg _ rd⟩
  | _ => exact q.elim
theorem it_tup (h : PR X E e f) : PIt X E tg e (itTup f) := by
  obtain ⟨t, pe, s⟩ := h.v.ex
  refine ⟨_, pi_tup pe, fun G H σ ρ r Rr hw => s G H σ ρ r _ (hw.bind.mono (fun z _ q v G' H' o rv => ?_) fun _ _ q => q)⟩
  obtain ⟨d, ρ'⟩ := z
  cases d with
  | tup ds =>
    have rv' := rv
    unfold Rep at rv'
    obtain ⟨a, vs, rfl, h1, h2⟩ := rv'
    have h1' := o.rel.sub.t h1
    refine ⟨a, rfl, ⟨vs, h1'⟩, q _ G' H' o ⟨fun H => SqT X.K H a vs, YAt vs, by rw [h2.length]; exact walk_tup, fun H1 k => ?_, fun i H x H' hi y G1 sg sb => ?_⟩⟩
    · rcases h1 with h1 | h1
      · rcases o.rel.sub.rd h1 with z | ⟨od, z⟩
        · refine SqT.of (k a _ ?_ z nofun)
          rcases h1 with y | ⟨_, y⟩ <;> rw [y] <;> simp
        · refine .inl (.inr ⟨od, k a _ ?_ z nofun⟩)
          rcases h1 with y | ⟨_, y⟩ <;> rw [y] <;> simp
      · exact .inr h1
    · obtain ⟨rfl, y⟩ := y
      obtain ⟨d, ed, rd⟩ := h2.getV y
      exact ⟨d, ed, G1, .inl ⟨rfl, rfl⟩, Rep.mono sg _ rd⟩
  | _ => exact q.elim
def signs (x : Str) : List D := x.cps.toList.map fun c => .str ⟨#[c]⟩
@[simp] def itStr (f : EF) : S → R (List D × S) := fun ρ => eV f ρ >>= fun z => match z.1 with
  | .str x => .ok (signs x, z.2)
  | _ => .no
theorem it_str (h : PR X E e f) : PIt X E tg e (itStr f) := by
  obtain ⟨t, pe, s⟩ := h.v.ex
  refine ⟨_, pi_str pe, fun G H σ ρ r Rr hw => s G H σ ρ r _ (hw.bind.mono (fun z _ q v G' H' o rv => ?_) fun _ _ q => q)⟩
  obtain ⟨d, ρ'⟩ := z
  cases d with
  | str x =>
    have rv' := rv
    unfold Rep at rv'
    subst rv'
    refine ⟨x, rfl, q _ G' H' o ⟨_, _, by rw [show (signs x).length = x.cps.size by simp [signs]]; exact walk_str, fun _ _ => trivial, fun i H v H' hi y G1 sg sb => ?_⟩⟩
    obtain ⟨rfl, c, ec, rfl⟩ := y
    refine ⟨.str ⟨#[c]⟩, ?_, G1, .inl ⟨rfl, rfl⟩, rep_str⟩
    unfold signs
    rw [List.getElem?_map, Array.getElem?_toList, ec]
    rfl
  | _ => exact q.elim
def rngL (lo : Int) (n : Nat) : List D := (List.range n).map fun (i : Nat) => D.int (lo + i)
def rngC (lo c : Int) (n : Nat) : List D := (List.range n).map fun (i : Nat) => D.int (lo + i * c)
theorem wlk_range {K : PySem.W.Frag} {G H : Hp} {lo : Int} {n : Nat} : Wlk K G H (rngL lo n) (Itr lo n) := by
  refine ⟨_, _, by rw [show (rngL lo n).length = n by simp [rngL]]; exact walk_range, fun _ _ => trivial, fun i H x H' hi y G1 sg sb => ?_⟩
  obtain ⟨rfl, rfl⟩ := y
  have hi' : i < n := by simpa [rngL] using hi
  exact ⟨.int (lo + i), by simp [rngL, hi'], G1, .inl ⟨rfl, rfl⟩, rep_int⟩
theorem wlk_rangeC {K : PySem.W.Frag} {G H : Hp} {lo c : Int} {n : Nat} : Wlk K G H (rngC lo c n) (Itc lo c n) := by
  refine ⟨_, _, by rw [show (rngC lo c n).length = n by simp [rngC]]; exact walk_rangeC, fun _ _ => trivial, fun i H x H' hi y G1 sg sb => ?_⟩
  obtain ⟨rfl, rfl⟩ := y
  have hi' : i < n := by simpa [rngC] using hi
  exact ⟨.int (lo + i * c), by simp [rngC, hi'], G1, .inl ⟨rfl, rfl⟩, rep_int⟩

theorem rl_int {K : PySem.W.Frag} {G : Hp} {i : Int} {ds : List D} {vs : List V} (h : RepL K G (.int i :: ds) vs) : ∃ vs', vs = .int i :: vs' ∧ RepL K G ds vs' := by
  obtain ⟨v, vs', rfl, h1, h2⟩ := repL_cons.mp h
  unfold Rep at h1
  exact ⟨vs', by rw [h1], h2⟩
def RngOk (j : Int) : Prop := -(2 ^ 62) ≤ j ∧ j < 2 ^ 62
def RngOk2 (i j : Int) : Prop := -(2 ^ 62) ≤ i ∧ i < 2 ^ 62 ∧ -(2 ^ 62) ≤ j ∧ j < 2 ^ 62
open Classical in
noncomputable def itRng1 (f : S → R (List D × S)) : S → R (List D × S) := fun ρ => f ρ >>= fun z => match z.1 with
  | [.int j] => if RngOk j then .ok (rngL 0 j.toNat, z.2) else .no
  | _ => .no
open Classical in
@[simp] noncomputable def itRng2 (f : S → R (List D × S)) : S → R (List D × S) := fun ρ => f ρ >>= fun z => match z.1 with
  | [.int i, .int j] => if RngOk2 i j then .ok (rngL i (j - i).toNat, z.2) else .no
  | _ => .no
open Classical in
noncomputable def itRng3 (f : S → R (List D × S)) : S → R (List D × S) := fun ρ => f ρ >>= fun z => match z.1 with
  | [.int i, .int j, .int c] => if RgC i j c (Builtin.Range.rangeSize i j c).toNat then .ok (rngC i c (Builtin.Range.rangeSize i j c).toNat, z.2) else .no
  | _ => .no
theorem it_range1 {a : Expr} {f : S → R (List D × S)} (hg : Gl X "range") (hm : X.mg "range" = none) (ha : PAs X E [a] f) (hs : starEach [a] X.env = [(false, eval a X.env)] := by rfl) : PIt X E tg (.Call (.Name "range" p) [a] [] pos) (itRng1 f) := by
  obtain ⟨t, pa, s⟩ := ha.ex
  refine ⟨_, pi_range1 hg hm pa hs, fun G H σ ρ r Rr hw => s G H σ ρ r _ (hw.bind.mono (fun z hz q vs G' H' o rv => ?_) fun _ _ q => q)⟩
  obtain ⟨ds, ρ'⟩ := z
  split at q
  · rename_i j e
    have e' : ds = [.int j] := e
    subst e'
    split at q
    · rename_i hj
      obtain ⟨vs1, rfl, h2⟩ := rl_int rv
      exact ⟨j, by rw [repL_nil.mp h2], hj.1, hj.2, q _ G' H' o wlk_range⟩
    · exact q.elim
  · exact q.elim
theorem it_range2 {a b : Expr} {f : S → R (List D × S)} (hg : Gl X "range") (hm : X.mg "range" = none) (ha : PAs X E [a, b] f) (hs : starEach [a, b] X.env = [(false, eval a X.env), (false, eval b X.env)] := by rfl) (hs2 : starEach [b] X.env = [(false, eval b X.env)] := by rfl) : PIt X E tg (.Call (.Name "range" p) [a, b] [] pos) (itRng2 f) := by
  obtain ⟨t, pa, s⟩ := ha.ex
  refine ⟨_, pi_range2 hg hm pa hs hs2, fun G H σ ρ r Rr hw => s G H σ ρ r _ (hw.bind.mono (fun z hz q vs G' H' o rv => ?_) fun _ _ q => q)⟩
  obtain ⟨ds, ρ'⟩ := z
  split at q
  · rename_i i j e
    have e' : ds = [.int i, .int j] := e
    subst e'
    split at q
    · rename_i hj
      obtain ⟨vs1, rfl, h2⟩ := rl_int rv
      obtain ⟨vs2, rfl, h3⟩ := rl_int h2
      exact ⟨i, j, by rw [repL_nil.mp h3], hj, q _ G' H' o wlk_range⟩
    · exact q.elim
  · exact q.elim
theorem it_range3 {a b c : Expr} {f : S → R (List D × S)} (hg : Gl X "range") (hm : X.mg "range" = none) (ha : PAs X E [a, b, c] f) (hs : starEach [a, b, c] X.env = (false, eval a X.env) :: starEach [b, c] X.env := by rfl) (hpl : (backTo pos (starEach [b, c] X.env)).any (·.1) = false := by rfl) : PIt X E tg (.Call (.Name "range" p) [a, b, c] [] pos) (itRng3 f) := by
  obtain ⟨t, pa, s⟩ := ha.ex
  refine ⟨_, pi_range3 hg hm pa hs hpl, fun G H σ ρ r Rr hw => s G H σ ρ r _ (hw.bind.mono (fun z hz q vs G' H' o rv => ?_) fun _ _ q => q)⟩
  obtain ⟨ds, ρ'⟩ := z
  split at q
  · rename_i i j c e
    have e' : ds = [.int i, .int j, .int c] := e
    subst e'
    split at q
    · rename_i hj
      obtain ⟨vs1, rfl, h2⟩ := rl_int rv
      obtain ⟨vs2, rfl, h3⟩ := rl_int h2
      obtain ⟨vs3, rfl, h4⟩ := rl_int h3
      exact ⟨i, j, c, _, by rw [repL_nil.mp h4], hj, q _ G' H' o wlk_rangeC⟩
    · exact q.elim
  · exact q.elim
def enums (ds : List D) : List D := (List.range ds.length).zipWith (fun (i : Nat) d => D.tup [.int i, d]) ds
@[simp] def itEnum (f : S → R (List D × S)) : S → R (List D × S) := fun ρ => f ρ >>= fun z => match z.1 with
  | [.lst ds] => .ok (enums ds, z.2)
  | _ => .no
theorem enums_get {ds : List D} {i : Nat} {d : D} (h : ds[i]? = some d) : (enums ds)[i]? = some (.tup [.int i, d]) := by
  have hi := (List.getElem?_eq_some_iff.mp h).1
  unfold enums
  rw [List.getElem?_zipWith]
  simp only [List.getElem?_range hi, h]
theorem enums_len (ds : List D) : (enums ds).length = ds.length := by simp [enums]
theorem it_enum {elts : List Expr} {kk : Nat} {tpos : Pos} {f : S → R (List D × S)} (hg : Gl X "enumerate") (hm : X.mg "enumerate" = none) (ha : PAs X E [e] f) (hs : starEach [e] X.env = [(false, eval e X.env)] := by rfl) :
    PIt X E (.Tuple elts kk tpos) (.Call (.Name "enumerate" p) [e] [] pos) (itEnum f) := by
  obtain ⟨t, pa, s⟩ := ha.ex
  refine ⟨_, pi_enum hg hm pa hs, fun G H σ ρ r Rr hw => s G H σ ρ r _ (hw.bind.mono (fun z hz q vs G' H' o rv => ?_) fun _ _ q => q)⟩
  obtain ⟨ds0, ρ'⟩ := z
  split at q
  · rename_i ds e
    have e' : ds0 = [.lst ds] := e
    subst e'
    obtain ⟨v, vs', rfl, h1, h2⟩ := repL_cons.mp rv
    unfold Rep at h1
    obtain ⟨a, xs, rfl, h3, h4⟩ := h1
    have h3' := o.rel.sub.ls h3
    refine ⟨a, xs, by rw [repL_nil.mp h2], SqL.of h3', q _ G' H' o ⟨fun H => SqL X.K H a xs, _, by rw [enums_len, h4.length]; exact walk_enum, fun H1 k => SqL.of (k a _ (by rw [h3]; simp) h3' nofun), fun i H x H' hi y G1 sg sb => ?_⟩⟩
    obtain ⟨T, u, w, rfl, hT, rfl, e1, e2⟩ := y
    obtain ⟨d, ed, rd⟩ := h4.getV e2
    cases e1
    have hg1 : G1 T = none := sb.none hT
    refine ⟨.tup [.int i, d], enums_get ed, upd G1 T (.tup [.int i, w]), .inr ⟨T, .tup _, hT, nofun, rfl, rfl⟩, ?_⟩
    unfold Rep
    exact ⟨T, _, rfl, SqT.of upd_same, .cons rep_int (.cons (Rep.mono (sg.trans (same_new hg1)) _ rd) .nil)⟩
  · exact q.elim
end

/-! ## readings made of functions -/
def tF (K : PySem.W.Frag) (E : WX) (f : EF) : TE := fun σ H Q => ∃ G ρ, Rel K G H σ ρ ∧ Wp (f ρ) (fun z => ∀ v G' H', Out K G H σ ρ G' H' z.2 → Hold K H G' H' σ z.2 z.1 v → Q v H') (ExE K E G H σ ρ)
def tFB (K : PySem.W.Frag) (E : WX) (f : S → R (Bool × S)) : TT := fun σ H Q => ∃ G ρ, Rel K G H σ ρ ∧ Wp (f ρ) (fun z => ∀ G' H', Out K G H σ ρ G' H' z.2 → Q z.1 H') (ExE K E G H σ ρ)
def gF (K : PySem.W.Frag) (tv : List Nat) (f : D → S → Option S) : TG := fun v σ H Q => ∃ Gs Hs σs ρs G ρ ρ' d, OutS K Gs Hs σs ρs G H σ ρ ∧ Rep K G d v ∧ f d ρ = some ρ' ∧ ∀ σ', OutS K Gs Hs σs ρs G H σ' ρ' → Onl tv σ σ' ρ' → Q σ' H
section
variable {X : Cx} {E : WX} {e : Expr}
theorem PR.pe {f : EF} (h : PR X E e f) : PE X e (tF X.K E f) := by
  obtain ⟨t, pe, s⟩ := h.ex
  exact ⟨fun pins s' σ H Q I ⟨G, ρ, r, w⟩ => pe.run pins s' σ H Q I (s G H σ ρ r Q w)⟩
theorem PB.pt {f : S → R (Bool × S)} (h : PB X E e f) : PT X e (tFB X.K E f) := by
  obtain ⟨t, pe, s⟩ := h.ex
  exact ⟨fun pins s' σ H Q I ⟨G, ρ, r, w⟩ => pe.run pins s' σ H Q I (s G H σ ρ r Q w)⟩
theorem PTg.pg {tv : List Nat} {f : D → S → Option S} (h : PTg X tv e f) : PG X e (gF X.K tv f) := by
  obtain ⟨g, pg, s⟩ := h.ex
  exact ⟨fun pins s' σ H v u Q I rv ⟨Gs, Hs, σs, ρs, G, ρ, ρ', d, o, rd, ef, q⟩ => pg.run pins s' σ H v u Q I rv (s Gs Hs σs ρs G H σ ρ ρ' d v o rd ef Q q)⟩
end
end BR
set_option Elab.async false
set_option linter.all false
set_option maxRecDepth 100000
set_option maxHeartbeats 4000000
namespace BR
open PySem L2

/-! ## list comprehensions -/
@[simp] def noX {α : Type} : R α → R α
  | .exc _ => .no
  | r => r
@[simp] theorem noX_ok {α : Type} (a : α) : noX (R.ok a) = R.ok a := rfl
theorem Wp.noX {α : Type} {r : R α} {P : α → Prop} {E : Exc → Prop} (h : Wp (noX r) P E) : Wp r P fun _ => False := by
  cases r <;> exact h
@[simp] def wipeS (ρ : S) : List Nat → S
  | [] => ρ
  | v :: vs => (wipeS ρ vs).set v none
/-- the slots vs as in ρ0 -/
@[simp] def rst (ρ0 ρ : S) : List Nat → S
  | [] => ρ
  | v :: vs => (rst ρ0 ρ vs).set v (ρ0.getD v none)
@[simp] def calmSl (ρ : S) (vs : List Nat) : Bool := vs.all fun v => match ρ[v]? with
  | some (some (.sh _)) => true
  | some none => true
  | _ => false
theorem wipeS_len (ρ : S) : ∀ vs, (wipeS ρ vs).length = ρ.length
  | [] => rfl
  | v :: vs => by unfold wipeS; rw [List.length_set, wipeS_len ρ vs]
theorem wipeS_at (ρ : S) {j : Nat} : ∀ vs, (wipeS ρ vs)[j]? = if j ∈ vs ∧ j < ρ.length then some none else ρ[j]?
  | [] => by simp [wipeS]
  | v :: vs => by
    unfold wipeS
    by_cases h : v = j
    · subst h
      by_cases hl : v < ρ.length
      · rw [List.getElem?_set_self (by rw [wipeS_len]; exact hl)]
        simp [hl]
      · rw [List.getElem?_eq_none (by rw [List.length_set, wipeS_len]; omega), List.getElem?_eq_none (by omega)]
        simp [hl]
    · rw [List.getElem?_set_ne h, wipeS_at ρ vs]
      have hn : ¬ j = v := fun z => h z.symm
      simp only [List.mem_cons, hn, false_or]
theorem rst_len (ρ0 ρ : S) : ∀ vs, (rst ρ0 ρ vs).length = ρ.length
  | [] => rfl
  | v :: vs => by unfold rst; rw [List.length_set, rst_len ρ0 ρ vs]
theorem rst_at (ρ0 ρ : S) {j : Nat} : ∀ vs, (rst ρ0 ρ vs)[j]? = if j ∈ vs ∧ j < ρ.length then some (ρ0.getD j none) else ρ[j]?
  | [] => by simp [rst]
  | v :: vs => by
    unfold rst
    by_cases h : v = j
    · subst h
      by_cases hl : v < ρ.length
      · rw [List.getElem?_set_self (by rw [rst_len]; exact hl)]
        simp [hl]
      · rw [List.getElem?_eq_none (by rw [List.length_set, rst_len]; omega), List.getElem?_eq_none (by omega)]
        simp [hl]
    · rw [List.getElem?_set_ne h, rst_at ρ0 ρ vs]
      have hn : ¬ j = v := fun z => h z.symm
      simp only [List.mem_cons, hn, false_or]
theorem wipe_at (σ : St) {j : Nat} : ∀ vs, (wipe σ vs)[j]? = if j ∈ vs ∧ j < σ.length then some none else σ[j]?
  | [] => by simp [wipe]
  | v :: vs => by
    unfold wipe
    by_cases h : v = j
    · subst h
      by_cases hl : v < σ.length
      · rw [List.getElem?_set_self (by rw [wipe_length]; exact hl)]
        simp [hl]
      · rw [List.getElem?_eq_none (by rw [List.length_set, wipe_length]; omega), List.getElem?_eq_none (by omega)]
        simp [hl]
    · rw [List.getElem?_set_ne h, wipe_at σ vs]
      have hn : ¬ j = v := fun z => h z.symm
      simp only [List.mem_cons, hn, false_or]
theorem wipe_only {σ σ' : St} {vs : List Nat} (h : Only vs (wipe σ vs) σ') : wipe σ' vs = wipe σ vs := by
  have hl : σ'.length = σ.length := by rw [h.len, wipe_length]
  apply List.ext_getElem?
  intro j
  rw [wipe_at, wipe_at, hl]
  by_cases c : j ∈ vs ∧ j < σ.length
  · rw [if_pos c, if_pos c]
  · rw [if_neg c, if_neg c]
    by_cases m : j ∈ vs
    · have : ¬ j < σ.length := fun z => c ⟨m, z⟩
      rw [List.getElem?_eq_none (by omega), List.getElem?_eq_none (by omega)]
    · rw [h.eq j m, wipe_at, if_neg fun z => m z.1]
theorem calmSl_not {ρ : S} {vs : List Nat} (h : calmSl ρ vs = true) {j : Nat} (hj : j ∈ vs) : ¬ isMut ρ j := by
  rintro ⟨d, z⟩
  have q := List.all_eq_true.mp h j hj
  rcases z with z | z <;> rw [z] at q <;> cases q
section
variable {K : PySem.W.Frag} {G H G' H' : Hp} {σ : St} {ρ ρ' : S} {vs : List Nat}
/-- into the block -/
theorem Rel.wipe (r : Rel K G H σ ρ) : Rel K G H (wipe σ vs) (wipeS ρ vs) where
  tt := r.tt
  len := by rw [wipeS_len, wipe_length]; exact r.len
  sub := r.sub
  sl := fun i s e => by
    rw [wipeS_at] at e
    by_cases c : i ∈ vs ∧ i < ρ.length
    · rw [if_pos c] at e; cases e
    · rw [if_neg c] at e
      rw [wipe_at, if_neg (by rw [← r.len]; exact c)]
      exact r.sl i s e
  dis := fun i j a m1 m2 q1 q2 => by
    have mm : ∀ k, isMut (wipeS ρ vs) k → isMut ρ k ∧ ¬ (k ∈ vs ∧ k < ρ.length) := fun k ⟨d, m⟩ => by
      rw [wipeS_at] at m
      by_cases c : k ∈ vs ∧ k < ρ.length
      · rw [if_pos c] at m; rcases m with m | m <;> cases m
      · rw [if_neg c] at m; exact ⟨⟨d, m⟩, c⟩
    obtain ⟨m1, c1⟩ := mm i m1
    obtain ⟨m2, c2⟩ := mm j m2
    rw [wipe_at, if_neg (by rw [← r.len]; exact c1)] at q1
    rw [wipe_at, if_neg (by rw [← r.len]; exact c2)] at q2
    exact r.dis i j a m1 m2 q1 q2
  dp := by
    have mm : ∀ k, isMut (wipeS ρ vs) k → isMut ρ k ∧ ¬ (k ∈ vs ∧ k < ρ.length) := fun k ⟨d, m⟩ => by
      rw [wipeS_at] at m
      by_cases c : k ∈ vs ∧ k < ρ.length
      · rw [if_pos c] at m; rcases m with m | m <;> cases m
      · rw [if_neg c] at m; exact ⟨⟨d, m⟩, c⟩
    refine (r.trees (Same.refl G) (fun a h => ⟨rfl, (r.dpaH h).2⟩) (fun i t e => ?_) fun i a m h q => ?_).1
    · rw [wipeS_at] at e
      by_cases c : i ∈ vs ∧ i < ρ.length
      · rw [if_pos c] at e; cases e
      · rw [if_neg c] at e; exact ⟨e, by rw [wipe_at, if_neg (by rw [← r.len]; exact c)]⟩
    · obtain ⟨m, c⟩ := mm i m
      rw [wipe_at, if_neg (by rw [← r.len]; exact c)] at q
      exact r.dp.ds a i h m q
theorem calmSl_dp {ρ : S} {vs : List Nat} (h : calmSl ρ vs = true) {j : Nat} {t : T} (hj : j ∈ vs) : ρ[j]? ≠ some (some (Sl.dp t)) := fun z => by
  have q := List.all_eq_true.mp h j hj
  rw [z] at q; cases q
theorem ads_wipe (hl : ρ.length = σ.length) (h : calmSl ρ vs = true) {a : Addr} : ads H (wipe σ vs) (wipeS ρ vs) a ↔ ads H σ ρ a := by
  constructor
  · rintro (⟨i, ⟨d, m⟩, q⟩ | ⟨i, t, v, m, q, z⟩)
    · rw [wipeS_at] at m
      by_cases c : i ∈ vs ∧ i < ρ.length
      · rw [if_pos c] at m; rcases m with m | m <;> cases m
      · rw [if_neg c] at m
        rw [wipe_at, if_neg (by rw [← hl]; exact c)] at q
        exact .inl ⟨i, ⟨d, m⟩, q⟩
    · rw [wipeS_at] at m
      by_cases c : i ∈ vs ∧ i < ρ.length
      · rw [if_pos c] at m; cases m
      · rw [if_neg c] at m
        rw [wipe_at, if_neg (by rw [← hl]; exact c)] at q
        exact .inr ⟨i, t, v, m, q, z⟩
  · rintro (⟨i, ⟨d, m⟩, q⟩ | ⟨i, t, v, m, q, z⟩)
    · have c : ¬ i ∈ vs := fun z => calmSl_not h z ⟨d, m⟩
      exact .inl ⟨i, ⟨d, by rw [wipeS_at, if_neg fun z => c z.1]; exact m⟩, by rw [wipe_at, if_neg fun z => c z.1]; exact q⟩
    · have c : ¬ i ∈ vs := fun z => calmSl_dp h z m
      exact .inr ⟨i, t, v, by rw [wipeS_at, if_neg fun z => c z.1]; exact m, by rw [wipe_at, if_neg fun z => c z.1]; exact q, z⟩
/-- out of the block -/
theorem unwipe {G0 H0 : Hp} {ρ0 : S} (r0 : Rel K G0 H0 σ ρ0) (hc : calmSl ρ0 vs = true) (o : Out K G0 H0 (wipe σ vs) (wipeS ρ0 vs) G' H' ρ') : Out K G0 H0 σ ρ0 G' H' (rst ρ0 ρ' vs) ∧ ∀ a, ads H' σ (rst ρ0 ρ' vs) a → ads H' (wipe σ vs) ρ' a := by
  have hl : ρ'.length = σ.length := by rw [o.rel.len, wipe_length]
  have at_ : ∀ j, (rst ρ0 ρ' vs)[j]? = if j ∈ vs ∧ j < σ.length then some (ρ0.getD j none) else ρ'[j]? := fun j => by rw [rst_at, hl]
  have mm : ∀ k, isMut (rst ρ0 ρ' vs) k → isMut ρ' k ∧ ¬ (k ∈ vs ∧ k < σ.length) := fun k ⟨d, m⟩ => by
    rw [at_] at m
    by_cases c : k ∈ vs ∧ k < σ.length
    · rw [if_pos c] at m
      exfalso
      have hk : k < ρ0.length := by rw [r0.len]; exact c.2
      refine calmSl_not hc c.1 ⟨d, ?_⟩
      have eg : ρ0[k]? = some (ρ0.getD k none) := by
        rw [List.getD_eq_getElem?_getD, List.getElem?_eq_getElem hk]; rfl
      rw [eg]; exact m
    · rw [if_neg c] at m; exact ⟨⟨d, m⟩, c⟩
  have md : ∀ (k : Nat) (t : T), (rst ρ0 ρ' vs)[k]? = some (some (Sl.dp t)) → ρ'[k]? = some (some (Sl.dp t)) ∧ ¬ (k ∈ vs ∧ k < σ.length) := fun k t m => by
    rw [at_] at m
    by_cases c : k ∈ vs ∧ k < σ.length
    · rw [if_pos c] at m
      exfalso
      have hk : k < ρ0.length := by rw [r0.len]; exact c.2
      refine calmSl_dp hc c.1 (t := t) ?_
      have eg : ρ0[k]? = some (ρ0.getD k none) := by
        rw [List.getD_eq_getElem?_getD, List.getElem?_eq_getElem hk]; rfl
      rw [eg]; exact m
    · rw [if_neg c] at m; exact ⟨m, c⟩
  have mda : ∀ a, dpa H' σ (rst ρ0 ρ' vs) a → dpa H' (wipe σ vs) ρ' a := fun a ⟨k, t, v, q1, q2, q3⟩ => by
    obtain ⟨q1, c⟩ := md k t q1
    exact ⟨k, t, v, q1, by rw [wipe_at, if_neg c]; exact q2, q3⟩
  have mad : ∀ a, ads H' σ (rst ρ0 ρ' vs) a → ads H' (wipe σ vs) ρ' a := fun a h => by
    rcases h with ⟨k, m, q⟩ | h
    · obtain ⟨m, c⟩ := mm k m
      exact .inl ⟨k, m, by rw [wipe_at, if_neg c]; exact q⟩
    · exact .inr (mda a h)
  refine ⟨?_, mad⟩
  have td : ∀ a, dpa H0 σ ρ0 a → dpa H0 (wipe σ vs) (wipeS ρ0 vs) a := fun a ⟨i, t, v, m, q, z⟩ => by
    have c : ¬ i ∈ vs := fun z => calmSl_dp hc z m
    exact ⟨i, t, v, by rw [wipeS_at, if_neg fun z => c z.1]; exact m, by rw [wipe_at, if_neg fun z => c z.1]; exact q, z⟩
  refine ⟨⟨by rw [rst_len]; exact hl, o.rel.sub, fun i s e => ?_, fun i j a m1 m2 q1 q2 => ?_, ⟨fun i j t u v w a q1 q2 q3 q4 => ?_, fun a i h m q => ?_⟩, o.rel.tt⟩, ?_, ⟨fun i m => ?_, fun i m => ?_, fun i t m => ?_⟩, fun a h z => ?_, fun a h => o.tre a (td a h), r0⟩
  · rw [at_] at e
    by_cases c : i ∈ vs ∧ i < σ.length
    · rw [if_pos c] at e
      have hk : i < ρ0.length := by rw [r0.len]; exact c.2
      have eg : ρ0[i]? = some (some s) := by
        rw [List.getD_eq_getElem?_getD, List.getElem?_eq_getElem hk] at e
        rw [List.getElem?_eq_getElem hk]; exact e
      have q := List.all_eq_true.mp hc i c.1
      rw [eg] at q
      have z := r0.sl i s eg
      cases s with
      | sh d => obtain ⟨v, e1, h⟩ := z; exact ⟨v, e1, Rep.mono o.stp.gg _ h⟩
      | own d => cases q
      | io d => cases q
      | dp t => cases q
      | gh a g0 h0 => obtain ⟨e1, h1, h2⟩ := z; exact ⟨e1, h1.trans o.stp.gg, h2.trans o.stp.tb⟩
    · rw [if_neg c] at e
      have z := o.rel.sl i s e
      rw [wipe_at, if_neg c] at z
      exact z
  · obtain ⟨m1, c1⟩ := mm i m1
    obtain ⟨m2, c2⟩ := mm j m2
    exact o.rel.dis i j a m1 m2 (by rw [wipe_at, if_neg c1]; exact q1) (by rw [wipe_at, if_neg c2]; exact q2)
  · obtain ⟨q1, c1⟩ := md i t q1
    obtain ⟨q3, c2⟩ := md j u q3
    exact o.rel.dp.dd i j t u v w a q1 (by rw [wipe_at, if_neg c1]; exact q2) q3 (by rw [wipe_at, if_neg c2]; exact q4)
  · obtain ⟨m, c⟩ := mm i m
    exact o.rel.dp.ds a i (mda a h) m (by rw [wipe_at, if_neg c]; exact q)
  · exact o.stp.mono fun c _ z => (ads_wipe r0.len hc).mp z
  · obtain ⟨m, c⟩ := mm i m
    obtain ⟨d, m2⟩ := o.ker.mu i m
    refine ⟨d, ?_⟩
    rw [wipeS_at, if_neg (by rw [r0.len]; exact c)] at m2
    exact m2
  · have c : ¬ i ∈ vs := fun z => calmSl_not hc z (let ⟨d, q⟩ := m; ⟨d, .inr q⟩)
    obtain ⟨d, q⟩ := m
    obtain ⟨d', q'⟩ := o.ker.io i ⟨d, by rw [wipeS_at, if_neg fun z => c z.1]; exact q⟩
    exact ⟨d', by rw [at_, if_neg fun z => c z.1]; exact q'⟩
  · obtain ⟨m, c⟩ := md i t m
    have m2 := o.ker.dp i t m
    rw [wipeS_at, if_neg (by rw [r0.len]; exact c)] at m2
    exact m2
  · exact (ads_wipe r0.len hc).mp (o.nw a (mad a h) z)
theorem Out.unwipe {G0 H0 : Hp} {ρ0 : S} (r0 : Rel K G0 H0 σ ρ0) (hc : calmSl ρ0 vs = true) (o : Out K G0 H0 (wipe σ vs) (wipeS ρ0 vs) G' H' ρ') : Out K G0 H0 σ ρ0 G' H' (rst ρ0 ρ' vs) := (BR.unwipe r0 hc o).1
theorem ads_unwipe {G0 H0 : Hp} {ρ0 : S} (r0 : Rel K G0 H0 σ ρ0) (hc : calmSl ρ0 vs = true) (o : Out K G0 H0 (wipe σ vs) (wipeS ρ0 vs) G' H' ρ') {a : Addr} (h : ads H' σ (rst ρ0 ρ' vs) a) : ads H' (wipe σ vs) ρ' a := (BR.unwipe r0 hc o).2 a h
end
/-- the turns: the state is wiped between them -/
def lcL (vs : List Nat) (g : D → S → Option S) (p : S → R (Bool × S)) (fe : EF) : List D → List D → S → R (List D × S)
  | [], acc, ρ => .ok (acc, ρ)
  | d :: ds, acc, ρ => ofO (g d ρ) >>= fun ρ1 => noX (p ρ1) >>= fun z => if z.1 = true then noX (eV fe z.2) >>= fun y => if acc.length < sizeLine then lcL vs g p fe ds (acc ++ [y.1]) (wipeS y.2 vs) else .no else lcL vs g p fe ds acc (wipeS z.2 vs)
@[simp] def eLc (vs : List Nat) (it : S → R (List D × S)) (g : D → S → Option S) (p : S → R (Bool × S)) (fe : EF) : EF := fun ρ => it ρ >>= fun z => if calmSl z.2 vs = true then lcL vs g p fe z.1 [] (wipeS z.2 vs) >>= fun y => .ok (.tmp (.lst y.1), rst z.2 y.2 vs) else .no
@[simp] def pYes : S → R (Bool × S) := fun ρ => .ok (true, ρ)
/-- a turn's end: its own slots wiped -/
theorem OutS.wiped {K : PySem.W.Frag} {G0 H0 : Hp} {σ : St} {ρ0 : S} {vs : List Nat} {G2 H2 : Hp} {σ2 : St} {ρ2 : S} (hc : ∀ j ∈ vs, ¬ isIo ρ0 j) (o : OutS K G0 H0 (L2.wipe σ vs) ρ0 G2 H2 σ2 ρ2) (hw : L2.wipe σ2 vs = L2.wipe σ vs) (hk : Lse ρ0 ρ2) (ht : ∀ a, dpa H0 (L2.wipe σ vs) ρ0 a → H2 a = H0 a) (r0 : Rel K G0 H0 (L2.wipe σ vs) ρ0) : Out K G0 H0 (L2.wipe σ vs) ρ0 G2 H2 (wipeS ρ2 vs) := by
  have r := o.rel.wipe (vs := vs)
  rw [hw] at r
  have mw : ∀ j, isMut (wipeS ρ2 vs) j → isMut ρ2 j := fun j ⟨d, m⟩ => by
    rw [wipeS_at] at m
    by_cases c : j ∈ vs ∧ j < ρ2.length
    · rw [if_pos c] at m; rcases m with m | m <;> cases m
    · rw [if_neg c] at m; exact ⟨d, m⟩
  have md : ∀ (j : Nat) (t : T), (wipeS ρ2 vs)[j]? = some (some (Sl.dp t)) → ρ2[j]? = some (some (Sl.dp t)) ∧ ¬ (j ∈ vs ∧ j < ρ2.length) := fun j t m => by
    rw [wipeS_at] at m
    by_cases c : j ∈ vs ∧ j < ρ2.length
    · rw [if_pos c] at m; cases m
    · rw [if_neg c] at m; exact ⟨m, c⟩
  refine ⟨r, o.stp, ⟨fun j m => hk.1 j (mw j m), fun j m => ?_, fun j t m => hk.2 j t (md j t m).1⟩, fun a h z => o.nw a ?_ z, ht, r0⟩
  · obtain ⟨⟨d, q⟩, _⟩ := o.io j m
    exact ⟨d, by rw [wipeS_at, if_neg fun z => hc j z.1 m]; exact q⟩
  · rcases h with ⟨j, ⟨d, m⟩, q⟩ | ⟨j, t, v, m, q, q3⟩
    · rw [← hw] at q
      rw [wipeS_at] at m
      by_cases c : j ∈ vs ∧ j < ρ2.length
      · rw [if_pos c] at m; rcases m with m | m <;> cases m
      · rw [if_neg c] at m
        rw [wipe_at, if_neg (by rw [← o.rel.len]; exact c)] at q
        exact .inl ⟨j, ⟨d, m⟩, q⟩
    · rw [← hw] at q
      obtain ⟨m, c⟩ := md j t m
      rw [wipe_at, if_neg (by rw [← o.rel.len]; exact c)] at q
      exact .inr ⟨j, t, v, m, q, q3⟩

section
variable {X : Cx} {E : WX} {elt tg iter : Expr} {ifs : List Expr} {scope : Scope} {own : List (Str × Nat)} {pos : Pos} {it : S → R (List D × S)} {g : D → S → Option S} {p : S → R (Bool × S)} {fe : EF} {tv : List Nat}
theorem Out.app {K : PySem.W.Frag} {G1 H1 G H : Hp} {σ : St} {ρ ρ' : S} {a : Addr} {u : HO} (o : Out K G1 H1 σ ρ G H ρ') (h1 : H1 a = none) (hg : G a = none) (ha : H a ≠ none) (hn : ¬ ads H σ ρ' a) (hs : ∀ o, H a = some o → ¬ Stat o) (hu : NT u := by intro _ z; cases z) : Out K G1 H1 σ ρ G (upd H a u) ρ' := by
  have hk : ∀ b, dpa H σ ρ' b → upd H a u b = H b ∧ G b = none := fun b h => ⟨upd_ne fun z => hn (by rw [← z]; exact .inr h), (o.rel.dpaH h).2⟩
  obtain ⟨tr, tw⟩ := o.rel.trees (Same.refl G) hk (fun _ _ e => ⟨e, rfl⟩) fun i b m h => o.rel.dp.ds b i h m
  refine ⟨⟨o.rel.len, fun b w e => ?_, fun i s e => ?_, o.rel.dis, tr, tbU hs o.rel.tt hu⟩, ⟨o.stp.gg, fun b w e n => ?_, fun b e => ?_, o.stp.fr, o.stp.tb.trans (tabs_upd hs hu)⟩, o.ker, fun b h z => o.nw b (h.imp id (tw b)) z, fun b h => (upd_ne fun z => (o.rel0.dpaH h).1 (by rw [z]; exact h1)).trans (o.tre b h), o.rel0⟩
  · have hb : b ≠ a := fun z => by rw [z, hg] at e; cases e
    rw [upd_ne hb]
    exact o.rel.sub b w e
  · have z := o.rel.sl i s e
    cases s with
    | sh d => exact z
    | own d =>
      obtain ⟨b, e1, h2, w, h3, h4⟩ := z
      have hb : b ≠ a := fun q => hn (.inl ⟨i, ⟨d, .inl e⟩, by rw [← q]; exact e1⟩)
      exact ⟨b, e1, h2, w, by rw [upd_ne hb]; exact h3, h4⟩
    | io d =>
      obtain ⟨b, e1, h2, w, h3, h4⟩ := z
      have hb : b ≠ a := fun q => hn (.inl ⟨i, ⟨d, .inr e⟩, by rw [← q]; exact e1⟩)
      exact ⟨b, e1, h2, w, by rw [upd_ne hb]; exact h3, h4⟩
    | gh b g0 h0 => obtain ⟨e1, h1, h2⟩ := z; exact ⟨e1, h1, h2.trans (tabs_upd hs hu)⟩
    | dp t =>
      obtain ⟨v, e1, h1, h2, _⟩ := o.rel.fp_eq (Same.refl G) hk (fun _ _ e => ⟨e, rfl⟩) i t e
      exact ⟨v, e1, h1, h2⟩
  · rw [upd_ne (ne_of_none e h1)]
    exact o.stp.keep b w e n
  · by_cases hb : b = a
    · rw [hb]; exact h1
    · rw [upd_ne hb] at e
      exact o.stp.thr b e
theorem lc_sound {K : PySem.W.Frag} {vs : List Nat} {tt : TT} (hv : ∀ i ∈ tv, i ∈ vs) (mu : ∀ d ρ ρ', g d ρ = some ρ' → Lse ρ ρ') (st : SndT K W0 tt p) {G H : Hp} {σ : St} {ρ : S} {Q : VK} {z : List D × S} {J : It} {G1 H1 : Hp} (o1 : Out K G H σ ρ G1 H1 z.2) (wk : Wlk K G1 H1 z.1 J)
    (q : Wp (if calmSl z.2 vs = true then lcL vs g p fe z.1 [] (wipeS z.2 vs) >>= fun y => R.ok (Hd.tmp (.lst y.1), rst z.2 y.2 vs) else R.no) (fun z => ∀ v G' H', Out K G H σ ρ G' H' z.2 → Hold K H G' H' σ z.2 z.1 v → Q v H') (ExE K E G H σ ρ)) : tLc (fun _ _ Rr => Rr J H1) (gF K tv g) tt (tF K W0 fe) vs σ H Q := by
  split at q
  rotate_left
  · exact q.elim
  rename_i hc
  intro Da hD
  obtain ⟨Gd, Y, wk, hG, hY⟩ := wk.ex
  have q := q.bind
  have hgD : G1 Da = none := o1.rel.sub.none hD
  have rw0 : Rel K G1 H1 (L2.wipe σ vs) (wipeS z.2 vs) := o1.rel.wipe
  have hDn : ∀ {a : Addr}, ads H1 (L2.wipe σ vs) (wipeS z.2 vs) a → a ≠ Da := fun h e => (rw0.adsH h).1 (by rw [e]; exact hD)
  have mw0 : ∀ j, isMut (wipeS z.2 vs) j → j ∉ vs := fun j ⟨d, m⟩ c => by
    rw [wipeS_at] at m
    by_cases hl : j < z.2.length
    · rw [if_pos ⟨c, hl⟩] at m; rcases m with m | m <;> cases m
    · rw [if_neg fun z => hl z.2, List.getElem?_eq_none (by omega)] at m; rcases m with m | m <;> cases m
  refine lc_it wk (fun i H' => ∃ G' ρ' acc us, Out K G1 H1 (L2.wipe σ vs) (wipeS z.2 vs) G' H' ρ' ∧ G' Da = none ∧ H' Da = some (.lst us) ∧ ¬ ads H' (L2.wipe σ vs) ρ' Da ∧ RepL K G' acc us ∧ (∀ b o, G1 b ≠ none → H1 b = some o → NT o → H' b = some o) ∧
      Wp (lcL vs g p fe (z.1.drop i) acc ρ') (fun y => ∀ v G' H', Out K G H σ ρ G' H' (rst z.2 y.2 vs) → Hold K H G' H' σ (rst z.2 y.2 vs) (.tmp (.lst y.1)) v → Q v H') (ExE K E G H σ ρ)) ?_ ?_ ?_ ?_
  · refine ⟨G1, wipeS z.2 vs, [], [], Out.new rw0 hD, hgD, upd_same, fun h => hDn (rw0.ads_new hD h) rfl, .nil, fun b o hb ho _ => ?_, q⟩
    rw [upd_ne (ne_of_none ho hD)]; exact ho
  · rintro i H' _ ⟨G', ρ', acc, us, _, _, _, _, _, k, _⟩
    exact hG H' k
  · rintro i x H' H2 hi ⟨G', ρ', acc, us, o, gD, hDD, nD, ra, k, w⟩ y
    obtain ⟨d, ed, G2, hstep, rx⟩ := hY i H' x H2 hi y G' o.stp.gg o.rel.sub
    obtain ⟨o2, gD2, hD2, nD2, k2, sg2⟩ : Out K G1 H1 (L2.wipe σ vs) (wipeS z.2 vs) G2 H2 ρ' ∧ G2 Da = none ∧ H2 Da = some (.lst us) ∧ ¬ ads H2 (L2.wipe σ vs) ρ' Da ∧ (∀ b o, H' b = some o → H2 b = some o) ∧ Same G' G2 := by
      rcases hstep with ⟨rfl, rfl⟩ | ⟨pp, u, hp, nu, rfl, rfl⟩
      · exact ⟨o, gD, hDD, nD, fun _ _ h => h, Same.refl _⟩
      · have zz := Out.lay (o := u) o.rel hp nu
        have hne : Da ≠ pp := ne_of_none hDD hp
        exact ⟨o.trans zz, by rw [upd_ne hne]; exact gD, by rw [upd_ne hne]; exact hDD, fun h => nD (zz.nw Da h (by rw [hDD]; simp)), fun b u' h => by rw [upd_ne (ne_of_none h hp)]; exact h, zz.stp.gg⟩
    have hd : z.1.drop i = d :: z.1.drop (i + 1) := by
      obtain ⟨h1, h2⟩ := List.getElem?_eq_some_iff.mp ed
      rw [← h2]
      exact List.drop_eq_getElem_cons h1
    rw [hd] at w
    obtain ⟨ρ3, e3, w⟩ := w.opt
    refine ⟨G2, H2, L2.wipe σ vs, ρ', G2, ρ', ρ3, d, (Out.refl o2.rel).s, rx, e3, fun σ3 o3 n3 => ?_⟩
    have hws : L2.wipe σ3 vs = L2.wipe σ vs := wipe_only (n3.on.mono hv)
    refine ⟨hws, ?_⟩
    have mu3 := mu d ρ' ρ3 e3
    have tr3 : ∀ (G4 H4 : Hp) (ρ4 : S), Out K G2 H2 σ3 ρ3 G4 H4 ρ4 → ∀ a, dpa H2 (L2.wipe σ vs) ρ' a → H4 a = H2 a := fun G4 H4 ρ4 o4 a h => by
      by_cases zz : ads H2 σ3 ρ3 a
      · rcases zz with ⟨j, m, e⟩ | zz
        · exact absurd ((n3.kp j (.inl m)).symm.trans e) (o2.rel.dp.ds a j h (mu3.1 j m))
        · exact o4.tre a zz
      · cases e : H2 a with
        | none => exact absurd e (o2.rel.dpaH h).1
        | some u => exact o4.stp.keep a u e zz (o2.rel.dpaNT h e)
    have n3D : ¬ ads H2 σ3 ρ3 Da := fun h => nD2 (o3.nw Da h (by rw [hD2]; simp))
    have ioN : ∀ j ∈ vs, ¬ isIo ρ' j := fun j hj ⟨d, m⟩ => mw0 j (o2.ker.mu j ⟨d, .inr m⟩) hj
    refine st G2 H2 σ3 ρ3 o3.rel _ (w.bind.noX.mono (fun b hb w2 G4 H4 o4 => ?_) fun _ _ w2 => w2.elim)
    have hD4 : H4 Da = some (.lst us) := o4.stp.keep Da _ hD2 n3D nofun
    have gD4 : G4 Da = none := o4.stp.fr Da (by rw [hD2]; simp) n3D gD2
    have n4D : ¬ ads H4 σ3 b.2 Da := fun h => n3D (o4.nw Da h (by rw [hD2]; simp))
    have keep4 : ∀ bb oo, G1 bb ≠ none → H1 bb = some oo → NT oo → H4 bb = some oo := fun bb oo h1 h2 h3 => o4.stp.keep bb oo (k2 bb oo (k bb oo h1 h2 h3)) (nt := h3) fun zz => by
      have hz := (o3.rel.adsH zz).2
      cases qq : G1 bb with
      | none => exact h1 qq
      | some u' => rw [(o.stp.gg.trans sg2) bb u' qq] at hz; cases hz
    split at w2
    · rename_i hb1
      rw [if_pos hb1]
      have w3 := w2.bind.noX
      refine ⟨G4, b.2, o4.rel, (Wp.bind w3).mono (fun hh _ w5 v G5 H5 o5 hold => ?_) fun _ _ w5 => w5.elim⟩
      cases es : share hh.1 hh.2 with
      | none => rw [es] at w5; exact w5.elim
      | some y6 =>
        rw [es] at w5
        obtain ⟨d6, ρ6⟩ := y6
        obtain ⟨G6, o6, sg6, rp6⟩ := share_ok o5 hold es
        have w6 : Wp (if acc.length < sizeLine then lcL vs g p fe (z.1.drop (i + 1)) (acc ++ [d6]) (wipeS ρ6 vs) else .no) _ _ := w5
        split at w6
        rotate_left
        · exact w6.elim
        rename_i hsz
        have hD5 : H5 Da = some (.lst us) := o6.stp.keep Da _ hD4 n4D nofun
        have gD6 : G6 Da = none := o6.stp.fr Da (by rw [hD4]; simp) n4D gD4
        refine ⟨us, hD5, by rw [← ra.length]; exact hsz, ?_⟩
        have oA : OutS K G2 H2 (L2.wipe σ vs) ρ' G6 H5 σ3 ρ6 := o3.trans (o4.s.trans o6.s)
        have oW : Out K G2 H2 (L2.wipe σ vs) ρ' G6 H5 (wipeS ρ6 vs) := oA.wiped ioN hws ((mu3.trans o4.ker.lse).trans o6.ker.lse) (tr3 _ _ _ (o4.trans o6)) o2.rel
        have nW : ¬ ads H5 (L2.wipe σ vs) (wipeS ρ6 vs) Da := fun h => nD2 (oW.nw Da h (by rw [hD2]; simp))
        have oB := o2.trans oW
        refine ⟨G6, wipeS ρ6 vs, acc ++ [d6], us ++ [v], oB.app hD gD6 (by rw [hD5]; simp) nW (fun o e => by rw [hD5] at e; cases e; exact lst_stat), gD6, upd_same, ?hnew, (ra.mono (sg2.trans (o4.stp.gg.trans o6.stp.gg))).append (.cons rp6 .nil), fun bb oo h1 h2 h3 => ?_, w6⟩
        case hnew =>
          intro h
          refine nW ?_
          have hk : ∀ b, dpa H5 (L2.wipe σ vs) (wipeS ρ6 vs) b → upd H5 Da (.lst (us ++ [v])) b = H5 b ∧ G6 b = none := fun b h => ⟨upd_ne fun z => nW (by rw [← z]; exact .inr h), (oB.rel.dpaH h).2⟩
          obtain ⟨_, tw⟩ := oB.rel.trees (Same.refl G6) hk (fun _ _ e => ⟨e, rfl⟩) fun i b m h => oB.rel.dp.ds b i h m
          exact h.imp id (tw Da)
        have hne : bb ≠ Da := ne_of_none h2 hD
        rw [upd_ne hne]
        refine o6.stp.keep bb oo (keep4 bb oo h1 h2 h3) (fun zz => ?_) h3
        have hz := (o4.rel.adsH zz).2
        cases qq : G1 bb with
        | none => exact h1 qq
        | some u' => rw [(o.stp.gg.trans (sg2.trans o4.stp.gg)) bb u' qq] at hz; cases hz
    · rename_i hb1
      rw [if_neg hb1]
      have oA : OutS K G2 H2 (L2.wipe σ vs) ρ' G4 H4 σ3 b.2 := o3.trans o4.s
      have oW : Out K G2 H2 (L2.wipe σ vs) ρ' G4 H4 (wipeS b.2 vs) := oA.wiped ioN hws (mu3.trans o4.ker.lse) (tr3 _ _ _ o4) o2.rel
      exact ⟨G4, wipeS b.2 vs, acc, us, o2.trans oW, gD4, hD4, fun h => nD2 (oW.nw Da h (by rw [hD2]; simp)), ra.mono (sg2.trans o4.stp.gg), keep4, w2⟩
  · rintro H' ⟨G', ρ', acc, us, o, gD, hDD, nD, ra, k, w⟩
    rw [List.drop_length] at w
    have ou := Out.unwipe o1.rel hc o
    refine w (.ref Da) G' H' (o1.trans ou) ⟨Da, rfl, ⟨gD, _, hDD, us, rfl, ra⟩, o1.stp.thr Da hD, fun h => nD (ads_unwipe o1.rel hc o h)⟩
theorem snd_lc {K : PySem.W.Frag} {wi : TI} {vs : List Nat} {tt : TT} (si : SndI K E wi it) (hv : ∀ i ∈ tv, i ∈ vs) (mu : ∀ d ρ ρ', g d ρ = some ρ' → Lse ρ ρ') (st : SndT K W0 tt p) : Snd K E (tLc wi (gF K tv g) tt (tF K W0 fe) vs) (eLc vs it g p fe) := by
  intro G H σ ρ Rl Q hw
  exact si G H σ ρ Rl _ (hw.bind.mono (fun z _ q J G1 H1 o1 wk => lc_sound hv mu st o1 wk q) fun _ _ q => q)
theorem pr_lc {vs : List Nat} {hs0 : X.calm = true} (hN : X.N.Nodup) (hi : PIt X E tg iter it) (ok : BlkOk X.N X.env.scope scope own) (hv : ∀ i ∈ tv, i ∈ vs)
    (hg : ∀ (s : Shared) (H : Hp) (C : Addr) (cl : List (Str × Addr)) (fp : List Addr), PTg (X.blk s H scope (compEnvC scope cl C X.env) fp) tv tg g)
    (ht : ∀ (s : Shared) (H : Hp) (C : Addr) (cl : List (Str × Addr)) (fp : List Addr), PB (X.blk s H scope (compEnvC scope cl C X.env) fp) W0 (ifs.headD iter) p)
    (he : ∀ (s : Shared) (H : Hp) (C : Addr) (cl : List (Str × Addr)) (fp : List Addr), PR (X.blk s H scope (compEnvC scope cl C X.env) fp) W0 elt fe) (h1 : ifs = [ifs.headD iter]) (hvs : own.map (·.2) = vs := by rfl) (hs : ∀ x, foldedSetIterable iter X.env x = pure x := by intro _; rfl) :
    PR X E (.ListComp elt [⟨tg, iter, ifs, 0⟩] scope pos) (eLc vs it g p fe) := by
  subst hvs
  obtain ⟨wi, pi, si⟩ := hi.ex
  refine ⟨_, pe_lc hs0 hN pi ok (fun s H C cl fp => (hg s H C cl fp).pg) (fun s H C cl fp => ?_) (fun s H C cl fp => (he s H C cl fp).pe) hs, snd_lc si hv (hg X.s_0 X.H_0 0 [] []).mu (tt := tFB X.K W0 p) fun G H σ ρ r Q w => ⟨G, ρ, r, w⟩⟩
  rw [h1]
  exact pts_one (ht s H C cl fp).pt
/-- without a test -/
theorem pr_lc0 {vs : List Nat} {hs0 : X.calm = true} (hN : X.N.Nodup) (hi : PIt X E tg iter it) (ok : BlkOk X.N X.env.scope scope own) (hv : ∀ i ∈ tv, i ∈ vs)
    (hg : ∀ (s : Shared) (H : Hp) (C : Addr) (cl : List (Str × Addr)) (fp : List Addr), PTg (X.blk s H scope (compEnvC scope cl C X.env) fp) tv tg g)
    (he : ∀ (s : Shared) (H : Hp) (C : Addr) (cl : List (Str × Addr)) (fp : List Addr), PR (X.blk s H scope (compEnvC scope cl C X.env) fp) W0 elt fe) (hvs : own.map (·.2) = vs := by rfl) (hs : ∀ x, foldedSetIterable iter X.env x = pure x := by intro _; rfl) :
    PR X E (.ListComp elt [⟨tg, iter, [], 0⟩] scope pos) (eLc vs it g pYes fe) := by
  subst hvs
  obtain ⟨wi, pi, si⟩ := hi.ex
  refine ⟨_, pe_lc hs0 hN pi ok (fun s H C cl fp => (hg s H C cl fp).pg) (fun s H C cl fp => pts_nil) (fun s H C cl fp => (he s H C cl fp).pe) hs, snd_lc si hv (hg X.s_0 X.H_0 0 [] []).mu fun G H σ ρ r Q w => w G H (Out.refl r)⟩
end
end BR
set_option Elab.async false
set_option linter.all false
set_option maxRecDepth 100000
set_option maxHeartbeats 4000000
namespace BR
open PySem PySem.Spec PyProof.Rows L2
/-! ## promises of defs that are called while nothing is being shown (no repr guard stands) -/
structure RmG (k : Nat) (A : Around) : Prop where
  rm : Room k A
  gd : A.guards = some []
section
variable {j k : Nat} {A : Around}
theorem RmG.mono (r : RmG k A) (h : j ≤ k) : RmG j A := ⟨r.rm.mono h, r.gd⟩
theorem RmG.deeper (r : RmG (k + 1) A) (env : Env) : RmG k (A.deeper env) := ⟨r.rm.deeper env, r.gd⟩
theorem RmG.in1 (r : RmG (k + 1) A) : RmG k A.in1 := ⟨r.rm.in1, r.gd⟩
theorem make_guards {C : Addr} {us : List Value} {kw : List (Str × Value)} : (A.under (.builtin "type.__call__" ⟨.ref C :: us, kw⟩)).guards = A.guards := by
  first | rfl | (cases h : A.guards <;> simp [Around.under, Code.guards, Code.isGuard, guardIds, pushGuards, h])
theorem RmG.make (r : RmG (k + 1) A) (C : Addr) (us : List Value) (kw : List (Str × Value)) : RmG k (A.under (.builtin "type.__call__" ⟨.ref C :: us, kw⟩)) := ⟨r.rm.make C us kw, make_guards.trans r.gd⟩
theorem RmG.units (r : RmG k A) : A.units + 64 < cLine := r.rm.units
end
structure FnG (P : Program) (w : World) (K : PySem.W.Frag) (mg : Str → Option Value) (base : Heap) (CX : CXT) (k : Nat) (f : Addr) (fd : FuncData) (ps : List Str) (sp : Sp) : Prop where
  len : ∀ vs H Q E, sp vs H Q E → vs.length = ps.length
  at_ : ∀ (A : Around) (outer : List Env) (s : Shared) (H : Hp) (args : Args) (us : List Value) (vs : List V) (Q : VK) (E : XK), RmG k A ∧ Env0 P w K mg base A outer s H ∧ BindsTo s fd args (ps.zip us) ∧ Vals vs us ∧ sp vs H Q E →
    codeAny (model P w) A (.call (.ref f) args) (CR CX outer P w H s Q E) s
section
variable {P : Program} {w : World} {K : PySem.W.Frag} {mg : Str → Option Value} {base : Heap} {CX : CXT} {j k : Nat} {f : Addr} {fd : FuncData} {ps : List Str} {sp sp' : Sp}
theorem FnG.mono (F : FnG P w K mg base CX j f fd ps sp) (h : j ≤ k) : FnG P w K mg base CX k f fd ps sp :=
  ⟨F.len, fun A outer s H args us vs Q E ⟨hr, q⟩ => F.at_ A outer s H args us vs Q E ⟨hr.mono h, q⟩⟩
theorem FnG.of (F : FnOk P w K mg base CX k f fd ps sp) : FnG P w K mg base CX k f fd ps sp :=
  ⟨F.len, fun A outer s H args us vs Q E ⟨hr, e, b, v, q⟩ => F.run A outer s H args us vs Q E hr.rm e b v q⟩
end
section
variable {X : Cx} {CX : CXT} {k : Nat} {f C : Addr} {fd : FuncData} {ps : List Str} {sp : Sp} {dvs : List V} {ds : List Value} {E : XK} {x m : Str} {p pos apos : Pos} {e o : Expr} {es : List Expr} {ta : TE} {t : TA}
/-- what a finished call means for its caller -/
theorem callEnd {pins : List (Addr × Obj)} {σ : L2.St} {H : Hp} {s : Shared} {Q : VK} (I : Inv X pins σ H s) (hx : PassesAt CX X σ E) {r : Result} {s' : Shared} (hq : CR CX X.stack X.prog X.w H s Q E r s') :
    (∃ u, r = .ok (.ret u) ∧ EP X pins σ Q u s') ∨ ∃ er, r = .error er ∧ X.xe er s' := by
  match r, hq with
  | .error er, hq => exact .inr ⟨er, rfl, hx pins H s er s' I hq⟩
  | .ok (.ret u), hq => exact .inl ⟨u, rfl, I.after hq⟩
/-- the callee runs; keywords kw -/
theorem runG {pins : List (Addr × Obj)} {σ : L2.St} {H : Hp} {s : Shared} {Q : VK} {us ws : List Value} {kw : List (Str × Value)} {vs : List V} (F : FnG X.prog X.w X.K X.mg X.base CX k f fd ps sp) (hr : RmG k X.A) (hx : PassesAt CX X σ E)
    (I : Inv X pins σ H s) (hb : BindsTo s fd ⟨us, kw⟩ (ps.zip ws)) (rv : Vals vs ws) (h : sp vs H Q E) : wpAny (model X.prog X.w) X.A (call (.ref f) us kw) (EP X pins σ Q) X.xe s := by
  have hc := F.at_ X.A X.stack s H ⟨us, kw⟩ ws vs Q E ⟨hr, I.env0, hb, rv, h⟩
  refine wpAny_call (codeAny_mono hc fun r s' hq => ?_)
  rcases callEnd I hx hq with ⟨u, rfl, z⟩ | ⟨er, rfl, z⟩
  · exact z
  · exact z
theorem runG0 {pins : List (Addr × Obj)} {σ : L2.St} {H : Hp} {s : Shared} {Q : VK} {us : List Value} {vs : List V} (F : FnG X.prog X.w X.K X.mg X.base CX k f fd ps sp) (hr : RmG k X.A) (hb : Binds X.K fd ps ds) (hd : Vals dvs ds) (hx : PassesAt CX X σ E)
    (I : Inv X pins σ H s) (r : Vals vs us) (h : sp (vs ++ dvs) H Q E) : wpAny (model X.prog X.w) X.A (call (.ref f) us) (EP X pins σ Q) X.xe s := by
  have r2 := r.append hd
  exact runG F hr hx I (hb s us I.kIn (by rw [← r2.length]; exact F.len _ _ _ _ h)) r2 h
/-- f(e, ..) -/
theorem pe_callG (F : FnG X.prog X.w X.K X.mg X.base CX k f fd ps sp) (hr : RmG k X.A) (hg : Gl X x) (hm : X.mg x = some (.ref f)) (hk : PySem.W.keepIn X.K (.ref f) = true) (hb : Binds X.K fd ps ds) (hd : Vals dvs ds) {E : L2.St → XK} (hx : ∀ σ, PassesAt CX X σ (E σ))
    (ha : PA X (e :: es) t) (hdb : (x == ("__debug__" : Str)) = false := by decide) (he : starEach (e :: es) X.env = (false, eval e X.env) :: starEach es X.env := by rfl) (hpl : (backTo pos (starEach es X.env)).any (·.1) = false := by rfl) :
    PE X (.Call (.Name x p) (e :: es) [] pos) (fun σ => tCall sp dvs (E σ) t σ) := by
  constructor
  intro pins s σ H Q I h
  have key := ha.run pos pins s σ H _ I h
  exact wpAny_Call_Name_kw (ld_glob I hg hm (PySem.W.callWith_K (h₀ := X.base) I.ok.mod.kin hk (thn key fun us s1 ⟨vs, H1, I1, r, q⟩ => ⟨I1.kIn, runG0 F hr hb hd (hx σ) I1 r q⟩) he hpl) hdb)
/-- f() -/
theorem pe_callG0 (F : FnG X.prog X.w X.K X.mg X.base CX k f fd ps sp) (hr : RmG k X.A) (hg : Gl X x) (hm : X.mg x = some (.ref f)) (hk : PySem.W.keepIn X.K (.ref f) = true) (hb : Binds X.K fd ps ds) (hd : Vals dvs ds) {E : L2.St → XK} (hx : ∀ σ, PassesAt CX X σ (E σ))
    (hdb : (x == ("__debug__" : Str)) = false := by decide) : PE X (.Call (.Name x p) [] [] pos) (fun σ => tCall sp dvs (E σ) tNil σ) :=
  ⟨fun pins s σ H Q I h => wpAny_Call_Name_kw (ld_glob I hg hm (PySem.W.callWith_K0 I.kIn hk (runG0 (us := []) F hr hb hd (hx σ) I .nil h)) hdb)⟩
/-- o.m(e, ..) -/
theorem pe_methG {pl : Sem Bool} (he : PE X o ta) (c : Cls X.K C) (hm : Meth X.K C m f) (F : FnG X.prog X.w X.K X.mg X.base CX k f fd ps sp) (hr : RmG k X.A) (hb : Binds X.K fd ps ds) (hd : Vals dvs ds) {E : L2.St → XK} (hx : ∀ σ, PassesAt CX X σ (E σ)) (ha : PA X (e :: es) t)
    (hst : starEach (e :: es) X.env = (false, eval e X.env) :: starEach es X.env := by rfl) (hpl : (backTo pos (starEach es X.env)).any (·.1) = false := by rfl)
    (ht : eval (.Call (.Attribute o m apos) (e :: es) [] pos) X.env = (do
      let ov ← eval o X.env
      standAt apos.atName
      let (f, first) ← holding [ov] (getMethod ov m pl)
      callWith pos f first (backTo pos (starEach (e :: es) X.env)) (backToKw pos (keywordEach [] X.env))) := by rfl) :
    PE X (.Call (.Attribute o m apos) (e :: es) [] pos) (fun σ => tMeth C m sp dvs (E σ) ta t σ) := by
  constructor
  intro pins s σ H Q I h
  have key := he.run pins s σ H _ I h
  refine PySem.W.methodCall_KW (pl := pl) (thn key fun u s1 ⟨x, H1, I1, rx, a, dx, fs, ex, ea, l, q⟩ => ?_) ht
  rw [ex] at rx q
  have hu : u = Value.ref a := rx
  rw [hu]
  have k2 := ha.run pos pins s1 σ H1 _ I1 q
  exact getmeth_ok I1 ea c hm l (PySem.W.callWith_K (first := [.ref a]) (h₀ := X.base) I.ok.mod.kin hm.kp (thn k2 fun us s2 ⟨vs, H2, I2, r, q2⟩ => ⟨I2.kIn, runG0 (us := .ref a :: us) (vs := .ref a :: vs) F hr hb hd (hx σ) I2 (.cons rfl r) q2⟩) hst hpl)
/-- o.m() -/
theorem pe_methG0 {pl : Sem Bool} (he : PE X o ta) (c : Cls X.K C) (hm : Meth X.K C m f) (F : FnG X.prog X.w X.K X.mg X.base CX k f fd ps sp) (hr : RmG k X.A) (hb : Binds X.K fd ps ds) (hd : Vals dvs ds) {E : L2.St → XK} (hx : ∀ σ, PassesAt CX X σ (E σ))
    (ht : eval (.Call (.Attribute o m apos) [] [] pos) X.env = (do
      let ov ← eval o X.env
      standAt apos.atName
      let (f, first) ← holding [ov] (getMethod ov m pl)
      callWith pos f first (backTo pos (starEach [] X.env)) (backToKw pos (keywordEach [] X.env))) := by rfl) :
    PE X (.Call (.Attribute o m apos) [] [] pos) (fun σ => tMeth C m sp dvs (E σ) ta tNil σ) := by
  constructor
  intro pins s σ H Q I h
  have key := he.run pins s σ H _ I h
  refine PySem.W.methodCall_KW (pl := pl) (thn key fun u s1 ⟨x, H1, I1, rx, a, dx, fs, ex, ea, l, q⟩ => ?_) ht
  rw [ex] at rx q
  have hu : u = Value.ref a := rx
  rw [hu]
  exact getmeth_ok I1 ea c hm l (PySem.W.callWith_K0 (first := [.ref a]) I1.kIn hm.kp (runG0 (us := [.ref a]) (vs := [.ref a]) F hr hb hd (hx σ) I1 (.cons rfl .nil) q))
/-- C(..) -/
theorem runMakeG {pins : List (Addr × Obj)} {σ : L2.St} {H : Hp} {s : Shared} {Q : VK} {us : List Value} {vs : List V} (M : Mk X.K C f) (F : FnG X.prog X.w X.K X.mg X.base CX k f fd ps sp) (hr : RmG (k + 1) X.A) (hb : Binds X.K fd ps ds) (hd : Vals dvs ds)
    (hx : PassesAt CX X σ E) (I : Inv X pins σ H s) (r : Vals vs us)
    (h : ∀ x dx, H x = none → H dx = none → dx ≠ x → sp (.ref x :: (vs ++ dvs)) (upd (upd H dx (.own x)) x (.ins C dx [])) (fun v H2 => v = .non ∧ Q (.ref x) H2) E) : wpAny (model X.prog X.w) X.A (call (.ref C) us) (EP X pins σ Q) X.xe s := by
  have hq := h (s.heap.objs.size + 1) s.heap.objs.size (I.hok.fresh (by omega)) (I.hok.fresh (Nat.le_refl _)) (Nat.ne_of_lt (Nat.lt_succ_self _))
  have I2 := Inv.made (C := C) I
  have r2 : Vals (V.ref (s.heap.objs.size + 1) :: (vs ++ dvs)) (Value.ref (s.heap.objs.size + 1) :: (us ++ ds)) := .cons rfl (r.append hd)
  have hl : (Value.ref (s.heap.objs.size + 1) :: us ++ ds).length = ps.length := by
    have z := F.len _ _ _ _ hq
    rw [r2.length] at z
    exact z
  have hc := F.at_ _ X.stack _ _ ⟨Value.ref (s.heap.objs.size + 1) :: us, []⟩ (Value.ref (s.heap.objs.size + 1) :: (us ++ ds)) _ _ E ⟨hr.make C us [], I2.env0.make C us [], hb _ (Value.ref (s.heap.objs.size + 1) :: us) I2.kIn hl, r2, hq⟩
  refine wpAny_call (make_map (f := f) I.kIn M.makes M.init (beq_iff_eq.mp M.fn) (codeAny_mono hc fun r s' hq' => ?_))
  match r, hq' with
  | .error er, hq' => exact hx pins _ _ er s' I2 hq'
  | .ok (.ret u), hq' =>
    obtain ⟨v, H', I3, rv, ev, q3⟩ := I2.after hq'
    rw [ev] at rv
    exact ⟨rv, V.ref (s.heap.objs.size + 1), H', I3, rfl, q3⟩
theorem pe_makeG (M : Mk X.K C f) (F : FnG X.prog X.w X.K X.mg X.base CX k f fd ps sp) (hr : RmG (k + 1) X.A) (hg : Gl X x) (hm : X.mg x = some (.ref C)) (hb : Binds X.K fd ps ds) (hd : Vals dvs ds) {E : L2.St → XK} (hx : ∀ σ, PassesAt CX X σ (E σ))
    (ha : PA X (e :: es) t) (hdb : (x == ("__debug__" : Str)) = false := by decide) (he : starEach (e :: es) X.env = (false, eval e X.env) :: starEach es X.env := by rfl) (hpl : (backTo pos (starEach es X.env)).any (·.1) = false := by rfl) :
    PE X (.Call (.Name x p) (e :: es) [] pos) (fun σ => tMake C sp dvs (E σ) t σ) := by
  constructor
  intro pins s σ H Q I h
  have key := ha.run pos pins s σ H _ I h
  exact wpAny_Call_Name_kw (ld_glob I hg hm (PySem.W.callWith_K (h₀ := X.base) I.ok.mod.kin M.kp (thn key fun us s1 ⟨vs, H1, I1, r, q⟩ => ⟨I1.kIn, runMakeG M F hr hb hd (hx σ) I1 r q⟩) he hpl) hdb)
/-- e.f, a property -/
theorem pe_propG {g p : Addr} {f : Str} (he : PE X e ta) (c : Cls X.K C) (hp : PropOf X.K C f p g) (F : FnG X.prog X.w X.K X.mg X.base CX k g fd ps sp) (hr : RmG (k + 1) X.A) (hb : Binds X.K fd ps ds) (hd : Vals dvs ds) (hx : Passes CX X.nox E)
    (hab : attributeBase e f X.env (eval e X.env) = eval e X.env) : PE X (.Attribute e f pos) (tProp C sp dvs E ta) := by
  constructor
  intro pins s σ H Q I h
  have key := he.run pins s σ H _ I h
  refine attr_of hab (thn key fun u s1 ⟨x, H1, I1, rx, a, dx, fs, ex, ea, q⟩ => ?_)
  rw [ex] at rx
  have hu : u = Value.ref a := rx
  rw [hu]
  obtain ⟨mA, O, _, _, _, _⟩ := ins_get I1.hok ea
  obtain ⟨od, J, _⟩ := O.look
  obtain ⟨rest, hrec⟩ := hp.rec_
  have I2 := I1.tok (s1.toks + 1)
  have hl : ([Value.ref a] ++ ds).length = ps.length := by
    have z := F.len _ _ _ _ q
    simp only [List.length_cons, List.length_append, List.length_nil] at z ⊢
    rw [hd.length] at z
    omega
  have hc : (PySem.W.clsIn X.K C).isSome = true := by
    obtain ⟨cd, hc, _⟩ := PySem.W.any_some c.hd
    simp [hc]
  have pg := PySem.W.plainGet_of (c.get f)
  have hcall := F.at_ X.A.in1 X.stack { s1 with toks := s1.toks + 1 } H1 ⟨[.ref a], []⟩ (.ref a :: ds) (.ref a :: dvs) Q E ⟨hr.in1, I2.env0.in1, hb _ [.ref a] I2.kIn hl, .cons rfl hd, q⟩
  refine PySem.W.get_bind I1.kIn J pg.1 (PySem.W.findObj_data hc hp.at_ hp.get hp.tak) pg.2 (wpAny_call (PySem.W.prop_get (s := { s1 with toks := s1.toks + 1 }) I1.kIn hrec (codeAny_mono hcall fun r s' hq => ?_)))
  match r, hq with
  | .error er, hq => exact (hx pins σ H1 { s1 with toks := s1.toks + 1 } er s' (I2.wish _) hq).elim
  | .ok (.ret u), hq =>
    obtain ⟨v, H', I3, rv, q3⟩ := I2.after hq
    show wpAny _ _ (handedOut u) _ _ _
    rw [PySem.W.handedOut_of (handed_of rv)]
    exact wpAny_pure ⟨v, H', I3, rv, q3⟩
end
section
variable {P : Program} {w : World} {K : PySem.W.Frag} {mg : Str → Option Value} {base : Heap} {x qual : Str} {params : Arguments} {body : List Stmt} {scope : Scope} {dvs : List V} {kws : List (Str × V)} {f : Addr} {fd : FuncData}
/-- the rule of a def -/
theorem fnG_of {CX : CXT} {N ps : List Str} {k : Nat} {sp : Sp} (F : FunD K x qual params body scope dvs kws f fd) (S : FnScope N ps scope) (len : ∀ vs H Q E, sp vs H Q E → vs.length = ps.length)
    (hbody : ∀ (cdv : Value) (A : Around) (outer : List Env) (s : Shared) (H : Hp) (vs : List V) (Q : VK) (E : XK), fd.code = cdv → RmG k (A.deeper (envOfC qual scope s.heap.objs.size f cdv)) → sp vs H Q E →
      ∃ t, PSs (cxOf CX P w K mg base N qual scope f cdv A outer s H E) body t ∧ t { nx := fun _ H' => Q .non H', rt := Q } (start N vs) H) : FnG P w K mg base CX (k + 1) f fd ps sp := by
  have hbody' : ∀ (A : Around) (outer : List Env) (s : Shared) (H : Hp) (vs : List V) (Q : VK) (E : XK), RmG k (A.deeper (envOfC qual scope s.heap.objs.size f fd.code)) → sp vs H Q E →
      ∃ t, PSs (cxOf CX P w K mg base N qual scope f fd.code A outer s H E) body t ∧ t { nx := fun _ H' => Q .non H', rt := Q } (start N vs) H := fun A outer s H vs Q E => hbody _ A outer s H vs Q E rfl
  refine ⟨len, fun A outer s H args us vs Q E ⟨hr, e0, hb, r, hsp⟩ => ?_⟩
  obtain ⟨oc, od, dV, kV, doc, pm, an, cdv, ct, osl, rfl, lk, hcd, _, _⟩ := F.ex
  obtain ⟨t, ht, hq⟩ := hbody' A outer s H vs Q E (hr.deeper _) hsp
  have keep : ∀ b o, base.get? b = some o → s.heap.get? b = some o := fun b o e => (e0.bs b o e).1
  have KX := e0.mod.kin.keeps keep
  have hl := len _ _ _ _ hsp
  have hkind : ∀ y ∈ ps.zip us, scope.names.lookup y.1 = some .local ∨ (scope.names.lookup y.1 = some .cell ∧ ((cellsFrom (s.heap.objs.size + 1) scope.names []).lookup y.1).isSome = true) := by
    rintro ⟨n, v⟩ hy
    exact (S.par n (List.of_mem_zip hy).1).imp id fun q => ⟨q, PySem.W.cellsFrom_some _ _ _ (.inl q)⟩
  refine codeAny_call_function hr.rm.depth (KX _ _ lk) rfl S.co S.gen rfl (PySem.W.codeRec_of KX hcd) (hb _ _ _ _ (wpAny_newFunctionEnv_cells S.kind hkind fun env he s1 x1 => ?_))
  subst he
  refine ⟨(e0.mod.nolimit.keeps keep).keeps x1.toInCall.keep, codeAny_func ?_⟩
  have J0 : Inv (cxOf CX P w K mg base N qual scope f cdv A outer s H E) [] (start N vs) H s1 := inv_start S hr.rm.hd e0 hl r x1
  refine wpAny_mono (ht.run [] s1 (start N vs) H _ J0 hq) (fun fl s' hs => ?_) fun e s' hs => hs
  have fin : ∀ {σ' : L2.St} {H' : Hp} {v : V} {u : Value}, Inv (cxOf CX P w K mg base N qual scope f cdv A outer s H E) [] σ' H' s' → RelV v u → Q v H' → CE outer P w H s Q u s' := by
    intro σ' H' v u J rv q
    exact ⟨v, H', J.os, J.bare, J.base, J.hok, rv, q⟩
  match fl, hs with
  | .ret u, ⟨v, σ', H', J, rv, q⟩ => exact fin J rv q
  | .next, ⟨σ', H', J, q⟩ => exact fin (v := V.non) (u := Value.none) J rfl q
  | .brk, ⟨_, _, _, q⟩ => exact q.elim
  | .cont, ⟨_, _, _, q⟩ => exact q.elim
end
end BR
set_option Elab.async false
set_option linter.all false
set_option maxRecDepth 100000
set_option maxHeartbeats 4000000
namespace BR
open PySem L2

/-! ## defs and their calls -/
abbrev FT := List D → R (D × List D)
inductive ArgR (K : PySem.W.Frag) (G H : Hp) : List Bool → List V → List D → List Addr → Prop where
  | nil : ArgR K G H [] [] [] []
  | sh {d : D} {v : V} {ms : List Bool} {vs : List V} {ds : List D} {as : List Addr} : Rep K G d v → ArgR K G H ms vs ds as → ArgR K G H (false :: ms) (v :: vs) (d :: ds) as
  | io {d : D} {p : Addr} {ms : List Bool} {vs : List V} {ds : List D} {as : List Addr} : OwnAt K G H p d → p ∉ as → ArgR K G H ms vs ds as → ArgR K G H (true :: ms) (.ref p :: vs) (d :: ds) (p :: as)
def RetR (K : PySem.W.Frag) (own : Bool) (H0 G H : Hp) (d : D) (v : V) : Prop := match own with
  | true => ∃ p, v = .ref p ∧ OwnAt K G H p d ∧ H0 p = none
  | false => Rep K G d v
def OutR (K : PySem.W.Frag) (G H : Hp) (as : List Addr) (os : List D) : Prop := ∀ (j : Nat) (p : Addr), as[j]? = some p → ∃ d, os[j]? = some d ∧ OwnAt K G H p d
def SubT (K : PySem.W.Frag) (G H : Hp) : Prop := Sub G H ∧ TbOk K H
theorem Rel.subT {K : PySem.W.Frag} {G H : Hp} {σ : St} {ρ : S} (r : Rel K G H σ ρ) : SubT K G H := ⟨r.sub, r.tt⟩
def spF (K : PySem.W.Frag) (ms : List Bool) (own : Bool) (F : FT) : Sp := fun vs H Q E => ∃ (G : Hp) (ds : List D) (as : List Addr), SubT K G H ∧ ArgR K G H ms vs ds as ∧
  Wp (F ds) (fun z => ∀ v G' H', SubT K G' H' → Stp (fun b => b ∈ as) G H G' H' → OutR K G' H' as z.2 → RetR K own H G' H' z.1 v → Q v H')
    (fun x => ∀ c d G' H', SubT K G' H' → Stp (fun b => b ∈ as) G H G' H' → ExR K G' H' x c d → E c d H')
theorem ArgR.len {K : PySem.W.Frag} {G H : Hp} {ms : List Bool} {vs : List V} {ds : List D} {as : List Addr} (h : ArgR K G H ms vs ds as) : vs.length = ms.length ∧ ds.length = ms.length := by
  induction h with
  | nil => exact ⟨rfl, rfl⟩
  | sh _ _ ih => exact ⟨congrArg Nat.succ ih.1, congrArg Nat.succ ih.2⟩
  | io _ _ _ ih => exact ⟨congrArg Nat.succ ih.1, congrArg Nat.succ ih.2⟩
@[simp] def iniS : List Bool → List D → S
  | false :: ms, d :: ds => some (.sh d) :: iniS ms ds
  | true :: ms, d :: ds => some (.io d) :: iniS ms ds
  | _, _ => []
@[simp] def ini (ms : List Bool) (n : Nat) (ds : List D) : S := iniS ms ds ++ List.replicate (n - ds.length) none
@[simp] def flH : Fl → Option Hd
  | .nx => some (.val .non)
  | .rt h => some h
  | _ => none
@[simp] def finH (own : Bool) (h : Hd) (ρ : S) : Option (D × S) := match own with
  | false => share h ρ
  | true => match h with
    | .tmp d => some (d, ρ)
    | .slot i => (match ρ[i]? with
      | some (some (.own d)) => some (d, ρ)
      | _ => none)
    | _ => none
@[simp] def ioOut : List Bool → Nat → S → Option (List D)
  | [], _, _ => some []
  | false :: ms, k, ρ => ioOut ms (k + 1) ρ
  | true :: ms, k, ρ => match ρ[k]? with
    | some (some (.io d)) => (ioOut ms (k + 1) ρ).map (d :: ·)
    | _ => none
@[simp] def runF (ms : List Bool) (own : Bool) (n : Nat) (b : SF) : FT := fun ds => b (ini ms n ds) >>= fun z => ofO (flH z.1) >>= fun h => ofO (finH own h z.2) >>= fun y => ofO (ioOut ms 0 y.2) >>= fun o => .ok (y.1, o)
section
variable {K : PySem.W.Frag} {G H : Hp}
theorem iniS_len {ms : List Bool} {vs : List V} {ds : List D} {as : List Addr} (h : ArgR K G H ms vs ds as) : (iniS ms ds).length = vs.length := by
  induction h with
  | nil => rfl
  | sh _ _ ih => exact congrArg Nat.succ ih
  | io _ _ _ ih => exact congrArg Nat.succ ih
theorem iniS_sl {ms : List Bool} {vs : List V} {ds : List D} {as : List Addr} (h : ArgR K G H ms vs ds as) : ∀ (i : Nat) (s : Sl), (iniS ms ds)[i]? = some (some s) → SlR K G H (vs.map some)[i]? s ∧ (∀ d, s ≠ .own d) ∧ ∀ t, s ≠ .dp t := by
  induction h with
  | nil => intro i s e; simp [iniS] at e
  | sh r _ ih =>
    intro i s e
    cases i with
    | zero => simp only [iniS, List.getElem?_cons_zero] at e; cases e; exact ⟨⟨_, rfl, r⟩, nofun, nofun⟩
    | succ i => simp only [iniS, List.getElem?_cons_succ] at e; simpa using ih i s e
  | io r _ _ ih =>
    intro i s e
    cases i with
    | zero => simp only [iniS, List.getElem?_cons_zero] at e; cases e; exact ⟨⟨_, rfl, r⟩, nofun, nofun⟩
    | succ i => simp only [iniS, List.getElem?_cons_succ] at e; simpa using ih i s e
/-- the io slots -/
theorem iniS_io {ms : List Bool} {vs : List V} {ds : List D} {as : List Addr} (h : ArgR K G H ms vs ds as) : ∀ i, isIo (iniS ms ds) i → ∃ p, p ∈ as ∧ (vs.map some)[i]? = some (some (.ref p)) ∧ ∀ j, isIo (iniS ms ds) j → (vs.map some)[j]? = some (some (.ref p)) → j = i := by
  induction h with
  | nil => rintro i ⟨d, e⟩; simp [iniS] at e
  | sh r _ ih =>
    rintro i ⟨d, e⟩
    cases i with
    | zero => simp only [iniS, List.getElem?_cons_zero] at e; cases e
    | succ i =>
      simp only [iniS, List.getElem?_cons_succ] at e
      obtain ⟨p, h1, h2, h3⟩ := ih i ⟨d, e⟩
      refine ⟨p, h1, by simpa using h2, fun j ⟨d', e'⟩ ej => ?_⟩
      cases j with
      | zero => simp only [iniS, List.getElem?_cons_zero] at e'; cases e'
      | succ j => simp only [iniS, List.getElem?_cons_succ] at e'; rw [h3 j ⟨d', e'⟩ (by simpa using ej)]
  | io r hn _ ih =>
    rintro i ⟨d, e⟩
    cases i with
    | zero =>
      refine ⟨_, List.mem_cons_self, rfl, fun j ⟨d', e'⟩ ej => ?_⟩
      cases j with
      | zero => rfl
      | succ j =>
        simp only [iniS, List.getElem?_cons_succ] at e'
        obtain ⟨p', h1, h2, _⟩ := ih j ⟨d', e'⟩
        rw [List.map_cons, List.getElem?_cons_succ, h2] at ej
        cases ej
        exact absurd h1 hn
    | succ i =>
      simp only [iniS, List.getElem?_cons_succ] at e
      obtain ⟨p', h1, h2, h3⟩ := ih i ⟨d, e⟩
      refine ⟨p', List.mem_cons_of_mem _ h1, by simpa using h2, fun j ⟨d', e'⟩ ej => ?_⟩
      cases j with
      | zero =>
        rw [List.map_cons, List.getElem?_cons_zero] at ej
        cases ej
        exact absurd h1 hn
      | succ j => simp only [iniS, List.getElem?_cons_succ] at e'; rw [h3 j ⟨d', e'⟩ (by simpa using ej)]
theorem ini_at {ms : List Bool} {n : Nat} {ds : List D} {i : Nat} {s : Sl} (h : (ini ms n ds)[i]? = some (some s)) : (iniS ms ds)[i]? = some (some s) := by
  unfold ini at h
  by_cases hi : i < (iniS ms ds).length
  · rw [List.getElem?_append_left hi] at h; exact h
  · rw [List.getElem?_append_right (by omega), List.getElem?_replicate] at h
    split at h <;> cases h
theorem start_at {N : List Str} {vs : List V} {i : Nat} {v : V} (h : (vs.map some)[i]? = some (some v)) : (L2.start N vs)[i]? = some (some v) := by
  unfold L2.start
  have hi : i < (vs.map some).length := (List.getElem?_eq_some_iff.mp h).1
  rw [List.getElem?_append_left hi]
  exact h
theorem rel_ini {ms : List Bool} {N : List Str} {vs : List V} {ds : List D} {as : List Addr} (s : SubT K G H) (h : ArgR K G H ms vs ds as) (hl : ms.length ≤ N.length) : Rel K G H (L2.start N vs) (ini ms N.length ds) where
  len := by
    unfold ini L2.start
    rw [List.length_append, List.length_append, iniS_len h, List.length_map, List.length_replicate, List.length_replicate, h.len.1, h.len.2]
  sub := s.1
  tt := s.2
  sl := fun i sl e => by
    obtain ⟨z, _⟩ := iniS_sl h i sl (ini_at e)
    cases sl with
    | sh d => obtain ⟨v, e1, r⟩ := z; exact ⟨v, start_at e1, r⟩
    | own d => obtain ⟨v, e1, r⟩ := z; exact ⟨v, start_at e1, r⟩
    | io d => obtain ⟨v, e1, r⟩ := z; exact ⟨v, start_at e1, r⟩
    | dp t => obtain ⟨v, e1, r⟩ := z; exact ⟨v, start_at e1, r⟩
    | gh a g0 h0 => obtain ⟨e1, r⟩ := z; exact ⟨start_at e1, r⟩
  dp := ⟨fun i j t u v w a e => absurd rfl ((iniS_sl h i _ (ini_at e)).2.2 t), fun a i ⟨j, t, v, e, _⟩ => absurd rfl ((iniS_sl h j _ (ini_at e)).2.2 t)⟩
  dis := fun i j p m1 m2 q1 q2 => by
    have io_ : ∀ k, isMut (ini ms N.length ds) k → isIo (iniS ms ds) k := fun k ⟨d, m⟩ => by
      rcases m with m | m
      · exact absurd rfl ((iniS_sl h k _ (ini_at m)).2.1 d)
      · exact ⟨d, ini_at m⟩
    obtain ⟨p', _, h2, h3⟩ := iniS_io h j (io_ j m2)
    have e2 := start_at (N := N) h2
    rw [q2] at e2; cases e2
    obtain ⟨p'', _, h4, _⟩ := iniS_io h i (io_ i m1)
    have e1 := start_at (N := N) h4
    rw [q1] at e1; cases e1
    exact h3 i (io_ i m1) h4
theorem ads_ini {ms : List Bool} {N : List Str} {vs : List V} {ds : List D} {as : List Addr} (h : ArgR K G H ms vs ds as) {p : Addr} {H1 : Hp} (z : ads H1 (L2.start N vs) (ini ms N.length ds) p) : p ∈ as := by
  rcases z with ⟨i, ⟨d, m⟩, e⟩ | ⟨j, t, v, e, _⟩
  rotate_left
  · exact absurd rfl ((iniS_sl h j _ (ini_at e)).2.2 t)
  have io_ : isIo (iniS ms ds) i := by
    rcases m with m | m
    · exact absurd rfl ((iniS_sl h i _ (ini_at m)).2.1 d)
    · exact ⟨d, ini_at m⟩
  obtain ⟨p', h1, h2, _⟩ := iniS_io h i io_
  rw [start_at h2] at e
  cases e
  exact h1
theorem ioOut_some {ms : List Bool} {vs : List V} {ds : List D} {as : List Addr} (h : ArgR K G H ms vs ds as) : ∀ (k : Nat) (ρ : S) (os : List D), ioOut ms k ρ = some os → ∀ (j : Nat) (p : Addr), as[j]? = some p → ∃ (i : Nat) (d : D), isIo (iniS ms ds) i ∧ (vs.map some)[i]? = some (some (.ref p)) ∧ ρ[k + i]? = some (some (.io d)) ∧ os[j]? = some d := by
  induction h with
  | nil => intro k ρ os _ j p e; simp at e
  | sh _ _ ih =>
    intro k ρ os e j p ea
    obtain ⟨i, d, ⟨d', h1⟩, h2, h3, h4⟩ := ih (k + 1) ρ os e j p ea
    exact ⟨i + 1, d, ⟨d', by simpa [iniS] using h1⟩, by simpa using h2, by rw [← h3]; congr 1; omega, h4⟩
  | io _ _ _ ih =>
    intro k ρ os e j p ea
    unfold ioOut at e
    split at e
    · rename_i d q
      obtain ⟨os', e1, rfl⟩ := Option.map_eq_some_iff.mp e
      cases j with
      | zero =>
        rw [List.getElem?_cons_zero] at ea
        cases ea
        exact ⟨0, d, ⟨_, rfl⟩, rfl, q, rfl⟩
      | succ j =>
        obtain ⟨i, d2, ⟨d', h1⟩, h2, h3, h4⟩ := ih (k + 1) ρ os' e1 j p (by simpa using ea)
        exact ⟨i + 1, d2, ⟨d', by simpa [iniS] using h1⟩, by simpa using h2, by rw [← h3]; congr 1; omega, by simpa using h4⟩
    · cases e
end
section
variable {P : Program} {w : World} {K : PySem.W.Frag} {mg : Str → Option Value} {base : Heap} {x qual : Str} {params : Arguments} {body : List Stmt} {scope : Scope} {dvs : List V} {kws : List (Str × V)} {f : Addr} {fd : FuncData} {N ps : List Str} {k : Nat}
/-- THE RULE of a def -/
theorem fn_ok {ms : List Bool} {own : Bool} {b : SF} (F : FunD K x qual params body scope dvs kws f fd) (Sc : FnScope N ps scope) (hm : ms.length = ps.length)
    (hb : ∀ (cdv : Value) (A : Around) (outer : List Env) (s : Shared) (H : Hp) (E : XK), fd.code = cdv → RmG k (A.deeper (PyProof.Rows.envOfC qual scope s.heap.objs.size f cdv)) → PSq (cxOf (L2.CX P w) P w K mg base N qual scope f cdv A outer s H E) (fun c d _ H' => E c d H') body b) :
    FnG P w K mg base (L2.CX P w) (k + 1) f fd ps (spF K ms own (runF ms own N.length b)) := by
  have hpl : ps.length ≤ N.length := by have := congrArg List.length Sc.pre; rw [List.length_take] at this; omega
  refine fnG_of F Sc (fun vs H Q E h => ?_) fun cdv A outer s H vs Q E hcd hr h => ?_
  · obtain ⟨G, ds, as, _, h, _⟩ := h
    rw [h.len.1, hm]
  · obtain ⟨G, ds, as, sb, ha, hw⟩ := h
    obtain ⟨t, pt, st⟩ := (hb cdv A outer s H E hcd hr).ex
    refine ⟨t, pt, ?_⟩
    have r0 : Rel K G H (L2.start N vs) (ini ms N.length ds) := rel_ini sb ha (by omega)
    have stp0 : ∀ {G' H' : Hp}, Stp (ads H (L2.start N vs) (ini ms N.length ds)) G H G' H' → Stp (fun b => b ∈ as) G H G' H' := fun st => st.mono fun c _ z => ads_ini ha z
    refine st G H (L2.start N vs) (ini ms N.length ds) r0 _ (hw.bind.mono (fun z _ q => ?_) fun x _ q c d σ' G' H' ox ex => q c d G' H' ox.rel.subT (stp0 ox.stp) ex)
    obtain ⟨hd, e1, qa⟩ := q.opt
    obtain ⟨y, e2, qb⟩ := qa.opt
    obtain ⟨o, e3, qf⟩ := qb.opt
    clear q qa qb
    -- a way out
    have out : ∀ {σ' : St} {G' H' : Hp} {v : V}, OutS K G H (L2.start N vs) (ini ms N.length ds) G' H' σ' z.2 → Hold K H G' H' σ' z.2 hd v → Q v H' := by
      intro σ' G' H' v oo hh
      have fin : ∀ {G'' : Hp} {ρ'' : S}, OutS K G H (L2.start N vs) (ini ms N.length ds) G'' H' σ' ρ'' → ioOut ms 0 ρ'' = some o → OutR K G'' H' as o := by
        intro G'' ρ'' o2 e3' jj p ea
        obtain ⟨i, dd, i1, i2, i3, i4⟩ := ioOut_some ha 0 ρ'' o e3' jj p ea
        rw [Nat.zero_add] at i3
        have hio : isIo (ini ms N.length ds) i := by
          obtain ⟨d, q⟩ := i1
          refine ⟨d, ?_⟩
          unfold ini
          rw [List.getElem?_append_left (List.getElem?_eq_some_iff.mp q).1]
          exact q
        obtain ⟨a', e4, ow⟩ := o2.rel.sl i _ i3
        rw [(o2.io i hio).2, start_at i2] at e4
        cases e4
        exact ⟨dd, i4, ow⟩
      cases own with
      | false =>
        have e2' : share hd z.2 = some y := e2
        obtain ⟨d, ρ2⟩ := y
        have oo' : OutS K G H (L2.start N vs) (ini ms N.length ds) G' H' σ' z.2 := oo
        have rr : Out K G' H' σ' z.2 G' H' z.2 := Out.refl oo.rel
        cases hd with
        | val d0 => cases e2'; exact qf v G' H' oo.rel.subT (stp0 oo.stp) (fin oo e3) hh
        | tmp d0 =>
          cases e2'
          obtain ⟨p, rfl, ⟨h1, u, h2, h3⟩, h4, h5⟩ := hh
          have hs : Same G' (upd G' p u) := same_new h1
          have og : OutS K G H (L2.start N vs) (ini ms N.length ds) (upd G' p u) H' σ' z.2 := ⟨oo.rel.grow h1 h2 h5, ⟨oo.stp.gg.trans hs, oo.stp.keep, oo.stp.thr, fun b qb n g => by rw [upd_ne fun z => qb (by rw [z]; exact h4)]; exact oo.stp.fr b qb n g, oo.stp.tb⟩, oo.nw, oo.io⟩
          exact qf _ _ H' og.rel.subT (stp0 og.stp) (fin og e3) (Cont.rep upd_same (h3.mono hs))
        | tpd t =>
          cases e2'
          obtain ⟨h1, h2, h3⟩ := hh
          have hs : Same G' (frzA G' H' (fp H' t v)) := frzA_same fun a m => (h1.in_ t a m).1
          have og : OutS K G H (L2.start N vs) (ini ms N.length ds) (frzA G' H' (fp H' t v)) H' σ' z.2 := ⟨oo.rel.growT h1 fun a m => (h3 a m).2, ⟨oo.stp.gg.trans hs, oo.stp.keep, oo.stp.thr, fun b qb n g => by rw [frzA_out fun z => qb (h3 b z).1]; exact oo.stp.fr b qb n g, oo.stp.tb⟩, oo.nw, oo.io⟩
          exact qf _ _ H' og.rel.subT (stp0 og.stp) (fin og e3) (h1.rep hs t fun a m => frzA_in m)
        | sub i p => cases e2'
        | slot i =>
          obtain ⟨G2, o2, _, rp⟩ := share_ok (hd := .slot i) rr hh e2'
          have og := oo.trans o2.s
          exact qf v G2 H' og.rel.subT (stp0 og.stp) (fin og e3) rp
      | true =>
        cases hd with
        | val d0 => cases e2
        | tmp d0 =>
          cases e2
          obtain ⟨p, rfl, h1, h4, h5⟩ := hh
          exact qf _ G' H' oo.rel.subT (stp0 oo.stp) (fin oo e3) ⟨p, rfl, h1, h4⟩
        | tpd t => cases e2
        | sub i p => cases e2
        | slot i =>
          have e2' : (match z.2[i]? with | some (some (.own d)) => some (d, z.2) | _ => none) = some y := e2
          split at e2'
          · rename_i d0 qi
            cases e2'
            obtain ⟨p, e5, ow⟩ := oo.rel.sl i _ qi
            have hv : σ'[i]? = some (some v) := hh
            rw [hv] at e5; cases e5
            refine qf _ G' H' oo.rel.subT (stp0 oo.stp) (fin oo e3) ⟨p, rfl, ow, ?_⟩
            cases hp : H p with
            | none => rfl
            | some u =>
              exfalso
              rcases oo.nw p (.inl ⟨i, ⟨d0, .inl qi⟩, hv⟩) (by rw [hp]; simp) with ⟨j, m, ej⟩ | ⟨j, t, v, e, _⟩
              rotate_left
              · exact absurd rfl ((iniS_sl ha j _ (ini_at e)).2.2 t)
              have hio : isIo (ini ms N.length ds) j := by
                obtain ⟨d, m⟩ := m
                rcases m with m | m
                · exact absurd rfl ((iniS_sl ha j _ (ini_at m)).2.1 d)
                · exact ⟨d, m⟩
              obtain ⟨⟨d2, q2⟩, e6⟩ := oo.io j hio
              have := oo.rel.dis i j p ⟨d0, .inl qi⟩ ⟨d2, .inr q2⟩ hv (by rw [e6]; exact ej)
              subst this
              rw [qi] at q2; cases q2
          · cases e2'
    obtain ⟨fl, ρ'⟩ := z
    cases fl with
    | nx =>
      cases e1
      exact fun σ' G' H' oo => out oo (Hold.val rep_non)
    | rt h0 =>
      cases e1
      exact fun v σ' G' H' oo hh => out oo hh
    | bk => cases e1
    | ct => cases e1
/-- what a callee raises leaves the def -/
theorem passD {qual : Str} {f : Addr} {cdv : Value} {A : Around} {outer : List Env} {s : Shared} {H : Hp} {E : XK} : Takes (cxOf (L2.CX P w) P w K mg base N qual scope f cdv A outer s H E) (fun c d _ H' => E c d H') :=
  takes_of rfl rfl rfl rfl
theorem pass00 {X : Cx} : Takes X W0 := fun _ _ x => by
  obtain ⟨_, _, _, _, _, _, _, _, _, _, _, _, _, _, _, _, z⟩ := x
  exact z.elim
theorem ownD {qual : Str} {f : Addr} {cdv : Value} {A : Around} {outer : List Env} {s : Shared} {H : Hp} {E : XK} : PassesOwn (model P w) (A.deeper (PyProof.Rows.envOfC qual scope s.heap.objs.size f cdv)) (PyProof.Rows.envOfC qual scope s.heap.objs.size f cdv) (cxOf (L2.CX P w) P w K mg base N qual scope f cdv A outer s H E).xe :=
  passes_of (X := cxOf (L2.CX P w) P w K mg base N qual scope f cdv A outer s H E) rfl
end
/-! ### arguments, some of them in/out objects -/
inductive ArS : List Bool → List Hd → Prop where
  | nil : ArS [] []
  | sh {ms : List Bool} {hs : List Hd} {d : D} : ArS ms hs → ArS (false :: ms) (.val d :: hs)
  | slot {ms : List Bool} {hs : List Hd} {i : Nat} : ArS ms hs → ArS (true :: ms) (.slot i :: hs)
  | tmp {ms : List Bool} {hs : List Hd} {d : D} : ArS ms hs → ArS (true :: ms) (.tmp d :: hs)
def SndM (K : PySem.W.Frag) (E : WX) (ms : List Bool) (t : TA) (f : S → R (List Hd × S)) : Prop := ∀ (G H : Hp) (σ : St) (ρ : S), Rel K G H σ ρ → ∀ Q : List V → Hp → Prop,
  Wp (f ρ) (fun z => ∀ vs G' H', Out K G H σ ρ G' H' z.2 → HoldL K H G' H' σ z.2 z.1 vs → ArS ms z.1 → Q vs H') (ExE K E G H σ ρ) → t σ H Q
structure PMs (X : Cx) (E : WX) (ms : List Bool) (es : List Expr) (f : S → R (List Hd × S)) : Prop where
  ex : ∃ t, PA X es t ∧ SndM X.K E ms t f
@[simp] def mNil : S → R (List Hd × S) := fun ρ => .ok ([], ρ)
@[simp] def mSh (f : EF) (g : S → R (List Hd × S)) : S → R (List Hd × S) := fun ρ => eV f ρ >>= fun z => g z.2 >>= fun y => .ok (.val z.1 :: y.1, y.2)
@[simp] def mIo (f : EF) (g : S → R (List Hd × S)) : S → R (List Hd × S) := fun ρ => f ρ >>= fun z => match z.1 with
  | .val _ => .no
  | .tpd _ => .no
  | .sub _ _ => .no
  | h => g z.2 >>= fun y => .ok (h :: y.1, y.2)
section
variable {X : Cx} {E : WX} {e : Expr} {es : List Expr} {f : EF} {g : S → R (List Hd × S)} {ms : List Bool}
theorem ms_nil : PMs X E [] [] mNil := ⟨_, pa_nil, fun G H σ ρ r Q hw => hw [] G H (.refl r) .nil .nil⟩
theorem ms_sh (h1 : PR X E e f) (h2 : PMs X E ms es g) (hs : starEach (e :: es) X.env = (false, eval e X.env) :: starEach es X.env := by rfl) : PMs X E (false :: ms) (e :: es) (mSh f g) := by
  obtain ⟨t, pe, s⟩ := h1.v.ex
  obtain ⟨t2, pa, s2⟩ := h2.ex
  refine ⟨_, pa_cons pe pa hs, fun G H σ ρ r Q hw => s G H σ ρ r _ (hw.bind.mono (fun z _ q v G' H' o h => ?_) fun _ _ q => q)⟩
  refine s2 G' H' σ z.2 o.rel _ (q.bind.mono (fun y _ q2 vs G2 H2 o2 h2 a2 => ?_) fun _ _ q2 => q2.step o)
  exact q2 (v :: vs) G2 H2 (o.trans o2) (.cons (Hold.val (Rep.mono o2.stp.gg _ h)) (h2.back o.stp.thr)) (.sh a2)
theorem ms_io (h1 : PR X E e f) (h2 : PMs X E ms es g) (hs : starEach (e :: es) X.env = (false, eval e X.env) :: starEach es X.env := by rfl) : PMs X E (true :: ms) (e :: es) (mIo f g) := by
  obtain ⟨t, pe, s⟩ := h1.ex
  obtain ⟨t2, pa, s2⟩ := h2.ex
  refine ⟨_, pa_cons pe pa hs, fun G H σ ρ r Q hw => s G H σ ρ r _ (hw.bind.mono (fun z _ q v G' H' o h => ?_) fun _ _ q => q)⟩
  obtain ⟨hd, ρ1⟩ := z
  cases hd with
  | val d => exact q.elim
  | tpd t => exact q.elim
  | sub i p => exact q.elim
  | slot i =>
    refine s2 G' H' σ ρ1 o.rel _ ((Wp.bind q).mono (fun y _ q2 vs G2 H2 o2 h2 a2 => ?_) fun _ _ q2 => q2.step o)
    exact q2 (v :: vs) G2 H2 (o.trans o2) (.cons (h.pers o2) (h2.back o.stp.thr)) (.slot a2)
  | tmp d =>
    refine s2 G' H' σ ρ1 o.rel _ ((Wp.bind q).mono (fun y _ q2 vs G2 H2 o2 h2 a2 => ?_) fun _ _ q2 => q2.step o)
    exact q2 (v :: vs) G2 H2 (o.trans o2) (.cons (h.pers o2) (h2.back o.stp.thr)) (.tmp a2)
end
@[simp] def isTmp : Hd → Bool
  | .tmp _ => true
  | _ => false
@[simp] def isSlot (i : Nat) : Hd → Bool
  | .slot j => j == i
  | _ => false
@[simp] def lookM : List Hd → S → Option (List D)
  | [], _ => some []
  | .val d :: hs, ρ => (lookM hs ρ).map (d :: ·)
  | .tmp d :: hs, ρ => if hs.any isTmp = true then none else (lookM hs ρ).map (d :: ·)
  | .tpd _ :: _, _ => none
  | .sub _ _ :: _, _ => none
  | .slot i :: hs, ρ => if hs.any (isSlot i) = true then none else (match ρ[i]? with
    | some (some (.own d)) => (lookM hs ρ).map (d :: ·)
    | some (some (.io d)) => (lookM hs ρ).map (d :: ·)
    | _ => none)
@[simp] def putIo : List Hd → List D → S → Option S
  | [], _, ρ => some ρ
  | .val _ :: hs, os, ρ => putIo hs os ρ
  | .tmp _ :: hs, _ :: os, ρ => putIo hs os ρ
  | .slot i :: hs, d :: os, ρ => (match ρ[i]? with
    | some (some (.own _)) => putIo hs os (ρ.set i (some (.own d)))
    | some (some (.io _)) => putIo hs os (ρ.set i (some (.io d)))
    | _ => none)
  | .tmp _ :: _, [], _ => none
  | .tpd _ :: _, _, _ => none
  | .sub _ _ :: _, _, _ => none
  | .slot _ :: _, [], _ => none
section
variable {K : PySem.W.Frag} {Hs G H G' H' : Hp} {σ : St} {ρ ρ' : S}
theorem Rel.kp {A : Addr → Prop} (r : Rel K G H σ ρ) (st : Stp A G H G' H') (hA : ∀ b, dpa H σ ρ b → ¬ A b) : ∀ b, dpa H σ ρ b → H' b = H b ∧ G' b = none := fun b h => by
  obtain ⟨h1, h2⟩ := r.dpaH h
  refine ⟨?_, st.fr b h1 (hA b h) h2⟩
  cases e : H b with
  | none => exact absurd e h1
  | some o => exact st.keep b o e (hA b h) (r.dpaNT h e)
theorem Rel.after {A : Addr → Prop} (r : Rel K G H σ ρ) (st : Stp A G H G' H') (sb : SubT K G' H') (hl : ρ'.length = ρ.length) (hA : ∀ b, dpa H σ ρ b → ¬ A b)
    (h : ∀ (i : Nat) (s : Sl), ρ'[i]? = some (some s) → (ρ[i]? = some (some s) ∧ (isMut ρ i → ∀ b, σ[i]? = some (some (.ref b)) → ¬ A b)) ∨ (isMut ρ i ∧ ∃ d, (s = .own d ∨ s = .io d) ∧ ∃ p, σ[i]? = some (some (.ref p)) ∧ OwnAt K G' H' p d)) : Rel K G' H' σ ρ' where
  len := hl.trans r.len
  tt := sb.2
  sub := sb.1
  sl := fun i s e => by
    rcases h i s e with ⟨e1, n⟩ | ⟨m, d, hs, p, e1, ow⟩
    · have z := r.sl i s e1
      cases s with
      | sh d => obtain ⟨v, e2, rp⟩ := z; exact ⟨v, e2, Rep.mono st.gg _ rp⟩
      | gh a g0 h0 => obtain ⟨e1, h1, h2⟩ := z; exact ⟨e1, h1.trans st.gg, h2.trans st.tb⟩
      | own d =>
        obtain ⟨b, e2, h1, o, h2, h3⟩ := z
        have nb := n ⟨d, .inl e1⟩ b e2
        exact ⟨b, e2, st.fr b (by rw [h2]; simp) nb h1, o, st.keep b o h2 nb (cont_nt h3), h3.mono st.gg⟩
      | io d =>
        obtain ⟨b, e2, h1, o, h2, h3⟩ := z
        have nb := n ⟨d, .inr e1⟩ b e2
        exact ⟨b, e2, st.fr b (by rw [h2]; simp) nb h1, o, st.keep b o h2 nb (cont_nt h3), h3.mono st.gg⟩
      | dp t =>
        obtain ⟨v, e1, h1, h2, _⟩ := r.fp_eq st.gg (r.kp st hA) (fun _ _ e => ⟨e, rfl⟩) i t e1
        exact ⟨v, e1, h1, h2⟩
    · rcases hs with rfl | rfl
      · exact ⟨p, e1, ow⟩
      · exact ⟨p, e1, ow⟩
  dis := fun i j a m1 m2 => by
    have mm : ∀ k, isMut ρ' k → isMut ρ k := fun k ⟨d, m⟩ => by
      rcases m with m | m
      · rcases h k _ m with ⟨e1, _⟩ | ⟨m, _⟩
        · exact ⟨d, .inl e1⟩
        · exact m
      · rcases h k _ m with ⟨e1, _⟩ | ⟨m, _⟩
        · exact ⟨d, .inr e1⟩
        · exact m
    exact r.dis i j a (mm i m1) (mm j m2)
  dp := by
    refine (r.trees st.gg (r.kp st hA) (fun i t e => ?_) fun k b mk hb => ?_).1
    · rcases h i _ e with ⟨e1, _⟩ | ⟨_, d, hs, _⟩
      · exact ⟨e1, rfl⟩
      · rcases hs with z | z <;> cases z
    · obtain ⟨d, m⟩ := mk
      rcases m with m | m
      · rcases h k _ m with ⟨e1, _⟩ | ⟨m, _⟩
        · exact r.dp.ds b k hb ⟨d, .inl e1⟩
        · exact r.dp.ds b k hb m
      · rcases h k _ m with ⟨e1, _⟩ | ⟨m, _⟩
        · exact r.dp.ds b k hb ⟨d, .inr e1⟩
        · exact r.dp.ds b k hb m
/-- the addresses of the slots behind such a step -/
theorem Rel.afterN {A : Addr → Prop} (r : Rel K G H σ ρ) (st : Stp A G H G' H') (hA : ∀ b, dpa H σ ρ b → ¬ A b) (k : Lse ρ ρ') : ∀ a, ads H' σ ρ' a → ads H σ ρ a := fun a h => by
  rcases h with ⟨i, m, e⟩ | h
  · exact .inl ⟨i, k.1 i m, e⟩
  · refine .inr ((r.trees st.gg (r.kp st hA) (fun i t e => ⟨k.2 i t e, rfl⟩) fun j b m hb => r.dp.ds b j hb (k.1 j m)).2 a h)
/-- the arguments as the callee sees them -/
inductive IoL (K : PySem.W.Frag) (Hs G H : Hp) (σ : St) (ρ : S) : List Bool → List Hd → List V → List D → List Addr → Prop where
  | nil : IoL K Hs G H σ ρ [] [] [] [] []
  | sh {d : D} {v : V} {ms : List Bool} {hs : List Hd} {vs : List V} {ds : List D} {as : List Addr} : Rep K G d v → IoL K Hs G H σ ρ ms hs vs ds as → IoL K Hs G H σ ρ (false :: ms) (.val d :: hs) (v :: vs) (d :: ds) as
  | tmp {d : D} {p : Addr} {ms : List Bool} {hs : List Hd} {vs : List V} {ds : List D} {as : List Addr} : OwnAt K G H p d → Hs p = none → ¬ ads H σ ρ p → p ∉ as → IoL K Hs G H σ ρ ms hs vs ds as → IoL K Hs G H σ ρ (true :: ms) (.tmp d :: hs) (.ref p :: vs) (d :: ds) (p :: as)
  | slot {d : D} {i : Nat} {p : Addr} {ms : List Bool} {hs : List Hd} {vs : List V} {ds : List D} {as : List Addr} : OwnAt K G H p d → σ[i]? = some (some (.ref p)) → (ρ[i]? = some (some (.own d)) ∨ ρ[i]? = some (some (.io d))) → p ∉ as → hs.any (isSlot i) = false →
    IoL K Hs G H σ ρ ms hs vs ds as → IoL K Hs G H σ ρ (true :: ms) (.slot i :: hs) (.ref p :: vs) (d :: ds) (p :: as)
theorem IoL.argR {ms : List Bool} {hs : List Hd} {vs : List V} {ds : List D} {as : List Addr} (h : IoL K Hs G H σ ρ ms hs vs ds as) : ArgR K G H ms vs ds as := by
  induction h with
  | nil => exact .nil
  | sh a _ ih => exact .sh a ih
  | tmp a _ _ n _ ih => exact .io a n ih
  | slot a _ _ n _ _ ih => exact .io a n ih
theorem IoL.mem {ms : List Bool} {hs : List Hd} {vs : List V} {ds : List D} {as : List Addr} (h : IoL K Hs G H σ ρ ms hs vs ds as) {q : Addr} (hq : q ∈ as) : (hs.any isTmp = true ∧ Hs q = none ∧ ¬ ads H σ ρ q) ∨ ∃ j, hs.any (isSlot j) = true ∧ σ[j]? = some (some (.ref q)) ∧ isMut ρ j := by
  induction h with
  | nil => cases hq
  | sh _ _ ih =>
    rcases ih hq with ⟨a, b⟩ | ⟨j, a, b⟩
    · exact .inl ⟨by rw [List.any_cons, a]; exact Bool.or_true _, b⟩
    · exact .inr ⟨j, by rw [List.any_cons, a]; exact Bool.or_true _, b⟩
  | tmp a b c n _ ih =>
    rcases List.mem_cons.mp hq with e | hq
    · subst e; exact .inl ⟨rfl, b, c⟩
    · rcases ih hq with ⟨a, b⟩ | ⟨j, a, b⟩
      · exact .inl ⟨by rw [List.any_cons, a]; exact Bool.or_true _, b⟩
      · exact .inr ⟨j, by rw [List.any_cons, a]; exact Bool.or_true _, b⟩
  | @slot d i p ms hs vs ds as a b c n m _ ih =>
    rcases List.mem_cons.mp hq with e | hq
    · subst e
      refine .inr ⟨i, by simp [isSlot], b, d, c⟩
    · rcases ih hq with ⟨a, b⟩ | ⟨j, a, b⟩
      · exact .inl ⟨by rw [List.any_cons, a]; exact Bool.or_true _, b⟩
      · exact .inr ⟨j, by rw [List.any_cons, a]; exact Bool.or_true _, b⟩
theorem ioL_of (r : Rel K G H σ ρ) : ∀ {ms : List Bool} {hs : List Hd} {vs : List V} {ds : List D}, ArS ms hs → HoldL K Hs G H σ ρ hs vs → lookM hs ρ = some ds → ∃ as, IoL K Hs G H σ ρ ms hs vs ds as
  | _, _, _, _, .nil, .nil, e => by cases e; exact ⟨[], .nil⟩
  | _, _, _, ds, .sh (d := d) (hs := hs) a, .cons h t, e => by
    obtain ⟨ds', e1, rfl⟩ := Option.map_eq_some_iff.mp (show (lookM hs ρ).map (d :: ·) = some ds from e)
    obtain ⟨as, i⟩ := ioL_of r a t e1
    exact ⟨as, .sh h i⟩
  | _, _, _, ds, .tmp (d := d) (hs := hs) a, .cons h t, e => by
    have e' : (if hs.any isTmp = true then none else (lookM hs ρ).map (d :: ·)) = some ds := e
    split at e'
    · cases e'
    · rename_i hn
      obtain ⟨ds', e1, rfl⟩ := Option.map_eq_some_iff.mp e'
      obtain ⟨as, i⟩ := ioL_of r a t e1
      obtain ⟨p, rfl, o, h4, h5⟩ := h
      refine ⟨p :: as, .tmp o h4 h5 (fun hp => ?_) i⟩
      rcases i.mem hp with ⟨z, _⟩ | ⟨j, _, z1, z2⟩
      · exact hn z
      · exact h5 (.inl ⟨j, z2, z1⟩)
  | _, _, _, ds, .slot (i := i) (hs := hs) a, .cons (v := v) h t, e => by
    have hv : σ[i]? = some (some v) := h
    unfold lookM at e
    split at e
    · cases e
    · rename_i hn
      have hn' : hs.any (isSlot i) = false := by simpa using hn
      have fin : ∀ (p : Addr) (as : List Addr) (ms : List Bool) (vs : List V) (ds : List D), IoL K Hs G H σ ρ ms hs vs ds as → σ[i]? = some (some (.ref p)) → isMut ρ i → p ∉ as := fun p as ms vs ds io hp hm hq => by
        rcases io.mem hq with ⟨_, _, z⟩ | ⟨j, z0, z1, z2⟩
        · exact z (.inl ⟨i, hm, hp⟩)
        · have := r.dis i j p hm z2 hp z1
          subst this
          rw [hn'] at z0; cases z0
      split at e
      · rename_i d0 q0
        obtain ⟨ds', e1, rfl⟩ := Option.map_eq_some_iff.mp e
        obtain ⟨as, io⟩ := ioL_of r a t e1
        obtain ⟨p, e2, o⟩ := r.sl i _ q0
        rw [hv] at e2; cases e2
        exact ⟨p :: as, .slot o hv (.inl q0) (fin p as _ _ _ io hv ⟨d0, .inl q0⟩) hn' io⟩
      · rename_i d0 q0
        obtain ⟨ds', e1, rfl⟩ := Option.map_eq_some_iff.mp e
        obtain ⟨as, io⟩ := ioL_of r a t e1
        obtain ⟨p, e2, o⟩ := r.sl i _ q0
        rw [hv] at e2; cases e2
        exact ⟨p :: as, .slot o hv (.inr q0) (fin p as _ _ _ io hv ⟨d0, .inr q0⟩) hn' io⟩
      · cases e
theorem OutR.tail {p : Addr} {as : List Addr} {o : D} {os : List D} (h : OutR K G H (p :: as) (o :: os)) : OutR K G H as os := fun j q e => by
  obtain ⟨d, h1, h2⟩ := h (j + 1) q (by simpa using e)
  exact ⟨d, by simpa using h1, h2⟩
theorem OutR.head {p : Addr} {as : List Addr} {o : D} {os : List D} (h : OutR K G H (p :: as) (o :: os)) : OwnAt K G H p o := by
  obtain ⟨d, h1, h2⟩ := h 0 p rfl
  cases h1
  exact h2
/-- what the call leaves of the slots -/
theorem putIo_ok {ms : List Bool} {hs : List Hd} {vs : List V} {ds : List D} {as : List Addr} (h : IoL K Hs G H σ ρ ms hs vs ds as) : ∀ {os : List D} {ρ0 ρ' : S}, OutR K G' H' as os → (∀ i, hs.any (isSlot i) = true → ρ0[i]? = ρ[i]?) → putIo hs os ρ0 = some ρ' →
    ρ'.length = ρ0.length ∧ ∀ i, (hs.any (isSlot i) = false → ρ'[i]? = ρ0[i]?) ∧ (hs.any (isSlot i) = true → ∃ d p, σ[i]? = some (some (.ref p)) ∧ OwnAt K G' H' p d ∧ p ∈ as ∧ ((∃ d0, ρ[i]? = some (some (.own d0))) ∧ ρ'[i]? = some (some (.own d)) ∨ (∃ d0, ρ[i]? = some (some (.io d0))) ∧ ρ'[i]? = some (some (.io d)))) := by
  induction h with
  | nil => intro os ρ0 ρ' _ _ e; cases e; exact ⟨rfl, fun i => ⟨fun _ => rfl, fun z => by cases z⟩⟩
  | sh _ _ ih =>
    intro os ρ0 ρ' ho hk e
    exact ih ho (fun i z => hk i (by rw [List.any_cons, z]; exact Bool.or_true _)) e
  | @tmp d p ms hs vs ds as _ _ _ _ _ ih =>
    intro os ρ0 ρ' ho hk e
    cases os with
    | nil => cases e
    | cons o os =>
      obtain ⟨l, k⟩ := ih ho.tail (fun i z => hk i (by rw [List.any_cons, z]; exact Bool.or_true _)) e
      refine ⟨l, fun i => ⟨fun z => (k i).1 z, fun z => ?_⟩⟩
      obtain ⟨d', p', h1, h2, h3, h4⟩ := (k i).2 z
      exact ⟨d', p', h1, h2, List.mem_cons_of_mem _ h3, h4⟩
  | @slot d i p ms hs vs ds as ow hi hr hn hni _ ih =>
    intro os ρ0 ρ' ho hk e
    cases os with
    | nil => cases e
    | cons o os =>
      have hi0 : ρ0[i]? = ρ[i]? := hk i (by simp [isSlot])
      have step : ∀ (s0 : D → Sl), ((∃ d0, ρ[i]? = some (some (s0 d0))) ∧ ((∀ d, s0 d = .own d) ∨ ∀ d, s0 d = .io d)) → putIo hs os (ρ0.set i (some (s0 o))) = some ρ' → ρ'.length = ρ0.length ∧ ∀ j, ((Hd.slot i :: hs).any (isSlot j) = false → ρ'[j]? = ρ0[j]?) ∧ ((Hd.slot i :: hs).any (isSlot j) = true → ∃ d q, σ[j]? = some (some (.ref q)) ∧ OwnAt K G' H' q d ∧ q ∈ p :: as ∧ ((∃ d0, ρ[j]? = some (some (.own d0))) ∧ ρ'[j]? = some (some (.own d)) ∨ (∃ d0, ρ[j]? = some (some (.io d0))) ∧ ρ'[j]? = some (some (.io d)))) := by
        intro s0 ⟨⟨d0, hd0⟩, hs0⟩ e'
        have hil : i < ρ0.length := by
          rw [hd0] at hi0
          exact (List.getElem?_eq_some_iff.mp hi0).1
        obtain ⟨l, k⟩ := ih (os := os) (ρ0 := ρ0.set i (some (s0 o))) ho.tail (fun j z => by
          have hj : i ≠ j := fun q => by rw [← q, hni] at z; cases z
          rw [List.getElem?_set_ne hj]
          exact hk j (by rw [List.any_cons, z]; exact Bool.or_true _)) e'
        refine ⟨by rw [l, List.length_set], fun j => ?_⟩
        have anyc : (Hd.slot i :: hs).any (isSlot j) = ((i == j) || hs.any (isSlot j)) := rfl
        rw [anyc]
        by_cases hj : i = j
        · subst hj
          refine ⟨fun z => by simp at z, fun _ => ?_⟩
          have e1 : ρ'[i]? = some (some (s0 o)) := by rw [(k i).1 hni, List.getElem?_set_self hil]
          refine ⟨o, p, hi, ho.head, List.mem_cons_self, ?_⟩
          rcases hs0 with z | z
          · exact .inl ⟨⟨d0, by rw [hd0, z]⟩, by rw [e1, z]⟩
          · exact .inr ⟨⟨d0, by rw [hd0, z]⟩, by rw [e1, z]⟩
        · have hb : (i == j) = false := by simpa using hj
          rw [hb, Bool.false_or]
          refine ⟨fun z => by rw [(k j).1 z, List.getElem?_set_ne hj], fun z => ?_⟩
          obtain ⟨d', p', h1, h2, h3, h4⟩ := (k j).2 z
          exact ⟨d', p', h1, h2, List.mem_cons_of_mem _ h3, h4⟩
      unfold putIo at e
      rw [hi0] at e
      rcases hr with q | q
      · rw [q] at e
        exact step .own ⟨⟨d, q⟩, .inl fun _ => rfl⟩ e
      · rw [q] at e
        exact step .io ⟨⟨d, q⟩, .inr fun _ => rfl⟩ e
end
/-- the slots that were handed on are forgotten -/
@[simp] def forget : List Hd → S → S
  | [], ρ => ρ
  | .slot i :: hs, ρ => forget hs (ρ.set i none)
  | _ :: hs, ρ => forget hs ρ
theorem forget_at : ∀ (hs : List Hd) (ρ : S) (j : Nat) (s : Sl), (forget hs ρ)[j]? = some (some s) → hs.any (isSlot j) = false ∧ ρ[j]? = some (some s)
  | [], ρ, j, s, h => ⟨rfl, h⟩
  | .slot i :: hs, ρ, j, s, h => by
    obtain ⟨h1, h2⟩ := forget_at hs (ρ.set i none) j s h
    by_cases hj : i = j
    · subst hj
      rw [List.getElem?_set] at h2
      simp only [if_true] at h2
      split at h2 <;> cases h2
    · rw [List.getElem?_set_ne hj] at h2
      exact ⟨by simp [isSlot, hj, h1], h2⟩
  | .val _ :: hs, ρ, j, s, h => by
    obtain ⟨h1, h2⟩ := forget_at hs ρ j s h
    exact ⟨by simp [isSlot, h1], h2⟩
  | .tmp _ :: hs, ρ, j, s, h => by
    obtain ⟨h1, h2⟩ := forget_at hs ρ j s h
    exact ⟨by simp [isSlot, h1], h2⟩
  | .tpd _ :: hs, ρ, j, s, h => by
    obtain ⟨h1, h2⟩ := forget_at hs ρ j s h
    exact ⟨by simp [isSlot, h1], h2⟩
  | .sub _ _ :: hs, ρ, j, s, h => by
    obtain ⟨h1, h2⟩ := forget_at hs ρ j s h
    exact ⟨by simp [isSlot, h1], h2⟩
theorem forget_len : ∀ (hs : List Hd) (ρ : S), (forget hs ρ).length = ρ.length
  | [], ρ => rfl
  | .slot i :: hs, ρ => by rw [forget, forget_len hs, List.length_set]
  | .val _ :: hs, ρ => by rw [forget, forget_len hs]; nofun
  | .tmp _ :: hs, ρ => by rw [forget, forget_len hs]; nofun
  | .tpd _ :: hs, ρ => by rw [forget, forget_len hs]; nofun
  | .sub _ _ :: hs, ρ => by rw [forget, forget_len hs]; nofun
@[simp] def eCall (own : Bool) (F : FT) (g : S → R (List Hd × S)) : EF := fun ρ => g ρ >>= fun z => ofO (lookM z.1 z.2) >>= fun ds => raiseAt (forget z.1 z.2) (F ds) >>= fun r => ofO (putIo z.1 r.2 z.2) >>= fun ρ' => .ok (if own = true then .tmp r.1 else .val r.1, ρ')
/-- what a call leaves -/
theorem call_after {K : PySem.W.Frag} {E : WX} {G H G1 H1 : Hp} {σ : St} {ρ ρ1 : S} {own : Bool} {F : FT} {ms : List Bool} {hs : List Hd} {vs : List V} {Q : VK} (o1 : Out K G H σ ρ G1 H1 ρ1) (hl : HoldL K H G1 H1 σ ρ1 hs vs) (ar : ArS ms hs)
    (hw : Wp (ofO (lookM hs ρ1) >>= fun ds => raiseAt (forget hs ρ1) (F ds) >>= fun r => ofO (putIo hs r.2 ρ1) >>= fun ρ' => R.ok ((if own = true then Hd.tmp r.1 else Hd.val r.1), ρ')) (fun z => ∀ v G' H', Out K G H σ ρ G' H' z.2 → Hold K H G' H' σ z.2 z.1 v → Q v H') (ExE K E G H σ ρ)) :
    spF K ms own F vs H1 Q (fun c d H' => E c d σ H') := by
  obtain ⟨ds, eds, hw⟩ := hw.opt
  obtain ⟨as, io⟩ := ioL_of o1.rel ar hl eds
  have adsS : ∀ c, H c ≠ none → c ∈ as → ads H σ ρ c := fun c hc hm => by
    rcases io.mem hm with ⟨_, z, _⟩ | ⟨j, _, z1, z2⟩
    · exact absurd z hc
    · exact o1.nw c (.inl ⟨j, z2, z1⟩) hc
  have hT : ∀ (b : Addr) {G' H' : Hp}, Stp (fun b => b ∈ as) G1 H1 G' H' → dpa H σ ρ b → H' b = H b := fun b G' H' st h => by
    have nb : ¬ b ∈ as := fun hm => by
      rcases io.mem hm with ⟨_, z, _⟩ | ⟨j, _, z1, z2⟩
      · exact (o1.rel0.dpaH h).1 z
      · exact o1.rel0.dp.ds b j h (o1.ker.mu j z2) z1
    cases e : H b with
    | none => exact absurd e (o1.rel0.dpaH h).1
    | some u => exact st.keep b u ((o1.tre b h).trans e) nb (o1.rel0.dpaNT h e)
  have hA : ∀ b, dpa H1 σ ρ1 b → ¬ b ∈ as := fun b hb hm => by
    rcases io.mem hm with ⟨_, _, z⟩ | ⟨j, _, z1, z2⟩
    · exact z (.inr hb)
    · exact o1.rel.dp.ds b j hb z2 z1
  refine ⟨G1, ds, as, o1.rel.subT, io.argR, hw.bind.raised.mono (fun r _ q v G' H' sb st ou re => ?_) fun x _ q c d G' H' sb st ex => ?_⟩
  · obtain ⟨ρ', e', q⟩ := q.opt
    obtain ⟨l, k⟩ := putIo_ok io ou (fun _ _ => rfl) e'
    have rl : Rel K G' H' σ ρ' := o1.rel.after st sb l hA fun i s e => by
      cases hb : hs.any (isSlot i) with
      | false =>
        rw [(k i).1 hb] at e
        refine .inl ⟨e, fun m b eb hm => ?_⟩
        rcases io.mem hm with ⟨_, _, z⟩ | ⟨j, z0, z1, z2⟩
        · exact z (.inl ⟨i, m, eb⟩)
        · have := o1.rel.dis i j b m z2 eb z1
          subst this
          rw [hb] at z0; cases z0
      | true =>
        obtain ⟨d, p, h1, h2, h3, h4⟩ := (k i).2 hb
        refine .inr ⟨?_, d, ?_, p, h1, h2⟩
        · rcases h4 with ⟨⟨d0, z⟩, _⟩ | ⟨⟨d0, z⟩, _⟩
          · exact ⟨d0, .inl z⟩
          · exact ⟨d0, .inr z⟩
        · rcases h4 with ⟨_, z⟩ | ⟨_, z⟩
          · rw [z] at e; cases e; exact .inl rfl
          · rw [z] at e; cases e; exact .inr rfl
    have kr : Ker ρ1 ρ' := by
      refine ⟨fun j ⟨d, m⟩ => ?_, fun j ⟨d, m⟩ => ?_, fun j t m => ?_⟩
      rotate_right
      · cases hb : hs.any (isSlot j) with
        | false => rw [(k j).1 hb] at m; exact m
        | true =>
          obtain ⟨_, _, _, _, _, h4⟩ := (k j).2 hb
          rcases h4 with ⟨_, z⟩ | ⟨_, z⟩ <;> rw [z] at m <;> cases m
      · cases hb : hs.any (isSlot j) with
        | false => rw [(k j).1 hb] at m; exact ⟨d, m⟩
        | true =>
          obtain ⟨_, _, _, _, _, h4⟩ := (k j).2 hb
          rcases h4 with ⟨⟨d0, z⟩, _⟩ | ⟨⟨d0, z⟩, _⟩
          · exact ⟨d0, .inl z⟩
          · exact ⟨d0, .inr z⟩
      · cases hb : hs.any (isSlot j) with
        | false => exact ⟨d, by rw [(k j).1 hb]; exact m⟩
        | true =>
          obtain ⟨d2, _, _, _, _, h4⟩ := (k j).2 hb
          rcases h4 with ⟨⟨d0, z⟩, _⟩ | ⟨_, z⟩
          · rw [z] at m; cases m
          · exact ⟨d2, z⟩
    have nN := o1.rel.afterN st hA kr.lse
    have key : Out K G H σ ρ G' H' ρ' := ⟨rl, o1.stp.trans st adsS, o1.ker.trans kr, fun a h z => o1.nw a (nN a h) z, fun b h => hT b st h, o1.rel0⟩
    refine q v G' H' key ?_
    cases own with
    | false => exact re
    | true =>
      obtain ⟨pr, rfl, ow, hn⟩ := re
      exact ⟨pr, rfl, ow, o1.stp.thr pr hn, fun z => (o1.rel.adsH (nN pr z)).1 hn⟩
  · have kf : Lse ρ1 (forget hs ρ1) := ⟨fun j ⟨d, m⟩ => ⟨d, m.imp (fun z => (forget_at hs ρ1 j _ z).2) fun z => (forget_at hs ρ1 j _ z).2⟩, fun j t m => (forget_at hs ρ1 j _ m).2⟩
    have rl : Rel K G' H' σ (forget hs ρ1) := o1.rel.after st sb (forget_len hs ρ1) hA fun i s e => by
      obtain ⟨e1, e2⟩ := forget_at hs ρ1 i s e
      refine .inl ⟨e2, fun m b eb hm => ?_⟩
      rcases io.mem hm with ⟨_, _, z⟩ | ⟨j, z0, z1, z2⟩
      · exact z (.inl ⟨i, m, eb⟩)
      · have := o1.rel.dis i j b m z2 eb z1
        subst this
        rw [e1] at z0; cases z0
    have nN := o1.rel.afterN st hA kf
    exact q c d σ G' H' ⟨rl, o1.stp.trans st adsS, fun a h z => o1.nw a (nN a h) z, fun _ _ => rfl⟩ ex
section
variable {X : Cx} {E : WX} {e : Expr} {es : List Expr} {x : Str} {p pos : Pos} {g : S → R (List Hd × S)} {ms : List Bool} {own : Bool} {F : FT} {k : Nat} {f : Addr} {fd : FuncData} {ps : List Str}
/-- f(e, ..) -/
theorem pr_call (Fn : FnG X.prog X.w X.K X.mg X.base (L2.CX X.prog X.w) k f fd ps (spF X.K ms own F)) (hr : RmG k X.A) (hg : Gl X x) (hm : X.mg x = some (.ref f)) (hk : PySem.W.keepIn X.K (.ref f) = true) (hb : Binds X.K fd ps []) (hx : Takes X E)
    (ha : PMs X E ms (e :: es) g) (hdb : (x == ("__debug__" : Str)) = false := by decide) (he : starEach (e :: es) X.env = (false, eval e X.env) :: starEach es X.env := by rfl) (hpl : (backTo pos (starEach es X.env)).any (·.1) = false := by rfl) :
    PR X E (.Call (.Name x p) (e :: es) [] pos) (eCall own F g) := by
  obtain ⟨t, pa, s⟩ := ha.ex
  refine ⟨_, pe_callG (dvs := []) Fn hr hg hm hk hb .nil (fun σ => passAt hx σ) pa hdb he hpl, fun G H σ ρ r Q hw => s G H σ ρ r _ (hw.bind.mono (fun z _ q vs G1 H1 o1 hl ar => ?_) fun _ _ q => q)⟩
  show spF X.K ms own F (vs ++ []) H1 Q _
  rw [List.append_nil]
  exact call_after o1 hl ar q
end
end BR
set_option Elab.async false
set_option linter.all false
set_option maxRecDepth 100000
set_option maxHeartbeats 4000000
namespace BR
open PySem L2

/-! ## more operations -/
section
variable {X : Cx} {K : PySem.W.Frag}
/-! ### * -/
open Classical in
noncomputable def dMulI (x y : D) : Option Rz := match x, y with
  | .int i, .int j => if CMul i j then some (.im (.int (i * j))) else none
  | .lst a, .int n => if -(2 ^ 63) ≤ n ∧ n < 2 ^ 63 ∧ a.length * n.toNat ≤ sizeLine then some (.nw (.lst (List.replicate n.toNat a).flatten)) else none
  | _, _ => none
def rMulB : R2 := fun x y H Q => rI CMul (fun i j => .int (i * j)) x y H Q ∨ rRep x y H Q
theorem op_mulB : OpR X (binaryOp .Mult) rMulB := OpR.or op_mul op_rep
theorem RepL.flat {G : Hp} {ds : List D} {vs : List V} (h : RepL K G ds vs) : ∀ n, RepL K G (List.replicate n ds).flatten (List.replicate n vs).flatten
  | 0 => .nil
  | n + 1 => by
    rw [List.replicate_succ, List.replicate_succ, List.flatten_cons, List.flatten_cons]
    exact h.append (RepL.flat h n)
theorem d_mul : OpD K rMulB dMulI := by
  intro G H x y v w s hx hy z Q e h
  unfold dMulI at e
  split at e
  · split at e
    · rename_i hc
      have := hx.int; have := hy.int; subst_vars; cases e
      exact .inl ⟨_, _, rfl, rfl, hc, h _ rep_int⟩
    · cases e
  · split at e
    · rename_i hc
      have := hy.int; subst_vars; cases e
      obtain ⟨a, vs, rfl, h1, h2⟩ := hx.lst s
      exact .inr ⟨a, _, vs, rfl, rfl, h1, hc.1, hc.2.1, by rw [← h2.length]; exact hc.2.2, fun p hp => h p _ hp ⟨_, rfl, h2.flat _⟩⟩
    · cases e
  · cases e
/-! str * int -/
def rStrMul : R2 := fun x y H Q => ∃ (a : Str) (n : Nat), x = .str a ∧ y = .int (n : Int) ∧ n ≤ 1000000 ∧ a.length * n ≤ sizeLine ∧ Q (.str ⟨(List.replicate n a.cps.toList).flatten.toArray⟩) H
theorem fold_cat (l : List Nat) : ∀ (n : Nat) (acc : Array Nat), (List.replicate n l.toArray).foldl (fun a b => a ++ b) acc = acc ++ (List.replicate n l).flatten.toArray
  | 0, acc => by simp
  | n + 1, acc => by
    rw [List.replicate_succ, List.foldl_cons, fold_cat l n, List.replicate_succ, List.flatten_cons]
    apply Array.ext'
    simp
theorem op_strMul : OpR X (binaryOp .Mult) rStrMul := by
  intro pins s σ H x y v u Q I rx ry h
  obtain ⟨a, n, rfl, rfl, h1, h2, q⟩ := h
  obtain ⟨t, rfl⟩ := rx
  obtain ⟨t', rfl⟩ := ry
  have hs := sizeLine_eq
  refine PySem.P.mul_str ?_ ?_ ?_ ?_
  · have a1 : ¬ ((n : Int) < -(2 ^ 63)) := by omega
    have a2 : ¬ ((n : Int) ≥ 2 ^ 63) := by omega
    rw [decide_eq_false a1, decide_eq_false a2]; rfl
  · intro hn _ hc
    have : (2 ^ 63 - 1 : Int) / (n : Int) * n + (2 ^ 63 - 1 : Int) % n = 2 ^ 63 - 1 := Int.ediv_mul_add_emod ..
    have b1 : (2 ^ 63 - 1 : Int) % n < n := Int.emod_lt_of_pos _ (by omega)
    have b2 : ((2 ^ 63 - 1 : Int) / (n : Int) + 1) * n ≤ (a.length : Int) * n := Int.mul_le_mul_of_nonneg_right (by omega) (by omega)
    rw [Int.add_mul, Int.one_mul] at b2
    have b3 : (a.length : Int) * n ≤ 16777216 := by
      have : ((a.length * n : Nat) : Int) ≤ (16777216 : Nat) := by rw [← hs]; exact Int.ofNat_le.mpr h2
      simpa using this
    omega
  · intro _ _
    rw [Int.toNat_natCast]
    unfold Builtin.Str.tooLong
    simpa using h2
  · have fin : ∀ z : Str, z.cps.toList = (List.replicate n a.cps.toList).flatten → ∀ t tk, EP X pins σ Q (.str z t) { s with toks := tk } := by
      intro z hz t tk
      refine ⟨.str z, H, I.tok _, ⟨_, rfl⟩, ?_⟩
      have : z = ⟨(List.replicate n a.cps.toList).flatten.toArray⟩ := by
        cases z with
        | mk c => 
          have : c = (List.replicate n a.cps.toList).flatten.toArray := by
            apply Array.ext'
            simpa using hz
          rw [this]
      rw [this]; exact q
    by_cases h0 : (n : Int) < 1
    · rw [if_pos h0]
      have : n = 0 := by omega
      subst this
      exact ⟨by decide, fin _ (by rfl) _ _⟩
    · rw [if_neg h0]
      by_cases h1' : ((n : Int) == 1 || a.length == 0) = true
      · rw [if_pos h1']
        show EP X pins σ Q (.str a t) s
        have e : a.cps.toList = (List.replicate n a.cps.toList).flatten := by
          rcases Bool.or_eq_true_iff.mp h1' with z | z
          · have : n = 1 := by have := eq_of_beq z; omega
            subst this; simp
          · have z' : a.cps.size = 0 := eq_of_beq z
            have : a.cps.toList = [] := by
              apply List.eq_nil_of_length_eq_zero
              simpa using z'
            rw [this]; simp
        have := fin a e t s.toks
        exact this
      · rw [if_neg h1']
        refine ⟨?_, fin _ ?_ _ _⟩
        · show Str.length _ ≤ _
          rw [Int.toNat_natCast, show a.cps = a.cps.toList.toArray by simp, fold_cat]
          have : Str.length ⟨#[] ++ (List.replicate n a.cps.toList).flatten.toArray⟩ = a.length * n := by
            show (#[] ++ (List.replicate n a.cps.toList).flatten.toArray).size = a.cps.size * n
            simp [Nat.mul_comm]
          rw [this]; exact h2
        · rw [Int.toNat_natCast, show a.cps = a.cps.toList.toArray by simp, fold_cat]
          simp
def dStrMul (x y : D) : Option Rz := match x, y with
  | .str a, .int n => if 0 ≤ n ∧ n ≤ 1000000 ∧ a.length * n.toNat ≤ sizeLine then some (.im (.str ⟨(List.replicate n.toNat a.cps.toList).flatten.toArray⟩)) else none
  | _, _ => none
theorem d_strMul : OpD K rStrMul dStrMul := by
  intro G H x y v w s hx hy z Q e h
  unfold dStrMul at e
  split at e
  · split at e
    · rename_i a n hc
      have := hx.str; have := hy.int; subst_vars; cases e
      exact ⟨a, n.toNat, rfl, by rw [Int.toNat_of_nonneg hc.1], by omega, hc.2.2, h _ rep_str⟩
    · cases e
  · cases e
/-! ### in -/
@[simp] def keyD : D → Option Key
  | .int i => some (.inl i)
  | .str x => some (.inr x)
  | _ => none
theorem keyD_v {G H : Hp} {d : D} {v : V} {k : Key} (h : RepP K G H d v) (e : keyD d = some k) : v = kV k := by
  cases d with
  | int i => cases e; exact h.int
  | str x => cases e; exact h.str
  | _ => cases e
def fl : D → Option V
  | .non => some .non
  | .bl b => some (.bl b)
  | .int i => some (.int i)
  | .str x => some (.str x)
  | _ => none
theorem fl_rep {G H : Hp} {d : D} {v x : V} (h : RepP K G H d v) (e : fl d = some x) : v = x ∧ flatV x = true := by
  cases d with
  | non => cases e; exact ⟨h.non, rfl⟩
  | bl b => cases e; exact ⟨h.bl, rfl⟩
  | int i => cases e; exact ⟨h.int, rfl⟩
  | str x => cases e; exact ⟨h.str, rfl⟩
  | _ => cases e
def flL : List D → Option (List V)
  | [] => some []
  | d :: ds => match fl d, flL ds with
    | some v, some vs => some (v :: vs)
    | _, _ => none
theorem flL_rep {G : Hp} : ∀ {ds : List D} {vs xs : List V}, RepL K G ds vs → flL ds = some xs → vs = xs ∧ xs.all flatV = true
  | [], vs, xs, h, e => by cases e; exact ⟨repL_nil.mp h, rfl⟩
  | d :: ds, vs, xs, h, e => by
    obtain ⟨v, vs', rfl, h1, h2⟩ := repL_cons.mp h
    unfold flL at e
    split at e
    · rename_i v' vs'' e1 e2
      cases e
      obtain ⟨rfl, f1⟩ := fl_rep (H := G) (.inl h1) e1
      obtain ⟨rfl, f2⟩ := flL_rep h2 e2
      exact ⟨rfl, by simp [f1, f2]⟩
    · cases e
def hasK (ks : List Key) (k : Key) : Bool := ks.any fun k' => decide (k' = k)
def inD (x y : D) : Option Bool := match y with
  | .dic ks _ => (keyD x).map fun k => hasK ks k
  | .str b => (match x with
    | .str a => (match a.cps.toList with
      | [c] => some (decide (c ∈ b.cps.toList))
      | _ => some (!(Builtin.Str.occurrences b a 0 b.length 1).isEmpty))
    | _ => none)
  | .lst ds => (match fl x, flL ds with
    | some v, some vs => some (inV v vs)
    | _, _ => none)
  | .tup ds => (match fl x, flL ds with
    | some v, some vs => some (inV v vs)
    | _, _ => none)
  | _ => none
def dIn (x y : D) : Option Rz := (inD x y).map fun b => .im (.bl b)
def dNotIn (x y : D) : Option Rz := (inD x y).map fun b => .im (.bl !b)
theorem valV_some {kvs : List (Key × V)} {k : Key} : (valV kvs k).isSome = hasK (kvs.map (·.1)) k := by
  rw [← valV_any]
  unfold hasK
  rw [List.any_map]
  rfl
def rDin (neg : Bool) : R2 := fun y x H Q => ∃ a o, x = .ref a ∧ DGet H a y o ∧ Q (.bl (if neg then !o.isSome else o.isSome)) H
theorem op_din (hu : X.A.units + 1 < cLine) : OpR X (compareOp .In) (rDin false) := by
  intro pins s σ H x y v u Q I rx ry h
  obtain ⟨a, o, rfl, g, q⟩ := h
  obtain rfl : u = Value.ref a := ry
  exact d_in hu I g rx fun s' I' => ⟨.bl o.isSome, H, I', rfl, q⟩
theorem op_dnin (hu : X.A.units + 1 < cLine) : OpR X (compareOp .NotIn) (rDin true) := by
  intro pins s σ H x y v u Q I rx ry h
  obtain ⟨a, o, rfl, g, q⟩ := h
  obtain rfl : u = Value.ref a := ry
  exact d_notIn hu I g rx fun s' I' => ⟨.bl (!o.isSome), H, I', rfl, q⟩
def rInStr (neg : Bool) : R2 := fun x y H Q => ∃ i j, x = .str i ∧ y = .str j ∧ Q (.bl (if neg then !(!(Builtin.Str.occurrences j i 0 j.length 1).isEmpty) else !(Builtin.Str.occurrences j i 0 j.length 1).isEmpty)) H
def rInSg (neg : Bool) : R2 := fun x y H Q => ∃ (c : Nat) (z : Str), x = .str ⟨#[c]⟩ ∧ y = .str z ∧ Q (.bl (if neg then !decide (c ∈ z.cps.toList) else decide (c ∈ z.cps.toList))) H
def rInB (K : PySem.W.Frag) (neg : Bool) : R2 := fun x y H Q => ((rDin neg x y H Q ∨ rInStr neg x y H Q) ∨ rInSg neg x y H Q) ∨ rIn K neg x y H Q
theorem op_inB (hu : X.A.units + 1 < cLine) : OpR X (compareOp .In) (rInB X.K false) := OpR.or (OpR.or (OpR.or (op_din hu) op_in_str) op_in_sign) op_in_seq
theorem op_notInB (hu : X.A.units + 1 < cLine) : OpR X (compareOp .NotIn) (rInB X.K true) := OpR.or (OpR.or (OpR.or (op_dnin hu) op_notin_str) op_notIn_sign) op_notIn_seq
theorem inD_ok {G H : Hp} {x y : D} {v w : V} {b : Bool} {neg : Bool} {Q : VK} (s : Sub G H) (hx : RepP K G H x v) (hy : RepP K G H y w) (e : inD x y = some b) (q : Q (.bl (if neg then !b else b)) H) : rInB K neg v w H Q := by
  unfold inD at e
  split at e
  · rename_i ks ds
    cases ek : keyD x with
    | none => rw [ek] at e; cases e
    | some k =>
      rw [ek] at e; cases e
      obtain ⟨a, kvs, rfl, h1, h2, h3⟩ := hy.dic s
      refine .inl (.inl (.inl ⟨a, valV kvs k, rfl, .inl ⟨kvs, k, h1, keyD_v hx ek, rfl⟩, ?_⟩))
      rw [valV_some, h2]; exact q
  · rename_i b'
    have ew := hy.str
    subst ew
    split at e
    · rename_i a
      have ev := hx.str
      subst ev
      split at e
      · rename_i c ec
        cases e
        refine .inl (.inr ⟨c, b', ?_, rfl, q⟩)
        have : a = ⟨#[c]⟩ := by
          cases a with
          | mk l =>
            have : l = #[c] := by apply Array.ext'; simpa using ec
            rw [this]
        rw [this]
      · cases e
        exact .inl (.inl (.inr ⟨a, b', rfl, rfl, q⟩))
    · cases e
  · rename_i ds
    split at e
    · rename_i v' vs' e1 e2
      cases e
      obtain ⟨a, us, rfl, h1, h2⟩ := hy.lst s
      obtain ⟨rfl, f1⟩ := fl_rep hx e1
      obtain ⟨rfl, f2⟩ := flL_rep h2 e2
      exact .inr ⟨a, us, rfl, .inl (SqL.of h1), f1, f2, q⟩
    · cases e
  · rename_i ds
    split at e
    · rename_i v' vs' e1 e2
      cases e
      obtain ⟨a, us, rfl, h1, h2⟩ := hy.tup s
      obtain ⟨rfl, f1⟩ := fl_rep hx e1
      obtain ⟨rfl, f2⟩ := flL_rep h2 e2
      exact .inr ⟨a, us, rfl, .inr h1, f1, f2, q⟩
    · cases e
  · cases e
theorem d_inB : OpD K (rInB K false) dIn := by
  intro G H x y v w s hx hy z Q e h
  unfold dIn at e
  cases q : inD x y with
  | none => rw [q] at e; cases e
  | some b => rw [q] at e; cases e; exact inD_ok s hx hy q (h _ rep_bl)
theorem d_notInB : OpD K (rInB K true) dNotIn := by
  intro G H x y v w s hx hy z Q e h
  unfold dNotIn at e
  cases q : inD x y with
  | none => rw [q] at e; cases e
  | some b => rw [q] at e; cases e; exact inD_ok s hx hy q (h _ rep_bl)
/-! ### subscripts -/
theorem atI_rep {G : Hp} {ds : List D} {vs : List V} {i : Int} {d : D} (h : RepL K G ds vs) (e : atI ds i = some d) : ∃ v, atI vs i = some v ∧ Rep K G d v := by
  unfold atI at e ⊢
  rw [← h.length]
  cases q : ixN ds.length i with
  | none => rw [q] at e; cases e
  | some j =>
    rw [q] at e
    exact h.get e
def getK : List Key → List D → Key → Option D
  | k' :: ks, d :: ds, k => if k' = k then some d else getK ks ds k
  | _, _, _ => none
theorem getK_rep {G : Hp} {k : Key} : ∀ {kvs : List (Key × V)} {ds : List D} {d : D}, RepL K G ds (kvs.map (·.2)) → getK (kvs.map (·.1)) ds k = some d → ∃ v, valV kvs k = some v ∧ Rep K G d v
  | [], ds, d, h, e => by cases ds <;> cases e
  | p :: kvs, [], d, h, e => by cases e
  | p :: kvs, d0 :: ds, d, h, e => by
    obtain ⟨v, vs', e1, h1, h2⟩ := repL_cons.mp h
    simp only [List.map_cons, List.cons.injEq] at e1
    obtain ⟨e1, e2⟩ := e1
    have e' : (if p.1 = k then some d0 else getK (kvs.map (·.1)) ds k) = some d := e
    by_cases hk : p.1 = k
    · refine ⟨p.2, valV_pos hk, ?_⟩
      rw [if_pos hk] at e'
      cases e'
      rw [e1]; exact h1
    · rw [if_neg hk] at e'
      rw [valV_neg hk]
      rw [← e2] at h2
      exact getK_rep h2 e'
theorem getK_none {k : Key} : ∀ {kvs : List (Key × V)} {ds : List D}, ds.length = kvs.length → getK (kvs.map (·.1)) ds k = none → valV kvs k = none
  | [], ds, _, _ => valV_nil
  | p :: kvs, [], h, _ => by simp at h
  | p :: kvs, d0 :: ds, h, e => by
    have e' : (if p.1 = k then some d0 else getK (kvs.map (·.1)) ds k) = none := e
    by_cases hk : p.1 = k
    · rw [if_pos hk] at e'; cases e'
    · rw [if_neg hk] at e'
      rw [valV_neg hk]
      exact getK_none (by simpa using h) e'
@[simp] def dIx (x y : D) : Option Rz := match x, y with
  | .lst ds, .int i => (atI ds i).map .im
  | .tup ds, .int i => (atI ds i).map .im
  | .scr ns, .int i => (atI ns i).map fun n => .im (.int n)
  | .str z, .int i => if z.length ≤ sizeLine then (atI z.cps.toList i).map fun c => .im (.str ⟨#[c]⟩) else none
  | .dic ks ds, k => (keyD k).bind fun k => (getK ks ds k).map .im
  | _, _ => none
def rIxDk : R2 := fun x y H Q => ∃ a v, x = .ref a ∧ DGet H a y (some v) ∧ Q v H
def rIxB (K : PySem.W.Frag) : R2 := fun x y H Q => rIx K x y H Q ∨ rIxDk x y H Q
theorem ix_dk (hu : X.A.units + 1 < cLine) : IxR X rIxDk := by
  intro value slice pins s σ H x y v u Q I rx ry h hs
  obtain ⟨a, z, rfl, g, q⟩ := h
  obtain rfl : v = Value.ref a := rx
  have hT := dict_typeIs I g
  unfold PyProof.Rows.subscriptTail
  refine wpAny_bind ?_
  rw [getitemInPython_of_ne hT.not_modules]
  refine wpAny_bind (wpAny_specialOf hT PySem.F.slot_dict_getitem.lookup ?_)
  have fin : wpAny (model X.prog X.w) X.A (subscripted slice false (.ref a) u) (fun r s₃ => wpAny (model X.prog X.w) X.A (letTemporaryGo value (.ref a) r >>= fun _ => pure r) (EP X pins σ Q) X.xe s₃) X.xe s := by
    rw [hs]
    exact wpAny_operating (d_getItem hu I g ry fun w' s3 I3 rw' => wpAny_bind (wpAny_letTemporaryGo (wpAny_pure ⟨z, H, I3, rw', q⟩)))
  first
    | exact wpAny_pure (wpAny_bind fin)
    | exact wpAny_bind (wpAny_pure (wpAny_bind fin))
    | exact wpAny_bind fin
theorem ix_B (hu : X.A.units + 1 < cLine) : IxR X (rIxB X.K) := IxR.or ix_seq (ix_dk hu)
theorem atI_map {α β : Type} (f : α → β) (xs : List α) (i : Int) : atI (xs.map f) i = (atI xs i).map f := by
  unfold atI
  rw [List.length_map]
  cases ixN xs.length i with
  | none => rfl
  | some j => simp
theorem d_ix : OpD K (rIxB K) dIx := by
  intro G H x y v w s hx hy z Q e h
  unfold dIx at e
  split at e
  · rename_i ds i
    have := hy.int; subst_vars
    obtain ⟨a, vs, rfl, h1, h2⟩ := hx.lst s
    cases q : atI ds i with
    | none => rw [q] at e; cases e
    | some d =>
      rw [q] at e; cases e
      obtain ⟨u, h3, h4⟩ := atI_rep h2 q
      exact .inl (.inl ⟨a, vs, i, u, rfl, rfl, SqL.of h1, h3, h u h4⟩)
  · rename_i ds i
    have := hy.int; subst_vars
    obtain ⟨a, vs, rfl, h1, h2⟩ := hx.tup s
    cases q : atI ds i with
    | none => rw [q] at e; cases e
    | some d =>
      rw [q] at e; cases e
      obtain ⟨u, h3, h4⟩ := atI_rep h2 q
      exact .inl (.inr (.inl ⟨a, vs, i, u, rfl, rfl, h1, h3, h u h4⟩))
  · rename_i ns i
    have := hy.int; subst_vars
    obtain ⟨a, rfl, h1⟩ := hx.scr s
    cases q : atI ns i with
    | none => rw [q] at e; cases e
    | some n =>
      rw [q] at e; cases e
      exact .inl (.inl ⟨a, _, i, .int n, rfl, rfl, h1, by rw [atI_map, q]; rfl, h _ rep_int⟩)
  · rename_i z' i
    have := hy.int; have := hx.str; subst_vars
    split at e
    · rename_i hl
      cases q : atI z'.cps.toList i with
      | none => rw [q] at e; cases e
      | some c =>
        rw [q] at e; cases e
        exact .inl (.inr (.inr ⟨z', i, c, rfl, rfl, hl, q, h _ rep_str⟩))
    · cases e
  · rename_i ks ds
    cases ek : keyD y with
    | none => rw [ek] at e; cases e
    | some kk =>
      rw [ek] at e
      obtain ⟨a, kvs, rfl, h1, h2, h3⟩ := hx.dic s
      subst h2
      cases q : getK (kvs.map (·.1)) ds kk with
      | none => simp [q] at e
      | some d =>
        simp [q] at e
        subst e
        obtain ⟨u, h4, h5⟩ := getK_rep h3 q
        exact .inr ⟨a, u, rfl, .inl ⟨kvs, kk, h1, keyD_v hy ek, h4.symm⟩, h u h5⟩
  · cases e
end
end BR
set_option Elab.async false
set_option linter.all false
set_option maxRecDepth 100000
set_option maxHeartbeats 4000000
namespace BR
open PySem L2

/-! ## slices -/
def SndO (K : PySem.W.Frag) (E : WX) (t : TO) (f : S → R (Option Int × S)) : Prop := ∀ (G H : Hp) (σ : St) (ρ : S), Rel K G H σ ρ → ∀ Q : Option Int → Hp → Prop,
  Wp (f ρ) (fun z => ∀ G' H', Out K G H σ ρ G' H' z.2 → Q z.1 H') (ExE K E G H σ ρ) → t σ H Q
structure POp (X : Cx) (E : WX) (e : Option Expr) (f : S → R (Option Int × S)) : Prop where
  ex : ∃ t, PO X e t ∧ SndO X.K E t f
section
variable {X : Cx} {E : WX} {e : Expr} {f : EF} {lo hi : Option Expr} {pos p2 : Pos} {fl fh : S → R (Option Int × S)}
@[simp] def oNone : S → R (Option Int × S) := fun ρ => .ok (none, ρ)
@[simp] def oSome (f : EF) : S → R (Option Int × S) := fun ρ => f ρ >>= fun z => match z.1 with
  | .val (.int i) => .ok (some i, z.2)
  | _ => .no
theorem op_none : POp X E none oNone := ⟨_, po_none, fun G H σ ρ r Q hw => hw G H (.refl r)⟩
theorem op_some (h : PR X E e f) : POp X E (some e) (oSome f) := by
  obtain ⟨t, pe, s⟩ := h.ex
  refine ⟨_, po_some pe, fun G H σ ρ r Q hw => s G H σ ρ r _ (hw.bind.mono (fun z _ q v G' H' o h => ?_) fun _ _ q => q)⟩
  split at q
  · rename_i i e
    rw [e] at h
    have h' : Rep X.K G' (.int i) v := h
    unfold Rep at h'
    exact ⟨i, h', q G' H' o⟩
  · exact q.elim
def cutD (ds : List D) (lo hi : Option Int) : List D := (ds.drop (HT.sIx ds.length 0 lo)).take (HT.sIx ds.length ds.length hi - HT.sIx ds.length 0 lo)
def dSl (x : D) (lo hi : Option Int) : Option Rz := match x with
  | .lst ds => some (.nw (.lst (cutD ds lo hi)))
  | .str z => if z.length ≤ sizeLine then some (.im (.str (cutS z lo hi))) else none
  | _ => none
def rSlB (K : PySem.W.Frag) : V → Option Int → Option Int → Hp → VK → Prop := fun x lo hi H Q => rSlL K x lo hi H Q ∨ rSlS x lo hi H Q
@[simp] def eSl (f : EF) (fl fh : S → R (Option Int × S)) : EF := fun ρ => f ρ >>= fun z => fl z.2 >>= fun a => fh a.2 >>= fun b => ofO (look z.1 b.2) >>= fun x => ofO (dSl x a.1 b.1) >>= fun r => fin r b.2
theorem pr_slice (h : PR X E e f) (hl : POp X E lo fl) (hh : POp X E hi fh) : PR X E (.Subscript e (.Slice lo hi none p2) pos) (eSl f fl fh) := by
  obtain ⟨t, pe, s⟩ := h.ex
  obtain ⟨tl, pl, sl⟩ := hl.ex
  obtain ⟨th, ph, sh⟩ := hh.ex
  refine ⟨_, pe_slice (r := rSlB X.K) (SlR.or sl_list sl_str) pe pl ph, fun G H σ ρ r Q hw => s G H σ ρ r _ (hw.bind.mono (fun z _ q v G1 H1 o1 h1 => ?_) fun _ _ q => q)⟩
  refine sl G1 H1 σ z.2 o1.rel _ (q.bind.mono (fun a _ q2 G2 H2 o2 => ?_) fun _ _ q2 => q2.step o1)
  refine sh G2 H2 σ a.2 o2.rel _ (q2.bind.mono (fun b _ q3 G3 H3 o3 => ?_) fun _ _ q3 => q3.step (o1.trans o2))
  obtain ⟨x, ex, q4⟩ := q3.opt
  obtain ⟨rz, ez, q5⟩ := q4.opt
  have rp := hold_look o3.rel (h1.pers (o2.trans o3)) ex
  have rs := fin_ok ((o1.trans o2).trans o3) q5
  cases x with
  | lst ds =>
    cases ez
    obtain ⟨ad, vs, rfl, g1, g2⟩ := rp.lst o3.rel.sub
    refine .inl ⟨ad, vs, rfl, SqL.of g1, fun p hp => rs p _ hp ⟨_, rfl, ?_⟩⟩
    unfold cutD cutV
    rw [g2.length]
    exact (g2.drop _).take _
  | str y =>
    have ez' : (if y.length ≤ sizeLine then some (Rz.im (.str (cutS y a.1 b.1))) else none) = some rz := ez
    split at ez'
    · rename_i hz
      cases ez'
      have := rp.str
      subst this
      exact .inr ⟨y, rfl, hz, rs _ rep_str⟩
    · cases ez'
  | _ => cases ez
end
/-! ## built-in functions and types -/
inductive RepPL (K : PySem.W.Frag) (G H : Hp) : List D → List V → Prop where
  | nil : RepPL K G H [] []
  | cons {d : D} {ds : List D} {v : V} {vs : List V} : RepP K G H d v → RepPL K G H ds vs → RepPL K G H (d :: ds) (v :: vs)
@[simp] def looks : List Hd → S → Option (List D)
  | [], _ => some []
  | h :: hs, ρ => match look h ρ, looks hs ρ with
    | some d, some ds => some (d :: ds)
    | _, _ => none
theorem looks_ok {K : PySem.W.Frag} {Hs G H : Hp} {σ : St} {ρ : S} (r : Rel K G H σ ρ) : ∀ {hs : List Hd} {vs : List V} {ds : List D}, HoldL K Hs G H σ ρ hs vs → looks hs ρ = some ds → RepPL K G H ds vs
  | _, _, _, .nil, e => by cases e; exact .nil
  | _, _, _, .cons (h := h) (hs := hs) a t, e => by
    unfold looks at e
    split at e
    · rename_i d ds e1 e2
      cases e
      exact .cons (hold_look r a e1) (looks_ok r t e2)
    · cases e
def CallD (K : PySem.W.Frag) (r : List V → Hp → VK → Prop) (g : List D → Option Rz) : Prop := ∀ (G H : Hp) (ds : List D) (vs : List V), Sub G H → RepPL K G H ds vs → ∀ (z : Rz) (Q : VK), g ds = some z → ResP K G H Q z → r vs H Q
@[simp] def eCB (g : List D → Option Rz) (f : S → R (List Hd × S)) : EF := fun ρ => f ρ >>= fun z => ofO (looks z.1 z.2) >>= fun ds => ofO (g ds) >>= fun r => fin r z.2
section
variable {X : Cx} {E : WX} {e : Expr} {es : List Expr} {x : Str} {p pos : Pos} {f : S → R (List Hd × S)} {g : List D → Option Rz} {r : List V → Hp → VK → Prop} {id T : String} {K : PySem.W.Frag}
theorem snd_cb {t : TA} (hg : CallD K r g) (s : SndH K E t f) : Snd K E (tCB r t) (eCB g f) := by
  intro G H σ ρ R Q hw
  refine s G H σ ρ R _ (hw.bind.mono (fun z _ q vs G1 H1 o1 h1 => ?_) fun _ _ q => q)
  obtain ⟨ds, e1, q⟩ := q.opt
  obtain ⟨rz, e2, q⟩ := q.opt
  exact hg G1 H1 ds vs o1.rel.sub (looks_ok o1.rel h1 e1) rz Q e2 (fin_ok o1 q)
theorem pr_callB (hc : CallR X (.builtin id) r) (hg : CallD X.K r g) (hgl : Gl X x) (hm : X.mg x = none) (hv : bootBuiltins x = some (.builtin id)) (ha : PHs X E (e :: es) f) (hn : x ≠ "__name__" := by decide) (hdb : (x == ("__debug__" : Str)) = false := by decide)
    (he : starEach (e :: es) X.env = (false, eval e X.env) :: starEach es X.env := by rfl) (hpl : (backTo pos (starEach es X.env)).any (·.1) = false := by rfl) : PR X E (.Call (.Name x p) (e :: es) [] pos) (eCB g f) := by
  obtain ⟨t, pa, s⟩ := ha.ex
  exact ⟨_, pe_callB hc hgl hm hv pa hn hdb he hpl, snd_cb hg s⟩
theorem pr_callTy (hc : CallR X (.type T) r) (hg : CallD X.K r g) (hgl : Gl X x) (hm : X.mg x = none) (hv : bootBuiltins x = some (.type T)) (ha : PHs X E (e :: es) f) (hn : x ≠ "__name__" := by decide) (hdb : (x == ("__debug__" : Str)) = false := by decide)
    (he : starEach (e :: es) X.env = (false, eval e X.env) :: starEach es X.env := by rfl) (hpl : (backTo pos (starEach es X.env)).any (·.1) = false := by rfl) : PR X E (.Call (.Name x p) (e :: es) [] pos) (eCB g f) := by
  obtain ⟨t, pa, s⟩ := ha.ex
  exact ⟨_, pe_callTy hc hgl hm hv pa hn hdb he hpl, snd_cb hg s⟩
theorem CallR.or {c : Value} {r r' : List V → Hp → VK → Prop} (h : CallR X c r) (h' : CallR X c r') : CallR X c (fun xs H Q => r xs H Q ∨ r' xs H Q) := by
  intro pins s σ H xs us Q I rx q
  rcases q with q | q
  · exact h pins s σ H xs us Q I rx q
  · exact h' pins s σ H xs us Q I rx q
theorem rpl1 {G H : Hp} {d : D} {vs : List V} (h : RepPL K G H [d] vs) : ∃ v, vs = [v] ∧ RepP K G H d v := by
  cases h with
  | cons a t => cases t; exact ⟨_, rfl, a⟩
theorem rpl2 {G H : Hp} {d e : D} {vs : List V} (h : RepPL K G H [d, e] vs) : ∃ v w, vs = [v, w] ∧ RepP K G H d v ∧ RepP K G H e w := by
  cases h with
  | cons a t =>
    obtain ⟨w, rfl, b⟩ := rpl1 t
    exact ⟨_, _, rfl, a, b⟩
/-! len -/
@[simp] def dLen : List D → Option Rz
  | [.lst ds] => some (.im (.int ds.length))
  | [.tup ds] => some (.im (.int ds.length))
  | [.scr ns] => some (.im (.int ns.length))
  | [.str x] => if x.length ≤ sizeLine then some (.im (.int x.length)) else none
  | [.dic ks _] => some (.im (.int ks.length))
  | _ => none
def rLenK (K : PySem.W.Frag) : List V → Hp → VK → Prop := fun xs H Q => (∃ x n, xs = [x] ∧ LenV K x H n ∧ Q (.int n) H) ∨ ∃ a kvs, xs = [V.ref a] ∧ Rd H a (.dK kvs) ∧ Q (.int kvs.length) H
theorem call_lenRd : CallR X (.builtin "len") (fun xs H Q => ∃ a kvs, xs = [V.ref a] ∧ Rd H a (.dK kvs) ∧ Q (.int kvs.length) H) := by
  intro pins s σ H xs us Q I r h
  obtain ⟨a, kvs, rfl, e, q⟩ := h
  cases r with
  | cons r1 r2 =>
    cases r2
    cases r1
    exact d_len I e fun t s' I' => ⟨.int kvs.length, H, I', ⟨t, rfl⟩, q⟩
theorem call_lenK : CallR X (.builtin "len") (rLenK X.K) := CallR.or call_len call_lenRd
theorem d_lenK : CallD K (rLenK K) dLen := by
  intro G H ds vs s h z Q e q
  unfold dLen at e
  split at e
  · obtain ⟨v, rfl, rv⟩ := rpl1 h
    cases e
    obtain ⟨a, us, rfl, h1, h2⟩ := rv.lst s
    exact .inl ⟨_, _, rfl, .inl ⟨us, SqL.of h1, h2.length⟩, q _ rep_int⟩
  · obtain ⟨v, rfl, rv⟩ := rpl1 h
    cases e
    obtain ⟨a, us, rfl, h1, h2⟩ := rv.tup s
    exact .inl ⟨_, _, rfl, .inr ⟨us, h1, h2.length⟩, q _ rep_int⟩
  · obtain ⟨v, rfl, rv⟩ := rpl1 h
    cases e
    obtain ⟨a, rfl, h1⟩ := rv.scr s
    exact .inl ⟨_, _, rfl, .inl ⟨_, h1, by rw [List.length_map]⟩, q _ rep_int⟩
  · obtain ⟨v, rfl, rv⟩ := rpl1 h
    split at e
    · rename_i hl
      cases e
      have := rv.str; subst this
      exact .inl ⟨_, _, rfl, ⟨hl, rfl⟩, q _ rep_int⟩
    · cases e
  · obtain ⟨v, rfl, rv⟩ := rpl1 h
    cases e
    obtain ⟨a, kvs, rfl, h1, h2, h3⟩ := rv.dic s
    exact .inr ⟨a, kvs, rfl, h1, by have := q (.int kvs.length); rw [← h2, List.length_map] at this; exact this rep_int⟩
  · cases e
/-! ints -/
@[simp] def dAbs : List D → Option Rz
  | [.int i] => some (.im (.int (if i < 0 then -i else i)))
  | _ => none
theorem d_abs : CallD K (fun xs H Q => ∃ i, xs = [.int i] ∧ Q (.int (if i < 0 then -i else i)) H) dAbs := by
  intro G H ds vs s h z Q e q
  unfold dAbs at e
  split at e
  · obtain ⟨v, rfl, rv⟩ := rpl1 h
    cases e
    have := rv.int; subst this
    exact ⟨_, rfl, q _ rep_int⟩
  · cases e
@[simp] def dMax : List D → Option Rz
  | [.int i, .int j] => some (.im (.int (if j > i then j else i)))
  | _ => none
@[simp] def dMin : List D → Option Rz
  | [.int i, .int j] => some (.im (.int (if j < i then j else i)))
  | _ => none
theorem d_max : CallD K (fun xs H Q => ∃ i j, xs = [.int i, .int j] ∧ Q (.int (if j > i then j else i)) H) dMax := by
  intro G H ds vs s h z Q e q
  unfold dMax at e
  split at e
  · obtain ⟨v, w, rfl, rv, rw'⟩ := rpl2 h
    cases e
    have := rv.int; have := rw'.int; subst_vars
    exact ⟨_, _, rfl, q _ rep_int⟩
  · cases e
theorem d_min : CallD K (fun xs H Q => ∃ i j, xs = [.int i, .int j] ∧ Q (.int (if j < i then j else i)) H) dMin := by
  intro G H ds vs s h z Q e q
  unfold dMin at e
  split at e
  · obtain ⟨v, w, rfl, rv, rw'⟩ := rpl2 h
    cases e
    have := rv.int; have := rw'.int; subst_vars
    exact ⟨_, _, rfl, q _ rep_int⟩
  · cases e
@[simp] def dInt : List D → Option Rz
  | [.int i] => some (.im (.int i))
  | [.bl k] => some (.im (.int (if k then 1 else 0)))
  | _ => none
theorem d_int : CallD K (fun xs H Q => (∃ i, xs = [.int i] ∧ Q (.int i) H) ∨ ∃ k, xs = [.bl k] ∧ Q (.int (if k then 1 else 0)) H) dInt := by
  intro G H ds vs s h z Q e q
  unfold dInt at e
  split at e
  · obtain ⟨v, rfl, rv⟩ := rpl1 h
    cases e
    have := rv.int; subst this
    exact .inl ⟨_, rfl, q _ rep_int⟩
  · obtain ⟨v, rfl, rv⟩ := rpl1 h
    cases e
    have := rv.bl; subst this
    exact .inr ⟨_, rfl, q _ rep_int⟩
  · cases e
/-! all, any, sum over lists -/
def blsD : List D → Option (List Bool)
  | [] => some []
  | .bl b :: ds => (blsD ds).map (b :: ·)
  | _ => none
theorem blsD_rep {G : Hp} : ∀ {ds : List D} {vs : List V} {bs : List Bool}, RepL K G ds vs → blsD ds = some bs → vs = bs.map V.bl
  | [], vs, bs, h, e => by cases e; exact repL_nil.mp h
  | d :: ds, vs, bs, h, e => by
    obtain ⟨v, vs', rfl, h1, h2⟩ := repL_cons.mp h
    cases d with
    | bl b =>
      have e' : (blsD ds).map (b :: ·) = some bs := e
      cases q : blsD ds with
      | none => rw [q] at e'; cases e'
      | some bs' =>
        rw [q] at e'; cases e'
        unfold Rep at h1
        rw [h1, blsD_rep h2 q]; rfl
    | _ => cases e
def intsD : List D → Option (List Int)
  | [] => some []
  | .int b :: ds => (intsD ds).map (b :: ·)
  | _ => none
theorem intsD_rep {G : Hp} : ∀ {ds : List D} {vs : List V} {bs : List Int}, RepL K G ds vs → intsD ds = some bs → vs = bs.map V.int
  | [], vs, bs, h, e => by cases e; exact repL_nil.mp h
  | d :: ds, vs, bs, h, e => by
    obtain ⟨v, vs', rfl, h1, h2⟩ := repL_cons.mp h
    cases d with
    | int b =>
      have e' : (intsD ds).map (b :: ·) = some bs := e
      cases q : intsD ds with
      | none => rw [q] at e'; cases e'
      | some bs' =>
        rw [q] at e'; cases e'
        unfold Rep at h1
        rw [h1, intsD_rep h2 q]; rfl
    | _ => cases e
def dAll : List D → Option Rz
  | [.lst ds] => (blsD ds).map fun bs => .im (.bl (bs.all fun b => b))
  | _ => none
def dAny : List D → Option Rz
  | [.lst ds] => (blsD ds).map fun bs => .im (.bl (bs.any fun b => b))
  | _ => none
def dSum : List D → Option Rz
  | [.lst ds] => (intsD ds).map fun ns => .im (.int ns.sum)
  | _ => none
theorem d_all : CallD K (rAll K) dAll := by
  intro G H ds vs s h z Q e q
  unfold dAll at e
  split at e
  · obtain ⟨v, rfl, rv⟩ := rpl1 h
    obtain ⟨a, us, rfl, h1, h2⟩ := rv.lst s
    rename_i ds
    cases eb : blsD ds with
    | none => rw [eb] at e; cases e
    | some bs => rw [eb] at e; cases e; rw [blsD_rep h2 eb] at h1; exact ⟨a, bs, rfl, SqL.of h1, q _ rep_bl⟩
  · cases e
theorem d_any : CallD K (rAny K) dAny := by
  intro G H ds vs s h z Q e q
  unfold dAny at e
  split at e
  · obtain ⟨v, rfl, rv⟩ := rpl1 h
    obtain ⟨a, us, rfl, h1, h2⟩ := rv.lst s
    rename_i ds
    cases eb : blsD ds with
    | none => rw [eb] at e; cases e
    | some bs => rw [eb] at e; cases e; rw [blsD_rep h2 eb] at h1; exact ⟨a, bs, rfl, SqL.of h1, q _ rep_bl⟩
  · cases e
theorem d_sum : CallD K (rSum K) dSum := by
  intro G H ds vs s h z Q e q
  unfold dSum at e
  split at e
  · obtain ⟨v, rfl, rv⟩ := rpl1 h
    obtain ⟨a, us, rfl, h1, h2⟩ := rv.lst s
    rename_i ds
    cases eb : intsD ds with
    | none => rw [eb] at e; cases e
    | some bs => rw [eb] at e; cases e; rw [intsD_rep h2 eb] at h1; exact ⟨a, bs, rfl, SqL.of h1, q _ rep_int⟩
  · cases e
/-! list(..) -/
def dList : List D → Option Rz
  | [.lst ds] => some (.nw (.lst ds))
  | [.tup ds] => some (.nw (.lst ds))
  | _ => none
theorem d_list : CallD K (fun xs H Q => ∃ p ys, xs = [.ref p] ∧ (SqL K H p ys ∨ SqT K H p ys) ∧ ∀ l, H l = none → Q (.ref l) (upd H l (.lst ys))) dList := by
  intro G H ds vs s h z Q e q
  unfold dList at e
  split at e
  · obtain ⟨v, rfl, rv⟩ := rpl1 h
    obtain ⟨a, us, rfl, h1, h2⟩ := rv.lst s
    cases e
    exact ⟨a, us, rfl, .inl (SqL.of h1), fun l hl => q l _ hl ⟨_, rfl, h2⟩⟩
  · obtain ⟨v, rfl, rv⟩ := rpl1 h
    obtain ⟨a, us, rfl, h1, h2⟩ := rv.tup s
    cases e
    exact ⟨a, us, rfl, .inr h1, fun l hl => q l _ hl ⟨_, rfl, h2⟩⟩
  · cases e
end
/-! ### divmod: a new tuple, frozen -/
section
variable {X : Cx} {E : WX} {e : Expr} {es : List Expr} {x : Str} {p pos : Pos} {f : S → R (List Hd × S)} {K : PySem.W.Frag}
def DmOk (j : Int) : Prop := 0 < j ∧ j < 2 ^ 200
open Classical in
noncomputable def eDivmod (f : S → R (List Hd × S)) : EF := fun ρ => f ρ >>= fun z => match z.1 with
  | [.val (.int i), .val (.int j)] => if DmOk j then .ok (.val (.tup [.int (i / j), .int (i % j)]), z.2) else .no
  | _ => .no
theorem cdivP {i j : Int} (h0 : 0 < j) (h1 : j < 2 ^ 200) : CDivP i j := by
  refine ⟨h0, ?_⟩
  unfold Builtin.divisionGoesByPylong
  have : j.natAbs.log2 < 200 := by
    rw [Nat.log2_lt (by omega)]
    have : (j.natAbs : Int) < 2 ^ 200 := by omega
    exact_mod_cast this
  have h2 : ¬ ((if j == 0 then 0 else j.natAbs.log2 / 30 + 1) > 300) := by
    split
    · omega
    · have : j.natAbs.log2 / 30 ≤ 200 / 30 := Nat.div_le_div_right (by omega)
      omega
  simp only [decide_eq_false h2, Bool.false_and]
theorem pr_divmod (hgl : Gl X "divmod") (hm : X.mg "divmod" = none) (ha : PHs X E (e :: es) f) (he : starEach (e :: es) X.env = (false, eval e X.env) :: starEach es X.env := by rfl) (hpl : (backTo pos (starEach es X.env)).any (·.1) = false := by rfl) : PR X E (.Call (.Name "divmod" p) (e :: es) [] pos) (eDivmod f) := by
  obtain ⟨t, pa, s⟩ := ha.ex
  refine ⟨_, pe_callB call_divmodW hgl hm (by decide +kernel) pa (by decide) (by decide) he hpl, fun G H σ ρ R Q hw => s G H σ ρ R _ (hw.bind.mono (fun z _ q vs G1 H1 o1 h1 => ?_) fun _ _ q => q)⟩
  obtain ⟨hs, ρ1⟩ := z
  split at q
  · rename_i i j e
    have e' : hs = [.val (.int i), .val (.int j)] := e
    subst e'
    split at q
    · rename_i hj
      cases h1 with
      | cons a1 t1 =>
        cases t1 with
        | cons a2 t2 =>
          cases t2
          have b1 : Rep X.K G1 (.int i) _ := a1
          have b2 : Rep X.K G1 (.int j) _ := a2
          unfold Rep at b1 b2
          subst b1 b2
          refine ⟨i, j, rfl, cdivP hj.1 hj.2, fun pp hp => ?_⟩
          have o2 := Out.lay (o := .tup [.int (i / j), .int (i % j)]) o1.rel hp
          refine q _ _ _ (o1.trans o2) (Hold.val ?_)
          unfold Rep
          exact ⟨pp, _, rfl, SqT.of upd_same, .cons rep_int (.cons rep_int .nil)⟩
    · exact q.elim
  · exact q.elim
end
end BR
set_option Elab.async false
set_option linter.all false
set_option maxRecDepth 100000
set_option maxHeartbeats 4000000
namespace BR
open PySem L2

/-! ## owned objects changed -/
@[simp] def updSl (ρ : S) (i : Nat) (d : D) : Option S := match ρ[i]? with
  | some (some (.own _)) => some (ρ.set i (some (.own d)))
  | some (some (.io _)) => some (ρ.set i (some (.io d)))
  | _ => none
@[simp] def lookMu (ρ : S) (i : Nat) : Option D := match ρ[i]? with
  | some (some (.own d)) => some d
  | some (some (.io d)) => some d
  | _ => none
section
variable {K : PySem.W.Frag} {Gs Hs G H : Hp} {σ : St} {ρs ρ ρ' : S} {i : Nat} {a : Addr} {d : D} {u : HO}
theorem lookMu_ok (r : Rel K G H σ ρ) (e : lookMu ρ i = some d) : isMut ρ i ∧ ∃ a, σ[i]? = some (some (.ref a)) ∧ OwnAt K G H a d := by
  unfold lookMu at e
  split at e
  · rename_i d0 q
    cases e
    exact ⟨⟨_, .inl q⟩, r.sl i _ q⟩
  · rename_i d0 q
    cases e
    exact ⟨⟨_, .inr q⟩, r.sl i _ q⟩
  · cases e
theorem mut_ok (o : Out K Gs Hs σ ρs G H ρ) (hi : σ[i]? = some (some (.ref a))) (hm : isMut ρ i) (hc : Cont K G d u) (e : updSl ρ i d = some ρ') : Out K Gs Hs σ ρs G (upd H a u) ρ' := by
  have nst : ∀ o', H a = some o' → ¬ Stat o' := fun o' e' => by
    obtain ⟨d', m⟩ := hm
    rcases m with m | m
    · obtain ⟨b, e1, _, o'', h2, h3⟩ := o.rel.sl i _ m
      rw [hi] at e1; cases e1
      rw [e'] at h2; cases h2
      exact cont_stat h3
    · obtain ⟨b, e1, _, o'', h2, h3⟩ := o.rel.sl i _ m
      rw [hi] at e1; cases e1
      rw [e'] at h2; cases h2
      exact cont_stat h3
  have adsA : ads H σ ρ a := .inl ⟨i, hm, hi⟩
  have hA : ∀ b, dpa H σ ρ b → ¬ b = a := fun b hb z => o.rel.dp.ds b i hb hm (by rw [z]; exact hi)
  have hga := (o.rel.adsH adsA)
  have st : Stp (fun b => b = a) G H G (upd H a u) := ⟨Same.refl _, fun b w e n _ => by rw [upd_ne n]; exact e, fun b e => by
    by_cases hb : b = a
    · subst hb; rw [upd_same] at e; cases e
    · rw [upd_ne hb] at e; exact e, fun _ _ _ h => h, tabs_upd nst (cont_nt hc)⟩
  have sb : Sub G (upd H a u) := fun b w e => by
    have hb : b ≠ a := fun z => by rw [z, hga.2] at e; cases e
    rw [upd_ne hb]; exact o.rel.sub b w e
  have ow : OwnAt K G (upd H a u) a d := ⟨hga.2, u, upd_same, hc⟩
  have go : ∀ s0 : D → Sl, ((∀ d, s0 d = .own d) ∨ ∀ d, s0 d = .io d) → (∃ d0, ρ[i]? = some (some (s0 d0))) → ρ' = ρ.set i (some (s0 d)) → Out K Gs Hs σ ρs G (upd H a u) ρ' := by
    intro s0 hs0 ⟨d0, h0⟩ er
    have hil : i < ρ.length := (List.getElem?_eq_some_iff.mp h0).1
    subst er
    have rl := o.rel.after (ρ' := ρ.set i (some (s0 d))) st ⟨sb, tbU nst o.rel.tt (cont_nt hc)⟩ (List.length_set ..) hA fun j s e => by
      by_cases hj : i = j
      · subst hj
        rw [List.getElem?_set_self hil] at e; cases e
        refine .inr ⟨hm, d, ?_, a, hi, ow⟩
        rcases hs0 with z | z <;> rw [z]
        · exact .inl rfl
        · exact .inr rfl
      · rw [List.getElem?_set_ne hj] at e
        refine .inl ⟨e, fun m b eb z => hj ?_⟩
        subst z
        exact o.rel.dis i j b hm m hi eb
    have kr : Ker ρ (ρ.set i (some (s0 d))) := by
     refine ⟨fun j m => ?_, fun j m => ?_, fun j t m => ?_⟩
     rotate_right
     · by_cases hj : i = j
       · subst hj
         rw [List.getElem?_set_self hil] at m
         rcases hs0 with z | z <;> rw [z] at m <;> cases m
       · rw [List.getElem?_set_ne hj] at m; exact m
     · by_cases hj : i = j
       · subst hj; exact hm
       · obtain ⟨d, m⟩ := m
         rw [List.getElem?_set_ne hj] at m
         exact ⟨d, m⟩
     · by_cases hj : i = j
       · subst hj
         obtain ⟨d', m⟩ := m
         rcases hs0 with z | z
         · rw [z, m] at h0; cases h0
         · exact ⟨d, by rw [List.getElem?_set_self hil, z]⟩
       · obtain ⟨d, m⟩ := m
         exact ⟨d, by rw [List.getElem?_set_ne hj]; exact m⟩
    exact ⟨rl, o.stp.trans st fun c e z => by subst z; exact o.nw c adsA e, o.ker.trans kr, fun b h z => o.nw b (o.rel.afterN st hA kr.lse b h) z, fun b h => (upd_ne fun z => o.rel0.dp.ds b i h (o.ker.mu i hm) (by rw [z]; exact hi)).trans (o.tre b h), o.rel0⟩
  unfold updSl at e
  split at e
  · rename_i d0 q; cases e; exact go .own (.inl fun _ => rfl) ⟨d0, q⟩ rfl
  · rename_i d0 q; cases e; exact go .io (.inr fun _ => rfl) ⟨d0, q⟩ rfl
  · cases e
end

@[simp] def lookL (ρ : S) (i : Nat) : Option (List D) := match lookMu ρ i with
  | some (.lst ds) => some ds
  | _ => none
@[simp] def lookDic (ρ : S) (i : Nat) : Option (List Key × List D) := match lookMu ρ i with
  | some (.dic ks ds) => some (ks, ds)
  | _ => none
def lookIns (ρ : S) (i : Nat) : Option (Addr × List Str × List D) := match lookMu ρ i with
  | some (.ins C ns ds) => some (C, ns, ds)
  | _ => none
@[simp] def asL : D → Option (List D)
  | .lst ds => some ds
  | _ => none
@[simp] def asInt : Hd → Option Int
  | .val (.int i) => some i
  | _ => none
theorem asL_eq {d : D} {ds : List D} (h : asL d = some ds) : d = .lst ds := by cases d <;> cases h; rfl
theorem asInt_eq {h : Hd} {i : Int} (e : asInt h = some i) : h = .val (.int i) := by
  cases h with
  | val d => cases d <;> cases e; rfl
  | _ => cases e
section
variable {K : PySem.W.Frag} {G H : Hp} {σ : St} {ρ : S} {i : Nat}
theorem lookL_ok {ds : List D} (r : Rel K G H σ ρ) (e : lookL ρ i = some ds) : isMut ρ i ∧ ∃ a vs, σ[i]? = some (some (.ref a)) ∧ G a = none ∧ H a = some (.lst vs) ∧ RepL K G ds vs := by
  unfold lookL at e
  split at e
  · rename_i d q
    cases e
    obtain ⟨m, a, ea, hg, u, hu, vs, rfl, hc⟩ := lookMu_ok r q
    exact ⟨m, a, vs, ea, hg, hu, hc⟩
  · cases e
theorem lookDic_ok {ks : List Key} {ds : List D} (r : Rel K G H σ ρ) (e : lookDic ρ i = some (ks, ds)) : isMut ρ i ∧ ∃ a kvs, σ[i]? = some (some (.ref a)) ∧ G a = none ∧ H a = some (.dK kvs) ∧ kvs.map (·.1) = ks ∧ RepL K G ds (kvs.map (·.2)) := by
  unfold lookDic at e
  split at e
  · rename_i k d q
    cases e
    obtain ⟨m, a, ea, hg, u, hu, kvs, rfl, hc, hc2⟩ := lookMu_ok r q
    exact ⟨m, a, kvs, ea, hg, hu, hc, hc2⟩
  · cases e
theorem lookIns_ok {C : Addr} {ns : List Str} {ds : List D} (r : Rel K G H σ ρ) (e : lookIns ρ i = some (C, ns, ds)) : isMut ρ i ∧ ∃ a dx fs, σ[i]? = some (some (.ref a)) ∧ G a = none ∧ H a = some (.ins C dx fs) ∧ fs.map (·.1) = ns ∧ RepL K G ds (fs.map (·.2)) := by
  unfold lookIns at e
  split at e
  · rename_i c k d q
    cases e
    obtain ⟨m, a, ea, hg, u, hu, dx, fs, rfl, hc, hc2⟩ := lookMu_ok r q
    exact ⟨m, a, dx, fs, ea, hg, hu, hc, hc2⟩
  · cases e
end
@[simp] def guard (b : Bool) : Option Unit := if b = true then some () else none
theorem guard_eq {b : Bool} {u : Unit} (h : guard b = some u) : b = true := by
  unfold guard at h
  split at h
  · assumption
  · cases h
theorem guard_true : guard true = some () := rfl
theorem cont_l {K : PySem.W.Frag} {G : Hp} {ds : List D} {vs : List V} (h : RepL K G ds vs) : Cont K G (.lst ds) (.lst vs) := ⟨vs, rfl, h⟩
theorem cont_d {K : PySem.W.Frag} {G : Hp} {ks : List Key} {ds : List D} {kvs : List (Key × V)} (h1 : kvs.map (·.1) = ks) (h : RepL K G ds (kvs.map (·.2))) : Cont K G (.dic ks ds) (.dK kvs) := ⟨kvs, rfl, h1, h⟩
theorem cont_i {K : PySem.W.Frag} {G : Hp} {C dx : Addr} {ns : List Str} {ds : List D} {fs : List (Str × V)} (h1 : fs.map (·.1) = ns) (h : RepL K G ds (fs.map (·.2))) : Cont K G (.ins C ns ds) (.ins C dx fs) := ⟨dx, fs, rfl, h1, h⟩
section
variable {X : Cx} {E : WX} {e o : Expr} {f fo : EF} {pos pos' apos cpos : Pos} {x : Str} {i : Nat}
/-- x.append(e) -/
@[simp] def eAppend (i : Nat) (f : EF) : EF := fun ρ => ofO (lookL ρ i) >>= fun _ => eV f ρ >>= fun z => ofO (lookL z.2 i) >>= fun ds => ofO (guard (decide (ds.length < sizeLine))) >>= fun _ => ofO (updSl z.2 i (.lst (ds ++ [z.1]))) >>= fun ρ2 => .ok (.val .non, ρ2)
theorem pr_append (hN : X.N[i]? = some x) (hv : Vis X.env.scope x) (h : PR X E e f) (hd : (x == ("__debug__" : Str)) = false := by decide) (hcd : (x == ("__classdict__" : Str)) = false := by decide)
    (hfew : ((backTo cpos (starEach (e :: []) X.env)).all (fun x => !x.1) && (backToKw cpos (keywordEach [] X.env)).all (fun x => x.1.isSome)
      && decide ((e :: []).length + ([] : List Keyword).length + (if ([] : List Keyword).isEmpty then 0 else 1) < 30)) = true := by rfl)
    (hbase : attributeBase (.Name x pos') "append" X.env (eval (.Name x pos') X.env) = eval (.Name x pos') X.env := by rfl) (hline : (apos.endLine == cpos.line) = true := by rfl) (hs : starEach (e :: []) X.env = (false, eval e X.env) :: starEach [] X.env := by rfl) :
    PR X E (.Call (.Attribute (.Name x pos') "append" apos) [e] [] cpos) (eAppend i f) := by
  obtain ⟨t, pe, s⟩ := h.v.ex
  refine ⟨_, pe_bm PySem.F.plainAttrs_list PySem.F.slot_list_append PySem.F.type_list_append mt_append (pe_var (i := i) hN hv hd hcd) (pa_cons pe pa_nil hs) hbase hfew hline hs rfl, fun G H σ ρ r Q hw => ?_⟩
  obtain ⟨ds0, q0, hw⟩ := hw.opt
  obtain ⟨_, a, vs0, ea, hg0, hu0, hc0⟩ := lookL_ok r q0
  refine ⟨.ref a, ea, .inl ⟨rfl, vs0, SqL.of hu0⟩, s G H σ ρ r _ (hw.bind.mono (fun z _ q v G1 H1 o1 rv => ?_) fun _ _ q => q)⟩
  obtain ⟨ds, q1, q⟩ := q.opt
  obtain ⟨_, q2, q⟩ := q.opt
  obtain ⟨ρ2, e2, q⟩ := q.opt
  obtain ⟨hm, a', vs1, ea', hg1, hu1, hc1⟩ := lookL_ok o1.rel q1
  rw [ea] at ea'; cases ea'
  refine ⟨a, vs1, v, rfl, rfl, hu1, by rw [← hc1.length]; exact of_decide_eq_true (guard_eq q2), ?_⟩
  exact q .non G1 _ (mut_ok o1 ea hm (cont_l (hc1.append (.cons rv .nil))) e2) (Hold.val rep_non)
/-- x.extend(e), e a list -/
@[simp] def eExtend (i : Nat) (f : EF) : EF := fun ρ => ofO (lookL ρ i) >>= fun _ => eV f ρ >>= fun z => ofO (lookL z.2 i) >>= fun ds => ofO (asL z.1) >>= fun es => ofO (guard (decide (ds.length + es.length ≤ sizeLine))) >>= fun _ => ofO (updSl z.2 i (.lst (ds ++ es))) >>= fun ρ2 => .ok (.val .non, ρ2)
theorem pr_extend (hN : X.N[i]? = some x) (hv : Vis X.env.scope x) (h : PR X E e f) (hd : (x == ("__debug__" : Str)) = false := by decide) (hcd : (x == ("__classdict__" : Str)) = false := by decide)
    (hfew : ((backTo cpos (starEach (e :: []) X.env)).all (fun x => !x.1) && (backToKw cpos (keywordEach [] X.env)).all (fun x => x.1.isSome)
      && decide ((e :: []).length + ([] : List Keyword).length + (if ([] : List Keyword).isEmpty then 0 else 1) < 30)) = true := by rfl)
    (hbase : attributeBase (.Name x pos') "extend" X.env (eval (.Name x pos') X.env) = eval (.Name x pos') X.env := by rfl) (hline : (apos.endLine == cpos.line) = true := by rfl) (hs : starEach (e :: []) X.env = (false, eval e X.env) :: starEach [] X.env := by rfl) :
    PR X E (.Call (.Attribute (.Name x pos') "extend" apos) [e] [] cpos) (eExtend i f) := by
  obtain ⟨t, pe, s⟩ := h.v.ex
  refine ⟨_, pe_bm PySem.F.plainAttrs_list PySem.F.slot_list_extend PySem.F.type_list_extend mt_extend (pe_var (i := i) hN hv hd hcd) (pa_cons pe pa_nil hs) hbase hfew hline hs rfl, fun G H σ ρ r Q hw => ?_⟩
  obtain ⟨ds0, q0, hw⟩ := hw.opt
  obtain ⟨_, a, vs0, ea, hg0, hu0, hc0⟩ := lookL_ok r q0
  refine ⟨.ref a, ea, .inl ⟨rfl, vs0, SqL.of hu0⟩, s G H σ ρ r _ (hw.bind.mono (fun z _ q v G1 H1 o1 rv => ?_) fun _ _ q => q)⟩
  obtain ⟨ds, q1, q⟩ := q.opt
  obtain ⟨es, q3, q⟩ := q.opt
  obtain ⟨_, q2, q⟩ := q.opt
  obtain ⟨ρ2, e2, q⟩ := q.opt
  obtain ⟨hm, a', vs1, ea', hg1, hu1, hc1⟩ := lookL_ok o1.rel q1
  rw [ea] at ea'; cases ea'
  rw [asL_eq q3] at rv
  unfold Rep at rv
  obtain ⟨b, ws, rfl, hb, hws⟩ := rv
  refine ⟨a, b, vs1, ws, rfl, rfl, hu1, o1.rel.sub.ls hb, by rw [← hc1.length, ← hws.length]; exact of_decide_eq_true (guard_eq q2), ?_⟩
  exact q .non G1 _ (mut_ok o1 ea hm (cont_l (hc1.append hws)) e2) (Hold.val rep_non)
/-- x[k] = e, x an owned list -/
@[simp] def sSetL (i : Nat) (fk f : EF) : SF := fun ρ => eV f ρ >>= fun z => ofO (lookL z.2 i) >>= fun _ => fk z.2 >>= fun y => ofO (asInt y.1) >>= fun k => ofO (lookL y.2 i) >>= fun ds => ofO (ixN ds.length k) >>= fun j => ofO (updSl y.2 i (.lst (ds.set j z.1))) >>= fun ρ2 => .ok (.nx, ρ2)
theorem st_setL {k : Expr} {fk : EF} {spos : Pos} (hN : X.N[i]? = some x) (hv : Vis X.env.scope x) (h : PR X E e f) (hk : PR X E k fk) (hd : (x == ("__debug__" : Str)) = false := by decide) (hcd : (x == ("__classdict__" : Str)) = false := by decide)
    (hs : swapsWithSole [.Subscript (.Name x pos') k spos] e pos.line X.env = pure false := by rfl) (hw : swappedStores [.Subscript (.Name x pos') k spos] e X.env = pure none := by rfl)
    (h1 : (assignEach [.Subscript (.Name x pos') k spos] X.env).map (·.2) = [assign (.Subscript (.Name x pos') k spos) X.env] := by rfl)
    (ha : ∀ v, assign (.Subscript (.Name x pos') k spos) X.env v = (do
      let ov ← holding [v] (eval (.Name x pos') X.env)
      let iv ← holding [v, ov] (eval k X.env)
      standAt spos
      holding [v, ov, iv] (setItem ov iv v)
      release [v, ov, iv] []) := by intro _; rfl) :
    PSt X E (.Assign [.Subscript (.Name x pos') k spos] e pos) (sSetL i fk f) := by
  obtain ⟨t, pe, s⟩ := h.v.ex
  obtain ⟨tk, pk, sk⟩ := hk.ex
  refine ⟨_, ps_asg pe (pg_sub (pe_var (i := i) hN hv hd hcd) pk set_list ha) hs hw h1, fun G H σ ρ r Dn hw => s G H σ ρ r _ (hw.bind.mono (fun z _ q v G1 H1 o1 rv => ?_) fun _ _ q => q)⟩
  obtain ⟨ds0, q0, q⟩ := q.opt
  obtain ⟨_, a, vs0, ea, hg0, hu0, hc0⟩ := lookL_ok o1.rel q0
  refine ⟨.ref a, ea, sk G1 H1 σ z.2 o1.rel _ (q.bind.mono (fun y _ q2 vk G2 H2 o2 hk2 => ?_) fun _ _ q2 => q2.step o1)⟩
  obtain ⟨kk, e1, q2⟩ := q2.opt
  obtain ⟨ds, e2, q2⟩ := q2.opt
  obtain ⟨j, e3, q2⟩ := q2.opt
  obtain ⟨ρ2, e4, q2⟩ := q2.opt
  rw [asInt_eq e1] at hk2
  have hk3 : Rep X.K G2 (.int kk) vk := hk2
  unfold Rep at hk3
  obtain ⟨hm, a', vs1, ea', hg1, hu1, hc1⟩ := lookL_ok o2.rel e2
  rw [ea] at ea'; cases ea'
  refine ⟨a, vs1, kk, j, rfl, hk3, hu1, by rw [← hc1.length]; exact e3, ?_⟩
  exact q2 σ G2 _ (mut_ok (o1.trans o2) ea hm (cont_l (hc1.set j (Rep.mono o2.stp.gg _ rv))) e4).s
/-- x[0], y = e: the first item of an owned list, and a name -/
@[simp] def sDraw (i j : Nat) (f : EF) : SF := fun ρ => eV f ρ >>= fun z => match z.1 with
  | .tup [a, b] => ofO (lookL z.2 i) >>= fun ds => ofO (guard (decide (0 < ds.length))) >>= fun _ => ofO (updSl z.2 i (.lst (ds.set 0 a))) >>= fun ρ2 => ofO (setS j (.sh b) ρ2) >>= fun ρ3 => .ok (.nx, ρ3)
  | _ => .no
theorem st_draw {j : Nat} {y : Str} {kt k0 : Nat} {spos p0 py tpos : Pos} (hN : X.N[i]? = some x) (hv : Vis X.env.scope x) (hN2 : X.N.Nodup) (hj : X.N[j]? = some y) (hy : Loc X.env.scope y) (hc : X.calm = true) (h : PR X E e f) (hd : (x == ("__debug__" : Str)) = false := by decide) (hcd : (x == ("__classdict__" : Str)) = false := by decide)
    (hf : X.fn y = true ∨ X.env.scope.names.lookup y = some .local := by first | exact .inl rfl | exact .inr rfl | assumption)
    (hs : swapsWithSole [.Tuple [.Subscript (.Name x pos') (.Constant (.int 0) k0 p0) spos, .Name y py] kt tpos] e pos.line X.env = pure false := by rfl) (hw : swappedStores [.Tuple [.Subscript (.Name x pos') (.Constant (.int 0) k0 p0) spos, .Name y py] kt tpos] e X.env = pure none := by rfl)
    (h1 : (assignEach [.Tuple [.Subscript (.Name x pos') (.Constant (.int 0) k0 p0) spos, .Name y py] kt tpos] X.env).map (·.2) = [assign (.Tuple [.Subscript (.Name x pos') (.Constant (.int 0) k0 p0) spos, .Name y py] kt tpos) X.env] := by rfl)
    (ha : ∀ v, assign (.Subscript (.Name x pos') (.Constant (.int 0) k0 p0) spos) X.env v = (do
      let ov ← holding [v] (eval (.Name x pos') X.env)
      let iv ← holding [v, ov] (eval (.Constant (.int 0) k0 p0) X.env)
      standAt spos
      holding [v, ov, iv] (setItem ov iv v)
      release [v, ov, iv] []) := by intro _; rfl)
    (hn : (assignEach [.Subscript (.Name x pos') (.Constant (.int 0) k0 p0) spos, .Name y py] X.env).length = 2 := by rfl) (hst : (assignEach [.Subscript (.Name x pos') (.Constant (.int 0) k0 p0) spos, .Name y py] X.env).findIdx? (·.1) = none := by rfl)
    (hs1 : (assignEach [.Subscript (.Name x pos') (.Constant (.int 0) k0 p0) spos, .Name y py] X.env).map (·.2) = assign (.Subscript (.Name x pos') (.Constant (.int 0) k0 p0) spos) X.env :: (assignEach [.Name y py] X.env).map (·.2) := by rfl)
    (hs2 : (assignEach [.Name y py] X.env).map (·.2) = assign (.Name y py) X.env :: (assignEach [] X.env).map (·.2) := by rfl) :
    PSt X E (.Assign [.Tuple [.Subscript (.Name x pos') (.Constant (.int 0) k0 p0) spos, .Name y py] kt tpos] e pos) (sDraw i j f) := by
  obtain ⟨t, pe, s⟩ := h.v.ex
  refine ⟨_, ps_asg pe (pg_tup hc (pgs_cons (pg_sub (pe_var (i := i) hN hv hd hcd) pe_int set_list ha) (pgs_cons (pg_name (i := j) hN2 hj hy hf) pgs_nil hs2) hs1) hn hst) hs hw h1, fun G H σ ρ r Dn hw => s G H σ ρ r _ (hw.bind.mono (fun z _ q v G1 H1 o1 rv => ?_) fun _ _ q => q)⟩
  obtain ⟨d, ρ1⟩ := z
  split at q
  rotate_left
  · exact q.elim
  rename_i aa bb ed
  have ed' : d = .tup [aa, bb] := ed
  subst ed'
  obtain ⟨ds, e2, q⟩ := q.opt
  obtain ⟨_, e3, q⟩ := q.opt
  obtain ⟨ρ2, e4, q⟩ := q.opt
  obtain ⟨ρ3, e5, q⟩ := q.opt
  have rv' : Rep X.K G1 (.tup [aa, bb]) v := rv
  unfold Rep at rv'
  obtain ⟨tp, us, rfl, ht, hus⟩ := rv'
  obtain ⟨u1, us1, rfl, r1, hus⟩ := repL_cons.mp hus
  obtain ⟨u2, us2, rfl, r2, hus⟩ := repL_cons.mp hus
  have en := repL_nil.mp hus
  subst en
  obtain ⟨hm, a, vs1, ea, hg1, hu1, hc1⟩ := lookL_ok o1.rel e2
  have hpos : 0 < vs1.length := by rw [← hc1.length]; exact of_decide_eq_true (guard_eq e3)
  refine ⟨tp, [u1, u2], rfl, o1.rel.sub.t ht, rfl, u1, [u2], rfl, .ref a, ea, a, vs1, 0, 0, rfl, rfl, hu1, ?_, u2, [], rfl, rfl, ?_⟩
  · unfold ixN
    simp [hpos]
  · have o2 := mut_ok o1 ea hm (cont_l (hc1.set 0 r1)) e4
    exact q _ G1 _ (set_sh o2.s r2 e5)
end
end BR
set_option Elab.async false
set_option linter.all false
set_option maxRecDepth 100000
set_option maxHeartbeats 4000000
namespace BR
open PySem L2

/-! ## dicts -/
def replD : List Key → List D → Key → D → List D
  | k' :: ks, x :: ds, k, d => (if k' = k then d else x) :: replD ks ds k d
  | [], ds, _, _ => ds
  | _ :: _, [], _, _ => []
def putDk (ks : List Key) (k : Key) : List Key := if hasK ks k = true then ks else ks ++ [k]
def putDx (ks : List Key) (ds : List D) (k : Key) (d : D) : List D := if hasK ks k = true then replD ks ds k d else ds ++ [d]
section
variable {K : PySem.W.Frag} {G : Hp}
theorem replD_rep {k : Key} {d : D} {v : V} (hv : Rep K G d v) : ∀ {kvs : List (Key × V)} {ds : List D}, RepL K G ds (kvs.map (·.2)) → RepL K G (replD (kvs.map (·.1)) ds k d) ((kvs.map (fun kv => if kv.1 = k then (kv.1, v) else kv)).map (·.2))
  | [], ds, h => by
    have := RepL.length h
    cases ds with
    | nil => exact h
    | cons => cases this
  | p :: kvs, ds, h => by
    cases ds with
    | nil => have := RepL.length h; cases this
    | cons x ds =>
      obtain ⟨v1, vs1, e1, h1, h2⟩ := repL_cons.mp h
      have e2 : p.2 = v1 ∧ kvs.map (·.2) = vs1 := by simpa using e1
      obtain ⟨rfl, rfl⟩ := e2
      show RepL K G ((if p.1 = k then d else x) :: replD (kvs.map (·.1)) ds k d) ((if p.1 = k then (p.1, v) else p).2 :: _)
      refine .cons ?_ (replD_rep hv h2)
      by_cases e : p.1 = k
      · rw [if_pos e, if_pos e]; exact hv
      · rw [if_neg e, if_neg e]; exact h1
theorem putD_rep {k : Key} {d : D} {v : V} {kvs : List (Key × V)} {ds : List D} (h : RepL K G ds (kvs.map (·.2))) (hv : Rep K G d v) : (putK kvs k v).map (·.1) = putDk (kvs.map (·.1)) k ∧ RepL K G (putDx (kvs.map (·.1)) ds k d) ((putK kvs k v).map (·.2)) := by
  have hh : hasK (kvs.map (·.1)) k = (kvs.any fun kv => decide (kv.1 = k)) := by simp [hasK, List.any_map, Function.comp_def]
  unfold putK putDk putDx
  rw [hh]
  by_cases e : (kvs.any fun kv => decide (kv.1 = k)) = true
  · rw [if_pos e, if_pos e, if_pos e]
    refine ⟨?_, replD_rep hv h⟩
    rw [List.map_map]
    apply List.map_congr_left
    intro p _
    show (if p.1 = k then (p.1, v) else p).1 = p.1
    split <;> rfl
  · rw [if_neg e, if_neg e, if_neg e]
    refine ⟨by simp, ?_⟩
    rw [List.map_append]
    exact h.append (.cons hv .nil)
end
section
variable {X : Cx} {E : WX} {e o k : Expr} {f fo fk : EF} {pos pos' spos apos cpos : Pos} {x : Str} {i : Nat}
@[simp] def asKey (h : Hd) : Option Key := match h with
  | .val d => keyD d
  | _ => none
theorem asKey_v {K : PySem.W.Frag} {Hs G H : Hp} {σ : St} {ρ : S} {h : Hd} {v : V} {kk : Key} (hh : Hold K Hs G H σ ρ h v) (e : asKey h = some kk) : v = kV kk := by
  cases h with
  | val d => exact keyD_v (H := H) (.inl hh) e
  | _ => cases e
/-- x[k] = e, x an owned dict -/
@[simp] def sPutD (i : Nat) (fk f : EF) : SF := fun ρ => eV f ρ >>= fun z => ofO (lookDic z.2 i) >>= fun _ => fk z.2 >>= fun y => ofO (asKey y.1) >>= fun k => ofO (lookDic y.2 i) >>= fun c => ofO (guard (decide (c.1.length < sizeLine))) >>= fun _ => ofO (updSl y.2 i (.dic (putDk c.1 k) (putDx c.1 c.2 k z.1))) >>= fun ρ2 => .ok (.nx, ρ2)
theorem st_putD (hu : X.A.units + 1 < cLine) (hN : X.N[i]? = some x) (hv : Vis X.env.scope x) (h : PR X E e f) (hk : PR X E k fk) (hd : (x == ("__debug__" : Str)) = false := by decide) (hcd : (x == ("__classdict__" : Str)) = false := by decide)
    (hs : swapsWithSole [.Subscript (.Name x pos') k spos] e pos.line X.env = pure false := by rfl) (hw : swappedStores [.Subscript (.Name x pos') k spos] e X.env = pure none := by rfl)
    (h1 : (assignEach [.Subscript (.Name x pos') k spos] X.env).map (·.2) = [assign (.Subscript (.Name x pos') k spos) X.env] := by rfl)
    (ha : ∀ v, assign (.Subscript (.Name x pos') k spos) X.env v = (do
      let ov ← holding [v] (eval (.Name x pos') X.env)
      let iv ← holding [v, ov] (eval k X.env)
      standAt spos
      holding [v, ov, iv] (setItem ov iv v)
      release [v, ov, iv] []) := by intro _; rfl) :
    PSt X E (.Assign [.Subscript (.Name x pos') k spos] e pos) (sPutD i fk f) := by
  obtain ⟨t, pe, s⟩ := h.v.ex
  obtain ⟨tk, pk, sk⟩ := hk.ex
  refine ⟨_, ps_asg pe (pg_sub (pe_var (i := i) hN hv hd hcd) pk (set_dict hu) ha) hs hw h1, fun G H σ ρ r Dn hw => s G H σ ρ r _ (hw.bind.mono (fun z _ q v G1 H1 o1 rv => ?_) fun _ _ q => q)⟩
  obtain ⟨⟨ks0, ds0⟩, q0, q⟩ := q.opt
  obtain ⟨_, a, vs0, ea, hg0, hu0, _⟩ := lookDic_ok o1.rel q0
  refine ⟨.ref a, ea, sk G1 H1 σ z.2 o1.rel _ (q.bind.mono (fun y _ q2 vk G2 H2 o2 hk2 => ?_) fun _ _ q2 => q2.step o1)⟩
  obtain ⟨kk, e1, q3⟩ := q2.opt
  obtain ⟨⟨ks, ds⟩, e2, q4⟩ := q3.opt
  obtain ⟨_, e3, q5⟩ := q4.opt
  obtain ⟨ρ2, e4, q6⟩ := q5.opt
  have hk3 := asKey_v hk2 e1
  obtain ⟨hm, a', kvs, ea', hg1, hu1, hks, hc1⟩ := lookDic_ok o2.rel e2
  rw [ea] at ea'; cases ea'
  subst hks
  obtain ⟨p1, p2⟩ := putD_rep (k := kk) hc1 (Rep.mono o2.stp.gg _ rv)
  refine ⟨a, _, rfl, .inl ⟨kvs, kk, hu1, hk3, by have := of_decide_eq_true (guard_eq e3); rw [List.length_map] at this; exact this, rfl⟩, ?_⟩
  exact q6 σ G2 _ (mut_ok (o1.trans o2) ea hm (cont_d p1 p2) e4).s
/-- {} -/
@[simp] def eDic0 : EF := fun ρ => .ok (.tmp (.dic [] []), ρ)
theorem pr_dic0 : PR X E (.Dict [] [] pos) eDic0 := by
  refine ⟨_, pe_dnewK, fun G H σ ρ r Q hw p hp => ?_⟩
  exact hw _ G _ (.new r hp) ⟨p, rfl, ⟨r.sub.none hp, _, upd_same, [], rfl, rfl, .nil⟩, hp, fun z => (r.adsH (r.ads_new hp z)).1 hp⟩
/-- {k: e}, k and e immediate -/
@[simp] def eDic1 (kc vc : D) : EF := fun ρ => ofO (keyD kc) >>= fun k => .ok (.tmp (.dic [k] [vc]), ρ)
theorem pr_dic1 {kc vc : D} {wk wv : V} (hk : PE X k (tC wk)) (he : PE X e (tC wv)) (rk : ∀ G, Rep X.K G kc wk) (re : ∀ G, Rep X.K G vc wv) : PR X E (.Dict [some k] [e] pos) (eDic1 kc vc) := by
  refine ⟨_, pe_disp (pps_cons hk he pps_nil) rfl rfl (by simp) (by simp), fun G H σ ρ r Q hw p hp => ?_⟩
  obtain ⟨kk, ek, hw⟩ := hw.opt
  have hkv : wk = kV kk := keyD_v (H := H) (.inl (rk G)) ek
  refine ⟨upd_same, [(kk, wv)], by rw [hkv]; rfl, by simp, ?_⟩
  have : upd (upd H p (.dK [])) p (.dK (mergeK [] [(kk, wv)])) = upd H p (.dK [(kk, wv)]) := by
    funext b
    unfold upd
    by_cases hb : b = p
    · simp [hb]; rfl
    · simp [hb]
  rw [this]
  exact hw _ G _ (.new r hp) ⟨p, rfl, ⟨r.sub.none hp, _, upd_same, [(kk, wv)], rfl, rfl, .cons (re G) .nil⟩, hp, fun z => (r.adsH (r.ads_new hp z)).1 hp⟩
/-- o.get(k, e) -/
@[simp] def asDic : D → Option (List Key × List D)
  | .dic ks ds => some (ks, ds)
  | _ => none
theorem asDic_eq {d : D} {c : List Key × List D} (h : asDic d = some c) : d = .dic c.1 c.2 := by cases d <;> cases h; rfl
@[simp] def eDGet2 (fo fk f : EF) : EF := fun ρ => fo ρ >>= fun z => ofO (look z.1 z.2) >>= fun d0 => ofO (asDic d0) >>= fun _ => fk z.2 >>= fun y => eV f y.2 >>= fun u => ofO (look z.1 u.2) >>= fun d => ofO (asDic d) >>= fun c => ofO (asKey y.1) >>= fun k => .ok (.val ((getK c.1 c.2 k).getD u.1), u.2)
theorem pr_dget2 (hu : X.A.units + 1 < cLine) (ho : PR X E o fo) (hk : PR X E k fk) (h : PR X E e f) (m : M2 X o "get" apos k e cpos) : PR X E (.Call (.Attribute o "get" apos) [k, e] [] cpos) (eDGet2 fo fk f) := by
  obtain ⟨to, po, so⟩ := ho.ex
  obtain ⟨tk, pk, sk⟩ := hk.ex
  obtain ⟨t, pe, s⟩ := h.v.ex
  refine ⟨_, pe_dget2 hu po pk pe m, fun G H σ ρ r Q hw => so G H σ ρ r _ (hw.bind.mono (fun z _ q v G1 H1 o1 h1 => ?_) fun _ _ q => q)⟩
  obtain ⟨d0, ed0, q⟩ := q.opt
  obtain ⟨c0, ec0, q⟩ := q.opt
  have r0 := hold_look o1.rel h1 ed0
  rw [asDic_eq ec0] at r0
  obtain ⟨a, kvs0, rfl, rd0, _⟩ := r0.dic o1.rel.sub
  refine ⟨a, rfl, .inl ⟨kvs0, rd0⟩, sk G1 H1 σ z.2 o1.rel _ (q.bind.mono (fun y _ q2 vk G2 H2 o2 h2 => ?_) fun _ _ q2 => q2.step o1)⟩
  refine s G2 H2 σ y.2 o2.rel _ (q2.bind.mono (fun u _ q3 w G3 H3 o3 h3 => ?_) fun _ _ q3 => q3.step (o1.trans o2))
  obtain ⟨d, ed, q3⟩ := q3.opt
  obtain ⟨c, ec, q3⟩ := q3.opt
  obtain ⟨kk, ekk, q3⟩ := q3.opt
  have r3 := hold_look o3.rel (h1.pers (o2.trans o3)) ed
  rw [asDic_eq ec] at r3
  obtain ⟨a', kvs, ea, rd, hks, hds⟩ := r3.dic o3.rel.sub
  cases ea
  have hkv := asKey_v h2 ekk
  refine ⟨valV kvs kk, .inl ⟨kvs, kk, rd, hkv, rfl⟩, q3 _ G3 H3 ((o1.trans o2).trans o3) ?_⟩
  rw [← hks]
  cases eg : getK (kvs.map (·.1)) c.2 kk with
  | some d1 =>
    obtain ⟨v1, ev1, rv1⟩ := getK_rep hds eg
    rw [ev1]
    exact rv1
  | none =>
    rw [getK_none (by rw [hds.length, List.length_map]) eg]
    exact h3
end
end BR
set_option Elab.async false
set_option linter.all false
set_option maxRecDepth 100000
set_option maxHeartbeats 4000000
namespace BR
open PySem L2

/-! ## a, b = x, y -/
@[simp] def normH : Hd → S → Option (Hd × S)
  | .val d, ρ => some (.val d, ρ)
  | .tmp d, ρ => some (.tmp d, ρ)
  | .tpd t, ρ => some (.val t.d, ρ)
  | .sub _ _, _ => none
  | .slot i, ρ => (share (.slot i) ρ).map fun z => (.val z.1, z.2)
def notSlot : Hd → Prop
  | .slot _ => False
  | .tpd _ => False
  | .sub _ _ => False
  | _ => True
def tmpV : Hd → V → List V
  | .tmp _, v => [v]
  | _, _ => []
inductive HoldT (K : PySem.W.Frag) (Hs G H : Hp) (σ : St) (ρ : S) : List Hd → List V → List V → Prop where
  | nil : HoldT K Hs G H σ ρ [] [] []
  | cons {h : Hd} {hs : List Hd} {v : V} {vs ts : List V} : notSlot h → Hold K Hs G H σ ρ h v → HoldT K Hs G H σ ρ hs vs ts → (∀ d, h = .tmp d → v ∉ ts) → HoldT K Hs G H σ ρ (h :: hs) (v :: vs) (tmpV h v ++ ts)
section
variable {K : PySem.W.Frag} {Hs Hs' G H G1 H1 : Hp} {σ : St} {ρ ρ1 : S}
theorem HoldT.pers (o : Out K G H σ ρ G1 H1 ρ1) {hs : List Hd} {vs ts : List V} (h : HoldT K Hs G H σ ρ hs vs ts) : HoldT K Hs G1 H1 σ ρ1 hs vs ts := by
  induction h with
  | nil => exact .nil
  | cons a b _ d ih => exact .cons a (b.pers o) ih d
theorem HoldT.back (k : ∀ b, Hs b = none → Hs' b = none) {hs : List Hd} {vs ts : List V} (h : HoldT K Hs G H σ ρ hs vs ts) : HoldT K Hs' G H σ ρ hs vs ts := by
  induction h with
  | nil => exact .nil
  | cons a b _ d ih => exact .cons a (b.back k) ih d
theorem HoldT.fresh {hs : List Hd} {vs ts : List V} (h : HoldT K Hs G H σ ρ hs vs ts) {p : Addr} (hp : V.ref p ∈ ts) : Hs p = none := by
  induction h with
  | nil => cases hp
  | @cons h hs v vs ts a b _ d ih =>
    rcases List.mem_append.mp hp with z | z
    · cases h with
      | tmp d' =>
        have : V.ref p = v := by simpa [tmpV] using z
        subst this
        obtain ⟨p', e, _, h4, _⟩ := b
        cases e
        exact h4
      | _ => simp [tmpV] at z
    · exact ih z
end
def SndP (K : PySem.W.Frag) (E : WX) (t : TA) (f : S → R (List Hd × S)) : Prop := ∀ (G H : Hp) (σ : St) (ρ : S), Rel K G H σ ρ → ∀ Q : List V → Hp → Prop,
  Wp (f ρ) (fun z => ∀ vs ts G' H', Out K G H σ ρ G' H' z.2 → HoldT K H G' H' σ z.2 z.1 vs ts → Q vs H') (ExE K E G H σ ρ) → t σ H Q
structure PPr (X : Cx) (E : WX) (es : List Expr) (f : S → R (List Hd × S)) : Prop where
  ex : ∃ t, PA X es t ∧ SndP X.K E t f
@[simp] def pNil : S → R (List Hd × S) := fun ρ => .ok ([], ρ)
@[simp] def pCons (f : EF) (g : S → R (List Hd × S)) : S → R (List Hd × S) := fun ρ => f ρ >>= fun z => ofO (normH z.1 z.2) >>= fun u => g u.2 >>= fun y => .ok (u.1 :: y.1, y.2)
section
variable {X : Cx} {E : WX} {e : Expr} {es : List Expr} {f : EF} {g : S → R (List Hd × S)}
theorem norm_ok {K : PySem.W.Frag} {Gs Hs G H : Hp} {σ : St} {ρs ρ : S} {h : Hd} {v : V} {u : Hd × S} (o : Out K Gs Hs σ ρs G H ρ) (hh : Hold K Hs G H σ ρ h v) (e : normH h ρ = some u) : ∃ G', Out K Gs Hs σ ρs G' H u.2 ∧ Hold K Hs G' H σ u.2 u.1 v ∧ notSlot u.1 := by
  cases h with
  | val d => cases e; exact ⟨G, o, hh, True.intro⟩
  | tmp d => cases e; exact ⟨G, o, hh, True.intro⟩
  | tpd t =>
    cases e
    obtain ⟨G', o', _, rp⟩ := share_ok (hd := .tpd t) o hh rfl
    exact ⟨G', o', rp, True.intro⟩
  | sub i p => cases e
  | slot i =>
    have e' : (share (.slot i) ρ).map (fun z => (Hd.val z.1, z.2)) = some u := e
    cases q : share (.slot i) ρ with
    | none => rw [q] at e'; cases e'
    | some z =>
      rw [q] at e'; cases e'
      obtain ⟨G', o', _, rp⟩ := share_ok o hh q
      exact ⟨G', o', rp, True.intro⟩
theorem pp_nil : PPr X E [] pNil := ⟨_, pa_nil, fun G H σ ρ r Q hw => hw [] [] G H (.refl r) .nil⟩
theorem pp_cons (h1 : PR X E e f) (h2 : PPr X E es g) (hs : starEach (e :: es) X.env = (false, eval e X.env) :: starEach es X.env := by rfl) : PPr X E (e :: es) (pCons f g) := by
  obtain ⟨t, pe, s⟩ := h1.ex
  obtain ⟨t2, pa, s2⟩ := h2.ex
  refine ⟨_, pa_cons pe pa hs, fun G H σ ρ r Q hw => s G H σ ρ r _ (hw.bind.mono (fun z _ q v G1 H1 o1 hh => ?_) fun _ _ q => q)⟩
  obtain ⟨u, eu, q⟩ := q.opt
  obtain ⟨G', o, h, ns⟩ := norm_ok o1 hh eu
  refine s2 G' H1 σ u.2 o.rel _ (q.bind.mono (fun y _ q2 vs ts G2 H2 o2 h2 => ?_) fun _ _ q2 => q2.step o)
  refine q2 (v :: vs) _ G2 H2 (o.trans o2) (.cons ns (h.pers o2) (h2.back o.stp.thr) fun d ed hm => ?_)
  rw [ed] at h
  obtain ⟨p, rfl, ⟨_, w, hw1, _⟩, _⟩ := h
  have := h2.fresh hm
  rw [hw1] at this; cases this
end
@[simp] def putAll : List Nat → List Hd → S → Option S
  | [], [], ρ => some ρ
  | i :: is, h :: hs, ρ => (putS i h ρ).bind fun ρ' => putAll is hs ρ'
  | [], _ :: _, _ => none
  | _ :: _, [], _ => none
def setAll : List Nat → List V → St → St
  | i :: is, v :: vs, σ => setAll is vs (σ.set i (some v))
  | [], _, σ => σ
  | _ :: _, [], σ => σ
section
variable {K : PySem.W.Frag} {Gs Hs G H : Hp} {σ σs : St} {ρ ρ' ρs : S}
theorem putAll_ok : ∀ {is : List Nat} {hs : List Hd} {vs ts : List V} {σ : St} {ρ : S}, OutS K Gs Hs σs ρs G H σ ρ → HoldT K Hs G H σ ρ hs vs ts → putAll is hs ρ = some ρ' → OutS K Gs Hs σs ρs G H (setAll is vs σ) ρ'
  | [], [], _, _, _, _, o, h, e => by cases e; exact o
  | i :: is, [], _, _, _, _, o, h, e => by cases e
  | [], h0 :: hs, _, _, _, _, o, h, e => by cases e
  | i :: is, h0 :: hs, _, _, σ, ρ, o, .cons (v := v) (vs := vs) (ts := ts) ns hh ht nd, e => by
    have e' : ((putS i h0 ρ).bind fun ρ' => putAll is hs ρ') = some ρ' := e
    cases q : putS i h0 ρ with
    | none => rw [q] at e'; cases e'
    | some ρ1 =>
      rw [q] at e'
      -- the first name gets its value
      have key : OutS K Gs Hs σs ρs G H (σ.set i (some v)) ρ1 ∧ ∀ p, V.ref p ∈ ts → ads H (σ.set i (some v)) ρ1 p → ads H σ ρ p := by
        have dpk : ∀ (s : Sl) (w : V) (p : Addr), (∀ t, s ≠ .dp t) → i < ρ.length → dpa H (σ.set i (some w)) (ρ.set i (some s)) p → dpa H σ ρ p := fun s w p hs hi ⟨j, t, u, q1, q2, q3⟩ => by
          by_cases hj : i = j
          · subst hj
            rw [List.getElem?_set_self hi] at q1; cases q1
            exact absurd rfl (hs t)
          · rw [List.getElem?_set_ne hj] at q1 q2
            exact ⟨j, t, u, q1, q2, q3⟩
        cases h0 with
        | slot j => exact ns.elim
        | tpd t => exact ns.elim
        | sub j p => exact ns.elim
        | val d =>
          have q' : setS i (.sh d) ρ = some ρ1 := q
          refine ⟨set_sh o hh q', fun p _ hz => ?_⟩
          obtain ⟨hi, rfl, _⟩ := setS_eq q'
          rcases hz with ⟨j, m, ej⟩ | hz
          · obtain ⟨nj, m⟩ := isMut_set m fun d => ⟨nofun, nofun⟩
            rw [List.getElem?_set_ne (Ne.symm nj)] at ej
            exact .inl ⟨j, m, ej⟩
          · exact .inr (dpk _ _ p (fun t z => by cases z) hi hz)
        | tmp d =>
          have q' : setS i (.own d) ρ = some ρ1 := q
          obtain ⟨p0, rfl, h1, h2, h3⟩ := hh
          refine ⟨set_own o h1 h2 h3 q', fun p hp hz => ?_⟩
          obtain ⟨hi, rfl, _⟩ := setS_eq q'
          rcases hz with ⟨j, m, ej⟩ | hz
          rotate_left
          · exact .inr (dpk _ _ p (fun t z => by cases z) hi hz)
          have hσ : i < σ.length := by rw [← o.rel.len]; exact hi
          by_cases nj : j = i
          · subst nj
            rw [List.getElem?_set_self hσ] at ej
            cases ej
            exact absurd hp (nd d rfl)
          · rw [List.getElem?_set_ne (Ne.symm nj)] at ej
            obtain ⟨d', m⟩ := m
            rw [List.getElem?_set_ne (Ne.symm nj)] at m
            exact .inl ⟨j, ⟨d', m⟩, ej⟩
      have ht2 : HoldT K Hs G H (σ.set i (some v)) ρ1 hs vs ts := by
        have gen : ∀ {hs : List Hd} {vs ts' : List V}, HoldT K Hs G H σ ρ hs vs ts' → (∀ x ∈ ts', x ∈ ts) → HoldT K Hs G H (σ.set i (some v)) ρ1 hs vs ts' := by
          intro hs vs ts' z
          induction z with
          | nil => exact fun _ => .nil
          | @cons h hs v' vs ts1 a b c d ih =>
            intro sub
            refine .cons a ?_ (ih fun x hx => sub x (List.mem_append_right _ hx)) d
            cases h with
            | slot j => exact a.elim
            | tpd t => exact a.elim
            | sub j p => exact a.elim
            | val d => exact b
            | tmp d =>
              obtain ⟨p, rfl, g1, g2, g3⟩ := b
              exact ⟨p, rfl, g1, g2, fun z => g3 (key.2 p (sub _ (List.mem_append_left _ (by simp [tmpV]))) z)⟩
        exact gen ht fun _ h => h
      exact putAll_ok (is := is) (hs := hs) key.1 ht2 e'
end
section
variable {X : Cx} {E : WX} {a b c : Expr} {f : S → R (List Hd × S)} {pos : Pos} {i j l : Nat} {x y z : Str} {px py pz pt pt2 : Pos} {kt k2 : Nat}
@[simp] def sPar (is : List Nat) (f : S → R (List Hd × S)) : SF := fun ρ => f ρ >>= fun z => ofO (putAll is z.1 z.2) >>= fun ρ' => .ok (.nx, ρ')
theorem st_par (hc : X.calm = true) (hN : X.N.Nodup) (hi : X.N[i]? = some x) (hj : X.N[j]? = some y) (hij : i ≠ j)
    (hx : X.env.scope.names.lookup x = some .local) (hy : X.env.scope.names.lookup y = some .local) (ha : PPr X E [a, b] f)
    (hw : swappedStores [.Tuple [.Name x px, .Name y py] kt pt] (.Tuple [a, b] k2 pt2) X.env = pure (some [x, y]))
    (hs : swapsWithSole [.Tuple [.Name x px, .Name y py] kt pt] (.Tuple [a, b] k2 pt2) pos.line X.env = pure false := by rfl) :
    PSt X E (.Assign [.Tuple [.Name x px, .Name y py] kt pt] (.Tuple [a, b] k2 pt2) pos) (sPar [i, j] f) := by
  obtain ⟨t, pe, s⟩ := ha.ex
  refine ⟨_, ps_par hc hN hi hj hij hx hy pe hw hs, fun G H σ ρ r Dn hw => s G H σ ρ r _ (hw.bind.mono (fun z _ q vs ts G1 H1 o1 h1 => ?_) fun _ _ q => q)⟩
  obtain ⟨ρ', e1, qq⟩ := q.opt
  have o2 := putAll_ok o1.s h1 e1
  obtain ⟨hs, ρ1⟩ := z
  cases h1 with
  | nil => cases e1
  | cons a1 b1 c1 d1 =>
    cases c1 with
    | nil =>
      simp only [putAll] at e1
      cases hp : putS i _ ρ1 with
      | none => rw [hp] at e1; cases e1
      | some ρ2 => rw [hp] at e1; cases e1
    | cons a2 b2 c2 d2 =>
      cases c2 with
      | nil => exact ⟨_, _, rfl, qq _ G1 H1 o2⟩
      | cons a3 b3 c3 d3 =>
        exfalso
        simp only [putAll] at e1
        cases hp : putS i _ ρ1 with
        | none => rw [hp] at e1; cases e1
        | some ρ2 =>
          rw [hp] at e1
          simp only [Option.bind] at e1
          split at e1 <;> cases e1
theorem st_par3 (hc : X.calm = true) (hN : X.N.Nodup) (hi : X.N[i]? = some x) (hj : X.N[j]? = some y) (hl : X.N[l]? = some z) (hij : i ≠ j) (hil : i ≠ l) (hjl : j ≠ l)
    (hx : X.env.scope.names.lookup x = some .local) (hy : X.env.scope.names.lookup y = some .local) (hz : X.env.scope.names.lookup z = some .local) (ha : PPr X E [a, b, c] f)
    (hw : swappedStores [.Tuple [.Name x px, .Name y py, .Name z pz] kt pt] (.Tuple [a, b, c] k2 pt2) X.env = pure (some [x, y, z]))
    (hs : swapsWithSole [.Tuple [.Name x px, .Name y py, .Name z pz] kt pt] (.Tuple [a, b, c] k2 pt2) pos.line X.env = pure false := by rfl) :
    PSt X E (.Assign [.Tuple [.Name x px, .Name y py, .Name z pz] kt pt] (.Tuple [a, b, c] k2 pt2) pos) (sPar [i, j, l] f) := by
  obtain ⟨t, pe, s⟩ := ha.ex
  refine ⟨_, ps_par3 hc hN hi hj hl hij hil hjl hx hy hz pe hw hs, fun G H σ ρ r Dn hw => s G H σ ρ r _ (hw.bind.mono (fun z _ q vs ts G1 H1 o1 h1 => ?_) fun _ _ q => q)⟩
  obtain ⟨ρ', e1, qq⟩ := q.opt
  have o2 := putAll_ok o1.s h1 e1
  have hlen : ∀ {is : List Nat} {hs : List Hd} {ρ : S}, putAll is hs ρ = some ρ' → is.length = hs.length := by
    intro is
    induction is with
    | nil => intro hs ρ e; cases hs with
      | nil => rfl
      | cons => cases e
    | cons i is ih => intro hs ρ e; cases hs with
      | nil => cases e
      | cons h hs =>
        have e' : ((putS i h ρ).bind fun ρ' => putAll is hs ρ') = some ρ' := e
        cases hp : putS i h ρ with
        | none => rw [hp] at e'; cases e'
        | some ρ2 => rw [hp] at e'; exact congrArg Nat.succ (ih e')
  have hl3 := hlen e1
  obtain ⟨hs, ρ1⟩ := z
  cases h1 with
  | nil => cases hl3
  | cons a1 b1 c1 d1 =>
    cases c1 with
    | nil => cases hl3
    | cons a2 b2 c2 d2 =>
      cases c2 with
      | nil => cases hl3
      | cons a3 b3 c3 d3 =>
        cases c3 with
        | nil => exact ⟨_, _, _, rfl, qq _ G1 H1 o2⟩
        | cons => cases hl3
/-- a target gets a shared value -/
@[simp] def sAsgT (g : D → S → Option S) (fe : EF) : SF := fun ρ => eV fe ρ >>= fun z => ofO (g z.1 z.2) >>= fun ρ' => .ok (.nx, ρ')
theorem st_asgT {tv : List Nat} {tg e : Expr} {g : D → S → Option S} {fe : EF} (hg : PTg X tv tg g) (h : PR X E e fe) (hs : swapsWithSole [tg] e pos.line X.env = pure false := by rfl) (hw : swappedStores [tg] e X.env = pure none := by rfl)
    (h1 : (assignEach [tg] X.env).map (·.2) = [assign tg X.env] := by rfl) : PSt X E (.Assign [tg] e pos) (sAsgT g fe) := by
  obtain ⟨t, pe, s⟩ := h.v.ex
  obtain ⟨u, pg, sg⟩ := hg.ex
  refine ⟨_, ps_asg pe pg hs hw h1, fun G H σ ρ r Dn hw => s G H σ ρ r _ (hw.bind.mono (fun z _ q v G1 H1 o1 h1 => ?_) fun _ _ q => q)⟩
  obtain ⟨ρ', e1, q⟩ := q.opt
  exact sg G H σ ρ G1 H1 σ z.2 ρ' z.1 v o1.s h1 e1 _ fun σ' o2 _ => q σ' G1 H1 o2
/-- x += e, ints -/
@[simp] def sAug (i : Nat) (op : Int → Int → Int) (fe : EF) : SF := fun ρ => match ρ[i]? with
  | some (some (.sh (.int a))) => fe ρ >>= fun z => ofO (asInt z.1) >>= fun b => ofO (setS i (.sh (.int (op a b))) z.2) >>= fun ρ' => .ok (.nx, ρ')
  | _ => .no
theorem st_aug {op : Operator} {g : Int → Int → Int} {e : Expr} {fe : EF} {pos' : Pos} (hN : X.N.Nodup) (hi : X.N[i]? = some x) (hx : Loc X.env.scope x) (h : PR X E e fe) (ho : PIp X op (ipI g)) (hf : X.fn x = true ∨ X.env.scope.names.lookup x = some .local := by first | exact .inl rfl | exact .inr rfl | assumption) :
    PSt X E (.AugAssign (.Name x pos') op e pos) (sAug i g fe) := by
  obtain ⟨t, pe, s⟩ := h.ex
  refine ⟨_, ps_aug hN hi hx pe ho hf, fun G H σ ρ r Dn hw => ?_⟩
  unfold sAug at hw
  split at hw
  · rename_i a q
    obtain ⟨v, e1, h⟩ := r.sl i _ q
    unfold Rep at h
    refine ⟨v, e1, s G H σ ρ r _ (hw.bind.mono (fun z _ q v' G1 H1 o1 h1 => ?_) fun _ _ q => q)⟩
    obtain ⟨b, eb, q⟩ := q.opt
    obtain ⟨ρ', e2, q⟩ := q.opt
    rw [asInt_eq eb] at h1
    have h2 : Rep X.K G1 (.int b) v' := h1
    unfold Rep at h2
    exact ⟨a, b, h, h2, q _ G1 H1 (set_sh o1.s rep_int e2)⟩
  · exact hw.elim
end
end BR
set_option Elab.async false
set_option linter.all false
set_option maxRecDepth 100000
set_option maxHeartbeats 4000000
namespace BR
open PySem L2

/-! ## instances -/
@[simp] def fldD : List Str → List D → Str → Option D
  | n :: ns, d :: ds, f => if f = n then some d else fldD ns ds f
  | [], _, _ => none
  | _ :: _, [], _ => none
@[simp] def setFn : List Str → Str → List Str
  | [], f => [f]
  | n :: ns, f => if n = f then n :: ns else n :: setFn ns f
@[simp] def setFx : List Str → List D → Str → D → List D
  | n :: ns, x :: ds, f, d => if n = f then d :: ds else x :: setFx ns ds f d
  | [], _, _, d => [d]
  | _ :: _, [], _, _ => []
@[simp] def hasF (ns : List Str) (f : Str) : Bool := ns.any fun n => decide (n = f)
section
variable {K : PySem.W.Frag} {G H : Hp}
theorem fldD_rep {f : Str} : ∀ {fs : List (Str × V)} {ds : List D} {d : D}, RepL K G ds (fs.map (·.2)) → fldD (fs.map (·.1)) ds f = some d → ∃ v, fs.lookup f = some v ∧ Rep K G d v
  | [], ds, d, h, e => by cases e
  | p :: fs, ds, d, h, e => by
    cases ds with
    | nil => have := RepL.length h; cases this
    | cons x ds =>
      obtain ⟨v1, vs1, e1, h1, h2⟩ := repL_cons.mp h
      have e2 : p.2 = v1 ∧ fs.map (·.2) = vs1 := by simpa using e1
      obtain ⟨rfl, rfl⟩ := e2
      have e' : (if f = p.1 then some x else fldD (fs.map (·.1)) ds f) = some d := e
      obtain ⟨n, v⟩ := p
      rw [List.lookup_cons]
      by_cases hf : f = n
      · rw [if_pos hf] at e'
        cases e'
        subst hf
        exact ⟨v, by simp, h1⟩
      · rw [if_neg hf] at e'
        obtain ⟨w, h3, h4⟩ := fldD_rep h2 e'
        have : (f == n) = false := by simpa using hf
        rw [this]
        exact ⟨w, h3, h4⟩
theorem hasF_none {f : Str} : ∀ {fs : List (Str × V)}, hasF (fs.map (·.1)) f = false → fs.lookup f = none
  | [], _ => rfl
  | (n, v) :: fs, h => by
    have h' : (decide (n = f) || hasF (fs.map (·.1)) f) = false := h
    rw [Bool.or_eq_false_iff] at h'
    rw [List.lookup_cons]
    have : (f == n) = false := by
      have := h'.1
      simp at this
      simpa using fun z => this z.symm
    rw [this]
    exact hasF_none h'.2
theorem putF_rep {f : Str} {d : D} {v : V} (hv : Rep K G d v) : ∀ {fs : List (Str × V)} {ds : List D}, RepL K G ds (fs.map (·.2)) → (putF f v fs).map (·.1) = setFn (fs.map (·.1)) f ∧ RepL K G (setFx (fs.map (·.1)) ds f d) ((putF f v fs).map (·.2))
  | [], ds, h => ⟨rfl, .cons hv .nil⟩
  | (n, x) :: fs, ds, h => by
    cases ds with
    | nil => have := RepL.length h; cases this
    | cons y ds =>
      obtain ⟨v1, vs1, e1, h1, h2⟩ := repL_cons.mp h
      have e2 : x = v1 ∧ fs.map (·.2) = vs1 := by simpa using e1
      obtain ⟨rfl, rfl⟩ := e2
      obtain ⟨i1, i2⟩ := putF_rep (f := f) hv h2
      show (if n = f then (n, v) :: fs else (n, x) :: putF f v fs).map (·.1) = (if n = f then n :: fs.map (·.1) else n :: setFn (fs.map (·.1)) f) ∧ RepL K G (if n = f then d :: ds else y :: setFx (fs.map (·.1)) ds f d) ((if n = f then (n, v) :: fs else (n, x) :: putF f v fs).map (·.2))
      by_cases hf : n = f
      · rw [if_pos hf, if_pos hf, if_pos hf]
        exact ⟨rfl, .cons hv h2⟩
      · rw [if_neg hf, if_neg hf, if_neg hf]
        exact ⟨by rw [List.map_cons, i1], .cons h1 i2⟩
end
@[simp] def asIns (C : Addr) : D → Option (List Str × List D)
  | .ins C' ns ds => if C' = C then some (ns, ds) else none
  | _ => none
theorem asIns_eq {C : Addr} {d : D} {c : List Str × List D} (h : asIns C d = some c) : d = .ins C c.1 c.2 := by
  cases d with
  | ins C' ns ds =>
    have h' : (if C' = C then some (ns, ds) else none) = some c := h
    split at h'
    · rename_i e; cases h'; rw [e]
    · cases h'
  | _ => cases h
section
variable {X : Cx} {E : WX} {e o k : Expr} {f fo fk : EF} {pos pos' spos apos cpos p : Pos} {x m fl : Str} {i : Nat} {C : Addr} {es : List Expr}
/-- o.f -/
@[simp] def eFld (C : Addr) (fl : Str) (fo : EF) : EF := fun ρ => fo ρ >>= fun z => ofO (look z.1 z.2) >>= fun d => ofO (asIns C d) >>= fun c => ofO (fldD c.1 c.2 fl) >>= fun x => .ok (.val x, z.2)
theorem pr_fld (c : Cls X.K C) (n : NoAttr X.K C fl) (h : PR X E o fo) (hb : attributeBase o fl X.env (eval o X.env) = eval o X.env := by rfl) : PR X E (.Attribute o fl pos) (eFld C fl fo) := by
  obtain ⟨t, pe, s⟩ := h.ex
  refine ⟨_, pe_fld pe hb, fun G H σ ρ r Q hw => s G H σ ρ r _ (hw.bind.mono (fun z _ q v G1 H1 o1 h1 => ?_) fun _ _ q => q)⟩
  obtain ⟨d, e1, q1⟩ := q.opt
  obtain ⟨cc, e2, q2⟩ := q1.opt
  obtain ⟨x, e3, q3⟩ := q2.opt
  have rp := hold_look o1.rel h1 e1
  rw [asIns_eq e2] at rp
  obtain ⟨a, dx, fs, rfl, ha, hn, hds⟩ := rp.ins o1.rel.sub
  rw [← hn] at e3
  obtain ⟨w, l, rw'⟩ := fldD_rep hds e3
  exact ⟨a, C, dx, fs, w, rfl, ha, c, n, l, q3 w G1 H1 o1 rw'⟩
/-- self.f = e -/
@[simp] def sFldS (C : Addr) (i : Nat) (fl : Str) (f : EF) : SF := fun ρ => eV f ρ >>= fun z => ofO (lookMu z.2 i) >>= fun d => ofO (asIns C d) >>= fun c => ofO (guard (decide (c.1.length < 1000))) >>= fun _ => ofO (updSl z.2 i (.ins C (setFn c.1 fl) (setFx c.1 c.2 fl z.1))) >>= fun ρ2 => .ok (.nx, ρ2)
theorem st_fld (c : Cls X.K C) (n : NoAttr X.K C fl) (hN : X.N[i]? = some x) (hv : Vis X.env.scope x) (h : PR X E e f) (hd : (x == ("__debug__" : Str)) = false := by decide) (hcd : (x == ("__classdict__" : Str)) = false := by decide)
    (hs : swapsWith e (some (.Attribute (.Name x p) fl pos')) pos.line X.env = pure false := by rfl) : PSt X E (.Assign [.Attribute (.Name x p) fl pos'] e pos) (sFldS C i fl f) := by
  obtain ⟨t, pe, s⟩ := h.v.ex
  refine ⟨_, ps_fld (pe_var (i := i) hN hv hd hcd) pe hs, fun G H σ ρ r Dn hw => s G H σ ρ r _ (hw.bind.mono (fun z _ q v G1 H1 o1 rv => ?_) fun _ _ q => q)⟩
  obtain ⟨d, e1, q1⟩ := q.opt
  obtain ⟨cc, e2, q2⟩ := q1.opt
  obtain ⟨_, e3, q3⟩ := q2.opt
  obtain ⟨ρ2, e4, q4⟩ := q3.opt
  rw [asIns_eq e2] at e1
  obtain ⟨hm, a, ea, hg, u, hu, dx, fs, rfl, hns, hc⟩ := lookMu_ok o1.rel e1
  obtain ⟨p1, p2⟩ := putF_rep (f := fl) rv hc
  rw [hns] at p1 p2
  refine ⟨.ref a, ea, a, C, dx, fs, rfl, hu, c, n, ?_, q4 σ G1 _ (mut_ok o1 ea hm (cont_i p1 p2) e4).s⟩
  have := of_decide_eq_true (guard_eq e3)
  rw [← hns, List.length_map] at this
  exact this
/-- C.f, a constant of the class -/
theorem pr_cval {C : Addr} {mc u : Value} {v : V} {d : D} (r : ClX.CRead X.K C mc) (c : ClX.CVal X.K C mc fl v u) (rd : ∀ G, Rep X.K G d v) (hg : Gl X x) (hm : X.mg x = some (.ref C)) (hd : (x == ("__debug__" : Str)) = false := by decide)
    (hb : attributeBase (.Name x p) fl X.env (eval (.Name x p) X.env) = eval (.Name x p) X.env := by rfl) : PR X E (.Attribute (.Name x p) fl pos) (eK d) :=
  ⟨_, ClX.pe_cval (pe_glob (v := .ref C) hg hm rfl hd) hb, fun G H σ ρ R Q hw => ⟨C, mc, v, u, rfl, r, c, hw v G H (.refl R) (rd G)⟩⟩

/-! ### making -/
variable {F : FT} {kk : Nat} {fa : Addr} {fd : FuncData} {ps : List Str} {ms : List Bool} {own : Bool} {dD : List D} {dvs : List V} {ds : List Value}
@[simp] def eMake (C : Addr) (F : FT) (dD : List D) (g : S → R (List D × S)) : EF := fun ρ => g ρ >>= fun z => raiseAt z.2 (F (.ins C [] [] :: (z.1 ++ dD))) >>= fun r => (match r with
  | (.non, [d]) => .ok (.tmp d, z.2)
  | _ => .no)
def ALen (g : S → R (List D × S)) (n : Nat) : Prop := ∀ ρ z, g ρ = .ok z → z.1.length = n
theorem al_nil : ALen aNil 0 := fun ρ z h => by cases h; rfl
theorem al_cons {f : S → R (D × S)} {g : S → R (List D × S)} {n : Nat} (h : ALen g n) : ALen (aCons f g) (n + 1) := fun ρ z e => by
  have e' : (f ρ >>= fun z => g z.2 >>= fun y => R.ok (z.1 :: y.1, y.2)) = .ok z := e
  cases hf : f ρ with
  | ok a =>
    rw [hf, ok_bind] at e'
    cases hg : g a.2 with
    | ok b => rw [hg, ok_bind] at e'; cases e'; exact congrArg Nat.succ (h _ _ hg)
    | exc _ => rw [hg] at e'; cases e'
    | no => rw [hg] at e'; cases e'
  | exc _ => rw [hf] at e'; cases e'
  | no => rw [hf] at e'; cases e'
theorem argR_sh {K : PySem.W.Frag} {G H : Hp} : ∀ {ds : List D} {vs : List V} {ms : List Bool}, (∀ b ∈ ms, b = false) → ms.length = ds.length → RepL K G ds vs → ArgR K G H ms vs ds []
  | [], vs, ms, hm, hl, h => by
    rw [repL_nil.mp h]
    cases ms with
    | nil => exact .nil
    | cons => cases hl
  | d :: ds, vs, ms, hm, hl, h => by
    obtain ⟨v, vs', rfl, h1, h2⟩ := repL_cons.mp h
    cases ms with
    | nil => cases hl
    | cons b ms =>
      have := hm b List.mem_cons_self
      subst this
      exact .sh h1 (argR_sh (fun c hc => hm c (List.mem_cons_of_mem _ hc)) (Nat.succ.inj hl) h2)
/-- C(e, ..) -/
theorem pr_make {g : S → R (List D × S)} (M : Mk X.K C fa) (Fn : FnG X.prog X.w X.K X.mg X.base (L2.CX X.prog X.w) kk fa fd ps (spF X.K (true :: ms) false F)) (hr : RmG (kk + 1) X.A) (hg : Gl X x) (hm : X.mg x = some (.ref C)) (hb : Binds X.K fd ps ds) (hd : Vals dvs ds) (rd : ∀ G, RepL X.K G dD dvs) (hx : Takes X E)
    (ha : PAs X E (e :: es) g) (hms : ∀ b ∈ ms, b = false := by decide) {n : Nat} (hal : ALen g n) (hml : ms.length = n + dD.length := by rfl) (hdb : (x == ("__debug__" : Str)) = false := by decide) (he : starEach (e :: es) X.env = (false, eval e X.env) :: starEach es X.env := by rfl) (hpl : (backTo pos (starEach es X.env)).any (·.1) = false := by rfl) :
    PR X E (.Call (.Name x p) (e :: es) [] pos) (eMake C F dD g) := by
  obtain ⟨t, pa, s⟩ := ha.ex
  refine ⟨_, pe_makeG (dvs := dvs) M Fn hr hg hm hb hd (fun σ => passAt hx σ) pa hdb he hpl, fun G H σ ρ r Q hw => s G H σ ρ r _ (hw.bind.mono (fun z hz q vs G1 H1 o1 hl => ?_) fun _ _ q => q)⟩
  intro xx dx hx0 hdx hne
  have h1 : upd H1 dx (.own xx) xx = none := by rw [upd_ne (Ne.symm hne)]; exact hx0
  have ob := (Out.new (o := .own xx) o1.rel hdx).trans (Out.new (o := .ins C dx []) (o1.rel.new hdx) h1)
  have gx : G1 xx = none := o1.rel.sub.none hx0
  have nx : ¬ ads H1 σ z.2 xx := fun zz => (o1.rel.adsH zz).1 hx0
  have bN : ∀ a, ads (upd (upd H1 dx (.own xx)) xx (.ins C dx [])) σ z.2 a → ads H1 σ z.2 a := fun a h => o1.rel.ads_new hdx ((o1.rel.new hdx).ads_new h1 h)
  have hA : ∀ b, dpa (upd (upd H1 dx (.own xx)) xx (.ins C dx [])) σ z.2 b → ¬ b ∈ [xx] := fun b hb hm => by
    rw [List.mem_singleton] at hm
    rw [hm] at hb
    exact nx (bN xx (.inr hb))
  have hT : ∀ (b : Addr) {G' H' : Hp}, Stp (fun b => b ∈ [xx]) G1 (upd (upd H1 dx (.own xx)) xx (.ins C dx [])) G' H' → dpa H1 σ z.2 b → H' b = H1 b := fun b G' H' st h => by
    have h0 := (o1.rel.dpaH h).1
    have nb : ¬ b ∈ [xx] := fun zz => by rw [List.mem_singleton] at zz; rw [zz] at h0; exact h0 hx0
    cases e : H1 b with
    | none => exact absurd e h0
    | some u =>
      refine st.keep b u ?_ nb (o1.rel.dpaNT h e)
      rw [upd_ne fun zz => nb (List.mem_singleton.mpr zz), upd_ne fun zz => h0 (by rw [zz]; exact hdx)]
      exact e
  refine ⟨G1, .ins C [] [] :: (z.1 ++ dD), [xx], ob.rel.subT, .io ⟨gx, _, upd_same, dx, [], rfl, rfl, .nil⟩ (by simp) (argR_sh hms (by rw [List.length_append, hal ρ z hz]; exact hml) (hl.append (rd G1))), q.bind.raised.mono (fun rr _ q2 v G' H' sb st ou re => ?_) fun xc _ q2 c d G' H' sb st ex => ?_⟩
  · have rl : Rel X.K G' H' σ z.2 := ob.rel.after st sb rfl hA fun i s e => .inl ⟨e, fun mm b eb zz => by rw [List.mem_singleton] at zz; rw [zz] at eb; exact nx (.inl ⟨i, mm, eb⟩)⟩
    have nN : ∀ a, ads H' σ z.2 a → ads H1 σ z.2 a := fun a h => bN a (ob.rel.afterN st hA Ker.refl.lse a h)
    have oo : Out X.K G1 H1 σ z.2 G' H' z.2 := ⟨rl, ob.stp.trans st fun c hc zz => (by rw [List.mem_singleton] at zz; rw [zz] at hc; exact absurd hx0 hc), .refl, fun a h _ => nN a h, fun b h => hT b st h, o1.rel⟩
    obtain ⟨r1, r2⟩ := rr
    split at q2
    · rename_i d0 e0
      cases e0
      obtain ⟨d1, h1, ow⟩ := ou 0 xx rfl
      cases h1
      have re' : Rep X.K G' .non v := re
      unfold Rep at re'
      exact ⟨re', q2 (.ref xx) G' H' (o1.trans oo) ⟨xx, rfl, ow, o1.stp.thr xx hx0, fun z => nx (nN xx z)⟩⟩
    · exact q2.elim
  · have rl : Rel X.K G' H' σ z.2 := ob.rel.after st sb rfl hA fun i s e => .inl ⟨e, fun mm b eb zz => by rw [List.mem_singleton] at zz; rw [zz] at eb; exact nx (.inl ⟨i, mm, eb⟩)⟩
    have nN : ∀ a, ads H' σ z.2 a → ads H1 σ z.2 a := fun a h => bN a (ob.rel.afterN st hA Ker.refl.lse a h)
    exact q2 c d σ G' H' ⟨rl, (o1.stp.trans ob.stp fun c e zz => o1.nw c zz e).trans st fun cc hc zz => (by rw [List.mem_singleton] at zz; rw [zz] at hc; exact absurd (o1.stp.thr xx hx0) hc), fun a h hz => o1.nw a (nN a h) hz, fun _ _ => rfl⟩ ex
/-! ### methods, properties: the object shared -/
@[simp] def eMeth (C : Addr) (m : Str) (own : Bool) (F : FT) (dD : List D) (fo : EF) (g : S → R (List D × S)) : EF := fun ρ => eV fo ρ >>= fun z => ofO (asIns C z.1) >>= fun c => ofO (guard (!hasF c.1 m)) >>= fun _ => g z.2 >>= fun y => raiseAt y.2 (F (z.1 :: (y.1 ++ dD))) >>= fun r => .ok (if own = true then .tmp r.1 else .val r.1, y.2)
/-- a call with shared arguments -/
theorem call_sh {K : PySem.W.Frag} {G H G1 H1 : Hp} {σ : St} {ρ ρ1 : S} {ds : List D} {vs : List V} {Q : VK} (hms : ∀ b ∈ ms, b = false) (hml : ms.length = ds.length) (o1 : Out K G H σ ρ G1 H1 ρ1) (hl : RepL K G1 ds vs)
    (hw : Wp (raiseAt ρ1 (F ds) >>= fun r => R.ok ((if own = true then Hd.tmp r.1 else Hd.val r.1), ρ1)) (fun z => ∀ v G' H', Out K G H σ ρ G' H' z.2 → Hold K H G' H' σ z.2 z.1 v → Q v H') (ExE K E G H σ ρ)) : spF K ms own F vs H1 Q (fun c d H' => E c d σ H') := by
  refine ⟨G1, ds, [], o1.rel.subT, argR_sh hms hml hl, hw.bind.raised.mono (fun rr _ q2 v G' H' sb st ou re => ?_) fun xc _ q2 c d G' H' sb st ex => ?_⟩
  · have hA : ∀ b, dpa H1 σ ρ1 b → ¬ b ∈ ([] : List Addr) := fun b hb hm => by cases hm
    have rl : Rel K G' H' σ ρ1 := o1.rel.after st sb rfl hA fun i s e => .inl ⟨e, fun mm b eb zz => by cases zz⟩
    have nN := o1.rel.afterN st hA Ker.refl.lse
    have oo : Out K G1 H1 σ ρ1 G' H' ρ1 := ⟨rl, st.mono fun c hc zz => (by cases zz), .refl, fun a h _ => nN a h, fun b h => by
      cases e : H1 b with
      | none => exact absurd e (o1.rel.dpaH h).1
      | some u => exact st.keep b u e (fun zz => absurd zz (by simp)) (o1.rel.dpaNT h e), o1.rel⟩
    refine q2 v G' H' (o1.trans oo) ?_
    cases own with
    | false => exact re
    | true =>
      obtain ⟨pr, rfl, ow, hn⟩ := re
      exact ⟨pr, rfl, ow, o1.stp.thr pr hn, fun z => (o1.rel.adsH (nN pr z)).1 hn⟩
  · have hA : ∀ b, dpa H1 σ ρ1 b → ¬ b ∈ ([] : List Addr) := fun b hb hm => by cases hm
    have rl : Rel K G' H' σ ρ1 := o1.rel.after st sb rfl hA fun i s e => .inl ⟨e, fun mm b eb zz => by cases zz⟩
    have nN := o1.rel.afterN st hA Ker.refl.lse
    exact q2 c d σ G' H' (o1.toX ⟨rl, st.mono fun c hc zz => (by cases zz), fun a h _ => nN a h, fun _ _ => rfl⟩) ex
theorem aNil_ok {ρ : S} {z : List D × S} (h : aNil ρ = .ok z) : z.1 = [] := by cases h; rfl
theorem pr_meth {g : S → R (List D × S)} {pl : Sem Bool} (ho : PR X E o fo) (c : Cls X.K C) (hm : Meth X.K C m fa) (Fn : FnG X.prog X.w X.K X.mg X.base (L2.CX X.prog X.w) kk fa fd ps (spF X.K (false :: ms) own F)) (hr : RmG kk X.A) (hb : Binds X.K fd ps ds) (hd : Vals dvs ds) (rd : ∀ G, RepL X.K G dD dvs) (hx : Takes X E)
    (ha : PAs X E (e :: es) g) (hms : ∀ b ∈ ms, b = false := by decide) {n : Nat} (hal : ALen g n) (hml : ms.length = n + dD.length := by rfl)
    (hst : starEach (e :: es) X.env = (false, eval e X.env) :: starEach es X.env := by rfl) (hpl : (backTo pos (starEach es X.env)).any (·.1) = false := by rfl)
    (ht : eval (.Call (.Attribute o m apos) (e :: es) [] pos) X.env = (do
      let ov ← eval o X.env
      standAt apos.atName
      let (f, first) ← holding [ov] (getMethod ov m pl)
      callWith pos f first (backTo pos (starEach (e :: es) X.env)) (backToKw pos (keywordEach [] X.env))) := by rfl) :
    PR X E (.Call (.Attribute o m apos) (e :: es) [] pos) (eMeth C m own F dD fo g) := by
  obtain ⟨to, po, so⟩ := ho.v.ex
  obtain ⟨t, pa, s⟩ := ha.ex
  refine ⟨_, pe_methG (dvs := dvs) po c hm Fn hr hb hd (fun σ => passAt hx σ) pa hst hpl ht, fun G H σ ρ r Q hw => so G H σ ρ r _ (hw.bind.mono (fun z _ q v G1 H1 o1 h1 => ?_) fun _ _ q => q)⟩
  obtain ⟨cc, e1, q1⟩ := q.opt
  obtain ⟨_, e2, q2⟩ := q1.opt
  have h1' := h1
  rw [asIns_eq e1] at h1'
  unfold Rep at h1'
  obtain ⟨a, dx, fs, rfl, ha, hn, hds⟩ := h1'
  refine ⟨a, dx, fs, rfl, o1.rel.sub.i ha, hasF_none (by rw [hn]; simpa using guard_eq e2), s G1 H1 σ z.2 o1.rel _ (q2.bind.mono (fun y hy q3 vs G2 H2 o2 h2 => ?_) fun _ _ q3 => q3.step o1)⟩
  refine call_sh (ms := false :: ms) (ds := z.1 :: (y.1 ++ dD)) (fun b hb => ?_) (congrArg Nat.succ (by rw [List.length_append, hal _ y hy]; exact hml)) (o1.trans o2) (.cons (Rep.mono o2.stp.gg _ h1) (h2.append (rd G2))) q3
  rcases List.mem_cons.mp hb with z | z
  · exact z
  · exact hms b z
theorem pr_meth0 {pl : Sem Bool} (ho : PR X E o fo) (c : Cls X.K C) (hm : Meth X.K C m fa) (Fn : FnG X.prog X.w X.K X.mg X.base (L2.CX X.prog X.w) kk fa fd ps (spF X.K (false :: ms) own F)) (hr : RmG kk X.A) (hb : Binds X.K fd ps ds) (hd : Vals dvs ds) (rd : ∀ G, RepL X.K G dD dvs) (hx : Takes X E)
    (hms : ∀ b ∈ ms, b = false := by decide) (hml : ms.length = dD.length := by rfl)
    (ht : eval (.Call (.Attribute o m apos) [] [] pos) X.env = (do
      let ov ← eval o X.env
      standAt apos.atName
      let (f, first) ← holding [ov] (getMethod ov m pl)
      callWith pos f first (backTo pos (starEach [] X.env)) (backToKw pos (keywordEach [] X.env))) := by rfl) :
    PR X E (.Call (.Attribute o m apos) [] [] pos) (eMeth C m own F dD fo aNil) := by
  obtain ⟨to, po, so⟩ := ho.v.ex
  refine ⟨_, pe_methG0 (dvs := dvs) po c hm Fn hr hb hd (fun σ => passAt hx σ) ht, fun G H σ ρ r Q hw => so G H σ ρ r _ (hw.bind.mono (fun z _ q v G1 H1 o1 h1 => ?_) fun _ _ q => q)⟩
  obtain ⟨cc, e1, q1⟩ := q.opt
  obtain ⟨_, e2, q2⟩ := q1.opt
  have h1' := h1
  rw [asIns_eq e1] at h1'
  unfold Rep at h1'
  obtain ⟨a, dx, fs, rfl, ha, hn, hds⟩ := h1'
  refine ⟨a, dx, fs, rfl, o1.rel.sub.i ha, hasF_none (by rw [hn]; simpa using guard_eq e2), ?_⟩
  refine call_sh (ms := false :: ms) (ds := z.1 :: dD) (fun b hb => ?_) (congrArg Nat.succ hml) o1 (.cons h1 (rd G1)) q2
  rcases List.mem_cons.mp hb with z | z
  · exact z
  · exact hms b z
@[simp] def eProp (C : Addr) (own : Bool) (F : FT) (fo : EF) : EF := fun ρ => eV fo ρ >>= fun z => ofO (asIns C z.1) >>= fun _ => noX (F [z.1]) >>= fun r => .ok (if own = true then .tmp r.1 else .val r.1, z.2)
theorem pr_prop {pp : Addr} (ho : PR X E o fo) (c : Cls X.K C) (hp : PropOf X.K C fl pp fa) (Fn : FnG X.prog X.w X.K X.mg X.base (L2.CX X.prog X.w) kk fa fd ps (spF X.K [false] own F)) (hr : RmG (kk + 1) X.A) (hb : Binds X.K fd ps []) (hx : Takes X.nox W0)
    (hab : attributeBase o fl X.env (eval o X.env) = eval o X.env := by rfl) : PR X E (.Attribute o fl pos) (eProp C own F fo) := by
  obtain ⟨to, po, so⟩ := ho.v.ex
  have hx2 : Passes (L2.CX X.prog X.w) X.nox (fun _ _ _ => False) := passes_call hx fun _ _ _ _ h => h.elim
  refine ⟨_, pe_propG (dvs := []) po c hp Fn hr hb .nil hx2 hab, fun G H σ ρ r Q hw => so G H σ ρ r _ (hw.bind.mono (fun z _ q v G1 H1 o1 h1 => ?_) fun _ _ q => q)⟩
  obtain ⟨cc, e1, q1⟩ := q.opt
  have h1' := h1
  rw [asIns_eq e1] at h1'
  unfold Rep at h1'
  obtain ⟨a, dx, fs, rfl, ha, hn, hds⟩ := h1'
  refine ⟨a, dx, fs, rfl, o1.rel.sub.i ha, ?_⟩
  refine call_sh (E := W0) (ms := [false]) (F := F) (own := own) (by decide) rfl o1 (.cons h1 .nil) ?_
  have q2 := q1.bind.noX
  cases hF : F [z.1] with
  | ok rr => rw [hF] at q2; exact q2
  | exc xx => rw [hF] at q2; exact q2.elim
  | no => rw [hF] at q2; exact q2.elim
/-! ### keywords -/
def SndKw (K : PySem.W.Frag) (E : WX) (t : TA) (f : S → R (List D × S)) : Prop := SndA K E t f
structure PKs (X : Cx) (E : WX) (kws : List Keyword) (f : S → R (List D × S)) : Prop where
  ex : ∃ t, PK X kws t ∧ SndA X.K E t f
theorem ks_nil : PKs X E [] aNil := ⟨_, pk_nil, fun G H σ ρ r Q hw => hw [] G H (.refl r) .nil⟩
theorem ks_cons {f : S → R (D × S)} {g : S → R (List D × S)} {kws : List Keyword} {nm : Option Str} {kpos : Pos} (h1 : PV X E e f) (h2 : PKs X E kws g) : PKs X E (⟨nm, e, kpos⟩ :: kws) (aCons f g) := by
  obtain ⟨t, pe, s⟩ := h1.ex
  obtain ⟨t2, pa, s2⟩ := h2.ex
  refine ⟨_, pk_cons pe pa, fun G H σ ρ r Q hw => s G H σ ρ r _ (hw.bind.mono (fun z _ q v G' H' o h => ?_) fun _ _ q => q)⟩
  refine s2 G' H' σ z.2 o.rel _ (q.bind.mono (fun y _ q2 vs G2 H2 o2 h2 => ?_) fun _ _ q2 => q2.step o)
  exact q2 (v :: vs) G2 H2 (o.trans o2) (.cons (Rep.mono o2.stp.gg _ h) h2)
end
end BR
set_option Elab.async false
set_option linter.all false
set_option maxRecDepth 100000
set_option maxHeartbeats 4000000
namespace BR
open PySem L2

/-! ## walks over dicts -/
def kD : Key → D
  | .inl i => .int i
  | .inr x => .str x
theorem kD_rep {K : PySem.W.Frag} {G : Hp} : ∀ k : Key, Rep K G (kD k) (kV k)
  | .inl i => rep_int
  | .inr x => rep_str
def itemsD (ks : List Key) (ds : List D) : List D := List.zipWith (fun k d => D.tup [kD k, d]) ks ds
def keysD (ks : List Key) : List D := ks.map kD
section
variable {K : PySem.W.Frag} {G H : Hp} {a : Addr} {o : Obj} {kvs : List (Key × V)} {ds : List D}
theorem wlk_keysD (hG : G a ≠ none) (hH : H a = some (.frz o (.dK kvs))) : Wlk K G H (keysD (kvs.map (·.1))) (Itk a o kvs) := by
  refine ⟨_, _, by unfold keysD; rw [List.length_map, List.length_map]; exact walk_keys, fun H1 k => k a _ hG hH nofun, fun i H x H' hi y G1 sg sb => ?_⟩
  obtain ⟨rfl, k, v, e, rfl⟩ := y
  exact ⟨kD k, by simp [keysD, e], G1, .inl ⟨rfl, rfl⟩, kD_rep k⟩
theorem zipWith_get {α β γ : Type} (f : α → β → γ) : ∀ {xs : List α} {ys : List β} {i : Nat} {x : α} {y : β}, xs[i]? = some x → ys[i]? = some y → (List.zipWith f xs ys)[i]? = some (f x y)
  | [], _, _, _, _, h, _ => by simp at h
  | _ :: _, [], _, _, _, _, h => by simp at h
  | a :: xs, b :: ys, 0, x, y, h1, h2 => by simp at h1 h2; subst h1; subst h2; rfl
  | a :: xs, b :: ys, i + 1, x, y, h1, h2 => by simp at h1 h2; simpa using zipWith_get f h1 h2
theorem wlk_itemsD (hG : G a ≠ none) (hH : H a = some (.frz o (.dK kvs))) (hr : RepL K G ds (kvs.map (·.2))) : Wlk K G H (itemsD (kvs.map (·.1)) ds) (Iti a o kvs) := by
  have hl : (itemsD (kvs.map (·.1)) ds).length = kvs.length := by
    unfold itemsD
    rw [List.length_zipWith, hr.length, List.length_map, List.length_map, Nat.min_self]
  refine ⟨_, _, by rw [hl]; exact walk_items, fun H1 k => k a _ hG hH nofun, fun i H x H' hi y G1 sg sb => ?_⟩
  obtain ⟨T, x1, y1, rfl, hT, rfl, e1, e2⟩ := y
  rw [hl] at hi
  have ek : kvs[i]? = some kvs[i] := List.getElem?_eq_getElem hi
  replace e1 : kvs[i]?.map (fun kv => kV kv.1) = some x1 := e1
  replace e2 : kvs[i]?.map Prod.snd = some y1 := e2
  rw [ek] at e1 e2
  cases e1; cases e2
  obtain ⟨d, ed, rd⟩ := hr.getV (i := i) (v := kvs[i].2) (by rw [List.getElem?_map, ek]; rfl)
  refine ⟨.tup [kD kvs[i].1, d], ?_, upd G1 T (.tup [kV kvs[i].1, kvs[i].2]), .inr ⟨T, .tup _, hT, nofun, rfl, rfl⟩, ?_⟩
  · exact zipWith_get _ (by rw [List.getElem?_map, ek]; rfl) ed
  · have hs : Same G1 (upd G1 T (.tup [kV kvs[i].1, kvs[i].2])) := same_new (sb.none hT)
    unfold Rep
    exact ⟨T, _, rfl, .inl (.inl upd_same), .cons (kD_rep _) (.cons (Rep.mono (sg.trans hs) _ rd) .nil)⟩
/-! ### locking -/
theorem ps_or {X : Cx} {st : Stmt} {t u : TS} (h : PS X st t) (h' : PS X st u) : PS X st (fun D σ H => t D σ H ∨ u D σ H) := ⟨fun pins s σ H D I hw => hw.elim (h.run pins s σ H D I) (h'.run pins s σ H D I)⟩
theorem pe_or {X : Cx} {e : Expr} {t u : TE} (h : PE X e t) (h' : PE X e u) : PE X e (fun σ H Q => t σ H Q ∨ u σ H Q) := ⟨fun pins s σ H Q I hw => hw.elim (h.run pins s σ H Q I) (h'.run pins s σ H Q I)⟩
variable {σ σ' : St} {ρ ρ' : S} {G' H' : Hp} {od : Obj}
theorem at_out {o : HO} (r : Rel K G H σ ρ) (hG : G a ≠ none) : ∀ b, dpa H σ ρ b → upd H a o b = H b ∧ G b = none := fun b h => ⟨upd_ne fun z => hG (by rw [← z]; exact (r.dpaH h).2), (r.dpaH h).2⟩
theorem at_dp {o : HO} (r : Rel K G H σ ρ) (hG : G a ≠ none) : DpR (upd H a o) σ ρ := (r.trees (Same.refl G) (at_out r hG) (fun _ _ e => ⟨e, rfl⟩) fun i b m h => r.dp.ds b i h m).1
theorem at_ads {o : HO} (r : Rel K G H σ ρ) (hG : G a ≠ none) {b : Addr} : ads (upd H a o) σ ρ b ↔ ads H σ ρ b := by
  constructor
  · exact fun h => h.imp id ((r.trees (Same.refl G) (at_out r hG) (fun _ _ e => ⟨e, rfl⟩) fun i b m h => r.dp.ds b i h m).2 b)
  · rintro (h | ⟨i, t, v, e1, e2, m⟩)
    · exact .inl h
    · obtain ⟨v', e3, _, _, f, _⟩ := r.fp_eq (Same.refl G) (at_out (o := o) r hG) (fun _ _ e => ⟨e, rfl⟩) i t e1
      rw [e2] at e3; cases e3
      exact .inr ⟨i, t, v, e1, e2, by rw [f]; exact m⟩
theorem at_dpa {o : HO} (r : Rel K G H σ ρ) (hG : G a ≠ none) {b : Addr} (h : dpa H σ ρ b) : dpa (upd H a o) σ ρ b := by
  obtain ⟨i, t, v, e1, e2, m⟩ := h
  obtain ⟨v', e3, _, _, f, _⟩ := r.fp_eq (Same.refl G) (at_out (o := o) r hG) (fun _ _ e => ⟨e, rfl⟩) i t e1
  rw [e2] at e3; cases e3
  exact ⟨i, t, v, e1, e2, by rw [f]; exact m⟩
theorem rel_lock (r : Rel K G H σ ρ) (hG : G a = some (.dK kvs)) : Rel K G (upd H a (.frz od (.dK kvs))) σ ρ := by
  have ne : ∀ b, G b = none → b ≠ a := fun b e z => by rw [z, hG] at e; cases e
  have hGn : G a ≠ none := by rw [hG]; simp
  refine ⟨r.len, fun b u e => ?_, fun i s e => ?_, r.dis, at_dp r hGn, tbU (fun o e => by rcases r.sub a _ hG with (h | ⟨_, _, _, h⟩) | ⟨⟨_, h⟩, _⟩ <;> first | (rw [h] at e; cases e; first | exact dK_stat | exact frz_stat) | cases h) r.tt⟩
  · by_cases hb : b = a
    · subst hb; rw [hG] at e; cases e; rw [upd_same]; exact .inl (.inr ⟨kvs, od, rfl, rfl⟩)
    · rw [upd_ne hb]; exact r.sub b u e
  · have z := r.sl i s e
    cases s with
    | sh d => exact z
    | own d => obtain ⟨b, e1, h1, u, h2, h3⟩ := z; exact ⟨b, e1, h1, u, by rw [upd_ne (ne b h1)]; exact h2, h3⟩
    | io d => obtain ⟨b, e1, h1, u, h2, h3⟩ := z; exact ⟨b, e1, h1, u, by rw [upd_ne (ne b h1)]; exact h2, h3⟩
    | gh b g0 h0 => obtain ⟨e1, h1, h2⟩ := z; exact ⟨e1, h1, h2.trans (tabs_upd fun o e => by rcases r.sub a _ hG with (h | ⟨_, _, _, h⟩) | ⟨⟨_, h⟩, _⟩ <;> first | (rw [h] at e; cases e; first | exact dK_stat | exact frz_stat) | cases h)⟩
    | dp t =>
      obtain ⟨v, e1, h1, h2, _⟩ := r.fp_eq (Same.refl _) (at_out r hGn) (fun _ _ e => ⟨e, rfl⟩) i t e
      exact ⟨v, e1, h1, h2⟩
theorem rel_unlock (r : Rel K G' H' σ ρ) (hG : G' a = some (.dK kvs)) : Rel K G' (upd H' a (.dK kvs)) σ ρ := by
  have ne : ∀ b, G' b = none → b ≠ a := fun b e z => by rw [z, hG] at e; cases e
  have hGn : G' a ≠ none := by rw [hG]; simp
  refine ⟨r.len, fun b u e => ?_, fun i s e => ?_, r.dis, at_dp r hGn, tbU (fun o e => by rcases r.sub a _ hG with (h | ⟨_, _, _, h⟩) | ⟨⟨_, h⟩, _⟩ <;> first | (rw [h] at e; cases e; first | exact dK_stat | exact frz_stat) | cases h) r.tt⟩
  · by_cases hb : b = a
    · subst hb; rw [hG] at e; cases e; rw [upd_same]; exact .inl (.inl rfl)
    · rw [upd_ne hb]; exact r.sub b u e
  · have z := r.sl i s e
    cases s with
    | sh d => exact z
    | own d => obtain ⟨b, e1, h1, u, h2, h3⟩ := z; exact ⟨b, e1, h1, u, by rw [upd_ne (ne b h1)]; exact h2, h3⟩
    | io d => obtain ⟨b, e1, h1, u, h2, h3⟩ := z; exact ⟨b, e1, h1, u, by rw [upd_ne (ne b h1)]; exact h2, h3⟩
    | gh b g0 h0 => obtain ⟨e1, h1, h2⟩ := z; exact ⟨e1, h1, h2.trans (tabs_upd fun o e => by rcases r.sub a _ hG with (h | ⟨_, _, _, h⟩) | ⟨⟨_, h⟩, _⟩ <;> first | (rw [h] at e; cases e; first | exact dK_stat | exact frz_stat) | cases h)⟩
    | dp t =>
      obtain ⟨v, e1, h1, h2, _⟩ := r.fp_eq (Same.refl _) (at_out r hGn) (fun _ _ e => ⟨e, rfl⟩) i t e
      exact ⟨v, e1, h1, h2⟩
theorem stp_unlock {A : Addr → Prop} (st : Stp A G (upd H a (.frz od (.dK kvs))) G' H') (hH : H a = some (.dK kvs)) (nA : ¬ A a) : Stp A G H G' (upd H' a (.dK kvs)) where
  gg := st.gg
  keep := fun b u e n nt => by
    by_cases hb : b = a
    · subst hb; rw [upd_same, ← e, hH]
    · rw [upd_ne hb]; exact st.keep b u (by rw [upd_ne hb]; exact e) n nt
  thr := fun b e => by
    by_cases hb : b = a
    · subst hb; rw [upd_same] at e; cases e
    · rw [upd_ne hb] at e
      have := st.thr b e
      rw [upd_ne hb] at this; exact this
  fr := fun b e n g => st.fr b (by
    by_cases hb : b = a
    · subst hb; rw [upd_same]; simp
    · rw [upd_ne hb]; exact e) n g
  tb := ((tabs_upd fun o e => by rw [hH] at e; cases e; exact dK_stat).trans st.tb).trans (tabs_upd fun o e => by rw [st.keep a _ upd_same nA nofun] at e; cases e; exact frz_stat)
theorem outS_unlock (r : Rel K G H σ ρ) (o : OutS K G (upd H a (.frz od (.dK kvs))) σ ρ G' H' σ' ρ') (hG : G a = some (.dK kvs)) (hH : H a = some (.dK kvs)) : H' a = some (.frz od (.dK kvs)) ∧ OutS K G H σ ρ G' (upd H' a (.dK kvs)) σ' ρ' := by
  have nA : ¬ ads H σ ρ a := fun z => by have := (r.adsH z).2; rw [hG] at this; cases this
  have hGn : G a ≠ none := by rw [hG]; simp
  have st : Stp (ads H σ ρ) G (upd H a (.frz od (.dK kvs))) G' H' := o.stp.mono fun c _ z => (at_ads r hGn).mp z
  refine ⟨st.keep a _ upd_same nA nofun, rel_unlock o.rel (o.stp.gg _ _ hG), stp_unlock st hH nA, fun b z hb => ?_, o.io⟩
  refine (at_ads r hGn).mp (o.nw b ((at_ads o.rel (by rw [o.stp.gg _ _ hG]; simp)).mp z) ?_)
  by_cases hb' : b = a
  · subst hb'; rw [upd_same]; simp
  · rw [upd_ne hb']; exact hb
theorem out_unlock (r : Rel K G H σ ρ) (o : Out K G (upd H a (.frz od (.dK kvs))) σ ρ G' H' ρ') (hG : G a = some (.dK kvs)) (hH : H a = some (.dK kvs)) : H' a = some (.frz od (.dK kvs)) ∧ Out K G H σ ρ G' (upd H' a (.dK kvs)) ρ' := by
  have nA : ¬ ads H σ ρ a := fun z => by have := (r.adsH z).2; rw [hG] at this; cases this
  have hGn : G a ≠ none := by rw [hG]; simp
  have st : Stp (ads H σ ρ) G (upd H a (.frz od (.dK kvs))) G' H' := o.stp.mono fun c _ z => (at_ads r hGn).mp z
  refine ⟨st.keep a _ upd_same nA nofun, rel_unlock o.rel (o.stp.gg _ _ hG), stp_unlock st hH nA, o.ker, fun b z hb => ?_, fun b h => ?_, r⟩
  rotate_left
  · have nb : b ≠ a := fun z => by rw [z] at h; have := (r.dpaH h).2; rw [hG] at this; cases this
    rw [upd_ne nb, o.tre b (at_dpa r hGn h), upd_ne nb]
  refine (at_ads r hGn).mp (o.nw b ((at_ads o.rel (by rw [o.stp.gg _ _ hG]; simp)).mp z) ?_)
  by_cases hb' : b = a
  · subst hb'; rw [upd_same]; simp
  · rw [upd_ne hb']; exact hb
theorem hold_unlock {h : Hd} {v : V} (r : Rel K G' H' σ' ρ') (hh : Hold K (upd H a (.frz od (.dK kvs))) G' H' σ' ρ' h v) (hG : G' a ≠ none) : Hold K H G' (upd H' a (.dK kvs)) σ' ρ' h v := by
  cases h with
  | val d => exact hh
  | slot i => exact hh
  | tmp d =>
    obtain ⟨p, rfl, ⟨h1, u, h2, h3⟩, h4, h5⟩ := hh
    have hne : p ≠ a := fun z => hG (by rw [← z]; exact h1)
    rw [upd_ne hne] at h4
    exact ⟨p, rfl, ⟨h1, u, by rw [upd_ne hne]; exact h2, h3⟩, h4, fun z => h5 ((at_ads r hG).mp z)⟩
  | sub i p =>
    obtain ⟨w, hw, ha⟩ := hh
    refine ⟨w, hw, fun t q => ?_⟩
    obtain ⟨w', e1, h1, _⟩ := r.tree q; rw [hw] at e1; cases e1
    exact at_go p h1 (fun b m => upd_ne fun z => hG (by rw [← z]; exact (h1.in_ t b m).1)) (ha t q)
  | tpd t =>
    obtain ⟨h1, h2, h3⟩ := hh
    have hne : ∀ p ∈ fp H' t v, p ≠ a := fun p m z => hG (by rw [← z]; exact (h1.in_ t p m).1)
    obtain ⟨h4, h5⟩ := h1.go (H' := upd H' a (.dK kvs)) (Same.refl G') t fun p m => ⟨upd_ne (hne p m), (h1.in_ t p m).1⟩
    refine ⟨h4, by rw [h5]; exact h2, fun p m => ?_⟩
    rw [h5] at m
    obtain ⟨h6, h7⟩ := h3 p m
    rw [upd_ne (hne p m)] at h6
    exact ⟨h6, fun z => h7 ((at_ads r hG).mp z)⟩
theorem flP_lock {G0 H0 : Hp} {σ0 : St} {ρ0 : S} {Dn : Ends} {z : Fl × S} (o0 : Out K G0 H0 σ ρ0 G H ρ) (hG : G a = some (.dK kvs)) (hH : H a = some (.dK kvs)) (h : FlP K G0 H0 σ ρ0 Dn z) :
    FlP K G (upd H a (.frz od (.dK kvs))) σ ρ ⟨fun σ' H' => H' a = some (.frz od (.dK kvs)) ∧ Dn.nx σ' (upd H' a (.dK kvs)), fun v H' => H' a = some (.frz od (.dK kvs)) ∧ Dn.rt v (upd H' a (.dK kvs)), fun σ' H' => H' a = some (.frz od (.dK kvs)) ∧ Dn.bk σ' (upd H' a (.dK kvs)), fun σ' H' => H' a = some (.frz od (.dK kvs)) ∧ Dn.ct σ' (upd H' a (.dK kvs))⟩ z := by
  obtain ⟨fl, ρ'⟩ := z
  cases fl with
  | nx => exact fun σ' G' H' o => let ⟨e, o'⟩ := outS_unlock o0.rel o hG hH; ⟨e, h σ' G' _ (o0.s.trans o')⟩
  | bk => exact fun σ' G' H' o => let ⟨e, o'⟩ := outS_unlock o0.rel o hG hH; ⟨e, h σ' G' _ (o0.s.trans o')⟩
  | ct => exact fun σ' G' H' o => let ⟨e, o'⟩ := outS_unlock o0.rel o hG hH; ⟨e, h σ' G' _ (o0.s.trans o')⟩
  | rt hd => exact fun v σ' G' H' o hh => let ⟨e, o'⟩ := outS_unlock o0.rel o hG hH; ⟨e, h v σ' G' _ (o0.s.trans o') ((hold_unlock o.rel hh (by rw [o.stp.gg _ _ hG]; simp)).back o0.stp.thr)⟩
end
/-- a dict in a slot, shared -/
@[simp] def dicAt (i : Nat) (ρ : S) : Option ((List Key × List D) × S) := match share (.slot i) ρ with
  | some (.dic ks ds, ρ') => some ((ks, ds), ρ')
  | _ => none
theorem dicAt_ok {K : PySem.W.Frag} {G H : Hp} {σ : St} {ρ : S} {i : Nat} {z : (List Key × List D) × S} (r : Rel K G H σ ρ) (e : dicAt i ρ = some z) : ∃ G1 a kvs, Out K G H σ ρ G1 H z.2 ∧ σ[i]? = some (some (.ref a)) ∧ kvs.map (·.1) = z.1.1 ∧ RepL K G1 z.1.2 (kvs.map (·.2)) ∧ ((G1 a = some (.dK kvs) ∧ H a = some (.dK kvs)) ∨ ∃ od, G1 a ≠ none ∧ H a = some (.frz od (.dK kvs))) := by
  unfold dicAt at e
  split at e
  · rename_i ks ds ρ' q
    cases e
    have hv : ∃ v, σ[i]? = some (some v) := by
      have q' : (match ρ[i]? with | some (some (.own d)) => some (d, ρ.set i (some (.sh d))) | some (some (.sh d)) => some (d, ρ) | some (some (.dp t)) => some (t.d, ρ.set i (some (.sh t.d))) | _ => none) = some (D.dic ks ds, ρ') := q
      split at q'
      · rename_i d0 q0; obtain ⟨a, e1, _⟩ := r.sl i _ q0; exact ⟨_, e1⟩
      · rename_i d0 q0; obtain ⟨a, e1, _⟩ := r.sl i _ q0; exact ⟨_, e1⟩
      · rename_i d0 q0; obtain ⟨a, e1, _⟩ := r.sl i _ q0; exact ⟨_, e1⟩
      · cases q'
    obtain ⟨v, hv⟩ := hv
    obtain ⟨G1, o1, _, rp⟩ := share_ok (hd := .slot i) (Out.refl r) hv q
    unfold Rep at rp
    obtain ⟨a, kvs, rfl, h1, h2, h3⟩ := rp
    refine ⟨G1, a, kvs, o1, hv, h2, h3, ?_⟩
    rcases h1 with h1 | ⟨ob, h1⟩
    · rcases o1.rel.sub _ _ h1 with (z | ⟨kv2, od, e1, z⟩) | ⟨⟨ps, e1⟩, _⟩
      · exact .inl ⟨h1, z⟩
      · cases e1; exact .inr ⟨od, by rw [h1]; simp, z⟩
      · cases e1
    · rcases o1.rel.sub _ _ h1 with (z | ⟨kv2, od, e1, z⟩) | ⟨⟨ps, e1⟩, _⟩
      · exact .inr ⟨ob, by rw [h1]; simp, z⟩
      · cases e1
      · cases e1
  · cases e
section
variable {X : Cx} {E : WX} {tg : Expr} {body : List Stmt} {g : D → S → Option S} {b : SF} {tv : List Nat} {i : Nat} {x : Str} {pos pos' apos cpos tpos : Pos} {elts : List Expr} {kk : Nat}
/-- for .. in x / x.items(), x a dict: no exception leaves -/
@[simp] def sForD (sel : List Key → List D → List D) (i : Nat) (g : D → S → Option S) (b : SF) : SF := fun ρ => ofO (dicAt i ρ) >>= fun z => noX (sForL g b (sel z.1.1 z.1.2) z.2)
theorem forD_core {gt : TG} {tb : TS} {wi : TI} {sel : List Key → List D → List D} (J : Addr → Obj → List (Key × V) → It)
    (hwi : ∀ (σ : St) (H : Hp) (Rr : It → Hp → Prop) (a : Addr) (od : Obj) (kvs : List (Key × V)), σ[i]? = some (some (.ref a)) → H a = some (.frz od (.dK kvs)) → Rr (J a od kvs) H → wi σ H Rr)
    (hJ : ∀ {G H : Hp} {a : Addr} {o : Obj} {kvs : List (Key × V)} {ds : List D}, G a ≠ none → H a = some (.frz o (.dK kvs)) → RepL X.K G ds (kvs.map (·.2)) → Wlk X.K G H (sel (kvs.map (·.1)) ds) (J a o kvs))
    (sg : SndG X.K tv gt g) (sb : SndS X.K E tb b) : SndS X.K E (fun D σ H => tLock (tFor wi gt tb) D σ H ∨ tFor wi gt tb D σ H) (sForD sel i g b) := by
  intro G H σ ρ r Dn hw
  obtain ⟨z, e1, hw⟩ := hw.opt
  obtain ⟨G1, a, kvs, o1, hv, hks, hds, cs⟩ := dicAt_ok r e1
  rw [← hks] at hw
  have w := hw.noX
  rcases cs with ⟨hG, hH⟩ | ⟨od, hG, hH⟩
  · refine .inl ⟨a, .dK kvs, hH, True.intro, fun od => hwi σ _ _ a od kvs hv upd_same ?_⟩
    have rl := rel_lock (od := od) o1.rel hG
    refine for_sound sg sb (Out.refl rl) (hJ (by rw [hG]; simp) upd_same hds) ?_
    exact w.mono (fun y _ q => flP_lock (σ0 := σ) o1 hG hH q) fun _ _ q => q.elim
  · refine .inr (hwi σ H _ a od kvs hv hH ?_)
    exact for_sound sg sb o1 (hJ hG hH hds) (w.mono (fun y _ q => q) fun _ _ q => q.elim)
theorem st_forK (hp : PassesOwn (model X.prog X.w) X.A X.env X.xe) (hc : X.calm = true) (hN : X.N[i]? = some x) (hv : Vis X.env.scope x) (hg : PTg X tv tg g) (hb : PSq X E body b) (hd : (x == ("__debug__" : Str)) = false := by decide) (hcd : (x == ("__classdict__" : Str)) = false := by decide)
    (hs : ∀ y, foldedSetIterable (.Name x pos') X.env y = pure y := by intro _; rfl) : PSt X E (.For tg (.Name x pos') body [] pos) (sForD (fun ks _ => keysD ks) i g b) := by
  obtain ⟨gt, pg, sg⟩ := hg.ex
  obtain ⟨tb, pb, sb⟩ := hb.ex
  have ps := ps_for (pos := pos) hp hc (pi_keys (tg := tg) (pe_var (i := i) (pos := pos') hN hv hd hcd)) pg pb hs
  exact ⟨_, ps_or (ps_lock ps) ps, forD_core (fun a o kvs => Itk a o kvs) (fun σ H Rr a od kvs h1 h2 h3 => ⟨_, h1, a, od, rfl, .inl ⟨kvs, h2, h3⟩⟩) (fun h1 h2 _ => wlk_keysD h1 h2) sg sb⟩
theorem st_forI (hp : PassesOwn (model X.prog X.w) X.A X.env X.xe) (hc : X.calm = true) (hN : X.N[i]? = some x) (hv : Vis X.env.scope x) (hg : PTg X tv (.Tuple elts kk tpos) g) (hb : PSq X E body b) (hd : (x == ("__debug__" : Str)) = false := by decide) (hcd : (x == ("__classdict__" : Str)) = false := by decide)
    (hbase : attributeBase (.Name x pos') "items" X.env (eval (.Name x pos') X.env) = eval (.Name x pos') X.env := by rfl) (hline : (apos.endLine == cpos.line) = true := by rfl)
    (hs : ∀ y, foldedSetIterable (.Call (.Attribute (.Name x pos') "items" apos) [] [] cpos) X.env y = pure y := by intro _; rfl) : PSt X E (.For (.Tuple elts kk tpos) (.Call (.Attribute (.Name x pos') "items" apos) [] [] cpos) body [] pos) (sForD itemsD i g b) := by
  obtain ⟨gt, pg, sg⟩ := hg.ex
  obtain ⟨tb, pb, sb⟩ := hb.ex
  have ps := ps_for (pos := pos) hp hc (pi_items (elts := elts) (kk := kk) (tpos := tpos) (pe_var (i := i) (pos := pos') hN hv hd hcd) hbase hline) pg pb hs
  exact ⟨_, ps_or (ps_lock ps) ps, forD_core (fun a o kvs => Iti a o kvs) (fun σ H Rr a od kvs h1 h2 h3 => ⟨_, h1, a, od, kvs, rfl, h2, h3⟩) (fun h1 h2 h3 => wlk_itemsD h1 h2 h3) sg sb⟩
/-! ### a list comprehension over the keys -/
variable {elt c : Expr} {scope : Scope} {own : List (Str × Nat)} {p : S → R (Bool × S)} {fe : EF}
@[simp] def eLcD (vs : List Nat) (sel : List Key → List D → List D) (i : Nat) (g : D → S → Option S) (p : S → R (Bool × S)) (fe : EF) : EF := fun ρ => ofO (dicAt i ρ) >>= fun z => noX (if calmSl z.2 vs = true then lcL vs g p fe (sel z.1.1 z.1.2) [] (wipeS z.2 vs) >>= fun y => .ok (.tmp (.lst y.1), rst z.2 y.2 vs) else .no)
theorem lcD_core {gt : TG} {tt : TT} {wi : TI} {vs : List Nat} {sel : List Key → List D → List D} (J : Addr → Obj → List (Key × V) → It)
    (hwi : ∀ (σ : St) (H : Hp) (Rr : It → Hp → Prop) (a : Addr) (od : Obj) (kvs : List (Key × V)), σ[i]? = some (some (.ref a)) → H a = some (.frz od (.dK kvs)) → Rr (J a od kvs) H → wi σ H Rr)
    (hJ : ∀ {G H : Hp} {a : Addr} {o : Obj} {kvs : List (Key × V)} {ds : List D}, G a ≠ none → H a = some (.frz o (.dK kvs)) → RepL X.K G ds (kvs.map (·.2)) → Wlk X.K G H (sel (kvs.map (·.1)) ds) (J a o kvs))
    (hv : ∀ i ∈ tv, i ∈ vs) (mu : ∀ d ρ ρ', g d ρ = some ρ' → Lse ρ ρ') (st : SndT X.K W0 tt p) : Snd X.K E (fun σ H Q => tLockE (tLc wi (gF X.K tv g) tt (tF X.K W0 fe) vs) σ H Q ∨ tLc wi (gF X.K tv g) tt (tF X.K W0 fe) vs σ H Q) (eLcD vs sel i g p fe) := by
  intro G H σ ρ r Q hw
  obtain ⟨z, e1, hw⟩ := hw.opt
  obtain ⟨G1, a, kvs, o1, hvv, hks, hds, cs⟩ := dicAt_ok r e1
  rw [← hks] at hw
  have w := hw.noX
  rcases cs with ⟨hG, hH⟩ | ⟨od, hG, hH⟩
  · refine .inl ⟨a, .dK kvs, hH, True.intro, fun od => hwi σ _ _ a od kvs hvv upd_same ?_⟩
    have rl := rel_lock (od := od) o1.rel hG
    have key : tLc (fun _ _ Rr => Rr (J a od kvs) (upd H a (.frz od (.dK kvs)))) (gF X.K tv g) tt (tF X.K W0 fe) vs σ (upd H a (.frz od (.dK kvs))) (fun v H' => H' a = some (.frz od (.dK kvs)) ∧ Q v (upd H' a (.dK kvs))) := by
      refine lc_sound (E := E) (z := (sel (kvs.map (·.1)) z.1.2, z.2)) hv mu st (Out.refl rl) (hJ (by rw [hG]; simp) upd_same hds) ?_
      refine w.mono (fun y _ q v G' H' o hh => ?_) fun _ _ q => q.elim
      obtain ⟨e, o'⟩ := out_unlock o1.rel o hG hH
      exact ⟨e, q v G' _ (o1.trans o') ((hold_unlock o.rel hh (by rw [o.stp.gg _ _ hG]; simp)).back o1.stp.thr)⟩
    exact key
  · refine .inr (hwi σ H _ a od kvs hvv hH ?_)
    have key : tLc (fun _ _ Rr => Rr (J a od kvs) H) (gF X.K tv g) tt (tF X.K W0 fe) vs σ H Q := lc_sound (E := E) (z := (sel (kvs.map (·.1)) z.1.2, z.2)) hv mu st o1 (hJ hG hH hds) (w.mono (fun y _ q => q) fun _ _ q => q.elim)
    exact key
theorem pr_lcK {vs : List Nat} {hs0 : X.calm = true} (hN : X.N.Nodup) (hNi : X.N[i]? = some x) (hvi : Vis X.env.scope x) (ok : BlkOk X.N X.env.scope scope own) (hv : ∀ i ∈ tv, i ∈ vs)
    (hg : ∀ (s : Shared) (H : Hp) (C : Addr) (cl : List (Str × Addr)) (fp : List Addr), PTg (X.blk s H scope (compEnvC scope cl C X.env) fp) tv tg g)
    (ht : ∀ (s : Shared) (H : Hp) (C : Addr) (cl : List (Str × Addr)) (fp : List Addr), PB (X.blk s H scope (compEnvC scope cl C X.env) fp) W0 c p)
    (he : ∀ (s : Shared) (H : Hp) (C : Addr) (cl : List (Str × Addr)) (fp : List Addr), PR (X.blk s H scope (compEnvC scope cl C X.env) fp) W0 elt fe) (hd : (x == ("__debug__" : Str)) = false := by decide) (hcd : (x == ("__classdict__" : Str)) = false := by decide)
    (hvs : own.map (·.2) = vs := by rfl) (hs : ∀ y, foldedSetIterable (.Name x pos') X.env y = pure y := by intro _; rfl) :
    PR X E (.ListComp elt [⟨tg, .Name x pos', [c], 0⟩] scope pos) (eLcD vs (fun ks _ => keysD ks) i g p fe) := by
  subst hvs
  have pe := pe_lc (pos := pos) (elt := elt) (ifs := [c]) (g := gF X.K tv g) (tt := tFB X.K W0 p) (te := tF X.K W0 fe) hs0 hN (pi_keys (tg := tg) (pe_var (i := i) (pos := pos') hNi hvi hd hcd)) ok (fun s H C cl fp => (hg s H C cl fp).pg) (fun s H C cl fp => pts_one (ht s H C cl fp).pt) (fun s H C cl fp => (he s H C cl fp).pe) hs
  exact ⟨_, pe_or (pe_lock pe) pe, lcD_core (gt := gF X.K tv g) (fun a o kvs => Itk a o kvs) (fun σ H Rr a od kvs h1 h2 h3 => ⟨_, h1, a, od, rfl, .inl ⟨kvs, h2, h3⟩⟩) (fun h1 h2 _ => wlk_keysD h1 h2) hv (hg X.s_0 X.H_0 0 [] []).mu (tt := tFB X.K W0 p) fun G H σ ρ r Q w => ⟨G, ρ, r, w⟩⟩
end
end BR
set_option Elab.async false
set_option linter.all false
set_option maxRecDepth 100000
set_option maxHeartbeats 4000000
namespace L2
open PySem PySem.Spec PyProof.Rows
theorem preSum_list : ∀ (is : List Int) (n : Nat), n ≤ is.length → preSum (fun i => is.getD i 0) n = (is.take n).sum := by
  intro is n
  induction n with
  | zero => intro _; simp [preSum]
  | succ n ih =>
    intro h
    have hn : n < is.length := h
    rw [preSum, ih (by omega), List.take_add_one, List.getElem?_eq_getElem hn, List.sum_append, List.getD_eq_getElem?_getD, List.getElem?_eq_getElem hn]
    simp
section
variable {X : Cx} {o : Expr} {p pos apos mpos : Pos} {td : TE}
/-- sum(o.values()), a dict with int values -/
def tSumVals (td : TE) : TE := fun σ H Q => td σ H fun x H1 => ∃ (a : Addr) (kvs : List (Key × V)) (is : List Int), x = V.ref a ∧ Rd H1 a (.dK kvs) ∧ kvs.map (·.2) = is.map V.int ∧ Q (.int is.sum) H1
theorem pe_sumVals (hc : X.calm = true) (hg : Gl X "sum") (hm : X.mg "sum" = none) (hd : PE X o td) (hbase : attributeBase o "values" X.env (eval o X.env) = eval o X.env := by rfl) (hline : (apos.endLine == mpos.line) = true := by rfl)
    (hse : starEach [Expr.Call (.Attribute o "values" apos) [] [] mpos] X.env = [(false, eval (Expr.Call (.Attribute o "values" apos) [] [] mpos) X.env)] := by rfl) :
    PE X (.Call (.Name "sum" p) [.Call (.Attribute o "values" apos) [] [] mpos] [] pos) (tSumVals td) := by
  refine ⟨fun pins s σ H Q I h => ?_⟩
  refine wpAny_Call_Name_kw (ld_blt I hg hm (u := .builtin "sum") (by first | rfl | decide +kernel) ?_ (by first | decide +kernel | decide) (by first | decide +kernel | decide))
  rw [hse]
  refine PySem.callWith_builtin1 (wpAny_Call_method0_late hbase hline (thn (hd.run pins s σ H _ I h) fun v s1 ⟨x, H1, I1, r1, a, kvs, is, ex, ha, hv, q⟩ => ?_))
  subst ex
  obtain rfl : v = Value.ref a := r1
  obtain ⟨_, hsys, vs, rel, dof⟩ := dk_rd I1.hok ha
  obtain ⟨ep, dat⟩ := dof.dictAt
  have dat' := dat
  obtain ⟨ob, es, ho, ex, hdat, hko, hpr, hnd⟩ := dat'
  refine ⟨"dict", "dict.values", F.plainAttrs_dict, F.slot_dict_values, F.type_dict_values, ⟨ob, ho, ex.1⟩, fun b e => ?_, Calls.callWith_builtin rfl (PySem.evalArgs_none ?_)⟩
  · cases e
    exact ⟨ob, ho, ex.2.1⟩
  refine call_meetsIn F.slot_dict_values ⟨ob, ho, ex.1⟩ F.entry_dict_values (F.args_dict_values_1 _) (meets_dict_values (mixKind X.prog X.w) a hsys) ⟨⟨vs, dof⟩, ?_⟩
  have k1 : ∀ b u, s1.heap.get? b = some u → (s1.heap.push { cls := .type "dict_values", data := .fields #[.ref a] }).get? b = some u := fun b u e => Heap.get?_push_of_some _ e
  have dat1 : (s1.heap.push { cls := .type "dict_values", data := .fields #[.ref a] }).DictAt (mixKind X.prog X.w) a vs ep := dat.keep k1
  have hlv : vs.length = is.length := by
    have e1 := congrArg List.length hv
    rw [List.length_map, List.length_map] at e1
    rw [← e1]
    exact (KV.length rel).symm
  have hval : ∀ (i : Nat) (v : Value), (∃ k, vs[i]? = some (k, v)) → ∃ t, v = Value.int (is.getD i 0) t := fun i v ⟨k, hk⟩ => by
    obtain ⟨x, h1, h2⟩ := KV.at' rel hk
    have e1 : (kvs.map (·.2))[i]? = some x := by rw [List.getElem?_map, h1] <;> rfl
    rw [hv, List.getElem?_map] at e1
    obtain ⟨j, hj, e2⟩ := Option.map_eq_some_iff.mp e1
    subst e2
    obtain ⟨t, e3⟩ := h2
    refine ⟨t, ?_⟩
    rw [e3, List.getD_eq_getElem?_getD, hj] <;> rfl
  refine call_sum_walkAnyS (wpAny_pyIter_values (v := s1.heap.objs.size) (d := a) ⟨_, Heap.get?_push_size _ rfl, rfl, rfl⟩ dat1 ?_)
  have hlt : a < s1.heap.objs.size := Heap.lt_size ho
  have hsz : (s1.heap.push { cls := .type "dict_values", data := .fields #[.ref a] }).objs.size = s1.heap.objs.size + 1 := Heap.size_push _ _
  refine ⟨_, _, _, _, _, _, _, fun i => is.getD i 0, rfl, (Walks.dictValues (knd := mixKind X.prog X.w) (A := X.A.in1) (I.ok.hd hc) (s1.heap.push { cls := .type "dict_values", data := .fields #[.ref a] }).objs.size a (by rw [hsz]; exact Nat.ne_of_lt (Nat.lt_succ_of_lt hlt)) vs ep).toS,
    ⟨⟨_, Heap.get?_push_size _ rfl, rfl, rfl⟩, dat1.keep fun b u e => Heap.get?_push_of_some _ e⟩, fun b hb => ?_, hval, fun s' t' hm => ?_⟩
  · show b < ((s1.heap.push _).push _).objs.size
    rw [Heap.size_push, Heap.size_push]
    rw [hsz] at hb
    rcases List.mem_cons.mp hb with e | hb
    · rw [e]
      exact Nat.lt_succ_self _
    · have e : b = a := List.mem_singleton.mp hb
      rw [e]
      exact Nat.lt_succ_of_lt (Nat.lt_succ_of_lt hlt)
  · rw [Moved.eq_with hm]
    have es : preSum (fun i => is.getD i 0) vs.length = is.sum := by
      rw [hlv, preSum_list is is.length (Nat.le_refl _), List.take_length]
    rw [es]
    refine ⟨.int _, H1, I1.kept (t' := s'.toks) fun b u e => hm.heap b u (fun hmem => ?_) (Heap.get?_push_of_some _ (k1 b u e)), ⟨t', rfl⟩, q⟩
    have e1 : b = (s1.heap.push { cls := .type "dict_values", data := .fields #[.ref a] }).objs.size := List.mem_singleton.mp hmem
    have e2 := Heap.lt_size e
    rw [hsz] at e1
    rw [e1] at e2
    exact absurd e2 (Nat.not_lt.mpr (Nat.le_succ _))
end
end L2
namespace BR
open PySem L2
section
variable {X : Cx} {E : WX} {e o k : Expr} {f fo fk : EF} {pos pos' spos apos cpos mpos p : Pos} {x m : Str} {es : List Expr}
@[simp] def eSumV (fo : EF) : EF := fun ρ => fo ρ >>= fun z => ofO (look z.1 z.2) >>= fun d => ofO (asDic d) >>= fun c => ofO (intsD c.2) >>= fun is => .ok (.val (.int is.sum), z.2)
theorem pr_sumVals (hc : X.calm = true) (hg : Gl X "sum") (hm : X.mg "sum" = none) (h : PR X E o fo) (hbase : attributeBase o "values" X.env (eval o X.env) = eval o X.env := by rfl) (hline : (apos.endLine == mpos.line) = true := by rfl)
    (hse : starEach [Expr.Call (.Attribute o "values" apos) [] [] mpos] X.env = [(false, eval (Expr.Call (.Attribute o "values" apos) [] [] mpos) X.env)] := by rfl) :
    PR X E (.Call (.Name "sum" p) [.Call (.Attribute o "values" apos) [] [] mpos] [] pos) (eSumV fo) := by
  obtain ⟨t, pe, s⟩ := h.ex
  refine ⟨_, pe_sumVals hc hg hm pe hbase hline hse, fun G H σ ρ r Q hw => s G H σ ρ r _ (hw.bind.mono (fun z _ q v G1 H1 o1 h1 => ?_) fun _ _ q => q)⟩
  obtain ⟨d, e1, q1⟩ := q.opt
  obtain ⟨c, e2, q2⟩ := q1.opt
  obtain ⟨is, e3, q3⟩ := q2.opt
  have rp := hold_look o1.rel h1 e1
  rw [asDic_eq e2] at rp
  obtain ⟨a, kvs, rfl, rd, hks, hds⟩ := rp.dic o1.rel.sub
  exact ⟨a, kvs, is, rfl, rd, intsD_rep hds e3, q3 _ G1 H1 o1 (Hold.val rep_int)⟩
/-! ### text methods -/
def strsD : List D → Option (List Str)
  | [] => some []
  | .str b :: ds => (strsD ds).map (b :: ·)
  | _ => none
theorem strsD_rep {K : PySem.W.Frag} {G : Hp} : ∀ {ds : List D} {vs : List V} {bs : List Str}, RepL K G ds vs → strsD ds = some bs → vs = bs.map V.str
  | [], vs, bs, h, e => by cases e; exact repL_nil.mp h
  | d :: ds, vs, bs, h, e => by
    obtain ⟨v, vs', rfl, h1, h2⟩ := repL_cons.mp h
    cases d with
    | str b =>
      have e' : (strsD ds).map (b :: ·) = some bs := e
      cases q : strsD ds with
      | none => rw [q] at e'; cases e'
      | some bs' =>
        rw [q] at e'; cases e'
        unfold Rep at h1
        rw [h1, strsD_rep h2 q]; rfl
    | _ => cases e
/-- a method of a text with one argument, by values -/
def MtD (K : PySem.W.Frag) (r : V → List V → Hp → VK → Prop) (g : Str → D → Option Rz) : Prop := ∀ (G H : Hp) (a : Str) (y : D) (w : V), Sub G H → RepP K G H y w → ∀ (z : Rz) (Q : VK), g a y = some z → ResP K G H Q z → r (.str a) [w] H Q
@[simp] def asStr : Hd → Option Str
  | .val (.str x) => some x
  | _ => none
theorem asStr_eq {h : Hd} {i : Str} (e : asStr h = some i) : h = .val (.str i) := by
  cases h with
  | val d => cases d <;> cases e; rfl
  | _ => cases e
@[simp] def eM1 (g : Str → D → Option Rz) (fo f : EF) : EF := fun ρ => fo ρ >>= fun z => ofO (asStr z.1) >>= fun a => f z.2 >>= fun y => ofO (look y.1 y.2) >>= fun d => ofO (g a d) >>= fun r => fin r y.2
theorem pr_m1 {id : String} {r : V → List V → Hp → VK → Prop} {g : Str → D → Option Rz} (slot : Slot "str" m id) (ty : typeOf (.builtin id) = pure (.type "method_descriptor")) (rule : MtR X id r) (hg : MtD X.K r g) (ho : PR X E o fo) (h : PR X E e f)
    (hs : starEach [e] X.env = [(false, eval e X.env)] := by rfl) (hbase : attributeBase o m X.env (eval o X.env) = eval o X.env := by rfl) (hline : (apos.endLine == pos.line) = true := by rfl) : PR X E (.Call (.Attribute o m apos) [e] [] pos) (eM1 g fo f) := by
  obtain ⟨to, po, so⟩ := ho.ex
  obtain ⟨t, pe, s⟩ := h.ex
  refine ⟨_, pe_m1 slot ty rule po pe hs hbase hline, fun G H σ ρ r Q hw => so G H σ ρ r _ (hw.bind.mono (fun z _ q v G1 H1 o1 h1 => ?_) fun _ _ q => q)⟩
  obtain ⟨a, ea, q1⟩ := q.opt
  rw [asStr_eq ea] at h1
  have h1' : Rep X.K G1 (.str a) v := h1
  unfold Rep at h1'
  subst h1'
  refine ⟨⟨a, rfl⟩, s G1 H1 σ z.2 o1.rel _ (q1.bind.mono (fun y _ q2 w G2 H2 o2 h2 => ?_) fun _ _ q2 => q2.step o1)⟩
  obtain ⟨d, ed, q3⟩ := q2.opt
  obtain ⟨rz, ez, q4⟩ := q3.opt
  exact hg G2 H2 a d w o2.rel.sub (hold_look o2.rel h2 ed) rz Q ez (fin_ok (o1.trans o2) q4)
def dJoin (a : Str) (d : D) : Option Rz := match d with
  | .lst ds => (strsD ds).bind fun ys => if (ys.map (·.length)).sum + ys.length * a.length ≤ 16777216 then some (.im (.str (Txt.join a ys))) else none
  | _ => none
theorem d_join {K : PySem.W.Frag} : MtD K (fun x xs H Q => ∃ a p, ∃ ys : List Str, x = .str a ∧ xs = [.ref p] ∧ (SqL K H p (ys.map V.str) ∨ SqT K H p (ys.map V.str)) ∧ (ys.map (·.length)).sum + ys.length * a.length ≤ 16777216 ∧ Q (.str (Txt.join a ys)) H) dJoin := by
  intro G H a y w s ry z Q e q
  cases y with
  | lst ds =>
    have e' : ((strsD ds).bind fun ys => if (ys.map (·.length)).sum + ys.length * a.length ≤ 16777216 then some (Rz.im (.str (Txt.join a ys))) else none) = some z := e
    cases hs : strsD ds with
    | none => rw [hs] at e'; cases e'
    | some ys =>
      rw [hs] at e'
      replace e' : (if (ys.map (·.length)).sum + ys.length * a.length ≤ 16777216 then some (Rz.im (.str (Txt.join a ys))) else none) = some z := e'
      split at e'
      · rename_i hl
        cases e'
        obtain ⟨ad, vs, rfl, h1, h2⟩ := ry.lst s
        rw [strsD_rep h2 hs] at h1
        exact ⟨a, ad, ys, rfl, rfl, .inl (SqL.of h1), hl, q _ rep_str⟩
      · cases e'
  | _ => cases e
def dStarts (a : Str) (d : D) : Option Rz := match d with
  | .str b => some (.im (.bl (Txt.startswith a b)))
  | _ => none
theorem d_starts {K : PySem.W.Frag} : MtD K (fun x xs H Q => ∃ a b, x = .str a ∧ xs = [.str b] ∧ Q (.bl (Txt.startswith a b)) H) dStarts := by
  intro G H a y w s ry z Q e q
  cases y with
  | str b => cases e; have := ry.str; subst this; exact ⟨a, b, rfl, rfl, q _ rep_bl⟩
  | _ => cases e
theorem pr_join (ho : PR X E o fo) (h : PR X E e f) (hs : starEach [e] X.env = [(false, eval e X.env)] := by rfl) (hbase : attributeBase o "join" X.env (eval o X.env) = eval o X.env := by rfl) (hline : (apos.endLine == pos.line) = true := by rfl) :
    PR X E (.Call (.Attribute o "join" apos) [e] [] pos) (eM1 dJoin fo f) := pr_m1 F.slot_str_join F.type_str_join mt_join d_join ho h hs hbase hline
theorem pr_starts (ho : PR X E o fo) (h : PR X E e f) (hs : starEach [e] X.env = [(false, eval e X.env)] := by rfl) (hbase : attributeBase o "startswith" X.env (eval o X.env) = eval o X.env := by rfl) (hline : (apos.endLine == pos.line) = true := by rfl) :
    PR X E (.Call (.Attribute o "startswith" apos) [e] [] pos) (eM1 dStarts fo f) := pr_m1 F.slot_str_startswith F.type_str_startswith mt_startswith d_starts ho h hs hbase hline
/-! ### list.index, flat items -/
def ixF : List V → V → Option Nat
  | [], _ => none
  | z :: ys, y => if eqV z y = true then some 0 else (ixF ys y).map (· + 1)
theorem ixF_ok : ∀ {ys : List V} {y : V} {j : Nat}, ixF ys y = some j → ∃ z, ys[j]? = some z ∧ eqV z y = true ∧ ∀ (m : Nat) (z' : V), m < j → ys[m]? = some z' → eqV z' y = false
  | [], y, j, h => by cases h
  | z :: ys, y, j, h => by
    have h' : (if eqV z y = true then some 0 else (ixF ys y).map (· + 1)) = some j := h
    by_cases e : eqV z y = true
    · rw [if_pos e] at h'
      cases h'
      exact ⟨z, rfl, e, fun m z' hm => absurd hm (Nat.not_lt_zero m)⟩
    · rw [if_neg e] at h'
      cases q : ixF ys y with
      | none => rw [q] at h'; cases h'
      | some j' =>
        rw [q] at h'; cases h'
        obtain ⟨z1, h1, h2, h3⟩ := ixF_ok q
        refine ⟨z1, by simpa using h1, h2, fun m z' hm hz => ?_⟩
        cases m with
        | zero => simp at hz; subst hz; simpa using e
        | succ m => exact h3 m z' (Nat.lt_of_succ_lt_succ hm) (by simpa using hz)
def dIndex (d x : D) : Option Int := match d with
  | .lst ds => (flL ds).bind fun ys => (fl x).bind fun y => (ixF ys y).map fun (j : Nat) => (j : Int)
  | _ => none
@[simp] def eIndex (fo f : EF) : EF := fun ρ => fo ρ >>= fun z => ofO (look z.1 z.2) >>= fun d0 => ofO (asL d0) >>= fun _ => f z.2 >>= fun y => ofO (look z.1 y.2) >>= fun d => ofO (look y.1 y.2) >>= fun x => ofO (dIndex d x) >>= fun j => .ok (.val (.int j), y.2)
theorem pr_index (ho : PR X E o fo) (h : PR X E e f) (hbase : attributeBase o "index" X.env (eval o X.env) = eval o X.env := by rfl)
    (hfew : ((backTo cpos (starEach (e :: []) X.env)).all (fun x => !x.1) && (backToKw cpos (keywordEach [] X.env)).all (fun x => x.1.isSome)
      && decide ((e :: []).length + ([] : List Keyword).length + (if ([] : List Keyword).isEmpty then 0 else 1) < 30)) = true := by rfl) (hline : (apos.endLine == cpos.line) = true := by rfl) (hs : starEach (e :: []) X.env = (false, eval e X.env) :: starEach [] X.env := by rfl) :
    PR X E (.Call (.Attribute o "index" apos) [e] [] cpos) (eIndex fo f) := by
  obtain ⟨to, po, so⟩ := ho.ex
  obtain ⟨t, pe, s⟩ := h.ex
  refine ⟨_, pe_bm PySem.F.plainAttrs_list PySem.F.slot_list_index PySem.F.type_list_index mt_index po (pa_cons pe pa_nil hs) hbase hfew hline hs rfl, fun G H σ ρ r Q hw => so G H σ ρ r _ (hw.bind.mono (fun z _ q v G1 H1 o1 h1 => ?_) fun _ _ q => q)⟩
  obtain ⟨d0, ed0, q1⟩ := q.opt
  obtain ⟨l0, el0, q2⟩ := q1.opt
  have r0 := hold_look o1.rel h1 ed0
  rw [asL_eq el0] at r0
  obtain ⟨a, vs0, rfl, ha0, _⟩ := r0.lst o1.rel.sub
  refine ⟨.inl ⟨rfl, vs0, SqL.of ha0⟩, s G1 H1 σ z.2 o1.rel _ (q2.bind.mono (fun y _ q3 w G2 H2 o2 h2 => ?_) fun _ _ q3 => q3.step o1)⟩
  obtain ⟨d, ed, q4⟩ := q3.opt
  obtain ⟨xx, ex, q5⟩ := q4.opt
  obtain ⟨j, ej, q6⟩ := q5.opt
  have r1 := hold_look o2.rel (h1.pers o2) ed
  have r2 := hold_look o2.rel h2 ex
  cases d with
  | lst ds =>
    have ej' : ((flL ds).bind fun ys => (fl xx).bind fun y => (ixF ys y).map fun (j : Nat) => (j : Int)) = some j := ej
    cases e1 : flL ds with
    | none => rw [e1] at ej'; cases ej'
    | some ys =>
      rw [e1] at ej'
      cases e2 : fl xx with
      | none => rw [e2] at ej'; cases ej'
      | some yv =>
        rw [e2] at ej'
        cases e3 : ixF ys yv with
        | none =>
          replace ej' : (ixF ys yv).map (fun (j : Nat) => (j : Int)) = some j := ej'
          rw [e3] at ej'; cases ej'
        | some jn =>
          replace ej' : (ixF ys yv).map (fun (j : Nat) => (j : Int)) = some j := ej'
          rw [e3] at ej'; cases ej'
          obtain ⟨a', vs, ea, ha, hds⟩ := r1.lst o2.rel.sub
          cases ea
          obtain ⟨rfl, f1⟩ := flL_rep hds e1
          obtain ⟨rfl, f2⟩ := fl_rep r2 e2
          obtain ⟨zz, g1, g2, g3⟩ := ixF_ok e3
          exact ⟨a, vs, w, jn, zz, rfl, rfl, SqL.of ha, f2, f1, g1, g2, g3, q6 _ G2 H2 (o1.trans o2) (Hold.val rep_int)⟩
  | _ => cases ej
end
end BR
set_option Elab.async false
set_option linter.all false
set_option maxRecDepth 100000
set_option maxHeartbeats 4000000
namespace BR
open PySem L2

/-! ## a dict comprehension without a test -/
def dcL (vs : List Nat) (g : D → S → Option S) (fk fe : EF) : List D → (List Key × List D) → S → R ((List Key × List D) × S)
  | [], acc, ρ => .ok (acc, ρ)
  | d :: ds, acc, ρ => ofO (g d ρ) >>= fun ρ1 => noX (fk ρ1) >>= fun z => noX (eV fe z.2) >>= fun y => ofO (asKey z.1) >>= fun k => if acc.1.length < sizeLine then dcL vs g fk fe ds (putDk acc.1 k, putDx acc.1 acc.2 k y.1) (wipeS y.2 vs) else .no
@[simp] def eDc (vs : List Nat) (it : S → R (List D × S)) (g : D → S → Option S) (fk fe : EF) : EF := fun ρ => it ρ >>= fun z => if calmSl z.2 vs = true then dcL vs g fk fe z.1 ([], []) (wipeS z.2 vs) >>= fun y => .ok (.tmp (.dic y.1.1 y.1.2), rst z.2 y.2 vs) else .no
section
variable {J : It} {n : Nat} {G : Hp → Prop} {Y : Nat → Hp → V → Hp → Prop}
theorem dc_it (w : Walk J n G Y) {g : TG} {tt : TT} {tk tv : TE} {vs : List Nat} {σ : St} {H1 : Hp} {D : Addr} {Qd : Hp → Prop} (Pv : Nat → Hp → Prop) (h0 : Pv 0 (upd H1 D (.dK []))) (hG : ∀ i H, i ≤ n → Pv i H → G H)
    (hs : ∀ i x H H', i < n → Pv i H → Y i H x H' → g x (wipe σ vs) H' fun σ2 H2 => wipe σ2 vs = wipe σ vs ∧ tt σ2 H2 fun b H3 =>
      if b = true then tk σ2 H3 fun y H4 => tv σ2 H4 fun z H5 => ∃ kvs k, y = kV k ∧ H5 D = some (.dK kvs) ∧ kvs.length < sizeLine ∧ Pv (i + 1) (upd H5 D (.dK (putK kvs k z))) else Pv (i + 1) H3) (hd : ∀ H, Pv n H → Qd H) :
    ∃ W : Nat → Nat → Hp → Prop, (∃ m, W 0 m (upd H1 D (.dK []))) ∧ ∀ i m H, W i m H →
      (J.stop i H ∧ Qd H) ∨ (J.go i H ∧ ∃ Nx : Hp → Prop, (∀ H', Nx H' → ∃ m', m' < m ∧ W (i + 1) m' H') ∧ ∀ x H', J.yld i H x H' → g x (wipe σ vs) H' fun σ2 H2 => wipe σ2 vs = wipe σ vs ∧ tt σ2 H2 fun b H3 =>
        if b = true then tk σ2 H3 fun y H4 => tv σ2 H4 fun z H5 => ∃ kvs k, y = kV k ∧ H5 D = some (.dK kvs) ∧ kvs.length < sizeLine ∧ Nx (upd H5 D (.dK (putK kvs k z))) else Nx H3) := by
  refine ⟨fun i m H => m = n - i ∧ i ≤ n ∧ Pv i H, ⟨n, by simp, Nat.zero_le _, h0⟩, ?_⟩
  rintro i m H ⟨rfl, hi, p⟩
  have q := hG i H hi p
  by_cases hlt : i < n
  · refine .inr ⟨w.goes i H hlt q, Pv (i + 1), fun H' p' => ⟨n - (i + 1), by omega, rfl, hlt, p'⟩, fun x H' y => hs i x H H' hlt p (w.yields i H x H' hlt q y)⟩
  · have e : i = n := by omega
    subst e
    exact .inl ⟨w.stops H q, hd H p⟩
end
section
variable {X : Cx} {E : WX} {kx elt tg iter : Expr} {scope : Scope} {own : List (Str × Nat)} {pos : Pos} {it : S → R (List D × S)} {g : D → S → Option S} {fk fe : EF} {tv : List Nat}
theorem dc_sound {K : PySem.W.Frag} {vs : List Nat} (hv : ∀ i ∈ tv, i ∈ vs) (mu : ∀ d ρ ρ', g d ρ = some ρ' → Lse ρ ρ') {G H : Hp} {σ : St} {ρ : S} {Q : VK} {z : List D × S} {J : It} {G1 H1 : Hp} (o1 : Out K G H σ ρ G1 H1 z.2) (wk : Wlk K G1 H1 z.1 J)
    (q : Wp (if calmSl z.2 vs = true then dcL vs g fk fe z.1 ([], []) (wipeS z.2 vs) >>= fun y => R.ok (Hd.tmp (.dic y.1.1 y.1.2), rst z.2 y.2 vs) else R.no) (fun z => ∀ v G' H', Out K G H σ ρ G' H' z.2 → Hold K H G' H' σ z.2 z.1 v → Q v H') (ExE K E G H σ ρ)) : tDc (fun _ _ Rr => Rr J H1) (gF K tv g) tYes (tF K W0 fk) (tF K W0 fe) vs σ H Q := by
  split at q
  rotate_left
  · exact q.elim
  rename_i hc
  intro Da hD
  obtain ⟨Gd, Y, wk, hG, hY⟩ := wk.ex
  have q := q.bind
  have hgD : G1 Da = none := o1.rel.sub.none hD
  have rw0 : Rel K G1 H1 (L2.wipe σ vs) (wipeS z.2 vs) := o1.rel.wipe
  have hDn : ∀ {a : Addr}, ads H1 (L2.wipe σ vs) (wipeS z.2 vs) a → a ≠ Da := fun h e => (rw0.adsH h).1 (by rw [e]; exact hD)
  have mw0 : ∀ j, isMut (wipeS z.2 vs) j → j ∉ vs := fun j ⟨d, m⟩ c => by
    rw [wipeS_at] at m
    by_cases hl : j < z.2.length
    · rw [if_pos ⟨c, hl⟩] at m; rcases m with m | m <;> cases m
    · rw [if_neg fun z => hl z.2, List.getElem?_eq_none (by omega)] at m; rcases m with m | m <;> cases m
  refine dc_it wk (fun i H' => ∃ G' ρ' acc kvs, Out K G1 H1 (L2.wipe σ vs) (wipeS z.2 vs) G' H' ρ' ∧ G' Da = none ∧ H' Da = some (.dK kvs) ∧ ¬ ads H' (L2.wipe σ vs) ρ' Da ∧ kvs.map (·.1) = acc.1 ∧ RepL K G' acc.2 (kvs.map (·.2)) ∧ (∀ b o, G1 b ≠ none → H1 b = some o → NT o → H' b = some o) ∧
      Wp (dcL vs g fk fe (z.1.drop i) acc ρ') (fun y => ∀ v G' H', Out K G H σ ρ G' H' (rst z.2 y.2 vs) → Hold K H G' H' σ (rst z.2 y.2 vs) (.tmp (.dic y.1.1 y.1.2)) v → Q v H') (ExE K E G H σ ρ)) ?_ ?_ ?_ ?_
  · refine ⟨G1, wipeS z.2 vs, ([], []), [], Out.new rw0 hD, hgD, upd_same, fun h => hDn (rw0.ads_new hD h) rfl, rfl, .nil, fun b o hb ho _ => ?_, q⟩
    rw [upd_ne (ne_of_none ho hD)]; exact ho
  · rintro i H' _ ⟨G', ρ', acc, us, _, _, _, _, _, _, k, _⟩
    exact hG H' k
  · rintro i x H' H2 hi ⟨G', ρ', acc, us, o, gD, hDD, nD, hks, ra, k, w⟩ y
    obtain ⟨d, ed, G2, hstep, rx⟩ := hY i H' x H2 hi y G' o.stp.gg o.rel.sub
    obtain ⟨o2, gD2, hD2, nD2, k2, sg2⟩ : Out K G1 H1 (L2.wipe σ vs) (wipeS z.2 vs) G2 H2 ρ' ∧ G2 Da = none ∧ H2 Da = some (.dK us) ∧ ¬ ads H2 (L2.wipe σ vs) ρ' Da ∧ (∀ b o, H' b = some o → H2 b = some o) ∧ Same G' G2 := by
      rcases hstep with ⟨rfl, rfl⟩ | ⟨pp, u, hp, nu, rfl, rfl⟩
      · exact ⟨o, gD, hDD, nD, fun _ _ h => h, Same.refl _⟩
      · have zz := Out.lay (o := u) o.rel hp nu
        have hne : Da ≠ pp := ne_of_none hDD hp
        exact ⟨o.trans zz, by rw [upd_ne hne]; exact gD, by rw [upd_ne hne]; exact hDD, fun h => nD (zz.nw Da h (by rw [hDD]; simp)), fun b u' h => by rw [upd_ne (ne_of_none h hp)]; exact h, zz.stp.gg⟩
    have hd : z.1.drop i = d :: z.1.drop (i + 1) := by
      obtain ⟨h1, h2⟩ := List.getElem?_eq_some_iff.mp ed
      rw [← h2]
      exact List.drop_eq_getElem_cons h1
    rw [hd] at w
    obtain ⟨ρ3, e3, w⟩ := w.opt
    refine ⟨G2, H2, L2.wipe σ vs, ρ', G2, ρ', ρ3, d, (Out.refl o2.rel).s, rx, e3, fun σ3 o3 n3 => ?_⟩
    have hws : L2.wipe σ3 vs = L2.wipe σ vs := wipe_only (n3.on.mono hv)
    refine ⟨hws, ?_⟩
    have mu3 := mu d ρ' ρ3 e3
    have tr3 : ∀ (G4 H4 : Hp) (ρ4 : S), Out K G2 H2 σ3 ρ3 G4 H4 ρ4 → ∀ a, dpa H2 (L2.wipe σ vs) ρ' a → H4 a = H2 a := fun G4 H4 ρ4 o4 a h => by
      by_cases zz : ads H2 σ3 ρ3 a
      · rcases zz with ⟨j, m, e⟩ | zz
        · exact absurd ((n3.kp j (.inl m)).symm.trans e) (o2.rel.dp.ds a j h (mu3.1 j m))
        · exact o4.tre a zz
      · cases e : H2 a with
        | none => exact absurd e (o2.rel.dpaH h).1
        | some u => exact o4.stp.keep a u e zz (o2.rel.dpaNT h e)
    have n3D : ¬ ads H2 σ3 ρ3 Da := fun h => nD2 (o3.nw Da h (by rw [hD2]; simp))
    have ioN : ∀ j ∈ vs, ¬ isIo ρ' j := fun j hj ⟨d, m⟩ => mw0 j (o2.ker.mu j ⟨d, .inr m⟩) hj
    simp only [tYes, if_true]
    refine ⟨G2, ρ3, o3.rel, w.bind.noX.mono (fun b hb w2 vk G4 H4 o4 hk4 => ?_) fun _ _ w2 => w2.elim⟩
    have hD4 : H4 Da = some (.dK us) := o4.stp.keep Da _ hD2 n3D nofun
    have gD4 : G4 Da = none := o4.stp.fr Da (by rw [hD2]; simp) n3D gD2
    have n4D : ¬ ads H4 σ3 b.2 Da := fun h => n3D (o4.nw Da h (by rw [hD2]; simp))
    have keep4 : ∀ bb oo, G1 bb ≠ none → H1 bb = some oo → NT oo → H4 bb = some oo := fun bb oo h1 h2 h3 => o4.stp.keep bb oo (k2 bb oo (k bb oo h1 h2 h3)) (nt := h3) fun zz => by
      have hz := (o3.rel.adsH zz).2
      cases qq : G1 bb with
      | none => exact h1 qq
      | some u' => rw [(o.stp.gg.trans sg2) bb u' qq] at hz; cases hz
    have w3 := w2.bind.noX
    refine ⟨G4, b.2, o4.rel, (Wp.bind w3).mono (fun hh _ w5 v G5 H5 o5 hold => ?_) fun _ _ w5 => w5.elim⟩
    cases es : share hh.1 hh.2 with
    | none => rw [es] at w5; exact w5.elim
    | some y6 =>
      rw [es] at w5
      obtain ⟨d6, ρ6⟩ := y6
      obtain ⟨G6, o6, sg6, rp6⟩ := share_ok o5 hold es
      have w6 : Wp (ofO (asKey b.1) >>= fun k => if acc.1.length < sizeLine then dcL vs g fk fe (z.1.drop (i + 1)) (putDk acc.1 k, putDx acc.1 acc.2 k d6) (wipeS ρ6 vs) else .no) _ _ := w5
      obtain ⟨kk, ekk, w7⟩ := w6.opt
      split at w7
      rotate_left
      · exact w7.elim
      rename_i hsz
      have hD5 : H5 Da = some (.dK us) := o6.stp.keep Da _ hD4 n4D nofun
      have gD6 : G6 Da = none := o6.stp.fr Da (by rw [hD4]; simp) n4D gD4
      refine ⟨us, kk, asKey_v hk4 ekk, hD5, by rw [← hks, List.length_map] at hsz; exact hsz, ?_⟩
      have oA : OutS K G2 H2 (L2.wipe σ vs) ρ' G6 H5 σ3 ρ6 := o3.trans (o4.s.trans o6.s)
      have oW : Out K G2 H2 (L2.wipe σ vs) ρ' G6 H5 (wipeS ρ6 vs) := oA.wiped ioN hws ((mu3.trans o4.ker.lse).trans o6.ker.lse) (tr3 _ _ _ (o4.trans o6)) o2.rel
      have nW : ¬ ads H5 (L2.wipe σ vs) (wipeS ρ6 vs) Da := fun h => nD2 (oW.nw Da h (by rw [hD2]; simp))
      have oB := o2.trans oW
      obtain ⟨p1, p2⟩ := putD_rep (k := kk) (ra.mono (sg2.trans (o4.stp.gg.trans o6.stp.gg))) rp6
      rw [hks] at p1 p2
      refine ⟨G6, wipeS ρ6 vs, _, putK us kk v, oB.app hD gD6 (by rw [hD5]; simp) nW (fun o e => by rw [hD5] at e; cases e; exact dK_stat), gD6, upd_same, ?hnew, p1, p2, fun bb oo h1 h2 h3 => ?_, w7⟩
      case hnew =>
        intro h
        refine nW ?_
        have hk : ∀ b, dpa H5 (L2.wipe σ vs) (wipeS ρ6 vs) b → upd H5 Da (.dK (putK us kk v)) b = H5 b ∧ G6 b = none := fun b h => ⟨upd_ne fun z => nW (by rw [← z]; exact .inr h), (oB.rel.dpaH h).2⟩
        obtain ⟨_, tw⟩ := oB.rel.trees (Same.refl G6) hk (fun _ _ e => ⟨e, rfl⟩) fun i b m h => oB.rel.dp.ds b i h m
        exact h.imp id (tw Da)
      have hne : bb ≠ Da := ne_of_none h2 hD
      rw [upd_ne hne]
      refine o6.stp.keep bb oo (keep4 bb oo h1 h2 h3) (fun zz => ?_) h3
      have hz := (o4.rel.adsH zz).2
      cases qq : G1 bb with
      | none => exact h1 qq
      | some u' => rw [(o.stp.gg.trans (sg2.trans o4.stp.gg)) bb u' qq] at hz; cases hz
  · rintro H' ⟨G', ρ', acc, us, o, gD, hDD, nD, hks, ra, k, w⟩
    rw [List.drop_length] at w
    have ou := Out.unwipe o1.rel hc o
    refine w (.ref Da) G' H' (o1.trans ou) ⟨Da, rfl, ⟨gD, _, hDD, us, rfl, hks, ra⟩, o1.stp.thr Da hD, fun h => nD (ads_unwipe o1.rel hc o h)⟩
theorem pr_dc {vs : List Nat} {hs0 : X.calm = true} (hN : X.N.Nodup) (hi : PIt X E tg iter it) (ok : BlkOk X.N X.env.scope scope own) (hv : ∀ i ∈ tv, i ∈ vs)
    (hg : ∀ (s : Shared) (H : Hp) (C : Addr) (cl : List (Str × Addr)) (fp : List Addr), PTg (X.blk s H scope (compEnvC scope cl C X.env) fp) tv tg g)
    (hk : ∀ (s : Shared) (H : Hp) (C : Addr) (cl : List (Str × Addr)) (fp : List Addr), PR (X.blk s H scope (compEnvC scope cl C X.env) fp) W0 kx fk)
    (he : ∀ (s : Shared) (H : Hp) (C : Addr) (cl : List (Str × Addr)) (fp : List Addr), PR (X.blk s H scope (compEnvC scope cl C X.env) fp) W0 elt fe) (hvs : own.map (·.2) = vs := by rfl) (hs : ∀ x, foldedSetIterable iter X.env x = pure x := by intro _; rfl) :
    PR X E (.DictComp kx elt [⟨tg, iter, [], 0⟩] scope pos) (eDc vs it g fk fe) := by
  subst hvs
  obtain ⟨wi, pi, si⟩ := hi.ex
  refine ⟨_, pe_dc (pos := pos) (kx := kx) (vx := elt) (ifs := []) (g := gF X.K tv g) (tk := tF X.K W0 fk) (tv := tF X.K W0 fe) hs0 hN pi ok (fun s H C cl fp => (hg s H C cl fp).pg) (fun s H C cl fp => pts_nil) (fun s H C cl fp => (hk s H C cl fp).pe) (fun s H C cl fp => (he s H C cl fp).pe) hs, fun G H σ ρ r Q hw => si G H σ ρ r _ (hw.bind.mono (fun z _ q J G1 H1 o1 wk => ?_) fun _ _ q => q)⟩
  have key : tDc (fun _ _ Rr => Rr J H1) (gF X.K tv g) tYes (tF X.K W0 fk) (tF X.K W0 fe) (own.map (·.2)) σ H Q := dc_sound hv (hg X.s_0 X.H_0 0 [] []).mu o1 wk q
  exact key
end
/-! ## isinstance -/
/-- the type of a value -/
def tyD : D → Option Value
  | .non => some (.type "NoneType")
  | .bl _ => some (.type "bool")
  | .int _ => some (.type "int")
  | .str _ => some (.type "str")
  | .lst _ => some (.type "list")
  | .scr _ => some (.type "list")
  | .tup _ => some (.type "tuple")
  | .dic _ _ => some (.type "dict")
  | .ins C _ _ => some (.ref C)
  | _ => none
/-- the own classes whose instances may be asked -/
structure ClsI (K : PySem.W.Frag) (C : Addr) : Prop where
  cl : Cls K C
  ha : PySem.W.findIn K (.ref C) "__class__" = some (some (.builtin "object.__class__"))
  hn : PySem.W.specialIn K (.builtin "object.__class__") "__get__" = some (some (.builtin "getset_descriptor.__get__"))
  htk : PySem.W.takesIn K (.builtin "object.__class__") = some true
  hm : PySem.W.mroIn K C (.type "object") = some true
section
variable {K : PySem.W.Frag} {G H : Hp}
def insIn (Cs : List Addr) : D → Bool
  | .ins C _ _ => Cs.any fun c => decide (c = C)
  | .obj _ => false
  | .ty _ => false
  | _ => true
theorem tyD_ok {Cs : List Addr} (hC : ∀ C ∈ Cs, ClsI K C) {d : D} {v : V} {t : Value} (s : Sub G H) (h : RepP K G H d v) (hi : insIn Cs d = true) (e : tyD d = some t) : TyX K H v t := by
  have rdT : ∀ {a : Addr} {vs : List V}, SqT K H a vs → TyX K H (.ref a) (.type "tuple") := by
    intro a vs h
    rcases h with (h | ⟨o, h⟩) | h
    · exact .base (.tup h)
    · exact .fTuple h
    · obtain ⟨o, _, _, e1, e2, _⟩ := h
      exact .kTuple e1 e2
  have rdL : ∀ {a : Addr} {vs : List V}, SqL K H a vs → TyX K H (.ref a) (.type "list") := by
    intro a vs h
    rcases h with (h | ⟨o, h⟩) | h
    · exact .base (.lst h)
    · exact .base (.frz h)
    · obtain ⟨o, _, _, e1, e2, _⟩ := h
      exact .kList e1 e2
  cases d with
  | non => cases e; rw [h.non]; exact .base .non
  | bl b => cases e; rw [h.bl]; exact .base (.bl b)
  | int b => cases e; rw [h.int]; exact .base (.int b)
  | str b => cases e; rw [h.str]; exact .base (.str b)
  | lst ds => cases e; obtain ⟨a, vs, rfl, h1, _⟩ := h.lst s; exact .base (.lst h1)
  | scr ns => cases e; obtain ⟨a, rfl, h1⟩ := h.scr s; exact rdL h1
  | tup ds => cases e; obtain ⟨a, vs, rfl, h1, _⟩ := h.tup s; exact rdT h1
  | dic ks ds =>
    cases e
    obtain ⟨a, kvs, rfl, h1, _⟩ := h.dic s
    rcases h1 with h1 | ⟨o, h1⟩
    · exact .base (.dK h1)
    · exact .fDict h1
  | ins C ns ds =>
    cases e
    obtain ⟨a, dx, fs, rfl, h1, _⟩ := h.ins s
    have hm : C ∈ Cs := by
      have : (Cs.any fun c => decide (c = C)) = true := hi
      obtain ⟨c, hc, e⟩ := List.any_eq_true.mp this
      have := of_decide_eq_true e
      rw [← this]; exact hc
    have q := hC C hm
    exact .base (.ins h1 q.cl q.ha q.hn q.htk q.hm)
  | ty n => cases e
  | obj a => cases e
end
section
variable {X : Cx} {K : PySem.W.Frag}
/-- what may be asked, and the answer -/
structure IsiT (K : PySem.W.Frag) (us : List Value) (ok isi : D → Bool) : Prop where
  an : ∀ (d : D) (t : Value), ok d = true → tyD d = some t → PySem.W.kitAny K t us = some (isi d)
  ty : ∀ (d : D) (G H : Hp) (v : V), Sub G H → RepP K G H d v → ok d = true → ∃ t, tyD d = some t ∧ TyX K H v t
def clsDs : List Value → List D → Bool
  | [], [] => true
  | .type n :: us, .ty m :: ds => decide (n = m) && clsDs us ds
  | .ref C :: us, .obj a :: ds => decide (C = a) && clsDs us ds
  | _, _ => false
theorem clsDs_rep {G : Hp} : ∀ {us : List Value} {ds : List D} {vs : List V}, clsDs us ds = true → RepL K G ds vs → Paired ClsV vs us
  | [], [], vs, _, h => by rw [repL_nil.mp h]; exact .nil
  | [], _ :: _, vs, e, h => by cases e
  | u :: us, [], vs, e, h => by cases u <;> cases e
  | u :: us, d :: ds, vs, e, h => by
    obtain ⟨v, vs', rfl, h1, h2⟩ := repL_cons.mp h
    cases u with
    | type n =>
      cases d with
      | ty m =>
        have e' : (decide (n = m) && clsDs us ds) = true := e
        rw [Bool.and_eq_true] at e'
        have := of_decide_eq_true e'.1
        subst this
        unfold Rep at h1
        rw [h1]
        exact .cons (.ty n) (clsDs_rep e'.2 h2)
      | _ => cases e
    | ref C =>
      cases d with
      | obj m =>
        have e' : (decide (C = m) && clsDs us ds) = true := e
        rw [Bool.and_eq_true] at e'
        have := of_decide_eq_true e'.1
        subst this
        unfold Rep at h1
        rw [h1]
        exact .cons (.own C) (clsDs_rep e'.2 h2)
      | _ => cases e
    | _ => cases e
def rIsiS (K : PySem.W.Frag) : List V → Hp → VK → Prop := fun xs H Q => ∃ (x : V) (tp : Addr) (cs : List V) (t : Value) (us : List Value) (b : Bool), xs = [x, .ref tp] ∧ SqT K H tp cs ∧ Paired ClsV cs us ∧ TyX K H x t ∧ PySem.W.kitAny K t us = some b ∧ Q (.bl b) H
theorem call_isiS : CallR X (.builtin "isinstance") (rIsiS X.K) := by
  intro pins s σ H xs us Q I r h
  obtain ⟨x, tp, cs, t, ws, b, rfl, hT, k, ty, e, q⟩ := h
  obtain ⟨u1, u2, rfl, r1, r2⟩ := vals2 r
  cases (show u2 = Value.ref tp from r2)
  obtain ⟨P, Z, p, hx⟩ := kit_of I r1 ty
  obtain ⟨its, rv, ⟨o, h1, h2, n, h3⟩, _⟩ := I.tuple hT
  have e3 := ClsV.all k rv
  subst e3
  obtain ⟨oc, od, dt, sl⟩ := o
  simp only at h2 h3
  subst h2 h3
  exact PySem.W.kia_tup Z I.kIn p h1 e hx fun tk => ⟨.bl b, H, I.tok tk, rfl, q⟩
def dIsi (us : List Value) (ok isi : D → Bool) : List D → Option Rz
  | [d, .tup ds] => if (ok d && clsDs us ds) = true then some (.im (.bl (isi d))) else none
  | [d, .ty n] => if (ok d && clsDs us [.ty n]) = true then some (.im (.bl (isi d))) else none
  | [d, .obj a] => if (ok d && clsDs us [.obj a]) = true then some (.im (.bl (isi d))) else none
  | _ => none
def rIsiB (K : PySem.W.Frag) : List V → Hp → VK → Prop := fun xs H Q => rIsi K xs H Q ∨ rIsiS K xs H Q
theorem call_isiB : CallR X (.builtin "isinstance") (rIsiB X.K) := CallR.or call_isi call_isiS
theorem kitAny1 {t u : Value} {b : Bool} (h : PySem.W.kitAny K t [u] = some b) : PySem.W.kitOne K t u = some b := by
  unfold PySem.W.kitAny at h
  cases q : PySem.W.kitOne K t u with
  | none => rw [q] at h; cases h
  | some c =>
    rw [q] at h
    cases c with
    | true => exact h
    | false => exact h
theorem d_isi {us : List Value} {ok isi : D → Bool} (T : IsiT K us ok isi) : CallD K (rIsiB K) (dIsi us ok isi) := by
  intro G H ds vs s h z Q e q
  unfold dIsi at e
  split at e
  · obtain ⟨v, w, rfl, rv, rw'⟩ := rpl2 h
    split at e
    · rename_i hb
      rw [Bool.and_eq_true] at hb
      cases e
      obtain ⟨a, us', rfl, h1, h2⟩ := rw'.tup s
      obtain ⟨t, et, tx⟩ := T.ty _ G H v s rv hb.1
      exact .inr ⟨v, a, us', t, us, _, rfl, h1, clsDs_rep hb.2 h2, tx, T.an _ t hb.1 et, q _ rep_bl⟩
    · cases e
  · obtain ⟨v, w, rfl, rv, rw'⟩ := rpl2 h
    split at e
    · rename_i hb
      rw [Bool.and_eq_true] at hb
      cases e
      have hr : RepL K G [_] [w] := .cons (by rw [rw'.ty]; exact rep_ty) .nil
      have pc := clsDs_rep hb.2 hr
      obtain ⟨t, et, tx⟩ := T.ty _ G H v s rv hb.1
      have an := T.an _ t hb.1 et
      cases pc with
      | cons p1 p2 =>
        cases p2
        exact .inl ⟨v, w, t, _, _, rfl, p1, tx, kitAny1 an, q _ rep_bl⟩
    · cases e
  · obtain ⟨v, w, rfl, rv, rw'⟩ := rpl2 h
    split at e
    · rename_i hb
      rw [Bool.and_eq_true] at hb
      cases e
      have hr : RepL K G [_] [w] := .cons (by rw [rw'.obj]; exact rep_obj) .nil
      have pc := clsDs_rep hb.2 hr
      obtain ⟨t, et, tx⟩ := T.ty _ G H v s rv hb.1
      have an := T.an _ t hb.1 et
      cases pc with
      | cons p1 p2 =>
        cases p2
        exact .inl ⟨v, w, t, _, _, rfl, p1, tx, kitAny1 an, q _ rep_bl⟩
    · cases e
  · cases e
/-- plain data: no instance, no class -/
def plD : D → Bool
  | .ins _ _ _ => false
  | .obj _ => false
  | .ty _ => false
  | _ => true
theorem plD_ty {d : D} {G H : Hp} {v : V} (s : Sub G H) (h : RepP K G H d v) (e : plD d = true) : ∃ t, tyD d = some t ∧ TyX K H v t := by
  have key : ∀ t, tyD d = some t → TyX K H v t := fun t et => tyD_ok (Cs := []) (fun C hC => by cases hC) s h (by cases d <;> first | rfl | cases e) et
  cases d <;> first | exact ⟨_, rfl, key _ rfl⟩ | cases e
def isIntD : D → Bool
  | .int _ => true
  | .bl _ => true
  | _ => false
def isBoolD : D → Bool
  | .bl _ => true
  | _ => false
def isStrD : D → Bool
  | .str _ => true
  | _ => false
def isTupD : D → Bool
  | .tup _ => true
  | _ => false
def isLstD : D → Bool
  | .lst _ => true
  | .scr _ => true
  | _ => false
def isSeqD : D → Bool
  | .lst _ => true
  | .scr _ => true
  | .tup _ => true
  | _ => false
def isDicD : D → Bool
  | .dic _ _ => true
  | _ => false
theorem ka1 {a b : String} {r : Bool} (h : kitB a b = some r) : PySem.W.kitAny K (.type a) [.type b] = some r := kitAny_cons (kit_ty h) (fun e => by rw [e]; rfl) fun e => e
theorem ka2 {a b c : String} {r r' : Bool} (h : kitB a b = some r) (h' : kitB a c = some r') : PySem.W.kitAny K (.type a) [.type b, .type c] = some (r || r') := kitAny_cons (kit_ty h) (fun e => by rw [e]; exact ka1 h') fun e => by rw [e]; rfl
theorem isi_int : IsiT K [.type "int"] plD isIntD := ⟨fun d t hp e => by (cases d <;> first | exact Bool.noConfusion hp | (cases e; first | exact ka1 (r := true) (by decide +kernel) | exact ka1 (r := false) (by decide +kernel))), fun d G H v s h e => plD_ty s h e⟩
theorem isi_bool : IsiT K [.type "bool"] plD isBoolD := ⟨fun d t hp e => by (cases d <;> first | exact Bool.noConfusion hp | (cases e; first | exact ka1 (r := true) (by decide +kernel) | exact ka1 (r := false) (by decide +kernel))), fun d G H v s h e => plD_ty s h e⟩
theorem isi_str : IsiT K [.type "str"] plD isStrD := ⟨fun d t hp e => by (cases d <;> first | exact Bool.noConfusion hp | (cases e; first | exact ka1 (r := true) (by decide +kernel) | exact ka1 (r := false) (by decide +kernel))), fun d G H v s h e => plD_ty s h e⟩
theorem isi_tup : IsiT K [.type "tuple"] plD isTupD := ⟨fun d t hp e => by (cases d <;> first | exact Bool.noConfusion hp | (cases e; first | exact ka1 (r := true) (by decide +kernel) | exact ka1 (r := false) (by decide +kernel))), fun d G H v s h e => plD_ty s h e⟩
theorem isi_lst : IsiT K [.type "list"] plD isLstD := ⟨fun d t hp e => by (cases d <;> first | exact Bool.noConfusion hp | (cases e; first | exact ka1 (r := true) (by decide +kernel) | exact ka1 (r := false) (by decide +kernel))), fun d G H v s h e => plD_ty s h e⟩
theorem isi_dic : IsiT K [.type "dict"] plD isDicD := ⟨fun d t hp e => by (cases d <;> first | exact Bool.noConfusion hp | (cases e; first | exact ka1 (r := true) (by decide +kernel) | exact ka1 (r := false) (by decide +kernel))), fun d G H v s h e => plD_ty s h e⟩
theorem isi_seq : IsiT K [.type "list", .type "tuple"] plD isSeqD := ⟨fun d t hp e => by (cases d <;> first | exact Bool.noConfusion hp | (cases e; first | exact ka2 (r := true) (r' := false) (by decide +kernel) (by decide +kernel) | exact ka2 (r := false) (r' := true) (by decide +kernel) (by decide +kernel) | exact ka2 (r := false) (r' := false) (by decide +kernel) (by decide +kernel))), fun d G H v s h e => plD_ty s h e⟩
/-- one own class, asked of its own instances -/
def okC (C : Addr) : D → Bool
  | .ins C' _ _ => decide (C' = C)
  | _ => false
theorem isi_own {C : Addr} (q : ClsI K C) (hk : PySem.W.kitOne K (.ref C) (.ref C) = some true) : IsiT K [.ref C] (okC C) fun _ => true := by
  refine ⟨fun d t hp e => ?_, fun d G H v s h e => ?_⟩
  · cases d with
    | ins C' ns ds =>
      have := of_decide_eq_true (show decide (C' = C) = true from hp)
      subst this
      cases e
      exact kitAny_cons hk (fun e => by cases e) fun _ => rfl
    | _ => cases hp
  · cases d with
    | ins C' ns ds =>
      have := of_decide_eq_true (show decide (C' = C) = true from e)
      subst this
      exact ⟨_, rfl, tyD_ok (Cs := [C']) (fun c hc => by rw [List.mem_singleton.mp hc]; exact q) s h (by simp [insIn]) rfl⟩
    | _ => cases e
end
/-! ## calls with keywords only -/
section
variable {X : Cx} {CX : CXT} {k n : Nat} {f : Addr} {fd : FuncData} {ps ks : List Str} {sp : Sp} {E : St → XK} {x : Str} {p pos : Pos} {kws : List Keyword} {tk : TA} {g : List Value → List Value → List Value} {gV : List V → List V → List V}
def tCallN0 (m : Nat) (sp : Sp) (gV : List V → List V → List V) (E : St → XK) (tk : TA) : TE := fun σ H Q => tk σ H fun zs H2 => zs.length = m ∧ sp (gV [] zs) H2 Q (E σ)
theorem pe_callN0 (F : FnG X.prog X.w X.K X.mg X.base CX k f fd ps sp) (hr : RmG k X.A) (hg : Gl X x) (hm : X.mg x = some (.ref f)) (hk : PySem.W.keepIn X.K (.ref f) = true) (hb : KBn X.K fd ps 0 ks g gV) (hx : ∀ σ, PassesAt CX X σ (E σ))
    (hkw : PK X kws tk) (hall : (backToKw pos (keywordEach kws X.env)).all (·.1.isSome) = true := by rfl) (hks : (backToKw pos (keywordEach kws X.env)).filterMap (·.1) = ks := by rfl)
    (hdb : (x == ("__debug__" : Str)) = false := by decide)
    (hpl : ((backTo pos (starEach [] X.env)).any (·.1) || (backToKw pos (keywordEach kws X.env)).any (·.1.isNone)) = false := by rfl) :
    PE X (.Call (.Name x p) [] kws pos) (tCallN0 ks.length sp gV E tk) := by
  refine ⟨fun pins s σ H Q I h => ?_⟩
  refine PySem.wpAny_Call_Name_kw (ld_glob I hg hm ?_ hdb)
  refine PySem.W.callWith_KW0 (h₀ := X.base) I.ok.mod.kin hk hall (thn (hkw.run pos pins s σ H _ I h) fun ws s2 ⟨zs, H2, I2, rz, l2, q2⟩ => ⟨I2.kIn, ?_⟩) hpl
  rw [hks]
  exact runG (us := []) F hr (hx σ) I2 (hb.to _ [] _ I2.kIn rfl (rz.length.symm.trans l2)) (hb.rel .nil rz) q2
end
@[simp] def sw2 {α : Type} : List α → List α
  | [a, b] => [b, a]
  | l => l
theorem vals_sw2 {zs : List V} {ws : List Value} (h : Vals zs ws) : Vals (sw2 zs) (sw2 ws) := by
  cases h with
  | nil => exact .nil
  | cons a t =>
    cases t with
    | nil => exact .cons a .nil
    | cons b u =>
      cases u with
      | nil => exact .cons b (.cons a .nil)
      | cons c v => exact .cons a (.cons b (.cons c v))
theorem repL_sw2 {K : PySem.W.Frag} {G : Hp} {ds : List D} {vs : List V} (h : RepL K G ds vs) : RepL K G (sw2 ds) (sw2 vs) := by
  cases ds with
  | nil => rw [repL_nil.mp h]; exact .nil
  | cons a ds =>
    obtain ⟨v, vs', rfl, h1, h2⟩ := repL_cons.mp h
    cases ds with
    | nil => rw [repL_nil.mp h2]; exact .cons h1 .nil
    | cons b ds =>
      obtain ⟨w, vs2, rfl, h3, h4⟩ := repL_cons.mp h2
      cases ds with
      | nil => rw [repL_nil.mp h4]; exact .cons h3 (.cons h1 .nil)
      | cons c ds =>
        obtain ⟨u, vs3, rfl, h5, h6⟩ := repL_cons.mp h4
        exact .cons h1 (.cons h3 (.cons h5 h6))
section
variable {X : Cx} {E : WX} {kws : List Keyword} {x : Str} {p pos : Pos} {g : S → R (List D × S)} {ms : List Bool} {own : Bool} {F : FT} {k : Nat} {f : Addr} {fd : FuncData} {ps ks : List Str}
@[simp] def eCallSw (own : Bool) (F : FT) (g : S → R (List D × S)) : EF := fun ρ => g ρ >>= fun z => raiseAt z.2 (F (sw2 z.1)) >>= fun r => .ok (if own = true then .tmp r.1 else .val r.1, z.2)
/-- f(b = .., a = ..) of f(a, b) -/
theorem pr_callSw (Fn : FnG X.prog X.w X.K X.mg X.base (L2.CX X.prog X.w) k f fd ps (spF X.K [false, false] own F)) (hr : RmG k X.A) (hg : Gl X x) (hm : X.mg x = some (.ref f)) (hk : PySem.W.keepIn X.K (.ref f) = true) (hb : KBn X.K fd ps 0 ks (fun _ ws => sw2 ws) (fun _ zs => sw2 zs)) (hx : Takes X E)
    (ha : PKs X E kws g) (hal : ALen g 2) (hkl : ks.length = 2 := by rfl) (hall : (backToKw pos (keywordEach kws X.env)).all (·.1.isSome) = true := by rfl) (hks : (backToKw pos (keywordEach kws X.env)).filterMap (·.1) = ks := by rfl)
    (hdb : (x == ("__debug__" : Str)) = false := by decide) (hpl : ((backTo pos (starEach [] X.env)).any (·.1) || (backToKw pos (keywordEach kws X.env)).any (·.1.isNone)) = false := by rfl) :
    PR X E (.Call (.Name x p) [] kws pos) (eCallSw own F g) := by
  obtain ⟨t, pa, s⟩ := ha.ex
  refine ⟨_, pe_callN0 Fn hr hg hm hk hb (fun σ => passAt hx σ) pa hall hks hdb hpl, fun G H σ ρ r Q hw => s G H σ ρ r _ (hw.bind.mono (fun z hz q vs G1 H1 o1 h1 => ⟨?_, ?_⟩) fun _ _ q => q)⟩
  · rw [← h1.length, hal ρ z hz, hkl]
  · have hl : z.1.length = 2 := hal ρ z hz
    refine call_sh (ms := [false, false]) (ds := sw2 z.1) (by decide) ?_ o1 (repL_sw2 h1) q
    match z.1, hl with
    | [a, b], _ => rfl
end
end BR
set_option Elab.async false
set_option linter.all false
set_option maxRecDepth 100000
set_option maxHeartbeats 4000000
namespace L2
open PySem PySem.Spec PyProof.Rows
/-- the law's promise at the heap behind the top (while nothing is being shown) -/
theorem law_callG {P : Program} {w : World} {K : PySem.W.Frag} {mg mb : Str → Option Value} {CX : CXT} {k : Nat} {fa a : Addr} {fd : FuncData} {x : Str} {sp : Sp} {s₁ : Shared} {vs : List Value} {ns : List Int} (KX : K.In s₁.heap) (hns : s₁.heap.Ns mainGlobals mg)
    (hb : s₁.heap.Ns builtinsNs mb) (hbb : ∀ x : Str, x ≠ "__name__" → mb x = bootBuiltins x) (hlim : s₁.heap.NoLimit) (hg : s₁.gens = #[]) (ha : s₁.heap.get? a = some { cls := .type "list", data := .seq vs.toArray }) (hi : IntsAre vs ns) (hl : ns.length ≤ sizeLine)
    (hr : BR.RmG k callerA) (F : ∀ base : Heap, K.In base → base.Ns mainGlobals mg → BR.FnG P w K mg base CX k fa fd [x] sp) (hbind : ∀ (s : Shared) (u : Value), BindsTo s fd ⟨[u], []⟩ [(x, u)])
    (hsp : ∀ H : Hp, Only H → SqL K H a (ns.map V.int) → sp [.ref a] H (fun v _ => v = .bl true) fun _ _ _ => False) (hCX : ∀ H e s', CX [] H s₁ (fun _ _ _ => False) e s' → False) :
    codeAny (model P w) callerA (.call (.ref fa) ⟨[.ref a], []⟩) (fun r s' => r = .ok (.ret (.bool true)) ∧ OldK s₁.heap s'.heap ∧ s'.os = s₁.os ∧ AllBare s'.gens) s₁ := by
  have rv := vals_ints hi
  have lenV := hi.length
  have main : ∀ H : Hp, Only H ∧ SqL K H a (ns.map V.int) ∧ HOk P w H s₁.heap ∧ (∀ b, H b ≠ none → b = a) ∧ (H a ≠ none → K.lookup a = none) →
      codeAny (model P w) callerA (.call (.ref fa) ⟨[.ref a], []⟩) (fun r s' => r = .ok (.ret (.bool true)) ∧ OldK s₁.heap s'.heap ∧ s'.os = s₁.os ∧ AllBare s'.gens) s₁ := by
    rintro H ⟨hO, hS, hok, hA, hK⟩
    have onlyA : ∀ {b : Addr} {u : HO}, H b = some u → b = a := fun {b u} q => hA b (by rw [q]; simp)
    have noA : ∀ {b : Addr} {o : Obj} {es : Array DictEntry} {ep : Nat}, s₁.heap.get? b = some o → o.data = .dict es ep → H b = none := by
      intro b o es ep e d
      cases q : H b with
      | none => rfl
      | some u =>
        rw [onlyA q, ha] at e
        cases e
        cases (show Data.seq vs.toArray _ = Data.dict es ep from d)
    have nsK : ∀ {b : Addr} {m : Str → Option Value}, s₁.heap.Ns b m → (hidT s₁.heap H).Ns b m := by
      rintro b m ⟨o, es, ep, e, d, r⟩
      exact ⟨o, es, ep, hidT_get e (noA e d), d, r⟩
    have hKb : K.In (hidT s₁.heap H) := by
      intro b o e
      refine hidT_get (KX b o e) ?_
      cases q : H b with
      | none => rfl
      | some u =>
        have e' := onlyA q
        subst e'
        rw [hK (by rw [q]; simp)] at e
        cases e
    obtain ⟨mc, l1, l2⟩ := hlim
    have e0 : Env0 P w K mg (hidT s₁.heap H) callerA [] s₁ H :=
      ⟨rfl, ⟨hKb, nsK hns, ⟨mb, nsK hb, hbb⟩, ⟨mc, nsK l1, l2⟩⟩, fun b o e => of_hidT e, Nat.le_of_eq (hidT_size _ _), trivial, fun b z => absurd (show b ∈ ([] : List Addr) from z) (by simp), hok, .of_eq hg⟩
    have hc := (F _ hKb (nsK hns)).at_ callerA [] s₁ H ⟨[.ref a], []⟩ [.ref a] [.ref a] _ _ ⟨hr, e0, hbind s₁ (.ref a), .cons rfl .nil, hsp H hO hS⟩
    refine codeAny_mono hc fun r s' h => ?_
    match r, h with
    | .error e, h => exact (hCX H e s' h).elim
    | .ok (.ret u), ⟨v, H', os, bare, un, hok', r', q⟩ =>
      have q' : v = .bl true := q
      rw [q'] at r'
      have hu : u = Value.bool true := r'
      refine ⟨by rw [hu], OldK.of_keep fun b o e => ?_, os, bare⟩
      rcases hO b with z | ⟨ob, xs, z⟩
      · exact un.keep b o e z (by intro y; exact absurd (show b ∈ ([] : List Addr) from y) (by simp)) (by simp)
      · obtain ⟨e1, _⟩ := hok b _ z
        obtain ⟨e2, _⟩ := hok' b _ (un.frzs b ob _ z)
        rw [e] at e1
        cases e1
        exact e2
  cases hk : K.lookup a with
  | some o =>
    have e := KX a o hk
    rw [ha] at e
    cases e
    refine main (fun _ => none) ⟨fun _ => .inl rfl, .inr ⟨_, vs.toArray, _, hk, rfl, rfl, rfl, by rw [List.size_toArray, lenV]; exact hl, by simpa using rv⟩, fun b u z => ?_, fun b z => absurd rfl z, fun z => absurd rfl z⟩
    cases (show (none : Option HO) = some u from z)
  | none =>
    refine main (fun b => if b = a then some (.frz { cls := .type "list", data := .seq vs.toArray } (.lst (ns.map V.int))) else none) ⟨fun b => ?_, .inl (.inr ⟨{ cls := .type "list", data := .seq vs.toArray }, if_pos rfl⟩), fun b u z => ?_, fun b z => ?_, fun _ => hk⟩
    · by_cases hb : b = a
      · exact .inr ⟨_, _, if_pos hb⟩
      · exact .inl (if_neg hb)
    · by_cases hb : b = a
      · cases (if_pos hb).symm.trans z
        subst hb
        exact ⟨ha, by rw [List.length_map]; exact hl, vs, _, rv, ha⟩
      · cases (if_neg hb).symm.trans z
    · by_cases hb : b = a
      · exact hb
      · exact absurd (if_neg hb) z
theorem walk_ofEw {l : PySem.W.OpenLaw} {n k : Nat} {q : Program} {loose : List Str} {XP : (Str → Option Value) → Heap → Prop} {YP : World → Heap → Prop} {d : DefRec} {CX : World → CXT} {x : Str}
    (hn : l.most = some n) (hn2 : n ≤ sizeLine) (hdf : d.params.defaults = []) (hr : BR.RmG k callerA)
    (F : ∀ (w : World) (mg : Str → Option Value) (fa : Addr) (h : Heap), YP w h → h.Ns mainGlobals mg → mg d.name = some (.ref fa) →
      ∃ (K : PySem.W.Frag) (fd : FuncData) (sp : Sp), K.In h ∧ (∀ (s : Shared) (u : Value), BindsTo s fd ⟨[u], []⟩ [(x, u)]) ∧
        (∀ (H : Hp) (a : Addr) (ns : List Int), ns.length ≤ n → Only H → SqL K H a (ns.map V.int) → sp [.ref a] H (fun v _ => v = .bl true) fun _ _ _ => False) ∧
        ∀ base : Heap, K.In base → base.Ns mainGlobals mg → BR.FnG l.prog w K mg base (CX w) k fa fd [x] sp)
    (hCX : ∀ (w : World) (H : Hp) (s : Shared) (e : Value) (s' : Shared), CX w [] H s (fun _ _ _ => False) e s' → False) :
    PySem.W.WalkO q loose XP YP l.row.toRowW d [] (fun f vs => PySem.call f vs) := by
  refine Att.attach_call hn hdf fun w s₀ s₁ mg mb fa o pm cd doc a vs ns G Y ho hd hcd hmg hobj hints hlen hg => ?_
  obtain ⟨K, fd, sp, KX, hb, hsp, hF⟩ := F w mg fa _ Y G.T.g hmg
  exact law_callG KX G.T.g G.T.b G.T.builtins G.T.nolimit hg hobj hints (Nat.le_trans hlen hn2) hr hF hb (fun H hO hS => hsp H a ns hlen hO hS) fun H e s' => hCX w H s₁ e s'
theorem cx_out {P : Program} {w : World} {H : Hp} {s : Shared} {e : Value} {s' : Shared} (h : L2.CX P w [] H s (fun _ _ _ => False) e s') : False := by
  obtain ⟨a, B, H', cls, d, h⟩ := h
  exact h.2.2.2.2.2.2.2
end L2
namespace BR
open PySem PySem.W PySem.Calls L2

/-! ## the head: facts are Bools of the written part -/
abbrev Fct := PySem.W.Frag → Bool
def obsB (fa : List Fct) (fn : List He5.DefA) (K : Frag) : He.AlD := ((fa.all fun f => f K) && fn.all fun d => d.ok K, fn.map fun d => He5.fnA K (d.at_ K))
def SaysB (fa : List Fct) (fn : List He5.DefA) (K : Frag) : Prop := obsB fa fn K = He5.valA fn
def obsBG (n : Nat) (fa : List Fct) (fn : List He5.DefA) (g : Addr → Option Obj) : He.AlD := obsB fa fn (He.frG g (He5.asA g n))
def hookB (n : Nat) (fa : List Fct) (fn : List He5.DefA) : PySem.W.Hook where
  α := He.AlD
  obs := fun s => obsBG n fa fn s.heap.get?
  val := fun _ => He5.valA fn
  says := fun _ h => ∃ K : Frag, K.In h ∧ SaysB fa fn K
  of := fun _ _ e => ⟨_, He.frG_in, e⟩
  keeps := fun _ _ _ ⟨K, hK, c⟩ k => ⟨K, Frag.In.keeps hK k, c⟩
theorem obsBG_eq {n : Nat} {fa : List Fct} {fn : List He5.DefA} {g : Addr → Option Obj} {s : Shared} (h : ∀ a, g a = s.heap.get? a) : obsBG n fa fn g = (hookB n fa fn).obs s := by
  have e : g = s.heap.get? := funext h
  rw [e] <;> rfl
theorem ba' {a b : Bool} (h : (a && b) = true) : a = true ∧ b = true := by cases a <;> cases b <;> simp_all
section
variable {fa : List Fct} {fn : List He5.DefA} {K : Frag}
theorem SaysB.fact (c : SaysB fa fn K) (i : Nat) {f : Fct} (h : fa[i]? = some f := by rfl) : f K = true := by
  have c1 := (ba' (show ((fa.all fun f => f K) && fn.all fun d => d.ok K) = true from congrArg (fun z : He.AlD => z.1) c)).1
  exact List.all_eq_true.mp c1 f (List.mem_of_getElem? h)
theorem SaysB.def_ (c : SaysB fa fn K) (i : Nat) {d : He5.DefA} (h : fn[i]? = some d := by rfl) : ∃ fd, L2.FunD K d.name d.qual d.params d.body d.scope (d.dvs K) (d.kws K) (d.at_ K) fd := by
  have c2 := (ba' (show ((fa.all fun f => f K) && fn.all fun d => d.ok K) = true from congrArg (fun z : He.AlD => z.1) c)).2
  have e : fn.map (fun d => He5.fnA K (d.at_ K)) = fn.map He5.DefA.val := congrArg (fun z : He.AlD => z.2) c
  have e2 : (fn.map fun d => He5.fnA K (d.at_ K))[i]? = (fn.map He5.DefA.val)[i]? := by rw [e]
  rw [List.getElem?_map, List.getElem?_map, h] at e2
  exact He5.DefA.funD (Option.some.inj e2) (List.all_eq_true.mp c2 d (List.mem_of_getElem? h))
end
/-! ### facts -/
def fF (f : He.Fa) : Fct := fun K => f.ok K
def fProp (C f : PySem.Str) : Fct := fun K => He.eqO (findIn K (.ref (He.ga K C)) f) (some (some (.ref (He.ma K (He.ga K C) f)))) && (He.eqO (specialIn K (.ref (He.ma K (He.ga K C) f)) "__get__") (some (some (.builtin "property.__get__"))) && (decide (takesIn K (.ref (He.ma K (He.ga K C) f)) = some true) && (match recIn K (He.ma K (He.ga K C) f) "property" with
  | some (.ref _ :: _) => true
  | _ => false)))
theorem prop_ok {K : Frag} {C f : PySem.Str} (h : fProp C f K = true) : PropOf K (He.ga K C) f (He.ma K (He.ga K C) f) (He5.wf K (He.ga K C) "property" f) := by
  obtain ⟨h1, h⟩ := ba' h
  obtain ⟨h2, h⟩ := ba' h
  obtain ⟨h3, h4⟩ := ba' h
  refine ⟨He.eqO_ok h1, He.eqO_ok h2, of_decide_eq_true h3, ?_⟩
  unfold He5.wf
  split at h4
  · rename_i f r e
    exact ⟨r, by rw [e]⟩
  · cases h4
def fClsI (C : PySem.Str) : Fct := fun K => (He.Fa.cls C).ok K && (He.eqO (findIn K (.ref (He.ga K C)) "__class__") (some (some (.builtin "object.__class__"))) && (He.eqO (specialIn K (.builtin "object.__class__") "__get__") (some (some (.builtin "getset_descriptor.__get__"))) && (decide (takesIn K (.builtin "object.__class__") = some true) && decide (mroIn K (He.ga K C) (.type "object") = some true))))
theorem clsI_ok {K : Frag} {C : PySem.Str} (h : fClsI C K = true) : ClsI K (He.ga K C) := by
  obtain ⟨h1, h⟩ := ba' h
  obtain ⟨h2, h⟩ := ba' h
  obtain ⟨h3, h⟩ := ba' h
  obtain ⟨h4, h5⟩ := ba' h
  exact ⟨He.cls_ok h1, He.eqO_ok h2, He.eqO_ok h3, of_decide_eq_true h4, of_decide_eq_true h5⟩
def fKit (C D : PySem.Str) (b : Bool) : Fct := fun K => decide (kitOne K (.ref (He.ga K C)) (.ref (He.ga K D)) = some b)
theorem kit_ok {K : Frag} {C D : PySem.Str} {b : Bool} (h : fKit C D b K = true) : kitOne K (.ref (He.ga K C)) (.ref (He.ga K D)) = some b := of_decide_eq_true h
def fKitT (C : PySem.Str) (T : String) (b : Bool) : Fct := fun K => decide (kitOne K (.ref (He.ga K C)) (.type T) = some b)
theorem kitT_ok {K : Frag} {C : PySem.Str} {T : String} {b : Bool} (h : fKitT C T b K = true) : kitOne K (.ref (He.ga K C)) (.type T) = some b := of_decide_eq_true h
def fKitB (T : String) (C : PySem.Str) (b : Bool) : Fct := fun K => decide (kitOne K (.type T) (.ref (He.ga K C)) = some b)
theorem kitB_ok {K : Frag} {C : PySem.Str} {T : String} {b : Bool} (h : fKitB T C b K = true) : kitOne K (.type T) (.ref (He.ga K C)) = some b := of_decide_eq_true h
def fCRead (C : PySem.Str) : Fct := fun K => readsIn K (He.ga K C) (.type "type") && He.eqO (specialIn K (.ref (He.ga K C)) "__getattribute__") (some (some (.builtin "type.__getattribute__")))
theorem cread_ok {K : Frag} {C : PySem.Str} (h : fCRead C K = true) : ClX.CRead K (He.ga K C) (.type "type") := by
  obtain ⟨h1, h2⟩ := ba' h
  exact ⟨h1, He.eqO_ok h2⟩
def fCVal (C f : PySem.Str) (v : V) : Fct := fun K => match findCls K (.ref (He.ga K C)) (.type "type") f with
  | some (.val u) => He.relB v u
  | _ => false
theorem cval_ok {K : Frag} {C f : PySem.Str} {v : V} (h : fCVal C f v K = true) : ∃ u, ClX.CVal K (He.ga K C) (.type "type") f v u := by
  unfold fCVal at h
  split at h
  · rename_i u e
    exact ⟨u, e, He.relB_ok h⟩
  · cases h
/-- the law's end -/
theorem sp_law {K : Frag} {F : FT} {d : List D} {H : Hp} {a : Addr} {ns : List Int} (h : F [.scr ns] = .ok (.bl true, d)) (hS : SqL K H a (ns.map V.int)) (hT : TbOk K H) : spF K [false] false F [.ref a] H (fun v _ => v = .bl true) fun _ _ _ => False := by
  refine ⟨H, [.scr ns], [], ⟨fun b o e => .inl (.inl e), hT⟩, .sh (by unfold Rep; exact ⟨a, rfl, hS⟩) .nil, ?_⟩
  rw [h]
  intro v G' H' _ _ _ re
  have re' : Rep K G' (.bl true) v := re
  unfold Rep at re'
  exact re'
end BR
set_option Elab.async false
set_option linter.all false
set_option maxRecDepth 100000
set_option maxHeartbeats 4000000
namespace BR
open PySem L2
section
variable {X : Cx} {E : WX} {elt c tg iter : Expr} {scope : Scope} {own : List (Str × Nat)} {pos py spos pos' : Pos} {it : S → R (List D × S)} {g : D → S → Option S} {p : S → R (Bool × S)} {fe : EF} {tv vs : List Nat} {i j : Nat} {x y : Str}
theorem asg_snd {te : TE} {f : EF} (s : Snd X.K E te f) : SndS X.K E (tAsg te (gName i)) (sAsg i f) := by
  intro G H σ ρ r Dn hw
  refine s G H σ ρ r _ (hw.bind.mono (fun z _ q v G' H' o h => ?_) fun _ _ q => q)
  obtain ⟨ρ', e1, q⟩ := q.opt
  obtain ⟨G2, o2⟩ := put_ok o h e1
  exact q _ G2 H' o2
/-- y = [e for x in ..] on one line, y a local -/
theorem st_asgLc0 {hs0 : X.calm = true} (hN : X.N.Nodup) (hy : X.N[i]? = some y) (hyl : X.env.scope.names.lookup y = some .local) (hi : PIt X E tg iter it) (ok : BlkOk X.N X.env.scope scope own) (hv : ∀ i ∈ tv, i ∈ vs)
    (hg : ∀ (s : Shared) (H : Hp) (C : Addr) (cl : List (Str × Addr)) (fp : List Addr), PTg (X.blk s H scope (compEnvC scope cl C X.env) fp) tv tg g)
    (he : ∀ (s : Shared) (H : Hp) (C : Addr) (cl : List (Str × Addr)) (fp : List Addr), PR (X.blk s H scope (compEnvC scope cl C X.env) fp) W0 elt fe)
    (hsw : swapsWith (.ListComp elt [⟨tg, iter, [], 0⟩] scope pos) (some (.Name y py)) spos.line X.env = pure true := by exact sw_true rfl rfl rfl rfl) (hvs : own.map (·.2) = vs := by rfl) (hs : ∀ x, foldedSetIterable iter X.env x = pure x := by intro _; rfl) :
    PSt X E (.Assign [.Name y py] (.ListComp elt [⟨tg, iter, [], 0⟩] scope pos) spos) (sAsg i (eLc vs it g pYes fe)) := by
  subst hvs
  obtain ⟨wi, pi, si⟩ := hi.ex
  exact ⟨_, ps_setLc (elt := elt) (ifs := []) (g := gF X.K tv g) (tt := tYes) (te := tF X.K W0 fe) hs0 hN hy hyl hsw pi ok (fun s H C cl fp => (hg s H C cl fp).pg) (fun s H C cl fp => pts_nil) (fun s H C cl fp => (he s H C cl fp).pe) hs,
    asg_snd (snd_lc si hv (hg X.s_0 X.H_0 0 [] []).mu fun G H σ ρ r Q w => w G H (Out.refl r))⟩
/-- .. with a test -/
theorem st_asgLc {hs0 : X.calm = true} (hN : X.N.Nodup) (hy : X.N[i]? = some y) (hyl : X.env.scope.names.lookup y = some .local) (hi : PIt X E tg iter it) (ok : BlkOk X.N X.env.scope scope own) (hv : ∀ i ∈ tv, i ∈ vs)
    (hg : ∀ (s : Shared) (H : Hp) (C : Addr) (cl : List (Str × Addr)) (fp : List Addr), PTg (X.blk s H scope (compEnvC scope cl C X.env) fp) tv tg g)
    (ht : ∀ (s : Shared) (H : Hp) (C : Addr) (cl : List (Str × Addr)) (fp : List Addr), PB (X.blk s H scope (compEnvC scope cl C X.env) fp) W0 c p)
    (he : ∀ (s : Shared) (H : Hp) (C : Addr) (cl : List (Str × Addr)) (fp : List Addr), PR (X.blk s H scope (compEnvC scope cl C X.env) fp) W0 elt fe)
    (hsw : swapsWith (.ListComp elt [⟨tg, iter, [c], 0⟩] scope pos) (some (.Name y py)) spos.line X.env = pure true := by exact sw_true rfl rfl rfl rfl) (hvs : own.map (·.2) = vs := by rfl) (hs : ∀ x, foldedSetIterable iter X.env x = pure x := by intro _; rfl) :
    PSt X E (.Assign [.Name y py] (.ListComp elt [⟨tg, iter, [c], 0⟩] scope pos) spos) (sAsg i (eLc vs it g p fe)) := by
  subst hvs
  obtain ⟨wi, pi, si⟩ := hi.ex
  exact ⟨_, ps_setLc (elt := elt) (ifs := [c]) (g := gF X.K tv g) (tt := tFB X.K W0 p) (te := tF X.K W0 fe) hs0 hN hy hyl hsw pi ok (fun s H C cl fp => (hg s H C cl fp).pg) (fun s H C cl fp => pts_one (ht s H C cl fp).pt) (fun s H C cl fp => (he s H C cl fp).pe) hs,
    asg_snd (snd_lc si hv (hg X.s_0 X.H_0 0 [] []).mu fun G H σ ρ r Q w => ⟨G, ρ, r, w⟩)⟩
/-- .. over the keys of a dict -/
theorem st_asgLcK {hs0 : X.calm = true} (hN : X.N.Nodup) (hy : X.N[i]? = some y) (hyl : X.env.scope.names.lookup y = some .local) (hNj : X.N[j]? = some x) (hvj : Vis X.env.scope x) (ok : BlkOk X.N X.env.scope scope own) (hv : ∀ i ∈ tv, i ∈ vs)
    (hg : ∀ (s : Shared) (H : Hp) (C : Addr) (cl : List (Str × Addr)) (fp : List Addr), PTg (X.blk s H scope (compEnvC scope cl C X.env) fp) tv tg g)
    (ht : ∀ (s : Shared) (H : Hp) (C : Addr) (cl : List (Str × Addr)) (fp : List Addr), PB (X.blk s H scope (compEnvC scope cl C X.env) fp) W0 c p)
    (he : ∀ (s : Shared) (H : Hp) (C : Addr) (cl : List (Str × Addr)) (fp : List Addr), PR (X.blk s H scope (compEnvC scope cl C X.env) fp) W0 elt fe) (hd : (x == ("__debug__" : Str)) = false := by decide) (hcd : (x == ("__classdict__" : Str)) = false := by decide)
    (hsw : swapsWith (.ListComp elt [⟨tg, .Name x pos', [c], 0⟩] scope pos) (some (.Name y py)) spos.line X.env = pure true := by exact sw_true rfl rfl rfl rfl) (hvs : own.map (·.2) = vs := by rfl) (hs : ∀ z, foldedSetIterable (.Name x pos') X.env z = pure z := by intro _; rfl) :
    PSt X E (.Assign [.Name y py] (.ListComp elt [⟨tg, .Name x pos', [c], 0⟩] scope pos) spos) (sAsg i (eLcD vs (fun ks _ => keysD ks) j g p fe)) := by
  subst hvs
  have ps := ps_setLc (pos := pos) (spos := spos) (py := py) (elt := elt) (ifs := [c]) (g := gF X.K tv g) (tt := tFB X.K W0 p) (te := tF X.K W0 fe) hs0 hN hy hyl hsw (pi_keys (tg := tg) (pe_var (i := j) (pos := pos') hNj hvj hd hcd)) ok (fun s H C cl fp => (hg s H C cl fp).pg) (fun s H C cl fp => pts_one (ht s H C cl fp).pt) (fun s H C cl fp => (he s H C cl fp).pe) hs
  have sn := lcD_core (E := E) (fe := fe) (gt := gF X.K tv g) (X := X) (i := j) (fun a o kvs => Itk a o kvs) (wi := iKeys (tVar j)) (fun σ H Rr a od kvs h1 h2 h3 => ⟨_, h1, a, od, rfl, .inl ⟨kvs, h2, h3⟩⟩) (sel := fun ks _ => keysD ks) (fun h1 h2 _ => wlk_keysD h1 h2) hv (hg X.s_0 X.H_0 0 [] []).mu (tt := tFB X.K W0 p) fun G H σ ρ r Q w => ⟨G, ρ, r, w⟩
  refine ⟨_, ps_or (ps_lock ps) ps, fun G H σ ρ r Dn hw => ?_⟩
  rcases asg_snd (i := i) sn G H σ ρ r Dn hw with q | q
  · exact .inl q
  · exact .inr q
/-! ### a, b = x, y where some name is a cell: the pair is made and taken apart -/
theorem HoldT.newT {K : PySem.W.Frag} {Hs G H G1 H1 : Hp} {σ : St} {ρ ρ1 : S} {hs : List Hd} {ws ts : List V} (o : Out K G H σ ρ G1 H1 ρ1) (h : HoldT K Hs G H σ ρ hs ws ts) : HoldT K Hs G1 H1 σ ρ1 hs ws ts := h.pers o
theorem st_parC {a b : Expr} {f : S → R (List Hd × S)} {px : Pos} {kt k2 : Nat} {pt pt2 : Pos} (hc : X.calm = true) (hN : X.N.Nodup) (hi : X.N[i]? = some x) (hj : X.N[j]? = some y) (hx : Loc X.env.scope x) (hy : Loc X.env.scope y) (ha : PPr X E [a, b] f)
    (hfx : X.fn x = true ∨ X.env.scope.names.lookup x = some .local := by first | exact .inl rfl | exact .inr rfl | assumption) (hfy : X.fn y = true ∨ X.env.scope.names.lookup y = some .local := by first | exact .inl rfl | exact .inr rfl | assumption)
    (hs : swapsWithSole [.Tuple [.Name x px, .Name y py] kt pt] (.Tuple [a, b] k2 pt2) pos.line X.env = pure false := by rfl) (hw : swappedStores [.Tuple [.Name x px, .Name y py] kt pt] (.Tuple [a, b] k2 pt2) X.env = pure none := by rfl)
    (h1 : (assignEach [.Tuple [.Name x px, .Name y py] kt pt] X.env).map (·.2) = [assign (.Tuple [.Name x px, .Name y py] kt pt) X.env] := by rfl)
    (hn : (assignEach [.Name x px, .Name y py] X.env).length = 2 := by rfl) (hst : (assignEach [.Name x px, .Name y py] X.env).findIdx? (·.1) = none := by rfl)
    (hs1 : (assignEach [.Name x px, .Name y py] X.env).map (·.2) = assign (.Name x px) X.env :: (assignEach [.Name y py] X.env).map (·.2) := by rfl)
    (hs2 : (assignEach [.Name y py] X.env).map (·.2) = assign (.Name y py) X.env :: (assignEach [] X.env).map (·.2) := by rfl) :
    PSt X E (.Assign [.Tuple [.Name x px, .Name y py] kt pt] (.Tuple [a, b] k2 pt2) pos) (sPar [i, j] f) := by
  obtain ⟨t, pe, s⟩ := ha.ex
  refine ⟨_, ps_asg (pe_tup pe) (pg_tup hc (pgs_cons (pg_name (i := i) hN hi hx hfx) (pgs_cons (pg_name (i := j) hN hj hy hfy) pgs_nil hs2) hs1) hn hst) hs hw h1, fun G H σ ρ r Dn hw => s G H σ ρ r _ (hw.bind.mono (fun z _ q vs ts G1 H1 o1 h1 => ?_) fun _ _ q => q)⟩
  obtain ⟨ρ', e1, qq⟩ := q.opt
  have hlen : ∀ {is : List Nat} {hs : List Hd} {ρ : S}, putAll is hs ρ = some ρ' → is.length = hs.length := by
    intro is
    induction is with
    | nil => intro hs ρ e; cases hs with
      | nil => rfl
      | cons => cases e
    | cons i is ih => intro hs ρ e; cases hs with
      | nil => cases e
      | cons h hs =>
        have e' : ((putS i h ρ).bind fun ρ' => putAll is hs ρ') = some ρ' := e
        cases hp : putS i h ρ with
        | none => rw [hp] at e'; cases e'
        | some ρ2 => rw [hp] at e'; exact congrArg Nat.succ (ih e')
  have hl2 := hlen e1
  have hv : vs.length = 2 := by
    have : ∀ {hs : List Hd} {ws ts : List V}, HoldT X.K H G1 H1 σ z.2 hs ws ts → ws.length = hs.length := fun h => by
      induction h with
      | nil => rfl
      | cons _ _ _ _ ih => exact congrArg Nat.succ ih
    rw [this h1, ← hl2]; rfl
  refine ⟨by rw [hv]; decide, fun q0 hq => ?_⟩
  have on := Out.new (o := .tup vs) o1.rel hq
  have o2 := putAll_ok (o1.trans on).s (h1.pers on) e1
  match vs, hv with
  | [u1, u2], _ => exact ⟨q0, [u1, u2], rfl, SqT.of upd_same, rfl, u1, [u2], rfl, u2, [], rfl, rfl, qq _ G1 _ o2⟩
end
end BR
set_option Elab.async false
set_option linter.all false
set_option maxRecDepth 100000
set_option maxHeartbeats 400000
namespace BR
open PySem L2
/-! ## evaluation by simp -/
theorem dIc_ok {C : Int → Int → Prop} {g : Int → Int → Int} {i j : Int} (h : C i j) : dIc C g (.int i) (.int j) = some (.im (.int (g i j))) := by
  unfold dIc
  exact if_pos h
theorem dMulI_ok {i j : Int} (h : CMul i j) : dMulI (.int i) (.int j) = some (.im (.int (i * j))) := by
  unfold dMulI
  exact if_pos h
end BR
set_option Elab.async false
set_option linter.all false
set_option maxRecDepth 100000
set_option maxHeartbeats 4000000
namespace BR
open PySem L2
/-! ## repr of data -/
section
variable {K : PySem.W.Frag} {H : Hp}
mutual
theorem dp_noDict : ∀ (p : PyData) {v : V}, Dp K H v p → p.hasDict = false
  | .none, _, h => rfl
  | .bool _, _, h => rfl
  | .int _, _, h => rfl
  | .str _, _, h => rfl
  | .list ds, _, h => by
    cases h with
    | lst _ h2 => simp only [PyData.hasDict]; exact dp_noDictL ds h2
  | .tuple ds, _, h => by
    cases h with
    | tup _ h2 => simp only [PyData.hasDict]; exact dp_noDictL ds h2
  | .dict _, _, h => by cases h
theorem dp_noDictL : ∀ (ps : List PyData) {vs : List V}, DpAll K H vs ps → PyData.hasDictAll ps = false
  | [], _, h => rfl
  | p :: ps, _, h => by
    cases h with
    | cons h1 h2 => simp only [PyData.hasDictAll, dp_noDict p h1, dp_noDictL ps h2, Bool.or_false]
end
end
def rReprD (K : PySem.W.Frag) : List V → Hp → VK → Prop := fun xs H Q => ∃ x p, xs = [x] ∧ Dp K H x p ∧ p.showable = true ∧ p.depth ≤ 60 ∧ p.shown.length ≤ sizeLine ∧ Q (.str p.shown) H
section
variable {X : Cx} {K : PySem.W.Frag}
theorem call_reprD (hg : X.A.guards = some []) (hu : X.A.units + 64 < cLine) : CallR X (.builtin "repr") (rReprD X.K) := by
  intro pins s σ H xs us Q I r h
  obtain ⟨x, p, rfl, hd, hs, hdp, hl, q⟩ := h
  cases r with
  | cons rx rt =>
    rename_i u ut
    cases rt
    have nd := dp_noDict p hd
    obtain ⟨as, rd⟩ := Dp.reads I p x u hd rx
    cases hd with
    | non => cases rx; exact PySem.P.repr_of_none ⟨.str _, H, I.tok _, ⟨_, rfl⟩, q⟩
    | bl b => cases rx; exact PySem.P.repr_of_bool ⟨.str _, H, I.tok _, ⟨_, rfl⟩, q⟩
    | int i =>
      obtain ⟨t, rfl⟩ := rx
      exact PySem.P.repr_of_int (by simpa [PyData.showable] using hs) ⟨.str _, H, I.tok _, ⟨_, rfl⟩, q⟩
    | str y =>
      obtain ⟨t, rfl⟩ := rx
      exact PySem.P.repr_of_str ⟨.str _, H, I.tok _, ⟨_, rfl⟩, q⟩ hl
    | lst h1 h2 =>
      cases rx
      exact PySem.repr_of_reads' rd hs (fun z => by rw [nd] at z; cases z) hg (by omega) (fun _ _ z => z) (fun h' u tk hk => ⟨.str _, H, I.kept hk, ⟨_, rfl⟩, q⟩) hl
    | tup h1 h2 =>
      cases rx
      exact PySem.repr_of_reads' rd hs (fun z => by rw [nd] at z; cases z) hg (by omega) (fun _ _ z => z) (fun h' u tk hk => ⟨.str _, H, I.kept hk, ⟨_, rfl⟩, q⟩) hl
def okShow (p : PyData) : Prop := p.showable = true ∧ p.depth ≤ 60 ∧ p.shown.length ≤ sizeLine
open Classical in
noncomputable def dRepr : List D → Option Rz
  | [d] => match toP d with
    | some p => if okShow p then some (.im (.str p.shown)) else none
    | none => none
  | _ => none
theorem d_repr : CallD K (rReprD K) dRepr := by
  intro G H ds vs s h z Q e q
  unfold dRepr at e
  split at e
  · obtain ⟨v, rfl, rv⟩ := rpl1 h
    split at e
    · rename_i p ep
      split at e
      · rename_i hs
        cases e
        exact ⟨v, p, rfl, dp_repP s rv ep, hs.1, hs.2.1, hs.2.2, q _ rep_str⟩
      · cases e
    · cases e
  · cases e
/-- str of an int -/
def dStrI : List D → Option Rz
  | [.int i] => if i.natAbs.log2 < 1920 then some (.im (.str (toString i))) else none
  | _ => none
theorem d_strI : CallD K (fun xs H Q => ∃ i : Int, xs = [.int i] ∧ i.natAbs.log2 < 1920 ∧ Q (.str (toString i)) H) dStrI := by
  intro G H ds vs s h z Q e q
  unfold dStrI at e
  split at e
  · obtain ⟨v, rfl, rv⟩ := rpl1 h
    split at e
    · cases e
      have := rv.int; subst this
      exact ⟨_, rfl, by assumption, q _ rep_str⟩
    · cases e
  · cases e
end
end BR
set_option Elab.async false
set_option linter.all false
set_option maxRecDepth 100000
set_option maxHeartbeats 4000000
namespace BR
open PySem PySem.Spec PyProof.Rows L2
/-! ## len, str, repr, ==, != and calls by an own class's defs -/
section
variable {X : Cx} {CX : CXT} {k : Nat} {f C : Addr} {fd : FuncData} {ps : List Str} {sp : Sp} {E : XK} {pins : List (Addr × Obj)} {σ : L2.St} {H : Hp} {s : Shared}
theorem runAt {A' : Around} {us : List Value} {vs : List V} {Q : VK} (hr : RmG k A') (hfr : A'.frames = X.A.frames) (F : FnG X.prog X.w X.K X.mg X.base CX k f fd ps sp) (hb : Binds X.K fd ps []) (hx : Passes CX X E) (I : Inv X pins σ H s) (r : Vals vs us) (h : sp vs H Q E) :
    wpAny (model X.prog X.w) A' (call (.ref f) us) (EP X pins σ Q) X.xe s := by
  have e := I.env0
  have e0 : Env0 X.prog X.w X.K X.mg X.base A' X.stack s H := ⟨by rw [hfr]; exact e.frames, e.mod, e.bs, e.bsz, e.funs, e.frf, e.hok, e.bare⟩
  have hl : us.length = ps.length := by rw [← r.length]; exact F.len _ _ _ _ h
  have b := hb s us I.kIn (by simpa using hl)
  rw [List.append_nil] at b
  refine wpAny_call (codeAny_mono (F.at_ A' X.stack s H ⟨us, []⟩ us vs Q E ⟨hr, e0, b, r, h⟩) fun r s' hq => ?_)
  rcases callEnd I (fun p H s e s' => hx p σ H s e s') hq with ⟨u, rfl, z⟩ | ⟨er, rfl, z⟩
  · exact z
  · exact z
theorem inst_at {a dx : Addr} {fs : List (Str × V)} (I : Inv X pins σ H s) (ea : H a = some (.ins C dx fs)) : ∃ ox od, PySem.W.InstAt s.heap a ox C od ∧ ox.data = .plain := by
  obtain ⟨mA, O, _⟩ := ins_get I.hok ea
  obtain ⟨od, J, _⟩ := O.look
  exact ⟨_, _, J, rfl⟩
/-- the class C has the special name as the def at f -/
structure SpOf (K : PySem.W.Frag) (C f : Addr) (nm : Str) : Prop where
  at_ : PySem.W.findIn K (.ref C) nm = some (some (.ref f))
  fn : PySem.W.isFn K (.ref f) = true
theorem cr_lenO (hs : SpOf X.K C f "__len__") (F : FnG X.prog X.w X.K X.mg X.base CX k f fd ps sp) (hr : RmG (k + 1) X.A) (hb : Binds X.K fd ps []) (hx : Passes CX X E) :
    CallR X (.builtin "len") (fun xs H Q => ∃ a dx fs, xs = [.ref a] ∧ H a = some (.ins C dx fs) ∧ sp [.ref a] H (fun v H2 => ∃ n : Nat, v = .int n ∧ n ≤ 1000000 ∧ Q (.int n) H2) E) := by
  intro pins s σ H xs us Q I r h
  obtain ⟨a, dx, fs, rfl, ea, hsp⟩ := h
  obtain ⟨u, rfl, rfl⟩ : ∃ u, us = [u] ∧ u = Value.ref a := by
    cases r with
    | cons rx rt => cases rt; exact ⟨_, rfl, rx⟩
  obtain ⟨ox, od, J, _⟩ := inst_at I ea
  obtain ⟨m, hF⟩ := I.fr
  refine PySem.W.len_K hF I.ok.mod.kin J hs.at_ hs.fn (wpAny_mono (runAt (A' := X.A.in1) hr.in1 rfl F hb hx I (vs := [.ref a]) (.cons rfl .nil) hsp) (fun v s' z => ?_) fun _ _ z => z)
  obtain ⟨v', H', I', rv, n, rfl, hn, q⟩ := z
  obtain ⟨t, rfl⟩ := rv
  exact ⟨⟨by omega, by have : (n : Int) ≤ 1000000 := by omega
                       exact Int.lt_of_le_of_lt this (by decide)⟩, .int n, H', I'.tok _, ⟨_, rfl⟩, q⟩
theorem cr_reprO (hs : SpOf X.K C f "__repr__") (F : FnG X.prog X.w X.K X.mg X.base CX k f fd ps sp) (hr : RmG (k + 1) X.A) (hb : Binds X.K fd ps []) (hx : Passes CX X E) :
    CallR X (.builtin "repr") (fun xs H Q => ∃ a dx fs, xs = [.ref a] ∧ H a = some (.ins C dx fs) ∧ sp [.ref a] H (fun v H2 => ∃ y, v = .str y ∧ Q (.str y) H2) E) := by
  intro pins s σ H xs us Q I r h
  obtain ⟨a, dx, fs, rfl, ea, hsp⟩ := h
  obtain ⟨u, rfl, rfl⟩ : ∃ u, us = [u] ∧ u = Value.ref a := by
    cases r with
    | cons rx rt => cases rt; exact ⟨_, rfl, rx⟩
  obtain ⟨ox, od, J, _⟩ := inst_at I ea
  obtain ⟨m, hF⟩ := I.fr
  have hu := hr.units
  refine PySem.W.repr_K (show X.A.units + 1 < cLine by omega) hF I.ok.mod.kin J hs.at_ hs.fn (wpAny_mono (runAt (A' := X.A.in1) hr.in1 rfl F hb hx I (vs := [.ref a]) (.cons rfl .nil) hsp) (fun v s' z => ?_) fun _ _ z => z)
  obtain ⟨v', H', I', rv, y, rfl, q⟩ := z
  obtain ⟨t, rfl⟩ := rv
  exact ⟨.str y, H', I', ⟨_, rfl⟩, q⟩
theorem cr_strO (hs : SpOf X.K C f "__str__") (F : FnG X.prog X.w X.K X.mg X.base CX k f fd ps sp) (hr : RmG (k + 2) X.A) (hb : Binds X.K fd ps []) (hx : Passes CX X E) :
    CallR X (.type "str") (fun xs H Q => ∃ a dx fs, xs = [.ref a] ∧ H a = some (.ins C dx fs) ∧ sp [.ref a] H (fun v H2 => ∃ y, v = .str y ∧ Q (.str y) H2) E) := by
  intro pins s σ H xs us Q I r h
  obtain ⟨a, dx, fs, rfl, ea, hsp⟩ := h
  obtain ⟨u, rfl, rfl⟩ : ∃ u, us = [u] ∧ u = Value.ref a := by
    cases r with
    | cons rx rt => cases rt; exact ⟨_, rfl, rx⟩
  obtain ⟨ox, od, J, _⟩ := inst_at I ea
  have hu := hr.units
  refine PySem.W.kso_call (show X.A.units + 1 + 1 < cLine by omega) I.kIn J hs.at_ hs.fn (wpAny_mono (runAt (A' := X.A.in1.in1) hr.in1.in1 rfl F hb hx I (vs := [.ref a]) (.cons rfl .nil) hsp) (fun v s' z => ?_) fun _ _ z => z)
  obtain ⟨v', H', I', rv, y, rfl, q⟩ := z
  obtain ⟨t, rfl⟩ := rv
  exact ⟨.str y, H', I', ⟨_, rfl⟩, q⟩
theorem typ_of {x : V} {u t : Value} (I : Inv X pins σ H s) (rx : RelV x u) (ty : TyX X.K H x t) : PySem.W.Looks (model X.prog X.w) s.heap (typeOf u) t := by
  obtain ⟨P, Z, hP, _⟩ := kit_of I rx ty
  exact Z.ty _ _ I.kIn hP
def rEqO (K : PySem.W.Frag) (C : Addr) (sp : Sp) (E : XK) (g : Bool → Bool) : R2 := fun x y H Q => ∃ a dx fs t, x = .ref a ∧ H a = some (.ins C dx fs) ∧ TyX K H y t ∧ PySem.W.notFirst K C t = true ∧ sp [.ref a, y] H (fun v H2 => ∃ b, v = .bl b ∧ Q (.bl (g b)) H2) E
theorem op_eqO (hs : SpOf X.K C f "__eq__") (F : FnG X.prog X.w X.K X.mg X.base CX k f fd ps sp) (hr : RmG (k + 1) X.A) (hb : Binds X.K fd ps []) (hx : Passes CX X E) : OpR X (compareOp .Eq) (rEqO X.K C sp E id) := by
  intro pins s σ H x y v u Q I rx ry h
  obtain ⟨a, dx, fs, t, rfl, ea, ty, nf, hsp⟩ := h
  have hv : v = Value.ref a := rx
  subst hv
  obtain ⟨ox, od, J, _⟩ := inst_at I ea
  obtain ⟨m, hF⟩ := I.fr
  have hu := hr.units
  refine PySem.W.cmp_ofEq (PySem.W.cmp_K (op := .Eq) (tb := t) (show X.A.units < cLine by omega) hF I.ok.mod.kin J (typ_of I ry ty) nf hs.at_ hs.fn (wpAny_mono (runAt (A' := X.A) (hr.mono (by omega)) rfl F hb hx I (vs := [.ref a, y]) (.cons rfl (.cons ry .nil)) hsp) (fun v s' z => ?_) fun _ _ z => z))
  obtain ⟨v', H', I', rv, b, rfl, q⟩ := z
  have hv : v = Value.bool b := rv
  subst hv
  exact ⟨.bl b, H', I', rfl, q⟩
end
section
variable {prog : Program} {w : World} {A : Around} {E : Value → Shared → Prop} {s : Shared} {K : PySem.W.Frag} {x C f : Addr} {ox : Obj} {od : Option Obj} {b tb : Value}
theorem ne_entry {Q : PySem.Fin → Shared → Prop} (hu : A.units < cLine) (X : K.In s.heap) (I : PySem.W.InstAt s.heap x ox C od) (hs : SpOf K C f "__eq__")
    (h : wpAny (model prog w) A (call (.ref f) [.ref x, b]) (fun v s' => ∃ c, v = .bool c ∧ Q (.done (.ret (.bool (!c)))) s') E s) : wpAny (model prog w) A (Builtin.«object.__ne__» ⟨[.ref x, b], []⟩) Q E s := by
  unfold Builtin.«object.__ne__»
  repeat (first
    | with_reducible refine wpAny_cRoomFor hu ?_
    | (refine wpAny_bind (m := callSpecialIfBound? (.ref x) (Str.ofString "__eq__") [b])
        (PySem.W.ifBound_K X I hs.at_ hs.fn (wpAny_mono h (fun r s' hr => by
          obtain ⟨c, rfl, hq⟩ := hr
          repeat (first | exact hq | exact wpAny_pure hq | exact wpAny_truthy_bool hq | (refine wpAny_bind (m := truthy (.bool _)) (wpAny_truthy_bool ?_)) | wp_step)) fun _ _ e => e)))
    | wp_step)
theorem ne_own {Q : Value → Shared → Prop} (hu : A.units + 1 < cLine) (X : K.In s.heap) (I : PySem.W.InstAt s.heap x ox C od) (hb : PySem.W.Looks (model prog w) s.heap (typeOf b) tb) (hn : PySem.W.notFirst K C tb = true)
    (hne : PySem.W.findIn K (.ref C) "__ne__" = some (some (.builtin "object.__ne__"))) (hm : PySem.W.mroIn K C (.type "object") = some true) (hs : SpOf K C f "__eq__")
    (h : wpAny (model prog w) A.in1 (call (.ref f) [.ref x, b]) (fun v s' => ∃ c, v = .bool c ∧ Q (.bool (!c)) s') E s) : wpAny (model prog w) A (richCompare .NotEq (.ref x) b) Q E s := by
  have one : wpAny (model prog w) A (tryCompare (.ref x) "__ne__" b) (fun r s' => ∃ v, r = some v ∧ Q v s') E s := by
    have two : wpAny (model prog w) A (call (.builtin "object.__ne__") ([.ref x] ++ [b])) (fun v s' => ∃ c, v = .bool c ∧ Q (.bool c) s') E s := by
      refine wpAny_call (codeAny_call_builtin F.cmp_object.ne.plain F.cmpEntry_ne (PySem.W.check_slot F.cmpKind_ne F.cmpSplit_ne (I.type.andThen (PySem.W.looks_mroIn X hm)) (F.cmpArgs_ne _ _) (ne_entry (A := A.in1) hu X I hs (wpAny_mono h (fun v s' z => ?_) fun _ _ z => z))))
      obtain ⟨c, rfl, q⟩ := z
      exact ⟨c, rfl, !c, rfl, q⟩
    have fin : wpAny (model prog w) A (call (.builtin "object.__ne__") ([.ref x] ++ [b]) >>= fun v => pure (some v)) (fun r s' => ∃ c, r = some (.bool c) ∧ Q (.bool c) s') E s :=
      wpAny_bind (wpAny_mono two (fun v s' ⟨c, e, q⟩ => wpAny_pure ⟨c, by rw [e], q⟩) fun _ _ z => z)
    unfold tryCompare
    simp only [callSpecialIfBound?, bindSpecialIfBound?]
    refine wpAny_bind (wpAny_mono (Q := fun r s' => ∃ c, r = some (.bool c) ∧ Q (.bool c) s') (wpAny_holding (wpAny_bind (wpAny_bind (wpAny_bind (I.type.here ((PySem.W.looks_findIn X hne).here ?_)))))) (fun r s' ⟨c, e, q⟩ => ?_) fun _ _ z => z)
    · refine wpAny_bind (wpAny_askSetting (wpAny_ite ?_))
      split
      · exact wpAny_bind (wpAny_of_eq (F.cmp_object.ne.bind _) (wpAny_pure (by exact fin)))
      · exact wpAny_tryCatch (wpAny_bind (wpAny_of_eq (F.cmp_object.ne.bind _) (wpAny_pure (by exact fin))))
    · subst e
      exact wpAny_pure ⟨_, rfl, q⟩
  unfold richCompare
  simp only [oneThing_ref]
  refine wpAny_holding (wpAny_bind (wpAny_cRoomFor (Nat.lt_of_succ_lt hu) ?_))
  refine wpAny_bind (I.type.here (wpAny_bind (hb.here ?_)))
  split
  · rename_i q
    have e : PySem.W.subIn K tb (.ref C) = some false := by
      rcases Bool.or_eq_true_iff.mp hn with e | e
      · rw [beq_iff_eq.mp e] at q; simp at q
      · exact beq_iff_eq.mp e
    refine wpAny_bind ((PySem.W.looks_subIn X e).here ?_)
    simp only [Bool.false_eq_true, if_false]
    refine wpAny_bind (wpAny_mono one (fun r s' z => ?_) fun _ _ e => e)
    obtain ⟨v, rfl, hq⟩ := z
    exact wpAny_pure hq
  · refine wpAny_bind (wpAny_pure ?_)
    simp only [Bool.false_eq_true, if_false]
    refine wpAny_bind (wpAny_mono one (fun r s' z => ?_) fun _ _ e => e)
    obtain ⟨v, rfl, hq⟩ := z
    exact wpAny_pure hq
end
section
variable {X : Cx} {CX : CXT} {k : Nat} {f C : Addr} {fd : FuncData} {ps : List Str} {sp : Sp} {E : XK}
/-- C has no __ne__ of its own -/
structure NoNe (K : PySem.W.Frag) (C : Addr) : Prop where
  ne : PySem.W.findIn K (.ref C) "__ne__" = some (some (.builtin "object.__ne__"))
  mro : PySem.W.mroIn K C (.type "object") = some true
theorem op_neO (hn : NoNe X.K C) (hs : SpOf X.K C f "__eq__") (F : FnG X.prog X.w X.K X.mg X.base CX k f fd ps sp) (hr : RmG (k + 1) X.A) (hb : Binds X.K fd ps []) (hx : Passes CX X E) : OpR X (compareOp .NotEq) (rEqO X.K C sp E (fun b => !b)) := by
  intro pins s σ H x y v u Q I rx ry h
  obtain ⟨a, dx, fs, t, rfl, ea, ty, nf, hsp⟩ := h
  have hv : v = Value.ref a := rx
  subst hv
  obtain ⟨ox, od, J, _⟩ := inst_at I ea
  have hu := hr.units
  refine PySem.W.cmp_ofNotEq (ne_own (tb := t) (show X.A.units + 1 < cLine by omega) I.kIn J (typ_of I ry ty) nf hn.ne hn.mro hs (wpAny_mono (runAt (A' := X.A.in1) hr.in1 rfl F hb hx I (vs := [.ref a, y]) (.cons rfl (.cons ry .nil)) hsp) (fun v s' z => ?_) fun _ _ z => z))
  obtain ⟨v', H', I', rv, b, rfl, q⟩ := z
  exact ⟨b, rv, .bl (!b), H', I', rfl, q⟩
end
end BR
set_option Elab.async false
set_option linter.all false
set_option maxRecDepth 100000
set_option maxHeartbeats 4000000
namespace BR
open PySem L2
/-! ## the same as functions on data -/
/-- a def of one shared argument, then a look at its answer -/
@[simp] def eSpO (C : Addr) (F : FT) (post : D → Option D) (fo : EF) : EF := fun ρ => eV fo ρ >>= fun z => ofO (asIns C z.1) >>= fun _ => noX (F [z.1]) >>= fun r => ofO (post r.1) >>= fun d => .ok (.val d, z.2)
@[simp] def poLen : D → Option D
  | .int i => if 0 ≤ i ∧ i ≤ 1000000 then some (.int i) else none
  | _ => none
@[simp] def poStr : D → Option D
  | .str x => some (.str x)
  | _ => none
@[simp] def poBl (g : Bool → Bool) : D → Option D
  | .bl b => some (.bl (g b))
  | _ => none
/-- == of an own class: the left one is of the class C, the right one a plain value or of one of Cs -/
@[simp] def okR (Cs : List Addr) : D → Bool
  | .ins C _ _ => Cs.any fun c => decide (c = C)
  | .obj _ => false
  | .ty _ => false
  | _ => true
@[simp] def eEqO (C : Addr) (Cs : List Addr) (F : FT) (g : Bool → Bool) (fa fb : EF) : EF := fun ρ => eV fa ρ >>= fun z1 => eV fb z1.2 >>= fun z2 => ofO (asIns C z1.1) >>= fun _ => ofO (guard (okR Cs z2.1)) >>= fun _ => noX (F [z1.1, z2.1]) >>= fun r => ofO (poBl g r.1) >>= fun d => .ok (.val d, z2.2)
section
variable {X : Cx} {E : WX} {k : Nat} {f C : Addr} {fd : FuncData} {ps : List Str} {F : FT} {x : Str} {p pos : Pos} {e : Expr} {fo : EF}
/-- what is left of a call when its answer is looked at -/
theorem call_post {K : PySem.W.Frag} {G H G1 H1 : Hp} {σ : St} {ρ ρ1 : S} {ds : List D} {vs : List V} {ms : List Bool} {Q Q' : VK} {post : D → Option D} (hms : ∀ b ∈ ms, b = false) (hml : ms.length = ds.length) (o1 : Out K G H σ ρ G1 H1 ρ1) (hl : RepL K G1 ds vs)
    (hp : ∀ (d d' : D) (v : V) (G' H' : Hp), post d = some d' → Rep K G' d v → (∀ v', Rep K G' d' v' → Q v' H') → Q' v H')
    (hw : Wp (noX (F ds) >>= fun r => ofO (post r.1) >>= fun d => R.ok (Hd.val d, ρ1)) (fun z => ∀ v G' H', Out K G H σ ρ G' H' z.2 → Hold K H G' H' σ z.2 z.1 v → Q v H') (ExE K E G H σ ρ)) : spF K ms false F vs H1 Q' (fun _ _ _ => False) := by
  refine call_sh (E := W0) (own := false) hms hml o1 hl ?_
  cases hF : F ds with
  | no => rw [hF] at hw; exact hw.elim
  | exc xc => rw [hF] at hw; exact hw.elim
  | ok r =>
    rw [hF] at hw
    obtain ⟨d', e1, q⟩ := Wp.opt (show Wp (ofO (post r.1) >>= fun d => R.ok (Hd.val d, ρ1)) _ _ from hw)
    exact fun v G' H' o h => hp r.1 d' v G' H' e1 h fun v' hv' => q v' G' H' o hv'
theorem snd_spO {K : PySem.W.Frag} {t : TA} {r : List V → Hp → VK → Prop} {post : D → Option D} (s : SndA K E t (aCons (eV fo) aNil))
    (hr : ∀ (G H : Hp) (σ : St) (ρ ρ1 : S) (G1 H1 : Hp) (a dx : Addr) (fs : List (Str × V)) (d : D) (Q : VK), Out K G H σ ρ G1 H1 ρ1 → Rep K G1 d (.ref a) → H1 a = some (.ins C dx fs) →
      Wp (noX (F [d]) >>= fun r => ofO (post r.1) >>= fun d => R.ok (Hd.val d, ρ1)) (fun z => ∀ v G' H', Out K G H σ ρ G' H' z.2 → Hold K H G' H' σ z.2 z.1 v → Q v H') (ExE K E G H σ ρ) → r [.ref a] H1 Q) : Snd K E (tCB r t) (eSpO C F post fo) := by
  intro G H σ ρ R Q hw
  refine s G H σ ρ R _ ?_
  have hw2 := hw.bind
  have e0 : aCons (eV fo) aNil ρ = (eV fo ρ >>= fun z => BR.R.ok ([z.1], z.2)) := rfl
  rw [e0]
  cases hF : eV fo ρ with
  | no => rw [hF] at hw2; exact hw2
  | exc x => rw [hF] at hw2; exact hw2
  | ok z =>
    rw [hF] at hw2
    intro vs G1 H1 o1 h1
    obtain ⟨v, vs', rfl, h1, h2⟩ := repL_cons.mp h1
    rw [repL_nil.mp h2]
    obtain ⟨cc, e1, q1⟩ := hw2.opt
    have h1' := h1
    rw [asIns_eq e1] at h1'
    unfold Rep at h1'
    obtain ⟨a, dx, fs, rfl, ha, hn, hds⟩ := h1'
    exact hr G H σ ρ z.2 G1 H1 a dx fs z.1 Q o1 h1 (o1.rel.sub.i ha) q1
theorem pr_lenO (hs : SpOf X.K C f "__len__") (Fn : FnG X.prog X.w X.K X.mg X.base (L2.CX X.prog X.w) k f fd ps (spF X.K [false] false F)) (hr : RmG (k + 1) X.A) (hb : Binds X.K fd ps []) (hx : Passes (L2.CX X.prog X.w) X (fun _ _ _ => False)) (hgl : Gl X "len") (hm : X.mg "len" = none) (ha : PAs X E [e] (aCons (eV fo) aNil))
    (he : starEach [e] X.env = (false, eval e X.env) :: starEach [] X.env := by rfl) (hpl : (backTo pos (starEach [] X.env)).any (·.1) = false := by rfl) : PR X E (.Call (.Name "len" p) [e] [] pos) (eSpO C F poLen fo) := by
  obtain ⟨t, pa, s⟩ := ha.ex
  refine ⟨_, pe_callB (cr_lenO hs Fn hr hb hx) hgl hm (by decide +kernel) pa (by decide) (by decide) he hpl, snd_spO s fun G H σ ρ ρ1 G1 H1 a dx fs d Q o1 h1 ea hw => ⟨a, dx, fs, rfl, ea, call_post (ms := [false]) (by decide) rfl o1 (.cons h1 .nil) (fun d d' v G' H' e1 h2 q => ?_) hw⟩⟩
  unfold poLen at e1
  split at e1
  · split at e1
    · rename_i i hi
      cases e1
      have hv : v = .int i := by unfold Rep at h2; exact h2
      have hn : ((i.toNat : Nat) : Int) = i := by omega
      exact ⟨i.toNat, by rw [hv, hn], by omega, by rw [hn]; exact q _ rep_int⟩
    · cases e1
  · cases e1
theorem pr_reprO (hs : SpOf X.K C f "__repr__") (Fn : FnG X.prog X.w X.K X.mg X.base (L2.CX X.prog X.w) k f fd ps (spF X.K [false] false F)) (hr : RmG (k + 1) X.A) (hb : Binds X.K fd ps []) (hx : Passes (L2.CX X.prog X.w) X (fun _ _ _ => False)) (hgl : Gl X "repr") (hm : X.mg "repr" = none) (ha : PAs X E [e] (aCons (eV fo) aNil))
    (he : starEach [e] X.env = (false, eval e X.env) :: starEach [] X.env := by rfl) (hpl : (backTo pos (starEach [] X.env)).any (·.1) = false := by rfl) : PR X E (.Call (.Name "repr" p) [e] [] pos) (eSpO C F poStr fo) := by
  obtain ⟨t, pa, s⟩ := ha.ex
  refine ⟨_, pe_callB (cr_reprO hs Fn hr hb hx) hgl hm (by decide +kernel) pa (by decide) (by decide) he hpl, snd_spO s fun G H σ ρ ρ1 G1 H1 a dx fs d Q o1 h1 ea hw => ⟨a, dx, fs, rfl, ea, call_post (ms := [false]) (by decide) rfl o1 (.cons h1 .nil) (fun d d' v G' H' e1 h2 q => ?_) hw⟩⟩
  unfold poStr at e1
  split at e1
  · cases e1
    unfold Rep at h2
    exact ⟨_, h2, q _ rep_str⟩
  · cases e1
theorem pr_strO (hs : SpOf X.K C f "__str__") (Fn : FnG X.prog X.w X.K X.mg X.base (L2.CX X.prog X.w) k f fd ps (spF X.K [false] false F)) (hr : RmG (k + 2) X.A) (hb : Binds X.K fd ps []) (hx : Passes (L2.CX X.prog X.w) X (fun _ _ _ => False)) (hgl : Gl X "str") (hm : X.mg "str" = none) (ha : PAs X E [e] (aCons (eV fo) aNil))
    (he : starEach [e] X.env = (false, eval e X.env) :: starEach [] X.env := by rfl) (hpl : (backTo pos (starEach [] X.env)).any (·.1) = false := by rfl) : PR X E (.Call (.Name "str" p) [e] [] pos) (eSpO C F poStr fo) := by
  obtain ⟨t, pa, s⟩ := ha.ex
  refine ⟨_, pe_callTy (cr_strO hs Fn hr hb hx) hgl hm (by decide +kernel) pa (by decide) (by decide) he hpl, snd_spO s fun G H σ ρ ρ1 G1 H1 a dx fs d Q o1 h1 ea hw => ⟨a, dx, fs, rfl, ea, call_post (ms := [false]) (by decide) rfl o1 (.cons h1 .nil) (fun d d' v G' H' e1 h2 q => ?_) hw⟩⟩
  unfold poStr at e1
  split at e1
  · cases e1
    unfold Rep at h2
    exact ⟨_, h2, q _ rep_str⟩
  · cases e1
end
end BR
set_option Elab.async false
set_option linter.all false
set_option maxRecDepth 100000
set_option maxHeartbeats 4000000
namespace BR
open PySem L2
section
variable {X : Cx} {E : WX} {k : Nat} {f C : Addr} {fd : FuncData} {ps : List Str} {F : FT} {p pos : Pos} {a b : Expr} {fa fb : EF} {Cs : List Addr}
/-- what is known of the classes that may stand on the right -/
structure RightOk (K : PySem.W.Frag) (C : Addr) (Cs : List Addr) : Prop where
  cls : ∀ c ∈ Cs, ClsI K c
  nf : ∀ c ∈ Cs, PySem.W.notFirst K C (.ref c) = true
theorem notFirst_ty {K : PySem.W.Frag} {T : String} {l : List Value} (e : fastBuiltinMro T = some l) (h : ∀ c : Addr, l.contains (.ref c) = false) : PySem.W.notFirst K C (.type T) = true := by
  show (_ || ((fastBuiltinMro T).map (·.contains (.ref C)) == some false)) = true
  rw [e]
  simp only [Option.map_some, h C]
  simp
theorem snd_eqO {K : PySem.W.Frag} {g : Bool → Bool} {ta tb : TE} (R0 : RightOk K C Cs) (sa : SndV K E ta (eV fa)) (sb : SndV K E tb (eV fb)) : Snd K E (tOp (rEqO K C (spF K [false, false] false F) (fun _ _ _ => False) g) ta tb) (eEqO C Cs F g fa fb) := by
  intro G H σ ρ R Q hw
  refine sa G H σ ρ R _ (hw.bind.mono (fun z1 _ q v G1 H1 o1 h1 => ?_) fun _ _ q => q)
  refine sb G1 H1 σ z1.2 o1.rel _ (q.bind.mono (fun z2 _ q2 w G2 H2 o2 h2 => ?_) fun _ _ q => q.step o1)
  obtain ⟨cc, e1, q3⟩ := q2.opt
  obtain ⟨_, e2, q4⟩ := q3.opt
  have h1m := Rep.mono o2.stp.gg _ h1
  have h1' := h1m
  rw [asIns_eq e1] at h1'
  unfold Rep at h1'
  obtain ⟨a, dx, fs, rfl, ha, hn, hds⟩ := h1'
  have hok : okR Cs z2.1 = true := guard_eq e2
  have hty : ∃ t, TyX K H2 w t ∧ PySem.W.notFirst K C t = true := by
    have hin : insIn Cs z2.1 = true := by rw [← hok]; cases z2.1 <;> rfl
    have hT : ∀ t, tyD z2.1 = some t → TyX K H2 w t := fun t et => tyD_ok R0.cls o2.rel.sub (.inl h2) hin et
    cases hz : z2.1 with
    | obj _ => rw [hz] at hin; cases hin
    | ty _ => rw [hz] at hin; cases hin
    | ins C' ns xs =>
      refine ⟨.ref C', hT _ (by rw [hz]; rfl), R0.nf C' ?_⟩
      rw [hz] at hin
      obtain ⟨c, hc, e⟩ := List.any_eq_true.mp (show (Cs.any fun c => decide (c = C')) = true from hin)
      rw [← of_decide_eq_true e]; exact hc
    | non => exact ⟨_, hT _ (by rw [hz]; rfl), notFirst_ty (l := [.type "NoneType", .type "object"]) (by decide +kernel) fun c => by simp⟩
    | bl _ => exact ⟨_, hT _ (by rw [hz]; rfl), notFirst_ty (l := [.type "bool", .type "int", .type "object"]) (by decide +kernel) fun c => by simp⟩
    | int _ => exact ⟨_, hT _ (by rw [hz]; rfl), notFirst_ty (l := [.type "int", .type "object"]) (by decide +kernel) fun c => by simp⟩
    | str _ => exact ⟨_, hT _ (by rw [hz]; rfl), notFirst_ty (l := [.type "str", .type "object"]) (by decide +kernel) fun c => by simp⟩
    | lst _ => exact ⟨_, hT _ (by rw [hz]; rfl), notFirst_ty (l := [.type "list", .type "object"]) (by decide +kernel) fun c => by simp⟩
    | scr _ => exact ⟨_, hT _ (by rw [hz]; rfl), notFirst_ty (l := [.type "list", .type "object"]) (by decide +kernel) fun c => by simp⟩
    | tup _ => exact ⟨_, hT _ (by rw [hz]; rfl), notFirst_ty (l := [.type "tuple", .type "object"]) (by decide +kernel) fun c => by simp⟩
    | dic _ _ => exact ⟨_, hT _ (by rw [hz]; rfl), notFirst_ty (l := [.type "dict", .type "object"]) (by decide +kernel) fun c => by simp⟩
  obtain ⟨t, ht, hnf⟩ := hty
  exact ⟨a, dx, fs, t, rfl, o2.rel.sub.i ha, ht, hnf, call_post (ms := [false, false]) (by decide) rfl (o1.trans o2) (.cons h1m (.cons h2 .nil)) (fun d d' v G' H' e1 h2 q => by
    unfold poBl at e1
    split at e1
    · cases e1
      unfold Rep at h2
      exact ⟨_, h2, q _ rep_bl⟩
    · cases e1) q4⟩
theorem pr_eqO (R0 : RightOk X.K C Cs) (hs : SpOf X.K C f "__eq__") (Fn : FnG X.prog X.w X.K X.mg X.base (L2.CX X.prog X.w) k f fd ps (spF X.K [false, false] false F)) (hr : RmG (k + 1) X.A) (hb : Binds X.K fd ps []) (hx : Passes (L2.CX X.prog X.w) X (fun _ _ _ => False)) (pa : PR X E a fa) (pb : PR X E b fb)
    (hm : behindInMarks .Eq b = false := by rfl) : PR X E (.Compare a [.Eq] [b] pos) (eEqO C Cs F id fa fb) := by
  obtain ⟨ta, pa, sa⟩ := pa.v.ex
  obtain ⟨tb, pb, sb⟩ := pb.v.ex
  exact ⟨_, pe_cmpR (op_eqO hs Fn hr hb hx) pa pb hm, snd_eqO R0 sa sb⟩
theorem pr_neO (R0 : RightOk X.K C Cs) (hn : NoNe X.K C) (hs : SpOf X.K C f "__eq__") (Fn : FnG X.prog X.w X.K X.mg X.base (L2.CX X.prog X.w) k f fd ps (spF X.K [false, false] false F)) (hr : RmG (k + 1) X.A) (hb : Binds X.K fd ps []) (hx : Passes (L2.CX X.prog X.w) X (fun _ _ _ => False)) (pa : PR X E a fa) (pb : PR X E b fb)
    (hm : behindInMarks .NotEq b = false := by rfl) : PR X E (.Compare a [.NotEq] [b] pos) (eEqO C Cs F (fun b => !b) fa fb) := by
  obtain ⟨ta, pa, sa⟩ := pa.v.ex
  obtain ⟨tb, pb, sb⟩ := pb.v.ex
  exact ⟨_, pe_cmpR (op_neO hn hs Fn hr hb hx) pa pb hm, snd_eqO R0 sa sb⟩
end
end BR
set_option Elab.async false
set_option linter.all false
set_option maxRecDepth 100000
set_option maxHeartbeats 4000000
namespace BR
open PySem PySem.Spec PyProof.Rows L2
/-! ## o(e, ..) by the class's __call__ -/
section
variable {M : Model} {A : Around} {E : Value → Shared → Prop} {s : Shared} {env : Env} {pos : Pos} {x : Addr} {Q : Value → Shared → Prop}
/-- the object at x is a plain one -/
def PlainAt (h : Heap) (x : Addr) : Prop := ∃ o, h.get? x = some o ∧ o.data = .plain
theorem callWith_inst {e : Expr} {rest : List Expr} (h : wpAny M A (spliced (backTo pos (starEach (e :: rest) env))) (fun vs s₁ => PlainAt s₁.heap x ∧ wpAny M A (call (.ref x) ([] ++ vs)) Q E s₁) E s)
    (he : starEach (e :: rest) env = (false, eval e env) :: starEach rest env := by rfl) (hplain : (backTo pos (starEach rest env)).any (·.1) = false := by rfl) : wpAny M A (callWith pos (.ref x) [] (backTo pos (starEach (e :: rest) env)) []) Q E s := by
  rw [he] at h ⊢
  have ha := PySem.Calls.evalArgs_plain (f := .ref x) (Q := fun a s₁ => PlainAt s₁.heap x ∧ wpAny M A (call (.ref x) ([] ++ a.pos) a.kw) Q E s₁) h
  unfold callWith
  refine wpAny_bind (wpAny_holding (wpAny_mono ha (fun a s₁ h₁ => wpAny_bind (wpAny_standAt ?_)) fun _ _ y => y))
  obtain ⟨⟨o, ho, hd⟩, hq⟩ := h₁
  have L : PySem.W.Looks M s₁.heap (keeperOf (.ref x)) .caller := by
    refine (PySem.W.Looks.ld (part := none) ho).andThen ?_
    simp only [hd]
    exact .now
  have tail : ∀ {t : Sem Value}, wpAny M A t Q E s₁ → wpAny M A (t >>= fun r => holding [r] point >>= fun _ => pure r) Q E s₁ :=
    fun ht => wpAny_bind (wpAny_mono ht (fun r s₂ hr => wpAny_bind (wpAny_holding (wpAny_point (wpAny_pure hr)))) fun _ _ y => y)
  have hp : ((backTo pos ((false, eval e env) :: starEach rest env)).any (·.1) || ([] : List (Option Str × Sem Value)).any (·.1.isNone)) = false := by
    show ((false || (backTo pos (starEach rest env)).any (·.1)) || false) = false
    rw [hplain]; rfl
  simp only [hp]
  refine wpAny_bind (L.here ?_)
  exact tail (wpAny_operateT hq)
end
section
variable {X : Cx} {CX : CXT} {k i : Nat} {f C : Addr} {fd : FuncData} {ps : List Str} {sp : Sp} {dvs : List V} {ds : List Value} {E : L2.St → XK} {x : Str} {p pos : Pos} {e : Expr} {es : List Expr} {t : TA}
def tCallO (i : Nat) (C : Addr) (sp : Sp) (dvs : List V) (E : L2.St → XK) (t : TA) : TE := fun σ H Q => ∃ a dx fs, σ[i]? = some (some (.ref a)) ∧ t σ H fun vs H1 => H1 a = some (.ins C dx fs) ∧ sp (.ref a :: (vs ++ dvs)) H1 Q (E σ)
theorem pe_callO (hs : SpOf X.K C f "__call__") (hfn : PySem.W.fnIn X.K f = true) (F : FnG X.prog X.w X.K X.mg X.base CX k f fd ps sp) (hr : RmG k X.A) (hN : X.N[i]? = some x) (hv : Vis X.env.scope x) (hb : Binds X.K fd ps ds) (hd : Vals dvs ds) (hx : ∀ σ, PassesAt CX X σ (E σ)) (ha : PA X (e :: es) t)
    (hdb : (x == ("__debug__" : Str)) = false := by decide) (hcd : (x == ("__classdict__" : Str)) = false := by decide)
    (he : starEach (e :: es) X.env = (false, eval e X.env) :: starEach es X.env := by rfl) (hpl : (backTo pos (starEach es X.env)).any (·.1) = false := by rfl) : PE X (.Call (.Name x p) (e :: es) [] pos) (tCallO i C sp dvs E t) := by
  constructor
  intro pins s σ H Q I h
  obtain ⟨a, dx, fs, hs1, ht⟩ := h
  refine wpAny_Call_Name_kw (thn ((pe_var (pos := p) hN hv hdb hcd).run pins s σ H (fun v H1 => v = .ref a ∧ H1 = H) I ⟨.ref a, hs1, rfl, rfl⟩) fun u s1 ⟨v, H1, I1, r1, q1, q2⟩ => ?_)
  subst q1 q2
  have hu : u = Value.ref a := r1
  subst hu
  refine callWith_inst (thn (ha.run pos pins s1 σ _ _ I1 ht) fun us s2 ⟨vs, H2, I2, r, ea, q⟩ => ?_) he hpl
  obtain ⟨ox, od, J, hp⟩ := inst_at I2 ea
  refine ⟨⟨ox, J.at_, hp⟩, ?_⟩
  have r2 : Vals (V.ref a :: (vs ++ dvs)) (Value.ref a :: (us ++ ds)) := .cons rfl (r.append hd)
  have hl : (Value.ref a :: us ++ ds).length = ps.length := by
    have z := F.len _ _ _ _ q
    rw [r2.length] at z
    exact z
  have hc := F.at_ X.A X.stack s2 H2 ⟨.ref a :: us, []⟩ (.ref a :: (us ++ ds)) _ Q (E σ) ⟨hr, I2.env0, hb s2 (.ref a :: us) I2.kIn hl, r2, q⟩
  refine wpAny_call (PySem.W.kco_code (a := ⟨[] ++ us, []⟩) I2.kIn J hp hs.at_ hs.fn hfn (codeAny_mono hc fun r s' hq => ?_))
  rcases callEnd I2 (hx σ) hq with ⟨u, rfl, z⟩ | ⟨er, rfl, z⟩
  · exact z
  · exact z
end
@[simp] def eCallO (i : Nat) (C : Addr) (own : Bool) (F : FT) (g : S → R (List D × S)) : EF := fun ρ => match ρ[i]? with
  | some (some (.sh d)) => ofO (asIns C d) >>= fun _ => g ρ >>= fun y => raiseAt y.2 (F (d :: y.1)) >>= fun r => .ok (if own = true then .tmp r.1 else .val r.1, y.2)
  | _ => .no
section
variable {X : Cx} {E : WX} {k i : Nat} {f C : Addr} {fd : FuncData} {ps : List Str} {own : Bool} {F : FT} {ms : List Bool} {x : Str} {p pos : Pos} {e : Expr} {es : List Expr} {g : S → R (List D × S)}
/-- o(e, ..), o an instance in a slot -/
theorem pr_callO (hs : SpOf X.K C f "__call__") (hfn : PySem.W.fnIn X.K f = true) (Fn : FnG X.prog X.w X.K X.mg X.base (L2.CX X.prog X.w) k f fd ps (spF X.K (false :: ms) own F)) (hr : RmG k X.A) (hN : X.N[i]? = some x) (hv : Vis X.env.scope x) (hb : Binds X.K fd ps []) (hx : Takes X E) (ha : PAs X E (e :: es) g)
    (hms : ∀ b ∈ ms, b = false := by decide) {n : Nat} (hal : ALen g n) (hml : ms.length = n := by rfl)
    (hdb : (x == ("__debug__" : Str)) = false := by decide) (hcd : (x == ("__classdict__" : Str)) = false := by decide)
    (he : starEach (e :: es) X.env = (false, eval e X.env) :: starEach es X.env := by rfl) (hpl : (backTo pos (starEach es X.env)).any (·.1) = false := by rfl) : PR X E (.Call (.Name x p) (e :: es) [] pos) (eCallO i C own F g) := by
  obtain ⟨t, pa, s⟩ := ha.ex
  refine ⟨_, pe_callO (dvs := []) (E := fun σ => WE E σ) hs hfn Fn hr hN hv hb .nil (fun σ => passAt hx σ) pa hdb hcd he hpl, fun G H σ ρ r Q hw => ?_⟩
  unfold eCallO at hw
  split at hw
  rotate_left
  · exact hw.elim
  rename_i d q
  obtain ⟨cc, e1, hw⟩ := hw.opt
  obtain ⟨v, ev, h1⟩ := r.sl i _ q
  have h1' := h1
  rw [asIns_eq e1] at h1'
  unfold Rep at h1'
  obtain ⟨a, dx, fs, rfl, ha, hn, hds⟩ := h1'
  refine ⟨a, dx, fs, ev, s G H σ ρ r _ (hw.bind.mono (fun y hy q3 vs G2 H2 o2 h2 => ⟨o2.rel.sub.i (o2.stp.gg _ _ ha), ?_⟩) fun _ _ q3 => q3)⟩
  rw [List.append_nil]
  refine call_sh (ms := false :: ms) (ds := d :: y.1) (fun b hb => ?_) (congrArg Nat.succ (by rw [hal _ y hy]; exact hml)) o2 (.cons (Rep.mono o2.stp.gg _ h1) h2) q3
  rcases List.mem_cons.mp hb with z | z
  · exact z
  · exact hms b z
end
end BR
set_option Elab.async false
set_option linter.all false
set_option maxRecDepth 100000
set_option maxHeartbeats 4000000
namespace BR
open PySem L2
/-! ## owned trees: reading and changing along paths -/
section
variable {K : PySem.W.Frag} {G H : Hp} {a : Addr} {u : HO}
theorem upd_away {A : List Addr} (h : a ∉ A) : ∀ b ∈ A, upd H a u b = H b := fun b m => upd_ne fun z => h (by rw [← z]; exact m)
theorem own_away {t : T} {v : V} (h : Own K G H t v) (n : a ∉ fp H t v) : Own K G (upd H a u) t v ∧ fp (upd H a u) t v = fp H t v :=
  h.go (Same.refl G) t fun b m => ⟨upd_away n b m, (h.in_ t b m).1⟩
theorem ownL_away {ts : List T} {vs : List V} (h : OwnL K G H ts vs) (n : a ∉ fpL H ts vs) : OwnL K G (upd H a u) ts vs ∧ fpL (upd H a u) ts vs = fpL H ts vs :=
  h.go (Same.refl G) ts fun b m => ⟨upd_away n b m, (h.in_ ts b m).1⟩
theorem nodup_app {l₁ l₂ : List Addr} : (l₁ ++ l₂).Nodup ↔ l₁.Nodup ∧ l₂.Nodup ∧ ∀ x ∈ l₁, x ∉ l₂ := by
  rw [List.nodup_append]
  constructor
  · rintro ⟨h1, h2, h3⟩; exact ⟨h1, h2, fun x m z => h3 x m x z rfl⟩
  · rintro ⟨h1, h2, h3⟩; exact ⟨h1, h2, fun x m y n e => h3 x m (by rw [e]; exact n)⟩
/-- one of the things within is changed -/
theorem ownL_set : ∀ {ts : List T} {vs : List V} {k : Nat} {t t2 : T} {w : V}, OwnL K G H ts vs → (fpL H ts vs).Nodup → ts[k]? = some t → vs[k]? = some w → a ∈ fp H t w → Own K G (upd H a u) t2 w → (fp (upd H a u) t2 w).Nodup → (∀ x ∈ fp (upd H a u) t2 w, x ∈ fp H t w ∨ x ∉ fpL H ts vs) →
    OwnL K G (upd H a u) (ts.set k t2) vs ∧ (fpL (upd H a u) (ts.set k t2) vs).Nodup ∧ ∀ x ∈ fpL (upd H a u) (ts.set k t2) vs, x ∈ fpL H ts vs ∨ x ∈ fp (upd H a u) t2 w
  | [], vs, k, t, t2, w, _, _, e, _, _, _, _, _ => by simp at e
  | t0 :: ts, vs, k, t, t2, w, h, nd, e, ev, m, h2, nd2, hn => by
    unfold OwnL at h
    obtain ⟨v0, vs', rfl, o0, os⟩ := h
    rw [fpL_cons] at nd
    obtain ⟨n1, n2, n3⟩ := nodup_app.mp nd
    cases k with
    | zero =>
      simp at e ev; subst e; subst ev
      obtain ⟨o1, f1⟩ := ownL_away (u := u) os (n3 a m)
      rw [List.set_cons_zero]
      refine ⟨by unfold OwnL; exact ⟨v0, vs', rfl, h2, o1⟩, ?_, fun x hx => ?_⟩
      · rw [fpL_cons, f1, nodup_app]
        refine ⟨nd2, n2, fun x hx hx2 => ?_⟩
        rcases hn x hx with z | z
        · exact n3 x z hx2
        · exact z (by rw [fpL_cons]; exact List.mem_append_right _ hx2)
      · rw [fpL_cons, f1] at hx
        rcases List.mem_append.mp hx with z | z
        · exact .inr z
        · exact .inl (by rw [fpL_cons]; exact List.mem_append_right _ z)
    | succ k =>
      simp at e ev
      obtain ⟨tt, e1, o3, h4⟩ := ownL_get os ev
      rw [e] at e1; cases e1
      have na : a ∉ fp H t0 v0 := fun z => n3 a z (h4 a m)
      obtain ⟨o1, f1⟩ := own_away (u := u) o0 na
      obtain ⟨o5, n5, s5⟩ := ownL_set os n2 e ev m h2 nd2 fun x hx => (hn x hx).imp id fun z y => z (by rw [fpL_cons]; exact List.mem_append_right _ y)
      rw [List.set_cons_succ]
      refine ⟨by unfold OwnL; exact ⟨v0, vs', rfl, o1, o5⟩, ?_, fun x hx => ?_⟩
      · rw [fpL_cons, f1, nodup_app]
        refine ⟨n1, n5, fun x hx hx2 => ?_⟩
        rcases s5 x hx2 with z | z
        · exact n3 x hx z
        · rcases hn x z with y | y
          · exact n3 x hx (h4 x y)
          · exact y (by rw [fpL_cons]; exact List.mem_append_left _ hx)
      · rw [fpL_cons, f1] at hx
        rcases List.mem_append.mp hx with z | z
        · exact .inl (by rw [fpL_cons]; exact List.mem_append_left _ z)
        · exact (s5 x z).imp (fun y => by rw [fpL_cons]; exact List.mem_append_right _ y) id
theorem own_setKids {t : T} {b : Addr} {o : HO} {ts : List T} (h : Own K G H t (.ref b)) (ho : H b = some o) (hz : t.isFz = false) (hb : upd H a u b = some o) (hl : ts.length = t.kids.length) (hk : OwnL K G (upd H a u) ts (vkids o)) :
    Own K G (upd H a u) (t.setKids ts) (.ref b) ∧ fp (upd H a u) (t.setKids ts) (.ref b) = b :: fpL (upd H a u) ts (vkids o) := by
  cases t with
  | fz d => cases hz
  | lst ts0 =>
    unfold Own at h
    obtain ⟨b', vs, e, h1, h2, h3⟩ := h
    cases e
    rw [ho] at h2; cases h2
    exact ⟨by unfold T.setKids Own; exact ⟨b, vs, rfl, h1, hb, hk⟩, fp_lst hb⟩
  | dic ks ts0 =>
    unfold Own at h
    obtain ⟨b', kvs, e, h1, h2, h4, h3⟩ := h
    cases e
    rw [ho] at h2; cases h2
    exact ⟨by unfold T.setKids Own; exact ⟨b, kvs, rfl, h1, hb, h4, hk⟩, fp_dic hb⟩
  | ins C ns ts0 =>
    unfold Own at h
    obtain ⟨b', dx, fs, e, h1, h2, h4, h3⟩ := h
    cases e
    rw [ho] at h2; cases h2
    exact ⟨by unfold T.setKids Own; exact ⟨b, dx, fs, rfl, h1, hb, h4, hk⟩, fp_ins hb⟩
/-- the node at the path p is changed -/
theorem own_put : ∀ (p : List Nat) {t t0 t2 : T} {w : V}, Own K G H t w → (fp H t w).Nodup → At H t w p (.ref a) → t.at p = some t0 → t0.isFz = false → Own K G (upd H a u) t2 (.ref a) → (fp (upd H a u) t2 (.ref a)).Nodup → (∀ x ∈ fp (upd H a u) t2 (.ref a), x ∈ fp H t0 (.ref a) ∨ x ∉ fp H t w) →
    Own K G (upd H a u) (t.put p t2) w ∧ (fp (upd H a u) (t.put p t2) w).Nodup ∧ ∀ x ∈ fp (upd H a u) (t.put p t2) w, x ∈ fp H t w ∨ x ∈ fp (upd H a u) t2 (.ref a)
  | [], t, t0, t2, w, h, nd, at_, e, hz, h2, nd2, hn => by
    have e' : V.ref a = w := at_
    subst e'
    have : t.put [] t2 = t2 := by cases t <;> rfl
    rw [this]
    exact ⟨h2, nd2, fun x m => .inr m⟩
  | k :: p, t, t0, t2, w, h, nd, at_, e, hz, h2, nd2, hn => by
    obtain ⟨b, o, t', w', rfl, ho, ht, hv, at2⟩ := at_
    have hzt : t.isFz = false := by
      cases t with
      | fz d => simp at ht
      | _ => rfl
    obtain ⟨hg, hk, hf⟩ := own_node h ho hzt
    rw [hf] at nd
    obtain ⟨nb, ndk⟩ := List.nodup_cons.mp nd
    have e2 : t.at (k :: p) = t'.at p := by
      have : t.at (k :: p) = t.kids[k]?.bind fun u => u.at p := by cases t <;> rfl
      rw [this, ht]; rfl
    rw [e2] at e
    obtain ⟨tt, e1, o3, h4⟩ := ownL_get hk hv
    rw [ht] at e1; cases e1
    obtain ⟨t1, e3, o4, h5⟩ := own_at p o3 at2
    rw [e] at e3; cases e3
    obtain ⟨oa, hoa⟩ : ∃ oa, H a = some oa := by
      cases q : H a with
      | some oa => exact ⟨oa, rfl⟩
      | none =>
        exfalso
        cases t0 with
        | fz d => cases hz
        | lst ts => unfold Own at o4; obtain ⟨_, _, z, _, h2, _⟩ := o4; cases z; rw [q] at h2; cases h2
        | dic ks ts => unfold Own at o4; obtain ⟨_, _, z, _, h2, _⟩ := o4; cases z; rw [q] at h2; cases h2
        | ins C ns ts => unfold Own at o4; obtain ⟨_, _, _, z, _, h2, _⟩ := o4; cases z; rw [q] at h2; cases h2
    have ma0 : a ∈ fp H t0 (.ref a) := by rw [(own_node o4 hoa hz).2.2]; exact List.mem_cons_self
    have ma : a ∈ fp H t' w' := h5 a ma0
    have nba : b ≠ a := fun z => nb (by rw [z]; exact h4 a ma)
    have nd' : (fp H t' w').Nodup := by
      have : ∀ {ts : List T} {vs : List V} {k : Nat}, OwnL K G H ts vs → (fpL H ts vs).Nodup → ts[k]? = some t' → vs[k]? = some w' → (fp H t' w').Nodup := by
        intro ts
        induction ts with
        | nil => intro vs k _ _ e _; simp at e
        | cons t0 ts ih =>
          intro vs k hh nn e ev
          unfold OwnL at hh
          obtain ⟨v0, vs', rfl, _, os⟩ := hh
          rw [fpL_cons] at nn
          obtain ⟨n1, n2, _⟩ := nodup_app.mp nn
          cases k with
          | zero => simp at e ev; subst e; subst ev; exact n1
          | succ k => simp at e ev; exact ih os n2 e ev
      exact this hk ndk ht hv
    obtain ⟨o6, n6, s6⟩ := own_put p o3 nd' at2 e hz h2 nd2 fun x hx => (hn x hx).imp id fun z y => z (by rw [hf]; exact List.mem_cons_of_mem _ (h4 x y))
    obtain ⟨o7, n7, s7⟩ := ownL_set hk ndk ht hv ma o6 n6 fun x hx => by
      rcases s6 x hx with z | z
      · exact .inl z
      · rcases hn x z with y | y
        · exact .inl (h5 x y)
        · exact .inr fun q => y (by rw [hf]; exact List.mem_cons_of_mem _ q)
    have hb : upd H a u b = some o := by rw [upd_ne nba]; exact ho
    obtain ⟨o8, f8⟩ := own_setKids h ho hzt hb (by rw [List.length_set]) o7
    have ep : t.put (k :: p) t2 = t.setKids (t.kids.set k (t'.put p t2)) := by
      have : t.put (k :: p) t2 = (match t.kids[k]? with | some x => t.setKids (t.kids.set k (x.put p t2)) | none => t) := by cases t <;> rfl
      rw [this, ht]
    rw [ep, f8]
    refine ⟨o8, List.nodup_cons.mpr ⟨fun z => ?_, n7⟩, fun x hx => ?_⟩
    · rcases s7 b z with y | y
      · exact nb y
      · rcases s6 b y with q | q
        · exact nb (h4 b q)
        · rcases hn b q with r | r
          · exact nb (h4 b (h5 b r))
          · exact r (by rw [hf]; exact List.mem_cons_self)
    · rcases List.mem_cons.mp hx with rfl | z
      · exact .inl (by rw [hf]; exact List.mem_cons_self)
      · rcases s7 x z with y | y
        · exact .inl (by rw [hf]; exact List.mem_cons_of_mem _ y)
        · rcases s6 x y with q | q
          · exact .inl (by rw [hf]; exact List.mem_cons_of_mem _ (h4 x q))
          · exact .inr q
theorem own_some {t : T} (h : Own K G H t (.ref a)) (hz : t.isFz = false) : ∃ o, H a = some o ∧ ¬ Stat o := by
  cases t with
  | fz d => cases hz
  | lst ts => unfold Own at h; obtain ⟨_, _, z, _, h2, _⟩ := h; cases z; exact ⟨_, h2, lst_stat⟩
  | dic ks ts => unfold Own at h; obtain ⟨_, _, z, _, h2, _⟩ := h; cases z; exact ⟨_, h2, dK_stat⟩
  | ins C ns ts =>
    unfold Own at h; obtain ⟨_, _, _, z, _, h2, _⟩ := h; cases z
    refine ⟨_, h2, ?_⟩
    rintro (⟨ps, z⟩ | ⟨c, q, z⟩ | ⟨fs, z⟩)
    · cases z
    · unfold LamX.CodeO at z; cases z
    · cases z
end
/-- the slot's tree is changed at a node -/
theorem tree_ok {K : PySem.W.Frag} {Gs Hs G H : Hp} {σs σ : St} {ρs ρ : S} {i : Nat} {p : List Nat} {t t0 t2 : T} {w : V} {a : Addr} {u : HO} (o : OutS K Gs Hs σs ρs G H σ ρ) (e : ρ[i]? = some (some (.dp t))) (hw : σ[i]? = some (some w)) (at_ : At H t w p (.ref a)) (ep : t.at p = some t0) (hz : t0.isFz = false)
    (h2 : Own K G (upd H a u) t2 (.ref a)) (nd2 : (fp (upd H a u) t2 (.ref a)).Nodup) (hn : ∀ x ∈ fp (upd H a u) t2 (.ref a), x ∈ fp H t0 (.ref a) ∨ (Hs x = none ∧ ¬ ads H σ ρ x)) (hu : NT u := by intro _ z; cases z) : OutS K Gs Hs σs ρs G (upd H a u) σ (ρ.set i (some (.dp (t.put p t2)))) := by
  obtain ⟨w', e1, ow, nd⟩ := o.rel.tree e
  rw [hw] at e1; cases e1
  have hil : i < ρ.length := (List.getElem?_eq_some_iff.mp e).1
  have inA : ∀ x ∈ fp H t w, ads H σ ρ x := fun x m => .inr ⟨i, t, w, e, hw, m⟩
  obtain ⟨t1, e3, o4, h5⟩ := own_at p ow at_
  rw [ep] at e3; cases e3
  obtain ⟨oa, hoa, nst⟩ := own_some o4 hz
  have ma : a ∈ fp H t w := h5 a (by rw [(own_node o4 hoa hz).2.2]; exact List.mem_cons_self)
  obtain ⟨o6, n6, s6⟩ := own_put p ow nd at_ ep hz h2 nd2 fun x hx => (hn x hx).imp id fun z y => z.2 (inA x y)
  have s7 : ∀ x ∈ fp (upd H a u) (t.put p t2) w, x ∈ fp H t w ∨ (Hs x = none ∧ ¬ ads H σ ρ x) := fun x hx => by
    rcases s6 x hx with z | z
    · exact .inl z
    · exact (hn x z).imp (h5 x) id
  have hga := (ow.in_ t a ma).1
  have sb : Sub G (upd H a u) := fun b x eb => by
    have hb : b ≠ a := fun z => by rw [z, hga] at eb; cases eb
    rw [upd_ne hb]; exact o.rel.sub b x eb
  have mset : ∀ j, isMut (ρ.set i (some (.dp (t.put p t2)))) j → j ≠ i ∧ isMut ρ j := fun j h => isMut_set h fun d => ⟨nofun, nofun⟩
  have dset : ∀ (j : Nat) (x : T), (ρ.set i (some (.dp (t.put p t2))))[j]? = some (some (Sl.dp x)) → (j = i ∧ x = t.put p t2) ∨ (j ≠ i ∧ ρ[j]? = some (some (Sl.dp x))) := fun j x q => by
    by_cases hj : i = j
    · subst hj; rw [List.getElem?_set_self hil] at q; cases q; exact .inl ⟨rfl, rfl⟩
    · rw [List.getElem?_set_ne hj] at q; exact .inr ⟨Ne.symm hj, q⟩
  have oth : ∀ (j : Nat) (x : T) (v : V), j ≠ i → ρ[j]? = some (some (Sl.dp x)) → σ[j]? = some (some v) → Own K G (upd H a u) x v ∧ fp (upd H a u) x v = fp H x v ∧ (fp H x v).Nodup := fun j x v hj q qv => by
    obtain ⟨v', e2, h1, h3⟩ := o.rel.tree q
    rw [qv] at e2; cases e2
    obtain ⟨h6, h7⟩ := own_away (u := u) h1 fun m => hj (o.rel.dp.dd j i x t v w a q qv e hw m ma)
    exact ⟨h6, h7, h3⟩
  have adsN : ∀ x, ads (upd H a u) σ (ρ.set i (some (.dp (t.put p t2)))) x → ads H σ ρ x ∨ Hs x = none := fun x h => by
    rcases h with ⟨j, m, q⟩ | ⟨j, y, v, q, qv, m⟩
    · exact .inl (.inl ⟨j, (mset j m).2, q⟩)
    · rcases dset j y q with ⟨rfl, rfl⟩ | ⟨hj, q⟩
      · rw [hw] at qv; cases qv
        rcases s7 x m with z | z
        · exact .inl (inA x z)
        · exact .inr z.1
      · rw [(oth j y v hj q qv).2.1] at m
        exact .inl (.inr ⟨j, y, v, q, qv, m⟩)
  refine ⟨⟨by rw [List.length_set]; exact o.rel.len, sb, fun j s q => ?_, fun j k b m1 m2 => o.rel.dis j k b (mset j m1).2 (mset k m2).2, ⟨fun j k x y v v2 b q1 q2 q3 q4 m1 m2 => ?_, fun b j h m q => ?_⟩, tbU (fun o' e' => by rw [hoa] at e'; cases e'; exact nst) o.rel.tt hu⟩, o.stp.trans ⟨Same.refl _, fun b x eb n _ => ?_, fun b eb => ?_, fun _ _ _ h => h, tabs_upd (fun o' e' => by rw [hoa] at e'; cases e'; exact nst) hu⟩ fun c hc (z : ads H σ ρ c) => o.nw c z hc, fun x h hx => ?_, fun j h => ?_⟩
  · by_cases hj : i = j
    · subst hj
      rw [List.getElem?_set_self hil] at q; cases q
      exact ⟨w, hw, o6, n6⟩
    · rw [List.getElem?_set_ne hj] at q
      have z := o.rel.sl j s q
      cases s with
      | sh d => exact z
      | gh b g0 h0 => obtain ⟨e1, h1, h2⟩ := z; exact ⟨e1, h1, h2.trans (tabs_upd (fun o' e' => by rw [hoa] at e'; cases e'; exact nst) hu)⟩
      | own d =>
        obtain ⟨b, e2, g1, x, g2, g3⟩ := z
        have nb : b ≠ a := fun z => o.rel.dp.ds a j ⟨i, t, w, e, hw, ma⟩ ⟨d, .inl q⟩ (by rw [← z]; exact e2)
        exact ⟨b, e2, g1, x, by rw [upd_ne nb]; exact g2, g3⟩
      | io d =>
        obtain ⟨b, e2, g1, x, g2, g3⟩ := z
        have nb : b ≠ a := fun z => o.rel.dp.ds a j ⟨i, t, w, e, hw, ma⟩ ⟨d, .inr q⟩ (by rw [← z]; exact e2)
        exact ⟨b, e2, g1, x, by rw [upd_ne nb]; exact g2, g3⟩
      | dp y =>
        obtain ⟨v, e2, g1, g2⟩ := z
        obtain ⟨h6, h7, h8⟩ := oth j y v (Ne.symm hj) q e2
        exact ⟨v, e2, h6, by rw [h7]; exact h8⟩
  · rcases dset j x q1 with ⟨rfl, rfl⟩ | ⟨hj, r1⟩
    · rw [hw] at q2; cases q2
      rcases dset k y q3 with ⟨rfl, rfl⟩ | ⟨hk, r3⟩
      · rfl
      · rw [(oth k y v2 hk r3 q4).2.1] at m2
        rcases s7 b m1 with z | z
        · exact o.rel.dp.dd j k t y w v2 b e hw r3 q4 z m2
        · exact absurd (.inr ⟨k, y, v2, r3, q4, m2⟩) z.2
    · rw [(oth j x v hj r1 q2).2.1] at m1
      rcases dset k y q3 with ⟨rfl, rfl⟩ | ⟨hk, r3⟩
      · rw [hw] at q4; cases q4
        rcases s7 b m2 with z | z
        · exact o.rel.dp.dd j k x t v w b r1 q2 e hw m1 z
        · exact absurd (.inr ⟨j, x, v, r1, q2, m1⟩) z.2
      · rw [(oth k y v2 hk r3 q4).2.1] at m2
        exact o.rel.dp.dd j k x y v v2 b r1 q2 r3 q4 m1 m2
  · obtain ⟨hj, m'⟩ := mset j m
    obtain ⟨k, y, v, q1, q2, m1⟩ := h
    rcases dset k y q1 with ⟨rfl, rfl⟩ | ⟨hk, r1⟩
    · rw [hw] at q2; cases q2
      rcases s7 b m1 with z | z
      · exact o.rel.dp.ds b j ⟨k, t, w, e, hw, z⟩ m' q
      · exact z.2 (.inl ⟨j, m', q⟩)
    · rw [(oth k y v hk r1 q2).2.1] at m1
      exact o.rel.dp.ds b j ⟨k, y, v, r1, q2, m1⟩ m' q
  · rw [upd_ne fun z => n (by rw [z]; exact inA a ma)]; exact eb
  · by_cases hb : b = a
    · subst hb; rw [upd_same] at eb; cases eb
    · rw [upd_ne hb] at eb; exact eb
  · rcases adsN x h with z | z
    · exact o.nw x z hx
    · exact absurd z hx
  · obtain ⟨⟨d, q⟩, q2⟩ := o.io j h
    have hj : i ≠ j := fun z => by subst z; rw [e] at q; cases q
    exact ⟨⟨d, by rw [List.getElem?_set_ne hj]; exact q⟩, q2⟩
end BR
set_option Elab.async false
set_option linter.all false
set_option maxRecDepth 100000
set_option maxHeartbeats 4000000
namespace BR
open PySem L2
/-! ## trees in expressions and statements -/
@[simp] def node : Hd → S → Option T
  | .slot i, ρ => (match ρ[i]? with
    | some (some (.dp t)) => some t
    | _ => none)
  | .sub i p, ρ => (match ρ[i]? with
    | some (some (.dp t)) => t.at p
    | _ => none)
  | _, _ => none
@[simp] def subH : Hd → Nat → Hd
  | .slot i, k => .sub i [k]
  | .sub i p, k => .sub i (p ++ [k])
  | h, _ => h
@[simp] def putT : Hd → T → S → Option S
  | .slot i, u, ρ => (match ρ[i]? with
    | some (some (.dp _)) => some (ρ.set i (some (.dp u)))
    | _ => none)
  | .sub i p, u, ρ => (match ρ[i]? with
    | some (some (.dp t)) => some (ρ.set i (some (.dp (t.put p u))))
    | _ => none)
  | _, _, _ => none
@[simp] def kidL : T → Option (List T)
  | .lst ts => some ts
  | _ => none
@[simp] def lookQ : Hd → S → Option D
  | .slot i, ρ => (match ρ[i]? with
    | some (some (.dp t)) => some t.d
    | _ => look (.slot i) ρ)
  | .sub i p, ρ => (match ρ[i]? with
    | some (some (.dp t)) => (t.at p).map T.d
    | _ => none)
  | .tpd t, _ => some t.d
  | h, ρ => look h ρ
def RepQ (K : PySem.W.Frag) (G H : Hp) (d : D) (v : V) : Prop := RepP K G H d v ∨ ∃ t, t.d = d ∧ Own K G H t v
section
variable {K : PySem.W.Frag} {Hs G H : Hp} {σ : St} {ρ ρ' : S} {hd : Hd} {v : V} {t : T} {d : D}
theorem at_put_nil (t u : T) : t.put [] u = u := by cases t <;> rfl
theorem at_nil (t : T) : t.at [] = some t := by cases t <;> rfl
/-- where a node stands -/
theorem node_ok (r : Rel K G H σ ρ) (h : Hold K Hs G H σ ρ hd v) (e : node hd ρ = some t) : ∃ i p t1 w, ρ[i]? = some (some (.dp t1)) ∧ σ[i]? = some (some w) ∧ At H t1 w p v ∧ t1.at p = some t ∧ Own K G H t v ∧ (∀ k, subH hd k = .sub i (p ++ [k])) ∧ ∀ u, putT hd u ρ = some (ρ.set i (some (.dp (t1.put p u)))) := by
  cases hd with
  | slot i =>
    have h' : σ[i]? = some (some v) := h
    replace e : (match ρ[i]? with | some (some (.dp t)) => some t | _ => none) = some t := e
    split at e
    · rename_i t0 q
      cases e
      obtain ⟨w, e1, h1, _⟩ := r.tree q
      rw [h'] at e1; cases e1
      exact ⟨i, [], t, v, q, h', rfl, at_nil t, h1, fun k => rfl, fun u => by simp only [putT, q, at_put_nil]⟩
    · cases e
  | sub i p =>
    obtain ⟨w, hw, ha⟩ := h
    replace e : (match ρ[i]? with | some (some (.dp t)) => t.at p | _ => none) = some t := e
    split at e
    · rename_i t0 q
      obtain ⟨w', e1, h1, _⟩ := r.tree q
      rw [hw] at e1; cases e1
      obtain ⟨t2, e2, h2, _⟩ := own_at p h1 (ha t0 q)
      rw [e2] at e; cases e
      exact ⟨i, p, t0, w, q, hw, ha t0 q, e2, h2, fun k => rfl, fun u => by simp only [putT, q]⟩
    · cases e
  | _ => cases e
theorem at_snoc : ∀ (p : List Nat) {t t0 : T} {w v' : V} {a : Addr} {o : HO} {k : Nat} {t' : T}, At H t w p (.ref a) → t.at p = some t0 → H a = some o → t0.kids[k]? = some t' → (vkids o)[k]? = some v' → At H t w (p ++ [k]) v'
  | [], t, t0, w, v', a, o, k, t', h, e, ho, hk, hv => by
    have h' : V.ref a = w := h
    subst h'
    rw [at_nil] at e; cases e
    exact ⟨a, o, t', v', rfl, ho, hk, hv, rfl⟩
  | j :: p, t, t0, w, v', a, o, k, t', h, e, ho, hk, hv => by
    obtain ⟨b, ob, x, y, rfl, h1, h2, h3, h4⟩ := h
    have e2 : t.at (j :: p) = x.at p := by
      have : t.at (j :: p) = t.kids[j]?.bind fun u => u.at p := by cases t <;> rfl
      rw [this, h2]; rfl
    rw [e2] at e
    exact ⟨b, ob, x, y, rfl, h1, h2, h3, at_snoc p h4 e ho hk hv⟩
theorem at_some : ∀ (p : List Nat) {t t0 t' : T} {k : Nat}, t.at p = some t0 → t0.kids[k]? = some t' → t.at (p ++ [k]) = some t'
  | [], t, t0, t', k, e, hk => by
    rw [at_nil] at e; cases e
    have : t.at ([] ++ [k]) = t.kids[k]?.bind fun u => u.at [] := by cases t <;> rfl
    rw [this, hk]; exact at_nil t'
  | j :: p, t, t0, t', k, e, hk => by
    have e2 : ∀ q, t.at (j :: q) = t.kids[j]?.bind fun u => u.at q := fun q => by cases t <;> rfl
    rw [e2] at e
    rw [List.cons_append, e2]
    cases q : t.kids[j]? with
    | none => rw [q] at e; cases e
    | some x => rw [q] at e; exact at_some p e hk
theorem own_lst {ts : List T} (h : Own K G H (.lst ts) v) : ∃ a vs, v = .ref a ∧ G a = none ∧ H a = some (.lst vs) ∧ OwnL K G H ts vs := by unfold Own at h; exact h
theorem ownL_getT : ∀ {ts : List T} {vs : List V} {k : Nat} {t : T}, OwnL K G H ts vs → ts[k]? = some t → ∃ v, vs[k]? = some v ∧ Own K G H t v
  | [], vs, k, t, h, e => by simp at e
  | t0 :: ts, vs, k, t, h, e => by
    unfold OwnL at h
    obtain ⟨w, vs', rfl, h1, h2⟩ := h
    cases k with
    | zero => simp at e; subst e; exact ⟨w, rfl, h1⟩
    | succ k => simp at e; simpa using ownL_getT h2 e
theorem lookQ_ok (r : Rel K G H σ ρ) (h : Hold K Hs G H σ ρ hd v) (e : lookQ hd ρ = some d) : RepQ K G H d v := by
  cases hd with
  | val d' => exact .inl (hold_look r h e)
  | tmp d' => exact .inl (hold_look r h e)
  | tpd t' => cases e; exact .inr ⟨t', rfl, h.1⟩
  | slot i =>
    cases q : ρ[i]? with
    | none => exact .inl (hold_look r h (by simp only [lookQ, q] at e; simpa only [look, q] using e))
    | some s =>
      cases s with
      | none => exact .inl (hold_look r h (by simp only [lookQ, q] at e; simpa only [look, q] using e))
      | some s =>
        cases s with
        | dp t' =>
          simp only [lookQ, q] at e; cases e
          obtain ⟨w, e1, h1, _⟩ := r.tree q
          have h' : σ[i]? = some (some v) := h
          rw [h'] at e1; cases e1
          exact .inr ⟨t', rfl, h1⟩
        | _ => exact .inl (hold_look r h (by simp only [lookQ, q] at e; simpa only [look, q] using e))
  | sub i p =>
    cases q : node (.sub i p) ρ with
    | none =>
      simp only [node] at q
      simp only [lookQ] at e
      split at e
      · rename_i t' q'
        rw [q'] at q
        simp only at q
        rw [q] at e; cases e
      · cases e
    | some t' =>
      obtain ⟨j, p', t1, w, q1, q2, q3, q4, q5, q6, _⟩ := node_ok r h q
      simp only [node] at q
      simp only [lookQ] at e
      split at e
      · rename_i t2 q'
        rw [q'] at q
        simp only at q
        rw [q] at e; cases e
        exact .inr ⟨t', rfl, q5⟩
      · cases e
mutual
theorem own_dp (s : Sub G H) : ∀ (t : T) {v : V} {p : PyData}, Own K G H t v → toP t.d = some p → Dp K H v p
  | .fz d, v, p, h, e => by unfold Own at h; unfold T.d at e; exact dp_rep s d h e
  | .lst ts, v, p, h, e => by
    unfold Own at h; unfold T.d toP at e
    obtain ⟨a, vs, rfl, _, h1, h2⟩ := h
    cases q : toPL (T.ds ts) with
    | none => rw [q] at e; cases e
    | some ps => rw [q] at e; cases e; exact .lst (SqL.of h1) (ownL_dp s ts h2 q)
  | .dic ks ts, v, p, h, e => by unfold T.d toP at e; cases e
  | .ins C ns ts, v, p, h, e => by unfold T.d toP at e; cases e
theorem ownL_dp (s : Sub G H) : ∀ (ts : List T) {vs : List V} {ps : List PyData}, OwnL K G H ts vs → toPL (T.ds ts) = some ps → DpAll K H vs ps
  | [], vs, ps, h, e => by unfold OwnL at h; subst h; unfold T.ds toPL at e; cases e; exact .nil
  | t :: ts, vs, ps, h, e => by
    unfold OwnL at h
    obtain ⟨v, vs', rfl, h1, h2⟩ := h
    unfold T.ds toPL at e
    cases q : toP t.d with
    | none => rw [q] at e; cases e
    | some p =>
      cases q2 : toPL (T.ds ts) with
      | none => rw [q, q2] at e; cases e
      | some ps' => rw [q, q2] at e; cases e; exact .cons (own_dp s t h1 q) (ownL_dp s ts h2 q2)
end
theorem RepQ.dp {p : PyData} (s : Sub G H) (h : RepQ K G H d v) (e : toP d = some p) : Dp K H v p := by
  rcases h with h | ⟨t, rfl, h⟩
  · exact dp_repP s h e
  · exact own_dp s t h e
theorem RepQ.int {i : Int} (h : RepQ K G H (.int i) v) : v = .int i := by
  rcases h with h | ⟨t, e, h⟩
  · exact h.int
  · cases t <;> simp at e; subst e; unfold Own Rep at h; exact h
theorem RepQ.bl {i : Bool} (h : RepQ K G H (.bl i) v) : v = .bl i := by
  rcases h with h | ⟨t, e, h⟩
  · exact h.bl
  · cases t <;> simp at e; subst e; unfold Own Rep at h; exact h
theorem RepQ.str {i : Str} (h : RepQ K G H (.str i) v) : v = .str i := by
  rcases h with h | ⟨t, e, h⟩
  · exact h.str
  · cases t <;> simp at e; subst e; unfold Own Rep at h; exact h
end
/-! ### == and !=, repr and len of trees -/
section
variable {X : Cx} {K : PySem.W.Frag} {E : WX} {a b e : Expr} {fa fb f : EF} {pos p : Pos} {x : Str}
theorem eqD_casesQ {G H : Hp} {x y : D} {v w : V} {b : Bool} (s : Sub G H) (hx : RepQ K G H x v) (hy : RepQ K G H y w) (e : eqD x y = some b) :
    (scal v w = true ∧ b = decide (v = w)) ∨ ∃ p q, Dp K H v p ∧ Dp K H w q ∧ SeqAt.shaped p = true ∧ SeqAt.shaped q = true ∧ b = PyData.eqv p q := by
  have gen : ∀ {x y : D}, RepQ K G H x v → RepQ K G H y w → (match toP x, toP y with
    | some p, some q => if (SeqAt.shaped p && SeqAt.shaped q) = true then some (PyData.eqv p q) else none
    | _, _ => none) = some b → ∃ p q, Dp K H v p ∧ Dp K H w q ∧ SeqAt.shaped p = true ∧ SeqAt.shaped q = true ∧ b = PyData.eqv p q := by
    intro x y hx hy e
    split at e
    · rename_i p q e1 e2
      split at e
      · rename_i hs
        obtain ⟨s1, s2⟩ := Bool.and_eq_true_iff.mp hs
        cases e
        exact ⟨p, q, hx.dp s e1, hy.dp s e2, s1, s2, rfl⟩
      · cases e
    · cases e
  unfold eqD at e
  split at e
  · have := hx.int; have := hy.int; subst_vars; cases e
    exact .inl ⟨rfl, by simp⟩
  · have := hx.str; have := hy.str; subst_vars; cases e
    exact .inl ⟨rfl, by simp⟩
  · have := hx.bl; have := hy.bl; subst_vars; cases e
    exact .inl ⟨rfl, by simp⟩
  · exact .inr (gen hx hy e)
@[simp] def eCmpQ (g : Bool → Bool) (fa fb : EF) : EF := fun ρ => fa ρ >>= fun z1 => fb z1.2 >>= fun z2 => ofO (lookQ z1.1 z2.2) >>= fun x => ofO (lookQ z2.1 z2.2) >>= fun y => ofO (eqD x y) >>= fun c => .ok (.val (.bl (g c)), z2.2)
theorem snd_cmpQ {g : Bool → Bool} {r : R2} {ta tb : TE} (hr : ∀ (v w : V) (H : Hp) (Q : VK) (b : Bool), ((scal v w = true ∧ b = decide (v = w)) ∨ ∃ p q, Dp K H v p ∧ Dp K H w q ∧ SeqAt.shaped p = true ∧ SeqAt.shaped q = true ∧ b = PyData.eqv p q) → Q (.bl (g b)) H → r v w H Q)
    (sa : Snd K E ta fa) (sb : Snd K E tb fb) : Snd K E (tOp r ta tb) (eCmpQ g fa fb) := by
  intro G H σ ρ R Q hw
  refine sa G H σ ρ R _ (hw.bind.mono (fun z1 _ q v G1 H1 o1 h1 => ?_) fun _ _ q => q)
  refine sb G1 H1 σ z1.2 o1.rel _ (q.bind.mono (fun z2 _ q2 w G2 H2 o2 h2 => ?_) fun _ _ q2 => q2.step o1)
  obtain ⟨x, ex, q2⟩ := q2.opt
  obtain ⟨y, ey, q2⟩ := q2.opt
  obtain ⟨c, ec, q2⟩ := q2.opt
  exact hr v w H2 Q c (eqD_casesQ o2.rel.sub (lookQ_ok o2.rel (h1.pers o2) ex) (lookQ_ok o2.rel h2 ey) ec) (q2 _ G2 H2 (o1.trans o2) (Hold.val rep_bl))
theorem pr_eqQ (hu : X.A.units + 64 < cLine) (pa : PR X E a fa) (pb : PR X E b fb) (hm : behindInMarks .Eq b = false) : PR X E (.Compare a [.Eq] [b] pos) (eCmpQ id fa fb) := by
  obtain ⟨ta, pa, sa⟩ := pa.ex
  obtain ⟨tb, pb, sb⟩ := pb.ex
  refine ⟨_, pe_cmpR (op_eqB hu) pa pb hm, snd_cmpQ (fun v w H Q b hc hq => ?_) sa sb⟩
  rcases hc with ⟨h1, h2⟩ | ⟨p, q, h1, h2, h3, h4, h5⟩
  · exact .inl ⟨h1, by rw [← h2]; exact hq⟩
  · exact .inr ⟨p, q, h1, h2, h3, h4, by rw [← h5]; exact hq⟩
theorem pr_neQ (hu : X.A.units + 64 < cLine) (pa : PR X E a fa) (pb : PR X E b fb) (hm : behindInMarks .NotEq b = false) : PR X E (.Compare a [.NotEq] [b] pos) (eCmpQ (fun b => !b) fa fb) := by
  obtain ⟨ta, pa, sa⟩ := pa.ex
  obtain ⟨tb, pb, sb⟩ := pb.ex
  refine ⟨_, pe_cmpR (op_neB hu) pa pb hm, snd_cmpQ (fun v w H Q b hc hq => ?_) sa sb⟩
  rcases hc with ⟨h1, h2⟩ | ⟨p, q, h1, h2, h3, h4, h5⟩
  · exact .inl ⟨h1, by rw [← h2]; exact hq⟩
  · exact .inr ⟨p, q, h1, h2, h3, h4, by rw [← h5]; exact hq⟩
/-- a built-in of one argument, trees too -/
@[simp] def eCBq (g : List D → Option D) (f : EF) : EF := fun ρ => f ρ >>= fun z => ofO (lookQ z.1 z.2) >>= fun d => ofO (g [d]) >>= fun r => .ok (.val r, z.2)
open Classical in
noncomputable def qRepr : List D → Option D
  | [d] => match toP d with
    | some p => if okShow p then some (.str p.shown) else none
    | none => none
  | _ => none
theorem pr_reprQ (hg : X.A.guards = some []) (hu : X.A.units + 64 < cLine) (hgl : Gl X "repr") (hm : X.mg "repr" = none) (ha : PR X E e f)
    (he : starEach [e] X.env = (false, eval e X.env) :: starEach [] X.env := by rfl) (hpl : (backTo pos (starEach [] X.env)).any (·.1) = false := by rfl) : PR X E (.Call (.Name "repr" p) [e] [] pos) (eCBq qRepr f) := by
  obtain ⟨t, pe, s⟩ := ha.ex
  refine ⟨_, pe_callB (call_reprD hg hu) hgl hm (by decide +kernel) (pa_cons pe pa_nil he) (by decide) (by decide) he hpl, fun G H σ ρ r Q hw => s G H σ ρ r _ (hw.bind.mono (fun z _ q v G1 H1 o1 h1 => ?_) fun _ _ q => q)⟩
  obtain ⟨d, e1, q⟩ := q.opt
  obtain ⟨d2, e2, q⟩ := q.opt
  unfold qRepr at e2
  simp only at e2
  split at e2
  · rename_i p ep
    split at e2
    · rename_i hs
      cases e2
      exact ⟨v, p, rfl, (lookQ_ok o1.rel h1 e1).dp o1.rel.sub ep, hs.1, hs.2.1, hs.2.2, q _ G1 H1 o1 (Hold.val rep_str)⟩
    · cases e2
  · cases e2
@[simp] def qLen : List D → Option D
  | [.lst ds] => some (.int ds.length)
  | [.tup ds] => some (.int ds.length)
  | _ => none
theorem ds_len : ∀ ts : List T, (T.ds ts).length = ts.length
  | [] => rfl
  | t :: ts => by unfold T.ds; rw [List.length_cons, List.length_cons, ds_len ts]
theorem pr_lenQ (hgl : Gl X "len") (hm : X.mg "len" = none) (ha : PR X E e f)
    (he : starEach [e] X.env = (false, eval e X.env) :: starEach [] X.env := by rfl) (hpl : (backTo pos (starEach [] X.env)).any (·.1) = false := by rfl) : PR X E (.Call (.Name "len" p) [e] [] pos) (eCBq qLen f) := by
  obtain ⟨t, pe, s⟩ := ha.ex
  refine ⟨_, pe_callB call_lenK hgl hm (by decide +kernel) (pa_cons pe pa_nil he) (by decide) (by decide) he hpl, fun G H σ ρ r Q hw => s G H σ ρ r _ (hw.bind.mono (fun z _ q v G1 H1 o1 h1 => ?_) fun _ _ q => q)⟩
  obtain ⟨d, e1, q⟩ := q.opt
  obtain ⟨d2, e2, q⟩ := q.opt
  have hv := lookQ_ok o1.rel h1 e1
  unfold qLen at e2
  split at e2
  · rename_i ds ed
    cases ed; cases e2
    refine .inl ⟨v, ds.length, rfl, ?_, q _ G1 H1 o1 (Hold.val rep_int)⟩
    rcases hv with hv | ⟨t, et, hv⟩
    · obtain ⟨a, us, rfl, g1, g2⟩ := hv.lst o1.rel.sub
      exact .inl ⟨us, SqL.of g1, g2.length⟩
    · cases t with
      | fz d => simp at et; subst et; obtain ⟨a, us, rfl, g1, g2⟩ := (show RepP X.K G1 H1 (.lst ds) v from .inl (by unfold Own at hv; exact hv)).lst o1.rel.sub; exact .inl ⟨us, SqL.of g1, g2.length⟩
      | lst ts =>
        simp at et; subst et
        obtain ⟨a, vs, rfl, _, g1, g2⟩ := own_lst hv
        exact .inl ⟨vs, SqL.of g1, by rw [ds_len]; exact ownL_len g2⟩
      | _ => simp at et
  · rename_i ds ed
    cases ed; cases e2
    refine .inl ⟨v, ds.length, rfl, ?_, q _ G1 H1 o1 (Hold.val rep_int)⟩
    rcases hv with hv | ⟨t, et, hv⟩
    · obtain ⟨a, us, rfl, g1, g2⟩ := hv.tup o1.rel.sub
      exact .inr ⟨us, g1, g2.length⟩
    · cases t with
      | fz d => simp at et; subst et; obtain ⟨a, us, rfl, g1, g2⟩ := (show RepP X.K G1 H1 (.tup ds) v from .inl (by unfold Own at hv; exact hv)).tup o1.rel.sub; exact .inr ⟨us, g1, g2.length⟩
      | _ => simp at et
  · cases e2
/-- o[k] of a list in a tree -/
@[simp] def eIxT (fo fb : EF) : EF := fun ρ => fo ρ >>= fun z1 => fb z1.2 >>= fun z2 => ofO (node z1.1 z2.2) >>= fun t => ofO (kidL t) >>= fun ts => ofO (asInt z2.1) >>= fun k => ofO (ixN ts.length k) >>= fun j => (match ts[j]? with
  | some (.fz d) => .ok (.val d, z2.2)
  | some _ => .ok (subH z1.1 j, z2.2)
  | none => .no)
theorem pr_ixT (pa : PR X E a fa) (pb : PR X E b fb) (hs : PlainIx b) : PR X E (.Subscript a b pos) (eIxT fa fb) := by
  obtain ⟨ta, pa, sa⟩ := pa.ex
  obtain ⟨tb, pb, sb⟩ := pb.ex
  refine ⟨_, pe_ix ix_list pa pb hs, fun G H σ ρ R Q hw => sa G H σ ρ R _ (hw.bind.mono (fun z1 _ q v G1 H1 o1 h1 => ?_) fun _ _ q => q)⟩
  refine sb G1 H1 σ z1.2 o1.rel _ (q.bind.mono (fun z2 _ q2 w G2 H2 o2 h2 => ?_) fun _ _ q2 => q2.step o1)
  obtain ⟨t, e1, q3⟩ := q2.opt
  obtain ⟨ts, e2, q4⟩ := q3.opt
  obtain ⟨k, e3, q5⟩ := q4.opt
  obtain ⟨j, e4, q6⟩ := q5.opt
  clear q2 q3 q4 q5
  have h1' := h1.pers o2
  obtain ⟨i, p, t1, w1, g1, g2, g3, g4, g5, g6, _⟩ := node_ok o2.rel h1' e1
  have et : t = .lst ts := by cases t <;> cases e2; rfl
  subst et
  obtain ⟨a', vs, rfl, g7, g8, g9⟩ := own_lst g5
  rw [asInt_eq e3] at h2
  have hw' : Rep X.K G2 (.int k) w := h2
  unfold Rep at hw'
  subst hw'
  have hl := ownL_len g9
  cases ej : ts[j]? with
  | none => rw [ej] at q6; exact q6.elim
  | some tj =>
    rw [ej] at q6
    obtain ⟨vj, ev, oj⟩ := ownL_getT g9 ej
    refine ⟨a', vs, k, vj, rfl, rfl, SqL.of g8, ?_, ?_⟩
    · unfold atI
      rw [← hl, e4]
      exact ev
    · have done : ∀ t' : T, ts[j]? = some t' → Wp (BR.R.ok (subH z1.1 j, z2.2)) (fun z => ∀ v G' H', Out X.K G H σ ρ G' H' z.2 → Hold X.K H G' H' σ z.2 z.1 v → Q v H') (ExE X.K E G H σ ρ) → Q vj H2 := fun t' et' q3 => by
        refine q3 vj G2 H2 (o1.trans o2) ?_
        rw [g6 j]
        exact ⟨w1, g2, fun t2 q => by
          rw [g1] at q; cases q
          exact at_snoc p g3 g4 g8 et' ev⟩
      cases tj with
      | fz d => exact q6 vj G2 H2 (o1.trans o2) (Hold.val (by unfold Own at oj; exact oj))
      | lst _ => exact done _ ej q6
      | dic _ _ => exact done _ ej q6
      | ins _ _ _ => exact done _ ej q6
end
end BR
set_option Elab.async false
set_option linter.all false
set_option maxRecDepth 100000
set_option maxHeartbeats 4000000
namespace BR
open PySem L2
/-! ## trees made and changed -/
@[simp] def ofD : D → Option T
  | .lst ds => some (.lst (ds.map .fz))
  | .dic ks ds => some (.dic ks (ds.map .fz))
  | .ins C ns ds => some (.ins C ns (ds.map .fz))
  | _ => none
@[simp] def normT : Hd → S → Option (T × S)
  | .val d, ρ => some (.fz d, ρ)
  | .tmp d, ρ => (ofD d).map fun t => (t, ρ)
  | .tpd t, ρ => some (t, ρ)
  | .slot i, ρ => (share (.slot i) ρ).map fun z => (.fz z.1, z.2)
  | .sub _ _, _ => none
section
variable {K : PySem.W.Frag} {Hs G H : Hp} {σ : St} {ρ ρ' : S} {hd : Hd} {v : V} {t : T} {a : Addr}
theorem ownL_ofz : ∀ {ds : List D} {vs : List V}, RepL K G ds vs → OwnL K G H (ds.map .fz) vs ∧ fpL H (ds.map .fz) vs = []
  | [], vs, h => by rw [repL_nil.mp h]; exact ⟨by unfold List.map OwnL; rfl, by rw [List.map_nil, fpL_nil]⟩
  | d :: ds, vs, h => by
    obtain ⟨v, vs', rfl, h1, h2⟩ := repL_cons.mp h
    obtain ⟨o, f⟩ := ownL_ofz h2
    exact ⟨by rw [List.map_cons]; unfold OwnL; exact ⟨v, vs', rfl, by unfold Own; exact h1, o⟩, by rw [List.map_cons, fpL_cons, fp_fz, f]; rfl⟩
theorem own_ofD {d : D} {p : Addr} (h : OwnAt K G H p d) (e : ofD d = some t) : Own K G H t (.ref p) ∧ fp H t (.ref p) = [p] := by
  obtain ⟨hg, o, ho, hc⟩ := h
  cases d with
  | lst ds =>
    cases e
    obtain ⟨vs, rfl, hr⟩ := hc
    obtain ⟨o1, f⟩ := ownL_ofz (H := H) hr
    exact ⟨by unfold Own; exact ⟨p, vs, rfl, hg, ho, o1⟩, by rw [fp_lst ho, f]⟩
  | dic ks ds =>
    cases e
    obtain ⟨vs, rfl, hk, hr⟩ := hc
    obtain ⟨o1, f⟩ := ownL_ofz (H := H) hr
    exact ⟨by unfold Own; exact ⟨p, vs, rfl, hg, ho, hk, o1⟩, by rw [fp_dic ho, f]⟩
  | ins C ns ds =>
    cases e
    obtain ⟨dx, vs, rfl, hk, hr⟩ := hc
    obtain ⟨o1, f⟩ := ownL_ofz (H := H) hr
    exact ⟨by unfold Own; exact ⟨p, dx, vs, rfl, hg, ho, hk, o1⟩, by rw [fp_ins ho, f]⟩
  | _ => cases e
theorem normT_ok {Gs : Hp} {ρs : S} {z : T × S} (o : Out K Gs Hs σ ρs G H ρ) (h : Hold K Hs G H σ ρ hd v) (e : normT hd ρ = some z) : ∃ G', Out K Gs Hs σ ρs G' H z.2 ∧ Same G G' ∧ Hold K Hs G' H σ z.2 (.tpd z.1) v := by
  cases hd with
  | val d => cases e; exact ⟨G, o, Same.refl _, by unfold Own; exact h, by rw [fp_fz]; exact List.nodup_nil, fun p m => by rw [fp_fz] at m; cases m⟩
  | tpd t => cases e; exact ⟨G, o, Same.refl _, h⟩
  | tmp d =>
    obtain ⟨p, rfl, h1, h2, h3⟩ := h
    replace e : (ofD d).map (fun t => (t, ρ)) = some z := e
    cases q : ofD d with
    | none => rw [q] at e; cases e
    | some t =>
      rw [q] at e; cases e
      obtain ⟨o1, f⟩ := own_ofD h1 q
      exact ⟨G, o, Same.refl _, o1, by rw [f]; simp, fun x m => by rw [f, List.mem_singleton] at m; subst m; exact ⟨h2, h3⟩⟩
  | slot i =>
    replace e : (share (.slot i) ρ).map (fun z => (T.fz z.1, z.2)) = some z := e
    cases q : share (.slot i) ρ with
    | none => rw [q] at e; cases e
    | some y =>
      rw [q] at e; cases e
      obtain ⟨G', o', sg, rp⟩ := share_ok (d := y.1) (ρ' := y.2) o h q
      exact ⟨G', o', sg, by unfold Own; exact rp, by rw [fp_fz]; exact List.nodup_nil, fun p m => by rw [fp_fz] at m; cases m⟩
  | sub i p => cases e
theorem ownL_put : ∀ {ts : List T} {vs : List V} {j : Nat} {tv : T} {v : V}, OwnL K G H ts vs → (fpL H ts vs).Nodup → Own K G H tv v → (fp H tv v).Nodup → (∀ x ∈ fp H tv v, x ∉ fpL H ts vs) →
    OwnL K G H (ts.set j tv) (vs.set j v) ∧ (fpL H (ts.set j tv) (vs.set j v)).Nodup ∧ ∀ x ∈ fpL H (ts.set j tv) (vs.set j v), x ∈ fpL H ts vs ∨ x ∈ fp H tv v
  | [], vs, j, tv, v, h, nd, _, _, _ => by
    unfold OwnL at h; subst h
    exact ⟨by unfold List.set OwnL; rfl, nd, fun x m => .inl m⟩
  | t0 :: ts, vs, j, tv, v, h, nd, h1, nd1, hn => by
    unfold OwnL at h
    obtain ⟨v0, vs', rfl, o0, os⟩ := h
    rw [fpL_cons] at nd
    obtain ⟨n1, n2, n3⟩ := nodup_app.mp nd
    cases j with
    | zero =>
      rw [List.set_cons_zero, List.set_cons_zero]
      refine ⟨by unfold OwnL; exact ⟨v, vs', rfl, h1, os⟩, ?_, fun x m => ?_⟩
      · rw [fpL_cons, nodup_app]
        exact ⟨nd1, n2, fun x m m2 => hn x m (by rw [fpL_cons]; exact List.mem_append_right _ m2)⟩
      · rw [fpL_cons] at m
        rcases List.mem_append.mp m with z | z
        · exact .inr z
        · exact .inl (by rw [fpL_cons]; exact List.mem_append_right _ z)
    | succ j =>
      obtain ⟨o2, n4, s4⟩ := ownL_put (j := j) os n2 h1 nd1 fun x m m2 => hn x m (by rw [fpL_cons]; exact List.mem_append_right _ m2)
      rw [List.set_cons_succ, List.set_cons_succ]
      refine ⟨by unfold OwnL; exact ⟨v0, _, rfl, o0, o2⟩, ?_, fun x m => ?_⟩
      · rw [fpL_cons, nodup_app]
        refine ⟨n1, n4, fun x m m2 => ?_⟩
        rcases s4 x m2 with z | z
        · exact n3 x m z
        · exact hn x z (by rw [fpL_cons]; exact List.mem_append_left _ m)
      · rw [fpL_cons] at m
        rcases List.mem_append.mp m with z | z
        · exact .inl (by rw [fpL_cons]; exact List.mem_append_left _ z)
        · exact (s4 x z).imp (fun y => by rw [fpL_cons]; exact List.mem_append_right _ y) id
theorem ownL_snoc : ∀ {ts : List T} {vs : List V} {tv : T} {v : V}, OwnL K G H ts vs → (fpL H ts vs).Nodup → Own K G H tv v → (fp H tv v).Nodup → (∀ x ∈ fp H tv v, x ∉ fpL H ts vs) →
    OwnL K G H (ts ++ [tv]) (vs ++ [v]) ∧ (fpL H (ts ++ [tv]) (vs ++ [v])).Nodup ∧ ∀ x ∈ fpL H (ts ++ [tv]) (vs ++ [v]), x ∈ fpL H ts vs ∨ x ∈ fp H tv v
  | [], vs, tv, v, h, nd, h1, nd1, hn => by
    unfold OwnL at h; subst h
    refine ⟨by rw [List.nil_append, List.nil_append]; unfold OwnL; exact ⟨v, [], rfl, h1, by unfold OwnL; rfl⟩, ?_, fun x m => ?_⟩
    · rw [List.nil_append, List.nil_append, fpL_cons, fpL_nil, List.append_nil]; exact nd1
    · rw [List.nil_append, List.nil_append, fpL_cons, fpL_nil, List.append_nil] at m; exact .inr m
  | t0 :: ts, vs, tv, v, h, nd, h1, nd1, hn => by
    unfold OwnL at h
    obtain ⟨v0, vs', rfl, o0, os⟩ := h
    rw [fpL_cons] at nd
    obtain ⟨n1, n2, n3⟩ := nodup_app.mp nd
    obtain ⟨o2, n4, s4⟩ := ownL_snoc os n2 h1 nd1 fun x m m2 => hn x m (by rw [fpL_cons]; exact List.mem_append_right _ m2)
    rw [List.cons_append, List.cons_append]
    refine ⟨by unfold OwnL; exact ⟨v0, _, rfl, o0, o2⟩, ?_, fun x m => ?_⟩
    · rw [fpL_cons, nodup_app]
      refine ⟨n1, n4, fun x m m2 => ?_⟩
      rcases s4 x m2 with z | z
      · exact n3 x m z
      · exact hn x z (by rw [fpL_cons]; exact List.mem_append_left _ m)
    · rw [fpL_cons] at m
      rcases List.mem_append.mp m with z | z
      · exact .inl (by rw [fpL_cons]; exact List.mem_append_left _ z)
      · exact (s4 x z).imp (fun y => by rw [fpL_cons]; exact List.mem_append_right _ y) id
/-- a list's node gets other things -/
theorem own_lst_new {ts : List T} {vs : List V} (hg : G a = none) (h : OwnL K G H ts vs) (nd : (fpL H ts vs).Nodup) (na : a ∉ fpL H ts vs) :
    Own K G (upd H a (.lst vs)) (.lst ts) (.ref a) ∧ (fp (upd H a (.lst vs)) (.lst ts) (.ref a)).Nodup ∧ ∀ x ∈ fp (upd H a (.lst vs)) (.lst ts) (.ref a), x = a ∨ x ∈ fpL H ts vs := by
  obtain ⟨o, f⟩ := ownL_away (u := .lst vs) h na
  have e : fp (upd H a (.lst vs)) (.lst ts) (.ref a) = a :: fpL H ts vs := by rw [fp_lst upd_same, f]
  refine ⟨by unfold Own; exact ⟨a, vs, rfl, hg, upd_same, o⟩, by rw [e]; exact List.nodup_cons.mpr ⟨na, nd⟩, fun x m => ?_⟩
  rw [e] at m
  exact List.mem_cons.mp m
/-- a list's node in a slot's tree gets other things: some are new -/
theorem node_lst {Gs : Hp} {σs : St} {ρs : S} {ts ts2 : List T} {vs2 : List V} {tv : T} {w : V} (o : OutS K Gs Hs σs ρs G H σ ρ) (h : Hold K Hs G H σ ρ hd v) (e : node hd ρ = some (.lst ts)) (hv : Hold K Hs G H σ ρ (.tpd tv) w) (e2 : putT hd (.lst ts2) ρ = some ρ')
    (hs : ∀ (a : Addr) (vs : List V), v = .ref a → H a = some (.lst vs) → OwnL K G H ts vs → (fpL H ts vs).Nodup → (∀ x ∈ fp H tv w, x ∉ fpL H ts vs) → (OwnL K G H ts2 (vs2) ∧ (fpL H ts2 vs2).Nodup ∧ ∀ x ∈ fpL H ts2 vs2, x ∈ fpL H ts vs ∨ x ∈ fp H tv w)) : ∃ a, v = .ref a ∧ OutS K Gs Hs σs ρs G (upd H a (.lst vs2)) σ ρ' := by
  obtain ⟨i, p, t1, w1, g1, g2, g3, g4, g5, _, g6⟩ := node_ok o.rel h e
  rw [g6] at e2; cases e2
  obtain ⟨a, vs, rfl, hg, ha, ol⟩ := own_lst g5
  obtain ⟨w', e1, ow, nd⟩ := o.rel.tree g1
  rw [g2] at e1; cases e1
  obtain ⟨t0, e3, o4, h5⟩ := own_at p ow g3
  rw [g4] at e3; cases e3
  obtain ⟨v1, v2, v3⟩ := hv
  have hf : fp H (.lst ts) (.ref a) = a :: fpL H ts vs := fp_lst ha
  have inA : ∀ x ∈ fp H (.lst ts) (.ref a), ads H σ ρ x := fun x m => .inr ⟨i, t1, w1, g1, g2, h5 x m⟩
  have ndn : (a :: fpL H ts vs).Nodup := by
    rw [← hf]
    have key : ∀ (p : List Nat) {t : T} {w : V}, Own K G H t w → (fp H t w).Nodup → At H t w p (.ref a) → t.at p = some (.lst ts) → (fp H (.lst ts) (.ref a)).Nodup := by
      intro p
      induction p with
      | nil =>
        intro t w _ n at_ e
        have e' : V.ref a = w := at_
        subst e'
        rw [at_nil] at e; cases e
        exact n
      | cons k p ih =>
        intro t w h n at_ e
        obtain ⟨b, ob, x, y, rfl, q1, q2, q3, q4⟩ := at_
        have hz : t.isFz = false := by
          cases t with
          | fz d => simp at q2
          | _ => rfl
        obtain ⟨_, hk, hff⟩ := own_node h q1 hz
        rw [hff] at n
        have n2 := (List.nodup_cons.mp n).2
        obtain ⟨tt, e1, o3, _⟩ := ownL_get hk q3
        rw [q2] at e1; cases e1
        have e2 : t.at (k :: p) = x.at p := by
          have : t.at (k :: p) = t.kids[k]?.bind fun u => u.at p := by cases t <;> rfl
          rw [this, q2]; rfl
        rw [e2] at e
        refine ih o3 ?_ q4 e
        have : ∀ {ts : List T} {vs : List V} {k : Nat}, OwnL K G H ts vs → (fpL H ts vs).Nodup → ts[k]? = some x → vs[k]? = some y → (fp H x y).Nodup := by
          intro ts
          induction ts with
          | nil => intro vs k _ _ e _; simp at e
          | cons t0 ts ih =>
            intro vs k hh nn e ev
            unfold OwnL at hh
            obtain ⟨v0, vs', rfl, _, os⟩ := hh
            rw [fpL_cons] at nn
            obtain ⟨n1, n2, _⟩ := nodup_app.mp nn
            cases k with
            | zero => simp at e ev; subst e; subst ev; exact n1
            | succ k => simp at e ev; exact ih os n2 e ev
        exact this hk n2 q2 q3
    exact key p ow nd g3 g4
  obtain ⟨na, nl⟩ := List.nodup_cons.mp ndn
  obtain ⟨o5, n5, s5⟩ := hs a vs rfl ha ol nl fun x m m2 => (v3 x m).2 (inA x (by rw [hf]; exact List.mem_cons_of_mem _ m2))
  have na2 : a ∉ fpL H ts2 vs2 := fun z => by
    rcases s5 a z with y | y
    · exact na y
    · exact (v3 a y).2 (inA a (by rw [hf]; exact List.mem_cons_self))
  obtain ⟨o6, n6, s6⟩ := own_lst_new hg o5 n5 na2
  refine ⟨a, rfl, tree_ok o g1 g2 g3 g4 rfl o6 n6 fun x m => ?_⟩
  rcases s6 x m with rfl | z
  · exact .inl (by rw [hf]; exact List.mem_cons_self)
  · rcases s5 x z with y | y
    · exact .inl (by rw [hf]; exact List.mem_cons_of_mem _ y)
    · exact .inr (v3 x y)
end
section
variable {X : Cx} {E : WX} {e o k : Expr} {f fo fk : EF} {pos pos' spos apos cpos : Pos}
/-- o[k] = e in a tree -/
@[simp] def sSetT (fo fk f : EF) : SF := fun ρ => f ρ >>= fun z => ofO (normT z.1 z.2) >>= fun u => fo u.2 >>= fun y => fk y.2 >>= fun x => ofO (asInt x.1) >>= fun k => ofO (node y.1 x.2) >>= fun t => ofO (kidL t) >>= fun ts => ofO (ixN ts.length k) >>= fun j => ofO (putT y.1 (.lst (ts.set j u.1)) x.2) >>= fun ρ2 => .ok (.nx, ρ2)
theorem st_setT (h : PR X E e f) (ho : PR X E o fo) (hk : PR X E k fk)
    (hs : swapsWithSole [.Subscript o k spos] e pos.line X.env = pure false := by rfl) (hw : swappedStores [.Subscript o k spos] e X.env = pure none := by rfl)
    (h1 : (assignEach [.Subscript o k spos] X.env).map (·.2) = [assign (.Subscript o k spos) X.env] := by rfl)
    (ha : ∀ v, assign (.Subscript o k spos) X.env v = (do
      let ov ← holding [v] (eval o X.env)
      let iv ← holding [v, ov] (eval k X.env)
      standAt spos
      holding [v, ov, iv] (setItem ov iv v)
      release [v, ov, iv] []) := by intro _; rfl) :
    PSt X E (.Assign [.Subscript o k spos] e pos) (sSetT fo fk f) := by
  obtain ⟨t, pe, s⟩ := h.ex
  obtain ⟨to, po, so⟩ := ho.ex
  obtain ⟨tk, pk, sk⟩ := hk.ex
  refine ⟨_, ps_asg pe (pg_sub po pk set_list ha) hs hw h1, fun G H σ ρ r Dn hw => s G H σ ρ r _ (hw.bind.mono (fun z _ q v G1 H1 o1 rv => ?_) fun _ _ q => q)⟩
  obtain ⟨u, e0, q1⟩ := q.opt
  obtain ⟨G2, o2, _, hT⟩ := normT_ok o1 rv e0
  refine so G2 H1 σ u.2 o2.rel _ (q1.bind.mono (fun y _ q2 vo G3 H3 o3 h3 => ?_) fun _ _ q2 => q2.step o2)
  refine sk G3 H3 σ y.2 o3.rel _ (q2.bind.mono (fun x _ q3 vk G4 H4 o4 h4 => ?_) fun _ _ q3 => q3.step (o2.trans o3))
  obtain ⟨kk, e1, q4⟩ := q3.opt
  obtain ⟨t', e2, q5⟩ := q4.opt
  obtain ⟨ts, e3, q6⟩ := q5.opt
  obtain ⟨j, e4, q7⟩ := q6.opt
  obtain ⟨ρ2, e5, q8⟩ := q7.opt
  clear q q1 q2 q3 q4 q5 q6 q7
  have et : t' = .lst ts := by cases t' <;> cases e3; rfl
  subst et
  rw [asInt_eq e1] at h4
  have hk3 : Rep X.K G4 (.int kk) vk := h4
  unfold Rep at hk3
  have oo := (o2.trans o3).trans o4
  have hT' := (hT.pers o3).pers o4
  have ho4 := (h3.pers o4).back (Hs' := H) (fun b e => (o2.stp.thr b e))
  obtain ⟨i0, p0, t1, w1, g1, g2, g3, g4, g5, _, g6⟩ := node_ok oo.rel ho4 e2
  obtain ⟨a, vs, rfl, hg, ha4, ol⟩ := own_lst g5
  obtain ⟨a', ea, fin⟩ := node_lst (vs2 := vs.set j v) oo.s ho4 e2 hT' e5 fun a2 vs' q1 q2 h1 h2 h3 => by
    cases q1
    rw [ha4] at q2; cases q2
    exact ownL_put h1 h2 hT'.1 hT'.2.1 h3
  cases ea
  exact ⟨a, vs, kk, j, rfl, hk3, ha4, by rw [← ownL_len ol]; exact e4, q8 σ G4 _ fin⟩
/-- o.append(e) in a tree -/
@[simp] def sAppT (fo f : EF) : SF := fun ρ => fo ρ >>= fun y => ofO (node y.1 y.2) >>= fun t => ofO (kidL t) >>= fun _ => f y.2 >>= fun z => ofO (normT z.1 z.2) >>= fun u => ofO (node y.1 u.2) >>= fun t => ofO (kidL t) >>= fun ts => ofO (guard (decide (ts.length < sizeLine))) >>= fun _ => ofO (putT y.1 (.lst (ts ++ [u.1])) u.2) >>= fun ρ2 => .ok (.nx, ρ2)
theorem st_appT (ho : PR X E o fo) (h : PR X E e f)
    (hfew : ((backTo cpos (starEach (e :: []) X.env)).all (fun x => !x.1) && (backToKw cpos (keywordEach [] X.env)).all (fun x => x.1.isSome)
      && decide ((e :: []).length + ([] : List Keyword).length + (if ([] : List Keyword).isEmpty then 0 else 1) < 30)) = true := by rfl)
    (hbase : attributeBase o "append" X.env (eval o X.env) = eval o X.env := by rfl) (hline : (apos.endLine == cpos.line) = true := by rfl) (hs : starEach (e :: []) X.env = (false, eval e X.env) :: starEach [] X.env := by rfl)
    (hsw : swapsWith (.Call (.Attribute o "append" apos) [e] [] cpos) none pos.line X.env = pure false := by rfl) :
    PSt X E (.Expr (.Call (.Attribute o "append" apos) [e] [] cpos) pos) (sAppT fo f) := by
  obtain ⟨t, pe, s⟩ := h.ex
  obtain ⟨to, po, so⟩ := ho.ex
  refine ⟨_, ps_expr (pe_bm PySem.F.plainAttrs_list PySem.F.slot_list_append PySem.F.type_list_append mt_append po (pa_cons pe pa_nil hs) hbase hfew hline hs rfl) hsw, fun G H σ ρ r Dn hw => so G H σ ρ r _ (hw.bind.mono (fun y _ q vo G1 H1 o1 h1 => ?_) fun _ _ q => q)⟩
  obtain ⟨t0, e0, q1⟩ := q.opt
  obtain ⟨ts0, e1, q2⟩ := q1.opt
  have et0 : t0 = .lst ts0 := by cases t0 <;> cases e1; rfl
  subst et0
  obtain ⟨_, _, _, _, _, _, _, _, g5, _, _⟩ := node_ok o1.rel h1 e0
  obtain ⟨a, vs0, rfl, _, ha1, _⟩ := own_lst g5
  refine ⟨.inl ⟨rfl, vs0, SqL.of ha1⟩, s G1 H1 σ y.2 o1.rel _ (q2.bind.mono (fun z _ q3 v G2 H2 o2 rv => ?_) fun _ _ q3 => q3.step o1)⟩
  obtain ⟨u, e2, q4⟩ := q3.opt
  obtain ⟨t3, e3, q5⟩ := q4.opt
  obtain ⟨ts, e4, q6⟩ := q5.opt
  obtain ⟨_, e5, q7⟩ := q6.opt
  obtain ⟨ρ2, e6, q8⟩ := q7.opt
  clear q q1 q2 q3 q4 q5 q6 q7
  obtain ⟨G3, o3, _, hT⟩ := normT_ok (o1.trans o2) (rv.back o1.stp.thr) e2
  have et : t3 = .lst ts := by cases t3 <;> cases e4; rfl
  subst et
  have ho3 : Hold X.K H G3 H2 σ u.2 y.1 (.ref a) := by
    obtain ⟨G3', o3', _, _⟩ := normT_ok o2 rv e2
    have h2 := h1.pers o3'
    cases hy : y.1 with
    | slot i => rw [hy] at h2; exact h2
    | sub i p => rw [hy] at h2; exact h2
    | val d => rw [hy] at e3; cases e3
    | tmp d => rw [hy] at e3; cases e3
    | tpd d => rw [hy] at e3; cases e3
  obtain ⟨_, _, _, _, _, _, _, _, g5, _, _⟩ := node_ok o3.rel ho3 e3
  obtain ⟨a2, vs, ea, _, ha3, ol⟩ := own_lst g5
  cases ea
  obtain ⟨a', ea, fin⟩ := node_lst (vs2 := vs ++ [v]) o3.s ho3 e3 hT e6 fun a2 vs' q1 q2 h1 h2 h3 => by
    cases q1
    rw [ha3] at q2; cases q2
    exact ownL_snoc h1 h2 hT.1 hT.2.1 h3
  cases ea
  refine ⟨a, vs, v, rfl, rfl, ha3, by rw [← ownL_len ol]; exact of_decide_eq_true (guard_eq e5), q8 σ G3 _ fin⟩
end
/-! ### lists of trees -/
def SndTs (K : PySem.W.Frag) (E : WX) (t : TA) (f : S → R (List T × S)) : Prop := ∀ (G H : Hp) (σ : St) (ρ : S), Rel K G H σ ρ → ∀ Q : List V → Hp → Prop,
  Wp (f ρ) (fun z => ∀ vs G' H', Out K G H σ ρ G' H' z.2 → OwnL K G' H' z.1 vs → (fpL H' z.1 vs).Nodup → (∀ p ∈ fpL H' z.1 vs, H p = none ∧ ¬ ads H' σ z.2 p) → Q vs H') (ExE K E G H σ ρ) → t σ H Q
structure PTrs (X : Cx) (E : WX) (es : List Expr) (f : S → R (List T × S)) : Prop where
  ex : ∃ t, PA X es t ∧ SndTs X.K E t f
@[simp] def tNil : S → R (List T × S) := fun ρ => .ok ([], ρ)
@[simp] def tCons (f : EF) (g : S → R (List T × S)) : S → R (List T × S) := fun ρ => f ρ >>= fun z => ofO (normT z.1 z.2) >>= fun u => g u.2 >>= fun y => .ok (u.1 :: y.1, y.2)
@[simp] def eLstT (f : S → R (List T × S)) : EF := fun ρ => f ρ >>= fun z => if z.1.length ≤ sizeLine then .ok (.tpd (.lst z.1), z.2) else .no
section
variable {X : Cx} {E : WX} {e : Expr} {es : List Expr} {f : EF} {g : S → R (List T × S)} {pos : Pos}
theorem tr_nil : PTrs X E [] tNil := ⟨_, pa_nil, fun G H σ ρ r Q hw => hw [] G H (.refl r) (by unfold OwnL; rfl) (by rw [fpL_nil]; exact List.nodup_nil) fun p m => by rw [fpL_nil] at m; cases m⟩
theorem tr_cons (h1 : PR X E e f) (h2 : PTrs X E es g) (hs : starEach (e :: es) X.env = (false, eval e X.env) :: starEach es X.env := by rfl) : PTrs X E (e :: es) (tCons f g) := by
  obtain ⟨t, pe, s⟩ := h1.ex
  obtain ⟨t2, pa, s2⟩ := h2.ex
  refine ⟨_, pa_cons pe pa hs, fun G H σ ρ r Q hw => s G H σ ρ r _ (hw.bind.mono (fun z _ q v G1 H1 o1 hh => ?_) fun _ _ q => q)⟩
  obtain ⟨u, eu, q⟩ := q.opt
  obtain ⟨G2, o2, _, hT⟩ := normT_ok o1 hh eu
  refine s2 G2 H1 σ u.2 o2.rel _ (q.bind.mono (fun y _ q2 vs G3 H3 o3 ol nl fr => ?_) fun _ _ q2 => q2.step o2)
  obtain ⟨k1, k2, k3⟩ := hT.pers o3
  have hu : ∀ x ∈ fp H3 u.1 v, x ∉ fpL H3 y.1 vs := fun x m m2 => by
    obtain ⟨l1, l2⟩ := hT.1.go (H' := H3) o3.stp.gg u.1 fun a ma => by
      obtain ⟨n1, n2⟩ := hT.1.in_ u.1 a ma
      refine ⟨?_, o3.stp.fr a n2 (hT.2.2 a ma).2 n1⟩
      cases e : H1 a with
      | none => exact absurd e n2
      | some u => exact o3.stp.keep a u e (hT.2.2 a ma).2 (hT.1.nt _ a ma u e)
    rw [l2] at m
    exact (hT.1.in_ u.1 x m).2 (fr x m2).1
  refine q2 (v :: vs) G3 H3 (o2.trans o3) (by unfold OwnL; exact ⟨v, vs, rfl, k1, ol⟩) (by rw [fpL_cons, nodup_app]; exact ⟨k2, nl, hu⟩) fun p m => ?_
  rw [fpL_cons] at m
  rcases List.mem_append.mp m with z | z
  · exact k3 p z
  · exact ⟨o2.stp.thr p (fr p z).1, (fr p z).2⟩
theorem pr_lstT (h : PTrs X E es g) : PR X E (.List es pos) (eLstT g) := by
  obtain ⟨t, pa, s⟩ := h.ex
  refine ⟨_, pe_lst pa, fun G H σ ρ R Q hw => s G H σ ρ R _ (hw.bind.mono (fun z _ w vs G1 H1 o1 ol nl fr => ?_) fun _ _ w => w)⟩
  split at w
  · rename_i e
    refine ⟨by rw [← ownL_len ol]; exact e, fun q hq => ?_⟩
    have na : q ∉ fpL H1 z.1 vs := fun m => (ol.in_ z.1 q m).2 hq
    obtain ⟨k1, k2, k3⟩ := own_lst_new (o1.rel.sub.none hq) ol nl na
    have on := Out.new (o := .lst vs) o1.rel hq
    refine w _ G1 _ (o1.trans on) ⟨k1, k2, fun p m => ?_⟩
    rcases k3 p m with rfl | y
    · exact ⟨o1.stp.thr p hq, fun z => (o1.rel.adsH (o1.rel.ads_new hq z)).1 hq⟩
    · exact ⟨(fr p y).1, fun z => (fr p y).2 (o1.rel.ads_new hq z)⟩
  · exact w.elim
end
end BR
set_option Elab.async false
set_option linter.all false
set_option maxRecDepth 100000
set_option maxHeartbeats 4000000
namespace BR
open PySem L2
/-! ## comprehensions that make trees -/
def lcTL (vs : List Nat) (g : D → S → Option S) (p : S → R (Bool × S)) (fe : EF) : List D → List T → S → R (List T × S)
  | [], acc, ρ => .ok (acc, ρ)
  | d :: ds, acc, ρ => ofO (g d ρ) >>= fun ρ1 => noX (p ρ1) >>= fun z => if z.1 = true then noX (fe z.2) >>= fun y => ofO (normT y.1 y.2) >>= fun u => if acc.length < sizeLine then lcTL vs g p fe ds (acc ++ [u.1]) (wipeS u.2 vs) else .no else lcTL vs g p fe ds acc (wipeS z.2 vs)
@[simp] def eLcT (vs : List Nat) (it : S → R (List D × S)) (g : D → S → Option S) (p : S → R (Bool × S)) (fe : EF) : EF := fun ρ => it ρ >>= fun z => if calmSl z.2 vs = true then lcTL vs g p fe z.1 [] (wipeS z.2 vs) >>= fun y => .ok (.tpd (.lst y.1), rst z.2 y.2 vs) else .no
section
variable {X : Cx} {E : WX} {elt tg iter : Expr} {ifs : List Expr} {scope : Scope} {own : List (Str × Nat)} {pos : Pos} {it : S → R (List D × S)} {g : D → S → Option S} {p : S → R (Bool × S)} {fe : EF} {tv : List Nat}
theorem tpd_ads {K : PySem.W.Frag} {Hs G H : Hp} {σ σ' : St} {ρ ρ' : S} {t : T} {v : V} (h : Hold K Hs G H σ ρ (.tpd t) v) (k : ∀ a, H a ≠ none → ads H σ' ρ' a → ads H σ ρ a) : Hold K Hs G H σ' ρ' (.tpd t) v :=
  ⟨h.1, h.2.1, fun p m => ⟨(h.2.2 p m).1, fun z => (h.2.2 p m).2 (k p (h.1.in_ t p m).2 z)⟩⟩
theorem lcT_sound {K : PySem.W.Frag} {vs : List Nat} {tt : TT} (hv : ∀ i ∈ tv, i ∈ vs) (mu : ∀ d ρ ρ', g d ρ = some ρ' → Lse ρ ρ') (st : SndT K W0 tt p) {G H : Hp} {σ : St} {ρ : S} {Q : VK} {z : List D × S} {J : It} {G1 H1 : Hp} (o1 : Out K G H σ ρ G1 H1 z.2) (wk : Wlk K G1 H1 z.1 J)
    (q : Wp (if calmSl z.2 vs = true then lcTL vs g p fe z.1 [] (wipeS z.2 vs) >>= fun y => R.ok (Hd.tpd (.lst y.1), rst z.2 y.2 vs) else R.no) (fun z => ∀ v G' H', Out K G H σ ρ G' H' z.2 → Hold K H G' H' σ z.2 z.1 v → Q v H') (ExE K E G H σ ρ)) : tLc (fun _ _ Rr => Rr J H1) (gF K tv g) tt (tF K W0 fe) vs σ H Q := by
  split at q
  rotate_left
  · exact q.elim
  rename_i hc
  intro Da hD
  obtain ⟨Gd, Y, wk, hG, hY⟩ := wk.ex
  have q := q.bind
  have hgD : G1 Da = none := o1.rel.sub.none hD
  have rw0 : Rel K G1 H1 (L2.wipe σ vs) (wipeS z.2 vs) := o1.rel.wipe
  have hDn : ∀ {a : Addr}, ads H1 (L2.wipe σ vs) (wipeS z.2 vs) a → a ≠ Da := fun h e => (rw0.adsH h).1 (by rw [e]; exact hD)
  have mw0 : ∀ j, isMut (wipeS z.2 vs) j → j ∉ vs := fun j ⟨d, m⟩ c => by
    rw [wipeS_at] at m
    by_cases hl : j < z.2.length
    · rw [if_pos ⟨c, hl⟩] at m; rcases m with m | m <;> cases m
    · rw [if_neg fun z => hl z.2, List.getElem?_eq_none (by omega)] at m; rcases m with m | m <;> cases m
  refine lc_it wk (fun i H' => ∃ G' ρ' acc, Out K G1 H1 (L2.wipe σ vs) (wipeS z.2 vs) G' H' ρ' ∧ Hold K H1 G' H' (L2.wipe σ vs) ρ' (.tpd (.lst acc)) (.ref Da) ∧ (∀ b o, G1 b ≠ none → H1 b = some o → NT o → H' b = some o) ∧
      Wp (lcTL vs g p fe (z.1.drop i) acc ρ') (fun y => ∀ v G' H', Out K G H σ ρ G' H' (rst z.2 y.2 vs) → Hold K H G' H' σ (rst z.2 y.2 vs) (.tpd (.lst y.1)) v → Q v H') (ExE K E G H σ ρ)) ?_ ?_ ?_ ?_
  · refine ⟨G1, wipeS z.2 vs, [], Out.new rw0 hD, ⟨by unfold Own; exact ⟨Da, [], rfl, hgD, upd_same, by unfold OwnL; rfl⟩, by rw [fp_lst upd_same, fpL_nil]; simp, fun p m => ?_⟩, fun b o hb ho _ => ?_, q⟩
    · rw [fp_lst upd_same, fpL_nil, List.mem_singleton] at m
      rw [m]
      exact ⟨hD, fun h => hDn (rw0.ads_new hD h) rfl⟩
    rw [upd_ne (ne_of_none ho hD)]; exact ho
  · rintro i H' _ ⟨G', ρ', acc, _, _, k, _⟩
    exact hG H' k
  · rintro i x H' H2 hi ⟨G', ρ', acc, o, hh0, k, w⟩ y
    obtain ⟨d, ed, G2, hstep, rx⟩ := hY i H' x H2 hi y G' o.stp.gg o.rel.sub
    obtain ⟨o2, hh2, k2, sg2⟩ : Out K G1 H1 (L2.wipe σ vs) (wipeS z.2 vs) G2 H2 ρ' ∧ Hold K H1 G2 H2 (L2.wipe σ vs) ρ' (.tpd (.lst acc)) (.ref Da) ∧ (∀ b o, H' b = some o → H2 b = some o) ∧ Same G' G2 := by
      rcases hstep with ⟨rfl, rfl⟩ | ⟨pp, u, hp, nu, rfl, rfl⟩
      · exact ⟨o, hh0, fun _ _ h => h, Same.refl _⟩
      · have zz := Out.lay (o := u) o.rel hp nu
        exact ⟨o.trans zz, hh0.pers zz, fun b u' h => by rw [upd_ne (ne_of_none h hp)]; exact h, zz.stp.gg⟩
    have hd : z.1.drop i = d :: z.1.drop (i + 1) := by
      obtain ⟨h1, h2⟩ := List.getElem?_eq_some_iff.mp ed
      rw [← h2]
      exact List.drop_eq_getElem_cons h1
    rw [hd] at w
    obtain ⟨ρ3, e3, w⟩ := w.opt
    refine ⟨G2, H2, L2.wipe σ vs, ρ', G2, ρ', ρ3, d, (Out.refl o2.rel).s, rx, e3, fun σ3 o3 n3 => ?_⟩
    have hws : L2.wipe σ3 vs = L2.wipe σ vs := wipe_only (n3.on.mono hv)
    refine ⟨hws, ?_⟩
    have mu3 := mu d ρ' ρ3 e3
    have tr3 : ∀ (G4 H4 : Hp) (ρ4 : S), Out K G2 H2 σ3 ρ3 G4 H4 ρ4 → ∀ a, dpa H2 (L2.wipe σ vs) ρ' a → H4 a = H2 a := fun G4 H4 ρ4 o4 a h => by
      by_cases zz : ads H2 σ3 ρ3 a
      · rcases zz with ⟨j, m, e⟩ | zz
        · exact absurd ((n3.kp j (.inl m)).symm.trans e) (o2.rel.dp.ds a j h (mu3.1 j m))
        · exact o4.tre a zz
      · cases e : H2 a with
        | none => exact absurd e (o2.rel.dpaH h).1
        | some u => exact o4.stp.keep a u e zz (o2.rel.dpaNT h e)
    have hh3 : Hold K H1 G2 H2 σ3 ρ3 (.tpd (.lst acc)) (.ref Da) := tpd_ads hh2 fun a ha zz => o3.nw a zz ha
    have ioN : ∀ j ∈ vs, ¬ isIo ρ' j := fun j hj ⟨d, m⟩ => mw0 j (o2.ker.mu j ⟨d, .inr m⟩) hj
    refine st G2 H2 σ3 ρ3 o3.rel _ (w.bind.noX.mono (fun b hb w2 G4 H4 o4 => ?_) fun _ _ w2 => w2.elim)
    have hh4 := hh3.pers o4
    have keepA : ∀ (G5 H5 : Hp) (ρ5 : S), Out K G2 H2 σ3 ρ3 G5 H5 ρ5 → ∀ bb oo, G1 bb ≠ none → H1 bb = some oo → NT oo → H5 bb = some oo := fun G5 H5 ρ5 o5 bb oo h1 h2 h3 => o5.stp.keep bb oo (k2 bb oo (k bb oo h1 h2 h3)) (nt := h3) fun zz => by
      have hz := (o3.rel.adsH zz).2
      cases qq : G1 bb with
      | none => exact h1 qq
      | some u' => rw [(o.stp.gg.trans sg2) bb u' qq] at hz; cases hz
    split at w2
    · rename_i hb1
      rw [if_pos hb1]
      have w3 := w2.bind.noX
      refine ⟨G4, b.2, o4.rel, w3.mono (fun hh _ w5 v G5 H5 o5 hold => ?_) fun _ _ w5 => w5.elim⟩
      obtain ⟨u6, es, w6⟩ := w5.opt
      obtain ⟨G6, o6, sg6, hT⟩ := normT_ok o5 hold es
      split at w6
      rotate_left
      · exact w6.elim
      rename_i hsz
      have hh6 := hh4.pers o6
      obtain ⟨h61, h62, h63⟩ := id hh6
      obtain ⟨b', us, eb, gD6, hD5, ol⟩ := own_lst h61
      cases eb
      have hf : fp H5 (.lst acc) (.ref Da) = Da :: fpL H5 acc us := fp_lst hD5
      rw [hf] at h62 h63
      obtain ⟨naD, ndl⟩ := List.nodup_cons.mp h62
      refine ⟨us, hD5, by rw [← ownL_len ol]; exact hsz, ?_⟩
      have oA : OutS K G2 H2 (L2.wipe σ vs) ρ' G6 H5 σ3 u6.2 := o3.trans (o4.s.trans o6.s)
      have oW : Out K G2 H2 (L2.wipe σ vs) ρ' G6 H5 (wipeS u6.2 vs) := oA.wiped ioN hws ((mu3.trans o4.ker.lse).trans o6.ker.lse) (tr3 _ _ _ (o4.trans o6)) o2.rel
      have nW : ¬ ads H5 (L2.wipe σ vs) (wipeS u6.2 vs) Da := fun h => (hh2.2.2 Da (by
        obtain ⟨b', us', eb, _, hD2, _⟩ := own_lst hh2.1
        cases eb
        rw [fp_lst hD2]; exact List.mem_cons_self)).2 (oW.nw Da h (by
        obtain ⟨b', us', eb, _, hD2, _⟩ := own_lst hh2.1
        cases eb
        rw [hD2]; simp))
      have oB := o2.trans oW
      have dis : ∀ x ∈ fp H5 u6.1 v, x ∉ Da :: fpL H5 acc us := fun x m m2 => by
        have e4 := (hT.2.2 x m).1
        have m3 : x ∈ fp H4 (.lst acc) (.ref Da) := by
          obtain ⟨l1, l2⟩ := hh4.1.go (H' := H5) o6.stp.gg (.lst acc) fun a ma => by
            obtain ⟨n1, n2⟩ := hh4.1.in_ _ a ma
            refine ⟨?_, o6.stp.fr a n2 (hh4.2.2 a ma).2 n1⟩
            cases e : H4 a with
            | none => exact absurd e n2
            | some u => exact o6.stp.keep a u e (hh4.2.2 a ma).2 (hh4.1.nt _ a ma u e)
          rw [← l2, hf]; exact m2
        exact (hh4.1.in_ _ x m3).2 e4
      obtain ⟨k5, k6, k7⟩ := ownL_snoc ol ndl hT.1 hT.2.1 fun x m m2 => dis x m (List.mem_cons_of_mem _ m2)
      have naD2 : Da ∉ fpL H5 (acc ++ [u6.1]) (us ++ [v]) := fun m => by
        rcases k7 Da m with zz | zz
        · exact naD zz
        · exact dis Da zz List.mem_cons_self
      obtain ⟨l5, l6, l7⟩ := own_lst_new gD6 k5 k6 naD2
      have oC := oB.app (u := .lst (us ++ [v])) hD gD6 (by rw [hD5]; simp) nW (fun o e => by rw [hD5] at e; cases e; exact lst_stat)
      have adsC : ∀ a, ads (upd H5 Da (.lst (us ++ [v]))) (L2.wipe σ vs) (wipeS u6.2 vs) a → ads H5 (L2.wipe σ vs) (wipeS u6.2 vs) a := fun a h => by
        have hk : ∀ b, dpa H5 (L2.wipe σ vs) (wipeS u6.2 vs) b → upd H5 Da (.lst (us ++ [v])) b = H5 b ∧ G6 b = none := fun b h => ⟨upd_ne fun z => nW (by rw [← z]; exact .inr h), (oB.rel.dpaH h).2⟩
        obtain ⟨_, tw⟩ := oB.rel.trees (Same.refl G6) hk (fun _ _ e => ⟨e, rfl⟩) fun i b m h => oB.rel.dp.ds b i h m
        exact h.imp id (tw a)
      refine ⟨G6, wipeS u6.2 vs, acc ++ [u6.1], oC, ⟨l5, l6, fun x m => ?_⟩, fun bb oo h1 h2 => ?_, w6⟩
      · rcases l7 x m with rfl | zz
        · exact ⟨hD, fun h => nW (adsC _ h)⟩
        · have nx : H1 x = none ∧ ¬ ads H5 σ3 u6.2 x := by
            rcases k7 x zz with y | y
            · exact h63 x (List.mem_cons_of_mem _ y)
            · refine ⟨?_, (hT.2.2 x y).2⟩
              have := (hT.2.2 x y).1
              exact o2.stp.thr x (o3.stp.thr x (o4.stp.thr x this))
          refine ⟨nx.1, fun h => ?_⟩
          have h5 := adsC x h
          rcases h5 with ⟨j, ⟨dd, mm⟩, q5⟩ | ⟨j, tq, vq, mm, q5, q6⟩
          · rw [wipeS_at] at mm
            by_cases c : j ∈ vs ∧ j < u6.2.length
            · rw [if_pos c] at mm; rcases mm with mm | mm <;> cases mm
            · rw [if_neg c] at mm
              rw [← hws, wipe_at, if_neg (by rw [← o6.rel.len]; exact c)] at q5
              exact nx.2 (.inl ⟨j, ⟨dd, mm⟩, q5⟩)
          · rw [wipeS_at] at mm
            by_cases c : j ∈ vs ∧ j < u6.2.length
            · rw [if_pos c] at mm; cases mm
            · rw [if_neg c] at mm
              rw [← hws, wipe_at, if_neg (by rw [← o6.rel.len]; exact c)] at q5
              exact nx.2 (.inr ⟨j, tq, vq, mm, q5, q6⟩)
      · rw [upd_ne (ne_of_none h2 hD)]
        exact keepA G6 H5 u6.2 (o4.trans o6) bb oo h1 h2
    · rename_i hb1
      rw [if_neg hb1]
      have oA : OutS K G2 H2 (L2.wipe σ vs) ρ' G4 H4 σ3 b.2 := o3.trans o4.s
      have oW : Out K G2 H2 (L2.wipe σ vs) ρ' G4 H4 (wipeS b.2 vs) := oA.wiped ioN hws (mu3.trans o4.ker.lse) (tr3 _ _ _ o4) o2.rel
      exact ⟨G4, wipeS b.2 vs, acc, o2.trans oW, hh2.pers oW, keepA G4 H4 b.2 o4, w2⟩
  · rintro H' ⟨G', ρ', acc, o, hh, k, w⟩
    rw [List.drop_length] at w
    have ou := Out.unwipe o1.rel hc o
    refine w (.ref Da) G' H' (o1.trans ou) ⟨hh.1, hh.2.1, fun x m => ⟨o1.stp.thr x (hh.2.2 x m).1, fun h => (hh.2.2 x m).2 (ads_unwipe o1.rel hc o h)⟩⟩
theorem snd_lcT {K : PySem.W.Frag} {wi : TI} {vs : List Nat} {tt : TT} (si : SndI K E wi it) (hv : ∀ i ∈ tv, i ∈ vs) (mu : ∀ d ρ ρ', g d ρ = some ρ' → Lse ρ ρ') (st : SndT K W0 tt p) : Snd K E (tLc wi (gF K tv g) tt (tF K W0 fe) vs) (eLcT vs it g p fe) := by
  intro G H σ ρ Rl Q hw
  exact si G H σ ρ Rl _ (hw.bind.mono (fun z _ q J G1 H1 o1 wk => lcT_sound hv mu st o1 wk q) fun _ _ q => q)
theorem pr_lcT {vs : List Nat} {hs0 : X.calm = true} (hN : X.N.Nodup) (hi : PIt X E tg iter it) (ok : BlkOk X.N X.env.scope scope own) (hv : ∀ i ∈ tv, i ∈ vs)
    (hg : ∀ (s : Shared) (H : Hp) (C : Addr) (cl : List (Str × Addr)) (fp : List Addr), PTg (X.blk s H scope (compEnvC scope cl C X.env) fp) tv tg g)
    (he : ∀ (s : Shared) (H : Hp) (C : Addr) (cl : List (Str × Addr)) (fp : List Addr), PR (X.blk s H scope (compEnvC scope cl C X.env) fp) W0 elt fe) (hvs : own.map (·.2) = vs := by rfl) (hs : ∀ x, foldedSetIterable iter X.env x = pure x := by intro _; rfl) :
    PR X E (.ListComp elt [⟨tg, iter, [], 0⟩] scope pos) (eLcT vs it g pYes fe) := by
  subst hvs
  obtain ⟨wi, pi, si⟩ := hi.ex
  exact ⟨_, pe_lc (g := gF X.K tv g) (te := tF X.K W0 fe) hs0 hN pi ok (fun s H C cl fp => (hg s H C cl fp).pg) (fun s H C cl fp => pts_nil) (fun s H C cl fp => (he s H C cl fp).pe) hs, snd_lcT si hv (hg X.s_0 X.H_0 0 [] []).mu fun G H σ ρ r Q w => w G H (Out.refl r)⟩
theorem st_asgLcT {vs : List Nat} {i : Nat} {y : Str} {py spos : Pos} {hs0 : X.calm = true} (hN : X.N.Nodup) (hy : X.N[i]? = some y) (hyl : X.env.scope.names.lookup y = some .local) (hi : PIt X E tg iter it) (ok : BlkOk X.N X.env.scope scope own) (hv : ∀ i ∈ tv, i ∈ vs)
    (hg : ∀ (s : Shared) (H : Hp) (C : Addr) (cl : List (Str × Addr)) (fp : List Addr), PTg (X.blk s H scope (compEnvC scope cl C X.env) fp) tv tg g)
    (he : ∀ (s : Shared) (H : Hp) (C : Addr) (cl : List (Str × Addr)) (fp : List Addr), PR (X.blk s H scope (compEnvC scope cl C X.env) fp) W0 elt fe)
    (hsw : swapsWith (.ListComp elt [⟨tg, iter, [], 0⟩] scope pos) (some (.Name y py)) spos.line X.env = pure true := by exact sw_true rfl rfl rfl rfl) (hvs : own.map (·.2) = vs := by rfl) (hs : ∀ x, foldedSetIterable iter X.env x = pure x := by intro _; rfl) :
    PSt X E (.Assign [.Name y py] (.ListComp elt [⟨tg, iter, [], 0⟩] scope pos) spos) (sAsg i (eLcT vs it g pYes fe)) := by
  subst hvs
  obtain ⟨wi, pi, si⟩ := hi.ex
  exact ⟨_, ps_setLc (elt := elt) (ifs := []) (g := gF X.K tv g) (tt := tYes) (te := tF X.K W0 fe) hs0 hN hy hyl hsw pi ok (fun s H C cl fp => (hg s H C cl fp).pg) (fun s H C cl fp => pts_nil) (fun s H C cl fp => (he s H C cl fp).pe) hs,
    asg_snd (snd_lcT si hv (hg X.s_0 X.H_0 0 [] []).mu fun G H σ ρ r Q w => w G H (Out.refl r))⟩
end
end BR
set_option Elab.async false
set_option linter.all false
set_option maxRecDepth 100000
set_option maxHeartbeats 4000000
namespace BR
open PySem L2
/-! ## list(range(..)) -/
theorem repL_rg {K : PySem.W.Frag} {G : Hp} {a b : Int} : RepL K G (rngL a (b - a).toNat) (rgV a b) := by
  unfold rngL rgV
  generalize (b - a).toNat = n
  generalize List.range n = l
  induction l with
  | nil => exact .nil
  | cons x l ih => exact .cons rep_int ih
theorem repI {K : PySem.W.Frag} {G : Hp} {i : Int} {v : V} (h : Rep K G (.int i) v) : v = .int i := by unfold Rep at h; exact h
@[simp] def asI : D → Option Int
  | .int i => some i
  | _ => none
theorem asI_eq {d : D} {i : Int} (e : asI d = some i) : d = .int i := by cases d <;> cases e; rfl
open Classical in
@[simp] noncomputable def eLstR1 (fa : EF) : EF := fun ρ => eV fa ρ >>= fun z => ofO (asI z.1) >>= fun n => if RgOk 0 n then .ok (.tmp (.lst (rngL 0 (n - 0).toNat)), z.2) else .no
open Classical in
@[simp] noncomputable def eLstR2 (fa fb : EF) : EF := fun ρ => eV fa ρ >>= fun z => eV fb z.2 >>= fun y => ofO (asI z.1) >>= fun a => ofO (asI y.1) >>= fun b => if RgOk a b then .ok (.tmp (.lst (rngL a (b - a).toNat)), y.2) else .no
section
variable {X : Cx} {E : WX} {e : Expr} {fa fb : EF} {p pos p2 pos2 : Pos} {a b : Expr}
theorem pr_lstR1 (hc : X.calm = true) (hg : Gl X "list") (hm : X.mg "list" = none) (hg2 : Gl X "range") (hm2 : X.mg "range" = none) (pa : PR X E a fa) (na : starEach [Expr.Call (.Name "range" p2) [a] [] pos2] X.env = (false, eval (Expr.Call (.Name "range" p2) [a] [] pos2) X.env) :: starEach [] X.env := by rfl) (nb : starEach [a] X.env = (false, eval a X.env) :: starEach [] X.env := by rfl) :
    PR X E (.Call (.Name "list" p) [.Call (.Name "range" p2) [a] [] pos2] [] pos) (eLstR1 fa) := by
  obtain ⟨t, pe, s⟩ := pa.v.ex
  refine ⟨_, pe_listRg hc hg hm (prg_1 hg2 hm2 pe nb) na, fun G H σ ρ r Q hw => s G H σ ρ r _ (hw.bind.mono (fun z _ q v G1 H1 o1 rv => ?_) fun _ _ q => q)⟩
  obtain ⟨n, e1, q⟩ := q.opt
  have e2 := asI_eq e1
  split at q
  · rename_i hk
    rw [e2] at rv
    refine ⟨n, (repI rv), hk, fun l hl => ?_⟩
    exact q _ G1 _ (o1.trans (.new o1.rel hl)) ⟨l, rfl, ⟨o1.rel.sub.none hl, _, upd_same, _, rfl, repL_rg⟩, o1.stp.thr l hl, fun z => (o1.rel.adsH (o1.rel.ads_new hl z)).1 hl⟩
  · exact q.elim
theorem pr_lstR2 (hc : X.calm = true) (hg : Gl X "list") (hm : X.mg "list" = none) (hg2 : Gl X "range") (hm2 : X.mg "range" = none) (pa : PR X E a fa) (pb : PR X E b fb) (na : starEach [Expr.Call (.Name "range" p2) [a, b] [] pos2] X.env = (false, eval (Expr.Call (.Name "range" p2) [a, b] [] pos2) X.env) :: starEach [] X.env := by rfl)
    (nb : starEach [a, b] X.env = (false, eval a X.env) :: starEach [b] X.env := by rfl) (nc : starEach [b] X.env = (false, eval b X.env) :: starEach [] X.env := by rfl) (hp : (backTo pos2 (starEach [b] X.env)).any (·.1) = false := by rfl) :
    PR X E (.Call (.Name "list" p) [.Call (.Name "range" p2) [a, b] [] pos2] [] pos) (eLstR2 fa fb) := by
  obtain ⟨t, pe, s⟩ := pa.v.ex
  obtain ⟨t2, pe2, s2⟩ := pb.v.ex
  refine ⟨_, pe_listRg hc hg hm (prg_2 hg2 hm2 pe pe2 nb nc hp) na, fun G H σ ρ r Q hw => s G H σ ρ r _ (hw.bind.mono (fun z _ q v G1 H1 o1 rv => ?_) fun _ _ q => q)⟩
  refine s2 G1 H1 σ z.2 o1.rel _ (q.bind.mono (fun y _ q v2 G2 H2 o2 rv2 => ?_) fun _ _ q => q.step o1)
  obtain ⟨i, e1, q⟩ := q.opt
  obtain ⟨j, e3, q⟩ := q.opt
  rw [asI_eq e1] at rv
  rw [asI_eq e3] at rv2
  split at q
  · rename_i hk
    have o := o1.trans o2
    refine ⟨i, j, (repI rv), (repI rv2), hk, fun l hl => ?_⟩
    exact q _ G2 _ (o.trans (.new o.rel hl)) ⟨l, rfl, ⟨o.rel.sub.none hl, _, upd_same, _, rfl, repL_rg⟩, o.stp.thr l hl, fun z => (o.rel.adsH (o.rel.ads_new hl z)).1 hl⟩
  · exact q.elim
end
/-! ## x.pop(k), x.pop() -/
@[simp] def ePopAt (i : Nat) (f : EF) : EF := fun ρ => ofO (lookL ρ i) >>= fun _ => eV f ρ >>= fun z => ofO (lookL z.2 i) >>= fun ds => ofO (asI z.1) >>= fun k => ofO (ixN ds.length k) >>= fun j => ofO ds[j]? >>= fun d => ofO (guard (decide (ds.length ≤ 1000000))) >>= fun _ => ofO (updSl z.2 i (.lst (ds.eraseIdx j))) >>= fun ρ2 => .ok (.val d, ρ2)
@[simp] def ePop (i : Nat) : EF := fun ρ => ofO (lookL ρ i) >>= fun ds => ofO ds[ds.length - 1]? >>= fun d => ofO (updSl ρ i (.lst ds.dropLast)) >>= fun ρ2 => .ok (.val d, ρ2)
theorem RepL.eraseIdx {K : PySem.W.Frag} {G : Hp} : ∀ {ds : List D} {vs : List V} (i : Nat), RepL K G ds vs → RepL K G (ds.eraseIdx i) (vs.eraseIdx i)
  | [], _, _, h => by rw [repL_nil.mp h]; exact .nil
  | d :: ds, _, 0, h => by
    obtain ⟨v, vs', rfl, h1, h2⟩ := repL_cons.mp h
    exact h2
  | d :: ds, _, i + 1, h => by
    obtain ⟨v, vs', rfl, h1, h2⟩ := repL_cons.mp h
    exact .cons h1 (h2.eraseIdx i)
theorem RepL.dropLast {K : PySem.W.Frag} {G : Hp} : ∀ {ds : List D} {vs : List V}, RepL K G ds vs → RepL K G ds.dropLast vs.dropLast
  | [], _, h => by rw [repL_nil.mp h]; exact .nil
  | [d], _, h => by
    obtain ⟨v, vs', rfl, h1, h2⟩ := repL_cons.mp h
    rw [repL_nil.mp h2]; exact .nil
  | d :: e :: ds, _, h => by
    obtain ⟨v, vs', rfl, h1, h2⟩ := repL_cons.mp h
    obtain ⟨w, vs'', rfl, h3, h4⟩ := repL_cons.mp h2
    exact .cons h1 (RepL.dropLast h2)
section
variable {X : Cx} {E : WX} {e o : Expr} {f fo : EF} {pos pos' apos cpos : Pos} {x : Str} {i : Nat}
theorem pr_popAt (hN : X.N[i]? = some x) (hv : Vis X.env.scope x) (h : PR X E e f) (hd : (x == ("__debug__" : Str)) = false := by decide) (hcd : (x == ("__classdict__" : Str)) = false := by decide)
    (hfew : ((backTo cpos (starEach (e :: []) X.env)).all (fun x => !x.1) && (backToKw cpos (keywordEach [] X.env)).all (fun x => x.1.isSome)
      && decide ((e :: []).length + ([] : List Keyword).length + (if ([] : List Keyword).isEmpty then 0 else 1) < 30)) = true := by rfl)
    (hbase : attributeBase (.Name x pos') "pop" X.env (eval (.Name x pos') X.env) = eval (.Name x pos') X.env := by rfl) (hline : (apos.endLine == cpos.line) = true := by rfl) (hs : starEach (e :: []) X.env = (false, eval e X.env) :: starEach [] X.env := by rfl) :
    PR X E (.Call (.Attribute (.Name x pos') "pop" apos) [e] [] cpos) (ePopAt i f) := by
  obtain ⟨t, pe, s⟩ := h.v.ex
  refine ⟨_, pe_bm PySem.F.plainAttrs_list PySem.F.slot_list_pop PySem.F.type_list_pop mt_popAt (pe_var (i := i) hN hv hd hcd) (pa_cons pe pa_nil hs) hbase hfew hline hs rfl, fun G H σ ρ r Q hw => ?_⟩
  obtain ⟨ds0, q0, hw⟩ := hw.opt
  obtain ⟨_, a, vs0, ea, hg0, hu0, hc0⟩ := lookL_ok r q0
  refine ⟨.ref a, ea, .inl ⟨rfl, vs0, SqL.of hu0⟩, s G H σ ρ r _ (hw.bind.mono (fun z _ q v G1 H1 o1 rv => ?_) fun _ _ q => q)⟩
  obtain ⟨ds, q1, q⟩ := q.opt
  obtain ⟨k, ek, q⟩ := q.opt
  obtain ⟨j, ej, q⟩ := q.opt
  obtain ⟨d, ed, q⟩ := q.opt
  obtain ⟨_, q2, q⟩ := q.opt
  obtain ⟨ρ2, e2, q⟩ := q.opt
  obtain ⟨hm, a', vs1, ea', hg1, hu1, hc1⟩ := lookL_ok o1.rel q1
  rw [ea] at ea'; cases ea'
  rw [asI_eq ek] at rv
  have hz := of_decide_eq_true (guard_eq q2)
  obtain ⟨s1, s2, s3, s4⟩ := ixN_seq ej
  obtain ⟨y, ey, ry⟩ := hc1.get ed
  refine ⟨a, vs1, k, j, y, rfl, by rw [(repI rv)], hu1, by omega, by omega, by rw [← hc1.length]; exact s1, ey, ?_⟩
  exact q y G1 _ (mut_ok o1 ea hm (cont_l (hc1.eraseIdx j)) e2) (Hold.val ry)
theorem pr_pop (hN : X.N[i]? = some x) (hv : Vis X.env.scope x) (hd : (x == ("__debug__" : Str)) = false := by decide) (hcd : (x == ("__classdict__" : Str)) = false := by decide)
    (hbase : attributeBase (.Name x pos') "pop" X.env (eval (.Name x pos') X.env) = eval (.Name x pos') X.env := by rfl) (hline : (apos.endLine == cpos.line) = true := by rfl) :
    PR X E (.Call (.Attribute (.Name x pos') "pop" apos) [] [] cpos) (ePop i) := by
  refine ⟨_, pe_bm0 PySem.F.plainAttrs_list PySem.F.slot_list_pop PySem.F.type_list_pop (fun pins s σ H x vs v us Q => mt_pop pins s σ H x vs v us Q) (pe_var (i := i) hN hv hd hcd) hbase hline, fun G H σ ρ r Q hw => ?_⟩
  obtain ⟨ds, q0, hw⟩ := hw.opt
  obtain ⟨d, ed, hw⟩ := hw.opt
  obtain ⟨ρ2, e2, hw⟩ := hw.opt
  obtain ⟨hm, a, vs1, ea, hg1, hu1, hc1⟩ := lookL_ok r q0
  obtain ⟨y, ey, ry⟩ := hc1.get ed
  refine ⟨.ref a, ea, .inl ⟨rfl, vs1, SqL.of hu1⟩, a, vs1, y, rfl, rfl, hu1, by rw [← hc1.length]; exact ey, ?_⟩
  exact hw y G _ (mut_ok (.refl r) ea hm (cont_l hc1.dropLast) e2) (Hold.val ry)
end
/-! ## f-strings -/
open Classical in
@[simp] noncomputable def fPart : D → Option Str
  | .str y => if y.length ≤ sizeLine then some y else none
  | .int i => if i.natAbs.log2 < 1920 then some (toString i) else none
  | _ => none
@[simp] noncomputable def eFv (f : EF) : EF := fun ρ => eV f ρ >>= fun z => ofO (fPart z.1) >>= fun y => .ok (.val (.str y), z.2)
/-- parts one behind the other -/
abbrev JF := Str → S → R (Str × S)
def SndJ (K : PySem.W.Frag) (E : WX) (ts : List TE) (f : JF) : Prop := ∀ (acc : Str) (G H : Hp) (σ : St) (ρ : S), Rel K G H σ ρ → ∀ Q : Str → Hp → Prop,
  Wp (f acc ρ) (fun z => ∀ G' H', Out K G H σ ρ G' H' z.2 → Q z.1 H') (ExE K E G H σ ρ) → tJs ts acc σ H Q
structure PJs (X : Cx) (E : WX) (es : List Expr) (f : JF) : Prop where
  ex : ∃ ts, PJ X es ts ∧ SndJ X.K E ts f
@[simp] def asSt : D → Option Str
  | .str i => some i
  | _ => none
theorem asSt_eq {d : D} {i : Str} (e : asSt d = some i) : d = .str i := by cases d <;> cases e; rfl
@[simp] def jNil : JF := fun acc ρ => .ok (acc, ρ)
@[simp] def jCons (f : EF) (g : JF) : JF := fun acc ρ => eV f ρ >>= fun z => ofO (asSt z.1) >>= fun y => ofO (guard (decide ((acc ++ y).length ≤ sizeLine))) >>= fun _ => g (acc ++ y) z.2
@[simp] def eJoin (g : JF) : EF := fun ρ => g Str.empty ρ >>= fun z => .ok (.val (.str z.1), z.2)
section
variable {X : Cx} {E : WX} {e v1 v2 : Expr} {es rest : List Expr} {f : EF} {g : JF} {pos : Pos}
theorem pr_fv (h : PR X E e f) : PR X E (.FormattedValue e (-1) none pos) (eFv f) := by
  obtain ⟨t, pe, s⟩ := h.v.ex
  refine ⟨_, pe_fmt pe, fun G H σ ρ r Q hw => s G H σ ρ r _ (hw.bind.mono (fun z _ q v G1 H1 o1 rv => ?_) fun _ _ q => q)⟩
  obtain ⟨y, e1, q⟩ := q.opt
  unfold fPart at e1
  split at e1
  · rename_i y0 ey
    split at e1
    · cases e1
      rw [ey] at rv
      unfold Rep at rv
      exact .inl ⟨_, rv, by assumption, q _ G1 H1 o1 (Hold.val rep_str)⟩
    · cases e1
  · rename_i i ey
    split at e1
    · cases e1
      rw [ey] at rv
      exact .inr ⟨_, (repI rv), by assumption, q _ G1 H1 o1 (Hold.val rep_str)⟩
    · cases e1
  · cases e1
theorem js_nil : PJs X E [] jNil := ⟨[], .nil, fun acc G H σ ρ r Q hw => hw G H (.refl r)⟩
theorem js_cons (h : PR X E e f) (hr : PJs X E es g) : PJs X E (e :: es) (jCons f g) := by
  obtain ⟨t, pe, s⟩ := h.v.ex
  obtain ⟨ts, pj, s2⟩ := hr.ex
  refine ⟨t :: ts, .cons pe pj, fun acc G H σ ρ r Q hw => s G H σ ρ r _ (hw.bind.mono (fun z _ q v G1 H1 o1 rv => ?_) fun _ _ q => q)⟩
  obtain ⟨y, e1, q⟩ := q.opt
  obtain ⟨_, e2, q⟩ := q.opt
  rw [asSt_eq e1] at rv
  unfold Rep at rv
  exact ⟨y, rv, of_decide_eq_true (guard_eq e2), s2 _ G1 H1 σ z.2 o1.rel Q (q.mono (fun z2 _ q2 G2 H2 o2 => q2 G2 H2 (o1.trans o2)) fun _ _ q2 => q2.step o1)⟩
theorem pr_joined (h : PJs X E (v1 :: v2 :: rest) g) : PR X E (.JoinedStr (v1 :: v2 :: rest) pos) (eJoin g) := by
  obtain ⟨ts, pj, s⟩ := h.ex
  refine ⟨_, pe_joined pj, fun G H σ ρ r Q hw => s _ G H σ ρ r _ (hw.bind.mono (fun z _ q G1 H1 o1 => ?_) fun _ _ q => q)⟩
  exact q _ G1 H1 o1 (Hold.val rep_str)
theorem pr_joined1 (h : PR X E e f) : PR X E (.JoinedStr [e] pos) f := by
  obtain ⟨t, pe, s⟩ := h.ex
  exact ⟨t, pe_joined1 pe, s⟩
end
/-- a class whose objects are shown in f-strings by their own __str__ -/
structure FmtOf (K : PySem.W.Frag) (C f : Addr) : Prop where
  fm : PySem.W.findIn K (.ref C) "__format__" = some (some (.builtin "object.__format__"))
  mr : PySem.W.mroIn K C (.type "object") = some true
  st : SpOf K C f "__str__"
section
variable {X : Cx} {E : WX} {k : Nat} {f C : Addr} {fd : FuncData} {ps : List Str} {F : FT} {pos : Pos} {e : Expr} {fo : EF}
@[simp] def poStrZ : D → Option D
  | .str x => if x.length ≤ sizeLine then some (.str x) else none
  | _ => none
theorem pr_fvO (hs : FmtOf X.K C f) (Fn : FnG X.prog X.w X.K X.mg X.base (L2.CX X.prog X.w) k f fd ps (spF X.K [false] false F)) (hr : RmG (k + 2) X.A) (hb : Binds X.K fd ps []) (hx : Passes (L2.CX X.prog X.w) X (fun _ _ _ => False)) (ha : PR X E e fo) :
    PR X E (.FormattedValue e (-1) none pos) (eSpO C F poStr fo) := by
  obtain ⟨t, pa, s⟩ := ha.v.ex
  refine ⟨fun σ H Q => t σ H fun x H1 => ∃ a dx fs, x = .ref a ∧ H1 a = some (.ins C dx fs) ∧ spF X.K [false] false F [.ref a] H1 (fun v H2 => ∃ y, v = .str y ∧ Q (.str y) H2) (fun _ _ _ => False), ⟨fun pins s σ H Q I h => ?_⟩, ?_⟩
  · refine wpAny_FormattedValue_plain (L2.thn (pa.run pins s σ H _ I h) fun v s1 hv => ?_)
    obtain ⟨x, H1, I1, r1, a, dx, fs, rfl, ea, hsp⟩ := hv
    have : v = Value.ref a := r1
    subst this
    obtain ⟨ox, od, J, _⟩ := inst_at I1 ea
    have hu := hr.units
    refine PySem.W.kfo_fieldS (show X.A.units + 1 < cLine by omega) I1.kIn J hs.fm hs.mr hs.st.at_ hs.st.fn (wpAny_mono (runAt (A' := X.A.in1) (hr.in1.mono (by omega)) rfl Fn hb hx (I1.tok _) (vs := [.ref a]) (.cons rfl .nil) hsp) (fun v s' z => ?_) fun _ _ z => z)
    obtain ⟨v', H', I', rv, y, rfl, q⟩ := z
    obtain ⟨tk, rfl⟩ := rv
    exact ⟨.str y, H', I', ⟨_, rfl⟩, q⟩
  · intro G H σ ρ r Q hw
    refine s G H σ ρ r _ (hw.bind.mono (fun z _ q v G1 H1 o1 rv => ?_) fun _ _ q => q)
    obtain ⟨cc, e1, q1⟩ := q.opt
    have h1' := rv
    rw [asIns_eq e1] at h1'
    unfold Rep at h1'
    obtain ⟨a, dx, fs, rfl, ha, hn, hds⟩ := h1'
    refine ⟨a, dx, fs, rfl, o1.rel.sub.i ha, call_post (ms := [false]) (by decide) rfl o1 (.cons rv .nil) (fun d d' v G' H' e1 h2 q => ?_) q1⟩
    unfold poStr at e1
    split at e1
    · cases e1
      unfold Rep at h2
      exact ⟨_, h2, q _ rep_str⟩
    · cases e1
end
end BR
set_option Elab.async false
set_option linter.all false
set_option maxRecDepth 100000
set_option maxHeartbeats 4000000
namespace BR
open PySem L2
open PySem.W (Frag findIn specialIn takesIn mroIn kitOne kitAny isFn fnIn notFirst)
/-! ## isinstance of an own class, of all kinds of values -/
def isIns (C : Addr) : D → Bool
  | .ins c _ _ => decide (c = C)
  | _ => false
def baseTs : List String := ["NoneType", "bool", "int", "str", "list", "tuple", "dict"]
structure IsG (K : Frag) (C : Addr) (Cs : List Addr) : Prop where
  cls : ∀ c ∈ Cs, ClsI K c
  kit : ∀ c ∈ Cs, kitOne K (.ref c) (.ref C) = some (decide (c = C))
  base : ∀ T ∈ baseTs, kitOne K (.type T) (.ref C) = some false
theorem kitAny_one {K : Frag} {t u : Value} {b : Bool} (h : kitOne K t u = some b) : kitAny K t [u] = some b := by
  cases b with
  | true => exact kitAny_cons h (fun e => by cases e) fun _ => rfl
  | false => exact kitAny_cons h (fun _ => rfl) fun e => by cases e
theorem isi_G {K : Frag} {C : Addr} {Cs : List Addr} (g : IsG K C Cs) : IsiT K [.ref C] (insIn Cs) (isIns C) := by
  refine ⟨fun d t hp e => ?_, fun d G H v s h e => ?_⟩
  · have hb : ∀ T, T ∈ baseTs → kitAny K (.type T) [.ref C] = some false := fun T hT => kitAny_one (g.base T hT)
    cases d with
    | ins c ns ds =>
      cases e
      obtain ⟨c', hc, e⟩ := List.any_eq_true.mp (show (Cs.any fun x => decide (x = c)) = true from hp)
      have := of_decide_eq_true e
      subst this
      exact kitAny_one (g.kit _ hc)
    | non => cases e; exact hb _ (by decide)
    | bl _ => cases e; exact hb _ (by decide)
    | int _ => cases e; exact hb _ (by decide)
    | str _ => cases e; exact hb _ (by decide)
    | lst _ => cases e; exact hb _ (by decide)
    | scr _ => cases e; exact hb _ (by decide)
    | tup _ => cases e; exact hb _ (by decide)
    | dic _ _ => cases e; exact hb _ (by decide)
    | ty _ => cases e
    | obj _ => cases e
  · have key : ∀ t, tyD d = some t → TyX K H v t := fun t et => tyD_ok g.cls s h e et
    cases d <;> first | exact ⟨_, rfl, key _ rfl⟩ | cases e
/-! ## facts -/
def fIsG (C : PySem.Str) (Cs : List PySem.Str) : Fct := fun K => (Cs.all fun c => fClsI c K && decide (kitOne K (.ref (He.ga K c)) (.ref (He.ga K C)) = some (decide (He.ga K c = He.ga K C)))) && baseTs.all fun T => decide (kitOne K (.type T) (.ref (He.ga K C)) = some false)
theorem isG_ok {K : Frag} {C : PySem.Str} {Cs : List PySem.Str} (h : fIsG C Cs K = true) : IsG K (He.ga K C) (Cs.map (He.ga K)) := by
  obtain ⟨h1, h2⟩ := ba' h
  have h1 := List.all_eq_true.mp h1
  have h2 := List.all_eq_true.mp h2
  refine ⟨fun c hc => ?_, fun c hc => ?_, fun T hT => of_decide_eq_true (h2 T hT)⟩
  · obtain ⟨x, hx, rfl⟩ := List.mem_map.mp hc
    exact clsI_ok (ba' (h1 x hx)).1
  · obtain ⟨x, hx, rfl⟩ := List.mem_map.mp hc
    exact of_decide_eq_true (ba' (h1 x hx)).2
def fRight (C : PySem.Str) (Cs : List PySem.Str) : Fct := fun K => Cs.all fun c => fClsI c K && notFirst K (He.ga K C) (.ref (He.ga K c))
theorem right_ok {K : Frag} {C : PySem.Str} {Cs : List PySem.Str} (h : fRight C Cs K = true) : RightOk K (He.ga K C) (Cs.map (He.ga K)) := by
  have h := List.all_eq_true.mp h
  refine ⟨fun c hc => ?_, fun c hc => ?_⟩
  · obtain ⟨x, hx, rfl⟩ := List.mem_map.mp hc
    exact clsI_ok (ba' (h x hx)).1
  · obtain ⟨x, hx, rfl⟩ := List.mem_map.mp hc
    exact (ba' (h x hx)).2
def fSp (C nm : PySem.Str) : Fct := fun K => He.eqO (findIn K (.ref (He.ga K C)) nm) (some (some (.ref (He.ma K (He.ga K C) nm)))) && isFn K (.ref (He.ma K (He.ga K C) nm))
theorem sp_ok {K : Frag} {C nm : PySem.Str} (h : fSp C nm K = true) : SpOf K (He.ga K C) (He.ma K (He.ga K C) nm) nm := by
  obtain ⟨h1, h2⟩ := ba' h
  exact ⟨He.eqO_ok h1, h2⟩
def fFnIn (C nm : PySem.Str) : Fct := fun K => fnIn K (He.ma K (He.ga K C) nm)
theorem fnIn_ok {K : Frag} {C nm : PySem.Str} (h : fFnIn C nm K = true) : fnIn K (He.ma K (He.ga K C) nm) = true := h
def fFmt (C : PySem.Str) : Fct := fun K => He.eqO (findIn K (.ref (He.ga K C)) "__format__") (some (some (.builtin "object.__format__"))) && (decide (mroIn K (He.ga K C) (.type "object") = some true) && fSp C "__str__" K)
theorem fmt_ok {K : Frag} {C : PySem.Str} (h : fFmt C K = true) : FmtOf K (He.ga K C) (He.ma K (He.ga K C) "__str__") := by
  obtain ⟨h1, h⟩ := ba' h
  obtain ⟨h2, h3⟩ := ba' h
  exact ⟨He.eqO_ok h1, of_decide_eq_true h2, sp_ok h3⟩
def fNoNe (C : PySem.Str) : Fct := fun K => He.eqO (findIn K (.ref (He.ga K C)) "__ne__") (some (some (.builtin "object.__ne__"))) && decide (mroIn K (He.ga K C) (.type "object") = some true)
theorem noNe_ok {K : Frag} {C : PySem.Str} (h : fNoNe C K = true) : NoNe K (He.ga K C) := by
  obtain ⟨h1, h2⟩ := ba' h
  exact ⟨He.eqO_ok h1, of_decide_eq_true h2⟩
def fNd (C D : PySem.Str) : Fct := fun K => !decide (He.ga K C = He.ga K D)
theorem nd_ok {K : Frag} {C D : PySem.Str} (h : fNd C D K = true) : He.ga K C ≠ He.ga K D := fun e => by
  unfold fNd at h
  rw [decide_eq_true e] at h
  cases h
@[simp] def dNeg : D → Option Rz
  | .int i => some (.im (.int (-i)))
  | _ => none
theorem d_negU {K : Frag} : UnD K (rU fun i => .int (-i)) dNeg := by
  intro G H x v s hx z Q e h
  unfold dNeg at e
  split at e
  · cases e
    rename_i i
    have := hx.int; subst this
    exact ⟨i, rfl, h _ rep_int⟩
  · cases e
section
variable {X : Cx} {E : WX} {k : Nat} {f C : Addr} {fd : FuncData} {ps : List Str} {F : FT} {p pos : Pos} {a b : Expr} {fa fb : EF} {Cs : List Addr}
theorem pb_eqO (R0 : RightOk X.K C Cs) (hs : SpOf X.K C f "__eq__") (Fn : FnG X.prog X.w X.K X.mg X.base (L2.CX X.prog X.w) k f fd ps (spF X.K [false, false] false F)) (hr : RmG (k + 1) X.A) (hb : Binds X.K fd ps []) (hx : Passes (L2.CX X.prog X.w) X (fun _ _ _ => False)) (pa : PR X E a fa) (pb : PR X E b fb)
    (hm : behindInMarks .Eq b = false := by rfl) : PB X E (.Compare a [.Eq] [b] pos) (tstV (eEqO C Cs F id fa fb)) := by
  obtain ⟨ta, pa, sa⟩ := pa.v.ex
  obtain ⟨tb, pb, sb⟩ := pb.v.ex
  exact ⟨_, pt_cmpR (op_eqO hs Fn hr hb hx) pa pb hm, snd_tst (snd_eqO R0 sa sb)⟩
theorem pb_neO (R0 : RightOk X.K C Cs) (hn : NoNe X.K C) (hs : SpOf X.K C f "__eq__") (Fn : FnG X.prog X.w X.K X.mg X.base (L2.CX X.prog X.w) k f fd ps (spF X.K [false, false] false F)) (hr : RmG (k + 1) X.A) (hb : Binds X.K fd ps []) (hx : Passes (L2.CX X.prog X.w) X (fun _ _ _ => False)) (pa : PR X E a fa) (pb : PR X E b fb)
    (hm : behindInMarks .NotEq b = false := by rfl) : PB X E (.Compare a [.NotEq] [b] pos) (tstV (eEqO C Cs F (fun b => !b) fa fb)) := by
  obtain ⟨ta, pa, sa⟩ := pa.v.ex
  obtain ⟨tb, pb, sb⟩ := pb.v.ex
  exact ⟨_, pt_cmpR (op_neO hn hs Fn hr hb hx) pa pb hm, snd_tst (snd_eqO R0 sa sb)⟩
end
theorem passF {X : Cx} : Passes (L2.CX X.prog X.w) X (fun _ _ _ => False) := passes_call pass00 fun _ _ _ _ h => h.elim
end BR
set_option Elab.async false
set_option linter.all false
set_option maxRecDepth 100000
set_option maxHeartbeats 4000000
namespace BR
open PySem L2
/-! ## raise C(e) of an own exception class: __init__(self, x): self.f = x -/
def spX (K : PySem.W.Frag) (f : Str) : Sp := fun vs H Q _ => ∃ (a C : Addr) (y : V), vs = [.ref a, y] ∧ OexC K C ∧ PySem.W.findIn K (.ref C) f = some none ∧ H a = some (exo a C none) ∧
  ∀ dx, H dx = none → dx ≠ a → Q .non (upd (upd H dx (exd dx [(f, y)])) a (exo a C (some dx)))
theorem fn_exc {P : Program} {w : World} {K : PySem.W.Frag} {mg : Str → Option Value} {base : Heap} {x qual f a b : Str} {params : Arguments} {scope : Scope} {kws : List (Str × V)} {fI : Addr} {fd : FuncData} {p1 p2 p3 p4 : Pos} {CXg : CXT} (F : FunD K x qual params [.Assign [.Attribute (.Name a p1) f p2] (.Name b p3) p4] scope [] kws fI fd)
    (S : FnScope [a, b] [a, b] scope) (ha : Vis scope a) (hb : Vis scope b) (h1 : (a == ("__debug__" : Str)) = false) (h2 : (a == ("__classdict__" : Str)) = false) (h3 : (b == ("__debug__" : Str)) = false) (h4 : (b == ("__classdict__" : Str)) = false) :
    FnOk P w K mg base CXg (0 + 1) fI fd [a, b] (spX K f) := by
  refine F.ok S (fun vs H Q E h => ?_) fun cdv A outer s H vs Q E hr h => ?_
  · obtain ⟨_, _, _, rfl, _⟩ := h; rfl
  · obtain ⟨aa, C, y, rfl, T, hno, ea, q⟩ := h
    refine ⟨_, pss_one (ps_ost (pe_var (i := 0) rfl ha h1 h2) (pe_var (i := 1) rfl hb h3 h4)), ?_⟩
    refine ⟨y, rfl, .ref aa, rfl, aa, C, rfl, T, hno, .inl ⟨ea, fun dx n ne => q dx n ne⟩⟩
/-- what the head says of such a class -/
structure ExcM (K : PySem.W.Frag) (C fI : Addr) (f : Str) : Prop where
  oex : OexC K C
  ini : PySem.W.findIn K (.ref C) "__init__" = some (some (.ref fI))
  ty : PySem.W.typeIn K (.ref fI) = some (.type "function")
  no : PySem.W.findIn K (.ref C) f = some none
@[simp] def sRaise (C : Addr) (f : Str) (g : S → R (List D × S)) : SF := fun ρ => g ρ >>= fun z => .exc ⟨.ref C, [f], z.1, z.2⟩
theorem del_upd {H : Hp} {a dx : Addr} {o1 o2 o3 o4 : HO} (ha : H a = none) (hd : dx ≠ a) : upd (del (upd (upd (upd H a o1) dx o2) a o3) a) dx o4 = upd H dx o4 := by
  funext b
  by_cases h1 : b = dx
  · subst h1; rw [upd_same, upd_same]
  · rw [upd_ne h1, upd_ne h1]
    by_cases h2 : b = a
    · subst h2; rw [del_same, ha]
    · rw [del_ne h2, upd_ne h2, upd_ne h1, upd_ne h2]
section
variable {X : Cx} {E : WX} {k : Nat} {fI C : Addr} {fd : FuncData} {ps : List Str} {x f : Str} {p pos spos : Pos} {e : Expr} {g : S → R (List D × S)}
theorem st_raise (hc : X.calm = true) (tk : Takes X E) (T : ExcM X.K C fI f) (F1 : FnOk X.prog X.w X.K X.mg X.base (L2.CX X.prog X.w) k fI fd ps (spX X.K f)) (hr : Room (k + 1) X.A) (hb : Binds X.K fd ps []) (hg : Gl X x) (hm : X.mg x = some (.ref C)) (ha : PAs X E [e] g) {n : Nat} (hal : ALen g 1)
    (hdb : (x == ("__debug__" : Str)) = false := by decide) (he : starEach (e :: []) X.env = (false, eval e X.env) :: starEach [] X.env := by rfl) (hpl : (backTo pos (starEach [] X.env)).any (·.1) = false := by rfl) :
    PSt X E (.Raise (some (.Call (.Name x p) [e] [] pos)) none spos) (sRaise C f g) := by
  obtain ⟨t, pa, s⟩ := ha.ex
  refine ⟨_, ps_raise hc tk (pmk_oex (dvs := []) T.oex T.ini T.ty F1 hr hb .nil passF hg hm pa hdb he hpl), fun G H σ ρ r Dn hw => ?_⟩
  refine s G H σ ρ r _ (hw.bind.mono (fun z hz q vs G1 H1 o1 rv => ?_) fun _ _ q => q)
  have hlen : vs.length = 1 := by rw [← rv.length]; exact hal ρ z hz
  refine ⟨by omega, fun a hna => ?_⟩
  match vs, hlen, rv with
  | [y], _, rv =>
    refine ⟨a, C, y, rfl, T.oex, T.no, upd_same, fun dx hdx hne => ?_⟩
    have hdx' : H1 dx = none := by rw [upd_ne hne] at hdx; exact hdx
    refine ⟨rfl, dx, [(f, y)], upd_same, by rw [upd_ne hne, upd_same], hdx', ?_⟩
    rw [del_upd hna hne]
    have o2 := o1.trans (Out.new (o := .xd [(f, y)]) o1.rel hdx')
    refine (show ExE X.K E G H σ ρ _ from q) (.ref C) (some dx) σ G1 _ ⟨o2.rel, o2.stp, o2.nw, fun i h => rfl⟩ ⟨rfl, .inl ⟨dx, [(f, y)], rfl, upd_same, rfl, rv⟩⟩
end
end BR
set_option Elab.async false
set_option linter.all false
set_option maxRecDepth 100000
set_option maxHeartbeats 4000000
namespace BR
open PySem PySem.Spec PyProof.Rows L2
/-! ## try with several clauses 'except C as n' -/
def gone (i : Nat) (D : Ends) : Ends where
  nx := fun τ K' => D.nx (τ.set i none) K'
  rt := D.rt
  bk := fun τ K' => D.bk (τ.set i none) K'
  ct := fun τ K' => D.ct (τ.set i none) K'
/-- a clause: the class, the name's slot, the suite -/
abbrev Cl := Value × Nat × (Addr → Value → Option Addr → TS)
def wCl (K : PySem.W.Frag) (W : WX) (D : Ends) : List Cl → WX
  | [] => W
  | q :: r => fun k dd τ Hx => ∃ b, PySem.W.exmOne K k q.1 = some b ∧ (b = true → ∀ o, Hx o = none → q.2.2 o k dd (gone q.2.1 D) (τ.set q.2.1 (some (.ref o))) Hx) ∧ (b = false → wCl K W D r k dd τ Hx)
inductive HdA (X : Cx) : List ExceptHandler → List Cl → Prop
  | nil : HdA X [] []
  | cons {x n : Str} {i : Nat} {c : Value} {ts : Addr → Value → Option Addr → TS} {b₀ : Stmt} {suite : List Stmt} {np pos' : Pos} {hds : List ExceptHandler} {l : List Cl} (hc : Names X x c) (hi : X.N[i]? = some n) (hln : X.env.kindOf n = some .local)
      (hsu : ∀ (o : Addr) (ob : Obj) (k : Value) (dd : Option Addr) (pq : List (Addr × Obj)), Zc k dd ob → (∃ fv, ob.data = .fields fv) → PSs (X.suite o ((o, ob) :: pq)) (b₀ :: suite) (ts o k dd)) (r : HdA X hds l) :
      HdA X (.ExceptHandler (some (.Name x np)) (some n) (b₀ :: suite) pos' :: hds) ((c, i, ts) :: l)
section
variable {X : Cx} {body : List Stmt} {h₀ : ExceptHandler} {hds : List ExceptHandler} {l : List Cl} {pos : Pos} {tb : WX → TS} {W : WX}
/-- the test of a clause -/
theorem names_at {x : Str} {c : Value} {np : Pos} {o : Addr} {pq pins : List (Addr × Obj)} {τ : L2.St} {Hx : Hp} {sx : Shared} (hc : Names X x c) (S : Inv (X.suite o pq) pins τ Hx sx) {Q : Value → Shared → Prop} {E1 : Value → Shared → Prop} (q : Q c sx) :
    wpAny (model X.prog X.w) (X.A.mark (some (.ref o))) (eval (.Name x np) X.env) Q E1 sx := by
  rcases hc with ⟨g1, g2, g3 | ⟨g3, g4, g5⟩⟩
  · exact ld_glob S g1 g3 q g2
  · exact ld_blt S g1 g3 g4 q g5 g2
theorem ps_tryAs (hs : X.stack = X.env :: X.outer) (hf : X.env.frame = some X.env.locals) (hN : X.N.Nodup) (tk : Takes X W)
    (hb : ∀ (Wb : WX) (pq : List (Addr × Obj)) (xe : Value → Shared → Prop), Takes (X.tr pq xe) Wb → PassesOwn (model X.prog X.w) X.A X.env xe → PSs (X.tr pq xe) body (tb Wb))
    (hh : HdA X (h₀ :: hds) l) : PS X (.Try body (h₀ :: hds) [] [] pos) (fun D τ Hx => tb (wCl X.K W D l) D τ Hx) := by
  constructor
  intro pins s0 τ0 Hs0 D I0 hw0
  have okX := I0.ok
  have frX : X.A.frames = some (X.env :: X.outer) := okX.frames.trans (congrArg some hs)
  apply wpAny_Try_except
  have catch_ : ∀ u s', XE (X.tr (X.pn ++ pins) (fun e s₁ => wpAny (model X.prog X.w) X.A (noteFrame e X.env) (fun _ s₂ => wpAny (model X.prog X.w) X.A (setFlight e none) (fun _ s₃ =>
      wpAny (model X.prog X.w) X.A (handleBy e X.env (h₀ :: hds)) (SP X pins D) X.xe s₃) X.xe s₂) X.xe s₁)) (wCl X.K W D l) u s' → wpAny (model X.prog X.w) X.A (noteFrame u X.env) (fun _ s₂ => wpAny (model X.prog X.w) X.A (setFlight u none) (fun _ s₃ =>
      wpAny (model X.prog X.w) X.A (handleBy u X.env (h₀ :: hds)) (SP X pins D) X.xe s₃) X.xe s₂) X.xe s' := by
    rintro u s' ⟨o, Bs, sJ, pj, τ, Hx, k, dd, rfl, Jt, nbs, ups, skyt, nao, oss, ags, w⟩
    have J : Inv X pins τ Hx sJ := Jt.ofTry okX
    have skyX : Sky Bs (X.env :: X.outer) o (Zc k dd) X.env.locals s'.heap := by rw [← hs]; exact skyt
    refine Sky.land Zc.steady frX hf skyX fun hp fly upf => ?_
    have J3 : Inv X pins τ Hx { s' with heap := hp } := J.landed nbs fly.1 (ups.trans upf) oss ags
    obtain ⟨ob3, fv3, get3, zc3, dat3⟩ := fly.there
    have nofrs : o ∉ frs (X.env :: X.outer) := fun hm => by
      obtain ⟨_, o', g', nf⟩ := fly.2.2.1.mem hm
      rw [get3] at g'; cases g'
      exact nf _ dat3
    have neL : o ≠ X.env.locals := fun z => nofrs (List.mem_filterMap.mpr ⟨X.env, List.mem_cons_self, hf.trans (congrArg some z.symm)⟩)
    have neF : o ∉ X.fs := fun hm => by
      obtain ⟨ev, hev, qv⟩ := List.mem_filterMap.mp hm
      exact nofrs (List.mem_filterMap.mpr ⟨ev, List.mem_cons_of_mem _ hev, qv⟩)
    have S3 := J3.suite get3 dat3 nao neL neF
    have typ : PySem.W.Looks (model X.prog X.w) hp (typeOf (.ref o)) k := fun A1 Q1 E1 s1 k1 q1 => wpAny_typeOf_ref (k1 _ _ get3) (by rw [zc3.1]; exact q1)
    have many : ∀ {hs' : List ExceptHandler} {l' : List Cl}, HdA X hs' l' → wCl X.K W D l' k dd τ Hx → wpAny (model X.prog X.w) X.A (handleBy (.ref o) X.env hs') (SP X pins D) X.xe { s' with heap := hp } := by
      intro hs' l' hk
      induction hk with
      | nil =>
        intro wn
        apply wpAny_handleBy_nil
        obtain ⟨_, _, _, ox, fx, T, _, _, gx, _, dx, d1, _⟩ := id fly
        unfold PySem.passOn
        refine wpAny_bind (wpAny_field gx dx d1 ?_)
        rw [if_neg (by simp : ¬ ((Value.ref T == Value.none) = true))]
        have thrown : wpAny (model X.prog X.w) X.A (setFlight (.ref o) X.env.frame) (fun _ s4 => wpAny (model X.prog X.w) X.A (throw (.ref o) : Sem Flow) (SP X pins D) X.xe s4) X.xe { s' with heap := hp } := by
          rw [hf]
          exact HandSPX.setFlight_upZ fly fun h4 held4 up4 => wpAny_throw (tk _ _ ⟨o, Bs, sJ, pins, τ, Hx, k, dd, rfl, J, nbs, (ups.trans upf).trans up4, .inr (.inr (by rw [hs]; exact held4)), nao, oss, ags, wn⟩)
        first | exact wpAny_bind (wpAny_pure (wpAny_bind thrown)) | exact wpAny_bind thrown
      | @cons x n i c ts b₀ suite np pos' hds2 l2 hc hi hln hsu r ih =>
        rintro ⟨b, eb, hyes, hno⟩
        have exm := PySem.W.exm_one (M := model X.prog X.w) J3.kIn typ eb
        refine wpAny_handleBy_cons (codeAny_handlers_test (names_at hc S3 (exm.here ?_))) nofun
        cases b with
        | false => exact ih (hno rfl)
        | true =>
          refine codeAny_handlers_suite_as (HandSPX.lands_againZ fly fun h4 fly4 up4 => ?_)
          have J4 : Inv X pins τ Hx { s' with heap := h4 } := J.landed nbs fly4.1 ((ups.trans upf).trans up4) oss ags
          obtain ⟨ob4, fv4, get4, zc4, dat4⟩ := fly4.there
          refine store_ok (X := X.suite o ((o, ob4) :: (X.pn ++ pins))) (v := .ref o) (J4.suite get4 dat4 nao neL neF) hN hi (.inl hln) rfl (fun s5 S5 => ?_) (.inr hln)
          have away : ∀ {τ6 : L2.St} {H6 : Hp} {s6 : Shared} {Q : Shared → Prop}, Inv (X.suite o ((o, ob4) :: (X.pn ++ pins))) [] τ6 H6 s6 → (∀ s7, Inv X pins (τ6.set i none) H6 s7 → Q s7) →
              wpAny (model X.prog X.w) X.A (do bindName X.env n .none; unbindBehindTheSuite X.env n pos') (fun _ s7 => Q s7) X.xe s6 := fun S6 hq => gone_ok (S6.unsuite okX) hN hi hln hq
          refine wpAny_mono ((hsu o ob4 k dd (X.pn ++ pins) zc4 ⟨_, dat4⟩).run [] s5 _ Hx (gone i D) S5 (hyes rfl o nao)) (fun f s6 hsp => ?_) fun _ _ z => z.elim
          cases f with
          | ret u => obtain ⟨v6, τ6, H6, S6, r6, q6⟩ := hsp; exact away S6 fun s7 J7 => ⟨v6, _, _, J7, r6, q6⟩
          | next => obtain ⟨τ6, H6, S6, q6⟩ := hsp; exact away S6 fun s7 J7 => ⟨_, _, J7, q6⟩
          | brk => obtain ⟨τ6, H6, S6, q6⟩ := hsp; exact away S6 fun s7 J7 => ⟨_, _, J7, q6⟩
          | cont => obtain ⟨τ6, H6, S6, q6⟩ := hsp; exact away S6 fun s7 J7 => ⟨_, _, J7, q6⟩
    exact many hh w
  refine wpAny_mono ((hb (wCl X.K W D l) (X.pn ++ pins) _ catch_ PassesOwn.looking).run [] s0 τ0 Hs0 D (I0.toTry _) hw0) (fun f s1 hsp => ?_) fun _ _ z => z
  cases f with
  | ret u => obtain ⟨v, τ1, H1, J1, rv, q⟩ := hsp; exact ⟨v, τ1, H1, J1.ofTry okX, rv, q⟩
  | next => obtain ⟨τ1, H1, J1, q⟩ := hsp; exact wpAny_execs_nil ⟨τ1, H1, J1.ofTry okX, q⟩
  | brk => obtain ⟨τ1, H1, J1, q⟩ := hsp; exact ⟨τ1, H1, J1.ofTry okX, q⟩
  | cont => obtain ⟨τ1, H1, J1, q⟩ := hsp; exact ⟨τ1, H1, J1.ofTry okX, q⟩
end
end BR
set_option Elab.async false
set_option linter.all false
set_option maxRecDepth 100000
set_option maxHeartbeats 4000000
namespace BR
open PySem L2
/-! ## try as a function -/
def tS (K : PySem.W.Frag) (E : WX) (f : SF) : TS := fun D σ H => ∃ G ρ, Rel K G H σ ρ ∧ Wp (f ρ) (FlP K G H σ ρ D) (ExE K E G H σ ρ)
theorem PSq.ps {X : Cx} {E : WX} {sts : List Stmt} {f : SF} (h : PSq X E sts f) : PSs X sts (tS X.K E f) := by
  obtain ⟨t, ps, s⟩ := h.ex
  exact ⟨fun pins s' σ H D I ⟨G, ρ, r, w⟩ => ps.run pins s' σ H D I (s G H σ ρ r D w)⟩
/-- a suite: the exception's place, the heaps at its entry, the exception -/
abbrev HF := Addr → Hp → Hp → Exc → SF
/-- a clause: the class, the name's slot, the suite -/
structure Clz where
  c : Value
  i : Nat
  h : HF
def ioKeep (ρ ρ' : S) : Bool := (List.range ρ.length).all fun j => match ρ[j]? with
  | some (some (.io _)) => (match ρ'[j]? with
    | some (some (.io _)) => true
    | _ => false)
  | _ => true
@[simp] def goneF (i : Nat) : R (Fl × S) → R (Fl × S)
  | .ok (.nx, ρ) => .ok (.nx, ρ.set i none)
  | .ok (.bk, ρ) => .ok (.bk, ρ.set i none)
  | .ok (.ct, ρ) => .ok (.ct, ρ.set i none)
  | .ok (.rt (.val d), ρ) => .ok (.rt (.val d), ρ.set i none)
  | _ => .no
open Classical in
noncomputable def sHand (K : PySem.W.Frag) (ρ : S) (x : Exc) : List Clz → R (Fl × S)
  | [] => .exc x
  | q :: r => match PySem.W.exmOne K x.cls q.1 with
    | some true => if ioKeep ρ x.st = true ∧ x.st[q.2]? = some none ∧ ∀ a G0 H0, goneF q.2 (q.3 a G0 H0 x (x.st.set q.2 (some (.gh a G0 H0)))) = goneF q.2 (q.3 0 (fun _ => none) (fun _ => none) x (x.st.set q.2 (some (.gh 0 (fun _ => none) (fun _ => none))))) then
        goneF q.2 (q.3 0 (fun _ => none) (fun _ => none) x (x.st.set q.2 (some (.gh 0 (fun _ => none) (fun _ => none))))) else .no
    | some false => sHand K ρ x r
    | none => .no
noncomputable def sTry (K : PySem.W.Frag) (b : SF) (l : List Clz) : SF := fun ρ => match b ρ with
  | .exc x => sHand K ρ x l
  | r => r
theorem ioKeep_ok {ρ ρ' : S} (h : ioKeep ρ ρ' = true) {j : Nat} (hj : isIo ρ j) : isIo ρ' j := by
  obtain ⟨d, e⟩ := hj
  have hl : j < ρ.length := (List.getElem?_eq_some_iff.mp e).1
  have := List.all_eq_true.mp h j (List.mem_range.mpr hl)
  simp only [e] at this
  split at this
  · rename_i d' e'; exact ⟨d', e'⟩
  · cases this
section
variable {K : PySem.W.Frag} {G H G' H' G2 H2 : Hp} {σ σ' σ2 : St} {ρ ρ1 ρ2 : S} {i : Nat} {a : Addr}
theorem clr_at {ρ : S} {s : Sl} {j : Nat} (e : (ρ.set i none)[j]? = some (some s)) : ρ[j]? = some (some s) ∧ i ≠ j := by
  by_cases h : i = j
  · subst h
    rw [List.getElem?_set] at e
    simp only [if_true] at e
    split at e <;> cases e
  · rw [List.getElem?_set_ne h] at e
    exact ⟨e, h⟩
theorem clr_mut {ρ : S} {j : Nat} (h : isMut (ρ.set i none) j) : isMut ρ j ∧ i ≠ j := by
  obtain ⟨d, h | h⟩ := h
  · exact ⟨⟨d, .inl (clr_at h).1⟩, (clr_at h).2⟩
  · exact ⟨⟨d, .inr (clr_at h).1⟩, (clr_at h).2⟩
theorem clr_ads {b : Addr} (h : ads H (σ.set i none) (ρ.set i none) b) : ads H σ ρ b := by
  rcases h with ⟨j, m, e⟩ | ⟨j, t, v, e1, e2, m⟩
  · obtain ⟨m', n⟩ := clr_mut m
    rw [List.getElem?_set_ne n] at e
    exact .inl ⟨j, m', e⟩
  · obtain ⟨e1', n⟩ := clr_at e1
    rw [List.getElem?_set_ne n] at e2
    exact .inr ⟨j, t, v, e1', e2, m⟩
theorem clr_dpa {b : Addr} (h : dpa H (σ.set i none) (ρ.set i none) b) : dpa H σ ρ b := by
  obtain ⟨j, t, v, e1, e2, m⟩ := h
  obtain ⟨e1', n⟩ := clr_at e1
  rw [List.getElem?_set_ne n] at e2
  exact ⟨j, t, v, e1', e2, m⟩
theorem rel_clr (r : Rel K G H σ ρ) : Rel K G H (σ.set i none) (ρ.set i none) := by
  refine ⟨by simp [r.len], r.sub, fun j s e => ?_, fun j k b m1 m2 e1 e2 => ?_, ⟨fun j k t u v w b e1 e2 e3 e4 m1 m2 => ?_, fun b j h m e => ?_⟩, r.tt⟩
  · obtain ⟨e', n⟩ := clr_at e
    rw [List.getElem?_set_ne n]
    exact r.sl j s e'
  · obtain ⟨m1', n1⟩ := clr_mut m1
    obtain ⟨m2', n2⟩ := clr_mut m2
    rw [List.getElem?_set_ne n1] at e1
    rw [List.getElem?_set_ne n2] at e2
    exact r.dis j k b m1' m2' e1 e2
  · obtain ⟨e1', n1⟩ := clr_at e1
    obtain ⟨e3', n3⟩ := clr_at e3
    rw [List.getElem?_set_ne n1] at e2
    rw [List.getElem?_set_ne n3] at e4
    exact r.dp.dd j k t u v w b e1' e2 e3' e4 m1 m2
  · obtain ⟨m', n⟩ := clr_mut m
    rw [List.getElem?_set_ne n] at e
    exact r.dp.ds b j (clr_dpa h) m' e
/-- a slot that holds a ghost is like an empty one -/
theorem gst_at {G0 H0 : Hp} {s : Sl} {j : Nat} (hi : ρ[i]? = some none) (e : (ρ.set i (some (.gh a G0 H0)))[j]? = some (some s)) : (i = j ∧ s = .gh a G0 H0) ∨ (ρ[j]? = some (some s) ∧ i ≠ j) := by
  by_cases h : i = j
  · subst h
    rw [List.getElem?_set] at e
    simp only [if_true] at e
    split at e
    · cases e; exact .inl ⟨rfl, rfl⟩
    · cases e
  · rw [List.getElem?_set_ne h] at e
    exact .inr ⟨e, h⟩
theorem gst_mut {G0 H0 : Hp} {j : Nat} (hi : ρ[i]? = some none) (h : isMut (ρ.set i (some (.gh a G0 H0))) j) : isMut ρ j ∧ i ≠ j := by
  obtain ⟨d, h | h⟩ := h
  · rcases gst_at hi h with ⟨_, z⟩ | z
    · cases z
    · exact ⟨⟨d, .inl z.1⟩, z.2⟩
  · rcases gst_at hi h with ⟨_, z⟩ | z
    · cases z
    · exact ⟨⟨d, .inr z.1⟩, z.2⟩
theorem gst_dpa {G0 H0 : Hp} {b : Addr} (hi : ρ[i]? = some none) (h : dpa H (σ.set i (some (.ref a))) (ρ.set i (some (.gh a G0 H0))) b) : dpa H σ ρ b := by
  obtain ⟨j, t, v, e1, e2, m⟩ := h
  rcases gst_at hi e1 with ⟨_, z⟩ | ⟨z, n⟩
  · cases z
  · rw [List.getElem?_set_ne n] at e2
    exact ⟨j, t, v, z, e2, m⟩
theorem gst_ads {G0 H0 : Hp} {b : Addr} (hi : ρ[i]? = some none) (h : ads H (σ.set i (some (.ref a))) (ρ.set i (some (.gh a G0 H0))) b) : ads H σ ρ b := by
  rcases h with ⟨j, m, e⟩ | h
  · obtain ⟨m', n⟩ := gst_mut hi m
    rw [List.getElem?_set_ne n] at e
    exact .inl ⟨j, m', e⟩
  · exact .inr (gst_dpa hi h)
theorem rel_gst (r : Rel K G H σ ρ) (hi : ρ[i]? = some none) : Rel K G H (σ.set i (some (.ref a))) (ρ.set i (some (.gh a G H))) := by
  have hl : i < σ.length := by rw [← r.len]; exact (List.getElem?_eq_some_iff.mp hi).1
  refine ⟨by simp [r.len], r.sub, fun j s e => ?_, fun j k b m1 m2 e1 e2 => ?_, ⟨fun j k t u v w b e1 e2 e3 e4 m1 m2 => ?_, fun b j h m e => ?_⟩, r.tt⟩
  · rcases gst_at hi e with ⟨rfl, rfl⟩ | ⟨e', n⟩
    · exact ⟨by rw [List.getElem?_set_self hl], Same.refl _, Fut.refl _⟩
    · rw [List.getElem?_set_ne n]
      exact r.sl j s e'
  · obtain ⟨m1', n1⟩ := gst_mut hi m1
    obtain ⟨m2', n2⟩ := gst_mut hi m2
    rw [List.getElem?_set_ne n1] at e1
    rw [List.getElem?_set_ne n2] at e2
    exact r.dis j k b m1' m2' e1 e2
  · rcases gst_at hi e1 with ⟨_, z⟩ | ⟨e1', n1⟩
    · cases z
    rcases gst_at hi e3 with ⟨_, z⟩ | ⟨e3', n3⟩
    · cases z
    rw [List.getElem?_set_ne n1] at e2
    rw [List.getElem?_set_ne n3] at e4
    exact r.dp.dd j k t u v w b e1' e2 e3' e4 m1 m2
  · obtain ⟨m', n⟩ := gst_mut hi m
    rw [List.getElem?_set_ne n] at e
    exact r.dp.ds b j (gst_dpa hi h) m' e
/-- the way through a suite -/
theorem outS_suite (ox : OutX K G H σ ρ G' H' σ' ρ1) (hk : ioKeep ρ ρ1 = true) (hi : ρ1[i]? = some none) (o : OutS K G' H' (σ'.set i (some (.ref a))) (ρ1.set i (some (.gh a G' H'))) G2 H2 σ2 ρ2) :
    OutS K G H σ ρ G2 H2 (σ2.set i none) (ρ2.set i none) := by
  have back : ∀ b, H b ≠ none → ads H' (σ'.set i (some (.ref a))) (ρ1.set i (some (.gh a G' H'))) b → ads H σ ρ b := fun b hb z => ox.nw b (gst_ads hi z) hb
  refine ⟨rel_clr o.rel, ox.stp.trans o.stp back, fun b h z => back b z (o.nw b (clr_ads h) fun q => z (ox.stp.thr b q)), fun j hj => ?_⟩
  have h1 := ioKeep_ok hk hj
  have hne : i ≠ j := fun z => by
    obtain ⟨d, e⟩ := h1
    rw [← z, hi] at e; cases e
  have h2 : isIo (ρ1.set i (some (.gh a G' H'))) j := by
    obtain ⟨d, e⟩ := h1
    exact ⟨d, by rw [List.getElem?_set_ne hne]; exact e⟩
  obtain ⟨⟨d, e3⟩, e4⟩ := o.io j h2
  refine ⟨⟨d, by rw [List.getElem?_set_ne hne]; exact e3⟩, ?_⟩
  rw [List.getElem?_set_ne hne, e4, List.getElem?_set_ne hne]
  exact ox.io j hj
end
section
variable {X : Cx} {E : WX} {body : List Stmt} {h₀ : ExceptHandler} {hds : List ExceptHandler} {l : List Clz} {pos : Pos} {b : SF}
/-- the clauses judged -/
inductive PHd (X : Cx) : List ExceptHandler → List Clz → Prop
  | nil : PHd X [] []
  | cons {x n : Str} {i : Nat} {c : Value} {h : HF} {b₀ : Stmt} {suite : List Stmt} {np pos' : Pos} {hds : List ExceptHandler} {l : List Clz} (hc : Names X x c) (hi : X.N[i]? = some n) (hln : X.env.kindOf n = some .local)
      (hsu : ∀ (a : Addr) (oe : Obj) (cls : Value) (d : Option Addr) (pn : List (Addr × Obj)) (x : Exc) (G0 H0 : Hp), Zc cls d oe → (∃ vs, oe.data = .fields vs) → ExR X.K G0 H0 x cls d → PSq (X.suite a ((a, oe) :: pn)) W0 (b₀ :: suite) (h a G0 H0 x)) (r : PHd X hds l) :
      PHd X (.ExceptHandler (some (.Name x np)) (some n) (b₀ :: suite) pos' :: hds) (⟨c, i, h⟩ :: l)
def clT (K : PySem.W.Frag) (q : Clz) : Cl := (q.1, q.2, fun a cls d D σ H => ∃ (x : Exc) (G0 H0 : Hp), ExR K G0 H0 x cls d ∧ tS K W0 (q.3 a G0 H0 x) D σ H)
theorem PHd.hd (h : PHd X hds l) : HdA X hds (l.map (clT X.K)) := by
  induction h with
  | nil => exact .nil
  | cons hc hi hln hsu r ih =>
    refine .cons hc hi hln (fun o ob k dd pq z f => ⟨fun pins s' σ H D I ⟨x, G0, H0, ex, t⟩ => ?_⟩) ih
    exact (hsu o ob k dd pq x G0 H0 z f ex).ps.run pins s' σ H D I t
theorem goneF_ok {i : Nat} {r : R (Fl × S)} {P : Fl × S → Prop} {Ex : Exc → Prop} (h : Wp (goneF i r) P Ex) : ∃ fl ρ, r = .ok (fl, ρ) ∧ P (fl, ρ.set i none) ∧ ∀ hd, fl = .rt hd → ∃ d, hd = .val d := by
  cases r with
  | no => exact h.elim
  | exc x => exact h.elim
  | ok z =>
    obtain ⟨fl, ρ⟩ := z
    cases fl with
    | nx => exact ⟨_, _, rfl, h, nofun⟩
    | bk => exact ⟨_, _, rfl, h, nofun⟩
    | ct => exact ⟨_, _, rfl, h, nofun⟩
    | rt hd =>
      cases hd with
      | val d => exact ⟨_, _, rfl, h, fun hd e => by cases e; exact ⟨d, rfl⟩⟩
      | _ => exact h.elim
theorem hand_snd {K : PySem.W.Frag} {G H : Hp} {σ : St} {ρ : S} {Dn : Ends} {x : Exc} (hw : Wp (sHand K ρ x l) (FlP K G H σ ρ Dn) (ExE K E G H σ ρ)) : ExE K (wCl K E Dn (l.map (clT K))) G H σ ρ x := by
  intro c d σ' G' H' ox ex
  induction l with
  | nil => exact (show ExE K E G H σ ρ x from hw) c d σ' G' H' ox ex
  | cons q r ih =>
    have ec : c = x.cls := ex.1
    unfold sHand at hw
    split at hw
    · rename_i e1
      refine ⟨true, by rw [ec]; exact e1, fun _ o ho => ?_, nofun⟩
      split at hw
      · rename_i hg
        obtain ⟨hk, hi, hall⟩ := hg
        rw [← hall o G' H'] at hw
        obtain ⟨fl, ρ2, e2, hP, hv⟩ := goneF_ok hw
        refine ⟨x, G', H', ex, G', x.st.set q.2 (some (.gh o G' H')), rel_gst ox.rel hi, ?_⟩
        rw [e2]
        cases fl with
        | nx => exact fun σ2 G2 H2 o2 => hP _ G2 H2 (outS_suite ox hk hi o2)
        | bk => exact fun σ2 G2 H2 o2 => hP _ G2 H2 (outS_suite ox hk hi o2)
        | ct => exact fun σ2 G2 H2 o2 => hP _ G2 H2 (outS_suite ox hk hi o2)
        | rt hd =>
          obtain ⟨dv, rfl⟩ := hv hd rfl
          exact fun v σ2 G2 H2 o2 hh => hP v _ G2 H2 (outS_suite ox hk hi o2) hh
      · exact hw.elim
    · rename_i e1
      exact ⟨false, by rw [ec]; exact e1, nofun, fun _ => ih hw⟩
    · exact hw.elim
theorem st_try (hs : X.stack = X.env :: X.outer) (hf : X.env.frame = some X.env.locals) (hN : X.N.Nodup) (tk : Takes X E)
    (hb : ∀ (W : WX) (pn : List (Addr × Obj)) (xe : Value → Shared → Prop), Takes (X.tr pn xe) W → PassesOwn (model X.prog X.w) X.A X.env xe → PSq (X.tr pn xe) W body b)
    (hh : PHd X (h₀ :: hds) l) : PSt X E (.Try body (h₀ :: hds) [] [] pos) (sTry X.K b l) := by
  refine ⟨_, ps_tryAs (tb := fun W => tS X.K W b) hs hf hN tk (fun W pq xe t1 t2 => (hb W pq xe t1 t2).ps) hh.hd, fun G H σ ρ r Dn hw => ⟨G, ρ, r, ?_⟩⟩
  unfold sTry at hw
  cases e : b ρ with
  | no => rw [e] at hw; exact hw
  | ok z => rw [e] at hw; exact hw
  | exc x => rw [e] at hw; exact hand_snd hw
end
end BR
set_option Elab.async false
set_option linter.all false
set_option maxRecDepth 100000
set_option maxHeartbeats 4000000
namespace BR
open PySem PySem.Spec PyProof.Rows L2
/-! ## within an except suite: e.f, isinstance(e, C) -/
open Classical in
@[simp] noncomputable def eXf (i : Nat) (a : Addr) (G0 H0 : Hp) (x : Exc) (C : Addr) (f : Str) : EF := fun ρ => if x.cls = .ref C ∧ ρ[i]? = some (some (.gh a G0 H0)) then ofO (fldD x.ns x.xs f) >>= fun d => .ok (.val d, ρ) else .no
/-- the dict of the exception, now -/
theorem exr_now {K : PySem.W.Frag} {G0 H0 G H : Hp} {x : Exc} {cls : Value} {d : Option Addr} (ex : ExR K G0 H0 x cls d) (sg : Same G0 G) (sf : Fut H0 H) {f : Str} {y : D} (e : fldD x.ns x.xs f = some y) :
    ∃ (dd : Addr) (fs : List (Str × V)) (v : V), d = some dd ∧ H dd = some (.xd fs) ∧ fs.lookup f = some v ∧ Rep K G y v := by
  rcases ex.2 with ⟨dx, fs, e1, e2, e3, e4⟩ | ⟨e1, e2⟩
  · rw [← e3] at e
    obtain ⟨v, l, rp⟩ := fldD_rep (RepL.mono sg _ e4) e
    exact ⟨dx, fs, v, e1, sf.at_ dx _ e2 (.inr (.inr ⟨fs, rfl⟩)) nofun, l, rp⟩
  · rw [e1, e2] at e; cases e
section
variable {X : Cx} {a : Addr} {oe : Obj} {cls : Value} {d : Option Addr} {pn : List (Addr × Obj)} {x : Exc} {G0 H0 : Hp} {i : Nat} {n f : Str} {C : Addr} {p pos : Pos} {E : WX}
theorem pr_xf (hz : Zc cls d oe) (hf : ∃ vs, oe.data = .fields vs) (ex : ExR X.K G0 H0 x cls d) (T : XfC X.K C) (hno : PySem.W.findIn X.K (.ref C) f = some none) (hN : X.N[i]? = some n) (hv : Vis X.env.scope n) (hd : (n == ("__debug__" : Str)) = false := by decide) (hcd : (n == ("__classdict__" : Str)) = false := by decide)
    (hb : attributeBase (.Name n p) f X.env (eval (.Name n p) X.env) = eval (.Name n p) X.env := by rfl) : PR (X.suite a ((a, oe) :: pn)) E (.Attribute (.Name n p) f pos) (eXf i a G0 H0 x C f) := by
  refine ⟨_, pe_xf T hno hz hf (pe_var (X := X.suite a ((a, oe) :: pn)) (i := i) hN hv hd hcd) hb, fun G H σ ρ r Q hw => ?_⟩
  unfold eXf at hw
  split at hw
  · rename_i hc
    obtain ⟨hcls, hsl⟩ := hc
    obtain ⟨s1, s2, s3⟩ := r.sl i _ hsl
    obtain ⟨y, ey, q⟩ := hw.opt
    obtain ⟨dd, fs, v, e1, e2, e3, e4⟩ := exr_now ex s2 s3 ey
    exact ⟨.ref a, s1, rfl, ex.1.trans hcls, dd, fs, v, e1, e2, e3, q v G H (.refl r) e4⟩
  · exact hw.elim
/-- isinstance(e, c), isinstance(e, (c1, c2, ..)) -/
structure XiC (K : PySem.W.Frag) (C : Addr) : Prop where
  cl : (PySem.W.clsIn K C).isSome = true
  ga : PySem.W.findIn K (.ref C) "__getattribute__" = some (some (.builtin "BaseException.__getattribute__"))
  gg : PySem.W.findIn K (.ref C) "__getattr__" = some none
  sb : PySem.W.subIn K (.ref C) (.type "BaseException") = some true
  ca : PySem.W.findIn K (.ref C) "__class__" = some (some (.builtin "object.__class__"))
  gn : PySem.W.specialIn K (.builtin "object.__class__") "__get__" = some (some (.builtin "getset_descriptor.__get__"))
  tk : PySem.W.takesIn K (.builtin "object.__class__") = some true
  mo : PySem.W.mroIn K C (.type "object") = some true
def rIsX (K : PySem.W.Frag) (C a : Addr) (d : Option Addr) : List V → Hp → VK → Prop := fun xs H Q => ∃ (c : V) (dd : Addr) (fs : List (Str × V)) (us : List Value) (b : Bool), xs = [.ref a, c] ∧ d = some dd ∧ H dd = some (.xd fs) ∧ PySem.W.kitAny K (.ref C) us = some b ∧
  ((∃ u, us = [u] ∧ ClsV c u) ∨ ∃ tp cs, c = .ref tp ∧ SqT K H tp cs ∧ Paired ClsV cs us) ∧ Q (.bl b) H
theorem call_isX (T : XiC X.K C) (hz : Zc (.ref C) d oe) (hf : ∃ vs, oe.data = .fields vs) : CallR (X.suite a ((a, oe) :: pn)) (.builtin "isinstance") (rIsX X.K C a d) := by
  intro pins s σ H xs us Q I r h
  obtain ⟨c, dd, fs, ws, b, rfl, ed, ea, e, hc, q⟩ := h
  subst ed
  obtain ⟨u1, u2, rfl, r1, r2⟩ := vals2 r
  obtain rfl : u1 = Value.ref a := r1
  obtain ⟨hget, _⟩ := I.pin (a, oe) (List.mem_append_left _ List.mem_cons_self)
  obtain ⟨vs, hv⟩ := hf
  have hx : ObjOk X.prog X.w H s.heap dd (.xd fs) := I.hok dd _ ea
  obtain ⟨mA, hns, _⟩ := hx
  obtain ⟨od, ho, _⟩ := lookIn_ns hns
  have J : PySem.W.InstAt s.heap a oe C (some od) := ⟨hget, hz.1, by unfold PySem.W.notCls; rw [hv] <;> rfl, by rw [hz.2]; exact ho⟩
  have Z := PySem.W.kitx_exc (x := a) (ox := oe) (od := some od) T.cl T.ga T.gg T.sb T.ca T.gn T.tk T.mo
  rcases hc with ⟨u, rfl, k⟩ | ⟨tp, cs, rfl, hT, k⟩
  · have e2 := k.eq r2
    subst e2
    exact PySem.W.kia_one Z I.kIn J (kitAny1 e) nofun fun tk => ⟨.bl b, H, I.tok tk, rfl, q⟩
  · obtain rfl : u2 = Value.ref tp := r2
    obtain ⟨its, rv, ⟨o, h1, h2, m, h3⟩, _⟩ := I.tuple hT
    have e3 := ClsV.all k rv
    subst e3
    obtain ⟨oc, ol, dt, sl⟩ := o
    simp only at h2 h3
    subst h2 h3
    exact PySem.W.kia_tup Z I.kIn J h1 e nofun fun tk => ⟨.bl b, H, I.tok tk, rfl, q⟩
open Classical in
@[simp] noncomputable def eXis (K : PySem.W.Frag) (i : Nat) (a : Addr) (G0 H0 : Hp) (x : Exc) (C : Addr) (us : List Value) (fb : EF) : EF := fun ρ => if x.cls = .ref C ∧ ρ[i]? = some (some (.gh a G0 H0)) ∧ x.ns ≠ [] then eV fb ρ >>= fun z => ofO (guard (match z.1 with | .tup ds => clsDs us ds | d => clsDs us [d])) >>= fun _ => ofO (PySem.W.kitAny K (.ref C) us) >>= fun b => .ok (.val (.bl b), z.2) else .no
theorem pr_isX {us : List Value} {e2 : Expr} {fb : EF} {pf : Pos} (hz : Zc cls d oe) (hf : ∃ vs, oe.data = .fields vs) (ex : ExR X.K G0 H0 x cls d) (T : XiC X.K C) (hgl : Gl X "isinstance") (hm : X.mg "isinstance" = none) (hN : X.N[i]? = some n) (hv : Vis X.env.scope n) (pb : PR (X.suite a ((a, oe) :: pn)) E e2 fb) (hd : (n == ("__debug__" : Str)) = false := by decide) (hcd : (n == ("__classdict__" : Str)) = false := by decide)
    (h1 : starEach [Expr.Name n p, e2] X.env = (false, eval (.Name n p) X.env) :: starEach [e2] X.env := by rfl) (h2 : starEach [e2] X.env = (false, eval e2 X.env) :: starEach [] X.env := by rfl) (hpl : (backTo pos (starEach [e2] X.env)).any (·.1) = false := by rfl) :
    PR (X.suite a ((a, oe) :: pn)) E (.Call (.Name "isinstance" pf) [.Name n p, e2] [] pos) (eXis X.K i a G0 H0 x C us fb) := by
  by_cases hcls : x.cls = .ref C
  rotate_left
  · obtain ⟨tb, pe2, s⟩ := pb.v.ex
    have hz2 : Zc cls d oe := hz
    refine ⟨fun _ _ _ => False, ⟨fun pins s σ H Q I h => h.elim⟩, fun G H σ ρ r Q hw => ?_⟩
    unfold eXis at hw
    rw [if_neg (fun z => hcls z.1)] at hw
    exact hw
  · have ec : cls = .ref C := ex.1.trans hcls
    subst ec
    obtain ⟨tb, pe2, s⟩ := pb.v.ex
    refine ⟨_, pe_callB (X := X.suite a ((a, oe) :: pn)) (call_isX T hz hf) hgl hm (by decide +kernel) (pa_cons (pe_var (X := X.suite a ((a, oe) :: pn)) (i := i) hN hv hd hcd) (pa_cons pe2 pa_nil h2) h1) (by decide) (by decide) h1 hpl, fun G H σ ρ r Q hw => ?_⟩
    unfold eXis at hw
    split at hw
    · rename_i hc
      obtain ⟨_, hsl, hns⟩ := hc
      obtain ⟨s1, s2, s3⟩ := r.sl i _ hsl
      refine ⟨.ref a, s1, s G H σ ρ r _ (hw.bind.mono (fun z _ q v G1 H1 o1 rv => ?_) fun _ _ q => q)⟩
      obtain ⟨_, hg, q1⟩ := q.opt
      obtain ⟨b, hk, q2⟩ := q1.opt
      have hg := guard_eq hg
      obtain ⟨_, s2', s3'⟩ : SlR X.K G1 H1 σ[i]? (.gh a G0 H0) := ⟨s1, s2.trans o1.stp.gg, s3.trans o1.stp.tb⟩
      rcases ex.2 with ⟨dx, fs, f1, f2, f3, f4⟩ | ⟨f1, _⟩
      · refine ⟨v, dx, fs, us, b, rfl, f1, s3'.at_ dx _ f2 (.inr (.inr ⟨fs, rfl⟩)) nofun, hk, ?_, q2 _ G1 H1 o1 (Hold.val rep_bl)⟩
        have one : ∀ d0, z.1 = d0 → clsDs us [d0] = true → ∃ u, us = [u] ∧ ClsV v u := fun d0 e0 hd0 => by
          have k := clsDs_rep hd0 (RepL.cons (e0 ▸ rv) .nil)
          cases k with
          | cons k1 k2 => cases k2; exact ⟨_, rfl, k1⟩
        cases hz1 : z.1 with
        | tup ds =>
          rw [hz1] at hg rv
          obtain ⟨tp, cs, rfl, g1, g2⟩ := (show RepP X.K G1 H1 (.tup ds) v from .inl rv).tup o1.rel.sub
          exact .inr ⟨tp, cs, rfl, g1, clsDs_rep hg g2⟩
        | _ => rw [hz1] at hg; exact .inl (one _ hz1 hg)
      · exact absurd f1 hns
    · exact hw.elim
end
end BR
set_option Elab.async false
set_option linter.all false
set_option maxRecDepth 100000
set_option maxHeartbeats 4000000
namespace BR
open PySem PySem.Spec PyProof.Rows L2
open LamX (Tabs ExtN CodeO LamS TabB lamCx lamEnv lam_start2 lam_make2 run_ofS)
/-! ## a lambda without parameters, called by the def that got it -/
section
variable {X : Cx} {pins : List (Addr × Obj)} {σ : L2.St} {H : Hp} {s : Shared}
/-- x() there; the exceptions go to what the place wishes -/
theorem pe_thk {CXg : CXT} {Eg : XK} {Ng : List Str} {qg : Str} {sg : Scope} {g f c' : Addr} {cdg pm ctv : Value} {params : Arguments} {body : Expr} {scope : Scope} {k i : Nat} {a : Str} {pn : List (Addr × Obj)} {xe : Value → Shared → Prop} {W : WX} {tb : XK → TE} {p1 p2 : Pos}
    (I : Inv X pins σ H s) (L : LamS X.env.scope scope) (hob : s.heap.get? f = some (PySem.W.kla_obj "<lambda>" (X.env.qual ++ "<lambda>") params body scope (cloFrom X.env.cells scope.names []) pm c' ctv)) (hfn : H f = none) (hfr : f ∉ frs X.stack)
    (hbind : bindArgs (PySem.W.kla_fn "<lambda>" (X.env.qual ++ "<lambda>") params body scope (cloFrom X.env.cells scope.names []) pm (.ref c') ctv) ⟨[], []⟩ = pure [])
    (tk : Takes ((cxOf CXg X.prog X.w X.K X.mg X.base Ng qg sg g cdg X.A X.stack s H Eg).tr pn xe) W) (hr : RmG (k + 1) (X.A.deeper (envOfC qg sg s.heap.objs.size g cdg)))
    (hbody : ∀ (E : XK) (A : Around) (outer : List Env) (s : Shared) (H : Hp), RmG k (A.deeper (lamEnv X scope s.heap.objs.size f c')) → PE (lamCx X A outer s H E scope f c') body (tb E))
    (hN : Ng[i]? = some a) (hv : Vis sg a) (hd : (a == ("__debug__" : Str)) = false) (hcd : (a == ("__classdict__" : Str)) = false) :
    PE ((cxOf CXg X.prog X.w X.K X.mg X.base Ng qg sg g cdg X.A X.stack s H Eg).tr pn xe) (.Call (.Name a p1) [] [] p2)
      (fun τ Hz Q => τ[i]? = some (some (.ref f)) ∧ Hz c' = some (CodeO c' (X.env.qual ++ "<lambda>")) ∧ tb (WE W τ) σ Hz Q) := by
  constructor
  intro pz sz τ Hz Q Iz
  rintro ⟨hsl, hco, hq⟩
  apply wpAny_Call_Name_kw
  refine thn ((pe_var (pos := p1) (i := i) hN hv hd hcd).run pz sz τ Hz (fun v H1 => v = .ref f ∧ H1 = Hz) Iz ⟨.ref f, hsl, rfl, rfl⟩) ?_
  rintro u s1 ⟨v, H1, I1, r1, rfl, rfl⟩
  obtain rfl : u = Value.ref f := r1
  have at1 : s1.heap.get? f = some (PySem.W.kla_obj "<lambda>" (X.env.qual ++ "<lambda>") params body scope (cloFrom X.env.cells scope.names []) pm c' ctv) := I1.base.keep f _ hob hfn hfr (fun z => nomatch (show f ∈ ([] : List Addr) from z))
  apply PySem.W.callWith_F0 ⟨_, _, _, _, at1⟩
  have un1 : Un (frs X.stack) [] H H1 s.heap s1.heap := I1.base
  obtain ⟨⟨oc, vs, t, c1, c2, c3⟩, _, _⟩ := I1.hok c' _ hco
  have ran : codeAny (model X.prog X.w) (X.A.deeper (envOfC qg sg s.heap.objs.size g cdg)) (.call (.ref f) ⟨[], []⟩) (CR (L2.CX X.prog X.w) (envOfC qg sg s.heap.objs.size g cdg :: X.stack) X.prog X.w H1 s1 Q (WE W τ)) s1 := by
    refine PySem.W.kla_callFunE hr.rm.depth at1 rfl L.co L.gen rfl ⟨c', oc, vs, t, rfl, c1, c2, c3⟩ ?_
    rw [hbind]
    refine wpAny_pure (wpAny_newFunctionEnv (fun y hy => (L.own y hy).2) (fun y hy => absurd hy (by simp)) (fun h₁ hns hsb => ⟨I1.nolimit.fresh _ hsb, ?_⟩) L.kind)
    have kept : ∀ b o, s1.heap.get? b = some o → h₁.get? b = some o := fun b o e => hsb.extBut b o (Nat.ne_of_lt (Heap.lt_size e)) (Heap.get?_push_of_some _ e)
    have J : Inv (lamCx X (X.A.deeper (envOfC qg sg s.heap.objs.size g cdg)) (envOfC qg sg s.heap.objs.size g cdg :: X.stack) s1 H1 (WE W τ) scope f c') [] σ H1 { s1 with heap := h₁, toks := s1.toks + ([] : List (Str × Value)).length } := lam_start2 I L I1.env0 hr.rm.hd un1 hns kept
    have hp := hbody (WE W τ) (X.A.deeper (envOfC qg sg s.heap.objs.size g cdg)) (envOfC qg sg s.heap.objs.size g cdg :: X.stack) s1 H1 (hr.deeper _)
    refine PySem.W.kla_codeExpr (wpAny_mono (hp.run [] _ _ H1 Q J hq) ?_ fun e s' z => z)
    rintro v s' ⟨w', H', J', rv, q⟩
    exact ⟨w', H', J'.os, J'.bare, J'.base, J'.hok, rv, q⟩
  refine wpAny_call (codeAny_mono ran fun r s' hr' => ?_)
  match r, hr' with
  | .error e, hr' => exact passAt tk τ pz H1 s1 e s' I1 hr'
  | .ok (.ret u), hr' => exact I1.after hr'
/-- what the def makes of it -/
def Gives (X : Cx) (Ng : List Str) (x : Str) (sg : Scope) (g : Addr) (cdg : Value) (bg : List Stmt) (a q : Str) (TT : (XK → Hp → VK → Prop) → Hp → VK → Prop) : Prop :=
  ∀ (f c' : Addr) (s : Shared) (H : Hp) (Q : VK) (tl : XK → Hp → VK → Prop),
    (∀ (W : WX) (pn : List (Addr × Obj)) (xe : Value → Shared → Prop) (p1 p2 : Pos), Takes ((cxOf C8.CX0 X.prog X.w X.K X.mg X.base Ng x sg g cdg X.A X.stack s H C8.E0).tr pn xe) W →
      PE ((cxOf C8.CX0 X.prog X.w X.K X.mg X.base Ng x sg g cdg X.A X.stack s H C8.E0).tr pn xe) (.Call (.Name a p1) [] [] p2) (fun τ Hz Q => τ[0]? = some (some (.ref f)) ∧ Hz c' = some (CodeO c' q) ∧ tl (WE W τ) Hz Q)) →
    H c' = some (CodeO c' q) → TT tl H Q → RmG 1 (X.A.deeper (envOfC x sg s.heap.objs.size g cdg)) →
    ∃ t, PSs (cxOf C8.CX0 X.prog X.w X.K X.mg X.base Ng x sg g cdg X.A X.stack s H C8.E0).nox bg t ∧ t { nx := fun _ H' => Q .non H', rt := Q } (L2.start Ng [.ref f]) H
end
end BR
set_option Elab.async false
set_option linter.all false
set_option maxRecDepth 100000
set_option maxHeartbeats 4000000
namespace BR
open PySem L2
open LamX (Tabs ExtN CodeO LamS TabB lamCx lamEnv)
/-! ## told(lambda: e) as a function -/
/-- nothing but shared slots -/
@[simp] def shS : Option Sl → Option Sl
  | some (.sh d) => some (.sh d)
  | _ => none
@[simp] def shO (ρ : S) : S := ρ.map shS
/-- what the lambda's body gives -/
@[simp] def thk (fb : EF) (ρ : S) : R D := eV fb (shO ρ) >>= fun z => .ok z.1
open Classical in
@[simp] noncomputable def eThk (i : Nat) (f : Addr) (G0 H0 : Hp) (r : R D) : EF := fun ρ => if ρ[i]? = some (some (.gh f G0 H0)) then (match r with
  | .ok d => .ok (.val d, ρ)
  | .exc x => .exc { x with st := ρ }
  | .no => .no) else .no
abbrev nh : Hp := fun _ => none
@[simp] def st0 (n : Nat) (f : Addr) (G0 H0 : Hp) : S := some (.gh f G0 H0) :: List.replicate (n - 1) none
@[simp] def run1 (b : SF) (ρ : S) : R D := b ρ >>= fun z => ofO (flH z.1) >>= fun h => ofO (share h z.2) >>= fun y => .ok y.1
/-- the told def, by its body: whatever place the lambda has -/
abbrev TB0 := Addr → Hp → Hp → R D → SF
open Classical in
noncomputable def runT (n : Nat) (b : TB0) (r : R D) : R D := if ∀ f G0 H0, run1 (b f G0 H0 r) (st0 n f G0 H0) = run1 (b 0 nh nh r) (st0 n 0 nh nh) then run1 (b 0 nh nh r) (st0 n 0 nh nh) else .no
noncomputable def eLam (n : Nat) (b : TB0) (fb : EF) : EF := fun ρ => noX (runT n b (thk fb ρ)) >>= fun d => .ok (.val d, ρ)
section
variable {K : PySem.W.Frag} {G H G' H' G0 H0 G2 H2 : Hp} {σ : St} {ρ : S}
theorem out_of_stp (r : Rel K G H σ ρ) (st : Stp (fun _ => False) G H G' H') (sb : SubT K G' H') : Out K G H σ ρ G' H' ρ := by
  have hA : ∀ b, dpa H σ ρ b → ¬ (fun _ => False : Addr → Prop) b := fun b _ z => z
  have rl : Rel K G' H' σ ρ := r.after st sb rfl hA fun i s e => .inl ⟨e, fun _ _ _ z => z⟩
  have nN := r.afterN st hA Ker.refl.lse
  exact ⟨rl, st.mono fun c _ z => z.elim, .refl, fun a h _ => nN a h, fun b h => by
    cases e : H b with
    | none => exact absurd e (r.dpaH h).1
    | some u => exact st.keep b u e (fun z => z) (r.dpaNT h e), r⟩
theorem shO_at {i : Nat} {s : Sl} (e : (shO ρ)[i]? = some (some s)) : ∃ d, s = .sh d ∧ ρ[i]? = some (some (.sh d)) := by
  rw [shO, List.getElem?_map] at e
  cases q : ρ[i]? with
  | none => rw [q] at e; cases e
  | some x =>
    rw [q] at e
    have e2 : shS x = some s := Option.some.inj e
    cases x with
    | none => cases e2
    | some x =>
      cases x with
      | sh d => cases e2; exact ⟨d, rfl, rfl⟩
      | _ => cases e2
theorem shO_mut {i : Nat} : ¬ isMut (shO ρ) i := by
  rintro ⟨d, h | h⟩
  · obtain ⟨_, z, _⟩ := shO_at h; cases z
  · obtain ⟨_, z, _⟩ := shO_at h; cases z
theorem shO_ads {H : Hp} {a : Addr} : ¬ ads H σ (shO ρ) a := by
  rintro (⟨i, m, _⟩ | ⟨i, t, v, e, _⟩)
  · exact shO_mut m
  · obtain ⟨_, z, _⟩ := shO_at e; cases z
theorem rel_shO (r : Rel K G H σ ρ) (sg : Same G G2) (sb : SubT K G2 H2) : Rel K G2 H2 σ (shO ρ) where
  len := by rw [shO, List.length_map]; exact r.len
  sub := sb.1
  sl := fun i s e => by
    obtain ⟨d, rfl, e2⟩ := shO_at e
    obtain ⟨v, e3, h⟩ := r.sl i _ e2
    exact ⟨v, e3, Rep.mono sg _ h⟩
  dis := fun i j a m => absurd m shO_mut
  dp := ⟨fun i j t u v w a e => (by obtain ⟨_, z, _⟩ := shO_at e; cases z), fun a i h => absurd (.inr h) (shO_ads (σ := σ) (ρ := ρ) (H := H2))⟩
  tt := sb.2
/-- an Out of shared slots changes nothing -/
theorem out_shO {ρ' : S} (o : Out K G H σ (shO ρ) G' H' ρ') : Stp (fun _ => False) G H G' H' := o.stp.mono fun c _ z => (shO_ads z).elim
/-- what is known of the lambda from G0, H0 on -/
def ThkOk (K : PySem.W.Frag) (G0 H0 : Hp) (r : R D) (tl : XK → Hp → VK → Prop) : Prop := ∀ (E : XK) (G H : Hp), Same G0 G → SubT K G H → Fut H0 H → ∀ Q : VK,
  Wp r (fun d => ∀ v G' H', SubT K G' H' → Stp (fun _ => False) G H G' H' → Rep K G' d v → Q v H') (fun x => ∀ c d G' H', SubT K G' H' → Stp (fun _ => False) G H G' H' → ExR K G' H' x c d → E c d H') → tl E H Q
def TTt (K : PySem.W.Frag) (n : Nat) (b : TB0) : (XK → Hp → VK → Prop) → Hp → VK → Prop := fun tl H Q => ∃ (G : Hp) (r : R D), SubT K G H ∧ ThkOk K G H r tl ∧
  Wp (runT n b r) (fun d => ∀ v G' H', SubT K G' H' → Stp (fun _ => False) G H G' H' → Rep K G' d v → Q v H') (fun _ => False)
theorem st0_at {n : Nat} {f : Addr} {i : Nat} {s : Sl} (e : (st0 n f G0 H0)[i]? = some (some s)) : i = 0 ∧ s = .gh f G0 H0 := by
  cases i with
  | zero => cases e; exact ⟨rfl, rfl⟩
  | succ i =>
    rw [st0, List.getElem?_cons_succ, List.getElem?_replicate] at e
    split at e <;> cases e
theorem st0_mut {n : Nat} {f : Addr} {i : Nat} : ¬ isMut (st0 n f G0 H0) i := by
  rintro ⟨d, h | h⟩
  · cases (st0_at h).2
  · cases (st0_at h).2
theorem st0_ads {n : Nat} {f : Addr} {H : Hp} {a : Addr} : ¬ ads H σ (st0 n f G0 H0) a := by
  rintro (⟨i, m, _⟩ | ⟨i, t, v, e, _⟩)
  · exact st0_mut m
  · cases (st0_at e).2
theorem rel_st0 {N : List Str} {f : Addr} (hn : 0 < N.length) (sb : SubT K G H) : Rel K G H (L2.start N [.ref f]) (st0 N.length f G H) where
  len := by
    unfold L2.start
    simp
  sub := sb.1
  sl := fun i s e => by
    obtain ⟨rfl, rfl⟩ := st0_at e
    exact ⟨rfl, Same.refl _, Fut.refl _⟩
  dis := fun i j a m => absurd m st0_mut
  dp := ⟨fun i j t u v w a e => (by cases (st0_at e).2), fun a i h => absurd (.inr h) (st0_ads (σ := L2.start N [.ref f]) (G0 := G) (H0 := H) (n := N.length) (f := f) (H := H))⟩
  tt := sb.2
end
section
variable {Z : Cx} {W : WX} {a q : Str} {p1 p2 : Pos} {f c' : Addr} {tl : XK → Hp → VK → Prop} {G0 H0 : Hp} {r : R D} {i : Nat}
theorem pr_thk (hp : PE Z (.Call (.Name a p1) [] [] p2) (fun τ Hz Q => τ[i]? = some (some (.ref f)) ∧ Hz c' = some (CodeO c' q) ∧ tl (WE W τ) Hz Q)) (hc : H0 c' = some (CodeO c' q)) (hk : ThkOk Z.K G0 H0 r tl) : PR Z W (.Call (.Name a p1) [] [] p2) (eThk i f G0 H0 r) := by
  refine ⟨_, hp, fun G H σ ρ rl Q hw => ?_⟩
  unfold eThk at hw
  split at hw
  · rename_i hs
    obtain ⟨s1, s2, s3⟩ := rl.sl i _ hs
    refine ⟨s1, s3.at_ c' _ hc (.inr (.inl ⟨_, _, rfl⟩)) (fun ps z => by unfold CodeO at z; cases z), hk _ G H s2 rl.subT s3 Q ?_⟩
    cases r with
    | ok d => exact fun v G' H' sb st rp => (show ∀ v G' H', Out Z.K G H σ ρ G' H' ρ → Hold Z.K H G' H' σ ρ (.val d) v → Q v H' from hw) v G' H' (out_of_stp rl st sb) rp
    | exc x =>
      intro c d G' H' sb st ex
      have o := out_of_stp rl st sb
      exact (show ExE Z.K W G H σ ρ { x with st := ρ } from hw) c d σ G' H' ⟨o.rel, o.stp, o.nw, fun _ _ => rfl⟩ ex
    | no => exact hw.elim
  · exact hw.elim
end
/-! ### the told def keeps its promise -/
section
variable {X : Cx} {Ng : List Str} {x a q : Str} {sg : Scope} {g : Addr} {cdg : Value} {bg : List Stmt} {b : TB0}
theorem gives_of (hn : 0 < Ng.length)
    (hbody : ∀ (A : Around) (outer : List Env) (s : Shared) (H : Hp) (f : Addr) (G0 H0 : Hp) (r : R D), RmG 1 (A.deeper (PyProof.Rows.envOfC x sg s.heap.objs.size g cdg)) →
      (∀ (W : WX) (pn : List (Addr × Obj)) (xe : Value → Shared → Prop) (p1 p2 : Pos), Takes ((cxOf C8.CX0 X.prog X.w X.K X.mg X.base Ng x sg g cdg A outer s H C8.E0).tr pn xe) W → PR ((cxOf C8.CX0 X.prog X.w X.K X.mg X.base Ng x sg g cdg A outer s H C8.E0).tr pn xe) W (.Call (.Name a p1) [] [] p2) (eThk 0 f G0 H0 r)) →
      PSq (cxOf C8.CX0 X.prog X.w X.K X.mg X.base Ng x sg g cdg A outer s H C8.E0).nox W0 bg (b f G0 H0 r)) :
    Gives X Ng x sg g cdg bg a q (TTt X.K Ng.length b) := by
  intro f c' s H Q tl act hco ⟨G, r, sb, hk, hw⟩ hr
  obtain ⟨t, ps, snd⟩ := (hbody X.A X.stack s H f G H r hr fun W pn xe p1 p2 tk => pr_thk (act W pn xe p1 p2 tk) hco hk).ex
  refine ⟨t, ps, snd G H (L2.start Ng [.ref f]) (st0 Ng.length f G H) (rel_st0 hn sb) _ ?_⟩
  unfold runT at hw
  split at hw
  rotate_left
  · exact hw.elim
  rename_i hall
  rw [← hall f G H] at hw
  unfold run1 at hw
  refine hw.bind.mono (fun z _ q => ?_) fun _ _ q => q.elim
  obtain ⟨hd, e1, q1⟩ := q.opt
  obtain ⟨y, e2, q2⟩ := q1.opt
  have stp : ∀ {σ' : St} {G' H' : Hp} {ρ' : S}, OutS X.K G H (L2.start Ng [.ref f]) (st0 Ng.length f G H) G' H' σ' ρ' → Stp (fun _ => False) G H G' H' := fun o => o.stp.mono fun c _ z => (st0_ads z).elim
  have out : ∀ {σ' : St} {G' H' : Hp} {v : V}, OutS X.K G H (L2.start Ng [.ref f]) (st0 Ng.length f G H) G' H' σ' z.2 → Hold X.K H G' H' σ' z.2 hd v → Q v H' := by
    intro σ' G' H' v oo hh
    obtain ⟨d, ρ2⟩ := y
    cases hd with
    | val d0 => cases e2; exact q2 v G' H' oo.rel.subT (stp oo) hh
    | tmp d0 =>
      cases e2
      obtain ⟨p, rfl, ⟨h1, u, h2, h3⟩, h4, h5⟩ := hh
      have hs : Same G' (upd G' p u) := same_new h1
      have og : OutS X.K G H (L2.start Ng [.ref f]) (st0 Ng.length f G H) (upd G' p u) H' σ' z.2 := ⟨oo.rel.grow h1 h2 h5, ⟨oo.stp.gg.trans hs, oo.stp.keep, oo.stp.thr, fun b qb n g => by rw [upd_ne fun z => qb (by rw [z]; exact h4)]; exact oo.stp.fr b qb n g, oo.stp.tb⟩, oo.nw, oo.io⟩
      exact q2 _ _ H' og.rel.subT (stp og) (Cont.rep upd_same (h3.mono hs))
    | tpd t =>
      cases e2
      obtain ⟨h1, h2, h3⟩ := hh
      have hs : Same G' (frzA G' H' (fp H' t v)) := frzA_same fun a m => (h1.in_ t a m).1
      have og : OutS X.K G H (L2.start Ng [.ref f]) (st0 Ng.length f G H) (frzA G' H' (fp H' t v)) H' σ' z.2 := ⟨oo.rel.growT h1 fun a m => (h3 a m).2, ⟨oo.stp.gg.trans hs, oo.stp.keep, oo.stp.thr, fun b qb n g => by rw [frzA_out fun z => qb (h3 b z).1]; exact oo.stp.fr b qb n g, oo.stp.tb⟩, oo.nw, oo.io⟩
      exact q2 _ _ H' og.rel.subT (stp og) (h1.rep hs t fun a m => frzA_in m)
    | sub i p => cases e2
    | slot i =>
      obtain ⟨G2, o2, _, rp⟩ := share_ok (hd := .slot i) (Out.refl oo.rel) hh e2
      have og := oo.trans o2.s
      exact q2 v G2 H' og.rel.subT (stp og) rp
  obtain ⟨fl, ρ'⟩ := z
  cases fl with
  | nx => cases e1; exact fun σ' G' H' oo => out oo (Hold.val rep_non)
  | rt h0 => cases e1; exact fun v σ' G' H' oo hh => out oo hh
  | bk => cases e1
  | ct => cases e1
end
/-! ### the maker -/
def tFV (K : PySem.W.Frag) (E : WX) (f : S → R (D × S)) : TE := fun σ H Q => ∃ G ρ, Rel K G H σ ρ ∧ Wp (f ρ) (fun z => ∀ v G' H', Out K G H σ ρ G' H' z.2 → Rep K G' z.1 v → Q v H') (ExE K E G H σ ρ)
theorem PV.pe {X : Cx} {E : WX} {e : Expr} {f : S → R (D × S)} (h : PV X E e f) : PE X e (tFV X.K E f) := by
  obtain ⟨t, pe, s⟩ := h.ex
  exact ⟨fun pins s' σ H Q I ⟨G, ρ, r, w⟩ => pe.run pins s' σ H Q I (s G H σ ρ r Q w)⟩
section
variable {K : PySem.W.Frag} {G H H1 : Hp}
/-- the step over a made lambda -/
theorem stp_ext (t : TbOk K H) (grown : ExtN H H1) (T1 : Tabs (tbT K) H1) (t2 : ∀ b ps, H1 b = some (.tbl ps) → ∃ qs, H b = some (.tbl qs)) : Stp (fun _ => False) G H G H1 where
  gg := Same.refl _
  keep := fun b o e _ nt => grown b o e nt
  thr := fun b e => by
    cases q : H b with
    | none => rfl
    | some o =>
      by_cases ht : ∃ ps, o = .tbl ps
      · obtain ⟨ps, rfl⟩ := ht
        obtain ⟨n, hn⟩ := t.2 b ps q
        obtain ⟨qs, h1, _⟩ := T1 (b, n) hn
        rw [e] at h1; cases h1
      · rw [grown b o q fun ps z => ht ⟨ps, z⟩] at e; cases e
  fr := fun _ _ _ h => h
  tb := ⟨t2, fun b o e _ nt => grown b o e nt⟩
theorem sub_ext (s : Sub G H) (t : TbOk K H) (grown : ExtN H H1) (T1 : Tabs (tbT K) H1) : Sub G H1 := fun b u e => by
  have tb : ∀ ps, H b = some (.tbl ps) → ∃ qs, H1 b = some (.tbl qs) := fun ps z => by
    obtain ⟨n, hn⟩ := t.2 b ps z
    obtain ⟨qs, h1, _⟩ := T1 (b, n) hn
    exact ⟨qs, h1⟩
  rcases s b u e with (z | ⟨kvs, od, e1, z⟩) | ⟨⟨ps, e1⟩, qs, z⟩
  · by_cases hu : ∃ ps, u = .tbl ps
    · obtain ⟨ps, rfl⟩ := hu
      exact .inr ⟨⟨ps, rfl⟩, tb ps z⟩
    · exact .inl (.inl (grown b u z fun ps q => hu ⟨ps, q⟩))
  · exact .inl (.inr ⟨kvs, od, e1, grown b _ z nofun⟩)
  · exact .inr ⟨⟨ps, e1⟩, tb qs z⟩
end
end BR
set_option Elab.async false
set_option linter.all false
set_option maxRecDepth 100000
set_option maxHeartbeats 4000000
namespace BR
open PySem PySem.Spec PyProof.Rows L2
open LamX (Tabs TabS ExtN CodeO LamS TabB lamCx lamEnv lam_start2 run_ofS inv_table among_app codeO_ne)
/-! ## a lambda is made: what the heap is behind it -/
/-- from H to H1: nothing, or a row more in the table at P and the code object at c' -/
def Made (H H1 : Hp) (P c' : Addr) (q : Str) : Prop := H1 = H ∨ ∃ ps more, H P = some (.tbl ps) ∧ H c' = none ∧ H1 = upd (upd H P (.tbl (ps ++ more))) c' (CodeO c' q)
section
variable {X : Cx} {pins : List (Addr × Obj)} {σ : L2.St} {H : Hp} {s : Shared}
theorem lam_make3 {T : List (Addr × Str)} {c P : Addr} {params : Arguments} {body : Expr} {scope : Scope} {pos : Pos} {E : Value → Shared → Prop} {Q : Value → Shared → Prop} (I : Inv X pins σ H s) (TB : TabB X.base X.mg c P) (hcode : X.env.code = .ref c)
    (hm : (P, X.env.qual ++ "<lambda>") ∈ T) (hu : ∀ p ∈ T, p.1 = P → p.2 = X.env.qual ++ "<lambda>") (hT : Tabs T H) (hdef : defaultsOf params X.env = ([], [])) (hfree : ∀ y ∈ scope.names, y.2 = .free → ∃ c, X.env.cells.lookup y.1 = some c)
    (h : ∀ (f c' : Addr) (pm ctv : Value) (H1 : Hp) (s' : Shared), Inv X pins σ H1 s' → Made H H1 P c' (X.env.qual ++ "<lambda>") → Tabs T H1 →
      s'.heap.get? f = some (PySem.W.kla_obj "<lambda>" (X.env.qual ++ "<lambda>") params body scope (cloFrom X.env.cells scope.names []) pm c' ctv) → H1 f = none → f ∉ frs X.stack → H1 c' = some (CodeO c' (X.env.qual ++ "<lambda>")) → Q (.ref f) s') :
    wpAny (model X.prog X.w) X.A (eval (.Lambda params body scope pos) X.env) Q E s := by
  obtain ⟨rows, atP, good, told⟩ := hT _ hm
  apply PySem.W.kla_eval hdef
  have bm : s.heap.BuiltinsAt X.mg P := TB.bm.keeps I.bk
  have getP : s.heap.get? P = some { cls := .none, data := .fields rows } := I.hok P _ atP
  have away : ∀ f, s.heap.objs.size ≤ f → f ∉ frs X.stack := by
    intro f hf z
    rcases List.mem_cons.mp (I.stkSub _ z) with e | e
    · have lt := I.lt
      rw [← e] at lt
      exact absurd hf (Nat.not_le.mpr lt)
    · exact I.nofs hf e
  match hc : codeAmong pos rows.toList with
  | some cv =>
    obtain ⟨c', rfl, isC⟩ := told pos cv hc
    refine PySem.W.kla_makeFunctionHit (mg := X.mg) (c := c) (P := P) (ps := rows) (closure_ok hfree) I.ok.glob (I.mod.glob.keeps I.bk) hcode (TB.code.keeps I.bk) getP good hc bm ?_
    intro ctv h' tk kept size
    exact h h'.objs.size c' _ ctv H _ (I.kept fun b o e => Heap.get?_push_of_some _ (kept b o e)) (.inl rfl) hT (Heap.get?_push_size _ rfl) (I.hok.fresh size) (away _ size) isC
  | none =>
    refine PySem.W.kla_makeFunction (mg := X.mg) (c := c) (P := P) (ps := rows) (closure_ok hfree) I.ok.glob (I.mod.glob.keeps I.bk) hcode (TB.code.keeps I.bk) getP good hc TB.gP bm ?_
    intro c' ctv h' tk kept ge lt rec tab
    obtain ⟨_, oc, vs, t, ec, c1, c2, c3⟩ := rec
    cases ec
    have size : s.heap.objs.size ≤ h'.objs.size := Nat.le_trans ge (Nat.le_of_lt lt)
    have fresh : H c' = none := I.hok.fresh ge
    have neP : P ≠ c' := ne_of_none atP fresh
    have J := inv_table (t' := tk) (more := #[rawInt pos.line, rawInt pos.col, .ref c']) (h' := h'.push (PySem.W.kla_obj "<lambda>" (X.env.qual ++ "<lambda>") params body scope (cloFrom X.env.cells scope.names []) ((X.mg "__name__").getD .none) c' ctv)) I atP
      (fun b o hb e => Heap.get?_push_of_some _ (kept b o hb e)) (Heap.get?_push_of_some _ tab) ge ⟨oc, vs, t, Heap.get?_push_of_some _ c1, c2, c3⟩
    have list : (rows ++ #[rawInt pos.line, rawInt pos.col, .ref c']).toList = rows.toList ++ [rawInt pos.line, rawInt pos.col, .ref c'] := by simp
    have codes : ∀ {d : Addr} {q : Str}, H d = some (CodeO d q) → upd (upd H P (.tbl (rows ++ #[rawInt pos.line, rawInt pos.col, .ref c']))) c' (CodeO c' (X.env.qual ++ "<lambda>")) d = some (CodeO d q) := by
      intro d q e
      rw [upd_ne (ne_of_none e fresh), upd_ne (fun z => codeO_ne rows (Option.some.inj (e.symm.trans (by rw [z]; exact atP))))]
      exact e
    refine h h'.objs.size c' _ ctv _ _ J (.inr ⟨rows, _, atP, fresh, rfl⟩) ?_ (Heap.get?_push_size _ rfl) ?_ (away _ size) upd_same
    · rintro ⟨b, n⟩ hp
      obtain ⟨ps', a1, a2, a3⟩ := hT _ hp
      by_cases hb : b = P
      · subst hb
        have hn : n = X.env.qual ++ "<lambda>" := hu _ hp rfl
        subst hn
        refine ⟨_, by rw [upd_ne neP, upd_same], by rw [list]; exact PySem.TriplesOk_snoc _ _ _ _ good, fun p' cv hcv => ?_⟩
        rw [list] at hcv
        rcases among_app _ good hcv with z | z
        · obtain ⟨c0, e1, e2⟩ := told p' cv z
          exact ⟨c0, e1, codes e2⟩
        · exact ⟨c', z, upd_same⟩
      · refine ⟨ps', by rw [upd_ne (ne_of_none a1 fresh), upd_ne hb]; exact a1, a2, fun p' cv hcv => ?_⟩
        obtain ⟨c0, e1, e2⟩ := a3 p' cv hcv
        exact ⟨c0, e1, codes e2⟩
    · rw [upd_ne (Nat.ne_of_gt lt), upd_ne (Nat.ne_of_gt (Nat.lt_of_lt_of_le (Heap.lt_size getP) size))]
      exact I.hok.fresh size
end
theorem made_ext {H H1 : Hp} {P c' : Addr} {q : Str} (m : Made H H1 P c' q) : ExtN H H1 ∧ ∀ b ps, H1 b = some (.tbl ps) → ∃ qs, H b = some (.tbl qs) := by
  rcases m with rfl | ⟨ps, more, a1, a2, rfl⟩
  · exact ⟨ExtN.refl _, fun b ps e => ⟨ps, e⟩⟩
  · refine ⟨fun b o e n => ?_, fun b qs e => ?_⟩
    · rw [upd_ne (ne_of_none e a2), upd_ne (fun z => n ps (Option.some.inj (e.symm.trans (by rw [z]; exact a1))))]
      exact e
    · by_cases h1 : b = c'
      · subst h1; rw [upd_same] at e; exact (codeO_ne qs (Option.some.inj e)).elim
      · rw [upd_ne h1] at e
        by_cases h2 : b = P
        · subst h2; exact ⟨ps, a1⟩
        · rw [upd_ne h2] at e; exact ⟨qs, e⟩
def tLamM (T : List (Addr × Str)) (TT : (XK → Hp → VK → Prop) → Hp → VK → Prop) (t : XK → TE) : TE := fun σ H Q => Tabs T H ∧ ∀ H1, ExtN H H1 → (∀ b ps, H1 b = some (.tbl ps) → ∃ qs, H b = some (.tbl qs)) → Tabs T H1 → TT (fun E H' Q' => t E σ H' Q') H1 Q
section
variable {X : Cx} {pins : List (Addr × Obj)} {σ : L2.St} {H : Hp} {s : Shared}
/-- x(lambda: body) -/
theorem pe_give2 {T : List (Addr × Str)} {TT : (XK → Hp → VK → Prop) → Hp → VK → Prop} {x a : Str} {g c P : Addr} {k : Nat} {pg : Arguments} {bg : List Stmt} {sg : Scope} {fdg : FuncData} {Ng : List Str}
    {params : Arguments} {body : Expr} {scope : Scope} {t : XK → TE} {p lpos pos : Pos} (hg : Gl X x) (hm : X.mg x = some (.ref g)) (F : FunD X.K x x pg bg sg [] [] g fdg) (hb : L2.Binds X.K fdg [a] []) (Sg : FnScope Ng [a] sg) (hNg : Ng[0]? = some a) (hva : Vis sg a)
    (hG : ∀ cdv, Gives X Ng x sg g cdv bg a (X.env.qual ++ "<lambda>") TT)
    (TB : TabB X.base X.mg c P) (hcode : X.env.code = .ref c) (hmT : (P, X.env.qual ++ "<lambda>") ∈ T) (hu : ∀ p ∈ T, p.1 = P → p.2 = X.env.qual ++ "<lambda>") (hr : RmG (k + 3) X.A) (L : LamS X.env.scope scope) (hdef : defaultsOf params X.env = ([], []))
    (hbind : ∀ (q : Str) (cl : List (Str × Addr)) (pm cv ctv : Value), bindArgs (PySem.W.kla_fn "<lambda>" q params body scope cl pm cv ctv) ⟨[], []⟩ = pure [])
    (hbody : ∀ (A : Around) (outer : List Env) (s : Shared) (H : Hp) (E : XK) (f c' : Addr), RmG k (A.deeper (lamEnv X scope s.heap.objs.size f c')) → PE (lamCx X A outer s H E scope f c') body (t E))
    (hdb : (x == ("__debug__" : Str)) = false := by decide) (hd : (a == ("__debug__" : Str)) = false := by decide) (hcd : (a == ("__classdict__" : Str)) = false := by decide) :
    PE X (.Call (.Name x p) [.Lambda params body scope lpos] [] pos) (tLamM T TT t) := by
  constructor
  intro pins s σ H Q I
  rintro ⟨hT, h⟩
  have hk := F.kp
  obtain ⟨oc, od, dV, kV, doc, pm0, an, cdv, ct, osl, rfl, lk, hcg, _, _⟩ := F.ex
  refine wpAny_Call_Name_kw (ld_glob I hg hm (PySem.W.callWith_K (h₀ := X.base) I.ok.mod.kin hk ?_ (by rfl) (by rfl)) hdb)
  show wpAny _ _ (spliced ((false, eval (.Lambda params body scope lpos) X.env) :: backTo pos (starEach [] X.env))) _ _ s
  refine Calls.spliced_cons (lam_make3 I TB hcode hmT hu hT hdef (L.has I.ok) ?_)
  intro f c' pm' ctv H1 s' I1 made T1 hob hfn hfr hco
  refine Calls.spliced_nil ⟨I1.kIn, ?_⟩
  have ran : codeAny (model X.prog X.w) X.A (.call (.ref g) ⟨[.ref f], []⟩) (CR C8.CX0 X.stack X.prog X.w H1 s' Q C8.E0) s' := by
    refine run_ofS (k := k + 2) (N := Ng) (ps := [a]) (us := [.ref f]) (vs := [.ref f]) lk hcg Sg hr.rm I1.env0 (hb s' [.ref f] I1.kIn rfl) (.cons rfl .nil) rfl fun hr' => ?_
    have hg' : RmG (k + 2) (X.A.deeper (envOfC x sg s'.heap.objs.size g cdv)) := ⟨hr', hr.gd⟩
    obtain ⟨t', ht', hq'⟩ := hG cdv f c' s' H1 Q (fun E H' Q' => t E σ H' Q') (fun W pn xe p1 p2 tk => pe_thk (k := k) (i := 0) I1 L hob hfn hfr (hbind _ _ _ _ _) tk (hg'.mono (by omega)) (fun E A outer s H hr2 => hbody A outer s H E f c' hr2) hNg hva hd hcd) hco (h H1 (made_ext made).1 (made_ext made).2 T1) (hg'.mono (by omega))
    exact ⟨t', ht'.nox, hq'⟩
  refine wpAny_call (codeAny_mono ran fun r s2 hq => ?_)
  match r, hq with
  | .error e, hq => exact (show False from hq).elim
  | .ok (.ret u), hq => exact I1.after hq
end
section
variable {X : Cx} {E : WX} {x a : Str} {g c P : Addr} {k : Nat} {pg : Arguments} {bg : List Stmt} {sg : Scope} {fdg : FuncData} {Ng : List Str} {b : TB0} {fb : EF} {params : Arguments} {body : Expr} {scope : Scope} {p lpos pos : Pos}
/-- x(lambda: body) as a function: the body sees the shared slots -/
theorem pr_lam (hg : Gl X x) (hm : X.mg x = some (.ref g)) (F : FunD X.K x x pg bg sg [] [] g fdg) (hb : L2.Binds X.K fdg [a] []) (Sg : FnScope Ng [a] sg) (hNg : Ng[0]? = some a) (hva : Vis sg a)
    (hG : ∀ cdv, Gives X Ng x sg g cdv bg a (X.env.qual ++ "<lambda>") (TTt X.K Ng.length b))
    (TB : TabB X.base X.mg c P) (hcode : X.env.code = .ref c) (hmT : (P, X.env.qual ++ "<lambda>") ∈ tbT X.K) (hu : ∀ p ∈ tbT X.K, p.1 = P → p.2 = X.env.qual ++ "<lambda>") (hr : RmG (k + 3) X.A) (L : LamS X.env.scope scope) (hdef : defaultsOf params X.env = ([], []))
    (hbind : ∀ (q : Str) (cl : List (Str × Addr)) (pm cv ctv : Value), bindArgs (PySem.W.kla_fn "<lambda>" q params body scope cl pm cv ctv) ⟨[], []⟩ = pure [])
    (hbody : ∀ (A : Around) (outer : List Env) (s : Shared) (H : Hp) (E : XK) (f c' : Addr), RmG k (A.deeper (lamEnv X scope s.heap.objs.size f c')) → PR (lamCx X A outer s H E scope f c') (fun c d _ H' => E c d H') body fb)
    (hdb : (x == ("__debug__" : Str)) = false := by decide) (hd : (a == ("__debug__" : Str)) = false := by decide) (hcd : (a == ("__classdict__" : Str)) = false := by decide) :
    PR X E (.Call (.Name x p) [.Lambda params body scope lpos] [] pos) (eLam Ng.length b fb) := by
  refine ⟨_, pe_give2 (T := tbT X.K) (t := fun E' => tFV X.K (fun c d _ H' => E' c d H') (eV fb)) hg hm F hb Sg hNg hva hG TB hcode hmT hu hr L hdef hbind (fun A outer s H E' f c' h => (hbody A outer s H E' f c' h).v.pe) hdb hd hcd, fun G H σ ρ r Q hw => ⟨r.tt.1, fun H1 grown tn T1 => ?_⟩⟩
  have st1 : Stp (fun _ => False) G H G H1 := stp_ext r.tt grown T1 tn
  have t1 : TbOk X.K H1 := ⟨T1, fun b ps e => let ⟨qs, e1⟩ := tn b ps e; r.tt.2 b qs e1⟩
  have sb1 : SubT X.K G H1 := ⟨sub_ext r.sub r.tt grown T1, t1⟩
  refine ⟨G, thk fb ρ, sb1, fun E' G2 H2 sg2 sb2 fut Q' hw' => ?_, ?_⟩
  · refine ⟨G2, shO ρ, rel_shO r sg2 sb2, ?_⟩
    unfold thk at hw'
    refine hw'.bind.mono (fun z _ q v G' H' o rp => ?_) fun xc _ q c d σ' G' H' ox ex => ?_
    · exact q v G' H' o.rel.subT (out_shO o) rp
    · exact q c d G' H' ox.rel.subT (ox.stp.mono fun c _ z => (shO_ads z).elim) ex
  · unfold eLam at hw
    refine (hw.bind.noX).mono (fun d _ q v G' H' sb st rp => ?_) fun _ _ q => q.elim
    exact (show ∀ v G' H', Out X.K G H σ ρ G' H' ρ → Hold X.K H G' H' σ ρ (.val d) v → Q v H' from q) v G' H' (out_of_stp r (st1.trans st fun _ _ z => z) sb) rp
end
end BR
set_option Elab.async false
set_option linter.all false
set_option maxRecDepth 100000
set_option maxHeartbeats 4000000
namespace L2
open PySem PySem.Spec PyProof.Rows
open LamX (TabB)
/-- the law's promise where its defs make lambdas: cs are the makers' code objects and tables -/
theorem law_callTG {P : Program} {w : World} {K : PySem.W.Frag} {mg mb : Str → Option Value} {CX : CXT} {k : Nat} {fa a : Addr} {cs : List (Addr × Addr)} {fd : FuncData} {x : Str} {sp : Sp} {s₁ : Shared} {vs : List Value} {ns : List Int} (KX : K.In s₁.heap) (hns : s₁.heap.Ns mainGlobals mg)
    (hb : s₁.heap.Ns builtinsNs mb) (hbb : ∀ x : Str, x ≠ "__name__" → mb x = bootBuiltins x) (hlim : s₁.heap.NoLimit) (hg : s₁.gens = #[]) (tabs : ∀ p ∈ cs, s₁.heap.get? p.2 = some { cls := .none, data := .fields #[] }) (unk : ∀ p ∈ cs, K.lookup p.2 = none) (cod : ∀ p ∈ cs, PySem.W.CodeHd s₁.heap p.1 p.2)
    (blt : ∃ (bm : Addr) (ob : Obj), mg "__builtins__" = some (.ref bm) ∧ bm ≠ builtinsNs ∧ s₁.heap.get? bm = some ob ∧ ob.cls = .type "module" ∧ ob.dict = some builtinsNs ∧ ob.data = .plain)
    (ha : s₁.heap.get? a = some { cls := .type "list", data := .seq vs.toArray }) (hi : IntsAre vs ns) (hl : ns.length ≤ sizeLine) (hr : BR.RmG k callerA)
    (F : ∀ base : Heap, K.In base → base.Ns mainGlobals mg → (∀ p ∈ cs, TabB base mg p.1 p.2) → BR.FnG P w K mg base CX k fa fd [x] sp) (hbind : ∀ (s : Shared) (u : Value), BindsTo s fd ⟨[u], []⟩ [(x, u)])
    (hsp : ∀ H : Hp, (∀ p ∈ cs, H p.2 = some (.tbl #[])) → (∀ b ps, H b = some (.tbl ps) → b ∈ cs.map (·.2)) → SqL K H a (ns.map V.int) → sp [.ref a] H (fun v _ => v = .bl true) fun _ _ _ => False) (hCX : ∀ H e s', CX [] H s₁ (fun _ _ _ => False) e s' → False) :
    codeAny (model P w) callerA (.call (.ref fa) ⟨[.ref a], []⟩) (fun r s' => r = .ok (.ret (.bool true)) ∧ OldK s₁.heap s'.heap ∧ s'.os = s₁.os ∧ AllBare s'.gens) s₁ := by
  have rvs := vals_ints hi
  have lenV := hi.length
  have emp : ∀ b ∈ cs.map (·.2), s₁.heap.get? b = some { cls := .none, data := .fields #[] } := by
    intro b hb
    obtain ⟨p, hp, rfl⟩ := List.mem_map.mp hb
    exact tabs p hp
  have na : a ∉ cs.map (·.2) := by
    intro z
    have q := (emp a z).symm.trans ha
    cases q
  have main : ∀ H : Hp, (∀ p ∈ cs, H p.2 = some (.tbl #[])) ∧ (∀ b ps, H b = some (.tbl ps) → b ∈ cs.map (·.2)) ∧ (∀ b, b ∉ cs.map (·.2) → H b = none ∨ ∃ o xs, H b = some (.frz o (.lst xs))) ∧ SqL K H a (ns.map V.int) ∧ HOk P w H s₁.heap ∧ (∀ b, H b ≠ none → b = a ∨ b ∈ cs.map (·.2)) ∧ (H a ≠ none → K.lookup a = none) →
      codeAny (model P w) callerA (.call (.ref fa) ⟨[.ref a], []⟩) (fun r s' => r = .ok (.ret (.bool true)) ∧ OldK s₁.heap s'.heap ∧ s'.os = s₁.os ∧ AllBare s'.gens) s₁ := by
    rintro H ⟨hT, hT2, hO, hS, hok, hA, hK⟩
    -- what is neither a list nor an empty row of fields is not tracked
    have free : ∀ {b : Addr} {o : Obj}, s₁.heap.get? b = some o → (∀ us n, o.data ≠ .seq us n) → o.data ≠ .fields #[] → H b = none := by
      intro b o e n1 n2
      cases q : H b with
      | none => rfl
      | some u =>
        rcases hA b (by rw [q]; simp) with rfl | z
        · rw [ha] at e; cases e; exact absurd rfl (n1 _ _)
        · rw [emp b z] at e; cases e; exact absurd rfl n2
    have dict : ∀ {b : Addr} {o : Obj} {es : Array DictEntry} {ep : Nat}, s₁.heap.get? b = some o → o.data = .dict es ep → H b = none := fun e d => free e (fun us n z => by rw [d] at z; cases z) fun z => by rw [d] at z; cases z
    have nsB : ∀ {b : Addr} {m : Str → Option Value}, s₁.heap.Ns b m → (hidT s₁.heap H).Ns b m := by
      rintro b m ⟨o, es, ep, e, d, r⟩
      exact ⟨o, es, ep, hidT_get e (dict e d), d, r⟩
    have inB : K.In (hidT s₁.heap H) := by
      intro b o e
      refine hidT_get (KX b o e) ?_
      cases q : H b with
      | none => rfl
      | some u =>
        rcases hA b (by rw [q]; simp) with rfl | z
        · rw [hK (by rw [q]; simp)] at e; cases e
        · obtain ⟨p, hp, rfl⟩ := List.mem_map.mp z
          rw [unk p hp] at e; cases e
    obtain ⟨mc, l1, l2⟩ := hlim
    have TB : ∀ p ∈ cs, TabB (hidT s₁.heap H) mg p.1 p.2 := by
      intro p hp
      obtain ⟨o, us, file, tf, flags, tg, inF, text, tt, e1, r1, r2, r3, rest⟩ := cod p hp
      obtain ⟨bm, ob, b1, b2, b3, b4, b5, b6⟩ := blt
      obtain ⟨og, eg, pg, g1, g2, _⟩ := hns
      refine ⟨⟨o, us, file, tf, flags, tg, inF, text, tt, hidT_get e1 (free e1 (fun us n z => by rw [r2] at z; cases z) fun z => by rw [r2] at z; cases z; simp at r3), r1, r2, r3, rest⟩, ⟨bm, ob, b1, b2, fun q => ?_, fun q => ?_, hidT_get b3 (free b3 (fun us n z => by rw [b6] at z; cases z) fun z => by rw [b6] at z; cases z), b4, b5, b6⟩, fun q => ?_⟩
      · rw [q, g1] at b3; cases b3; rw [g2] at b6; cases b6
      · rw [q, tabs p hp] at b3; cases b3; cases b6
      · rw [q, tabs p hp] at g1; cases g1; cases g2
    have e0 : Env0 P w K mg (hidT s₁.heap H) callerA [] s₁ H :=
      ⟨rfl, ⟨inB, nsB hns, ⟨mb, nsB hb, hbb⟩, ⟨mc, nsB l1, l2⟩⟩, fun b o e => of_hidT e, Nat.le_of_eq (hidT_size _ _), trivial, fun b z => absurd (show b ∈ ([] : List Addr) from z) (by simp), hok, .of_eq hg⟩
    have hc := (F _ inB (nsB hns) TB).at_ callerA [] s₁ H ⟨[.ref a], []⟩ [.ref a] [.ref a] _ _ ⟨hr, e0, hbind s₁ (.ref a), .cons rfl .nil, hsp H hT hT2 hS⟩
    refine codeAny_mono hc fun r s' h => ?_
    match r, h with
    | .error e, h => exact (hCX H e s' h).elim
    | .ok (.ret u), ⟨v, H', os, bare, un, hok', r', q⟩ =>
      have q' : v = .bl true := q
      rw [q'] at r'
      have hu : u = Value.bool true := r'
      have old : ∀ b o, b ∉ cs.map (·.2) → s₁.heap.get? b = some o → s'.heap.get? b = some o := by
        intro b o nb e
        rcases hO b nb with z | ⟨ob, xs, z⟩
        · exact un.keep b o e z (by intro y; exact absurd (show b ∈ ([] : List Addr) from y) (by simp)) (by simp)
        · obtain ⟨e1, _⟩ := hok b _ z
          obtain ⟨e2, _⟩ := hok' b _ (un.frzs b ob _ z)
          rw [e] at e1; cases e1
          exact e2
      have more : ∀ p ∈ cs, ∃ rows : Array Value, s'.heap.get? p.2 = some { cls := .none, data := .fields rows } := by
        intro p hp
        obtain ⟨rows, z⟩ := un.tbls p.2 #[] (hT p hp)
        exact ⟨_, hok' p.2 _ z⟩
      refine ⟨by rw [hu], ⟨fun b o e => ?_, fun b o e => ?_⟩, os, bare⟩
      · by_cases hb : b ∈ cs.map (·.2)
        · obtain ⟨p, hp, rfl⟩ := List.mem_map.mp hb
          obtain ⟨rows, hm⟩ := more p hp
          rw [tabs p hp] at e; cases e
          exact .inr (.inl ⟨((cod p hp).tab (tabs p hp)).isCodeTable, rfl, #[], rows, rfl, by rw [Array.empty_append]; exact hm⟩)
        · exact .inl (old b o hb e)
      · by_cases hb : b ∈ cs.map (·.2)
        · obtain ⟨p, hp, rfl⟩ := List.mem_map.mp hb
          obtain ⟨rows, hm⟩ := more p hp
          exact ⟨_, hm⟩
        · exact ⟨o, old b o hb e⟩
  have tbl_ : ∀ (b : Addr) (u : HO), (if b ∈ cs.map (·.2) then some (HO.tbl #[]) else none) = some u → b ∈ cs.map (·.2) ∧ u = .tbl #[] := by
    intro b u z
    split at z
    · cases z; exact ⟨by assumption, rfl⟩
    · cases z
  cases hk : K.lookup a with
  | some o =>
    have e := KX a o hk
    rw [ha] at e; cases e
    refine main (fun b => if b ∈ cs.map (·.2) then some (.tbl #[]) else none) ⟨fun p hp => if_pos (List.mem_map.mpr ⟨p, hp, rfl⟩), fun b ps z => (tbl_ b _ z).1, fun b nb => .inl (if_neg nb), .inr ⟨_, vs.toArray, _, hk, rfl, rfl, rfl, by rw [List.size_toArray, lenV]; exact hl, by simpa using rvs⟩, fun b u z => ?_, fun b z => ?_, fun z => absurd (if_neg na) z⟩
    · obtain ⟨m, rfl⟩ := tbl_ b u z
      exact emp b m
    · by_cases m : b ∈ cs.map (·.2)
      · exact .inr m
      · exact absurd (if_neg m) z
  | none =>
    refine main (fun b => if b = a then some (.frz { cls := .type "list", data := .seq vs.toArray } (.lst (ns.map V.int))) else if b ∈ cs.map (·.2) then some (.tbl #[]) else none) ⟨fun p hp => ?_, fun b ps z => ?_, fun b nb => ?_, .inl (.inr ⟨{ cls := .type "list", data := .seq vs.toArray }, if_pos rfl⟩), fun b u z => ?_, fun b z => ?_, fun _ => hk⟩
    · have m : p.2 ∈ cs.map (·.2) := List.mem_map.mpr ⟨p, hp, rfl⟩
      exact (if_neg fun z => na (by rw [← z]; exact m)).trans (if_pos m)
    · by_cases hb : b = a
      · cases (if_pos hb).symm.trans z
      · exact (tbl_ b _ ((if_neg hb).symm.trans z)).1
    · by_cases hb : b = a
      · exact .inr ⟨_, _, if_pos hb⟩
      · exact .inl ((if_neg hb).trans (if_neg nb))
    · by_cases hb : b = a
      · cases (if_pos hb).symm.trans z
        subst hb
        exact ⟨ha, by rw [List.length_map]; exact hl, vs, _, rvs, ha⟩
      · obtain ⟨m, rfl⟩ := tbl_ b u ((if_neg hb).symm.trans z)
        exact emp b m
    · by_cases hb : b = a
      · exact .inl hb
      · by_cases m : b ∈ cs.map (·.2)
        · exact .inr m
        · exact absurd ((if_neg hb).trans (if_neg m)) z
end L2
set_option Elab.async false
set_option linter.all false
set_option maxRecDepth 100000
set_option maxHeartbeats 4000000
namespace L2
open PySem PySem.Spec PyProof.Rows
open LamX (TabB)
/-- what a law with lambdas must know at its heap: the makers' tables, and the promise of its entry -/
def LawAtG (l : PySem.W.OpenLaw) (w : World) (K : PySem.W.Frag) (CX : CXT) (k n : Nat) (x : Str) (mg : Str → Option Value) (fa : Addr) (h : Heap) : Prop :=
  ∃ (fd : FuncData) (cs : List (Addr × Addr)) (sp : Sp), (∀ p ∈ cs, h.get? p.2 = some { cls := .none, data := .fields #[] }) ∧ (∀ p ∈ cs, K.lookup p.2 = none) ∧ (∀ p ∈ cs, PySem.W.CodeHd h p.1 p.2) ∧
    (∀ (s : Shared) (u : Value), BindsTo s fd ⟨[u], []⟩ [(x, u)]) ∧
    (∀ (H : Hp) (a : Addr) (ns : List Int), ns.length ≤ n → (∀ z ∈ ns, Builtin.Int.intBits z ≤ 1048576) → (∀ p ∈ cs, H p.2 = some (.tbl #[])) → (∀ b ps, H b = some (.tbl ps) → b ∈ cs.map (·.2)) → SqL K H a (ns.map V.int) → sp [.ref a] H (fun v _ => v = .bl true) fun _ _ _ => False) ∧
    ∀ base : Heap, K.In base → base.Ns mainGlobals mg → (∀ p ∈ cs, TabB base mg p.1 p.2) → BR.FnG l.prog w K mg base CX k fa fd [x] sp
theorem walk_ofTG {l : PySem.W.OpenLaw} {n k : Nat} {q : Program} {loose : List Str} {XP : (Str → Option Value) → Heap → Prop} {YP : World → Heap → Prop} {d : DefRec} {CX : World → CXT} {x : Str}
    (hn : l.most = some n) (hn2 : n ≤ sizeLine) (hdf : d.params.defaults = []) (hr : BR.RmG k callerA)
    (F : ∀ (w : World) (mg : Str → Option Value) (fa : Addr) (h : Heap), YP w h → h.Ns mainGlobals mg → mg d.name = some (.ref fa) → ∃ K : PySem.W.Frag, K.In h ∧ LawAtG l w K (CX w) k n x mg fa h)
    (hCX : ∀ (w : World) (H : Hp) (s : Shared) (e : Value) (s' : Shared), CX w [] H s (fun _ _ _ => False) e s' → False) :
    PySem.W.WalkO q loose XP YP l.row.toRowW d [] (fun f vs => PySem.call f vs) := by
  refine Att.attach_callB hn hdf fun w s₀ s₁ mg mb fa o pm cd doc a vs ns G Y ho hd hcd hmg hobj hints hlen hbits hg => ?_
  obtain ⟨K, KX, fd, cs, sp, hT, nT, C, hb, hsp, hF⟩ := F w mg fa _ Y G.T.g hmg
  exact law_callTG KX G.T.g G.T.b G.T.builtins G.T.nolimit hg hT nT C G.T.bmain hobj hints (Nat.le_trans hlen hn2) hr hF hb (fun H h1 h2 hS => hsp H a ns hlen hbits h1 h2 hS) fun H e s' => hCX w H s₁ e s'
end L2
set_option Elab.async false
set_option linter.all false
set_option maxRecDepth 100000
set_option maxHeartbeats 4000000
namespace BR
open PySem PySem.Spec PyProof.Rows L2
section
variable {X : Cx} {E : WX} {pos : Pos} {x : Str} {i : Nat}
open Classical in
/-- x op= e, ints, where C holds -/
@[simp] noncomputable def sAugC (i : Nat) (C : Int → Int → Prop) (op : Int → Int → Int) (fe : EF) : SF := fun ρ => match ρ[i]? with
  | some (some (.sh (.int a))) => fe ρ >>= fun z => ofO (asInt z.1) >>= fun b => if C a b then ofO (setS i (.sh (.int (op a b))) z.2) >>= fun ρ' => .ok (.nx, ρ') else .no
  | _ => .no
theorem st_augC {op : Operator} {C : Int → Int → Prop} {g : Int → Int → Int} {e : Expr} {fe : EF} {pos' : Pos} (hN : X.N.Nodup) (hi : X.N[i]? = some x) (hx : Loc X.env.scope x) (h : PR X E e fe) (ho : PIp X op (rI C fun i j => .int (g i j))) (hf : X.fn x = true ∨ X.env.scope.names.lookup x = some .local := by first | exact .inl rfl | exact .inr rfl | assumption) :
    PSt X E (.AugAssign (.Name x pos') op e pos) (sAugC i C g fe) := by
  obtain ⟨t, pe, s⟩ := h.ex
  refine ⟨_, ps_aug hN hi hx pe ho hf, fun G H σ ρ r Dn hw => ?_⟩
  unfold sAugC at hw
  split at hw
  · rename_i a q
    obtain ⟨v, e1, h⟩ := r.sl i _ q
    unfold Rep at h
    refine ⟨v, e1, s G H σ ρ r _ (hw.bind.mono (fun z _ q v' G1 H1 o1 h1 => ?_) fun _ _ q => q)⟩
    obtain ⟨b, eb, q⟩ := q.opt
    split at q
    · rename_i hc
      obtain ⟨ρ', e2, q⟩ := q.opt
      rw [asInt_eq eb] at h1
      have h2 : Rep X.K G1 (.int b) v' := h1
      unfold Rep at h2
      exact ⟨a, b, h, h2, hc, q _ G1 H1 (set_sh o1.s rep_int e2)⟩
    · exact q.elim
  · exact hw.elim
theorem ip_ofR {op : Operator} {r : R2} (h : OpR X (inplaceOp op) r) : PIp X op r := fun pins s σ H x y v u Q I rx ry q => h pins s σ H x y v u Q I rx ry q
end
end BR
namespace BR
open PySem PySem.Spec PyProof.Rows L2
section
variable {X : Cx} {E : WX} {pos : Pos}
theorem pr_shr {a b : Expr} {fa fb : EF} (pa : PR X E a fa) (pb : PR X E b fb) : PR X E (.BinOp a .RShift b pos) (eOp2 (dIc (fun _ j => 0 ≤ j) fun i j => i / 2 ^ j.toNat) fa fb) := pr_bin op_shr d_Ic pa pb
theorem pr_bitand {a b : Expr} {fa fb : EF} (pa : PR X E a fa) (pb : PR X E b fb) : PR X E (.BinOp a .BitAnd b pos) (eOp2 (dI fun i j => .int (Builtin.bitAnd i j)) fa fb) := pr_bin op_and d_Ii pa pb
theorem ip_mul : PIp X .Mult (rI CMul fun i j => .int (i * j)) := ip_ofR iop_mul
theorem ip_fdiv : PIp X .FloorDiv (rI CDiv fun i j => .int (i / j)) := ip_ofR iop_fdiv
theorem ip_mod : PIp X .Mod (rI (fun _ j => 0 < j) fun i j => .int (i % j)) := ip_ofR iop_mod
theorem ip_shl : PIp X .LShift (rI CPow fun i j => .int (i * 2 ^ j.toNat)) := ip_ofR iop_shl
theorem ip_shr : PIp X .RShift (rI (fun _ j => 0 ≤ j) fun i j => .int (i / 2 ^ j.toNat)) := ip_ofR iop_shr
theorem ip_and : PIp X .BitAnd (ipI fun i j => Builtin.bitAnd i j) := ip_ofR iop_and
theorem ip_or : PIp X .BitOr (ipI fun i j => Builtin.bitOr i j) := ip_ofR iop_or
theorem ip_xor : PIp X .BitXor (ipI fun i j => Builtin.bitXor i j) := ip_ofR iop_xor
end
end BR
set_option Elab.async false
set_option linter.all false
set_option maxRecDepth 100000
set_option maxHeartbeats 4000000
namespace L2
open PySem PySem.Spec PyProof.Rows
/-- tuple * int, wider than the kit's rRepT: up to 10 ^ 6 items -/
def rRepTW (K : PySem.W.Frag) : R2 := fun x y H Q => ∃ l k xs, x = .ref l ∧ y = .int k ∧ SqT K H l xs ∧ xs ≠ [] ∧ 2 ≤ k ∧ k ≤ 1000000 ∧ k.toNat * xs.length ≤ 1000000 ∧ ∀ p, H p = none → Q (.ref p) (upd H p (.tup (List.replicate k.toNat xs).flatten))
section
variable {X : Cx}
theorem op_repTW : OpR X (binaryOp .Mult) (rRepTW X.K) := by
  intro pins s σ H x y v u Q I rx ry h
  obtain ⟨l, k, xs, rfl, rfl, hT, hne, h1, h2, hz, q⟩ := h
  cases rx
  obtain ⟨t, rfl⟩ := ry
  obtain ⟨its, r, ⟨⟨cls, dd, data, sl⟩, ho, hc, n, hd⟩, hs⟩ := I.tuple hT
  simp only at hc hd
  subst hc hd
  have hle : its.length = xs.length := r.length.symm
  have hn : its ≠ [] := fun e => hne (by
    rw [e] at hle
    exact List.eq_nil_of_length_eq_zero hle.symm)
  have hi : its.toArray.isEmpty = false := by
    cases its with
    | nil => exact absurd rfl hn
    | cons a b => rfl
  have hsz0 : its.toArray.size = xs.length := by rw [List.size_toArray, hle]
  have hm : ((its.toArray.size : Nat) : Int) * k ≤ 1000000 := by
    rw [hsz0]
    have a1 : (k.toNat : Int) = k := Int.toNat_of_nonneg (by omega)
    have a2 : ((k.toNat * xs.length : Nat) : Int) ≤ 1000000 := Int.ofNat_le.mpr hz
    rw [Int.natCast_mul, a1] at a2
    rw [Int.mul_comm]; exact a2
  have flen : (List.replicate k.toNat its).flatten.length ≤ sizeLine := by
    rw [PyProof.Rows.lm_len_rep_flat, hle, sizeLine_eq]
    omega
  have c0 : (decide (k < -(2 ^ 63)) || decide (k ≥ 2 ^ 63)) = false := by
    rw [decide_eq_false (by omega), decide_eq_false (by omega)] <;> rfl
  have c1 : (its.toArray.isEmpty || k == 1) = false := by
    rw [hi, Bool.false_or]
    exact beq_eq_false_iff_ne.mpr (by omega)
  have c2 : (decide (k ≤ 0) || its.toArray.isEmpty) = false := by
    rw [hi, Bool.or_false]
    exact decide_eq_false (by omega)
  have c4 : Builtin.Tuple.tupleTooMany (((its.toArray.size : Nat) : Int) * k) = false := by
    unfold Builtin.Tuple.tupleTooMany
    rw [sizeLine_eq]
    exact decide_eq_false (by omega)
  refine wpAny_binaryOp_repeat_ref (T := "tuple") (U := "int") (by decide) ⟨_, ho, rfl⟩ (fun s' => typeIs_int s' k t) noFill_tuple_mul F.fills_int_mul F.slot_int_rmul repeat_tuple F.slot_int_index.lookup
    (call_meets F.slot_int_rmul (typeIs_int s k t) F.entry_int_rmul (F.args_int_rmul_2 _ _) (int_rmul_tuple k t l its.toArray n dd sl)
      ⟨ho, rfl, ⟨_, ho, rfl⟩, call_meets F.slot_tuple_mul ⟨_, ho, rfl⟩ F.entry_tuple_mul (F.args_tuple_mul_2 _ _) (tuple_mulW l its.toArray n dd sl k t c0 c1 c2 (by omega) c4 (by rw [size_rep, List.size_toArray]; exact flen)) ⟨ho, ?_⟩⟩)
  rw [size_rep]
  refine ⟨.ref s.heap.objs.size, _, I.laid (t' := s.toks) (o := .tup (List.replicate k.toNat xs).flatten) (fun b ob q => Heap.get?_push_of_some _ q) (Nat.le_refl _) ?_, rfl, q _ (I.hok.fresh (Nat.le_refl _))⟩
  exact ⟨by rw [PyProof.Rows.lm_len_rep_flat, sizeLine_eq]; omega, _, r.rep k.toNat, IsTup.new _ _⟩
end
end L2
namespace BR
open PySem PySem.Spec PyProof.Rows L2
section
variable {X : Cx} {K : PySem.W.Frag}
@[simp] def repD (x y : D) : Option (List D) := match x, y with
  | .tup a, .int n => if a ≠ [] ∧ 2 ≤ n ∧ n ≤ 1000000 ∧ n.toNat * a.length ≤ 1000000 then some (List.replicate n.toNat a).flatten else none
  | _, _ => none
theorem repD_some {x y : D} {ds : List D} (h : repD x y = some ds) : ∃ aa nn, x = .tup aa ∧ y = .int nn ∧ (aa ≠ [] ∧ 2 ≤ nn ∧ nn ≤ 1000000 ∧ nn.toNat * aa.length ≤ 1000000) ∧ ds = (List.replicate nn.toNat aa).flatten := by
  unfold repD at h
  split at h
  · split at h
    · rename_i hc
      cases h
      exact ⟨_, _, rfl, rfl, hc, rfl⟩
    · cases h
  · cases h
/-- a tuple * an int -/
@[simp] def eRepT (fa fb : EF) : EF := fun ρ => fa ρ >>= fun z1 => fb z1.2 >>= fun z2 => ofO (look z1.1 z2.2) >>= fun x => ofO (look z2.1 z2.2) >>= fun y => ofO (repD x y) >>= fun ds => .ok (.val (.tup ds), z2.2)
theorem pr_repT {E : WX} {a b : Expr} {fa fb : EF} {pos : Pos} (pa : PR X E a fa) (pb : PR X E b fb) : PR X E (.BinOp a .Mult b pos) (eRepT fa fb) := by
  obtain ⟨ta, pa, sa⟩ := pa.ex
  obtain ⟨tb, pb, sb⟩ := pb.ex
  refine ⟨_, pe_op op_repTW pa pb, fun G H σ ρ R Q hw => ?_⟩
  refine sa G H σ ρ R _ (hw.bind.mono (fun z1 _ q v G1 H1 o1 h1 => ?_) fun _ _ q => q)
  refine sb G1 H1 σ z1.2 o1.rel _ (q.bind.mono (fun z2 _ q2 w G2 H2 o2 h2 => ?_) fun _ _ q2 => q2.step o1)
  obtain ⟨x, ex, q2⟩ := q2.opt
  obtain ⟨y, ey, q2⟩ := q2.opt
  obtain ⟨ds, ez, q2⟩ := q2.opt
  have hx := hold_look o2.rel (h1.pers o2) ex
  have hy := hold_look o2.rel h2 ey
  obtain ⟨aa, nn, rfl, rfl, hc, rfl⟩ := repD_some ez
  have := hy.int; subst_vars
  obtain ⟨a, vs, rfl, h1, h2⟩ := hx.tup o2.rel.sub
  refine ⟨a, _, vs, rfl, rfl, h1, fun e0 => hc.1 (List.eq_nil_of_length_eq_zero (by rw [h2.length, e0]; rfl)), hc.2.1, hc.2.2.1, by rw [← h2.length]; exact hc.2.2.2, fun p hp => ?_⟩
  have o3 := Out.lay (o := .tup (List.replicate nn.toNat vs).flatten) o2.rel hp
  refine q2 _ (upd G2 p (.tup (List.replicate nn.toNat vs).flatten)) _ ((o1.trans o2).trans o3) ?_
  show Rep _ _ (.tup (List.replicate nn.toNat aa).flatten) _
  unfold Rep
  exact ⟨p, _, rfl, .inl (.inl upd_same), (h2.flat _).mono o3.stp.gg⟩
end
end BR
set_option Elab.async false
set_option linter.all false
set_option maxRecDepth 100000
set_option maxHeartbeats 4000000
namespace BR
open PySem PySem.Spec PyProof.Rows L2
section
variable {X : Cx} {K : PySem.W.Frag}
@[simp] def isNon : D → Bool
  | .non => true
  | _ => false
theorem repP_non {G H : Hp} {x : D} {v : V} (h : RepP K G H x v) : decide (v = .non) = isNon x := by
  rcases h with h | ⟨a, rfl, h⟩
  · cases x with
    | non => unfold Rep at h; subst h; rfl
    | lst => unfold Rep at h; obtain ⟨_, _, rfl, _⟩ := h; rfl
    | scr => unfold Rep at h; obtain ⟨_, rfl, _⟩ := h; rfl
    | tup => unfold Rep at h; obtain ⟨_, _, rfl, _⟩ := h; rfl
    | dic => unfold Rep at h; obtain ⟨_, _, rfl, _⟩ := h; rfl
    | ins => unfold Rep at h; obtain ⟨_, _, _, rfl, _⟩ := h; rfl
    | _ => unfold Rep at h; subst h; rfl
  · cases x with
    | non => obtain ⟨_, o, _, hc⟩ := h; exact hc.elim
    | _ => rfl
@[simp] def dIsN (x y : D) : Option Rz := match y with
  | .non => some (.im (.bl (isNon x)))
  | _ => none
@[simp] def dNotN (x y : D) : Option Rz := match y with
  | .non => some (.im (.bl (!isNon x)))
  | _ => none
theorem d_isN : OpD K (fun x y H Q => y = .non ∧ Q (.bl (decide (x = .non))) H) dIsN := by
  intro G H x y v w s hx hy z Q e h
  unfold dIsN at e
  split at e
  · cases e
    have hw := repP_non hy
    exact ⟨of_decide_eq_true hw, by rw [repP_non hx]; exact h _ rep_bl⟩
  · cases e
theorem d_notN : OpD K (fun x y H Q => y = .non ∧ Q (.bl (!decide (x = .non))) H) dNotN := by
  intro G H x y v w s hx hy z Q e h
  unfold dNotN at e
  split at e
  · cases e
    have hw := repP_non hy
    exact ⟨of_decide_eq_true hw, by rw [repP_non hx]; exact h _ rep_bl⟩
  · cases e
end
end BR
set_option Elab.async false
set_option linter.all false
set_option maxRecDepth 100000
set_option maxHeartbeats 4000000
namespace BR
open PySem PySem.Spec PyProof.Rows L2
theorem RepL.rev {K : PySem.W.Frag} {G : Hp} : ∀ {ds : List D} {vs : List V}, RepL K G ds vs → RepL K G ds.reverse vs.reverse
  | [], vs, h => by
    unfold RepL at h
    subst h
    exact .nil
  | d :: ds, vs, h => by
    unfold RepL at h
    obtain ⟨v, vs', rfl, h1, h2⟩ := h
    rw [List.reverse_cons, List.reverse_cons]
    exact (RepL.rev h2).append (.cons h1 .nil)
theorem repL_ints {K : PySem.W.Frag} {G : Hp} : ∀ ns : List Int, RepL K G (ns.map D.int) (ns.map V.int)
  | [] => .nil
  | _ :: ns => .cons rep_int (repL_ints ns)
section
variable {X : Cx} {E : WX} {e : Expr} {f : EF}
@[simp] def dRevL : D → Option Rz
  | .lst ds => some (.nw (.lst ds.reverse))
  | .scr ns => some (.nw (.lst (ns.map D.int).reverse))
  | _ => none
/-- xs[::-1] of a list -/
theorem pr_revL {k : Nat} {p1 p2 p3 pos : Pos} (h : PR X E e f) : PR X E (.Subscript e (.Slice none none (some (.UnaryOp .USub (.Constant (.int 1) k p1) p2)) p3) pos) (eOp1 dRevL f) := by
  obtain ⟨t, pe, s⟩ := h.ex
  refine ⟨_, pe_revL pe, fun G H σ ρ r Q hw => s G H σ ρ r _ (hw.bind.mono (fun z _ q v G1 H1 o1 h1 => ?_) fun _ _ q => q)⟩
  obtain ⟨x, ex, q⟩ := q.opt
  obtain ⟨rz, ez, q⟩ := q.opt
  have rp := hold_look o1.rel h1 ex
  have rs := fin_ok o1 q
  cases x with
  | lst ds =>
    cases ez
    obtain ⟨ad, vs, rfl, g1, g2⟩ := rp.lst o1.rel.sub
    exact ⟨ad, vs, rfl, SqL.of g1, fun p hp => rs p _ hp ⟨_, rfl, g2.rev⟩⟩
  | scr ns =>
    cases ez
    obtain ⟨ad, rfl, g1⟩ := rp.scr o1.rel.sub
    exact ⟨ad, _, rfl, g1, fun p hp => rs p _ hp ⟨_, rfl, RepL.rev (repL_ints ns)⟩⟩
  | _ => cases ez
end
end BR
set_option Elab.async false
set_option linter.all false
set_option maxRecDepth 100000
set_option maxHeartbeats 4000000
namespace BR
open PySem PySem.Spec PyProof.Rows L2
section
variable {X : Cx} {E : WX} {e e2 : Expr} {p pos : Pos}
def zips (ds cs : List D) : List D := ds.zipWith (fun d c => D.tup [d, c]) cs
@[simp] def itZip (f : S → R (List D × S)) : S → R (List D × S) := fun ρ => f ρ >>= fun z => match z.1 with
  | [.lst ds, .lst cs] => .ok (zips ds cs, z.2)
  | _ => .no
theorem zips_get {ds cs : List D} {i : Nat} {d c : D} (h : ds[i]? = some d) (h2 : cs[i]? = some c) : (zips ds cs)[i]? = some (.tup [d, c]) := by
  unfold zips
  rw [List.getElem?_zipWith]
  simp only [h, h2]
theorem it_zip {elts : List Expr} {kk : Nat} {tpos : Pos} {f : S → R (List D × S)} (hg : Gl X "zip") (hm : X.mg "zip" = none) (ha : PAs X E [e, e2] f)
    (hs : starEach [e, e2] X.env = (false, eval e X.env) :: starEach [e2] X.env := by rfl) (hpl : (backTo pos (starEach [e2] X.env)).any (·.1) = false := by rfl) :
    PIt X E (.Tuple elts kk tpos) (.Call (.Name "zip" p) [e, e2] [] pos) (itZip f) := by
  obtain ⟨t, pa, s⟩ := ha.ex
  refine ⟨_, pi_zip hg hm pa hs hpl, fun G H σ ρ r Rr hw => s G H σ ρ r _ (hw.bind.mono (fun z hz q vs G' H' o rv => ?_) fun _ _ q => q)⟩
  obtain ⟨ds0, ρ'⟩ := z
  split at q
  · rename_i ds cs e
    have e' : ds0 = [.lst ds, .lst cs] := e
    subst e'
    obtain ⟨v, vs', rfl, h1, h2⟩ := repL_cons.mp rv
    obtain ⟨v2, vs'', rfl, g1, g2⟩ := repL_cons.mp h2
    unfold Rep at h1 g1
    obtain ⟨a, xs, rfl, h3, h4⟩ := h1
    obtain ⟨b, ys, rfl, g3, g4⟩ := g1
    have h3' := o.rel.sub.ls h3
    have g3' := o.rel.sub.ls g3
    refine ⟨a, b, xs, ys, by rw [repL_nil.mp g2], SqL.of h3', SqL.of g3', q _ G' H' o ⟨fun H => SqL X.K H a xs ∧ SqL X.K H b ys, _, by unfold zips; rw [List.length_zipWith, h4.length, g4.length]; exact walk_zip rfl, fun H1 k => ⟨SqL.of (k a _ (by rw [h3]; simp) h3' nofun), SqL.of (k b _ (by rw [g3]; simp) g3' nofun)⟩, fun i H x H' hi y G1 sg sb => ?_⟩⟩
    obtain ⟨T, u, w, rfl, hT, rfl, e1, e2⟩ := y
    obtain ⟨d, ed, rd⟩ := h4.getV e1
    obtain ⟨c, ec, rc⟩ := g4.getV e2
    have hg1 : G1 T = none := sb.none hT
    refine ⟨.tup [d, c], zips_get ed ec, upd G1 T (.tup [u, w]), .inr ⟨T, .tup _, hT, nofun, rfl, rfl⟩, ?_⟩
    unfold Rep
    exact ⟨T, _, rfl, SqT.of upd_same, .cons (Rep.mono (sg.trans (same_new hg1)) _ rd) (.cons (Rep.mono (sg.trans (same_new hg1)) _ rc) .nil)⟩
  · exact q.elim
end
end BR
set_option Elab.async false
set_option linter.all false
set_option maxRecDepth 100000
set_option maxHeartbeats 4000000
namespace BR
open PySem PySem.W PySem.Calls L2
/-! ## facts of exception classes -/
def oexO (K : Frag) (C : Addr) : Bool := match K.lookup C with
  | some o => (match o.data with
    | .cls cd => (match cd.mro, o.slots.toList with
      | .ref C' :: bm, [_, _, _, _, some (.builtin n), _] => decide (o.cls = .type "type") && (decide (C' = C) && (decide (n = "ValueError.__new__") && (cd.hasDict && (!cd.hasDel && PySem.HandSPX.refsVE bm))))
      | _, _ => false)
    | _ => false)
  | none => false
theorem oexO_ok {K : Frag} {C : Addr} (h : oexO K C = true) : ∃ nm q N bs bm sn sub ab col dd k0 k1 k2 k3 k5, K.lookup C = some (excClassObj nm q C N bs bm true sn sub ab col dd k0 k1 k2 k3 k5 "ValueError.__new__") ∧ PySem.HandSPX.refsVE bm = true := by
  unfold oexO at h
  split at h
  · rename_i o ho
    obtain ⟨oc, od, dt, ⟨sl⟩⟩ := o
    simp only at h
    split at h
    · rename_i cd
      split at h
      · rename_i C' bm k0 k1 k2 k3 n k5 e1
        obtain ⟨h1, h⟩ := ba' h
        obtain ⟨h2, h⟩ := ba' h
        obtain ⟨h3, h⟩ := ba' h
        obtain ⟨h4, h⟩ := ba' h
        obtain ⟨h5, h6⟩ := ba' h
        replace h1 := of_decide_eq_true h1
        replace h2 := of_decide_eq_true h2
        replace h3 := of_decide_eq_true h3
        obtain ⟨nm, bs, mro, ns, qn, hd, sn, sb, ab, col, del⟩ := cd
        simp only at h1 e1 h4
        replace h5 : (!del) = true := h5
        subst h1 h2 h3 e1 h4
        cases del with
        | true => cases h5
        | false => exact ⟨nm, qn, ns, bs, bm, sn, sb, ab, col, od, k0, k1, k2, k3, k5, ho, h6⟩
      · cases h
    · cases h
  · cases h
def fExcM (C f : PySem.Str) : Fct := fun K => oexO K (He.ga K C) && (He.eqO (findIn K (.ref (He.ga K C)) "__setattr__") (some (some (.builtin "object.__setattr__"))) && (decide (subIn K (.ref (He.ga K C)) (.type "BaseException") = some true) && (decide (typeIn K (.ref (He.ga K C)) = some (.type "type")) &&
  (keepIn K (.ref (He.ga K C)) && (He.eqO (findIn K (.ref (He.ga K C)) "__init__") (some (some (.ref (He.ma K (He.ga K C) "__init__")))) && (decide (typeIn K (.ref (He.ma K (He.ga K C) "__init__")) = some (.type "function")) && He.eqO (findIn K (.ref (He.ga K C)) f) (some none)))))))
theorem excM_ok {K : Frag} {C f : PySem.Str} (h : fExcM C f K = true) : ExcM K (He.ga K C) (He.ma K (He.ga K C) "__init__") f := by
  obtain ⟨h1, h⟩ := ba' h
  obtain ⟨h2, h⟩ := ba' h
  obtain ⟨h3, h⟩ := ba' h
  obtain ⟨h4, h⟩ := ba' h
  obtain ⟨h5, h⟩ := ba' h
  obtain ⟨h6, h⟩ := ba' h
  obtain ⟨h7, h8⟩ := ba' h
  exact ⟨⟨oexO_ok h1, He.eqO_ok h2, of_decide_eq_true h3, of_decide_eq_true h4, h5⟩, He.eqO_ok h6, of_decide_eq_true h7, He.eqO_ok h8⟩
def fXf (C : PySem.Str) : Fct := fun K => xfB K (He.ga K C)
theorem xf_ok {K : Frag} {C : PySem.Str} (h : fXf C K = true) : XfC K (He.ga K C) := xfB_ok h
def fXi (C : PySem.Str) : Fct := fun K => (clsIn K (He.ga K C)).isSome && (He.eqO (findIn K (.ref (He.ga K C)) "__getattribute__") (some (some (.builtin "BaseException.__getattribute__"))) && (He.eqO (findIn K (.ref (He.ga K C)) "__getattr__") (some none) &&
  (decide (subIn K (.ref (He.ga K C)) (.type "BaseException") = some true) && (He.eqO (findIn K (.ref (He.ga K C)) "__class__") (some (some (.builtin "object.__class__"))) && (He.eqO (specialIn K (.builtin "object.__class__") "__get__") (some (some (.builtin "getset_descriptor.__get__"))) &&
  (decide (takesIn K (.builtin "object.__class__") = some true) && decide (mroIn K (He.ga K C) (.type "object") = some true)))))))
theorem xi_ok {K : Frag} {C : PySem.Str} (h : fXi C K = true) : XiC K (He.ga K C) := by
  obtain ⟨h1, h⟩ := ba' h
  obtain ⟨h2, h⟩ := ba' h
  obtain ⟨h3, h⟩ := ba' h
  obtain ⟨h4, h⟩ := ba' h
  obtain ⟨h5, h⟩ := ba' h
  obtain ⟨h6, h⟩ := ba' h
  obtain ⟨h7, h8⟩ := ba' h
  exact ⟨h1, He.eqO_ok h2, He.eqO_ok h3, of_decide_eq_true h4, He.eqO_ok h5, He.eqO_ok h6, of_decide_eq_true h7, of_decide_eq_true h8⟩
def fExm (C D : PySem.Str) (b : Bool) : Fct := fun K => decide (exmOne K (.ref (He.ga K C)) (.ref (He.ga K D)) = some b)
theorem exm_okF {K : Frag} {C D : PySem.Str} {b : Bool} (h : fExm C D b K = true) : exmOne K (.ref (He.ga K C)) (.ref (He.ga K D)) = some b := of_decide_eq_true h
def fKia (C D : PySem.Str) (b : Bool) : Fct := fun K => decide (kitAny K (.ref (He.ga K C)) [.ref (He.ga K D)] = some b)
theorem kia_ok {K : Frag} {C D : PySem.Str} {b : Bool} (h : fKia C D b K = true) : kitAny K (.ref (He.ga K C)) [.ref (He.ga K D)] = some b := of_decide_eq_true h
/-! ## the head with tables of makers -/
/-- the makers' tables, read off a part of the heap -/
def tbsOf (K : Frag) (ms : List PySem.Str) : List Addr := (ms.filterMap (tabIn K)).map (·.2)
def frT (g : Addr → Option Obj) (n : Nat) (ms : List PySem.Str) : Frag :=
  let as := He5.asA g n
  let ts := tbsOf (He.frG g as) ms
  He.frG g (as.filter fun a => !ts.contains a)
def emptyTab : Option Obj → Bool
  | some ⟨.none, none, .fields ⟨[]⟩, ⟨[]⟩⟩ => true
  | _ => false
theorem emptyTab_ok {o : Option Obj} (h : emptyTab o = true) : o = some (tabObj #[]) := by
  unfold emptyTab at h
  split at h
  · rfl
  · cases h
def mkrB (g : Addr → Option Obj) (K : Frag) (x : PySem.Str) : Bool := match tabIn K x with
  | some (c, P) => codeHdIn K c P && ((K.lookup P).isNone && emptyTab (g P))
  | none => false
def obsTG (n : Nat) (ms : List PySem.Str) (fa : List Fct) (fn : List He5.DefA) (g : Addr → Option Obj) : Bool × He.AlD :=
  let K := frT g n ms
  (ms.all (mkrB g K), obsB fa fn K)
/-- what is said of the makers -/
def MkrsAt (K : Frag) (ms : List PySem.Str) (h : Heap) : Prop := ∀ x ∈ ms, ∃ c P, tabIn K x = some (c, P) ∧ codeHdIn K c P = true ∧ K.lookup P = none ∧ h.get? P = some (tabObj #[])
def hookT (n : Nat) (ms : List PySem.Str) (fa : List Fct) (fn : List He5.DefA) : PySem.W.Hook where
  α := Bool × He.AlD
  obs := fun s => obsTG n ms fa fn s.heap.get?
  val := fun _ => (true, He5.valA fn)
  says := fun _ h => ∃ K : Frag, K.In h ∧ SaysB fa fn K ∧ MkrsAt K ms h
  of := fun w s e => by
    obtain ⟨e1, e2⟩ := Prod.mk.inj e
    refine ⟨_, He.frG_in, e2, fun x hx => ?_⟩
    have q := List.all_eq_true.mp e1 x hx
    unfold mkrB at q
    split at q
    · rename_i c P ht
      obtain ⟨q1, q⟩ := ba' q
      obtain ⟨q2, q3⟩ := ba' q
      exact ⟨c, P, ht, q1, Option.isNone_iff_eq_none.mp q2, emptyTab_ok q3⟩
    · cases q
  keeps := fun _ _ _ ⟨K, hK, c, m⟩ k => ⟨K, Frag.In.keeps hK k, c, fun x hx => let ⟨c, P, a1, a2, a3, a4⟩ := m x hx; ⟨c, P, a1, a2, a3, k _ _ a4⟩⟩
theorem obsTG_eq {n : Nat} {ms : List PySem.Str} {fa : List Fct} {fn : List He5.DefA} {g : Addr → Option Obj} {s : Shared} (h : ∀ a, g a = s.heap.get? a) : obsTG n ms fa fn g = (hookT n ms fa fn).obs s := by
  have e : g = s.heap.get? := funext h
  rw [e] <;> rfl
end BR
namespace BR
open PySem PySem.Spec PyProof.Rows L2
open PySem.W (Frag tabIn codeHdIn)
/-! ## makers -/
/-- the tables' promise at a base -/
def TBs (K : Frag) (mg : Str → Option Value) (base : Heap) (ms : List Str) : Prop := ∀ x ∈ ms, ∀ c P, tabIn K x = some (c, P) → LamX.TabB base mg c P
theorem tab_fd {K : Frag} {x qual : Str} {params : Arguments} {body : List Stmt} {scope : Scope} {dvs : List V} {kws : List (Str × V)} {fd : FuncData} {c P : Addr} (F : FunD K x qual params body scope dvs kws (He.ga K x) fd) (h : tabIn K x = some (c, P)) : fd.code = .ref c := by
  obtain ⟨oc, od, dV, kV, doc, pm, an, cdv, ct, osl, rfl, lk, _⟩ := F.ex
  unfold tabIn at h
  split at h
  · rename_i f hf
    have e : He.ga K x = f := by unfold He.ga; rw [hf]
    rw [e] at lk
    rw [lk] at h
    simp only at h
    split at h
    · split at h
      · split at h
        · cases h; rfl
        · cases h
      · cases h
    · cases h
  · cases h
end BR
set_option Elab.async false
set_option linter.all false
set_option maxRecDepth 100000
set_option maxHeartbeats 4000000
namespace BR
open PySem L2
/-! ## slots are shared ahead of an expression -/
@[simp] def frz : List Nat → S → R S
  | [], ρ => .ok ρ
  | i :: r, ρ => match share (.slot i) ρ with
    | some z => frz r z.2
    | none => .no
@[simp] def eFrz (is : List Nat) (f : EF) : EF := fun ρ => frz is ρ >>= f
section
variable {K : PySem.W.Frag} {G H : Hp} {σ : St} {ρ ρ' : S}
theorem frz_ok : ∀ {is : List Nat} {G : Hp} {ρ ρ' : S}, Rel K G H σ ρ → frz is ρ = .ok ρ' → ∃ G', Out K G H σ ρ G' H ρ'
  | [], G, ρ, ρ', r, e => by cases e; exact ⟨G, Out.refl r⟩
  | i :: is, G, ρ, ρ', r, e => by
    unfold frz at e
    cases q : share (.slot i) ρ with
    | none => rw [q] at e; cases e
    | some z =>
      rw [q] at e
      have hv : ∃ v, σ[i]? = some (some v) := by
        have q' := q
        simp only [share] at q'
        split at q' <;> first | cases q' | skip
        · rename_i d h; obtain ⟨p, e5, _⟩ := r.sl i _ h; exact ⟨_, e5⟩
        · rename_i d h; obtain ⟨p, e5, _⟩ := r.sl i _ h; exact ⟨_, e5⟩
        · rename_i d h; obtain ⟨p, e5, _⟩ := r.sl i _ h; exact ⟨_, e5⟩
      obtain ⟨v, hv⟩ := hv
      obtain ⟨d, ρ1⟩ := z
      obtain ⟨G1, o1, _, _⟩ := share_ok (hd := .slot i) (Out.refl r) hv q
      obtain ⟨G2, o2⟩ := frz_ok o1.rel e
      exact ⟨G2, o1.trans o2⟩
end
section
variable {X : Cx} {E : WX} {e : Expr} {f : EF} {is : List Nat}
theorem pr_frz (h : PR X E e f) : PR X E e (eFrz is f) := by
  obtain ⟨t, pe, s⟩ := h.ex
  refine ⟨t, pe, fun G H σ ρ r Q hw => ?_⟩
  unfold eFrz at hw
  cases q : frz is ρ with
  | no => rw [q] at hw; exact hw.elim
  | exc x =>
    exfalso
    have : ∀ (is : List Nat) (ρ : S), frz is ρ ≠ .exc x := by
      intro is
      induction is with
      | nil => intro ρ z; cases z
      | cons i is ih =>
        intro ρ z
        unfold frz at z
        split at z
        · exact ih _ z
        · cases z
    exact this _ _ q
  | ok ρ' =>
    rw [q] at hw
    obtain ⟨G1, o1⟩ := frz_ok r q
    refine s G1 H σ ρ' o1.rel Q ((show Wp (f ρ') _ _ from hw).mono (fun z _ k v G' H' o hh => k v G' H' (o1.trans o) hh) fun x _ k => ?_)
    exact ExE.stepS o1.s k
end
/-! ## tuple(xs) -/
section
variable {X : Cx} {E : WX} {e : Expr} {es : List Expr} {x : Str} {p pos : Pos} {f : S → R (List Hd × S)} {K : PySem.W.Frag}
@[simp] def dTupOf : D → Option D
  | .lst ds => some (.tup ds)
  | .tup ds => some (.tup ds)
  | _ => none
def eTupOf (f : S → R (List Hd × S)) : EF := fun ρ => f ρ >>= fun z => ofO (looks z.1 z.2) >>= fun ds => match ds with
  | [d] => ofO (dTupOf d) >>= fun y => .ok (.val y, z.2)
  | _ => .no
theorem pr_tupOf (hgl : Gl X "tuple") (hm : X.mg "tuple" = none) (ha : PHs X E (e :: es) f) (he : starEach (e :: es) X.env = (false, eval e X.env) :: starEach es X.env := by rfl) (hpl : (backTo pos (starEach es X.env)).any (·.1) = false := by rfl) : PR X E (.Call (.Name "tuple" p) (e :: es) [] pos) (eTupOf f) := by
  obtain ⟨t, pa, s⟩ := ha.ex
  refine ⟨_, pe_callTy call_tuple_of hgl hm (by decide +kernel) pa (by decide) (by decide) he hpl, fun G H σ ρ R Q hw => s G H σ ρ R _ (hw.bind.mono (fun z _ q vs G1 H1 o1 h1 => ?_) fun _ _ q => q)⟩
  obtain ⟨ds, e1, q1⟩ := q.opt
  have rl := looks_ok o1.rel h1 e1
  split at q1
  · rename_i d
    obtain ⟨y, e2, q2⟩ := q1.opt
    obtain ⟨v, rfl, rv⟩ := rpl1 rl
    unfold dTupOf at e2
    split at e2
    · cases e2
      obtain ⟨a, us, rfl, h2, h3⟩ := rv.lst o1.rel.sub
      refine ⟨a, us, rfl, .inl ⟨SqL.of h2, fun l hl => ?_⟩⟩
      have o2 := Out.lay (o := .tup us) o1.rel hl
      refine (show ∀ v G' H', Out X.K G H σ ρ G' H' z.2 → Hold X.K H G' H' σ z.2 (.val (.tup _)) v → Q v H' from q2) _ _ _ (o1.trans o2) (Hold.val ?_)
      unfold Rep
      exact ⟨l, _, rfl, SqT.of upd_same, h3.mono (same_new (o1.rel.sub.none hl))⟩
    · cases e2
      obtain ⟨a, us, rfl, h2, h3⟩ := rv.tup o1.rel.sub
      refine ⟨a, us, rfl, .inr ⟨h2, ?_⟩⟩
      refine (show ∀ v G' H', Out X.K G H σ ρ G' H' z.2 → Hold X.K H G' H' σ z.2 (.val (.tup _)) v → Q v H' from q2) _ _ _ o1 (Hold.val ?_)
      rcases rv with rv | ⟨b, e3, ow⟩
      · exact rv
      · exact absurd ow (by rintro ⟨_, u, _, hc⟩; exact hc)
    · cases e2
  · exact q1.elim
end
/-! ## walks over a list or a tuple -/
section
variable {X : Cx} {E : WX} {e tg : Expr} {f : EF} {pos p : Pos}
/-- the items of a list or a tuple (shared) -/
@[simp] def itSeqB (f : EF) : S → R (List D × S) := fun ρ => eV f ρ >>= fun z => match z.1 with
  | .lst ds => .ok (ds, z.2)
  | .tup ds => .ok (ds, z.2)
  | _ => .no
def iSeqB (K : PySem.W.Frag) (tl : TE) : TI := fun σ H R => tl σ H fun x H1 => ∃ a, x = .ref a ∧ (((∃ xs, SqL K H1 a xs) ∧ R (Itl K a) H1) ∨ ((∃ xs, SqT K H1 a xs) ∧ R (Itt K a) H1))
theorem pi_seqB {l : Expr} {tl : TE} (hl : PE X l tl) : PI X tg l (iSeqB X.K tl) := by
  refine ⟨fun pins s σ H R I h => ?_⟩
  refine thn (hl.run pins s σ H _ I h) fun v s1 ⟨x, H1, I1, r1, q1⟩ => ?_
  obtain ⟨a, e, q⟩ := q1
  subst e
  cases r1
  rcases q with ⟨⟨xs, hq⟩, q⟩ | ⟨⟨xs, hq⟩, q⟩
  · obtain ⟨its, rv, p, hz⟩ := I1.list hq
    refine wpAny_pyIter_list p.isList ?_
    refine ⟨s1.heap.objs.size, [s1.heap.objs.size], _, _, H1, rfl, I1.kept (t' := s1.toks) fun b o e => Heap.get?_push_of_some _ e, turn_list a _, ⟨_, Heap.get?_push_size _ rfl, rfl, rfl⟩, fun b hb => ?_, q⟩
    have e : b = s1.heap.objs.size := by simpa using hb
    subst e
    exact I1.fpOk (Nat.le_refl _) (I1.hok.fresh (Nat.le_refl _))
  · obtain ⟨its, rv, p, hz⟩ := I1.tuple hq
    refine wpAny_pyIter_tuple (show s1.heap.IsTuple a its.toArray from p) ?_
    refine ⟨s1.heap.objs.size, [s1.heap.objs.size], _, _, H1, rfl, I1.kept (t' := s1.toks) fun b o e => Heap.get?_push_of_some _ e, turn_tuple a _, ⟨_, Heap.get?_push_size _ rfl, rfl, rfl⟩, fun b hb => ?_, q⟩
    have e : b = s1.heap.objs.size := by simpa using hb
    subst e
    exact I1.fpOk (Nat.le_refl _) (I1.hok.fresh (Nat.le_refl _))
/-- what stays of a tuple that is shown -/
theorem tup_stays {K : PySem.W.Frag} {G H H1 : Hp} {a : Addr} {vs : List V} (sb : Sub G H) (h1 : SqT K G a vs) (k : ∀ b o, G b ≠ none → H b = some o → NT o → H1 b = some o) : SqT K H1 a vs := by
  rcases h1 with h1 | h1
  · rcases sb.rd h1 with z | ⟨od, z⟩
    · refine SqT.of (k a _ ?_ z nofun)
      rcases h1 with y | ⟨_, y⟩ <;> rw [y] <;> simp
    · refine .inl (.inr ⟨od, k a _ ?_ z nofun⟩)
      rcases h1 with y | ⟨_, y⟩ <;> rw [y] <;> simp
  · exact .inr h1
theorem it_seqB (h : PR X E e f) : PIt X E tg e (itSeqB f) := by
  obtain ⟨t, pe, s⟩ := h.v.ex
  refine ⟨_, pi_seqB pe, fun G H σ ρ r Rr hw => s G H σ ρ r _ (hw.bind.mono (fun z _ q v G' H' o rv => ?_) fun _ _ q => q)⟩
  obtain ⟨d, ρ'⟩ := z
  cases d with
  | lst ds =>
    have rv' := rv
    unfold Rep at rv'
    obtain ⟨a, vs, rfl, h1, h2⟩ := rv'
    have h1' := o.rel.sub.ls h1
    refine ⟨a, rfl, .inl ⟨⟨vs, SqL.of h1'⟩, q _ G' H' o ⟨fun H => SqL X.K H a vs, YAt vs, by rw [h2.length]; exact walk_list, fun H1 k => SqL.of (k a _ (by rw [h1]; simp) h1' nofun), fun i H x H' hi y G1 sg sb => ?_⟩⟩⟩
    obtain ⟨rfl, y⟩ := y
    obtain ⟨d, ed, rd⟩ := h2.getV y
    exact ⟨d, ed, G1, .inl ⟨rfl, rfl⟩, Rep.mono sg _ rd⟩
  | tup ds =>
    have rv' := rv
    unfold Rep at rv'
    obtain ⟨a, vs, rfl, h1, h2⟩ := rv'
    have h1' := o.rel.sub.t h1
    refine ⟨a, rfl, .inr ⟨⟨vs, h1'⟩, q _ G' H' o ⟨fun H => SqT X.K H a vs, YAt vs, by rw [h2.length]; exact walk_tup, fun H1 k => tup_stays o.rel.sub h1 k, fun i H x H' hi y G1 sg sb => ?_⟩⟩⟩
    obtain ⟨rfl, y⟩ := y
    obtain ⟨d, ed, rd⟩ := h2.getV y
    exact ⟨d, ed, G1, .inl ⟨rfl, rfl⟩, Rep.mono sg _ rd⟩
  | _ => exact q.elim
end
end BR
namespace PySem
theorem meets_enumerate_newT (l : Addr) (items : Array Value) (n : Nat) (dct : Option Addr) (sl : Array (Option Value)) :
    Meets (Builtin.«enumerate.__new__» ⟨[.type "enumerate", .ref l], []⟩) (fun _ R s => s.heap.get? l = some { cls := .type "tuple", dict := dct, data := .seq items n, slots := sl } ∧
      R (.ok (.ret (.ref (s.heap.push { cls := .type "tuple_iterator", data := .fields #[.ref l, .int 0 0] }).objs.size)))
        { s with heap := (s.heap.push { cls := .type "tuple_iterator", data := .fields #[.ref l, .int 0 0] }).push { cls := .type "enumerate", data := .fields #[.none, .bool false, .ref s.heap.objs.size, rawInt 0, .none, .none] } }) :=
  .of_wp fun prog w A R s h => by
    obtain ⟨hp, g, d, tk, os⟩ := s; obtain ⟨hl, h⟩ := h
    have hsub := sub_enumerate
    have hL : Heap.IsTuple (Shared.heap ⟨hp, g, d, tk, os⟩) l items := ⟨_, hl, rfl, n, rfl⟩
    wp_walk using AutoSeq1.wpAny_loadPart' hl
    refine wpAny_stack_any fun st => wpAny_pure ?_
    split
    · rename_i c _ _ _ _ _
      cases (c == Value.type "enumerate")
      · wp_walk using AutoSeq1.wpAny_loadPart' hl, wpAny_pyIter_tuple hL
        exact ⟨_, rfl, h⟩
      · wp_walk using AutoSeq1.wpAny_loadPart' hl, wpAny_pyIter_tuple hL
        exact ⟨_, rfl, h⟩
    · wp_walk using AutoSeq1.wpAny_loadPart' hl, wpAny_pyIter_tuple hL
      exact ⟨_, rfl, h⟩
section
variable {prog : Program} {w : World} {A : Around} {E : Value → Shared → Prop} {s : Shared}
theorem wpAny_pyNext_enum_endT {e it l : Addr} {i : Nat} {items : Array Value} {old : Value} {Q : Option Value → Shared → Prop} (hh : A.handled = none)
    (he : IsEnum s.heap e it i old) (hit : s.heap.IsTupleIter it l i) (hl : s.heap.IsTuple l items) (hx : items[i]? = none)
    (hQ : ∀ h', Heap.ExtBut it s.heap h' → Q none { s with heap := h' }) : wpAny (model prog w) A (pyNext (.ref e)) Q E s := by
  have hT : s.TypeIs (.ref e) "enumerate" := ⟨_, he, rfl⟩
  unfold pyNext
  refine wpAny_bind (wpAny_attempt (wpAny_callSpecial?_slot (name := Str.ofString "__next__") hT F.slot_enumerate_next
    (wpAny_call_entry F.slot_enumerate_next hT F.entry_enumerate_next ?_ (F.args_enumerate_next_1 _))))
  show wpAny _ _ (field (.ref e) 2 >>= _) _ _ _
  refine wpAny_bind (wpAny_field he rfl (x := .ref it) rfl ?_)
  refine wpAny_bind (wpAny_nextOf_tuple_end hh hit hl hx fun h' x he' hx' => ?_)
  obtain ⟨o, ho, hc⟩ := hx'
  refine wpAny_bind (wpAny_isInstance (T := "StopIteration") (b := true) ⟨o, ho, hc⟩ isSubtype_stop ?_)
  exact wpAny_pure (hQ _ he')
end
section
variable {prog : Program} {w : World} {A : Around} {E : Value → Shared → Prop} {s : Shared}
theorem call_enumerate_tup {l : Addr} {items : Array Value} {Q : Value → Shared → Prop} (hL : s.heap.IsTuple l items)
    (h : ∀ h', IsEnum h' (s.heap.objs.size + 1) s.heap.objs.size 0 .none → h'.IsTupleIter s.heap.objs.size l 0 → h'.objs.size = s.heap.objs.size + 2 →
      (∀ b o, s.heap.get? b = some o → h'.get? b = some o) → Q (.ref (s.heap.objs.size + 1)) { s with heap := h' }) :
    wpAny (model prog w) A (call (.type "enumerate") [.ref l]) Q E s := by
  obtain ⟨⟨c, dct, dt, sl⟩, hl, hc, n, hd⟩ := hL
  replace hc : c = .type "tuple" := hc
  replace hd : dt = .seq items n := hd
  subst hc hd
  refine callType_new F.called_enumerate (by decide) (F.typeCall_enumerate_1 _) (F.newCall_enumerate_1 _) (fun obj => F.args_object_init_2 obj _) F.entry_enumerate_new
    (meets_enumerate_newT l items n dct sl) ⟨hl, ?_⟩
  have hz : (s.heap.push { cls := .type "tuple_iterator", data := .fields #[.ref l, .int 0 0] }).objs.size = s.heap.objs.size + 1 := Heap.size_push ..
  show _ ∧ _
  rw [hz]
  have he : IsEnum ((s.heap.push { cls := .type "tuple_iterator", data := .fields #[.ref l, .int 0 0] }).push
      { cls := .type "enumerate", data := .fields #[.none, .bool false, .ref s.heap.objs.size, rawInt 0, .none, .none] }) (s.heap.objs.size + 1) s.heap.objs.size 0 .none := by
    have := Heap.get?_push_size (s.heap.push { cls := .type "tuple_iterator", data := .fields #[.ref l, .int 0 0] })
      (o := { cls := .type "enumerate", data := .fields #[.none, .bool false, .ref s.heap.objs.size, rawInt 0, .none, .none] }) rfl
    rw [hz] at this; exact this
  refine ⟨⟨_, he, rfl⟩, h _ he ⟨_, Heap.get?_push_of_some _ (Heap.get?_push_size _ rfl), rfl, rfl⟩ (by rw [Heap.size_push, hz]) fun b o x => Heap.get?_push_of_some _ (Heap.get?_push_of_some _ x)⟩
end
end PySem
namespace BR
open PySem L2
/-- the tuple at a, its items in new pairs -/
def IteT (K : PySem.W.Frag) (a : Addr) : It :=
  ⟨fun i H => ∃ (xs : List V) (x : V), SqT K H a xs ∧ xs[i]? = some x, fun i H v H' => ∃ T x, v = .ref T ∧ H T = none ∧ H' = upd H T (.tup [.int (i : Nat), x]) ∧ ∀ xs, SqT K H a xs → xs[i]? = some x, fun i H => ∃ xs : List V, SqT K H a xs ∧ xs.length ≤ i⟩
theorem turn_enumT {P : Program} {w : World} {K : PySem.W.Frag} {elts : List Expr} {kk : Nat} {tpos : Pos} (a e it : Addr) :
    Turn P w K (.Tuple elts kk tpos) (IteT K a) [e, it] e (fun i h => (∃ old, IsEnum h e it ((i : Nat) : Int) old) ∧ h.IsTupleIter it a i ∧ e ≠ it) where
  mem := by simp
  obj := fun i h st b hb => by
    obtain ⟨⟨old, he⟩, ⟨o, ho, hc, hd⟩, _⟩ := st
    have e' : b = e ∨ b = it := by simpa using hb
    rcases e' with z | z
    · rw [z]; exact ⟨_, he, fun v q => nomatch q⟩
    · rw [z]; exact ⟨o, ho, fun v q => by rw [hd] at q; cases q⟩
  keep := fun i h h' st k => let ⟨⟨old, he⟩, ⟨o, ho, r⟩, hne⟩ := st; ⟨⟨old, k e (by simp) _ he⟩, ⟨o, k it (by simp) o ho, r⟩, hne⟩
  item := by
    intro X hP hw hK hc i pins s σ H E I hf st hg
    subst hP hw hK
    obtain ⟨⟨old, he⟩, hit, hne⟩ := st
    obtain ⟨xs, x, hq, hx⟩ := hg
    obtain ⟨its, rv, p, hz⟩ := I.tuple hq
    have pT : s.heap.IsTuple a its.toArray := p
    obtain ⟨u, hu, ru⟩ := rv.get hx
    have hel : e < s.heap.objs.size := Heap.lt_size he
    have hil : it < s.heap.objs.size := by obtain ⟨_, q, _⟩ := hit; exact Heap.lt_size q
    have hea : e ≠ a := fun z => by
      obtain ⟨o, q1, q2, _⟩ := pT
      rw [← z] at q1
      rw [show s.heap.get? e = _ from he] at q1
      cases q1; exact absurd q2 (by simp)
    have hia : a ≠ it := fun z => by
      obtain ⟨o, q1, q2, _⟩ := pT
      obtain ⟨o', q3, q4, _⟩ := hit
      rw [z, q3] at q1
      cases q1
      rw [q4] at q2; exact absurd q2 (by simp)
    have D : Draws X.prog X.w X.A.in1 it [it, a] its.toArray.size (fun i v => its.toArray[i]? = some v) (fun i h => h.IsTupleIter it a i ∧ h.IsTuple a its.toArray) := Draws.tuple (show X.A.in1.handled = none from I.ok.hd hc) it a hia its.toArray
    have hlt : i < its.toArray.size := by
      have := (List.getElem?_eq_some_iff.mp hu).1
      simpa using this
    refine wpAny_pyNext_enum_itemD D he ⟨hit, pT⟩ hlt hne (by simp; exact ⟨hne, hea⟩) fun y h' tk hP ho hs' hT hsz hk => ?_
    have ey : y = u := by
      have q1 : its[i]? = some y := by simpa using hP
      rw [hu] at q1
      exact (Option.some.inj q1).symm
    subst ey
    refine ⟨_, rfl, wpAny_letOwnedTupleGo_enum (s := { s with heap := h', toks := tk + 1 }) ho fun h'' he' sb => ?_⟩
    have hT2 : h''.get? s.heap.objs.size = some { cls := .type "tuple", data := .seq #[.int i tk, y] } := (sb.2 _ (Nat.ne_of_gt hel)).trans hT
    have new : ObjOk X.prog X.w (upd H s.heap.objs.size (.tup [.int (i : Nat), x])) h'' s.heap.objs.size (.tup [.int (i : Nat), x]) :=
      ⟨by show 2 ≤ sizeLine; decide, [.int i tk, y], .cons ⟨_, rfl⟩ (.cons ru .nil), ⟨_, hT2, rfl, _, rfl⟩⟩
    have I1 : Inv X pins σ (upd H s.heap.objs.size (.tup [.int (i : Nat), x])) { s with heap := h'', toks := tk + 1 } :=
      I.turnedNew (ch := [e, it]) (fun b ob hb q => (sb.2 b (fun z => hb (by simp [z]))).trans (hk b ob (fun z => hb (by simp [z])) (fun z => hb (by simp [z])) q)) hf (Nat.le_refl _) new
    refine ⟨.ref s.heap.objs.size, _, I1, rfl, ⟨_, x, rfl, I.hok.fresh (Nat.le_refl _), rfl, fun ys hy => by rw [I.tuple_inj hy hq]; exact hx⟩, ⟨⟨y, ?_⟩, ?_, hne⟩, fun b hb => ?_⟩
    · have e1 : ((i + 1 : Nat) : Int) = (i : Int) + 1 := by omega
      rw [e1]; exact he'
    · obtain ⟨o, q1, q2⟩ := hs'.1
      exact ⟨o, (sb.2 it (Ne.symm hne)).trans q1, q2⟩
    · have hb' : b < s.heap.objs.size := by
        have e' : b = e ∨ b = it := by simpa using hb
        rcases e' with z | z
        · rw [z]; exact hel
        · rw [z]; exact hil
      rw [upd_ne (Nat.ne_of_lt hb')]
      exact (hf b hb).1
  done := by
    intro X hP hw hK hc i pins s σ H E I hf st hg
    subst hP hw hK
    obtain ⟨⟨old, he⟩, hit, hne⟩ := st
    obtain ⟨xs, hq, hx⟩ := hg
    obtain ⟨its, rv, p, hz⟩ := I.tuple hq
    have pT : s.heap.IsTuple a its.toArray := p
    have hia : a ≠ it := fun z => by
      obtain ⟨o, q1, q2, _⟩ := pT
      obtain ⟨o', q3, q4, _⟩ := hit
      rw [z, q3] at q1
      cases q1
      rw [q4] at q2; exact absurd q2 (by simp)
    obtain ⟨f0, f1, f2, f3, f4, f5⟩ := hf it (by simp)
    have hl := rv.length
    exact wpAny_pyNext_enum_endT (I.ok.hd hc) he hit pT (by simp; omega) fun h' eb => ⟨rfl, I.turned (t' := s.toks) (fun b o hb q => eb b o hb q) f0 f1 f3 f4 f5⟩
  self := fun A i s Q E st h => let ⟨⟨_, he⟩, _⟩ := st; wpAny_pyIter_enum he h
theorem walk_enumT {K : PySem.W.Frag} {a : Addr} {xs : List V} : Walk (IteT K a) xs.length (fun H => SqT K H a xs) (YPair (fun i => some (.int (i : Nat))) (fun i => xs[i]?)) := by
  refine ⟨fun i _ hi q => ⟨xs, xs[i], q, by simp [hi]⟩, fun _ q => ⟨xs, q, Nat.le_refl _⟩, fun i H v H' _ q y => ?_⟩
  obtain ⟨T, x, h1, h2, h3, h4⟩ := y
  exact ⟨T, .int (i : Nat), x, h1, h2, h3, rfl, h4 xs q⟩
def iEnumB (K : PySem.W.Frag) (ta : TA) : TI := fun σ H R => ta σ H fun vs H1 => ∃ a, vs = [.ref a] ∧ (((∃ xs, SqL K H1 a xs) ∧ R (Ite K a) H1) ∨ ((∃ xs, SqT K H1 a xs) ∧ R (IteT K a) H1))
theorem pi_enumB {X : Cx} {e : Expr} {ta : TA} {p pos tpos : Pos} {elts : List Expr} {kk : Nat} (hg : Gl X "enumerate") (hm : X.mg "enumerate" = none) (ha : PA X [e] ta) (hs : starEach [e] X.env = [(false, eval e X.env)] := by rfl) :
    PI X (.Tuple elts kk tpos) (.Call (.Name "enumerate" p) [e] [] pos) (iEnumB X.K ta) := by
  refine ⟨fun pins s σ H R I h => ?_⟩
  refine PyProof.Rows.Call_ (ld_blt I hg hm PyProof.Rows.boot_enumerate (PyProof.Rows.callWith_type1 (thn (ha.run pos pins s σ H _ I h) fun us s1 ⟨vs, H1, I1, r1, q1⟩ => ?_) hs rfl))
  obtain ⟨a, ex, q⟩ := q1
  subst ex
  cases r1 with
  | cons r rr =>
    cases rr
    cases r
    have fpo : ∀ b ∈ [s1.heap.objs.size + 1, s1.heap.objs.size], s1.heap.objs.size ≤ b := fun b hb => by
      have e' : b = s1.heap.objs.size + 1 ∨ b = s1.heap.objs.size := by simpa using hb
      rcases e' with z | z
      · rw [z]; exact Nat.le_add_right _ _
      · rw [z]; exact Nat.le_refl _
    rcases q with ⟨⟨xs, hq⟩, q⟩ | ⟨⟨xs, hq⟩, q⟩
    · obtain ⟨its, rv, p', hz⟩ := I1.list hq
      refine call_enumerate_list p'.isList fun h' he hit hsz hk => wpAny_pyIter_enum he ?_
      have I2 : Inv X pins σ H1 { s1 with heap := h' } := I1.kept (t' := s1.toks) hk
      refine ⟨s1.heap.objs.size + 1, [s1.heap.objs.size + 1, s1.heap.objs.size], _, _, H1, rfl, I2, turn_enum a (s1.heap.objs.size + 1) s1.heap.objs.size, ⟨⟨.none, he⟩, hit, Nat.succ_ne_self _⟩, fun b hb => ?_, q⟩
      exact I1.fpOk (fpo b hb) (I1.hok.fresh (fpo b hb))
    · obtain ⟨its, rv, p', hz⟩ := I1.tuple hq
      refine call_enumerate_tup (show s1.heap.IsTuple a its.toArray from p') fun h' he hit hsz hk => wpAny_pyIter_enum he ?_
      have I2 : Inv X pins σ H1 { s1 with heap := h' } := I1.kept (t' := s1.toks) hk
      refine ⟨s1.heap.objs.size + 1, [s1.heap.objs.size + 1, s1.heap.objs.size], _, _, H1, rfl, I2, turn_enumT a (s1.heap.objs.size + 1) s1.heap.objs.size, ⟨⟨.none, he⟩, hit, Nat.succ_ne_self _⟩, fun b hb => ?_, q⟩
      exact I1.fpOk (fpo b hb) (I1.hok.fresh (fpo b hb))
/-- enumerate over a list or a tuple -/
@[simp] def itEnumB (f : S → R (List D × S)) : S → R (List D × S) := fun ρ => f ρ >>= fun z => match z.1 with
  | [.lst ds] => .ok (enums ds, z.2)
  | [.tup ds] => .ok (enums ds, z.2)
  | _ => .no
section
variable {X : Cx} {E : WX} {e : Expr} {p pos : Pos}
theorem it_enumB {elts : List Expr} {kk : Nat} {tpos : Pos} {f : S → R (List D × S)} (hg : Gl X "enumerate") (hm : X.mg "enumerate" = none) (ha : PAs X E [e] f) (hs : starEach [e] X.env = [(false, eval e X.env)] := by rfl) :
    PIt X E (.Tuple elts kk tpos) (.Call (.Name "enumerate" p) [e] [] pos) (itEnumB f) := by
  obtain ⟨t, pa, s⟩ := ha.ex
  refine ⟨_, pi_enumB hg hm pa hs, fun G H σ ρ r Rr hw => s G H σ ρ r _ (hw.bind.mono (fun z hz q vs G' H' o rv => ?_) fun _ _ q => q)⟩
  obtain ⟨ds0, ρ'⟩ := z
  split at q
  · rename_i ds e
    have e' : ds0 = [.lst ds] := e
    subst e'
    obtain ⟨v, vs', rfl, h1, h2⟩ := repL_cons.mp rv
    unfold Rep at h1
    obtain ⟨a, xs, rfl, h3, h4⟩ := h1
    have h3' := o.rel.sub.ls h3
    refine ⟨a, by rw [repL_nil.mp h2], .inl ⟨⟨xs, SqL.of h3'⟩, q _ G' H' o ⟨fun H => SqL X.K H a xs, _, by rw [enums_len, h4.length]; exact walk_enum, fun H1 k => SqL.of (k a _ (by rw [h3]; simp) h3' nofun), fun i H x H' hi y G1 sg sb => ?_⟩⟩⟩
    obtain ⟨T, u, w, rfl, hT, rfl, e1, e2⟩ := y
    obtain ⟨d, ed, rd⟩ := h4.getV e2
    cases e1
    have hg1 : G1 T = none := sb.none hT
    refine ⟨.tup [.int i, d], enums_get ed, upd G1 T (.tup [.int i, w]), .inr ⟨T, .tup _, hT, nofun, rfl, rfl⟩, ?_⟩
    unfold Rep
    exact ⟨T, _, rfl, SqT.of upd_same, .cons rep_int (.cons (Rep.mono (sg.trans (same_new hg1)) _ rd) .nil)⟩
  · rename_i ds e
    have e' : ds0 = [.tup ds] := e
    subst e'
    obtain ⟨v, vs', rfl, h1, h2⟩ := repL_cons.mp rv
    unfold Rep at h1
    obtain ⟨a, xs, rfl, h3, h4⟩ := h1
    have h3' := o.rel.sub.t h3
    refine ⟨a, by rw [repL_nil.mp h2], .inr ⟨⟨xs, h3'⟩, q _ G' H' o ⟨fun H => SqT X.K H a xs, _, by rw [enums_len, h4.length]; exact walk_enumT, fun H1 k => tup_stays o.rel.sub h3 k, fun i H x H' hi y G1 sg sb => ?_⟩⟩⟩
    obtain ⟨T, u, w, rfl, hT, rfl, e1, e2⟩ := y
    obtain ⟨d, ed, rd⟩ := h4.getV e2
    cases e1
    have hg1 : G1 T = none := sb.none hT
    refine ⟨.tup [.int i, d], enums_get ed, upd G1 T (.tup [.int i, w]), .inr ⟨T, .tup _, hT, nofun, rfl, rfl⟩, ?_⟩
    unfold Rep
    exact ⟨T, _, rfl, SqT.of upd_same, .cons rep_int (.cons (Rep.mono (sg.trans (same_new hg1)) _ rd) .nil)⟩
  · exact q.elim
end
end BR
set_option Elab.async false
set_option linter.all false
set_option maxRecDepth 100000
set_option maxHeartbeats 4000000
namespace BR
open PySem L2
open PySem.W (Frag tabIn codeHdIn)
/-! ## the makers of a law -/
structure TbAt (K : Frag) (mg : Str → Option Value) (base : Heap) : Prop where
  tb : ∀ x ∈ mkrs, ∃ c P, tabIn K x = some (c, P) ∧ LamX.TabB base mg c P
def fTabs : Fct := fun K => mkrs.all fun x => mkrs.all fun y => decide (x = y) || !decide ((tabIn K x).map (·.2) = (tabIn K y).map (·.2))
section
variable {K : Frag} {x : Str} {c P : Addr}
theorem tbT_def : tbT K = mkrs.filterMap fun x => (tabIn K x).map fun q => (q.2, (x ++ ".<locals>.") ++ "<lambda>") := by unfold tbT; rfl
theorem tbT_mem (h : tabIn K x = some (c, P)) (hx : x ∈ mkrs) : (P, (x ++ ".<locals>.") ++ "<lambda>") ∈ tbT K := by
  rw [tbT_def]
  exact List.mem_filterMap.mpr ⟨x, hx, by rw [h]; rfl⟩
theorem tbT_uniq (f : fTabs K = true) (h : tabIn K x = some (c, P)) (hx : x ∈ mkrs) : ∀ p ∈ tbT K, p.1 = P → p.2 = (x ++ ".<locals>.") ++ "<lambda>" := by
  intro p hp e
  rw [tbT_def] at hp
  obtain ⟨y, hy, e2⟩ := List.mem_filterMap.mp hp
  cases q : tabIn K y with
  | none => rw [q] at e2; cases e2
  | some z =>
    rw [q] at e2
    cases e2
    have k := List.all_eq_true.mp (List.all_eq_true.mp f x hx) y hy
    rcases Bool.or_eq_true_iff.mp k with k | k
    · rw [of_decide_eq_true k]
    · exfalso
      rw [h, q] at k
      have : z.2 = P := e
      simp [this] at k
theorem tbOk_start {H : Hp} {ms : List Str} (hm : ms = mkrs) (m : ∀ x ∈ ms, ∃ c P, tabIn K x = some (c, P)) (h1 : ∀ p ∈ ms.filterMap (tabIn K), H p.2 = some (.tbl #[])) (h2 : ∀ b ps, H b = some (.tbl ps) → b ∈ (ms.filterMap (tabIn K)).map (·.2)) : TbOk K H := by
  subst hm
  refine ⟨fun p hp => ?_, fun b ps e => ?_⟩
  · rw [tbT_def] at hp
    obtain ⟨x, hx, e⟩ := List.mem_filterMap.mp hp
    obtain ⟨c, P, hc⟩ := m x hx
    rw [hc] at e
    cases e
    refine ⟨#[], h1 (c, P) (List.mem_filterMap.mpr ⟨x, hx, hc⟩), ?_, fun pos cv z => ?_⟩
    · first | trivial | exact PySem.TriplesOk_nil | (unfold PySem.TriplesOk; trivial)
    · cases z
  · obtain ⟨p, hp, rfl⟩ := List.mem_map.mp (h2 b ps e)
    obtain ⟨x, hx, hc⟩ := List.mem_filterMap.mp hp
    exact ⟨_, tbT_mem (c := p.1) (P := p.2) hc hx⟩
end
/-- the end of a law with makers -/
theorem end_TG {l : PySem.W.OpenLaw} {n k : Nat} {x : Str} {CX : CXT} {w : World} {K : Frag} {mg : Str → Option Value} {fa : Addr} {h : Heap} {fd : FuncData} {F : FT} (X : K.In h) (m : MkrsAt K mkrs h) (hb : ∀ (s : Shared) (u : Value), BindsTo s fd ⟨[u], []⟩ [(x, u)])
    (hlaw : ∀ ns : List Int, ns.length ≤ n → ∃ d, F [.scr ns] = .ok (.bl true, d)) (hF : ∀ base : Heap, TbAt K mg base → FnG l.prog w K mg base CX k fa fd [x] (spF K [false] false F)) : L2.LawAtG l w K CX k n x mg fa h := by
  have key : ∀ p ∈ mkrs.filterMap (tabIn K), ∃ y ∈ mkrs, tabIn K y = some p := fun p hp => List.mem_filterMap.mp hp
  refine ⟨fd, mkrs.filterMap (tabIn K), spF K [false] false F, fun p hp => ?_, fun p hp => ?_, fun p hp => ?_, hb, fun H a ns hl _ h1 h2 hS => ?_, fun base _ _ hT => hF base ⟨fun y hy => ?_⟩⟩
  · obtain ⟨y, hy, e⟩ := key p hp
    obtain ⟨c, P, a1, a2, a3, a4⟩ := m y hy
    rw [e] at a1; cases a1; exact a4
  · obtain ⟨y, hy, e⟩ := key p hp
    obtain ⟨c, P, a1, a2, a3, a4⟩ := m y hy
    rw [e] at a1; cases a1; exact a3
  · obtain ⟨y, hy, e⟩ := key p hp
    obtain ⟨c, P, a1, a2, a3, a4⟩ := m y hy
    rw [e] at a1; cases a1; exact PySem.W.codeHd_of_K X a2
  · obtain ⟨d, hd⟩ := hlaw ns hl
    exact sp_law hd hS (tbOk_start rfl (fun y hy => let ⟨c, P, a1, _⟩ := m y hy; ⟨c, P, a1⟩) h1 h2)
  · obtain ⟨c, P, a1, _⟩ := m y hy
    exact ⟨c, P, a1, hT (c, P) (List.mem_filterMap.mpr ⟨y, hy, a1⟩)⟩
end BR
set_option Elab.async false
set_option linter.all false
set_option maxRecDepth 100000
set_option maxHeartbeats 0
namespace LW
open PySem L2 BR
/-- _law_draw -/
noncomputable def B__law_draw (K : PySem.W.Frag) : SF := sSeq (sIf (tstV (eOp2 (dI fun i j => .bl (decide (j < i))) (eOp2 dIx (eVar 0) (eK (.int 0))) (eK (.int 0)))) (sSeq (sDraw 0 2 (eDivmod (hCons (eOp2 dIx (eVar 0) (eK (.int 0))) (hCons (eVar 1) (hNil)))))
    (sRet (eVar 2))) (sNil))
    (sSeq (sSetL 0 (eK (.int 1)) (eOp2 (dIc (fun _ j => 0 < j) fun i j => i % j) (eCB dInt (hCons (eOp2 dAdd (eOp2 dMulI (eOp2 dIx (eVar 0) (eK (.int 1))) (eK (.int 48271))) (eK (.int 12343))) (hNil))) (eK (.int 2147483587))))
    (sRet (eOp2 (dIc (fun _ j => 0 < j) fun i j => i % j) (eCB dInt (hCons (eOp2 (dIc CDiv fun i j => i / j) (eOp2 (dIc (fun _ j => 0 < j) fun i j => i % j) (eCB dInt (hCons (eOp2 dMulI (eOp2 dIx (eVar 0) (eK (.int 1))) (eOp2 dIx (eVar 0) (eK (.int 1)))) (hNil))) (eK (.int 2147483549))) (eK (.int 17))) (hNil))) (eVar 1))))
noncomputable def F__law_draw (K : PySem.W.Frag) : FT := runF [true, false] false 3 (B__law_draw K)
/-- is_integer -/
noncomputable def B_is_integer (K : PySem.W.Frag) : SF := sRet (eAnd (eCB (dIsi [.type "int"] plD isIntD) (hCons (eVar 0) (hCons (eK (.ty "int")) (hNil)))) (eNot (eCB (dIsi [.type "bool"] plD isBoolD) (hCons (eVar 0) (hCons (eK (.ty "bool")) (hNil))))))
noncomputable def F_is_integer (K : PySem.W.Frag) : FT := runF [false] false 1 (B_is_integer K)
/-- Rate.__init__ -/
noncomputable def B_Rate___init__ (K : PySem.W.Frag) : SF := sSeq (sFor (itTup (eTup (aCons (eV (eVar 1)) (aCons (eV (eVar 2)) (aNil))))) (gVar 3) (sIf (tOrF (tNotF (tstV (eCall false (F_is_integer K) (mSh (eVar 3) (mNil))))) (tNotF (tstV (eChain (fun i j => decide (i ≤ j)) (fun i j => decide (i ≤ j)) (eK (.int 1)) (eVar 3) (eK (.int 6)))))) (sNo) (sNil)))
    (sSeq (sFldS (He.ga K "Rate") 0 "rate_bits" (eVar 1))
    (sFldS (He.ga K "Rate") 0 "rate_signs" (eVar 2)))
noncomputable def F_Rate___init__ (K : PySem.W.Frag) : FT := runF [true, false, false] false 4 (B_Rate___init__ K)
/-- _law_pick -/
noncomputable def B__law_pick (K : PySem.W.Frag) : SF := sRet (eOp2 dIx (eVar 1) (eCall false (F__law_draw K) (mIo (eVar 0) (mSh (eCB dLen (hCons (eVar 1) (hNil))) (mNil)))))
noncomputable def F__law_pick (K : PySem.W.Frag) : FT := runF [true, false] false 2 (B__law_pick K)
/-- _law_packed -/
noncomputable def B__law_packed (K : PySem.W.Frag) : SF := sSeq (sAsg 2 (eOp2 dAdd (eVar 0) (eLst (aCons (eV (eK (.int 1))) (aNil)))))
    (sSeq (sWhile (tstV (eOp2 (dI fun i j => .bl (decide (j < i))) (eOp2 (dIc (fun _ j => 0 < j) fun i j => i % j) (eCB dLen (hCons (eVar 2) (hNil))) (eVar 1)) (eK (.int 0)))) (sDrop (eAppend 2 (eK (.int 0)))) 8000)
    (sSeq (sAsg 3 (eLst (aNil)))
    (sSeq (sFor (itRng3 (aCons (eV (eK (.int 0))) (aCons (eV (eCB dLen (hCons (eVar 2) (hNil)))) (aCons (eV (eVar 1)) (aNil))))) (gVar 4) (sSeq (sAsg 5 (eK (.int 0)))
    (sSeq (sFor (itSeq (eSl (eVar 2) (oSome (eVar 4)) (oSome (eOp2 dAdd (eVar 4) (eVar 1))))) (gVar 6) (sAsg 5 (eOp2 dAdd (eOp2 dMulI (eK (.int 2)) (eVar 5)) (eVar 6))))
    (sDrop (eAppend 3 (eVar 5))))))
    (sRet (eVar 3)))))
noncomputable def F__law_packed (K : PySem.W.Frag) : FT := runF [false, false] true 7 (B__law_packed K)
/-- want_rate -/
noncomputable def B_want_rate (K : PySem.W.Frag) : SF := sIf (tNotF (tstV (eCB (dIsi [.ref (He.ga K "Rate")] (insIn [He.ga K "Rate"]) (isIns (He.ga K "Rate"))) (hCons (eVar 0) (hCons (eK (.obj (He.ga K "Rate"))) (hNil)))))) (sRaise (He.ga K "InvalidRate") "value" (aCons (eV (eVar 0)) (aNil))) (sNil)
noncomputable def F_want_rate (K : PySem.W.Frag) : FT := runF [false] false 1 (B_want_rate K)
/-- is_list -/
noncomputable def B_is_list (K : PySem.W.Frag) : SF := sRet (eCB (dIsi [.type "list", .type "tuple"] plD isSeqD) (hCons (eVar 0) (hCons (eTup (aCons (eV (eK (.ty "list"))) (aCons (eV (eK (.ty "tuple"))) (aNil)))) (hNil))))
noncomputable def F_is_list (K : PySem.W.Frag) : FT := runF [false] false 1 (B_is_list K)
/-- want_bits -/
noncomputable def B_want_bits (K : PySem.W.Frag) : SF := sSeq (sIf (tOrF (tNotF (tstV (eCall false (F_is_list K) (mSh (eVar 0) (mNil))))) (tstV (eOp2 (dI fun i j => .bl (decide (j < i))) (eCB dLen (hCons (eVar 0) (hNil))) (eK (.int 1000))))) (sRaise (He.ga K "InvalidBits") "position" (aCons (eV (eK .non)) (aNil))) (sNil))
    (sFor (itEnumB (aCons (eV (eVar 0)) (aNil))) (gTupF 2 (gsCons (gVar 1) (gsCons (gVar 2) (gsNil)))) (sIf (tOrF (tNotF (tstV (eCall false (F_is_integer K) (mSh (eVar 2) (mNil))))) (tstV (eOp2 dNotIn (eVar 2) (eTup (aCons (eV (eK (.int 0))) (aCons (eV (eK (.int 1))) (aNil))))))) (sRaise (He.ga K "InvalidBits") "position" (aCons (eV (eVar 1)) (aNil))) (sNil)))
noncomputable def F_want_bits (K : PySem.W.Frag) : FT := runF [false] false 3 (B_want_bits K)
/-- Rate.p -/
noncomputable def B_Rate_p (K : PySem.W.Frag) : SF := sRet (eFld (He.ga K "Rate") "rate_bits" (eVar 0))
noncomputable def F_Rate_p (K : PySem.W.Frag) : FT := runF [false] false 1 (B_Rate_p K)
/-- packed -/
noncomputable def B_packed (K : PySem.W.Frag) : SF := sSeq (sDrop (eCall false (F_want_rate K) (mSh (eVar 0) (mNil))))
    (sSeq (sDrop (eCall false (F_want_bits K) (mSh (eVar 1) (mNil))))
    (sSeq (sAsg 2 (eOp2 dAdd (eCB dList (hCons (eVar 1) (hNil))) (eLst (aCons (eV (eK (.int 1))) (aNil)))))
    (sSeq (sAsg 2 (eOp2 dAdd (eVar 2) (eOp2 dMulI (eLst (aCons (eV (eK (.int 0))) (aNil))) (eOp2 (dIc (fun _ j => 0 < j) fun i j => i % j) (eOp1 dNeg (eCB dLen (hCons (eVar 2) (hNil)))) (eProp (He.ga K "Rate") false (F_Rate_p K) (eVar 0))))))
    (sSeq (sAsg 3 (eLst (aNil)))
    (sSeq (sFor (itRng3 (aCons (eV (eK (.int 0))) (aCons (eV (eCB dLen (hCons (eVar 2) (hNil)))) (aCons (eV (eProp (He.ga K "Rate") false (F_Rate_p K) (eVar 0))) (aNil))))) (gVar 4) (sSeq (sAsg 5 (eK (.int 0)))
    (sSeq (sFor (itSeq (eSl (eVar 2) (oSome (eVar 4)) (oSome (eOp2 dAdd (eVar 4) (eProp (He.ga K "Rate") false (F_Rate_p K) (eVar 0)))))) (gVar 6) (sAsg 5 (eOp2 dAdd (eOp2 dMulI (eK (.int 2)) (eVar 5)) (eVar 6))))
    (sDrop (eAppend 3 (eVar 5))))))
    (sRet (eVar 3)))))))
noncomputable def F_packed (K : PySem.W.Frag) : FT := runF [false, false] true 7 (B_packed K)
/-- is_count -/
noncomputable def B_is_count (K : PySem.W.Frag) : SF := sRet (eAnd (eCall false (F_is_integer K) (mSh (eVar 0) (mNil))) (eOp2 (dI fun i j => .bl (decide (j ≤ i))) (eVar 0) (eK (.int 0))))
noncomputable def F_is_count (K : PySem.W.Frag) : FT := runF [false] false 1 (B_is_count K)
/-- Rate.size -/
noncomputable def B_Rate_size (K : PySem.W.Frag) : SF := sRet (eOp2 (dIc CPow fun i j => i * 2 ^ j.toNat) (eK (.int 1)) (eFld (He.ga K "Rate") "rate_bits" (eVar 0)))
noncomputable def F_Rate_size (K : PySem.W.Frag) : FT := runF [false] false 1 (B_Rate_size K)
/-- is_word_of -/
noncomputable def B_is_word_of (K : PySem.W.Frag) : SF := sRet (eAnd (eCall false (F_is_count K) (mSh (eVar 1) (mNil))) (eOp2 (dI fun i j => .bl (decide (i < j))) (eVar 1) (eProp (He.ga K "Rate") false (F_Rate_size K) (eVar 0))))
noncomputable def F_is_word_of (K : PySem.W.Frag) : FT := runF [false, false] false 2 (B_is_word_of K)
/-- unpacked -/
noncomputable def B_unpacked (K : PySem.W.Frag) : SF := sSeq (sDrop (eCall false (F_want_rate K) (mSh (eVar 0) (mNil))))
    (sSeq (sIf (tOrF (tNotF (tstV (eCall false (F_is_list K) (mSh (eVar 1) (mNil))))) (tNotF (tstV (eChain (fun i j => decide (i ≤ j)) (fun i j => decide (i ≤ j)) (eK (.int 1)) (eCB dLen (hCons (eVar 1) (hNil))) (eK (.int 1200)))))) (sRaise (He.ga K "InvalidText") "position" (aCons (eV (eK .non)) (aNil))) (sNil))
    (sSeq (sFor (itEnumB (aCons (eV (eVar 1)) (aNil))) (gTupF 2 (gsCons (gVar 2) (gsCons (gVar 3) (gsNil)))) (sIf (tNotF (tstV (eCall false (F_is_word_of K) (mSh (eVar 0) (mSh (eVar 3) (mNil)))))) (sRaise (He.ga K "InvalidText") "position" (aCons (eV (eVar 2)) (aNil))) (sNil)))
    (sSeq (sIf (tstV (eOp2 dEq (eOp2 dIx (eVar 1) (eOp1 dNeg (eK (.int 1)))) (eK (.int 0)))) (sRaise (He.ga K "InvalidText") "position" (aCons (eV (eOp2 (dI fun i j => .int (i - j)) (eCB dLen (hCons (eVar 1) (hNil))) (eK (.int 1)))) (aNil))) (sNil))
    (sSeq (sAsg 4 (eLst (aNil)))
    (sSeq (sFor (itSeqB (eVar 1)) (gVar 3) (sDrop (eExtend 4 (eLc [5] (itRng3 (aCons (eV (eOp2 (dI fun i j => .int (i - j)) (eProp (He.ga K "Rate") false (F_Rate_p K) (eVar 0)) (eK (.int 1)))) (aCons (eV (eOp1 dNeg (eK (.int 1)))) (aCons (eV (eOp1 dNeg (eK (.int 1)))) (aNil))))) (gVar 5) pYes (eOp2 (dI fun i j => .int (Builtin.bitAnd i j)) (eOp2 (dIc (fun _ j => 0 ≤ j) fun i j => i / 2 ^ j.toNat) (eVar 3) (eVar 5)) (eK (.int 1)))))))
    (sSeq (sWhile (tstV (eOp2 dEq (eOp2 dIx (eVar 4) (eOp1 dNeg (eK (.int 1)))) (eK (.int 0)))) (sDrop (ePop 4)) 8000)
    (sRet (eSl (eVar 4) (oNone) (oSome (eOp1 dNeg (eK (.int 1))))))))))))
noncomputable def F_unpacked (K : PySem.W.Frag) : FT := runF [false, false] true 6 (B_unpacked K)
/-- _law_both_right -/
noncomputable def B__law_both_right (K : PySem.W.Frag) : SF := sSeq (sAsg 3 (eCall false (F__law_pick K) (mIo (eVar 0) (mSh (eLst (aCons (eV (eK (.int 0))) (aCons (eV (eK (.int 1))) (aCons (eV (eK (.int 2))) (aCons (eV (eOp2 (dI fun i j => .int (i - j)) (eVar 1) (eK (.int 1)))) (aCons (eV (eVar 1)) (aCons (eV (eCall false (F__law_draw K) (mIo (eVar 0) (mSh (eK (.int 40)) (mNil))))) (aCons (eV (eCall false (F__law_draw K) (mIo (eVar 0) (mSh (eK (.int 40)) (mNil))))) (aCons (eV (eOp2 dAdd (eK (.int 990)) (eCall false (F__law_draw K) (mIo (eVar 0) (mSh (eK (.int 11)) (mNil)))))) (aNil)))))))))) (mNil)))))
    (sSeq (sAsg 4 (eLc [5] (itRng1 (aCons (eV (eVar 3)) (aNil))) (gVar 5) pYes (eCall false (F__law_draw K) (mIo (eVar 0) (mSh (eK (.int 2)) (mNil))))))
    (sSeq (sPar [6, 7] (pCons (eCall true (F__law_packed K) (mSh (eVar 4) (mSh (eVar 1) (mNil)))) (pCons (eCB dList (hCons (eVar 4) (hNil))) (pNil))))
    (sSeq (sAsg 8 (eLstT (tCons (eCall true (F_packed K) (mSh (eVar 2) (mSh (eVar 4) (mNil)))) (tCons (eCall true (F_packed K) (mSh (eVar 2) (mSh (eTupOf (hCons (eVar 4) (hNil))) (mNil)))) (tCons (eCallSw true (F_packed K) (aCons (eV (eVar 4)) (aCons (eV (eVar 2)) (aNil)))) (tNil))))))
    (sSeq (sIf (tOrF (tstV (eOp2 dNe (eCBq qRepr (eVar 8)) (eCB dRepr (hCons (eLst (aCons (eV (eVar 6)) (aCons (eV (eVar 6)) (aCons (eV (eVar 6)) (aNil))))) (hNil))))) (tstV (eOp2 dNe (eVar 4) (eVar 7)))) (sRet (eK (.bl false))) (sNil))
    (sSeq (sAppT (eIxT (eVar 8) (eK (.int 0))) (eK (.int 9)))
    (sSeq (sAsg 9 (eLstT (tCons (eCall true (F_unpacked K) (mSh (eVar 2) (mSh (eVar 6) (mNil)))) (tCons (eCallSw true (F_unpacked K) (aCons (eV (eTupOf (hCons (eVar 6) (hNil)))) (aCons (eV (eVar 2)) (aNil)))) (tNil)))))
    (sSeq (sIf (tOrF (tstV (eOp2 dNe (eCBq qRepr (eVar 9)) (eCB dRepr (hCons (eLst (aCons (eV (eVar 4)) (aCons (eV (eVar 4)) (aNil)))) (hNil))))) (tstV (eOp2 dNe (eCB dRepr (hCons (eCall true (F_packed K) (mSh (eVar 2) (mSh (eVar 4) (mNil)))) (hNil))) (eCB dRepr (hCons (eVar 6) (hNil)))))) (sRet (eK (.bl false))) (sNil))
    (sSeq (sAppT (eIxT (eVar 9) (eK (.int 0))) (eK (.int 1)))
    (sRet (eOp2 dEq (eCB dRepr (hCons (eCall true (F_unpacked K) (mSh (eVar 2) (mSh (eVar 6) (mNil)))) (hNil))) (eCB dRepr (hCons (eVar 7) (hNil)))))))))))))
noncomputable def F__law_both_right (K : PySem.W.Frag) : FT := runF [true, false, false] false 10 (B__law_both_right K)
/-- _law_told -/
noncomputable def B__law_told (K : PySem.W.Frag) : TB0 := fun f0 G0 H0 r0 => sSeq (sAsg 1 (eLst (aCons (eV (eK (.str "let"))) (aNil))))
    (sSeq (sTry K (sDrop (eThk 0 f0 G0 H0 r0)) [⟨.ref (He.ga K "InvalidRate"), 2, fun a0 G1 H1 x0 => sAsg 1 (eLst (aCons (eV (eK (.str "pace"))) (aCons (eV (eXf 2 a0 G1 H1 x0 (He.ga K "InvalidRate") "value")) (aCons (eV (eXis K 2 a0 G1 H1 x0 (He.ga K "InvalidRate") [.ref (He.ga K "BarredError")] (eK (.obj (He.ga K "BarredError"))))) (aNil)))))⟩, ⟨.ref (He.ga K "InvalidBits"), 2, fun a0 G1 H1 x0 => sAsg 1 (eLst (aCons (eV (eK (.str "bits"))) (aCons (eV (eXf 2 a0 G1 H1 x0 (He.ga K "InvalidBits") "position")) (aCons (eV (eXis K 2 a0 G1 H1 x0 (He.ga K "InvalidBits") [.ref (He.ga K "BarredError")] (eK (.obj (He.ga K "BarredError"))))) (aNil)))))⟩, ⟨.ref (He.ga K "InvalidText"), 2, fun a0 G1 H1 x0 => sAsg 1 (eLst (aCons (eV (eK (.str "words"))) (aCons (eV (eXf 2 a0 G1 H1 x0 (He.ga K "InvalidText") "position")) (aCons (eV (eXis K 2 a0 G1 H1 x0 (He.ga K "InvalidText") [.ref (He.ga K "BarredError")] (eK (.obj (He.ga K "BarredError"))))) (aNil)))))⟩])
    (sRet (eVar 1)))
/-- _law_spread -/
noncomputable def B__law_spread (K : PySem.W.Frag) : SF := sSeq (sAsg 2 (eLst (aNil)))
    (sSeq (sFor (itSeq (eVar 0)) (gVar 3) (sDrop (eExtend 2 (eLc [4] (itRng3 (aCons (eV (eOp2 (dI fun i j => .int (i - j)) (eVar 1) (eK (.int 1)))) (aCons (eV (eOp1 dNeg (eK (.int 1)))) (aCons (eV (eOp1 dNeg (eK (.int 1)))) (aNil))))) (gVar 4) pYes (eOp2 (dIc (fun _ j => 0 < j) fun i j => i % j) (eCB dInt (hCons (eOp2 (dIc CDiv fun i j => i / j) (eVar 3) (eOp2 (dIc CPow fun i j => i * 2 ^ j.toNat) (eK (.int 1)) (eVar 4))) (hNil))) (eK (.int 2)))))))
    (sRet (eVar 2)))
noncomputable def F__law_spread (K : PySem.W.Frag) : FT := runF [false, false] true 5 (B__law_spread K)
/-- _law_unpacked -/
noncomputable def B__law_unpacked (K : PySem.W.Frag) : SF := sSeq (sAsg 2 (eCall true (F__law_spread K) (mSh (eVar 0) (mSh (eVar 1) (mNil)))))
    (sSeq (sWhile (tstV (eOp2 dEq (eOp2 dIx (eVar 2) (eOp1 dNeg (eK (.int 1)))) (eK (.int 0)))) (sDrop (ePop 2)) 8000)
    (sRet (eSl (eVar 2) (oNone) (oSome (eOp1 dNeg (eK (.int 1)))))))
noncomputable def F__law_unpacked (K : PySem.W.Frag) : FT := runF [false, false] true 3 (B__law_unpacked K)
/-- _law_texts_right -/
noncomputable def B__law_texts_right (K : PySem.W.Frag) : SF := sSeq (sAsg 3 (eCall false (F__law_pick K) (mIo (eVar 0) (mSh (eLst (aCons (eV (eK (.int 1))) (aCons (eV (eK (.int 2))) (aCons (eV (eOp2 dAdd (eK (.int 1)) (eCall false (F__law_draw K) (mIo (eVar 0) (mSh (eK (.int 30)) (mNil)))))) (aCons (eV (eOp2 dAdd (eK (.int 1)) (eCall false (F__law_draw K) (mIo (eVar 0) (mSh (eK (.int 30)) (mNil)))))) (aCons (eV (eOp2 dAdd (eK (.int 1)) (eCall false (F__law_draw K) (mIo (eVar 0) (mSh (eK (.int 30)) (mNil)))))) (aCons (eV (eK (.int 1200))) (aNil)))))))) (mNil)))))
    (sSeq (sAsg 4 (eLc [5] (itRng1 (aCons (eV (eVar 3)) (aNil))) (gVar 5) pYes (eCall false (F__law_draw K) (mIo (eVar 0) (mSh (eOp2 (dIc CPow fun i j => i * 2 ^ j.toNat) (eK (.int 1)) (eVar 1)) (mNil))))))
    (sSeq (sIf (tstV (eOp2 dEq (eCall false (F__law_draw K) (mIo (eVar 0) (mSh (eK (.int 3)) (mNil)))) (eK (.int 0)))) (sSetL 4 (eOp1 dNeg (eK (.int 1))) (eCall false (F__law_pick K) (mIo (eVar 0) (mSh (eLst (aCons (eV (eK (.int 0))) (aCons (eV (eK (.int 1))) (aCons (eV (eOp2 (dI fun i j => .int (i - j)) (eOp2 (dIc CPow fun i j => i * 2 ^ j.toNat) (eK (.int 1)) (eVar 1)) (eK (.int 1)))) (aCons (eV (eOp2 (dIc CPow fun i j => i * 2 ^ j.toNat) (eK (.int 1)) (eOp2 (dI fun i j => .int (i - j)) (eVar 1) (eK (.int 1))))) (aNil)))))) (mNil))))) (sNil))
    (sSeq (sIf (tstV (eOp2 dEq (eOp2 dIx (eVar 4) (eOp1 dNeg (eK (.int 1)))) (eK (.int 0)))) (sRet (eOp2 dEq (eFrz [2, 4] (eLam 3 (B__law_told K) (eCall true (F_unpacked K) (mSh (eVar 2) (mSh (eVar 4) (mNil)))))) (eLst (aCons (eV (eK (.str "words"))) (aCons (eV (eOp2 (dI fun i j => .int (i - j)) (eVar 3) (eK (.int 1)))) (aCons (eV (eK (.bl true))) (aNil))))))) (sNil))
    (sSeq (sAsg 6 (eCall true (F__law_unpacked K) (mSh (eVar 4) (mSh (eVar 1) (mNil)))))
    (sSeq (sIf (tstV (eOp2 dNe (eCB dRepr (hCons (eCall true (F_unpacked K) (mSh (eVar 2) (mSh (eVar 4) (mNil)))) (hNil))) (eCB dRepr (hCons (eVar 6) (hNil))))) (sRet (eK (.bl false))) (sNil))
    (sRet (eOr (eOp2 (dI fun i j => .bl (decide (j < i))) (eCB dLen (hCons (eVar 6) (hNil))) (eK (.int 1000))) (eOp2 dEq (eCB dRepr (hCons (eCall true (F_packed K) (mSh (eVar 2) (mSh (eVar 6) (mNil)))) (hNil))) (eCB dRepr (hCons (eVar 4) (hNil)))))))))))
noncomputable def F__law_texts_right (K : PySem.W.Frag) : FT := runF [true, false, false] false 7 (B__law_texts_right K)
/-- _law_refused -/
noncomputable def B__law_refused (K : PySem.W.Frag) : SF := sSeq (sAsg 3 (eCall false (F__law_pick K) (mIo (eVar 0) (mSh (eLst (aCons (eV (eK .non)) (aCons (eV (eK (.int 0))) (aCons (eV (eTup (aCons (eV (eVar 1)) (aCons (eV (eVar 1)) (aNil))))) (aCons (eV (eK (.str "1:1"))) (aCons (eV (eLst (aNil))) (aCons (eV (eK (.bl true))) (aNil)))))))) (mNil)))))
    (sSeq (sPar [4, 5] (pCons (eOp2 (dIc CPow fun i j => i * 2 ^ j.toNat) (eK (.int 1)) (eVar 1)) (pCons (eLc [6] (itRng1 (aCons (eV (eK (.int 4))) (aNil))) (gVar 6) pYes (eCall false (F__law_draw K) (mIo (eVar 0) (mSh (eK (.int 2)) (mNil))))) (pNil))))
    (sSeq (sAsg 7 (eCall false (F__law_draw K) (mIo (eVar 0) (mSh (eK (.int 5)) (mNil)))))
    (sSeq (sAsg 8 (eCall false (F__law_pick K) (mIo (eVar 0) (mSh (eLst (aCons (eV (eK (.int 2))) (aCons (eV (eOp1 dNeg (eK (.int 1)))) (aCons (eV (eK (.bl true))) (aCons (eV (eK (.bl false))) (aCons (eV (eK .non)) (aCons (eV (eK (.str "1"))) (aCons (eV (eLst (aCons (eV (eK (.int 1))) (aNil)))) (aCons (eV (eOp2 (dIc CPow fun i j => i ^ j.toNat) (eK (.int 10)) (eK (.int 30)))) (aNil)))))))))) (mNil)))))
    (sSeq (sAsg 9 (eOp2 dAdd (eOp2 dAdd (eOp2 dAdd (eSl (eVar 5) (oNone) (oSome (eVar 7))) (eLst (aCons (eV (eVar 8)) (aNil)))) (eSl (eVar 5) (oSome (eVar 7)) (oNone))) (eLst (aCons (eV (eK (.int 7))) (aCons (eV (eK .non)) (aNil))))))
    (sSeq (sAsg 10 (eCall false (F__law_pick K) (mIo (eVar 0) (mSh (eLst (aCons (eV (eK .non)) (aCons (eV (eK (.int 0))) (aCons (eV (eK (.str ""))) (aCons (eV (eK (.str "01"))) (aCons (eV (eDic0)) (aCons (eV (eDic1 (.int 0) (.int 1))) (aCons (eV (eK (.bl true))) (aCons (eV (eOp2 dMulI (eLst (aCons (eV (eK (.int 0))) (aNil))) (eK (.int 1001)))) (aCons (eV (eRepT (eTup (aCons (eV (eK (.int 1))) (aNil))) (eK (.int 1001)))) (aCons (eV (eK (.int 1))) (aNil)))))))))))) (mNil)))))
    (sSeq (sAsg 11 (eLst (aCons (eV (eFrz [3, 10] (eLam 3 (B__law_told K) (eCall true (F_packed K) (mSh (eVar 3) (mSh (eVar 10) (mNil))))))) (aNil))))
    (sSeq (sDrop (eAppend 11 (eFrz [2, 10] (eLam 3 (B__law_told K) (eCall true (F_packed K) (mSh (eVar 2) (mSh (eVar 10) (mNil))))))))
    (sSeq (sDrop (eAppend 11 (eFrz [2, 9] (eLam 3 (B__law_told K) (eCall true (F_packed K) (mSh (eVar 2) (mSh (eVar 9) (mNil))))))))
    (sSeq (sDrop (eAppend 11 (eFrz [2] (eLam 3 (B__law_told K) (eCall true (F_packed K) (mSh (eVar 2) (mSh (eOp2 dMulI (eLst (aCons (eV (eK (.int 0))) (aNil))) (eK (.int 1000))) (mNil))))))))
    (sSeq (sAsg 8 (eCall false (F__law_pick K) (mIo (eVar 0) (mSh (eLst (aCons (eV (eVar 4)) (aCons (eV (eOp1 dNeg (eK (.int 1)))) (aCons (eV (eK (.bl true))) (aCons (eV (eK (.bl false))) (aCons (eV (eK .non)) (aCons (eV (eK (.str "1"))) (aCons (eV (eLst (aCons (eV (eK (.int 1))) (aNil)))) (aCons (eV (eOp2 (dIc CPow fun i j => i ^ j.toNat) (eK (.int 10)) (eK (.int 30)))) (aNil)))))))))) (mNil)))))
    (sSeq (sAsg 12 (eOp2 dAdd (eOp2 dAdd (eOp2 dAdd (eSl (eVar 5) (oNone) (oSome (eVar 7))) (eLst (aCons (eV (eVar 8)) (aNil)))) (eSl (eVar 5) (oSome (eVar 7)) (oNone))) (eLst (aCons (eV (eOp1 dNeg (eK (.int 1)))) (aNil)))))
    (sSeq (sAsg 13 (eCall false (F__law_pick K) (mIo (eVar 0) (mSh (eLst (aCons (eV (eK .non)) (aCons (eV (eK (.int 0))) (aCons (eV (eK (.str ""))) (aCons (eV (eK (.str "01"))) (aCons (eV (eDic0)) (aCons (eV (eLst (aNil))) (aCons (eV (eTup (aNil))) (aCons (eV (eK (.bl true))) (aCons (eV (eOp2 dMulI (eLst (aCons (eV (eK (.int 1))) (aNil))) (eK (.int 1201)))) (aCons (eV (eK (.int 1))) (aNil)))))))))))) (mNil)))))
    (sSeq (sDrop (eAppend 11 (eFrz [3, 13] (eLam 3 (B__law_told K) (eCall true (F_unpacked K) (mSh (eVar 3) (mSh (eVar 13) (mNil))))))))
    (sSeq (sDrop (eAppend 11 (eFrz [2, 13] (eLam 3 (B__law_told K) (eCall true (F_unpacked K) (mSh (eVar 2) (mSh (eVar 13) (mNil))))))))
    (sSeq (sDrop (eAppend 11 (eFrz [2, 12] (eLam 3 (B__law_told K) (eCall true (F_unpacked K) (mSh (eVar 2) (mSh (eVar 12) (mNil))))))))
    (sSeq (sDrop (eAppend 11 (eFrz [2, 5] (eLam 3 (B__law_told K) (eCall true (F_unpacked K) (mSh (eVar 2) (mSh (eOp2 dAdd (eVar 5) (eLst (aCons (eV (eK (.int 0))) (aNil)))) (mNil))))))))
    (sSeq (sAsg 14 (eLst (aCons (eV (eLst (aCons (eV (eK (.str "pace"))) (aCons (eV (eVar 3)) (aCons (eV (eK (.bl true))) (aNil)))))) (aCons (eV (eLst (aCons (eV (eK (.str "bits"))) (aCons (eV (eK .non)) (aCons (eV (eK (.bl true))) (aNil)))))) (aCons (eV (eLst (aCons (eV (eK (.str "bits"))) (aCons (eV (eVar 7)) (aCons (eV (eK (.bl true))) (aNil)))))) (aCons (eV (eLst (aCons (eV (eK (.str "let"))) (aNil)))) (aNil)))))))
    (sSeq (sAsg 14 (eOp2 dAdd (eVar 14) (eLst (aCons (eV (eLst (aCons (eV (eK (.str "pace"))) (aCons (eV (eVar 3)) (aCons (eV (eK (.bl true))) (aNil)))))) (aCons (eV (eLst (aCons (eV (eK (.str "words"))) (aCons (eV (eK .non)) (aCons (eV (eK (.bl true))) (aNil)))))) (aCons (eV (eLst (aCons (eV (eK (.str "words"))) (aCons (eV (eVar 7)) (aCons (eV (eK (.bl true))) (aNil)))))) (aCons (eV (eLst (aCons (eV (eK (.str "words"))) (aCons (eV (eK (.int 4))) (aCons (eV (eK (.bl true))) (aNil)))))) (aNil))))))))
    (sRet (eOp2 dEq (eCB dRepr (hCons (eVar 11) (hNil))) (eCB dRepr (hCons (eVar 14) (hNil)))))))))))))))))))))))
noncomputable def F__law_refused (K : PySem.W.Frag) : FT := runF [true, false, false] false 15 (B__law_refused K)
/-- _law_right -/
noncomputable def B__law_right (K : PySem.W.Frag) : SF := sSeq (sAsg 1 (eOp2 dAdd (eK (.int 1)) (eCall false (F__law_draw K) (mIo (eVar 0) (mSh (eK (.int 6)) (mNil))))))
    (sSeq (sAsg 2 (eMake (He.ga K "Rate") (F_Rate___init__ K) [] (aCons (eV (eVar 1)) (aCons (eV (eOp2 dAdd (eK (.int 1)) (eCall false (F__law_draw K) (mIo (eVar 0) (mSh (eK (.int 6)) (mNil)))))) (aNil)))))
    (sSeq (sFor (itRng1 (aCons (eV (eK (.int 3))) (aNil))) (gVar 3) (sIf (tOrF (tNotF (tstV (eCall false (F__law_both_right K) (mIo (eVar 0) (mSh (eVar 1) (mSh (eVar 2) (mNil))))))) (tNotF (tstV (eCall false (F__law_texts_right K) (mIo (eVar 0) (mSh (eVar 1) (mSh (eVar 2) (mNil)))))))) (sRet (eK (.bl false))) (sNil)))
    (sRet (eCall false (F__law_refused K) (mIo (eVar 0) (mSh (eVar 1) (mSh (eVar 2) (mNil))))))))
noncomputable def F__law_right (K : PySem.W.Frag) : FT := runF [true] false 4 (B__law_right K)
/-- _law_pot -/
noncomputable def B__law_pot (K : PySem.W.Frag) : SF := sSeq (sAsg 2 (eOp2 dAdd (eOp2 dMulI (eK (.int 31)) (eVar 1)) (eK (.int 17))))
    (sSeq (sIf (tstV (eOp2 (dI fun i j => .bl (decide (i < j))) (eVar 1) (eCB dLen (hCons (eVar 0) (hNil))))) (sAsg 2 (eCB dAbs (hCons (eOp2 dIx (eVar 0) (eVar 1)) (hNil)))) (sNil))
    (sRet (eLst (aCons (eV (eCB dMax (hCons (eK (.int 0)) (hCons (eOp2 (dI fun i j => .int (i - j)) (eVar 2) (eOp2 (dIc CPow fun i j => i ^ j.toNat) (eK (.int 10)) (eK (.int 18)))) (hNil))))) (aCons (eV (eOp2 dAdd (eOp2 (dIc (fun _ j => 0 < j) fun i j => i % j) (eOp2 dMulI (eCB dInt (hCons (eOp2 dAdd (eOp2 (dIc (fun _ j => 0 < j) fun i j => i % j) (eCB dInt (hCons (eVar 2) (hNil))) (eK (.int 2147483549))) (eK (.int 5))) (hNil))) (eOp2 (dIc CPow fun i j => i ^ j.toNat) (eOp2 dAdd (eOp2 dMulI (eK (.int 2)) (eVar 1)) (eK (.int 3))) (eK (.int 3)))) (eK (.int 2147483477))) (eK (.int 1)))) (aNil))))))
noncomputable def F__law_pot (K : PySem.W.Frag) : FT := runF [false, false] true 3 (B__law_pot K)
/-- law -/
noncomputable def B_law (K : PySem.W.Frag) : SF := sRet (eCB dAll (hCons (eLc [1] (itRng1 (aCons (eV (eCB dMax (hCons (eK (.int 1)) (hCons (eCB dMin (hCons (eK (.int 5)) (hCons (eCB dLen (hCons (eVar 0) (hNil))) (hNil)))) (hNil))))) (aNil))) (gVar 1) pYes (eCall false (F__law_right K) (mIo (eCall true (F__law_pot K) (mSh (eVar 0) (mSh (eVar 1) (mNil)))) (mNil)))) (hNil)))
noncomputable def F_law (K : PySem.W.Frag) : FT := runF [false] false 2 (B_law K)
def top (i : Nat) : Stmt := PySem.Challenge.pw_barredrows_k90_whole_bits_packed.main.body.getD i (.Pass ⟨0, 0, 0, 0⟩)
structure M (K : PySem.W.Frag) (mg : Str → Option Value) where
  fd__law_draw : FuncData
  F__law_draw : FunD K "_law_draw" "_law_draw" (defArgs (top 27)) (defBody (top 27)) (defScope (top 27)) [] [] (He.ga K "_law_draw") fd__law_draw
  fd_is_integer : FuncData
  F_is_integer : FunD K "is_integer" "is_integer" (defArgs (top 9)) (defBody (top 9)) (defScope (top 9)) [] [] (He.ga K "is_integer") fd_is_integer
  fd_Rate___init__ : FuncData
  F_Rate___init__ : FunD K "__init__" "Rate.__init__" (defArgs (inClass (top 15) 0)) (defBody (inClass (top 15) 0)) (defScope (inClass (top 15) 0)) [] [] (He.ma K (He.ga K "Rate") "__init__") fd_Rate___init__
  fd__law_pick : FuncData
  F__law_pick : FunD K "_law_pick" "_law_pick" (defArgs (top 28)) (defBody (top 28)) (defScope (top 28)) [] [] (He.ga K "_law_pick") fd__law_pick
  fd__law_packed : FuncData
  F__law_packed : FunD K "_law_packed" "_law_packed" (defArgs (top 29)) (defBody (top 29)) (defScope (top 29)) [] [] (He.ga K "_law_packed") fd__law_packed
  fd_want_rate : FuncData
  F_want_rate : FunD K "want_rate" "want_rate" (defArgs (top 16)) (defBody (top 16)) (defScope (top 16)) [] [] (He.ga K "want_rate") fd_want_rate
  fd_is_list : FuncData
  F_is_list : FunD K "is_list" "is_list" (defArgs (top 11)) (defBody (top 11)) (defScope (top 11)) [] [] (He.ga K "is_list") fd_is_list
  fd_want_bits : FuncData
  F_want_bits : FunD K "want_bits" "want_bits" (defArgs (top 22)) (defBody (top 22)) (defScope (top 22)) [] [] (He.ga K "want_bits") fd_want_bits
  fd_Rate_p : FuncData
  F_Rate_p : FunD K "p" "Rate.p" (defArgs (inClass (top 15) 1)) (defBody (inClass (top 15) 1)) (defScope (inClass (top 15) 1)) [] [] (He5.wf K (He.ga K "Rate") "property" "p") fd_Rate_p
  fd_packed : FuncData
  F_packed : FunD K "packed" "packed" (defArgs (top 23)) (defBody (top 23)) (defScope (top 23)) [] [] (He.ga K "packed") fd_packed
  fd_is_count : FuncData
  F_is_count : FunD K "is_count" "is_count" (defArgs (top 10)) (defBody (top 10)) (defScope (top 10)) [] [] (He.ga K "is_count") fd_is_count
  fd_Rate_size : FuncData
  F_Rate_size : FunD K "size" "Rate.size" (defArgs (inClass (top 15) 3)) (defBody (inClass (top 15) 3)) (defScope (inClass (top 15) 3)) [] [] (He5.wf K (He.ga K "Rate") "property" "size") fd_Rate_size
  fd_is_word_of : FuncData
  F_is_word_of : FunD K "is_word_of" "is_word_of" (defArgs (top 18)) (defBody (top 18)) (defScope (top 18)) [] [] (He.ga K "is_word_of") fd_is_word_of
  fd_unpacked : FuncData
  F_unpacked : FunD K "unpacked" "unpacked" (defArgs (top 24)) (defBody (top 24)) (defScope (top 24)) [] [] (He.ga K "unpacked") fd_unpacked
  fd__law_both_right : FuncData
  F__law_both_right : FunD K "_law_both_right" "_law_both_right" (defArgs (top 33)) (defBody (top 33)) (defScope (top 33)) [] [] (He.ga K "_law_both_right") fd__law_both_right
  fd__law_told : FuncData
  F__law_told : FunD K "_law_told" "_law_told" (defArgs (top 32)) (defBody (top 32)) (defScope (top 32)) [] [] (He.ga K "_law_told") fd__law_told
  fd__law_spread : FuncData
  F__law_spread : FunD K "_law_spread" "_law_spread" (defArgs (top 30)) (defBody (top 30)) (defScope (top 30)) [] [] (He.ga K "_law_spread") fd__law_spread
  fd__law_unpacked : FuncData
  F__law_unpacked : FunD K "_law_unpacked" "_law_unpacked" (defArgs (top 31)) (defBody (top 31)) (defScope (top 31)) [] [] (He.ga K "_law_unpacked") fd__law_unpacked
  fd__law_texts_right : FuncData
  F__law_texts_right : FunD K "_law_texts_right" "_law_texts_right" (defArgs (top 34)) (defBody (top 34)) (defScope (top 34)) [] [] (He.ga K "_law_texts_right") fd__law_texts_right
  fd__law_refused : FuncData
  F__law_refused : FunD K "_law_refused" "_law_refused" (defArgs (top 35)) (defBody (top 35)) (defScope (top 35)) [] [] (He.ga K "_law_refused") fd__law_refused
  fd__law_right : FuncData
  F__law_right : FunD K "_law_right" "_law_right" (defArgs (top 36)) (defBody (top 36)) (defScope (top 36)) [] [] (He.ga K "_law_right") fd__law_right
  fd__law_pot : FuncData
  F__law_pot : FunD K "_law_pot" "_law_pot" (defArgs (top 26)) (defBody (top 26)) (defScope (top 26)) [] [] (He.ga K "_law_pot") fd__law_pot
  fd_law : FuncData
  F_law : FunD K "law" "law" (defArgs (top 37)) (defBody (top 37)) (defScope (top 37)) [] [] (He.ga K "law") fd_law
  fd_InvalidRate___init__ : FuncData
  F_InvalidRate___init__ : FunD K "__init__" "InvalidRate.__init__" (defArgs (inClass (top 3) 0)) (defBody (inClass (top 3) 0)) (defScope (inClass (top 3) 0)) [] [] (He.ma K (He.ga K "InvalidRate") "__init__") fd_InvalidRate___init__
  fd_InvalidBits___init__ : FuncData
  F_InvalidBits___init__ : FunD K "__init__" "InvalidBits.__init__" (defArgs (inClass (top 5) 0)) (defBody (inClass (top 5) 0)) (defScope (inClass (top 5) 0)) [] [] (He.ma K (He.ga K "InvalidBits") "__init__") fd_InvalidBits___init__
  fd_InvalidText___init__ : FuncData
  F_InvalidText___init__ : FunD K "__init__" "InvalidText.__init__" (defArgs (inClass (top 4) 0)) (defBody (inClass (top 4) 0)) (defScope (inClass (top 4) 0)) [] [] (He.ma K (He.ga K "InvalidText") "__init__") fd_InvalidText___init__
  g__law_right : mg "_law_right" = some (.ref (He.ga K "_law_right"))
  g__law_draw : mg "_law_draw" = some (.ref (He.ga K "_law_draw"))
  g_is_integer : mg "is_integer" = some (.ref (He.ga K "is_integer"))
  g_Rate : mg "Rate" = some (.ref (He.ga K "Rate"))
  g__law_both_right : mg "_law_both_right" = some (.ref (He.ga K "_law_both_right"))
  g__law_pick : mg "_law_pick" = some (.ref (He.ga K "_law_pick"))
  g__law_packed : mg "_law_packed" = some (.ref (He.ga K "_law_packed"))
  g_packed : mg "packed" = some (.ref (He.ga K "packed"))
  g_want_rate : mg "want_rate" = some (.ref (He.ga K "want_rate"))
  g_InvalidRate : mg "InvalidRate" = some (.ref (He.ga K "InvalidRate"))
  g_want_bits : mg "want_bits" = some (.ref (He.ga K "want_bits"))
  g_is_list : mg "is_list" = some (.ref (He.ga K "is_list"))
  g_InvalidBits : mg "InvalidBits" = some (.ref (He.ga K "InvalidBits"))
  g_unpacked : mg "unpacked" = some (.ref (He.ga K "unpacked"))
  g_InvalidText : mg "InvalidText" = some (.ref (He.ga K "InvalidText"))
  g_is_word_of : mg "is_word_of" = some (.ref (He.ga K "is_word_of"))
  g_is_count : mg "is_count" = some (.ref (He.ga K "is_count"))
  g__law_texts_right : mg "_law_texts_right" = some (.ref (He.ga K "_law_texts_right"))
  g__law_told : mg "_law_told" = some (.ref (He.ga K "_law_told"))
  g_BarredError : mg "BarredError" = some (.ref (He.ga K "BarredError"))
  g__law_unpacked : mg "_law_unpacked" = some (.ref (He.ga K "_law_unpacked"))
  g__law_spread : mg "_law_spread" = some (.ref (He.ga K "_law_spread"))
  g__law_refused : mg "_law_refused" = some (.ref (He.ga K "_law_refused"))
  g__law_pot : mg "_law_pot" = some (.ref (He.ga K "_law_pot"))
  g_law : mg "law" = some (.ref (He.ga K "law"))
  f_all : mg "all" = none
  f_range : mg "range" = none
  f_max : mg "max" = none
  f_min : mg "min" = none
  f_len : mg "len" = none
  f_divmod : mg "divmod" = none
  f_int : mg "int" = none
  f_isinstance : mg "isinstance" = none
  f_bool : mg "bool" = none
  f_list : mg "list" = none
  f_tuple : mg "tuple" = none
  f_enumerate : mg "enumerate" = none
  f_repr : mg "repr" = none
  f_abs : mg "abs" = none
  i_MOST_PART : ∃ t, mg "MOST_PART" = some (.int 6 t)
  i_MOST_BITS : ∃ t, mg "MOST_BITS" = some (.int 1000 t)
  i_MOST_WORDS : ∃ t, mg "MOST_WORDS" = some (.int 1200 t)
  c_Rate : Cls K (He.ga K "Rate")
  na_Rate_rate_bits : NoAttr K (He.ga K "Rate") "rate_bits"
  na_Rate_rate_signs : NoAttr K (He.ga K "Rate") "rate_signs"
  mk_Rate : Mk K (He.ga K "Rate") (He.ma K (He.ga K "Rate") "__init__")
  pr_Rate_p : PropOf K (He.ga K "Rate") "p" (He.ma K (He.ga K "Rate") "p") (He5.wf K (He.ga K "Rate") "property" "p")
  pr_Rate_size : PropOf K (He.ga K "Rate") "size" (He.ma K (He.ga K "Rate") "size") (He5.wf K (He.ga K "Rate") "property" "size")
  ig_Rate : IsG K (He.ga K "Rate") [He.ga K "Rate"]
  xm_InvalidRate : ExcM K (He.ga K "InvalidRate") (He.ma K (He.ga K "InvalidRate") "__init__") "value"
  xm_InvalidBits : ExcM K (He.ga K "InvalidBits") (He.ma K (He.ga K "InvalidBits") "__init__") "position"
  xm_InvalidText : ExcM K (He.ga K "InvalidText") (He.ma K (He.ga K "InvalidText") "__init__") "position"
  xf_InvalidRate : XfC K (He.ga K "InvalidRate")
  xf_InvalidBits : XfC K (He.ga K "InvalidBits")
  xf_InvalidText : XfC K (He.ga K "InvalidText")
  xi_InvalidRate : XiC K (He.ga K "InvalidRate")
  xi_InvalidBits : XiC K (He.ga K "InvalidBits")
  xi_InvalidText : XiC K (He.ga K "InvalidText")
  ex_InvalidRate_InvalidRate : PySem.W.exmOne K (.ref (He.ga K "InvalidRate")) (.ref (He.ga K "InvalidRate")) = some true
  ex_InvalidRate_InvalidBits : PySem.W.exmOne K (.ref (He.ga K "InvalidRate")) (.ref (He.ga K "InvalidBits")) = some false
  ex_InvalidRate_InvalidText : PySem.W.exmOne K (.ref (He.ga K "InvalidRate")) (.ref (He.ga K "InvalidText")) = some false
  ex_InvalidBits_InvalidRate : PySem.W.exmOne K (.ref (He.ga K "InvalidBits")) (.ref (He.ga K "InvalidRate")) = some false
  ex_InvalidBits_InvalidBits : PySem.W.exmOne K (.ref (He.ga K "InvalidBits")) (.ref (He.ga K "InvalidBits")) = some true
  ex_InvalidBits_InvalidText : PySem.W.exmOne K (.ref (He.ga K "InvalidBits")) (.ref (He.ga K "InvalidText")) = some false
  ex_InvalidText_InvalidRate : PySem.W.exmOne K (.ref (He.ga K "InvalidText")) (.ref (He.ga K "InvalidRate")) = some false
  ex_InvalidText_InvalidBits : PySem.W.exmOne K (.ref (He.ga K "InvalidText")) (.ref (He.ga K "InvalidBits")) = some false
  ex_InvalidText_InvalidText : PySem.W.exmOne K (.ref (He.ga K "InvalidText")) (.ref (He.ga K "InvalidText")) = some true
  ki_InvalidRate_BarredError : PySem.W.kitAny K (.ref (He.ga K "InvalidRate")) [.ref (He.ga K "BarredError")] = some true
  ki_InvalidBits_BarredError : PySem.W.kitAny K (.ref (He.ga K "InvalidBits")) [.ref (He.ga K "BarredError")] = some true
  ki_InvalidText_BarredError : PySem.W.kitAny K (.ref (He.ga K "InvalidText")) [.ref (He.ga K "BarredError")] = some true
  tabsne : fTabs K = true
/-- with the makers' tables -/
structure MB (K : PySem.W.Frag) (mg : Str → Option Value) (base : Heap) extends M K mg where
  tb : TbAt K mg base
end LW
set_option Elab.async false
set_option linter.all false
set_option maxRecDepth 100000
set_option maxHeartbeats 0
namespace LW
open PySem L2 BR
def d__law_draw : He5.DefA := ⟨fun K => He.ga K "_law_draw", "_law_draw", "_law_draw", defArgs (top 27), defBody (top 27), defScope (top 27), [], []⟩
def d_is_integer : He5.DefA := ⟨fun K => He.ga K "is_integer", "is_integer", "is_integer", defArgs (top 9), defBody (top 9), defScope (top 9), [], []⟩
def d_Rate___init__ : He5.DefA := ⟨fun K => He.ma K (He.ga K "Rate") "__init__", "__init__", "Rate.__init__", defArgs (inClass (top 15) 0), defBody (inClass (top 15) 0), defScope (inClass (top 15) 0), [], []⟩
def d__law_pick : He5.DefA := ⟨fun K => He.ga K "_law_pick", "_law_pick", "_law_pick", defArgs (top 28), defBody (top 28), defScope (top 28), [], []⟩
def d__law_packed : He5.DefA := ⟨fun K => He.ga K "_law_packed", "_law_packed", "_law_packed", defArgs (top 29), defBody (top 29), defScope (top 29), [], []⟩
def d_want_rate : He5.DefA := ⟨fun K => He.ga K "want_rate", "want_rate", "want_rate", defArgs (top 16), defBody (top 16), defScope (top 16), [], []⟩
def d_is_list : He5.DefA := ⟨fun K => He.ga K "is_list", "is_list", "is_list", defArgs (top 11), defBody (top 11), defScope (top 11), [], []⟩
def d_want_bits : He5.DefA := ⟨fun K => He.ga K "want_bits", "want_bits", "want_bits", defArgs (top 22), defBody (top 22), defScope (top 22), [], []⟩
def d_Rate_p : He5.DefA := ⟨fun K => He5.wf K (He.ga K "Rate") "property" "p", "p", "Rate.p", defArgs (inClass (top 15) 1), defBody (inClass (top 15) 1), defScope (inClass (top 15) 1), [], []⟩
def d_packed : He5.DefA := ⟨fun K => He.ga K "packed", "packed", "packed", defArgs (top 23), defBody (top 23), defScope (top 23), [], []⟩
def d_is_count : He5.DefA := ⟨fun K => He.ga K "is_count", "is_count", "is_count", defArgs (top 10), defBody (top 10), defScope (top 10), [], []⟩
def d_Rate_size : He5.DefA := ⟨fun K => He5.wf K (He.ga K "Rate") "property" "size", "size", "Rate.size", defArgs (inClass (top 15) 3), defBody (inClass (top 15) 3), defScope (inClass (top 15) 3), [], []⟩
def d_is_word_of : He5.DefA := ⟨fun K => He.ga K "is_word_of", "is_word_of", "is_word_of", defArgs (top 18), defBody (top 18), defScope (top 18), [], []⟩
def d_unpacked : He5.DefA := ⟨fun K => He.ga K "unpacked", "unpacked", "unpacked", defArgs (top 24), defBody (top 24), defScope (top 24), [], []⟩
def d__law_both_right : He5.DefA := ⟨fun K => He.ga K "_law_both_right", "_law_both_right", "_law_both_right", defArgs (top 33), defBody (top 33), defScope (top 33), [], []⟩
def d__law_told : He5.DefA := ⟨fun K => He.ga K "_law_told", "_law_told", "_law_told", defArgs (top 32), defBody (top 32), defScope (top 32), [], []⟩
def d__law_spread : He5.DefA := ⟨fun K => He.ga K "_law_spread", "_law_spread", "_law_spread", defArgs (top 30), defBody (top 30), defScope (top 30), [], []⟩
def d__law_unpacked : He5.DefA := ⟨fun K => He.ga K "_law_unpacked", "_law_unpacked", "_law_unpacked", defArgs (top 31), defBody (top 31), defScope (top 31), [], []⟩
def d__law_texts_right : He5.DefA := ⟨fun K => He.ga K "_law_texts_right", "_law_texts_right", "_law_texts_right", defArgs (top 34), defBody (top 34), defScope (top 34), [], []⟩
def d__law_refused : He5.DefA := ⟨fun K => He.ga K "_law_refused", "_law_refused", "_law_refused", defArgs (top 35), defBody (top 35), defScope (top 35), [], []⟩
def d__law_right : He5.DefA := ⟨fun K => He.ga K "_law_right", "_law_right", "_law_right", defArgs (top 36), defBody (top 36), defScope (top 36), [], []⟩
def d__law_pot : He5.DefA := ⟨fun K => He.ga K "_law_pot", "_law_pot", "_law_pot", defArgs (top 26), defBody (top 26), defScope (top 26), [], []⟩
def d_law : He5.DefA := ⟨fun K => He.ga K "law", "law", "law", defArgs (top 37), defBody (top 37), defScope (top 37), [], []⟩
def d_InvalidRate___init__ : He5.DefA := ⟨fun K => He.ma K (He.ga K "InvalidRate") "__init__", "__init__", "InvalidRate.__init__", defArgs (inClass (top 3) 0), defBody (inClass (top 3) 0), defScope (inClass (top 3) 0), [], []⟩
def d_InvalidBits___init__ : He5.DefA := ⟨fun K => He.ma K (He.ga K "InvalidBits") "__init__", "__init__", "InvalidBits.__init__", defArgs (inClass (top 5) 0), defBody (inClass (top 5) 0), defScope (inClass (top 5) 0), [], []⟩
def d_InvalidText___init__ : He5.DefA := ⟨fun K => He.ma K (He.ga K "InvalidText") "__init__", "__init__", "InvalidText.__init__", defArgs (inClass (top 4) 0), defBody (inClass (top 4) 0), defScope (inClass (top 4) 0), [], []⟩
def fn0 : List He5.DefA := [d__law_draw, d_is_integer, d_Rate___init__, d__law_pick, d__law_packed, d_want_rate, d_is_list, d_want_bits, d_Rate_p, d_packed, d_is_count, d_Rate_size, d_is_word_of, d_unpacked, d__law_both_right]
def fn1 : List He5.DefA := [d__law_told, d__law_spread, d__law_unpacked, d__law_texts_right, d__law_refused, d__law_right, d__law_pot, d_law, d_InvalidRate___init__, d_InvalidBits___init__, d_InvalidText___init__]
def fn : List He5.DefA := fn0 ++ fn1
def fa0 : List Fct := [fF (.glo "_law_right"), fF (.glo "_law_draw"), fF (.glo "is_integer"), fF (.glo "Rate"), fF (.glo "_law_both_right"), fF (.glo "_law_pick"), fF (.glo "_law_packed"), fF (.glo "packed"), fF (.glo "want_rate"), fF (.glo "InvalidRate"), fF (.glo "want_bits"), fF (.glo "is_list"), fF (.glo "InvalidBits"), fF (.glo "unpacked"), fF (.glo "InvalidText")]
def fa1 : List Fct := [fF (.glo "is_word_of"), fF (.glo "is_count"), fF (.glo "_law_texts_right"), fF (.glo "_law_told"), fF (.glo "BarredError"), fF (.glo "_law_unpacked"), fF (.glo "_law_spread"), fF (.glo "_law_refused"), fF (.glo "_law_pot"), fF (.glo "law"), fF (.free "all"), fF (.free "range"), fF (.free "max"), fF (.free "min"), fF (.free "len")]
def fa2 : List Fct := [fF (.free "divmod"), fF (.free "int"), fF (.free "isinstance"), fF (.free "bool"), fF (.free "list"), fF (.free "tuple"), fF (.free "enumerate"), fF (.free "repr"), fF (.free "abs"), fF (.int "MOST_PART" 6), fF (.int "MOST_BITS" 1000), fF (.int "MOST_WORDS" 1200), fF (.cls "Rate"), fF (.noat "Rate" "rate_bits"), fF (.noat "Rate" "rate_signs")]
def fa3 : List Fct := [fF (.mkr "Rate"), fProp "Rate" "p", fProp "Rate" "size", fIsG "Rate" ["Rate"], fExcM "InvalidRate" "value", fExcM "InvalidBits" "position", fExcM "InvalidText" "position", fXf "InvalidRate", fXf "InvalidBits", fXf "InvalidText", fXi "InvalidRate", fXi "InvalidBits", fXi "InvalidText", fExm "InvalidRate" "InvalidRate" true, fExm "InvalidRate" "InvalidBits" false]
def fa4 : List Fct := [fExm "InvalidRate" "InvalidText" false, fExm "InvalidBits" "InvalidRate" false, fExm "InvalidBits" "InvalidBits" true, fExm "InvalidBits" "InvalidText" false, fExm "InvalidText" "InvalidRate" false, fExm "InvalidText" "InvalidBits" false, fExm "InvalidText" "InvalidText" true, fKia "InvalidRate" "BarredError" true, fKia "InvalidBits" "BarredError" true, fKia "InvalidText" "BarredError" true, fTabs]
def fa : List Fct := fa0 ++ fa1 ++ fa2 ++ fa3 ++ fa4
def names0 : List PySem.Str := ["BarredError", "DIGITS", "InvalidBits", "InvalidNumber", "InvalidRate", "InvalidText", "LimitError", "MOST_BITS", "MOST_PART", "MOST_WORDS", "Rate", "TooMany", "_law_both_right", "_law_draw", "_law_packed"]
def names1 : List PySem.Str := ["_law_pick", "_law_pot", "_law_refused", "_law_right", "_law_spread", "_law_texts_right", "_law_told", "_law_unpacked", "is_count", "is_integer", "is_list", "is_word_of", "packed", "unpacked", "want_bits"]
def names2 : List PySem.Str := ["want_rate"]
def names : List PySem.Str := names0 ++ names1 ++ names2
abbrev hR : PySem.W.OpenRow := PySem.W.OpenLaw.row PySem.Challenge.rw_barredrows_k90_whole_bits_packed
abbrev hk : PySem.W.Hook := hookT 6 mkrs fa fn
def ob (s : PySem.W.SharedT) : Bool × He.AlD := obsTG 6 mkrs fa fn (HandSHeadRun.getT s)
theorem ob_eq (s : PySem.W.SharedT) : ob s = hk.obs s.abs := obsTG_eq (HandSHeadRun.getT_eq s)
theorem hRun (w : World) : HandSHeadRun.RunEq hR (PySem.W.view hR.prog [37]) hk ob 6000 names w := by
  intro os
  kernel_rfl
end LW
set_option Elab.async false
set_option linter.all false
set_option maxRecDepth 100000
set_option maxHeartbeats 0
namespace LW
open PySem L2 BR
set_option maxHeartbeats 400000
section
variable {P : Program} {w : World} {K : PySem.W.Frag} {mg : Str → Option Value} {base : Heap}
theorem fe_InvalidRate (m : MB K mg base) : FnOk P w K mg base (L2.CX P w) (0 + 1) (He.ma K (He.ga K "InvalidRate") "__init__") m.fd_InvalidRate___init__ ["self", "value"] (spX K "value") := by
  obtain ⟨p1, p2, p3, p4, e⟩ : ∃ p1 p2 p3 p4, defBody (inClass (top 3) 0) = [.Assign [.Attribute (.Name "self" p1) "value" p2] (.Name "value" p3) p4] := ⟨_, _, _, _, rfl⟩
  have F := m.F_InvalidRate___init__
  rw [e] at F
  exact fn_exc (a := "self") (b := "value") F ⟨rfl, rfl, rfl, by decide +kernel, rfl, by decide +kernel, by decide +kernel⟩ (by first | exact Or.inl rfl | exact Or.inr (Or.inl rfl) | exact Or.inr (Or.inr rfl)) (by first | exact Or.inl rfl | exact Or.inr (Or.inl rfl) | exact Or.inr (Or.inr rfl)) rfl rfl rfl rfl
theorem bx_InvalidRate (m : MB K mg base) : Binds K m.fd_InvalidRate___init__ ["self", "value"] [] := m.F_InvalidRate___init__.bindsN fun _ _ _ _ _ _ us hl => match us, hl with | [_, _], _ => rfl
theorem fe_InvalidBits (m : MB K mg base) : FnOk P w K mg base (L2.CX P w) (0 + 1) (He.ma K (He.ga K "InvalidBits") "__init__") m.fd_InvalidBits___init__ ["self", "position"] (spX K "position") := by
  obtain ⟨p1, p2, p3, p4, e⟩ : ∃ p1 p2 p3 p4, defBody (inClass (top 5) 0) = [.Assign [.Attribute (.Name "self" p1) "position" p2] (.Name "position" p3) p4] := ⟨_, _, _, _, rfl⟩
  have F := m.F_InvalidBits___init__
  rw [e] at F
  exact fn_exc (a := "self") (b := "position") F ⟨rfl, rfl, rfl, by decide +kernel, rfl, by decide +kernel, by decide +kernel⟩ (by first | exact Or.inl rfl | exact Or.inr (Or.inl rfl) | exact Or.inr (Or.inr rfl)) (by first | exact Or.inl rfl | exact Or.inr (Or.inl rfl) | exact Or.inr (Or.inr rfl)) rfl rfl rfl rfl
theorem bx_InvalidBits (m : MB K mg base) : Binds K m.fd_InvalidBits___init__ ["self", "position"] [] := m.F_InvalidBits___init__.bindsN fun _ _ _ _ _ _ us hl => match us, hl with | [_, _], _ => rfl
theorem fe_InvalidText (m : MB K mg base) : FnOk P w K mg base (L2.CX P w) (0 + 1) (He.ma K (He.ga K "InvalidText") "__init__") m.fd_InvalidText___init__ ["self", "position"] (spX K "position") := by
  obtain ⟨p1, p2, p3, p4, e⟩ : ∃ p1 p2 p3 p4, defBody (inClass (top 4) 0) = [.Assign [.Attribute (.Name "self" p1) "position" p2] (.Name "position" p3) p4] := ⟨_, _, _, _, rfl⟩
  have F := m.F_InvalidText___init__
  rw [e] at F
  exact fn_exc (a := "self") (b := "position") F ⟨rfl, rfl, rfl, by decide +kernel, rfl, by decide +kernel, by decide +kernel⟩ (by first | exact Or.inl rfl | exact Or.inr (Or.inl rfl) | exact Or.inr (Or.inr rfl)) (by first | exact Or.inl rfl | exact Or.inr (Or.inl rfl) | exact Or.inr (Or.inr rfl)) rfl rfl rfl rfl
theorem bx_InvalidText (m : MB K mg base) : Binds K m.fd_InvalidText___init__ ["self", "position"] [] := m.F_InvalidText___init__.bindsN fun _ _ _ _ _ _ us hl => match us, hl with | [_, _], _ => rfl
abbrev N__law_draw : List Str := ["_law_pot_here", "_law_bound", "_law_digit"]
theorem sc__law_draw : FnScope N__law_draw ["_law_pot_here", "_law_bound"] (defScope (top 27)) := ⟨rfl, rfl, rfl, by decide +kernel, rfl, by decide +kernel, by decide +kernel⟩
theorem ok__law_draw (m : MB K mg base) : FnG P w K mg base (L2.CX P w) 1 (He.ga K "_law_draw") m.fd__law_draw ["_law_pot_here", "_law_bound"] (spF K [true, false] false (F__law_draw K)) := by
  have h := fn_ok (P := P) (w := w) (mg := mg) (base := base) (k := 0) (ms := [true, false]) (own := false) (b := B__law_draw K) m.F__law_draw sc__law_draw rfl
  refine h fun cdv A outer s H E hcd hr => ?_
  have nd := sc__law_draw.nd
  have hu64 := hr.units
  have hu : (A.deeper (PyProof.Rows.envOfC _ _ s.heap.objs.size _ cdv)).units + 1 < cLine := Nat.lt_of_le_of_lt (Nat.add_le_add_left (by decide) _) hu64
  exact sq_cons (st_if (pb_cmp op_gt d_Ib (pr_ix (ix_B hu) d_ix (pr_var 0) (pr_int) (fun _ _ => rfl)) (pr_int) (nomark _)) (sq_cons (st_draw (i := 0) (j := 2) rfl (by first | exact Or.inl rfl | exact Or.inr (Or.inl rfl) | exact Or.inr (Or.inr rfl)) nd rfl (by first | exact Or.inl rfl | exact Or.inr rfl) rfl (pr_divmod rfl m.f_divmod (hs_cons (pr_ix (ix_B hu) d_ix (pr_var 0) (pr_int) (fun _ _ => rfl)) (hs_cons (pr_var 1) (hs_nil)))))
    (sq_one (st_ret (pr_var 2)))) (sq_nil))
    (sq_cons (st_setL (i := 0) rfl (by first | exact Or.inl rfl | exact Or.inr (Or.inl rfl) | exact Or.inr (Or.inr rfl)) (pr_bin op_mod d_Ic (pr_callTy call_int1 d_int rfl m.f_int (by decide +kernel) (hs_cons (pr_bin op_addB d_add (pr_bin op_mulB d_mul (pr_ix (ix_B hu) d_ix (pr_var 0) (pr_int) (fun _ _ => rfl)) (pr_int)) (pr_int)) (hs_nil))) (pr_int)) (pr_int))
    (sq_one (st_ret (pr_bin op_mod d_Ic (pr_callTy call_int1 d_int rfl m.f_int (by decide +kernel) (hs_cons (pr_bin op_fdiv d_Ic (pr_bin op_mod d_Ic (pr_callTy call_int1 d_int rfl m.f_int (by decide +kernel) (hs_cons (pr_bin op_mulB d_mul (pr_ix (ix_B hu) d_ix (pr_var 0) (pr_int) (fun _ _ => rfl)) (pr_ix (ix_B hu) d_ix (pr_var 0) (pr_int) (fun _ _ => rfl))) (hs_nil))) (pr_int)) (pr_int)) (hs_nil))) (pr_var 1)))))
abbrev N_is_integer : List Str := ["value"]
theorem sc_is_integer : FnScope N_is_integer ["value"] (defScope (top 9)) := ⟨rfl, rfl, rfl, by decide +kernel, rfl, by decide +kernel, by decide +kernel⟩
theorem ok_is_integer (m : MB K mg base) : FnG P w K mg base (L2.CX P w) 1 (He.ga K "is_integer") m.fd_is_integer ["value"] (spF K [false] false (F_is_integer K)) := by
  have h := fn_ok (P := P) (w := w) (mg := mg) (base := base) (k := 0) (ms := [false]) (own := false) (b := B_is_integer K) m.F_is_integer sc_is_integer rfl
  refine h fun cdv A outer s H E hcd hr => ?_
  have nd := sc_is_integer.nd
  have hu64 := hr.units
  have hu : (A.deeper (PyProof.Rows.envOfC _ _ s.heap.objs.size _ cdv)).units + 1 < cLine := Nat.lt_of_le_of_lt (Nat.add_le_add_left (by decide) _) hu64
  exact sq_one (st_ret (pr_and (pr_callB call_isiB (d_isi isi_int) rfl m.f_isinstance (by decide +kernel) (hs_cons (pr_var 0) (hs_cons (pr_type rfl m.f_int (by decide +kernel)) (hs_nil)))) (pr_one (pr_not (pr_callB call_isiB (d_isi isi_bool) rfl m.f_isinstance (by decide +kernel) (hs_cons (pr_var 0) (hs_cons (pr_type rfl m.f_bool (by decide +kernel)) (hs_nil))))))))
abbrev N_Rate___init__ : List Str := ["self", "p", "q", "value"]
theorem sc_Rate___init__ : FnScope N_Rate___init__ ["self", "p", "q"] (defScope (inClass (top 15) 0)) := ⟨rfl, rfl, rfl, by decide +kernel, rfl, by decide +kernel, by decide +kernel⟩
theorem ok_Rate___init__ (m : MB K mg base) : FnG P w K mg base (L2.CX P w) 2 (He.ma K (He.ga K "Rate") "__init__") m.fd_Rate___init__ ["self", "p", "q"] (spF K [true, false, false] false (F_Rate___init__ K)) := by
  have h := fn_ok (P := P) (w := w) (mg := mg) (base := base) (k := 1) (ms := [true, false, false]) (own := false) (b := B_Rate___init__ K) m.F_Rate___init__ sc_Rate___init__ rfl
  refine h fun cdv A outer s H E hcd hr => ?_
  have nd := sc_Rate___init__.nd
  have hu64 := hr.units
  have hu : (A.deeper (PyProof.Rows.envOfC _ _ s.heap.objs.size _ cdv)).units + 1 < cLine := Nat.lt_of_le_of_lt (Nat.add_le_add_left (by decide) _) hu64
  exact sq_cons (st_for ownD rfl (it_tup (pr_tup (as_cons (PR.v (pr_var 1)) (as_cons (PR.v (pr_var 2)) (as_nil))))) (tg_name (i := 3) nd rfl (by first | exact Or.inl rfl | exact Or.inr rfl)) (sq_one (st_if (pb_w (pb_or (pb_not (pb_val (pr_call (ok_is_integer m) (hr.mono (by decide)) rfl m.g_is_integer m.F_is_integer.kp (m.F_is_integer.bindsN fun _ _ _ _ _ _ us hl => match us, hl with | [_], _ => rfl) passD (ms_sh (pr_var 3) (ms_nil))))) (pb_or1 (pb_not (pb_chain op_le op_le (pr_int) (pr_var 3) (pr_gint rfl m.i_MOST_PART)))))) (sq_one (st_never)) (sq_nil))))
    (sq_cons (st_fld (i := 0) m.c_Rate m.na_Rate_rate_bits rfl (by first | exact Or.inl rfl | exact Or.inr (Or.inl rfl) | exact Or.inr (Or.inr rfl)) (pr_var 1))
    (sq_one (st_fld (i := 0) m.c_Rate m.na_Rate_rate_signs rfl (by first | exact Or.inl rfl | exact Or.inr (Or.inl rfl) | exact Or.inr (Or.inr rfl)) (pr_var 2))))
abbrev N__law_pick : List Str := ["_law_pot_here", "_law_some"]
theorem sc__law_pick : FnScope N__law_pick ["_law_pot_here", "_law_some"] (defScope (top 28)) := ⟨rfl, rfl, rfl, by decide +kernel, rfl, by decide +kernel, by decide +kernel⟩
theorem ok__law_pick (m : MB K mg base) : FnG P w K mg base (L2.CX P w) 2 (He.ga K "_law_pick") m.fd__law_pick ["_law_pot_here", "_law_some"] (spF K [true, false] false (F__law_pick K)) := by
  have h := fn_ok (P := P) (w := w) (mg := mg) (base := base) (k := 1) (ms := [true, false]) (own := false) (b := B__law_pick K) m.F__law_pick sc__law_pick rfl
  refine h fun cdv A outer s H E hcd hr => ?_
  have nd := sc__law_pick.nd
  have hu64 := hr.units
  have hu : (A.deeper (PyProof.Rows.envOfC _ _ s.heap.objs.size _ cdv)).units + 1 < cLine := Nat.lt_of_le_of_lt (Nat.add_le_add_left (by decide) _) hu64
  exact sq_one (st_ret (pr_ix (ix_B hu) d_ix (pr_var 1) (pr_call (ok__law_draw m) (hr.mono (by decide)) rfl m.g__law_draw m.F__law_draw.kp (m.F__law_draw.bindsN fun _ _ _ _ _ _ us hl => match us, hl with | [_, _], _ => rfl) passD (ms_io (pr_var 0) (ms_sh (pr_callB call_lenK d_lenK rfl m.f_len (by decide +kernel) (hs_cons (pr_var 1) (hs_nil))) (ms_nil)))) (fun _ _ => rfl)))
abbrev N__law_packed : List Str := ["_law_some", "_law_size", "_law_longer", "_law_found", "_law_at", "_law_total", "_law_each"]
theorem sc__law_packed : FnScope N__law_packed ["_law_some", "_law_size"] (defScope (top 29)) := ⟨rfl, rfl, rfl, by decide +kernel, rfl, by decide +kernel, by decide +kernel⟩
theorem ok__law_packed (m : MB K mg base) : FnG P w K mg base (L2.CX P w) 1 (He.ga K "_law_packed") m.fd__law_packed ["_law_some", "_law_size"] (spF K [false, false] true (F__law_packed K)) := by
  have h := fn_ok (P := P) (w := w) (mg := mg) (base := base) (k := 0) (ms := [false, false]) (own := true) (b := B__law_packed K) m.F__law_packed sc__law_packed rfl
  refine h fun cdv A outer s H E hcd hr => ?_
  have nd := sc__law_packed.nd
  have hu64 := hr.units
  have hu : (A.deeper (PyProof.Rows.envOfC _ _ s.heap.objs.size _ cdv)).units + 1 < cLine := Nat.lt_of_le_of_lt (Nat.add_le_add_left (by decide) _) hu64
  exact sq_cons (st_asg (i := 2) nd rfl (by first | exact Or.inl rfl | exact Or.inr rfl) (pr_bin op_addB d_add (pr_var 0) (pr_lst (as_cons (PR.v (pr_int)) (as_nil)))))
    (sq_cons (st_while 8000 ownD (pb_cmp op_gt d_Ib (pr_bin op_mod d_Ic (pr_callB call_lenK d_lenK rfl m.f_len (by decide +kernel) (hs_cons (pr_var 2) (hs_nil))) (pr_var 1)) (pr_int) (nomark _)) (sq_one (st_expr (pr_append (i := 2) rfl (by first | exact Or.inl rfl | exact Or.inr (Or.inl rfl) | exact Or.inr (Or.inr rfl)) (pr_int)))))
    (sq_cons (st_asg (i := 3) nd rfl (by first | exact Or.inl rfl | exact Or.inr rfl) (pr_lst (as_nil)))
    (sq_cons (st_for ownD rfl (it_range3 rfl m.f_range (as_cons (PR.v (pr_int)) (as_cons (PR.v (pr_callB call_lenK d_lenK rfl m.f_len (by decide +kernel) (hs_cons (pr_var 2) (hs_nil)))) (as_cons (PR.v (pr_var 1)) (as_nil))))) (tg_name (i := 4) nd rfl (by first | exact Or.inl rfl | exact Or.inr rfl)) (sq_cons (st_asg (i := 5) nd rfl (by first | exact Or.inl rfl | exact Or.inr rfl) (pr_int))
    (sq_cons (st_for ownD rfl (it_list (pr_slice (pr_var 2) (op_some (pr_var 4)) (op_some (pr_bin op_addB d_add (pr_var 4) (pr_var 1))))) (tg_name (i := 6) nd rfl (by first | exact Or.inl rfl | exact Or.inr rfl)) (sq_one (st_asg (i := 5) nd rfl (by first | exact Or.inl rfl | exact Or.inr rfl) (pr_bin op_addB d_add (pr_bin op_mulB d_mul (pr_int) (pr_var 5)) (pr_var 6)))))
    (sq_one (st_expr (pr_append (i := 3) rfl (by first | exact Or.inl rfl | exact Or.inr (Or.inl rfl) | exact Or.inr (Or.inr rfl)) (pr_var 5)))))))
    (sq_one (st_ret (pr_var 3))))))
abbrev N_want_rate : List Str := ["value"]
theorem sc_want_rate : FnScope N_want_rate ["value"] (defScope (top 16)) := ⟨rfl, rfl, rfl, by decide +kernel, rfl, by decide +kernel, by decide +kernel⟩
theorem ok_want_rate (m : MB K mg base) : FnG P w K mg base (L2.CX P w) 3 (He.ga K "want_rate") m.fd_want_rate ["value"] (spF K [false] false (F_want_rate K)) := by
  have h := fn_ok (P := P) (w := w) (mg := mg) (base := base) (k := 2) (ms := [false]) (own := false) (b := B_want_rate K) m.F_want_rate sc_want_rate rfl
  refine h fun cdv A outer s H E hcd hr => ?_
  have nd := sc_want_rate.nd
  have hu64 := hr.units
  have hu : (A.deeper (PyProof.Rows.envOfC _ _ s.heap.objs.size _ cdv)).units + 1 < cLine := Nat.lt_of_le_of_lt (Nat.add_le_add_left (by decide) _) hu64
  exact sq_one (st_if (pb_not (pb_val (pr_callB call_isiB (d_isi (isi_G m.ig_Rate)) rfl m.f_isinstance (by decide +kernel) (hs_cons (pr_var 0) (hs_cons (pr_gobj rfl m.g_Rate) (hs_nil)))))) (sq_one (st_raise (n := 0) rfl (passD) m.xm_InvalidRate (fe_InvalidRate m) (hr.mono (by decide)).rm (bx_InvalidRate m) rfl m.g_InvalidRate (as_cons (PR.v (pr_var 0)) (as_nil)) (al_cons al_nil))) (sq_nil))
abbrev N_is_list : List Str := ["value"]
theorem sc_is_list : FnScope N_is_list ["value"] (defScope (top 11)) := ⟨rfl, rfl, rfl, by decide +kernel, rfl, by decide +kernel, by decide +kernel⟩
theorem ok_is_list (m : MB K mg base) : FnG P w K mg base (L2.CX P w) 1 (He.ga K "is_list") m.fd_is_list ["value"] (spF K [false] false (F_is_list K)) := by
  have h := fn_ok (P := P) (w := w) (mg := mg) (base := base) (k := 0) (ms := [false]) (own := false) (b := B_is_list K) m.F_is_list sc_is_list rfl
  refine h fun cdv A outer s H E hcd hr => ?_
  have nd := sc_is_list.nd
  have hu64 := hr.units
  have hu : (A.deeper (PyProof.Rows.envOfC _ _ s.heap.objs.size _ cdv)).units + 1 < cLine := Nat.lt_of_le_of_lt (Nat.add_le_add_left (by decide) _) hu64
  exact sq_one (st_ret (pr_callB call_isiB (d_isi isi_seq) rfl m.f_isinstance (by decide +kernel) (hs_cons (pr_var 0) (hs_cons (pr_tup (as_cons (PR.v (pr_type rfl m.f_list (by decide +kernel))) (as_cons (PR.v (pr_type rfl m.f_tuple (by decide +kernel))) (as_nil)))) (hs_nil)))))
abbrev N_want_bits : List Str := ["bits", "position", "bit"]
theorem sc_want_bits : FnScope N_want_bits ["bits"] (defScope (top 22)) := ⟨rfl, rfl, rfl, by decide +kernel, rfl, by decide +kernel, by decide +kernel⟩
theorem ok_want_bits (m : MB K mg base) : FnG P w K mg base (L2.CX P w) 3 (He.ga K "want_bits") m.fd_want_bits ["bits"] (spF K [false] false (F_want_bits K)) := by
  have h := fn_ok (P := P) (w := w) (mg := mg) (base := base) (k := 2) (ms := [false]) (own := false) (b := B_want_bits K) m.F_want_bits sc_want_bits rfl
  refine h fun cdv A outer s H E hcd hr => ?_
  have nd := sc_want_bits.nd
  have hu64 := hr.units
  have hu : (A.deeper (PyProof.Rows.envOfC _ _ s.heap.objs.size _ cdv)).units + 1 < cLine := Nat.lt_of_le_of_lt (Nat.add_le_add_left (by decide) _) hu64
  exact sq_cons (st_if (pb_w (pb_or (pb_not (pb_val (pr_call (ok_is_list m) (hr.mono (by decide)) rfl m.g_is_list m.F_is_list.kp (m.F_is_list.bindsN fun _ _ _ _ _ _ us hl => match us, hl with | [_], _ => rfl) passD (ms_sh (pr_var 0) (ms_nil))))) (pb_or1 (pb_cmp op_gt d_Ib (pr_callB call_lenK d_lenK rfl m.f_len (by decide +kernel) (hs_cons (pr_var 0) (hs_nil))) (pr_gint rfl m.i_MOST_BITS) (nomark _))))) (sq_one (st_raise (n := 0) rfl (passD) m.xm_InvalidBits (fe_InvalidBits m) (hr.mono (by decide)).rm (bx_InvalidBits m) rfl m.g_InvalidBits (as_cons (PR.v (pr_non)) (as_nil)) (al_cons al_nil))) (sq_nil))
    (sq_one (st_for ownD rfl (it_enumB rfl m.f_enumerate (as_cons (PR.v (pr_var 0)) (as_nil))) (tg_tup rfl (tgs_cons (tg_name (i := 1) nd rfl (by first | exact Or.inl rfl | exact Or.inr rfl)) (tgs_cons (tg_name (i := 2) nd rfl (by first | exact Or.inl rfl | exact Or.inr rfl)) (tgs_nil)))) (sq_one (st_if (pb_w (pb_or (pb_not (pb_val (pr_call (ok_is_integer m) (hr.mono (by decide)) rfl m.g_is_integer m.F_is_integer.kp (m.F_is_integer.bindsN fun _ _ _ _ _ _ us hl => match us, hl with | [_], _ => rfl) passD (ms_sh (pr_var 2) (ms_nil))))) (pb_or1 (pb_cmp (op_notInB hu) d_notInB (pr_var 2) (pr_tup (as_cons (PR.v (pr_int)) (as_cons (PR.v (pr_int)) (as_nil)))) (by rfl))))) (sq_one (st_raise (n := 0) rfl (passD) m.xm_InvalidBits (fe_InvalidBits m) (hr.mono (by decide)).rm (bx_InvalidBits m) rfl m.g_InvalidBits (as_cons (PR.v (pr_var 1)) (as_nil)) (al_cons al_nil))) (sq_nil)))))
abbrev N_Rate_p : List Str := ["self"]
theorem sc_Rate_p : FnScope N_Rate_p ["self"] (defScope (inClass (top 15) 1)) := ⟨rfl, rfl, rfl, by decide +kernel, rfl, by decide +kernel, by decide +kernel⟩
theorem ok_Rate_p (m : MB K mg base) : FnG P w K mg base (L2.CX P w) 1 (He5.wf K (He.ga K "Rate") "property" "p") m.fd_Rate_p ["self"] (spF K [false] false (F_Rate_p K)) := by
  have h := fn_ok (P := P) (w := w) (mg := mg) (base := base) (k := 0) (ms := [false]) (own := false) (b := B_Rate_p K) m.F_Rate_p sc_Rate_p rfl
  refine h fun cdv A outer s H E hcd hr => ?_
  have nd := sc_Rate_p.nd
  have hu64 := hr.units
  have hu : (A.deeper (PyProof.Rows.envOfC _ _ s.heap.objs.size _ cdv)).units + 1 < cLine := Nat.lt_of_le_of_lt (Nat.add_le_add_left (by decide) _) hu64
  exact sq_one (st_ret (pr_fld m.c_Rate m.na_Rate_rate_bits (pr_var 0)))
abbrev N_packed : List Str := ["rate", "bits", "filled", "found", "begin", "word", "bit"]
theorem sc_packed : FnScope N_packed ["rate", "bits"] (defScope (top 23)) := ⟨rfl, rfl, rfl, by decide +kernel, rfl, by decide +kernel, by decide +kernel⟩
theorem ok_packed (m : MB K mg base) : FnG P w K mg base (L2.CX P w) 4 (He.ga K "packed") m.fd_packed ["rate", "bits"] (spF K [false, false] true (F_packed K)) := by
  have h := fn_ok (P := P) (w := w) (mg := mg) (base := base) (k := 3) (ms := [false, false]) (own := true) (b := B_packed K) m.F_packed sc_packed rfl
  refine h fun cdv A outer s H E hcd hr => ?_
  have nd := sc_packed.nd
  have hu64 := hr.units
  have hu : (A.deeper (PyProof.Rows.envOfC _ _ s.heap.objs.size _ cdv)).units + 1 < cLine := Nat.lt_of_le_of_lt (Nat.add_le_add_left (by decide) _) hu64
  exact sq_cons (st_expr (pr_call (ok_want_rate m) (hr.mono (by decide)) rfl m.g_want_rate m.F_want_rate.kp (m.F_want_rate.bindsN fun _ _ _ _ _ _ us hl => match us, hl with | [_], _ => rfl) passD (ms_sh (pr_var 0) (ms_nil))))
    (sq_cons (st_expr (pr_call (ok_want_bits m) (hr.mono (by decide)) rfl m.g_want_bits m.F_want_bits.kp (m.F_want_bits.bindsN fun _ _ _ _ _ _ us hl => match us, hl with | [_], _ => rfl) passD (ms_sh (pr_var 1) (ms_nil))))
    (sq_cons (st_asg (i := 2) nd rfl (by first | exact Or.inl rfl | exact Or.inr rfl) (pr_bin op_addB d_add (pr_callTy call_list_of d_list rfl m.f_list (by decide +kernel) (hs_cons (pr_var 1) (hs_nil))) (pr_lst (as_cons (PR.v (pr_int)) (as_nil)))))
    (sq_cons (st_asg (i := 2) nd rfl (by first | exact Or.inl rfl | exact Or.inr rfl) (pr_bin op_addB d_add (pr_var 2) (pr_bin op_mulB d_mul (pr_lst (as_cons (PR.v (pr_int)) (as_nil))) (pr_bin op_mod d_Ic (pr_un un_neg d_negU (pr_callB call_lenK d_lenK rfl m.f_len (by decide +kernel) (hs_cons (pr_var 2) (hs_nil)))) (pr_prop (pr_var 0) m.c_Rate m.pr_Rate_p (ok_Rate_p m) (hr.mono (by decide)) (m.F_Rate_p.bindsN fun _ _ _ _ _ _ us hl => match us, hl with | [_], _ => rfl) pass00)))))
    (sq_cons (st_asg (i := 3) nd rfl (by first | exact Or.inl rfl | exact Or.inr rfl) (pr_lst (as_nil)))
    (sq_cons (st_for ownD rfl (it_range3 rfl m.f_range (as_cons (PR.v (pr_int)) (as_cons (PR.v (pr_callB call_lenK d_lenK rfl m.f_len (by decide +kernel) (hs_cons (pr_var 2) (hs_nil)))) (as_cons (PR.v (pr_prop (pr_var 0) m.c_Rate m.pr_Rate_p (ok_Rate_p m) (hr.mono (by decide)) (m.F_Rate_p.bindsN fun _ _ _ _ _ _ us hl => match us, hl with | [_], _ => rfl) pass00)) (as_nil))))) (tg_name (i := 4) nd rfl (by first | exact Or.inl rfl | exact Or.inr rfl)) (sq_cons (st_asg (i := 5) nd rfl (by first | exact Or.inl rfl | exact Or.inr rfl) (pr_int))
    (sq_cons (st_for ownD rfl (it_list (pr_slice (pr_var 2) (op_some (pr_var 4)) (op_some (pr_bin op_addB d_add (pr_var 4) (pr_prop (pr_var 0) m.c_Rate m.pr_Rate_p (ok_Rate_p m) (hr.mono (by decide)) (m.F_Rate_p.bindsN fun _ _ _ _ _ _ us hl => match us, hl with | [_], _ => rfl) pass00))))) (tg_name (i := 6) nd rfl (by first | exact Or.inl rfl | exact Or.inr rfl)) (sq_one (st_asg (i := 5) nd rfl (by first | exact Or.inl rfl | exact Or.inr rfl) (pr_bin op_addB d_add (pr_bin op_mulB d_mul (pr_int) (pr_var 5)) (pr_var 6)))))
    (sq_one (st_expr (pr_append (i := 3) rfl (by first | exact Or.inl rfl | exact Or.inr (Or.inl rfl) | exact Or.inr (Or.inr rfl)) (pr_var 5)))))))
    (sq_one (st_ret (pr_var 3))))))))
theorem KB_packed (m : MB K mg base) : KBn K m.fd_packed ["rate", "bits"] 0 ["bits", "rate"] (fun _ ws => sw2 ws) (fun _ zs => sw2 zs) := by
  refine ⟨fun s us ws _ h1 h2 => ?_, fun _ h => vals_sw2 h⟩
  obtain ⟨oc, od, dV, kV, doc, pm, an, cdv, ct, osl, e, lk, hcd, hD, hK⟩ := m.F_packed.ex
  rcases hD with ⟨_, e2⟩ | ⟨e2, _⟩
  · rw [e, e2]
    match us, ws, h1, h2 with
    | [], [_, _], _, _ => exact BindsTo.of_eq rfl
  · exact absurd rfl e2
abbrev N_is_count : List Str := ["value"]
theorem sc_is_count : FnScope N_is_count ["value"] (defScope (top 10)) := ⟨rfl, rfl, rfl, by decide +kernel, rfl, by decide +kernel, by decide +kernel⟩
theorem ok_is_count (m : MB K mg base) : FnG P w K mg base (L2.CX P w) 2 (He.ga K "is_count") m.fd_is_count ["value"] (spF K [false] false (F_is_count K)) := by
  have h := fn_ok (P := P) (w := w) (mg := mg) (base := base) (k := 1) (ms := [false]) (own := false) (b := B_is_count K) m.F_is_count sc_is_count rfl
  refine h fun cdv A outer s H E hcd hr => ?_
  have nd := sc_is_count.nd
  have hu64 := hr.units
  have hu : (A.deeper (PyProof.Rows.envOfC _ _ s.heap.objs.size _ cdv)).units + 1 < cLine := Nat.lt_of_le_of_lt (Nat.add_le_add_left (by decide) _) hu64
  exact sq_one (st_ret (pr_and (pr_call (ok_is_integer m) (hr.mono (by decide)) rfl m.g_is_integer m.F_is_integer.kp (m.F_is_integer.bindsN fun _ _ _ _ _ _ us hl => match us, hl with | [_], _ => rfl) passD (ms_sh (pr_var 0) (ms_nil))) (pr_one (pr_cmp op_ge d_Ib (pr_var 0) (pr_int) (nomark _)))))
abbrev N_Rate_size : List Str := ["self"]
theorem sc_Rate_size : FnScope N_Rate_size ["self"] (defScope (inClass (top 15) 3)) := ⟨rfl, rfl, rfl, by decide +kernel, rfl, by decide +kernel, by decide +kernel⟩
theorem ok_Rate_size (m : MB K mg base) : FnG P w K mg base (L2.CX P w) 1 (He5.wf K (He.ga K "Rate") "property" "size") m.fd_Rate_size ["self"] (spF K [false] false (F_Rate_size K)) := by
  have h := fn_ok (P := P) (w := w) (mg := mg) (base := base) (k := 0) (ms := [false]) (own := false) (b := B_Rate_size K) m.F_Rate_size sc_Rate_size rfl
  refine h fun cdv A outer s H E hcd hr => ?_
  have nd := sc_Rate_size.nd
  have hu64 := hr.units
  have hu : (A.deeper (PyProof.Rows.envOfC _ _ s.heap.objs.size _ cdv)).units + 1 < cLine := Nat.lt_of_le_of_lt (Nat.add_le_add_left (by decide) _) hu64
  exact sq_one (st_ret (pr_bin op_shl d_Ic (pr_int) (pr_fld m.c_Rate m.na_Rate_rate_bits (pr_var 0))))
abbrev N_is_word_of : List Str := ["rate", "value"]
theorem sc_is_word_of : FnScope N_is_word_of ["rate", "value"] (defScope (top 18)) := ⟨rfl, rfl, rfl, by decide +kernel, rfl, by decide +kernel, by decide +kernel⟩
theorem ok_is_word_of (m : MB K mg base) : FnG P w K mg base (L2.CX P w) 3 (He.ga K "is_word_of") m.fd_is_word_of ["rate", "value"] (spF K [false, false] false (F_is_word_of K)) := by
  have h := fn_ok (P := P) (w := w) (mg := mg) (base := base) (k := 2) (ms := [false, false]) (own := false) (b := B_is_word_of K) m.F_is_word_of sc_is_word_of rfl
  refine h fun cdv A outer s H E hcd hr => ?_
  have nd := sc_is_word_of.nd
  have hu64 := hr.units
  have hu : (A.deeper (PyProof.Rows.envOfC _ _ s.heap.objs.size _ cdv)).units + 1 < cLine := Nat.lt_of_le_of_lt (Nat.add_le_add_left (by decide) _) hu64
  exact sq_one (st_ret (pr_and (pr_call (ok_is_count m) (hr.mono (by decide)) rfl m.g_is_count m.F_is_count.kp (m.F_is_count.bindsN fun _ _ _ _ _ _ us hl => match us, hl with | [_], _ => rfl) passD (ms_sh (pr_var 1) (ms_nil))) (pr_one (pr_cmp op_lt d_Ib (pr_var 1) (pr_prop (pr_var 0) m.c_Rate m.pr_Rate_size (ok_Rate_size m) (hr.mono (by decide)) (m.F_Rate_size.bindsN fun _ _ _ _ _ _ us hl => match us, hl with | [_], _ => rfl) pass00) (nomark _)))))
abbrev N_unpacked : List Str := ["rate", "text", "position", "word", "found", "place"]
theorem sc_unpacked : FnScope N_unpacked ["rate", "text"] (defScope (top 24)) := ⟨rfl, rfl, rfl, by decide +kernel, rfl, by decide +kernel, by decide +kernel⟩
theorem ok_unpacked (m : MB K mg base) : FnG P w K mg base (L2.CX P w) 4 (He.ga K "unpacked") m.fd_unpacked ["rate", "text"] (spF K [false, false] true (F_unpacked K)) := by
  have h := fn_ok (P := P) (w := w) (mg := mg) (base := base) (k := 3) (ms := [false, false]) (own := true) (b := B_unpacked K) m.F_unpacked sc_unpacked rfl
  refine h fun cdv A outer s H E hcd hr => ?_
  have nd := sc_unpacked.nd
  have hu64 := hr.units
  have hu : (A.deeper (PyProof.Rows.envOfC _ _ s.heap.objs.size _ cdv)).units + 1 < cLine := Nat.lt_of_le_of_lt (Nat.add_le_add_left (by decide) _) hu64
  exact sq_cons (st_expr (pr_call (ok_want_rate m) (hr.mono (by decide)) rfl m.g_want_rate m.F_want_rate.kp (m.F_want_rate.bindsN fun _ _ _ _ _ _ us hl => match us, hl with | [_], _ => rfl) passD (ms_sh (pr_var 0) (ms_nil))))
    (sq_cons (st_if (pb_w (pb_or (pb_not (pb_val (pr_call (ok_is_list m) (hr.mono (by decide)) rfl m.g_is_list m.F_is_list.kp (m.F_is_list.bindsN fun _ _ _ _ _ _ us hl => match us, hl with | [_], _ => rfl) passD (ms_sh (pr_var 1) (ms_nil))))) (pb_or1 (pb_not (pb_chain op_le op_le (pr_int) (pr_callB call_lenK d_lenK rfl m.f_len (by decide +kernel) (hs_cons (pr_var 1) (hs_nil))) (pr_gint rfl m.i_MOST_WORDS)))))) (sq_one (st_raise (n := 0) rfl (passD) m.xm_InvalidText (fe_InvalidText m) (hr.mono (by decide)).rm (bx_InvalidText m) rfl m.g_InvalidText (as_cons (PR.v (pr_non)) (as_nil)) (al_cons al_nil))) (sq_nil))
    (sq_cons (st_for ownD rfl (it_enumB rfl m.f_enumerate (as_cons (PR.v (pr_var 1)) (as_nil))) (tg_tup rfl (tgs_cons (tg_name (i := 2) nd rfl (by first | exact Or.inl rfl | exact Or.inr rfl)) (tgs_cons (tg_name (i := 3) nd rfl (by first | exact Or.inl rfl | exact Or.inr rfl)) (tgs_nil)))) (sq_one (st_if (pb_not (pb_val (pr_call (ok_is_word_of m) (hr.mono (by decide)) rfl m.g_is_word_of m.F_is_word_of.kp (m.F_is_word_of.bindsN fun _ _ _ _ _ _ us hl => match us, hl with | [_, _], _ => rfl) passD (ms_sh (pr_var 0) (ms_sh (pr_var 3) (ms_nil)))))) (sq_one (st_raise (n := 0) rfl (passD) m.xm_InvalidText (fe_InvalidText m) (hr.mono (by decide)).rm (bx_InvalidText m) rfl m.g_InvalidText (as_cons (PR.v (pr_var 2)) (as_nil)) (al_cons al_nil))) (sq_nil))))
    (sq_cons (st_if (pb_cmp (op_eqB hu64) d_eq (pr_ix (ix_B hu) d_ix (pr_var 1) (pr_un un_neg d_negU (pr_int)) (fun _ _ => rfl)) (pr_int) (nomark _)) (sq_one (st_raise (n := 0) rfl (passD) m.xm_InvalidText (fe_InvalidText m) (hr.mono (by decide)).rm (bx_InvalidText m) rfl m.g_InvalidText (as_cons (PR.v (pr_bin op_sub d_Ii (pr_callB call_lenK d_lenK rfl m.f_len (by decide +kernel) (hs_cons (pr_var 1) (hs_nil))) (pr_int))) (as_nil)) (al_cons al_nil))) (sq_nil))
    (sq_cons (st_asg (i := 4) nd rfl (by first | exact Or.inl rfl | exact Or.inr rfl) (pr_lst (as_nil)))
    (sq_cons (st_for ownD rfl (it_seqB (pr_var 1)) (tg_name (i := 3) nd rfl (by first | exact Or.inl rfl | exact Or.inr rfl)) (sq_one (st_expr (pr_extend (i := 4) rfl (by first | exact Or.inl rfl | exact Or.inr (Or.inl rfl) | exact Or.inr (Or.inr rfl)) (pr_lc0 (hs0 := rfl) nd (it_range3 rfl m.f_range (as_cons (PR.v (pr_bin op_sub d_Ii (pr_prop (pr_var 0) m.c_Rate m.pr_Rate_p (ok_Rate_p m) (hr.mono (by decide)) (m.F_Rate_p.bindsN fun _ _ _ _ _ _ us hl => match us, hl with | [_], _ => rfl) pass00) (pr_int))) (as_cons (PR.v (pr_un un_neg d_negU (pr_int))) (as_cons (PR.v (pr_un un_neg d_negU (pr_int))) (as_nil))))) (blkOk_by (N := N_unpacked) (sc := defScope (top 24)) (own := [("place", 5)]) (by decide +kernel)) (by decide) (fun _ _ _ _ _ => tg_name (i := 5) nd rfl (by first | exact Or.inl rfl | exact Or.inr rfl)) (fun _ _ _ _ _ => pr_bin op_and d_Ii (pr_bin op_shr d_Ic (pr_var 3) (pr_var 5)) (pr_int)))))))
    (sq_cons (st_while 8000 ownD (pb_cmp (op_eqB hu64) d_eq (pr_ix (ix_B hu) d_ix (pr_var 4) (pr_un un_neg d_negU (pr_int)) (fun _ _ => rfl)) (pr_int) (nomark _)) (sq_one (st_expr (pr_pop (i := 4) rfl (by first | exact Or.inl rfl | exact Or.inr (Or.inl rfl) | exact Or.inr (Or.inr rfl))))))
    (sq_one (st_ret (pr_slice (pr_var 4) (op_none) (op_some (pr_un un_neg d_negU (pr_int))))))))))))
theorem KB_unpacked (m : MB K mg base) : KBn K m.fd_unpacked ["rate", "text"] 0 ["text", "rate"] (fun _ ws => sw2 ws) (fun _ zs => sw2 zs) := by
  refine ⟨fun s us ws _ h1 h2 => ?_, fun _ h => vals_sw2 h⟩
  obtain ⟨oc, od, dV, kV, doc, pm, an, cdv, ct, osl, e, lk, hcd, hD, hK⟩ := m.F_unpacked.ex
  rcases hD with ⟨_, e2⟩ | ⟨e2, _⟩
  · rw [e, e2]
    match us, ws, h1, h2 with
    | [], [_, _], _, _ => exact BindsTo.of_eq rfl
  · exact absurd rfl e2
abbrev N__law_both_right : List Str := ["_law_pot_here", "_law_size", "_law_tempo", "_law_many", "_law_some", "_law_turn", "_law_due", "_law_kept", "_law_told_here", "_law_back"]
theorem sc__law_both_right : FnScope N__law_both_right ["_law_pot_here", "_law_size", "_law_tempo"] (defScope (top 33)) := ⟨rfl, rfl, rfl, by decide +kernel, rfl, by decide +kernel, by decide +kernel⟩
theorem ok__law_both_right (m : MB K mg base) : FnG P w K mg base (L2.CX P w) 5 (He.ga K "_law_both_right") m.fd__law_both_right ["_law_pot_here", "_law_size", "_law_tempo"] (spF K [true, false, false] false (F__law_both_right K)) := by
  have h := fn_ok (P := P) (w := w) (mg := mg) (base := base) (k := 4) (ms := [true, false, false]) (own := false) (b := B__law_both_right K) m.F__law_both_right sc__law_both_right rfl
  refine h fun cdv A outer s H E hcd hr => ?_
  have nd := sc__law_both_right.nd
  have hu64 := hr.units
  have hu : (A.deeper (PyProof.Rows.envOfC _ _ s.heap.objs.size _ cdv)).units + 1 < cLine := Nat.lt_of_le_of_lt (Nat.add_le_add_left (by decide) _) hu64
  exact sq_cons (st_asg (i := 3) nd rfl (by first | exact Or.inl rfl | exact Or.inr rfl) (pr_call (ok__law_pick m) (hr.mono (by decide)) rfl m.g__law_pick m.F__law_pick.kp (m.F__law_pick.bindsN fun _ _ _ _ _ _ us hl => match us, hl with | [_, _], _ => rfl) passD (ms_io (pr_var 0) (ms_sh (pr_lst (as_cons (PR.v (pr_int)) (as_cons (PR.v (pr_int)) (as_cons (PR.v (pr_int)) (as_cons (PR.v (pr_bin op_sub d_Ii (pr_var 1) (pr_int))) (as_cons (PR.v (pr_var 1)) (as_cons (PR.v (pr_call (ok__law_draw m) (hr.mono (by decide)) rfl m.g__law_draw m.F__law_draw.kp (m.F__law_draw.bindsN fun _ _ _ _ _ _ us hl => match us, hl with | [_, _], _ => rfl) passD (ms_io (pr_var 0) (ms_sh (pr_int) (ms_nil))))) (as_cons (PR.v (pr_call (ok__law_draw m) (hr.mono (by decide)) rfl m.g__law_draw m.F__law_draw.kp (m.F__law_draw.bindsN fun _ _ _ _ _ _ us hl => match us, hl with | [_, _], _ => rfl) passD (ms_io (pr_var 0) (ms_sh (pr_int) (ms_nil))))) (as_cons (PR.v (pr_bin op_addB d_add (pr_int) (pr_call (ok__law_draw m) (hr.mono (by decide)) rfl m.g__law_draw m.F__law_draw.kp (m.F__law_draw.bindsN fun _ _ _ _ _ _ us hl => match us, hl with | [_, _], _ => rfl) passD (ms_io (pr_var 0) (ms_sh (pr_int) (ms_nil)))))) (as_nil)))))))))) (ms_nil)))))
    (sq_cons (st_asgLc0 (i := 4) (hs0 := rfl) nd rfl rfl (it_range1 rfl m.f_range (as_cons (PR.v (pr_var 3)) (as_nil))) (blkOk_by (N := N__law_both_right) (sc := defScope (top 33)) (own := [("_law_turn", 5)]) (by decide +kernel)) (by decide) (fun _ _ _ _ _ => tg_name (i := 5) nd rfl (by first | exact Or.inl rfl | exact Or.inr rfl)) (fun _ _ _ _ _ => pr_call (ok__law_draw m) (hr.mono (by decide)) rfl m.g__law_draw m.F__law_draw.kp (m.F__law_draw.bindsN fun _ _ _ _ _ _ us hl => match us, hl with | [_, _], _ => rfl) pass00 (ms_io (pr_var 0) (ms_sh (pr_int) (ms_nil)))))
    (sq_cons (st_par (i := 6) (j := 7) rfl nd rfl rfl (by decide) rfl rfl (pp_cons (pr_call (ok__law_packed m) (hr.mono (by decide)) rfl m.g__law_packed m.F__law_packed.kp (m.F__law_packed.bindsN fun _ _ _ _ _ _ us hl => match us, hl with | [_, _], _ => rfl) passD (ms_sh (pr_var 4) (ms_sh (pr_var 1) (ms_nil)))) (pp_cons (pr_callTy call_list_of d_list rfl m.f_list (by decide +kernel) (hs_cons (pr_var 4) (hs_nil))) (pp_nil))) rfl)
    (sq_cons (st_asg (i := 8) nd rfl (by first | exact Or.inl rfl | exact Or.inr rfl) (pr_lstT (tr_cons (pr_call (ok_packed m) (hr.mono (by decide)) rfl m.g_packed m.F_packed.kp (m.F_packed.bindsN fun _ _ _ _ _ _ us hl => match us, hl with | [_, _], _ => rfl) passD (ms_sh (pr_var 2) (ms_sh (pr_var 4) (ms_nil)))) (tr_cons (pr_call (ok_packed m) (hr.mono (by decide)) rfl m.g_packed m.F_packed.kp (m.F_packed.bindsN fun _ _ _ _ _ _ us hl => match us, hl with | [_, _], _ => rfl) passD (ms_sh (pr_var 2) (ms_sh (pr_tupOf rfl m.f_tuple (hs_cons (pr_var 4) (hs_nil))) (ms_nil)))) (tr_cons (pr_callSw (ok_packed m) (hr.mono (by decide)) rfl m.g_packed m.F_packed.kp (KB_packed m) passD (ks_cons (PR.v (pr_var 4)) (ks_cons (PR.v (pr_var 2)) (ks_nil))) (al_cons (al_cons (al_nil)))) (tr_nil))))))
    (sq_cons (st_if (pb_w (pb_or (pb_cmp (op_neB hu64) d_ne (pr_reprQ hr.gd hu64 rfl m.f_repr (pr_var 8)) (pr_callB (call_reprD hr.gd hu64) d_repr rfl m.f_repr (by decide +kernel) (hs_cons (pr_lst (as_cons (PR.v (pr_var 6)) (as_cons (PR.v (pr_var 6)) (as_cons (PR.v (pr_var 6)) (as_nil))))) (hs_nil))) (nomark _)) (pb_or1 (pb_cmp (op_neB hu64) d_ne (pr_var 4) (pr_var 7) (nomark _))))) (sq_one (st_ret (pr_bl))) (sq_nil))
    (sq_cons (st_appT (pr_ixT (pr_var 8) (pr_int) (fun _ _ => rfl)) (pr_int))
    (sq_cons (st_asg (i := 9) nd rfl (by first | exact Or.inl rfl | exact Or.inr rfl) (pr_lstT (tr_cons (pr_call (ok_unpacked m) (hr.mono (by decide)) rfl m.g_unpacked m.F_unpacked.kp (m.F_unpacked.bindsN fun _ _ _ _ _ _ us hl => match us, hl with | [_, _], _ => rfl) passD (ms_sh (pr_var 2) (ms_sh (pr_var 6) (ms_nil)))) (tr_cons (pr_callSw (ok_unpacked m) (hr.mono (by decide)) rfl m.g_unpacked m.F_unpacked.kp (KB_unpacked m) passD (ks_cons (PR.v (pr_tupOf rfl m.f_tuple (hs_cons (pr_var 6) (hs_nil)))) (ks_cons (PR.v (pr_var 2)) (ks_nil))) (al_cons (al_cons (al_nil)))) (tr_nil)))))
    (sq_cons (st_if (pb_w (pb_or (pb_cmp (op_neB hu64) d_ne (pr_reprQ hr.gd hu64 rfl m.f_repr (pr_var 9)) (pr_callB (call_reprD hr.gd hu64) d_repr rfl m.f_repr (by decide +kernel) (hs_cons (pr_lst (as_cons (PR.v (pr_var 4)) (as_cons (PR.v (pr_var 4)) (as_nil)))) (hs_nil))) (nomark _)) (pb_or1 (pb_cmp (op_neB hu64) d_ne (pr_callB (call_reprD hr.gd hu64) d_repr rfl m.f_repr (by decide +kernel) (hs_cons (pr_call (ok_packed m) (hr.mono (by decide)) rfl m.g_packed m.F_packed.kp (m.F_packed.bindsN fun _ _ _ _ _ _ us hl => match us, hl with | [_, _], _ => rfl) passD (ms_sh (pr_var 2) (ms_sh (pr_var 4) (ms_nil)))) (hs_nil))) (pr_callB (call_reprD hr.gd hu64) d_repr rfl m.f_repr (by decide +kernel) (hs_cons (pr_var 6) (hs_nil))) (nomark _))))) (sq_one (st_ret (pr_bl))) (sq_nil))
    (sq_cons (st_appT (pr_ixT (pr_var 9) (pr_int) (fun _ _ => rfl)) (pr_int))
    (sq_one (st_ret (pr_cmp (op_eqB hu64) d_eq (pr_callB (call_reprD hr.gd hu64) d_repr rfl m.f_repr (by decide +kernel) (hs_cons (pr_call (ok_unpacked m) (hr.mono (by decide)) rfl m.g_unpacked m.F_unpacked.kp (m.F_unpacked.bindsN fun _ _ _ _ _ _ us hl => match us, hl with | [_, _], _ => rfl) passD (ms_sh (pr_var 2) (ms_sh (pr_var 6) (ms_nil)))) (hs_nil))) (pr_callB (call_reprD hr.gd hu64) d_repr rfl m.f_repr (by decide +kernel) (hs_cons (pr_var 7) (hs_nil))) (nomark _))))))))))))
abbrev N__law_told : List Str := ["_law_call", "_law_told_here", "e"]
theorem sc__law_told : FnScope N__law_told ["_law_call"] (defScope (top 32)) := ⟨rfl, rfl, rfl, by decide +kernel, rfl, by decide +kernel, by decide +kernel⟩
theorem gives__law_told {X : Cx} (m : M X.K X.mg) {cdv : Value} {q : Str} : Gives X N__law_told "_law_told" (defScope (top 32)) (He.ga X.K "_law_told") cdv (defBody (top 32)) "_law_call" q (TTt X.K N__law_told.length (B__law_told X.K)) := by
  refine gives_of (by decide) fun A outer s H f0 G0 H0 r0 hr act => ?_
  have nd := sc__law_told.nd
  exact sq_cons (st_asg (i := 1) nd rfl (by first | exact Or.inl rfl | exact Or.inr rfl) (pr_lst (as_cons (PR.v (pr_str)) (as_nil))))
    (sq_cons (st_try rfl rfl nd pass00 (fun W0_ pn_ xe_ tk_ po_ => sq_one (st_expr (act W0_ pn_ xe_ _ _ tk_))) (PHd.cons (i := 2) ⟨rfl, by decide, .inl m.g_InvalidRate⟩ rfl rfl (fun a0 oe cls d0 pn x0 G1 H1 hz hf ex => sq_one (st_asg (i := 1) nd rfl (by first | exact Or.inl rfl | exact Or.inr rfl) (pr_lst (as_cons (PR.v (pr_str)) (as_cons (PR.v (pr_xf (i := 2) hz hf ex m.xf_InvalidRate m.xm_InvalidRate.no rfl (by first | exact Or.inl rfl | exact Or.inr (Or.inl rfl) | exact Or.inr (Or.inr rfl)))) (as_cons (PR.v (pr_isX (us := [.ref (He.ga X.K "BarredError")]) (i := 2) hz hf ex m.xi_InvalidRate rfl m.f_isinstance rfl (by first | exact Or.inl rfl | exact Or.inr (Or.inl rfl) | exact Or.inr (Or.inr rfl)) (pr_gobj rfl m.g_BarredError))) (as_nil))))))) (PHd.cons (i := 2) ⟨rfl, by decide, .inl m.g_InvalidBits⟩ rfl rfl (fun a0 oe cls d0 pn x0 G1 H1 hz hf ex => sq_one (st_asg (i := 1) nd rfl (by first | exact Or.inl rfl | exact Or.inr rfl) (pr_lst (as_cons (PR.v (pr_str)) (as_cons (PR.v (pr_xf (i := 2) hz hf ex m.xf_InvalidBits m.xm_InvalidBits.no rfl (by first | exact Or.inl rfl | exact Or.inr (Or.inl rfl) | exact Or.inr (Or.inr rfl)))) (as_cons (PR.v (pr_isX (us := [.ref (He.ga X.K "BarredError")]) (i := 2) hz hf ex m.xi_InvalidBits rfl m.f_isinstance rfl (by first | exact Or.inl rfl | exact Or.inr (Or.inl rfl) | exact Or.inr (Or.inr rfl)) (pr_gobj rfl m.g_BarredError))) (as_nil))))))) (PHd.cons (i := 2) ⟨rfl, by decide, .inl m.g_InvalidText⟩ rfl rfl (fun a0 oe cls d0 pn x0 G1 H1 hz hf ex => sq_one (st_asg (i := 1) nd rfl (by first | exact Or.inl rfl | exact Or.inr rfl) (pr_lst (as_cons (PR.v (pr_str)) (as_cons (PR.v (pr_xf (i := 2) hz hf ex m.xf_InvalidText m.xm_InvalidText.no rfl (by first | exact Or.inl rfl | exact Or.inr (Or.inl rfl) | exact Or.inr (Or.inr rfl)))) (as_cons (PR.v (pr_isX (us := [.ref (He.ga X.K "BarredError")]) (i := 2) hz hf ex m.xi_InvalidText rfl m.f_isinstance rfl (by first | exact Or.inl rfl | exact Or.inr (Or.inl rfl) | exact Or.inr (Or.inr rfl)) (pr_gobj rfl m.g_BarredError))) (as_nil))))))) (PHd.nil)))))
    (sq_one (st_ret (pr_var 1))))
abbrev N__law_spread : List Str := ["_law_words", "_law_size", "_law_found", "_law_each", "_law_at"]
theorem sc__law_spread : FnScope N__law_spread ["_law_words", "_law_size"] (defScope (top 30)) := ⟨rfl, rfl, rfl, by decide +kernel, rfl, by decide +kernel, by decide +kernel⟩
theorem ok__law_spread (m : MB K mg base) : FnG P w K mg base (L2.CX P w) 1 (He.ga K "_law_spread") m.fd__law_spread ["_law_words", "_law_size"] (spF K [false, false] true (F__law_spread K)) := by
  have h := fn_ok (P := P) (w := w) (mg := mg) (base := base) (k := 0) (ms := [false, false]) (own := true) (b := B__law_spread K) m.F__law_spread sc__law_spread rfl
  refine h fun cdv A outer s H E hcd hr => ?_
  have nd := sc__law_spread.nd
  have hu64 := hr.units
  have hu : (A.deeper (PyProof.Rows.envOfC _ _ s.heap.objs.size _ cdv)).units + 1 < cLine := Nat.lt_of_le_of_lt (Nat.add_le_add_left (by decide) _) hu64
  exact sq_cons (st_asg (i := 2) nd rfl (by first | exact Or.inl rfl | exact Or.inr rfl) (pr_lst (as_nil)))
    (sq_cons (st_for ownD rfl (it_list (pr_var 0)) (tg_name (i := 3) nd rfl (by first | exact Or.inl rfl | exact Or.inr rfl)) (sq_one (st_expr (pr_extend (i := 2) rfl (by first | exact Or.inl rfl | exact Or.inr (Or.inl rfl) | exact Or.inr (Or.inr rfl)) (pr_lc0 (hs0 := rfl) nd (it_range3 rfl m.f_range (as_cons (PR.v (pr_bin op_sub d_Ii (pr_var 1) (pr_int))) (as_cons (PR.v (pr_un un_neg d_negU (pr_int))) (as_cons (PR.v (pr_un un_neg d_negU (pr_int))) (as_nil))))) (blkOk_by (N := N__law_spread) (sc := defScope (top 30)) (own := [("_law_at", 4)]) (by decide +kernel)) (by decide) (fun _ _ _ _ _ => tg_name (i := 4) nd rfl (by first | exact Or.inl rfl | exact Or.inr rfl)) (fun _ _ _ _ _ => pr_bin op_mod d_Ic (pr_callTy call_int1 d_int rfl m.f_int (by decide +kernel) (hs_cons (pr_bin op_fdiv d_Ic (pr_var 3) (pr_bin op_shl d_Ic (pr_int) (pr_var 4))) (hs_nil))) (pr_int)))))))
    (sq_one (st_ret (pr_var 2))))
abbrev N__law_unpacked : List Str := ["_law_words", "_law_size", "_law_found"]
theorem sc__law_unpacked : FnScope N__law_unpacked ["_law_words", "_law_size"] (defScope (top 31)) := ⟨rfl, rfl, rfl, by decide +kernel, rfl, by decide +kernel, by decide +kernel⟩
theorem ok__law_unpacked (m : MB K mg base) : FnG P w K mg base (L2.CX P w) 2 (He.ga K "_law_unpacked") m.fd__law_unpacked ["_law_words", "_law_size"] (spF K [false, false] true (F__law_unpacked K)) := by
  have h := fn_ok (P := P) (w := w) (mg := mg) (base := base) (k := 1) (ms := [false, false]) (own := true) (b := B__law_unpacked K) m.F__law_unpacked sc__law_unpacked rfl
  refine h fun cdv A outer s H E hcd hr => ?_
  have nd := sc__law_unpacked.nd
  have hu64 := hr.units
  have hu : (A.deeper (PyProof.Rows.envOfC _ _ s.heap.objs.size _ cdv)).units + 1 < cLine := Nat.lt_of_le_of_lt (Nat.add_le_add_left (by decide) _) hu64
  exact sq_cons (st_asg (i := 2) nd rfl (by first | exact Or.inl rfl | exact Or.inr rfl) (pr_call (ok__law_spread m) (hr.mono (by decide)) rfl m.g__law_spread m.F__law_spread.kp (m.F__law_spread.bindsN fun _ _ _ _ _ _ us hl => match us, hl with | [_, _], _ => rfl) passD (ms_sh (pr_var 0) (ms_sh (pr_var 1) (ms_nil)))))
    (sq_cons (st_while 8000 ownD (pb_cmp (op_eqB hu64) d_eq (pr_ix (ix_B hu) d_ix (pr_var 2) (pr_un un_neg d_negU (pr_int)) (fun _ _ => rfl)) (pr_int) (nomark _)) (sq_one (st_expr (pr_pop (i := 2) rfl (by first | exact Or.inl rfl | exact Or.inr (Or.inl rfl) | exact Or.inr (Or.inr rfl))))))
    (sq_one (st_ret (pr_slice (pr_var 2) (op_none) (op_some (pr_un un_neg d_negU (pr_int)))))))
abbrev N__law_texts_right : List Str := ["_law_pot_here", "_law_size", "_law_tempo", "_law_many", "_law_words", "_law_turn", "_law_due"]
theorem sc__law_texts_right : FnScope N__law_texts_right ["_law_pot_here", "_law_size", "_law_tempo"] (defScope (top 34)) := ⟨rfl, rfl, rfl, by decide +kernel, rfl, by decide +kernel, by decide +kernel⟩
theorem ok__law_texts_right (m : MB K mg base) : FnG P w K mg base (L2.CX P w) 8 (He.ga K "_law_texts_right") m.fd__law_texts_right ["_law_pot_here", "_law_size", "_law_tempo"] (spF K [true, false, false] false (F__law_texts_right K)) := by
  have h := fn_ok (P := P) (w := w) (mg := mg) (base := base) (k := 7) (ms := [true, false, false]) (own := false) (b := B__law_texts_right K) m.F__law_texts_right sc__law_texts_right rfl
  refine h fun cdv A outer s H E hcd hr => ?_
  obtain ⟨c0, P0, ht0, hTB⟩ := m.tb.tb "_law_texts_right" (by decide)
  have hcode : cdv = .ref c0 := hcd.symm.trans (tab_fd m.F__law_texts_right ht0)
  have hmT := tbT_mem ht0 (by decide)
  have hu0 := tbT_uniq m.tabsne ht0 (by decide)
  have nd := sc__law_texts_right.nd
  have hu64 := hr.units
  have hu : (A.deeper (PyProof.Rows.envOfC _ _ s.heap.objs.size _ cdv)).units + 1 < cLine := Nat.lt_of_le_of_lt (Nat.add_le_add_left (by decide) _) hu64
  exact sq_cons (st_asg (i := 3) nd rfl (by first | exact Or.inl rfl | exact Or.inr rfl) (pr_call (ok__law_pick m) (hr.mono (by decide)) rfl m.g__law_pick m.F__law_pick.kp (m.F__law_pick.bindsN fun _ _ _ _ _ _ us hl => match us, hl with | [_, _], _ => rfl) passD (ms_io (pr_var 0) (ms_sh (pr_lst (as_cons (PR.v (pr_int)) (as_cons (PR.v (pr_int)) (as_cons (PR.v (pr_bin op_addB d_add (pr_int) (pr_call (ok__law_draw m) (hr.mono (by decide)) rfl m.g__law_draw m.F__law_draw.kp (m.F__law_draw.bindsN fun _ _ _ _ _ _ us hl => match us, hl with | [_, _], _ => rfl) passD (ms_io (pr_var 0) (ms_sh (pr_int) (ms_nil)))))) (as_cons (PR.v (pr_bin op_addB d_add (pr_int) (pr_call (ok__law_draw m) (hr.mono (by decide)) rfl m.g__law_draw m.F__law_draw.kp (m.F__law_draw.bindsN fun _ _ _ _ _ _ us hl => match us, hl with | [_, _], _ => rfl) passD (ms_io (pr_var 0) (ms_sh (pr_int) (ms_nil)))))) (as_cons (PR.v (pr_bin op_addB d_add (pr_int) (pr_call (ok__law_draw m) (hr.mono (by decide)) rfl m.g__law_draw m.F__law_draw.kp (m.F__law_draw.bindsN fun _ _ _ _ _ _ us hl => match us, hl with | [_, _], _ => rfl) passD (ms_io (pr_var 0) (ms_sh (pr_int) (ms_nil)))))) (as_cons (PR.v (pr_int)) (as_nil)))))))) (ms_nil)))))
    (sq_cons (st_asg (i := 4) nd rfl (by first | exact Or.inl rfl | exact Or.inr rfl) (pr_lc0 (hs0 := rfl) nd (it_range1 rfl m.f_range (as_cons (PR.v (pr_var 3)) (as_nil))) (blkOk_by (N := N__law_texts_right) (sc := defScope (top 34)) (own := [("_law_turn", 5)]) (by decide +kernel)) (by decide) (fun _ _ _ _ _ => tg_name (i := 5) nd rfl (by first | exact Or.inl rfl | exact Or.inr rfl)) (fun _ _ _ _ _ => pr_call (ok__law_draw m) (hr.mono (by decide)) rfl m.g__law_draw m.F__law_draw.kp (m.F__law_draw.bindsN fun _ _ _ _ _ _ us hl => match us, hl with | [_, _], _ => rfl) pass00 (ms_io (pr_var 0) (ms_sh (pr_bin op_shl d_Ic (pr_int) (pr_var 1)) (ms_nil))))))
    (sq_cons (st_if (pb_cmp (op_eqB hu64) d_eq (pr_call (ok__law_draw m) (hr.mono (by decide)) rfl m.g__law_draw m.F__law_draw.kp (m.F__law_draw.bindsN fun _ _ _ _ _ _ us hl => match us, hl with | [_, _], _ => rfl) passD (ms_io (pr_var 0) (ms_sh (pr_int) (ms_nil)))) (pr_int) (nomark _)) (sq_one (st_setL (i := 4) rfl (by first | exact Or.inl rfl | exact Or.inr (Or.inl rfl) | exact Or.inr (Or.inr rfl)) (pr_call (ok__law_pick m) (hr.mono (by decide)) rfl m.g__law_pick m.F__law_pick.kp (m.F__law_pick.bindsN fun _ _ _ _ _ _ us hl => match us, hl with | [_, _], _ => rfl) passD (ms_io (pr_var 0) (ms_sh (pr_lst (as_cons (PR.v (pr_int)) (as_cons (PR.v (pr_int)) (as_cons (PR.v (pr_bin op_sub d_Ii (pr_bin op_shl d_Ic (pr_int) (pr_var 1)) (pr_int))) (as_cons (PR.v (pr_bin op_shl d_Ic (pr_int) (pr_bin op_sub d_Ii (pr_var 1) (pr_int)))) (as_nil)))))) (ms_nil)))) (pr_un un_neg d_negU (pr_int)))) (sq_nil))
    (sq_cons (st_if (pb_cmp (op_eqB hu64) d_eq (pr_ix (ix_B hu) d_ix (pr_var 4) (pr_un un_neg d_negU (pr_int)) (fun _ _ => rfl)) (pr_int) (nomark _)) (sq_one (st_ret (pr_cmp (op_eqB hu64) d_eq (pr_frz (pr_lam (Ng := N__law_told) (k := 4) rfl m.g__law_told m.F__law_told (m.F__law_told.bindsN fun _ _ _ _ _ _ us hl => match us, hl with | [_], _ => rfl) sc__law_told rfl (by first | exact Or.inl rfl | exact Or.inr (Or.inl rfl) | exact Or.inr (Or.inr rfl)) (fun cdv => gives__law_told m.toM) hTB hcode hmT hu0 (hr.mono (by decide)) (show LamX.LamS (defScope (top 34)) _ from LamX.lamS_by (by decide +kernel)) rfl (fun _ _ _ _ _ => rfl) (fun A2 outer2 s2 H2 E2 f2 c2 hr2 => pr_call (ok_unpacked m) (hr2.mono (by decide)) rfl m.g_unpacked m.F_unpacked.kp (m.F_unpacked.bindsN fun _ _ _ _ _ _ us hl => match us, hl with | [_, _], _ => rfl) (takes_of rfl rfl rfl rfl) (ms_sh (pr_var 2) (ms_sh (pr_var 4) (ms_nil)))))) (pr_lst (as_cons (PR.v (pr_str)) (as_cons (PR.v (pr_bin op_sub d_Ii (pr_var 3) (pr_int))) (as_cons (PR.v (pr_bl)) (as_nil))))) (nomark _)))) (sq_nil))
    (sq_cons (st_asg (i := 6) nd rfl (by first | exact Or.inl rfl | exact Or.inr rfl) (pr_call (ok__law_unpacked m) (hr.mono (by decide)) rfl m.g__law_unpacked m.F__law_unpacked.kp (m.F__law_unpacked.bindsN fun _ _ _ _ _ _ us hl => match us, hl with | [_, _], _ => rfl) passD (ms_sh (pr_var 4) (ms_sh (pr_var 1) (ms_nil)))))
    (sq_cons (st_if (pb_cmp (op_neB hu64) d_ne (pr_callB (call_reprD hr.gd hu64) d_repr rfl m.f_repr (by decide +kernel) (hs_cons (pr_call (ok_unpacked m) (hr.mono (by decide)) rfl m.g_unpacked m.F_unpacked.kp (m.F_unpacked.bindsN fun _ _ _ _ _ _ us hl => match us, hl with | [_, _], _ => rfl) passD (ms_sh (pr_var 2) (ms_sh (pr_var 4) (ms_nil)))) (hs_nil))) (pr_callB (call_reprD hr.gd hu64) d_repr rfl m.f_repr (by decide +kernel) (hs_cons (pr_var 6) (hs_nil))) (nomark _)) (sq_one (st_ret (pr_bl))) (sq_nil))
    (sq_one (st_ret (pr_or (pr_cmp op_gt d_Ib (pr_callB call_lenK d_lenK rfl m.f_len (by decide +kernel) (hs_cons (pr_var 6) (hs_nil))) (pr_int) (nomark _)) (pr_one (pr_cmp (op_eqB hu64) d_eq (pr_callB (call_reprD hr.gd hu64) d_repr rfl m.f_repr (by decide +kernel) (hs_cons (pr_call (ok_packed m) (hr.mono (by decide)) rfl m.g_packed m.F_packed.kp (m.F_packed.bindsN fun _ _ _ _ _ _ us hl => match us, hl with | [_, _], _ => rfl) passD (ms_sh (pr_var 2) (ms_sh (pr_var 6) (ms_nil)))) (hs_nil))) (pr_callB (call_reprD hr.gd hu64) d_repr rfl m.f_repr (by decide +kernel) (hs_cons (pr_var 4) (hs_nil))) (nomark _)))))))))))
abbrev N__law_refused : List Str := ["_law_pot_here", "_law_size", "_law_tempo", "_law_odd", "_law_top", "_law_some", "_law_turn", "_law_at", "_law_wrong", "_law_bent", "_law_none_now", "_law_told_here", "_law_words", "_law_nothing", "_law_due"]
theorem sc__law_refused : FnScope N__law_refused ["_law_pot_here", "_law_size", "_law_tempo"] (defScope (top 35)) := ⟨rfl, rfl, rfl, by decide +kernel, rfl, by decide +kernel, by decide +kernel⟩
theorem ok__law_refused (m : MB K mg base) : FnG P w K mg base (L2.CX P w) 8 (He.ga K "_law_refused") m.fd__law_refused ["_law_pot_here", "_law_size", "_law_tempo"] (spF K [true, false, false] false (F__law_refused K)) := by
  have h := fn_ok (P := P) (w := w) (mg := mg) (base := base) (k := 7) (ms := [true, false, false]) (own := false) (b := B__law_refused K) m.F__law_refused sc__law_refused rfl
  refine h fun cdv A outer s H E hcd hr => ?_
  obtain ⟨c0, P0, ht0, hTB⟩ := m.tb.tb "_law_refused" (by decide)
  have hcode : cdv = .ref c0 := hcd.symm.trans (tab_fd m.F__law_refused ht0)
  have hmT := tbT_mem ht0 (by decide)
  have hu0 := tbT_uniq m.tabsne ht0 (by decide)
  have nd := sc__law_refused.nd
  have hu64 := hr.units
  have hu : (A.deeper (PyProof.Rows.envOfC _ _ s.heap.objs.size _ cdv)).units + 1 < cLine := Nat.lt_of_le_of_lt (Nat.add_le_add_left (by decide) _) hu64
  exact sq_cons (st_asg (i := 3) nd rfl (by first | exact Or.inl rfl | exact Or.inr rfl) (pr_call (ok__law_pick m) (hr.mono (by decide)) rfl m.g__law_pick m.F__law_pick.kp (m.F__law_pick.bindsN fun _ _ _ _ _ _ us hl => match us, hl with | [_, _], _ => rfl) passD (ms_io (pr_var 0) (ms_sh (pr_lst (as_cons (PR.v (pr_non)) (as_cons (PR.v (pr_int)) (as_cons (PR.v (pr_tup (as_cons (PR.v (pr_var 1)) (as_cons (PR.v (pr_var 1)) (as_nil))))) (as_cons (PR.v (pr_str)) (as_cons (PR.v (pr_lst (as_nil))) (as_cons (PR.v (pr_bl)) (as_nil)))))))) (ms_nil)))))
    (sq_cons (st_parC (i := 4) (j := 5) rfl nd rfl rfl (by first | exact Or.inl rfl | exact Or.inr rfl) (by first | exact Or.inl rfl | exact Or.inr rfl) (pp_cons (pr_bin op_shl d_Ic (pr_int) (pr_var 1)) (pp_cons (pr_lc0 (hs0 := rfl) nd (it_range1 rfl m.f_range (as_cons (PR.v (pr_int)) (as_nil))) (blkOk_by (N := N__law_refused) (sc := defScope (top 35)) (own := [("_law_turn", 6)]) (by decide +kernel)) (by decide) (fun _ _ _ _ _ => tg_name (i := 6) nd rfl (by first | exact Or.inl rfl | exact Or.inr rfl)) (fun _ _ _ _ _ => pr_call (ok__law_draw m) (hr.mono (by decide)) rfl m.g__law_draw m.F__law_draw.kp (m.F__law_draw.bindsN fun _ _ _ _ _ _ us hl => match us, hl with | [_, _], _ => rfl) pass00 (ms_io (pr_var 0) (ms_sh (pr_int) (ms_nil))))) (pp_nil))))
    (sq_cons (st_asg (i := 7) nd rfl (by first | exact Or.inl rfl | exact Or.inr rfl) (pr_call (ok__law_draw m) (hr.mono (by decide)) rfl m.g__law_draw m.F__law_draw.kp (m.F__law_draw.bindsN fun _ _ _ _ _ _ us hl => match us, hl with | [_, _], _ => rfl) passD (ms_io (pr_var 0) (ms_sh (pr_int) (ms_nil)))))
    (sq_cons (st_asg (i := 8) nd rfl (by first | exact Or.inl rfl | exact Or.inr rfl) (pr_call (ok__law_pick m) (hr.mono (by decide)) rfl m.g__law_pick m.F__law_pick.kp (m.F__law_pick.bindsN fun _ _ _ _ _ _ us hl => match us, hl with | [_, _], _ => rfl) passD (ms_io (pr_var 0) (ms_sh (pr_lst (as_cons (PR.v (pr_int)) (as_cons (PR.v (pr_un un_neg d_negU (pr_int))) (as_cons (PR.v (pr_bl)) (as_cons (PR.v (pr_bl)) (as_cons (PR.v (pr_non)) (as_cons (PR.v (pr_str)) (as_cons (PR.v (pr_lst (as_cons (PR.v (pr_int)) (as_nil)))) (as_cons (PR.v (pr_bin op_pow d_Ic (pr_int) (pr_int))) (as_nil)))))))))) (ms_nil)))))
    (sq_cons (st_asg (i := 9) nd rfl (by first | exact Or.inl rfl | exact Or.inr rfl) (pr_bin op_addB d_add (pr_bin op_addB d_add (pr_bin op_addB d_add (pr_slice (pr_var 5) (op_none) (op_some (pr_var 7))) (pr_lst (as_cons (PR.v (pr_var 8)) (as_nil)))) (pr_slice (pr_var 5) (op_some (pr_var 7)) (op_none))) (pr_lst (as_cons (PR.v (pr_int)) (as_cons (PR.v (pr_non)) (as_nil))))))
    (sq_cons (st_asg (i := 10) nd rfl (by first | exact Or.inl rfl | exact Or.inr rfl) (pr_call (ok__law_pick m) (hr.mono (by decide)) rfl m.g__law_pick m.F__law_pick.kp (m.F__law_pick.bindsN fun _ _ _ _ _ _ us hl => match us, hl with | [_, _], _ => rfl) passD (ms_io (pr_var 0) (ms_sh (pr_lst (as_cons (PR.v (pr_non)) (as_cons (PR.v (pr_int)) (as_cons (PR.v (pr_str)) (as_cons (PR.v (pr_str)) (as_cons (PR.v (pr_dic0)) (as_cons (PR.v (pr_dic1 pe_int pe_int (fun _ => rep_int) (fun _ => rep_int))) (as_cons (PR.v (pr_bl)) (as_cons (PR.v (pr_bin op_mulB d_mul (pr_lst (as_cons (PR.v (pr_int)) (as_nil))) (pr_int))) (as_cons (PR.v (pr_repT (pr_tup (as_cons (PR.v (pr_int)) (as_nil))) (pr_int))) (as_cons (PR.v (pr_int)) (as_nil)))))))))))) (ms_nil)))))
    (sq_cons (st_asg (i := 11) nd rfl (by first | exact Or.inl rfl | exact Or.inr rfl) (pr_lst (as_cons (PR.v (pr_frz (pr_lam (Ng := N__law_told) (k := 4) rfl m.g__law_told m.F__law_told (m.F__law_told.bindsN fun _ _ _ _ _ _ us hl => match us, hl with | [_], _ => rfl) sc__law_told rfl (by first | exact Or.inl rfl | exact Or.inr (Or.inl rfl) | exact Or.inr (Or.inr rfl)) (fun cdv => gives__law_told m.toM) hTB hcode hmT hu0 (hr.mono (by decide)) (show LamX.LamS (defScope (top 35)) _ from LamX.lamS_by (by decide +kernel)) rfl (fun _ _ _ _ _ => rfl) (fun A2 outer2 s2 H2 E2 f2 c2 hr2 => pr_call (ok_packed m) (hr2.mono (by decide)) rfl m.g_packed m.F_packed.kp (m.F_packed.bindsN fun _ _ _ _ _ _ us hl => match us, hl with | [_, _], _ => rfl) (takes_of rfl rfl rfl rfl) (ms_sh (pr_var 3) (ms_sh (pr_var 10) (ms_nil))))))) (as_nil))))
    (sq_cons (st_expr (pr_append (i := 11) rfl (by first | exact Or.inl rfl | exact Or.inr (Or.inl rfl) | exact Or.inr (Or.inr rfl)) (pr_frz (pr_lam (Ng := N__law_told) (k := 4) rfl m.g__law_told m.F__law_told (m.F__law_told.bindsN fun _ _ _ _ _ _ us hl => match us, hl with | [_], _ => rfl) sc__law_told rfl (by first | exact Or.inl rfl | exact Or.inr (Or.inl rfl) | exact Or.inr (Or.inr rfl)) (fun cdv => gives__law_told m.toM) hTB hcode hmT hu0 (hr.mono (by decide)) (show LamX.LamS (defScope (top 35)) _ from LamX.lamS_by (by decide +kernel)) rfl (fun _ _ _ _ _ => rfl) (fun A2 outer2 s2 H2 E2 f2 c2 hr2 => pr_call (ok_packed m) (hr2.mono (by decide)) rfl m.g_packed m.F_packed.kp (m.F_packed.bindsN fun _ _ _ _ _ _ us hl => match us, hl with | [_, _], _ => rfl) (takes_of rfl rfl rfl rfl) (ms_sh (pr_var 2) (ms_sh (pr_var 10) (ms_nil))))))))
    (sq_cons (st_expr (pr_append (i := 11) rfl (by first | exact Or.inl rfl | exact Or.inr (Or.inl rfl) | exact Or.inr (Or.inr rfl)) (pr_frz (pr_lam (Ng := N__law_told) (k := 4) rfl m.g__law_told m.F__law_told (m.F__law_told.bindsN fun _ _ _ _ _ _ us hl => match us, hl with | [_], _ => rfl) sc__law_told rfl (by first | exact Or.inl rfl | exact Or.inr (Or.inl rfl) | exact Or.inr (Or.inr rfl)) (fun cdv => gives__law_told m.toM) hTB hcode hmT hu0 (hr.mono (by decide)) (show LamX.LamS (defScope (top 35)) _ from LamX.lamS_by (by decide +kernel)) rfl (fun _ _ _ _ _ => rfl) (fun A2 outer2 s2 H2 E2 f2 c2 hr2 => pr_call (ok_packed m) (hr2.mono (by decide)) rfl m.g_packed m.F_packed.kp (m.F_packed.bindsN fun _ _ _ _ _ _ us hl => match us, hl with | [_, _], _ => rfl) (takes_of rfl rfl rfl rfl) (ms_sh (pr_var 2) (ms_sh (pr_var 9) (ms_nil))))))))
    (sq_cons (st_expr (pr_append (i := 11) rfl (by first | exact Or.inl rfl | exact Or.inr (Or.inl rfl) | exact Or.inr (Or.inr rfl)) (pr_frz (pr_lam (Ng := N__law_told) (k := 4) rfl m.g__law_told m.F__law_told (m.F__law_told.bindsN fun _ _ _ _ _ _ us hl => match us, hl with | [_], _ => rfl) sc__law_told rfl (by first | exact Or.inl rfl | exact Or.inr (Or.inl rfl) | exact Or.inr (Or.inr rfl)) (fun cdv => gives__law_told m.toM) hTB hcode hmT hu0 (hr.mono (by decide)) (show LamX.LamS (defScope (top 35)) _ from LamX.lamS_by (by decide +kernel)) rfl (fun _ _ _ _ _ => rfl) (fun A2 outer2 s2 H2 E2 f2 c2 hr2 => pr_call (ok_packed m) (hr2.mono (by decide)) rfl m.g_packed m.F_packed.kp (m.F_packed.bindsN fun _ _ _ _ _ _ us hl => match us, hl with | [_, _], _ => rfl) (takes_of rfl rfl rfl rfl) (ms_sh (pr_var 2) (ms_sh (pr_bin op_mulB d_mul (pr_lst (as_cons (PR.v (pr_int)) (as_nil))) (pr_int)) (ms_nil))))))))
    (sq_cons (st_asg (i := 8) nd rfl (by first | exact Or.inl rfl | exact Or.inr rfl) (pr_call (ok__law_pick m) (hr.mono (by decide)) rfl m.g__law_pick m.F__law_pick.kp (m.F__law_pick.bindsN fun _ _ _ _ _ _ us hl => match us, hl with | [_, _], _ => rfl) passD (ms_io (pr_var 0) (ms_sh (pr_lst (as_cons (PR.v (pr_var 4)) (as_cons (PR.v (pr_un un_neg d_negU (pr_int))) (as_cons (PR.v (pr_bl)) (as_cons (PR.v (pr_bl)) (as_cons (PR.v (pr_non)) (as_cons (PR.v (pr_str)) (as_cons (PR.v (pr_lst (as_cons (PR.v (pr_int)) (as_nil)))) (as_cons (PR.v (pr_bin op_pow d_Ic (pr_int) (pr_int))) (as_nil)))))))))) (ms_nil)))))
    (sq_cons (st_asg (i := 12) nd rfl (by first | exact Or.inl rfl | exact Or.inr rfl) (pr_bin op_addB d_add (pr_bin op_addB d_add (pr_bin op_addB d_add (pr_slice (pr_var 5) (op_none) (op_some (pr_var 7))) (pr_lst (as_cons (PR.v (pr_var 8)) (as_nil)))) (pr_slice (pr_var 5) (op_some (pr_var 7)) (op_none))) (pr_lst (as_cons (PR.v (pr_un un_neg d_negU (pr_int))) (as_nil)))))
    (sq_cons (st_asg (i := 13) nd rfl (by first | exact Or.inl rfl | exact Or.inr rfl) (pr_call (ok__law_pick m) (hr.mono (by decide)) rfl m.g__law_pick m.F__law_pick.kp (m.F__law_pick.bindsN fun _ _ _ _ _ _ us hl => match us, hl with | [_, _], _ => rfl) passD (ms_io (pr_var 0) (ms_sh (pr_lst (as_cons (PR.v (pr_non)) (as_cons (PR.v (pr_int)) (as_cons (PR.v (pr_str)) (as_cons (PR.v (pr_str)) (as_cons (PR.v (pr_dic0)) (as_cons (PR.v (pr_lst (as_nil))) (as_cons (PR.v (pr_tup (as_nil))) (as_cons (PR.v (pr_bl)) (as_cons (PR.v (pr_bin op_mulB d_mul (pr_lst (as_cons (PR.v (pr_int)) (as_nil))) (pr_int))) (as_cons (PR.v (pr_int)) (as_nil)))))))))))) (ms_nil)))))
    (sq_cons (st_expr (pr_append (i := 11) rfl (by first | exact Or.inl rfl | exact Or.inr (Or.inl rfl) | exact Or.inr (Or.inr rfl)) (pr_frz (pr_lam (Ng := N__law_told) (k := 4) rfl m.g__law_told m.F__law_told (m.F__law_told.bindsN fun _ _ _ _ _ _ us hl => match us, hl with | [_], _ => rfl) sc__law_told rfl (by first | exact Or.inl rfl | exact Or.inr (Or.inl rfl) | exact Or.inr (Or.inr rfl)) (fun cdv => gives__law_told m.toM) hTB hcode hmT hu0 (hr.mono (by decide)) (show LamX.LamS (defScope (top 35)) _ from LamX.lamS_by (by decide +kernel)) rfl (fun _ _ _ _ _ => rfl) (fun A2 outer2 s2 H2 E2 f2 c2 hr2 => pr_call (ok_unpacked m) (hr2.mono (by decide)) rfl m.g_unpacked m.F_unpacked.kp (m.F_unpacked.bindsN fun _ _ _ _ _ _ us hl => match us, hl with | [_, _], _ => rfl) (takes_of rfl rfl rfl rfl) (ms_sh (pr_var 3) (ms_sh (pr_var 13) (ms_nil))))))))
    (sq_cons (st_expr (pr_append (i := 11) rfl (by first | exact Or.inl rfl | exact Or.inr (Or.inl rfl) | exact Or.inr (Or.inr rfl)) (pr_frz (pr_lam (Ng := N__law_told) (k := 4) rfl m.g__law_told m.F__law_told (m.F__law_told.bindsN fun _ _ _ _ _ _ us hl => match us, hl with | [_], _ => rfl) sc__law_told rfl (by first | exact Or.inl rfl | exact Or.inr (Or.inl rfl) | exact Or.inr (Or.inr rfl)) (fun cdv => gives__law_told m.toM) hTB hcode hmT hu0 (hr.mono (by decide)) (show LamX.LamS (defScope (top 35)) _ from LamX.lamS_by (by decide +kernel)) rfl (fun _ _ _ _ _ => rfl) (fun A2 outer2 s2 H2 E2 f2 c2 hr2 => pr_call (ok_unpacked m) (hr2.mono (by decide)) rfl m.g_unpacked m.F_unpacked.kp (m.F_unpacked.bindsN fun _ _ _ _ _ _ us hl => match us, hl with | [_, _], _ => rfl) (takes_of rfl rfl rfl rfl) (ms_sh (pr_var 2) (ms_sh (pr_var 13) (ms_nil))))))))
    (sq_cons (st_expr (pr_append (i := 11) rfl (by first | exact Or.inl rfl | exact Or.inr (Or.inl rfl) | exact Or.inr (Or.inr rfl)) (pr_frz (pr_lam (Ng := N__law_told) (k := 4) rfl m.g__law_told m.F__law_told (m.F__law_told.bindsN fun _ _ _ _ _ _ us hl => match us, hl with | [_], _ => rfl) sc__law_told rfl (by first | exact Or.inl rfl | exact Or.inr (Or.inl rfl) | exact Or.inr (Or.inr rfl)) (fun cdv => gives__law_told m.toM) hTB hcode hmT hu0 (hr.mono (by decide)) (show LamX.LamS (defScope (top 35)) _ from LamX.lamS_by (by decide +kernel)) rfl (fun _ _ _ _ _ => rfl) (fun A2 outer2 s2 H2 E2 f2 c2 hr2 => pr_call (ok_unpacked m) (hr2.mono (by decide)) rfl m.g_unpacked m.F_unpacked.kp (m.F_unpacked.bindsN fun _ _ _ _ _ _ us hl => match us, hl with | [_, _], _ => rfl) (takes_of rfl rfl rfl rfl) (ms_sh (pr_var 2) (ms_sh (pr_var 12) (ms_nil))))))))
    (sq_cons (st_expr (pr_append (i := 11) rfl (by first | exact Or.inl rfl | exact Or.inr (Or.inl rfl) | exact Or.inr (Or.inr rfl)) (pr_frz (pr_lam (Ng := N__law_told) (k := 4) rfl m.g__law_told m.F__law_told (m.F__law_told.bindsN fun _ _ _ _ _ _ us hl => match us, hl with | [_], _ => rfl) sc__law_told rfl (by first | exact Or.inl rfl | exact Or.inr (Or.inl rfl) | exact Or.inr (Or.inr rfl)) (fun cdv => gives__law_told m.toM) hTB hcode hmT hu0 (hr.mono (by decide)) (show LamX.LamS (defScope (top 35)) _ from LamX.lamS_by (by decide +kernel)) rfl (fun _ _ _ _ _ => rfl) (fun A2 outer2 s2 H2 E2 f2 c2 hr2 => pr_call (ok_unpacked m) (hr2.mono (by decide)) rfl m.g_unpacked m.F_unpacked.kp (m.F_unpacked.bindsN fun _ _ _ _ _ _ us hl => match us, hl with | [_, _], _ => rfl) (takes_of rfl rfl rfl rfl) (ms_sh (pr_var 2) (ms_sh (pr_bin op_addB d_add (pr_var 5) (pr_lst (as_cons (PR.v (pr_int)) (as_nil)))) (ms_nil))))))))
    (sq_cons (st_asg (i := 14) nd rfl (by first | exact Or.inl rfl | exact Or.inr rfl) (pr_lst (as_cons (PR.v (pr_lst (as_cons (PR.v (pr_str)) (as_cons (PR.v (pr_var 3)) (as_cons (PR.v (pr_bl)) (as_nil)))))) (as_cons (PR.v (pr_lst (as_cons (PR.v (pr_str)) (as_cons (PR.v (pr_non)) (as_cons (PR.v (pr_bl)) (as_nil)))))) (as_cons (PR.v (pr_lst (as_cons (PR.v (pr_str)) (as_cons (PR.v (pr_var 7)) (as_cons (PR.v (pr_bl)) (as_nil)))))) (as_cons (PR.v (pr_lst (as_cons (PR.v (pr_str)) (as_nil)))) (as_nil)))))))
    (sq_cons (st_asg (i := 14) nd rfl (by first | exact Or.inl rfl | exact Or.inr rfl) (pr_bin op_addB d_add (pr_var 14) (pr_lst (as_cons (PR.v (pr_lst (as_cons (PR.v (pr_str)) (as_cons (PR.v (pr_var 3)) (as_cons (PR.v (pr_bl)) (as_nil)))))) (as_cons (PR.v (pr_lst (as_cons (PR.v (pr_str)) (as_cons (PR.v (pr_non)) (as_cons (PR.v (pr_bl)) (as_nil)))))) (as_cons (PR.v (pr_lst (as_cons (PR.v (pr_str)) (as_cons (PR.v (pr_var 7)) (as_cons (PR.v (pr_bl)) (as_nil)))))) (as_cons (PR.v (pr_lst (as_cons (PR.v (pr_str)) (as_cons (PR.v (pr_int)) (as_cons (PR.v (pr_bl)) (as_nil)))))) (as_nil))))))))
    (sq_one (st_ret (pr_cmp (op_eqB hu64) d_eq (pr_callB (call_reprD hr.gd hu64) d_repr rfl m.f_repr (by decide +kernel) (hs_cons (pr_var 11) (hs_nil))) (pr_callB (call_reprD hr.gd hu64) d_repr rfl m.f_repr (by decide +kernel) (hs_cons (pr_var 14) (hs_nil))) (nomark _))))))))))))))))))))))
abbrev N__law_right : List Str := ["_law_pot_here", "_law_size", "_law_tempo", "_law_turn"]
theorem sc__law_right : FnScope N__law_right ["_law_pot_here"] (defScope (top 36)) := ⟨rfl, rfl, rfl, by decide +kernel, rfl, by decide +kernel, by decide +kernel⟩
theorem ok__law_right (m : MB K mg base) : FnG P w K mg base (L2.CX P w) 9 (He.ga K "_law_right") m.fd__law_right ["_law_pot_here"] (spF K [true] false (F__law_right K)) := by
  have h := fn_ok (P := P) (w := w) (mg := mg) (base := base) (k := 8) (ms := [true]) (own := false) (b := B__law_right K) m.F__law_right sc__law_right rfl
  refine h fun cdv A outer s H E hcd hr => ?_
  have nd := sc__law_right.nd
  have hu64 := hr.units
  have hu : (A.deeper (PyProof.Rows.envOfC _ _ s.heap.objs.size _ cdv)).units + 1 < cLine := Nat.lt_of_le_of_lt (Nat.add_le_add_left (by decide) _) hu64
  exact sq_cons (st_asg (i := 1) nd rfl (by first | exact Or.inl rfl | exact Or.inr rfl) (pr_bin op_addB d_add (pr_int) (pr_call (ok__law_draw m) (hr.mono (by decide)) rfl m.g__law_draw m.F__law_draw.kp (m.F__law_draw.bindsN fun _ _ _ _ _ _ us hl => match us, hl with | [_, _], _ => rfl) passD (ms_io (pr_var 0) (ms_sh (pr_int) (ms_nil))))))
    (sq_cons (st_asg (i := 2) nd rfl (by first | exact Or.inl rfl | exact Or.inr rfl) (pr_make m.mk_Rate (ok_Rate___init__ m) (hr.mono (by decide)) rfl m.g_Rate (m.F_Rate___init__.bindsN fun _ _ _ _ _ _ us hl => match us, hl with | [_, _, _], _ => rfl) .nil (fun _ => .nil) passD (as_cons (PR.v (pr_var 1)) (as_cons (PR.v (pr_bin op_addB d_add (pr_int) (pr_call (ok__law_draw m) (hr.mono (by decide)) rfl m.g__law_draw m.F__law_draw.kp (m.F__law_draw.bindsN fun _ _ _ _ _ _ us hl => match us, hl with | [_, _], _ => rfl) passD (ms_io (pr_var 0) (ms_sh (pr_int) (ms_nil)))))) (as_nil))) (by decide) (al_cons (al_cons (al_nil)))))
    (sq_cons (st_for ownD rfl (it_range1 rfl m.f_range (as_cons (PR.v (pr_int)) (as_nil))) (tg_name (i := 3) nd rfl (by first | exact Or.inl rfl | exact Or.inr rfl)) (sq_one (st_if (pb_w (pb_or (pb_not (pb_val (pr_call (ok__law_both_right m) (hr.mono (by decide)) rfl m.g__law_both_right m.F__law_both_right.kp (m.F__law_both_right.bindsN fun _ _ _ _ _ _ us hl => match us, hl with | [_, _, _], _ => rfl) passD (ms_io (pr_var 0) (ms_sh (pr_var 1) (ms_sh (pr_var 2) (ms_nil))))))) (pb_or1 (pb_not (pb_val (pr_call (ok__law_texts_right m) (hr.mono (by decide)) rfl m.g__law_texts_right m.F__law_texts_right.kp (m.F__law_texts_right.bindsN fun _ _ _ _ _ _ us hl => match us, hl with | [_, _, _], _ => rfl) passD (ms_io (pr_var 0) (ms_sh (pr_var 1) (ms_sh (pr_var 2) (ms_nil)))))))))) (sq_one (st_ret (pr_bl))) (sq_nil))))
    (sq_one (st_ret (pr_call (ok__law_refused m) (hr.mono (by decide)) rfl m.g__law_refused m.F__law_refused.kp (m.F__law_refused.bindsN fun _ _ _ _ _ _ us hl => match us, hl with | [_, _, _], _ => rfl) passD (ms_io (pr_var 0) (ms_sh (pr_var 1) (ms_sh (pr_var 2) (ms_nil)))))))))
abbrev N__law_pot : List Str := ["_law_script", "_law_k", "_law_cell"]
theorem sc__law_pot : FnScope N__law_pot ["_law_script", "_law_k"] (defScope (top 26)) := ⟨rfl, rfl, rfl, by decide +kernel, rfl, by decide +kernel, by decide +kernel⟩
theorem ok__law_pot (m : MB K mg base) : FnG P w K mg base (L2.CX P w) 1 (He.ga K "_law_pot") m.fd__law_pot ["_law_script", "_law_k"] (spF K [false, false] true (F__law_pot K)) := by
  have h := fn_ok (P := P) (w := w) (mg := mg) (base := base) (k := 0) (ms := [false, false]) (own := true) (b := B__law_pot K) m.F__law_pot sc__law_pot rfl
  refine h fun cdv A outer s H E hcd hr => ?_
  have nd := sc__law_pot.nd
  have hu64 := hr.units
  have hu : (A.deeper (PyProof.Rows.envOfC _ _ s.heap.objs.size _ cdv)).units + 1 < cLine := Nat.lt_of_le_of_lt (Nat.add_le_add_left (by decide) _) hu64
  exact sq_cons (st_asg (i := 2) nd rfl (by first | exact Or.inl rfl | exact Or.inr rfl) (pr_bin op_addB d_add (pr_bin op_mulB d_mul (pr_int) (pr_var 1)) (pr_int)))
    (sq_cons (st_if (pb_cmp op_lt d_Ib (pr_var 1) (pr_callB call_lenK d_lenK rfl m.f_len (by decide +kernel) (hs_cons (pr_var 0) (hs_nil))) (nomark _)) (sq_one (st_asg (i := 2) nd rfl (by first | exact Or.inl rfl | exact Or.inr rfl) (pr_callB call_abs d_abs rfl m.f_abs (by decide +kernel) (hs_cons (pr_ix (ix_B hu) d_ix (pr_var 0) (pr_var 1) (fun _ _ => rfl)) (hs_nil))))) (sq_nil))
    (sq_one (st_ret (pr_lst (as_cons (PR.v (pr_callB (call_max2 rfl) d_max rfl m.f_max (by decide +kernel) (hs_cons (pr_int) (hs_cons (pr_bin op_sub d_Ii (pr_var 2) (pr_bin op_pow d_Ic (pr_int) (pr_int))) (hs_nil))))) (as_cons (PR.v (pr_bin op_addB d_add (pr_bin op_mod d_Ic (pr_bin op_mulB d_mul (pr_callTy call_int1 d_int rfl m.f_int (by decide +kernel) (hs_cons (pr_bin op_addB d_add (pr_bin op_mod d_Ic (pr_callTy call_int1 d_int rfl m.f_int (by decide +kernel) (hs_cons (pr_var 2) (hs_nil))) (pr_int)) (pr_int)) (hs_nil))) (pr_bin op_pow d_Ic (pr_bin op_addB d_add (pr_bin op_mulB d_mul (pr_int) (pr_var 1)) (pr_int)) (pr_int))) (pr_int)) (pr_int))) (as_nil)))))))
abbrev N_law : List Str := ["_law_script", "_law_k"]
theorem sc_law : FnScope N_law ["_law_script"] (defScope (top 37)) := ⟨rfl, rfl, rfl, by decide +kernel, rfl, by decide +kernel, by decide +kernel⟩
theorem ok_law (m : MB K mg base) : FnG P w K mg base (L2.CX P w) 10 (He.ga K "law") m.fd_law ["_law_script"] (spF K [false] false (F_law K)) := by
  have h := fn_ok (P := P) (w := w) (mg := mg) (base := base) (k := 9) (ms := [false]) (own := false) (b := B_law K) m.F_law sc_law rfl
  refine h fun cdv A outer s H E hcd hr => ?_
  have nd := sc_law.nd
  have hu64 := hr.units
  have hu : (A.deeper (PyProof.Rows.envOfC _ _ s.heap.objs.size _ cdv)).units + 1 < cLine := Nat.lt_of_le_of_lt (Nat.add_le_add_left (by decide) _) hu64
  exact sq_one (st_ret (pr_callB (cr_all rfl) d_all rfl m.f_all (by decide +kernel) (hs_cons (pr_lc0 (hs0 := rfl) nd (it_range1 rfl m.f_range (as_cons (PR.v (pr_callB (call_max2 rfl) d_max rfl m.f_max (by decide +kernel) (hs_cons (pr_int) (hs_cons (pr_callB (call_min2 rfl) d_min rfl m.f_min (by decide +kernel) (hs_cons (pr_int) (hs_cons (pr_callB call_lenK d_lenK rfl m.f_len (by decide +kernel) (hs_cons (pr_var 0) (hs_nil))) (hs_nil)))) (hs_nil))))) (as_nil))) (blkOk_by (N := N_law) (sc := defScope (top 37)) (own := [("_law_k", 1)]) (by decide +kernel)) (by decide) (fun _ _ _ _ _ => tg_name (i := 1) nd rfl (by first | exact Or.inl rfl | exact Or.inr rfl)) (fun _ _ _ _ _ => pr_call (ok__law_right m) (hr.mono (by decide)) rfl m.g__law_right m.F__law_right.kp (m.F__law_right.bindsN fun _ _ _ _ _ _ us hl => match us, hl with | [_], _ => rfl) pass00 (ms_io (pr_call (ok__law_pot m) (hr.mono (by decide)) rfl m.g__law_pot m.F__law_pot.kp (m.F__law_pot.bindsN fun _ _ _ _ _ _ us hl => match us, hl with | [_, _], _ => rfl) pass00 (ms_sh (pr_var 0) (ms_sh (pr_var 1) (ms_nil)))) (ms_nil)))) (hs_nil))))
end
end LW
set_option Elab.async false
set_option linter.all false
set_option maxRecDepth 100000
set_option maxHeartbeats 0
namespace LW
open PySem L2 BR
theorem mOf {K : PySem.W.Frag} {h : Heap} {mg : Str → Option Value} (X : K.In h) (G : h.Ns mainGlobals mg) (c : SaysB fa fn K) : Nonempty (M K mg) := by
  obtain ⟨fd__law_draw, F__law_draw⟩ := c.def_ 0 (d := d__law_draw) rfl
  obtain ⟨fd_is_integer, F_is_integer⟩ := c.def_ 1 (d := d_is_integer) rfl
  obtain ⟨fd_Rate___init__, F_Rate___init__⟩ := c.def_ 2 (d := d_Rate___init__) rfl
  obtain ⟨fd__law_pick, F__law_pick⟩ := c.def_ 3 (d := d__law_pick) rfl
  obtain ⟨fd__law_packed, F__law_packed⟩ := c.def_ 4 (d := d__law_packed) rfl
  obtain ⟨fd_want_rate, F_want_rate⟩ := c.def_ 5 (d := d_want_rate) rfl
  obtain ⟨fd_is_list, F_is_list⟩ := c.def_ 6 (d := d_is_list) rfl
  obtain ⟨fd_want_bits, F_want_bits⟩ := c.def_ 7 (d := d_want_bits) rfl
  obtain ⟨fd_Rate_p, F_Rate_p⟩ := c.def_ 8 (d := d_Rate_p) rfl
  obtain ⟨fd_packed, F_packed⟩ := c.def_ 9 (d := d_packed) rfl
  obtain ⟨fd_is_count, F_is_count⟩ := c.def_ 10 (d := d_is_count) rfl
  obtain ⟨fd_Rate_size, F_Rate_size⟩ := c.def_ 11 (d := d_Rate_size) rfl
  obtain ⟨fd_is_word_of, F_is_word_of⟩ := c.def_ 12 (d := d_is_word_of) rfl
  obtain ⟨fd_unpacked, F_unpacked⟩ := c.def_ 13 (d := d_unpacked) rfl
  obtain ⟨fd__law_both_right, F__law_both_right⟩ := c.def_ 14 (d := d__law_both_right) rfl
  obtain ⟨fd__law_told, F__law_told⟩ := c.def_ 15 (d := d__law_told) rfl
  obtain ⟨fd__law_spread, F__law_spread⟩ := c.def_ 16 (d := d__law_spread) rfl
  obtain ⟨fd__law_unpacked, F__law_unpacked⟩ := c.def_ 17 (d := d__law_unpacked) rfl
  obtain ⟨fd__law_texts_right, F__law_texts_right⟩ := c.def_ 18 (d := d__law_texts_right) rfl
  obtain ⟨fd__law_refused, F__law_refused⟩ := c.def_ 19 (d := d__law_refused) rfl
  obtain ⟨fd__law_right, F__law_right⟩ := c.def_ 20 (d := d__law_right) rfl
  obtain ⟨fd__law_pot, F__law_pot⟩ := c.def_ 21 (d := d__law_pot) rfl
  obtain ⟨fd_law, F_law⟩ := c.def_ 22 (d := d_law) rfl
  obtain ⟨fd_InvalidRate___init__, F_InvalidRate___init__⟩ := c.def_ 23 (d := d_InvalidRate___init__) rfl
  obtain ⟨fd_InvalidBits___init__, F_InvalidBits___init__⟩ := c.def_ 24 (d := d_InvalidBits___init__) rfl
  obtain ⟨fd_InvalidText___init__, F_InvalidText___init__⟩ := c.def_ 25 (d := d_InvalidText___init__) rfl
  exact ⟨⟨fd__law_draw, F__law_draw, fd_is_integer, F_is_integer, fd_Rate___init__, F_Rate___init__, fd__law_pick, F__law_pick, fd__law_packed, F__law_packed, fd_want_rate, F_want_rate, fd_is_list, F_is_list, fd_want_bits, F_want_bits, fd_Rate_p, F_Rate_p, fd_packed, F_packed, fd_is_count, F_is_count, fd_Rate_size, F_Rate_size, fd_is_word_of, F_is_word_of, fd_unpacked, F_unpacked, fd__law_both_right, F__law_both_right, fd__law_told, F__law_told, fd__law_spread, F__law_spread, fd__law_unpacked, F__law_unpacked, fd__law_texts_right, F__law_texts_right, fd__law_refused, F__law_refused, fd__law_right, F__law_right, fd__law_pot, F__law_pot, fd_law, F_law, fd_InvalidRate___init__, F_InvalidRate___init__, fd_InvalidBits___init__, F_InvalidBits___init__, fd_InvalidText___init__, F_InvalidText___init__,
    He.glo_ok X G (c.fact 0),
    He.glo_ok X G (c.fact 1),
    He.glo_ok X G (c.fact 2),
    He.glo_ok X G (c.fact 3),
    He.glo_ok X G (c.fact 4),
    He.glo_ok X G (c.fact 5),
    He.glo_ok X G (c.fact 6),
    He.glo_ok X G (c.fact 7),
    He.glo_ok X G (c.fact 8),
    He.glo_ok X G (c.fact 9),
    He.glo_ok X G (c.fact 10),
    He.glo_ok X G (c.fact 11),
    He.glo_ok X G (c.fact 12),
    He.glo_ok X G (c.fact 13),
    He.glo_ok X G (c.fact 14),
    He.glo_ok X G (c.fact 15),
    He.glo_ok X G (c.fact 16),
    He.glo_ok X G (c.fact 17),
    He.glo_ok X G (c.fact 18),
    He.glo_ok X G (c.fact 19),
    He.glo_ok X G (c.fact 20),
    He.glo_ok X G (c.fact 21),
    He.glo_ok X G (c.fact 22),
    He.glo_ok X G (c.fact 23),
    He.glo_ok X G (c.fact 24),
    He.free_ok X G (c.fact 25),
    He.free_ok X G (c.fact 26),
    He.free_ok X G (c.fact 27),
    He.free_ok X G (c.fact 28),
    He.free_ok X G (c.fact 29),
    He.free_ok X G (c.fact 30),
    He.free_ok X G (c.fact 31),
    He.free_ok X G (c.fact 32),
    He.free_ok X G (c.fact 33),
    He.free_ok X G (c.fact 34),
    He.free_ok X G (c.fact 35),
    He.free_ok X G (c.fact 36),
    He.free_ok X G (c.fact 37),
    He.free_ok X G (c.fact 38),
    He.int_ok X G (c.fact 39),
    He.int_ok X G (c.fact 40),
    He.int_ok X G (c.fact 41),
    He.cls_ok (c.fact 42),
    He.noat_ok (c.fact 43),
    He.noat_ok (c.fact 44),
    He.mkr_ok (c.fact 45),
    prop_ok (c.fact 46),
    prop_ok (c.fact 47),
    isG_ok (c.fact 48),
    excM_ok (c.fact 49),
    excM_ok (c.fact 50),
    excM_ok (c.fact 51),
    xf_ok (c.fact 52),
    xf_ok (c.fact 53),
    xf_ok (c.fact 54),
    xi_ok (c.fact 55),
    xi_ok (c.fact 56),
    xi_ok (c.fact 57),
    exm_okF (c.fact 58),
    exm_okF (c.fact 59),
    exm_okF (c.fact 60),
    exm_okF (c.fact 61),
    exm_okF (c.fact 62),
    exm_okF (c.fact 63),
    exm_okF (c.fact 64),
    exm_okF (c.fact 65),
    exm_okF (c.fact 66),
    kia_ok (c.fact 67),
    kia_ok (c.fact 68),
    kia_ok (c.fact 69),
    (c.fact 70)⟩⟩
theorem holds (hlaw : ∀ (K : PySem.W.Frag) (mg : Str → Option Value) (m : M K mg) (ns : List Int), ns.length ≤ 63 → ∃ d, F_law K [.scr ns] = .ok (.bl true, d)) : PySem.Challenge.rw_barredrows_k90_whole_bits_packed.Holds := by
  w_on; o_law
  refine HandSHeadRun.head_any (r := PySem.W.OpenLaw.row PySem.Challenge.rw_barredrows_k90_whole_bits_packed) (q := PySem.W.view (PySem.W.OpenLaw.row PySem.Challenge.rw_barredrows_k90_whole_bits_packed).prog [37]) (H := hk) (ob := ob) (M := 6000) (loose := names) (d := HandSHeadRun.topDef (PySem.W.OpenLaw.row PySem.Challenge.rw_barredrows_k90_whole_bits_packed).prog 37) (kwd := []) ob_eq
    (by kernel_rfl) (fun s => by kernel_rfl) hRun (by kernel_rfl) (by kernel_rfl) (by kernel_rfl) (by rfl) (by first | assumption | decide +kernel) (by decide +kernel) ⟨rfl, rfl, rfl, rfl, rfl, by decide +kernel⟩ ?hw ?hc
  case hw => w_witness2
  case hc =>
    refine L2.walk_ofTG (l := PySem.Challenge.rw_barredrows_k90_whole_bits_packed) (n := 63) (k := 10) (x := "_law_script") (CX := fun w => L2.CX (PySem.Challenge.rw_barredrows_k90_whole_bits_packed).prog w) rfl (by decide) (by kernel_rfl) ⟨⟨rfl, by decide, by decide⟩, rfl⟩ ?F (fun w H s e s' z => L2.cx_out z)
    intro w mg fa h Y G hmg0
    obtain ⟨K, KX, c, mk⟩ := Y
    obtain ⟨m⟩ := mOf KX G c
    have hmg : mg ("law" : PySem.Str) = some (.ref fa) := by
      have e : (HandSHeadRun.topDef (PySem.W.OpenLaw.row PySem.Challenge.rw_barredrows_k90_whole_bits_packed).prog 37).name = ("law" : PySem.Str) := by kernel_rfl
      rw [← e]
      exact hmg0
    have e := hmg.symm.trans m.g_law
    cases e
    have b := FunD.bindsA (ps := ["_law_script"]) m.F_law fun _ _ _ _ _ _ us hl => match us, hl with | [_], _ => rfl
    exact ⟨K, KX, end_TG KX mk (fun s v => b s [v] rfl) (fun ns hl => hlaw K mg m ns hl) fun base hT => ok_law ⟨m, hT⟩⟩
end LW
set_option Elab.async false
set_option linter.all false
set_option maxRecDepth 100000
set_option maxHeartbeats 400000
namespace BR
open PySem L2
/-! ## loops by invariants -/
theorem sForL_relP {β : Type} {g : D → S → Option S} {b : SF} (toD : β → D) (I : List β → S → Prop) : ∀ (post pre : List β) (ρ : S),
    (∀ (p : List β) (x : β) (q : List β) (ρ : S), pre ++ post = p ++ x :: q → I p ρ → ∃ ρ2, (ofO (g (toD x) ρ) >>= b) = .ok (.nx, ρ2) ∧ I (p ++ [x]) ρ2) → I pre ρ →
    ∃ ρ', sForL g b (post.map toD) ρ = .ok (.nx, ρ') ∧ I (pre ++ post) ρ' := by
  intro post
  induction post with
  | nil => intro pre ρ _ hi; exact ⟨ρ, rfl, by simpa using hi⟩
  | cons x post ih =>
    intro pre ρ h hi
    obtain ⟨ρ2, e, hi2⟩ := h pre x post ρ rfl hi
    have h' := h
    rw [show pre ++ x :: post = (pre ++ [x]) ++ post by simp] at h'
    obtain ⟨ρ', e', hi'⟩ := ih (pre ++ [x]) ρ2 h' hi2
    refine ⟨ρ', ?_, by simpa using hi'⟩
    cases hg : g (toD x) ρ with
    | none => rw [hg] at e; cases e
    | some ρ1 =>
      rw [hg] at e
      have e2 : b ρ1 = .ok (.nx, ρ2) := e
      simp only [List.map_cons, sForL, hg, ofO_some, ok_bind, e2]
      exact e'
theorem sForL_rel {β : Type} {g : D → S → Option S} {b : SF} (toD : β → D) (I : List β → S → Prop) (xs : List β) (ρ : S)
    (h : ∀ (p : List β) (x : β) (ρ : S), x ∈ xs → I p ρ → ∃ ρ2, (ofO (g (toD x) ρ) >>= b) = .ok (.nx, ρ2) ∧ I (p ++ [x]) ρ2) (h0 : I [] ρ) :
    ∃ ρ', sForL g b (xs.map toD) ρ = .ok (.nx, ρ') ∧ I xs ρ' := by
  have := sForL_relP (g := g) (b := b) toD I xs [] ρ (fun p x q ρ e hi => h p x ρ (by rw [List.nil_append] at e; rw [e]; simp) hi) h0
  simpa using this
/-- a loop that only keeps something -/
theorem sForL_keep {β : Type} {g : D → S → Option S} {b : SF} (toD : β → D) (I : S → Prop) (xs : List β) (ρ : S)
    (h : ∀ (x : β) (ρ : S), x ∈ xs → I ρ → ∃ ρ2, (ofO (g (toD x) ρ) >>= b) = .ok (.nx, ρ2) ∧ I ρ2) (h0 : I ρ) :
    ∃ ρ', sForL g b (xs.map toD) ρ = .ok (.nx, ρ') ∧ I ρ' :=
  sForL_rel toD (fun _ => I) xs ρ (fun _ => h) h0
/-- one turn of a comprehension -/
@[simp] def lcT (vs : List Nat) (g : D → S → Option S) (p : S → R (Bool × S)) (fe : EF) (d : D) (ρ : S) : R (Option D × S) :=
  ofO (g d ρ) >>= fun ρ1 => noX (p ρ1) >>= fun z => if z.1 = true then noX (eV fe z.2) >>= fun y => .ok (some y.1, wipeS y.2 vs) else .ok (none, wipeS z.2 vs)
theorem lcL_cons {vs : List Nat} {g : D → S → Option S} {p : S → R (Bool × S)} {fe : EF} (d : D) (ds acc : List D) (ρ ρ' : S) (o : Option D) (e : lcT vs g p fe d ρ = .ok (o, ρ')) (h : acc.length < sizeLine) :
    lcL vs g p fe (d :: ds) acc ρ = lcL vs g p fe ds (acc ++ o.toList) ρ' := by
  unfold lcT at e
  simp only [lcL]
  cases hg : g d ρ with
  | none => rw [hg] at e; cases e
  | some ρ1 =>
    rw [hg] at e
    simp only [ofO_some, ok_bind] at e ⊢
    cases hp : noX (p ρ1) with
    | no => rw [hp] at e; cases e
    | exc x => rw [hp] at e; cases e
    | ok z =>
      rw [hp] at e
      simp only [ok_bind] at e ⊢
      by_cases hz : z.1 = true
      · rw [if_pos hz] at e ⊢
        cases hy : noX (eV fe z.2) with
        | no => rw [hy] at e; cases e
        | exc x => rw [hy] at e; cases e
        | ok y =>
          rw [hy] at e
          simp only [ok_bind] at e ⊢
          cases e
          rw [if_pos h]; rfl
      · rw [if_neg hz] at e ⊢
        cases e
        simp
theorem lcL_pure {β : Type} {vs : List Nat} {g : D → S → Option S} {p : S → R (Bool × S)} {fe : EF} (toD : β → D) (out : β → Option D) (ρ : S) : ∀ (xs : List β) (acc : List D),
    (∀ x ∈ xs, lcT vs g p fe (toD x) ρ = .ok (out x, ρ)) → acc.length + xs.length ≤ sizeLine → lcL vs g p fe (xs.map toD) acc ρ = .ok (acc ++ xs.filterMap out, ρ) := by
  intro xs
  induction xs with
  | nil => intro acc _ _; simp [lcL]
  | cons x xs ih =>
    intro acc h hl
    rw [List.map_cons, lcL_cons (toD x) _ acc ρ ρ (out x) (h x (by simp)) (by simp at hl; omega), ih _ (fun y hy => h y (by simp [hy])) (by
      simp at hl
      cases out x <;> simp <;> omega)]
    cases ho : out x <;> simp [List.filterMap_cons, ho]
theorem lcL_map {β : Type} {vs : List Nat} {g : D → S → Option S} {p : S → R (Bool × S)} {fe : EF} (toD : β → D) (out : β → D) (ρ : S) (xs : List β)
    (h : ∀ x ∈ xs, lcT vs g p fe (toD x) ρ = .ok (some (out x), ρ)) (hl : xs.length ≤ sizeLine) : lcL vs g p fe (xs.map toD) [] ρ = .ok (xs.map out, ρ) := by
  rw [lcL_pure toD (fun x => some (out x)) ρ xs [] h (by simpa using hl)]
  simp [List.filterMap_eq_map]
theorem lcL_rel {β : Type} {vs : List Nat} {g : D → S → Option S} {p : S → R (Bool × S)} {fe : EF} (toD : β → D) (I : List D → S → Prop) : ∀ (xs : List β) (acc : List D) (ρ : S),
    (∀ x acc ρ, x ∈ xs → I acc ρ → ∃ o ρ', lcT vs g p fe (toD x) ρ = .ok (o, ρ') ∧ I (acc ++ o.toList) ρ') → acc.length + xs.length ≤ sizeLine → I acc ρ → ∃ ys ρ', lcL vs g p fe (xs.map toD) acc ρ = .ok (ys, ρ') ∧ I ys ρ' := by
  intro xs
  induction xs with
  | nil => intro acc ρ _ _ hi; exact ⟨acc, ρ, rfl, hi⟩
  | cons x xs ih =>
    intro acc ρ h hl hi
    obtain ⟨o, ρ', e, hi'⟩ := h x acc ρ (by simp) hi
    obtain ⟨ys, ρ2, e2, hi2⟩ := ih (acc ++ o.toList) ρ' (fun y acc ρ hy => h y acc ρ (by simp [hy])) (by
      simp at hl
      cases o <;> simp <;> omega) hi'
    refine ⟨ys, ρ2, ?_, hi2⟩
    rw [List.map_cons, lcL_cons (toD x) _ acc ρ ρ' o e (by simp at hl; omega), e2]
/-- while, by a number of turns that are left -/
theorem sWhile_rel {c : S → R (Bool × S)} {b : SF} (I : Nat → S → Prop) (P : S → Prop)
    (h : ∀ m ρ, I m ρ → (∃ ρ', c ρ = .ok (false, ρ') ∧ P ρ') ∨ (∃ ρ1 ρ2 m', c ρ = .ok (true, ρ1) ∧ b ρ1 = .ok (.nx, ρ2) ∧ m' < m ∧ I m' ρ2)) :
    ∀ (n m : Nat) (ρ : S), m < n → I m ρ → ∃ ρ', sWhile c b n ρ = .ok (.nx, ρ') ∧ P ρ' := by
  intro n
  induction n with
  | zero => intro m ρ hm; omega
  | succ n ih =>
    intro m ρ hm hi
    rcases h m ρ hi with ⟨ρ', e, hp⟩ | ⟨ρ1, ρ2, m', e1, e2, hm', hi'⟩
    · refine ⟨ρ', ?_, hp⟩
      simp [sWhile, e]
    · obtain ⟨ρ', e3, hp⟩ := ih m' ρ2 (by omega) hi'
      refine ⟨ρ', ?_, hp⟩
      simp [sWhile, e1, e2, e3]
end BR
namespace BR
open PySem L2
open Classical in
noncomputable def rngF (z : List D × S) : R (List D × S) := match z.1 with
  | [.int j] => if RngOk j then .ok (rngL 0 j.toNat, z.2) else .no
  | _ => .no
@[simp] theorem rng1_a (f : S → R (List D × S)) (ρ : S) : itRng1 f ρ = f ρ >>= rngF := rfl
theorem big62 (n : Nat) (h : n ≤ 1000000) : -(2 ^ 62) ≤ ((n : Nat) : Int) ∧ ((n : Nat) : Int) < 2 ^ 62 := by
  have h1 : ((n : Nat) : Int) ≤ 1000000 := by omega
  have h2 : (0 : Int) ≤ ((n : Nat) : Int) := by omega
  have h3 : (1000000 : Int) < 2 ^ 62 := by decide
  have h4 : -(2 ^ 62) ≤ (0 : Int) := by decide
  exact ⟨Int.le_trans h4 h2, Int.lt_of_le_of_lt h1 h3⟩
theorem rngF_n (n : Nat) (h : n ≤ 1000000) (ρ : S) : rngF ([.int (n : Int)], ρ) = .ok (rngL 0 n, ρ) := by
  unfold rngF
  exact if_pos (big62 n h)
end BR
set_option Elab.async false
set_option linter.all false
set_option maxRecDepth 100000
set_option maxHeartbeats 400000
namespace BR
open PySem L2
/-! ## texts as lists -/
abbrev Tx (l : List Nat) : Str := ⟨l.toArray⟩
theorem T_cps (l : List Nat) : (Tx l).cps.toList = l := by simp [Tx]
theorem T_len (l : List Nat) : (Tx l).length = l.length := by simp [Tx, Str.length]
theorem T_app (l m : List Nat) : Tx l ++ Tx m = Tx (l ++ m) := by
  show Str.append _ _ = _
  simp [Str.append]
theorem T_inj {l m : List Nat} : Tx l = Tx m ↔ l = m := by
  constructor
  · intro h
    have := congrArg (fun s : Str => s.cps.toList) h
    simpa using this
  · intro h; rw [h]
theorem glue_fold : ∀ (xs : List (List Nat)) (acc : Array Nat), (xs.map Tx).foldl (fun acc p => acc ++ (Tx []).cps ++ p.cps) acc = acc ++ xs.flatten.toArray
  | [], acc => by simp
  | x :: xs, acc => by
    rw [List.map_cons, List.foldl_cons, glue_fold xs]
    apply Array.ext'
    simp [Tx]
theorem T_join (xs : List (List Nat)) : Txt.join (Tx []) (xs.map Tx) = Tx xs.flatten := by
  unfold Txt.join Builtin.Str.glued
  cases xs with
  | nil => rfl
  | cons x xs =>
    have e := glue_fold xs (Tx x).cps
    show (⟨(xs.map Tx).foldl (fun acc p => acc ++ (Tx []).cps ++ p.cps) (Tx x).cps⟩ : Str) = _
    rw [e]
    congr 1
    apply Array.ext'
    simp [Tx]
theorem T_starts (l m : List Nat) : Txt.startswith (Tx l) (Tx m) = decide (m <+: l) := by
  unfold Txt.startswith
  rw [PySem.StrLaws.subAt_eq, T_len, T_len]
  have e1 : (Tx l).cps.toList = l := by simp [Tx]
  have e2 : (Tx m).cps.toList = m := by simp [Tx]
  rw [e1, e2, List.drop_zero]
  by_cases h : m <+: l
  · have hl := h.length_le
    obtain ⟨t, rfl⟩ := h
    simp
  · rw [decide_eq_false h]
    have : ((List.take m.length l) == m) = false := by
      rw [beq_eq_false_iff_ne]
      intro e
      exact h ⟨l.drop m.length, by have := List.take_append_drop m.length l; rw [e] at this; exact this⟩
    rw [this, Bool.and_false]
theorem cut_to (l : List Nat) (k : Nat) : cutS (Tx l) none (some (k : Int)) = Tx (l.take k) := by
  unfold cutS
  rw [T_len, HT.sIx_none, HT.sIx_nat]
  show Tx ((l.drop 0).take (min k l.length - 0)) = _
  rw [List.drop_zero, Nat.sub_zero, T_inj, ← List.take_eq_take_min]
theorem cut_from (l : List Nat) (k : Nat) : cutS (Tx l) (some (k : Int)) none = Tx (l.drop k) := by
  unfold cutS
  rw [T_len, HT.sIx_none, HT.sIx_nat]
  show Tx ((l.drop (min k l.length)).take (l.length - min k l.length)) = _
  rw [T_inj]
  by_cases h : k ≤ l.length
  · rw [Nat.min_eq_left h, List.take_of_length_le (by simp)]
  · rw [Nat.min_eq_right (by omega), List.drop_eq_nil_of_le (Nat.le_refl _), List.drop_eq_nil_of_le (by omega)]; simp
theorem cut_mid (l : List Nat) (a b : Nat) (h : a ≤ l.length) : cutS (Tx l) (some (a : Int)) (some (b : Int)) = Tx ((l.drop a).take (b - a)) := by
  unfold cutS
  rw [T_len, HT.sIx_nat, HT.sIx_nat]
  show Tx ((l.drop (min a l.length)).take (min b l.length - min a l.length)) = _
  rw [T_inj, Nat.min_eq_left h]
  by_cases hb : b ≤ l.length
  · rw [Nat.min_eq_left hb]
  · rw [Nat.min_eq_right (by omega), List.take_of_length_le (by simp), List.take_of_length_le (by simp; omega)]
theorem strsD_T (w : List Nat) : strsD (w.map fun c => D.str (Tx [c])) = some (w.map fun c => Tx [c]) := by
  induction w with
  | nil => rfl
  | cons c w ih => simp [strsD, ih]
theorem flat1 : ∀ w : List Nat, (w.map fun c => [c]).flatten = w
  | [] => rfl
  | c :: w => by simp [flat1 w]
theorem join_signs (w : List Nat) (h : w.length ≤ 1000000) : dJoin (Tx []) (.lst (w.map fun c => D.str (Tx [c]))) = some (.im (.str (Tx w))) := by
  unfold dJoin
  simp only [strsD_T, Option.bind_some]
  have e : Txt.join (Tx []) (w.map fun c => Tx [c]) = Tx w := by
    have := T_join (w.map fun c => [c])
    rw [List.map_map] at this
    have e2 : (w.map fun c => [c]).flatten = w := flat1 w
    rw [e2] at this
    exact this
  rw [e, if_pos]
  have : (List.map (fun x : Str => x.length) (w.map fun c => Tx [c])).sum = w.length := by
    clear e h
    induction w with
    | nil => rfl
    | cons c w ih =>
      simp only [List.map_cons, List.sum_cons, ih, List.length_cons, T_len]
      simp; omega
  rw [this, T_len]
  simp; omega
theorem atI_nat {α : Type} (ds : List α) (i : Int) (h : 0 ≤ i) (hi : i.toNat < ds.length) : atI ds i = some ds[i.toNat] := by
  unfold atI ixN
  have h2 : i < ds.length := by omega
  rw [if_pos h, if_pos h2]
  exact List.getElem?_eq_getElem hi
theorem atI_n {α : Type} (ds : List α) (i : Nat) (hi : i < ds.length) : atI ds (i : Int) = some ds[i] := by
  have := atI_nat ds (i : Int) (by omega) (by simpa using hi)
  simpa using this
theorem atI_m {α β : Type} (f : α → β) (ds : List α) (i : Nat) (hi : i < ds.length) : atI (ds.map f) (i : Int) = some (f ds[i]) := by
  rw [atI_n _ _ (by simpa using hi)]; simp
/-! ## dicts of numbers -/
section
variable {α : Type} [DecidableEq α] (κ : α → Key)
def dD (al : List (α × Nat)) : D := .dic (al.map fun p => κ p.1) (al.map fun p => .int (p.2 : Int))
def get0 : List (α × Nat) → α → Nat
  | [], _ => 0
  | p :: al, k => if p.1 = k then p.2 else get0 al k
def putA (al : List (α × Nat)) (k : α) (v : Nat) : List (α × Nat) := if k ∈ al.map (·.1) then al.map (fun p => if p.1 = k then (p.1, v) else p) else al ++ [(k, v)]
def dsum (φ : α → Nat) (al : List (α × Nat)) : Nat := (al.map fun p => p.2 * φ p.1).sum
variable (hκ : ∀ a b, κ a = κ b → a = b)
include hκ
theorem hasK_d (al : List (α × Nat)) (k : α) : hasK (al.map fun p => κ p.1) (κ k) = decide (k ∈ al.map (·.1)) := by
  induction al with
  | nil => simp [hasK]
  | cons p al ih =>
    have e : hasK ((p :: al).map fun p => κ p.1) (κ k) = (decide (κ p.1 = κ k) || hasK (al.map fun p => κ p.1) (κ k)) := rfl
    rw [e, ih]
    by_cases h : p.1 = k
    · simp [h]
    · have : ¬ κ p.1 = κ k := fun z => h (hκ _ _ z)
      have h2 : ¬ k = p.1 := fun z => h z.symm
      simp [this, h2]
theorem getK_d (al : List (α × Nat)) (k : α) : (getK (al.map fun p => κ p.1) (al.map fun p => D.int (p.2 : Int)) (κ k)).getD (.int 0) = .int (get0 al k : Int) := by
  induction al with
  | nil => rfl
  | cons p al ih =>
    by_cases h : p.1 = k
    · simp [getK, get0, h]
    · have : ¬ κ p.1 = κ k := fun z => h (hκ _ _ z)
      simp [getK, get0, h, this, ih]
theorem getK_mem (al : List (α × Nat)) (k : α) (h : k ∈ al.map (·.1)) : getK (al.map fun p => κ p.1) (al.map fun p => D.int (p.2 : Int)) (κ k) = some (.int (get0 al k : Int)) := by
  induction al with
  | nil => simp at h
  | cons p al ih =>
    by_cases hk : p.1 = k
    · simp [getK, get0, hk]
    · have : ¬ κ p.1 = κ k := fun z => hk (hκ _ _ z)
      rw [List.map_cons, List.mem_cons] at h
      rcases h with h | h
      · exact absurd h.symm hk
      · have := ih h
        simp [getK, get0, hk, ‹¬ κ p.1 = κ k›, this]
theorem put_d (al : List (α × Nat)) (k : α) (v : Nat) : D.dic (putDk (al.map fun p => κ p.1) (κ k)) (putDx (al.map fun p => κ p.1) (al.map fun p => D.int (p.2 : Int)) (κ k) (.int (v : Int))) = dD κ (putA al k v) := by
  unfold putDk putDx
  rw [hasK_d κ hκ]
  unfold dD putA
  by_cases h : k ∈ al.map (·.1)
  · rw [if_pos h, decide_eq_true h]
    simp only [if_true]
    congr 1
    · rw [List.map_map]
      apply List.map_congr_left
      intro p _
      simp only [Function.comp]
      split <;> rfl
    · clear h
      induction al with
      | nil => rfl
      | cons p al ih =>
        by_cases hk : p.1 = k
        · simp [replD, hk, ih]
        · have : ¬ κ p.1 = κ k := fun z => hk (hκ _ _ z)
          simp [replD, hk, this, ih]
  · rw [if_neg h, decide_eq_false h]
    simp
omit hκ
theorem keys_put (al : List (α × Nat)) (k : α) (v : Nat) : (putA al k v).map (·.1) = if k ∈ al.map (·.1) then al.map (·.1) else al.map (·.1) ++ [k] := by
  unfold putA
  split
  · rw [List.map_map]
    apply List.map_congr_left
    intro p _
    simp only [Function.comp]
    split <;> rfl
  · simp
theorem nodup_put {al : List (α × Nat)} (h : (al.map (·.1)).Nodup) (k : α) (v : Nat) : ((putA al k v).map (·.1)).Nodup := by
  rw [keys_put]
  split
  · exact h
  · rename_i hk
    rw [List.nodup_append]
    refine ⟨h, by simp, ?_⟩
    intro a ha b hb
    simp at hb
    subst hb
    intro e
    subst e
    exact hk ha
theorem len_put (al : List (α × Nat)) (k : α) (v : Nat) : (putA al k v).length ≤ al.length + 1 := by
  unfold putA
  split <;> simp
theorem get0_put (al : List (α × Nat)) (k : α) (v : Nat) (x : α) : get0 (putA al k v) x = if x = k then v else get0 al x := by
  unfold putA
  split
  · rename_i h
    induction al with
    | nil => simp at h
    | cons p al ih =>
      simp only [List.map_cons, List.mem_cons] at h
      by_cases hk : p.1 = k
      · by_cases hx : x = k
        · subst hx; simp [get0, hk]
        · have h2 : ¬ k = x := fun z => hx z.symm
          have e2 : get0 (al.map fun p => if p.1 = k then (p.1, v) else p) x = get0 al x := by
            clear ih h hk p
            induction al with
            | nil => rfl
            | cons p al ih =>
              by_cases hk : p.1 = k
              · simp [get0, hk, h2, ih]
              · simp [get0, hk, ih]
          simp [get0, hk, hx, h2, e2]
      · rcases h with h | h
        · exact absurd h.symm hk
        · have := ih h
          by_cases hx : x = k
          · subst hx; simp [get0, hk, this]
          · simp [get0, hk, hx, this]
  · rename_i h
    induction al with
    | nil => by_cases hx : x = k <;> simp [get0, hx, eq_comm]; exact fun z => absurd z.symm hx
    | cons p al ih =>
      have h1 : ¬ p.1 = k := fun z => h (by simp [z])
      have h2 : k ∉ al.map (·.1) := fun z => h (by rw [List.map_cons]; exact List.mem_cons_of_mem _ z)
      have := ih h2
      by_cases hp : p.1 = x
      · have : ¬ x = k := fun z => h1 (hp.trans z)
        simp [get0, hp, this]
      · simp [get0, hp, this]
theorem get0_not (al : List (α × Nat)) (k : α) (h : k ∉ al.map (·.1)) : get0 al k = 0 := by
  induction al with
  | nil => rfl
  | cons p al ih =>
    have h1 : ¬ p.1 = k := fun z => h (by simp [z])
    simp [get0, h1, ih fun z => h (by rw [List.map_cons]; exact List.mem_cons_of_mem _ z)]
theorem get0_item {al : List (α × Nat)} (h : (al.map (·.1)).Nodup) {p : α × Nat} (hp : p ∈ al) : get0 al p.1 = p.2 := by
  induction al with
  | nil => cases hp
  | cons q al ih =>
    rw [List.map_cons, List.nodup_cons] at h
    rcases List.mem_cons.mp hp with rfl | hp
    · simp [get0]
    · have : ¬ q.1 = p.1 := fun z => h.1 (by rw [z]; exact List.mem_map_of_mem hp)
      simp [get0, this, ih h.2 hp]
theorem dsum_add {al : List (α × Nat)} (h : (al.map (·.1)).Nodup) (φ : α → Nat) (k : α) (m : Nat) : dsum φ (putA al k (get0 al k + m)) = dsum φ al + m * φ k := by
  unfold putA
  split
  · rename_i hk
    induction al with
    | nil => simp at hk
    | cons p al ih =>
      rw [List.map_cons, List.nodup_cons] at h
      by_cases hp : p.1 = k
      · have e2 : ∀ v, (al.map fun p => if p.1 = k then (p.1, v) else p) = al := by
          intro v
          have h1 := h.1
          rw [hp] at h1
          clear ih h hk
          induction al with
          | nil => rfl
          | cons q al ih =>
            have hq : ¬ q.1 = k := fun z => h1 (by simp [z])
            rw [List.map_cons, if_neg hq, ih fun z => h1 (by rw [List.map_cons]; exact List.mem_cons_of_mem _ z)]
        rw [List.map_cons, if_pos hp, e2]
        simp only [dsum, List.map_cons, List.sum_cons, get0, hp, if_true, Nat.add_mul]
        omega
      · have hk2 : k ∈ al.map (·.1) := by
          rw [List.map_cons, List.mem_cons] at hk
          rcases hk with z | z
          · exact absurd z.symm hp
          · exact z
        have := ih h.2 hk2
        simp only [dsum] at this
        simp only [dsum, List.map_cons, if_neg hp, List.sum_cons, get0, this]
        omega
  · rename_i hk
    rw [get0_not al k hk]
    simp [dsum]
end
theorem kN_inj : ∀ a b : Nat, (Sum.inl (a : Int) : Key) = Sum.inl (b : Int) → a = b := fun a b h => by
  have := Sum.inl.inj h; omega
theorem kT_inj : ∀ a b : List Nat, (Sum.inr (Tx a) : Key) = Sum.inr (Tx b) → a = b := fun a b h => T_inj.mp (Sum.inr.inj h)
abbrev kN (a : Nat) : Key := Sum.inl (a : Int)
abbrev kT (a : List Nat) : Key := Sum.inr (Tx a)
theorem intsD_d {α : Type} (al : List (α × Nat)) : intsD (al.map fun p => D.int (p.2 : Int)) = some (al.map fun p => (p.2 : Int)) := by
  induction al with
  | nil => rfl
  | cons p al ih => simp [intsD, ih]
theorem sum_cast (l : List Nat) : (l.map fun n : Nat => (n : Int)).sum = ((l.sum : Nat) : Int) := by
  induction l with
  | nil => rfl
  | cons a l ih => simp [ih]
end BR
set_option Elab.async false
set_option linter.all false
set_option maxRecDepth 100000
set_option maxHeartbeats 400000
namespace BR
/-! ## bits and words -/
def Bits (l : List Nat) : Prop := ∀ b ∈ l, b < 2
def val (l : List Nat) : Nat := l.foldl (fun w b => 2 * w + b) 0
def pk (p : Nat) (l : List Nat) (n : Nat) : List Nat := (List.range n).map fun i => val ((l.drop (i * p)).take p)
def bitsW (p w : Nat) : List Nat := (List.range p).map fun j => w / 2 ^ (p - 1 - j) % 2
def spread (p : Nat) (ws : List Nat) : List Nat := ws.flatMap (bitsW p)
theorem val_snoc (l : List Nat) (b : Nat) : val (l ++ [b]) = 2 * val l + b := by simp [val]
theorem bitsW_succ (p w : Nat) : bitsW (p + 1) w = bitsW p (w / 2) ++ [w % 2] := by
  unfold bitsW
  rw [List.range_succ, List.map_append]
  congr 1
  · apply List.map_congr_left
    intro j hj
    have hj := List.mem_range.mp hj
    rw [show p + 1 - 1 - j = (p - 1 - j) + 1 by omega, Nat.pow_succ, Nat.mul_comm, ← Nat.div_div_eq_div_mul]
  · simp
theorem bitsW_len (p w : Nat) : (bitsW p w).length = p := by simp [bitsW]
theorem bitsW_bits (p w : Nat) : Bits (bitsW p w) := by
  intro b hb
  obtain ⟨j, _, rfl⟩ := List.mem_map.mp hb
  exact Nat.mod_lt _ (by omega)
theorem val_bits : ∀ (p w : Nat), w < 2 ^ p → val (bitsW p w) = w
  | 0, w, h => by
    have : w = 0 := by simpa using h
    subst this; rfl
  | p + 1, w, h => by
    rw [bitsW_succ, val_snoc, val_bits p (w / 2) (by rw [Nat.pow_succ] at h; omega)]
    omega
theorem snoc_cases {α : Type} (l : List α) (n : Nat) (h : l.length = n + 1) : ∃ a b, l = a ++ [b] ∧ a.length = n := by
  have hne : l ≠ [] := by intro z; rw [z] at h; cases h
  refine ⟨l.dropLast, l.getLast hne, (List.dropLast_concat_getLast hne).symm, by simp [h]⟩
theorem bits_val : ∀ (p : Nat) (l : List Nat), l.length = p → Bits l → bitsW p (val l) = l
  | 0, l, h, _ => by
    have : l = [] := List.eq_nil_of_length_eq_zero h
    subst this; rfl
  | p + 1, l, h, hb => by
    obtain ⟨a, b, rfl, ha⟩ := snoc_cases l p h
    have h1 : b < 2 := hb b (by simp)
    rw [bitsW_succ, val_snoc, show (2 * val a + b) / 2 = val a by omega, show (2 * val a + b) % 2 = b by omega, bits_val p a ha fun x hx => hb x (by simp [hx])]
theorem val_lt : ∀ (p : Nat) (l : List Nat), l.length = p → Bits l → val l < 2 ^ p
  | 0, l, h, _ => by
    have : l = [] := List.eq_nil_of_length_eq_zero h
    subst this; decide
  | p + 1, l, h, hb => by
    obtain ⟨a, b, rfl, ha⟩ := snoc_cases l p h
    have h1 : b < 2 := hb b (by simp)
    have h2 := val_lt p a ha fun x hx => hb x (by simp [hx])
    rw [val_snoc, Nat.pow_succ]
    omega
theorem pk_succ (p : Nat) (l : List Nat) (n : Nat) : pk p l (n + 1) = val (l.take p) :: pk p (l.drop p) n := by
  unfold pk
  rw [List.range_succ_eq_map, List.map_cons, List.map_map]
  congr 1
  · simp
  · apply List.map_congr_left
    intro i _
    simp only [Function.comp, List.drop_drop]
    rw [Nat.succ_mul, Nat.add_comm]
theorem pk_len (p : Nat) (l : List Nat) (n : Nat) : (pk p l n).length = n := by simp [pk]
theorem spread_cons (p w : Nat) (ws : List Nat) : spread p (w :: ws) = bitsW p w ++ spread p ws := by simp [spread]
theorem spread_len (p : Nat) (ws : List Nat) : (spread p ws).length = ws.length * p := by
  induction ws with
  | nil => simp [spread]
  | cons w ws ih => rw [spread_cons, List.length_append, bitsW_len, ih, List.length_cons, Nat.succ_mul]; omega
theorem spread_bits (p : Nat) (ws : List Nat) : Bits (spread p ws) := by
  intro b hb
  obtain ⟨w, _, h⟩ := List.mem_flatMap.mp hb
  exact bitsW_bits p w b h
theorem pk_spread (p : Nat) : ∀ ws : List Nat, (∀ w ∈ ws, w < 2 ^ p) → pk p (spread p ws) ws.length = ws
  | [], _ => rfl
  | w :: ws, h => by
    rw [List.length_cons, pk_succ, spread_cons, List.take_left' (bitsW_len p w), List.drop_left' (bitsW_len p w), val_bits p w (h w (by simp)), pk_spread p ws fun x hx => h x (by simp [hx])]
theorem spread_pk (p : Nat) : ∀ (n : Nat) (l : List Nat), l.length = n * p → Bits l → spread p (pk p l n) = l
  | 0, l, h, _ => by
    have : l = [] := List.eq_nil_of_length_eq_zero (by simpa using h)
    subst this; rfl
  | n + 1, l, h, hb => by
    rw [Nat.succ_mul] at h
    rw [pk_succ, spread_cons, bits_val p (l.take p) (by rw [List.length_take]; omega) fun x hx => hb x (List.mem_of_mem_take hx), spread_pk p n (l.drop p) (by rw [List.length_drop]; omega) fun x hx => hb x (List.mem_of_mem_drop hx), List.take_append_drop]
theorem pk_lt (p : Nat) : ∀ (n : Nat) (l : List Nat), l.length = n * p → Bits l → ∀ w ∈ pk p l n, w < 2 ^ p
  | 0, l, _, _, w, hw => by simp [pk] at hw
  | n + 1, l, h, hb, w, hw => by
    rw [Nat.succ_mul] at h
    rw [pk_succ, List.mem_cons] at hw
    rcases hw with rfl | hw
    · exact val_lt p _ (by rw [List.length_take]; omega) fun x hx => hb x (List.mem_of_mem_take hx)
    · exact pk_lt p n (l.drop p) (by rw [List.length_drop]; omega) (fun x hx => hb x (List.mem_of_mem_drop hx)) w hw
/-! ### padding -/
def padK (p L : Nat) : Nat := (p - L % p) % p
theorem padK_lt {p : Nat} (hp : 0 < p) (L : Nat) : padK p L < p := Nat.mod_lt _ hp
theorem padK_eq {p : Nat} (hp : 0 < p) (L : Nat) : (L + padK p L) % p = 0 := by
  unfold padK
  have h1 := Nat.mod_lt L hp
  by_cases h : L % p = 0
  · rw [h, Nat.sub_zero, Nat.mod_self, Nat.add_zero, h]
  · rw [Nat.mod_eq_of_lt (show p - L % p < p by omega)]
    have h2 := Nat.div_add_mod L p
    have : L + (p - L % p) = p * (L / p + 1) := by rw [Nat.mul_add]; omega
    rw [this, Nat.mul_mod_right]
theorem pad_uniq {p : Nat} (hp : 0 < p) (L j k : Nat) (hj : j < p) (hk : k < p) (h1 : (L + j) % p = 0) (h2 : (L + k) % p = 0) : j = k := by
  obtain ⟨a, ha⟩ := Nat.dvd_of_mod_eq_zero h1
  obtain ⟨b, hb⟩ := Nat.dvd_of_mod_eq_zero h2
  have : a = b := by
    rcases Nat.lt_trichotomy a b with h | h | h
    · exfalso
      have : p * (a + 1) ≤ p * b := Nat.mul_le_mul_left p h
      rw [Nat.mul_add] at this
      omega
    · exact h
    · exfalso
      have : p * (b + 1) ≤ p * a := Nat.mul_le_mul_left p h
      rw [Nat.mul_add] at this
      omega
  subst this
  omega
theorem pad_int {p : Nat} (hp : 0 < p) (L : Nat) : (-(L : Int)) % (p : Int) = (padK p L : Int) := by
  obtain ⟨a, ha⟩ := Nat.dvd_of_mod_eq_zero (padK_eq hp L)
  have hlt := padK_lt hp L
  have e : -(L : Int) = (padK p L : Int) + (p : Int) * (-(a : Int)) := by
    have : (L : Int) + (padK p L : Int) = (p : Int) * (a : Int) := by exact_mod_cast ha
    rw [Int.mul_neg]
    omega
  rw [e, Int.add_mul_emod_self_left]
  exact Int.emod_eq_of_lt (by omega) (by omega)
/-- what is packed: the bits, a 1, and as many 0 -/
def filled (p : Nat) (bs : List Nat) : List Nat := bs ++ 1 :: List.replicate (padK p (bs.length + 1)) 0
def many (p : Nat) (bs : List Nat) : Nat := (filled p bs).length / p
theorem filled_len {p : Nat} (hp : 0 < p) (bs : List Nat) : (filled p bs).length = many p bs * p := by
  unfold many
  have h : (filled p bs).length % p = 0 := by
    have := padK_eq hp (bs.length + 1)
    unfold filled
    simp only [List.length_append, List.length_cons, List.length_replicate]
    rw [show bs.length + (padK p (bs.length + 1) + 1) = bs.length + 1 + padK p (bs.length + 1) by omega]
    exact this
  exact (Nat.div_mul_cancel (Nat.dvd_of_mod_eq_zero h)).symm
theorem filled_bits {p : Nat} (bs : List Nat) (h : Bits bs) : Bits (filled p bs) := by
  intro b hb
  unfold filled at hb
  simp only [List.mem_append, List.mem_cons, List.mem_replicate] at hb
  rcases hb with hb | rfl | ⟨_, rfl⟩
  · exact h b hb
  · omega
  · omega
def pack (p : Nat) (bs : List Nat) : List Nat := pk p (filled p bs) (many p bs)
/-- a list of bits with a 1: where the last 1 stands -/
theorem last_one : ∀ (l : List Nat), Bits l → (∃ b ∈ l, b ≠ 0) → ∃ d k, l = d ++ 1 :: List.replicate k 0 ∧ d.length + 1 + k = l.length := by
  intro l
  induction h : l.length generalizing l with
  | zero => rintro _ ⟨b, hb, _⟩; rw [List.eq_nil_of_length_eq_zero h] at hb; cases hb
  | succ n ih =>
    intro hb hx
    obtain ⟨a, b, rfl, ha⟩ := snoc_cases l n h
    by_cases hz : b = 0
    · subst hz
      obtain ⟨d, k, e, hl⟩ := ih a ha (fun x hx => hb x (by simp [hx])) (by
        obtain ⟨b, hm, hn⟩ := hx
        simp only [List.mem_append, List.mem_singleton] at hm
        rcases hm with hm | rfl
        · exact ⟨b, hm, hn⟩
        · exact absurd rfl hn)
      refine ⟨d, k + 1, ?_, by omega⟩
      rw [e, List.append_assoc, List.cons_append, ← List.replicate_succ']
    · have : b = 1 := by have := hb b (by simp); omega
      subst this
      exact ⟨a, 0, rfl, by omega⟩
theorem bitsW_nz (p w : Nat) (h : w < 2 ^ p) (hz : w ≠ 0) : ∃ b ∈ bitsW p w, b ≠ 0 := by
  apply Classical.byContradiction
  intro hn
  have hall : ∀ b ∈ bitsW p w, b = 0 := fun b hb => Classical.byContradiction fun z => hn ⟨b, hb, z⟩
  have e := val_bits p w h
  have : ∀ l : List Nat, (∀ b ∈ l, b = 0) → val l = 0 := by
    intro l
    induction hl : l.length generalizing l with
    | zero => intro _; rw [List.eq_nil_of_length_eq_zero hl]; rfl
    | succ n ih =>
      intro hb
      obtain ⟨a, b, rfl, ha⟩ := snoc_cases l n hl
      rw [val_snoc, ih a ha fun x hx => hb x (by simp [hx]), hb b (by simp)]
  rw [this _ hall] at e
  exact hz e.symm
/-- the bits of words whose last one is not 0 -/
theorem spread_end {p : Nat} (hp : 0 < p) (ws : List Nat) (w : Nat) (hw : w < 2 ^ p) (hz : w ≠ 0) : ∃ d, spread p (ws ++ [w]) = filled p d ∧ d.length + 1 ≤ (ws.length + 1) * p ∧ many p d = ws.length + 1 := by
  obtain ⟨d, k, e, hl⟩ := last_one _ (bitsW_bits p w) (bitsW_nz p w hw hz)
  rw [bitsW_len] at hl
  have e1 : spread p (ws ++ [w]) = (spread p ws ++ d) ++ 1 :: List.replicate k 0 := by
    simp only [spread, List.flatMap_append, List.flatMap_cons, List.flatMap_nil, List.append_nil, List.append_assoc]
    rw [e]
  have hl2 := spread_len p ws
  have hk : k = padK p ((spread p ws ++ d).length + 1) := by
    refine pad_uniq hp ((spread p ws ++ d).length + 1) k _ (by omega) (padK_lt hp _) ?_ (padK_eq hp _)
    rw [List.length_append, hl2, show ws.length * p + d.length + 1 + k = (ws.length + 1) * p by rw [Nat.add_mul]; omega, Nat.mul_mod_left]
  have e2 : spread p (ws ++ [w]) = filled p (spread p ws ++ d) := by rw [e1, hk]; rfl
  have hlen := filled_len hp (spread p ws ++ d)
  rw [← e2, spread_len, List.length_append, List.length_singleton] at hlen
  refine ⟨spread p ws ++ d, e2, ?_, (Nat.eq_of_mul_eq_mul_right hp hlen).symm⟩
  rw [List.length_append, hl2, Nat.add_mul]; omega
/-- and back -/
theorem pack_spread {p : Nat} (hp : 0 < p) (ws d : List Nat) (h : spread p ws = filled p d) (hm : many p d = ws.length) (hw : ∀ w ∈ ws, w < 2 ^ p) : pack p d = ws := by
  unfold pack
  rw [← h, hm, pk_spread p ws hw]
theorem spread_pack {p : Nat} (hp : 0 < p) (bs : List Nat) (h : Bits bs) : spread p (pack p bs) = filled p bs := spread_pk p _ _ (filled_len hp bs) (filled_bits bs h)
theorem pack_lt {p : Nat} (hp : 0 < p) (bs : List Nat) (h : Bits bs) : ∀ w ∈ pack p bs, w < 2 ^ p := pk_lt p _ _ (filled_len hp bs) (filled_bits bs h)
theorem pack_len {p : Nat} (bs : List Nat) : (pack p bs).length = many p bs := pk_len _ _ _
theorem many_pos {p : Nat} (hp : 0 < p) (bs : List Nat) : 0 < many p bs := by
  have h := filled_len hp bs
  have h2 : 0 < (filled p bs).length := by simp [filled]; omega
  apply Nat.pos_of_ne_zero
  intro z
  rw [z] at h
  omega
theorem many_le {p : Nat} (hp : 0 < p) (bs : List Nat) : many p bs ≤ bs.length + 1 := by
  have h := filled_len hp bs
  have h1 := padK_lt hp (bs.length + 1)
  have h2 : (filled p bs).length = bs.length + 1 + padK p (bs.length + 1) := by simp [filled]; omega
  apply Nat.le_of_not_lt
  intro hlt
  have h3 : (bs.length + 2) * p ≤ many p bs * p := Nat.mul_le_mul_right p hlt
  have h4 : bs.length + 1 ≤ (bs.length + 1) * p := Nat.le_mul_of_pos_right _ hp
  have h5 : (bs.length + 2) * p = (bs.length + 1) * p + p := by rw [show bs.length + 2 = bs.length + 1 + 1 by omega, Nat.add_mul (bs.length + 1) 1 p]; omega
  omega
/-- the last word of packed bits is not 0 -/
theorem pack_last {p : Nat} (hp : 0 < p) (bs : List Nat) (h : Bits bs) : ∃ ws w, pack p bs = ws ++ [w] ∧ w ≠ 0 := by
  have hm := many_pos hp bs
  obtain ⟨ws, w, e, hl⟩ := snoc_cases (pack p bs) (many p bs - 1) (by rw [pack_len]; omega)
  refine ⟨ws, w, e, fun hz => ?_⟩
  subst hz
  have e1 := spread_pack hp bs h
  rw [e] at e1
  have e2 : spread p (ws ++ [0]) = spread p ws ++ List.replicate p 0 := by
    simp only [spread, List.flatMap_append, List.flatMap_cons, List.flatMap_nil, List.append_nil]
    congr 1
    unfold bitsW
    rw [List.eq_replicate_iff]
    refine ⟨by simp, fun b hb => ?_⟩
    obtain ⟨j, _, rfl⟩ := List.mem_map.mp hb
    simp
  rw [e2] at e1
  have hk := padK_lt hp (bs.length + 1)
  unfold filled at e1
  have hl1 := congrArg List.length e1
  simp only [List.length_append, List.length_cons, List.length_replicate] at hl1
  have g1 : (spread p ws ++ List.replicate p 0)[bs.length]? = some 0 := by
    rw [List.getElem?_append_right (by omega), List.getElem?_replicate, if_pos (by omega)]
  have g2 : (bs ++ 1 :: List.replicate (padK p (bs.length + 1)) 0)[bs.length]? = some 1 := by
    rw [List.getElem?_append_right (Nat.le_refl _)]; simp
  rw [e1, g2] at g1
  cases g1
end BR
set_option Elab.async false
set_option linter.all false
set_option maxRecDepth 100000
set_option maxHeartbeats 400000
namespace LW
open PySem L2 BR
abbrev iD (n : Nat) : D := .int (n : Int)
abbrev isD (l : List Nat) : D := .lst (l.map iD)
abbrev itD (l : List Nat) : D := .tup (l.map iD)
noncomputable abbrev rateD (K : PySem.W.Frag) (p q : Nat) : D := .ins (He.ga K "Rate") ["rate_bits", "rate_signs"] [.int (p : Int), .int (q : Int)]
theorem sl : 1000000 ≤ sizeLine := by have := sizeLine_eq; omega
def shN (x : Option Sl) : Prop := x = none ∨ ∃ d, x = some (.sh d)
theorem shN_sh (d : D) : shN (some (.sh d)) := .inr ⟨d, rfl⟩
theorem shN_no : shN none := .inl rfl
def isI : D → Bool
  | .int _ => true
  | _ => false
theorem is_integer_pl (K : PySem.W.Frag) (d : D) (h : plD d = true) : F_is_integer K [d] = .ok (.bl (isI d), []) := by
  cases d <;> first | rfl | cases h
theorem is_count_int (K : PySem.W.Frag) (i : Int) : F_is_count K [.int i] = .ok (.bl (decide (0 ≤ i)), []) := by rfl
theorem is_count_no (K : PySem.W.Frag) (d : D) (h : plD d = true) (hi : isI d = false) : F_is_count K [d] = .ok (.bl false, []) := by
  cases d <;> first | rfl | (cases hi; done) | (cases h; done)
theorem is_list_pl (K : PySem.W.Frag) (d : D) (h : plD d = true) : F_is_list K [d] = .ok (.bl (isSeqD d), []) := by
  cases d <;> first | rfl | cases h
theorem fr_bits (C : Addr) (a b : D) : fldD ["rate_bits", "rate_signs"] [a, b] "rate_bits" = some a := rfl
theorem fr_signs (C : Addr) (a b : D) : fldD ["rate_bits", "rate_signs"] [a, b] "rate_signs" = some b := rfl
theorem rate_p (K : PySem.W.Frag) (p q : Nat) : F_Rate_p K [rateD K p q] = .ok (.int (p : Int), []) := by
  simp [F_Rate_p, B_Rate_p, fr_bits, -fldD]
theorem pow_d (p : Nat) : dIc CPow (fun i j => i * 2 ^ j.toNat) (.int 1) (.int (p : Int)) = if p ≤ 1000 then dIc CPow (fun i j => i * 2 ^ j.toNat) (.int 1) (.int (p : Int)) else dIc CPow (fun i j => i * 2 ^ j.toNat) (.int 1) (.int (p : Int)) := by split <;> rfl
theorem shl_d (p : Nat) (h : p ≤ 6) : dIc CPow (fun i j => i * 2 ^ j.toNat) (.int 1) (.int (p : Int)) = some (.im (.int ((2 ^ p : Nat) : Int))) := by
  rw [dIc_ok (by unfold CPow; omega)]
  simp
theorem rate_size (K : PySem.W.Frag) (p q : Nat) (h : p ≤ 6) : F_Rate_size K [rateD K p q] = .ok (.int ((2 ^ p : Nat) : Int), []) := by
  have e := shl_d p h
  simp [F_Rate_size, B_Rate_size, fr_bits, -fldD, e]
theorem want_rate_ok (K : PySem.W.Frag) (p q : Nat) : F_want_rate K [rateD K p q] = .ok (.non, []) := by
  simp [F_want_rate, B_want_rate, dIsi, insIn, isIns, clsDs]
theorem want_rate_no (K : PySem.W.Frag) (d : D) (h : plD d = true) : ∃ st, F_want_rate K [d] = .exc ⟨.ref (He.ga K "InvalidRate"), ["value"], [d], st⟩ := by
  have h1 : insIn [He.ga K "Rate"] d = true := by cases d <;> first | rfl | cases h
  have h2 : isIns (He.ga K "Rate") d = false := by cases d <;> first | rfl | cases h
  refine ⟨[some (.sh d)], ?_⟩
  simp [F_want_rate, B_want_rate, dIsi, h1, h2, clsDs]
theorem rate_init (K : PySem.W.Frag) (p q : Nat) (h1 : 1 ≤ p) (h2 : p ≤ 6) (h3 : 1 ≤ q) (h4 : q ≤ 6) : F_Rate___init__ K [.ins (He.ga K "Rate") [] [], .int (p : Int), .int (q : Int)] = .ok (.non, [rateD K p q]) := by
  have e := sForL_keep (g := gVar 3) (b := sIf (tOrF (tNotF (tstV (eCall false (F_is_integer K) (mSh (eVar 3) (mNil))))) (tNotF (tstV (eChain (fun i j => decide (i ≤ j)) (fun i j => decide (i ≤ j)) (eK (.int 1)) (eVar 3) (eK (.int 6)))))) (sNo) (sNil))
    iD (fun ρ => ∃ x, shN x ∧ ρ = [some (.io (.ins (He.ga K "Rate") [] [])), some (.sh (.int (p : Int))), some (.sh (.int (q : Int))), x]) [p, q] [some (.io (.ins (He.ga K "Rate") [] [])), some (.sh (.int (p : Int))), some (.sh (.int (q : Int))), none] (by
      rintro z ρ hz ⟨x, hx, rfl⟩
      have hz2 : 1 ≤ (z : Int) ∧ (z : Int) ≤ 6 := by simp at hz; omega
      have e1 := is_integer_pl K (.int (z : Int)) rfl
      refine ⟨[some (.io (.ins (He.ga K "Rate") [] [])), some (.sh (.int (p : Int))), some (.sh (.int (q : Int))), some (.sh (iD z))], ?_, _, shN_sh _, rfl⟩
      rcases hx with rfl | ⟨d, rfl⟩ <;> simp [e1, isI, hz2.1, hz2.2]) ⟨_, shN_no, rfl⟩
  obtain ⟨ρ', e, x, hx, rfl⟩ := e
  simp only [List.map_cons, List.map_nil] at e
  have f1 : setFn ["rate_bits"] "rate_signs" = (["rate_bits", "rate_signs"] : List Str) := rfl
  have f2 : ∀ a b : D, setFx ["rate_bits"] [a] "rate_signs" b = [a, b] := fun _ _ => rfl
  have hs : 2 ≤ sizeLine := by have := sl; omega
  have f3 : setFn [] "rate_bits" = (["rate_bits"] : List Str) := rfl
  have f4 : ∀ b : D, setFx [] [] "rate_bits" b = [b] := fun _ => rfl
  simp [F_Rate___init__, B_Rate___init__, e, f1, f2, f3, f4, hs, -setFn, -setFx]
/-! ### loops that raise -/
theorem sForL_app {g : D → S → Option S} {b : SF} : ∀ (xs ys : List D) (ρ ρ1 : S), sForL g b xs ρ = .ok (.nx, ρ1) → (∀ d ρ, (∃ fl ρ2, (ofO (g d ρ) >>= b) = .ok (fl, ρ2) ∧ fl ≠ .nx) → d ∉ xs) → sForL g b (xs ++ ys) ρ = sForL g b ys ρ1
  | [], ys, ρ, ρ1, e, _ => by cases e; rfl
  | x :: xs, ys, ρ, ρ1, e, h => by
    rw [List.cons_append]
    simp only [sForL] at e ⊢
    cases hg : g x ρ with
    | none => rw [hg] at e; cases e
    | some ρ2 =>
      rw [hg] at e
      simp only [ofO_some, ok_bind] at e ⊢
      cases hb : b ρ2 with
      | no => rw [hb] at e; cases e
      | exc x => rw [hb] at e; cases e
      | ok y =>
        rw [hb] at e
        simp only [ok_bind] at e ⊢
        obtain ⟨fl, ρ3⟩ := y
        cases fl with
        | nx => exact sForL_app xs ys ρ3 ρ1 e fun d ρ z m => h d ρ z (List.mem_cons_of_mem _ m)
        | bk => exact absurd List.mem_cons_self (h x ρ ⟨.bk, ρ3, by rw [hg]; exact hb, nofun⟩)
        | ct => exact absurd List.mem_cons_self (h x ρ ⟨.ct, ρ3, by rw [hg]; exact hb, nofun⟩)
        | rt hd => cases e
/-- the turns of a loop until one raises -/
theorem sForL_exc {β : Type} {g : D → S → Option S} {b : SF} (toD : β → D) (I : S → Prop) (P : Exc → Prop) : ∀ (xs : List β) (x : β) (ys : List D) (ρ : S),
    (∀ (x : β) (ρ : S), x ∈ xs → I ρ → ∃ ρ2, (ofO (g (toD x) ρ) >>= b) = .ok (.nx, ρ2) ∧ I ρ2) → (∀ ρ, I ρ → ∃ e, (ofO (g (toD x) ρ) >>= b) = .exc e ∧ P e) → I ρ → ∃ e, sForL g b (xs.map toD ++ toD x :: ys) ρ = .exc e ∧ P e
  | [], x, ys, ρ, _, h, hi => by
    obtain ⟨e, q, hp⟩ := h ρ hi
    refine ⟨e, ?_, hp⟩
    rw [List.map_nil, List.nil_append]
    simp only [sForL]
    cases hg : g (toD x) ρ with
    | none => rw [hg] at q; cases q
    | some ρ1 =>
      rw [hg] at q
      have q2 : b ρ1 = .exc e := q
      simp only [ofO_some, ok_bind, q2, exc_bind]
  | z :: xs, x, ys, ρ, h0, h, hi => by
    obtain ⟨ρ2, q, hi2⟩ := h0 z ρ (by simp) hi
    obtain ⟨e, q3, hp⟩ := sForL_exc toD I P xs x ys ρ2 (fun y ρ hy => h0 y ρ (by simp [hy])) h hi2
    refine ⟨e, ?_, hp⟩
    rw [List.map_cons, List.cons_append]
    simp only [sForL]
    cases hg : g (toD z) ρ with
    | none => rw [hg] at q; cases q
    | some ρ1 =>
      rw [hg] at q
      have q2 : b ρ1 = .ok (.nx, ρ2) := q
      simp only [ofO_some, ok_bind, q2]
      exact q3
def enumP (ds : List D) : List (Nat × D) := (List.range ds.length).zip ds
abbrev pD (z : Nat × D) : D := .tup [.int (z.1 : Int), z.2]
theorem enums_P (ds : List D) : enums ds = (enumP ds).map pD := by
  unfold enums enumP
  rw [List.zip, List.map_zipWith]
theorem enumP_mem {ds : List D} {z : Nat × D} (h : z ∈ enumP ds) : z.2 ∈ ds := (List.of_mem_zip h).2
theorem enumP_split (a : List D) (x : D) (b : List D) : ∃ r, enumP (a ++ x :: b) = enumP a ++ (a.length, x) :: r := by
  refine ⟨(List.range' (a.length + 1) b.length).zip b, ?_⟩
  unfold enumP
  rw [List.length_append, List.length_cons, List.range_eq_range', List.range_eq_range', show a.length + (b.length + 1) = a.length + (b.length + 1) from rfl, ← List.range'_append_1 (s := 0) (m := a.length), List.zip_append (by simp)]
  congr 1
  rw [Nat.zero_add, List.range'_succ, List.zip_cons_cons]
/-! ### want_bits -/
theorem bit_in (b : Nat) (h : b < 2) : dNotIn (iD b) (.tup [.int 0, .int 1]) = some (.im (.bl false)) := by
  have : b = 0 ∨ b = 1 := by omega
  rcases this with rfl | rfl <;> rfl
theorem int_notin (i : Int) (h0 : i ≠ 0) (h1 : i ≠ 1) : dNotIn (.int i) (.tup [.int 0, .int 1]) = some (.im (.bl true)) := by
  simp [dNotIn, inD, fl, flL, inV, eqV, Ne.symm h0, Ne.symm h1]
noncomputable abbrev wbB (K : PySem.W.Frag) : SF := sIf (tOrF (tNotF (tstV (eCall false (F_is_integer K) (mSh (eVar 2) (mNil))))) (tstV (eOp2 dNotIn (eVar 2) (eTup (aCons (eV (eK (.int 0))) (aCons (eV (eK (.int 1))) (aNil))))))) (sRaise (He.ga K "InvalidBits") "position" (aCons (eV (eVar 1)) (aNil))) (sNil)
abbrev wbG : D → S → Option S := gTupF 2 (gsCons (gVar 1) (gsCons (gVar 2) (gsNil)))
abbrev wbI (d : D) (ρ : S) : Prop := ∃ x y, shN x ∧ shN y ∧ ρ = [some (.sh d), x, y]
def goodBit (d : D) : Prop := ∃ b : Nat, b < 2 ∧ d = iD b
/-- a value that is no bit -/
def badBit (d : D) : Prop := plD d = true ∧ (isI d = false ∨ ∃ i : Int, d = .int i ∧ i ≠ 0 ∧ i ≠ 1)
theorem wb_turn (K : PySem.W.Frag) (d : D) (n : Nat) (x : D) (hx : goodBit x) (ρ : S) (hi : wbI d ρ) : ∃ ρ2, (ofO (wbG (pD (n, x)) ρ) >>= wbB K) = .ok (.nx, ρ2) ∧ wbI d ρ2 := by
  obtain ⟨u, v, hu, hv, rfl⟩ := hi
  obtain ⟨b, hb, rfl⟩ := hx
  have e1 := is_integer_pl K (iD b) rfl
  have e2 := bit_in b hb
  refine ⟨[some (.sh d), some (.sh (iD n)), some (.sh (iD b))], ?_, _, _, shN_sh _, shN_sh _, rfl⟩
  have hs : 2 ≤ sizeLine := by have := sl; omega
  rcases hu with rfl | ⟨d1, rfl⟩ <;> rcases hv with rfl | ⟨d2, rfl⟩ <;> simp [e1, e2, isI, hs]
theorem wb_bad (K : PySem.W.Frag) (d : D) (n : Nat) (x : D) (hx : badBit x) (ρ : S) (hi : wbI d ρ) : ∃ e, (ofO (wbG (pD (n, x)) ρ) >>= wbB K) = .exc e ∧ ∃ st, e = ⟨.ref (He.ga K "InvalidBits"), ["position"], [iD n], st⟩ := by
  obtain ⟨u, v, hu, hv, rfl⟩ := hi
  obtain ⟨h1, h2⟩ := hx
  have e1 := is_integer_pl K x h1
  have hs : 2 ≤ sizeLine := by have := sl; omega
  refine ⟨_, ?_, [some (.sh d), some (.sh (iD n)), some (.sh x)], rfl⟩
  rcases h2 with h2 | ⟨i, rfl, h3, h4⟩
  · rcases hu with rfl | ⟨d1, rfl⟩ <;> rcases hv with rfl | ⟨d2, rfl⟩ <;> simp [e1, h2]
  · have e2 := int_notin i h3 h4
    rcases hu with rfl | ⟨d1, rfl⟩ <;> rcases hv with rfl | ⟨d2, rfl⟩ <;> simp [e1, e2, isI, hs]
def seqOf (d : D) : Option (List D) := match d with
  | .lst ds => some ds
  | .tup ds => some ds
  | _ => none
theorem want_bits_ok (K : PySem.W.Frag) (d : D) (ds : List D) (hd : seqOf d = some ds) (hl : ds.length ≤ 1000) (h : ∀ x ∈ ds, goodBit x) : F_want_bits K [d] = .ok (.non, []) := by
  obtain ⟨ρ', e, x, y, hx, hy, rfl⟩ := sForL_keep (g := wbG) (b := wbB K) pD (wbI d) (enumP ds) [some (.sh d), none, none] (fun z ρ hz hi => wb_turn K d z.1 z.2 (h _ (enumP_mem hz)) ρ hi) ⟨_, _, shN_no, shN_no, rfl⟩
  rw [← enums_P] at e
  have hn : ¬ (1000 : Int) < (ds.length : Int) := by omega
  cases d with
  | lst xs =>
    cases hd
    have e1 := is_list_pl K (.lst ds) rfl
    simp [F_want_bits, B_want_bits, e1, isSeqD, hn, e]
  | tup xs =>
    cases hd
    have e1 := is_list_pl K (.tup ds) rfl
    simp [F_want_bits, B_want_bits, e1, isSeqD, hn, e]
  | _ => cases hd
theorem want_bits_at (K : PySem.W.Frag) (a : List D) (x : D) (b : List D) (hl : a.length + b.length < 1000) (h : ∀ y ∈ a, goodBit y) (hx : badBit x) : ∃ st, F_want_bits K [.lst (a ++ x :: b)] = .exc ⟨.ref (He.ga K "InvalidBits"), ["position"], [iD a.length], st⟩ := by
  obtain ⟨r, er⟩ := enumP_split a x b
  obtain ⟨e, he, st, rfl⟩ := sForL_exc (g := wbG) (b := wbB K) pD (wbI (.lst (a ++ x :: b))) (fun e => ∃ st, e = ⟨.ref (He.ga K "InvalidBits"), ["position"], [iD a.length], st⟩) (enumP a) (a.length, x) (r.map pD) [some (.sh (.lst (a ++ x :: b))), none, none]
    (fun z ρ hz hi => wb_turn K _ z.1 z.2 (h _ (enumP_mem hz)) ρ hi) (fun ρ hi => wb_bad K _ a.length x hx ρ hi) ⟨_, _, shN_no, shN_no, rfl⟩
  have e2 : (enumP a).map pD ++ pD (a.length, x) :: r.map pD = enums (a ++ x :: b) := by rw [enums_P, er, List.map_append, List.map_cons]
  rw [e2] at he
  have e1 := is_list_pl K (.lst (a ++ x :: b)) rfl
  have hn : ¬ (1000 : Int) < ((a ++ x :: b).length : Int) := by rw [List.length_append, List.length_cons]; omega
  refine ⟨st, ?_⟩
  simp [F_want_bits, B_want_bits, e1, isSeqD, hn, he, -List.length_append]
theorem want_bits_none (K : PySem.W.Frag) (d : D) (h : plD d = true) (h2 : ∀ ds, seqOf d = some ds → 1000 < ds.length) (h3 : ∀ ns, d ≠ .scr ns) : ∃ st, F_want_bits K [d] = .exc ⟨.ref (He.ga K "InvalidBits"), ["position"], [.non], st⟩ := by
  have e1 := is_list_pl K d h
  refine ⟨[some (.sh d), none, none], ?_⟩
  cases d with
  | lst xs =>
    have := h2 xs rfl
    have hn : (1000 : Int) < (xs.length : Int) := by omega
    simp [F_want_bits, B_want_bits, e1, isSeqD, hn]
  | tup xs =>
    have := h2 xs rfl
    have hn : (1000 : Int) < (xs.length : Int) := by omega
    simp [F_want_bits, B_want_bits, e1, isSeqD, hn]
  | scr ns => exact absurd rfl (h3 ns)
  | non => simp [F_want_bits, B_want_bits, e1, isSeqD]
  | bl _ => simp [F_want_bits, B_want_bits, e1, isSeqD]
  | int _ => simp [F_want_bits, B_want_bits, e1, isSeqD]
  | str _ => simp [F_want_bits, B_want_bits, e1, isSeqD]
  | dic _ _ => simp [F_want_bits, B_want_bits, e1, isSeqD]
  | _ => cases h
end LW
set_option Elab.async false
set_option linter.all false
set_option maxRecDepth 100000
set_option maxHeartbeats 1000000
namespace LW
open PySem L2 BR
theorem rng_size (J q : Nat) (hq : 1 ≤ q) (hq3 : q ≤ 6) : Builtin.Range.rangeSize 0 ((J * q : Nat) : Int) (q : Int) = (J : Int) := by
  unfold Builtin.Range.rangeSize
  have : q = 1 ∨ q = 2 ∨ q = 3 ∨ q = 4 ∨ q = 5 ∨ q = 6 := by omega
  rcases this with rfl | rfl | rfl | rfl | rfl | rfl <;> (rw [if_pos (by decide)]; split <;> omega)
theorem rng_ok (J q : Nat) (hq : 1 ≤ q) (hq3 : q ≤ 6) (h : J * q ≤ 100000) : RgC 0 ((J * q : Nat) : Int) (q : Int) J := by
  refine ⟨by omega, by omega, ?_, rng_size J q hq hq3⟩
  unfold Builtin.Range.small
  rw [rng_size J q hq hq3]
  have hJ : J ≤ 100000 := by
    have : J * 1 ≤ J * q := Nat.mul_le_mul_left J hq
    omega
  have hq0 : (q : Int) > 0 := by omega
  simp only [Builtin.Range.rangeFitsLong, Bool.and_eq_true, Bool.or_eq_true, decide_eq_true_eq, beq_iff_eq, if_pos hq0]
  have : q = 1 ∨ q = 2 ∨ q = 3 ∨ q = 4 ∨ q = 5 ∨ q = 6 := by omega
  rcases this with rfl | rfl | rfl | rfl | rfl | rfl <;> omega
theorem cutD_mid (l : List Nat) (a b : Nat) (h : a ≤ l.length) : cutD (l.map iD) (some (a : Int)) (some (b : Int)) = ((l.drop a).take (b - a)).map iD := by
  unfold cutD
  rw [HT.sIx_nat, HT.sIx_nat, List.length_map, Nat.min_eq_left h, ← List.map_drop, ← List.map_take]
  congr 1
  by_cases hb : b ≤ l.length
  · rw [Nat.min_eq_left hb]
  · rw [Nat.min_eq_right (by omega), List.take_of_length_le (by simp), List.take_of_length_le (by simp; omega)]
theorem range_split {n : Nat} {a b : List Nat} {x : Nat} (h : List.range n = a ++ x :: b) : x = a.length ∧ x < n := by
  have h1 : (List.range n)[a.length]? = some x := by rw [h]; simp
  have h2 : a.length < n := by
    have := congrArg List.length h
    simp at this
    omega
  rw [List.getElem?_range h2] at h1
  cases h1
  exact ⟨rfl, h2⟩
noncomputable abbrev inB : SF := sAsg 5 (eOp2 dAdd (eOp2 dMulI (eK (.int 2)) (eVar 5)) (eVar 6))
theorem in_loop (s0 s1 s2 s3 s4 : Option Sl) (c : List Nat) (x : Option Sl) (hx : shN x) : ∃ y, shN y ∧ sForL (gVar 6) inB (c.map iD) [s0, s1, s2, s3, s4, some (.sh (.int 0)), x] = .ok (.nx, [s0, s1, s2, s3, s4, some (.sh (iD (val c))), y]) := by
  obtain ⟨ρ', e, y, hy, rfl⟩ := sForL_rel (g := gVar 6) (b := inB) iD (fun pre ρ => ∃ y, shN y ∧ ρ = [s0, s1, s2, s3, s4, some (.sh (iD (val pre))), y]) c [s0, s1, s2, s3, s4, some (.sh (.int 0)), x] (by
    rintro pre b ρ hb ⟨y, hy, rfl⟩
    have m : dMulI (.int 2) (.int (val pre : Int)) = some (.im (.int (2 * (val pre : Int)))) := dMulI_ok (.inl ⟨by decide, by decide⟩)
    have e : iD (val (pre ++ [b])) = .int (2 * (val pre : Int) + (b : Int)) := by rw [val_snoc]; simp [iD]
    refine ⟨[s0, s1, s2, s3, s4, some (.sh (iD (val (pre ++ [b])))), some (.sh (iD b))], ?_, _, shN_sh _, rfl⟩
    rw [e]
    rcases hy with rfl | ⟨d, rfl⟩ <;> simp [m]) ⟨x, hx, rfl⟩
  exact ⟨y, hy, e⟩
noncomputable abbrev pkB (P : EF) : SF := sSeq (sAsg 5 (eK (.int 0))) (sSeq (sFor (itSeq (eSl (eVar 2) (oSome (eVar 4)) (oSome (eOp2 dAdd (eVar 4) P)))) (gVar 6) inB) (sDrop (eAppend 3 (eVar 5))))
theorem pk_snoc (p : Nat) (l : List Nat) (i : Nat) : pk p l (i + 1) = pk p l i ++ [val ((l.drop (i * p)).take p)] := by
  unfold pk
  rw [List.range_succ, List.map_append, List.map_cons, List.map_nil]
theorem pk_loop (P : EF) (p n : Nat) (l : List Nat) (hl : l.length = n * p) (hn : n ≤ 100000) (s0 s1 : Option Sl) (hP : ∀ x2 x3 x4 x5 x6, P [s0, s1, x2, x3, x4, x5, x6] = .ok (.val (iD p), [s0, s1, x2, x3, x4, x5, x6])) :
    ∃ y4 y5 y6, sForL (gVar 4) (pkB P) (rngC 0 p n) [s0, s1, some (.own (isD l)), some (.own (.lst [])), none, none, none] = .ok (.nx, [s0, s1, some (.own (isD l)), some (.own (isD (pk p l n))), y4, y5, y6]) := by
  have hs := sl
  obtain ⟨ρ', e, y4, y5, y6, h4, h5, h6, rfl⟩ := sForL_relP (g := gVar 4) (b := pkB P) (fun i : Nat => D.int (0 + (i : Int) * (p : Int))) (fun pre ρ => ∃ y4 y5 y6, shN y4 ∧ shN y5 ∧ shN y6 ∧ ρ = [s0, s1, some (.own (isD l)), some (.own (isD (pk p l pre.length))), y4, y5, y6]) (List.range n) [] [s0, s1, some (.own (isD l)), some (.own (.lst [])), none, none, none] (by
    rintro pre i post ρ hsp ⟨y4, y5, y6, h4, h5, h6, rfl⟩
    rw [List.nil_append] at hsp
    obtain ⟨rfl, hi⟩ := range_split hsp
    have hle : pre.length * p ≤ l.length := by rw [hl]; exact Nat.mul_le_mul_right p (by omega)
    have hc := cutD_mid l (pre.length * p) (pre.length * p + p) hle
    rw [Nat.add_sub_cancel_left] at hc
    obtain ⟨z, hz, ei⟩ := in_loop s0 s1 (some (.own (isD l))) (some (.own (isD (pk p l pre.length)))) (some (.sh (.int (0 + (pre.length : Int) * (p : Int))))) ((l.drop (pre.length * p)).take p) y6 h6
    refine ⟨[s0, s1, some (.own (isD l)), some (.own (isD (pk p l (pre.length + 1)))), some (.sh (.int (0 + (pre.length : Int) * (p : Int)))), some (.sh (iD (val ((l.drop (pre.length * p)).take p)))), z], ?_, some (.sh (.int (0 + (pre.length : Int) * (p : Int)))), some (.sh (iD (val ((l.drop (pre.length * p)).take p)))), z, shN_sh _, shN_sh _, hz, by simp⟩
    have hc' : cutD (l.map iD) (some (0 + (pre.length : Int) * (p : Int))) (some (0 + (pre.length : Int) * (p : Int) + (p : Int))) = ((l.drop (pre.length * p)).take p).map iD := by
      rw [← hc]
      congr 2 <;> simp
    have hlt : pre.length < sizeLine := by omega
    rw [pk_snoc]
    simp only [Int.zero_add] at hc' ei ⊢
    have hpl := pk_len p l pre.length
    generalize (l.drop (pre.length * p)).take p = c at *
    rcases h4 with rfl | ⟨d4, rfl⟩ <;> rcases h5 with rfl | ⟨d5, rfl⟩ <;> simp [hP, dSl, hc', ei, hpl, hlt]) ⟨none, none, none, shN_no, shN_no, shN_no, rfl⟩
  rw [List.nil_append, List.length_range] at e
  exact ⟨y4, y5, y6, e⟩
theorem rep_snoc (bs : List Nat) (j : Nat) : (bs ++ 1 :: List.replicate j 0) ++ [0] = bs ++ 1 :: List.replicate (j + 1) 0 := by
  rw [List.append_assoc, List.cons_append, ← List.replicate_succ']
noncomputable abbrev lpC : S → R (Bool × S) := tstV (eOp2 (dI fun i j => .bl (decide (j < i))) (eOp2 (dIc (fun _ j => 0 < j) fun i j => i % j) (eCB dLen (hCons (eVar 2) (hNil))) (eVar 1)) (eK (.int 0)))
theorem lp_test (s0 : Option Sl) (L : List Nat) (p : Nat) (hp : 1 ≤ p) : lpC [s0, some (.sh (iD p)), some (.own (isD L)), none, none, none, none] = .ok (decide (0 < L.length % p), [s0, some (.sh (iD p)), some (.own (isD L)), none, none, none, none]) := by
  have c1 : dIc (fun _ j => 0 < j) (fun i j => i % j) (.int (L.length : Int)) (.int (p : Int)) = some (.im (.int ((L.length % p : Nat) : Int))) := by
    have c0 : dIc (fun _ j => 0 < j) (fun i j => i % j) (.int (L.length : Int)) (.int (p : Int)) = some (.im (.int ((L.length : Int) % (p : Int)))) := dIc_ok (show (0 : Int) < p by omega)
    rw [c0]; simp
  have c2 : decide ((0 : Int) < ((L.length % p : Nat) : Int)) = decide (0 < L.length % p) := by
    rw [decide_eq_decide]; omega
  simp [c1, -Int.natCast_emod, c2]
theorem lp_body (s0 s1 : Option Sl) (L : List Nat) (h : L.length < sizeLine) : sDrop (eAppend 2 (eK (.int 0))) [s0, s1, some (.own (isD L)), none, none, none, none] = .ok (.nx, [s0, s1, some (.own (isD (L ++ [0]))), none, none, none, none]) := by
  simp [h, iD]
theorem law_packed_ok (K : PySem.W.Frag) (p : Nat) (bs : List Nat) (hp : 1 ≤ p) (hp6 : p ≤ 6) (hl : bs.length ≤ 10000) : F__law_packed K [isD bs, iD p] = .ok (isD (pack p bs), []) := by
  have hs := sl
  have hk := padK_lt hp (bs.length + 1)
  obtain ⟨ρ', ew, hρ⟩ := sWhile_rel (c := lpC) (b := sDrop (eAppend 2 (eK (.int 0))))
    (fun m ρ => ∃ j, j ≤ padK p (bs.length + 1) ∧ m = padK p (bs.length + 1) - j ∧ ρ = [some (.sh (isD bs)), some (.sh (iD p)), some (.own (isD (bs ++ 1 :: List.replicate j 0))), none, none, none, none])
    (fun ρ => ρ = [some (.sh (isD bs)), some (.sh (iD p)), some (.own (isD (filled p bs))), none, none, none, none]) (by
      rintro m ρ ⟨j, hj, rfl, rfl⟩
      have hlen : (bs ++ 1 :: List.replicate j 0).length = bs.length + 1 + j := by simp; omega
      have ht := lp_test (some (.sh (isD bs))) (bs ++ 1 :: List.replicate j 0) p hp
      rw [hlen] at ht
      by_cases hz : (bs.length + 1 + j) % p = 0
      · left
        have : j = padK p (bs.length + 1) := pad_uniq hp _ _ _ (by omega) hk hz (padK_eq hp _)
        subst this
        rw [decide_eq_false (by omega)] at ht
        exact ⟨_, ht, rfl⟩
      · right
        rw [decide_eq_true (by omega)] at ht
        have hb := lp_body (some (.sh (isD bs))) (some (.sh (iD p))) (bs ++ 1 :: List.replicate j 0) (by rw [hlen]; omega)
        rw [rep_snoc] at hb
        have hne : j ≠ padK p (bs.length + 1) := fun z => hz (by rw [z]; exact padK_eq hp _)
        exact ⟨_, _, padK p (bs.length + 1) - (j + 1), ht, hb, by omega, j + 1, by omega, rfl, rfl⟩) 8000 (padK p (bs.length + 1)) [some (.sh (isD bs)), some (.sh (iD p)), some (.own (isD (bs ++ [1]))), none, none, none, none] (by omega) ⟨0, by omega, by omega, rfl⟩
  subst hρ
  have hfl := filled_len hp bs
  have hm := many_le hp bs
  have hmul : many p bs * p ≤ (bs.length + 1) * 6 := Nat.mul_le_mul hm hp6
  obtain ⟨y4, y5, y6, el⟩ := pk_loop (eVar 1) p (many p bs) (filled p bs) hfl (by omega) (some (.sh (isD bs))) (some (.sh (iD p))) (fun _ _ _ _ _ => by simp)
  have rg := rng_ok (many p bs) p hp hp6 (by omega)
  have rs : (Builtin.Range.rangeSize 0 ((filled p bs).length : Int) (p : Int)).toNat = many p bs := by rw [hfl, rng_size _ _ hp hp6]; simp
  have it3 : ∀ ρ : S, ρ = [some (.sh (isD bs)), some (.sh (iD p)), some (.own (isD (filled p bs))), some (.own (.lst [])), none, none, none] → itRng3 (aCons (eV (eK (.int 0))) (aCons (eV (eCB dLen (hCons (eVar 2) (hNil)))) (aCons (eV (eVar 1)) (aNil)))) ρ = .ok (rngC 0 (p : Int) (many p bs), ρ) := by
    intro ρ hρ
    rw [← hfl] at rg
    rw [hρ]
    simp [itRng3, rs, rg]
  have it4 := it3 _ rfl
  have e0 : dAdd (isD bs) (.lst [.int 1]) = some (.nw (isD (bs ++ [1]))) := by
    have : bs.length + 1 ≤ sizeLine := by omega
    simp [this, iD]
  unfold pack
  have h1 : 1 ≤ sizeLine := by omega
  generalize pk p (filled p bs) (many p bs) = L3 at *
  generalize filled p bs = L2 at *
  generalize bs ++ [1] = L1 at *
  simp [h1, F__law_packed, B__law_packed, e0, -dAdd, ew, it4, el]
end LW
set_option Elab.async false
set_option linter.all false
set_option maxRecDepth 100000
set_option maxHeartbeats 400000
namespace LW
open PySem L2 BR
theorem seq_step {s t : SF} {ρ ρ' : S} (h : s ρ = .ok (.nx, ρ')) : sSeq s t ρ = t ρ' := by
  rw [sSeq, h]
  rfl
noncomputable abbrev pa1 (K : PySem.W.Frag) : SF := sDrop (eCall false (F_want_rate K) (mSh (eVar 0) (mNil)))
noncomputable abbrev pa2 (K : PySem.W.Frag) : SF := sDrop (eCall false (F_want_bits K) (mSh (eVar 1) (mNil)))
noncomputable abbrev pa3 (K : PySem.W.Frag) : SF := sAsg 2 (eOp2 dAdd (eCB dList (hCons (eVar 1) (hNil))) (eLst (aCons (eV (eK (.int 1))) (aNil))))
noncomputable abbrev pa4 (K : PySem.W.Frag) : SF := sAsg 2 (eOp2 dAdd (eVar 2) (eOp2 dMulI (eLst (aCons (eV (eK (.int 0))) (aNil))) (eOp2 (dIc (fun _ j => 0 < j) fun i j => i % j) (eOp1 dNeg (eCB dLen (hCons (eVar 2) (hNil)))) (eProp (He.ga K "Rate") false (F_Rate_p K) (eVar 0)))))
noncomputable abbrev pa5 (K : PySem.W.Frag) : SF := sAsg 3 (eLst (aNil))
noncomputable abbrev pa6 (K : PySem.W.Frag) : SF := sFor (itRng3 (aCons (eV (eK (.int 0))) (aCons (eV (eCB dLen (hCons (eVar 2) (hNil)))) (aCons (eV (eProp (He.ga K "Rate") false (F_Rate_p K) (eVar 0))) (aNil))))) (gVar 4) (sSeq (sAsg 5 (eK (.int 0))) (sSeq (sFor (itSeq (eSl (eVar 2) (oSome (eVar 4)) (oSome (eOp2 dAdd (eVar 4) (eProp (He.ga K "Rate") false (F_Rate_p K) (eVar 0)))))) (gVar 6) (sAsg 5 (eOp2 dAdd (eOp2 dMulI (eK (.int 2)) (eVar 5)) (eVar 6)))) (sDrop (eAppend 3 (eVar 5)))))
noncomputable abbrev pa7 (K : PySem.W.Frag) : SF := sRet (eVar 3)
theorem pa_all (K : PySem.W.Frag) : B_packed K = sSeq (pa1 K) ( sSeq (pa2 K) ( sSeq (pa3 K) ( sSeq (pa4 K) ( sSeq (pa5 K) ( sSeq (pa6 K) (pa7 K)))))) := rfl
noncomputable abbrev un1 (K : PySem.W.Frag) : SF := sDrop (eCall false (F_want_rate K) (mSh (eVar 0) (mNil)))
noncomputable abbrev un2 (K : PySem.W.Frag) : SF := sIf (tOrF (tNotF (tstV (eCall false (F_is_list K) (mSh (eVar 1) (mNil))))) (tNotF (tstV (eChain (fun i j => decide (i ≤ j)) (fun i j => decide (i ≤ j)) (eK (.int 1)) (eCB dLen (hCons (eVar 1) (hNil))) (eK (.int 1200)))))) (sRaise (He.ga K "InvalidText") "position" (aCons (eV (eK .non)) (aNil))) (sNil)
noncomputable abbrev un3 (K : PySem.W.Frag) : SF := sFor (itEnumB (aCons (eV (eVar 1)) (aNil))) (gTupF 2 (gsCons (gVar 2) (gsCons (gVar 3) (gsNil)))) (sIf (tNotF (tstV (eCall false (F_is_word_of K) (mSh (eVar 0) (mSh (eVar 3) (mNil)))))) (sRaise (He.ga K "InvalidText") "position" (aCons (eV (eVar 2)) (aNil))) (sNil))
noncomputable abbrev un4 (K : PySem.W.Frag) : SF := sIf (tstV (eOp2 dEq (eOp2 dIx (eVar 1) (eOp1 dNeg (eK (.int 1)))) (eK (.int 0)))) (sRaise (He.ga K "InvalidText") "position" (aCons (eV (eOp2 (dI fun i j => .int (i - j)) (eCB dLen (hCons (eVar 1) (hNil))) (eK (.int 1)))) (aNil))) (sNil)
noncomputable abbrev un5 (K : PySem.W.Frag) : SF := sAsg 4 (eLst (aNil))
noncomputable abbrev un6 (K : PySem.W.Frag) : SF := sFor (itSeqB (eVar 1)) (gVar 3) (sDrop (eExtend 4 (eLc [5] (itRng3 (aCons (eV (eOp2 (dI fun i j => .int (i - j)) (eProp (He.ga K "Rate") false (F_Rate_p K) (eVar 0)) (eK (.int 1)))) (aCons (eV (eOp1 dNeg (eK (.int 1)))) (aCons (eV (eOp1 dNeg (eK (.int 1)))) (aNil))))) (gVar 5) pYes (eOp2 (dI fun i j => .int (Builtin.bitAnd i j)) (eOp2 (dIc (fun _ j => 0 ≤ j) fun i j => i / 2 ^ j.toNat) (eVar 3) (eVar 5)) (eK (.int 1))))))
noncomputable abbrev un7 (K : PySem.W.Frag) : SF := sWhile (tstV (eOp2 dEq (eOp2 dIx (eVar 4) (eOp1 dNeg (eK (.int 1)))) (eK (.int 0)))) (sDrop (ePop 4)) 8000
noncomputable abbrev un8 (K : PySem.W.Frag) : SF := sRet (eSl (eVar 4) (oNone) (oSome (eOp1 dNeg (eK (.int 1)))))
theorem un_all (K : PySem.W.Frag) : B_unpacked K = sSeq (un1 K) ( sSeq (un2 K) ( sSeq (un3 K) ( sSeq (un4 K) ( sSeq (un5 K) ( sSeq (un6 K) ( sSeq (un7 K) (un8 K))))))) := rfl
noncomputable abbrev br1 (K : PySem.W.Frag) : SF := sAsg 3 (eCall false (F__law_pick K) (mIo (eVar 0) (mSh (eLst (aCons (eV (eK (.int 0))) (aCons (eV (eK (.int 1))) (aCons (eV (eK (.int 2))) (aCons (eV (eOp2 (dI fun i j => .int (i - j)) (eVar 1) (eK (.int 1)))) (aCons (eV (eVar 1)) (aCons (eV (eCall false (F__law_draw K) (mIo (eVar 0) (mSh (eK (.int 40)) (mNil))))) (aCons (eV (eCall false (F__law_draw K) (mIo (eVar 0) (mSh (eK (.int 40)) (mNil))))) (aCons (eV (eOp2 dAdd (eK (.int 990)) (eCall false (F__law_draw K) (mIo (eVar 0) (mSh (eK (.int 11)) (mNil)))))) (aNil)))))))))) (mNil))))
noncomputable abbrev br2 (K : PySem.W.Frag) : SF := sAsg 4 (eLc [5] (itRng1 (aCons (eV (eVar 3)) (aNil))) (gVar 5) pYes (eCall false (F__law_draw K) (mIo (eVar 0) (mSh (eK (.int 2)) (mNil)))))
noncomputable abbrev br3 (K : PySem.W.Frag) : SF := sPar [6, 7] (pCons (eCall true (F__law_packed K) (mSh (eVar 4) (mSh (eVar 1) (mNil)))) (pCons (eCB dList (hCons (eVar 4) (hNil))) (pNil)))
noncomputable abbrev br4 (K : PySem.W.Frag) : SF := sAsg 8 (eLstT (tCons (eCall true (F_packed K) (mSh (eVar 2) (mSh (eVar 4) (mNil)))) (tCons (eCall true (F_packed K) (mSh (eVar 2) (mSh (eTupOf (hCons (eVar 4) (hNil))) (mNil)))) (tCons (eCallSw true (F_packed K) (aCons (eV (eVar 4)) (aCons (eV (eVar 2)) (aNil)))) (tNil)))))
noncomputable abbrev br5 (K : PySem.W.Frag) : SF := sIf (tOrF (tstV (eOp2 dNe (eCBq qRepr (eVar 8)) (eCB dRepr (hCons (eLst (aCons (eV (eVar 6)) (aCons (eV (eVar 6)) (aCons (eV (eVar 6)) (aNil))))) (hNil))))) (tstV (eOp2 dNe (eVar 4) (eVar 7)))) (sRet (eK (.bl false))) (sNil)
noncomputable abbrev br6 (K : PySem.W.Frag) : SF := sAppT (eIxT (eVar 8) (eK (.int 0))) (eK (.int 9))
noncomputable abbrev br7 (K : PySem.W.Frag) : SF := sAsg 9 (eLstT (tCons (eCall true (F_unpacked K) (mSh (eVar 2) (mSh (eVar 6) (mNil)))) (tCons (eCallSw true (F_unpacked K) (aCons (eV (eTupOf (hCons (eVar 6) (hNil)))) (aCons (eV (eVar 2)) (aNil)))) (tNil))))
noncomputable abbrev br8 (K : PySem.W.Frag) : SF := sIf (tOrF (tstV (eOp2 dNe (eCBq qRepr (eVar 9)) (eCB dRepr (hCons (eLst (aCons (eV (eVar 4)) (aCons (eV (eVar 4)) (aNil)))) (hNil))))) (tstV (eOp2 dNe (eCB dRepr (hCons (eCall true (F_packed K) (mSh (eVar 2) (mSh (eVar 4) (mNil)))) (hNil))) (eCB dRepr (hCons (eVar 6) (hNil)))))) (sRet (eK (.bl false))) (sNil)
noncomputable abbrev br9 (K : PySem.W.Frag) : SF := sAppT (eIxT (eVar 9) (eK (.int 0))) (eK (.int 1))
noncomputable abbrev br10 (K : PySem.W.Frag) : SF := sRet (eOp2 dEq (eCB dRepr (hCons (eCall true (F_unpacked K) (mSh (eVar 2) (mSh (eVar 6) (mNil)))) (hNil))) (eCB dRepr (hCons (eVar 7) (hNil))))
theorem br_all (K : PySem.W.Frag) : B__law_both_right K = sSeq (br1 K) ( sSeq (br2 K) ( sSeq (br3 K) ( sSeq (br4 K) ( sSeq (br5 K) ( sSeq (br6 K) ( sSeq (br7 K) ( sSeq (br8 K) ( sSeq (br9 K) (br10 K))))))))) := rfl
noncomputable abbrev tr1 (K : PySem.W.Frag) : SF := sAsg 3 (eCall false (F__law_pick K) (mIo (eVar 0) (mSh (eLst (aCons (eV (eK (.int 1))) (aCons (eV (eK (.int 2))) (aCons (eV (eOp2 dAdd (eK (.int 1)) (eCall false (F__law_draw K) (mIo (eVar 0) (mSh (eK (.int 30)) (mNil)))))) (aCons (eV (eOp2 dAdd (eK (.int 1)) (eCall false (F__law_draw K) (mIo (eVar 0) (mSh (eK (.int 30)) (mNil)))))) (aCons (eV (eOp2 dAdd (eK (.int 1)) (eCall false (F__law_draw K) (mIo (eVar 0) (mSh (eK (.int 30)) (mNil)))))) (aCons (eV (eK (.int 1200))) (aNil)))))))) (mNil))))
noncomputable abbrev tr2 (K : PySem.W.Frag) : SF := sAsg 4 (eLc [5] (itRng1 (aCons (eV (eVar 3)) (aNil))) (gVar 5) pYes (eCall false (F__law_draw K) (mIo (eVar 0) (mSh (eOp2 (dIc CPow fun i j => i * 2 ^ j.toNat) (eK (.int 1)) (eVar 1)) (mNil)))))
noncomputable abbrev tr3 (K : PySem.W.Frag) : SF := sIf (tstV (eOp2 dEq (eCall false (F__law_draw K) (mIo (eVar 0) (mSh (eK (.int 3)) (mNil)))) (eK (.int 0)))) (sSetL 4 (eOp1 dNeg (eK (.int 1))) (eCall false (F__law_pick K) (mIo (eVar 0) (mSh (eLst (aCons (eV (eK (.int 0))) (aCons (eV (eK (.int 1))) (aCons (eV (eOp2 (dI fun i j => .int (i - j)) (eOp2 (dIc CPow fun i j => i * 2 ^ j.toNat) (eK (.int 1)) (eVar 1)) (eK (.int 1)))) (aCons (eV (eOp2 (dIc CPow fun i j => i * 2 ^ j.toNat) (eK (.int 1)) (eOp2 (dI fun i j => .int (i - j)) (eVar 1) (eK (.int 1))))) (aNil)))))) (mNil))))) (sNil)
noncomputable abbrev tr4 (K : PySem.W.Frag) : SF := sIf (tstV (eOp2 dEq (eOp2 dIx (eVar 4) (eOp1 dNeg (eK (.int 1)))) (eK (.int 0)))) (sRet (eOp2 dEq (eFrz [2, 4] (eLam 3 (B__law_told K) (eCall true (F_unpacked K) (mSh (eVar 2) (mSh (eVar 4) (mNil)))))) (eLst (aCons (eV (eK (.str "words"))) (aCons (eV (eOp2 (dI fun i j => .int (i - j)) (eVar 3) (eK (.int 1)))) (aCons (eV (eK (.bl true))) (aNil))))))) (sNil)
noncomputable abbrev tr5 (K : PySem.W.Frag) : SF := sAsg 6 (eCall true (F__law_unpacked K) (mSh (eVar 4) (mSh (eVar 1) (mNil))))
noncomputable abbrev tr6 (K : PySem.W.Frag) : SF := sIf (tstV (eOp2 dNe (eCB dRepr (hCons (eCall true (F_unpacked K) (mSh (eVar 2) (mSh (eVar 4) (mNil)))) (hNil))) (eCB dRepr (hCons (eVar 6) (hNil))))) (sRet (eK (.bl false))) (sNil)
noncomputable abbrev tr7 (K : PySem.W.Frag) : SF := sRet (eOr (eOp2 (dI fun i j => .bl (decide (j < i))) (eCB dLen (hCons (eVar 6) (hNil))) (eK (.int 1000))) (eOp2 dEq (eCB dRepr (hCons (eCall true (F_packed K) (mSh (eVar 2) (mSh (eVar 6) (mNil)))) (hNil))) (eCB dRepr (hCons (eVar 4) (hNil)))))
theorem tr_all (K : PySem.W.Frag) : B__law_texts_right K = sSeq (tr1 K) ( sSeq (tr2 K) ( sSeq (tr3 K) ( sSeq (tr4 K) ( sSeq (tr5 K) ( sSeq (tr6 K) (tr7 K)))))) := rfl
noncomputable abbrev rf1 (K : PySem.W.Frag) : SF := sAsg 3 (eCall false (F__law_pick K) (mIo (eVar 0) (mSh (eLst (aCons (eV (eK .non)) (aCons (eV (eK (.int 0))) (aCons (eV (eTup (aCons (eV (eVar 1)) (aCons (eV (eVar 1)) (aNil))))) (aCons (eV (eK (.str "1:1"))) (aCons (eV (eLst (aNil))) (aCons (eV (eK (.bl true))) (aNil)))))))) (mNil))))
noncomputable abbrev rf2 (K : PySem.W.Frag) : SF := sPar [4, 5] (pCons (eOp2 (dIc CPow fun i j => i * 2 ^ j.toNat) (eK (.int 1)) (eVar 1)) (pCons (eLc [6] (itRng1 (aCons (eV (eK (.int 4))) (aNil))) (gVar 6) pYes (eCall false (F__law_draw K) (mIo (eVar 0) (mSh (eK (.int 2)) (mNil))))) (pNil)))
noncomputable abbrev rf3 (K : PySem.W.Frag) : SF := sAsg 7 (eCall false (F__law_draw K) (mIo (eVar 0) (mSh (eK (.int 5)) (mNil))))
noncomputable abbrev rf4 (K : PySem.W.Frag) : SF := sAsg 8 (eCall false (F__law_pick K) (mIo (eVar 0) (mSh (eLst (aCons (eV (eK (.int 2))) (aCons (eV (eOp1 dNeg (eK (.int 1)))) (aCons (eV (eK (.bl true))) (aCons (eV (eK (.bl false))) (aCons (eV (eK .non)) (aCons (eV (eK (.str "1"))) (aCons (eV (eLst (aCons (eV (eK (.int 1))) (aNil)))) (aCons (eV (eOp2 (dIc CPow fun i j => i ^ j.toNat) (eK (.int 10)) (eK (.int 30)))) (aNil)))))))))) (mNil))))
noncomputable abbrev rf5 (K : PySem.W.Frag) : SF := sAsg 9 (eOp2 dAdd (eOp2 dAdd (eOp2 dAdd (eSl (eVar 5) (oNone) (oSome (eVar 7))) (eLst (aCons (eV (eVar 8)) (aNil)))) (eSl (eVar 5) (oSome (eVar 7)) (oNone))) (eLst (aCons (eV (eK (.int 7))) (aCons (eV (eK .non)) (aNil)))))
noncomputable abbrev rf6 (K : PySem.W.Frag) : SF := sAsg 10 (eCall false (F__law_pick K) (mIo (eVar 0) (mSh (eLst (aCons (eV (eK .non)) (aCons (eV (eK (.int 0))) (aCons (eV (eK (.str ""))) (aCons (eV (eK (.str "01"))) (aCons (eV (eDic0)) (aCons (eV (eDic1 (.int 0) (.int 1))) (aCons (eV (eK (.bl true))) (aCons (eV (eOp2 dMulI (eLst (aCons (eV (eK (.int 0))) (aNil))) (eK (.int 1001)))) (aCons (eV (eRepT (eTup (aCons (eV (eK (.int 1))) (aNil))) (eK (.int 1001)))) (aCons (eV (eK (.int 1))) (aNil)))))))))))) (mNil))))
noncomputable abbrev rf7 (K : PySem.W.Frag) : SF := sAsg 11 (eLst (aCons (eV (eFrz [3, 10] (eLam 3 (B__law_told K) (eCall true (F_packed K) (mSh (eVar 3) (mSh (eVar 10) (mNil))))))) (aNil)))
noncomputable abbrev rf8 (K : PySem.W.Frag) : SF := sDrop (eAppend 11 (eFrz [2, 10] (eLam 3 (B__law_told K) (eCall true (F_packed K) (mSh (eVar 2) (mSh (eVar 10) (mNil)))))))
noncomputable abbrev rf9 (K : PySem.W.Frag) : SF := sDrop (eAppend 11 (eFrz [2, 9] (eLam 3 (B__law_told K) (eCall true (F_packed K) (mSh (eVar 2) (mSh (eVar 9) (mNil)))))))
noncomputable abbrev rf10 (K : PySem.W.Frag) : SF := sDrop (eAppend 11 (eFrz [2] (eLam 3 (B__law_told K) (eCall true (F_packed K) (mSh (eVar 2) (mSh (eOp2 dMulI (eLst (aCons (eV (eK (.int 0))) (aNil))) (eK (.int 1000))) (mNil)))))))
noncomputable abbrev rf11 (K : PySem.W.Frag) : SF := sAsg 8 (eCall false (F__law_pick K) (mIo (eVar 0) (mSh (eLst (aCons (eV (eVar 4)) (aCons (eV (eOp1 dNeg (eK (.int 1)))) (aCons (eV (eK (.bl true))) (aCons (eV (eK (.bl false))) (aCons (eV (eK .non)) (aCons (eV (eK (.str "1"))) (aCons (eV (eLst (aCons (eV (eK (.int 1))) (aNil)))) (aCons (eV (eOp2 (dIc CPow fun i j => i ^ j.toNat) (eK (.int 10)) (eK (.int 30)))) (aNil)))))))))) (mNil))))
noncomputable abbrev rf12 (K : PySem.W.Frag) : SF := sAsg 12 (eOp2 dAdd (eOp2 dAdd (eOp2 dAdd (eSl (eVar 5) (oNone) (oSome (eVar 7))) (eLst (aCons (eV (eVar 8)) (aNil)))) (eSl (eVar 5) (oSome (eVar 7)) (oNone))) (eLst (aCons (eV (eOp1 dNeg (eK (.int 1)))) (aNil))))
noncomputable abbrev rf13 (K : PySem.W.Frag) : SF := sAsg 13 (eCall false (F__law_pick K) (mIo (eVar 0) (mSh (eLst (aCons (eV (eK .non)) (aCons (eV (eK (.int 0))) (aCons (eV (eK (.str ""))) (aCons (eV (eK (.str "01"))) (aCons (eV (eDic0)) (aCons (eV (eLst (aNil))) (aCons (eV (eTup (aNil))) (aCons (eV (eK (.bl true))) (aCons (eV (eOp2 dMulI (eLst (aCons (eV (eK (.int 1))) (aNil))) (eK (.int 1201)))) (aCons (eV (eK (.int 1))) (aNil)))))))))))) (mNil))))
noncomputable abbrev rf14 (K : PySem.W.Frag) : SF := sDrop (eAppend 11 (eFrz [3, 13] (eLam 3 (B__law_told K) (eCall true (F_unpacked K) (mSh (eVar 3) (mSh (eVar 13) (mNil)))))))
noncomputable abbrev rf15 (K : PySem.W.Frag) : SF := sDrop (eAppend 11 (eFrz [2, 13] (eLam 3 (B__law_told K) (eCall true (F_unpacked K) (mSh (eVar 2) (mSh (eVar 13) (mNil)))))))
noncomputable abbrev rf16 (K : PySem.W.Frag) : SF := sDrop (eAppend 11 (eFrz [2, 12] (eLam 3 (B__law_told K) (eCall true (F_unpacked K) (mSh (eVar 2) (mSh (eVar 12) (mNil)))))))
noncomputable abbrev rf17 (K : PySem.W.Frag) : SF := sDrop (eAppend 11 (eFrz [2, 5] (eLam 3 (B__law_told K) (eCall true (F_unpacked K) (mSh (eVar 2) (mSh (eOp2 dAdd (eVar 5) (eLst (aCons (eV (eK (.int 0))) (aNil)))) (mNil)))))))
noncomputable abbrev rf18 (K : PySem.W.Frag) : SF := sAsg 14 (eLst (aCons (eV (eLst (aCons (eV (eK (.str "pace"))) (aCons (eV (eVar 3)) (aCons (eV (eK (.bl true))) (aNil)))))) (aCons (eV (eLst (aCons (eV (eK (.str "bits"))) (aCons (eV (eK .non)) (aCons (eV (eK (.bl true))) (aNil)))))) (aCons (eV (eLst (aCons (eV (eK (.str "bits"))) (aCons (eV (eVar 7)) (aCons (eV (eK (.bl true))) (aNil)))))) (aCons (eV (eLst (aCons (eV (eK (.str "let"))) (aNil)))) (aNil))))))
noncomputable abbrev rf19 (K : PySem.W.Frag) : SF := sAsg 14 (eOp2 dAdd (eVar 14) (eLst (aCons (eV (eLst (aCons (eV (eK (.str "pace"))) (aCons (eV (eVar 3)) (aCons (eV (eK (.bl true))) (aNil)))))) (aCons (eV (eLst (aCons (eV (eK (.str "words"))) (aCons (eV (eK .non)) (aCons (eV (eK (.bl true))) (aNil)))))) (aCons (eV (eLst (aCons (eV (eK (.str "words"))) (aCons (eV (eVar 7)) (aCons (eV (eK (.bl true))) (aNil)))))) (aCons (eV (eLst (aCons (eV (eK (.str "words"))) (aCons (eV (eK (.int 4))) (aCons (eV (eK (.bl true))) (aNil)))))) (aNil)))))))
noncomputable abbrev rf20 (K : PySem.W.Frag) : SF := sRet (eOp2 dEq (eCB dRepr (hCons (eVar 11) (hNil))) (eCB dRepr (hCons (eVar 14) (hNil))))
theorem rf_all (K : PySem.W.Frag) : B__law_refused K = sSeq (rf1 K) ( sSeq (rf2 K) ( sSeq (rf3 K) ( sSeq (rf4 K) ( sSeq (rf5 K) ( sSeq (rf6 K) ( sSeq (rf7 K) ( sSeq (rf8 K) ( sSeq (rf9 K) ( sSeq (rf10 K) ( sSeq (rf11 K) ( sSeq (rf12 K) ( sSeq (rf13 K) ( sSeq (rf14 K) ( sSeq (rf15 K) ( sSeq (rf16 K) ( sSeq (rf17 K) ( sSeq (rf18 K) ( sSeq (rf19 K) (rf20 K))))))))))))))))))) := rfl
end LW
set_option Elab.async false
set_option linter.all false
set_option maxRecDepth 100000
set_option maxHeartbeats 1000000
namespace LW
open PySem L2 BR
/-! ### packed -/
theorem neg_len (L p : Nat) (hp : 1 ≤ p) : dIc (fun _ j => 0 < j) (fun i j => i % j) (.int (-(L : Int))) (.int (p : Int)) = some (.im (.int (padK p L : Int))) := by
  have c0 : dIc (fun _ j => 0 < j) (fun i j => i % j) (.int (-(L : Int))) (.int (p : Int)) = some (.im (.int (-(L : Int) % (p : Int)))) := dIc_ok (show (0 : Int) < p by omega)
  rw [c0, pad_int hp]
theorem dMulI_rep (a : List D) (n : Int) (h : -(2 ^ 63) ≤ n ∧ n < 2 ^ 63 ∧ a.length * n.toNat ≤ sizeLine) : dMulI (.lst a) (.int n) = some (.nw (.lst (List.replicate n.toNat a).flatten)) := by
  unfold dMulI
  exact if_pos h
theorem in63 (k : Nat) (h : k ≤ 100000) : -(2 ^ 63) ≤ (k : Int) ∧ (k : Int) < 2 ^ 63 := by
  have h1 : (k : Int) ≤ 100000 := by omega
  have h2 : (0 : Int) ≤ (k : Int) := by omega
  have h3 : (100000 : Int) < 2 ^ 63 := by decide
  have h4 : -(2 ^ 63) ≤ (0 : Int) := by decide
  exact ⟨Int.le_trans h4 h2, Int.lt_of_le_of_lt h1 h3⟩
theorem reps (x : Nat) (k : Nat) (h : k ≤ 100000) : dMulI (.lst [iD x]) (.int (k : Int)) = some (.nw (isD (List.replicate k x))) := by
  have hs := sl
  have e : (List.replicate k [iD x]).flatten = (List.replicate k x).map iD := by
    clear h
    induction k with
    | zero => rfl
    | succ k ih => rw [List.replicate_succ, List.flatten_cons, ih, List.replicate_succ, List.map_cons]; rfl
  have h3 := in63 k h
  rw [dMulI_rep [iD x] (k : Int) ⟨h3.1, h3.2, by simp; omega⟩, Int.toNat_natCast, e]
theorem goodBits {bs : List Nat} (h : Bits bs) : ∀ x ∈ bs.map iD, goodBit x := by
  intro x hx
  obtain ⟨b, hb, rfl⟩ := List.mem_map.mp hx
  exact ⟨b, h b hb, rfl⟩
section
variable {g : D → D → Option Rz} {g1 : D → Option Rz} {fa fb : EF} {ρ ρ1 ρ2 ρ3 : S} {h1 h2 : Hd} {x y : D} {r : Rz} {z : R (Hd × S)} {i : Nat}
theorem e2_ok (a : fa ρ = .ok (h1, ρ1)) (b : fb ρ1 = .ok (h2, ρ2)) (lx : look h1 ρ2 = some x) (ly : look h2 ρ2 = some y) (e : g x y = some r) (f : fin r ρ2 = z) : eOp2 g fa fb ρ = z := by
  simp only [eOp2, a, ok_bind, b, lx, ly, e, ofO_some, f]
theorem e1_ok (a : fa ρ = .ok (h1, ρ1)) (lx : look h1 ρ1 = some x) (e : g1 x = some r) (f : fin r ρ1 = z) : eOp1 g1 fa ρ = z := by
  simp only [eOp1, a, ok_bind, lx, e, ofO_some, f]
theorem asg_ok (a : fa ρ = .ok (h1, ρ1)) (p : putS i h1 ρ1 = some ρ2) : sAsg i fa ρ = .ok (.nx, ρ2) := by
  simp only [sAsg, a, ok_bind, p, ofO_some]
end
section
variable (K : PySem.W.Frag) (p q : Nat) (d : D) (bs : List Nat) (hd : seqOf d = some (bs.map iD)) (hp : 1 ≤ p) (hp6 : p ≤ 6) (hl : bs.length ≤ 1000) (hb : Bits bs)
noncomputable abbrev ps (x2 x3 x4 x5 x6 : Option Sl) : S := [some (.sh (rateD K p q)), some (.sh d), x2, x3, x4, x5, x6]
theorem pk_P (x2 x3 x4 x5 x6 : Option Sl) : eProp (He.ga K "Rate") false (F_Rate_p K) (eVar 0) (ps K p q d x2 x3 x4 x5 x6) = .ok (.val (iD p), ps K p q d x2 x3 x4 x5 x6) := by
  have e3 := rate_p K p q
  have hF : hasF ["rate_bits", "rate_signs"] "p" = false := by decide
  simp [e3, hF, -hasF]
theorem pk_1 (x2 x3 x4 x5 x6 : Option Sl) : pa1 K (ps K p q d x2 x3 x4 x5 x6) = .ok (.nx, ps K p q d x2 x3 x4 x5 x6) := by
  have e1 := want_rate_ok K p q
  simp [e1]
include hd hl hb
theorem pk_2 (x2 x3 x4 x5 x6 : Option Sl) : pa2 K (ps K p q d x2 x3 x4 x5 x6) = .ok (.nx, ps K p q d x2 x3 x4 x5 x6) := by
  have e2 := want_bits_ok K d _ hd (by simpa using hl) (goodBits hb)
  simp [e2]
omit hb
theorem pk_3 : pa3 K (ps K p q d none none none none none) = .ok (.nx, ps K p q d (some (.own (isD (bs ++ [1])))) none none none none) := by
  have hs := sl
  have hdl : dList [d] = some (.nw (isD bs)) := by
    cases d <;> first | (cases hd; rfl) | cases hd
  have e5 : dAdd (isD bs) (.lst [.int 1]) = some (.nw (isD (bs ++ [1]))) := by
    have : bs.length + 1 ≤ sizeLine := by omega
    simp [this, iD]
  have h1 : 1 ≤ sizeLine := by omega
  generalize bs ++ [1] = L1 at *
  simp [hdl, e5, h1, -dAdd]
omit hd
include hp hp6
theorem pk_4 : pa4 K (ps K p q d (some (.own (isD (bs ++ [1])))) none none none none) = .ok (.nx, ps K p q d (some (.own (isD (filled p bs)))) none none none none) := by
  have hs := sl
  have hk := padK_lt hp (bs.length + 1)
  have e6 := neg_len (bs.length + 1) p hp
  have e7 : dMulI (.lst [.int 0]) (.int (padK p (bs.length + 1) : Int)) = _ := reps 0 (padK p (bs.length + 1)) (by omega)
  have e8 : dAdd (isD (bs ++ [1])) (isD (List.replicate (padK p (bs.length + 1)) 0)) = some (.nw (isD (filled p bs))) := by
    have : bs.length + 1 + padK p (bs.length + 1) ≤ sizeLine := by omega
    simp [this, filled, iD]
  have h1 : 1 ≤ sizeLine := by omega
  have hlen : (bs ++ [1]).length = bs.length + 1 := by simp
  have eL : eCB dLen (hCons (eVar 2) (hNil)) (ps K p q d (some (.own (isD (bs ++ [1])))) none none none none) = .ok (.val (.int ((bs.length + 1 : Nat) : Int)), ps K p q d (some (.own (isD (bs ++ [1])))) none none none none) := by
    rw [← hlen]
    generalize bs ++ [1] = L1
    simp
  have eZ : eLst (aCons (eV (eK (.int 0))) aNil) (ps K p q d (some (.own (isD (bs ++ [1])))) none none none none) = .ok (.tmp (.lst [.int 0]), ps K p q d (some (.own (isD (bs ++ [1])))) none none none none) := by
    simp [h1]
  have eP := pk_P K p q d (some (.own (isD (bs ++ [1])))) none none none none
  have eV2 : eVar 2 (ps K p q d (some (.own (isD (bs ++ [1])))) none none none none) = .ok (.slot 2, ps K p q d (some (.own (isD (bs ++ [1])))) none none none none) := by simp
  have lk : look (.slot 2) (ps K p q d (some (.own (isD (bs ++ [1])))) none none none none) = some (isD (bs ++ [1])) := by simp [-List.map_append]
  have pu : putS 2 (.tmp (isD (filled p bs))) (ps K p q d (some (.own (isD (bs ++ [1])))) none none none none) = some (ps K p q d (some (.own (isD (filled p bs)))) none none none none) := by
    generalize isD (filled p bs) = y
    simp
  have hn : dNeg (.int ((bs.length + 1 : Nat) : Int)) = some (.im (.int (-((bs.length + 1 : Nat) : Int)))) := rfl
  exact asg_ok (e2_ok eV2 (e2_ok eZ (e2_ok (e1_ok eL rfl hn rfl) eP rfl rfl e6 rfl) rfl rfl e7 rfl) lk rfl e8 rfl) pu
theorem pk_6 : ∃ y4 y5 y6, pa6 K (ps K p q d (some (.own (isD (filled p bs)))) (some (.own (.lst []))) none none none) = .ok (.nx, ps K p q d (some (.own (isD (filled p bs)))) (some (.own (isD (pack p bs)))) y4 y5 y6) := by
  have hs := sl
  have hfl := filled_len hp bs
  have hm := many_le hp bs
  have hmul : many p bs * p ≤ (bs.length + 1) * 6 := Nat.mul_le_mul hm hp6
  have rg := rng_ok (many p bs) p hp hp6 (by omega)
  have rs : (Builtin.Range.rangeSize 0 ((filled p bs).length : Int) (p : Int)).toNat = many p bs := by rw [hfl, rng_size _ _ hp hp6]; simp
  have hP := pk_P K p q d
  obtain ⟨y4, y5, y6, el⟩ := pk_loop (eProp (He.ga K "Rate") false (F_Rate_p K) (eVar 0)) p (many p bs) (filled p bs) hfl (by omega) (some (.sh (rateD K p q))) (some (.sh d)) hP
  have hP' := hP (some (.own (isD (filled p bs)))) (some (.own (.lst []))) none none none
  have it4 : itRng3 (aCons (eV (eK (.int 0))) (aCons (eV (eCB dLen (hCons (eVar 2) (hNil)))) (aCons (eV (eProp (He.ga K "Rate") false (F_Rate_p K) (eVar 0))) (aNil)))) (ps K p q d (some (.own (isD (filled p bs)))) (some (.own (.lst []))) none none none) = .ok (rngC 0 (p : Int) (many p bs), ps K p q d (some (.own (isD (filled p bs)))) (some (.own (.lst []))) none none none) := by
    rw [← hfl] at rg
    generalize filled p bs = L2 at *
    have e3 := rate_p K p q
    have hF : hasF ["rate_bits", "rate_signs"] "p" = false := by decide
    simp [itRng3, rs, rg, e3, hF, -hasF]
  refine ⟨y4, y5, y6, ?_⟩
  simp only [pa6, sFor, it4, ok_bind]
  exact el
omit hl hp hp6
theorem pk_7 (L : List Nat) (x2 x4 x5 x6 : Option Sl) : pa7 K (ps K p q d x2 (some (.own (isD L))) x4 x5 x6) = .ok (.rt (.slot 3), ps K p q d x2 (some (.own (isD L))) x4 x5 x6) := by
  simp
include hd hp hp6 hl hb
theorem packed_ok : F_packed K [rateD K p q, d] = .ok (isD (pack p bs), []) := by
  obtain ⟨y4, y5, y6, e6⟩ := pk_6 K p q d bs hp hp6 hl
  have e5 : pa5 K (ps K p q d (some (.own (isD (filled p bs)))) none none none none) = .ok (.nx, ps K p q d (some (.own (isD (filled p bs)))) (some (.own (.lst []))) none none none) := by
    have h0 : 0 ≤ sizeLine := Nat.zero_le _
    generalize isD (filled p bs) = L2
    simp
  have hB : B_packed K (ps K p q d none none none none none) = .ok (.rt (.slot 3), ps K p q d (some (.own (isD (filled p bs)))) (some (.own (isD (pack p bs)))) y4 y5 y6) := by
    rw [pa_all]
    exact (seq_step (pk_1 K p q d _ _ _ _ _)).trans ((seq_step (pk_2 K p q d bs hd hl hb _ _ _ _ _)).trans ((seq_step (pk_3 K p q d bs hd hl)).trans ((seq_step (pk_4 K p q d bs hp hp6 hl)).trans ((seq_step e5).trans ((seq_step e6).trans (pk_7 K p q d _ _ _ _ _))))))
  have hR : F_packed K [rateD K p q, d] = (B_packed K (ps K p q d none none none none none) >>= fun z => ofO (flH z.1) >>= fun h => ofO (finH true h z.2) >>= fun y => ofO (ioOut [false, false] 0 y.2) >>= fun o => .ok (y.1, o)) := rfl
  rw [hR, hB]
  generalize isD (pack p bs) = L3
  rfl
omit hd hp hp6 hl hb
/-- what is refused -/
theorem packed_rate (x : D) (h : plD x = true) : ∃ st, F_packed K [x, d] = .exc ⟨.ref (He.ga K "InvalidRate"), ["value"], [x], st⟩ := by
  obtain ⟨st, e⟩ := want_rate_no K x h
  exact ⟨_, by simp [F_packed, B_packed, e]; rfl⟩
theorem packed_bits (C : Addr) (f : Str) (x : D) (h : ∃ st, F_want_bits K [d] = .exc ⟨.ref C, [f], [x], st⟩) : ∃ st, F_packed K [rateD K p q, d] = .exc ⟨.ref C, [f], [x], st⟩ := by
  obtain ⟨st, e⟩ := h
  have e1 := want_rate_ok K p q
  exact ⟨_, by simp [F_packed, B_packed, e1, e]; rfl⟩
end
end LW
set_option Elab.async false
set_option linter.all false
set_option maxRecDepth 100000
set_option maxHeartbeats 1000000
namespace LW
open PySem L2 BR
theorem atI_last {α : Type} (l : List α) (x : α) : atI (l ++ [x]) (-1) = some x := by
  unfold atI ixN
  have h1 : ¬ (0 : Int) ≤ -1 := by decide
  rw [if_neg h1, List.length_append, List.length_singleton, if_pos (by omega)]
  have : (-1 + ((l.length + 1 : Nat) : Int)).toNat = l.length := by omega
  rw [this]
  simp
/-! ### words -/
def goodWord (p : Nat) (d : D) : Prop := ∃ w : Nat, w < 2 ^ p ∧ d = iD w
def badWord (p : Nat) (d : D) : Prop := plD d = true ∧ (isI d = false ∨ ∃ i : Int, d = .int i ∧ (i < 0 ∨ ((2 ^ p : Nat) : Int) ≤ i))
theorem is_word_good (K : PySem.W.Frag) (p q : Nat) (hp6 : p ≤ 6) (x : D) (h : goodWord p x) : F_is_word_of K [rateD K p q, x] = .ok (.bl true, []) := by
  obtain ⟨w, hw, rfl⟩ := h
  have e1 := is_count_int K (w : Int)
  rw [decide_eq_true (by omega)] at e1
  have e2 := rate_size K p q hp6
  have hF : hasF ["rate_bits", "rate_signs"] "size" = false := by decide
  have h3 : decide ((w : Int) < ((2 ^ p : Nat) : Int)) = true := decide_eq_true (by exact_mod_cast hw)
  generalize ((2 ^ p : Nat) : Int) = P at *
  simp [F_is_word_of, B_is_word_of, e1, e2, hF, -hasF, h3, -decide_eq_true_eq]
theorem is_word_bad (K : PySem.W.Frag) (p q : Nat) (hp6 : p ≤ 6) (x : D) (h : badWord p x) : F_is_word_of K [rateD K p q, x] = .ok (.bl false, []) := by
  obtain ⟨h1, h2⟩ := h
  have e2 := rate_size K p q hp6
  have hF : hasF ["rate_bits", "rate_signs"] "size" = false := by decide
  rcases h2 with h2 | ⟨i, rfl, h2⟩
  · have e1 := is_count_no K x h1 h2
    simp [F_is_word_of, B_is_word_of, e1]
  · have e1 := is_count_int K i
    by_cases h0 : 0 ≤ i
    · rw [decide_eq_true h0] at e1
      have h3 : decide (i < ((2 ^ p : Nat) : Int)) = false := decide_eq_false (by omega)
      generalize ((2 ^ p : Nat) : Int) = P at *
      simp [F_is_word_of, B_is_word_of, e1, e2, hF, -hasF, h3, -decide_eq_false_iff_not]
    · rw [decide_eq_false h0] at e1
      simp [F_is_word_of, B_is_word_of, e1]
noncomputable abbrev uwB (K : PySem.W.Frag) : SF := sIf (tNotF (tstV (eCall false (F_is_word_of K) (mSh (eVar 0) (mSh (eVar 3) (mNil)))))) (sRaise (He.ga K "InvalidText") "position" (aCons (eV (eVar 2)) (aNil))) (sNil)
abbrev uwG : D → S → Option S := gTupF 2 (gsCons (gVar 2) (gsCons (gVar 3) (gsNil)))
section
variable (K : PySem.W.Frag) (p q : Nat) (hp : 1 ≤ p) (hp6 : p ≤ 6) (d : D)
noncomputable abbrev us (x2 x3 x4 x5 : Option Sl) : S := [some (.sh (rateD K p q)), some (.sh d), x2, x3, x4, x5]
abbrev uwI (ρ : S) : Prop := ∃ x y, shN x ∧ shN y ∧ ρ = us K p q d x y none none
include hp6
theorem uw_turn (n : Nat) (x : D) (hx : goodWord p x) (ρ : S) (hi : uwI K p q d ρ) : ∃ ρ2, (ofO (uwG (pD (n, x)) ρ) >>= uwB K) = .ok (.nx, ρ2) ∧ uwI K p q d ρ2 := by
  obtain ⟨u, v, hu, hv, rfl⟩ := hi
  have e1 := is_word_good K p q hp6 x hx
  refine ⟨us K p q d (some (.sh (iD n))) (some (.sh x)) none none, ?_, _, _, shN_sh _, shN_sh _, rfl⟩
  rcases hu with rfl | ⟨d1, rfl⟩ <;> rcases hv with rfl | ⟨d2, rfl⟩ <;> simp [e1]
theorem uw_bad (n : Nat) (x : D) (hx : badWord p x) (ρ : S) (hi : uwI K p q d ρ) : ∃ e, (ofO (uwG (pD (n, x)) ρ) >>= uwB K) = .exc e ∧ ∃ st, e = ⟨.ref (He.ga K "InvalidText"), ["position"], [iD n], st⟩ := by
  obtain ⟨u, v, hu, hv, rfl⟩ := hi
  have e1 := is_word_bad K p q hp6 x hx
  refine ⟨_, ?_, us K p q d (some (.sh (iD n))) (some (.sh x)) none none, rfl⟩
  rcases hu with rfl | ⟨d1, rfl⟩ <;> rcases hv with rfl | ⟨d2, rfl⟩ <;> simp [e1]
omit hp6
theorem un_1 : un1 K (us K p q d none none none none) = .ok (.nx, us K p q d none none none none) := by
  have e1 := want_rate_ok K p q
  simp [e1]
theorem un_2 (ds : List D) (hd : seqOf d = some ds) (h1 : 1 ≤ ds.length) (h2 : ds.length ≤ 1200) : un2 K (us K p q d none none none none) = .ok (.nx, us K p q d none none none none) := by
  have a1 : (1 : Int) ≤ (ds.length : Int) := by omega
  have a2 : (ds.length : Int) ≤ 1200 := by omega
  cases d with
  | lst xs => cases hd; have e1 := is_list_pl K (.lst ds) rfl; simp [e1, isSeqD, a1, a2]
  | tup xs => cases hd; have e1 := is_list_pl K (.tup ds) rfl; simp [e1, isSeqD, a1, a2]
  | _ => cases hd
include hp6
theorem un_3 (ds : List D) (hd : seqOf d = some ds) (h : ∀ x ∈ ds, goodWord p x) : ∃ x y, shN x ∧ shN y ∧ un3 K (us K p q d none none none none) = .ok (.nx, us K p q d x y none none) := by
  obtain ⟨ρ', e, x, y, hx, hy, rfl⟩ := sForL_keep (g := uwG) (b := uwB K) pD (uwI K p q d) (enumP ds) (us K p q d none none none none) (fun z ρ hz hi => uw_turn K p q hp6 d z.1 z.2 (h _ (enumP_mem hz)) ρ hi) ⟨_, _, shN_no, shN_no, rfl⟩
  rw [← enums_P] at e
  refine ⟨x, y, hx, hy, ?_⟩
  cases d with
  | lst xs => cases hd; simp [e]
  | tup xs => cases hd; simp [e]
  | _ => cases hd
theorem un_3x (a : List D) (x : D) (b : List D) (hd : d = .lst (a ++ x :: b)) (h : ∀ y ∈ a, goodWord p y) (hx : badWord p x) : ∃ st, un3 K (us K p q d none none none none) = .exc ⟨.ref (He.ga K "InvalidText"), ["position"], [iD a.length], st⟩ := by
  obtain ⟨r, er⟩ := enumP_split a x b
  obtain ⟨e, he, st, rfl⟩ := sForL_exc (g := uwG) (b := uwB K) pD (uwI K p q d) (fun e => ∃ st, e = ⟨.ref (He.ga K "InvalidText"), ["position"], [iD a.length], st⟩) (enumP a) (a.length, x) (r.map pD) (us K p q d none none none none)
    (fun z ρ hz hi => uw_turn K p q hp6 d z.1 z.2 (h _ (enumP_mem hz)) ρ hi) (fun ρ hi => uw_bad K p q hp6 d a.length x hx ρ hi) ⟨_, _, shN_no, shN_no, rfl⟩
  have e2 : (enumP a).map pD ++ pD (a.length, x) :: r.map pD = enums (a ++ x :: b) := by rw [enums_P, er, List.map_append, List.map_cons]
  rw [e2] at he
  subst hd
  exact ⟨st, by simp [he]⟩
omit hp6
theorem last_ix (ws : List D) (w : D) (hd : seqOf d = some (ws ++ [w])) : dIx d (.int (-1)) = some (.im w) := by
  cases d <;> first | (cases hd; simp [atI_last]) | cases hd
theorem un_4 (ws : List D) (w : Nat) (hd : seqOf d = some (ws ++ [iD w])) (hw : w ≠ 0) (x y : Option Sl) : un4 K (us K p q d x y none none) = .ok (.nx, us K p q d x y none none) := by
  have e1 := last_ix d ws (iD w) hd
  have e2 : dEq (iD w) (.int 0) = some (.im (.bl false)) := by
    simp [dEq, eqD, hw]
  generalize iD w = wD at *
  simp [e1, e2, -dIx]
theorem un_4x (ws : List D) (hd : d = .lst (ws ++ [iD 0])) (x y : Option Sl) : ∃ st, un4 K (us K p q d x y none none) = .exc ⟨.ref (He.ga K "InvalidText"), ["position"], [iD ws.length], st⟩ := by
  have e1 := last_ix d ws (iD 0) (by rw [hd]; rfl)
  have e2 : dEq (iD 0) (.int 0) = some (.im (.bl true)) := rfl
  have e3 : dLen [d] = some (.im (.int ((ws.length : Int) + 1))) := by rw [hd]; simp
  generalize iD 0 = wD at *
  clear hd
  exact ⟨_, by simp [e1, e2, e3, -dIx, -dLen]; rfl⟩
/-! ### the bits of a word -/
theorem bit_at (w i : Nat) (hi : i < p) : (eOp2 (dI fun i j => .int (Builtin.bitAnd i j)) (eOp2 (dIc (fun _ j => 0 ≤ j) fun i j => i / 2 ^ j.toNat) (eVar 3) (eVar 5)) (eK (.int 1))) [some (.sh (rateD K p q)), some (.sh d), x2, some (.sh (iD w)), x4, some (.sh (.int ((p : Int) - 1 + (i : Int) * (-1))))] = .ok (.val (iD (w / 2 ^ (p - 1 - i) % 2)), [some (.sh (rateD K p q)), some (.sh d), x2, some (.sh (iD w)), x4, some (.sh (.int ((p : Int) - 1 + (i : Int) * (-1))))]) := by
  have h0 : (0 : Int) ≤ (p : Int) - 1 + (i : Int) * (-1) := by omega
  have ht : ((p : Int) - 1 + (i : Int) * (-1)).toNat = p - 1 - i := by omega
  have c1 : dIc (fun _ j => 0 ≤ j) (fun i j => i / 2 ^ j.toNat) (.int (w : Int)) (.int ((p : Int) - 1 + (i : Int) * (-1))) = some (.im (.int ((w : Int) / 2 ^ ((p : Int) - 1 + (i : Int) * (-1)).toNat))) := dIc_ok h0
  rw [ht] at c1
  have c2 : Builtin.bitAnd ((w : Int) / 2 ^ (p - 1 - i)) 1 = ((w / 2 ^ (p - 1 - i) % 2 : Nat) : Int) := by
    rw [PyProof.Rows.bitAnd_m1]
    push_cast
    rfl
  have c3 : dI (fun i j => .int (Builtin.bitAnd i j)) (.int ((w : Int) / 2 ^ (p - 1 - i))) (.int 1) = some (.im (iD (w / 2 ^ (p - 1 - i) % 2))) := by
    show some (Rz.im (D.int _)) = _
    rw [c2]
  exact e2_ok (e2_ok rfl rfl rfl rfl c1 rfl) rfl rfl rfl c3 rfl
theorem rngC_down (p : Nat) : rngC ((p : Int) - 1) (-1) p = (List.range p).map fun i : Nat => D.int ((p : Int) - 1 + (i : Int) * (-1)) := rfl
noncomputable abbrev unLc : EF := eLc [5] (itRng3 (aCons (eV (eOp2 (dI fun i j => .int (i - j)) (eProp (He.ga K "Rate") false (F_Rate_p K) (eVar 0)) (eK (.int 1)))) (aCons (eV (eOp1 dNeg (eK (.int 1)))) (aCons (eV (eOp1 dNeg (eK (.int 1)))) (aNil))))) (gVar 5) pYes (eOp2 (dI fun i j => .int (Builtin.bitAnd i j)) (eOp2 (dIc (fun _ j => 0 ≤ j) fun i j => i / 2 ^ j.toNat) (eVar 3) (eVar 5)) (eK (.int 1)))
include hp hp6
theorem un_it (x2 x3 x4 x5 : Option Sl) : itRng3 (aCons (eV (eOp2 (dI fun i j => .int (i - j)) (eProp (He.ga K "Rate") false (F_Rate_p K) (eVar 0)) (eK (.int 1)))) (aCons (eV (eOp1 dNeg (eK (.int 1)))) (aCons (eV (eOp1 dNeg (eK (.int 1)))) (aNil)))) (us K p q d x2 x3 x4 x5) = .ok (rngC ((p : Int) - 1) (-1) p, us K p q d x2 x3 x4 x5) := by
  have e3 := rate_p K p q
  have hF : hasF ["rate_bits", "rate_signs"] "p" = false := by decide
  have hb := big62 p (by omega)
  have hz : -(2 ^ 62) ≤ (p : Int) - 1 ∧ (p : Int) - 1 < 2 ^ 62 := by
    have := big62 (p - 1) (by omega)
    rw [show (p : Int) - 1 = ((p - 1 : Nat) : Int) by omega]
    exact this
  have rg : RgC ((p : Int) - 1) (-1) (-1) ((p : Int) - 1 - (-1)).toNat := RgC.neg hz.1 hz.2 (by decide) (by decide)
  have rn : (Builtin.Range.rangeSize ((p : Int) - 1) (-1) (-1)).toNat = p := by
    rw [PySem.W.rangeSize_downNat]
    omega
  have : ((p : Int) - 1 - (-1)).toNat = p := by omega
  rw [this] at rg
  simp [itRng3, e3, hF, -hasF, rn, rg]
theorem un_lc (w : Nat) (x2 x4 x5 : Option Sl) (h5 : shN x5) : unLc K (us K p q d x2 (some (.sh (iD w))) x4 x5) = .ok (.tmp (isD (bitsW p w)), us K p q d x2 (some (.sh (iD w))) x4 x5) := by
  have hs := sl
  have e := lcL_map (vs := [5]) (g := gVar 5) (p := pYes) (fe := eOp2 (dI fun i j => .int (Builtin.bitAnd i j)) (eOp2 (dIc (fun _ j => 0 ≤ j) fun i j => i / 2 ^ j.toNat) (eVar 3) (eVar 5)) (eK (.int 1))) (fun i : Nat => D.int ((p : Int) - 1 + (i : Int) * (-1))) (fun i => iD (w / 2 ^ (p - 1 - i) % 2)) (us K p q d x2 (some (.sh (iD w))) x4 none) (List.range p) (by
    intro i hi
    have hb := bit_at K p q d (x2 := x2) (x4 := x4) w i (List.mem_range.mp hi)
    generalize (.int ((p : Int) - 1 + (i : Int) * (-1)) : D) = iv at *
    generalize (eOp2 (dI fun i j => .int (Builtin.bitAnd i j)) (eOp2 (dIc (fun _ j => 0 ≤ j) fun i j => i / 2 ^ j.toNat) (eVar 3) (eVar 5)) (eK (.int 1))) = fe at *
    generalize iD (w / 2 ^ (p - 1 - i) % 2) = bv at *
    simp [hb]) (by simp; omega)
  rw [← rngC_down] at e
  have e2 : (List.range p).map (fun i => iD (w / 2 ^ (p - 1 - i) % 2)) = (bitsW p w).map iD := by unfold bitsW; rw [List.map_map]; rfl
  rw [e2] at e
  have it := un_it K p q hp hp6 d x2 (some (.sh (iD w))) x4 x5
  unfold unLc eLc
  rw [it]
  simp only [isD]
  generalize rngC ((p : Int) - 1) (-1) p = rr at *
  generalize (bitsW p w).map iD = bb at *
  generalize (eOp2 (dI fun i j => .int (Builtin.bitAnd i j)) (eOp2 (dIc (fun _ j => 0 ≤ j) fun i j => i / 2 ^ j.toNat) (eVar 3) (eVar 5)) (eK (.int 1))) = fe at *
  rcases h5 with rfl | ⟨d5, rfl⟩ <;> simp [e]
theorem un_6 (ws : List Nat) (hd : seqOf d = some (ws.map iD)) (hl : ws.length ≤ 1200) (x y : Option Sl) (hy : shN y) : ∃ y', shN y' ∧ un6 K (us K p q d x y (some (.own (.lst []))) none) = .ok (.nx, us K p q d x y' (some (.own (isD (spread p ws)))) none) := by
  have hs := sl
  obtain ⟨ρ', e, y', hy', _, rfl⟩ := sForL_relP (g := gVar 3) (b := sDrop (eExtend 4 (unLc K))) iD (fun pre ρ => ∃ y, shN y ∧ pre.length ≤ ws.length ∧ ρ = us K p q d x y (some (.own (isD (spread p pre)))) none) ws [] (us K p q d x y (some (.own (.lst []))) none) (by
    rintro pre w post ρ hsp ⟨y, hy, hpl, rfl⟩
    have hpw : (pre ++ [w]).length ≤ ws.length := by
      have := congrArg List.length hsp
      simp at this ⊢
      omega
    have e := un_lc K p q hp hp6 d w x (some (.own (isD (spread p pre)))) none shN_no
    have hlen : (spread p pre).length + p ≤ sizeLine := by
      rw [spread_len]
      have : pre.length * p ≤ 1200 * 6 := Nat.mul_le_mul (by omega) hp6
      omega
    have hbl := bitsW_len p w
    have e2 : isD (spread p (pre ++ [w])) = .lst ((spread p pre).map iD ++ (bitsW p w).map iD) := by
      simp [spread]
    refine ⟨us K p q d x (some (.sh (iD w))) (some (.own (isD (spread p (pre ++ [w]))))) none, ?_, _, shN_sh _, hpw, rfl⟩
    rw [e2]
    have hlen2 : ((spread p pre).map iD).length + ((bitsW p w).map iD).length ≤ sizeLine := by simp [hbl]; omega
    simp only [isD] at e ⊢
    generalize unLc K = lc at *
    generalize (spread p pre).map iD = A at *
    generalize (bitsW p w).map iD = B at *
    rcases hy with rfl | ⟨d1, rfl⟩ <;> simp [e, hlen2]) ⟨y, hy, by simp, rfl⟩
  rw [List.nil_append] at e
  refine ⟨y', hy', ?_⟩
  have hit : itSeqB (eVar 1) (us K p q d x y (some (.own (.lst []))) none) = .ok (ws.map iD, us K p q d x y (some (.own (.lst []))) none) := by
    cases d with
    | lst xs => cases hd; simp
    | tup xs => cases hd; simp
    | _ => cases hd
  show (itSeqB (eVar 1) (us K p q d x y (some (.own (.lst []))) none) >>= fun z => sForL (gVar 3) (sDrop (eExtend 4 (unLc K))) z.1 z.2) = _
  rw [hit]
  exact e
end
/-- zeros at the end are popped -/
theorem strip_loop {c : S → R (Bool × S)} {b : SF} (mk : List Nat → S) (hc : ∀ l x, c (mk (l ++ [x])) = .ok (decide (x = 0), mk (l ++ [x]))) (hb : ∀ l x, b (mk (l ++ [x])) = .ok (.nx, mk l)) (dd : List Nat) (n k : Nat) (hk : k < n) :
    sWhile c b n (mk (dd ++ 1 :: List.replicate k 0)) = .ok (.nx, mk (dd ++ [1])) := by
  obtain ⟨ρ', e, rfl⟩ := sWhile_rel (c := c) (b := b) (fun m ρ => ρ = mk (dd ++ 1 :: List.replicate m 0)) (fun ρ => ρ = mk (dd ++ [1])) (by
    rintro m ρ rfl
    cases m with
    | zero =>
      left
      exact ⟨_, hc dd 1, rfl⟩
    | succ m =>
      right
      have e : dd ++ 1 :: List.replicate (m + 1) 0 = (dd ++ 1 :: List.replicate m 0) ++ [0] := (rep_snoc dd m).symm
      rw [e]
      exact ⟨_, _, m, hc _ 0, hb _ 0, by omega, rfl⟩) n k _ hk rfl
  exact e
theorem cut_last (l : List Nat) (x : Nat) : dSl (isD (l ++ [x])) none (some (-1)) = some (.nw (isD l)) := by
  have : cutD ((l ++ [x]).map iD) none (some (-1)) = l.map iD := by
    unfold cutD
    rw [HT.sIx_none]
    have e : HT.sIx ((l ++ [x]).map iD).length ((l ++ [x]).map iD).length (some (-1)) = l.length := by
      have e0 : ∀ n : Nat, HT.sIx (n + 1) (n + 1) (some (-1)) = n := by
        intro n
        show (if (-1 : Int) < 0 then ((-1 : Int) + ((n + 1 : Nat) : Int)).toNat else min ((-1 : Int).toNat) (n + 1)) = n
        rw [if_pos (by decide)]
        omega
      simp only [List.length_map, List.length_append, List.length_singleton, e0]
    rw [e, List.drop_zero, Nat.sub_zero, List.map_append, List.take_left' (by simp)]
  unfold dSl
  simp only [isD, this]
section
variable (K : PySem.W.Frag) (p q : Nat) (d : D)
theorem un_7 (dd : List Nat) (k : Nat) (hk : k < 8000) (x y : Option Sl) : un7 K (us K p q d x y (some (.own (isD (dd ++ 1 :: List.replicate k 0)))) none) = .ok (.nx, us K p q d x y (some (.own (isD (dd ++ [1])))) none) := by
  refine strip_loop (fun l => us K p q d x y (some (.own (isD l))) none) (fun l b => ?_) (fun l b => ?_) dd 8000 k hk
  · have e1 : dIx (isD (l ++ [b])) (.int (-1)) = some (.im (iD b)) := last_ix _ (l.map iD) (iD b) (by simp [seqOf])
    have e2 : dEq (iD b) (.int 0) = some (.im (.bl (decide (b = 0)))) := by simp [dEq, eqD]
    generalize isD (l ++ [b]) = L at *
    generalize iD b = bD at *
    generalize decide (b = 0) = t at *
    simp [e1, e2, -dIx]
  · have e1 : (l ++ [b]).map iD = l.map iD ++ [iD b] := by simp
    simp only [isD, e1]
    generalize l.map iD = L at *
    simp
theorem un_8 (dd : List Nat) (x y : Option Sl) : un8 K (us K p q d x y (some (.own (isD (dd ++ [1])))) none) = .ok (.rt (.tmp (isD dd)), us K p q d x y (some (.own (isD (dd ++ [1])))) none) := by
  have e := cut_last dd 1
  generalize isD (dd ++ [1]) = L at *
  generalize isD dd = M at *
  simp [e]
theorem un_R : F_unpacked K [rateD K p q, d] = (B_unpacked K (us K p q d none none none none) >>= fun z => ofO (flH z.1) >>= fun h => ofO (finH true h z.2) >>= fun y => ofO (ioOut [false, false] 0 y.2) >>= fun o => .ok (y.1, o)) := rfl
/-- the bits of words whose last one is not 0 -/
theorem unpacked_ok (hp : 1 ≤ p) (hp6 : p ≤ 6) (ws : List Nat) (w : Nat) (hd : seqOf d = some ((ws ++ [w]).map iD)) (hl : (ws ++ [w]).length ≤ 1200) (hw : ∀ x ∈ ws ++ [w], x < 2 ^ p) (hz : w ≠ 0) (bs : List Nat) (hsp : spread p (ws ++ [w]) = filled p bs) :
    F_unpacked K [rateD K p q, d] = .ok (isD bs, []) := by
  have hgw : ∀ x ∈ (ws ++ [w]).map iD, goodWord p x := by
    intro x hx
    obtain ⟨v, hv, rfl⟩ := List.mem_map.mp hx
    exact ⟨v, hw v hv, rfl⟩
  have h0 : 1 ≤ ((ws ++ [w]).map iD).length := by simp
  have hl2 : ((ws ++ [w]).map iD).length ≤ 1200 := by simpa using hl
  obtain ⟨x, y, hx, hy, e3⟩ := un_3 K p q hp6 d _ hd hgw
  have e4 := un_4 K p q d (ws.map iD) w (by rw [hd, List.map_append]; rfl) hz x y
  have e5 : un5 K (us K p q d x y none none) = .ok (.nx, us K p q d x y (some (.own (.lst []))) none) := by simp
  obtain ⟨y', hy', e6⟩ := un_6 K p q hp hp6 d (ws ++ [w]) hd hl x y hy
  have hk := padK_lt hp (bs.length + 1)
  rw [hsp] at e6
  have e7 := un_7 K p q d bs (padK p (bs.length + 1)) (by omega) x y'
  have e8 := un_8 K p q d bs x y'
  have hB : B_unpacked K (us K p q d none none none none) = .ok (.rt (.tmp (isD bs)), us K p q d x y' (some (.own (isD (bs ++ [1])))) none) := by
    rw [un_all]
    exact (seq_step (un_1 K p q d)).trans ((seq_step (un_2 K p q d _ hd h0 hl2)).trans ((seq_step e3).trans ((seq_step e4).trans ((seq_step e5).trans ((seq_step e6).trans ((seq_step e7).trans e8))))))
  rw [un_R, hB]
  generalize isD bs = L3
  generalize isD (bs ++ [1]) = L4
  rfl
end
end LW
set_option Elab.async false
set_option linter.all false
set_option maxRecDepth 100000
set_option maxHeartbeats 1000000
namespace LW
open PySem L2 BR
theorem seq_exc {s t : SF} {ρ : S} {x : Exc} (h : s ρ = .exc x) : sSeq s t ρ = .exc x := by
  rw [sSeq, h]; rfl
section
variable (K : PySem.W.Frag) (p q : Nat) (d : D)
/-- what is refused -/
theorem unpacked_rate (x : D) (h : plD x = true) : ∃ st, F_unpacked K [x, d] = .exc ⟨.ref (He.ga K "InvalidRate"), ["value"], [x], st⟩ := by
  obtain ⟨st, e⟩ := want_rate_no K x h
  exact ⟨_, by simp [F_unpacked, B_unpacked, e]; rfl⟩
theorem un_exc {C : Value} {f : Str} {x : D} (h : ∃ st, B_unpacked K (us K p q d none none none none) = .exc ⟨C, [f], [x], st⟩) : ∃ st, F_unpacked K [rateD K p q, d] = .exc ⟨C, [f], [x], st⟩ := by
  obtain ⟨st, e⟩ := h
  exact ⟨st, by rw [un_R, e]; rfl⟩
theorem unpacked_none (h : plD d = true) (h2 : ∀ ds, seqOf d = some ds → ds.length = 0 ∨ 1200 < ds.length) (h3 : ∀ ns, d ≠ .scr ns) : ∃ st, F_unpacked K [rateD K p q, d] = .exc ⟨.ref (He.ga K "InvalidText"), ["position"], [.non], st⟩ := by
  have e1 := is_list_pl K d h
  refine un_exc K p q d ?_
  rw [un_all, seq_step (un_1 K p q d)]
  refine ⟨us K p q d none none none none, seq_exc ?_⟩
  cases d with
  | lst xs =>
    rcases h2 xs rfl with z | z
    · have hn : ¬ (1 : Int) ≤ (xs.length : Int) := by omega
      simp [e1, isSeqD, hn]
    · have h1 : (1 : Int) ≤ (xs.length : Int) := by omega
      have hn : ¬ (xs.length : Int) ≤ 1200 := by omega
      simp [e1, isSeqD, hn, h1]
  | tup xs =>
    rcases h2 xs rfl with z | z
    · have hn : ¬ (1 : Int) ≤ (xs.length : Int) := by omega
      simp [e1, isSeqD, hn]
    · have h1 : (1 : Int) ≤ (xs.length : Int) := by omega
      have hn : ¬ (xs.length : Int) ≤ 1200 := by omega
      simp [e1, isSeqD, hn, h1]
  | scr ns => exact absurd rfl (h3 ns)
  | non => simp [e1, isSeqD]
  | bl _ => simp [e1, isSeqD]
  | int _ => simp [e1, isSeqD]
  | str _ => simp [e1, isSeqD]
  | dic _ _ => simp [e1, isSeqD]
  | _ => cases h
theorem unpacked_at (hp6 : p ≤ 6) (a : List D) (x : D) (b : List D) (hl : (a ++ x :: b).length ≤ 1200) (h : ∀ y ∈ a, goodWord p y) (hx : badWord p x) : ∃ st, F_unpacked K [rateD K p q, .lst (a ++ x :: b)] = .exc ⟨.ref (He.ga K "InvalidText"), ["position"], [iD a.length], st⟩ := by
  refine un_exc K p q _ ?_
  obtain ⟨st, e⟩ := un_3x K p q hp6 (.lst (a ++ x :: b)) a x b rfl h hx
  rw [un_all, seq_step (un_1 K p q _), seq_step (un_2 K p q (.lst (a ++ x :: b)) _ rfl (by simp; omega) hl)]
  exact ⟨st, seq_exc e⟩
theorem unpacked_zero (hp6 : p ≤ 6) (ws : List Nat) (hl : ws.length < 1200) (hw : ∀ x ∈ ws, x < 2 ^ p) : ∃ st, F_unpacked K [rateD K p q, isD (ws ++ [0])] = .exc ⟨.ref (He.ga K "InvalidText"), ["position"], [iD ws.length], st⟩ := by
  refine un_exc K p q _ ?_
  have hgw : ∀ x ∈ (ws ++ [0]).map iD, goodWord p x := by
    intro x hx
    obtain ⟨v, hv, rfl⟩ := List.mem_map.mp hx
    rcases List.mem_append.mp hv with hv | hv
    · exact ⟨v, hw v hv, rfl⟩
    · simp at hv; subst hv; exact ⟨0, Nat.two_pow_pos p, rfl⟩
  obtain ⟨x, y, hx, hy, e3⟩ := un_3 K p q hp6 (isD (ws ++ [0])) _ rfl hgw
  obtain ⟨st, e4⟩ := un_4x K p q (isD (ws ++ [0])) (ws.map iD) (by simp) x y
  rw [List.length_map] at e4
  rw [un_all, seq_step (un_1 K p q _), seq_step (un_2 K p q (isD (ws ++ [0])) _ rfl (by simp) (by simp; omega)), seq_step e3]
  exact ⟨st, seq_exc e4⟩
end
/-! ### the law's own unpacking -/
section
variable (K : PySem.W.Frag) (p : Nat) (hp : 1 ≤ p) (hp6 : p ≤ 6) (s0 : Option Sl)
noncomputable abbrev spFe : EF := eOp2 (dIc (fun _ j => 0 < j) fun i j => i % j) (eCB dInt (hCons (eOp2 (dIc CDiv fun i j => i / j) (eVar 3) (eOp2 (dIc CPow fun i j => i * 2 ^ j.toNat) (eK (.int 1)) (eVar 4))) (hNil))) (eK (.int 2))
noncomputable abbrev spIt : S → R (List D × S) := itRng3 (aCons (eV (eOp2 (dI fun i j => .int (i - j)) (eVar 1) (eK (.int 1)))) (aCons (eV (eOp1 dNeg (eK (.int 1)))) (aCons (eV (eOp1 dNeg (eK (.int 1)))) (aNil))))
noncomputable abbrev spLc : EF := eLc [4] spIt (gVar 4) pYes spFe
abbrev ss (x2 x3 x4 : Option Sl) : S := [s0, some (.sh (iD p)), x2, x3, x4]
include hp hp6
theorem sp_it (x2 x3 x4 : Option Sl) : spIt (ss p s0 x2 x3 x4) = .ok (rngC ((p : Int) - 1) (-1) p, ss p s0 x2 x3 x4) := by
  have hb := big62 p (by omega)
  have hz : -(2 ^ 62) ≤ (p : Int) - 1 ∧ (p : Int) - 1 < 2 ^ 62 := by
    have := big62 (p - 1) (by omega)
    rw [show (p : Int) - 1 = ((p - 1 : Nat) : Int) by omega]
    exact this
  have rg : RgC ((p : Int) - 1) (-1) (-1) ((p : Int) - 1 - (-1)).toNat := RgC.neg hz.1 hz.2 (by decide) (by decide)
  have rn : (Builtin.Range.rangeSize ((p : Int) - 1) (-1) (-1)).toNat = p := by
    rw [PySem.W.rangeSize_downNat]
    omega
  have : ((p : Int) - 1 - (-1)).toNat = p := by omega
  rw [this] at rg
  simp [itRng3, rn, rg]
omit hp
theorem sp_at (w i : Nat) (hi : i < p) (x2 : Option Sl) : spFe (ss p s0 x2 (some (.sh (iD w))) (some (.sh (.int ((p : Int) - 1 + (i : Int) * (-1)))))) = .ok (.val (iD (w / 2 ^ (p - 1 - i) % 2)), ss p s0 x2 (some (.sh (iD w))) (some (.sh (.int ((p : Int) - 1 + (i : Int) * (-1)))))) := by
  have h0 : (0 : Int) ≤ (p : Int) - 1 + (i : Int) * (-1) := by omega
  have ht : ((p : Int) - 1 + (i : Int) * (-1)).toNat = p - 1 - i := by omega
  have c1 : dIc CPow (fun i j => i * 2 ^ j.toNat) (.int 1) (.int ((p : Int) - 1 + (i : Int) * (-1))) = some (.im (.int (1 * 2 ^ ((p : Int) - 1 + (i : Int) * (-1)).toNat))) := dIc_ok (by unfold CPow; omega)
  rw [ht] at c1
  have hle : 2 ^ (p - 1 - i) ≤ 2 ^ 6 := Nat.pow_le_pow_right (by omega) (by omega)
  have hpos : 0 < 2 ^ (p - 1 - i) := Nat.two_pow_pos _
  have e1 : (1 : Int) * 2 ^ (p - 1 - i) = ((2 ^ (p - 1 - i) : Nat) : Int) := by push_cast; omega
  rw [e1] at c1
  have c2 : dIc CDiv (fun i j => i / j) (.int (w : Int)) (.int ((2 ^ (p - 1 - i) : Nat) : Int)) = some (.im (.int ((w : Int) / ((2 ^ (p - 1 - i) : Nat) : Int)))) := dIc_ok (by unfold CDiv; omega)
  have e2 : (w : Int) / ((2 ^ (p - 1 - i) : Nat) : Int) = ((w / 2 ^ (p - 1 - i) : Nat) : Int) := by simp
  rw [e2] at c2
  have c3 : dIc (fun _ j => 0 < j) (fun i j => i % j) (.int ((w / 2 ^ (p - 1 - i) : Nat) : Int)) (.int 2) = some (.im (.int (((w / 2 ^ (p - 1 - i) : Nat) : Int) % 2))) := dIc_ok (by decide)
  have e3 : ((w / 2 ^ (p - 1 - i) : Nat) : Int) % 2 = ((w / 2 ^ (p - 1 - i) % 2 : Nat) : Int) := by omega
  rw [e3] at c3
  have cI : ∀ (f : EF) (ρ : S) (i : Int), f ρ = .ok (.val (.int i), ρ) → eCB dInt (hCons f hNil) ρ = .ok (.val (.int i), ρ) := by
    intro f ρ i h
    simp [h]
  exact e2_ok (cI _ _ _ (e2_ok rfl (e2_ok rfl rfl rfl rfl c1 rfl) rfl rfl c2 rfl)) rfl rfl rfl c3 rfl
include hp
theorem sp_lc (w : Nat) (x2 x4 : Option Sl) (h4 : shN x4) : spLc (ss p s0 x2 (some (.sh (iD w))) x4) = .ok (.tmp (isD (bitsW p w)), ss p s0 x2 (some (.sh (iD w))) x4) := by
  have hs := sl
  have e := lcL_map (vs := [4]) (g := gVar 4) (p := pYes) (fe := spFe) (fun i : Nat => D.int ((p : Int) - 1 + (i : Int) * (-1))) (fun i => iD (w / 2 ^ (p - 1 - i) % 2)) (ss p s0 x2 (some (.sh (iD w))) none) (List.range p) (by
    intro i hi
    have hb := sp_at p hp6 s0 w i (List.mem_range.mp hi) x2
    generalize (.int ((p : Int) - 1 + (i : Int) * (-1)) : D) = iv at *
    generalize spFe = fe at *
    generalize iD (w / 2 ^ (p - 1 - i) % 2) = bv at *
    simp [hb]) (by simp; omega)
  rw [← rngC_down] at e
  have e2 : (List.range p).map (fun i => iD (w / 2 ^ (p - 1 - i) % 2)) = (bitsW p w).map iD := by unfold bitsW; rw [List.map_map]; rfl
  rw [e2] at e
  have it := sp_it p hp hp6 s0 x2 (some (.sh (iD w))) x4
  unfold spLc eLc
  rw [it]
  simp only [isD]
  generalize rngC ((p : Int) - 1) (-1) p = rr at *
  generalize (bitsW p w).map iD = bb at *
  generalize spFe = fe at *
  rcases h4 with rfl | ⟨d5, rfl⟩ <;> simp [e]
theorem law_spread_ok (ws : List Nat) (hl : ws.length ≤ 1200) : F__law_spread K [isD ws, iD p] = .ok (isD (spread p ws), []) := by
  have hs := sl
  obtain ⟨ρ', e, y', hy', _, rfl⟩ := sForL_relP (g := gVar 3) (b := sDrop (eExtend 2 spLc)) iD (fun pre ρ => ∃ y, shN y ∧ pre.length ≤ ws.length ∧ ρ = ss p (some (.sh (isD ws))) (some (.own (isD (spread p pre)))) y none) ws [] (ss p (some (.sh (isD ws))) (some (.own (.lst []))) none none) (by
    rintro pre w post ρ hsp ⟨y, hy, hpl, rfl⟩
    have hpw : (pre ++ [w]).length ≤ ws.length := by
      have := congrArg List.length hsp
      simp at this ⊢
      omega
    have e := sp_lc p hp hp6 (some (.sh (isD ws))) w (some (.own (isD (spread p pre)))) none shN_no
    have hlen : (spread p pre).length + p ≤ sizeLine := by
      rw [spread_len]
      have : pre.length * p ≤ 1200 * 6 := Nat.mul_le_mul (by omega) hp6
      omega
    have hbl := bitsW_len p w
    have e2 : isD (spread p (pre ++ [w])) = .lst ((spread p pre).map iD ++ (bitsW p w).map iD) := by
      simp [spread]
    refine ⟨ss p (some (.sh (isD ws))) (some (.own (isD (spread p (pre ++ [w]))))) (some (.sh (iD w))) none, ?_, _, shN_sh _, hpw, rfl⟩
    rw [e2]
    have hlen2 : ((spread p pre).map iD).length + ((bitsW p w).map iD).length ≤ sizeLine := by simp [hbl]; omega
    simp only [isD] at e ⊢
    generalize spLc = lc at *
    generalize (spread p pre).map iD = A at *
    generalize (bitsW p w).map iD = B at *
    rcases hy with rfl | ⟨d1, rfl⟩ <;> simp [e, hlen2]) ⟨none, shN_no, by simp, rfl⟩
  rw [List.nil_append] at e
  have hB : B__law_spread K [some (.sh (isD ws)), some (.sh (iD p)), none, none, none] = .ok (.rt (.slot 2), ss p (some (.sh (isD ws))) (some (.own (isD (spread p ws)))) y' none) := by
    have e1 : sAsg 2 (eLst (aNil)) [some (.sh (isD ws)), some (.sh (iD p)), none, none, none] = .ok (.nx, ss p (some (.sh (isD ws))) (some (.own (.lst []))) none none) := by simp
    have e2 : sFor (itSeq (eVar 0)) (gVar 3) (sDrop (eExtend 2 spLc)) (ss p (some (.sh (isD ws))) (some (.own (.lst []))) none none) = .ok (.nx, ss p (some (.sh (isD ws))) (some (.own (isD (spread p ws)))) y' none) := by
      have : itSeq (eVar 0) (ss p (some (.sh (isD ws))) (some (.own (.lst []))) none none) = .ok (ws.map iD, ss p (some (.sh (isD ws))) (some (.own (.lst []))) none none) := by simp
      simp only [sFor, this, ok_bind]
      exact e
    have e3 : sRet (eVar 2) (ss p (some (.sh (isD ws))) (some (.own (isD (spread p ws)))) y' none) = .ok (.rt (.slot 2), ss p (some (.sh (isD ws))) (some (.own (isD (spread p ws)))) y' none) := by simp
    exact (seq_step e1).trans ((seq_step e2).trans e3)
  have hR : F__law_spread K [isD ws, iD p] = (B__law_spread K [some (.sh (isD ws)), some (.sh (iD p)), none, none, none] >>= fun z => ofO (flH z.1) >>= fun h => ofO (finH true h z.2) >>= fun y => ofO (ioOut [false, false] 0 y.2) >>= fun o => .ok (y.1, o)) := rfl
  rw [hR, hB]
  generalize isD (spread p ws) = L3
  rfl
theorem law_unpacked_ok (ws : List Nat) (hl : ws.length ≤ 1200) (bs : List Nat) (hsp : spread p ws = filled p bs) : F__law_unpacked K [isD ws, iD p] = .ok (isD bs, []) := by
  have e0 := law_spread_ok K p hp hp6 ws hl
  rw [hsp] at e0
  have hk := padK_lt hp (bs.length + 1)
  have e1 : sAsg 2 (eCall true (F__law_spread K) (mSh (eVar 0) (mSh (eVar 1) (mNil)))) [some (.sh (isD ws)), some (.sh (iD p)), none] = .ok (.nx, [some (.sh (isD ws)), some (.sh (iD p)), some (.own (isD (filled p bs)))]) := by
    generalize isD (filled p bs) = L at *
    simp [e0]
  have e2 : sWhile (tstV (eOp2 dEq (eOp2 dIx (eVar 2) (eOp1 dNeg (eK (.int 1)))) (eK (.int 0)))) (sDrop (ePop 2)) 8000 [some (.sh (isD ws)), some (.sh (iD p)), some (.own (isD (filled p bs)))] = .ok (.nx, [some (.sh (isD ws)), some (.sh (iD p)), some (.own (isD (bs ++ [1])))]) := by
    refine strip_loop (fun l => [some (.sh (isD ws)), some (.sh (iD p)), some (.own (isD l))]) (fun l b => ?_) (fun l b => ?_) bs 8000 (padK p (bs.length + 1)) (by omega)
    · have e1 : dIx (isD (l ++ [b])) (.int (-1)) = some (.im (iD b)) := last_ix _ (l.map iD) (iD b) (by simp [seqOf])
      have e2 : dEq (iD b) (.int 0) = some (.im (.bl (decide (b = 0)))) := by simp [dEq, eqD]
      generalize isD (l ++ [b]) = L at *
      generalize iD b = bD at *
      generalize decide (b = 0) = t at *
      simp [e1, e2, -dIx]
    · have e1 : (l ++ [b]).map iD = l.map iD ++ [iD b] := by simp
      simp only [isD, e1]
      generalize l.map iD = L at *
      simp
  have e3 : sRet (eSl (eVar 2) (oNone) (oSome (eOp1 dNeg (eK (.int 1))))) [some (.sh (isD ws)), some (.sh (iD p)), some (.own (isD (bs ++ [1])))] = .ok (.rt (.tmp (isD bs)), [some (.sh (isD ws)), some (.sh (iD p)), some (.own (isD (bs ++ [1])))]) := by
    have e := cut_last bs 1
    generalize isD (bs ++ [1]) = L at *
    generalize isD bs = M at *
    simp [e]
  have hB : B__law_unpacked K [some (.sh (isD ws)), some (.sh (iD p)), none] = .ok (.rt (.tmp (isD bs)), [some (.sh (isD ws)), some (.sh (iD p)), some (.own (isD (bs ++ [1])))]) := (seq_step e1).trans ((seq_step e2).trans e3)
  have hR : F__law_unpacked K [isD ws, iD p] = (B__law_unpacked K [some (.sh (isD ws)), some (.sh (iD p)), none] >>= fun z => ofO (flH z.1) >>= fun h => ofO (finH true h z.2) >>= fun y => ofO (ioOut [false, false] 0 y.2) >>= fun o => .ok (y.1, o)) := rfl
  rw [hR, hB]
  generalize isD bs = L3
  generalize isD (bs ++ [1]) = L4
  rfl
end
end LW
set_option Elab.async false
set_option linter.all false
set_option maxRecDepth 100000
set_option maxHeartbeats 1000000
namespace LW
open PySem L2 BR
abbrev pot (a b : Int) : D := .lst [.int a, .int b]
def nxt (b : Int) : Int := (b * 48271 + 12343) % 2147483587
theorem draw_neg (K : PySem.W.Frag) (a b s : Int) (ha : ¬ 0 < a) (h0 : 0 < s) : F__law_draw K [pot a b, .int s] = .ok (.int ((nxt b * nxt b % 2147483549 / 17) % s), [pot a (nxt b)]) := by
  have hn : 0 ≤ nxt b ∧ nxt b < 2147483587 := ⟨Int.emod_nonneg _ (by decide), Int.emod_lt_of_pos _ (by decide)⟩
  have m1 : dMulI (.int b) (.int 48271) = some (.im (.int (b * 48271))) := dMulI_ok (.inr ⟨by decide, by decide⟩)
  have m2 : dMulI (.int (nxt b)) (.int (nxt b)) = some (.im (.int (nxt b * nxt b))) := dMulI_ok (.inr ⟨by omega, by omega⟩)
  have c1 : ∀ i : Int, dIc (fun _ j => 0 < j) (fun i j => i % j) (.int i) (.int 2147483587) = some (.im (.int (i % 2147483587))) := fun i => dIc_ok (by decide)
  have c2 : ∀ i : Int, dIc (fun _ j => 0 < j) (fun i j => i % j) (.int i) (.int 2147483549) = some (.im (.int (i % 2147483549))) := fun i => dIc_ok (by decide)
  have c3 : ∀ i : Int, dIc CDiv (fun i j => i / j) (.int i) (.int 17) = some (.im (.int (i / 17))) := fun i => dIc_ok ⟨by decide, by decide⟩
  have c4 : ∀ i : Int, dIc (fun _ j => 0 < j) (fun i j => i % j) (.int i) (.int s) = some (.im (.int (i % s))) := fun i => dIc_ok h0
  have e1 : (b * 48271 + 12343) % 2147483587 = nxt b := rfl
  have a0 : ∀ x y : D, atI [x, y] 0 = some x := fun _ _ => rfl
  have a1 : ∀ x y : D, atI [x, y] 1 = some y := fun _ _ => rfl
  have i1 : ixN 2 1 = some 1 := rfl
  simp [F__law_draw, B__law_draw, ha, m1, m2, c1, c2, c3, c4, e1, a0, a1, i1]
theorem draw_pos (K : PySem.W.Frag) (a b s : Int) (ha : 0 < a) (h0 : 0 < s) (h1 : s < 2 ^ 200) : F__law_draw K [pot a b, .int s] = .ok (.int (a % s), [pot (a / s) b]) := by
  have a0 : ∀ x y : D, atI [x, y] 0 = some x := fun _ _ => rfl
  have e : eDivmod (hCons (eOp2 dIx (eVar 0) (eK (.int 0))) (hCons (eVar 1) hNil)) [some (.io (pot a b)), some (.sh (.int s)), none] = .ok (.val (.tup [.int (a / s), .int (a % s)]), [some (.io (pot a b)), some (.sh (.int s)), none]) := if_pos ⟨h0, h1⟩
  simp [F__law_draw, B__law_draw, ha, a0, -hCons, -hNil, -eOp2, e]
  simp [eOp2, ha, a0, e]
theorem draw_ok (K : PySem.W.Frag) (a b s : Int) (h0 : 0 < s) (h1 : s ≤ 1000000) : ∃ d a' b', F__law_draw K [pot a b, .int s] = .ok (.int d, [pot a' b']) ∧ 0 ≤ d ∧ d < s := by
  by_cases ha : 0 < a
  · exact ⟨_, _, _, draw_pos K a b s ha h0 (Int.lt_of_le_of_lt h1 (by decide)), Int.emod_nonneg _ (by omega), Int.emod_lt_of_pos _ h0⟩
  · exact ⟨_, _, _, draw_neg K a b s ha h0, Int.emod_nonneg _ (by omega), Int.emod_lt_of_pos _ h0⟩
/-- a draw of n sides -/
theorem draw_n (K : PySem.W.Frag) (a b : Int) (n : Nat) (h0 : 0 < n) (h1 : n ≤ 1000000) : ∃ (d : Nat) (a' b' : Int), F__law_draw K [pot a b, iD n] = .ok (iD d, [pot a' b']) ∧ d < n := by
  obtain ⟨d, a', b', e, h2, h3⟩ := draw_ok K a b n (by omega) (by omega)
  refine ⟨d.toNat, a', b', ?_, by omega⟩
  rw [e]
  have : ((d.toNat : Nat) : Int) = d := by omega
  simp only [iD, this]
theorem pick_lst (K : PySem.W.Frag) (a b : Int) (ds : List D) (h0 : 0 < ds.length) (h1 : ds.length ≤ 1000000) : ∃ (d : D) (a' b' : Int), F__law_pick K [pot a b, .lst ds] = .ok (d, [pot a' b']) ∧ d ∈ ds := by
  obtain ⟨i, a', b', e, h3⟩ := draw_n K a b ds.length h0 h1
  refine ⟨ds[i], a', b', ?_, List.getElem_mem h3⟩
  have ea := atI_n ds i h3
  simp [F__law_pick, B__law_pick, e, ea]
/-! ### _law_told -/
theorem told_run {K : PySem.W.Frag} {r : R D} {d : D} (h : ∀ f G0 H0, run1 (B__law_told K f G0 H0 r) (st0 3 f G0 H0) = .ok d) : runT 3 (B__law_told K) r = .ok d := by
  unfold runT
  rw [if_pos (fun f G0 H0 => (h f G0 H0).trans (h 0 nh nh).symm)]
  exact h 0 nh nh
theorem told_ok (K : PySem.W.Frag) (d : D) : runT 3 (B__law_told K) (.ok d) = .ok (.lst [.str "let"]) := by
  have hs : 1 ≤ sizeLine := by have := sl; omega
  refine told_run fun f G0 H0 => ?_
  simp [B__law_told, hs, sTry]
noncomputable abbrev suit (K : PySem.W.Frag) (t C f : Str) : HF := fun a0 G1 H1 x0 => sAsg 1 (eLst (aCons (eV (eK (.str t))) (aCons (eV (eXf 2 a0 G1 H1 x0 (He.ga K C) f)) (aCons (eV (eXis K 2 a0 G1 H1 x0 (He.ga K C) [.ref (He.ga K "BarredError")] (eK (.obj (He.ga K "BarredError"))))) (aNil)))))
theorem suit_ok (K : PySem.W.Frag) (t C f : Str) (d : D) (st : S) (a f0 : Addr) (G1 H1 G0 H0 : Hp) (hk : PySem.W.kitAny K (.ref (He.ga K C)) [.ref (He.ga K "BarredError")] = some true) :
    suit K t C f a G1 H1 ⟨.ref (He.ga K C), [f], [d], st⟩ [some (.gh f0 G0 H0), some (.own (.lst [.str "let"])), some (.gh a G1 H1)] = .ok (.nx, [some (.gh f0 G0 H0), some (.own (.lst [.str t, d, .bl true])), some (.gh a G1 H1)]) := by
  have hs : 3 ≤ sizeLine := by have := sl; omega
  have hf : fldD [f] [d] f = some d := by simp
  have hc : clsDs [Value.ref (He.ga K "BarredError")] [D.obj (He.ga K "BarredError")] = true := by simp [clsDs]
  simp [hf, -fldD, hk, hc, hs]
theorem hand_yes (K : PySem.W.Frag) (t C f : Str) (d : D) (st : S) (f0 : Addr) (G0 H0 : Hp) (l : List Clz) (hx : PySem.W.exmOne K (.ref (He.ga K C)) (.ref (He.ga K C)) = some true) (hk : PySem.W.kitAny K (.ref (He.ga K C)) [.ref (He.ga K "BarredError")] = some true) :
    sHand K [some (.gh f0 G0 H0), some (.own (.lst [.str "let"])), none] ⟨.ref (He.ga K C), [f], [d], [some (.gh f0 G0 H0), some (.own (.lst [.str "let"])), none]⟩ (⟨.ref (He.ga K C), 2, suit K t C f⟩ :: l) = .ok (.nx, [some (.gh f0 G0 H0), some (.own (.lst [.str t, d, .bl true])), none]) := by
  have key : ∀ a G1 H1, goneF 2 (suit K t C f a G1 H1 ⟨.ref (He.ga K C), [f], [d], [some (.gh f0 G0 H0), some (.own (.lst [.str "let"])), none]⟩ ([some (.gh f0 G0 H0), some (.own (.lst [.str "let"])), none].set 2 (some (.gh a G1 H1)))) = .ok (.nx, [some (.gh f0 G0 H0), some (.own (.lst [.str t, d, .bl true])), none]) := by
    intro a G1 H1
    have e := suit_ok K t C f d [some (.gh f0 G0 H0), some (.own (.lst [.str "let"])), none] a f0 G1 H1 G0 H0 hk
    show goneF 2 (suit K t C f a G1 H1 _ [some (.gh f0 G0 H0), some (.own (.lst [.str "let"])), some (.gh a G1 H1)]) = _
    rw [e]
    rfl
  unfold sHand
  simp only [hx]
  rw [if_pos ⟨rfl, rfl, fun a G1 H1 => (key a G1 H1).trans (key 0 _ _).symm⟩]
  exact key 0 _ _
theorem hand_no (K : PySem.W.Frag) (ρ : S) (x : Exc) (q : Clz) (l : List Clz) (hx : PySem.W.exmOne K x.cls q.1 = some false) : sHand K ρ x (q :: l) = sHand K ρ x l := by
  rw [sHand]
  simp only [hx]
theorem told_try (K : PySem.W.Frag) (x : Exc) (t : Str) (d : D) (l : List Clz) (hB : ∀ f0 G0 H0 r0, B__law_told K f0 G0 H0 r0 = sSeq (sAsg 1 (eLst (aCons (eV (eK (.str "let"))) (aNil)))) (sSeq (sTry K (sDrop (eThk 0 f0 G0 H0 r0)) l) (sRet (eVar 1))))
    (h : ∀ f0 G0 H0, sHand K [some (.gh f0 G0 H0), some (.own (.lst [.str "let"])), none] { x with st := [some (.gh f0 G0 H0), some (.own (.lst [.str "let"])), none] } l = .ok (.nx, [some (.gh f0 G0 H0), some (.own (.lst [.str t, d, .bl true])), none])) :
    runT 3 (B__law_told K) (.exc x) = .ok (.lst [.str t, d, .bl true]) := by
  have hs : 1 ≤ sizeLine := by have := sl; omega
  refine told_run fun f0 G0 H0 => ?_
  have e1 : sAsg 1 (eLst (aCons (eV (eK (.str "let"))) (aNil))) (st0 3 f0 G0 H0) = .ok (.nx, [some (.gh f0 G0 H0), some (.own (.lst [.str "let"])), none]) := by simp [hs]
  have e2 : sTry K (sDrop (eThk 0 f0 G0 H0 (.exc x))) l [some (.gh f0 G0 H0), some (.own (.lst [.str "let"])), none] = .ok (.nx, [some (.gh f0 G0 H0), some (.own (.lst [.str t, d, .bl true])), none]) := by
    have : sDrop (eThk 0 f0 G0 H0 (.exc x)) [some (.gh f0 G0 H0), some (.own (.lst [.str "let"])), none] = .exc { x with st := [some (.gh f0 G0 H0), some (.own (.lst [.str "let"])), none] } := by simp
    unfold sTry
    rw [this]
    exact h f0 G0 H0
  have hb : B__law_told K f0 G0 H0 (.exc x) (st0 3 f0 G0 H0) = .ok (.rt (.slot 1), [some (.gh f0 G0 H0), some (.own (.lst [.str t, d, .bl true])), none]) := by
    rw [hB]
    exact (seq_step e1).trans ((seq_step e2).trans (by simp))
  unfold run1
  rw [hb]
  rfl
section
variable {K : PySem.W.Frag} {mg : Str → Option Value} (m : M K mg)
include m
theorem told_rate (d : D) (st : S) : runT 3 (B__law_told K) (.exc ⟨.ref (He.ga K "InvalidRate"), ["value"], [d], st⟩) = .ok (.lst [.str "pace", d, .bl true]) :=
  told_try K _ "pace" d _ (fun _ _ _ _ => rfl) fun f0 G0 H0 => hand_yes K "pace" "InvalidRate" "value" d st f0 G0 H0 _ m.ex_InvalidRate_InvalidRate m.ki_InvalidRate_BarredError
theorem told_bits (d : D) (st : S) : runT 3 (B__law_told K) (.exc ⟨.ref (He.ga K "InvalidBits"), ["position"], [d], st⟩) = .ok (.lst [.str "bits", d, .bl true]) :=
  told_try K _ "bits" d _ (fun _ _ _ _ => rfl) fun f0 G0 H0 => (hand_no K _ _ _ _ m.ex_InvalidBits_InvalidRate).trans (hand_yes K "bits" "InvalidBits" "position" d st f0 G0 H0 _ m.ex_InvalidBits_InvalidBits m.ki_InvalidBits_BarredError)
theorem told_text (d : D) (st : S) : runT 3 (B__law_told K) (.exc ⟨.ref (He.ga K "InvalidText"), ["position"], [d], st⟩) = .ok (.lst [.str "words", d, .bl true]) :=
  told_try K _ "words" d _ (fun _ _ _ _ => rfl) fun f0 G0 H0 => (hand_no K _ _ _ _ m.ex_InvalidText_InvalidRate).trans ((hand_no K _ _ _ _ m.ex_InvalidText_InvalidBits).trans (hand_yes K "words" "InvalidText" "position" d st f0 G0 H0 _ m.ex_InvalidText_InvalidText m.ki_InvalidText_BarredError))
end
end LW
set_option Elab.async false
set_option linter.all false
set_option maxRecDepth 100000
set_option maxHeartbeats 1000000
namespace LW
open PySem L2 BR
/-! ### repr, == of lists of numbers -/
theorem textFrom_le (B : Nat) : ∀ (ts : List Str) (k : Nat) (acc : Str), (∀ t ∈ ts, t.length ≤ B) → (textFrom k acc ts).length ≤ acc.length + ts.length * (B + 2)
  | [], k, acc, _ => by simp [textFrom]
  | t :: ts, k, acc, h => by
    have ih := textFrom_le B ts (k + 1) (acc ++ (if k > 0 then ", " else "" : String) ++ t) fun x hx => h x (by simp [hx])
    have e : (acc ++ (if k > 0 then ", " else "" : String) ++ t).length ≤ acc.length + 2 + B := by
      rw [strLen_append, strLen_append]
      have := h t (by simp)
      have h2 : ((if k > 0 then ", " else "" : String) : Str).length ≤ 2 := by split <;> decide
      omega
    rw [textFrom, List.length_cons, Nat.add_mul]
    omega
theorem listText_le (B : Nat) (ts : List Str) (h : ∀ t ∈ ts, t.length ≤ B) : (listText ts).length ≤ 2 + ts.length * (B + 2) := by
  have := textFrom_le B ts 0 "[" h
  unfold listText
  rw [strLen_append]
  have h1 : (("[" : String) : Str).length = 1 := by decide
  have h2 : (("]" : String) : Str).length = 1 := by decide
  omega
theorem shownAll_map {α : Type} (g : α → PyData) : ∀ xs : List α, PyData.shownAll (xs.map g) = xs.map fun x => PyData.shown (g x)
  | [] => by simp [PyData.shownAll]
  | x :: xs => by simp [PyData.shownAll, shownAll_map g xs]
theorem shown_list_le {α : Type} (g : α → PyData) (B : Nat) (xs : List α) (h : ∀ x ∈ xs, (PyData.shown (g x)).length ≤ B) : (PyData.shown (.list (xs.map g))).length ≤ 2 + xs.length * (B + 2) := by
  have := listText_le B (PyData.shownAll (xs.map g)) (by
    rw [shownAll_map]
    intro t ht
    obtain ⟨x, hx, rfl⟩ := List.mem_map.mp ht
    exact h x hx)
  simp only [PyData.shown]
  rw [shownAll_map] at this ⊢
  simpa using this
theorem int_le : ∀ n < 64, (((toString ((n : Nat) : Int) : String) : Str)).length ≤ 3 ∧ (n.log2 < 1920) := by decide +kernel
def Sm (l : List Nat) : Prop := (∀ x ∈ l, x < 64) ∧ l.length ≤ 10000
def isP (l : List Nat) : PyData := .list (l.map fun n : Nat => PyData.int (n : Int))
theorem toPL_is (l : List Nat) : toPL (l.map iD) = some (l.map fun n : Nat => PyData.int (n : Int)) := by
  induction l with
  | nil => rfl
  | cons x l ih => simp only [List.map_cons, toPL, toP, ih]
theorem toP_is (l : List Nat) : toP (isD l) = some (isP l) := by
  simp only [isD, toP, toPL_is, Option.map_some, isP]
theorem is_shown (l : List Nat) (h : Sm l) : (PyData.shown (isP l)).length ≤ 50002 := by
  have := shown_list_le (fun n : Nat => PyData.int (n : Int)) 3 l fun x hx => by
    simp only [PyData.shown]
    exact (int_le x (h.1 x hx)).1
  have h2 := h.2
  unfold isP
  omega
theorem showAll_is (l : List Nat) (h : ∀ x ∈ l, x < 64) : PyData.showableAll (l.map fun n : Nat => PyData.int (n : Int)) = true := by
  induction l with
  | nil => rfl
  | cons x l ih =>
    have h1 := (int_le x (h x (by simp))).2
    simp only [List.map_cons, PyData.showableAll, PyData.showable, ih fun y hy => h y (by simp [hy]), Bool.and_true]
    exact decide_eq_true (by simpa using h1)
theorem depAll_is (l : List Nat) : PyData.depthAll (l.map fun n : Nat => PyData.int (n : Int)) = 0 := by
  induction l with
  | nil => rfl
  | cons x l ih => simp [PyData.depthAll, PyData.depth, ih]
theorem canAll_is (l : List Nat) : PyData.canLayAll0 (l.map fun n : Nat => PyData.int (n : Int)) = true := by
  induction l with
  | nil => rfl
  | cons x l ih => simp [PyData.canLayAll0, PyData.canLay0, ih]
theorem is_ok (l : List Nat) (h : Sm l) : okShow (isP l) := by
  have h1 := is_shown l h
  have hs := sl
  refine ⟨?_, ?_, by omega⟩
  · simp only [isP, PyData.showable]; exact showAll_is l h.1
  · simp only [isP, PyData.depth, depAll_is]; omega
theorem repr_is (l : List Nat) (h : Sm l) : dRepr [isD l] = some (.im (.str (PyData.shown (isP l)))) := by
  unfold dRepr
  simp only [toP_is]
  rw [if_pos (is_ok l h)]
/-- lists of such lists -/
def iissP (n : Nat) (l : List Nat) : PyData := .list (List.replicate n (isP l))
theorem toP_rep (n : Nat) (l : List Nat) : toP (.lst (List.replicate n (isD l))) = some (iissP n l) := by
  have : toPL (List.replicate n (isD l)) = some (List.replicate n (isP l)) := by
    induction n with
    | zero => rfl
    | succ n ih => simp only [List.replicate_succ, toPL, toP_is, ih]
  simp only [toP, this, Option.map_some, iissP]
theorem rep_ok (n : Nat) (hn : n ≤ 3) (l : List Nat) (h : Sm l) : okShow (iissP n l) := by
  have h1 := is_shown l h
  have hs := sl
  have h2 := shown_list_le (fun _ : Unit => isP l) 50002 (List.replicate n ()) (fun _ _ => h1)
  have e : (List.replicate n ()).map (fun _ : Unit => isP l) = List.replicate n (isP l) := by simp
  rw [e, List.length_replicate] at h2
  have h3 : n * (50002 + 2) ≤ 3 * 50004 := Nat.mul_le_mul_right _ hn
  have hok := is_ok l h
  refine ⟨?_, ?_, by unfold iissP; omega⟩
  · have : ∀ n, PyData.showableAll (List.replicate n (isP l)) = true := by
      intro n
      induction n with
      | zero => rfl
      | succ n ih => simp only [List.replicate_succ, PyData.showableAll, hok.1, ih, Bool.and_self]
    simp only [iissP, PyData.showable, this]
  · have : ∀ n, PyData.depthAll (List.replicate n (isP l)) ≤ 1 := by
      intro n
      induction n with
      | zero => simp [PyData.depthAll]
      | succ n ih =>
        have : PyData.depth (isP l) = 1 := by simp only [isP, PyData.depth, depAll_is]
        simp only [List.replicate_succ, PyData.depthAll, this]
        omega
    have := this n
    simp only [iissP, PyData.depth]
    omega
theorem repr_rep (n : Nat) (hn : n ≤ 3) (l : List Nat) (h : Sm l) : dRepr [.lst (List.replicate n (isD l))] = some (.im (.str (PyData.shown (iissP n l)))) := by
  unfold dRepr
  simp only [toP_rep]
  rw [if_pos (rep_ok n hn l h)]
theorem qrepr_rep (n : Nat) (hn : n ≤ 3) (l : List Nat) (h : Sm l) : qRepr [.lst (List.replicate n (isD l))] = some (.str (PyData.shown (iissP n l))) := by
  unfold qRepr
  simp only [toP_rep]
  rw [if_pos (rep_ok n hn l h)]
theorem eqD_is (l : List Nat) : eqD (isD l) (isD l) = some true := by
  have hc : (isP l).canLay0 = true := by simp only [isP, PyData.canLay0, canAll_is]
  have hs : SeqAt.shaped (isP l) = true := by
    unfold SeqAt.shaped
    rw [hc]
    simp only [isP, PyData.depth, depAll_is]
    decide
  have : eqD (isD l) (isD l) = (match toP (isD l), toP (isD l) with
    | some p, some q => if (SeqAt.shaped p && SeqAt.shaped q) = true then some (PyData.eqv p q) else none
    | _, _ => none) := rfl
  rw [this, toP_is]
  simp only [hs, Bool.and_self, if_true, SeqAt.eqv_refl _ hc]
theorem ne_is (l : List Nat) : dNe (isD l) (isD l) = some (.im (.bl false)) := by
  unfold dNe; rw [eqD_is]; rfl
theorem ne_str (x : Str) : dNe (.str x) (.str x) = some (.im (.bl false)) := by simp [dNe, eqD]
theorem eq_str (x : Str) : dEq (.str x) (.str x) = some (.im (.bl true)) := by simp [dEq, eqD]
/-- a comprehension of draws -/
theorem draws_gen {vs : List Nat} {g : D → S → Option S} {p : S → R (Bool × S)} {fe : EF} (P : Nat → Prop) (ρ : Int → Int → S) (h : ∀ d a b, ∃ c a' b', lcT vs g p fe d (ρ a b) = .ok (some (iD c), ρ a' b') ∧ P c) :
    ∀ (ds : List D) (acc : List D) (a b : Int), acc.length + ds.length ≤ sizeLine → ∃ (w : List Nat) (a' b' : Int), lcL vs g p fe ds acc (ρ a b) = .ok (acc ++ w.map iD, ρ a' b') ∧ w.length = ds.length ∧ ∀ c ∈ w, P c := by
  intro ds
  induction ds with
  | nil => intro acc a b _; exact ⟨[], a, b, by simp [lcL], rfl, by simp⟩
  | cons d ds ih =>
    intro acc a b hl
    obtain ⟨c, a1, b1, e, hc⟩ := h d a b
    obtain ⟨w, a', b', e2, hw, hm⟩ := ih (acc ++ [iD c]) a1 b1 (by simp at hl ⊢; omega)
    refine ⟨c :: w, a', b', ?_, by simp [hw], by simpa using ⟨hc, hm⟩⟩
    rw [lcL_cons d ds acc _ _ _ e (by simp at hl; omega)]
    simpa [List.append_assoc] using e2
/-- a draw, its bound as it is written -/
theorem draw_i (K : PySem.W.Frag) (a b s : Int) (h0 : 0 < s) (h1 : s ≤ 1000000) : ∃ (d : Nat) (a' b' : Int), F__law_draw K [pot a b, .int s] = .ok (iD d, [pot a' b']) ∧ (d : Int) < s := by
  obtain ⟨d, a', b', e, h2, h3⟩ := draw_ok K a b s h0 h1
  refine ⟨d.toNat, a', b', ?_, by omega⟩
  rw [e]
  have : ((d.toNat : Nat) : Int) = d := by omega
  simp only [iD, this]
end LW
set_option Elab.async false
set_option linter.all false
set_option maxRecDepth 100000
set_option maxHeartbeats 1000000
namespace LW
open PySem L2 BR
abbrev lT (A : List D) : BR.T := .lst (A.map .fz)
theorem ds_lT (A : List D) : BR.T.ds (A.map .fz) = A := by
  induction A with
  | nil => rfl
  | cons d A ih => simp only [List.map_cons, BR.T.ds, ih, BR.T.d]
section
variable {fa : EF} {p q : S → R (Bool × S)} {f g : SF} {ρ ρ1 : S} {b : Bool} {z : R (Fl × S)} {y : R (Bool × S)}
theorem tst_ok (a : fa ρ = .ok (.val (.bl b), ρ1)) : tstV fa ρ = .ok (b, ρ1) := by simp only [tstV, a, ok_bind]
theorem or_f (a : p ρ = .ok (false, ρ1)) (h : q ρ1 = y) : tOrF p q ρ = y := by
  simp only [tOrF, a, ok_bind, Bool.false_eq_true, if_false, h]
theorem or_t (a : p ρ = .ok (true, ρ1)) : tOrF p q ρ = .ok (true, ρ1) := by
  simp only [tOrF, a, ok_bind, if_true]
theorem not_ok (a : p ρ = .ok (b, ρ1)) : tNotF p ρ = .ok (!b, ρ1) := by simp only [tNotF, a, ok_bind]
theorem if_f (a : p ρ = .ok (false, ρ1)) (h : g ρ1 = z) : sIf p f g ρ = z := by
  simp only [sIf, a, ok_bind, Bool.false_eq_true, if_false, h]
theorem if_t (a : p ρ = .ok (true, ρ1)) (h : f ρ1 = z) : sIf p f g ρ = z := by
  simp only [sIf, a, ok_bind, if_true, h]
end
theorem d_lT (A : List D) : (lT A).d = .lst A := by
  show D.lst _ = _
  rw [ds_lT]
section
variable (K : PySem.W.Frag) (pt pD rD : D)
abbrev bst (s3 s4 s6 s7 s8 s9 : Option Sl) : S := [some (.io pt), some (.sh pD), some (.sh rD), s3, s4, none, s6, s7, s8, s9]
theorem br_4 (A B : List D) (s3 s6 s7 : Option Sl) (h1 : F_packed K [rD, .lst B] = .ok (.lst A, [])) (h2 : F_packed K [rD, .tup B] = .ok (.lst A, [])) :
    br4 K (bst pt pD rD s3 (some (.sh (.lst B))) s6 s7 none none) = .ok (.nx, bst pt pD rD s3 (some (.sh (.lst B))) s6 s7 (some (.dp (.lst [lT A, lT A, lT A]))) none) := by
  have hs : 3 ≤ sizeLine := by have := sl; omega
  have e1 : eCall true (F_packed K) (mSh (eVar 2) (mSh (eVar 4) (mNil))) (bst pt pD rD s3 (some (.sh (.lst B))) s6 s7 none none) = .ok (.tmp (.lst A), bst pt pD rD s3 (some (.sh (.lst B))) s6 s7 none none) := by simp [h1]
  have e2 : eCall true (F_packed K) (mSh (eVar 2) (mSh (eTupOf (hCons (eVar 4) (hNil))) (mNil))) (bst pt pD rD s3 (some (.sh (.lst B))) s6 s7 none none) = .ok (.tmp (.lst A), bst pt pD rD s3 (some (.sh (.lst B))) s6 s7 none none) := by simp [h2, eTupOf]
  have e3 : eCallSw true (F_packed K) (aCons (eV (eVar 4)) (aCons (eV (eVar 2)) (aNil))) (bst pt pD rD s3 (some (.sh (.lst B))) s6 s7 none none) = .ok (.tmp (.lst A), bst pt pD rD s3 (some (.sh (.lst B))) s6 s7 none none) := by simp [h1]
  refine asg_ok (h1 := .tpd (.lst [lT A, lT A, lT A])) (ρ1 := bst pt pD rD s3 (some (.sh (.lst B))) s6 s7 none none) ?_ (by simp)
  unfold eLstT BR.tCons
  rw [e1]
  simp only [ok_bind, normT, ofD, Option.map_some, ofO_some, e2, e3, BR.tNil, BR.tCons]
  simp [hs]
theorem deep_app (i : Nat) (ρ ρ' : S) (A : List D) (ts : List BR.T) (f : EF) (y : D) (h0 : ρ[i]? = some (some (.dp (.lst (lT A :: ts))))) (hf : f ρ = .ok (.val y, ρ)) (hl : A.length < sizeLine) (hv : eVar i ρ = .ok (.slot i, ρ)) :
    ∃ t', sAppT (eIxT (eVar i) (eK (.int 0))) f ρ = .ok (.nx, ρ.set i (some (.dp t'))) := by
  have ix : ixN (ts.length + 1) 0 = some 0 := by unfold ixN; simp
  have e1 : eIxT (eVar i) (eK (.int 0)) ρ = .ok (.sub i [0], ρ) := by
    simp only [eIxT, hv, ok_bind, eK, node, h0, ofO_some, kidL, asInt, List.length_cons, ix, List.getElem?_cons_zero, subH]
  have e2 : node (.sub i [0]) ρ = some (lT A) := by
    simp only [node, h0]
    rfl
  refine ⟨(BR.T.lst (lT A :: ts)).put [0] (.lst (A.map .fz ++ [.fz y])), ?_⟩
  simp only [sAppT, e1, ok_bind, e2, ofO_some, kidL, hf, normT, List.length_map, putT, h0]
  rw [decide_eq_true hl]
  rfl
theorem look_q (ts : List BR.T) (ds : List D) (h : BR.T.ds ts = ds) (i : Nat) (ρ : S) (h0 : ρ[i]? = some (some (.dp (.lst ts)))) : lookQ (.slot i) ρ = some (.lst ds) := by
  simp only [lookQ, h0, BR.T.d, h]
theorem br_5 (A B : List D) (X : Str) (s3 : Option Sl) (h1 : qRepr [.lst [.lst A, .lst A, .lst A]] = some (.str X)) (h2 : dRepr [.lst [.lst A, .lst A, .lst A]] = some (.im (.str X))) (h3 : dNe (.lst B) (.lst B) = some (.im (.bl false))) :
    br5 K (bst pt pD rD s3 (some (.sh (.lst B))) (some (.own (.lst A))) (some (.own (.lst B))) (some (.dp (.lst [lT A, lT A, lT A]))) none) = .ok (.nx, bst pt pD rD s3 (some (.sh (.lst B))) (some (.sh (.lst A))) (some (.own (.lst B))) (some (.dp (.lst [lT A, lT A, lT A]))) none) := by
  have hs : 3 ≤ sizeLine := by have := sl; omega
  have h4 := ne_str X
  have e1 : eCBq qRepr (eVar 8) (bst pt pD rD s3 (some (.sh (.lst B))) (some (.own (.lst A))) (some (.own (.lst B))) (some (.dp (.lst [lT A, lT A, lT A]))) none) = .ok (.val (.str X), bst pt pD rD s3 (some (.sh (.lst B))) (some (.own (.lst A))) (some (.own (.lst B))) (some (.dp (.lst [lT A, lT A, lT A]))) none) := by
    have e := look_q [lT A, lT A, lT A] [.lst A, .lst A, .lst A] (by simp only [BR.T.ds, d_lT]) 8 (bst pt pD rD s3 (some (.sh (.lst B))) (some (.own (.lst A))) (some (.own (.lst B))) (some (.dp (.lst [lT A, lT A, lT A]))) none) rfl
    have ev : eVar 8 (bst pt pD rD s3 (some (.sh (.lst B))) (some (.own (.lst A))) (some (.own (.lst B))) (some (.dp (.lst [lT A, lT A, lT A]))) none) = .ok (.slot 8, bst pt pD rD s3 (some (.sh (.lst B))) (some (.own (.lst A))) (some (.own (.lst B))) (some (.dp (.lst [lT A, lT A, lT A]))) none) := rfl
    simp only [eCBq, ev, ok_bind, e, ofO_some, h1]
  have e2 : eCB dRepr (hCons (eLst (aCons (eV (eVar 6)) (aCons (eV (eVar 6)) (aCons (eV (eVar 6)) (aNil))))) (hNil)) (bst pt pD rD s3 (some (.sh (.lst B))) (some (.own (.lst A))) (some (.own (.lst B))) (some (.dp (.lst [lT A, lT A, lT A]))) none) = .ok (.val (.str X), bst pt pD rD s3 (some (.sh (.lst B))) (some (.sh (.lst A))) (some (.own (.lst B))) (some (.dp (.lst [lT A, lT A, lT A]))) none) := by
    simp [hs, h2]
  have e3 : eOp2 dNe (eCBq qRepr (eVar 8)) (eCB dRepr (hCons (eLst (aCons (eV (eVar 6)) (aCons (eV (eVar 6)) (aCons (eV (eVar 6)) (aNil))))) (hNil))) (bst pt pD rD s3 (some (.sh (.lst B))) (some (.own (.lst A))) (some (.own (.lst B))) (some (.dp (.lst [lT A, lT A, lT A]))) none) = .ok (.val (.bl false), bst pt pD rD s3 (some (.sh (.lst B))) (some (.sh (.lst A))) (some (.own (.lst B))) (some (.dp (.lst [lT A, lT A, lT A]))) none) := e2_ok e1 e2 rfl rfl h4 rfl
  have e4 : eOp2 dNe (eVar 4) (eVar 7) (bst pt pD rD s3 (some (.sh (.lst B))) (some (.sh (.lst A))) (some (.own (.lst B))) (some (.dp (.lst [lT A, lT A, lT A]))) none) = .ok (.val (.bl false), bst pt pD rD s3 (some (.sh (.lst B))) (some (.sh (.lst A))) (some (.own (.lst B))) (some (.dp (.lst [lT A, lT A, lT A]))) none) := e2_ok rfl rfl rfl rfl h3 rfl
  exact if_f (or_f (tst_ok e3) (tst_ok e4)) rfl
theorem br_7 (A B : List D) (s3 s7 : Option Sl) (t8 : BR.T) (h1 : F_unpacked K [rD, .lst A] = .ok (.lst B, [])) (h2 : F_unpacked K [rD, .tup A] = .ok (.lst B, [])) :
    br7 K (bst pt pD rD s3 (some (.sh (.lst B))) (some (.sh (.lst A))) s7 (some (.dp t8)) none) = .ok (.nx, bst pt pD rD s3 (some (.sh (.lst B))) (some (.sh (.lst A))) s7 (some (.dp t8)) (some (.dp (.lst [lT B, lT B])))) := by
  have hs : 2 ≤ sizeLine := by have := sl; omega
  have e1 : eCall true (F_unpacked K) (mSh (eVar 2) (mSh (eVar 6) (mNil))) (bst pt pD rD s3 (some (.sh (.lst B))) (some (.sh (.lst A))) s7 (some (.dp t8)) none) = .ok (.tmp (.lst B), bst pt pD rD s3 (some (.sh (.lst B))) (some (.sh (.lst A))) s7 (some (.dp t8)) none) := by simp [h1]
  have e3 : eCallSw true (F_unpacked K) (aCons (eV (eTupOf (hCons (eVar 6) (hNil)))) (aCons (eV (eVar 2)) (aNil))) (bst pt pD rD s3 (some (.sh (.lst B))) (some (.sh (.lst A))) s7 (some (.dp t8)) none) = .ok (.tmp (.lst B), bst pt pD rD s3 (some (.sh (.lst B))) (some (.sh (.lst A))) s7 (some (.dp t8)) none) := by simp [h2, eTupOf]
  refine asg_ok (h1 := .tpd (.lst [lT B, lT B])) (ρ1 := bst pt pD rD s3 (some (.sh (.lst B))) (some (.sh (.lst A))) s7 (some (.dp t8)) none) ?_ (by simp)
  unfold eLstT BR.tCons
  rw [e1]
  simp only [ok_bind, normT, ofD, Option.map_some, ofO_some, e3, BR.tNil, BR.tCons]
  simp [hs]
theorem br_8 (A B : List D) (X Y : Str) (s3 s7 : Option Sl) (t8 : BR.T) (h1 : qRepr [.lst [.lst B, .lst B]] = some (.str X)) (h2 : dRepr [.lst [.lst B, .lst B]] = some (.im (.str X))) (h3 : F_packed K [rD, .lst B] = .ok (.lst A, [])) (h4 : dRepr [.lst A] = some (.im (.str Y))) :
    br8 K (bst pt pD rD s3 (some (.sh (.lst B))) (some (.sh (.lst A))) s7 (some (.dp t8)) (some (.dp (.lst [lT B, lT B])))) = .ok (.nx, bst pt pD rD s3 (some (.sh (.lst B))) (some (.sh (.lst A))) s7 (some (.dp t8)) (some (.dp (.lst [lT B, lT B])))) := by
  have hs : 2 ≤ sizeLine := by have := sl; omega
  generalize hρ : bst pt pD rD s3 (some (.sh (.lst B))) (some (.sh (.lst A))) s7 (some (.dp t8)) (some (.dp (.lst [lT B, lT B]))) = ρ
  have e1 : eCBq qRepr (eVar 9) ρ = .ok (.val (.str X), ρ) := by
    have e := look_q [lT B, lT B] [.lst B, .lst B] (by simp only [BR.T.ds, d_lT]) 9 ρ (by rw [← hρ]; rfl)
    have ev : eVar 9 ρ = .ok (.slot 9, ρ) := by rw [← hρ]; rfl
    simp only [eCBq, ev, ok_bind, e, ofO_some, h1]
  have e2 : eCB dRepr (hCons (eLst (aCons (eV (eVar 4)) (aCons (eV (eVar 4)) (aNil)))) (hNil)) ρ = .ok (.val (.str X), ρ) := by
    rw [← hρ]
    simp [hs, h2]
  have e3 : eCB dRepr (hCons (eCall true (F_packed K) (mSh (eVar 2) (mSh (eVar 4) (mNil)))) (hNil)) ρ = .ok (.val (.str Y), ρ) := by
    rw [← hρ]
    simp [h3, h4]
  have e4 : eCB dRepr (hCons (eVar 6) (hNil)) ρ = .ok (.val (.str Y), ρ) := by
    rw [← hρ]
    simp [h4]
  exact if_f (or_f (tst_ok (e2_ok e1 e2 rfl rfl (ne_str X) rfl)) (tst_ok (e2_ok e3 e4 rfl rfl (ne_str Y) rfl))) rfl
theorem br_10 (A B : List D) (X : Str) (s3 : Option Sl) (t8 t9 : BR.T) (h1 : F_unpacked K [rD, .lst A] = .ok (.lst B, [])) (h2 : dRepr [.lst B] = some (.im (.str X))) :
    br10 K (bst pt pD rD s3 (some (.sh (.lst B))) (some (.sh (.lst A))) (some (.own (.lst B))) (some (.dp t8)) (some (.dp t9))) = .ok (.rt (.val (.bl true)), bst pt pD rD s3 (some (.sh (.lst B))) (some (.sh (.lst A))) (some (.own (.lst B))) (some (.dp t8)) (some (.dp t9))) := by
  generalize hρ : bst pt pD rD s3 (some (.sh (.lst B))) (some (.sh (.lst A))) (some (.own (.lst B))) (some (.dp t8)) (some (.dp t9)) = ρ
  have e1 : eCB dRepr (hCons (eCall true (F_unpacked K) (mSh (eVar 2) (mSh (eVar 6) (mNil)))) (hNil)) ρ = .ok (.val (.str X), ρ) := by
    rw [← hρ]
    simp [h1, h2]
  have e2 : eCB dRepr (hCons (eVar 7) (hNil)) ρ = .ok (.val (.str X), ρ) := by
    rw [← hρ]
    simp [h2]
  have e := e2_ok e1 e2 rfl rfl (eq_str X) (z := .ok (.val (.bl true), ρ)) rfl
  simp only [br10, sRet, e, ok_bind]
end
/-! ### the draws ahead -/
section
variable (K : PySem.W.Frag) (a b : Int) (p q : Nat) (hp : 1 ≤ p) (hp6 : p ≤ 6)
include hp hp6
theorem br_1 : ∃ (n : Nat) (a' b' : Int), n ≤ 1000 ∧ br1 K (bst (pot a b) (iD p) (rateD K p q) none none none none none none) = .ok (.nx, bst (pot a' b') (iD p) (rateD K p q) (some (.sh (iD n))) none none none none none) := by
  have hs : 8 ≤ sizeLine := by have := sl; omega
  obtain ⟨d1, a1, b1, e1, h1⟩ := draw_i K a b 40 (by decide) (by decide)
  obtain ⟨d2, a2, b2, e2, h2⟩ := draw_i K a1 b1 40 (by decide) (by decide)
  obtain ⟨d3, a3, b3, e3, h3⟩ := draw_i K a2 b2 11 (by decide) (by decide)
  obtain ⟨d, a4, b4, e4, hd⟩ := pick_lst K a3 b3 [.int 0, .int 1, .int 2, .int ((p : Int) - 1), iD p, iD d1, iD d2, .int (990 + (d3 : Int))] (by simp) (by simp)
  have hn : ∃ n : Nat, n ≤ 1000 ∧ d = iD n := by
    simp only [List.mem_cons, List.not_mem_nil, or_false] at hd
    rcases hd with rfl | rfl | rfl | rfl | rfl | rfl | rfl | rfl
    · exact ⟨0, by omega, rfl⟩
    · exact ⟨1, by omega, rfl⟩
    · exact ⟨2, by omega, rfl⟩
    · exact ⟨p - 1, by omega, by congr 1; omega⟩
    · exact ⟨p, by omega, rfl⟩
    · exact ⟨d1, by omega, rfl⟩
    · exact ⟨d2, by omega, rfl⟩
    · exact ⟨990 + d3, by omega, by congr 1⟩
  obtain ⟨n, hn, rfl⟩ := hn
  refine ⟨n, a4, b4, hn, ?_⟩
  generalize rateD K p q = rD
  simp [e1, e2, e3, e4, hs]
omit hp hp6
theorem br_2 (n : Nat) (hn : n ≤ 1000) : ∃ (bs : List Nat) (a' b' : Int), bs.length = n ∧ Bits bs ∧ br2 K (bst (pot a b) (iD p) (rateD K p q) (some (.sh (iD n))) none none none none none) = .ok (.nx, bst (pot a' b') (iD p) (rateD K p q) (some (.sh (iD n))) (some (.own (isD bs))) none none none none) := by
  have hs := sl
  generalize rateD K p q = rD
  obtain ⟨w, a', b', e, hw, hP⟩ := draws_gen (vs := [5]) (g := gVar 5) (p := pYes) (fe := eCall false (F__law_draw K) (mIo (eVar 0) (mSh (eK (.int 2)) (mNil)))) (fun c => c < 2) (fun a b => bst (pot a b) (iD p) rD (some (.sh (iD n))) none none none none none) (fun d a b => by
    obtain ⟨c, a1, b1, e1, h1⟩ := draw_i K a b 2 (by decide) (by decide)
    exact ⟨c, a1, b1, by simp [e1], by omega⟩) (rngL 0 n) [] a b (by simp [rngL]; omega)
  rw [List.nil_append] at e
  have hl : (rngL 0 n).length = n := by simp [rngL]
  have rn := rngF_n n (by omega) (bst (pot a b) (iD p) rD (some (.sh (iD n))) none none none none none)
  refine ⟨w, a', b', by rw [hw, hl], hP, ?_⟩
  simp only [isD]
  generalize w.map iD = W at *
  generalize rngL 0 n = rr at *
  simp [rn, e]
theorem br_3 (pt rD : D) (A B : List D) (s3 : Option Sl) (h : F__law_packed K [.lst B, iD p] = .ok (.lst A, [])) : br3 K (bst pt (iD p) rD s3 (some (.own (.lst B))) none none none none) = .ok (.nx, bst pt (iD p) rD s3 (some (.sh (.lst B))) (some (.own (.lst A))) (some (.own (.lst B))) none none) := by
  have e : dList [.lst B] = some (.nw (.lst B)) := rfl
  generalize iD p = pD at *
  simp [h, e]
end
end LW
set_option Elab.async false
set_option linter.all false
set_option maxRecDepth 100000
set_option maxHeartbeats 1000000
namespace LW
open PySem L2 BR
theorem p64 {p : Nat} (hp6 : p ≤ 6) : 2 ^ p ≤ 64 := Nat.le_trans (Nat.pow_le_pow_right (by omega) hp6) (by decide)
theorem sm_bits {bs : List Nat} (h : Bits bs) (hl : bs.length ≤ 10000) : Sm bs := ⟨fun x hx => Nat.lt_of_lt_of_le (h x hx) (by omega), hl⟩
theorem sm_words {p : Nat} (hp6 : p ≤ 6) {ws : List Nat} (h : ∀ w ∈ ws, w < 2 ^ p) (hl : ws.length ≤ 10000) : Sm ws := ⟨fun x hx => Nat.lt_of_lt_of_le (h x hx) (p64 hp6), hl⟩
theorem both_right_ok (K : PySem.W.Frag) (a b : Int) (p q : Nat) (hp : 1 ≤ p) (hp6 : p ≤ 6) : ∃ a' b', F__law_both_right K [pot a b, iD p, rateD K p q] = .ok (.bl true, [pot a' b']) := by
  obtain ⟨n, a1, b1, hn, e1⟩ := br_1 K a b p q hp hp6
  obtain ⟨bs, a2, b2, hbl, hb, e2⟩ := br_2 K a1 b1 p q n hn
  have hl : bs.length ≤ 1000 := by omega
  have hm := many_le hp bs
  have hpl : (pack p bs).length ≤ 1001 := by rw [pack_len]; omega
  have lp := law_packed_ok K p bs hp hp6 (by omega)
  have k1 := packed_ok K p q (isD bs) bs rfl hp hp6 hl hb
  have k2 := packed_ok K p q (itD bs) bs rfl hp hp6 hl hb
  obtain ⟨ws, w, hw, hz⟩ := pack_last hp bs hb
  have hlt := pack_lt hp bs hb
  have hsp := spread_pack hp bs hb
  have u1 := unpacked_ok K p q (isD (pack p bs)) hp hp6 ws w (by rw [hw]; rfl) (by rw [← hw]; omega) (by rw [← hw]; exact hlt) hz bs (by rw [← hw]; exact hsp)
  have u2 := unpacked_ok K p q (itD (pack p bs)) hp hp6 ws w (by rw [hw]; rfl) (by rw [← hw]; omega) (by rw [← hw]; exact hlt) hz bs (by rw [← hw]; exact hsp)
  have sb := sm_bits hb (by omega)
  have sw := sm_words hp6 hlt (by omega)
  have r1 := qrepr_rep 3 (by decide) (pack p bs) sw
  have r2 := repr_rep 3 (by decide) (pack p bs) sw
  have r3 := qrepr_rep 2 (by decide) bs sb
  have r4 := repr_rep 2 (by decide) bs sb
  have r5 := repr_is (pack p bs) sw
  have r6 := repr_is bs sb
  have n1 := ne_is bs
  have hA : (pack p bs).map iD = ((pack p bs).map iD) := rfl
  have hAl : ((pack p bs).map iD).length < sizeLine := by have := sl; simp; omega
  have hBl : (bs.map iD).length < sizeLine := by have := sl; simp; omega
  simp only [isD, itD] at lp k1 k2 u1 u2 r1 r2 r3 r4 r5 r6 n1 e2
  generalize PyData.shown (iissP 3 (pack p bs)) = X3 at *
  generalize PyData.shown (iissP 2 bs) = X2 at *
  generalize PyData.shown (isP (pack p bs)) = XA at *
  generalize PyData.shown (isP bs) = XB at *
  generalize (pack p bs).map iD = A at *
  generalize bs.map iD = B at *
  have e3 := br_3 K p (pot a2 b2) (rateD K p q) A B (some (.sh (iD n))) lp
  have e4 := br_4 K (pot a2 b2) (iD p) (rateD K p q) A B (some (.sh (iD n))) (some (.own (.lst A))) (some (.own (.lst B))) k1 k2
  have e5 := br_5 K (pot a2 b2) (iD p) (rateD K p q) A B X3 (some (.sh (iD n))) r1 r2 n1
  obtain ⟨t8, e6⟩ := deep_app 8 (bst (pot a2 b2) (iD p) (rateD K p q) (some (.sh (iD n))) (some (.sh (.lst B))) (some (.sh (.lst A))) (some (.own (.lst B))) (some (.dp (.lst [lT A, lT A, lT A]))) none) (bst (pot a2 b2) (iD p) (rateD K p q) (some (.sh (iD n))) (some (.sh (.lst B))) (some (.sh (.lst A))) (some (.own (.lst B))) (some (.dp (.lst [lT A, lT A, lT A]))) none) A [lT A, lT A] (eK (.int 9)) (.int 9) rfl rfl hAl rfl
  have e7 := br_7 K (pot a2 b2) (iD p) (rateD K p q) A B (some (.sh (iD n))) (some (.own (.lst B))) t8 u1 u2
  have e8 := br_8 K (pot a2 b2) (iD p) (rateD K p q) A B X2 XA (some (.sh (iD n))) (some (.own (.lst B))) t8 r3 r4 k1 r5
  obtain ⟨t9, e9⟩ := deep_app 9 (bst (pot a2 b2) (iD p) (rateD K p q) (some (.sh (iD n))) (some (.sh (.lst B))) (some (.sh (.lst A))) (some (.own (.lst B))) (some (.dp t8)) (some (.dp (.lst [lT B, lT B])))) (bst (pot a2 b2) (iD p) (rateD K p q) (some (.sh (iD n))) (some (.sh (.lst B))) (some (.sh (.lst A))) (some (.own (.lst B))) (some (.dp t8)) (some (.dp (.lst [lT B, lT B])))) B [lT B] (eK (.int 1)) (.int 1) rfl rfl hBl rfl
  have e10 := br_10 K (pot a2 b2) (iD p) (rateD K p q) A B XB (some (.sh (iD n))) t8 t9 u1 r6
  have hB : B__law_both_right K (bst (pot a b) (iD p) (rateD K p q) none none none none none none) = .ok (.rt (.val (.bl true)), bst (pot a2 b2) (iD p) (rateD K p q) (some (.sh (iD n))) (some (.sh (.lst B))) (some (.sh (.lst A))) (some (.own (.lst B))) (some (.dp t8)) (some (.dp t9))) := by
    rw [br_all]
    exact (seq_step e1).trans ((seq_step e2).trans ((seq_step e3).trans ((seq_step e4).trans ((seq_step e5).trans ((seq_step e6).trans ((seq_step e7).trans ((seq_step e8).trans ((seq_step e9).trans e10))))))))
  have hR : F__law_both_right K [pot a b, iD p, rateD K p q] = (B__law_both_right K (bst (pot a b) (iD p) (rateD K p q) none none none none none none) >>= fun z => ofO (flH z.1) >>= fun h => ofO (finH false h z.2) >>= fun y => ofO (ioOut [true, false, false] 0 y.2) >>= fun o => .ok (y.1, o)) := rfl
  refine ⟨a2, b2, ?_⟩
  rw [hR, hB]
  rfl
/-! ### lambdas -/
section
variable {n : Nat} {bt : TB0} {fb : EF} {ρ ρ1 : S} {x : Exc} {y d : D} {is : List Nat} {f : EF} {z : R (Hd × S)}
theorem lam_exc (hf : fb (shO ρ) = .exc x) (ht : runT n bt (.exc x) = .ok d) : eLam n bt fb ρ = .ok (.val d, ρ) := by
  have : thk fb ρ = .exc x := by simp only [thk, eV, hf, exc_bind]
  unfold eLam
  rw [this, ht]
  rfl
theorem lam_ok (hf : fb (shO ρ) = .ok (.tmp y, ρ1)) (ht : runT n bt (.ok y) = .ok d) : eLam n bt fb ρ = .ok (.val d, ρ) := by
  have : thk fb ρ = .ok y := by simp only [thk, eV, hf, ok_bind, share, ofO_some]
  unfold eLam
  rw [this, ht]
  rfl
theorem frz_eq (h : frz is ρ = .ok ρ1) (e : f ρ1 = z) : eFrz is f ρ = z := by
  unfold eFrz
  rw [h]
  exact e
end
end LW
set_option Elab.async false
set_option linter.all false
set_option maxRecDepth 100000
set_option maxHeartbeats 1000000
namespace LW
open PySem L2 BR
abbrev tst (pt pD rD : D) (s3 s4 s6 : Option Sl) : S := [some (.io pt), some (.sh pD), some (.sh rD), s3, s4, none, s6]
section
variable (K : PySem.W.Frag) (a b : Int) (p q : Nat) (hp : 1 ≤ p) (hp6 : p ≤ 6) (rD : D)
theorem tr_1 (pD : D) : ∃ (n : Nat) (a' b' : Int), 1 ≤ n ∧ n ≤ 1200 ∧ tr1 K (tst (pot a b) pD rD none none none) = .ok (.nx, tst (pot a' b') pD rD (some (.sh (iD n))) none none) := by
  have hs : 6 ≤ sizeLine := by have := sl; omega
  obtain ⟨d1, a1, b1, e1, h1⟩ := draw_i K a b 30 (by decide) (by decide)
  obtain ⟨d2, a2, b2, e2, h2⟩ := draw_i K a1 b1 30 (by decide) (by decide)
  obtain ⟨d3, a3, b3, e3, h3⟩ := draw_i K a2 b2 30 (by decide) (by decide)
  obtain ⟨d, a4, b4, e4, hd⟩ := pick_lst K a3 b3 [.int 1, .int 2, .int (1 + (d1 : Int)), .int (1 + (d2 : Int)), .int (1 + (d3 : Int)), .int 1200] (by simp) (by simp)
  have hn : ∃ n : Nat, 1 ≤ n ∧ n ≤ 1200 ∧ d = iD n := by
    simp only [List.mem_cons, List.not_mem_nil, or_false] at hd
    rcases hd with rfl | rfl | rfl | rfl | rfl | rfl
    · exact ⟨1, by omega, by omega, rfl⟩
    · exact ⟨2, by omega, by omega, rfl⟩
    · exact ⟨1 + d1, by omega, by omega, by congr 1⟩
    · exact ⟨1 + d2, by omega, by omega, by congr 1⟩
    · exact ⟨1 + d3, by omega, by omega, by congr 1⟩
    · exact ⟨1200, by omega, by omega, rfl⟩
  obtain ⟨n, h4, h5, rfl⟩ := hn
  refine ⟨n, a4, b4, h4, h5, ?_⟩
  simp [e1, e2, e3, e4, hs]
include hp6
theorem tr_2 (n : Nat) (hn : n ≤ 1200) : ∃ (ws : List Nat) (a' b' : Int), ws.length = n ∧ (∀ w ∈ ws, w < 2 ^ p) ∧ tr2 K (tst (pot a b) (iD p) rD (some (.sh (iD n))) none none) = .ok (.nx, tst (pot a' b') (iD p) rD (some (.sh (iD n))) (some (.own (isD ws))) none) := by
  have hs := sl
  have c1 := shl_d p hp6
  have hpos : 0 < 2 ^ p := Nat.two_pow_pos p
  have hle := p64 hp6
  obtain ⟨w, a', b', e, hw, hP⟩ := draws_gen (vs := [5]) (g := gVar 5) (p := pYes) (fe := eCall false (F__law_draw K) (mIo (eVar 0) (mSh (eOp2 (dIc CPow fun i j => i * 2 ^ j.toNat) (eK (.int 1)) (eVar 1)) (mNil)))) (fun c => c < 2 ^ p) (fun a b => tst (pot a b) (iD p) rD (some (.sh (iD n))) none none) (fun d a b => by
    obtain ⟨c, a1, b1, e1, h1⟩ := draw_n K a b (2 ^ p) hpos (by omega)
    generalize hP2 : iD (2 ^ p) = P at *
    have c1' : dIc CPow (fun i j => i * 2 ^ j.toNat) (.int 1) (.int (p : Int)) = some (.im P) := c1.trans (by rw [← hP2])
    exact ⟨c, a1, b1, by simp [e1, c1'], h1⟩) (rngL 0 n) [] a b (by simp [rngL]; omega)
  rw [List.nil_append] at e
  have hl : (rngL 0 n).length = n := by simp [rngL]
  have rn := rngF_n n (by omega) (tst (pot a b) (iD p) rD (some (.sh (iD n))) none none)
  refine ⟨w, a', b', by rw [hw, hl], hP, ?_⟩
  simp only [isD]
  generalize w.map iD = W at *
  generalize rngL 0 n = rr at *
  simp [rn, e]
include hp
theorem tr_3 (n : Nat) (ws : List Nat) (w0 : Nat) (hw : ∀ x ∈ ws ++ [w0], x < 2 ^ p) : ∃ (w : Nat) (a' b' : Int), w < 2 ^ p ∧ tr3 K (tst (pot a b) (iD p) rD (some (.sh (iD n))) (some (.own (isD (ws ++ [w0])))) none) = .ok (.nx, tst (pot a' b') (iD p) rD (some (.sh (iD n))) (some (.own (isD (ws ++ [w])))) none) := by
  have hs : 4 ≤ sizeLine := by have := sl; omega
  obtain ⟨d1, a1, b1, e1, h1⟩ := draw_i K a b 3 (by decide) (by decide)
  have hle := p64 hp6
  have hpos : 0 < 2 ^ p := Nat.two_pow_pos p
  have h2 : 2 ≤ 2 ^ p := by
    have : 2 ^ 1 ≤ 2 ^ p := Nat.pow_le_pow_right (by omega) hp
    simpa using this
  have h3 : 2 ^ (p - 1) < 2 ^ p := Nat.pow_lt_pow_right (by omega) (by omega)
  have c1 := shl_d p hp6
  have c2 : dIc CPow (fun i j => i * 2 ^ j.toNat) (.int 1) (.int ((p : Int) - 1)) = some (.im (iD (2 ^ (p - 1)))) := by
    have c0 : dIc CPow (fun i j => i * 2 ^ j.toNat) (.int 1) (.int ((p : Int) - 1)) = some (.im (.int (1 * 2 ^ ((p : Int) - 1).toNat))) := dIc_ok (by unfold CPow; omega)
    have ht : ((p : Int) - 1).toNat = p - 1 := by omega
    rw [c0, ht]
    simp [iD]
  obtain ⟨d, a4, b4, e4, hd⟩ := pick_lst K a1 b1 [.int 0, .int 1, .int (((2 ^ p : Nat) : Int) - 1), iD (2 ^ (p - 1))] (by simp) (by simp)
  have hn : ∃ w : Nat, w < 2 ^ p ∧ d = iD w := by
    simp only [List.mem_cons, List.not_mem_nil, or_false] at hd
    rcases hd with rfl | rfl | rfl | rfl
    · exact ⟨0, by omega, rfl⟩
    · exact ⟨1, by omega, rfl⟩
    · exact ⟨2 ^ p - 1, by omega, by congr 1; omega⟩
    · exact ⟨2 ^ (p - 1), h3, rfl⟩
  obtain ⟨w, hwl, rfl⟩ := hn
  have et : tstV (eOp2 dEq (eCall false (F__law_draw K) (mIo (eVar 0) (mSh (eK (.int 3)) (mNil)))) (eK (.int 0))) (tst (pot a b) (iD p) rD (some (.sh (iD n))) (some (.own (isD (ws ++ [w0])))) none) = .ok (decide (d1 = 0), tst (pot a1 b1) (iD p) rD (some (.sh (iD n))) (some (.own (isD (ws ++ [w0])))) none) := by
    have e2 : dEq (iD d1) (.int 0) = some (.im (.bl (decide (d1 = 0)))) := by simp [dEq, eqD]
    generalize isD (ws ++ [w0]) = L
    generalize hd1 : iD d1 = dd at *
    refine tst_ok (e2_ok (h1 := .val dd) (ρ1 := tst (pot a1 b1) (iD p) rD (some (.sh (iD n))) (some (.own L)) none) ?_ rfl rfl rfl e2 rfl)
    simp [e1]
  by_cases hz : d1 = 0
  · rw [decide_eq_true hz] at et
    refine ⟨w, a4, b4, hwl, if_t et ?_⟩
    have c1' : dIc CPow (fun i j => i * 2 ^ j.toNat) (.int 1) (iD p) = some (.im (iD (2 ^ p))) := c1
    have hl : (ws ++ [w0]).length = ws.length + 1 := by simp
    have ix : ixN ((ws ++ [w0]).map iD).length (-1) = some ws.length := by
      rw [List.length_map, hl]
      unfold ixN
      rw [if_neg (by decide), if_pos (by omega)]
      congr 1
      omega
    have hset : ((ws ++ [w0]).map iD).set ws.length (iD w) = (ws ++ [w]).map iD := by
      rw [← List.map_set]
      congr 1
      simp
    have ev : eCall false (F__law_pick K) (mIo (eVar 0) (mSh (eLst (aCons (eV (eK (.int 0))) (aCons (eV (eK (.int 1))) (aCons (eV (eOp2 (dI fun i j => .int (i - j)) (eOp2 (dIc CPow fun i j => i * 2 ^ j.toNat) (eK (.int 1)) (eVar 1)) (eK (.int 1)))) (aCons (eV (eOp2 (dIc CPow fun i j => i * 2 ^ j.toNat) (eK (.int 1)) (eOp2 (dI fun i j => .int (i - j)) (eVar 1) (eK (.int 1))))) (aNil)))))) (mNil))) (tst (pot a1 b1) (iD p) rD (some (.sh (iD n))) (some (.own (isD (ws ++ [w0])))) none) = .ok (.val (iD w), tst (pot a4 b4) (iD p) rD (some (.sh (iD n))) (some (.own (isD (ws ++ [w0])))) none) := by
      generalize isD (ws ++ [w0]) = L
      generalize hρ : tst (pot a1 b1) (iD p) rD (some (.sh (iD n))) (some (.own L)) none = ρ
      have x1 : eOp2 (dI fun i j => .int (i - j)) (eOp2 (dIc CPow fun i j => i * 2 ^ j.toNat) (eK (.int 1)) (eVar 1)) (eK (.int 1)) ρ = .ok (.val (.int (((2 ^ p : Nat) : Int) - 1)), ρ) := by
        rw [← hρ]
        exact e2_ok (e2_ok rfl rfl rfl rfl c1' rfl) rfl rfl rfl rfl rfl
      have x2 : eOp2 (dIc CPow fun i j => i * 2 ^ j.toNat) (eK (.int 1)) (eOp2 (dI fun i j => .int (i - j)) (eVar 1) (eK (.int 1))) ρ = .ok (.val (iD (2 ^ (p - 1))), ρ) := by
        rw [← hρ]
        exact e2_ok rfl (e2_ok rfl rfl rfl rfl rfl rfl) rfl rfl c2 rfl
      generalize eOp2 (dI fun i j => .int (i - j)) (eOp2 (dIc CPow fun i j => i * 2 ^ j.toNat) (eK (.int 1)) (eVar 1)) (eK (.int 1)) = f1 at *
      generalize eOp2 (dIc CPow fun i j => i * 2 ^ j.toNat) (eK (.int 1)) (eOp2 (dI fun i j => .int (i - j)) (eVar 1) (eK (.int 1))) = f2 at *
      generalize (.int (((2 ^ p : Nat) : Int) - 1) : D) = v1 at *
      generalize iD (2 ^ (p - 1)) = v2 at *
      subst hρ
      simp [x1, x2, hs, e4]
    generalize eCall false (F__law_pick K) _ = fp at *
    simp only [isD] at ev ⊢
    rw [← hset]
    generalize (ws ++ [w0]).map iD = L at *
    simp [ev, ix]
  · rw [decide_eq_false hz] at et
    exact ⟨w0, a1, b1, hw w0 (by simp), if_f et rfl⟩
end
end LW
set_option Elab.async false
set_option linter.all false
set_option maxRecDepth 100000
set_option maxHeartbeats 1000000
namespace LW
open PySem L2 BR
abbrev tlP (t : Str) (n : Nat) : PyData := .list [.str t, .int (n : Int), .bool true]
theorem eq_told (t : Str) (ht : PyData.strOk t = true) (n : Nat) : dEq (.lst [.str t, iD n, .bl true]) (.lst [.str t, iD n, .bl true]) = some (.im (.bl true)) := by
  have hc : (tlP t n).canLay0 = true := by simp only [PyData.canLay0, PyData.canLayAll0, ht, Bool.and_self]
  have hs : SeqAt.shaped (tlP t n) = true := by
    unfold SeqAt.shaped
    rw [hc]
    simp only [PyData.depth, PyData.depthAll]
    rfl
  have h1 : toP (.lst [.str t, iD n, .bl true]) = some (tlP t n) := by simp only [toP, toPL, Option.map_some]
  have : eqD (.lst [.str t, iD n, .bl true]) (.lst [.str t, iD n, .bl true]) = (match toP (.lst [.str t, iD n, .bl true]), toP (.lst [.str t, iD n, .bl true]) with
    | some p, some q => if (SeqAt.shaped p && SeqAt.shaped q) = true then some (PyData.eqv p q) else none
    | _, _ => none) := rfl
  unfold dEq
  rw [this, h1]
  simp only [hs, Bool.and_self, if_true, SeqAt.eqv_refl _ hc]
  rfl
theorem call_exc {own : Bool} {F : FT} {g : S → R (List Hd × S)} {ρ ρ1 : S} {zs : List Hd} {ds : List D} {x : Exc} (hg : g ρ = .ok (zs, ρ1)) (hl : lookM zs ρ1 = some ds) (hF : F ds = .exc x) : eCall own F g ρ = .exc { x with st := forget zs ρ1 } := by
  simp only [eCall, hg, ok_bind, hl, ofO_some, hF, raiseAt, exc_bind]
section
variable {K : PySem.W.Frag} {mg : Str → Option Value}
theorem tr_test (pt pD rD : D) (ws : List Nat) (w : Nat) (s3 : Option Sl) : tstV (eOp2 dEq (eOp2 dIx (eVar 4) (eOp1 dNeg (eK (.int 1)))) (eK (.int 0))) (tst pt pD rD s3 (some (.own (isD (ws ++ [w])))) none) = .ok (decide (w = 0), tst pt pD rD s3 (some (.own (isD (ws ++ [w])))) none) := by
  have e1 : dIx (isD (ws ++ [w])) (.int (-1)) = some (.im (iD w)) := last_ix _ (ws.map iD) (iD w) (by simp [seqOf])
  have e2 : dEq (iD w) (.int 0) = some (.im (.bl (decide (w = 0)))) := by simp [dEq, eqD]
  exact tst_ok (e2_ok (e2_ok rfl (e1_ok rfl rfl rfl rfl) rfl rfl e1 rfl) rfl rfl rfl e2 rfl)
/-- told, in a comparison -/
theorem tr_4z (m : M K mg) (pt pD : D) (p q : Nat) (hp6 : p ≤ 6) (ws : List Nat) (hl : ws.length < 1200) (hw : ∀ x ∈ ws, x < 2 ^ p) : ∃ ρ, tr4 K (tst pt pD (rateD K p q) (some (.sh (iD (ws.length + 1)))) (some (.own (isD (ws ++ [0])))) none) = .ok (.rt (.val (.bl true)), ρ) ∧ ioOut [true, false, false] 0 ρ = some ([pt]) := by
  have et := tr_test pt pD (rateD K p q) ws 0 (some (.sh (iD (ws.length + 1))))
  obtain ⟨st, eu⟩ := unpacked_zero K p q hp6 ws hl hw
  generalize rateD K p q = rD at *
  have hs : 3 ≤ sizeLine := by have := sl; omega
  refine ⟨tst pt pD rD (some (.sh (iD (ws.length + 1)))) (some (.sh (isD (ws ++ [0])))) none, if_t (by rw [et]; rfl) ?_, rfl⟩
  generalize isD (ws ++ [0]) = L at *
  have ec : ∃ st, eCall true (F_unpacked K) (mSh (eVar 2) (mSh (eVar 4) (mNil))) (shO (tst pt pD rD (some (.sh (iD (ws.length + 1)))) (some (.sh L)) none)) = .exc ⟨.ref (He.ga K "InvalidText"), ["position"], [iD ws.length], st⟩ := by
    exact ⟨_, call_exc rfl rfl eu⟩
  obtain ⟨st2, ec⟩ := ec
  have el := lam_exc (n := 3) ec (told_text m (iD ws.length) st2)
  have ef : eFrz [2, 4] (eLam 3 (B__law_told K) (eCall true (F_unpacked K) (mSh (eVar 2) (mSh (eVar 4) (mNil))))) (tst pt pD rD (some (.sh (iD (ws.length + 1)))) (some (.own L)) none) = .ok (.val (.lst [.str "words", iD ws.length, .bl true]), tst pt pD rD (some (.sh (iD (ws.length + 1)))) (some (.sh L)) none) := frz_eq rfl el
  have en : (.int (((ws.length + 1 : Nat) : Int) - 1) : D) = iD ws.length := by congr 1; omega
  have eL : eLst (aCons (eV (eK (.str "words"))) (aCons (eV (eOp2 (dI fun i j => .int (i - j)) (eVar 3) (eK (.int 1)))) (aCons (eV (eK (.bl true))) (aNil)))) (tst pt pD rD (some (.sh (iD (ws.length + 1)))) (some (.sh L)) none) = .ok (.tmp (.lst [.str "words", iD ws.length, .bl true]), tst pt pD rD (some (.sh (iD (ws.length + 1)))) (some (.sh L)) none) := by
    have ex : eOp2 (dI fun i j => .int (i - j)) (eVar 3) (eK (.int 1)) (tst pt pD rD (some (.sh (iD (ws.length + 1)))) (some (.sh L)) none) = .ok (.val (iD ws.length), tst pt pD rD (some (.sh (iD (ws.length + 1)))) (some (.sh L)) none) := by
      rw [← en]
      exact e2_ok rfl rfl rfl rfl rfl rfl
    generalize eOp2 (dI fun i j => .int (i - j)) (eVar 3) (eK (.int 1)) = f1 at *
    generalize iD ws.length = v at *
    simp [ex, hs]
  have e := e2_ok ef eL rfl rfl (eq_told "words" (by decide +kernel) ws.length) (z := .ok (.val (.bl true), tst pt pD rD (some (.sh (iD (ws.length + 1)))) (some (.sh L)) none)) rfl
  simp only [sRet, e, ok_bind]
theorem tr_5 (pt pD rD : D) (A B : List D) (s3 : Option Sl) (h : F__law_unpacked K [.lst A, pD] = .ok (.lst B, [])) : tr5 K (tst pt pD rD s3 (some (.own (.lst A))) none) = .ok (.nx, tst pt pD rD s3 (some (.sh (.lst A))) (some (.own (.lst B)))) := by
  simp [h]
theorem tr_6 (pt pD rD : D) (A B : List D) (X : Str) (s3 : Option Sl) (h : F_unpacked K [rD, .lst A] = .ok (.lst B, [])) (h2 : dRepr [.lst B] = some (.im (.str X))) : tr6 K (tst pt pD rD s3 (some (.sh (.lst A))) (some (.own (.lst B)))) = .ok (.nx, tst pt pD rD s3 (some (.sh (.lst A))) (some (.own (.lst B)))) := by
  have hn := ne_str X
  simp [h, h2, hn]
theorem tr_7a (pt pD rD : D) (A B : List D) (s3 : Option Sl) (h : 1000 < B.length) : tr7 K (tst pt pD rD s3 (some (.sh (.lst A))) (some (.own (.lst B)))) = .ok (.rt (.val (.bl true)), tst pt pD rD s3 (some (.sh (.lst A))) (some (.own (.lst B)))) := by
  have : (1000 : Int) < (B.length : Int) := by omega
  simp [this]
theorem tr_7b (pt pD rD : D) (A B : List D) (Y : Str) (s3 : Option Sl) (h : B.length ≤ 1000) (h1 : F_packed K [rD, .lst B] = .ok (.lst A, [])) (h2 : dRepr [.lst A] = some (.im (.str Y))) : tr7 K (tst pt pD rD s3 (some (.sh (.lst A))) (some (.own (.lst B)))) = .ok (.rt (.val (.bl true)), tst pt pD rD s3 (some (.sh (.lst A))) (some (.sh (.lst B)))) := by
  have : ¬ (1000 : Int) < (B.length : Int) := by omega
  have hn := eq_str Y
  simp [this, h1, h2, hn]
end
theorem texts_right_ok {K : PySem.W.Frag} {mg : Str → Option Value} (m : M K mg) (a b : Int) (p q : Nat) (hp : 1 ≤ p) (hp6 : p ≤ 6) : ∃ a' b', F__law_texts_right K [pot a b, iD p, rateD K p q] = .ok (.bl true, [pot a' b']) := by
  have hR : F__law_texts_right K [pot a b, iD p, rateD K p q] = (B__law_texts_right K (tst (pot a b) (iD p) (rateD K p q) none none none) >>= fun z => ofO (flH z.1) >>= fun h => ofO (finH false h z.2) >>= fun y => ofO (ioOut [true, false, false] 0 y.2) >>= fun o => .ok (y.1, o)) := rfl
  have fin : ∀ (a' b' : Int) (ρ : S), B__law_texts_right K (tst (pot a b) (iD p) (rateD K p q) none none none) = .ok (.rt (.val (.bl true)), ρ) → ioOut [true, false, false] 0 ρ = some [pot a' b'] → ∃ a' b', F__law_texts_right K [pot a b, iD p, rateD K p q] = .ok (.bl true, [pot a' b']) := by
    intro a' b' ρ h1 h2
    refine ⟨a', b', ?_⟩
    rw [hR, h1]
    simp only [ok_bind, flH, ofO_some, finH, share, h2]
  obtain ⟨n, a1, b1, hn1, hn2, e1⟩ := tr_1 K a b (rateD K p q) (iD p)
  obtain ⟨ws', a2, b2, hwl, hw', e2⟩ := tr_2 K a1 b1 p hp6 (rateD K p q) n hn2
  obtain ⟨ws, w0, rfl, hws⟩ := snoc_cases ws' (n - 1) (by omega)
  obtain ⟨w, a3, b3, hw, e3⟩ := tr_3 K a2 b2 p hp hp6 (rateD K p q) n ws w0 hw'
  have hws2 : ∀ x ∈ ws, x < 2 ^ p := fun x hx => hw' x (by simp [hx])
  have hall : ∀ x ∈ ws ++ [w], x < 2 ^ p := by
    intro x hx
    rcases List.mem_append.mp hx with hx | hx
    · exact hws2 x hx
    · simp at hx; subst hx; exact hw
  by_cases hz : w = 0
  · subst hz
    have hn : n = ws.length + 1 := by omega
    subst hn
    obtain ⟨ρ, e4, hio⟩ := tr_4z m (pot a3 b3) (iD p) p q hp6 ws (by omega) hws2
    refine fin a3 b3 ρ ?_ hio
    rw [tr_all, seq_step e1, seq_step e2, seq_step e3]
    rw [sSeq, e4]
    rfl
  · obtain ⟨bs, hsp, hbl, hmany⟩ := spread_end hp ws w hw hz
    have hlen : (ws ++ [w]).length = ws.length + 1 := by simp
    have hb : Bits bs := by
      intro x hx
      refine spread_bits p (ws ++ [w]) x ?_
      rw [hsp]
      simp [filled, hx]
    have hb6 : (ws.length + 1) * p ≤ 1200 * 6 := Nat.mul_le_mul (by omega) hp6
    have lu := law_unpacked_ok K p hp hp6 (ws ++ [w]) (by omega) bs hsp
    have u1 := unpacked_ok K p q (isD (ws ++ [w])) hp hp6 ws w rfl (by omega) hall hz bs hsp
    have r1 := repr_is bs (sm_bits hb (by omega))
    have r2 := repr_is (ws ++ [w]) (sm_words hp6 hall (by omega))
    have e4 : tr4 K (tst (pot a3 b3) (iD p) (rateD K p q) (some (.sh (iD n))) (some (.own (isD (ws ++ [w])))) none) = .ok (.nx, tst (pot a3 b3) (iD p) (rateD K p q) (some (.sh (iD n))) (some (.own (isD (ws ++ [w])))) none) :=
      if_f (by rw [tr_test, decide_eq_false hz]) rfl
    have hps := pack_spread hp (ws ++ [w]) bs hsp (by rw [hmany, hlen]) hall
    have pk : bs.length ≤ 1000 → F_packed K [rateD K p q, isD bs] = .ok (isD (ws ++ [w]), []) := fun h => by
      have := packed_ok K p q (isD bs) bs rfl hp hp6 h hb
      rw [hps] at this
      exact this
    have hBl : (bs.map iD).length = bs.length := by simp
    simp only [isD] at lu u1 r1 r2 pk e3 e4
    generalize PyData.shown (isP bs) = X at *
    generalize PyData.shown (isP (ws ++ [w])) = Y at *
    generalize (ws ++ [w]).map iD = A at *
    generalize bs.map iD = B at *
    have e5 := tr_5 (pot a3 b3) (iD p) (rateD K p q) A B (some (.sh (iD n))) lu
    have e6 := tr_6 (pot a3 b3) (iD p) (rateD K p q) A B X (some (.sh (iD n))) u1 r1
    by_cases hg : bs.length ≤ 1000
    · have e7 := tr_7b (pot a3 b3) (iD p) (rateD K p q) A B Y (some (.sh (iD n))) (by omega) (pk hg) r2
      have hBB := (seq_step e1).trans ((seq_step e2).trans ((seq_step e3).trans ((seq_step e4).trans ((seq_step e5).trans ((seq_step e6).trans e7)))))
      exact fin a3 b3 _ ((congrFun (tr_all K) _).trans hBB) rfl
    · have e7 := tr_7a (K := K) (pot a3 b3) (iD p) (rateD K p q) A B (some (.sh (iD n))) (by omega)
      have hBB := (seq_step e1).trans ((seq_step e2).trans ((seq_step e3).trans ((seq_step e4).trans ((seq_step e5).trans ((seq_step e6).trans e7)))))
      exact fin a3 b3 _ ((congrFun (tr_all K) _).trans hBB) rfl
end LW
set_option Elab.async false
set_option linter.all false
set_option maxRecDepth 100000
set_option maxHeartbeats 1000000
namespace LW
open PySem L2 BR
abbrev rfs (pt pD rD : D) (s3 s4 s5 s7 s8 s9 s10 s11 s12 s13 s14 : Option Sl) : S := [some (.io pt), some (.sh pD), some (.sh rD), s3, s4, s5, none, s7, s8, s9, s10, s11, s12, s13, s14]
/-- what is no rate -/
def oddL (pD : D) : List D := [.non, .int 0, .tup [pD, pD], .str "1:1", .lst [], .bl true]
theorem odd_pl {p : Nat} {d : D} (h : d ∈ oddL (iD p)) : plD d = true := by
  simp only [oddL, List.mem_cons, List.not_mem_nil, or_false] at h
  rcases h with rfl | rfl | rfl | rfl | rfl | rfl <;> rfl
theorem many_of (x n : Nat) (h : n ≤ 100000) : ∃ zs : List D, dMulI (.lst [iD x]) (.int (n : Int)) = some (.nw (.lst zs)) ∧ zs.length = n := ⟨_, reps x n h, by simp⟩
section
variable (K : PySem.W.Frag) (a b : Int) (pD rD : D) (s3 s4 s5 s7 s8 s9 s10 s11 s12 s13 s14 : Option Sl)
theorem rf_1 : ∃ (d : D) (a' b' : Int), d ∈ oddL pD ∧ rf1 K (rfs (pot a b) pD rD none none none none none none none none none none none) = .ok (.nx, rfs (pot a' b') pD rD (some (.sh d)) none none none none none none none none none none) := by
  have hs : 6 ≤ sizeLine := by have := sl; omega
  have hs2 : 2 ≤ sizeLine := by omega
  obtain ⟨d, a1, b1, e, hd⟩ := pick_lst K a b (oddL pD) (by simp [oddL]) (by simp [oddL])
  refine ⟨d, a1, b1, hd, ?_⟩
  unfold oddL at e
  simp [hs, hs2, e]
theorem rf_2 (p : Nat) (hp6 : p ≤ 6) : ∃ (bs : List Nat) (a' b' : Int), bs.length = 4 ∧ Bits bs ∧ rf2 K (rfs (pot a b) (iD p) rD s3 none none none none none none none none none none) = .ok (.nx, rfs (pot a' b') (iD p) rD s3 (some (.sh (iD (2 ^ p)))) (some (.own (isD bs))) none none none none none none none none) := by
  have hs := sl
  have c1 : dIc CPow (fun i j => i * 2 ^ j.toNat) (.int 1) (iD p) = some (.im (iD (2 ^ p))) := shl_d p hp6
  obtain ⟨w, a', b', e, hw, hP⟩ := draws_gen (vs := [6]) (g := gVar 6) (p := pYes) (fe := eCall false (F__law_draw K) (mIo (eVar 0) (mSh (eK (.int 2)) (mNil)))) (fun c => c < 2) (fun a b => rfs (pot a b) (iD p) rD s3 none none none none none none none none none none) (fun d a b => by
    obtain ⟨c, a1, b1, e1, h1⟩ := draw_i K a b 2 (by decide) (by decide)
    exact ⟨c, a1, b1, by simp [e1], by omega⟩) (rngL 0 4) [] a b (by simp [rngL]; omega)
  rw [List.nil_append] at e
  have hl : (rngL 0 4).length = 4 := by simp [rngL]
  have rn : rngF ([.int 4], rfs (pot a b) (iD p) rD s3 none none none none none none none none none none) = .ok (rngL 0 4, rfs (pot a b) (iD p) rD s3 none none none none none none none none none none) := rngF_n 4 (by omega) _
  refine ⟨w, a', b', by rw [hw, hl], hP, ?_⟩
  simp only [isD]
  generalize w.map iD = W at *
  generalize rngL 0 4 = rr at *
  generalize iD (2 ^ p) = P at *
  generalize iD p = pD at *
  simp [c1, rn, e]
theorem rf_3 : ∃ (n : Nat) (a' b' : Int), n < 5 ∧ rf3 K (rfs (pot a b) pD rD s3 s4 s5 none none none none none none none none) = .ok (.nx, rfs (pot a' b') pD rD s3 s4 s5 (some (.sh (iD n))) none none none none none none none) := by
  obtain ⟨n, a1, b1, e, h⟩ := draw_i K a b 5 (by decide) (by decide)
  exact ⟨n, a1, b1, by omega, by simp [e]⟩
abbrev ten30 : Int := (10 : Int) ^ ((30 : Int).toNat)
theorem e30 : dIc CPow (fun i j => i ^ j.toNat) (.int 10) (.int 30) = some (.im (.int ten30)) := dIc_ok (by unfold CPow; decide)
theorem rf_4 : ∃ (d : D) (a' b' : Int), badBit d ∧ rf4 K (rfs (pot a b) pD rD s3 s4 s5 s7 none none none none none none none) = .ok (.nx, rfs (pot a' b') pD rD s3 s4 s5 s7 (some (.sh d)) none none none none none none) := by
  have hs : 8 ≤ sizeLine := by have := sl; omega
  have hs1 : 1 ≤ sizeLine := by omega
  have e3 := e30
  have ht : ten30 ≠ 0 ∧ ten30 ≠ 1 := by decide +kernel
  generalize ten30 = t at *
  obtain ⟨d, a1, b1, e, hd⟩ := pick_lst K a b [.int 2, .int (-1), .bl true, .bl false, .non, .str "1", .lst [.int 1], .int t] (by simp) (by simp)
  refine ⟨d, a1, b1, ?_, ?_⟩
  · simp only [List.mem_cons, List.not_mem_nil, or_false] at hd
    rcases hd with rfl | rfl | rfl | rfl | rfl | rfl | rfl | rfl
    · exact ⟨rfl, .inr ⟨2, rfl, by decide, by decide⟩⟩
    · exact ⟨rfl, .inr ⟨-1, rfl, by decide, by decide⟩⟩
    · exact ⟨rfl, .inl rfl⟩
    · exact ⟨rfl, .inl rfl⟩
    · exact ⟨rfl, .inl rfl⟩
    · exact ⟨rfl, .inl rfl⟩
    · exact ⟨rfl, .inl rfl⟩
    · exact ⟨rfl, .inr ⟨t, rfl, ht.1, ht.2⟩⟩
  · simp [hs, hs1, e3, e]
theorem rf_11 (p : Nat) (hp6 : p ≤ 6) : ∃ (d : D) (a' b' : Int), badWord p d ∧ rf11 K (rfs (pot a b) pD rD s3 (some (.sh (iD (2 ^ p)))) s5 s7 (some (.sh s80)) s9 s10 s11 none none none) = .ok (.nx, rfs (pot a' b') pD rD s3 (some (.sh (iD (2 ^ p)))) s5 s7 (some (.sh d)) s9 s10 s11 none none none) := by
  have hs : 8 ≤ sizeLine := by have := sl; omega
  have hs1 : 1 ≤ sizeLine := by omega
  have e3 := e30
  have hle := p64 hp6
  have ht : (64 : Int) ≤ ten30 := by decide +kernel
  generalize ten30 = t at *
  obtain ⟨d, a1, b1, e, hd⟩ := pick_lst K a b [iD (2 ^ p), .int (-1), .bl true, .bl false, .non, .str "1", .lst [.int 1], .int t] (by simp) (by simp)
  refine ⟨d, a1, b1, ?_, ?_⟩
  · simp only [List.mem_cons, List.not_mem_nil, or_false] at hd
    rcases hd with rfl | rfl | rfl | rfl | rfl | rfl | rfl | rfl
    · exact ⟨rfl, .inr ⟨_, rfl, .inr (Int.le_refl _)⟩⟩
    · exact ⟨rfl, .inr ⟨-1, rfl, .inl (by decide)⟩⟩
    · exact ⟨rfl, .inl rfl⟩
    · exact ⟨rfl, .inl rfl⟩
    · exact ⟨rfl, .inl rfl⟩
    · exact ⟨rfl, .inl rfl⟩
    · exact ⟨rfl, .inl rfl⟩
    · exact ⟨rfl, .inr ⟨t, rfl, .inr (by omega)⟩⟩
  · generalize iD (2 ^ p) = P at *
    simp [hs, hs1, e3, e]
theorem rf_6 : ∃ (d : D) (a' b' : Int), (∃ st, F_want_bits K [d] = .exc ⟨.ref (He.ga K "InvalidBits"), ["position"], [.non], st⟩) ∧ rf6 K (rfs (pot a b) pD rD s3 s4 s5 s7 s8 s9 none none none none none) = .ok (.nx, rfs (pot a' b') pD rD s3 s4 s5 s7 s8 s9 (some (.sh d)) none none none none) := by
  have hs : 10 ≤ sizeLine := by have := sl; omega
  have hs1 : 1 ≤ sizeLine := by omega
  obtain ⟨zs, ez, hz⟩ : ∃ zs : List D, dMulI (.lst [.int 0]) (.int 1001) = some (.nw (.lst zs)) ∧ zs.length = 1001 := many_of 0 1001 (by omega)
  obtain ⟨ts, et, hts⟩ : ∃ ts : List D, repD (.tup [.int 1]) (.int 1001) = some ts ∧ ts.length = 1001 := by
    refine ⟨(List.replicate 1001 [D.int 1]).flatten, ?_, by simp⟩
    unfold repD
    first | rfl | (simp; omega) | simp
  obtain ⟨d, a1, b1, e, hd⟩ := pick_lst K a b [.non, .int 0, .str "", .str "01", .dic [] [], .dic [.inl 0] [.int 1], .bl true, .lst zs, .tup ts, .int 1] (by simp) (by simp)
  refine ⟨d, a1, b1, ?_, ?_⟩
  · have key : ∀ d : D, plD d = true → (∀ ds, seqOf d = some ds → 1000 < ds.length) → (∀ ns, d ≠ .scr ns) → ∃ st, F_want_bits K [d] = .exc ⟨.ref (He.ga K "InvalidBits"), ["position"], [.non], st⟩ := want_bits_none K
    simp only [List.mem_cons, List.not_mem_nil, or_false] at hd
    rcases hd with rfl | rfl | rfl | rfl | rfl | rfl | rfl | rfl | rfl | rfl
    · exact key _ rfl nofun nofun
    · exact key _ rfl nofun nofun
    · exact key _ rfl nofun nofun
    · exact key _ rfl nofun nofun
    · exact key _ rfl nofun nofun
    · exact key _ rfl nofun nofun
    · exact key _ rfl nofun nofun
    · exact key _ rfl (fun ds h => by cases h; omega) nofun
    · exact key _ rfl (fun ds h => by cases h; omega) nofun
    · exact key _ rfl nofun nofun
  · have ek : keyD (.int 0) = some (.inl 0) := rfl
    have em : eOp2 dMulI (eLst (aCons (eV (eK (.int 0))) (aNil))) (eK (.int 1001)) (rfs (pot a b) pD rD s3 s4 s5 s7 s8 s9 none none none none none) = .ok (.tmp (.lst zs), rfs (pot a b) pD rD s3 s4 s5 s7 s8 s9 none none none none none) :=
      e2_ok (h1 := .tmp (.lst [.int 0])) (ρ1 := rfs (pot a b) pD rD s3 s4 s5 s7 s8 s9 none none none none none) (by simp [hs1]) rfl rfl rfl ez rfl
    have er : eRepT (eTup (aCons (eV (eK (.int 1))) (aNil))) (eK (.int 1001)) (rfs (pot a b) pD rD s3 s4 s5 s7 s8 s9 none none none none none) = .ok (.val (.tup ts), rfs (pot a b) pD rD s3 s4 s5 s7 s8 s9 none none none none none) := by
      have e0 : eTup (aCons (eV (eK (.int 1))) (aNil)) (rfs (pot a b) pD rD s3 s4 s5 s7 s8 s9 none none none none none) = .ok (.val (.tup [.int 1]), rfs (pot a b) pD rD s3 s4 s5 s7 s8 s9 none none none none none) := by simp [hs1]
      simp only [eRepT, e0, ok_bind, eK, look, ofO_some, et]
    simp only [rf6]
    generalize eOp2 dMulI (eLst (aCons (eV (eK (.int 0))) (aNil))) (eK (.int 1001)) = f1 at *
    generalize eRepT (eTup (aCons (eV (eK (.int 1))) (aNil))) (eK (.int 1001)) = f2 at *
    simp [hs, em, er, ek, e]
theorem rf_13 (p q : Nat) : ∃ (d : D) (a' b' : Int), plD d = true ∧ (∃ st, F_unpacked K [rateD K p q, d] = .exc ⟨.ref (He.ga K "InvalidText"), ["position"], [.non], st⟩) ∧ rf13 K (rfs (pot a b) pD rD s3 s4 s5 s7 s8 s9 s10 s11 s12 none none) = .ok (.nx, rfs (pot a' b') pD rD s3 s4 s5 s7 s8 s9 s10 s11 s12 (some (.sh d)) none) := by
  have hs : 10 ≤ sizeLine := by have := sl; omega
  have hs1 : 1 ≤ sizeLine := by omega
  obtain ⟨zs, ez, hz⟩ : ∃ zs : List D, dMulI (.lst [.int 1]) (.int 1201) = some (.nw (.lst zs)) ∧ zs.length = 1201 := many_of 1 1201 (by omega)
  obtain ⟨d, a1, b1, e, hd⟩ := pick_lst K a b [.non, .int 0, .str "", .str "01", .dic [] [], .lst [], .tup [], .bl true, .lst zs, .int 1] (by simp) (by simp)
  have hpl : plD d = true ∧ ∃ st, F_unpacked K [rateD K p q, d] = .exc ⟨.ref (He.ga K "InvalidText"), ["position"], [.non], st⟩ := by
    have key : ∀ d : D, plD d = true → (∀ ds, seqOf d = some ds → ds.length = 0 ∨ 1200 < ds.length) → (∀ ns, d ≠ .scr ns) → plD d = true ∧ ∃ st, F_unpacked K [rateD K p q, d] = .exc ⟨.ref (He.ga K "InvalidText"), ["position"], [.non], st⟩ := fun d h1 h2 h3 => ⟨h1, unpacked_none K p q d h1 h2 h3⟩
    simp only [List.mem_cons, List.not_mem_nil, or_false] at hd
    rcases hd with rfl | rfl | rfl | rfl | rfl | rfl | rfl | rfl | rfl | rfl
    · exact key _ rfl nofun nofun
    · exact key _ rfl nofun nofun
    · exact key _ rfl nofun nofun
    · exact key _ rfl nofun nofun
    · exact key _ rfl nofun nofun
    · exact key _ rfl (fun ds h => by cases h; exact .inl rfl) nofun
    · exact key _ rfl (fun ds h => by cases h; exact .inl rfl) nofun
    · exact key _ rfl nofun nofun
    · exact key _ rfl (fun ds h => by cases h; omega) nofun
    · exact key _ rfl nofun nofun
  refine ⟨d, a1, b1, hpl.1, hpl.2, ?_⟩
  have em : eOp2 dMulI (eLst (aCons (eV (eK (.int 1))) (aNil))) (eK (.int 1201)) (rfs (pot a b) pD rD s3 s4 s5 s7 s8 s9 s10 s11 s12 none none) = .ok (.tmp (.lst zs), rfs (pot a b) pD rD s3 s4 s5 s7 s8 s9 s10 s11 s12 none none) :=
    e2_ok (h1 := .tmp (.lst [.int 1])) (ρ1 := rfs (pot a b) pD rD s3 s4 s5 s7 s8 s9 s10 s11 s12 none none) (by simp [hs1]) rfl rfl rfl ez rfl
  simp only [rf13]
  generalize eOp2 dMulI (eLst (aCons (eV (eK (.int 1))) (aNil))) (eK (.int 1201)) = f1 at *
  simp [hs, em, e]
end
end LW
set_option Elab.async false
set_option linter.all false
set_option maxRecDepth 100000
set_option maxHeartbeats 1000000
namespace LW
open PySem L2 BR
/-! ### what is told, as text -/
def L8 (d : D) (n : Nat) : List D := [.lst [.str "pace", d, .bl true], .lst [.str "bits", .non, .bl true], .lst [.str "bits", iD n, .bl true], .lst [.str "let"], .lst [.str "pace", d, .bl true], .lst [.str "words", .non, .bl true], .lst [.str "words", iD n, .bl true], .lst [.str "words", .int 4, .bl true]]
def P8 (P : PyData) (n : Nat) : PyData := .list [.list [.str "pace", P, .bool true], .list [.str "bits", .none, .bool true], .list [.str "bits", .int (n : Int), .bool true], .list [.str "let"], .list [.str "pace", P, .bool true], .list [.str "words", .none, .bool true], .list [.str "words", .int (n : Int), .bool true], .list [.str "words", .int 4, .bool true]]
theorem toP_8 (d : D) (P : PyData) (h : toP d = some P) (n : Nat) : toP (.lst (L8 d n)) = some (P8 P n) := by
  simp only [L8, P8, toP, toPL, h, Option.map_some]
def okB (P : PyData) : Prop := P.showable = true ∧ P.depth ≤ 60 ∧ P.shown.length ≤ 1000
instance (P : PyData) : Decidable (okB P) := by unfold okB; infer_instance
theorem ok_a : ∀ n < 5, okB (P8 .none n) ∧ okB (P8 (.int 0) n) ∧ okB (P8 (.str "1:1") n) ∧ okB (P8 (.list []) n) ∧ okB (P8 (.bool true) n) := by decide +kernel
theorem ok_b : ∀ n < 5, ∀ p < 7, okB (P8 (.tuple [.int ((p : Nat) : Int), .int ((p : Nat) : Int)]) n) := by decide +kernel
theorem repr_8 (p : Nat) (hp6 : p ≤ 6) (d : D) (hd : d ∈ oddL (iD p)) (n : Nat) (hn : n < 5) : ∃ X, dRepr [.lst (L8 d n)] = some (.im (.str X)) := by
  have key : ∀ P, toP d = some P → okB (P8 P n) → ∃ X, dRepr [.lst (L8 d n)] = some (.im (.str X)) := by
    intro P h1 h2
    refine ⟨(P8 P n).shown, ?_⟩
    have hs := sl
    have h3 : okShow (P8 P n) := ⟨h2.1, h2.2.1, by have := h2.2.2; omega⟩
    unfold dRepr
    simp only [toP_8 d P h1 n]
    rw [if_pos h3]
  obtain ⟨k1, k2, k3, k4, k5⟩ := ok_a n hn
  have k6 := ok_b n hn p (by omega)
  simp only [oddL, List.mem_cons, List.not_mem_nil, or_false] at hd
  rcases hd with rfl | rfl | rfl | rfl | rfl | rfl
  · exact key _ rfl k1
  · exact key _ rfl k2
  · exact key _ rfl k6
  · exact key _ rfl k3
  · exact key _ rfl k4
  · exact key _ rfl k5
/-! ### slices -/
theorem sl_to (bs : List Nat) (n : Nat) : dSl (isD bs) none (some (n : Int)) = some (.nw (isD (bs.take n))) := by
  have : cutD (bs.map iD) none (some (n : Int)) = (bs.take n).map iD := by
    unfold cutD
    rw [HT.sIx_none, HT.sIx_nat, List.drop_zero, Nat.sub_zero, List.length_map, List.map_take, ← List.length_map (f := iD), ← List.take_eq_take_min]
  unfold dSl
  simp only [isD, this]
theorem sl_from (bs : List Nat) (n : Nat) : dSl (isD bs) (some (n : Int)) none = some (.nw (isD (bs.drop n))) := by
  have : cutD (bs.map iD) (some (n : Int)) none = (bs.drop n).map iD := by
    unfold cutD
    rw [HT.sIx_none, HT.sIx_nat, List.length_map]
    by_cases h : n ≤ bs.length
    · rw [Nat.min_eq_left h, List.take_of_length_le (by simp), List.map_drop]
    · rw [Nat.min_eq_right (by omega), List.drop_eq_nil_of_le (by simp), List.drop_eq_nil_of_le (by omega)]; simp
  unfold dSl
  simp only [isD, this]
section
variable (K : PySem.W.Frag) (pt pD rD : D) (s3 s4 s5 s7 s8 s9 s10 s11 s12 s13 s14 : Option Sl)
theorem add_l (A B : List D) (h : A.length + B.length ≤ sizeLine) : dAdd (.lst A) (.lst B) = some (.nw (.lst (A ++ B))) := by simp [h]
theorem rf_5 (B T U : List D) (n : Nat) (w : D) (h1 : dSl (.lst B) none (some (n : Int)) = some (.nw (.lst T))) (h2 : dSl (.lst B) (some (n : Int)) none = some (.nw (.lst U))) (ht : T.length ≤ 10) (hu : U.length ≤ 10) :
    rf5 K (rfs pt pD rD s3 s4 (some (.own (.lst B))) (some (.sh (iD n))) (some (.sh w)) none s10 s11 s12 s13 s14) = .ok (.nx, rfs pt pD rD s3 s4 (some (.own (.lst B))) (some (.sh (iD n))) (some (.sh w)) (some (.own (.lst (T ++ w :: (U ++ [.int 7, .non]))))) s10 s11 s12 s13 s14) := by
  have hs := sl
  have hs1 : 1 ≤ sizeLine := by omega
  have hs2 : 2 ≤ sizeLine := by omega
  have a1 := add_l T [w] (by simp; omega)
  have a2 := add_l (T ++ [w]) U (by simp; omega)
  have a3 := add_l (T ++ [w] ++ U) [.int 7, .non] (by simp; omega)
  have e : T ++ w :: (U ++ [.int 7, .non]) = T ++ [w] ++ U ++ [.int 7, .non] := by simp
  rw [e]
  generalize T ++ [w] ++ U ++ [.int 7, .non] = Z3 at *
  generalize T ++ [w] ++ U = Z2 at *
  generalize T ++ [w] = Z1 at *
  simp [h1, h2, a1, a2, a3, hs1, hs2, -dAdd]
theorem rf_12 (B T U : List D) (n : Nat) (w : D) (h1 : dSl (.lst B) none (some (n : Int)) = some (.nw (.lst T))) (h2 : dSl (.lst B) (some (n : Int)) none = some (.nw (.lst U))) (ht : T.length ≤ 10) (hu : U.length ≤ 10) :
    rf12 K (rfs pt pD rD s3 s4 (some (.own (.lst B))) (some (.sh (iD n))) (some (.sh w)) s9 s10 s11 none s13 s14) = .ok (.nx, rfs pt pD rD s3 s4 (some (.own (.lst B))) (some (.sh (iD n))) (some (.sh w)) s9 s10 s11 (some (.own (.lst (T ++ w :: (U ++ [.int (-1)]))))) s13 s14) := by
  have hs := sl
  have hs1 : 1 ≤ sizeLine := by omega
  have a1 := add_l T [w] (by simp; omega)
  have a2 := add_l (T ++ [w]) U (by simp; omega)
  have a3 := add_l (T ++ [w] ++ U) [.int (-1)] (by simp; omega)
  have e : T ++ w :: (U ++ [.int (-1)]) = T ++ [w] ++ U ++ [.int (-1)] := by simp
  rw [e]
  generalize T ++ [w] ++ U ++ [.int (-1)] = Z3 at *
  generalize T ++ [w] ++ U = Z2 at *
  generalize T ++ [w] = Z1 at *
  simp [h1, h2, a1, a2, a3, hs1, -dAdd]
/-! ### told -/
theorem tcall {F : FT} {g : S → R (List Hd × S)} {is : List Nat} {ρ ρ1 ρ2 : S} {zs : List Hd} {ds : List D} {C : Value} {fs : List Str} {xs : List D} {res : D} (h1 : frz is ρ = .ok ρ1) (h2 : g (shO ρ1) = .ok (zs, ρ2)) (h3 : lookM zs ρ2 = some ds) (h4 : ∃ st, F ds = .exc ⟨C, fs, xs, st⟩)
    (h5 : ∀ st, runT 3 (B__law_told K) (.exc ⟨C, fs, xs, st⟩) = .ok res) : eFrz is (eLam 3 (B__law_told K) (eCall true F g)) ρ = .ok (.val res, ρ1) := by
  obtain ⟨st, h4⟩ := h4
  exact frz_eq h1 (lam_exc (call_exc h2 h3 h4) (h5 _))
theorem rf_app (f : EF) (d : D) (L : List D) (t5 t9 t12 : Option Sl) (hl : L.length < sizeLine) (hf : f (rfs pt pD rD s3 s4 s5 s7 s8 s9 s10 (some (.own (.lst L))) s12 s13 s14) = .ok (.val d, rfs pt pD rD s3 s4 t5 s7 s8 t9 s10 (some (.own (.lst L))) t12 s13 s14)) :
    sDrop (eAppend 11 f) (rfs pt pD rD s3 s4 s5 s7 s8 s9 s10 (some (.own (.lst L))) s12 s13 s14) = .ok (.nx, rfs pt pD rD s3 s4 t5 s7 s8 t9 s10 (some (.own (.lst (L ++ [d])))) t12 s13 s14) := by
  simp [hf, hl]
theorem rf_18 (d : D) (n : Nat) : rf18 K (rfs pt pD rD (some (.sh d)) s4 s5 (some (.sh (iD n))) s8 s9 s10 s11 s12 s13 none) = .ok (.nx, rfs pt pD rD (some (.sh d)) s4 s5 (some (.sh (iD n))) s8 s9 s10 s11 s12 s13 (some (.own (.lst [.lst [.str "pace", d, .bl true], .lst [.str "bits", .non, .bl true], .lst [.str "bits", iD n, .bl true], .lst [.str "let"]])))) := by
  have hs := sl
  have hs1 : 1 ≤ sizeLine := by omega
  have hs3 : 3 ≤ sizeLine := by omega
  have hs4 : 4 ≤ sizeLine := by omega
  generalize iD n = v
  simp [hs1, hs3, hs4]
theorem rf_19 (d : D) (n : Nat) : rf19 K (rfs pt pD rD (some (.sh d)) s4 s5 (some (.sh (iD n))) s8 s9 s10 s11 s12 s13 (some (.own (.lst [.lst [.str "pace", d, .bl true], .lst [.str "bits", .non, .bl true], .lst [.str "bits", iD n, .bl true], .lst [.str "let"]])))) = .ok (.nx, rfs pt pD rD (some (.sh d)) s4 s5 (some (.sh (iD n))) s8 s9 s10 s11 s12 s13 (some (.own (.lst (L8 d n))))) := by
  have hs := sl
  have hs3 : 3 ≤ sizeLine := by omega
  have hs4 : 4 ≤ sizeLine := by omega
  have hs8 : 8 ≤ sizeLine := by omega
  unfold L8
  generalize iD n = v
  simp [hs3, hs4, hs8]
theorem rf_20 (A : List D) (X : Str) (h : dRepr [.lst A] = some (.im (.str X))) : rf20 K (rfs pt pD rD s3 s4 s5 s7 s8 s9 s10 (some (.own (.lst A))) s12 s13 (some (.own (.lst A)))) = .ok (.rt (.val (.bl true)), rfs pt pD rD s3 s4 s5 s7 s8 s9 s10 (some (.own (.lst A))) s12 s13 (some (.own (.lst A)))) := by
  have hn := eq_str X
  simp [h, hn]
end
end LW
set_option Elab.async false
set_option linter.all false
set_option maxRecDepth 100000
set_option maxHeartbeats 1000000
namespace LW
open PySem L2 BR
theorem goodBits2 {bs : List Nat} (h : Bits bs) (n : Nat) : ∀ y ∈ (bs.take n).map iD, goodBit y := goodBits fun b hb => h b (List.mem_of_mem_take hb)
theorem goodWords {p : Nat} (hp : 1 ≤ p) {bs : List Nat} (h : Bits bs) : ∀ x ∈ bs, x < 2 ^ p := fun x hx => by
  have h2 : 2 ≤ 2 ^ p := by
    have : 2 ^ 1 ≤ 2 ^ p := Nat.pow_le_pow_right (by omega) hp
    simpa using this
  have := h x hx
  omega
theorem call_ok {F : FT} {g : S → R (List Hd × S)} {ρ ρ1 ρ2 : S} {zs : List Hd} {ds os : List D} {r : D} (hg : g ρ = .ok (zs, ρ1)) (hl : lookM zs ρ1 = some ds) (hF : F ds = .ok (r, os)) (hp : putIo zs os ρ1 = some ρ2) : eCall true F g ρ = .ok (.tmp r, ρ2) := by
  simp only [eCall, hg, ok_bind, hl, ofO_some, hF, raiseAt, hp, if_true]
theorem refused_ok {K : PySem.W.Frag} {mg : Str → Option Value} (m : M K mg) (a b : Int) (p q : Nat) (hp : 1 ≤ p) (hp6 : p ≤ 6) : ∃ a' b', F__law_refused K [pot a b, iD p, rateD K p q] = .ok (.bl true, [pot a' b']) := by
  have hs := sl
  obtain ⟨od, a1, b1, hod, e1⟩ := rf_1 K a b (iD p) (rateD K p q)
  obtain ⟨bs, a2, b2, hbl, hb, e2⟩ := rf_2 K a1 b1 (rateD K p q) (some (.sh od)) p hp6
  obtain ⟨n, a3, b3, hn, e3⟩ := rf_3 K a2 b2 (iD p) (rateD K p q) (some (.sh od)) (some (.sh (iD (2 ^ p)))) (some (.own (isD bs)))
  obtain ⟨w1, a4, b4, hw1, e4⟩ := rf_4 K a3 b3 (iD p) (rateD K p q) (some (.sh od)) (some (.sh (iD (2 ^ p)))) (some (.own (isD bs))) (some (.sh (iD n)))
  have t1 := sl_to bs n
  have t2 := sl_from bs n
  have ht : ((bs.take n).map iD).length = n := by simp; omega
  have hu : ((bs.drop n).map iD).length ≤ 10 := by simp; omega
  have e5 := rf_5 K (pot a4 b4) (iD p) (rateD K p q) (some (.sh od)) (some (.sh (iD (2 ^ p)))) none none none none none (bs.map iD) ((bs.take n).map iD) ((bs.drop n).map iD) n w1 t1 t2 (by omega) hu
  have wb := want_bits_at K ((bs.take n).map iD) w1 ((bs.drop n).map iD ++ [.int 7, .non]) (by simp; omega) (goodBits2 hb n) hw1
  rw [ht] at wb
  generalize hbent : (.lst ((bs.take n).map iD ++ w1 :: ((bs.drop n).map iD ++ [.int 7, .non])) : D) = bent at *
  obtain ⟨nn, a5, b5, hnn, e6⟩ := rf_6 K a4 b4 (iD p) (rateD K p q) (some (.sh od)) (some (.sh (iD (2 ^ p)))) (some (.own (isD bs))) (some (.sh (iD n))) (some (.sh w1)) (some (.own bent))
  have e7 : rf7 K (rfs (pot a5 b5) (iD p) (rateD K p q) (some (.sh od)) (some (.sh (iD (2 ^ p)))) (some (.own (isD bs))) (some (.sh (iD n))) (some (.sh w1)) (some (.own bent)) (some (.sh nn)) none none none none) = .ok (.nx, rfs (pot a5 b5) (iD p) (rateD K p q) (some (.sh od)) (some (.sh (iD (2 ^ p)))) (some (.own (isD bs))) (some (.sh (iD n))) (some (.sh w1)) (some (.own bent)) (some (.sh nn)) (some (.own (.lst [.lst [.str "pace", od, .bl true]]))) none none none) := by
    have hs1 : 1 ≤ sizeLine := by omega
    have ef : eFrz [3, 10] (eLam 3 (B__law_told K) (eCall true (F_packed K) (mSh (eVar 3) (mSh (eVar 10) (mNil))))) (rfs (pot a5 b5) (iD p) (rateD K p q) (some (.sh od)) (some (.sh (iD (2 ^ p)))) (some (.own (isD bs))) (some (.sh (iD n))) (some (.sh w1)) (some (.own bent)) (some (.sh nn)) none none none none) = .ok (.val (.lst [.str "pace", od, .bl true]), _) :=
      tcall K rfl rfl rfl (packed_rate K nn od (odd_pl hod)) (told_rate m od)
    simp only [rf7]
    generalize eFrz [3, 10] (eLam 3 (B__law_told K) (eCall true (F_packed K) (mSh (eVar 3) (mSh (eVar 10) (mNil))))) = f at *
    generalize isD bs = BB at *
    generalize rateD K p q = rD at *
    simp [ef, hs1]
  have e8 : rf8 K (rfs (pot a5 b5) (iD p) (rateD K p q) (some (.sh od)) (some (.sh (iD (2 ^ p)))) (some (.own (isD bs))) (some (.sh (iD n))) (some (.sh w1)) (some (.own bent)) (some (.sh nn)) (some (.own (.lst [.lst [.str "pace", od, .bl true]]))) none none none) = _ :=
    rf_app _ _ _ _ _ _ _ _ _ _ _ _ _ _ (.lst [.str "bits", .non, .bl true]) _ _ _ _ (by simp; omega) (tcall K rfl rfl rfl (packed_bits K p q nn _ _ _ hnn) (told_bits m .non))
  have e9 : rf9 K (rfs (pot a5 b5) (iD p) (rateD K p q) (some (.sh od)) (some (.sh (iD (2 ^ p)))) (some (.own (isD bs))) (some (.sh (iD n))) (some (.sh w1)) (some (.own bent)) (some (.sh nn)) (some (.own (.lst [.lst [.str "pace", od, .bl true], .lst [.str "bits", .non, .bl true]]))) none none none) = _ :=
    rf_app _ _ _ _ _ _ _ _ _ _ _ _ _ _ (.lst [.str "bits", iD n, .bl true]) _ _ _ _ (by simp; omega) (tcall K rfl rfl rfl (packed_bits K p q bent _ _ _ wb) (told_bits m (iD n)))
  obtain ⟨zs, ez, hz⟩ : ∃ zs : List Nat, dMulI (.lst [.int 0]) (.int 1000) = some (.nw (isD zs)) ∧ zs = List.replicate 1000 0 := ⟨_, reps 0 1000 (by omega), rfl⟩
  have hzb : Bits zs := by
    intro x hx
    rw [hz] at hx
    have := (List.mem_replicate.mp hx).2
    omega
  have hzl : zs.length = 1000 := by rw [hz]; simp
  have pz := packed_ok K p q (isD zs) zs rfl hp hp6 (by omega) hzb
  have e10 : rf10 K (rfs (pot a5 b5) (iD p) (rateD K p q) (some (.sh od)) (some (.sh (iD (2 ^ p)))) (some (.own (isD bs))) (some (.sh (iD n))) (some (.sh w1)) (some (.sh bent)) (some (.sh nn)) (some (.own (.lst [.lst [.str "pace", od, .bl true], .lst [.str "bits", .non, .bl true], .lst [.str "bits", iD n, .bl true]]))) none none none) = .ok (.nx, rfs (pot a5 b5) (iD p) (rateD K p q) (some (.sh od)) (some (.sh (iD (2 ^ p)))) (some (.own (isD bs))) (some (.sh (iD n))) (some (.sh w1)) (some (.sh bent)) (some (.sh nn)) (some (.own (.lst ([.lst [.str "pace", od, .bl true], .lst [.str "bits", .non, .bl true], .lst [.str "bits", iD n, .bl true]] ++ [.lst [.str "let"]])))) none none none) := by
    refine rf_app _ _ _ _ _ _ _ _ _ _ _ _ _ _ (.lst [.str "let"]) _ _ _ _ (by simp; omega) ?_
    have hs1 : 1 ≤ sizeLine := by omega
    generalize hρ : rfs (pot a5 b5) (iD p) (rateD K p q) (some (.sh od)) (some (.sh (iD (2 ^ p)))) (some (.own (isD bs))) (some (.sh (iD n))) (some (.sh w1)) (some (.sh bent)) (some (.sh nn)) (some (.own (.lst [.lst [.str "pace", od, .bl true], .lst [.str "bits", .non, .bl true], .lst [.str "bits", iD n, .bl true]]))) none none none = ρ
    have em : eOp2 dMulI (eLst (aCons (eV (eK (.int 0))) (aNil))) (eK (.int 1000)) (shO ρ) = .ok (.tmp (isD zs), shO ρ) := e2_ok (h1 := .tmp (.lst [.int 0])) (ρ1 := shO ρ) (by simp [hs1]) rfl rfl rfl ez rfl
    have eg : mSh (eVar 2) (mSh (eOp2 dMulI (eLst (aCons (eV (eK (.int 0))) (aNil))) (eK (.int 1000))) (mNil)) (shO ρ) = .ok ([.val (rateD K p q), .val (isD zs)], shO ρ) := by
      generalize eOp2 dMulI (eLst (aCons (eV (eK (.int 0))) (aNil))) (eK (.int 1000)) = f at *
      have ev : eVar 2 (shO ρ) = .ok (.val (rateD K p q), shO ρ) := by rw [← hρ]; rfl
      simp only [mSh, ev, ok_bind, eV, em, share, ofO_some, mNil]
    have hfz : frz [2] ρ = .ok ρ := by rw [← hρ]; rfl
    exact frz_eq hfz (lam_ok (call_ok eg rfl pz rfl) (told_ok K _))
  obtain ⟨w2, a6, b6, hw2, e11⟩ := rf_11 K a5 b5 (iD p) (rateD K p q) (some (.sh od)) (some (.own (isD bs))) (some (.sh (iD n))) (some (.sh bent)) (some (.sh nn)) (some (.own (.lst ([.lst [.str "pace", od, .bl true], .lst [.str "bits", .non, .bl true], .lst [.str "bits", iD n, .bl true]] ++ [.lst [.str "let"]])))) (s80 := w1) p hp6
  have e12 := rf_12 K (pot a6 b6) (iD p) (rateD K p q) (some (.sh od)) (some (.sh (iD (2 ^ p)))) (some (.sh bent)) (some (.sh nn)) (some (.own (.lst ([.lst [.str "pace", od, .bl true], .lst [.str "bits", .non, .bl true], .lst [.str "bits", iD n, .bl true]] ++ [.lst [.str "let"]])))) none none (bs.map iD) ((bs.take n).map iD) ((bs.drop n).map iD) n w2 t1 t2 (by omega) hu
  have hgw : ∀ y ∈ (bs.take n).map iD, goodWord p y := by
    intro y hy
    obtain ⟨x, hx, rfl⟩ := List.mem_map.mp hy
    exact ⟨x, goodWords hp hb x (List.mem_of_mem_take hx), rfl⟩
  have ub := unpacked_at K p q hp6 ((bs.take n).map iD) w2 ((bs.drop n).map iD ++ [.int (-1)]) (by simp; omega) hgw hw2
  rw [ht] at ub
  generalize hwds : (.lst ((bs.take n).map iD ++ w2 :: ((bs.drop n).map iD ++ [.int (-1)])) : D) = wds at *
  obtain ⟨nt, a7, b7, hpl, hnt, e13⟩ := rf_13 K a6 b6 (iD p) (rateD K p q) (some (.sh od)) (some (.sh (iD (2 ^ p)))) (some (.own (isD bs))) (some (.sh (iD n))) (some (.sh w2)) (some (.sh bent)) (some (.sh nn)) (some (.own (.lst ([.lst [.str "pace", od, .bl true], .lst [.str "bits", .non, .bl true], .lst [.str "bits", iD n, .bl true]] ++ [.lst [.str "let"]])))) (some (.own wds)) p q
  have e14 : rf14 K (rfs (pot a7 b7) (iD p) (rateD K p q) (some (.sh od)) (some (.sh (iD (2 ^ p)))) (some (.own (isD bs))) (some (.sh (iD n))) (some (.sh w2)) (some (.sh bent)) (some (.sh nn)) (some (.own (.lst ([.lst [.str "pace", od, .bl true], .lst [.str "bits", .non, .bl true], .lst [.str "bits", iD n, .bl true]] ++ [.lst [.str "let"]])))) (some (.own wds)) (some (.sh nt)) none) = _ :=
    rf_app _ _ _ _ _ _ _ _ _ _ _ _ _ _ (.lst [.str "pace", od, .bl true]) _ _ _ _ (by simp; omega) (tcall K rfl rfl rfl (unpacked_rate K nt od (odd_pl hod)) (told_rate m od))
  have e15 : rf15 K (rfs (pot a7 b7) (iD p) (rateD K p q) (some (.sh od)) (some (.sh (iD (2 ^ p)))) (some (.own (isD bs))) (some (.sh (iD n))) (some (.sh w2)) (some (.sh bent)) (some (.sh nn)) (some (.own (.lst ([.lst [.str "pace", od, .bl true], .lst [.str "bits", .non, .bl true], .lst [.str "bits", iD n, .bl true]] ++ [.lst [.str "let"]] ++ [.lst [.str "pace", od, .bl true]])))) (some (.own wds)) (some (.sh nt)) none) = _ :=
    rf_app _ _ _ _ _ _ _ _ _ _ _ _ _ _ (.lst [.str "words", .non, .bl true]) _ _ _ _ (by simp; omega) (tcall K rfl rfl rfl hnt (told_text m .non))
  have e16 : rf16 K (rfs (pot a7 b7) (iD p) (rateD K p q) (some (.sh od)) (some (.sh (iD (2 ^ p)))) (some (.own (isD bs))) (some (.sh (iD n))) (some (.sh w2)) (some (.sh bent)) (some (.sh nn)) (some (.own (.lst ([.lst [.str "pace", od, .bl true], .lst [.str "bits", .non, .bl true], .lst [.str "bits", iD n, .bl true]] ++ [.lst [.str "let"]] ++ [.lst [.str "pace", od, .bl true]] ++ [.lst [.str "words", .non, .bl true]])))) (some (.own wds)) (some (.sh nt)) none) = _ :=
    rf_app _ _ _ _ _ _ _ _ _ _ _ _ _ _ (.lst [.str "words", iD n, .bl true]) _ _ _ _ (by simp; omega) (tcall K rfl rfl rfl ub (told_text m (iD n)))
  have uz := unpacked_zero K p q hp6 bs (by omega) (goodWords hp hb)
  rw [hbl] at uz
  have e17 : rf17 K (rfs (pot a7 b7) (iD p) (rateD K p q) (some (.sh od)) (some (.sh (iD (2 ^ p)))) (some (.own (isD bs))) (some (.sh (iD n))) (some (.sh w2)) (some (.sh bent)) (some (.sh nn)) (some (.own (.lst ([.lst [.str "pace", od, .bl true], .lst [.str "bits", .non, .bl true], .lst [.str "bits", iD n, .bl true]] ++ [.lst [.str "let"]] ++ [.lst [.str "pace", od, .bl true]] ++ [.lst [.str "words", .non, .bl true]] ++ [.lst [.str "words", iD n, .bl true]])))) (some (.sh wds)) (some (.sh nt)) none) = .ok (.nx, rfs (pot a7 b7) (iD p) (rateD K p q) (some (.sh od)) (some (.sh (iD (2 ^ p)))) (some (.sh (isD bs))) (some (.sh (iD n))) (some (.sh w2)) (some (.sh bent)) (some (.sh nn)) (some (.own (.lst ([.lst [.str "pace", od, .bl true], .lst [.str "bits", .non, .bl true], .lst [.str "bits", iD n, .bl true]] ++ [.lst [.str "let"]] ++ [.lst [.str "pace", od, .bl true]] ++ [.lst [.str "words", .non, .bl true]] ++ [.lst [.str "words", iD n, .bl true]] ++ [.lst [.str "words", .int 4, .bl true]])))) (some (.sh wds)) (some (.sh nt)) none) := by
    refine rf_app _ _ _ _ _ _ _ _ _ _ _ _ _ _ (.lst [.str "words", .int 4, .bl true]) _ _ _ _ (by simp; omega) ?_
    have hs1 : 1 ≤ sizeLine := by omega
    generalize [D.lst [.str "pace", od, .bl true], .lst [.str "bits", .non, .bl true], .lst [.str "bits", iD n, .bl true]] ++ [.lst [.str "let"]] ++ [.lst [.str "pace", od, .bl true]] ++ [.lst [.str "words", .non, .bl true]] ++ [.lst [.str "words", iD n, .bl true]] = LL
    have hfz : frz [2, 5] (rfs (pot a7 b7) (iD p) (rateD K p q) (some (.sh od)) (some (.sh (iD (2 ^ p)))) (some (.own (isD bs))) (some (.sh (iD n))) (some (.sh w2)) (some (.sh bent)) (some (.sh nn)) (some (.own (.lst LL))) (some (.sh wds)) (some (.sh nt)) none) = .ok (rfs (pot a7 b7) (iD p) (rateD K p q) (some (.sh od)) (some (.sh (iD (2 ^ p)))) (some (.sh (isD bs))) (some (.sh (iD n))) (some (.sh w2)) (some (.sh bent)) (some (.sh nn)) (some (.own (.lst LL))) (some (.sh wds)) (some (.sh nt)) none) := rfl
    generalize hρ : rfs (pot a7 b7) (iD p) (rateD K p q) (some (.sh od)) (some (.sh (iD (2 ^ p)))) (some (.sh (isD bs))) (some (.sh (iD n))) (some (.sh w2)) (some (.sh bent)) (some (.sh nn)) (some (.own (.lst LL))) (some (.sh wds)) (some (.sh nt)) none = ρ at *
    have ea : dAdd (isD bs) (.lst [.int 0]) = some (.nw (isD (bs ++ [0]))) := by
      have : bs.length + 1 ≤ sizeLine := by omega
      simp [this, iD]
    have em : eOp2 dAdd (eVar 5) (eLst (aCons (eV (eK (.int 0))) (aNil))) (shO ρ) = .ok (.tmp (isD (bs ++ [0])), shO ρ) := by
      have ev : eVar 5 (shO ρ) = .ok (.val (isD bs), shO ρ) := by rw [← hρ]; rfl
      exact e2_ok ev (h2 := .tmp (.lst [.int 0])) (ρ2 := shO ρ) (by simp [hs1]) rfl rfl ea rfl
    have eg : mSh (eVar 2) (mSh (eOp2 dAdd (eVar 5) (eLst (aCons (eV (eK (.int 0))) (aNil)))) (mNil)) (shO ρ) = .ok ([.val (rateD K p q), .val (isD (bs ++ [0]))], shO ρ) := by
      have ev : eVar 2 (shO ρ) = .ok (.val (rateD K p q), shO ρ) := by rw [← hρ]; rfl
      generalize eOp2 dAdd (eVar 5) (eLst (aCons (eV (eK (.int 0))) (aNil))) = f at *
      simp only [mSh, ev, ok_bind, eV, em, share, ofO_some, mNil]
    exact tcall K hfz eg rfl uz (told_text m (iD 4))
  have e18 := rf_18 K (pot a7 b7) (iD p) (rateD K p q) (some (.sh (iD (2 ^ p)))) (some (.sh (isD bs))) (some (.sh w2)) (some (.sh bent)) (some (.sh nn)) (some (.own (.lst (L8 od n)))) (some (.sh wds)) (some (.sh nt)) od n
  have e19 := rf_19 K (pot a7 b7) (iD p) (rateD K p q) (some (.sh (iD (2 ^ p)))) (some (.sh (isD bs))) (some (.sh w2)) (some (.sh bent)) (some (.sh nn)) (some (.own (.lst (L8 od n)))) (some (.sh wds)) (some (.sh nt)) od n
  obtain ⟨X, hX⟩ := repr_8 p hp6 od hod n hn
  have e20 := rf_20 K (pot a7 b7) (iD p) (rateD K p q) (some (.sh od)) (some (.sh (iD (2 ^ p)))) (some (.sh (isD bs))) (some (.sh (iD n))) (some (.sh w2)) (some (.sh bent)) (some (.sh nn)) (some (.sh wds)) (some (.sh nt)) (L8 od n) X hX
  have hB := (seq_step e1).trans ((seq_step e2).trans ((seq_step e3).trans ((seq_step e4).trans ((seq_step e5).trans ((seq_step e6).trans ((seq_step e7).trans ((seq_step e8).trans ((seq_step e9).trans ((seq_step e10).trans ((seq_step e11).trans ((seq_step e12).trans ((seq_step e13).trans ((seq_step e14).trans ((seq_step e15).trans ((seq_step e16).trans ((seq_step e17).trans ((seq_step e18).trans ((seq_step e19).trans e20))))))))))))))))))
  have hR : F__law_refused K [pot a b, iD p, rateD K p q] = (B__law_refused K (rfs (pot a b) (iD p) (rateD K p q) none none none none none none none none none none none) >>= fun z => ofO (flH z.1) >>= fun h => ofO (finH false h z.2) >>= fun y => ofO (ioOut [true, false, false] 0 y.2) >>= fun o => .ok (y.1, o)) := rfl
  refine ⟨a7, b7, ?_⟩
  rw [hR, (congrFun (rf_all K) _).trans hB]
  rfl
end LW
set_option Elab.async false
set_option linter.all false
set_option maxRecDepth 100000
set_option maxHeartbeats 2000000
namespace LW
open PySem L2 BR
theorem rng_i2 (n : Nat) : (List.range n).map iD = rngL 0 n := by simp [rngL, iD]
theorem blsD_map {α : Type} (f : α → Bool) (xs : List α) : blsD (xs.map fun x => D.bl (f x)) = some (xs.map f) := by
  induction xs with
  | nil => rfl
  | cons x xs ih => simp [blsD, ih]
theorem all_true {α : Type} (xs : List α) : dAll [.lst (xs.map fun _ => D.bl true)] = some (.im (.bl true)) := by
  simp only [dAll, blsD_map (fun _ => true), Option.map_some]
  congr 3
  simp
section
variable {K : PySem.W.Frag} {mg : Str → Option Value} (m : M K mg)
include m
abbrev lrs (a b : Int) (s1 s2 s3 : Option Sl) : S := [some (.io (pot a b)), s1, s2, s3]
noncomputable abbrev lrB (K : PySem.W.Frag) : SF := sIf (tOrF (tNotF (tstV (eCall false (F__law_both_right K) (mIo (eVar 0) (mSh (eVar 1) (mSh (eVar 2) (mNil))))))) (tNotF (tstV (eCall false (F__law_texts_right K) (mIo (eVar 0) (mSh (eVar 1) (mSh (eVar 2) (mNil)))))))) (sRet (eK (.bl false))) (sNil)
theorem lawR_ok (a b : Int) : ∃ a' b', F__law_right K [pot a b] = .ok (.bl true, [pot a' b']) := by
  obtain ⟨d1, a1, b1, f1, h1⟩ := draw_i K a b 6 (by decide) (by decide)
  obtain ⟨d2, a2, b2, f2, h2⟩ := draw_i K a1 b1 6 (by decide) (by decide)
  have hi := rate_init K (1 + d1) (1 + d2) (by omega) (by omega) (by omega) (by omega)
  have c1 : (.int (1 + (d1 : Int)) : D) = iD (1 + d1) := by simp [iD]
  have c2 : (.int (1 + (d2 : Int)) : D) = iD (1 + d2) := by simp [iD]
  have hp6 : 1 + d1 ≤ 6 := by omega
  have hp : 1 ≤ 1 + d1 := by omega
  generalize 1 + d1 = p at *
  generalize 1 + d2 = q at *
  have e1 : sAsg 1 (eOp2 dAdd (eK (.int 1)) (eCall false (F__law_draw K) (mIo (eVar 0) (mSh (eK (.int 6)) (mNil))))) (lrs a b none none none) = .ok (.nx, lrs a1 b1 (some (.sh (iD p))) none none) := by
    rw [← c1]
    simp [f1]
  have e2 : sAsg 2 (eMake (He.ga K "Rate") (F_Rate___init__ K) [] (aCons (eV (eVar 1)) (aCons (eV (eOp2 dAdd (eK (.int 1)) (eCall false (F__law_draw K) (mIo (eVar 0) (mSh (eK (.int 6)) (mNil)))))) (aNil)))) (lrs a1 b1 (some (.sh (iD p))) none none) = .ok (.nx, lrs a2 b2 (some (.sh (iD p))) (some (.own (rateD K p q))) none) := by
    have hi' : F_Rate___init__ K [.ins (He.ga K "Rate") [] [], iD p, .int (1 + (d2 : Int))] = .ok (.non, [rateD K p q]) := by rw [c2]; exact hi
    generalize iD p = pD at *
    generalize rateD K p q = rD at *
    simp [f2, hi']
  obtain ⟨ρ', e3, a3, b3, s2, s3, hs2, hs3, rfl⟩ := sForL_keep (g := gVar 3) (b := lrB K) iD (fun ρ => ∃ a b s2 s3, (s2 = some (.own (rateD K p q)) ∨ s2 = some (.sh (rateD K p q))) ∧ shN s3 ∧ ρ = lrs a b (some (.sh (iD p))) s2 s3) (List.range 3) (lrs a2 b2 (some (.sh (iD p))) (some (.own (rateD K p q))) none) (by
    rintro i ρ hi ⟨a, b, s2, s3, hs2, hs3, rfl⟩
    obtain ⟨a4, b4, g1⟩ := both_right_ok K a b p q hp hp6
    obtain ⟨a5, b5, g2⟩ := texts_right_ok m a4 b4 p q hp hp6
    refine ⟨lrs a5 b5 (some (.sh (iD p))) (some (.sh (rateD K p q))) (some (.sh (iD i))), ?_, a5, b5, _, _, .inr rfl, shN_sh _, rfl⟩
    clear hi
    generalize iD p = pD at *
    generalize rateD K p q = rD at *
    rcases hs2 with rfl | rfl <;> rcases hs3 with rfl | ⟨d3, rfl⟩ <;> simp [g1, g2]) ⟨a2, b2, _, _, .inl rfl, shN_no, rfl⟩
  rw [rng_i2] at e3
  have e3' : sFor (itRng1 (aCons (eV (eK (.int 3))) (aNil))) (gVar 3) (lrB K) (lrs a2 b2 (some (.sh (iD p))) (some (.own (rateD K p q))) none) = .ok (.nx, lrs a3 b3 (some (.sh (iD p))) s2 s3) := by
    have rn : rngF ([.int 3], lrs a2 b2 (some (.sh (iD p))) (some (.own (rateD K p q))) none) = .ok (rngL 0 3, lrs a2 b2 (some (.sh (iD p))) (some (.own (rateD K p q))) none) := rngF_n 3 (by omega) _
    have it : itRng1 (aCons (eV (eK (.int 3))) (aNil)) (lrs a2 b2 (some (.sh (iD p))) (some (.own (rateD K p q))) none) = .ok (rngL 0 3, lrs a2 b2 (some (.sh (iD p))) (some (.own (rateD K p q))) none) := by
      rw [rng1_a]
      exact rn
    simp only [sFor, it, ok_bind]
    exact e3
  obtain ⟨a6, b6, g3⟩ := refused_ok m a3 b3 p q hp hp6
  have e4 : sRet (eCall false (F__law_refused K) (mIo (eVar 0) (mSh (eVar 1) (mSh (eVar 2) (mNil))))) (lrs a3 b3 (some (.sh (iD p))) s2 s3) = .ok (.rt (.val (.bl true)), lrs a6 b6 (some (.sh (iD p))) (some (.sh (rateD K p q))) s3) := by
    clear e3 e3' hi
    generalize iD p = pD at *
    generalize rateD K p q = rD at *
    rcases hs2 with rfl | rfl <;> simp [g3]
  have hB : B__law_right K (lrs a b none none none) = .ok (.rt (.val (.bl true)), lrs a6 b6 (some (.sh (iD p))) (some (.sh (rateD K p q))) s3) := (seq_step e1).trans ((seq_step e2).trans ((seq_step e3').trans e4))
  have hR : F__law_right K [pot a b] = (B__law_right K (lrs a b none none none) >>= fun z => ofO (flH z.1) >>= fun h => ofO (finH false h z.2) >>= fun y => ofO (ioOut [true] 0 y.2) >>= fun o => .ok (y.1, o)) := rfl
  refine ⟨a6, b6, ?_⟩
  rw [hR, hB]
  rfl
end
theorem pot_ok (K : PySem.W.Frag) (ns : List Int) (hl : ns.length ≤ 63) (k : Nat) (hk : k < 5) : ∃ a b : Int, F__law_pot K [.scr ns, iD k] = .ok (pot a b, []) := by
  have hs := sl
  have m1 : ∀ i : Int, dMulI (.int 31) (.int i) = some (.im (.int (31 * i))) := fun i => dMulI_ok (.inl ⟨by decide, by decide⟩)
  have m2 : ∀ i : Int, dMulI (.int 2) (.int i) = some (.im (.int (2 * i))) := fun i => dMulI_ok (.inl ⟨by decide, by decide⟩)
  have c1 : ∀ i : Int, dIc (fun _ j => 0 < j) (fun i j => i % j) (.int i) (.int 2147483477) = some (.im (.int (i % 2147483477))) := fun i => dIc_ok (by decide)
  have c2 : ∀ i : Int, dIc (fun _ j => 0 < j) (fun i j => i % j) (.int i) (.int 2147483549) = some (.im (.int (i % 2147483549))) := fun i => dIc_ok (by decide)
  have c3 : dIc CPow (fun i j => i ^ j.toNat) (.int 10) (.int 18) = some (.im (.int 1000000000000000000)) := dIc_ok ⟨by decide, by decide, by decide⟩
  have c4 : dIc CPow (fun i j => i ^ j.toNat) (.int (2 * (k : Int) + 3)) (.int 3) = some (.im (.int ((2 * (k : Int) + 3) ^ 3))) := dIc_ok ⟨by decide, by decide, by omega⟩
  have m3 : ∀ i : Int, dMulI (.int (i % 2147483549 + 5)) (.int ((2 * (k : Int) + 3) ^ 3)) = some (.im (.int ((i % 2147483549 + 5) * (2 * (k : Int) + 3) ^ 3))) := fun i => dMulI_ok (.inl (by
    have h1 := Int.emod_nonneg i (show (2147483549 : Int) ≠ 0 by decide)
    have h2 := Int.emod_lt_of_pos i (show (0 : Int) < 2147483549 by decide)
    constructor <;> omega))
  have h2 : 2 ≤ sizeLine := by omega
  generalize hp : (2 * (k : Int) + 3) ^ 3 = P at *
  by_cases hc : k < ns.length
  · have a1 := atI_n ns k hc
    exact ⟨_, _, by simp [F__law_pot, B__law_pot, m1, m2, hc, a1, c1, c2, c3, c4, m3, h2]; exact ⟨rfl, rfl⟩⟩
  · exact ⟨_, _, by simp [F__law_pot, B__law_pot, m1, m2, hc, c1, c2, c3, c4, m3, h2]; exact ⟨rfl, rfl⟩⟩
theorem law_ok (K : PySem.W.Frag) (mg : Str → Option Value) (m : M K mg) (ns : List Int) (hl : ns.length ≤ 63) : ∃ d, F_law K [.scr ns] = .ok (.bl true, d) := by
  have hs := sl
  have hcells := lcL_map (vs := [1]) (g := gVar 1) (p := pYes) (fe := eCall false (F__law_right K) (mIo (eCall true (F__law_pot K) (mSh (eVar 0) (mSh (eVar 1) (mNil)))) (mNil))) iD (fun _ => D.bl true) [some (.sh (.scr ns)), none] (List.range (max 1 (min 5 ns.length))) (by
    intro k hk
    rw [List.mem_range] at hk
    obtain ⟨a, b, f1⟩ := pot_ok K ns hl k (by omega)
    obtain ⟨a', b', f2⟩ := lawR_ok m a b
    simp [f1, f2]) (by simp; omega)
  rw [rng_i2] at hcells
  have e4 := all_true (List.range (max 1 (min 5 ns.length)))
  have hmm : (if (if (ns.length : Int) < 5 then (ns.length : Int) else 5) > 1 then (if (ns.length : Int) < 5 then (ns.length : Int) else 5) else 1) = ((max 1 (min 5 ns.length) : Nat) : Int) := by
    split <;> split at * <;> omega
  have hR2 := rngF_n (max 1 (min 5 ns.length)) (by omega)
  have g4 : itRng1 (aCons (eV (eCB dMax (hCons (eK (.int 1)) (hCons (eCB dMin (hCons (eK (.int 5)) (hCons (eCB dLen (hCons (eVar 0) (hNil))) (hNil)))) (hNil))))) (aNil)) [some (.sh (.scr ns)), none] = .ok (rngL 0 (max 1 (min 5 ns.length)), [some (.sh (.scr ns)), none]) := by
    simp only [rng1_a, aCons, eV, eCB, hCons, eK, eVar, hNil, aNil, ok_bind, looks, look, ofO_some, dMax, dMin, dLen, fin, share, Sl.d, List.getElem?_cons_zero, Option.bind_some]
    rw [hmm]
    exact hR2 _
  have g5 : eLc [1] (itRng1 (aCons (eV (eCB dMax (hCons (eK (.int 1)) (hCons (eCB dMin (hCons (eK (.int 5)) (hCons (eCB dLen (hCons (eVar 0) (hNil))) (hNil)))) (hNil))))) (aNil))) (gVar 1) pYes (eCall false (F__law_right K) (mIo (eCall true (F__law_pot K) (mSh (eVar 0) (mSh (eVar 1) (mNil)))) (mNil))) [some (.sh (.scr ns)), none] = .ok (.tmp (.lst ((List.range (max 1 (min 5 ns.length))).map fun _ => D.bl true)), [some (.sh (.scr ns)), none]) := by
    unfold eLc
    rw [g4, ok_bind]
    have w : wipeS [some (.sh (.scr ns)), none] [1] = [some (.sh (.scr ns)), none] := rfl
    have c4 : calmSl [some (.sh (.scr ns)), none] [1] = true := rfl
    simp only [c4, if_true, w, hcells, ok_bind]
    simp [rst]
  have f3 : B_law K [some (.sh (.scr ns)), none] = .ok (.rt (.val (.bl true)), [some (.sh (.scr ns)), none]) := by
    unfold B_law
    simp [-eLc, g5, e4]
  refine ⟨[], ?_⟩
  unfold F_law runF
  have f0 : ini [false] 2 [.scr ns] = [some (.sh (.scr ns)), none] := rfl
  rw [f0, f3]
  simp
end LW
theorem PySem.Challenge.cw_barredrows_k90_whole_bits_packed_holds : PySem.Challenge.rw_barredrows_k90_whole_bits_packed.Holds :=
  LW.holds LW.law_ok
