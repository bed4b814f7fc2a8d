import PyProof.Rows.All
import Wide.All
import OpenK.AllK
import Wide.FinOn
import HandS.ForMost
import HandS.Exc
import HandS.TryOnly
import HandS.ExcOwn
import HandS.WordsExc
import HandS.Wide
import HandS.IsInst
import HandS.EndBits
import HandS.NoneIn
import HandS.SetFor
import HandS.More
import KE.DataFind
import HandS.SortInts
import HandS.ExcIs
import HandS.ExcField
import HandS.ExcInit
import HandS.SetKeys
import PyProof.Rows.SetFrom
import PyProof.SetRoads
import KE.KExcIs
import HandS.Deep
import HandS.Dict
import HandS.Small
import HandS.More
import HandS.SortInts
import HandS.Conv
import HandS.Style
import KE.KEqDict
import HandS.SetFor
import HandS.Set
import KE.SortKeyed
import HandS.DictTup
import KE.KDictWalk
import PySem.Challenge.RW_hideworth_k40_standings
set_option Elab.async false
set_option linter.all false
set_option maxRecDepth 100000
set_option maxHeartbeats 4000000
/-! # Dv: values and a store over the hand layer -/
namespace Dv
open PySem PySem.Spec PyProof.Rows L2

/-- plain data; a cell is an object that is still changed, by its number in the store -/
inductive D where
  | non | bl (b : Bool) | int (i : Int) | str (x : Str) | tup (l : List D) | lst (l : List D) | scr (l : List D) | cell (n : Nat) | raw (v : V)
  /-- a class of the program; a caught exception, with its one field -/
  | cls (c : Str) | exn (c : Str) (f : Option (Str × Int))

inductive Cn where
  | lst (l : List D)
  | dct (kvs : List (Key × D))
  | dead

abbrev Store := List Cn
abbrev Env := List (Option D)
structure Exn where
  cls : Str
  val : Option (Str × Int)

inductive Res (α : Type) where
  | ok (a : α) (S : Store)
  | exc (x : Exn) (S : Store)
  | bad

abbrev M (α : Type) := Store → Res α
def Res.bind {α β : Type} (x : Res α) (k : α → Store → Res β) : Res β := match x with
  | .ok a S => k a S
  | .exc e S => .exc e S
  | .bad => .bad
@[simp] theorem Res.bind_ok {α β : Type} (a : α) (S : Store) (k : α → Store → Res β) : (Res.ok a S).bind k = k a S := rfl
@[simp] theorem Res.bind_exc {α β : Type} (x : Exn) (S : Store) (k : α → Store → Res β) : (Res.exc x S : Res α).bind k = .exc x S := rfl
@[simp] theorem Res.bind_bad {α β : Type} (k : α → Store → Res β) : (Res.bad : Res α).bind k = .bad := rfl

/-! ### what stands for what -/
/-- a caught exception's object -/
def ExH (cls : Value) (d : Option Addr) (a : Addr) : HO := .ext fun h => ∃ (oe : Obj) (vs : Array Value), h.get? a = some oe ∧ Zc cls d oe ∧ oe.data = .fields vs
/-- the class of a name -/
def ClsAt (K : PySem.W.Frag) (c : Str) (C : Addr) : Prop := PySem.W.nsIn K mainGlobals c = some (some (.ref C))
theorem ClsAt.uniq {K : PySem.W.Frag} {c : Str} {C D : Addr} (h : ClsAt K c C) (g : ClsAt K c D) : C = D := by
  unfold ClsAt at h g
  rw [h] at g
  cases g
  rfl
/-- an exception's own dict -/
def FldOk (F : Hp) (d : Option Addr) : Option (Str × Int) → Prop
  | none => d = none
  | some (f, i) => ∃ b, d = some b ∧ F b = some (.xd [(f, .int i)])
theorem FldOk.mono {F F' : Hp} {d : Option Addr} (hF : Same F F') : ∀ {v : Option (Str × Int)}, FldOk F d v → FldOk F' d v
  | none, h => h
  | some (_, _), h => by
    obtain ⟨b, e, q⟩ := h
    exact ⟨b, e, hF _ _ q⟩
mutual
def Rp (K : PySem.W.Frag) (r : List Addr) (F : Hp) : D → V → Prop
  | .non, v => v = .non
  | .bl b, v => v = .bl b
  | .int i, v => v = .int i
  | .str x, v => v = .str x
  | .raw x, v => v = x
  | .cell n, v => ∃ a, r[n]? = some a ∧ v = .ref a
  | .tup l, v => ∃ a vs, v = .ref a ∧ Rd F a (.tup vs) ∧ Rps K r F l vs
  | .lst l, v => ∃ a vs, v = .ref a ∧ F a = some (.lst vs) ∧ Rps K r F l vs
  | .scr l, v => ∃ a vs, v = .ref a ∧ SqL K F a vs ∧ Rps K r F l vs
  | .cls c, v => ∃ C, ClsAt K c C ∧ v = .ref C
  | .exn c f, v => ∃ a C d, v = .ref a ∧ ClsAt K c C ∧ F a = some (ExH (.ref C) d a) ∧ FldOk F d f
def Rps (K : PySem.W.Frag) (r : List Addr) (F : Hp) : List D → List V → Prop
  | [], vs => vs = []
  | d :: l, vs => ∃ v t, vs = v :: t ∧ Rp K r F d v ∧ Rps K r F l t
end

theorem rd_same {H H' : Hp} {a : Addr} {u : HO} (e : Same H H') (h : Rd H a u) : Rd H' a u := by
  rcases h with h | ⟨o, h⟩
  · exact .inl (e _ _ h)
  · exact .inr ⟨o, e _ _ h⟩

section
variable {K : PySem.W.Frag} {r r' : List Addr} {F F' : Hp}
mutual
theorem Rp.mono (hr : ∃ t, r' = r ++ t) (hF : Same F F') : ∀ (d : D) (v : V), Rp K r F d v → Rp K r' F' d v
  | .non, _, h => by unfold Rp at h ⊢; exact h
  | .bl _, _, h => by unfold Rp at h ⊢; exact h
  | .int _, _, h => by unfold Rp at h ⊢; exact h
  | .str _, _, h => by unfold Rp at h ⊢; exact h
  | .raw _, _, h => by unfold Rp at h ⊢; exact h
  | .cell n, _, h => by
    unfold Rp at h ⊢
    obtain ⟨a, e, q⟩ := h
    obtain ⟨t, rfl⟩ := hr
    refine ⟨a, ?_, q⟩
    rw [List.getElem?_append_left (List.getElem?_eq_some_iff.mp e).1]
    exact e
  | .tup l, _, h => by
    unfold Rp at h ⊢
    obtain ⟨a, vs, e, q, p⟩ := h
    exact ⟨a, vs, e, rd_same hF q, Rps.mono hr hF l vs p⟩
  | .lst l, _, h => by
    unfold Rp at h ⊢
    obtain ⟨a, vs, e, q, p⟩ := h
    exact ⟨a, vs, e, hF _ _ q, Rps.mono hr hF l vs p⟩
  | .scr l, _, h => by
    unfold Rp at h ⊢
    obtain ⟨a, vs, e, q, p⟩ := h
    exact ⟨a, vs, e, hF.seq q, Rps.mono hr hF l vs p⟩
  | .cls _, _, h => by unfold Rp at h ⊢; exact h
  | .exn _ _, _, h => by
    unfold Rp at h ⊢
    obtain ⟨a, C, d, e, q, p, f⟩ := h
    exact ⟨a, C, d, e, q, hF _ _ p, f.mono hF⟩
theorem Rps.mono (hr : ∃ t, r' = r ++ t) (hF : Same F F') : ∀ (l : List D) (vs : List V), Rps K r F l vs → Rps K r' F' l vs
  | [], _, h => by unfold Rps at h ⊢; exact h
  | d :: l, vs, h => by
    unfold Rps at h ⊢
    obtain ⟨v, t, e, p, q⟩ := h
    exact ⟨v, t, e, Rp.mono hr hF d v p, Rps.mono hr hF l t q⟩
end
theorem rps_nil : Rps K r F [] [] := by unfold Rps; rfl
theorem rps_cons {d : D} {v : V} {l : List D} {vs : List V} (h : Rp K r F d v) (t : Rps K r F l vs) : Rps K r F (d :: l) (v :: vs) := by
  unfold Rps; exact ⟨v, vs, rfl, h, t⟩
theorem Rps.nil_inv {vs : List V} (h : Rps K r F [] vs) : vs = [] := by unfold Rps at h; exact h
theorem Rps.cons_inv {d : D} {l : List D} {vs : List V} (h : Rps K r F (d :: l) vs) : ∃ v t, vs = v :: t ∧ Rp K r F d v ∧ Rps K r F l t := by unfold Rps at h; exact h
theorem Rps.length : ∀ {l : List D} {vs : List V}, Rps K r F l vs → vs.length = l.length
  | [], vs, h => by rw [h.nil_inv]; rfl
  | d :: l, vs, h => by
    obtain ⟨v, t, e, _, q⟩ := h.cons_inv
    subst e
    simp [Rps.length q]
theorem Rps.get : ∀ {l : List D} {vs : List V} {i : Nat} {d : D}, Rps K r F l vs → l[i]? = some d → ∃ v, vs[i]? = some v ∧ Rp K r F d v
  | [], _, i, _, _, e => by simp at e
  | d :: l, vs, 0, d', h, e => by
    obtain ⟨v, t, e1, p, _⟩ := h.cons_inv
    subst e1
    simp at e
    subst e
    exact ⟨v, rfl, p⟩
  | d :: l, vs, i + 1, d', h, e => by
    obtain ⟨v, t, e1, _, q⟩ := h.cons_inv
    subst e1
    obtain ⟨v', e2, p⟩ := Rps.get (i := i) q (by simpa using e)
    exact ⟨v', by simpa using e2, p⟩
theorem Rps.append : ∀ {l m : List D} {vs ws : List V}, Rps K r F l vs → Rps K r F m ws → Rps K r F (l ++ m) (vs ++ ws)
  | [], m, vs, ws, h, q => by rw [h.nil_inv]; exact q
  | d :: l, m, vs, ws, h, q => by
    obtain ⟨v, t, e, p, q'⟩ := h.cons_inv
    subst e
    exact rps_cons p (Rps.append q' q)
theorem Rps.take : ∀ {l : List D} {vs : List V} (n : Nat), Rps K r F l vs → Rps K r F (l.take n) (vs.take n)
  | [], vs, n, h => by rw [h.nil_inv]; simp; exact rps_nil
  | d :: l, vs, 0, h => by simp; exact rps_nil
  | d :: l, vs, n + 1, h => by
    obtain ⟨v, t, e, p, q⟩ := h.cons_inv
    subst e
    exact rps_cons p (Rps.take n q)
theorem Rps.drop : ∀ {l : List D} {vs : List V} (n : Nat), Rps K r F l vs → Rps K r F (l.drop n) (vs.drop n)
  | l, vs, 0, h => by simpa using h
  | [], vs, n + 1, h => by rw [h.nil_inv]; simp; exact rps_nil
  | d :: l, vs, n + 1, h => by
    obtain ⟨v, t, e, p, q⟩ := h.cons_inv
    subst e
    exact Rps.drop n q
theorem Rps.set : ∀ {l : List D} {vs : List V} {d : D} {v : V} (n : Nat), Rps K r F l vs → Rp K r F d v → Rps K r F (l.set n d) (vs.set n v)
  | [], vs, d, v, n, h, p => by rw [h.nil_inv]; simp; exact rps_nil
  | d0 :: l, vs, d, v, 0, h, p => by
    obtain ⟨v', t, e, _, q⟩ := h.cons_inv
    subst e
    exact rps_cons p q
  | d0 :: l, vs, d, v, n + 1, h, p => by
    obtain ⟨v', t, e, p', q⟩ := h.cons_inv
    subst e
    exact rps_cons p' (Rps.set n q p)
theorem Rps.reverse {l : List D} {vs : List V} (h : Rps K r F l vs) : Rps K r F l.reverse vs.reverse := by
  induction l generalizing vs with
  | nil => rw [h.nil_inv]; exact rps_nil
  | cons d l ih =>
    obtain ⟨v, t, e, p, q⟩ := h.cons_inv
    subst e
    rw [List.reverse_cons, List.reverse_cons]
    exact (ih q).append (rps_cons p rps_nil)
theorem Rps.rep {l : List D} {vs : List V} (h : Rps K r F l vs) : ∀ k : Nat, Rps K r F (List.replicate k l).flatten (List.replicate k vs).flatten
  | 0 => rps_nil
  | k + 1 => by
    rw [List.replicate_succ, List.replicate_succ, List.flatten_cons, List.flatten_cons]
    exact h.append (Rps.rep h k)
theorem rps_ints : ∀ ns : List Int, Rps K r F (ns.map D.int) (ns.map V.int)
  | [] => rps_nil
  | n :: ns => rps_cons (by unfold Rp; rfl) (rps_ints ns)
theorem Rps.ints : ∀ {ns : List Int} {vs : List V}, Rps K r F (ns.map D.int) vs → vs = ns.map V.int
  | [], vs, h => h.nil_inv
  | n :: ns, vs, h => by
    obtain ⟨v, t, e, p, q⟩ := h.cons_inv
    subst e
    unfold Rp at p
    subst p
    rw [Rps.ints q]
    rfl
end

/-! ### worlds -/
structure Wl where
  r : List Addr
  F : Hp
  S : Store
  H : Hp

def alv (S : Store) (n : Nat) : Prop := ∃ c, S[n]? = some c ∧ c ≠ .dead
def RpK (K : PySem.W.Frag) (r : List Addr) (F : Hp) : List (Key × D) → List (Key × V) → Prop := Paired fun p q => p.1 = q.1 ∧ Rp K r F p.2 q.2
def CellOk (K : PySem.W.Frag) (r : List Addr) (F H : Hp) (a : Addr) : Cn → Prop
  | .dead => True
  | .lst l => F a = none ∧ ∃ vs, H a = some (.lst vs) ∧ Rps K r F l vs
  | .dct kvs => F a = none ∧ ∃ ws, H a = some (.dK ws) ∧ RpK K r F kvs ws

theorem RpK.mono {K : PySem.W.Frag} {r r' : List Addr} {F F' : Hp} (hr : ∃ t, r' = r ++ t) (hF : Same F F') {kvs : List (Key × D)} {ws : List (Key × V)} (h : RpK K r F kvs ws) : RpK K r' F' kvs ws :=
  Paired.mapP h fun p q z => ⟨z.1, Rp.mono hr hF _ _ z.2⟩

structure Wd (K : PySem.W.Frag) (w : Wl) : Prop where
  len : w.r.length = w.S.length
  same : Same w.F w.H
  cell : ∀ (n : Nat) a c, w.r[n]? = some a → w.S[n]? = some c → CellOk K w.r w.F w.H a c
  inj : ∀ (n m : Nat) a, w.r[n]? = some a → w.r[m]? = some a → alv w.S n → alv w.S m → n = m

structure Go (K : PySem.W.Frag) (w w' : Wl) : Prop where
  wd : Wd K w'
  pre : ∃ t, w'.r = w.r ++ t
  len : w.r.length = w.S.length
  live : ∀ (n : Nat), n < w.S.length → alv w'.S n → alv w.S n
  new : ∀ (n : Nat) a, w.S.length ≤ n → w'.r[n]? = some a → alv w'.S n → w.H a = none
  F : Same w.F w'.F
  fr : ∀ a o, w.H a = some o → (∀ (n : Nat), w.r[n]? = some a → ¬ alv w.S n) → w'.H a = some o
  trk : ∀ a, w'.H a = none → w.H a = none
  fnew : ∀ a, w.H a ≠ none → w.F a = none → (∀ (n : Nat), w.r[n]? = some a → ¬ alv w.S n) → w'.F a = none

section
variable {K : PySem.W.Frag} {w w1 w2 : Wl}
theorem Go.refl (h : Wd K w) : Go K w w where
  wd := h
  pre := ⟨[], by simp⟩
  len := h.len
  live := fun _ _ q => q
  new := fun n a hn e _ => by
    have := (List.getElem?_eq_some_iff.mp e).1
    have := h.len
    omega
  F := Same.refl _
  fr := fun _ _ e _ => e
  trk := fun _ e => e
  fnew := fun _ _ e _ => e
theorem Go.slen (g : Go K w w1) : w.S.length ≤ w1.S.length := by
  obtain ⟨t, e⟩ := g.pre
  have h1 := g.wd.len
  rw [e, List.length_append, g.len] at h1
  omega
theorem pre_get {r r' : List Addr} {n : Nat} {a : Addr} (h : ∃ t, r' = r ++ t) (e : r[n]? = some a) : r'[n]? = some a := by
  obtain ⟨t, rfl⟩ := h
  rw [List.getElem?_append_left (List.getElem?_eq_some_iff.mp e).1]
  exact e
theorem pre_back {r r' : List Addr} {n : Nat} {a : Addr} (h : ∃ t, r' = r ++ t) (hn : n < r.length) (e : r'[n]? = some a) : r[n]? = some a := by
  obtain ⟨t, rfl⟩ := h
  rw [List.getElem?_append_left hn] at e
  exact e
theorem Go.trans (g : Go K w w1) (h : Go K w1 w2) : Go K w w2 where
  wd := h.wd
  pre := by
    obtain ⟨t, e⟩ := g.pre
    obtain ⟨t', e'⟩ := h.pre
    exact ⟨t ++ t', by rw [e', e, List.append_assoc]⟩
  len := g.len
  live := fun n hn q => g.live n hn (h.live n (Nat.lt_of_lt_of_le hn g.slen) q)
  new := fun n a hn e q => by
    by_cases hl : n < w1.S.length
    · exact g.new n a hn (pre_back h.pre (by rw [g.wd.len]; exact hl) e) (h.live n hl q)
    · exact g.trk a (h.new n a (Nat.le_of_not_lt hl) e q)
  F := g.F.trans h.F
  fr := fun a o e q => by
    refine h.fr a o (g.fr a o e q) fun n hn hl => ?_
    by_cases hs : n < w.S.length
    · exact q n (pre_back g.pre (by rw [g.len]; exact hs) hn) (g.live n hs hl)
    · have := g.new n a (Nat.le_of_not_lt hs) hn hl
      rw [e] at this
      cases this
  trk := fun a e => g.trk a (h.trk a e)
  fnew := fun a e f q => h.fnew a (fun z => e (g.trk a z)) (g.fnew a e f q) fun n hn hl => by
    by_cases hs : n < w.S.length
    · exact q n (pre_back g.pre (by rw [g.len]; exact hs) hn) (g.live n hs hl)
    · exact e (g.new n a (Nat.le_of_not_lt hs) hn hl)
theorem Rp.go (g : Go K w w1) {d : D} {v : V} (h : Rp K w.r w.F d v) : Rp K w1.r w1.F d v := Rp.mono g.pre g.F d v h
theorem Rps.go (g : Go K w w1) {d : List D} {v : List V} (h : Rps K w.r w.F d v) : Rps K w1.r w1.F d v := Rps.mono g.pre g.F d v h

theorem Wd.fresh (h : Wd K w) {p : Addr} (n : w.H p = none) : w.F p = none := h.same.free n
theorem CellOk.mono {r r' : List Addr} {F F' H H' : Hp} {a : Addr} {c : Cn} (h : CellOk K r F H a c) (hr : ∃ t, r' = r ++ t) (hF : Same F F') (hn : c ≠ .dead → F a = none → F' a = none) (hH : c ≠ .dead → ∀ o, H a = some o → H' a = some o) : CellOk K r' F' H' a c := by
  cases c with
  | dead => exact trivial
  | lst l =>
    obtain ⟨n, vs, e, q⟩ := h
    exact ⟨hn (by simp) n, vs, hH (by simp) _ e, Rps.mono hr hF _ _ q⟩
  | dct kvs =>
    obtain ⟨n, vs, e, q⟩ := h
    exact ⟨hn (by simp) n, vs, hH (by simp) _ e, q.mono hr hF⟩
theorem CellOk.some {r : List Addr} {F H : Hp} {a : Addr} {c : Cn} (h : CellOk K r F H a c) (n : c ≠ .dead) : ∃ o, H a = some o := by
  cases c with
  | dead => exact (n rfl).elim
  | lst l => obtain ⟨_, vs, e, _⟩ := h; exact ⟨_, e⟩
  | dct l => obtain ⟨_, vs, e, _⟩ := h; exact ⟨_, e⟩
theorem CellOk.free {r : List Addr} {F H : Hp} {a : Addr} {c : Cn} (h : CellOk K r F H a c) (n : c ≠ .dead) : F a = none := by
  cases c with
  | dead => exact (n rfl).elim
  | lst l => exact h.1
  | dct l => exact h.1

/-- a new frozen object -/
theorem Go.alloc (h : Wd K w) {p : Addr} {o : HO} (n : w.H p = none) : Go K w ⟨w.r, upd w.F p o, w.S, upd w.H p o⟩ := by
  have sF : Same w.F (upd w.F p o) := fun b x e => by rw [upd_ne (ne_of_none e (h.fresh n))]; exact e
  have sH : Same w.H (upd w.H p o) := fun b x e => by rw [upd_ne (ne_of_none e n)]; exact e
  refine ⟨⟨h.len, fun b x e => ?_, fun k a c e1 e2 => ?_, h.inj⟩, ⟨[], by simp⟩, h.len, fun _ _ q => q, fun k a hk e _ => ?_, sF, fun a x e _ => sH a x e, fun a e => ?_, fun a e f _ => by
    show upd w.F p o a = none
    rw [upd_ne (fun z => e (by rw [z]; exact n))]
    exact f⟩
  · show upd w.H p o b = some x
    have e' : upd w.F p o b = some x := e
    by_cases hb : b = p
    · subst hb
      rw [upd_same] at e' ⊢
      exact e'
    · rw [upd_ne hb] at e' ⊢
      exact h.same _ _ e'
  · have q := h.cell k a c e1 e2
    refine q.mono ⟨[], by simp⟩ sF (fun hd z => ?_) (fun hd x z => sH _ _ z)
    obtain ⟨x, ex⟩ := q.some hd
    show upd w.F p o a = none
    rw [upd_ne (ne_of_none ex n)]
    exact z
  · have hk1 : k < w.r.length := (List.getElem?_eq_some_iff.mp e).1
    have hk2 : w.S.length ≤ k := hk
    have := h.len
    omega
  · show w.H a = none
    have e' : upd w.H p o a = none := e
    by_cases hb : a = p
    · subst hb
      rw [upd_same] at e'
      cases e'
    · rw [upd_ne hb] at e'
      exact e'
theorem alv_append_left {S : Store} {c : Cn} {n : Nat} (hn : n < S.length) (h : alv (S ++ [c]) n) : alv S n := by
  obtain ⟨x, e, q⟩ := h
  rw [List.getElem?_append_left hn] at e
  exact ⟨x, e, q⟩
/-- a new cell -/
theorem Go.newCell (h : Wd K w) {p : Addr} {o : HO} {c : Cn} (n : w.H p = none) (hc : CellOk K (w.r ++ [p]) w.F (upd w.H p o) p c) : Go K w ⟨w.r ++ [p], w.F, w.S ++ [c], upd w.H p o⟩ := by
  have sH : Same w.H (upd w.H p o) := fun b x e => by rw [upd_ne (ne_of_none e n)]; exact e
  have oldr : ∀ {k a}, (w.r ++ [p])[k]? = some a → k < w.S.length → w.r[k]? = some a := fun {k a} e hk => by
    rw [List.getElem?_append_left (by rw [h.len]; exact hk)] at e
    exact e
  have newr : ∀ {k a}, (w.r ++ [p])[k]? = some a → w.S.length ≤ k → k = w.S.length ∧ a = p := fun {k a} e hk => by
    have hl := (List.getElem?_eq_some_iff.mp e).1
    rw [List.length_append, List.length_singleton, h.len] at hl
    have ek : k = w.S.length := by omega
    subst ek
    rw [← h.len, List.getElem?_append_right (Nat.le_refl _), Nat.sub_self] at e
    exact ⟨rfl, (Option.some.inj e).symm⟩
  have addr_some : ∀ {k a}, w.r[k]? = some a → alv w.S k → ∃ x, w.H a = some x := fun {k a} e hl => by
    obtain ⟨c', e2, hd⟩ := hl
    exact (h.cell k a c' e e2).some hd
  refine ⟨⟨?_, h.same.trans sH, fun k a c' e1 e2 => ?_, fun k m a e1 e2 l1 l2 => ?_⟩, ⟨[p], rfl⟩, h.len, fun k hk q => alv_append_left hk q, fun k a hk e _ => ?_, Same.refl _, fun a x e _ => sH a x e, fun a e => ?_, fun _ _ f _ => f⟩
  · simp [h.len]
  · show CellOk K (w.r ++ [p]) w.F (upd w.H p o) a c'
    by_cases hk : k < w.S.length
    · have e2' : w.S[k]? = some c' := by
        have z : (w.S ++ [c])[k]? = some c' := e2
        rw [List.getElem?_append_left hk] at z
        exact z
      exact (h.cell k a c' (oldr e1 hk) e2').mono ⟨[p], rfl⟩ (Same.refl _) (fun _ z => z) (fun _ x z => sH _ _ z)
    · obtain ⟨ek, ea⟩ := newr e1 (Nat.le_of_not_lt hk)
      subst ea
      have z : (w.S ++ [c])[k]? = some c' := e2
      rw [ek, List.getElem?_append_right (Nat.le_refl _), Nat.sub_self] at z
      have : c = c' := Option.some.inj z
      subst this
      exact hc
  · have e1' : (w.r ++ [p])[k]? = some a := e1
    have e2' : (w.r ++ [p])[m]? = some a := e2
    by_cases hk : k < w.S.length
    · by_cases hm : m < w.S.length
      · exact h.inj k m a (oldr e1' hk) (oldr e2' hm) (alv_append_left hk l1) (alv_append_left hm l2)
      · obtain ⟨_, ea⟩ := newr e2' (Nat.le_of_not_lt hm)
        obtain ⟨x, ex⟩ := addr_some (oldr e1' hk) (alv_append_left hk l1)
        rw [ea, n] at ex
        cases ex
    · obtain ⟨ek, ea⟩ := newr e1' (Nat.le_of_not_lt hk)
      by_cases hm : m < w.S.length
      · obtain ⟨x, ex⟩ := addr_some (oldr e2' hm) (alv_append_left hm l2)
        rw [ea, n] at ex
        cases ex
      · obtain ⟨em, _⟩ := newr e2' (Nat.le_of_not_lt hm)
        omega
  · obtain ⟨_, ea⟩ := newr e hk
    rw [ea]
    exact n
  · show w.H a = none
    have e' : upd w.H p o a = none := e
    by_cases hb : a = p
    · subst hb
      rw [upd_same] at e'
      cases e'
    · rw [upd_ne hb] at e'
      exact e'
theorem get_set {S : Store} {n k : Nat} {c : Cn} : (S.set n c)[k]? = if k = n then (if n < S.length then some c else none) else S[k]? := by
  rw [List.getElem?_set]
  by_cases h : n = k
  · subst h; simp
  · rw [if_neg h, if_neg (Ne.symm h)]
theorem alv_set {S : Store} {n k : Nat} {c c0 : Cn} (e0 : S[n]? = some c0) (h0 : c0 ≠ .dead) (h : alv (S.set n c) k) : alv S k := by
  obtain ⟨x, e, q⟩ := h
  rw [get_set] at e
  by_cases hk : k = n
  · subst hk
    exact ⟨c0, e0, h0⟩
  · rw [if_neg hk] at e
    exact ⟨x, e, q⟩
/-- a cell is written -/
theorem Go.write (h : Wd K w) {n : Nat} {a : Addr} {c0 c : Cn} {o : HO} (e0 : w.S[n]? = some c0) (h0 : c0 ≠ .dead) (er : w.r[n]? = some a) (hc : CellOk K w.r w.F (upd w.H a o) a c) : Go K w ⟨w.r, w.F, w.S.set n c, upd w.H a o⟩ := by
  have fa : w.F a = none := (h.cell n a c0 er e0).free h0
  obtain ⟨x0, hx0⟩ := (h.cell n a c0 er e0).some h0
  have other : ∀ {k b}, w.r[k]? = some b → alv w.S k → k ≠ n → b ≠ a := fun {k b} e hl hk z => by
    subst z
    exact hk (h.inj k n b e er hl ⟨c0, e0, h0⟩)
  refine ⟨⟨by simp [h.len], fun b x e => ?_, fun k b c' e1 e2 => ?_, fun k m b e1 e2 l1 l2 => h.inj k m b e1 e2 (alv_set e0 h0 l1) (alv_set e0 h0 l2)⟩, ⟨[], by simp⟩, h.len, fun k hk q => alv_set e0 h0 q, fun k b hk e _ => ?_, Same.refl _, fun b x e q => ?_, fun b e => ?_, fun _ _ f _ => f⟩
  · show upd w.H a o b = some x
    rw [upd_ne (ne_of_none e fa)]
    exact h.same _ _ e
  · show CellOk K w.r w.F (upd w.H a o) b c'
    have e2' : (w.S.set n c)[k]? = some c' := e2
    rw [get_set] at e2'
    by_cases hk : k = n
    · subst hk
      rw [if_pos rfl, if_pos (List.getElem?_eq_some_iff.mp e0).1] at e2'
      have ec : c = c' := Option.some.inj e2'
      subst ec
      have eb : a = b := Option.some.inj (er.symm.trans e1)
      subst eb
      exact hc
    · rw [if_neg hk] at e2'
      refine (h.cell k b c' e1 e2').mono ⟨[], by simp⟩ (Same.refl _) (fun _ z => z) (fun hd x z => ?_)
      rw [upd_ne (other e1 ⟨c', e2', hd⟩ hk)]
      exact z
  · have hk1 : k < w.r.length := (List.getElem?_eq_some_iff.mp e).1
    have hk2 : w.S.length ≤ k := hk
    have := h.len
    omega
  · show upd w.H a o b = some x
    have : b ≠ a := fun z => by
      subst z
      exact q n er ⟨c0, e0, h0⟩
    rw [upd_ne this]
    exact e
  · show w.H b = none
    have e' : upd w.H a o b = none := e
    by_cases hb : b = a
    · subst hb
      rw [upd_same] at e'
      cases e'
    · rw [upd_ne hb] at e'
      exact e'
/-- a cell is frozen -/
theorem Go.freeze (h : Wd K w) {n : Nat} {a : Addr} {l : List D} {vs : List V} (e0 : w.S[n]? = some (.lst l)) (er : w.r[n]? = some a) (ha : w.H a = some (.lst vs)) : Go K w ⟨w.r, upd w.F a (.lst vs), w.S.set n .dead, w.H⟩ := by
  have h0 : Cn.lst l ≠ .dead := by simp
  have fa : w.F a = none := (h.cell n a _ er e0).free h0
  have sF : Same w.F (upd w.F a (.lst vs)) := fun b x e => by rw [upd_ne (ne_of_none e fa)]; exact e
  have other : ∀ {k b}, w.r[k]? = some b → alv w.S k → k ≠ n → b ≠ a := fun {k b} e hl hk z => by
    subst z
    exact hk (h.inj k n b e er hl ⟨_, e0, h0⟩)
  refine ⟨⟨by simp [h.len], fun b x e => ?_, fun k b c' e1 e2 => ?_, fun k m b e1 e2 l1 l2 => h.inj k m b e1 e2 (alv_set e0 h0 l1) (alv_set e0 h0 l2)⟩, ⟨[], by simp⟩, h.len, fun k hk q => alv_set e0 h0 q, fun k b hk e _ => ?_, sF, fun b x e q => e, fun b e => e, fun b e f q => by
    show upd w.F a (.lst vs) b = none
    rw [upd_ne (fun z => by
      subst z
      exact q n er ⟨_, e0, h0⟩)]
    exact f⟩
  · show w.H b = some x
    have e' : upd w.F a (.lst vs) b = some x := e
    by_cases hb : b = a
    · subst hb
      rw [upd_same] at e'
      rw [ha]
      exact e'
    · rw [upd_ne hb] at e'
      exact h.same _ _ e'
  · have e2' : (w.S.set n .dead)[k]? = some c' := e2
    rw [get_set] at e2'
    by_cases hk : k = n
    · subst hk
      rw [if_pos rfl, if_pos (List.getElem?_eq_some_iff.mp e0).1] at e2'
      have ec : Cn.dead = c' := Option.some.inj e2'
      subst ec
      exact trivial
    · rw [if_neg hk] at e2'
      refine (h.cell k b c' e1 e2').mono ⟨[], by simp⟩ sF (fun hd z => ?_) (fun hd x z => z)
      show upd w.F a (.lst vs) b = none
      rw [upd_ne (other e1 ⟨c', e2', hd⟩ hk)]
      exact z
  · have hk1 : k < w.r.length := (List.getElem?_eq_some_iff.mp e).1
    have hk2 : w.S.length ≤ k := hk
    have := h.len
    omega
end

section
variable {K : PySem.W.Frag} {w w1 w2 : Wl}
/-- an object that is not in the store yet: written, taken in -/
theorem Go.loose (g : Go K w w1) {p : Addr} {o : HO} (n : w.H p = none) (h1 : w1.H p ≠ none) (h2 : w1.F p = none) (h3 : ∀ (n : Nat), w1.r[n]? = some p → ¬ alv w1.S n) : Go K w ⟨w1.r, w1.F, w1.S, upd w1.H p o⟩ where
  wd := ⟨g.wd.len, fun b x e => by show upd w1.H p o b = some x; rw [upd_ne (ne_of_none e h2)]; exact g.wd.same _ _ e, fun k a c e1 e2 => (g.wd.cell k a c e1 e2).mono ⟨[], by simp⟩ (Same.refl _) (fun _ z => z) (fun hd x z => by
    show upd w1.H p o a = some x
    rw [upd_ne (fun q => h3 k (by rw [← q]; exact e1) ⟨c, e2, hd⟩)]
    exact z), g.wd.inj⟩
  pre := g.pre
  len := g.len
  live := g.live
  new := g.new
  F := g.F
  fr := fun a x e q => by
    show upd w1.H p o a = some x
    rw [upd_ne (ne_of_none e n)]
    exact g.fr a x e q
  trk := fun a e => by
    have e' : upd w1.H p o a = none := e
    by_cases hb : a = p
    · subst hb
      rw [upd_same] at e'
      cases e'
    · rw [upd_ne hb] at e'
      exact g.trk a e'
  fnew := g.fnew
theorem Go.adopt (g : Go K w w1) {p : Addr} {o : HO} (n : w.H p = none) (h1 : w1.H p = some o) (h2 : w1.F p = none) (h3 : ∀ (n : Nat), w1.r[n]? = some p → ¬ alv w1.S n) : Go K w ⟨w1.r, upd w1.F p o, w1.S, w1.H⟩ := by
  have sF : Same w1.F (upd w1.F p o) := fun b x e => by rw [upd_ne (ne_of_none e h2)]; exact e
  refine ⟨⟨g.wd.len, fun b x e => ?_, fun k a c e1 e2 => (g.wd.cell k a c e1 e2).mono ⟨[], by simp⟩ sF (fun hd z => ?_) (fun _ _ z => z), g.wd.inj⟩, g.pre, g.len, g.live, g.new, g.F.trans sF, g.fr, g.trk, fun a e f q => ?_⟩
  · show w1.H b = some x
    have e' : upd w1.F p o b = some x := e
    by_cases hb : b = p
    · subst hb
      rw [upd_same] at e'
      rw [h1]
      exact e'
    · rw [upd_ne hb] at e'
      exact g.wd.same _ _ e'
  · show upd w1.F p o a = none
    rw [upd_ne (fun q => h3 k (by rw [← q]; exact e1) ⟨c, e2, hd⟩)]
    exact z
  · show upd w1.F p o a = none
    rw [upd_ne (fun q => e (by rw [q]; exact n))]
    exact g.fnew a e f q
theorem Go.adoptCell (g : Go K w w1) {p : Addr} {o : HO} {c : Cn} (n : w.H p = none) (h1 : w1.H p = some o) (h2 : w1.F p = none) (h3 : ∀ (n : Nat), w1.r[n]? = some p → ¬ alv w1.S n) (hc : CellOk K (w1.r ++ [p]) w1.F w1.H p c) :
    Go K w ⟨w1.r ++ [p], w1.F, w1.S ++ [c], w1.H⟩ := by
  have oldr : ∀ {k a}, (w1.r ++ [p])[k]? = some a → k < w1.S.length → w1.r[k]? = some a := fun {k a} e hk => by
    rw [List.getElem?_append_left (by rw [g.wd.len]; exact hk)] at e
    exact e
  have newr : ∀ {k a}, (w1.r ++ [p])[k]? = some a → w1.S.length ≤ k → k = w1.S.length ∧ a = p := fun {k a} e hk => by
    have hl := (List.getElem?_eq_some_iff.mp e).1
    rw [List.length_append, List.length_singleton, g.wd.len] at hl
    have ek : k = w1.S.length := by omega
    subst ek
    rw [← g.wd.len, List.getElem?_append_right (Nat.le_refl _), Nat.sub_self] at e
    exact ⟨rfl, (Option.some.inj e).symm⟩
  have hlen := g.slen
  obtain ⟨t, et⟩ := g.pre
  refine ⟨⟨by simp [g.wd.len], g.wd.same, fun k a c' e1 e2 => ?_, fun k m a e1 e2 l1 l2 => ?_⟩, ⟨t ++ [p], by show w1.r ++ [p] = _; rw [et, List.append_assoc]⟩, g.len, fun k hk q => g.live k hk (alv_append_left (Nat.lt_of_lt_of_le hk hlen) q), fun k a hk e q => ?_, g.F, g.fr, g.trk, g.fnew⟩
  · show CellOk K (w1.r ++ [p]) w1.F w1.H a c'
    by_cases hk : k < w1.S.length
    · have e2' : w1.S[k]? = some c' := by
        have z : (w1.S ++ [c])[k]? = some c' := e2
        rw [List.getElem?_append_left hk] at z
        exact z
      exact (g.wd.cell k a c' (oldr e1 hk) e2').mono ⟨[p], rfl⟩ (Same.refl _) (fun _ z => z) (fun _ x z => z)
    · obtain ⟨ek, ea⟩ := newr e1 (Nat.le_of_not_lt hk)
      subst ea
      have z : (w1.S ++ [c])[k]? = some c' := e2
      rw [ek, List.getElem?_append_right (Nat.le_refl _), Nat.sub_self] at z
      have : c = c' := Option.some.inj z
      subst this
      exact hc
  · have e1' : (w1.r ++ [p])[k]? = some a := e1
    have e2' : (w1.r ++ [p])[m]? = some a := e2
    by_cases hk : k < w1.S.length
    · by_cases hm : m < w1.S.length
      · exact g.wd.inj k m a (oldr e1' hk) (oldr e2' hm) (alv_append_left hk l1) (alv_append_left hm l2)
      · obtain ⟨_, ea⟩ := newr e2' (Nat.le_of_not_lt hm)
        exact (h3 k (by rw [← ea]; exact oldr e1' hk) (alv_append_left hk l1)).elim
    · obtain ⟨ek, ea⟩ := newr e1' (Nat.le_of_not_lt hk)
      by_cases hm : m < w1.S.length
      · exact (h3 m (by rw [← ea]; exact oldr e2' hm) (alv_append_left hm l2)).elim
      · obtain ⟨em, _⟩ := newr e2' (Nat.le_of_not_lt hm)
        omega
  · by_cases hm : k < w1.S.length
    · exact g.new k a hk (oldr e hm) (alv_append_left hm q)
    · obtain ⟨_, ea⟩ := newr e (Nat.le_of_not_lt hm)
      rw [ea]
      exact n
/-- the cells that came behind n are forgotten -/
theorem take_get {α : Type} {l : List α} {n k : Nat} {x : α} (h : (l.take n)[k]? = some x) : l[k]? = some x ∧ k < n := by
  rw [List.getElem?_take] at h
  by_cases hk : k < n
  · rw [if_pos hk] at h
    exact ⟨h, hk⟩
  · rw [if_neg hk] at h
    cases h
theorem alv_take {S : Store} {n k : Nat} (h : alv (S.take n) k) : alv S k := by
  obtain ⟨c, e, q⟩ := h
  exact ⟨c, (take_get e).1, q⟩
end
/-! no cell from n on is told of -/
mutual
def D.under (n : Nat) : D → Bool
  | .cell k => decide (k < n)
  | .tup l => D.underL n l
  | .lst l => D.underL n l
  | .scr l => D.underL n l
  | _ => true
def D.underL (n : Nat) : List D → Bool
  | [] => true
  | d :: l => D.under n d && D.underL n l
end
section
variable {K : PySem.W.Frag} {r : List Addr} {F : Hp}
mutual
theorem Rp.cut {n : Nat} : ∀ (d : D) (v : V), D.under n d = true → Rp K r F d v → Rp K (r.take n) F d v
  | .non, _, _, h => by unfold Rp at h ⊢; exact h
  | .bl _, _, _, h => by unfold Rp at h ⊢; exact h
  | .int _, _, _, h => by unfold Rp at h ⊢; exact h
  | .str _, _, _, h => by unfold Rp at h ⊢; exact h
  | .raw _, _, _, h => by unfold Rp at h ⊢; exact h
  | .cell k, _, u, h => by
    unfold Rp at h ⊢
    unfold D.under at u
    obtain ⟨a, e, q⟩ := h
    refine ⟨a, ?_, q⟩
    rw [List.getElem?_take, if_pos (of_decide_eq_true u)]
    exact e
  | .tup l, _, u, h => by
    unfold Rp at h ⊢
    unfold D.under at u
    obtain ⟨a, vs, e, q, p⟩ := h
    exact ⟨a, vs, e, q, Rps.cut l vs u p⟩
  | .lst l, _, u, h => by
    unfold Rp at h ⊢
    unfold D.under at u
    obtain ⟨a, vs, e, q, p⟩ := h
    exact ⟨a, vs, e, q, Rps.cut l vs u p⟩
  | .scr l, _, u, h => by
    unfold Rp at h ⊢
    unfold D.under at u
    obtain ⟨a, vs, e, q, p⟩ := h
    exact ⟨a, vs, e, q, Rps.cut l vs u p⟩
  | .cls _, _, _, h => by unfold Rp at h ⊢; exact h
  | .exn _ _, _, _, h => by unfold Rp at h ⊢; exact h
theorem Rps.cut {n : Nat} : ∀ (l : List D) (vs : List V), D.underL n l = true → Rps K r F l vs → Rps K (r.take n) F l vs
  | [], _, _, h => by unfold Rps at h ⊢; exact h
  | d :: l, vs, u, h => by
    unfold Rps at h ⊢
    unfold D.underL at u
    rw [Bool.and_eq_true] at u
    obtain ⟨v, t, e, p, q⟩ := h
    exact ⟨v, t, e, Rp.cut d v u.1 p, Rps.cut l t u.2 q⟩
end
end
def Cn.under (n : Nat) : Cn → Bool
  | .dead => true
  | .lst l => D.underL n l
  | .dct kvs => kvs.all fun p => D.under n p.2
theorem RpK.cut {K : PySem.W.Frag} {r : List Addr} {F : Hp} {n : Nat} : ∀ {kvs : List (Key × D)} {ws : List (Key × V)}, (kvs.all fun p => D.under n p.2) = true → RpK K r F kvs ws → RpK K (r.take n) F kvs ws
  | [], _, _, .nil => .nil
  | p :: kvs, _, u, .cons h t => by
    rw [List.all_cons, Bool.and_eq_true] at u
    exact .cons ⟨h.1, Rp.cut _ _ u.1 h.2⟩ (RpK.cut u.2 t)
theorem CellOk.cut {K : PySem.W.Frag} {r : List Addr} {F H : Hp} {a : Addr} {n : Nat} {c : Cn} (u : c.under n = true) (h : CellOk K r F H a c) : CellOk K (r.take n) F H a c := by
  cases c with
  | dead => exact trivial
  | lst l =>
    obtain ⟨f, vs, e, q⟩ := h
    exact ⟨f, vs, e, Rps.cut _ _ u q⟩
  | dct kvs =>
    obtain ⟨f, vs, e, q⟩ := h
    exact ⟨f, vs, e, RpK.cut u q⟩
/-- a def's end: the cells that it made are forgotten -/
theorem Go.cut {K : PySem.W.Frag} {w w1 : Wl} (g : Go K w w1) (u : ((w1.S.take w.S.length).all fun c => c.under w.S.length) = true) : Go K w ⟨w1.r.take w.S.length, w1.F, w1.S.take w.S.length, w1.H⟩ := by
  have hl := g.slen
  have hr := g.wd.len
  obtain ⟨t, et⟩ := g.pre
  refine ⟨⟨by simp [hr], g.wd.same, fun k a c e1 e2 => ?_, fun k m a e1 e2 l1 l2 => g.wd.inj k m a (take_get e1).1 (take_get e2).1 (alv_take l1) (alv_take l2)⟩, ⟨[], ?_⟩, g.len, fun k hk q => g.live k hk (alv_take q), fun k a hk e q => ?_, g.F, g.fr, g.trk, g.fnew⟩
  · have hm : c ∈ w1.S.take w.S.length := List.mem_of_getElem? e2
    exact (g.wd.cell k a c (take_get e1).1 (take_get e2).1).cut (List.all_eq_true.mp u c hm)
  · show w1.r.take w.S.length = w.r ++ []
    rw [et, ← g.len, List.take_left, List.append_nil]
  · have := (take_get e).2
    have hk' : w.S.length ≤ k := hk
    omega

/-! ### what an end is to show -/
def ExcOk (K : PySem.W.Frag) (mg : Str → Option Value) (w : Wl) (x : Exn) (cls : Value) (dd : Option Addr) : Prop :=
  ∃ C, ClsAt K x.cls C ∧ cls = .ref C ∧ FldOk w.F dd x.val
/-- what the written part tells -/
structure Kt where
  K : PySem.W.Frag
  mg : Str → Option Value
abbrev kt (X : Cx) : Kt := ⟨X.K, X.mg⟩
def SatW {α β : Type} (T : Kt) (W : WX) (σ : L2.St) (R : Wl → α → β → Prop) (w : Wl) (res : Res α) (P : Wl → α → β → Prop) : Prop := match res with
  | .ok d S' => ∀ w' v, Go T.K w w' → w'.S = S' → R w' d v → P w' d v
  | .exc x S' => ∀ w' cls dd, Go T.K w w' → w'.S = S' → ExcOk T.K T.mg w' x cls dd → W cls dd σ w'.H
  | .bad => False
section
variable {α β γ δ : Type} {T : Kt} {W : WX} {σ : L2.St} {R : Wl → α → β → Prop} {R' : Wl → γ → δ → Prop} {w w1 : Wl}
theorem SatW.pre {res : Res α} {P : Wl → α → β → Prop} (h : SatW T W σ R w res P) (g : Go T.K w w1) : SatW T W σ R w1 res P := by
  cases res with
  | ok d S => exact fun w' v g' e q => h w' v (g.trans g') e q
  | exc x S => exact fun w' cls dd g' e q => h w' cls dd (g.trans g') e q
  | bad => exact h
theorem SatW.bind {x : Res α} {k : α → Store → Res γ} {P : Wl → γ → δ → Prop} (h : SatW T W σ R' w (x.bind k) P) : SatW T W σ R w x (fun w1 d _ => SatW T W σ R' w1 (k d w1.S) P) := by
  cases x with
  | ok d S => exact fun w' v g e q => by subst e; exact SatW.pre (res := k d w'.S) h g
  | exc x S => exact h
  | bad => exact h
theorem SatW.imp {res : Res α} {P P' : Wl → α → β → Prop} (h : SatW T W σ R w res P) (hP : ∀ w' d v, Go T.K w w' → R w' d v → P w' d v → P' w' d v) : SatW T W σ R w res P' := by
  cases res with
  | ok d S => exact fun w' v g e q => hP w' d v g q (h w' v g e q)
  | exc x S => exact h
  | bad => exact h
theorem SatW.here {d : α} {v : β} {P : Wl → α → β → Prop} (h : SatW T W σ R w (.ok d w.S) P) (hw : Wd T.K w) (q : R w d v) : P w d v := h w v (Go.refl hw) rfl q
end

def EnvOk (K : PySem.W.Frag) (w : Wl) (env : Env) (σ : L2.St) : Prop := env.length = σ.length ∧ ∀ (i : Nat) d, env[i]? = some (some d) → ∃ v, σ[i]? = some (some v) ∧ Rp K w.r w.F d v
theorem EnvOk.go {K : PySem.W.Frag} {w w1 : Wl} {env : Env} {σ : L2.St} (h : EnvOk K w env σ) (g : Go K w w1) : EnvOk K w1 env σ :=
  ⟨h.1, fun i d e => let ⟨v, e2, q⟩ := h.2 i d e; ⟨v, e2, q.go g⟩⟩
theorem EnvOk.set {K : PySem.W.Frag} {w : Wl} {env : Env} {σ : L2.St} (h : EnvOk K w env σ) {i : Nat} {d : D} {v : V} (q : Rp K w.r w.F d v) : EnvOk K w (env.set i (some d)) (σ.set i (some v)) := by
  refine ⟨by simp [h.1], fun j d' e => ?_⟩
  rw [List.getElem?_set] at e
  by_cases hj : i = j
  · subst hj
    rw [if_pos rfl] at e
    by_cases hl : i < env.length
    · rw [if_pos hl] at e
      have ed : d = d' := by injection (Option.some.inj e)
      subst ed
      exact ⟨v, by rw [List.getElem?_set_self (by rw [← h.1]; exact hl)], q⟩
    · rw [if_neg hl] at e
      cases e
  · rw [if_neg hj] at e
    obtain ⟨v', e2, q'⟩ := h.2 j d' e
    exact ⟨v', by rw [List.getElem?_set_ne hj]; exact e2, q'⟩
theorem EnvOk.unset {K : PySem.W.Frag} {w : Wl} {env : Env} {σ : L2.St} (h : EnvOk K w env σ) {i : Nat} : EnvOk K w (env.set i none) (σ.set i none) := by
  refine ⟨by simp [h.1], fun j d' e => ?_⟩
  rw [List.getElem?_set] at e
  by_cases hj : i = j
  · subst hj
    rw [if_pos rfl] at e
    by_cases hl : i < env.length
    · rw [if_pos hl] at e
      cases Option.some.inj e
    · rw [if_neg hl] at e
      cases e
  · rw [if_neg hj] at e
    obtain ⟨v', e2, q'⟩ := h.2 j d' e
    exact ⟨v', by rw [List.getElem?_set_ne hj]; exact e2, q'⟩

abbrev RD (K : PySem.W.Frag) : Wl → D → V → Prop := fun w d v => Rp K w.r w.F d v
abbrev RDs (K : PySem.W.Frag) : Wl → List D → List V → Prop := fun w d v => Rps K w.r w.F d v
abbrev RB : Wl → Bool → Bool → Prop := fun _ a b => a = b

/-- the readings -/
def tD (T : Kt) (W : WX) (f : Env → M D) : TE := fun σ H Q => ∃ (w : Wl) (env : Env), w.H = H ∧ Wd T.K w ∧ EnvOk T.K w env σ ∧ SatW T W σ (RD T.K) w (f env w.S) (fun w' _ v => Q v w'.H)
def tDB (T : Kt) (W : WX) (f : Env → M Bool) : TT := fun σ H Q => ∃ (w : Wl) (env : Env), w.H = H ∧ Wd T.K w ∧ EnvOk T.K w env σ ∧ SatW T W σ RB w (f env w.S) (fun w' _ v => Q v w'.H)
def tDA (T : Kt) (W : WX) (f : Env → M (List D)) : TA := fun σ H Q => ∃ (w : Wl) (env : Env), w.H = H ∧ Wd T.K w ∧ EnvOk T.K w env σ ∧ SatW T W σ (RDs T.K) w (f env w.S) (fun w' _ v => Q v w'.H)
def PD (X : Cx) (W : WX) (e : Expr) (f : Env → M D) : Prop := PE X e (tD (kt X) W f)
def PTD (X : Cx) (W : WX) (e : Expr) (f : Env → M Bool) : Prop := PT X e (tDB (kt X) W f)
def PWD (X : Cx) (W : WX) (e : Expr) (f : Env → M Bool) : Prop := PW X e (tDB (kt X) W f)
def PAD (X : Cx) (W : WX) (es : List Expr) (f : Env → M (List D)) : Prop := PA X es (tDA (kt X) W f)
theorem weakE {X : Cx} {e : Expr} {t t' : TE} (h : PE X e t) (q : ∀ σ H Q, t' σ H Q → t σ H Q) : PE X e t' := ⟨fun pins s σ H Q I z => h.run pins s σ H Q I (q _ _ _ z)⟩
theorem weakT {X : Cx} {e : Expr} {t t' : TT} (h : PT X e t) (q : ∀ σ H Q, t' σ H Q → t σ H Q) : PT X e t' := ⟨fun pins s σ H Q I z => h.run pins s σ H Q I (q _ _ _ z)⟩
theorem weakW {X : Cx} {e : Expr} {t t' : TT} (h : PW X e t) (q : ∀ σ H Q, t' σ H Q → t σ H Q) : PW X e t' := ⟨fun wh pins s σ H Q I z => h.run wh pins s σ H Q I (q _ _ _ z)⟩
theorem weakA {X : Cx} {e : List Expr} {t t' : TA} (h : PA X e t) (q : ∀ σ H Q, t' σ H Q → t σ H Q) : PA X e t' := ⟨fun pos pins s σ H Q I z => h.run pos pins s σ H Q I (q _ _ _ z)⟩
theorem weakS {X : Cx} {e : Stmt} {t t' : TS} (h : PS X e t) (q : ∀ D σ H, t' D σ H → t D σ H) : PS X e t' := ⟨fun pins s σ H D I z => h.run pins s σ H D I (q _ _ _ z)⟩
theorem weakSs {X : Cx} {e : List Stmt} {t t' : TS} (h : PSs X e t) (q : ∀ D σ H, t' D σ H → t D σ H) : PSs X e t' := ⟨fun pins s σ H D I z => h.run pins s σ H D I (q _ _ _ z)⟩
end Dv
/-! # Dv2: expressions -/
namespace Dv
open PySem PySem.Spec PyProof.Rows L2

/-! ### reading a list -/
def getL (d : D) (S : Store) : Option (List D) := match d with
  | .lst l => some l
  | .cell n => match S[n]? with
    | some (.lst l) => some l
    | _ => none
  | _ => none
def getT : D → Option (List D)
  | .tup l => some l
  | _ => none
section
variable {K : PySem.W.Frag} {w : Wl} {d : D} {v : V} {l : List D}
theorem getL_cell {n : Nat} (h : getL (.cell n) w.S = some l) : w.S[n]? = some (.lst l) := by
  simp only [getL] at h
  split at h
  · rename_i l' e
    rw [e, Option.some.inj h]
  · cases h
theorem getL_ok (hw : Wd K w) (hr : Rp K w.r w.F d v) (h : getL d w.S = some l) : ∃ a vs, v = .ref a ∧ w.H a = some (.lst vs) ∧ Rps K w.r w.F l vs := by
  cases d with
  | lst l' =>
    have e : l' = l := Option.some.inj h
    subst e
    unfold Rp at hr
    obtain ⟨a, vs, e, q, p⟩ := hr
    exact ⟨a, vs, e, hw.same _ _ q, p⟩
  | cell n =>
    have hs := getL_cell h
    unfold Rp at hr
    obtain ⟨a, e, q⟩ := hr
    obtain ⟨_, vs, e2, p⟩ := hw.cell n a _ e hs
    exact ⟨a, vs, q, e2, p⟩
  | non => cases h
  | bl _ => cases h
  | int _ => cases h
  | str _ => cases h
  | tup _ => cases h
  | scr _ => cases h
  | raw _ => cases h
  | cls _ => cases h
  | exn _ _ => cases h
/-- a list that is read alone -/
def getQ (d : D) (S : Store) : Option (List D) := match d with
  | .scr l => some l
  | d => getL d S
@[simp] theorem getQ_lst {l : List D} {S : Store} : getQ (.lst l) S = some l := rfl
@[simp] theorem getQ_scr {l : List D} {S : Store} : getQ (.scr l) S = some l := rfl
@[simp] theorem getQ_cell {n : Nat} {S : Store} : getQ (.cell n) S = getL (.cell n) S := rfl
@[simp] theorem getL_lst {l : List D} {S : Store} : getL (.lst l) S = some l := rfl
theorem getQ_ok (hw : Wd K w) (hr : Rp K w.r w.F d v) (h : getQ d w.S = some l) : ∃ a vs, v = .ref a ∧ SqL K w.H a vs ∧ Rps K w.r w.F l vs := by
  have gen : getL d w.S = some l → ∃ a vs, v = .ref a ∧ SqL K w.H a vs ∧ Rps K w.r w.F l vs := fun h => by
    obtain ⟨a, vs, e, q, p⟩ := getL_ok hw hr h
    exact ⟨a, vs, e, .inl (.inl q), p⟩
  cases d with
  | scr l' =>
    have e : l' = l := Option.some.inj h
    subst e
    unfold Rp at hr
    obtain ⟨a, vs, e, q, p⟩ := hr
    exact ⟨a, vs, e, hw.same.seq q, p⟩
  | _ => exact gen h
theorem getT_ok (hw : Wd K w) (hr : Rp K w.r w.F d v) (h : getT d = some l) : ∃ a vs, v = .ref a ∧ Rd w.H a (.tup vs) ∧ Rps K w.r w.F l vs := by
  cases d with
  | tup l' =>
    have e : l' = l := Option.some.inj h
    subst e
    unfold Rp at hr
    obtain ⟨a, vs, e, q, p⟩ := hr
    exact ⟨a, vs, e, rd_same hw.same q, p⟩
  | _ => cases h
end

/-! ### what makes a list: a frozen one, or a cell -/
def mkF : List D → M D := fun l S => .ok (.lst l) S
def mkC : List D → M D := fun l S => .ok (.cell S.length) (S ++ [.lst l])
structure Mk (mk : List D → M D) : Prop where
  adopt : ∀ {T : Kt} {W : WX} {σ : L2.St} {w w1 : Wl} {l : List D} {vs : List V} {p : Addr} {P : Wl → D → V → Prop}, Go T.K w w1 → w.H p = none → w1.H p = some (.lst vs) → w1.F p = none → (∀ (n : Nat), w1.r[n]? = some p → ¬ alv w1.S n) → Rps T.K w1.r w1.F l vs →
    SatW T W σ (RD T.K) w (mk l w1.S) P → ∃ w' d, w'.H = w1.H ∧ P w' d (.ref p)
  ok : ∀ {X : Kt} {W : WX} {σ : L2.St} {w : Wl} {l : List D} {vs : List V} {p : Addr} {P : Wl → D → V → Prop}, Wd X.K w → w.H p = none → Rps X.K w.r w.F l vs → SatW X W σ (RD X.K) w (mk l w.S) P →
    ∃ w' d, w'.H = upd w.H p (.lst vs) ∧ P w' d (.ref p)
theorem mk_F : Mk mkF where
  adopt := fun {T W σ w w1 l vs p P} g hn h1 h2 h3 hr h => ⟨⟨w1.r, upd w1.F p (.lst vs), w1.S, w1.H⟩, _, rfl, h ⟨w1.r, upd w1.F p (.lst vs), w1.S, w1.H⟩ (.ref p) (Go.adopt g hn h1 h2 h3) rfl (by
    unfold RD Rp
    exact ⟨p, vs, rfl, upd_same, Rps.mono ⟨[], by simp⟩ (fun b x e => by show upd w1.F p _ b = _; rw [upd_ne (ne_of_none e h2)]; exact e) _ _ hr⟩)⟩
  ok := fun {X W σ w l vs p P} hw hn hr h => ⟨_, _, rfl, h ⟨w.r, upd w.F p (.lst vs), w.S, upd w.H p (.lst vs)⟩ (.ref p) (Go.alloc hw hn) rfl (by
    unfold RD Rp
    exact ⟨p, vs, rfl, upd_same, Rps.mono ⟨[], by simp⟩ (fun b x e => by show upd w.F p _ b = _; rw [upd_ne (ne_of_none e (hw.fresh hn))]; exact e) _ _ hr⟩)⟩
theorem mk_C : Mk mkC where
  adopt := fun {T W σ w w1 l vs p P} g hn h1 h2 h3 hr h => ⟨⟨w1.r ++ [p], w1.F, w1.S ++ [.lst l], w1.H⟩, _, rfl, h ⟨w1.r ++ [p], w1.F, w1.S ++ [.lst l], w1.H⟩ (.ref p) (Go.adoptCell (c := .lst l) g hn h1 h2 h3 (by exact ⟨h2, vs, h1, Rps.mono ⟨[p], rfl⟩ (Same.refl _) _ _ hr⟩)) rfl (by
    unfold RD Rp
    refine ⟨p, ?_, rfl⟩
    show (w1.r ++ [p])[w1.S.length]? = some p
    rw [← g.wd.len, List.getElem?_append_right (Nat.le_refl _), Nat.sub_self]
    rfl)⟩
  ok := fun {X W σ w l vs p P} hw hn hr h => ⟨_, _, rfl, h ⟨w.r ++ [p], w.F, w.S ++ [.lst l], upd w.H p (.lst vs)⟩ (.ref p) (Go.newCell (c := .lst l) hw hn (by exact ⟨hw.fresh hn, vs, upd_same, Rps.mono ⟨[p], rfl⟩ (Same.refl _) _ _ hr⟩)) rfl (by
    unfold RD Rp
    refine ⟨p, ?_, rfl⟩
    show (w.r ++ [p])[w.S.length]? = some p
    rw [← hw.len, List.getElem?_append_right (Nat.le_refl _), Nat.sub_self]
    rfl)⟩
theorem Mk.go {mk : List D → M D} (m : Mk mk) {X : Kt} {W : WX} {σ : L2.St} {w : Wl} {l : List D} {vs : List V} {Q : VK} (hw : Wd X.K w) (hr : Rps X.K w.r w.F l vs) (h : SatW X W σ (RD X.K) w (mk l w.S) (fun w' _ v => Q v w'.H)) :
    ∀ p, w.H p = none → Q (.ref p) (upd w.H p (.lst vs)) := fun p hn => by
  obtain ⟨w', d, e, q⟩ := m.ok hw hn hr h
  rw [← e]
  exact q
/-- a new tuple -/
theorem tup_go {X : Kt} {W : WX} {σ : L2.St} {w : Wl} {l : List D} {vs : List V} {Q : VK} (hw : Wd X.K w) (hr : Rps X.K w.r w.F l vs) (h : SatW X W σ (RD X.K) w (.ok (.tup l) w.S) (fun w' _ v => Q v w'.H)) :
    ∀ p, w.H p = none → Q (.ref p) (upd w.H p (.tup vs)) := fun p hn =>
  h ⟨w.r, upd w.F p (.tup vs), w.S, upd w.H p (.tup vs)⟩ (.ref p) (Go.alloc hw hn) rfl (by
    unfold RD Rp
    exact ⟨p, vs, rfl, .inl upd_same, Rps.mono ⟨[], by simp⟩ (fun b x e => by show upd w.F p _ b = _; rw [upd_ne (ne_of_none e (hw.fresh hn))]; exact e) _ _ hr⟩)

/-! ### the small expressions -/
def xVar (i : Nat) : Env → M D := fun e S => match e[i]? with
  | some (some d) => .ok d S
  | _ => .bad
def xC (d : D) : Env → M D := fun _ S => .ok d S
def xOp (g : D → D → M D) (a b : Env → M D) : Env → M D := fun e S => (a e S).bind fun x S1 => (b e S1).bind fun y S2 => g x y S2
def xUn (g : D → M D) (a : Env → M D) : Env → M D := fun e S => (a e S).bind fun x S1 => g x S1
def xNil : Env → M (List D) := fun _ S => .ok [] S
def xCons (a : Env → M D) (b : Env → M (List D)) : Env → M (List D) := fun e S => (a e S).bind fun x S1 => (b e S1).bind fun y S2 => .ok (x :: y) S2
def xFn (g : List D → M D) (a : Env → M (List D)) : Env → M D := fun e S => (a e S).bind fun x S1 => g x S1
def xTup (a : Env → M (List D)) : Env → M D := xFn (fun l S => if l.length ≤ 1000 then .ok (.tup l) S else .bad) a
def xLst (mk : List D → M D) (a : Env → M (List D)) : Env → M D := xFn (fun l S => if l.length ≤ 1000 then mk l S else .bad) a
theorem line1000 {n : Nat} (h : n ≤ 1000) : n ≤ sizeLine := Nat.le_trans h (by rw [sizeLine_eq]; decide)
theorem line16 {n : Nat} (h : n ≤ 16000000) : n ≤ sizeLine := Nat.le_trans h (by rw [sizeLine_eq]; decide)
theorem satIf {α β : Type} {X : Kt} {W : WX} {σ : L2.St} {R : Wl → α → β → Prop} {w : Wl} {c : Prop} [Decidable c] {res : Res α} {P : Wl → α → β → Prop} (h : SatW X W σ R w (if c then res else .bad) P) : c ∧ SatW X W σ R w res P := by
  by_cases hc : c
  · rw [if_pos hc] at h
    exact ⟨hc, h⟩
  · rw [if_neg hc] at h
    exact h.elim

def OpD (X : Cx) (fn : Value → Value → Sem Value) (g : D → D → M D) : Prop :=
  ∃ rr : R2, OpR X fn rr ∧ ∀ (w : Wl) (x y : V) (d e : D) (W : WX) (σ : L2.St) (Q : VK), Wd X.K w → RD X.K w d x → RD X.K w e y → SatW (kt X) W σ (RD X.K) w (g d e w.S) (fun w' _ v => Q v w'.H) → rr x y w.H Q
def IxD (X : Cx) (g : D → D → M D) : Prop :=
  ∃ rr : R2, IxR X rr ∧ ∀ (w : Wl) (x y : V) (d e : D) (W : WX) (σ : L2.St) (Q : VK), Wd X.K w → RD X.K w d x → RD X.K w e y → SatW (kt X) W σ (RD X.K) w (g d e w.S) (fun w' _ v => Q v w'.H) → rr x y w.H Q
def UnD (X : Cx) (fn : Value → Sem Value) (g : D → M D) : Prop :=
  ∃ rr : V → Hp → VK → Prop, UnR X fn rr ∧ ∀ (w : Wl) (x : V) (d : D) (W : WX) (σ : L2.St) (Q : VK), Wd X.K w → RD X.K w d x → SatW (kt X) W σ (RD X.K) w (g d w.S) (fun w' _ v => Q v w'.H) → rr x w.H Q
def CallD (X : Cx) (f : Value) (g : List D → M D) : Prop :=
  ∃ rr : List V → Hp → VK → Prop, CallR X f rr ∧ ∀ (w : Wl) (xs : List V) (ds : List D) (W : WX) (σ : L2.St) (Q : VK), Wd X.K w → RDs X.K w ds xs → SatW (kt X) W σ (RD X.K) w (g ds w.S) (fun w' _ v => Q v w'.H) → rr xs w.H Q
section
variable {X : Cx} {W : WX} {a b e : Expr} {es : List Expr} {f g : Env → M D} {h : Env → M (List D)} {pos : Pos}
theorem pd_var {i : Nat} {x : Str} (hN : X.N[i]? = some x := by rfl) (hv : Vis X.env.scope x := by first | exact Or.inl rfl | exact Or.inr (Or.inl rfl) | exact Or.inr (Or.inr rfl)) (hd : (x == ("__debug__" : Str)) = false := by decide)
    (hcd : (x == ("__classdict__" : Str)) = false := by decide) : PD X W (.Name x pos) (xVar i) := by
  refine weakE (pe_var (i := i) hN hv hd hcd) fun σ H Q ⟨w, env, eH, hw, he, hs⟩ => ?_
  subst eH
  unfold xVar at hs
  cases q : env[i]? with
  | none => rw [q] at hs; exact hs.elim
  | some o =>
    cases o with
    | none => rw [q] at hs; exact hs.elim
    | some d =>
      rw [q] at hs
      obtain ⟨v, e1, r⟩ := he.2 i d q
      exact ⟨v, e1, SatW.here hs hw r⟩
theorem pd_c {t : TE} {d : D} {v : V} (h : PE X e t) (ht : ∀ σ H Q, Q v H → t σ H Q) (hr : ∀ K r F, Rp K r F d v) : PD X W e (xC d) := by
  refine weakE h fun σ H Q ⟨w, env, eH, hw, he, hs⟩ => ht _ _ _ ?_
  subst eH
  exact SatW.here (d := d) (v := v) hs hw (hr _ _ _)
theorem pd_int {i j} : PD X W (.Constant (.int i) j pos) (xC (.int i)) := pd_c pe_int (fun _ _ _ q => q) fun _ _ _ => by unfold Rp; rfl
theorem pd_bl {i j} : PD X W (.Constant (.bool i) j pos) (xC (.bl i)) := pd_c pe_bl (fun _ _ _ q => q) fun _ _ _ => by unfold Rp; rfl
theorem pd_non {j} : PD X W (.Constant .none j pos) (xC .non) := pd_c pe_non (fun _ _ _ q => q) fun _ _ _ => by unfold Rp; rfl
theorem pd_str {i j} : PD X W (.Constant (.str i) j pos) (xC (.str i)) := pd_c pe_str (fun _ _ _ q => q) fun _ _ _ => by unfold Rp; rfl
theorem two {rr : R2} {k : D → D → M D} (h1 : ∀ (w : Wl) (x y : V) (d e : D) (W : WX) (σ : L2.St) (Q : VK), Wd X.K w → RD X.K w d x → RD X.K w e y → SatW (kt X) W σ (RD X.K) w (k d e w.S) (fun w' _ v => Q v w'.H) → rr x y w.H Q)
    {σ : L2.St} {H : Hp} {Q : VK} (h : tD (kt X) W (xOp k f g) σ H Q) : tOp rr (tD (kt X) W f) (tD (kt X) W g) σ H Q := by
  obtain ⟨w, env, eH, hw, he, hs⟩ := h
  subst eH
  refine ⟨w, env, rfl, hw, he, SatW.imp (SatW.bind hs) fun w1 x v g1 r1 s1 => ?_⟩
  refine ⟨w1, env, rfl, g1.wd, he.go g1, SatW.imp (SatW.bind s1) fun w2 y u g2 r2 s2 => ?_⟩
  exact h1 w2 v u x y W σ Q g2.wd (Rp.go g2 r1) r2 s2
theorem pd_op {op : Operator} {k : D → D → M D} (ho : OpD X (binaryOp op) k) (ha : PD X W a f) (hb : PD X W b g) : PD X W (.BinOp a op b pos) (xOp k f g) := by
  obtain ⟨rr, ro, h1⟩ := ho
  exact weakE (pe_op ro ha hb) fun σ H Q => two h1
theorem pd_cmp {op : CmpOp} {k : D → D → M D} (ho : OpD X (compareOp op) k) (ha : PD X W a f) (hb : PD X W b g) (hm : behindInMarks op b = false := by first | exact nomark _ | rfl) : PD X W (.Compare a [op] [b] pos) (xOp k f g) := by
  obtain ⟨rr, ro, h1⟩ := ho
  exact weakE (pe_cmpR ro ha hb hm) fun σ H Q => two h1
theorem pd_ix {k : D → D → M D} (ho : IxD X k) (ha : PD X W a f) (hb : PD X W b g) (hs : PlainIx b := by exact fun _ _ => rfl) : PD X W (.Subscript a b pos) (xOp k f g) := by
  obtain ⟨rr, ro, h1⟩ := ho
  exact weakE (pe_ix ro ha hb hs) fun σ H Q => two h1
theorem pd_un {op : UnaryOp} {k : D → M D} (ho : UnD X (unaryOp op) k) (ha : PD X W a f) : PD X W (.UnaryOp op a pos) (xUn k f) := by
  obtain ⟨rr, ro, h1⟩ := ho
  refine weakE (pe_un ro ha) fun σ H Q ⟨w, env, eH, hw, he, hs⟩ => ?_
  subst eH
  refine ⟨w, env, rfl, hw, he, SatW.imp (SatW.bind hs) fun w1 x v g1 r1 s1 => ?_⟩
  exact h1 w1 v x W σ Q g1.wd r1 s1
theorem pad_nil : PAD X W [] xNil := by
  refine weakA pa_nil fun σ H Q ⟨w, env, eH, hw, he, hs⟩ => ?_
  subst eH
  exact SatW.here (d := []) (v := []) hs hw rps_nil
theorem pad_cons (ha : PD X W e f) (hr : PAD X W es h) (hs : starEach (e :: es) X.env = (false, eval e X.env) :: starEach es X.env := by rfl) : PAD X W (e :: es) (xCons f h) := by
  refine weakA (pa_cons ha hr hs) fun σ H Q ⟨w, env, eH, hw, he, hs⟩ => ?_
  subst eH
  refine ⟨w, env, rfl, hw, he, SatW.imp (SatW.bind hs) fun w1 x v g1 r1 s1 => ?_⟩
  refine ⟨w1, env, rfl, g1.wd, he.go g1, SatW.imp (SatW.bind s1) fun w2 y u g2 r2 s2 => ?_⟩
  exact SatW.here (d := x :: y) (v := v :: u) s2 g2.wd (rps_cons (Rp.go g2 r1) r2)
theorem pd_tup {k : Nat} (ha : PAD X W es h) : PD X W (.Tuple es k pos) (xTup h) := by
  refine weakE (pe_tup ha) fun σ H Q ⟨w, env, eH, hw, he, hs⟩ => ?_
  subst eH
  refine ⟨w, env, rfl, hw, he, SatW.imp (SatW.bind hs) fun w1 x v g1 r1 s1 => ?_⟩
  obtain ⟨hl, s1⟩ := satIf s1
  exact ⟨line1000 (by rw [Rps.length r1]; exact hl), tup_go g1.wd r1 s1⟩
theorem pd_lst {mk : List D → M D} (m : Mk mk) (ha : PAD X W es h) : PD X W (.List es pos) (xLst mk h) := by
  refine weakE (pe_lst ha) fun σ H Q ⟨w, env, eH, hw, he, hs⟩ => ?_
  subst eH
  refine ⟨w, env, rfl, hw, he, SatW.imp (SatW.bind hs) fun w1 x v g1 r1 s1 => ?_⟩
  obtain ⟨hl, s1⟩ := satIf s1
  exact ⟨line1000 (by rw [Rps.length r1]; exact hl), m.go g1.wd r1 s1⟩
theorem callB {rr : List V → Hp → VK → Prop} {k : List D → M D} (h1 : ∀ (w : Wl) (xs : List V) (ds : List D) (W : WX) (σ : L2.St) (Q : VK), Wd X.K w → RDs X.K w ds xs → SatW (kt X) W σ (RD X.K) w (k ds w.S) (fun w' _ v => Q v w'.H) → rr xs w.H Q)
    {σ : L2.St} {H : Hp} {Q : VK} (hh : tD (kt X) W (xFn k h) σ H Q) : tCB rr (tDA (kt X) W h) σ H Q := by
  obtain ⟨w, env, eH, hw, he, hs⟩ := hh
  subst eH
  refine ⟨w, env, rfl, hw, he, SatW.imp (SatW.bind hs) fun w1 x v g1 r1 s1 => ?_⟩
  exact h1 w1 v x W σ Q g1.wd r1 s1
/-- a built-in function, a built-in class called -/
theorem pd_callB {id : String} {x : Str} {p : Pos} {k : List D → M D} (hc : CallD X (.builtin id) k) (hg : Gl X x) (hm : X.mg x = none) (hv : bootBuiltins x = some (.builtin id)) (ha : PAD X W (e :: es) h) (hn : x ≠ "__name__" := by decide) (hdb : (x == ("__debug__" : Str)) = false := by decide)
    (he : starEach (e :: es) X.env = (false, eval e X.env) :: starEach es X.env := by rfl) (hpl : (backTo pos (starEach es X.env)).any (·.1) = false := by rfl) : PD X W (.Call (.Name x p) (e :: es) [] pos) (xFn k h) := by
  obtain ⟨rr, ro, h1⟩ := hc
  exact weakE (pe_callB ro hg hm hv ha hn hdb he hpl) fun σ H Q => callB h1
theorem pd_callTy {T : String} {x : Str} {p : Pos} {k : List D → M D} (hc : CallD X (.type T) k) (hg : Gl X x) (hm : X.mg x = none) (hv : bootBuiltins x = some (.type T)) (ha : PAD X W (e :: es) h) (hn : x ≠ "__name__" := by decide) (hdb : (x == ("__debug__" : Str)) = false := by decide)
    (he : starEach (e :: es) X.env = (false, eval e X.env) :: starEach es X.env := by rfl) (hpl : (backTo pos (starEach es X.env)).any (·.1) = false := by rfl) : PD X W (.Call (.Name x p) (e :: es) [] pos) (xFn k h) := by
  obtain ⟨rr, ro, h1⟩ := hc
  exact weakE (pe_callTy ro hg hm hv ha hn hdb he hpl) fun σ H Q => callB h1
end
end Dv
/-! # Dv3: tests, statements, loops, calls -/
namespace Dv
open PySem PySem.Spec PyProof.Rows L2

/-! ### tests -/
/-- a value's truth -/
def tru (d : D) (S : Store) : Res Bool := match d with
  | .non => .ok false S
  | .bl b => .ok b S
  | .int i => .ok (i != 0) S
  | .str x => if x.length ≤ 16000000 then .ok ((x.length : Int) != 0) S else .bad
  | .tup l => .ok (!l.isEmpty) S
  | .lst l => .ok (!l.isEmpty) S
  | .scr l => .ok (!l.isEmpty) S
  | .cell n => match S[n]? with
    | some (.lst l) => .ok (!l.isEmpty) S
    | some (.dct l) => .ok (!l.isEmpty) S
    | _ => .bad
  | .raw _ => .bad
  | .cls _ => .bad
  | .exn _ _ => .bad
def xTru (f : Env → M D) : Env → M Bool := fun e S => (f e S).bind tru
def xIsT (f : Env → M D) : Env → M Bool := fun e S => (f e S).bind fun d S1 => match d with
  | .bl b => .ok b S1
  | _ => .bad
def xNot (f : Env → M Bool) : Env → M Bool := fun e S => (f e S).bind fun b S1 => .ok (!b) S1
def xAnd (f g : Env → M Bool) : Env → M Bool := fun e S => (f e S).bind fun b S1 => if b then g e S1 else .ok false S1
def xOr (f g : Env → M Bool) : Env → M Bool := fun e S => (f e S).bind fun b S1 => if b then .ok true S1 else g e S1
def xAndV (f g : Env → M D) : Env → M D := fun e S => (f e S).bind fun d S1 => match d with
  | .bl true => g e S1
  | .bl false => .ok (.bl false) S1
  | _ => .bad
def xOrV (f g : Env → M D) : Env → M D := fun e S => (f e S).bind fun d S1 => match d with
  | .bl true => .ok (.bl true) S1
  | .bl false => g e S1
  | _ => .bad
def xNotV (f : Env → M D) : Env → M D := fun e S => (f e S).bind fun d S1 => match d with
  | .bl b => .ok (.bl (!b)) S1
  | _ => .bad
def xIf (c : Env → M Bool) (f g : Env → M D) : Env → M D := fun e S => (c e S).bind fun b S1 => if b then f e S1 else g e S1
section
variable {X : Cx} {W : WX} {a b c e : Expr} {es rest : List Expr} {f g : Env → M D} {k k' : Env → M Bool} {h : Env → M (List D)} {pos : Pos}
theorem ptd_cmp {op : CmpOp} {k : D → D → M D} (ho : OpD X (compareOp op) k) (ha : PD X W a f) (hb : PD X W b g) (hm : behindInMarks op b = false := by first | exact nomark _ | rfl) : PTD X W (.Compare a [op] [b] pos) (xIsT (xOp k f g)) := by
  obtain ⟨rr, ro, h1⟩ := ho
  refine weakT (pt_cmpR ro ha hb hm) fun σ H Q ⟨w, env, eH, hw, he, hs⟩ => ?_
  subst eH
  refine two h1 ⟨w, env, rfl, hw, he, SatW.imp (SatW.bind hs) fun w1 d v g1 r1 s1 => ?_⟩
  cases d with
  | bl b =>
    obtain rfl : v = V.bl b := by
      have r2 : Rp X.K w1.r w1.F (.bl b) v := r1
      unfold Rp at r2; exact r2
    exact ⟨b, rfl, SatW.here (d := b) (v := b) s1 g1.wd rfl⟩
  | _ => exact s1.elim
theorem rp_bl {K : PySem.W.Frag} {r : List Addr} {F : Hp} {b : Bool} {v : V} (h : Rp K r F (.bl b) v) : v = .bl b := by unfold Rp at h; exact h
theorem rp_int {K : PySem.W.Frag} {r : List Addr} {F : Hp} {b : Int} {v : V} (h : Rp K r F (.int b) v) : v = .int b := by unfold Rp at h; exact h
theorem rp_str {K : PySem.W.Frag} {r : List Addr} {F : Hp} {b : Str} {v : V} (h : Rp K r F (.str b) v) : v = .str b := by unfold Rp at h; exact h
theorem rp_non {K : PySem.W.Frag} {r : List Addr} {F : Hp} {v : V} (h : Rp K r F .non v) : v = .non := by unfold Rp at h; exact h
theorem rp_raw {K : PySem.W.Frag} {r : List Addr} {F : Hp} {b v : V} (h : Rp K r F (.raw b) v) : v = b := by unfold Rp at h; exact h
theorem rpb {K : PySem.W.Frag} {r : List Addr} {F : Hp} {b : Bool} : Rp K r F (.bl b) (.bl b) := by unfold Rp; rfl
theorem rpi {K : PySem.W.Frag} {r : List Addr} {F : Hp} {b : Int} : Rp K r F (.int b) (.int b) := by unfold Rp; rfl
theorem rps {K : PySem.W.Frag} {r : List Addr} {F : Hp} {b : Str} : Rp K r F (.str b) (.str b) := by unfold Rp; rfl
theorem rpn {K : PySem.W.Frag} {r : List Addr} {F : Hp} : Rp K r F .non .non := by unfold Rp; rfl
theorem isEmpty_rps {K : PySem.W.Frag} {r : List Addr} {F : Hp} {l : List D} {vs : List V} (h : Rps K r F l vs) : vs.isEmpty = l.isEmpty := by
  have e := h.length
  cases l <;> cases vs <;> first | rfl | simp at e
theorem isEmpty_rpk {K : PySem.W.Frag} {r : List Addr} {F : Hp} {l : List (Key × D)} {vs : List (Key × V)} (h : RpK K r F l vs) : vs.isEmpty = l.isEmpty := by
  cases h <;> rfl
theorem tru_sat {T : Kt} {σ : L2.St} {w : Wl} {d : D} {v : V} {Q : Bool → Hp → Prop} (hw : Wd T.K w) (r : RD T.K w d v) (hs : SatW T W σ RB w (tru d w.S) (fun w' _ v => Q v w'.H)) : ∃ k, TruV T.K v w.H k ∧ Q k w.H := by
  have r' : Rp T.K w.r w.F d v := r
  cases d with
  | non => cases rp_non r'; exact ⟨false, rfl, SatW.here (d := false) (v := false) hs hw rfl⟩
  | bl b => cases rp_bl r'; exact ⟨b, rfl, SatW.here (d := b) (v := b) hs hw rfl⟩
  | int i => cases rp_int r'; exact ⟨_, rfl, SatW.here (d := (i != 0)) (v := (i != 0)) hs hw rfl⟩
  | str x =>
    cases rp_str r'
    unfold tru at hs
    obtain ⟨hl, hs⟩ := satIf hs
    exact ⟨_, ⟨line16 hl, rfl⟩, SatW.here (d := ((x.length : Int) != 0)) (v := ((x.length : Int) != 0)) hs hw rfl⟩
  | tup l =>
    obtain ⟨a, vs, rfl, q, p⟩ := getT_ok hw r' rfl
    exact ⟨!l.isEmpty, .inr (.inl ⟨vs, .inl q, by rw [isEmpty_rps p]⟩), SatW.here (d := !l.isEmpty) (v := !l.isEmpty) hs hw rfl⟩
  | lst l =>
    obtain ⟨a, vs, rfl, q, p⟩ := getL_ok hw r' rfl
    exact ⟨!l.isEmpty, .inl ⟨vs, .inl (.inl q), by rw [isEmpty_rps p]⟩, SatW.here (d := !l.isEmpty) (v := !l.isEmpty) hs hw rfl⟩
  | scr l =>
    obtain ⟨a, vs, rfl, q, p⟩ := getQ_ok hw r' rfl
    exact ⟨!l.isEmpty, .inl ⟨vs, q, by rw [isEmpty_rps p]⟩, SatW.here (d := !l.isEmpty) (v := !l.isEmpty) hs hw rfl⟩
  | cell n =>
    unfold tru at hs
    cases e : w.S[n]? with
    | none => simp only [e] at hs; exact hs.elim
    | some c =>
      cases c with
      | lst l =>
        simp only [e] at hs
        obtain ⟨a, vs, rfl, q, p⟩ := getL_ok (l := l) hw r' (by simp only [getL, e])
        exact ⟨!l.isEmpty, .inl ⟨vs, .inl (.inl q), by rw [isEmpty_rps p]⟩, SatW.here (d := !l.isEmpty) (v := !l.isEmpty) hs hw rfl⟩
      | dct l =>
        simp only [e] at hs
        unfold Rp at r'
        obtain ⟨a, e1, rfl⟩ := r'
        obtain ⟨_, vs, e2, p⟩ := hw.cell n a _ e1 e
        exact ⟨!l.isEmpty, .inr (.inr ⟨vs, e2, by rw [isEmpty_rpk p]⟩), SatW.here (d := !l.isEmpty) (v := !l.isEmpty) hs hw rfl⟩
      | dead => simp only [e] at hs; exact hs.elim
  | raw _ => exact hs.elim
  | cls _ => exact hs.elim
  | exn _ _ => exact hs.elim
theorem ptd_truth (ha : PD X W a f) (he : ∀ whole, isTrue a X.env whole = (do let v ← whole; standAt a.pos; holding [v] (truthy v)) := by intro _; rfl) : PTD X W a (xTru f) := by
  refine weakT (pt_truth ha he) fun σ H Q ⟨w, env, eH, hw, he, hs⟩ => ?_
  subst eH
  exact ⟨w, env, rfl, hw, he, SatW.imp (SatW.bind hs) fun w1 d v g1 r1 s1 => tru_sat g1.wd r1 s1⟩
theorem ptd_not (ha : PTD X W a k) : PTD X W (.UnaryOp .Not a pos) (xNot k) := by
  refine weakT (pt_not ha) fun σ H Q ⟨w, env, eH, hw, he, hs⟩ => ?_
  subst eH
  refine ⟨w, env, rfl, hw, he, SatW.imp (SatW.bind hs) fun w1 d v g1 r1 s1 => ?_⟩
  have e : d = v := r1
  subst e
  exact SatW.here (d := !d) (v := !d) s1 g1.wd rfl
theorem PWD.pt (h : PWD X W a k) : PTD X W a k := PW.pt h
theorem pwd_and1 (ha : PTD X W a k) : PWD X W (.BoolOp .And [a] pos) k := pw_and1 ha
theorem pwd_or1 (ha : PTD X W a k) : PWD X W (.BoolOp .Or [a] pos) k := pw_or1 ha
theorem pwd_and (ha : PTD X W a k) (hb : PWD X W (.BoolOp .And (b :: rest) pos) k') : PWD X W (.BoolOp .And (a :: b :: rest) pos) (xAnd k k') := by
  refine weakW (pw_and ha hb) fun σ H Q ⟨w, env, eH, hw, he, hs⟩ => ?_
  subst eH
  refine ⟨w, env, rfl, hw, he, SatW.imp (SatW.bind hs) fun w1 d v g1 r1 s1 => ?_⟩
  have e : d = v := r1
  subst e
  cases d with
  | true => exact iteT ⟨w1, env, rfl, g1.wd, he.go g1, s1⟩
  | false => exact iteF (SatW.here (d := false) (v := false) s1 g1.wd rfl)
theorem pwd_or (ha : PTD X W a k) (hb : PWD X W (.BoolOp .Or (b :: rest) pos) k') : PWD X W (.BoolOp .Or (a :: b :: rest) pos) (xOr k k') := by
  refine weakW (pw_or ha hb) fun σ H Q ⟨w, env, eH, hw, he, hs⟩ => ?_
  subst eH
  refine ⟨w, env, rfl, hw, he, SatW.imp (SatW.bind hs) fun w1 d v g1 r1 s1 => ?_⟩
  have e : d = v := r1
  subst e
  cases d with
  | true => exact iteT (SatW.here (d := true) (v := true) s1 g1.wd rfl)
  | false => exact iteF ⟨w1, env, rfl, g1.wd, he.go g1, s1⟩
theorem pd_one {op} (ha : PD X W a f) : PD X W (.BoolOp op [a] pos) f := pe_one ha
theorem pd_and (ha : PD X W a f) (hb : PD X W (.BoolOp .And (b :: rest) pos) g) : PD X W (.BoolOp .And (a :: b :: rest) pos) (xAndV f g) := by
  refine weakE (pe_and ha hb) fun σ H Q ⟨w, env, eH, hw, he, hs⟩ => ?_
  subst eH
  refine ⟨w, env, rfl, hw, he, SatW.imp (SatW.bind hs) fun w1 d v g1 r1 s1 => ?_⟩
  cases d with
  | bl b =>
    cases rp_bl (show Rp X.K w1.r w1.F (.bl b) v from r1)
    refine ⟨b, rfl, ?_⟩
    cases b with
    | true => exact iteT ⟨w1, env, rfl, g1.wd, he.go g1, s1⟩
    | false => exact iteF (SatW.here (d := D.bl false) (v := V.bl false) s1 g1.wd r1)
  | _ => exact s1.elim
theorem pd_or (ha : PD X W a f) (hb : PD X W (.BoolOp .Or (b :: rest) pos) g) : PD X W (.BoolOp .Or (a :: b :: rest) pos) (xOrV f g) := by
  refine weakE (pe_or ha hb) fun σ H Q ⟨w, env, eH, hw, he, hs⟩ => ?_
  subst eH
  refine ⟨w, env, rfl, hw, he, SatW.imp (SatW.bind hs) fun w1 d v g1 r1 s1 => ?_⟩
  cases d with
  | bl b =>
    cases rp_bl (show Rp X.K w1.r w1.F (.bl b) v from r1)
    refine ⟨b, rfl, ?_⟩
    cases b with
    | true => exact iteT (SatW.here (d := D.bl true) (v := V.bl true) s1 g1.wd r1)
    | false => exact iteF ⟨w1, env, rfl, g1.wd, he.go g1, s1⟩
  | _ => exact s1.elim
theorem pd_not (ha : PD X W a f) : PD X W (.UnaryOp .Not a pos) (xNotV f) := by
  refine weakE (pe_not ha) fun σ H Q ⟨w, env, eH, hw, he, hs⟩ => ?_
  subst eH
  refine ⟨w, env, rfl, hw, he, SatW.imp (SatW.bind hs) fun w1 d v g1 r1 s1 => ?_⟩
  cases d with
  | bl b =>
    cases rp_bl (show Rp X.K w1.r w1.F (.bl b) v from r1)
    exact ⟨b, rfl, SatW.here (d := D.bl (!b)) (v := V.bl (!b)) s1 g1.wd rpb⟩
  | _ => exact s1.elim
theorem pd_if (hc : PTD X W c k) (ha : PD X W a f) (hb : PD X W b g) : PD X W (.IfExp c a b pos) (xIf k f g) := by
  refine weakE (pe_ifExp hc ha hb) fun σ H Q ⟨w, env, eH, hw, he, hs⟩ => ?_
  subst eH
  refine ⟨w, env, rfl, hw, he, SatW.imp (SatW.bind hs) fun w1 d v g1 r1 s1 => ?_⟩
  have e : d = v := r1
  subst e
  cases d with
  | true => exact iteT ⟨w1, env, rfl, g1.wd, he.go g1, s1⟩
  | false => exact iteF ⟨w1, env, rfl, g1.wd, he.go g1, s1⟩
end

/-! ### statements -/
inductive Out where
  | nx (e : Env) (S : Store)
  | rt (d : D) (S : Store)
  | bk (e : Env) (S : Store)
  | ct (e : Env) (S : Store)
  | exc (x : Exn) (e : Env) (S : Store)
  | bad
def SatS (T : Kt) (W : WX) (w : Wl) (o : Out) (D : Ends) : Prop := match o with
  | .nx e S => ∀ w' σ', Go T.K w w' → w'.S = S → EnvOk T.K w' e σ' → D.nx σ' w'.H
  | .rt d S => ∀ w' v, Go T.K w w' → w'.S = S → Rp T.K w'.r w'.F d v → D.rt v w'.H
  | .bk e S => ∀ w' σ', Go T.K w w' → w'.S = S → EnvOk T.K w' e σ' → D.bk σ' w'.H
  | .ct e S => ∀ w' σ', Go T.K w w' → w'.S = S → EnvOk T.K w' e σ' → D.ct σ' w'.H
  | .exc x e S => ∀ w' σ' cls dd, Go T.K w w' → w'.S = S → EnvOk T.K w' e σ' → ExcOk T.K T.mg w' x cls dd → W cls dd σ' w'.H
  | .bad => False
def Res.out {α : Type} (x : Res α) (env : Env) (k : α → Store → Out) : Out := match x with
  | .ok a S => k a S
  | .exc e S => .exc e env S
  | .bad => .bad
@[simp] theorem Res.out_ok {α : Type} (a : α) (S : Store) (env : Env) (k : α → Store → Out) : (Res.ok a S).out env k = k a S := rfl
@[simp] theorem Res.out_exc {α : Type} (x : Exn) (S : Store) (env : Env) (k : α → Store → Out) : (Res.exc x S : Res α).out env k = .exc x env S := rfl
@[simp] theorem Res.out_bad {α : Type} (env : Env) (k : α → Store → Out) : (Res.bad : Res α).out env k = .bad := rfl
def Out.seq (o : Out) (k : Env → Store → Out) : Out := match o with
  | .nx e S => k e S
  | o => o
@[simp] theorem Out.seq_nx (e : Env) (S : Store) (k : Env → Store → Out) : (Out.nx e S).seq k = k e S := rfl
@[simp] theorem Out.seq_rt (d : D) (S : Store) (k : Env → Store → Out) : (Out.rt d S).seq k = .rt d S := rfl
@[simp] theorem Out.seq_bk (e : Env) (S : Store) (k : Env → Store → Out) : (Out.bk e S).seq k = .bk e S := rfl
@[simp] theorem Out.seq_ct (e : Env) (S : Store) (k : Env → Store → Out) : (Out.ct e S).seq k = .ct e S := rfl
@[simp] theorem Out.seq_exc (x : Exn) (e : Env) (S : Store) (k : Env → Store → Out) : (Out.exc x e S).seq k = .exc x e S := rfl
@[simp] theorem Out.seq_bad (k : Env → Store → Out) : Out.bad.seq k = .bad := rfl
section
variable {T : Kt} {W : WX} {w w1 : Wl} {D : Ends}
theorem SatS.pre {o : Out} (h : SatS T W w o D) (g : Go T.K w w1) : SatS T W w1 o D := by
  cases o with
  | nx e S => exact fun w' v g' e q => h w' v (g.trans g') e q
  | rt e S => exact fun w' v g' e q => h w' v (g.trans g') e q
  | bk e S => exact fun w' v g' e q => h w' v (g.trans g') e q
  | ct e S => exact fun w' v g' e q => h w' v (g.trans g') e q
  | exc x e S => exact fun w' σ' cls dd g' e q => h w' σ' cls dd (g.trans g') e q
  | bad => exact h
theorem SatS.out {α β : Type} {R : Wl → α → β → Prop} {σ : L2.St} {x : Res α} {env : Env} {k : α → Store → Out} (h : SatS T W w (x.out env k) D) (he : EnvOk T.K w env σ) :
    SatW T W σ R w x (fun w1 d _ => SatS T W w1 (k d w1.S) D) := by
  cases x with
  | ok d S => exact fun w' v g e q => by subst e; exact SatS.pre (o := k d w'.S) h g
  | exc x S => exact fun w' cls dd g e q => h w' σ cls dd g e (he.go g) q
  | bad => exact h
end
/-- a statement's reading -/
def sD (T : Kt) (W : WX) (g : Env → Store → Out) : TS := fun D σ H => ∃ (w : Wl) (env : Env), w.H = H ∧ Wd T.K w ∧ EnvOk T.K w env σ ∧ SatS T W w (g env w.S) D
def PSD (X : Cx) (W : WX) (s : Stmt) (g : Env → Store → Out) : Prop := PS X s (sD (kt X) W g)
def PSsD (X : Cx) (W : WX) (s : List Stmt) (g : Env → Store → Out) : Prop := PSs X s (sD (kt X) W g)

def yNil : Env → Store → Out := fun e S => .nx e S
def ySeq (g h : Env → Store → Out) : Env → Store → Out := fun e S => (g e S).seq h
def yBreak : Env → Store → Out := fun e S => .bk e S
def yCont : Env → Store → Out := fun e S => .ct e S
def yExpr (f : Env → M D) : Env → Store → Out := fun e S => (f e S).out e fun _ S1 => .nx e S1
def yRet (f : Env → M D) : Env → Store → Out := fun e S => (f e S).out e fun d S1 => .rt d S1
def yRetN : Env → Store → Out := fun e S => .rt .non S
def yIf (c : Env → M Bool) (g h : Env → Store → Out) : Env → Store → Out := fun e S => (c e S).out e fun b S1 => if b then g e S1 else h e S1
def yNever : Env → Store → Out := fun _ _ => .bad
def ySet (i : Nat) (f : Env → M D) : Env → Store → Out := fun e S => (f e S).out e fun d S1 => .nx (e.set i (some d)) S1
def yAsg (f : Env → M D) (g : D → Env → Store → Out) : Env → Store → Out := fun e S => (f e S).out e fun d S1 => g d e S1
def yPar (i j : Nat) (f : Env → M (List D)) : Env → Store → Out := fun e S => (f e S).out e fun l S1 => match l with
  | [a, b] => .nx ((e.set i (some a)).set j (some b)) S1
  | _ => .bad
def yAug (i : Nat) (f : Env → M D) (g : D → D → M D) : Env → Store → Out := fun e S => match e[i]? with
  | some (some x) => (f e S).out e fun y S1 => (g x y S1).out e fun z S2 => .nx (e.set i (some z)) S2
  | _ => .bad

/-- a target -/
def SatG (T : Kt) (w : Wl) (o : Out) (Q : L2.St → Hp → Prop) : Prop := match o with
  | .nx e S => ∀ w' σ', Go T.K w w' → w'.S = S → EnvOk T.K w' e σ' → Q σ' w'.H
  | _ => False
def gD (T : Kt) (g : D → Env → Store → Out) : TG := fun v σ H Q => ∃ (w : Wl) (env : Env) (d : D), w.H = H ∧ Wd T.K w ∧ EnvOk T.K w env σ ∧ Rp T.K w.r w.F d v ∧ SatG T w (g d env w.S) Q
def gDs (T : Kt) (g : List D → Env → Store → Out) : TGs := fun v σ H Q => ∃ (w : Wl) (env : Env) (d : List D), w.H = H ∧ Wd T.K w ∧ EnvOk T.K w env σ ∧ Rps T.K w.r w.F d v ∧ SatG T w (g d env w.S) Q
def PGD (X : Cx) (e : Expr) (g : D → Env → Store → Out) : Prop := PG X e (gD (kt X) g)
def PGsD (X : Cx) (e : List Expr) (g : List D → Env → Store → Out) : Prop := PGs X e (gDs (kt X) g)
theorem SatG.pre {T : Kt} {w w1 : Wl} {o : Out} {Q : L2.St → Hp → Prop} (h : SatG T w o Q) (g : Go T.K w w1) : SatG T w1 o Q := by
  cases o with
  | nx e S => exact fun w' v g' e q => h w' v (g.trans g') e q
  | _ => exact h.elim
theorem SatG.seq {T : Kt} {w : Wl} {o : Out} {k : Env → Store → Out} {Q : L2.St → Hp → Prop} (h : SatG T w (o.seq k) Q) : SatG T w o (fun σ' H' => ∃ w' e', w'.H = H' ∧ Wd T.K w' ∧ EnvOk T.K w' e' σ' ∧ Go T.K w w' ∧ o = .nx e' w'.S ∧ SatG T w' (k e' w'.S) Q) := by
  cases o with
  | nx e S => exact fun w' σ' g' es he => by subst es; exact ⟨w', e, rfl, g'.wd, he, g', rfl, SatG.pre (o := k e w'.S) h g'⟩
  | _ => exact h
theorem weakG {X : Cx} {e : Expr} {t t' : TG} (h : PG X e t) (q : ∀ v σ H Q, t' v σ H Q → t v σ H Q) : PG X e t' := ⟨fun pins s σ H v u Q I r z => h.run pins s σ H v u Q I r (q _ _ _ _ z)⟩
theorem weakGs {X : Cx} {e : List Expr} {t t' : TGs} (h : PGs X e t) (q : ∀ v σ H Q, t' v σ H Q → t v σ H Q) : PGs X e t' := ⟨fun pins s σ H v u Q I r z => h.run pins s σ H v u Q I r (q _ _ _ _ z)⟩

def gN (i : Nat) : D → Env → Store → Out := fun d e S => .nx (e.set i (some d)) S
def gsNil : List D → Env → Store → Out := fun l e S => match l with
  | [] => .nx e S
  | _ => .bad
def gsCons (g : D → Env → Store → Out) (h : List D → Env → Store → Out) : List D → Env → Store → Out := fun l e S => match l with
  | d :: r => (g d e S).seq (h r)
  | [] => .bad
def gT (n : Nat) (h : List D → Env → Store → Out) : D → Env → Store → Out := fun d e S => match d with
  | .tup l => if l.length = n then h l e S else .bad
  | _ => .bad
section
variable {X : Cx} {W : WX} {a b c e : Expr} {es rest : List Expr} {f f' : Env → M D} {k : Env → M Bool} {h : Env → M (List D)} {g g' : Env → Store → Out} {s : Stmt} {ss : List Stmt} {pos : Pos}
theorem pgd_name {i : Nat} {x : Str} (hN : X.N.Nodup) (hi : X.N[i]? = some x := by rfl) (hx : Loc X.env.scope x := by first | exact .inl rfl | exact .inr rfl) (hf : X.fn x = true ∨ X.env.scope.names.lookup x = some .local := by first | exact .inl rfl | exact .inr rfl | assumption) : PGD X (.Name x pos) (gN i) := by
  refine weakG (pg_name (i := i) hN hi hx hf) fun v σ H Q ⟨w, env, d, eH, hw, he, hr, hs⟩ => ?_
  subst eH
  exact hs w _ (Go.refl hw) rfl (he.set hr)
theorem pgsd_nil : PGsD X [] gsNil := by
  refine weakGs pgs_nil fun v σ H Q ⟨w, env, d, eH, hw, he, hr, hs⟩ => ?_
  subst eH
  cases d with
  | nil => exact ⟨hr.nil_inv, hs w _ (Go.refl hw) rfl he⟩
  | cons x l => exact hs.elim
theorem pgsd_cons {gg : D → Env → Store → Out} {hh : List D → Env → Store → Out} (h1 : PGD X e gg) (h2 : PGsD X es hh) (hs : (assignEach (e :: es) X.env).map (·.2) = assign e X.env :: (assignEach es X.env).map (·.2) := by rfl) : PGsD X (e :: es) (gsCons gg hh) := by
  refine weakGs (pgs_cons h1 h2 hs) fun v σ H Q ⟨w, env, d, eH, hw, he, hr, hs⟩ => ?_
  subst eH
  cases d with
  | nil => exact hs.elim
  | cons x l =>
    obtain ⟨v0, t, e1, r1, r2⟩ := hr.cons_inv
    refine ⟨v0, t, e1, w, env, x, rfl, hw, he, r1, ?_⟩
    have hs' : SatG (kt X) w ((gg x env w.S).seq (hh l)) Q := hs
    have q := SatG.seq hs'
    cases o : gg x env w.S with
    | nx e' S' =>
      rw [o] at q
      intro w' σ' g' es' he'
      obtain ⟨w2, e2, eH, wd2, he2, g2, eo, s2⟩ := q w' σ' g' es' he'
      exact ⟨w2, e2, l, eH, wd2, he2, Rps.go g2 r2, s2⟩
    | _ => rw [o] at q; exact q.elim
theorem pgd_tup {n : Nat} {kk : Nat} {hh : List D → Env → Store → Out} (hc : X.calm = true) (h2 : PGsD X es hh) (hn : (assignEach es X.env).length = n := by rfl) (hst : (assignEach es X.env).findIdx? (·.1) = none := by rfl) : PGD X (.Tuple es kk pos) (gT n hh) := by
  refine weakG (pg_tup hc h2 hn hst) fun v σ H Q ⟨w, env, d, eH, hw, he, hr, hs⟩ => ?_
  subst eH
  cases d with
  | tup l =>
    have hs' : SatG (kt X) w (if l.length = n then hh l env w.S else .bad) Q := hs
    by_cases hl : l.length = n
    · rw [if_pos hl] at hs'
      obtain ⟨a, vs, rfl, q, p⟩ := getT_ok hw hr rfl
      exact ⟨a, vs, rfl, .inl q, by rw [p.length]; exact hl, w, env, l, rfl, hw, he, p, hs'⟩
    · rw [if_neg hl] at hs'
      exact hs'.elim
  | _ => exact hs.elim

theorem pssd_nil : PSsD X W [] yNil := by
  refine weakSs pss_nil fun D σ H ⟨w, env, eH, hw, he, hs⟩ => ?_
  subst eH
  exact hs w σ (Go.refl hw) rfl he
theorem sat_seq {T : Kt} {w : Wl} {o : Out} {gg : Env → Store → Out} {D : Ends} (hs : SatS T W w (o.seq gg) D) : SatS T W w o { D with nx := sD T W gg D } := by
  cases o with
  | nx e S => exact fun w' σ' g1 es he => by subst es; exact ⟨w', e, rfl, g1.wd, he, SatS.pre (o := gg e w'.S) hs g1⟩
  | rt d S => exact hs
  | bk e S => exact hs
  | ct e S => exact hs
  | exc x e S => exact hs
  | bad => exact hs
theorem pssd_cons (h1 : PSD X W s g) (h2 : PSsD X W ss g') : PSsD X W (s :: ss) (ySeq g g') := by
  refine weakSs (pss_cons h1 h2) fun D σ H ⟨w, env, eH, hw, he, hs⟩ => ?_
  exact ⟨w, env, eH, hw, he, sat_seq hs⟩
theorem pssd_one (h1 : PSD X W s g) : PSsD X W [s] g := pss_one h1
theorem psd_pass : PSD X W (.Pass pos) yNil := by
  refine weakS ps_pass fun D σ H ⟨w, env, eH, hw, he, hs⟩ => ?_
  subst eH
  exact hs w σ (Go.refl hw) rfl he
theorem psd_break : PSD X W (.Break pos) yBreak := by
  refine weakS ps_break fun D σ H ⟨w, env, eH, hw, he, hs⟩ => ?_
  subst eH
  exact hs w σ (Go.refl hw) rfl he
theorem psd_continue : PSD X W (.Continue pos) yCont := by
  refine weakS ps_continue fun D σ H ⟨w, env, eH, hw, he, hs⟩ => ?_
  subst eH
  exact hs w σ (Go.refl hw) rfl he
theorem psd_never : PSD X W s yNever := weakS ps_never fun D σ H ⟨w, env, eH, hw, he, hs⟩ => hs.elim
theorem psd_expr (he : PD X W e f) (hs : swapsWith e none pos.line X.env = pure false := by rfl) : PSD X W (.Expr e pos) (yExpr f) := by
  refine weakS (ps_expr he hs) fun D σ H ⟨w, env, eH, hw, he, hs⟩ => ?_
  subst eH
  exact ⟨w, env, rfl, hw, he, SatW.imp (SatS.out hs he) fun w1 d v g1 r1 s1 => s1 w1 σ (Go.refl g1.wd) rfl (he.go g1)⟩
theorem psd_ret (he : PD X W e f) : PSD X W (.Return (some e) pos) (yRet f) := by
  refine weakS (ps_ret he) fun D σ H ⟨w, env, eH, hw, he, hs⟩ => ?_
  subst eH
  exact ⟨w, env, rfl, hw, he, SatW.imp (SatS.out hs he) fun w1 d v g1 r1 s1 => s1 w1 v (Go.refl g1.wd) rfl r1⟩
theorem psd_retN : PSD X W (.Return none pos) yRetN := by
  refine weakS ps_retN fun D σ H ⟨w, env, eH, hw, he, hs⟩ => ?_
  subst eH
  exact hs w .non (Go.refl hw) rfl rpn
theorem psd_if {x y : List Stmt} (hc : PTD X W c k) (ha : PSsD X W x g) (hb : PSsD X W y g') : PSD X W (.If c x y pos) (yIf k g g') := by
  refine weakS (ps_if hc ha hb) fun D σ H ⟨w, env, eH, hw, he, hs⟩ => ?_
  subst eH
  refine ⟨w, env, rfl, hw, he, SatW.imp (SatS.out hs he) fun w1 d v g1 r1 s1 => ?_⟩
  have e : d = v := r1
  subst e
  cases d with
  | true => exact iteT ⟨w1, env, rfl, g1.wd, he.go g1, s1⟩
  | false => exact iteF ⟨w1, env, rfl, g1.wd, he.go g1, s1⟩
theorem psd_set {i : Nat} {x : Str} {pos' : Pos} (hN : X.N.Nodup) (he : PD X W e f) (hi : X.N[i]? = some x := by rfl) (hx : Loc X.env.scope x := by first | exact .inl rfl | exact .inr rfl) (hs : swapsWith e (some (.Name x pos')) pos.line X.env = pure false := by rfl) (hf : X.fn x = true ∨ X.env.scope.names.lookup x = some .local := by first | exact .inl rfl | exact .inr rfl | assumption) :
    PSD X W (.Assign [.Name x pos'] e pos) (ySet i f) := by
  refine weakS (ps_set (i := i) hN hi hx he hs hf) fun D σ H ⟨w, env, eH, hw, he, hs⟩ => ?_
  subst eH
  exact ⟨w, env, rfl, hw, he, SatW.imp (SatS.out hs he) fun w1 d v g1 r1 s1 => s1 w1 _ (Go.refl g1.wd) rfl ((he.go g1).set r1)⟩
theorem psd_asg {tg : Expr} {gg : D → Env → Store → Out} (he : PD X W e f) (hg : PGD X tg gg) (hs : swapsWithSole [tg] e pos.line X.env = pure false := by rfl) (hw : swappedStores [tg] e X.env = pure none := by rfl)
    (h1 : (assignEach [tg] X.env).map (·.2) = [assign tg X.env] := by rfl) : PSD X W (.Assign [tg] e pos) (yAsg f (fun d e S => match gg d e S with | .nx e' S' => .nx e' S' | _ => .bad)) := by
  refine weakS (ps_asg he hg hs hw h1) fun D σ H ⟨w, env, eH, hw, he, hs⟩ => ?_
  subst eH
  refine ⟨w, env, rfl, hw, he, SatW.imp (SatS.out hs he) fun w1 d v g1 r1 s1 => ?_⟩
  refine ⟨w1, env, d, rfl, g1.wd, he.go g1, r1, ?_⟩
  cases o : gg d env w1.S with
  | nx e' S' => simp only [o] at s1; exact s1
  | _ => simp only [o] at s1; exact s1.elim
theorem psd_par {i j : Nat} {x y : Str} {px py pt : Pos} {k1 k2 pt2} (hc : X.calm = true) (hN : X.N.Nodup) (hij : i ≠ j) (ha : PAD X W [a, b] h) (hw : swappedStores [.Tuple [.Name x px, .Name y py] k1 pt] (.Tuple [a, b] k2 pt2) X.env = pure (some [x, y]))
    (hi : X.N[i]? = some x := by rfl) (hj : X.N[j]? = some y := by rfl) (hx : X.env.scope.names.lookup x = some .local := by rfl) (hy : X.env.scope.names.lookup y = some .local := by rfl)
    (hs : swapsWithSole [.Tuple [.Name x px, .Name y py] k1 pt] (.Tuple [a, b] k2 pt2) pos.line X.env = pure false := by rfl) :
    PSD X W (.Assign [.Tuple [.Name x px, .Name y py] k1 pt] (.Tuple [a, b] k2 pt2) pos) (yPar i j h) := by
  refine weakS (ps_par hc hN hi hj hij hx hy ha hw hs) fun D σ H ⟨w, env, eH, hw, he, hs⟩ => ?_
  subst eH
  refine ⟨w, env, rfl, hw, he, SatW.imp (SatS.out hs he) fun w1 d v g1 r1 s1 => ?_⟩
  match d, r1, s1 with
  | [], _, s1 => exact s1.elim
  | [_], _, s1 => exact s1.elim
  | [p, q], r1, s1 =>
    obtain ⟨v1, t, e1, r2, r3⟩ := Rps.cons_inv r1
    obtain ⟨v2, t2, e2, r4, r5⟩ := r3.cons_inv
    have e3 := r5.nil_inv
    subst e3 e2 e1
    exact ⟨v1, v2, rfl, s1 w1 _ (Go.refl g1.wd) rfl (((he.go g1).set r2).set r4)⟩
  | _ :: _ :: _ :: _, _, s1 => exact s1.elim
/-- a op= b, by values -/
def IpD (X : Cx) (op : Operator) (g : D → D → M D) : Prop :=
  ∃ rr : TIp, PIp X op rr ∧ ∀ (w : Wl) (x y : V) (d e : D) (W : WX) (σ : L2.St) (Q : VK), Wd X.K w → RD X.K w d x → RD X.K w e y → SatW (kt X) W σ (RD X.K) w (g d e w.S) (fun w' _ v => Q v w'.H) → rr x y w.H Q
theorem psd_aug {i : Nat} {x : Str} {pos' : Pos} {op : Operator} {gg : D → D → M D} (hN : X.N.Nodup) (ho : IpD X op gg) (he : PD X W e f) (hi : X.N[i]? = some x := by rfl) (hx : Loc X.env.scope x := by first | exact .inl rfl | exact .inr rfl) (hf : X.fn x = true ∨ X.env.scope.names.lookup x = some .local := by first | exact .inl rfl | exact .inr rfl | assumption) :
    PSD X W (.AugAssign (.Name x pos') op e pos) (yAug i f gg) := by
  obtain ⟨rr, ro, h1⟩ := ho
  refine weakS (ps_aug (i := i) hN hi hx he ro hf) fun D σ H ⟨w, env, eH, hw, he, hs⟩ => ?_
  subst eH
  unfold yAug at hs
  cases q : env[i]? with
  | none => rw [q] at hs; exact hs.elim
  | some o =>
    cases o with
    | none => rw [q] at hs; exact hs.elim
    | some d =>
      rw [q] at hs
      obtain ⟨v, e1, r⟩ := he.2 i d q
      refine ⟨v, e1, w, env, rfl, hw, he, SatW.imp (SatS.out hs he) fun w1 d1 v1 g1 r1 s1 => ?_⟩
      refine h1 w1 v v1 d d1 W σ _ g1.wd (Rp.go g1 r) r1 (SatW.imp (SatS.out s1 (he.go g1)) fun w2 d2 v2 g2 r2 s2 => ?_)
      exact s2 w2 _ (Go.refl g2.wd) rfl (((he.go g1).go g2).set r2)
end
end Dv
/-! # Dv4: loops, comprehensions, calls, a def's contract -/
namespace Dv
open PySem PySem.Spec PyProof.Rows L2

/-! ### while -/
def whN (c : Env → M Bool) (b : Env → Store → Out) : Nat → Env → Store → Option Out
  | 0, _, _ => none
  | n + 1, e, S => match c e S with
    | .ok true S1 => match b e S1 with
      | .nx e' S' => whN c b n e' S'
      | .ct e' S' => whN c b n e' S'
      | .bk e' S' => some (.nx e' S')
      | o => some o
    | .ok false S1 => some (.nx e S1)
    | .exc x S1 => some (.exc x e S1)
    | .bad => some .bad
open Classical in
noncomputable def yWhile (c : Env → M Bool) (b : Env → Store → Out) : Env → Store → Out := fun e S =>
  if h : ∃ o, ∃ n, whN c b n e S = some o then Classical.choose h else .bad
theorem whN_succ {c : Env → M Bool} {b : Env → Store → Out} : ∀ {n : Nat} {e : Env} {S : Store} {o : Out}, whN c b n e S = some o → whN c b (n + 1) e S = some o
  | 0, _, _, _, h => by cases h
  | n + 1, e, S, o, h => by
    unfold whN at h ⊢
    cases q : c e S with
    | bad => rw [q] at h; exact h
    | exc x S1 => rw [q] at h; exact h
    | ok t S1 =>
      rw [q] at h
      cases t with
      | false => exact h
      | true =>
        cases r : b e S1 with
        | nx e' S' => simp only [r] at h ⊢; exact whN_succ h
        | ct e' S' => simp only [r] at h ⊢; exact whN_succ h
        | bk e' S' => simp only [r] at h ⊢; exact h
        | rt d S' => simp only [r] at h ⊢; exact h
        | exc x e' S' => simp only [r] at h ⊢; exact h
        | bad => simp only [r] at h ⊢; exact h
theorem whN_le {c : Env → M Bool} {b : Env → Store → Out} {n m : Nat} {e : Env} {S : Store} {o : Out} (h : whN c b n e S = some o) (hl : n ≤ m) : whN c b m e S = some o := by
  induction hl with
  | refl => exact h
  | step _ ih => exact whN_succ ih
theorem yWhile_of {c : Env → M Bool} {b : Env → Store → Out} {n : Nat} {e : Env} {S : Store} {o : Out} (h : whN c b n e S = some o) : yWhile c b e S = o := by
  have hx : ∃ o, ∃ n, whN c b n e S = some o := ⟨o, n, h⟩
  unfold yWhile
  rw [dif_pos hx]
  obtain ⟨m, hm⟩ := Classical.choose_spec hx
  have h1 := whN_le h (Nat.le_max_left n m)
  have h2 := whN_le hm (Nat.le_max_right n m)
  rw [h1] at h2
  exact (Option.some.inj h2).symm
theorem yWhile_ends {c : Env → M Bool} {b : Env → Store → Out} {e : Env} {S : Store} (h : yWhile c b e S ≠ .bad) : ∃ n, whN c b n e S = some (yWhile c b e S) := by
  unfold yWhile at h ⊢
  by_cases hx : ∃ o, ∃ n, whN c b n e S = some o
  · rw [dif_pos hx]
    exact Classical.choose_spec hx
  · rw [dif_neg hx] at h
    exact (h rfl).elim
theorem yWhile_stop {c : Env → M Bool} {b : Env → Store → Out} {e : Env} {S S1 : Store} (h : c e S = .ok false S1) : yWhile c b e S = .nx e S1 := yWhile_of (n := 1) (by unfold whN; rw [h])
theorem whN_none_bad {c : Env → M Bool} {b : Env → Store → Out} {e : Env} {S : Store} (h : ¬ ∃ o n, whN c b n e S = some o) : yWhile c b e S = .bad := by
  unfold yWhile
  rw [dif_neg h]
theorem yWhile_go {c : Env → M Bool} {b : Env → Store → Out} {e : Env} {S S1 : Store} (h : c e S = .ok true S1) : yWhile c b e S = (match b e S1 with
    | .nx e' S' => yWhile c b e' S'
    | .ct e' S' => yWhile c b e' S'
    | .bk e' S' => .nx e' S'
    | o => o) := by
  have step : ∀ {e' : Env} {S' : Store}, (∀ n, whN c b (n + 1) e S = whN c b n e' S') → yWhile c b e S = yWhile c b e' S' := fun {e' S'} hh => by
    by_cases hx : ∃ o n, whN c b n e' S' = some o
    · obtain ⟨o, n, hn⟩ := hx
      rw [yWhile_of hn, yWhile_of (n := n + 1) (by rw [hh]; exact hn)]
    · rw [whN_none_bad hx, whN_none_bad]
      rintro ⟨o, n, hn⟩
      cases n with
      | zero => cases hn
      | succ n => exact hx ⟨o, n, by rw [← hh]; exact hn⟩
  cases q : b e S1 with
  | nx e' S' => exact step fun n => by rw [whN]; simp only [h, q]
  | ct e' S' => exact step fun n => by rw [whN]; simp only [h, q]
  | bk e' S' => exact yWhile_of (n := 1) (by rw [whN]; simp only [h, q])
  | rt d S' => exact yWhile_of (n := 1) (by rw [whN]; simp only [h, q])
  | exc x e' S' => exact yWhile_of (n := 1) (by rw [whN]; simp only [h, q])
  | bad => exact yWhile_of (n := 1) (by rw [whN]; simp only [h, q])
section
variable {X : Cx} {W : WX} {c : Expr} {body : List Stmt} {k : Env → M Bool} {g : Env → Store → Out} {pos : Pos}
theorem psd_while (hp : PassesOwn (model X.prog X.w) X.A X.env X.xe) (hc : PTD X W c k) (hb : PSsD X W body g) : PSD X W (.While c body [] pos) (yWhile k g) := by
  refine weakS (ps_while hp hc hb) fun D σ H ⟨w, env, eH, hw, he, hs⟩ => ?_
  subst eH
  have nb : yWhile k g env w.S ≠ .bad := fun z => by rw [z] at hs; exact hs
  obtain ⟨n, hn⟩ := yWhile_ends nb
  refine ⟨fun m σ H => ∃ w env o, w.H = H ∧ Wd X.K w ∧ EnvOk X.K w env σ ∧ whN k g m env w.S = some o ∧ SatS (kt X) W w o D, ⟨n, w, env, _, rfl, hw, he, hn, hs⟩, ?_⟩
  rintro m σ1 H1 ⟨w1, env1, o, rfl, hw1, he1, hm, hs1⟩
  refine ⟨w1, env1, rfl, hw1, he1, ?_⟩
  cases m with
  | zero => cases hm
  | succ m =>
    rw [whN] at hm
    cases q : k env1 w1.S with
    | bad => simp only [q] at hm; cases hm; exact hs1.elim
    | exc x S1 =>
      simp only [q] at hm
      have e := Option.some.inj hm
      subst e
      exact fun w' cls dd g' e q => hs1 w' σ1 cls dd g' e (he1.go g') q
    | ok t S1 =>
      intro w2 v g2 eS ev
      have ev' : t = v := ev
      subst ev' eS
      cases t with
      | false =>
        simp only [q] at hm
        have e := Option.some.inj hm
        subst e
        exact iteF (hs1 w2 σ1 g2 rfl (he1.go g2))
      | true =>
        refine iteT ⟨fun σ' H' => ∃ w3 env3 o, w3.H = H' ∧ Wd X.K w3 ∧ EnvOk X.K w3 env3 σ' ∧ whN k g m env3 w3.S = some o ∧ SatS (kt X) W w3 o D, fun σ' H' z => ⟨m, Nat.lt_succ_self m, z⟩, w2, env1, rfl, g2.wd, he1.go g2, ?_⟩
        simp only [q] at hm
        cases r : g env1 w2.S with
        | nx e' S' => simp only [r] at hm; exact fun w3 σ3 g3 e3 he3 => ⟨w3, e', o, rfl, g3.wd, he3, by rw [e3]; exact hm, hs1.pre (g2.trans g3)⟩
        | ct e' S' => simp only [r] at hm; exact fun w3 σ3 g3 e3 he3 => ⟨w3, e', o, rfl, g3.wd, he3, by rw [e3]; exact hm, hs1.pre (g2.trans g3)⟩
        | bk e' S' => simp only [r] at hm; have e := Option.some.inj hm; subst e; exact fun w3 σ3 g3 e3 he3 => hs1 w3 σ3 (g2.trans g3) e3 he3
        | rt d S' => simp only [r] at hm; have e := Option.some.inj hm; subst e; exact fun w3 v3 g3 e3 r3 => hs1 w3 v3 (g2.trans g3) e3 r3
        | exc x e' S' => simp only [r] at hm; have e := Option.some.inj hm; subst e; exact fun w3 σ3 cls dd g3 e3 he3 q3 => hs1 w3 σ3 cls dd (g2.trans g3) e3 he3 q3
        | bad => simp only [r] at hm; have e := Option.some.inj hm; subst e; exact hs1.elim
end

/-! ### what is walked -/
structure Src where
  items : List D
  chk : Store → Prop
def ItOk (K : PySem.W.Frag) (w0 : Wl) (J : It) (s : Src) : Prop :=
  ∀ w1, Go K w0 w1 → s.chk w1.S → (∀ (i : Nat) d, s.items[i]? = some d → J.go i w1.H ∧ ∀ x H', J.yld i w1.H x H' → ∃ w2, Go K w1 w2 ∧ w2.S = w1.S ∧ w2.H = H' ∧ Rp K w2.r w2.F d x) ∧ J.stop s.items.length w1.H
def iD (T : Kt) (W : WX) (f : Env → M Src) : TI := fun σ H R => ∃ (w : Wl) (env : Env), w.H = H ∧ Wd T.K w ∧ EnvOk T.K w env σ ∧ SatW T W σ (fun w' s J => ItOk T.K w' J s) w (f env w.S) (fun w' _ J => R J w'.H)
def PID (X : Cx) (W : WX) (tg iter : Expr) (f : Env → M Src) : Prop := PI X tg iter (iD (kt X) W f)
theorem weakI {X : Cx} {tg iter : Expr} {t t' : TI} (h : PI X tg iter t) (q : ∀ σ H R, t' σ H R → t σ H R) : PI X tg iter t' := ⟨fun pins s σ H R I z => h.run pins s σ H R I (q _ _ _ z)⟩

/-- a list, frozen or a cell that stays -/
def srcL (d : D) (S : Store) : Res Src := match d with
  | .lst l => .ok ⟨l, fun _ => True⟩ S
  | .scr l => .ok ⟨l, fun _ => True⟩ S
  | .cell n => match S[n]? with
    | some (.lst l) => .ok ⟨l, fun S' => S'[n]? = some (.lst l)⟩ S
    | _ => .bad
  | _ => .bad
def srcT (d : D) (S : Store) : Res Src := match d with
  | .tup l => .ok ⟨l, fun _ => True⟩ S
  | _ => .bad
def irange (lo : Int) (n : Nat) : List D := (List.range n).map fun (i : Nat) => D.int (lo + (i : Int))
def rng62 (i : Int) : Prop := -(2 ^ 62) ≤ i ∧ i < 2 ^ 62
/- kept from the kernel: it would count down from 2 ^ 62 -/
noncomputable instance (i : Int) : Decidable (rng62 i) := Classical.propDecidable _
noncomputable def srcR1 (l : List D) (S : Store) : Res Src := match l with
  | [.int j] => if rng62 j then .ok ⟨irange 0 j.toNat, fun _ => True⟩ S else .bad
  | _ => .bad
noncomputable def srcR2 (l : List D) (S : Store) : Res Src := match l with
  | [.int i, .int j] => if rng62 i ∧ rng62 j then .ok ⟨irange i (j - i).toNat, fun _ => True⟩ S else .bad
  | _ => .bad
def iSrc (k : D → Store → Res Src) (f : Env → M D) : Env → M Src := fun e S => (f e S).bind k
def iSrcA (k : List D → Store → Res Src) (f : Env → M (List D)) : Env → M Src := fun e S => (f e S).bind k
theorem Rps.nth {K : PySem.W.Frag} {r : List Addr} {F : Hp} : ∀ {l : List D} {vs : List V} {i : Nat} {v : V}, Rps K r F l vs → vs[i]? = some v → ∃ d, l[i]? = some d ∧ Rp K r F d v := fun {l vs i v} h e => by
  have hl := h.length
  have hi : i < l.length := by
    have := (List.getElem?_eq_some_iff.mp e).1
    omega
  obtain ⟨v', e2, p⟩ := h.get (i := i) (d := l[i]) (List.getElem?_eq_getElem hi)
  rw [e] at e2
  cases e2
  exact ⟨_, List.getElem?_eq_getElem hi, p⟩
section
variable {X : Cx} {W : WX} {tg e : Expr} {f : Env → M D} {h : Env → M (List D)} {pos p : Pos}
theorem itl_ok {K : PySem.W.Frag} {w0 : Wl} {a : Addr} {l : List D} {chk : Store → Prop} (hh : ∀ w1, Go K w0 w1 → chk w1.S → ∃ vs, SqL K w1.H a vs ∧ Rps K w1.r w1.F l vs) : ItOk K w0 (Itl K a) ⟨l, chk⟩ := fun w1 g hc => by
  obtain ⟨vs, q, r⟩ := hh w1 g hc
  refine ⟨fun i d e => ?_, vs, q, Nat.le_of_eq r.length⟩
  obtain ⟨v, ev, rv⟩ := r.get e
  refine ⟨⟨vs, v, q, ev⟩, fun x H' y => ?_⟩
  obtain ⟨eH, fx⟩ := y
  have ex : x = v := Option.some.inj ((fx _ q).symm.trans ev)
  subst ex
  exact ⟨w1, Go.refl g.wd, rfl, eH.symm, rv⟩
theorem itt_ok {K : PySem.W.Frag} {w0 : Wl} {a : Addr} {l : List D} {chk : Store → Prop} (hh : ∀ w1, Go K w0 w1 → chk w1.S → ∃ vs, SqT K w1.H a vs ∧ Rps K w1.r w1.F l vs) : ItOk K w0 (Itt K a) ⟨l, chk⟩ := fun w1 g hc => by
  obtain ⟨vs, q, r⟩ := hh w1 g hc
  refine ⟨fun i d e => ?_, vs, q, Nat.le_of_eq r.length⟩
  obtain ⟨v, ev, rv⟩ := r.get e
  refine ⟨⟨vs, v, q, ev⟩, fun x H' y => ?_⟩
  obtain ⟨eH, fx⟩ := y
  have ex : x = v := Option.some.inj ((fx _ q).symm.trans ev)
  subst ex
  exact ⟨w1, Go.refl g.wd, rfl, eH.symm, rv⟩
theorem itr_ok {K : PySem.W.Frag} {w0 : Wl} {lo : Int} {n : Nat} {chk : Store → Prop} : ItOk K w0 (Itr lo n) ⟨irange lo n, chk⟩ := fun w1 g hc => by
  refine ⟨fun i d e => ?_, ?_⟩
  · unfold irange at e
    rw [List.getElem?_map] at e
    have hi : i < n := by
      have z := (List.getElem?_eq_some_iff.mp (show ((List.range n).map fun (i : Nat) => D.int (lo + (i : Int)))[i]? = some d by rw [List.getElem?_map]; exact e)).1
      simpa using z
    rw [List.getElem?_range hi] at e
    have ed := Option.some.inj e
    subst ed
    refine ⟨hi, fun x H' y => ?_⟩
    obtain ⟨eH, ex⟩ := y
    exact ⟨w1, Go.refl g.wd, rfl, by first | exact eH.symm | exact ex.symm, by first | (subst ex; exact rpi) | (subst eH; exact rpi)⟩
  · show n ≤ (irange lo n).length
    simp [irange]
theorem pid_list (ha : PD X W e f) : PID X W tg e (iSrc srcL f) := by
  refine weakI (pi_list ha) fun σ H R ⟨w, env, eH, hw, he, hs⟩ => ?_
  subst eH
  refine ⟨w, env, rfl, hw, he, SatW.imp (SatW.bind hs) fun w1 d v g1 r1 s1 => ?_⟩
  cases d with
  | lst l =>
    obtain ⟨a, vs, rfl, q, p⟩ := getL_ok g1.wd (show Rp X.K w1.r w1.F (.lst l) v from r1) rfl
    refine ⟨a, rfl, ⟨vs, .inl (.inl q)⟩, SatW.here (d := (⟨l, fun _ => True⟩ : Src)) s1 g1.wd (itl_ok fun w2 g2 _ => ?_)⟩
    have r2 : Rp X.K w2.r w2.F (.lst l) (.ref a) := Rp.go g2 r1
    obtain ⟨a', vs', e', q', p'⟩ := getL_ok g2.wd r2 rfl
    cases e'
    exact ⟨vs', .inl (.inl q'), p'⟩
  | scr l =>
    obtain ⟨a, vs, rfl, q, p⟩ := getQ_ok g1.wd (show Rp X.K w1.r w1.F (.scr l) v from r1) rfl
    refine ⟨a, rfl, ⟨vs, q⟩, SatW.here (d := (⟨l, fun _ => True⟩ : Src)) s1 g1.wd (itl_ok fun w2 g2 _ => ?_)⟩
    have r2 : Rp X.K w2.r w2.F (.scr l) (.ref a) := Rp.go g2 r1
    obtain ⟨a', vs', e', q', p'⟩ := getQ_ok g2.wd r2 rfl
    cases e'
    exact ⟨vs', q', p'⟩
  | cell n =>
    have s1' : SatW (kt X) W σ _ w1 (srcL (.cell n) w1.S) _ := s1
    unfold srcL at s1'
    cases en : w1.S[n]? with
    | none => simp only [en] at s1'; exact s1'.elim
    | some c =>
      cases c with
      | lst l =>
        simp only [en] at s1'
        obtain ⟨a, vs, rfl, q, p⟩ := getL_ok (l := l) g1.wd (show Rp X.K w1.r w1.F (.cell n) v from r1) (by simp only [getL, en])
        refine ⟨a, rfl, ⟨vs, .inl (.inl q)⟩, SatW.here (d := (⟨l, fun S' => S'[n]? = some (.lst l)⟩ : Src)) s1' g1.wd (itl_ok fun w2 g2 hc => ?_)⟩
        have hc' : w2.S[n]? = some (.lst l) := hc
        have r2 : Rp X.K w2.r w2.F (.cell n) (.ref a) := Rp.go g2 r1
        obtain ⟨a', vs', e', q', p'⟩ := getL_ok (l := l) g2.wd r2 (by simp only [getL, hc'])
        cases e'
        exact ⟨vs', .inl (.inl q'), p'⟩
      | dct l => simp only [en] at s1'; exact s1'.elim
      | dead => simp only [en] at s1'; exact s1'.elim
  | _ => exact s1.elim
theorem pid_tup (ha : PD X W e f) : PID X W tg e (iSrc srcT f) := by
  refine weakI (pi_tup ha) fun σ H R ⟨w, env, eH, hw, he, hs⟩ => ?_
  subst eH
  refine ⟨w, env, rfl, hw, he, SatW.imp (SatW.bind hs) fun w1 d v g1 r1 s1 => ?_⟩
  cases d with
  | tup l =>
    obtain ⟨a, vs, rfl, q, p⟩ := getT_ok g1.wd (show Rp X.K w1.r w1.F (.tup l) v from r1) rfl
    refine ⟨a, rfl, ⟨vs, .inl q⟩, SatW.here (d := (⟨l, fun _ => True⟩ : Src)) s1 g1.wd (itt_ok fun w2 g2 _ => ?_)⟩
    have r2 : Rp X.K w2.r w2.F (.tup l) (.ref a) := Rp.go g2 r1
    obtain ⟨a', vs', e', q', p'⟩ := getT_ok g2.wd r2 rfl
    cases e'
    exact ⟨vs', .inl q', p'⟩
  | _ => exact s1.elim
theorem pid_range1 {a : Expr} (hm : X.mg "range" = none) (ha : PAD X W [a] h) (hg : Gl X "range" := by rfl) (hs : starEach [a] X.env = [(false, eval a X.env)] := by rfl) : PID X W tg (.Call (.Name "range" p) [a] [] pos) (iSrcA srcR1 h) := by
  refine weakI (pi_range1 hg hm ha hs) fun σ H R ⟨w, env, eH, hw, he, hs⟩ => ?_
  subst eH
  refine ⟨w, env, rfl, hw, he, SatW.imp (SatW.bind hs) fun w1 d v g1 r1 s1 => ?_⟩
  have r2 : Rps X.K w1.r w1.F d v := r1
  match d, r2, s1 with
  | [], _, s1 => exact s1.elim
  | [.int j], r2, s1 =>
    obtain ⟨v1, t, e1, q1, q2⟩ := r2.cons_inv
    have e2 := q2.nil_inv
    cases rp_int q1
    subst e2 e1
    obtain ⟨hj, s2⟩ := satIf s1
    exact ⟨j, rfl, hj.1, hj.2, SatW.here s2 g1.wd itr_ok⟩
  | [.non], _, s1 => exact s1.elim
  | [.bl _], _, s1 => exact s1.elim
  | [.str _], _, s1 => exact s1.elim
  | [.tup _], _, s1 => exact s1.elim
  | [.lst _], _, s1 => exact s1.elim
  | [.scr _], _, s1 => exact s1.elim
  | [.cell _], _, s1 => exact s1.elim
  | [.raw _], _, s1 => exact s1.elim
  | [.cls _], _, s1 => exact s1.elim
  | [.exn _ _], _, s1 => exact s1.elim
  | x :: _ :: _, _, s1 => cases x <;> exact s1.elim
theorem pid_range2 {a b : Expr} (hm : X.mg "range" = none) (ha : PAD X W [a, b] h) (hg : Gl X "range" := by rfl) (hs : starEach [a, b] X.env = [(false, eval a X.env), (false, eval b X.env)] := by rfl) (hs2 : starEach [b] X.env = [(false, eval b X.env)] := by rfl) : PID X W tg (.Call (.Name "range" p) [a, b] [] pos) (iSrcA srcR2 h) := by
  refine weakI (pi_range2 hg hm ha hs hs2) fun σ H R ⟨w, env, eH, hw, he, hs⟩ => ?_
  subst eH
  refine ⟨w, env, rfl, hw, he, SatW.imp (SatW.bind hs) fun w1 d v g1 r1 s1 => ?_⟩
  have r2 : Rps X.K w1.r w1.F d v := r1
  have key : ∃ i j, d = [.int i, .int j] := by
    match d, s1 with
    | [.int i, .int j], _ => exact ⟨i, j, rfl⟩
    | [], s1 => exact s1.elim
    | [x], s1 => cases x <;> exact s1.elim
    | x :: y :: z :: t, s1 => cases x <;> cases y <;> exact s1.elim
    | [.non, y], s1 => cases y <;> exact s1.elim
    | [.bl _, y], s1 => cases y <;> exact s1.elim
    | [.str _, y], s1 => cases y <;> exact s1.elim
    | [.tup _, y], s1 => cases y <;> exact s1.elim
    | [.lst _, y], s1 => cases y <;> exact s1.elim
    | [.scr _, y], s1 => cases y <;> exact s1.elim
    | [.cell _, y], s1 => cases y <;> exact s1.elim
    | [.raw _, y], s1 => cases y <;> exact s1.elim
    | [.cls _, y], s1 => cases y <;> exact s1.elim
    | [.exn _ _, y], s1 => cases y <;> exact s1.elim
    | [.int _, .non], s1 => exact s1.elim
    | [.int _, .bl _], s1 => exact s1.elim
    | [.int _, .str _], s1 => exact s1.elim
    | [.int _, .tup _], s1 => exact s1.elim
    | [.int _, .lst _], s1 => exact s1.elim
    | [.int _, .scr _], s1 => exact s1.elim
    | [.int _, .cell _], s1 => exact s1.elim
    | [.int _, .raw _], s1 => exact s1.elim
    | [.int _, .cls _], s1 => exact s1.elim
    | [.int _, .exn _ _], s1 => exact s1.elim
  obtain ⟨i, j, rfl⟩ := key
  obtain ⟨v1, t, e1, q1, q2⟩ := r2.cons_inv
  obtain ⟨v2, t2, e2, q3, q4⟩ := q2.cons_inv
  have e3 := q4.nil_inv
  cases rp_int q1
  cases rp_int q3
  subst e3 e2 e1
  obtain ⟨hj, s2⟩ := satIf s1
  exact ⟨i, j, rfl, ⟨hj.1.1, hj.1.2, hj.2.1, hj.2.2⟩, SatW.here s2 g1.wd itr_ok⟩
end

/-! ### for -/
open Classical in
noncomputable def forL (chk : Store → Prop) (g : D → Env → Store → Out) (b : Env → Store → Out) : List D → Env → Store → Out
  | [], e, S => if chk S then .nx e S else .bad
  | d :: l, e, S => if chk S then match g d e S with
      | .nx e1 S1 => match b e1 S1 with
        | .nx e' S' => forL chk g b l e' S'
        | .ct e' S' => forL chk g b l e' S'
        | .bk e' S' => .nx e' S'
        | o => o
      | _ => .bad
    else .bad
noncomputable def yFor (src : Env → M Src) (g : D → Env → Store → Out) (b : Env → Store → Out) : Env → Store → Out := fun e S => (src e S).out e fun s S1 => forL s.chk g b s.items e S1
section
variable {X : Cx} {W : WX} {tg iter : Expr} {body : List Stmt} {src : Env → M Src} {gg : D → Env → Store → Out} {g : Env → Store → Out} {pos : Pos}
theorem drop_get {α : Type} {l : List α} {i : Nat} {d : α} {r : List α} (h : l.drop i = d :: r) : l[i]? = some d ∧ l.drop (i + 1) = r := by
  have h1 : (l.drop i)[0]? = some d := by rw [h]; rfl
  rw [List.getElem?_drop] at h1
  refine ⟨by simpa using h1, ?_⟩
  rw [← List.drop_drop, h]
  rfl
theorem drop_nil {α : Type} {l : List α} {i : Nat} (h : l.drop i = []) (hi : i ≤ l.length) : i = l.length := by
  have := congrArg List.length h
  simp at this
  omega
theorem psd_for (hp : PassesOwn (model X.prog X.w) X.A X.env X.xe) (hc : X.calm = true) (hi : PID X W tg iter src) (hg : PGD X tg gg) (hb : PSsD X W body g) (hfs : ∀ x, foldedSetIterable iter X.env x = pure x := by intro _; rfl) :
    PSD X W (.For tg iter body [] pos) (yFor src gg g) := by
  refine weakS (ps_for hp hc hi hg hb hfs) fun D σ H ⟨w, env, eH, hw, he, hs⟩ => ?_
  subst eH
  refine ⟨w, env, rfl, hw, he, SatW.imp (SatS.out hs he) fun w1 s J g1 it s1 => ?_⟩
  have it' : ItOk X.K w1 J s := it
  refine ⟨fun i m σ H => ∃ w env, w.H = H ∧ Go X.K w1 w ∧ EnvOk X.K w env σ ∧ i ≤ s.items.length ∧ m = s.items.length - i ∧ SatS (kt X) W w (forL s.chk gg g (s.items.drop i) env w.S) D, ⟨s.items.length, w1, env, rfl, Go.refl g1.wd, he.go g1, Nat.zero_le _, rfl, s1⟩, ?_⟩
  rintro i m σ2 H2 ⟨w2, env2, rfl, g2, he2, hil, rfl, s2⟩
  cases ed : s.items.drop i with
  | nil =>
    rw [ed, forL] at s2
    by_cases hk : s.chk w2.S
    · rw [if_pos hk] at s2
      refine .inl ⟨?_, s2 w2 σ2 (Go.refl g2.wd) rfl he2⟩
      rw [drop_nil ed hil]
      exact (it' w2 g2 hk).2
    · rw [if_neg hk] at s2
      exact s2.elim
  | cons d l =>
    obtain ⟨e1, e2⟩ := drop_get ed
    have hlt : i < s.items.length := (List.getElem?_eq_some_iff.mp e1).1
    rw [ed, forL] at s2
    by_cases hk : s.chk w2.S
    · rw [if_pos hk] at s2
      obtain ⟨go, yl⟩ := (it' w2 g2 hk).1 i d e1
      refine .inr ⟨go, fun σ' H' => ∃ w env, w.H = H' ∧ Go X.K w1 w ∧ EnvOk X.K w env σ' ∧ SatS (kt X) W w (forL s.chk gg g (s.items.drop (i + 1)) env w.S) D, fun σ' H' ⟨w', env', q1, q2, q3, q4⟩ => ⟨s.items.length - (i + 1), by omega, w', env', q1, q2, q3, hlt, rfl, q4⟩, fun x H' y => ?_⟩
      obtain ⟨w3, g3, eS3, eH3, r3⟩ := yl x H' y
      refine ⟨w3, env2, d, eH3, g3.wd, he2.go g3, r3, ?_⟩
      rw [eS3]
      cases og : gg d env2 w2.S with
      | nx e' S' =>
        simp only [og] at s2
        intro w4 σ4 g4 eS4 he4
        subst eS4
        refine ⟨w4, e', rfl, g4.wd, he4, ?_⟩
        cases ob : g e' w4.S with
        | nx e5 S5 => simp only [ob] at s2; exact fun w5 σ5 g5 eS5 he5 => ⟨w5, e5, rfl, (g2.trans g3).trans (g4.trans g5), he5, by rw [e2, eS5]; exact s2.pre (g3.trans (g4.trans g5))⟩
        | ct e5 S5 => simp only [ob] at s2; exact fun w5 σ5 g5 eS5 he5 => ⟨w5, e5, rfl, (g2.trans g3).trans (g4.trans g5), he5, by rw [e2, eS5]; exact s2.pre (g3.trans (g4.trans g5))⟩
        | bk e5 S5 => simp only [ob] at s2; exact fun w5 σ5 g5 eS5 he5 => s2 w5 σ5 (g3.trans (g4.trans g5)) eS5 he5
        | rt d5 S5 => simp only [ob] at s2; exact fun w5 v5 g5 eS5 r5 => s2 w5 v5 (g3.trans (g4.trans g5)) eS5 r5
        | exc x5 e5 S5 => simp only [ob] at s2; exact fun w5 σ5 cls dd g5 eS5 he5 q5 => s2 w5 σ5 cls dd (g3.trans (g4.trans g5)) eS5 he5 q5
        | bad => simp only [ob] at s2; exact s2.elim
      | _ => simp only [og] at s2; exact s2.elim
    · rw [if_neg hk] at s2
      exact s2.elim
end

/-! ### comprehensions -/
def wipeE (e : Env) : List Nat → Env
  | [] => e
  | v :: vs => (wipeE e vs).set v none
abbrev W0 : WX := fun _ _ _ _ => False
open Classical in
noncomputable def lcL (chk : Store → Prop) (g : D → Env → Option Env) (c : Env → M Bool) (f : Env → M D) (e0 : Env) : List D → List D → Store → Res (List D)
  | [], acc, S => if chk S then .ok acc S else .bad
  | d :: l, acc, S => if chk S then match g d e0 with
      | some e1 => match c e1 S with
        | .ok true S2 => match f e1 S2 with
          | .ok y S3 => if acc.length < 16000000 then lcL chk g c f e0 l (acc ++ [y]) S3 else .bad
          | _ => .bad
        | .ok false S2 => lcL chk g c f e0 l acc S2
        | _ => .bad
      | none => .bad
    else .bad
noncomputable def xLc (mk : List D → M D) (src : Env → M Src) (g : D → Env → Option Env) (c : Env → M Bool) (f : Env → M D) (vs : List Nat) : Env → M D := fun e S =>
  (src e S).bind fun s S1 => (lcL s.chk g c f (wipeE e vs) s.items [] S1).bind fun l S2 => mk l S2
theorem EnvOk.wipe {K : PySem.W.Frag} {w : Wl} {env : Env} {σ : L2.St} (h : EnvOk K w env σ) : ∀ vs : List Nat, EnvOk K w (wipeE env vs) (wipe σ vs)
  | [] => h
  | _ :: vs => (EnvOk.wipe h vs).unset
theorem wipe_get {σ : L2.St} {k : Nat} : ∀ {vs : List Nat}, (wipe σ vs)[k]? = if k ∈ vs then (if k < σ.length then some none else none) else σ[k]?
  | [] => by simp [wipe]
  | v :: vs => by
    unfold wipe
    rw [List.getElem?_set, wipe_length, wipe_get (vs := vs)]
    by_cases h : v = k
    · subst h; simp
    · rw [if_neg h]
      have hm : (k ∈ v :: vs) ↔ k ∈ vs := by simp [Ne.symm h]
      by_cases hk : k ∈ vs
      · rw [if_pos hk, if_pos (hm.mpr hk)]
      · rw [if_neg hk, if_neg (fun z => hk (hm.mp z))]
theorem wipe_eq {σ σ' : L2.St} {vs : List Nat} (hl : σ'.length = σ.length) (h : ∀ k, k ∉ vs → σ'[k]? = σ[k]?) : wipe σ' vs = wipe σ vs := by
  apply List.ext_getElem?
  intro k
  rw [wipe_get, wipe_get, hl]
  by_cases hk : k ∈ vs
  · rw [if_pos hk, if_pos hk]
  · rw [if_neg hk, if_neg hk, h k hk]
/-- a comprehension's target -/
def TgD (T : Kt) (vs : List Nat) (gV : TG) (gE : D → Env → Option Env) : Prop :=
  ∀ (w : Wl) (d : D) (v : V) (env env' : Env) (σ : L2.St) (Q : L2.St → Hp → Prop), Wd T.K w → Rp T.K w.r w.F d v → EnvOk T.K w env σ → gE d env = some env' →
    (∀ σ' : L2.St, EnvOk T.K w env' σ' → σ'.length = σ.length → (∀ k, k ∉ vs → σ'[k]? = σ[k]?) → Q σ' w.H) → gV v σ w.H Q
def eN (i : Nat) : D → Env → Option Env := fun d e => some (e.set i (some d))
def eT2 (i j : Nat) : D → Env → Option Env := fun d e => match d with
  | .tup [a, b] => some ((e.set i (some a)).set j (some b))
  | _ => none
def eT3 (i j k : Nat) : D → Env → Option Env := fun d e => match d with
  | .tup [a, b, c] => some (((e.set i (some a)).set j (some b)).set k (some c))
  | _ => none
theorem tg_N {T : Kt} {i : Nat} {vs : List Nat} (hi : i ∈ vs) : TgD T vs (gName i) (eN i) := fun w d v env env' σ Q hw hr he e q => by
  have e' := Option.some.inj e
  subst e'
  refine q _ (he.set hr) (by simp) fun k hk => ?_
  rw [List.getElem?_set_ne (fun z => hk (by rw [← z]; exact hi))]
theorem tg_T2 {T : Kt} {i j : Nat} {vs : List Nat} (hi : i ∈ vs) (hj : j ∈ vs) : TgD T vs (gTup T.K 2 (gCons (gName i) (gCons (gName j) gNil))) (eT2 i j) := fun w d v env env' σ Q hw hr he e q => by
  unfold eT2 at e
  split at e
  · rename_i a b
    have e' := Option.some.inj e
    subst e'
    obtain ⟨p, xs, rfl, hp, hx⟩ := getT_ok hw hr rfl
    obtain ⟨v1, t, e1, r1, r2⟩ := hx.cons_inv
    obtain ⟨v2, t2, e2, r3, r4⟩ := r2.cons_inv
    have e3 := r4.nil_inv
    subst e3 e2 e1
    refine ⟨p, _, rfl, .inl hp, rfl, v1, [v2], rfl, v2, [], rfl, rfl, q _ ((he.set r1).set r3) (by simp) fun k hk => ?_⟩
    rw [List.getElem?_set_ne (fun z => hk (by rw [← z]; exact hj)), List.getElem?_set_ne (fun z => hk (by rw [← z]; exact hi))]
  · cases e
theorem tg_T3 {T : Kt} {i j l : Nat} {vs : List Nat} (hi : i ∈ vs) (hj : j ∈ vs) (hl : l ∈ vs) : TgD T vs (gTup T.K 3 (gCons (gName i) (gCons (gName j) (gCons (gName l) gNil)))) (eT3 i j l) := fun w d v env env' σ Q hw hr he e q => by
  unfold eT3 at e
  split at e
  · rename_i a b c
    have e' := Option.some.inj e
    subst e'
    obtain ⟨p, xs, rfl, hp, hx⟩ := getT_ok hw hr rfl
    obtain ⟨v1, t, e1, r1, r2⟩ := hx.cons_inv
    obtain ⟨v2, t2, e2, r3, r4⟩ := r2.cons_inv
    obtain ⟨v3, t3, e3, r5, r6⟩ := r4.cons_inv
    have e4 := r6.nil_inv
    subst e4 e3 e2 e1
    refine ⟨p, _, rfl, .inl hp, rfl, v1, [v2, v3], rfl, v2, [v3], rfl, v3, [], rfl, rfl, q _ (((he.set r1).set r3).set r5) (by simp) fun k hk => ?_⟩
    rw [List.getElem?_set_ne (fun z => hk (by rw [← z]; exact hl)), List.getElem?_set_ne (fun z => hk (by rw [← z]; exact hj)), List.getElem?_set_ne (fun z => hk (by rw [← z]; exact hi))]
  · cases e
def cYes : Env → M Bool := fun _ S => .ok true S
/-- what isn't in the store stays so -/
theorem Go.loosely {K : PySem.W.Frag} {w w1 : Wl} (g : Go K w w1) {p : Addr} {o : HO} (h1 : w.H p = some o) (h2 : w.F p = none) (h3 : ∀ (n : Nat), w.r[n]? = some p → ¬ alv w.S n) :
    w1.H p = some o ∧ w1.F p = none ∧ ∀ (n : Nat), w1.r[n]? = some p → ¬ alv w1.S n := by
  refine ⟨g.fr p o h1 h3, g.fnew p (by rw [h1]; simp) h2 h3, fun n e q => ?_⟩
  by_cases hn : n < w.S.length
  · exact h3 n (pre_back g.pre (by rw [g.len]; exact hn) e) (g.live n hn q)
  · have := g.new n p (Nat.le_of_not_lt hn) e q
    rw [h1] at this
    cases this
section
variable {X : Cx} {W : WX} {elt tg iter : Expr} {ifs : List Expr} {scope : Scope} {own : List (Str × Nat)} {pos : Pos} {mk : List D → M D} {src : Env → M Src} {gV : TG} {gE : D → Env → Option Env} {c : Env → M Bool} {f : Env → M D}
/-- the reading of a comprehension -/
theorem lc_read (m : Mk mk) (tgd : TgD (kt X) (own.map (·.2)) gV gE) {tt : TT} (htt : ∀ σ H Q, tDB (kt X) W0 c σ H Q → tt σ H Q) {σ : L2.St} {H : Hp} {Q : VK} (hh : tD (kt X) W (xLc mk src gE c f (own.map (·.2))) σ H Q) :
    tLc (iD (kt X) W src) gV tt (tD (kt X) W0 f) (own.map (·.2)) σ H Q := by
  obtain ⟨w, env, eH, hw, he, hs⟩ := hh
  subst eH
  generalize own.map (·.2) = vs at tgd hs ⊢
  refine ⟨w, env, rfl, hw, he, SatW.imp (SatW.bind hs) fun w1 s J g1 it s1 => ?_⟩
  have it' : ItOk X.K w1 J s := it
  intro Dd hD
  -- the list under way at Dd
  refine ⟨fun i mm H => ∃ w2 acc accV, w2.H = H ∧ Go X.K w1 w2 ∧ (i ≤ s.items.length ∧ mm = s.items.length - i) ∧ w2.H Dd = some (.lst accV) ∧ w2.F Dd = none ∧ (∀ (n : Nat), w2.r[n]? = some Dd → ¬ alv w2.S n) ∧ Rps X.K w2.r w2.F acc accV ∧
      SatW (kt X) W σ (RD X.K) w1 ((lcL s.chk gE c f (wipeE env vs) (s.items.drop i) acc w2.S).bind fun l S2 => mk l S2) (fun w' _ v => Q v w'.H), ⟨s.items.length, ?_⟩, ?_⟩
  · refine ⟨⟨w1.r, w1.F, w1.S, upd w1.H Dd (.lst [])⟩, [], [], rfl, ?_, ⟨Nat.zero_le _, rfl⟩, upd_same, g1.wd.fresh hD, fun n e q => ?_, rps_nil, s1⟩
    · refine ⟨⟨g1.wd.len, fun b x e => ?_, fun k a cc e1 e2 => (g1.wd.cell k a cc e1 e2).mono ⟨[], by simp⟩ (Same.refl _) (fun _ z => z) (fun hd x z => ?_), g1.wd.inj⟩, ⟨[], by simp⟩, g1.wd.len, fun _ _ q => q, fun k a hk e _ => ?_, Same.refl _, fun a x e _ => ?_, fun a e => ?_, fun _ _ q _ => q⟩
      · show upd w1.H Dd (.lst []) b = some x
        have e' := g1.wd.same _ _ e
        rw [upd_ne (ne_of_none e' hD)]
        exact e'
      · show upd w1.H Dd (.lst []) a = some x
        rw [upd_ne (ne_of_none z hD)]
        exact z
      · have hk1 : k < w1.r.length := (List.getElem?_eq_some_iff.mp e).1
        have hk2 : w1.S.length ≤ k := hk
        have := g1.wd.len
        omega
      · show upd w1.H Dd (.lst []) a = some x
        rw [upd_ne (ne_of_none e hD)]
        exact e
      · have e' : upd w1.H Dd (.lst []) a = none := e
        by_cases hb : a = Dd
        · subst hb
          rw [upd_same] at e'
          cases e'
        · rw [upd_ne hb] at e'
          exact e'
    · obtain ⟨cc, e2, hd⟩ := q
      obtain ⟨o, eo⟩ := (g1.wd.cell n Dd cc e e2).some hd
      rw [hD] at eo
      cases eo
  · rintro i m' H2 ⟨w2, acc, accV, rfl, g2, ⟨hil, rfl⟩, hDd, hFd, hnc, hrs, s2⟩
    cases ed : s.items.drop i with
    | nil =>
      rw [ed, lcL] at s2
      by_cases hk : s.chk w2.S
      · rw [if_pos hk, Res.bind_ok] at s2
        obtain ⟨w', d', eH', q'⟩ := m.adopt (T := kt X) (W := W) (σ := σ) g2 hD hDd hFd hnc hrs s2
        refine .inl ⟨?_, ?_⟩
        · rw [drop_nil ed hil]
          exact (it' w2 g2 hk).2
        · rw [← eH']
          exact q'
      · rw [if_neg hk] at s2
        exact s2.elim
    | cons d l =>
      obtain ⟨e1, e2⟩ := drop_get ed
      have hlt : i < s.items.length := (List.getElem?_eq_some_iff.mp e1).1
      rw [ed, lcL] at s2
      by_cases hk : s.chk w2.S
      · rw [if_pos hk] at s2
        obtain ⟨go, yl⟩ := (it' w2 g2 hk).1 i d e1
        refine .inr ⟨go, fun H' => ∃ w2 acc accV, w2.H = H' ∧ Go X.K w1 w2 ∧ i + 1 ≤ s.items.length ∧ w2.H Dd = some (.lst accV) ∧ w2.F Dd = none ∧ (∀ (n : Nat), w2.r[n]? = some Dd → ¬ alv w2.S n) ∧ Rps X.K w2.r w2.F acc accV ∧
            SatW (kt X) W σ (RD X.K) w1 ((lcL s.chk gE c f (wipeE env vs) (s.items.drop (i + 1)) acc w2.S).bind fun l S2 => mk l S2) (fun w' _ v => Q v w'.H), fun H' z => ?_, fun x H' y => ?_⟩
        · obtain ⟨w', acc', accV', q1, q2, q3, q4⟩ := z
          exact ⟨s.items.length - (i + 1), by omega, w', acc', accV', q1, q2, ⟨q3, rfl⟩, q4⟩
        · obtain ⟨w3, g3, eS3, eH3, r3⟩ := yl x H' y
          subst eH3
          cases og : gE d (wipeE env vs) with
          | none => simp only [og] at s2; exact s2.elim
          | some e1 =>
            simp only [og] at s2
            refine tgd w3 d x (wipeE env vs) e1 (wipe σ vs) _ g3.wd r3 ((he.go (g1.trans (g2.trans g3))).wipe vs) og fun σ2 he2 hl2 hk2 => ?_
            refine ⟨(wipe_eq hl2 hk2).trans (wipe_eq (wipe_length _ _) fun k hk => by rw [wipe_get, if_neg hk]), ?_⟩
            refine htt _ _ _ ⟨w3, e1, rfl, g3.wd, he2, ?_⟩
            rw [eS3]
            cases oc : c e1 w2.S with
            | bad => simp only [oc] at s2; exact s2.elim
            | exc x S => simp only [oc] at s2; exact s2.elim
            | ok b S4 =>
              intro w4 v4 g4 eS4 ev
              have ev' : b = v4 := ev
              subst ev' eS4
              cases b with
              | false =>
                simp only [oc] at s2
                obtain ⟨k1, k2, k3⟩ := Go.loosely (g3.trans g4) hDd hFd hnc
                exact iteF ⟨w4, acc, accV, rfl, g2.trans (g3.trans g4), hlt, k1, k2, k3, Rps.go (g3.trans g4) hrs, by rw [e2]; exact s2⟩
              | true =>
                simp only [oc] at s2
                refine iteT ⟨w4, e1, rfl, g4.wd, he2.go g4, ?_⟩
                cases oy : f e1 w4.S with
                | bad => simp only [oy] at s2; exact s2.elim
                | exc x S => simp only [oy] at s2; exact s2.elim
                | ok yd S5 =>
                  simp only [oy] at s2
                  by_cases hal : acc.length < 16000000
                  · rw [if_pos hal] at s2
                    intro w5 v5 g5 eS5 r5
                    subst eS5
                    have r5' : Rp X.K w5.r w5.F yd v5 := r5
                    obtain ⟨k1, k2, k3⟩ := Go.loosely (g3.trans (g4.trans g5)) hDd hFd hnc
                    refine ⟨accV, k1, ?_, ⟨w5.r, w5.F, w5.S, upd w5.H Dd (.lst (accV ++ [v5]))⟩, acc ++ [yd], accV ++ [v5], rfl, ?_, hlt, upd_same, k2, k3, ?_, by rw [e2]; exact s2⟩
                    · rw [Rps.length hrs]
                      exact Nat.lt_of_lt_of_le hal (line16 (Nat.le_refl _))
                    · exact Go.loose (g2.trans (g3.trans (g4.trans g5))) hD (by rw [k1]; simp) k2 k3
                    · exact (Rps.go (g3.trans (g4.trans g5)) hrs).append (rps_cons r5' rps_nil)
                  · rw [if_neg hal] at s2
                    exact s2.elim
      · rw [if_neg hk] at s2
        exact s2.elim
theorem pd_lc (m : Mk mk) (tgd : TgD (kt X) (own.map (·.2)) gV gE) (hc : X.calm = true) (hN : X.N.Nodup) (hi : PID X W tg iter src) (ok : BlkOk X.N X.env.scope scope own)
    (hg : ∀ (s : Shared) (H : Hp) (C : Addr) (cl : List (Str × Addr)) (fp : List Addr), PG (X.blk s H scope (compEnvC scope cl C X.env) fp) tg gV)
    (he : ∀ (s : Shared) (H : Hp) (C : Addr) (cl : List (Str × Addr)) (fp : List Addr), PD (X.blk s H scope (compEnvC scope cl C X.env) fp) W0 elt f) (hs : ∀ x, foldedSetIterable iter X.env x = pure x := by intro _; rfl) :
    PD X W (.ListComp elt [⟨tg, iter, [], 0⟩] scope pos) (xLc mk src gE cYes f (own.map (·.2))) :=
  weakE (pe_lc (te := tD (kt X) W0 f) hc hN hi ok hg (fun _ _ _ _ _ => pts_nil) (fun s H C cl fp => show PE _ elt (tD (kt X) W0 f) from he s H C cl fp) hs) fun σ H Q => lc_read m tgd fun σ H Q ⟨w, env, eH, hw, he, hs⟩ => by
    subst eH
    exact SatW.here (d := true) (v := true) hs hw rfl
theorem pd_lcIf {t : Expr} (m : Mk mk) (tgd : TgD (kt X) (own.map (·.2)) gV gE) (hc : X.calm = true) (hN : X.N.Nodup) (hi : PID X W tg iter src) (ok : BlkOk X.N X.env.scope scope own)
    (hg : ∀ (s : Shared) (H : Hp) (C : Addr) (cl : List (Str × Addr)) (fp : List Addr), PG (X.blk s H scope (compEnvC scope cl C X.env) fp) tg gV)
    (ht : ∀ (s : Shared) (H : Hp) (C : Addr) (cl : List (Str × Addr)) (fp : List Addr), PTD (X.blk s H scope (compEnvC scope cl C X.env) fp) W0 t c)
    (he : ∀ (s : Shared) (H : Hp) (C : Addr) (cl : List (Str × Addr)) (fp : List Addr), PD (X.blk s H scope (compEnvC scope cl C X.env) fp) W0 elt f) (hs : ∀ x, foldedSetIterable iter X.env x = pure x := by intro _; rfl) :
    PD X W (.ListComp elt [⟨tg, iter, [t], 0⟩] scope pos) (xLc mk src gE c f (own.map (·.2))) :=
  weakE (pe_lc (te := tD (kt X) W0 f) (tt := tDB (kt X) W0 c) hc hN hi ok hg (fun s H C cl fp => pts_one (show PT _ t (tDB (kt X) W0 c) from ht s H C cl fp)) (fun s H C cl fp => show PE _ elt (tD (kt X) W0 f) from he s H C cl fp) hs) fun σ H Q => lc_read m tgd fun σ H Q h => h
end

/-! ### a def's contract, a call -/
def fin (keep : Bool) (n : Nat) (d : D) (S : Store) : Res D :=
  if keep = true ∨ S.length = n then .ok d S else if (d.under n && (S.take n).all (fun c => c.under n)) = true then .ok d (S.take n) else .bad
def finX (n : Nat) (x : Exn) (S : Store) : Res D := if S.length = n then .exc x S else if ((S.take n).all (fun c => c.under n)) = true then .exc x (S.take n) else .bad
def fnD (np ns : Nat) (keep : Bool) (body : Env → Store → Out) : List D → M D := fun ds S =>
  if ds.length = np then match body (ds.map some ++ List.replicate (ns - np) none) S with
    | .rt d S' => fin keep S.length d S'
    | .nx _ S' => fin keep S.length .non S'
    | .exc x _ S' => finX S.length x S'
    | _ => .bad
  else .bad
def spD (T : Kt) (f : List D → M D) : Sp := fun vs H Q E => ∃ (w : Wl) (ds : List D), w.H = H ∧ Wd T.K w ∧ Rps T.K w.r w.F ds vs ∧ SatW T (fun cls dd _ H' => E cls dd H') [] (RD T.K) w (f ds w.S) (fun w' _ v => Q v w'.H)
theorem fin_sat {T : Kt} {W : WX} {σ : L2.St} {w w1 : Wl} {keep : Bool} {d : D} {v : V} {Q : VK} (g : Go T.K w w1) (r : Rp T.K w1.r w1.F d v) (h : SatW T W σ (RD T.K) w (fin keep w.S.length d w1.S) (fun w' _ v => Q v w'.H)) : Q v w1.H := by
  unfold fin at h
  by_cases hk : keep = true ∨ w1.S.length = w.S.length
  · rw [if_pos hk] at h
    exact h w1 v g rfl r
  · rw [if_neg hk] at h
    obtain ⟨hu, h⟩ := satIf h
    rw [Bool.and_eq_true] at hu
    exact h ⟨w1.r.take w.S.length, w1.F, w1.S.take w.S.length, w1.H⟩ v (g.cut hu.2) rfl (Rp.cut d v hu.1 r)
section
variable {P : Program} {w : World} {K : PySem.W.Frag} {mg : Str → Option Value} {base : Heap}
theorem fn_ok {x qual : Str} {st : Stmt} {f : Addr} {fd : FuncData} {N ps : List Str} {k : Nat} {keep : Bool} {body : Env → Store → Out} (F : Fun K x qual st f fd) (S : FnScope N ps (defScope st))
    (hbody : ∀ (cdv : Value) (A : Around) (outer : List PySem.Env) (s : Shared) (H : Hp) (E : XK), Room k (A.deeper (envOfC qual (defScope st) s.heap.objs.size f cdv)) →
      PSsD (cxOf (L2.CX P w) P w K mg base N qual (defScope st) f cdv A outer s H E) (fun cls d _ H' => E cls d H') (defBody st) body) :
    FnOk P w K mg base (L2.CX P w) (k + 1) f fd ps (spD ⟨K, mg⟩ (fnD ps.length N.length keep body)) := by
  refine F.okX S (fun vs H Q E ⟨wl, ds, eH, hw, hr, hs⟩ => ?_) (fun cdv A outer s H vs Q E hr h => ⟨_, hbody cdv A outer s H E hr, ?_⟩)
  · unfold fnD at hs
    rw [hr.length]
    exact (satIf hs).1
  · obtain ⟨wl, ds, eH, hw, hrs, hs⟩ := h
    subst eH
    unfold fnD at hs
    obtain ⟨hl, hs⟩ := satIf hs
    have hvl : vs.length = ps.length := by rw [hrs.length]; exact hl
    have he : EnvOk K wl (ds.map some ++ List.replicate (N.length - ps.length) none) (L2.start N vs) := by
      unfold L2.start
      rw [hvl]
      refine ⟨by simp [hrs.length], fun i d e => ?_⟩
      by_cases hi : i < ds.length
      · rw [List.getElem?_append_left (by simpa using hi), List.getElem?_map] at e
        cases q : ds[i]? with
        | none => rw [q] at e; cases e
        | some d' =>
          rw [q] at e
          have ed : d' = d := by injection (Option.some.inj e)
          subst ed
          obtain ⟨v, ev, rv⟩ := hrs.get q
          refine ⟨v, ?_, rv⟩
          rw [List.getElem?_append_left (by rw [List.length_map]; exact (List.getElem?_eq_some_iff.mp ev).1), List.getElem?_map, ev]
          rfl
      · rw [List.getElem?_append_right (by simpa using hi)] at e
        have := (List.getElem?_eq_some_iff.mp e)
        obtain ⟨h1, h2⟩ := this
        rw [List.getElem_replicate] at h2
        cases h2
    refine ⟨wl, _, rfl, hw, he, ?_⟩
    cases o : body (ds.map some ++ List.replicate (N.length - ps.length) none) wl.S with
    | rt d S' => rw [o] at hs; exact fun w' v g e r => by subst e; exact fin_sat g r hs
    | nx e' S' => rw [o] at hs; exact fun w' σ' g e r => by subst e; exact fin_sat g rpn hs
    | bk e' S' => rw [o] at hs; exact hs.elim
    | ct e' S' => rw [o] at hs; exact hs.elim
    | exc x e' S' =>
      rw [o] at hs
      intro w' σ' cls dd g e he' q
      subst e
      replace hs : SatW ⟨K, mg⟩ (fun cls dd _ H' => E cls dd H') [] (RD K) wl (finX wl.S.length x w'.S) (fun w' _ v => Q v w'.H) := hs
      unfold finX at hs
      by_cases hk : w'.S.length = wl.S.length
      · rw [if_pos hk] at hs
        exact hs w' cls dd g rfl q
      rw [if_neg hk] at hs
      obtain ⟨hu, hs⟩ := satIf hs
      exact hs ⟨w'.r.take wl.S.length, w'.F, w'.S.take wl.S.length, w'.H⟩ cls dd (g.cut hu) rfl q
    | bad => rw [o] at hs; exact hs.elim
end
theorem fn_mk {P : Program} {w : World} {K : PySem.W.Frag} {mg : Str → Option Value} {base : Heap} {x qual : Str} {st : Stmt} {f : Addr} {fd : FuncData} {N ps : List Str} {k : Nat} {keep : Bool} {body : Env → Store → Out} {G : List D → M D} (F : Fun K x qual st f fd) (S : FnScope N ps (defScope st)) (hG : G = fnD ps.length N.length keep body)
    (hbody : ∀ (cdv : Value) (A : Around) (outer : List PySem.Env) (s : Shared) (H : Hp) (E : XK), Room k (A.deeper (envOfC qual (defScope st) s.heap.objs.size f cdv)) →
      PSsD (cxOf (L2.CX P w) P w K mg base N qual (defScope st) f cdv A outer s H E) (fun cls d _ H' => E cls d H') (defBody st) body) :
    FnOk P w K mg base (L2.CX P w) (k + 1) f fd ps (spD ⟨K, mg⟩ G) := by
  rw [hG]
  exact fn_ok F S hbody
section
variable {X : Cx} {W : WX} {e : Expr} {es : List Expr} {h : Env → M (List D)} {pos p : Pos} {x : Str} {k : Nat} {f : Addr} {fd : FuncData} {ps : List Str} {F : List D → M D}
theorem pd_call (G : FnOk X.prog X.w X.K X.mg X.base (L2.CX X.prog X.w) k f fd ps (spD (kt X) F)) (hr : Room k X.A) (hm : X.mg x = some (.ref f)) (hk : PySem.W.keepIn X.K (.ref f) = true) (hb : Binds X.K fd ps []) (tk : Takes X W) (ha : PAD X W (e :: es) h) (hg : Gl X x := by rfl)
    (hdb : (x == ("__debug__" : Str)) = false := by decide) (he : starEach (e :: es) X.env = (false, eval e X.env) :: starEach es X.env := by rfl) (hpl : (backTo pos (starEach es X.env)).any (·.1) = false := by rfl) :
    PD X W (.Call (.Name x p) (e :: es) [] pos) (xFn F h) := by
  refine weakE (pe_callS G hr hg hm hk hb (fun σ => passAt tk σ) ha hdb he hpl) fun σ H Q ⟨w, env, eH, hw, he, hs⟩ => ?_
  subst eH
  refine ⟨w, env, rfl, hw, he, SatW.imp (SatW.bind hs) fun w1 d v g1 r1 s1 => ?_⟩
  refine ⟨w1, d, rfl, g1.wd, r1, ?_⟩
  cases o : F d w1.S with
  | ok y S => rw [o] at s1; exact s1
  | exc y S => rw [o] at s1; exact s1
  | bad => rw [o] at s1; exact s1.elim
end
end Dv
/-! # Dv5: the operators -/
namespace Dv
noncomputable section
open PySem PySem.Spec PyProof.Rows L2

/-! ### ints -/
def divOk (i j : Int) : Prop := j ≠ 0 ∧ j.natAbs.log2 < 9000
instance (i j : Int) : Decidable (divOk i j) := inferInstanceAs (Decidable (_ ∧ _))
instance (i j : Int) : Decidable (IntMulOk i j) := inferInstanceAs (Decidable (¬ _))
def powOk (i j : Int) : Prop := 0 ≤ j ∧ j ≤ 1000000 ∧ i.natAbs < 2 ^ 64
instance (i j : Int) : Decidable (powOk i j) := inferInstanceAs (Decidable (_ ∧ _))
section
variable {X : Cx}
theorem op_fdivX : OpR X (binaryOp .FloorDiv) (rI divOk fun i j => .int (i.fdiv j)) := opI fun i j _ _ _ _ _ hc q => floordiv_int hc.1 q (.inl (PyProof.noPylong_of_log2 hc.2))
theorem op_mulX : OpR X (binaryOp .Mult) (rI IntMulOk fun i j => .int (i * j)) := opI fun _ _ _ _ _ _ _ hc q => mul_int q hc
end

/-! ### two numbers, by a table -/
def iOp (c : Int → Int → Prop) [∀ i j, Decidable (c i j)] (g : Int → Int → D) (x y : D) (S : Store) : Res D := match x, y with
  | .int i, .int j => if c i j then .ok (g i j) S else .bad
  | _, _ => .bad
def always : Int → Int → Prop := fun _ _ => True
instance (i j : Int) : Decidable (always i j) := inferInstanceAs (Decidable True)
@[simp] theorem iOp_ok {c : Int → Int → Prop} [∀ i j, Decidable (c i j)] {g : Int → Int → D} {i j : Int} {S : Store} : iOp c g (.int i) (.int j) S = if c i j then .ok (g i j) S else .bad := rfl
section
variable {X : Cx}
theorem iOp_sat {T : Kt} {W : WX} {σ : L2.St} {c : Int → Int → Prop} [∀ i j, Decidable (c i j)] {g : Int → Int → D} {gv : Int → Int → V} (hg : ∀ K r F i j, Rp K r F (g i j) (gv i j)) {w : Wl} {x y : V} {d e : D} {Q : VK} (hw : Wd T.K w) (r1 : RD T.K w d x) (r2 : RD T.K w e y)
    (hs : SatW T W σ (RD T.K) w (iOp c g d e w.S) (fun w' _ v => Q v w'.H)) : ∃ i j, x = .int i ∧ y = .int j ∧ c i j ∧ Q (gv i j) w.H := by
  unfold iOp at hs
  split at hs
  · rename_i i j
    obtain ⟨hc, hs⟩ := satIf hs
    exact ⟨i, j, rp_int r1, rp_int r2, hc, SatW.here hs hw (hg _ _ _ i j)⟩
  · exact hs.elim
theorem opI_d {fn : Value → Value → Sem Value} {c : Int → Int → Prop} [∀ i j, Decidable (c i j)] {g : Int → Int → D} {gv : Int → Int → V} (hg : ∀ K r F i j, Rp K r F (g i j) (gv i j)) (ho : OpR X fn (rI c gv)) : OpD X fn (iOp c g) :=
  ⟨_, ho, fun w x y d e W σ Q hw r1 r2 hs => iOp_sat hg hw r1 r2 hs⟩
theorem opI0_d {fn : Value → Value → Sem Value} {g : Int → Int → D} {gv : Int → Int → V} (hg : ∀ K r F i j, Rp K r F (g i j) (gv i j)) (ho : OpR X fn (rI0 gv)) : OpD X fn (iOp always g) :=
  ⟨_, ho, fun w x y d e W σ Q hw r1 r2 hs => by
    obtain ⟨i, j, h1, h2, _, q⟩ := iOp_sat hg hw r1 r2 hs
    exact ⟨i, j, h1, h2, q⟩⟩
def dSub := iOp always fun i j => .int (i - j)
def dFdiv := iOp divOk fun i j => .int (i.fdiv j)
def dMod := iOp (fun _ j => j ≠ 0) fun i j => .int (i.fmod j)
def dPow := iOp powOk fun i j => .int (i ^ j.toNat)
def dLt := iOp always fun i j => .bl (decide (i < j))
def dLe := iOp always fun i j => .bl (decide (i ≤ j))
def dGt := iOp always fun i j => .bl (decide (j < i))
def dGe := iOp always fun i j => .bl (decide (j ≤ i))
theorem od_sub : OpD X (binaryOp .Sub) dSub := opI0_d (fun _ _ _ _ _ => rpi) op_sub
theorem od_fdiv : OpD X (binaryOp .FloorDiv) dFdiv := opI_d (fun _ _ _ _ _ => rpi) op_fdivX
theorem od_mod : OpD X (binaryOp .Mod) dMod := opI_d (fun _ _ _ _ _ => rpi) op_modN
theorem od_pow : OpD X (binaryOp .Pow) dPow := opI_d (fun _ _ _ _ _ => rpi) op_pow
theorem od_lt : OpD X (compareOp .Lt) dLt := opI0_d (fun _ _ _ _ _ => rpb) op_lt
theorem od_le : OpD X (compareOp .LtE) dLe := opI0_d (fun _ _ _ _ _ => rpb) op_le
theorem od_gt : OpD X (compareOp .Gt) dGt := opI0_d (fun _ _ _ _ _ => rpb) op_gt
theorem od_ge : OpD X (compareOp .GtE) dGe := opI0_d (fun _ _ _ _ _ => rpb) op_ge
end
@[simp] theorem dSub_ok {i j : Int} {S : Store} : dSub (.int i) (.int j) S = .ok (.int (i - j)) S := rfl
@[simp] theorem dFdiv_ok {i j : Int} {S : Store} : dFdiv (.int i) (.int j) S = if divOk i j then .ok (.int (i.fdiv j)) S else .bad := rfl
@[simp] theorem dMod_ok {i j : Int} {S : Store} : dMod (.int i) (.int j) S = if j ≠ 0 then .ok (.int (i.fmod j)) S else .bad := rfl
@[simp] theorem dPow_ok {i j : Int} {S : Store} : dPow (.int i) (.int j) S = if powOk i j then .ok (.int (i ^ j.toNat)) S else .bad := rfl
@[simp] theorem dLt_ok {i j : Int} {S : Store} : dLt (.int i) (.int j) S = .ok (.bl (decide (i < j))) S := rfl
@[simp] theorem dLe_ok {i j : Int} {S : Store} : dLe (.int i) (.int j) S = .ok (.bl (decide (i ≤ j))) S := rfl
@[simp] theorem dGt_ok {i j : Int} {S : Store} : dGt (.int i) (.int j) S = .ok (.bl (decide (j < i))) S := rfl
@[simp] theorem dGe_ok {i j : Int} {S : Store} : dGe (.int i) (.int j) S = .ok (.bl (decide (j ≤ i))) S := rfl

/-! ### + and * : ints, lists, tuples, texts -/
def dAdd (mk : List D → M D) (x y : D) (S : Store) : Res D := match x, y with
  | .int i, .int j => .ok (.int (i + j)) S
  | .int i, .bl b => .ok (.int (i + b2i b)) S
  | .str a, .str b => if a.length + b.length ≤ 16000000 then .ok (.str (a ++ b)) S else .bad
  | .tup a, .tup b => if a ≠ [] ∧ b ≠ [] ∧ a.length + b.length ≤ 16000000 then .ok (.tup (a ++ b)) S else .bad
  | x, y => match getL x S, getL y S with
    | some a, some b => if a.length + b.length ≤ 16000000 then mk (a ++ b) S else .bad
    | _, _ => .bad
def dMul (mk : List D → M D) (x y : D) (S : Store) : Res D := match x, y with
  | .int i, .int j => if IntMulOk i j then .ok (.int (i * j)) S else .bad
  | .lst l, .int k => if rng62 k ∧ l.length * k.toNat ≤ 16000000 then mk (List.replicate k.toNat l).flatten S else .bad
  | _, _ => .bad
section
variable {X : Cx}
theorem Rps.ne_nil {K : PySem.W.Frag} {r : List Addr} {F : Hp} {l : List D} {vs : List V} (h : Rps K r F l vs) (hl : l ≠ []) : vs ≠ [] := fun z => by
  subst z
  have := h.length
  cases l with
  | nil => exact hl rfl
  | cons _ _ => cases this
theorem od_add {mk : List D → M D} (m : Mk mk) : OpD X (binaryOp .Add) (dAdd mk) := by
  refine ⟨_, (op_add.or (op_add_ib.or (op_add_str.or ((op_catT).or op_cat)))), fun w x y d e W σ Q hw r1 r2 hs => ?_⟩
  have lists : ∀ {a b : List D}, getL d w.S = some a → getL e w.S = some b → SatW (kt X) W σ (RD X.K) w (if a.length + b.length ≤ 16000000 then mk (a ++ b) w.S else .bad) (fun w' _ v => Q v w'.H) → rCat x y w.H Q := fun {a b} ha hb hs => by
    obtain ⟨hl, hs⟩ := satIf hs
    obtain ⟨p, vs, e1, q1, t1⟩ := getL_ok hw r1 ha
    obtain ⟨p', vs', e2, q2, t2⟩ := getL_ok hw r2 hb
    exact ⟨p, p', vs, vs', e1, e2, q1, q2, by rw [t1.length, t2.length]; exact line16 hl, m.go hw (t1.append t2) hs⟩
  have gen : ∀ {o1 o2 : Option (List D)}, getL d w.S = o1 → getL e w.S = o2 → SatW (kt X) W σ (RD X.K) w (match o1, o2 with | some a, some b => if a.length + b.length ≤ 16000000 then mk (a ++ b) w.S else .bad | _, _ => .bad) (fun w' _ v => Q v w'.H) → rCat x y w.H Q := fun {o1 o2} h1 h2 hs => by
    cases o1 with
    | none => exact hs.elim
    | some a =>
      cases o2 with
      | none => exact hs.elim
      | some b => exact lists h1 h2 hs
  unfold dAdd at hs
  split at hs
  · rename_i i j
    exact .inl ⟨i, j, rp_int r1, rp_int r2, SatW.here hs hw rpi⟩
  · rename_i i b
    exact .inr (.inl ⟨i, b, rp_int r1, rp_bl r2, SatW.here hs hw rpi⟩)
  · rename_i a b
    obtain ⟨hl, hs⟩ := satIf hs
    exact .inr (.inr (.inl ⟨a, b, rp_str r1, rp_str r2, line16 hl, SatW.here hs hw rps⟩))
  · rename_i a b
    obtain ⟨hl, hs⟩ := satIf hs
    obtain ⟨p, vs, e1, q1, t1⟩ := getT_ok hw r1 rfl
    obtain ⟨p', vs', e2, q2, t2⟩ := getT_ok hw r2 rfl
    exact .inr (.inr (.inr (.inl ⟨p, p', vs, vs', e1, e2, .inl q1, .inl q2, t1.ne_nil hl.1, by rw [t1.length, t2.length]; exact line16 hl.2.2, fun z => (t2.ne_nil hl.2.1 z).elim, fun _ => tup_go hw (t1.append t2) hs⟩)))
  · exact .inr (.inr (.inr (.inr (gen rfl rfl hs))))
theorem od_mul {mk : List D → M D} (m : Mk mk) : OpD X (binaryOp .Mult) (dMul mk) := by
  refine ⟨_, (op_mulX.or op_rep), fun w x y d e W σ Q hw r1 r2 hs => ?_⟩
  unfold dMul at hs
  split at hs
  · rename_i i j
    obtain ⟨hc, hs⟩ := satIf hs
    exact .inl ⟨i, j, rp_int r1, rp_int r2, hc, SatW.here hs hw rpi⟩
  · rename_i l k
    obtain ⟨hl, hs⟩ := satIf hs
    obtain ⟨p, vs, e1, q1, t1⟩ := getL_ok hw r1 rfl
    have b1 := hl.1.1
    have b2 := hl.1.2
    exact .inr ⟨p, k, vs, e1, rp_int r2, q1, by omega, by omega, by rw [t1.length]; exact line16 hl.2, m.go hw (t1.rep k.toNat) hs⟩
  · exact hs.elim
end
@[simp] theorem dAdd_int {mk : List D → M D} {i j : Int} {S : Store} : dAdd mk (.int i) (.int j) S = .ok (.int (i + j)) S := rfl
@[simp] theorem dAdd_ib {mk : List D → M D} {i : Int} {b : Bool} {S : Store} : dAdd mk (.int i) (.bl b) S = .ok (.int (i + b2i b)) S := rfl
@[simp] theorem dAdd_str {mk : List D → M D} {a b : Str} {S : Store} : dAdd mk (.str a) (.str b) S = if a.length + b.length ≤ 16000000 then .ok (.str (a ++ b)) S else .bad := rfl
@[simp] theorem dAdd_lst {mk : List D → M D} {a b : List D} {S : Store} : dAdd mk (.lst a) (.lst b) S = if a.length + b.length ≤ 16000000 then mk (a ++ b) S else .bad := rfl
@[simp] theorem dMul_int {mk : List D → M D} {i j : Int} {S : Store} : dMul mk (.int i) (.int j) S = if IntMulOk i j then .ok (.int (i * j)) S else .bad := rfl
@[simp] theorem dMul_lst {mk : List D → M D} {l : List D} {k : Int} {S : Store} : dMul mk (.lst l) (.int k) S = if rng62 k ∧ l.length * k.toNat ≤ 16000000 then mk (List.replicate k.toNat l).flatten S else .bad := rfl

/-! ### one number -/
def dNeg (d : D) (S : Store) : Res D := match d with
  | .int i => .ok (.int (-i)) S
  | _ => .bad
section
variable {X : Cx}
theorem ud_neg : UnD X (unaryOp .USub) dNeg := ⟨_, un_neg, fun w x d W σ Q hw r hs => by
  cases d with
  | int i => exact ⟨i, rp_int r, SatW.here hs hw rpi⟩
  | _ => exact hs.elim⟩
end
@[simp] theorem dNeg_ok {i : Int} {S : Store} : dNeg (.int i) S = .ok (.int (-i)) S := rfl

/-! ### == and != -/
mutual
def toP (S : Store) : Nat → D → Option PyData
  | _, .non => some .none
  | _, .bl b => some (.bool b)
  | _, .int i => some (.int i)
  | _, .str x => if PySem.PyData.canLay0 (.str x) then some (.str x) else none
  | 0, _ => none
  | n + 1, .tup l => (toPs S n l).map .tuple
  | n + 1, .lst l => (toPs S n l).map .list
  | n + 1, .scr l => (toPs S n l).map .list
  | n + 1, .cell c => match S[c]? with
    | some (.lst l) => (toPs S n l).map .list
    | _ => none
  | _ + 1, .raw _ => none
  | _ + 1, .cls _ => none
  | _ + 1, .exn _ _ => none
def toPs (S : Store) : Nat → List D → Option (List PyData)
  | _, [] => some []
  | n, d :: l => match toP S n d, toPs S n l with
    | some x, some y => some (x :: y)
    | _, _ => none
end
mutual
theorem toP_ok {S : Store} : ∀ (n : Nat) (d : D) (p : PyData), toP S n d = some p → p.canLay0 = true ∧ p.depth ≤ n
  | n, .non, p, h => by rw [toP] at h; cases h; exact ⟨rfl, Nat.zero_le _⟩
  | n, .bl b, p, h => by rw [toP] at h; cases h; exact ⟨rfl, Nat.zero_le _⟩
  | n, .int b, p, h => by rw [toP] at h; cases h; exact ⟨rfl, Nat.zero_le _⟩
  | n, .str x, p, h => by
    rw [toP] at h
    by_cases hc : PySem.PyData.canLay0 (.str x) = true
    · rw [if_pos hc] at h; cases h; exact ⟨hc, Nat.zero_le _⟩
    · rw [if_neg hc] at h; cases h
  | 0, .tup l, p, h => by rw [toP] at h <;> first | cases h | simp
  | 0, .lst l, p, h => by rw [toP] at h <;> first | cases h | simp
  | 0, .scr l, p, h => by rw [toP] at h <;> first | cases h | simp
  | 0, .cell l, p, h => by rw [toP] at h <;> first | cases h | simp
  | 0, .raw l, p, h => by rw [toP] at h <;> first | cases h | simp
  | n + 1, .raw l, p, h => by rw [toP] at h; cases h
  | 0, .cls l, p, h => by rw [toP] at h <;> first | cases h | simp
  | n + 1, .cls l, p, h => by rw [toP] at h; cases h
  | 0, .exn l _, p, h => by rw [toP] at h <;> first | cases h | simp
  | n + 1, .exn l _, p, h => by rw [toP] at h; cases h
  | n + 1, .tup l, p, h => by
    rw [toP] at h
    cases q : toPs S n l with
    | none => rw [q] at h; cases h
    | some ps =>
      rw [q] at h
      cases h
      obtain ⟨h1, h2⟩ := toPs_ok n l ps q
      exact ⟨h1, Nat.succ_le_succ h2⟩
  | n + 1, .lst l, p, h => by
    rw [toP] at h
    cases q : toPs S n l with
    | none => rw [q] at h; cases h
    | some ps =>
      rw [q] at h
      cases h
      obtain ⟨h1, h2⟩ := toPs_ok n l ps q
      exact ⟨h1, Nat.succ_le_succ h2⟩
  | n + 1, .scr l, p, h => by
    rw [toP] at h
    cases q : toPs S n l with
    | none => rw [q] at h; cases h
    | some ps =>
      rw [q] at h
      cases h
      obtain ⟨h1, h2⟩ := toPs_ok n l ps q
      exact ⟨h1, Nat.succ_le_succ h2⟩
  | n + 1, .cell c, p, h => by
    rw [toP] at h
    split at h
    · rename_i l e
      cases q : toPs S n l with
      | none => rw [q] at h; cases h
      | some ps =>
        rw [q] at h
        cases h
        obtain ⟨h1, h2⟩ := toPs_ok n l ps q
        exact ⟨h1, Nat.succ_le_succ h2⟩
    · cases h
theorem toPs_ok {S : Store} : ∀ (n : Nat) (l : List D) (p : List PyData), toPs S n l = some p → PyData.canLayAll0 p = true ∧ PyData.depthAll p ≤ n
  | n, [], p, h => by rw [toPs] at h; cases h; exact ⟨rfl, Nat.zero_le _⟩
  | n, d :: l, p, h => by
    rw [toPs] at h
    cases q1 : toP S n d with
    | none => rw [q1] at h; cases h
    | some x =>
      cases q2 : toPs S n l with
      | none => rw [q1, q2] at h; cases h
      | some y =>
        rw [q1, q2] at h
        cases h
        obtain ⟨h1, h2⟩ := toP_ok n d x q1
        obtain ⟨h3, h4⟩ := toPs_ok n l y q2
        refine ⟨?_, ?_⟩
        · rw [PyData.canLayAll0, h1, h3]; rfl
        · rw [PyData.depthAll]; omega
end
mutual
theorem toP_dp {K : PySem.W.Frag} {w : Wl} (hw : Wd K w) : ∀ (n : Nat) (d : D) (v : V) (p : PyData), toP w.S n d = some p → Rp K w.r w.F d v → Dp K w.H v p
  | n, .non, v, p, h, r => by rw [toP] at h; cases h; cases rp_non r; exact .non
  | n, .bl b, v, p, h, r => by rw [toP] at h; cases h; cases rp_bl r; exact .bl b
  | n, .int b, v, p, h, r => by rw [toP] at h; cases h; cases rp_int r; exact .int b
  | n, .str x, v, p, h, r => by
    rw [toP] at h
    by_cases hc : PySem.PyData.canLay0 (.str x) = true
    · rw [if_pos hc] at h; cases h; cases rp_str r; exact .str x
    · rw [if_neg hc] at h; cases h
  | 0, .tup l, v, p, h, r => by rw [toP] at h <;> first | cases h | simp
  | 0, .lst l, v, p, h, r => by rw [toP] at h <;> first | cases h | simp
  | 0, .scr l, v, p, h, r => by rw [toP] at h <;> first | cases h | simp
  | 0, .cell l, v, p, h, r => by rw [toP] at h <;> first | cases h | simp
  | 0, .raw l, v, p, h, r => by rw [toP] at h <;> first | cases h | simp
  | n + 1, .raw l, v, p, h, r => by rw [toP] at h; cases h
  | 0, .cls l, v, p, h, r => by rw [toP] at h <;> first | cases h | simp
  | n + 1, .cls l, v, p, h, r => by rw [toP] at h; cases h
  | 0, .exn l _, v, p, h, r => by rw [toP] at h <;> first | cases h | simp
  | n + 1, .exn l _, v, p, h, r => by rw [toP] at h; cases h
  | n + 1, .tup l, v, p, h, r => by
    rw [toP] at h
    cases q : toPs w.S n l with
    | none => rw [q] at h; cases h
    | some ps =>
      rw [q] at h
      cases h
      obtain ⟨a, vs, rfl, hr, t⟩ := getT_ok hw r rfl
      exact .tup (.inl hr) (toPs_dp hw n l vs ps q t)
  | n + 1, .lst l, v, p, h, r => by
    rw [toP] at h
    cases q : toPs w.S n l with
    | none => rw [q] at h; cases h
    | some ps =>
      rw [q] at h
      cases h
      obtain ⟨a, vs, rfl, hr, t⟩ := getL_ok hw r rfl
      exact .lst (.inl (.inl hr)) (toPs_dp hw n l vs ps q t)
  | n + 1, .scr l, v, p, h, r => by
    rw [toP] at h
    cases q : toPs w.S n l with
    | none => rw [q] at h; cases h
    | some ps =>
      rw [q] at h
      cases h
      obtain ⟨a, vs, rfl, hr, t⟩ := getQ_ok hw r rfl
      exact .lst hr (toPs_dp hw n l vs ps q t)
  | n + 1, .cell c, v, p, h, r => by
    rw [toP] at h
    split at h
    · rename_i l e
      cases q : toPs w.S n l with
      | none => rw [q] at h; cases h
      | some ps =>
        rw [q] at h
        cases h
        obtain ⟨a, vs, rfl, hr, t⟩ := getL_ok (l := l) hw r (by simp only [getL, e])
        exact .lst (.inl (.inl hr)) (toPs_dp hw n l vs ps q t)
    · cases h
theorem toPs_dp {K : PySem.W.Frag} {w : Wl} (hw : Wd K w) : ∀ (n : Nat) (l : List D) (vs : List V) (p : List PyData), toPs w.S n l = some p → Rps K w.r w.F l vs → DpAll K w.H vs p
  | n, [], vs, p, h, r => by rw [toPs] at h; cases h; rw [r.nil_inv]; exact .nil
  | n, d :: l, vs, p, h, r => by
    rw [toPs] at h
    cases q1 : toP w.S n d with
    | none => rw [q1] at h; cases h
    | some x =>
      cases q2 : toPs w.S n l with
      | none => rw [q1, q2] at h; cases h
      | some y =>
        rw [q1, q2] at h
        cases h
        obtain ⟨v, t, rfl, r1, r2⟩ := r.cons_inv
        exact .cons (toP_dp hw n d v x q1 r1) (toPs_dp hw n l t y q2 r2)
end
def dEq (a b : D) (S : Store) : Res D := match toP S 60 a, toP S 60 b with
  | some x, some y => .ok (.bl (PyData.eqv x y)) S
  | _, _ => .bad
def dNe (a b : D) (S : Store) : Res D := match toP S 60 a, toP S 60 b with
  | some x, some y => .ok (.bl (!PyData.eqv x y)) S
  | _, _ => .bad
theorem shaped_of {S : Store} {d : D} {p : PyData} (h : toP S 60 d = some p) : SeqAt.shaped p = true := by
  obtain ⟨h1, h2⟩ := toP_ok 60 d p h
  unfold SeqAt.shaped
  rw [h1, decide_eq_true (by omega)]
  rfl
section
variable {X : Cx}
theorem od_eq (hu : X.A.units + 64 < cLine) : OpD X (compareOp .Eq) dEq := ⟨_, op_eqD hu, fun w x y d e W σ Q hw r1 r2 hs => by
  unfold dEq at hs
  split at hs
  · rename_i p q h1 h2
    exact ⟨p, q, toP_dp hw 60 d x p h1 r1, toP_dp hw 60 e y q h2 r2, shaped_of h1, shaped_of h2, SatW.here hs hw rpb⟩
  · exact hs.elim⟩
theorem od_ne (hu : X.A.units + 64 < cLine) : OpD X (compareOp .NotEq) dNe := ⟨_, op_neD hu, fun w x y d e W σ Q hw r1 r2 hs => by
  unfold dNe at hs
  split at hs
  · rename_i p q h1 h2
    exact ⟨p, q, toP_dp hw 60 d x p h1 r1, toP_dp hw 60 e y q h2 r2, shaped_of h1, shaped_of h2, SatW.here hs hw rpb⟩
  · exact hs.elim⟩
end
@[simp] theorem dEq_int {i j : Int} {S : Store} : dEq (.int i) (.int j) S = .ok (.bl (decide (i = j))) S := by
  simp only [dEq, toP, PyData.eqv]
  rfl
@[simp] theorem dNe_int {i j : Int} {S : Store} : dNe (.int i) (.int j) S = .ok (.bl (!decide (i = j))) S := by
  simp only [dNe, toP, PyData.eqv]
  rfl
theorem dEq_of {a b : D} {S : Store} {p q : PyData} (h1 : toP S 60 a = some p) (h2 : toP S 60 b = some q) : dEq a b S = .ok (.bl (PyData.eqv p q)) S := by
  simp only [dEq, h1, h2]
theorem dNe_of {a b : D} {S : Store} {p q : PyData} (h1 : toP S 60 a = some p) (h2 : toP S 60 b = some q) : dNe a b S = .ok (.bl (!PyData.eqv p q)) S := by
  simp only [dNe, h1, h2]
theorem dEq_self {a : D} {S : Store} {p : PyData} (h1 : toP S 60 a = some p) : dEq a a S = .ok (.bl true) S := by
  rw [dEq_of h1 h1, SeqAt.eqv_refl p (toP_ok 60 a p h1).1]
theorem dNe_self {a : D} {S : Store} {p : PyData} (h1 : toP S 60 a = some p) : dNe a a S = .ok (.bl false) S := by
  rw [dNe_of h1 h1, SeqAt.eqv_refl p (toP_ok 60 a p h1).1]
  rfl

/-! ### is None -/
def dIsN (a b : D) (S : Store) : Res D := match b with
  | .non => match a with
    | .non => .ok (.bl true) S
    | .raw _ => .bad
    | _ => .ok (.bl false) S
  | _ => .bad
def dIsNotN (a b : D) (S : Store) : Res D := match b with
  | .non => match a with
    | .non => .ok (.bl false) S
    | .raw _ => .bad
    | _ => .ok (.bl true) S
  | _ => .bad
theorem rp_isnon {K : PySem.W.Frag} {r : List Addr} {F : Hp} {d : D} {v : V} (h : Rp K r F d v) (hd : ∀ x, d ≠ .raw x) : decide (v = .non) = (match d with | .non => true | _ => false) := by
  cases d with
  | non => cases rp_non h; rfl
  | bl b => cases rp_bl h; rfl
  | int b => cases rp_int h; rfl
  | str b => cases rp_str h; rfl
  | tup l => unfold Rp at h; obtain ⟨a, vs, rfl, _⟩ := h; rfl
  | lst l => unfold Rp at h; obtain ⟨a, vs, rfl, _⟩ := h; rfl
  | scr l => unfold Rp at h; obtain ⟨a, vs, rfl, _⟩ := h; rfl
  | cell n => unfold Rp at h; obtain ⟨a, _, rfl⟩ := h; rfl
  | cls n => unfold Rp at h; obtain ⟨a, _, rfl⟩ := h; rfl
  | exn n f => unfold Rp at h; obtain ⟨a, _, _, rfl, _⟩ := h; rfl
  | raw x => exact (hd x rfl).elim
section
variable {X : Cx}
theorem od_isN : OpD X (compareOp .Is) dIsN := ⟨_, op_isN, fun w x y d e W σ Q hw r1 r2 hs => by
  cases e with
  | non =>
    refine ⟨rp_non r2, ?_⟩
    have q := rp_isnon (show Rp X.K w.r w.F d x from r1)
    cases d with
    | raw z => exact hs.elim
    | non => rw [q (by simp)]; exact SatW.here hs hw rpb
    | bl z => rw [q (by simp)]; exact SatW.here hs hw rpb
    | int z => rw [q (by simp)]; exact SatW.here hs hw rpb
    | str z => rw [q (by simp)]; exact SatW.here hs hw rpb
    | tup z => rw [q (by simp)]; exact SatW.here hs hw rpb
    | lst z => rw [q (by simp)]; exact SatW.here hs hw rpb
    | scr z => rw [q (by simp)]; exact SatW.here hs hw rpb
    | cell z => rw [q (by simp)]; exact SatW.here hs hw rpb
    | cls z => rw [q (by simp)]; exact SatW.here hs hw rpb
    | exn z f => rw [q (by simp)]; exact SatW.here hs hw rpb
  | _ => exact hs.elim⟩
theorem od_isNotN : OpD X (compareOp .IsNot) dIsNotN := ⟨_, op_notN, fun w x y d e W σ Q hw r1 r2 hs => by
  cases e with
  | non =>
    refine ⟨rp_non r2, ?_⟩
    have q := rp_isnon (show Rp X.K w.r w.F d x from r1)
    cases d with
    | raw z => exact hs.elim
    | non => rw [q (by simp)]; exact SatW.here hs hw rpb
    | bl z => rw [q (by simp)]; exact SatW.here hs hw rpb
    | int z => rw [q (by simp)]; exact SatW.here hs hw rpb
    | str z => rw [q (by simp)]; exact SatW.here hs hw rpb
    | tup z => rw [q (by simp)]; exact SatW.here hs hw rpb
    | lst z => rw [q (by simp)]; exact SatW.here hs hw rpb
    | scr z => rw [q (by simp)]; exact SatW.here hs hw rpb
    | cell z => rw [q (by simp)]; exact SatW.here hs hw rpb
    | cls z => rw [q (by simp)]; exact SatW.here hs hw rpb
    | exn z f => rw [q (by simp)]; exact SatW.here hs hw rpb
  | _ => exact hs.elim⟩
end

/-! ### an item -/
def dIx (x y : D) (S : Store) : Res D := match y with
  | .int i => match x with
    | .tup l => match atI l i with
      | some d => .ok d S
      | none => .bad
    | .str z => if z.length ≤ 16000000 then match atI z.cps.toList i with
        | some c => .ok (.str ⟨#[c]⟩) S
        | none => .bad
      else .bad
    | x => match getQ x S with
      | some l => match atI l i with
        | some d => .ok d S
        | none => .bad
      | none => .bad
  | _ => .bad
theorem Rps.atI {K : PySem.W.Frag} {r : List Addr} {F : Hp} {l : List D} {vs : List V} {i : Int} {d : D} (h : Rps K r F l vs) (e : L2.atI l i = some d) : ∃ v, L2.atI vs i = some v ∧ Rp K r F d v := by
  unfold L2.atI at e ⊢
  rw [h.length]
  cases q : ixN l.length i with
  | none => rw [q] at e; cases e
  | some j =>
    rw [q] at e
    exact h.get (i := j) e
section
variable {X : Cx}
theorem ixd : IxD X dIx := ⟨_, ix_seq, fun w x y d e W σ Q hw r1 r2 hs => by
  have gen : ∀ {o : Option (List D)} {i : Int}, getQ d w.S = o → e = .int i → SatW (kt X) W σ (RD X.K) w (match o with | some l => (match L2.atI l i with | some d => (.ok d w.S : Res D) | none => .bad) | none => .bad) (fun w' _ v => Q v w'.H) → rIxL X.K x y w.H Q := fun {o i} h1 h2 hq => by
    cases o with
    | none => exact hq.elim
    | some l =>
      cases q : L2.atI l i with
      | none => simp only [q] at hq; exact hq.elim
      | some z =>
        simp only [q] at hq
        obtain ⟨p, vs, e1, q1, t1⟩ := getQ_ok hw r1 h1
        obtain ⟨v, ev, rv⟩ := t1.atI q
        subst h2
        exact ⟨p, vs, i, v, e1, rp_int r2, q1, ev, SatW.here hq hw rv⟩
  unfold dIx at hs
  split at hs
  · rename_i i
    split at hs
    · rename_i l
      cases q : L2.atI l i with
      | none => simp only [q] at hs; exact hs.elim
      | some z =>
        simp only [q] at hs
        obtain ⟨p, vs, e1, q1, t1⟩ := getT_ok hw r1 rfl
        obtain ⟨v, ev, rv⟩ := t1.atI q
        exact .inr (.inl ⟨p, vs, i, v, e1, rp_int r2, .inl q1, ev, SatW.here hs hw rv⟩)
    · rename_i z
      obtain ⟨hl, hs⟩ := satIf hs
      cases q : L2.atI z.cps.toList i with
      | none => simp only [q] at hs; exact hs.elim
      | some c =>
        simp only [q] at hs
        exact .inr (.inr ⟨z, i, c, rp_str r1, rp_int r2, line16 hl, q, SatW.here hs hw rps⟩)
    · exact .inl (gen rfl rfl hs)
  · exact hs.elim⟩
end
@[simp] theorem dIx_tup {l : List D} {i : Int} {S : Store} : dIx (.tup l) (.int i) S = match L2.atI l i with | some d => .ok d S | none => .bad := rfl
@[simp] theorem dIx_lst {l : List D} {i : Int} {S : Store} : dIx (.lst l) (.int i) S = match L2.atI l i with | some d => .ok d S | none => .bad := rfl

/-! ### built-in functions -/
def bAbs (l : List D) (S : Store) : Res D := match l with
  | [.int i] => .ok (.int (if i < 0 then -i else i)) S
  | _ => .bad
def bLen (l : List D) (S : Store) : Res D := match l with
  | [.str z] => if z.length ≤ 16000000 then .ok (.int z.length) S else .bad
  | [.tup l] => .ok (.int l.length) S
  | [x] => match getQ x S with
    | some l => .ok (.int l.length) S
    | none => .bad
  | _ => .bad
def intsOf : List D → Option (List Int)
  | [] => some []
  | .int i :: l => (intsOf l).map (i :: ·)
  | _ :: _ => none
def bSum (l : List D) (S : Store) : Res D := match l with
  | [x] => match (getQ x S).bind intsOf with
    | some ns => .ok (.int ns.sum) S
    | none => .bad
  | _ => .bad
def maxL : List Int → Int
  | [] => 0
  | [x] => x
  | x :: y :: l => max x (maxL (y :: l))
def minL : List Int → Int
  | [] => 0
  | [x] => x
  | x :: y :: l => min x (minL (y :: l))
def bMax (l : List D) (S : Store) : Res D := match l with
  | [.int i, .int j] => .ok (.int (if j > i then j else i)) S
  | [x] => match (getQ x S).bind intsOf with
    | some (n :: ns) => .ok (.int (maxL (n :: ns))) S
    | _ => .bad
  | _ => .bad
def bMin (l : List D) (S : Store) : Res D := match l with
  | [.int i, .int j] => .ok (.int (if j < i then j else i)) S
  | [x] => match (getQ x S).bind intsOf with
    | some (n :: ns) => .ok (.int (minL (n :: ns))) S
    | _ => .bad
  | _ => .bad
def bInt (l : List D) (S : Store) : Res D := match l with
  | [.int i] => .ok (.int i) S
  | [.bl b] => .ok (.int (if b then 1 else 0)) S
  | _ => .bad
def bList (mk : List D → M D) (l : List D) (S : Store) : Res D := match l with
  | [.tup l] => mk l S
  | [x] => match getQ x S with
    | some l => mk l S
    | none => .bad
  | _ => .bad
def bTuple (l : List D) (S : Store) : Res D := match l with
  | [.tup l] => .ok (.tup l) S
  | [x] => match getQ x S with
    | some l => .ok (.tup l) S
    | none => .bad
  | _ => .bad
theorem maxL_mem : ∀ {l : List Int}, l ≠ [] → maxL l ∈ l
  | [], h => (h rfl).elim
  | [x], _ => by simp [maxL]
  | x :: y :: l, _ => by
    have ih := maxL_mem (l := y :: l) (by simp)
    unfold maxL
    rcases Int.le_total x (maxL (y :: l)) with h | h
    · rw [Int.max_eq_right h]; exact List.mem_cons_of_mem _ ih
    · rw [Int.max_eq_left h]; exact List.mem_cons_self
theorem maxL_ge : ∀ {l : List Int} {y : Int}, y ∈ l → y ≤ maxL l
  | [], y, h => by simp at h
  | [x], y, h => by
    have : y = x := by simpa using h
    subst this; exact Int.le_refl _
  | x :: z :: l, y, h => by
    unfold maxL
    rcases List.mem_cons.mp h with e | h
    · subst e; exact Int.le_max_left _ _
    · exact Int.le_trans (maxL_ge h) (Int.le_max_right _ _)
theorem minL_mem : ∀ {l : List Int}, l ≠ [] → minL l ∈ l
  | [], h => (h rfl).elim
  | [x], _ => by simp [minL]
  | x :: y :: l, _ => by
    have ih := minL_mem (l := y :: l) (by simp)
    unfold minL
    rcases Int.le_total x (minL (y :: l)) with h | h
    · rw [Int.min_eq_left h]; exact List.mem_cons_self
    · rw [Int.min_eq_right h]; exact List.mem_cons_of_mem _ ih
theorem minL_le : ∀ {l : List Int} {y : Int}, y ∈ l → minL l ≤ y
  | [], y, h => by simp at h
  | [x], y, h => by
    have : y = x := by simpa using h
    subst this; exact Int.le_refl _
  | x :: z :: l, y, h => by
    unfold minL
    rcases List.mem_cons.mp h with e | h
    · subst e; exact Int.min_le_left _ _
    · exact Int.le_trans (Int.min_le_right _ _) (minL_le h)
theorem intsOf_eq : ∀ {l : List D} {ns : List Int}, intsOf l = some ns → l = ns.map D.int
  | [], ns, h => by cases h; rfl
  | .int i :: l, ns, h => by
    rw [intsOf] at h
    cases q : intsOf l with
    | none => rw [q] at h; cases h
    | some ms =>
      rw [q] at h
      cases h
      rw [intsOf_eq q]
      rfl
  | .non :: l, ns, h => by cases h
  | .bl _ :: l, ns, h => by cases h
  | .str _ :: l, ns, h => by cases h
  | .tup _ :: l, ns, h => by cases h
  | .lst _ :: l, ns, h => by cases h
  | .scr _ :: l, ns, h => by cases h
  | .cell _ :: l, ns, h => by cases h
  | .raw _ :: l, ns, h => by cases h
  | .cls _ :: l, ns, h => by cases h
  | .exn _ _ :: l, ns, h => by cases h
@[simp] theorem intsOf_map : ∀ ns : List Int, intsOf (ns.map D.int) = some ns
  | [] => rfl
  | n :: ns => by rw [List.map_cons, intsOf, intsOf_map ns]; rfl
section
variable {X : Cx} {K : PySem.W.Frag} {w : Wl}
theorem one_inv {d : D} {xs : List V} (h : Rps K w.r w.F [d] xs) : ∃ v, xs = [v] ∧ Rp K w.r w.F d v := by
  obtain ⟨v, t, e, r1, r2⟩ := h.cons_inv
  have := r2.nil_inv
  subst this
  exact ⟨v, e, r1⟩
theorem two_inv {d e : D} {xs : List V} (h : Rps K w.r w.F [d, e] xs) : ∃ v u, xs = [v, u] ∧ Rp K w.r w.F d v ∧ Rp K w.r w.F e u := by
  obtain ⟨v, t, e1, r1, r2⟩ := h.cons_inv
  obtain ⟨u, q, r3⟩ := one_inv r2
  subst q
  exact ⟨v, u, e1, r1, r3⟩
theorem ints_of {x : D} {v : V} {ns : List Int} (hw : Wd K w) (r : Rp K w.r w.F x v) (h : (getQ x w.S).bind intsOf = some ns) : ∃ a, v = .ref a ∧ SqL K w.H a (ns.map V.int) := by
  cases q : getQ x w.S with
  | none => rw [q] at h; cases h
  | some l =>
    rw [q] at h
    have e := intsOf_eq (show intsOf l = some ns from h)
    subst e
    obtain ⟨a, vs, e1, q1, t⟩ := getQ_ok hw r q
    rw [t.ints] at q1
    exact ⟨a, e1, q1⟩
theorem cd_abs : CallD X (.builtin "abs") bAbs := ⟨_, call_abs, fun w xs ds W σ Q hw r hs => by
  unfold bAbs at hs
  split at hs
  · rename_i i
    obtain ⟨v, rfl, rv⟩ := one_inv r
    cases rp_int rv
    exact ⟨i, rfl, SatW.here hs hw rpi⟩
  · exact hs.elim⟩
theorem cd_len : CallD X (.builtin "len") bLen := ⟨_, call_len, fun w xs ds W σ Q hw r hs => by
  unfold bLen at hs
  split at hs
  · rename_i z
    obtain ⟨v, rfl, rv⟩ := one_inv r
    cases rp_str rv
    obtain ⟨hl, hs⟩ := satIf hs
    exact ⟨_, z.length, rfl, ⟨line16 hl, rfl⟩, SatW.here hs hw rpi⟩
  · rename_i l
    obtain ⟨v, rfl, rv⟩ := one_inv r
    obtain ⟨a, vs, rfl, q, t⟩ := getT_ok hw rv rfl
    exact ⟨_, l.length, rfl, .inr ⟨vs, .inl q, t.length.symm⟩, SatW.here hs hw rpi⟩
  · rename_i x _ _
    obtain ⟨v, rfl, rv⟩ := one_inv r
    cases q : getQ x w.S with
    | none => rw [q] at hs; exact hs.elim
    | some l =>
      rw [q] at hs
      obtain ⟨a, vs, rfl, q, t⟩ := getQ_ok hw rv q
      exact ⟨_, l.length, rfl, .inl ⟨vs, q, t.length.symm⟩, SatW.here hs hw rpi⟩
  · exact hs.elim⟩
theorem cd_sum (hc : X.calm = true) : CallD X (.builtin "sum") bSum := ⟨_, cr_sum hc, fun w xs ds W σ Q hw r hs => by
  unfold bSum at hs
  split at hs
  · rename_i x
    obtain ⟨v, rfl, rv⟩ := one_inv r
    split at hs
    · rename_i ns h
      obtain ⟨a, rfl, q⟩ := ints_of hw rv h
      exact ⟨a, ns, rfl, q, SatW.here hs hw rpi⟩
    · exact hs.elim
  · exact hs.elim⟩
theorem cd_max (hc : X.calm = true) : CallD X (.builtin "max") bMax := ⟨_, (call_max2 hc).or (cr_max hc), fun w xs ds W σ Q hw r hs => by
  unfold bMax at hs
  split at hs
  · rename_i i j
    obtain ⟨v, u, rfl, rv, ru⟩ := two_inv r
    cases rp_int rv
    cases rp_int ru
    exact .inl ⟨i, j, rfl, SatW.here hs hw rpi⟩
  · rename_i x
    obtain ⟨v, rfl, rv⟩ := one_inv r
    split at hs
    · rename_i n ns h
      obtain ⟨a, rfl, q⟩ := ints_of hw rv h
      refine .inr ⟨a, n :: ns, rfl, q, by simp, fun m h1 h2 => ?_⟩
      have e : m = maxL (n :: ns) := Int.le_antisymm (maxL_ge h1) (h2 _ (maxL_mem (by simp)))
      rw [e]
      exact SatW.here hs hw rpi
    · exact hs.elim
  · exact hs.elim⟩
theorem cd_min (hc : X.calm = true) : CallD X (.builtin "min") bMin := ⟨_, (call_min2 hc).or (cr_min hc), fun w xs ds W σ Q hw r hs => by
  unfold bMin at hs
  split at hs
  · rename_i i j
    obtain ⟨v, u, rfl, rv, ru⟩ := two_inv r
    cases rp_int rv
    cases rp_int ru
    exact .inl ⟨i, j, rfl, SatW.here hs hw rpi⟩
  · rename_i x
    obtain ⟨v, rfl, rv⟩ := one_inv r
    split at hs
    · rename_i n ns h
      obtain ⟨a, rfl, q⟩ := ints_of hw rv h
      refine .inr ⟨a, n :: ns, rfl, q, by simp, fun m h1 h2 => ?_⟩
      have e : m = minL (n :: ns) := Int.le_antisymm (h2 _ (minL_mem (by simp))) (minL_le h1)
      rw [e]
      exact SatW.here hs hw rpi
    · exact hs.elim
  · exact hs.elim⟩
theorem cd_int : CallD X (.type "int") bInt := ⟨_, call_int1, fun w xs ds W σ Q hw r hs => by
  unfold bInt at hs
  split at hs
  · rename_i i
    obtain ⟨v, rfl, rv⟩ := one_inv r
    cases rp_int rv
    exact .inl ⟨i, rfl, SatW.here hs hw rpi⟩
  · rename_i b
    obtain ⟨v, rfl, rv⟩ := one_inv r
    cases rp_bl rv
    exact .inr ⟨b, rfl, SatW.here hs hw rpi⟩
  · exact hs.elim⟩
theorem cd_list {mk : List D → M D} (m : Mk mk) : CallD X (.type "list") (bList mk) := ⟨_, call_list_of, fun w xs ds W σ Q hw r hs => by
  unfold bList at hs
  split at hs
  · rename_i l
    obtain ⟨v, rfl, rv⟩ := one_inv r
    obtain ⟨a, vs, rfl, q, t⟩ := getT_ok hw rv rfl
    exact ⟨a, vs, rfl, .inr (.inl q), m.go hw t hs⟩
  · rename_i x _
    obtain ⟨v, rfl, rv⟩ := one_inv r
    cases q : getQ x w.S with
    | none => rw [q] at hs; exact hs.elim
    | some l =>
      rw [q] at hs
      obtain ⟨a, vs, rfl, q, t⟩ := getQ_ok hw rv q
      exact ⟨a, vs, rfl, .inl q, m.go hw t hs⟩
  · exact hs.elim⟩
theorem cd_tuple : CallD X (.type "tuple") bTuple := ⟨_, call_tuple_of, fun w xs ds W σ Q hw r hs => by
  unfold bTuple at hs
  split at hs
  · rename_i l
    obtain ⟨v, rfl, rv⟩ := one_inv r
    obtain ⟨a, vs, rfl, q, t⟩ := getT_ok hw rv rfl
    exact ⟨a, vs, rfl, .inr ⟨.inl q, SatW.here hs hw rv⟩⟩
  · rename_i x _
    obtain ⟨v, rfl, rv⟩ := one_inv r
    cases q : getQ x w.S with
    | none => rw [q] at hs; exact hs.elim
    | some l =>
      rw [q] at hs
      obtain ⟨a, vs, rfl, q, t⟩ := getQ_ok hw rv q
      exact ⟨a, vs, rfl, .inl ⟨q, tup_go hw t hs⟩⟩
  · exact hs.elim⟩

/-! ### isinstance, of built-in classes -/
inductive Ty where | int | bool | list | tuple | str | dict
  deriving DecidableEq
def Ty.name : Ty → String
  | .int => "int" | .bool => "bool" | .list => "list" | .tuple => "tuple" | .str => "str" | .dict => "dict"
def tyOf (d : D) (S : Store) : Option String := match d with
  | .non => some "NoneType"
  | .bl _ => some "bool"
  | .int _ => some "int"
  | .str _ => some "str"
  | .tup _ => some "tuple"
  | .lst _ => some "list"
  | .scr _ => some "list"
  | .cell n => match S[n]? with
    | some (.lst _) => some "list"
    | some (.dct _) => some "dict"
    | _ => none
  | .raw _ => none
  | .cls _ => none
  | .exn _ _ => none
def isTy (ty : Ty) (t : String) : Bool := t == ty.name || (ty == .int && t == "bool")
end
end
end Dv
/-! # Dv6: isinstance, slices, stores, methods of lists, freezing -/
namespace Dv
noncomputable section
open PySem PySem.Spec PyProof.Rows L2

/-! ### a built-in's name as a value -/
section
variable {X : Cx} {W : WX} {pos : Pos}
theorem pd_ty {x : Str} {n : String} (hm : X.mg x = none) (hv : bootBuiltins x = some (.type n)) (hg : Gl X x := by rfl) (hn : x ≠ "__name__" := by decide) (hd : (x == ("__debug__" : Str)) = false := by decide) : PD X W (.Name x pos) (xC (.raw (.ty n))) :=
  pd_c (v := V.ty n) (pe_bltn (v := V.ty n) hg hm hv rfl hn hd) (fun _ _ _ q => q) fun _ _ _ => by unfold Rp; rfl
/-- a module's number or text -/
theorem pd_gint {x : Str} {i : Int} {t : Tok} (hm : X.mg x = some (.int i t)) (hg : Gl X x := by rfl) (hd : (x == ("__debug__" : Str)) = false := by decide) : PD X W (.Name x pos) (xC (.int i)) :=
  pd_c (v := V.int i) (pe_glob (v := V.int i) hg hm ⟨_, rfl⟩ hd) (fun _ _ _ q => q) fun _ _ _ => rpi
theorem pd_gstr {x : Str} {i : Str} {t : Tok} (hm : X.mg x = some (.str i t)) (hg : Gl X x := by rfl) (hd : (x == ("__debug__" : Str)) = false := by decide) : PD X W (.Name x pos) (xC (.str i)) :=
  pd_c (v := V.str i) (pe_glob (v := V.str i) hg hm ⟨_, rfl⟩ hd) (fun _ _ _ q => q) fun _ _ _ => rps
theorem pd_gref {x : Str} {C : Addr} (hm : X.mg x = some (.ref C)) (hg : Gl X x := by rfl) (hd : (x == ("__debug__" : Str)) = false := by decide) : PD X W (.Name x pos) (xC (.raw (.ref C))) :=
  pd_c (v := V.ref C) (pe_glob (v := V.ref C) hg hm rfl hd) (fun _ _ _ q => q) fun _ _ _ => by unfold Rp; rfl
end
def bIsi (l : List D) (S : Store) : Res D := match l with
  | [d, .raw (.ty n)] => match tyOf d S with
    | some t => match kitB t n with
      | some b => .ok (.bl b) S
      | none => .bad
    | none => .bad
  | _ => .bad
theorem tyx {K : PySem.W.Frag} {w : Wl} {d : D} {v : V} {t : String} (hw : Wd K w) (r : Rp K w.r w.F d v) (h : tyOf d w.S = some t) : TyX K w.H v (.type t) := by
  have lst : ∀ {a : Addr} {vs : List V}, w.H a = some (.lst vs) → TyX K w.H (.ref a) (.type "list") := fun {a vs} q => .base (.lst q)
  cases d with
  | non => cases h; cases rp_non r; exact .base .non
  | bl b => cases h; cases rp_bl r; exact .base (.bl b)
  | int b => cases h; cases rp_int r; exact .base (.int b)
  | str b => cases h; cases rp_str r; exact .base (.str b)
  | tup l =>
    cases h
    obtain ⟨a, vs, rfl, q, p⟩ := getT_ok hw r rfl
    rcases q with q | ⟨o, q⟩
    · exact .base (.tup q)
    · exact .fTuple q
  | lst l =>
    cases h
    obtain ⟨a, vs, rfl, q, p⟩ := getL_ok hw r rfl
    exact lst q
  | scr l =>
    cases h
    obtain ⟨a, vs, rfl, q, p⟩ := getQ_ok hw r rfl
    rcases q with (q | ⟨o, q⟩) | ⟨o, its, n, h1, h2, _⟩
    · exact lst q
    · exact .base (.frz q)
    · exact .kList h1 h2
  | cell n =>
    unfold tyOf at h
    cases e : w.S[n]? with
    | none => simp only [e] at h; cases h
    | some c =>
      cases c with
      | lst l =>
        simp only [e] at h
        cases h
        obtain ⟨a, vs, rfl, q, p⟩ := getL_ok (l := l) hw r (by simp only [getL, e])
        exact lst q
      | dct l =>
        simp only [e] at h
        cases h
        unfold Rp at r
        obtain ⟨a, e1, rfl⟩ := r
        obtain ⟨_, vs, e2, p⟩ := hw.cell n a _ e1 e
        exact .base (.dK e2)
      | dead => simp only [e] at h; cases h
  | raw _ => cases h
  | cls _ => cases h
  | exn _ _ => cases h
section
variable {X : Cx}
theorem cd_isi : CallD X (.builtin "isinstance") bIsi := ⟨_, call_isi, fun w xs ds W σ Q hw r hs => by
  unfold bIsi at hs
  split at hs
  · rename_i d n
    obtain ⟨v, u, rfl, rv, ru⟩ := two_inv r
    cases rp_raw ru
    split at hs
    · rename_i t ht
      split at hs
      · rename_i b hb
        exact ⟨v, .ty n, .type t, .type n, b, rfl, .ty n, tyx hw rv ht, kit_ty hb, SatW.here hs hw rpb⟩
      · exact hs.elim
    · exact hs.elim
  · exact hs.elim⟩
end
@[simp] theorem kb_ii : kitB "int" "int" = some true := by decide +kernel
@[simp] theorem kb_bi : kitB "bool" "int" = some true := by decide +kernel
@[simp] theorem kb_si : kitB "str" "int" = some false := by decide +kernel
@[simp] theorem kb_ni : kitB "NoneType" "int" = some false := by decide +kernel
@[simp] theorem kb_li : kitB "list" "int" = some false := by decide +kernel
@[simp] theorem kb_ti : kitB "tuple" "int" = some false := by decide +kernel
@[simp] theorem kb_di : kitB "dict" "int" = some false := by decide +kernel
@[simp] theorem kb_ib : kitB "int" "bool" = some false := by decide +kernel
@[simp] theorem kb_bb : kitB "bool" "bool" = some true := by decide +kernel
@[simp] theorem kb_sb : kitB "str" "bool" = some false := by decide +kernel
@[simp] theorem kb_nb : kitB "NoneType" "bool" = some false := by decide +kernel
@[simp] theorem kb_lb : kitB "list" "bool" = some false := by decide +kernel
@[simp] theorem kb_tb : kitB "tuple" "bool" = some false := by decide +kernel
@[simp] theorem kb_db : kitB "dict" "bool" = some false := by decide +kernel
@[simp] theorem kb_il : kitB "int" "list" = some false := by decide +kernel
@[simp] theorem kb_bl : kitB "bool" "list" = some false := by decide +kernel
@[simp] theorem kb_sl : kitB "str" "list" = some false := by decide +kernel
@[simp] theorem kb_nl : kitB "NoneType" "list" = some false := by decide +kernel
@[simp] theorem kb_ll : kitB "list" "list" = some true := by decide +kernel
@[simp] theorem kb_tl : kitB "tuple" "list" = some false := by decide +kernel
@[simp] theorem kb_dl : kitB "dict" "list" = some false := by decide +kernel
@[simp] theorem kb_it : kitB "int" "tuple" = some false := by decide +kernel
@[simp] theorem kb_bt : kitB "bool" "tuple" = some false := by decide +kernel
@[simp] theorem kb_st : kitB "str" "tuple" = some false := by decide +kernel
@[simp] theorem kb_nt : kitB "NoneType" "tuple" = some false := by decide +kernel
@[simp] theorem kb_lt : kitB "list" "tuple" = some false := by decide +kernel
@[simp] theorem kb_tt : kitB "tuple" "tuple" = some true := by decide +kernel
@[simp] theorem kb_dt : kitB "dict" "tuple" = some false := by decide +kernel

/-! ### slices -/
abbrev RO : Wl → Option Int → Option Int → Prop := fun _ a b => a = b
def tDO (T : Kt) (W : WX) (f : Env → M (Option Int)) : TO := fun σ H Q => ∃ (w : Wl) (env : Env), w.H = H ∧ Wd T.K w ∧ EnvOk T.K w env σ ∧ SatW T W σ RO w (f env w.S) (fun w' _ v => Q v w'.H)
def POD (X : Cx) (W : WX) (e : Option Expr) (f : Env → M (Option Int)) : Prop := PO X e (tDO (kt X) W f)
def oNone : Env → M (Option Int) := fun _ S => .ok none S
def oSome (f : Env → M D) : Env → M (Option Int) := fun e S => (f e S).bind fun d S1 => match d with
  | .int i => .ok (some i) S1
  | _ => .bad
def slD (mk : List D → M D) (d : D) (lo hi : Option Int) (S : Store) : Res D := match d with
  | .str z => if z.length ≤ 16000000 then .ok (.str (cutS z lo hi)) S else .bad
  | .tup l => if ¬ (HT.sIx l.length 0 lo = 0 ∧ HT.sIx l.length l.length hi = l.length) then .ok (.tup ((l.drop (HT.sIx l.length 0 lo)).take (HT.sIx l.length l.length hi - HT.sIx l.length 0 lo))) S else .bad
  | d => match getQ d S with
    | some l => mk ((l.drop (HT.sIx l.length 0 lo)).take (HT.sIx l.length l.length hi - HT.sIx l.length 0 lo)) S
    | none => .bad
def xSl (mk : List D → M D) (f : Env → M D) (lo hi : Env → M (Option Int)) : Env → M D := fun e S => (f e S).bind fun d S1 => (lo e S1).bind fun a S2 => (hi e S2).bind fun b S3 => slD mk d a b S3
section
variable {X : Cx} {W : WX} {e : Expr} {lo hi : Option Expr} {f : Env → M D} {fl fh : Env → M (Option Int)} {pos p2 : Pos} {mk : List D → M D}
theorem weakO {e : Option Expr} {t t' : TO} (h : PO X e t) (q : ∀ σ H Q, t' σ H Q → t σ H Q) : PO X e t' := ⟨fun pins s σ H Q I z => h.run pins s σ H Q I (q _ _ _ z)⟩
theorem pod_none : POD X W none oNone := by
  refine weakO po_none fun σ H Q ⟨w, env, eH, hw, he, hs⟩ => ?_
  subst eH
  exact SatW.here (d := (none : Option Int)) (v := (none : Option Int)) hs hw rfl
theorem pod_some (h : PD X W e f) : POD X W (some e) (oSome f) := by
  refine weakO (po_some h) fun σ H Q ⟨w, env, eH, hw, he, hs⟩ => ?_
  subst eH
  refine ⟨w, env, rfl, hw, he, SatW.imp (SatW.bind hs) fun w1 d v g1 r1 s1 => ?_⟩
  cases d with
  | int i => exact ⟨i, rp_int r1, SatW.here (d := some i) (v := some i) s1 g1.wd rfl⟩
  | _ => exact s1.elim
theorem pd_slice (m : Mk mk) (he : PD X W e f) (hl : POD X W lo fl) (hu : POD X W hi fh) : PD X W (.Subscript e (.Slice lo hi none p2) pos) (xSl mk f fl fh) := by
  refine weakE (pe_slice (sl_list.or (sl_tup.or sl_str)) he hl hu) fun σ H Q ⟨w, env, eH, hw, he, hs⟩ => ?_
  subst eH
  refine ⟨w, env, rfl, hw, he, SatW.imp (SatW.bind hs) fun w1 d v g1 r1 s1 => ?_⟩
  refine ⟨w1, env, rfl, g1.wd, he.go g1, SatW.imp (SatW.bind s1) fun w2 a a' g2 ea s2 => ?_⟩
  have ea' : a = a' := ea
  subst ea'
  refine ⟨w2, env, rfl, g2.wd, (he.go g1).go g2, SatW.imp (SatW.bind s2) fun w3 b b' g3 eb s3 => ?_⟩
  have eb' : b = b' := eb
  subst eb'
  have r3 : Rp X.K w3.r w3.F d v := Rp.go (g2.trans g3) r1
  have s3' : SatW (kt X) W σ (RD X.K) w3 (slD mk d a b w3.S) (fun w' _ v => Q v w'.H) := s3
  unfold slD at s3'
  split at s3'
  · rename_i z
    obtain ⟨hl, s4⟩ := satIf s3'
    exact .inr (.inr ⟨z, rp_str r3, line16 hl, SatW.here s4 g3.wd rps⟩)
  · rename_i l
    obtain ⟨hl, s4⟩ := satIf s3'
    obtain ⟨p, vs, rfl, q, t⟩ := getT_ok g3.wd r3 rfl
    refine .inr (.inl ⟨p, vs, rfl, .inl q, by rw [t.length]; exact hl, tup_go g3.wd ?_ s4⟩)
    unfold cutV
    rw [t.length]
    exact (t.drop _).take _
  · split at s3'
    · rename_i l hl
      obtain ⟨p, vs, rfl, q, t⟩ := getQ_ok g3.wd r3 hl
      refine .inl ⟨p, vs, rfl, q, m.go g3.wd ?_ s3'⟩
      unfold cutV
      rw [t.length]
      exact (t.drop _).take _
    · exact s3'.elim
end

/-! ### freezing -/
def frz (d : D) (S : Store) : Res D := match d with
  | .cell n => match S[n]? with
    | some (.lst l) => .ok (.lst l) (S.set n .dead)
    | _ => .bad
  | d => .ok d S
def xFrz (f : Env → M D) : Env → M D := fun e S => (f e S).bind frz
def frzE (i : Nat) : Env → Store → Out := fun e S => match e[i]? with
  | some (some d) => (frz d S).out e fun d' S' => .nx (e.set i (some d')) S'
  | _ => .bad
theorem frz_sat {T : Kt} {W : WX} {σ : L2.St} {w : Wl} {d : D} {v : V} {P : Wl → D → V → Prop} (hw : Wd T.K w) (r : Rp T.K w.r w.F d v) (h : SatW T W σ (RD T.K) w (frz d w.S) P) : ∃ w' d', w'.H = w.H ∧ P w' d' v ∧ Go T.K w w' ∧ Rp T.K w'.r w'.F d' v ∧ frz d w.S = .ok d' w'.S := by
  cases d with
  | cell n =>
    unfold frz at h ⊢
    cases e : w.S[n]? with
    | none => simp only [e] at h; exact h.elim
    | some c =>
      cases c with
      | lst l =>
        simp only [e] at h ⊢
        unfold Rp at r
        obtain ⟨a, e1, rfl⟩ := r
        obtain ⟨hf, vs, e2, p⟩ := hw.cell n a _ e1 e
        have g := Go.freeze hw e e1 e2
        have r' : Rp T.K w.r (upd w.F a (.lst vs)) (.lst l) (.ref a) := by
          unfold Rp
          exact ⟨a, vs, rfl, upd_same, Rps.mono ⟨[], by simp⟩ g.F _ _ p⟩
        exact ⟨⟨w.r, upd w.F a (.lst vs), w.S.set n .dead, w.H⟩, .lst l, rfl, h _ _ g rfl r', g, r', rfl⟩
      | dct _ => simp only [e] at h; exact h.elim
      | dead => simp only [e] at h; exact h.elim
  | non => exact ⟨w, _, rfl, SatW.here h hw r, Go.refl hw, r, rfl⟩
  | bl _ => exact ⟨w, _, rfl, SatW.here h hw r, Go.refl hw, r, rfl⟩
  | int _ => exact ⟨w, _, rfl, SatW.here h hw r, Go.refl hw, r, rfl⟩
  | str _ => exact ⟨w, _, rfl, SatW.here h hw r, Go.refl hw, r, rfl⟩
  | tup _ => exact ⟨w, _, rfl, SatW.here h hw r, Go.refl hw, r, rfl⟩
  | lst _ => exact ⟨w, _, rfl, SatW.here h hw r, Go.refl hw, r, rfl⟩
  | scr _ => exact ⟨w, _, rfl, SatW.here h hw r, Go.refl hw, r, rfl⟩
  | raw _ => exact ⟨w, _, rfl, SatW.here h hw r, Go.refl hw, r, rfl⟩
  | cls _ => exact ⟨w, _, rfl, SatW.here h hw r, Go.refl hw, r, rfl⟩
  | exn _ _ => exact ⟨w, _, rfl, SatW.here h hw r, Go.refl hw, r, rfl⟩
section
variable {X : Cx} {W : WX} {e : Expr} {f : Env → M D} {s : Stmt} {g : Env → Store → Out}
theorem pd_frz (h : PD X W e f) : PD X W e (xFrz f) := by
  refine weakE h fun σ H Q ⟨w, env, eH, hw, he, hs⟩ => ?_
  refine ⟨w, env, eH, hw, he, SatW.imp (SatW.bind hs) fun w1 d v g1 r1 s1 => ?_⟩
  obtain ⟨w', d', e1, q, _⟩ := frz_sat g1.wd r1 s1
  rw [e1] at q
  exact q
theorem psd_frz {i : Nat} (h : PSD X W s g) : PSD X W s (ySeq g (frzE i)) := by
  refine weakS h fun D σ H ⟨w, env, eH, hw, he, hs⟩ => ⟨w, env, eH, hw, he, ?_⟩
  have hs' : SatS (kt X) W w ((g env w.S).seq (frzE i)) D := hs
  cases o : g env w.S with
  | nx e' S' =>
    rw [o] at hs'
    intro w1 σ1 g1 eS he1
    subst eS
    have hs1 := hs'.pre g1
    rw [Out.seq_nx] at hs1
    unfold frzE at hs1
    cases q : e'[i]? with
    | none => rw [q] at hs1; exact hs1.elim
    | some oo =>
      cases oo with
      | none => rw [q] at hs1; exact hs1.elim
      | some d =>
        rw [q] at hs1
        obtain ⟨v, ev, rv⟩ := he1.2 i d q
        have hs2 := SatS.out (R := RD X.K) (β := V) hs1 he1
        obtain ⟨w2, d2, e2, q2, g2, r2, f2⟩ := frz_sat (T := kt X) g1.wd rv hs2
        have hs3 : SatS (kt X) W w1 (.nx (e'.set i (some d2)) w2.S) D := by
          have hs1' : SatS (kt X) W w1 ((frz d w1.S).out e' fun d' S' => .nx (e'.set i (some d')) S') D := hs1
          rw [f2] at hs1'
          exact hs1'
        have fin := hs3 w2 (σ1.set i (some v)) g2 rfl ((he1.go g2).set r2)
        have es : σ1.set i (some v) = σ1 := by
          apply List.ext_getElem?
          intro k
          rw [List.getElem?_set]
          by_cases hk : i = k
          · subst hk
            rw [if_pos rfl, ev, if_pos (List.getElem?_eq_some_iff.mp ev).1]
          · rw [if_neg hk]
        rw [es, e2] at fin
        exact fin
  | rt d S => rw [o] at hs'; exact hs'
  | bk e S => rw [o] at hs'; exact hs'
  | ct e S => rw [o] at hs'; exact hs'
  | exc x e S => rw [o] at hs'; exact hs'
  | bad => rw [o] at hs'; exact hs'
end

/-! ### o[i] = v -/
def SetD (X : Cx) (g : D → D → D → M Unit) : Prop :=
  ∃ rr : TSet, PSet X rr ∧ ∀ (w : Wl) (x i v : V) (dx di dv : D) (W : WX) (σ : L2.St) (Q : Hp → Prop), Wd X.K w → RD X.K w dx x → RD X.K w di i → RD X.K w dv v → SatW (kt X) W σ (fun _ (_ : Unit) (_ : Unit) => True) w (g dx di dv w.S) (fun w' _ _ => Q w'.H) → rr x i v w.H Q
def setL (x i v : D) (S : Store) : Res Unit := match x, i with
  | .cell n, .int k => match S[n]? with
    | some (.lst l) => match ixN l.length k with
      | some j => .ok () (S.set n (.lst (l.set j v)))
      | none => .bad
    | _ => .bad
  | _, _ => .bad
/-- a list's cell is written -/
theorem cell_write {T : Kt} {w : Wl} {n : Nat} {l l' : List D} {v : V} (hw : Wd T.K w) (r : Rp T.K w.r w.F (.cell n) v) (e : w.S[n]? = some (.lst l)) : ∃ a vs, v = .ref a ∧ w.H a = some (.lst vs) ∧ Rps T.K w.r w.F l vs ∧
    ∀ vs', Rps T.K w.r w.F l' vs' → Go T.K w ⟨w.r, w.F, w.S.set n (.lst l'), upd w.H a (.lst vs')⟩ := by
  unfold Rp at r
  obtain ⟨a, e1, rfl⟩ := r
  obtain ⟨hf, vs, e2, p⟩ := hw.cell n a _ e1 e
  exact ⟨a, vs, rfl, e2, p, fun vs' h => Go.write (c := .lst l') hw e (by simp) e1 (by exact ⟨hf, vs', upd_same, h⟩)⟩
def ySub (f o i : Env → M D) (g : D → D → D → M Unit) : Env → Store → Out := fun e S => (f e S).out e fun v S1 => (o e S1).out e fun x S2 => (i e S2).out e fun k S3 => (g x k v S3).out e fun _ S4 => .nx e S4
section
variable {X : Cx} {W : WX} {e o i : Expr} {f fo fi : Env → M D} {g : D → D → D → M Unit} {pos tpos : Pos}
theorem sd_list : SetD X setL := ⟨_, set_list, fun w x i v dx di dv W σ Q hw r1 r2 r3 hs => by
  unfold setL at hs
  split at hs
  · rename_i n k
    cases en : w.S[n]? with
    | none => simp only [en] at hs; exact hs.elim
    | some c =>
      cases c with
      | lst l =>
        simp only [en] at hs
        cases ej : ixN l.length k with
        | none => simp only [ej] at hs; exact hs.elim
        | some j =>
          simp only [ej] at hs
          obtain ⟨a, vs, rfl, ha, p, go⟩ := cell_write (T := kt X) (l' := l.set j dv) hw r1 en
          exact ⟨a, vs, k, j, rfl, rp_int r2, ha, by rw [p.length]; exact ej, hs _ () (go _ (p.set j r3)) rfl trivial⟩
      | dct _ => simp only [en] at hs; exact hs.elim
      | dead => simp only [en] at hs; exact hs.elim
  · exact hs.elim⟩
theorem psd_sub (sd : SetD X g) (hv : PD X W e f) (ho : PD X W o fo) (hi : PD X W i fi) (hs : swapsWithSole [.Subscript o i tpos] e pos.line X.env = pure false := by rfl) (hw : swappedStores [.Subscript o i tpos] e X.env = pure none := by rfl)
    (h1 : (assignEach [.Subscript o i tpos] X.env).map (·.2) = [assign (.Subscript o i tpos) X.env] := by rfl)
    (ha : ∀ v, assign (.Subscript o i tpos) X.env v = (do
      let ov ← holding [v] (eval o X.env)
      let iv ← holding [v, ov] (eval i X.env)
      standAt tpos
      holding [v, ov, iv] (setItem ov iv v)
      release [v, ov, iv] []) := by intro _; rfl) : PSD X W (.Assign [.Subscript o i tpos] e pos) (ySub f fo fi g) := by
  obtain ⟨rr, ro, hr⟩ := sd
  refine weakS (ps_asg hv (pg_sub ho hi ro ha) hs hw h1) fun D σ H ⟨w, env, eH, hw, he, hs⟩ => ?_
  subst eH
  refine ⟨w, env, rfl, hw, he, SatW.imp (SatS.out hs he) fun w1 d v g1 r1 s1 => ?_⟩
  refine ⟨w1, env, rfl, g1.wd, he.go g1, SatW.imp (SatS.out s1 (he.go g1)) fun w2 d2 v2 g2 r2 s2 => ?_⟩
  refine ⟨w2, env, rfl, g2.wd, (he.go g1).go g2, SatW.imp (SatS.out s2 ((he.go g1).go g2)) fun w3 d3 v3 g3 r3 s3 => ?_⟩
  refine hr w3 v2 v3 v d2 d3 d W σ _ g3.wd (Rp.go g3 r2) r3 (Rp.go (g2.trans g3) r1) (SatW.imp (SatS.out s3 (((he.go g1).go g2).go g3)) fun w4 _ _ g4 _ s4 => ?_)
  exact s4 w4 σ (Go.refl g4.wd) rfl ((((he.go g1).go g2).go g3).go g4)
theorem pget_list : PGet X (fun x y H Q => ∃ p xs i v, x = .ref p ∧ y = .int i ∧ SqL X.K H p xs ∧ 0 ≤ i ∧ atI xs i = some v ∧ Q v H) := by
  intro pins s σ H x y v u Q I rx ry h
  obtain ⟨p, xs, i, z, rfl, rfl, hq, h0, he, q⟩ := h
  cases rx
  obtain ⟨t, rfl⟩ := ry
  obtain ⟨its, r, pl, hz⟩ := I.list hq
  obtain ⟨j, h1, h2, h3, h4, h5⟩ := atI_get he
  obtain ⟨w, ew, rw'⟩ := r.get h2
  have hl := r.length
  have hn := line63
  have hj : i.toNat = j := by
    rw [seqIndex_of h0 h5] at h1
    exact Option.some.inj h1
  exact wpAny_getItem_list pl.isList h0 (by omega) (by rw [hj]; simpa using ew) ⟨z, H, I, rw', q⟩
def yAugSub (o i f : Env → M D) (gi : D → D → M D) : Env → Store → Out := fun e S => (o e S).out e fun x S1 => (i e S1).out e fun k S2 => match k with
  | .int kk => match getL x S2 with
    | some l => if 0 ≤ kk then match atI l kk with
        | some old => (f e S2).out e fun y S4 => (gi old y S4).out e fun z S5 => (setL x (.int kk) z S5).out e fun _ S6 => .nx e S6
        | none => .bad
      else .bad
    | none => .bad
  | _ => .bad
theorem psd_augsub {op : Operator} {gi : D → D → M D} (io : IpD X op gi) (ho : PD X W o fo) (hi : PD X W i fi) (hv : PD X W e f)
    (ha : ∀ ov iv new, augStore i ov iv new = (do holding [new, ov, iv] (setItem ov iv new); release [new, ov, iv] []; pure .next) := by intros; rfl) : PSD X W (.AugAssign (.Subscript o i tpos) op e pos) (yAugSub fo fi f gi) := by
  obtain ⟨rr, ro, hr⟩ := io
  obtain ⟨rs, rso, hrs⟩ := (sd_list (X := X))
  refine weakS (ps_augS ho hi pget_list hv ro rso ha) fun D σ H ⟨w, env, eH, hw, he, hs⟩ => ?_
  subst eH
  refine ⟨w, env, rfl, hw, he, SatW.imp (SatS.out hs he) fun w1 d v g1 r1 s1 => ?_⟩
  refine ⟨w1, env, rfl, g1.wd, he.go g1, SatW.imp (SatS.out s1 (he.go g1)) fun w2 d2 v2 g2 r2 s2 => ?_⟩
  have he2 := (he.go g1).go g2
  cases d2 with
  | int kk =>
    cases hl : getL d w2.S with
    | none => simp only [hl] at s2; exact s2.elim
    | some l =>
      simp only [hl] at s2
      by_cases h0 : 0 ≤ kk
      · rw [if_pos h0] at s2
        cases q : L2.atI l kk with
        | none => simp only [q] at s2; exact s2.elim
        | some old =>
          simp only [q] at s2
          have rd : Rp X.K w2.r w2.F d v := Rp.go g2 r1
          obtain ⟨a, vs, rfl, hq, t⟩ := getL_ok g2.wd rd hl
          obtain ⟨vz, evz, rz⟩ := t.atI q
          refine ⟨a, vs, kk, vz, rfl, rp_int r2, .inl (.inl hq), h0, evz, ?_⟩
          refine ⟨w2, env, rfl, g2.wd, he2, SatW.imp (SatS.out s2 he2) fun w4 d4 v4 g4 r4 s4 => ?_⟩
          refine hr w4 vz v4 old d4 W σ _ g4.wd (Rp.go g4 rz) r4 (SatW.imp (SatS.out s4 (he2.go g4)) fun w5 d5 v5 g5 r5 s5 => ?_)
          refine hrs w5 (.ref a) v2 v5 d (.int kk) d5 W σ _ g5.wd (Rp.go (g4.trans g5) rd) (Rp.go (g4.trans g5) r2) r5 (SatW.imp (SatS.out s5 ((he2.go g4).go g5)) fun w6 _ _ g6 _ s6 => ?_)
          exact s6 w6 σ (Go.refl g6.wd) rfl (((he2.go g4).go g5).go g6)
      · rw [if_neg h0] at s2
        exact s2.elim
  | _ => exact s2.elim
def ipAdd : D → D → M D := iOp always fun i j => .int (i + j)
def ipSub : D → D → M D := iOp always fun i j => .int (i - j)
@[simp] theorem ipAdd_ok {i j : Int} {S : Store} : ipAdd (.int i) (.int j) S = .ok (.int (i + j)) S := rfl
@[simp] theorem ipSub_ok {i j : Int} {S : Store} : ipSub (.int i) (.int j) S = .ok (.int (i - j)) S := rfl
theorem id_add : IpD X .Add ipAdd := ⟨_, ip_add, fun w x y d e W σ Q hw r1 r2 hs => by
  obtain ⟨i, j, h1, h2, _, q⟩ := iOp_sat (gv := fun i j => V.int (i + j)) (fun _ _ _ _ _ => rpi) hw r1 r2 hs
  exact ⟨i, j, h1, h2, q⟩⟩
theorem id_sub : IpD X .Sub ipSub := ⟨_, ip_sub, fun w x y d e W σ Q hw r1 r2 hs => by
  obtain ⟨i, j, h1, h2, _, q⟩ := iOp_sat (gv := fun i j => V.int (i - j)) (fun _ _ _ _ _ => rpi) hw r1 r2 hs
  exact ⟨i, j, h1, h2, q⟩⟩
end

/-! ### methods -/
def isT (T : String) (d : D) (S : Store) : Bool := match d with
  | .str _ => T == "str"
  | .lst _ => T == "list"
  | .cell n => match S[n]? with
    | some (.lst _) => T == "list"
    | some (.dct _) => T == "dict"
    | _ => false
  | _ => false
theorem tyV_of {K : PySem.W.Frag} {w : Wl} {d : D} {v : V} {T : String} (hw : Wd K w) (r : Rp K w.r w.F d v) (h : isT T d w.S = true) : tyV K T v w.H := by
  cases d with
  | str x => cases rp_str r; exact eq_of_beq h
  | lst l =>
    obtain ⟨a, vs, rfl, q, t⟩ := getL_ok hw r rfl
    exact .inl ⟨eq_of_beq h, vs, .inl (.inl q)⟩
  | cell n =>
    unfold isT at h
    cases e : w.S[n]? with
    | none => simp only [e] at h; cases h
    | some c =>
      cases c with
      | lst l =>
        simp only [e] at h
        obtain ⟨a, vs, rfl, q, t⟩ := getL_ok (l := l) hw r (by simp only [getL, e])
        exact .inl ⟨eq_of_beq h, vs, .inl (.inl q)⟩
      | dct l =>
        simp only [e] at h
        unfold Rp at r
        obtain ⟨a, e1, rfl⟩ := r
        obtain ⟨_, vs, e2, p⟩ := hw.cell n a _ e1 e
        exact .inr (.inr (.inl ⟨eq_of_beq h, .inl ⟨vs, e2⟩⟩))
      | dead => simp only [e] at h; cases h
  | non => cases h
  | bl _ => cases h
  | int _ => cases h
  | tup _ => cases h
  | scr _ => cases h
  | raw _ => cases h
  | cls _ => cases h
  | exn _ _ => cases h
def MtD (X : Cx) (id : String) (g : D → List D → M D) : Prop :=
  ∃ rr : V → List V → Hp → VK → Prop, MtR X id rr ∧ ∀ (w : Wl) (x : V) (xs : List V) (d : D) (ds : List D) (W : WX) (σ : L2.St) (Q : VK), Wd X.K w → RD X.K w d x → RDs X.K w ds xs → SatW (kt X) W σ (RD X.K) w (g d ds w.S) (fun w' _ v => Q v w'.H) → rr x xs w.H Q
def xMt (T : String) (g : D → List D → M D) (o : Env → M D) (a : Env → M (List D)) : Env → M D := fun e S => (o e S).bind fun x S1 => if isT T x S1 = true then (a e S1).bind fun l S2 => g x l S2 else .bad
section
variable {X : Cx} {W : WX} {o e : Expr} {es : List Expr} {fo : Env → M D} {h : Env → M (List D)} {name : Str} {apos cpos : Pos} {T id : String} {g : D → List D → M D}
theorem pd_bm0 (pa : PlainAttrs T) (slot : Slot T name id) (hty : typeOf (.builtin id) = pure (.type "method_descriptor")) (hm : MtD X id g) (ho : PD X W o fo)
    (hbase : attributeBase o name X.env (eval o X.env) = eval o X.env := by rfl) (hline : (apos.endLine == cpos.line) = true := by rfl) : PD X W (.Call (.Attribute o name apos) [] [] cpos) (xMt T g fo xNil) := by
  obtain ⟨rr, ro, hr⟩ := hm
  refine weakE (pe_bm0 pa slot hty ro ho hbase hline) fun σ H Q ⟨w, env, eH, hw, he, hs⟩ => ?_
  subst eH
  refine ⟨w, env, rfl, hw, he, SatW.imp (SatW.bind hs) fun w1 d v g1 r1 s1 => ?_⟩
  obtain ⟨ht, s1⟩ := satIf s1
  exact ⟨tyV_of g1.wd r1 ht, hr w1 v [] d [] W σ Q g1.wd r1 rps_nil s1⟩
theorem pd_bm (pa : PlainAttrs T) (slot : Slot T name id) (hty : typeOf (.builtin id) = pure (.type "method_descriptor")) (hm : MtD X id g) (ho : PD X W o fo) (ha : PAD X W (e :: es) h)
    (hbase : attributeBase o name X.env (eval o X.env) = eval o X.env := by rfl)
    (hfew : ((backTo cpos (starEach (e :: es) X.env)).all (fun x => !x.1) && (backToKw cpos (keywordEach [] X.env)).all (fun x => x.1.isSome)
      && decide ((e :: es).length + ([] : List Keyword).length + (if ([] : List Keyword).isEmpty then 0 else 1) < 30)) = true := by rfl)
    (hline : (apos.endLine == cpos.line) = true := by rfl) (hs : starEach (e :: es) X.env = (false, eval e X.env) :: starEach es X.env := by rfl) (hplain : (backTo cpos (starEach es X.env)).any (·.1) = false := by rfl) :
    PD X W (.Call (.Attribute o name apos) (e :: es) [] cpos) (xMt T g fo h) := by
  obtain ⟨rr, ro, hr⟩ := hm
  refine weakE (pe_bm pa slot hty ro ho ha hbase hfew hline hs hplain) fun σ H Q ⟨w, env, eH, hw, he, hs⟩ => ?_
  subst eH
  refine ⟨w, env, rfl, hw, he, SatW.imp (SatW.bind hs) fun w1 d v g1 r1 s1 => ?_⟩
  obtain ⟨ht, s1⟩ := satIf s1
  refine ⟨tyV_of g1.wd r1 ht, w1, env, rfl, g1.wd, he.go g1, SatW.imp (SatW.bind s1) fun w2 d2 v2 g2 r2 s2 => ?_⟩
  exact hr w2 v v2 d d2 W σ Q g2.wd (Rp.go g2 r1) r2 s2
end
/-- the list in a cell -/
def cellL (d : D) (S : Store) : Option (Nat × List D) := match d with
  | .cell n => match S[n]? with
    | some (.lst l) => some (n, l)
    | _ => none
  | _ => none
def mAppend (x : D) (a : List D) (S : Store) : Res D := match a, cellL x S with
  | [y], some (n, l) => if l.length < 16000000 then .ok .non (S.set n (.lst (l ++ [y]))) else .bad
  | _, _ => .bad
def mClear (x : D) (a : List D) (S : Store) : Res D := match a, cellL x S with
  | [], some (n, _) => .ok .non (S.set n (.lst []))
  | _, _ => .bad
def mExtend (x : D) (a : List D) (S : Store) : Res D := match a, cellL x S with
  | [.lst z], some (n, l) => if l.length + z.length ≤ 16000000 then .ok .non (S.set n (.lst (l ++ z))) else .bad
  | _, _ => .bad
theorem cellL_eq {d : D} {S : Store} {n : Nat} {l : List D} (h : cellL d S = some (n, l)) : d = .cell n ∧ S[n]? = some (.lst l) := by
  unfold cellL at h
  split at h
  · split at h
    · rename_i k l' e
      cases h
      exact ⟨rfl, e⟩
    · cases h
  · cases h
section
variable {X : Cx}
theorem md_append : MtD X "list.append" mAppend := ⟨_, mt_append, fun w x xs d ds W σ Q hw r1 r2 hs => by
  unfold mAppend at hs
  split at hs
  · rename_i y n l hc
    obtain ⟨rfl, en⟩ := cellL_eq hc
    obtain ⟨hl, hs⟩ := satIf hs
    obtain ⟨v, rfl, rv⟩ := one_inv r2
    obtain ⟨a, vs, rfl, ha, p, go⟩ := cell_write (T := kt X) (l' := l ++ [y]) hw r1 en
    refine ⟨a, vs, v, rfl, rfl, ha, by rw [p.length]; exact Nat.lt_of_lt_of_le hl (line16 (Nat.le_refl _)), ?_⟩
    exact hs _ V.non (go _ (p.append (rps_cons rv rps_nil))) rfl rpn
  · exact hs.elim⟩
theorem md_clear : MtD X "list.clear" mClear := ⟨_, mt_clear, fun w x xs d ds W σ Q hw r1 r2 hs => by
  unfold mClear at hs
  split at hs
  · rename_i n l hc
    obtain ⟨rfl, en⟩ := cellL_eq hc
    obtain ⟨a, vs, rfl, ha, p, go⟩ := cell_write (T := kt X) (l' := []) hw r1 en
    have e0 := r2.nil_inv
    exact ⟨a, vs, rfl, e0, ha, hs _ V.non (go _ rps_nil) rfl rpn⟩
  · exact hs.elim⟩
end
end
end Dv
/-! # Dv7: a comprehension given to a name; the end of a law -/
namespace Dv
open PySem PySem.Spec PyProof.Rows L2
section
variable {X : Cx} {W : WX} {elt tg iter : Expr} {ifs : List Expr} {scope : Scope} {own : List (Str × Nat)} {pos spos py : Pos} {mk : List D → M D} {src : Env → M Src} {gV : TG} {gE : D → Env → Option Env} {c : Env → M Bool} {f : Env → M D} {i : Nat} {y : Str}
theorem set_read {t : TE} (ht : ∀ σ H Q, tD (kt X) W f σ H Q → t σ H Q) {D : Ends} {σ : L2.St} {H : Hp} (h : sD (kt X) W (ySet i f) D σ H) : tAsg t (gName i) D σ H := by
  obtain ⟨w, env, eH, hw, he, hs⟩ := h
  refine ht σ H (fun x H1 => gName i x σ H1 D.nx) ⟨w, env, eH, hw, he, SatW.imp (SatS.out hs he) fun w1 d v g1 r1 s1 => ?_⟩
  exact s1 w1 _ (Go.refl g1.wd) rfl ((he.go g1).set r1)
theorem psd_setLc (m : Mk mk) (tgd : TgD (kt X) (own.map (·.2)) gV gE) (hc : X.calm = true) (hN : X.N.Nodup) (hsw : swapsWith (.ListComp elt [⟨tg, iter, [], 0⟩] scope pos) (some (.Name y py)) spos.line X.env = pure true) (hi : PID X W tg iter src) (ok : BlkOk X.N X.env.scope scope own)
    (hg : ∀ (s : Shared) (H : Hp) (C : Addr) (cl : List (Str × Addr)) (fp : List Addr), PG (X.blk s H scope (compEnvC scope cl C X.env) fp) tg gV)
    (he : ∀ (s : Shared) (H : Hp) (C : Addr) (cl : List (Str × Addr)) (fp : List Addr), PD (X.blk s H scope (compEnvC scope cl C X.env) fp) W0 elt f) (hy : X.N[i]? = some y := by rfl) (hyl : X.env.scope.names.lookup y = some .local := by rfl) (hs : ∀ x, foldedSetIterable iter X.env x = pure x := by intro _; rfl) :
    PSD X W (.Assign [.Name y py] (.ListComp elt [⟨tg, iter, [], 0⟩] scope pos) spos) (ySet i (xLc mk src gE cYes f (own.map (·.2)))) :=
  weakS (ps_setLc (i := i) (te := tD (kt X) W0 f) hc hN hy hyl hsw hi ok hg (fun _ _ _ _ _ => pts_nil) (fun s H C cl fp => show PE _ elt (tD (kt X) W0 f) from he s H C cl fp) hs) fun D σ H => set_read fun σ H Q => lc_read m tgd fun σ H Q ⟨w, env, eH, hw, he, hs⟩ => by
    subst eH
    exact SatW.here (d := true) (v := true) hs hw rfl
theorem psd_setLcIf {t : Expr} (m : Mk mk) (tgd : TgD (kt X) (own.map (·.2)) gV gE) (hc : X.calm = true) (hN : X.N.Nodup) (hsw : swapsWith (.ListComp elt [⟨tg, iter, [t], 0⟩] scope pos) (some (.Name y py)) spos.line X.env = pure true) (hi : PID X W tg iter src) (ok : BlkOk X.N X.env.scope scope own)
    (hg : ∀ (s : Shared) (H : Hp) (C : Addr) (cl : List (Str × Addr)) (fp : List Addr), PG (X.blk s H scope (compEnvC scope cl C X.env) fp) tg gV)
    (ht : ∀ (s : Shared) (H : Hp) (C : Addr) (cl : List (Str × Addr)) (fp : List Addr), PTD (X.blk s H scope (compEnvC scope cl C X.env) fp) W0 t c)
    (he : ∀ (s : Shared) (H : Hp) (C : Addr) (cl : List (Str × Addr)) (fp : List Addr), PD (X.blk s H scope (compEnvC scope cl C X.env) fp) W0 elt f) (hy : X.N[i]? = some y := by rfl) (hyl : X.env.scope.names.lookup y = some .local := by rfl) (hs : ∀ x, foldedSetIterable iter X.env x = pure x := by intro _; rfl) :
    PSD X W (.Assign [.Name y py] (.ListComp elt [⟨tg, iter, [t], 0⟩] scope pos) spos) (ySet i (xLc mk src gE c f (own.map (·.2)))) :=
  weakS (ps_setLc (i := i) (te := tD (kt X) W0 f) (tt := tDB (kt X) W0 c) hc hN hy hyl hsw hi ok hg (fun s H C cl fp => pts_one (show PT _ t (tDB (kt X) W0 c) from ht s H C cl fp)) (fun s H C cl fp => show PE _ elt (tD (kt X) W0 f) from he s H C cl fp) hs) fun D σ H => set_read fun σ H Q => lc_read m tgd fun σ H Q h => h
end

/-! ### the law's end -/
theorem rps_scr {K : PySem.W.Frag} {r : List Addr} {F : Hp} : ∀ ns : List Int, Rps K r F (ns.map D.int) (ns.map V.int) := rps_ints
/-- the bits of the script's numbers -/
def Bits (ns : List Int) : Prop := ∀ z ∈ ns, Builtin.Int.intBits z ≤ 1048576
def spLaw (K : PySem.W.Frag) : Sp := fun vs H Q _ => ∃ (a : Addr) (ns : List Int), vs = [.ref a] ∧ SqL K H a (ns.map V.int) ∧ ns.length ≤ 63 ∧ Bits ns ∧ ∀ H', Q (.bl true) H'
def LawTrue (f : List D → M D) : Prop := ∀ ns : List Int, ns.length ≤ 63 → Bits ns → ∃ S', f [.scr (ns.map D.int)] [] = .ok (.bl true) S'
theorem law_imp {K : PySem.W.Frag} {mg : Str → Option Value} {f : List D → M D} (ht : LawTrue f) (vs : List V) (H : Hp) (Q : VK) (E : XK) (h : spLaw K vs H Q E) : spD ⟨K, mg⟩ f vs H Q E := by
  obtain ⟨a, ns, rfl, hS, hl, hb, q⟩ := h
  obtain ⟨S', hf⟩ := ht ns hl hb
  refine ⟨⟨[], H, [], H⟩, [.scr (ns.map D.int)], rfl, ⟨rfl, Same.refl _, fun n a c e _ => by simp at e, fun n m a e => by simp at e⟩, rps_cons ?_ rps_nil, ?_⟩
  · unfold Rp
    exact ⟨a, _, rfl, hS, rps_ints ns⟩
  · show SatW ⟨K, mg⟩ _ [] (RD K) _ (f [.scr (ns.map D.int)] []) _
    rw [hf]
    intro w' v g e r
    have ev := rp_bl r
    subst ev
    exact q _
theorem law_sp (K : PySem.W.Frag) (H : Hp) (a : Addr) (ns : List Int) (hl : ns.length ≤ 63) (hb : ∀ z ∈ ns, Builtin.Int.intBits z ≤ 1048576) (hS : SqL K H a (ns.map V.int)) : spLaw K [.ref a] H (fun v _ => v = .bl true) fun _ _ _ => False := ⟨a, ns, rfl, hS, hl, hb, fun _ => rfl⟩
theorem cx_end {P : Program} {w : World} {H : Hp} {s : Shared} {e : Value} {s' : Shared} (h : L2.CX P w [] H s (fun _ _ _ => False) e s') : False := by
  obtain ⟨_, _, _, _, _, _, _, _, _, _, _, _, z⟩ := h
  exact z.elim
end Dv
/-! # Dv8: reckoning with mirrors -/
namespace Dv
open PySem PySem.Spec PyProof.Rows L2

def En0 {α : Type} (x : Res α) (P : α → Store → Prop) : Prop := match x with
  | .ok a S => P a S
  | _ => False
structure Pst where
  nx : Env → Store → Prop := fun _ _ => False
  rt : D → Store → Prop := fun _ _ => False
  bk : Env → Store → Prop := fun _ _ => False
  ct : Env → Store → Prop := fun _ _ => False
def EnO0 (o : Out) (Q : Pst) : Prop := match o with
  | .nx e S => Q.nx e S
  | .rt d S => Q.rt d S
  | .bk e S => Q.bk e S
  | .ct e S => Q.ct e S
  | _ => False
section
variable {α β : Type} {x : Res α} {a : α} {S : Store} {P : α → Store → Prop} {Q : Pst} {e : Env} {d : D}
@[simp] theorem en0_ok : En0 (.ok a S) P = P a S := rfl
@[simp] theorem en0_bad : En0 (.bad : Res α) P = False := rfl
@[simp] theorem en0_exc {y : Exn} : En0 (.exc y S : Res α) P = False := rfl
@[simp] theorem en0_bind {k : α → Store → Res β} {P : β → Store → Prop} : En0 (x.bind k) P = En0 x (fun a S => En0 (k a S) P) := by cases x <;> rfl
theorem En0.imp {P' : α → Store → Prop} (h : En0 x P) (q : ∀ a S, P a S → P' a S) : En0 x P' := by
  cases x with
  | ok a S => exact q a S h
  | _ => exact h
theorem en0_eq {v : α} : En0 x (fun a S' => a = v ∧ S' = S) ↔ x = .ok v S := by
  cases x with
  | ok a S' => exact ⟨fun h => by rw [h.1, h.2], fun h => by cases h; exact ⟨rfl, rfl⟩⟩
  | exc y S' => exact ⟨fun h => h.elim, fun h => by cases h⟩
  | bad => exact ⟨fun h => h.elim, fun h => by cases h⟩
theorem En0.get (h : En0 x P) : ∃ a S, x = .ok a S ∧ P a S := by
  cases x with
  | ok a S => exact ⟨a, S, rfl, h⟩
  | exc y S' => exact h.elim
  | bad => exact h.elim
@[simp] theorem en0_if {c : Prop} [Decidable c] : En0 (if c then x else .bad) P = (c ∧ En0 x P) := by
  by_cases h : c
  · rw [if_pos h]; simp [h]
  · rw [if_neg h]; simp [h]
@[simp] theorem en0_if' {c : Prop} [Decidable c] : En0 (if c then .bad else x) P = (¬ c ∧ En0 x P) := by
  by_cases h : c
  · rw [if_pos h]; simp [h]
  · rw [if_neg h]; simp [h]
theorem en0_ite {c : Prop} [Decidable c] {y : Res α} (h1 : c → En0 x P) (h2 : ¬ c → En0 y P) : En0 (if c then x else y) P := by
  by_cases h : c
  · rw [if_pos h]; exact h1 h
  · rw [if_neg h]; exact h2 h
@[simp] theorem eno0_nx : EnO0 (.nx e S) Q = Q.nx e S := rfl
@[simp] theorem eno0_rt : EnO0 (.rt d S) Q = Q.rt d S := rfl
@[simp] theorem eno0_bk : EnO0 (.bk e S) Q = Q.bk e S := rfl
@[simp] theorem eno0_ct : EnO0 (.ct e S) Q = Q.ct e S := rfl
@[simp] theorem eno0_bad : EnO0 .bad Q = False := rfl
@[simp] theorem eno0_out {k : α → Store → Out} : EnO0 (x.out e k) Q = En0 x (fun a S => EnO0 (k a S) Q) := by cases x <;> rfl
@[simp] theorem eno0_seq {o : Out} {k : Env → Store → Out} : EnO0 (o.seq k) Q = EnO0 o { Q with nx := fun e S => EnO0 (k e S) Q } := by cases o <;> rfl
theorem EnO0.imp {o : Out} {Q' : Pst} (h : EnO0 o Q) (h1 : ∀ e S, Q.nx e S → Q'.nx e S) (h2 : ∀ e S, Q.rt e S → Q'.rt e S) (h3 : ∀ e S, Q.bk e S → Q'.bk e S) (h4 : ∀ e S, Q.ct e S → Q'.ct e S) : EnO0 o Q' := by
  cases o with
  | nx e S => exact h1 _ _ h
  | rt e S => exact h2 _ _ h
  | bk e S => exact h3 _ _ h
  | ct e S => exact h4 _ _ h
  | exc x e S => exact h
  | bad => exact h
theorem eno0_ite {c : Prop} [Decidable c] {o p : Out} (h1 : c → EnO0 o Q) (h2 : ¬ c → EnO0 p Q) : EnO0 (if c then o else p) Q := by
  by_cases h : c
  · rw [if_pos h]; exact h1 h
  · rw [if_neg h]; exact h2 h
end
/-! ### the combinators, laid open -/
section
variable {oo : Option D} {ll : Env} {S : Store} {d : D} {f g : Env → M D} {h : Env → M (List D)} {k k' : Env → M Bool} {y y' : Env → Store → Out}
@[simp] theorem xVar_app {i : Nat} : xVar i (oo :: ll) S = match (oo :: ll)[i]? with | some (some d) => .ok d S | _ => .bad := rfl
@[simp] theorem xC_app : xC d (oo :: ll) S = .ok d S := rfl
@[simp] theorem xOp_app {o : D → D → M D} : xOp o f g (oo :: ll) S = (f (oo :: ll) S).bind fun x S1 => (g (oo :: ll) S1).bind fun y S2 => o x y S2 := rfl
@[simp] theorem xUn_app {o : D → M D} : xUn o f (oo :: ll) S = (f (oo :: ll) S).bind fun x S1 => o x S1 := rfl
@[simp] theorem xNil_app : xNil (oo :: ll) S = .ok [] S := rfl
@[simp] theorem xCons_app : xCons f h (oo :: ll) S = (f (oo :: ll) S).bind fun x S1 => (h (oo :: ll) S1).bind fun y S2 => .ok (x :: y) S2 := rfl
@[simp] theorem xFn_app {o : List D → M D} : xFn o h (oo :: ll) S = (h (oo :: ll) S).bind fun x S1 => o x S1 := rfl
@[simp] theorem xTup_app : xTup h (oo :: ll) S = (h (oo :: ll) S).bind fun l S1 => if l.length ≤ 1000 then .ok (.tup l) S1 else .bad := rfl
@[simp] theorem xLst_app {mk : List D → M D} : xLst mk h (oo :: ll) S = (h (oo :: ll) S).bind fun l S1 => if l.length ≤ 1000 then mk l S1 else .bad := rfl
@[simp] theorem mkF_app {l : List D} : mkF l S = .ok (.lst l) S := rfl
@[simp] theorem mkC_app {l : List D} : mkC l S = .ok (.cell S.length) (S ++ [.lst l]) := rfl
@[simp] theorem xTru_app : xTru f (oo :: ll) S = (f (oo :: ll) S).bind tru := rfl
@[simp] theorem xIsT_app : xIsT f (oo :: ll) S = (f (oo :: ll) S).bind fun d S1 => match d with | .bl b => .ok b S1 | _ => .bad := rfl
@[simp] theorem xNot_app : xNot k (oo :: ll) S = (k (oo :: ll) S).bind fun b S1 => .ok (!b) S1 := rfl
@[simp] theorem xAnd_app : xAnd k k' (oo :: ll) S = (k (oo :: ll) S).bind fun b S1 => if b then k' (oo :: ll) S1 else .ok false S1 := rfl
@[simp] theorem xOr_app : xOr k k' (oo :: ll) S = (k (oo :: ll) S).bind fun b S1 => if b then .ok true S1 else k' (oo :: ll) S1 := rfl
@[simp] theorem xAndV_app : xAndV f g (oo :: ll) S = (f (oo :: ll) S).bind fun d S1 => match d with | .bl true => g (oo :: ll) S1 | .bl false => .ok (.bl false) S1 | _ => .bad := rfl
@[simp] theorem xOrV_app : xOrV f g (oo :: ll) S = (f (oo :: ll) S).bind fun d S1 => match d with | .bl true => .ok (.bl true) S1 | .bl false => g (oo :: ll) S1 | _ => .bad := rfl
@[simp] theorem xNotV_app : xNotV f (oo :: ll) S = (f (oo :: ll) S).bind fun d S1 => match d with | .bl b => .ok (.bl (!b)) S1 | _ => .bad := rfl
@[simp] theorem xIf_app : xIf k f g (oo :: ll) S = (k (oo :: ll) S).bind fun b S1 => if b then f (oo :: ll) S1 else g (oo :: ll) S1 := rfl
@[simp] theorem xFrz_app : xFrz f (oo :: ll) S = (f (oo :: ll) S).bind frz := rfl
@[simp] theorem yNil_app : yNil (oo :: ll) S = .nx (oo :: ll) S := rfl
@[simp] theorem ySeq_app : ySeq y y' (oo :: ll) S = (y (oo :: ll) S).seq y' := rfl
@[simp] theorem yBreak_app : yBreak (oo :: ll) S = .bk (oo :: ll) S := rfl
@[simp] theorem yCont_app : yCont (oo :: ll) S = .ct (oo :: ll) S := rfl
@[simp] theorem yExpr_app : yExpr f (oo :: ll) S = (f (oo :: ll) S).out (oo :: ll) fun _ S1 => .nx (oo :: ll) S1 := rfl
@[simp] theorem yRet_app : yRet f (oo :: ll) S = (f (oo :: ll) S).out (oo :: ll) fun d S1 => .rt d S1 := rfl
@[simp] theorem yRetN_app : yRetN (oo :: ll) S = .rt .non S := rfl
@[simp] theorem yIf_app : yIf k y y' (oo :: ll) S = (k (oo :: ll) S).out (oo :: ll) fun b S1 => if b then y (oo :: ll) S1 else y' (oo :: ll) S1 := rfl
@[simp] theorem ySet_app {i : Nat} : ySet i f (oo :: ll) S = (f (oo :: ll) S).out (oo :: ll) fun d S1 => .nx ((oo :: ll).set i (some d)) S1 := rfl
@[simp] theorem yAsg_app {q : D → Env → Store → Out} : yAsg f q (oo :: ll) S = (f (oo :: ll) S).out (oo :: ll) fun d S1 => q d (oo :: ll) S1 := rfl
@[simp] theorem yPar_app {i j : Nat} : yPar i j h (oo :: ll) S = (h (oo :: ll) S).out (oo :: ll) fun l S1 => match l with | [a, b] => .nx (((oo :: ll).set i (some a)).set j (some b)) S1 | _ => .bad := rfl
@[simp] theorem yFor_app {s : Env → M Src} {q : D → Env → Store → Out} : yFor s q y (oo :: ll) S = (s (oo :: ll) S).out (oo :: ll) fun s S1 => forL s.chk q y s.items (oo :: ll) S1 := rfl
@[simp] theorem iSrc_app {q : D → Store → Res Src} : iSrc q f (oo :: ll) S = (f (oo :: ll) S).bind q := rfl
@[simp] theorem iSrcA_app {q : List D → Store → Res Src} : iSrcA q h (oo :: ll) S = (h (oo :: ll) S).bind q := rfl
@[simp] theorem srcL_lst {l : List D} : srcL (.lst l) S = .ok ⟨l, fun _ => True⟩ S := rfl
@[simp] theorem srcL_scr {l : List D} : srcL (.scr l) S = .ok ⟨l, fun _ => True⟩ S := rfl
@[simp] theorem srcT_tup {l : List D} : srcT (.tup l) S = .ok ⟨l, fun _ => True⟩ S := rfl
theorem srcR1_app {j : Int} : srcR1 [.int j] S = if rng62 j then .ok ⟨irange 0 j.toNat, fun _ => True⟩ S else .bad := rfl
theorem srcR2_app {i j : Int} : srcR2 [.int i, .int j] S = if rng62 i ∧ rng62 j then .ok ⟨irange i (j - i).toNat, fun _ => True⟩ S else .bad := rfl
@[simp] theorem gN_app {i : Nat} : gN i d (oo :: ll) S = .nx ((oo :: ll).set i (some d)) S := rfl
@[simp] theorem gT_app {n : Nat} {l : List D} {q : List D → Env → Store → Out} : gT n q (.tup l) (oo :: ll) S = if l.length = n then q l (oo :: ll) S else .bad := rfl
@[simp] theorem gsNil_app : gsNil [] (oo :: ll) S = .nx (oo :: ll) S := rfl
@[simp] theorem gsCons_app {l : List D} {q : D → Env → Store → Out} {q' : List D → Env → Store → Out} : gsCons q q' (d :: l) (oo :: ll) S = (q d (oo :: ll) S).seq (q' l) := rfl
@[simp] theorem xLc_app {mk : List D → M D} {s : Env → M Src} {q : D → Env → Option Env} {vs : List Nat} : xLc mk s q k f vs (oo :: ll) S = (s (oo :: ll) S).bind fun s S1 => (lcL s.chk q k f (wipeE (oo :: ll) vs) s.items [] S1).bind fun l S2 => mk l S2 := rfl
@[simp] theorem eN_app {i : Nat} : eN i d (oo :: ll) = some ((oo :: ll).set i (some d)) := rfl
@[simp] theorem eT2_app {i j : Nat} {a b : D} : eT2 i j (.tup [a, b]) (oo :: ll) = some (((oo :: ll).set i (some a)).set j (some b)) := rfl
@[simp] theorem eT3_app {i j m : Nat} {a b c : D} : eT3 i j m (.tup [a, b, c]) (oo :: ll) = some ((((oo :: ll).set i (some a)).set j (some b)).set m (some c)) := rfl
@[simp] theorem cYes_app : cYes (oo :: ll) S = .ok true S := rfl
@[simp] theorem wipeE_nil : wipeE (oo :: ll) [] = (oo :: ll) := rfl
@[simp] theorem wipeE_cons {v : Nat} {vs : List Nat} : wipeE (oo :: ll) (v :: vs) = (wipeE (oo :: ll) vs).set v none := rfl
@[simp] theorem yAug_app {i : Nat} {q : D → D → M D} : yAug i f q (oo :: ll) S = match (oo :: ll)[i]? with | some (some x) => (f (oo :: ll) S).out (oo :: ll) fun y S1 => (q x y S1).out (oo :: ll) fun z S2 => .nx ((oo :: ll).set i (some z)) S2 | _ => .bad := rfl
@[simp] theorem ySub_app {o i : Env → M D} {q : D → D → D → M Unit} : ySub f o i q (oo :: ll) S = (f (oo :: ll) S).out (oo :: ll) fun v S1 => (o (oo :: ll) S1).out (oo :: ll) fun x S2 => (i (oo :: ll) S2).out (oo :: ll) fun k S3 => (q x k v S3).out (oo :: ll) fun _ S4 => .nx (oo :: ll) S4 := rfl
@[simp] theorem xMt_app {T : String} {q : D → List D → M D} : xMt T q f h (oo :: ll) S = (f (oo :: ll) S).bind fun x S1 => if isT T x S1 = true then (h (oo :: ll) S1).bind fun l S2 => q x l S2 else .bad := rfl
@[simp] theorem xSl_app {mk : List D → M D} {lo hi : Env → M (Option Int)} : xSl mk f lo hi (oo :: ll) S = (f (oo :: ll) S).bind fun d S1 => (lo (oo :: ll) S1).bind fun a S2 => (hi (oo :: ll) S2).bind fun b S3 => slD mk d a b S3 := rfl
@[simp] theorem oNone_app : oNone (oo :: ll) S = .ok none S := rfl
@[simp] theorem oSome_app : oSome f (oo :: ll) S = (f (oo :: ll) S).bind fun d S1 => match d with | .int i => .ok (some i) S1 | _ => .bad := rfl
@[simp] theorem bLen_lst {l : List D} : bLen [.lst l] S = .ok (.int l.length) S := rfl
@[simp] theorem bLen_scr {l : List D} : bLen [.scr l] S = .ok (.int l.length) S := rfl
@[simp] theorem bLen_tup {l : List D} : bLen [.tup l] S = .ok (.int l.length) S := rfl
@[simp] theorem bAbs_app {i : Int} : bAbs [.int i] S = .ok (.int (if i < 0 then -i else i)) S := rfl
@[simp] theorem bMin_two {i j : Int} : bMin [.int i, .int j] S = .ok (.int (if j < i then j else i)) S := rfl
@[simp] theorem bMax_two {i j : Int} : bMax [.int i, .int j] S = .ok (.int (if j > i then j else i)) S := rfl
@[simp] theorem bInt_int {i : Int} : bInt [.int i] S = .ok (.int i) S := rfl
@[simp] theorem bInt_bl {b : Bool} : bInt [.bl b] S = .ok (.int (if b then 1 else 0)) S := rfl
@[simp] theorem dIx_scr {l : List D} {i : Int} : dIx (.scr l) (.int i) S = match L2.atI l i with | some d => .ok d S | none => .bad := rfl
@[simp] theorem tru_bl {b : Bool} : tru (.bl b) S = .ok b S := rfl
@[simp] theorem bIsi_int {i : Int} : bIsi [.int i, .raw (.ty "int")] S = .ok (.bl true) S := by simp [bIsi, tyOf]
@[simp] theorem bIsi_intb {i : Int} : bIsi [.int i, .raw (.ty "bool")] S = .ok (.bl false) S := by simp [bIsi, tyOf]
@[simp] theorem bIsi_tup {l : List D} : bIsi [.tup l, .raw (.ty "tuple")] S = .ok (.bl true) S := by simp [bIsi, tyOf]
@[simp] theorem bIsi_lst {l : List D} : bIsi [.lst l, .raw (.ty "list")] S = .ok (.bl true) S := by simp [bIsi, tyOf]
end
theorem sat_of {c : Prop} (h : c) : c = True := eq_true h

/-! ### a def -/
theorem en0_fn {np ns : Nat} {keep : Bool} {body : Env → Store → Out} {ds : List D} {S : Store} {P : D → Store → Prop} (hl : ds.length = np)
    (h : EnO0 (body (ds.map some ++ List.replicate (ns - np) none) S) { nx := fun _ S' => En0 (fin keep S.length .non S') P, rt := fun d S' => En0 (fin keep S.length d S') P }) : En0 (fnD np ns keep body ds S) P := by
  unfold fnD
  rw [if_pos hl]
  cases o : body (ds.map some ++ List.replicate (ns - np) none) S with
  | nx e S' => rw [o] at h; exact h
  | rt e S' => rw [o] at h; exact h
  | bk e S' => rw [o] at h; exact h.elim
  | ct e S' => rw [o] at h; exact h.elim
  | exc x e S' => rw [o] at h; exact h.elim
  | bad => rw [o] at h; exact h.elim
@[simp] theorem fin_same {keep : Bool} {d : D} {S : Store} : fin keep S.length d S = .ok d S := by simp [fin]
@[simp] theorem fin_zero {keep : Bool} {d : D} : fin keep 0 d [] = .ok d [] := by simp [fin]
theorem fin_len {keep : Bool} {n : Nat} {d : D} {S : Store} (h : S.length = n) : fin keep n d S = .ok d S := by simp [fin, h]

/-! ### loops -/
theorem en0_for {g : D → Env → Store → Out} {b : Env → Store → Out} {items : List D} {e : Env} {S : Store} {Q : Pst} (I : Nat → Env → Store → Prop) (h0 : I 0 e S)
    (hs : ∀ (i : Nat) d e S, items[i]? = some d → I i e S → EnO0 (g d e S) { nx := fun e1 S1 => EnO0 (b e1 S1) { nx := I (i + 1), ct := I (i + 1), bk := Q.nx, rt := Q.rt } })
    (hd : ∀ e S, I items.length e S → Q.nx e S) : EnO0 (forL (fun _ => True) g b items e S) Q := by
  have go : ∀ (l : List D) (i : Nat) (e : Env) (S : Store), items.drop i = l → i ≤ items.length → I i e S → EnO0 (forL (fun _ => True) g b l e S) Q := by
    intro l
    induction l with
    | nil =>
      intro i e S hl hi h
      rw [forL, if_pos trivial]
      have e1 := drop_nil hl hi
      subst e1
      exact hd e S h
    | cons d l ih =>
      intro i e S hl hi h
      obtain ⟨h1, h2⟩ := drop_get hl
      have st := hs i d e S h1 h
      have hlt : i < items.length := (List.getElem?_eq_some_iff.mp h1).1
      rw [forL, if_pos trivial]
      cases o : g d e S with
      | nx e1 S1 =>
        rw [o] at st
        have st' : EnO0 (b e1 S1) { nx := I (i + 1), ct := I (i + 1), bk := Q.nx, rt := Q.rt } := st
        show EnO0 (match b e1 S1 with
          | .nx e' S' => forL (fun _ => True) g b l e' S'
          | .ct e' S' => forL (fun _ => True) g b l e' S'
          | .bk e' S' => .nx e' S'
          | o => o) Q
        cases ob : b e1 S1 with
        | nx e2 S2 => rw [ob] at st'; exact ih (i + 1) e2 S2 h2 hlt st'
        | ct e2 S2 => rw [ob] at st'; exact ih (i + 1) e2 S2 h2 hlt st'
        | bk e2 S2 => rw [ob] at st'; exact st'
        | rt d2 S2 => rw [ob] at st'; exact st'
        | exc x e2 S2 => rw [ob] at st'; exact st'.elim
        | bad => rw [ob] at st'; exact st'.elim
      | rt _ _ => rw [o] at st; exact st.elim
      | bk _ _ => rw [o] at st; exact st.elim
      | ct _ _ => rw [o] at st; exact st.elim
      | exc _ _ _ => rw [o] at st; exact st.elim
      | bad => rw [o] at st; exact st.elim
  exact go items 0 e S rfl (Nat.zero_le _) h0
theorem en0_while {c : Env → M Bool} {b : Env → Store → Out} {Q : Pst} (I : Env → Store → Prop) (m : Env → Store → Nat)
    (hs : ∀ e S, I e S → En0 (c e S) fun t S1 => (t = true → EnO0 (b e S1) { nx := fun e' S' => I e' S' ∧ m e' S' < m e S, ct := fun e' S' => I e' S' ∧ m e' S' < m e S, bk := Q.nx, rt := Q.rt }) ∧ (t = false → Q.nx e S1)) {e : Env} {S : Store} (h0 : I e S) : EnO0 (yWhile c b e S) Q := by
  have go : ∀ (n : Nat) (e : Env) (S : Store), m e S ≤ n → I e S → EnO0 (yWhile c b e S) Q := by
    intro n
    induction n with
    | zero =>
      intro e S hm h
      have st := hs e S h
      cases q : c e S with
      | ok t S1 =>
        rw [q] at st
        cases t with
        | false => rw [yWhile_stop q]; exact st.2 rfl
        | true =>
          rw [yWhile_go q]
          have s2 := st.1 rfl
          cases o : b e S1 with
          | nx e1 S2 => rw [o] at s2; have z : m e1 S2 < m e S := s2.2; omega
          | ct e1 S2 => rw [o] at s2; have z : m e1 S2 < m e S := s2.2; omega
          | bk e1 S2 => rw [o] at s2; exact s2
          | rt d S2 => rw [o] at s2; exact s2
          | exc x e1 S2 => rw [o] at s2; exact s2.elim
          | bad => rw [o] at s2; exact s2.elim
      | exc x S1 => rw [q] at st; exact st.elim
      | bad => rw [q] at st; exact st.elim
    | succ n ih =>
      intro e S hm h
      have st := hs e S h
      cases q : c e S with
      | ok t S1 =>
        rw [q] at st
        cases t with
        | false => rw [yWhile_stop q]; exact st.2 rfl
        | true =>
          rw [yWhile_go q]
          have s2 := st.1 rfl
          cases o : b e S1 with
          | nx e1 S2 => rw [o] at s2; exact ih e1 S2 (by have z : m e1 S2 < m e S := s2.2; omega) s2.1
          | ct e1 S2 => rw [o] at s2; exact ih e1 S2 (by have z : m e1 S2 < m e S := s2.2; omega) s2.1
          | bk e1 S2 => rw [o] at s2; exact s2
          | rt d S2 => rw [o] at s2; exact s2
          | exc x e1 S2 => rw [o] at s2; exact s2.elim
          | bad => rw [o] at s2; exact s2.elim
      | exc x S1 => rw [q] at st; exact st.elim
      | bad => rw [q] at st; exact st.elim
  exact go _ e S (Nat.le_refl _) h0
theorem en0_lc {g : D → Env → Option Env} {c : Env → M Bool} {f : Env → M D} {e0 : Env} {items : List D} {S : Store} {P : List D → Store → Prop} (I : Nat → List D → Store → Prop) (h0 : I 0 [] S)
    (hs : ∀ (i : Nat) d acc S, items[i]? = some d → I i acc S → ∃ e1, g d e0 = some e1 ∧ En0 (c e1 S) fun t S2 => (t = true → En0 (f e1 S2) fun y S3 => acc.length < 16000000 ∧ I (i + 1) (acc ++ [y]) S3) ∧ (t = false → I (i + 1) acc S2))
    (hd : ∀ l S, I items.length l S → P l S) : En0 (lcL (fun _ => True) g c f e0 items [] S) P := by
  have go : ∀ (l : List D) (i : Nat) (acc : List D) (S : Store), items.drop i = l → i ≤ items.length → I i acc S → En0 (lcL (fun _ => True) g c f e0 l acc S) P := by
    intro l
    induction l with
    | nil =>
      intro i acc S hl hi h
      rw [lcL, if_pos trivial]
      have e1 := drop_nil hl hi
      subst e1
      exact hd acc S h
    | cons d l ih =>
      intro i acc S hl hi h
      obtain ⟨h1, h2⟩ := drop_get hl
      have hlt : i < items.length := (List.getElem?_eq_some_iff.mp h1).1
      obtain ⟨e1, he1, st⟩ := hs i d acc S h1 h
      rw [lcL, if_pos trivial]
      simp only [he1]
      cases q : c e1 S with
      | ok t S2 =>
        rw [q] at st
        cases t with
        | false => exact ih (i + 1) acc S2 h2 hlt (st.2 rfl)
        | true =>
          have s2 := st.1 rfl
          simp only
          cases qf : f e1 S2 with
          | ok y S3 =>
            rw [qf] at s2
            have z : acc.length < 16000000 ∧ I (i + 1) (acc ++ [y]) S3 := s2
            simp only
            rw [if_pos z.1]
            exact ih (i + 1) _ S3 h2 hlt z.2
          | exc x S3 => rw [qf] at s2; exact s2.elim
          | bad => rw [qf] at s2; exact s2.elim
      | exc x S1 => rw [q] at st; exact st.elim
      | bad => rw [q] at st; exact st.elim
  exact go items 0 [] S rfl (Nat.zero_le _) h0

/-! ### sizes -/
theorem mulOk_bits {a b : Int} (h : Builtin.Int.intBits a + Builtin.Int.intBits b ≤ 134217728) : IntMulOk a b := by
  unfold IntMulOk
  intro z
  rw [Bool.and_eq_true] at z
  have z2 := z.2
  unfold Builtin.Int.intTooBig at z2
  have z3 := of_decide_eq_true z2
  have e : bitsLine = 134217728 := by decide
  rw [e] at z3
  omega
theorem bits_lt {a : Int} {n : Nat} (h : a.natAbs < 2 ^ n) : Builtin.Int.intBits a ≤ n := by
  unfold Builtin.Int.intBits
  split
  · exact Nat.zero_le _
  · rename_i hz
    have h0 : a.natAbs ≠ 0 := fun z => hz (by simpa using z)
    have := (Nat.log2_lt h0).mpr h
    omega
/-- below 2 ^ n in size -/
def Sz (n : Nat) (a : Int) : Prop := a.natAbs < 2 ^ n
theorem Sz.mulOk {a b : Int} {n m : Nat} (ha : Sz n a) (hb : Sz m b) (h : n + m ≤ 134217728) : IntMulOk a b := mulOk_bits (by have := bits_lt ha; have := bits_lt hb; omega)
theorem Sz.mul {a b : Int} {n m : Nat} (ha : Sz n a) (hb : Sz m b) : Sz (n + m) (a * b) := by
  unfold Sz at *
  rw [Int.natAbs_mul, Nat.pow_add]
  exact Nat.mul_lt_mul'' ha hb
theorem Sz.le {a : Int} {n m : Nat} (ha : Sz n a) (h : n ≤ m) : Sz m a := Nat.lt_of_lt_of_le ha (Nat.pow_le_pow_right (by decide) h)
theorem Sz.add {a b : Int} {n : Nat} (ha : Sz n a) (hb : Sz n b) : Sz (n + 1) (a + b) := by
  unfold Sz at *
  have : 2 ^ (n + 1) = 2 ^ n + 2 ^ n := by rw [Nat.pow_succ]; omega
  omega
theorem Sz.sub {a b : Int} {n : Nat} (ha : Sz n a) (hb : Sz n b) : Sz (n + 1) (a - b) := by
  unfold Sz at *
  have : 2 ^ (n + 1) = 2 ^ n + 2 ^ n := by rw [Nat.pow_succ]; omega
  omega
theorem Sz.neg {a : Int} {n : Nat} (ha : Sz n a) : Sz n (-a) := by
  unfold Sz at *
  omega
theorem Sz.of_le {a b : Int} {n : Nat} (hb : Sz n b) (h : a.natAbs ≤ b.natAbs) : Sz n a := Nat.lt_of_le_of_lt h hb
theorem Sz.log2 {a : Int} {n : Nat} (ha : Sz n a) (h0 : 0 < n) : a.natAbs.log2 < n := PySem.Flt.log2_lt_of h0 ha
theorem Sz.divOk {a b : Int} {n : Nat} (hb : Sz n b) (h : b ≠ 0) (hn : n ≤ 9000) : divOk a b := ⟨h, by
  have h1 : Sz (n + 1) b := hb.le (Nat.le_succ n)
  by_cases h0 : n = 0
  · subst h0
    have : b.natAbs < 1 := hb
    omega
  · have := hb.log2 (Nat.pos_of_ne_zero h0)
    omega⟩
theorem en0_seq {y y' : Env → Store → Out} {e : Env} {S : Store} {Q : Pst} (R : Env → Store → Prop) (h1 : EnO0 (y e S) { Q with nx := R }) (h2 : ∀ e S, R e S → EnO0 (y' e S) Q) : EnO0 (ySeq y y' e S) Q := by
  show EnO0 ((y e S).seq y') Q
  rw [eno0_seq]
  exact h1.imp (fun e S h => h2 e S h) (fun _ _ h => h) (fun _ _ h => h) (fun _ _ h => h)
theorem mulOkL {a b : Int} (h1 : -18446744073709551616 < a) (h2 : a < 18446744073709551616) : IntMulOk a b := .of_left (intBits_le_64 h1 h2)
theorem mulOkR {a b : Int} (h1 : -18446744073709551616 < b) (h2 : b < 18446744073709551616) : IntMulOk a b := .of_right (intBits_le_64 h1 h2)
theorem sz_of {a B : Int} {n : Nat} (h1 : -B < a) (h2 : a < B) (hB : B ≤ 2 ^ n) : Sz n a := by
  unfold Sz
  have : ((2 ^ n : Nat) : Int) = 2 ^ n := by simp
  omega
theorem divOk_lit {i j : Int} (h0 : 0 < j) (h1 : j < 1000000000000000000000000000000000000000000000000000000000000) : divOk i j := Sz.divOk (n := 200) (sz_of (B := 1000000000000000000000000000000000000000000000000000000000000) (by omega) h1 (by decide)) (by omega) (by decide)
theorem fdiv_pos {i j : Int} (h : 0 < j) : i.fdiv j = i / j := Int.fdiv_eq_ediv_of_nonneg i (Int.le_of_lt h)
theorem fmod_pos {i j : Int} (h : 0 < j) : i.fmod j = i % j := Int.fmod_eq_emod_of_nonneg i (Int.le_of_lt h)
theorem atI_map {α β : Type} (g : α → β) (l : List α) (i : Int) : L2.atI (l.map g) i = (L2.atI l i).map g := by
  unfold L2.atI
  rw [List.length_map]
  cases ixN l.length i with
  | none => rfl
  | some j => simp
theorem atI_in {α : Type} {l : List α} {i : Int} (h0 : 0 ≤ i) (h1 : i < l.length) : ∃ z, L2.atI l i = some z ∧ l[i.toNat]? = some z := by
  have hj : i.toNat < l.length := by omega
  refine ⟨l[i.toNat], ?_, List.getElem?_eq_getElem hj⟩
  have q := atI_nat (List.getElem?_eq_getElem hj)
  have e : ((i.toNat : Nat) : Int) = i := by omega
  rw [e] at q
  exact q
theorem atI_mem {α : Type} {l : List α} {i : Int} (h0 : 0 ≤ i) (h1 : i < l.length) : ∃ z ∈ l, L2.atI l i = some z := by
  obtain ⟨z, h, h2⟩ := atI_in h0 h1
  exact ⟨z, List.mem_of_getElem? h2, h⟩
@[simp] theorem atI_zero {α : Type} {a : α} {l : List α} : L2.atI (a :: l) 0 = some a := by
  have : (0 : Int) = ((0 : Nat) : Int) := rfl
  rw [this]
  exact atI_nat rfl
@[simp] theorem atI_one {α : Type} {a b : α} {l : List α} : L2.atI (a :: b :: l) 1 = some b := by
  have : (1 : Int) = ((1 : Nat) : Int) := rfl
  rw [this]
  exact atI_nat rfl
@[simp] theorem atI_two {α : Type} {a b c : α} {l : List α} : L2.atI (a :: b :: c :: l) 2 = some c := by
  have : (2 : Int) = ((2 : Nat) : Int) := rfl
  rw [this]
  exact atI_nat rfl
theorem irange_get {lo : Int} {n i : Nat} {d : D} (h : (irange lo n)[i]? = some d) : d = .int (lo + i) ∧ i < n := by
  unfold irange at h
  rw [List.getElem?_map] at h
  by_cases hi : i < n
  · rw [List.getElem?_range hi] at h
    exact ⟨(Option.some.inj h).symm, hi⟩
  · rw [List.getElem?_eq_none (by simpa using hi)] at h
    cases h
@[simp] theorem irange_length {lo : Int} {n : Nat} : (irange lo n).length = n := by simp [irange]
theorem rng62_of {i : Int} (h1 : -4611686018427387904 ≤ i) (h2 : i < 4611686018427387904) : rng62 i := ⟨by omega, by omega⟩
end Dv
/-! # Dv9: zip, enumerate, reversed; in; more methods; a list unpacked -/
namespace Dv
noncomputable section
open PySem PySem.Spec PyProof.Rows L2

/-! ### a list that stays while it is walked -/
def stL (d : D) (S : Store) : Option (List D × (Store → Prop)) := match d with
  | .lst l => some (l, fun _ => True)
  | .scr l => some (l, fun _ => True)
  | .cell n => match S[n]? with
    | some (.lst l) => some (l, fun S' => S'[n]? = some (.lst l))
    | _ => none
  | _ => none
theorem stL_ok {K : PySem.W.Frag} {w : Wl} {d : D} {v : V} {l : List D} {chk : Store → Prop} (hw : Wd K w) (hr : Rp K w.r w.F d v) (h : stL d w.S = some (l, chk)) :
    ∃ a, v = .ref a ∧ (∃ vs, SqL K w.H a vs ∧ Rps K w.r w.F l vs) ∧ ∀ w1, Go K w w1 → chk w1.S → ∃ vs, SqL K w1.H a vs ∧ Rps K w1.r w1.F l vs := by
  have gen : ∀ (d' : D), d' = d → (∀ w1, Go K w w1 → chk w1.S → getQ d' w1.S = some l) → getQ d' w.S = some l → ∃ a, v = .ref a ∧ (∃ vs, SqL K w.H a vs ∧ Rps K w.r w.F l vs) ∧ ∀ w1, Go K w w1 → chk w1.S → ∃ vs, SqL K w1.H a vs ∧ Rps K w1.r w1.F l vs := by
    intro d' e hq h0
    subst e
    obtain ⟨a, vs, rfl, q, p⟩ := getQ_ok hw hr h0
    refine ⟨a, rfl, ⟨vs, q, p⟩, fun w1 g hc => ?_⟩
    obtain ⟨a', vs', e', q', p'⟩ := getQ_ok g.wd (Rp.go g hr) (hq w1 g hc)
    cases e'
    exact ⟨vs', q', p'⟩
  cases d with
  | lst l' =>
    have e := Option.some.inj h
    cases e
    exact gen _ rfl (fun _ _ _ => rfl) rfl
  | scr l' =>
    have e := Option.some.inj h
    cases e
    exact gen _ rfl (fun _ _ _ => rfl) rfl
  | cell n =>
    unfold stL at h
    cases en : w.S[n]? with
    | none => simp only [en] at h; cases h
    | some c =>
      cases c with
      | lst l' =>
        simp only [en] at h
        have e := Option.some.inj h
        cases e
        refine gen _ rfl (fun w1 g hc => ?_) (by simp only [getQ, getL, en])
        have hc' : w1.S[n]? = some (.lst l) := hc
        simp only [getQ, getL, hc']
      | dct _ => simp only [en] at h; cases h
      | dead => simp only [en] at h; cases h
  | non => cases h
  | bl _ => cases h
  | int _ => cases h
  | str _ => cases h
  | tup _ => cases h
  | raw _ => cases h
  | cls _ => cases h
  | exn _ _ => cases h
def srcZip (l : List D) (S : Store) : Res Src := match l with
  | [a, b] => match stL a S, stL b S with
    | some (x, p), some (y, q) => .ok ⟨(x.zip y).map fun z => .tup [z.1, z.2], fun S' => p S' ∧ q S'⟩ S
    | _, _ => .bad
  | _ => .bad
def srcEnum (l : List D) (S : Store) : Res Src := match l with
  | [a] => match stL a S with
    | some (x, p) => .ok ⟨x.zipIdx.map fun z => .tup [.int z.2, z.1], p⟩ S
    | _ => .bad
  | _ => .bad
def srcRev (l : List D) (S : Store) : Res Src := match l with
  | [a] => match stL a S with
    | some (x, p) => .ok ⟨x.reverse, p⟩ S
    | _ => .bad
  | _ => .bad
section
variable {X : Cx} {W : WX} {e e2 : Expr} {elts : List Expr} {kk : Nat} {tpos pos p : Pos} {h : Env → M (List D)} {tg : Expr}
theorem pid_zip (hm : X.mg "zip" = none) (ha : PAD X W [e, e2] h) (hg : Gl X "zip" := by rfl) (hs : starEach [e, e2] X.env = (false, eval e X.env) :: starEach [e2] X.env := by rfl) (hpl : (backTo pos (starEach [e2] X.env)).any (·.1) = false := by rfl) :
    PID X W (.Tuple elts kk tpos) (.Call (.Name "zip" p) [e, e2] [] pos) (iSrcA srcZip h) := by
  refine weakI (pi_zip hg hm ha hs hpl) fun σ H R ⟨w, env, eH, hw, he, hs⟩ => ?_
  subst eH
  refine ⟨w, env, rfl, hw, he, SatW.imp (SatW.bind hs) fun w1 d v g1 r1 s1 => ?_⟩
  unfold srcZip at s1
  split at s1
  · rename_i a b
    split at s1
    · rename_i x p y q hx hy
      obtain ⟨va, vb, rfl, ra, rb⟩ := two_inv (show Rps X.K w1.r w1.F [a, b] v from r1)
      obtain ⟨pa, rfl, ⟨vs, q1, t1⟩, st1⟩ := stL_ok g1.wd ra hx
      obtain ⟨pb, rfl, ⟨us, q2, t2⟩, st2⟩ := stL_ok g1.wd rb hy
      refine ⟨pa, pb, vs, us, rfl, q1, q2, SatW.here s1 g1.wd (fun w2 g2 hc => ?_)⟩
      obtain ⟨vs', q1', t1'⟩ := st1 w2 g2 hc.1
      obtain ⟨us', q2', t2'⟩ := st2 w2 g2 hc.2
      refine ⟨fun i d e => ?_, vs', us', q1', q2', ?_⟩
      · rw [List.getElem?_map] at e
        cases ez : (x.zip y)[i]? with
        | none => rw [ez] at e; cases e
        | some z =>
          rw [ez] at e
          have ed := Option.some.inj e
          subst ed
          obtain ⟨e1, e2⟩ := List.getElem?_zip_eq_some.mp ez
          obtain ⟨v1, f1, rv1⟩ := t1'.get e1
          obtain ⟨v2, f2, rv2⟩ := t2'.get e2
          refine ⟨⟨vs', us', v1, v2, q1', q2', f1, f2⟩, fun xv H' yl => ?_⟩
          obtain ⟨Tp, x1, x2, rfl, nT, rfl, k1, k2⟩ := yl
          have ex1 : x1 = v1 := Option.some.inj ((k1 _ q1').symm.trans f1)
          have ex2 : x2 = v2 := Option.some.inj ((k2 _ q2').symm.trans f2)
          subst ex1 ex2
          refine ⟨⟨w2.r, upd w2.F Tp (.tup [x1, x2]), w2.S, upd w2.H Tp (.tup [x1, x2])⟩, Go.alloc g2.wd nT, rfl, rfl, ?_⟩
          unfold Rp
          refine ⟨Tp, [x1, x2], rfl, .inl upd_same, Rps.mono (r := w2.r) (F := w2.F) ⟨[], by simp⟩ (fun b z e => ?_) _ _ (rps_cons rv1 (rps_cons rv2 rps_nil))⟩
          show upd w2.F Tp _ b = _
          rw [upd_ne (ne_of_none e (g2.wd.fresh nT))]
          exact e
      · have l1 := t1'.length
        have l2 := t2'.length
        simp only [List.length_map, List.length_zip]
        omega
    · exact s1.elim
  · exact s1.elim
theorem pid_enum (hm : X.mg "enumerate" = none) (ha : PAD X W [e] h) (hg : Gl X "enumerate" := by rfl) (hs : starEach [e] X.env = [(false, eval e X.env)] := by rfl) :
    PID X W (.Tuple elts kk tpos) (.Call (.Name "enumerate" p) [e] [] pos) (iSrcA srcEnum h) := by
  refine weakI (pi_enum hg hm ha hs) fun σ H R ⟨w, env, eH, hw, he, hs⟩ => ?_
  subst eH
  refine ⟨w, env, rfl, hw, he, SatW.imp (SatW.bind hs) fun w1 d v g1 r1 s1 => ?_⟩
  unfold srcEnum at s1
  split at s1
  · rename_i a
    split at s1
    · rename_i x p hx
      obtain ⟨va, rfl, ra⟩ := one_inv (show Rps X.K w1.r w1.F [a] v from r1)
      obtain ⟨pa, rfl, ⟨vs, q1, t1⟩, st1⟩ := stL_ok g1.wd ra hx
      refine ⟨pa, vs, rfl, q1, SatW.here s1 g1.wd (fun w2 g2 hc => ?_)⟩
      obtain ⟨vs', q1', t1'⟩ := st1 w2 g2 hc
      refine ⟨fun i d e => ?_, vs', q1', ?_⟩
      · rw [List.getElem?_map, List.getElem?_zipIdx] at e
        cases ez : x[i]? with
        | none => rw [ez] at e; cases e
        | some z =>
          rw [ez] at e
          have ed := Option.some.inj e
          subst ed
          obtain ⟨v1, f1, rv1⟩ := t1'.get ez
          refine ⟨⟨vs', v1, q1', f1⟩, fun xv H' yl => ?_⟩
          obtain ⟨Tp, x1, rfl, nT, rfl, k1⟩ := yl
          have ex1 : x1 = v1 := Option.some.inj ((k1 _ q1').symm.trans f1)
          subst ex1
          refine ⟨⟨w2.r, upd w2.F Tp (.tup [.int (i : Nat), x1]), w2.S, upd w2.H Tp (.tup [.int (i : Nat), x1])⟩, Go.alloc g2.wd nT, rfl, rfl, ?_⟩
          unfold Rp
          refine ⟨Tp, [.int (i : Nat), x1], rfl, .inl upd_same, Rps.mono (r := w2.r) (F := w2.F) ⟨[], by simp⟩ (fun b z e => ?_) _ _ (rps_cons (by simp; exact rpi) (rps_cons rv1 rps_nil))⟩
          show upd w2.F Tp _ b = _
          rw [upd_ne (ne_of_none e (g2.wd.fresh nT))]
          exact e
      · simp only [List.length_map, List.length_zipIdx]
        exact Nat.le_of_eq t1'.length
    · exact s1.elim
  · exact s1.elim
theorem pid_rev (hm : X.mg "reversed" = none) (ha : PAD X W [e] h) (hg : Gl X "reversed" := by rfl) (hs : starEach [e] X.env = [(false, eval e X.env)] := by rfl) :
    PID X W tg (.Call (.Name "reversed" p) [e] [] pos) (iSrcA srcRev h) := by
  refine weakI (pi_reversed hg hm ha hs) fun σ H R ⟨w, env, eH, hw, he, hs⟩ => ?_
  subst eH
  refine ⟨w, env, rfl, hw, he, SatW.imp (SatW.bind hs) fun w1 d v g1 r1 s1 => ?_⟩
  unfold srcRev at s1
  split at s1
  · rename_i a
    split at s1
    · rename_i x p hx
      obtain ⟨va, rfl, ra⟩ := one_inv (show Rps X.K w1.r w1.F [a] v from r1)
      obtain ⟨pa, rfl, ⟨vs, q1, t1⟩, st1⟩ := stL_ok g1.wd ra hx
      refine ⟨pa, vs, rfl, q1, SatW.here s1 g1.wd (fun w2 g2 hc => ?_)⟩
      obtain ⟨vs', q1', t1'⟩ := st1 w2 g2 hc
      have hl : vs.length = vs'.length := t1.length.trans t1'.length.symm
      refine ⟨fun i d e => ?_, ?_⟩
      · have hi : i < x.length := by
          have := (List.getElem?_eq_some_iff.mp e).1
          simpa using this
        rw [List.getElem?_reverse hi] at e
        obtain ⟨v1, f1, rv1⟩ := t1'.get e
        rw [← t1'.length, ← hl] at f1
        refine ⟨⟨by rw [t1.length]; exact hi, vs', v1, q1', f1⟩, fun xv H' yl => ?_⟩
        obtain ⟨rfl, k1⟩ := yl
        have ex1 : xv = v1 := Option.some.inj ((k1 _ q1').symm.trans f1)
        subst ex1
        exact ⟨w2, Go.refl g2.wd, rfl, rfl, rv1⟩
      · show vs.length ≤ x.reverse.length
        rw [List.length_reverse, t1.length]
        exact Nat.le_refl _
    · exact s1.elim
  · exact s1.elim
end
@[simp] theorem srcZip_lst {a b : List D} {S : Store} : srcZip [.lst a, .lst b] S = .ok ⟨(a.zip b).map fun z => .tup [z.1, z.2], fun _ => True⟩ S := by simp [srcZip, stL]
@[simp] theorem srcEnum_lst {a : List D} {S : Store} : srcEnum [.lst a] S = .ok ⟨a.zipIdx.map fun z => .tup [.int z.2, z.1], fun _ => True⟩ S := rfl
@[simp] theorem srcRev_lst {a : List D} {S : Store} : srcRev [.lst a] S = .ok ⟨a.reverse, fun _ => True⟩ S := rfl

/-! ### in, not in: flat things -/
def flatD : D → Bool
  | .non => true
  | .bl _ => true
  | .int _ => true
  | .str _ => true
  | _ => false
def eqFl : D → D → Bool
  | .non, .non => true
  | .bl a, .bl b => a == b
  | .bl a, .int b => (if a then 1 else 0) == b
  | .int a, .bl b => a == (if b then 1 else 0)
  | .int a, .int b => a == b
  | .str a, .str b => a == b
  | _, _ => false
def inFl (x : D) (l : List D) : Bool := l.any fun y => eqFl y x
def getI (d : D) (S : Store) : Option (List D) := match d with
  | .tup l => some l
  | d => getQ d S
def dInX (neg : Bool) (x y : D) (S : Store) : Res D := match getI y S with
  | some l => if flatD x = true ∧ l.all flatD = true then .ok (.bl (if neg then !inFl x l else inFl x l)) S else .bad
  | none => .bad
def dIn := dInX false
def dNotIn := dInX true
section
variable {K : PySem.W.Frag} {r : List Addr} {F : Hp}
theorem flat_v {d : D} {v : V} (h : Rp K r F d v) (f : flatD d = true) : flatV v = true ∧ ∀ {e : D} {u : V}, Rp K r F e u → flatD e = true → eqV u v = eqFl e d := by
  cases d with
  | non =>
    cases rp_non h
    refine ⟨rfl, fun {e u} hu fe => ?_⟩
    cases e with
    | non => cases rp_non hu; rfl
    | bl _ => cases rp_bl hu; rfl
    | int _ => cases rp_int hu; rfl
    | str _ => cases rp_str hu; rfl
    | _ => cases fe
  | bl b =>
    cases rp_bl h
    refine ⟨rfl, fun {e u} hu fe => ?_⟩
    cases e with
    | non => cases rp_non hu; rfl
    | bl _ => cases rp_bl hu; rfl
    | int _ => cases rp_int hu; rfl
    | str _ => cases rp_str hu; rfl
    | _ => cases fe
  | int b =>
    cases rp_int h
    refine ⟨rfl, fun {e u} hu fe => ?_⟩
    cases e with
    | non => cases rp_non hu; rfl
    | bl _ => cases rp_bl hu; rfl
    | int _ => cases rp_int hu; rfl
    | str _ => cases rp_str hu; rfl
    | _ => cases fe
  | str b =>
    cases rp_str h
    refine ⟨rfl, fun {e u} hu fe => ?_⟩
    cases e with
    | non => cases rp_non hu; rfl
    | bl _ => cases rp_bl hu; rfl
    | int _ => cases rp_int hu; rfl
    | str _ => cases rp_str hu; rfl
    | _ => cases fe
  | _ => cases f
theorem flats_v {x : D} {v : V} (hx : Rp K r F x v) (fx : flatD x = true) : ∀ {l : List D} {vs : List V}, Rps K r F l vs → l.all flatD = true → vs.all flatV = true ∧ inV v vs = inFl x l
  | [], vs, h, _ => by rw [h.nil_inv]; exact ⟨rfl, rfl⟩
  | d :: l, vs, h, f => by
    obtain ⟨u, t, rfl, h1, h2⟩ := h.cons_inv
    rw [List.all_cons, Bool.and_eq_true] at f
    obtain ⟨f1, _⟩ := flat_v h1 f.1
    obtain ⟨f3, f4⟩ := flats_v hx fx h2 f.2
    refine ⟨by rw [List.all_cons, f1, f3]; rfl, ?_⟩
    have e1 : eqV u v = eqFl d x := (flat_v hx fx).2 h1 f.1
    unfold inV inFl at f4 ⊢
    rw [List.any_cons, List.any_cons, e1, f4]
theorem getI_ok {w : Wl} {d : D} {v : V} {l : List D} (hw : Wd K w) (hr : Rp K w.r w.F d v) (h : getI d w.S = some l) : ∃ a vs, v = .ref a ∧ (SqL K w.H a vs ∨ SqT K w.H a vs) ∧ Rps K w.r w.F l vs := by
  have gen : getQ d w.S = some l → ∃ a vs, v = .ref a ∧ (SqL K w.H a vs ∨ SqT K w.H a vs) ∧ Rps K w.r w.F l vs := fun h => by
    obtain ⟨a, vs, e, q, p⟩ := getQ_ok hw hr h
    exact ⟨a, vs, e, .inl q, p⟩
  cases d with
  | tup l' =>
    obtain ⟨a, vs, e, q, p⟩ := getT_ok hw hr h
    exact ⟨a, vs, e, .inr (.inl q), p⟩
  | _ => exact gen h
end
section
variable {X : Cx}
theorem od_in : OpD X (compareOp .In) dIn := ⟨_, op_in_seq, fun w x y d e W σ Q hw r1 r2 hs => by
  unfold dIn dInX at hs
  split at hs
  · rename_i l hl
    obtain ⟨hf, hs⟩ := satIf hs
    obtain ⟨a, vs, e1, q, t⟩ := getI_ok hw r2 hl
    obtain ⟨f1, f2⟩ := flats_v (show Rp X.K w.r w.F d x from r1) hf.1 t hf.2
    refine ⟨a, vs, e1, q, (flat_v (show Rp X.K w.r w.F d x from r1) hf.1).1, f1, ?_⟩
    rw [f2]
    exact SatW.here hs hw rpb
  · exact hs.elim⟩
theorem od_notIn : OpD X (compareOp .NotIn) dNotIn := ⟨_, op_notIn_seq, fun w x y d e W σ Q hw r1 r2 hs => by
  unfold dNotIn dInX at hs
  split at hs
  · rename_i l hl
    obtain ⟨hf, hs⟩ := satIf hs
    obtain ⟨a, vs, e1, q, t⟩ := getI_ok hw r2 hl
    obtain ⟨f1, f2⟩ := flats_v (show Rp X.K w.r w.F d x from r1) hf.1 t hf.2
    refine ⟨a, vs, e1, q, (flat_v (show Rp X.K w.r w.F d x from r1) hf.1).1, f1, ?_⟩
    rw [f2]
    exact SatW.here hs hw rpb
  · exact hs.elim⟩

/-! ### more methods -/
def mInsert (x : D) (a : List D) (S : Store) : Res D := match a, cellL x S with
  | [.int i, y], some (n, l) => if l.length < 16000000 ∧ 0 ≤ i ∧ i < 4611686018427387904 then .ok .non (S.set n (.lst (l.take i.toNat ++ [y] ++ l.drop i.toNat))) else .bad
  | _, _ => .bad
def mPop (x : D) (a : List D) (S : Store) : Res D := match a, cellL x S with
  | [], some (n, l) => match l[l.length - 1]? with
    | some y => .ok y (S.set n (.lst l.dropLast))
    | none => .bad
  | _, _ => .bad
def mPopAt (x : D) (a : List D) (S : Store) : Res D := match a, cellL x S with
  | [.int i], some (n, l) => if rng62 i then match seqIndex? i l.length with
      | some k => match l[k]? with
        | some y => .ok y (S.set n (.lst (l.eraseIdx k)))
        | none => .bad
      | none => .bad
    else .bad
  | _, _ => .bad
def mCount (x : D) (a : List D) (S : Store) : Res D := match a with
  | [.int k] => match (getQ x S).bind intsOf with
    | some ns => .ok (.int (ns.count k : Nat)) S
    | none => .bad
  | _ => .bad
theorem Rps.dropLast {K : PySem.W.Frag} {r : List Addr} {F : Hp} {l : List D} {vs : List V} (h : Rps K r F l vs) : Rps K r F l.dropLast vs.dropLast := by
  rw [List.dropLast_eq_take, List.dropLast_eq_take, h.length]
  exact h.take _
theorem Rps.eraseIdx {K : PySem.W.Frag} {r : List Addr} {F : Hp} {l : List D} {vs : List V} (h : Rps K r F l vs) (k : Nat) : Rps K r F (l.eraseIdx k) (vs.eraseIdx k) := by
  rw [List.eraseIdx_eq_take_drop_succ, List.eraseIdx_eq_take_drop_succ]
  exact (h.take _).append (h.drop _)
theorem md_insert : MtD X "list.insert" mInsert := ⟨_, mt_insert, fun w x xs d ds W σ Q hw r1 r2 hs => by
  unfold mInsert at hs
  split at hs
  · rename_i i y n l hc
    obtain ⟨rfl, en⟩ := cellL_eq hc
    obtain ⟨hl, hs⟩ := satIf hs
    obtain ⟨v, u, rfl, rv, ru⟩ := two_inv r2
    obtain ⟨a, vs, rfl, ha, p, go⟩ := cell_write (T := kt X) (l' := l.take i.toNat ++ [y] ++ l.drop i.toNat) hw r1 en
    refine ⟨a, vs, i, u, rfl, by rw [rp_int rv], ha, by rw [p.length]; exact Nat.lt_of_lt_of_le hl.1 (line16 (Nat.le_refl _)), hl.2.1, by omega, ?_⟩
    exact hs _ V.non (go _ (((p.take _).append (rps_cons ru rps_nil)).append (p.drop _))) rfl rpn
  · exact hs.elim⟩
theorem md_pop : MtD X "list.pop" mPop := ⟨_, mt_pop, fun w x xs d ds W σ Q hw r1 r2 hs => by
  unfold mPop at hs
  split at hs
  · rename_i n l hc
    obtain ⟨rfl, en⟩ := cellL_eq hc
    split at hs
    · rename_i y hy
      obtain ⟨a, vs, rfl, ha, p, go⟩ := cell_write (T := kt X) (l' := l.dropLast) hw r1 en
      obtain ⟨v, ev, rv⟩ := p.get hy
      refine ⟨a, vs, v, rfl, r2.nil_inv, ha, by rw [p.length]; exact ev, ?_⟩
      exact hs _ v (go _ p.dropLast) rfl (show Rp X.K w.r w.F y v from rv)
    · exact hs.elim
  · exact hs.elim⟩
theorem md_popAt : MtD X "list.pop" mPopAt := ⟨_, mt_popAt, fun w x xs d ds W σ Q hw r1 r2 hs => by
  unfold mPopAt at hs
  split at hs
  · rename_i i n l hc
    obtain ⟨rfl, en⟩ := cellL_eq hc
    obtain ⟨hi, hs⟩ := satIf hs
    split at hs
    · rename_i k hk
      split at hs
      · rename_i y hy
        obtain ⟨v0, rfl, rv0⟩ := one_inv r2
        obtain ⟨a, vs, rfl, ha, p, go⟩ := cell_write (T := kt X) (l' := l.eraseIdx k) hw r1 en
        obtain ⟨v, ev, rv⟩ := p.get hy
        have b1 := hi.1
        have b2 := hi.2
        refine ⟨a, vs, i, k, v, rfl, by rw [rp_int rv0], ha, by omega, by omega, by rw [p.length]; exact hk, ev, ?_⟩
        exact hs _ v (go _ (p.eraseIdx k)) rfl (show Rp X.K w.r w.F y v from rv)
      · exact hs.elim
    · exact hs.elim
  · exact hs.elim⟩
theorem md_count : MtD X "list.count" mCount := ⟨_, mt_lcount, fun w x xs d ds W σ Q hw r1 r2 hs => by
  unfold mCount at hs
  split at hs
  · rename_i k
    obtain ⟨v0, rfl, rv0⟩ := one_inv r2
    split at hs
    · rename_i ns h
      obtain ⟨a, e1, q⟩ := ints_of hw r1 h
      exact ⟨a, ns, k, e1, by rw [rp_int rv0], q, SatW.here hs hw rpi⟩
    · exact hs.elim
  · exact hs.elim⟩
theorem md_extend : MtD X "list.extend" mExtend := ⟨_, mt_extend, fun w x xs d ds W σ Q hw r1 r2 hs => by
  unfold mExtend at hs
  split at hs
  · rename_i z n l hc
    obtain ⟨rfl, en⟩ := cellL_eq hc
    obtain ⟨hl, hs⟩ := satIf hs
    obtain ⟨v0, rfl, rv0⟩ := one_inv r2
    obtain ⟨b, zs, rfl, hb, t⟩ := getL_ok hw rv0 rfl
    obtain ⟨a, vs, rfl, ha, p, go⟩ := cell_write (T := kt X) (l' := l ++ z) hw r1 en
    refine ⟨a, b, vs, zs, rfl, rfl, ha, hb, by rw [p.length, t.length]; exact line16 hl, ?_⟩
    exact hs _ V.non (go _ (p.append t)) rfl rpn
  · exact hs.elim⟩
end

/-! ### a list unpacked -/
def gL (n : Nat) (h : List D → Env → Store → Out) : D → Env → Store → Out := fun d e S => match getQ d S with
  | some l => if l.length = n then h l e S else .bad
  | none => .bad
section
variable {X : Cx} {es : List Expr} {pos : Pos}
theorem pgd_unl {n : Nat} {kk : Nat} {hh : List D → Env → Store → Out} (hc : X.calm = true) (h2 : PGsD X es hh) (hn : (assignEach es X.env).length = n := by rfl) (hst : (assignEach es X.env).findIdx? (·.1) = none := by rfl) : PGD X (.Tuple es kk pos) (gL n hh) := by
  refine weakG (pg_unl hc h2 hn hst) fun v σ H Q ⟨w, env, d, eH, hw, he, hr, hs⟩ => ?_
  subst eH
  have hs' : SatG (kt X) w (match getQ d w.S with | some l => if l.length = n then hh l env w.S else .bad | none => .bad) Q := hs
  cases q : getQ d w.S with
  | none => rw [q] at hs'; exact hs'.elim
  | some l =>
    rw [q] at hs'
    have hs2 : SatG (kt X) w (if l.length = n then hh l env w.S else .bad) Q := hs'
    by_cases hl : l.length = n
    · rw [if_pos hl] at hs2
      obtain ⟨a, vs, rfl, q, p⟩ := getQ_ok hw hr q
      exact ⟨a, vs, rfl, q, by rw [p.length]; exact hl, w, env, l, rfl, hw, he, p, hs2⟩
    · rw [if_neg hl] at hs2
      exact hs2.elim
end
end
end Dv
/-! # Dv10: counting over data -/
namespace Dv
noncomputable section
open PySem PySem.Spec PyProof.Rows L2

def rCntD (K : PySem.W.Frag) : V → List V → Hp → VK → Prop := fun x xs H Q => ∃ (p : Addr) (vs : List V) (ds : List PyData) (v : V) (d : PyData), x = .ref p ∧ xs = [v] ∧ SqL K H p vs ∧ DpAll K H vs ds ∧ Dp K H v d ∧ PyData.plainAll ds = true ∧ d.plain = true ∧ d.depth ≤ 60 ∧ Q (.int (ds.countP fun y => PyData.eqv y d : Nat)) H
theorem mt_countD {X : Cx} (hu : X.A.units + 64 < cLine) : MtR X "list.count" (rCntD X.K) := by
  intro pins s σ H x xs v us Q I rx rxs h
  obtain ⟨p, vs, ds, u, d, rfl, rfl, hs, ha, hd, h1, h2, h3, q⟩ := h
  cases rx
  obtain ⟨u', rfl, ru⟩ := rxs.one
  obtain ⟨its, rv, ⟨o, n, ho, hc, hdn, hd2⟩, hlen⟩ := I.list hs
  obtain ⟨as, r1⟩ := Dp.readsAll I ds vs its ha rv
  obtain ⟨bs, r2⟩ := Dp.reads I d u u' hd ru
  refine SeqAt.count_list_data (vs := its.toArray) ⟨o, ho, hc, n, hd2⟩ (by simpa using r1) r2 h1 h2 ?_ ?_
  · have : min (PyData.depthAll ds) d.depth ≤ d.depth := Nat.min_le_right _ _
    omega
  · exact ⟨.int (ds.countP fun y => PyData.eqv y d : Nat), H, I.tok _, ⟨s.toks, rfl⟩, q⟩
def mCountD (x : D) (a : List D) (S : Store) : Res D := match a with
  | [k] => match toP S 60 k, (getQ x S).bind (toPs S 60) with
    | some d, some ds => .ok (.int (ds.countP fun y => PyData.eqv y d : Nat)) S
    | _, _ => .bad
  | _ => .bad
theorem toPs_plain {S : Store} {n : Nat} {l : List D} {ps : List PyData} (h : toPs S n l = some ps) : PyData.plainAll ps = true := by
  have := (toP_ok (S := S) (n + 1) (.lst l) (.list ps) (by rw [toP, h]; rfl)).1
  have q := PyData.plain_of_canLay0 _ this
  simpa [PyData.plain] using q
theorem md_countD {X : Cx} (hu : X.A.units + 64 < cLine) : MtD X "list.count" mCountD := ⟨_, mt_countD hu, fun w x xs d ds W σ Q hw r1 r2 hs => by
  unfold mCountD at hs
  split at hs
  · rename_i k
    obtain ⟨v0, rfl, rv0⟩ := one_inv r2
    split at hs
    · rename_i p ps h1 h2
      cases q : getQ d w.S with
      | none => rw [q] at h2; cases h2
      | some l =>
        rw [q] at h2
        obtain ⟨a, vs, e1, hq, t⟩ := getQ_ok hw r1 q
        obtain ⟨h3, h4⟩ := toP_ok 60 k p h1
        exact ⟨a, vs, ps, v0, p, e1, rfl, hq, toPs_dp hw 60 l vs ps h2 t, toP_dp hw 60 k v0 p h1 rv0, toPs_plain h2, PyData.plain_of_canLay0 _ h3, h4, SatW.here hs hw rpi⟩
    · exact hs.elim
  · exact hs.elim⟩
theorem bt3 {a b c : Bool} : (mCountD (.lst [.bl a, .bl b, .bl c]) [.bl true] : M D) = fun S => .ok (.int ((if a then 1 else 0) + (if b then 1 else 0) + (if c then 1 else 0))) S := by
  funext S
  cases a <;> cases b <;> cases c <;> simp [mCountD, getQ, toP, toPs, PyData.eqv]
theorem toPs_ints {S : Store} {n : Nat} : ∀ cs : List Int, toPs S n (cs.map D.int) = some (cs.map PyData.int)
  | [] => by simp [toPs]
  | c :: cs => by
    have e : toP S n (D.int c) = some (.int c) := by cases n <;> simp [toP]
    simp [toPs, e, toPs_ints cs]
/-! ### stores: what stands ahead, and the cells behind -/
section
variable {P R : Store} {a b c x : Cn} {L : Nat}
theorem app_at0 (h : P.length = L) : (P ++ a :: R)[L]? = some a := by rw [List.getElem?_append_right (by omega)]; simp [h]
theorem app_at1 (h : P.length = L) : (P ++ a :: b :: R)[L + 1]? = some b := by rw [List.getElem?_append_right (by omega)]; simp [h]
theorem app_at2 (h : P.length = L) : (P ++ a :: b :: c :: R)[L + 2]? = some c := by rw [List.getElem?_append_right (by omega)]; simp [h]
theorem app_set0 (h : P.length = L) : (P ++ a :: R).set L x = P ++ x :: R := by rw [List.set_append_right _ _ (by omega)]; simp [h]
theorem app_set1 (h : P.length = L) : (P ++ a :: b :: R).set (L + 1) x = P ++ a :: x :: R := by rw [List.set_append_right _ _ (by omega)]; simp [h]
theorem app_set2 (h : P.length = L) : (P ++ a :: b :: c :: R).set (L + 2) x = P ++ a :: b :: x :: R := by rw [List.set_append_right _ _ (by omega)]; simp [h]
theorem fin_cut {d : D} (h : P.length = L) (hu : (P.all fun c => c.under L) = true) (hd : d.under L = true) : fin false L d (P ++ R) = .ok d P := by
  unfold fin
  have e : (P ++ R).take L = P := by rw [← h]; simp
  by_cases z : (false = true ∨ (P ++ R).length = L)
  · rw [if_pos z]
    rcases z with z | z
    · cases z
    · rw [List.length_append] at z
      have : R = [] := List.length_eq_zero_iff.mp (by omega)
      subst this
      simp
  · rw [if_neg z, e, hd, hu]
    rfl
end
theorem underL_ints {n : Nat} : ∀ cs : List Int, D.underL n (cs.map D.int) = true
  | [] => rfl
  | c :: cs => by rw [List.map_cons, D.underL, underL_ints cs]; rfl
theorem underL_of {n : Nat} : ∀ {l : List D}, (∀ d ∈ l, D.under n d = true) → D.underL n l = true
  | [], _ => rfl
  | d :: l, h => by rw [D.underL, h d (by simp), underL_of fun x hx => h x (by simp [hx])]; rfl
theorem all_set_under {n k : Nat} {x : Cn} {P : Store} (h : (P.all fun c => c.under n) = true) (hx : x.under n = true) : ((P.set k x).all fun c => c.under n) = true := by
  rw [List.all_eq_true] at *
  intro c hc
  rcases List.mem_or_eq_of_mem_set hc with z | z
  · exact h c z
  · rw [z]; exact hx
/-- a comprehension that only reckons -/
theorem lc_map {α : Type} {g : D → Env → Option Env} {f : Env → M D} {e0 : Env} {S : Store} (emb ψ : α → D) : ∀ (items : List α) (acc : List D), (∀ a ∈ items, ∃ e1, g (emb a) e0 = some e1 ∧ f e1 S = .ok (ψ a) S) → acc.length + items.length ≤ 16000000 → lcL (fun _ => True) g cYes f e0 (items.map emb) acc S = .ok (acc ++ items.map ψ) S
  | [], acc, _, _ => by rw [List.map_nil, lcL, if_pos trivial]; simp
  | a :: items, acc, h, hl => by
    obtain ⟨e1, h1, h2⟩ := h a (by simp)
    rw [List.length_cons] at hl
    rw [List.map_cons, lcL, if_pos trivial]
    simp only [h1, cYes, h2]
    rw [if_pos (by omega), lc_map emb ψ items _ (fun x hx => h x (by simp [hx])) (by rw [List.length_append, List.length_singleton]; omega)]
    simp
theorem irange_map {lo : Int} {n : Nat} : irange lo n = (List.range n).map fun (i : Nat) => D.int (lo + i) := rfl
end
end Dv
/-! # Dv11: Ens and EnsO as structures, so that nobody reckons through them -/
namespace Dv
open PySem PySem.Spec PyProof.Rows L2
structure Ens {α : Type} (x : Res α) (P : α → Store → Prop) : Prop where
  go : En0 x P
structure EnsO (o : Out) (Q : Pst) : Prop where
  go : EnO0 o Q
theorem ens_is {α : Type} {x : Res α} {P : α → Store → Prop} : Ens x P = En0 x P := propext ⟨fun h => h.go, fun h => ⟨h⟩⟩
theorem enso_is {o : Out} {Q : Pst} : EnsO o Q = EnO0 o Q := propext ⟨fun h => h.go, fun h => ⟨h⟩⟩
section
variable {α β : Type} {x : Res α} {a : α} {S : Store} {P : α → Store → Prop} {Q : Pst} {e : Env} {d : D}
@[simp] theorem ens_ok : Ens (.ok a S) P = P a S := ens_is
@[simp] theorem ens_bad : Ens (.bad : Res α) P = False := ens_is
@[simp] theorem ens_exc {y : Exn} : Ens (.exc y S : Res α) P = False := ens_is
@[simp] theorem ens_bind {k : α → Store → Res β} {P : β → Store → Prop} : Ens (x.bind k) P = Ens x (fun a S => Ens (k a S) P) := by
  rw [ens_is, ens_is, en0_bind]
  congr 1
  funext a S
  rw [ens_is]
theorem Ens.imp {P' : α → Store → Prop} (h : Ens x P) (q : ∀ a S, P a S → P' a S) : Ens x P' := ⟨h.go.imp q⟩
theorem ens_eq {v : α} : Ens x (fun a S' => a = v ∧ S' = S) ↔ x = .ok v S := by rw [ens_is]; exact en0_eq
theorem Ens.get (h : Ens x P) : ∃ a S, x = .ok a S ∧ P a S := En0.get h.go
@[simp] theorem ens_if {c : Prop} [Decidable c] : Ens (if c then x else .bad) P = (c ∧ Ens x P) := by rw [ens_is, ens_is, en0_if]
@[simp] theorem ens_if' {c : Prop} [Decidable c] : Ens (if c then .bad else x) P = (¬ c ∧ Ens x P) := by rw [ens_is, ens_is, en0_if']
theorem ens_ite {c : Prop} [Decidable c] {y : Res α} (h1 : c → Ens x P) (h2 : ¬ c → Ens y P) : Ens (if c then x else y) P := ⟨en0_ite (fun h => (h1 h).go) fun h => (h2 h).go⟩
@[simp] theorem enso_nx : EnsO (.nx e S) Q = Q.nx e S := enso_is
@[simp] theorem enso_rt : EnsO (.rt d S) Q = Q.rt d S := enso_is
@[simp] theorem enso_bk : EnsO (.bk e S) Q = Q.bk e S := enso_is
@[simp] theorem enso_ct : EnsO (.ct e S) Q = Q.ct e S := enso_is
@[simp] theorem enso_bad : EnsO .bad Q = False := enso_is
@[simp] theorem enso_out {k : α → Store → Out} : EnsO (x.out e k) Q = Ens x (fun a S => EnsO (k a S) Q) := by
  rw [enso_is, ens_is, eno0_out]
  congr 1
  funext a S
  rw [enso_is]
@[simp] theorem enso_seq {o : Out} {k : Env → Store → Out} : EnsO (o.seq k) Q = EnsO o { Q with nx := fun e S => EnsO (k e S) Q } := by
  rw [enso_is, enso_is, eno0_seq]
  congr 1
  congr 1
  funext e S
  rw [enso_is]
theorem EnsO.imp {o : Out} {Q' : Pst} (h : EnsO o Q) (h1 : ∀ e S, Q.nx e S → Q'.nx e S) (h2 : ∀ e S, Q.rt e S → Q'.rt e S) (h3 : ∀ e S, Q.bk e S → Q'.bk e S) (h4 : ∀ e S, Q.ct e S → Q'.ct e S) : EnsO o Q' := ⟨h.go.imp h1 h2 h3 h4⟩
theorem enso_ite {c : Prop} [Decidable c] {o p : Out} (h1 : c → EnsO o Q) (h2 : ¬ c → EnsO p Q) : EnsO (if c then o else p) Q := ⟨eno0_ite (fun h => (h1 h).go) fun h => (h2 h).go⟩
end
theorem ens_fn {np ns : Nat} {keep : Bool} {body : Env → Store → Out} {ds : List D} {S : Store} {P : D → Store → Prop} (hl : ds.length = np)
    (h : EnsO (body (ds.map some ++ List.replicate (ns - np) none) S) { nx := fun _ S' => Ens (fin keep S.length .non S') P, rt := fun d S' => Ens (fin keep S.length d S') P }) : Ens (fnD np ns keep body ds S) P :=
  ⟨en0_fn hl (h.go.imp (fun _ _ h => h.go) (fun _ _ h => h.go) (fun _ _ h => h.elim) (fun _ _ h => h.elim))⟩
theorem ens_for {g : D → Env → Store → Out} {b : Env → Store → Out} {items : List D} {e : Env} {S : Store} {Q : Pst} (I : Nat → Env → Store → Prop) (h0 : I 0 e S)
    (hs : ∀ (i : Nat) d e S, items[i]? = some d → I i e S → EnsO (g d e S) { nx := fun e1 S1 => EnsO (b e1 S1) { nx := I (i + 1), ct := I (i + 1), bk := Q.nx, rt := Q.rt } })
    (hd : ∀ e S, I items.length e S → Q.nx e S) : EnsO (forL (fun _ => True) g b items e S) Q :=
  ⟨en0_for I h0 (fun i d e S h1 h2 => (hs i d e S h1 h2).go.imp (fun _ _ h => h.go) (fun _ _ h => h.elim) (fun _ _ h => h.elim) (fun _ _ h => h.elim)) hd⟩
theorem ens_while {c : Env → M Bool} {b : Env → Store → Out} {Q : Pst} (I : Env → Store → Prop) (m : Env → Store → Nat)
    (hs : ∀ e S, I e S → Ens (c e S) fun t S1 => (t = true → EnsO (b e S1) { nx := fun e' S' => I e' S' ∧ m e' S' < m e S, ct := fun e' S' => I e' S' ∧ m e' S' < m e S, bk := Q.nx, rt := Q.rt }) ∧ (t = false → Q.nx e S1)) {e : Env} {S : Store} (h0 : I e S) : EnsO (yWhile c b e S) Q :=
  ⟨en0_while I m (fun e S h => (hs e S h).go.imp fun t S1 z => ⟨fun q => (z.1 q).go, z.2⟩) h0⟩
theorem ens_lc {g : D → Env → Option Env} {c : Env → M Bool} {f : Env → M D} {e0 : Env} {items : List D} {S : Store} {P : List D → Store → Prop} (I : Nat → List D → Store → Prop) (h0 : I 0 [] S)
    (hs : ∀ (i : Nat) d acc S, items[i]? = some d → I i acc S → ∃ e1, g d e0 = some e1 ∧ Ens (c e1 S) fun t S2 => (t = true → Ens (f e1 S2) fun y S3 => acc.length < 16000000 ∧ I (i + 1) (acc ++ [y]) S3) ∧ (t = false → I (i + 1) acc S2))
    (hd : ∀ l S, I items.length l S → P l S) : Ens (lcL (fun _ => True) g c f e0 items [] S) P :=
  ⟨en0_lc I h0 (fun i d acc S h1 h2 => by
    obtain ⟨e1, q1, q2⟩ := hs i d acc S h1 h2
    exact ⟨e1, q1, q2.go.imp fun t S2 z => ⟨fun q => (z.1 q).go, z.2⟩⟩) hd⟩
theorem ens_seq {y y' : Env → Store → Out} {e : Env} {S : Store} {Q : Pst} (R : Env → Store → Prop) (h1 : EnsO (y e S) { Q with nx := R }) (h2 : ∀ e S, R e S → EnsO (y' e S) Q) : EnsO (ySeq y y' e S) Q :=
  ⟨en0_seq R h1.go fun e S h => (h2 e S h).go⟩
@[simp] theorem ens_fin0 {k b : Bool} {S : Store} {p : D → Prop} : Ens (fin k 0 (.bl b) S) (fun d _ => p d) = p (.bl b) := by
  unfold fin
  by_cases h : k = true ∨ S.length = 0
  · rw [if_pos h, ens_ok]
  · rw [if_neg h, if_pos (by simp [D.under]), ens_ok]
/- no `if` over rng62 in the reckoning: the kernel would run through its decision -/
@[simp] theorem ens_srcR1 {j : Int} {S : Store} {P : Src → Store → Prop} : Ens (srcR1 [.int j] S) P = (rng62 j ∧ P ⟨irange 0 j.toNat, fun _ => True⟩ S) := by
  rw [srcR1_app, ens_if, ens_ok]
@[simp] theorem ens_srcR2 {i j : Int} {S : Store} {P : Src → Store → Prop} : Ens (srcR2 [.int i, .int j] S) P = ((rng62 i ∧ rng62 j) ∧ P ⟨irange i (j - i).toNat, fun _ => True⟩ S) := by
  rw [srcR2_app, ens_if, ens_ok]
/-- as ens_seq, the middle's form kept from simp -/
theorem ens_sq {y y' : Env → Store → Out} {e : Env} {S : Store} {Q : Pst} (R : Env → Store → Prop) (h1 : ∀ R' : Env → Store → Prop, (∀ e S, R e S → R' e S) → EnsO (y e S) { Q with nx := R' }) (h2 : ∀ e S, R e S → EnsO (y' e S) Q) : EnsO (ySeq y y' e S) Q := ens_seq R (h1 R fun _ _ h => h) h2
theorem ens_fr {g : D → Env → Store → Out} {b : Env → Store → Out} {items : List D} {e : Env} {S : Store} {Q : Pst} (I : Nat → Env → Store → Prop) (h0 : I 0 e S)
    (hs : ∀ (i : Nat) d e S (R' : Env → Store → Prop), items[i]? = some d → I i e S → (∀ e S, I (i + 1) e S → R' e S) → EnsO (g d e S) { nx := fun e1 S1 => EnsO (b e1 S1) { nx := R', ct := R', bk := Q.nx, rt := Q.rt } })
    (hd : ∀ e S, I items.length e S → Q.nx e S) : EnsO (forL (fun _ => True) g b items e S) Q := ens_for I h0 (fun i d e S h1 h2 => hs i d e S _ h1 h2 fun _ _ h => h) hd
theorem ens_lcq {g : D → Env → Option Env} {c : Env → M Bool} {f : Env → M D} {e0 : Env} {items : List D} {S : Store} {P : List D → Store → Prop} (I : Nat → List D → Store → Prop) (h0 : I 0 [] S)
    (hs : ∀ (i : Nat) d acc S (R' : List D → Store → Prop), items[i]? = some d → I i acc S → (∀ l S, I (i + 1) l S → R' l S) → ∃ e1, g d e0 = some e1 ∧ Ens (c e1 S) fun t S2 => (t = true → Ens (f e1 S2) fun y S3 => acc.length < 16000000 ∧ R' (acc ++ [y]) S3) ∧ (t = false → R' acc S2))
    (hd : ∀ l S, I items.length l S → P l S) : Ens (lcL (fun _ => True) g c f e0 items [] S) P := ens_lc I h0 (fun i d acc S h1 h2 => hs i d acc S _ h1 h2 fun _ _ h => h) hd
/-- over a list that is written there; the items are kept from the kernel's reckoning -/
theorem enso_forlst {h : Env → M (List D)} {g : D → Env → Store → Out} {b : Env → Store → Out} {oo : Option D} {ll : Env} {S : Store} {Q : Pst} (hh : Ens (h (oo :: ll) S) fun l S1 => l.length ≤ 1000 ∧ ∀ items, items = l → EnsO (forL (fun _ => True) g b items (oo :: ll) S1) Q) : EnsO (yFor (iSrc srcL (xLst mkF h)) g b (oo :: ll) S) Q := by
  rw [yFor_app, iSrc_app, xLst_app, enso_out, ens_bind, ens_bind]
  refine hh.imp fun l S1 ⟨h1, h2⟩ => ?_
  rw [if_pos h1, mkF_app, ens_ok, srcL_lst, ens_ok]
  exact h2 l rfl
end Dv
/-! # Dv12: any, all, sorted -/
namespace Dv
noncomputable section
open PySem PySem.Spec PyProof.Rows L2
def blsOf : List D → Option (List Bool)
  | [] => some []
  | .bl b :: l => (blsOf l).map (b :: ·)
  | _ :: _ => none
theorem blsOf_eq : ∀ {l : List D} {bs : List Bool}, blsOf l = some bs → l = bs.map D.bl
  | [], bs, h => by cases h; rfl
  | .bl b :: l, bs, h => by
    rw [blsOf] at h
    cases q : blsOf l with
    | none => rw [q] at h; cases h
    | some m => rw [q] at h; cases h; rw [blsOf_eq q]; rfl
  | .non :: _, _, h => by cases h
  | .int _ :: _, _, h => by cases h
  | .str _ :: _, _, h => by cases h
  | .tup _ :: _, _, h => by cases h
  | .lst _ :: _, _, h => by cases h
  | .scr _ :: _, _, h => by cases h
  | .cell _ :: _, _, h => by cases h
  | .raw _ :: _, _, h => by cases h
  | .cls _ :: _, _, h => by cases h
  | .exn _ _ :: _, _, h => by cases h
@[simp] theorem blsOf_map : ∀ bs : List Bool, blsOf (bs.map D.bl) = some bs
  | [] => rfl
  | b :: bs => by rw [List.map_cons, blsOf, blsOf_map bs]; rfl
theorem Rps.bls {K : PySem.W.Frag} {r : List Addr} {F : Hp} : ∀ {bs : List Bool} {vs : List V}, Rps K r F (bs.map D.bl) vs → vs = bs.map V.bl
  | [], vs, h => h.nil_inv
  | b :: bs, vs, h => by
    obtain ⟨v, t, rfl, h1, h2⟩ := h.cons_inv
    cases rp_bl h1
    rw [Rps.bls h2]
    rfl
theorem bls_of {K : PySem.W.Frag} {w : Wl} {x : D} {v : V} {bs : List Bool} (hw : Wd K w) (r : Rp K w.r w.F x v) (h : (getQ x w.S).bind blsOf = some bs) : ∃ a, v = .ref a ∧ SqL K w.H a (bs.map V.bl) := by
  cases q : getQ x w.S with
  | none => rw [q] at h; cases h
  | some l =>
    rw [q] at h
    have e := blsOf_eq (show blsOf l = some bs from h)
    subst e
    obtain ⟨a, vs, e1, q1, t⟩ := getQ_ok hw r q
    rw [t.bls] at q1
    exact ⟨a, e1, q1⟩
def bAll (l : List D) (S : Store) : Res D := match l with
  | [x] => match (getQ x S).bind blsOf with
    | some bs => .ok (.bl (bs.all id)) S
    | none => .bad
  | _ => .bad
def bAny (l : List D) (S : Store) : Res D := match l with
  | [x] => match (getQ x S).bind blsOf with
    | some bs => .ok (.bl (bs.any id)) S
    | none => .bad
  | _ => .bad
@[simp] theorem bAll_bls {bs : List Bool} {S : Store} : bAll [.lst (bs.map D.bl)] S = .ok (.bl (bs.all id)) S := by simp [bAll]
@[simp] theorem bAny_bls {bs : List Bool} {S : Store} : bAny [.lst (bs.map D.bl)] S = .ok (.bl (bs.any id)) S := by simp [bAny]
def bSorted (mk : List D → M D) (l : List D) (S : Store) : Res D := match l with
  | [x] => match (getQ x S).bind intsOf with
    | some ns => mk ((ns.mergeSort fun a b => decide (a ≤ b)).map D.int) S
    | none => .bad
  | _ => .bad
section
variable {X : Cx} {mk : List D → M D}
theorem cd_all (hc : X.calm = true) : CallD X (.builtin "all") bAll := ⟨_, cr_all hc, fun w xs ds W σ Q hw r hs => by
  unfold bAll at hs
  split at hs
  · rename_i x
    obtain ⟨v, rfl, rv⟩ := one_inv r
    split at hs
    · rename_i bs h
      obtain ⟨a, rfl, q⟩ := bls_of hw rv h
      exact ⟨a, bs, rfl, q, SatW.here hs hw rpb⟩
    · exact hs.elim
  · exact hs.elim⟩
theorem cd_any (hc : X.calm = true) : CallD X (.builtin "any") bAny := ⟨_, cr_any hc, fun w xs ds W σ Q hw r hs => by
  unfold bAny at hs
  split at hs
  · rename_i x
    obtain ⟨v, rfl, rv⟩ := one_inv r
    split at hs
    · rename_i bs h
      obtain ⟨a, rfl, q⟩ := bls_of hw rv h
      exact ⟨a, bs, rfl, q, SatW.here hs hw rpb⟩
    · exact hs.elim
  · exact hs.elim⟩
theorem rps_intsV {K : PySem.W.Frag} {r : List Addr} {F : Hp} : ∀ ns : List Int, Rps K r F (ns.map D.int) (ns.map V.int)
  | [] => rps_nil
  | n :: ns => rps_cons rpi (rps_intsV ns)
theorem sorted_uniq {ns ns' : List Int} (h1 : ns'.Perm ns) (h2 : ns'.Pairwise (· ≤ ·)) : ns' = ns.mergeSort fun a b => decide (a ≤ b) := by
  have p := List.mergeSort_perm ns fun a b => decide (a ≤ b)
  have s : (ns.mergeSort fun a b => decide (a ≤ b)).Pairwise (fun a b => decide (a ≤ b) = true) := List.pairwise_mergeSort (le := fun a b => decide (a ≤ b)) (fun a b c h1 h2 => by simp at *; omega) (fun a b => by simp; omega) ns
  exact List.Perm.eq_of_pairwise (le := (· ≤ ·)) (fun a b _ _ h1 h2 => Int.le_antisymm h1 h2) h2 (s.imp fun h => by simpa using h) (h1.trans p.symm)
theorem cd_sorted (m : Mk mk) : CallD X (.builtin "sorted") (bSorted mk) := ⟨_, cr_sortedI, fun w xs ds W σ Q hw r hs => by
  unfold bSorted at hs
  split at hs
  · rename_i x
    obtain ⟨v, rfl, rv⟩ := one_inv r
    split at hs
    · rename_i ns h
      obtain ⟨a, rfl, q⟩ := ints_of hw rv h
      refine ⟨a, ns, rfl, q, fun ns' p h1 h2 hp => ?_⟩
      rw [sorted_uniq h1 h2]
      exact m.go hw (rps_intsV _) hs p hp
    · exact hs.elim
  · exact hs.elim⟩
end
/-- as lc_map, over a list that stands in a cell -/
theorem lc_mapC {α : Type} {chk : Store → Prop} {g : D → Env → Option Env} {f : Env → M D} {e0 : Env} {S : Store} (hk : chk S) (emb ψ : α → D) : ∀ (items : List α) (acc : List D), (∀ a ∈ items, ∃ e1, g (emb a) e0 = some e1 ∧ f e1 S = .ok (ψ a) S) → acc.length + items.length ≤ 16000000 → lcL chk g cYes f e0 (items.map emb) acc S = .ok (acc ++ items.map ψ) S
  | [], acc, _, _ => by rw [List.map_nil, lcL, if_pos hk]; simp
  | a :: items, acc, h, hl => by
    obtain ⟨e1, h1, h2⟩ := h a (by simp)
    rw [List.length_cons] at hl
    rw [List.map_cons, lcL, if_pos hk]
    simp only [h1, cYes, h2]
    rw [if_pos (by omega), lc_mapC hk emb ψ items _ (fun x hx => h x (by simp [hx])) (by rw [List.length_append, List.length_singleton]; omega)]
    simp
theorem srcL_cell {n : Nat} {l : List D} {S : Store} (h : S[n]? = some (.lst l)) : srcL (.cell n) S = .ok ⟨l, fun S' => S'[n]? = some (.lst l)⟩ S := by
  unfold srcL
  simp only [h]
end
end Dv
/-! # Dv13: exceptions: raised, caught, kept as values -/
namespace Dv
open PySem PySem.Spec PyProof.Rows L2

/-! ### an object that wasn't tracked is tracked -/
section
variable {X : Cx} {pins : List (Addr × Obj)} {σ : L2.St} {H : Hp} {s : Shared}
theorem inv_adopt {a : Addr} {o : HO} (I : Inv X pins σ H s) (na : H a = none) (nL : a ≠ X.env.locals) (nC : ∀ x c, X.env.cells.lookup x = some c → c ≠ a) (nP : ∀ p ∈ X.pn ++ pins, p.1 ≠ a) (n0 : X.s_0.heap.get? a = none)
    (new : ObjOk X.prog X.w (upd H a o) s.heap a o) : Inv X pins σ (upd H a o) s := by
  have ne0 : ∀ b ob, X.s_0.heap.get? b = some ob → b ≠ a := fun b ob e z => by
    rw [z, n0] at e
    cases e
  refine ⟨I.ok, I.os, I.bare, ⟨I.base.keep, I.base.slot, fun b ob q n hx => ?_, I.base.there, fun b xs q => ?_, fun b ob u q => ?_, fun b ps q => ?_⟩, I.loc, I.cell, ?_, fun x c e => ?_, fun p hp => ?_, fun b u e => ?_, I.len⟩
  · rw [upd_ne (ne0 b ob q)]
    exact I.base.free b ob q n hx
  · have z := I.base.tups b xs q
    rw [upd_ne (ne_of_none z na)]
    exact z
  · have z := I.base.frzs b ob u q
    rw [upd_ne (ne_of_none z na)]
    exact z
  · obtain ⟨m, z⟩ := I.base.tbls b ps q
    exact ⟨m, by rw [upd_ne (ne_of_none z na)]; exact z⟩
  · rw [upd_ne (Ne.symm nL)]
    exact I.free
  · rw [upd_ne (nC x c e)]
    exact I.freeC x c e
  · obtain ⟨e, n, r⟩ := I.pin p hp
    exact ⟨e, by rw [upd_ne (nP p hp)]; exact n, r⟩
  · by_cases hb : b = a
    · subst hb
      rw [upd_same] at e
      cases e
      exact new
    · rw [upd_ne hb] at e
      exact (I.hok b u e).stay (fun c v _ q => q) (fun c q => by rw [upd_ne (ne_of_none q na)]; exact q) fun c xs q => by rw [upd_ne (ne_of_none q na)]; exact q
theorem exh_ok {P : Program} {w : World} {h : Heap} {a : Addr} {cls : Value} {d : Option Addr} {oe : Obj} {vs : Array Value} (e : h.get? a = some oe) (z : Zc cls d oe) (f : oe.data = .fields vs) : ObjOk P w H h a (ExH cls d a) :=
  ⟨⟨oe, vs, e, z, f⟩, ⟨oe, e⟩, fun _ _ ⟨o, v, q, r⟩ k => ⟨o, v, k o q, r⟩⟩
end
/-- as wAs; behind the suite the exception is tracked -/
def wKeep (K : PySem.W.Frag) (c : Value) (i : Nat) (ts : Addr → Value → Option Addr → TS) (Wout : WX) (D : Ends) : WX := fun cls d σ H =>
  ∃ b, PySem.W.exmOne K cls c = some b ∧ (b = true → ∀ a, H a = none → ts a cls d { nx := fun σ' H' => D.nx (σ'.set i none) (upd H' a (ExH cls d a)), rt := fun v H' => D.rt v (upd H' a (ExH cls d a)), bk := fun σ' H' => D.bk (σ'.set i none) (upd H' a (ExH cls d a)), ct := fun σ' H' => D.ct (σ'.set i none) (upd H' a (ExH cls d a)) } (σ.set i (some (.ref a))) H) ∧
    (b = false → Wout cls d σ H)
section
variable {X : Cx} {x n : Str} {c : Value} {i : Nat} {body suite : List Stmt} {b₀ : Stmt} {np pos pos' : Pos} {tb : WX → TS} {ts : Addr → Value → Option Addr → TS} {Wout : WX}
theorem ps_try_keep (hs : X.stack = X.env :: X.outer) (hf : X.env.frame = some X.env.locals) (hex : X.ex = []) (hN : X.N.Nodup) (hi : X.N[i]? = some n) (hln : X.env.kindOf n = some .local) (hc : Names X x c) (tk : Takes X Wout)
    (hb : ∀ (W : WX) (pn : List (Addr × Obj)) (xe : Value → Shared → Prop), Takes (X.tr pn xe) W → PassesOwn (model X.prog X.w) X.A X.env xe → PSs (X.tr pn xe) body (tb W))
    (hsu : ∀ (a : Addr) (oe : Obj) (cls : Value) (d : Option Addr) (pn : List (Addr × Obj)), Zc cls d oe → (∃ vs, oe.data = .fields vs) → PSs (X.suite a ((a, oe) :: pn)) (b₀ :: suite) (ts a cls d)) :
    PS X (.Try body [.ExceptHandler (some (.Name x np)) (some n) (b₀ :: suite) pos'] [] [] pos) (fun D σ H => tb (wKeep X.K c i ts Wout D) D σ H) := by
  refine ⟨fun pins s σ H D I h => ?_⟩
  have ok := I.ok
  have hfr : X.A.frames = some (X.env :: X.outer) := by rw [ok.frames, hs]
  have hloc : Loc X.env.scope n := .inl hln
  refine wpAny_Try_except ?_
  refine wpAny_mono ((hb (wKeep X.K c i ts Wout D) (X.pn ++ pins) (fun e s₁ => wpAny (model X.prog X.w) X.A (noteFrame e X.env) (fun _ s₂ => wpAny (model X.prog X.w) X.A (setFlight e none) (fun _ s₃ =>
    wpAny (model X.prog X.w) X.A (handleBy e X.env [.ExceptHandler (some (.Name x np)) (some n) (b₀ :: suite) pos']) (SP X pins D) X.xe s₃) X.xe s₂) X.xe s₁) (fun u s' xx => ?_) PassesOwn.looking).run [] s σ H D (I.toTry _) h) (fun f s1 hsp => ?_) (fun e s1 he => he)
  · -- the catch
    obtain ⟨a, B, sI, pins', σ', H', cls, d, rfl, J', nb, up, sky, na, os, ag, b, hb1, hyes, hno⟩ := xx
    have J : Inv X pins σ' H' sI := J'.ofTry ok
    have sky' : Sky B (X.env :: X.outer) a (Zc cls d) X.env.locals s'.heap := by rw [← hs]; exact sky
    show wpAny _ X.A (noteFrame (.ref a) X.env) _ _ _
    refine Sky.land Zc.steady hfr hf sky' fun h3 fl3 up3 => ?_
    have J3 : Inv X pins σ' H' { s' with heap := h3 } := J.landed nb fl3.1 (up.trans up3) os ag
    obtain ⟨oe3, vs3, he3, hz3, hd3⟩ := fl3.there
    have notFr : ∀ {h : Heap} {o : Obj} {vs : Array Value}, h.FunFrames B (X.env :: X.outer) → h.get? a = some o → o.data = .fields vs → a ∉ frs (X.env :: X.outer) := fun {h o vs} ff e dd hm => by
      obtain ⟨_, o', e', hnf⟩ := ff.mem hm
      rw [e] at e'; cases e'
      exact hnf _ dd
    have nfr := notFr fl3.2.2.1 he3 hd3
    have nL : a ≠ X.env.locals := fun z => nfr (List.mem_filterMap.mpr ⟨X.env, List.mem_cons_self, by rw [hf, z]⟩)
    have nF : a ∉ X.fs := fun hm => by
      obtain ⟨e, he, q⟩ := List.mem_filterMap.mp hm
      exact nfr (List.mem_filterMap.mpr ⟨e, List.mem_cons_of_mem _ he, q⟩)
    -- what was there is not the exception
    have old : ∀ b ob, sI.heap.get? b = some ob → b ≠ a := fun b ob e z => by
      have hbf : b ∉ frs X.stack := fun hm => by
        rw [hs] at hm
        exact nfr (by rw [← z]; exact hm)
      have q := nb b ob e hbf
      rw [z, fl3.2.1] at q
      cases q
    have n0 : X.s_0.heap.get? a = none := by
      cases e : X.s_0.heap.get? a with
      | none => rfl
      | some ob =>
        obtain ⟨o', q⟩ := J.base.there a ob e (by rw [hex]; exact fun z => nomatch z)
        exact (old a o' q rfl).elim
    have nC : ∀ x c, X.env.cells.lookup x = some c → c ≠ a := fun x c e => by
      obtain ⟨v, ob, q, _⟩ := J.cell x c e
      exact old c ob q
    have nP : ∀ p ∈ X.pn ++ pins, p.1 ≠ a := fun p hp => old p.1 p.2 (J.pin p hp).1
    have S3 := J3.suite he3 hd3 na nL nF
    refine wpAny_handleBy_cons (codeAny_handlers_test ?_) (by intro q; cases q)
    have LT : PySem.W.Looks (model X.prog X.w) h3 (typeOf (.ref a)) cls := fun A Q E s k q => wpAny_typeOf_ref (k _ _ he3) (by rw [hz3.1]; exact q)
    have LM := PySem.W.exm_one (M := model X.prog X.w) (J3.kIn) LT hb1
    have test : ∀ {Q : Value → Shared → Prop} {E : Value → Shared → Prop}, Q c { s' with heap := h3 } → wpAny (model X.prog X.w) (X.A.mark (some (.ref a))) (eval (.Name x np) X.env) Q E { s' with heap := h3 } := fun {Q E} q => by
      obtain ⟨hg, hdbg, hm | ⟨hm, hv, hnn⟩⟩ := hc
      · exact ld_glob (X := X.suite a ((a, oe3) :: (X.pn ++ pins))) S3 hg hm q hdbg
      · exact ld_blt (X := X.suite a ((a, oe3) :: (X.pn ++ pins))) S3 hg hm hv q hnn hdbg
    refine test (LM.here ?_)
    cases b with
    | true =>
      refine codeAny_handlers_suite_as ?_
      refine HandSPX.lands_againZ fl3 fun h4 fl4 up4 => ?_
      have J4 : Inv X pins σ' H' { s' with heap := h4 } := J.landed nb fl4.1 ((up.trans up3).trans up4) os ag
      obtain ⟨oe4, vs4, he4, hz4, hd4⟩ := fl4.there
      have S4 := J4.suite he4 hd4 na nL nF
      refine store_ok (X := X.suite a ((a, oe4) :: (X.pn ++ pins))) (v := .ref a) S4 hN hi hloc rfl (fun s5 S5 => ?_) (.inr hln)
      refine wpAny_mono ((hsu a oe4 cls d (X.pn ++ pins) hz4 ⟨_, hd4⟩).run [] s5 _ H' _ S5 (hyes rfl a na)) (fun f s6 hsp => ?_) (fun _ _ z => False.elim z)
      have end_ : ∀ {σ6 : L2.St} {H6 : Hp} {Q : Shared → Prop}, Inv (X.suite a ((a, oe4) :: (X.pn ++ pins))) [] σ6 H6 s6 → (∀ s7, Inv X pins (σ6.set i none) (upd H6 a (ExH cls d a)) s7 → Q s7) →
          wpAny (model X.prog X.w) X.A (do bindName X.env n .none; unbindBehindTheSuite X.env n pos') (fun _ s7 => Q s7) X.xe s6 := fun {σ6 H6 Q} S6 hq => by
        obtain ⟨e6, n6, _⟩ := S6.pin (a, oe4) (List.mem_append_left _ List.mem_cons_self)
        exact gone_ok (inv_adopt (S6.unsuite ok) n6 nL nC nP n0 (exh_ok e6 hz4 hd4)) hN hi hln hq
      cases f with
      | next =>
        obtain ⟨σ6, H6, S6, q6⟩ := hsp
        exact end_ S6 fun s7 J7 => ⟨_, _, J7, q6⟩
      | brk =>
        obtain ⟨σ6, H6, S6, q6⟩ := hsp
        exact end_ S6 fun s7 J7 => ⟨_, _, J7, q6⟩
      | cont =>
        obtain ⟨σ6, H6, S6, q6⟩ := hsp
        exact end_ S6 fun s7 J7 => ⟨_, _, J7, q6⟩
      | ret u =>
        obtain ⟨v6, σ6, H6, S6, r6, q6⟩ := hsp
        exact end_ S6 fun s7 J7 => ⟨_, _, _, J7, r6, q6⟩
    | false =>
      show wpAny _ X.A (handleBy (.ref a) X.env []) _ _ _
      refine wpAny_handleBy_nil ?_
      obtain ⟨k1, k2, k3, oe, vs, T, oT, ts', he, hz, hd, h1, hr⟩ := id fl3
      unfold PySem.passOn
      refine wpAny_bind (wpAny_field he hd h1 ?_)
      rw [if_neg (show ¬ ((Value.ref T == Value.none) = true) from by simp)]
      have fin : wpAny (model X.prog X.w) X.A (setFlight (.ref a) X.env.frame) (fun _ s4 => wpAny (model X.prog X.w) X.A (throw (.ref a) : Sem Flow) (SP X pins D) X.xe s4) X.xe { s' with heap := h3 } := by
        rw [hf]
        refine HandSPX.setFlight_upZ fl3 fun h4 hh4 up4 => wpAny_throw (tk _ _ ?_)
        exact ⟨a, B, sI, pins, σ', H', cls, d, rfl, J, nb, (up.trans up3).trans up4, .inr (.inr (by rw [hs]; exact hh4)), na, os, ag, hno rfl⟩
      first
        | exact wpAny_bind (wpAny_pure (wpAny_bind fin))
        | exact wpAny_bind fin
  · cases f with
    | next =>
      obtain ⟨σ', H', J', q⟩ := hsp
      exact wpAny_execs_nil ⟨σ', H', J'.ofTry ok, q⟩
    | brk =>
      obtain ⟨σ', H', J', q⟩ := hsp
      exact ⟨σ', H', J'.ofTry ok, q⟩
    | cont =>
      obtain ⟨σ', H', J', q⟩ := hsp
      exact ⟨σ', H', J'.ofTry ok, q⟩
    | ret u =>
      obtain ⟨v, σ', H', J', r, q⟩ := hsp
      exact ⟨v, σ', H', J'.ofTry ok, r, q⟩
end

/-! ### the classes -/
abbrev veMro : List Value := [.type "ValueError", .type "Exception", .type "BaseException", .type "object"]
/-- a class of the program, as a name of its own -/
structure Cl (K : PySem.W.Frag) (mg : Str → Option Value) (c : Str) (C : Addr) : Prop where
  n : PySem.W.nsIn K mainGlobals c = some (some (.ref C))
  g : mg c = some (.ref C)
  i : PySem.W.isClsIn K C = true
  t : PySem.W.typeIn K (.ref C) = some (.type "type")
/-- one that is raised -/
structure Rc (K : PySem.W.Frag) (mg : Str → Option Value) (c : Str) (C : Addr) : Prop extends Cl K mg c C where
  k : PySem.W.keepIn K (.ref C) = true
  b : PySem.W.subIn K (.ref C) (.type "BaseException") = some true
  s : PySem.W.subIn K (.ref C) (.ref C) = some true
  e : ExcC K C
/-- the answers about subclasses -/
def SubOk (K : PySem.W.Frag) (p : Str × Str × Bool) : Prop := ∀ C D, ClsAt K p.1 C → ClsAt K p.2.1 D → PySem.W.kitOne K (.ref C) (.ref D) = some p.2.2
def subT (L : List (Str × Str × Bool)) (c d : Str) : Option Bool := (L.find? fun p => p.1 == c && p.2.1 == d).map (·.2.2)
theorem subT_mem {L : List (Str × Str × Bool)} {c d : Str} {b : Bool} (h : subT L c d = some b) : (c, d, b) ∈ L := by
  unfold subT at h
  cases q : L.find? fun p => p.1 == c && p.2.1 == d with
  | none => rw [q] at h; cases h
  | some p =>
    rw [q] at h
    have e := Option.some.inj h
    have m := List.mem_of_find?_eq_some q
    have z := List.find?_some q
    rw [Bool.and_eq_true] at z
    obtain ⟨p1, p2, p3⟩ := p
    have e1 : p1 = c := eq_of_beq z.1
    have e2 : p2 = d := eq_of_beq z.2
    have e3 : p3 = b := e
    subst e1 e2 e3
    exact m
theorem cls_some {K : PySem.W.Frag} {C : Addr} (h : PySem.W.isClsIn K C = true) : (PySem.W.clsIn K C).isSome = true := h
theorem sub_ok {K : PySem.W.Frag} {mg : Str → Option Value} {c d : Str} {C D : Addr} {b : Bool} (h1 : Rc K mg c C) (h2 : Cl K mg d D) (h : PySem.W.subIn K (.ref C) (.ref D) = some b) : SubOk K (c, d, b) := fun C' D' e1 e2 => by
  have e3 : C = C' := ClsAt.uniq h1.n e1
  have e4 : D = D' := ClsAt.uniq h2.n e2
  subst e3 e4
  unfold PySem.W.kitOne
  by_cases q : (Value.ref C == Value.ref D) = true
  · rw [if_pos q]
    have e : C = D := Value.ref.inj (beq_iff_eq.mp q)
    subst e
    rw [h1.s] at h
    exact h
  · rw [if_neg q]
    have z : ((PySem.W.clsIn K D).isSome && PySem.W.typeIn K (.ref D) == some (.type "type")) = true := by rw [cls_some h2.i, h2.t] <;> rfl
    show (if ((PySem.W.clsIn K D).isSome && PySem.W.typeIn K (.ref D) == some (.type "type")) = true then PySem.W.subIn K (.ref C) (.ref D) else none) = some b
    rw [if_pos z]
    exact h
/-- except D -/
def CatchOk (K : PySem.W.Frag) (p : Str × Str × Bool) : Prop := ∀ C D, ClsAt K p.1 C → ClsAt K p.2.1 D → PySem.W.exmOne K (.ref C) (.ref D) = some p.2.2
theorem catch_ok {K : PySem.W.Frag} {mg : Str → Option Value} {c d : Str} {C D : Addr} {b : Bool} (h1 : Rc K mg c C) (h2 : Cl K mg d D) (h : PySem.W.subIn K (.ref C) (.ref D) = some b) (hb : PySem.W.subIn K (.ref D) (.type "BaseException") = some true) : CatchOk K (c, d, b) := fun C' D' e1 e2 => by
  have e3 : C = C' := ClsAt.uniq h1.n e1
  have e4 : D = D' := ClsAt.uniq h2.n e2
  subst e3 e4
  have z1 : (PySem.W.subIn K (.ref D) (.type "BaseException") == some true) = true := by rw [hb] <;> rfl
  have z : ((PySem.W.clsIn K D).isSome && PySem.W.typeIn K (.ref D) == some (.type "type")) = true := by rw [cls_some h2.i, h2.t] <;> rfl
  show (if (PySem.W.subIn K (.ref D) (.type "BaseException") == some true) = true then (if ((PySem.W.clsIn K D).isSome && PySem.W.typeIn K (.ref D) == some (.type "type")) = true then PySem.W.subIn K (.ref C) (.ref D) else none) else none) = some b
  rw [if_pos z1, if_pos z]
  exact h

theorem all_c {α : Type} {P : α → Prop} {a : α} {l : List α} (h : P a) (t : ∀ x ∈ l, P x) : ∀ x ∈ a :: l, P x := List.forall_mem_cons.mpr ⟨h, t⟩
theorem all_n {α : Type} {P : α → Prop} : ∀ x ∈ ([] : List α), P x := fun x h => nomatch h
theorem ec_of {K : PySem.W.Frag} {mg : Str → Option Value} {c : Str} {C : Addr} (h1 : Rc K mg c C) : ∀ C', ClsAt K c C' → ExcC K C' := fun C' e1 => by
  have e3 : C = C' := ClsAt.uniq h1.n e1
  subst e3
  exact h1.e
/-! ### raise -/
def yRaise (c : Str) : Env → Store → Out := fun e S => .exc ⟨c, none⟩ e S
section
variable {X : Cx} {W : WX} {x m : Str} {j : Nat} {p p2 pos pos2 : Pos} {C : Addr}
theorem psd_raise (hc : X.calm = true) (tk : Takes X W) (R : Rc X.K X.mg x C) (q : PySem.W.excIn X.K C veMro "ValueError.__new__" = true) (hg : Gl X x := by rfl) (hdb : (x == ("__debug__" : Str)) = false := by decide) :
    PSD X W (.Raise (some (.Call (.Name x p) [.Constant (.str m) j p2] [] pos)) none pos2) (yRaise x) := by
  refine weakS (ps_raise hc tk (pmk_own PySem.F.excBase_ValueError q R.g R.k (raises_own R.b R.t) hg hdb)) fun D σ H ⟨w, env, eH, hw, he, hs⟩ => ?_
  subst eH
  exact hs w σ (.ref C) none (Go.refl hw) rfl he ⟨C, R.n, rfl, rfl⟩
end

/-! ### try .. except D as e: y = e -/
def yTryKeep (L : List (Str × Str × Bool)) (d : Str) (i j : Nat) (g : Env → Store → Out) : Env → Store → Out := fun e S => match g e S with
  | .exc x e' S' => match subT L x.cls d with
    | some true => match e'[i]? with
      | some _ => .nx ((e'.set j (some (.exn x.cls x.val))).set i none) S'
      | none => .bad
    | some false => .exc x e' S'
    | none => .bad
  | o => o
section
variable {X : Cx} {W : WX} {x n y : Str} {i j : Nat} {body : List Stmt} {np pos pos' py pe ps : Pos} {g : Env → Store → Out} {L : List (Str × Str × Bool)} {Dc : Addr}
theorem psd_tryKeep (hs : X.stack = X.env :: X.outer) (hf : X.env.frame = some X.env.locals) (hex : X.ex = []) (hN : X.N.Nodup) (hi : X.N[i]? = some n) (hj : X.N[j]? = some y) (hij : i ≠ j) (hln : X.env.kindOf n = some .local) (hly : X.env.scope.names.lookup y = some .local) (tk : Takes X W)
    (hg : Gl X x) (hd : Cl X.K X.mg x Dc) (hL : ∀ p ∈ L, CatchOk X.K p)
    (hb : ∀ (W : WX) (pn : List (Addr × Obj)) (xe : Value → Shared → Prop), Takes (X.tr pn xe) W → PassesOwn (model X.prog X.w) X.A X.env xe → PSsD (X.tr pn xe) W body g)
    (hsw : swapsWith (.Name n pe) (some (.Name y py)) ps.line X.env = pure false := by rfl) (hdb : (x == ("__debug__" : Str)) = false := by decide) (hn1 : (n == ("__debug__" : Str)) = false := by decide) (hn2 : (n == ("__classdict__" : Str)) = false := by decide) :
    PSD X W (.Try body [.ExceptHandler (some (.Name x np)) (some n) [.Assign [.Name y py] (.Name n pe) ps] pos'] [] [] pos) (yTryKeep L x i j g) := by
  refine weakS (ps_try_keep (i := i) (c := .ref Dc) (tb := fun W => sD (kt X) W g) (ts := fun _ _ _ => tAsg (tVar i) (gName j)) hs hf hex hN hi hln ⟨hg, hdb, .inl hd.g⟩ tk (fun W pn xe tk' pas => hb W pn xe tk' pas)
    (fun a oe cls d pn hz hf' => pss_one (ps_set (i := j) hN hj (.inl hly) (pe_var (i := i) hi (.inl hln) hn1 hn2) hsw (.inr hly)))) fun D σ H ⟨w, env, eH, hw, he, hs⟩ => ⟨w, env, eH, hw, he, ?_⟩
  unfold yTryKeep at hs
  cases o : g env w.S with
  | nx e S => rw [o] at hs; exact hs
  | rt e S => rw [o] at hs; exact hs
  | bk e S => rw [o] at hs; exact hs
  | ct e S => rw [o] at hs; exact hs
  | bad => rw [o] at hs; exact hs
  | exc z e' S' =>
    rw [o] at hs
    intro w' σ' cls dd g' eS he' hx
    obtain ⟨C, c1, rfl, c3⟩ := hx
    cases q : subT L z.cls x with
    | none => simp only [q] at hs; exact hs.elim
    | some b =>
      refine ⟨b, hL _ (subT_mem q) C Dc c1 hd.n, fun hb a na => ?_, fun hb => ?_⟩
      · subst hb
        simp only [q] at hs
        cases qi : e'[i]? with
        | none => simp only [qi] at hs; exact hs.elim
        | some oo =>
          simp only [qi] at hs
          have hlt : i < σ'.length := by
            rw [← he'.1]
            exact (List.getElem?_eq_some_iff.mp qi).1
          refine ⟨.ref a, List.getElem?_set_self hlt, ?_⟩
          have ga := Go.alloc (o := ExH (.ref C) dd a) g'.wd na
          have r2 : Rp X.K w'.r (upd w'.F a (ExH (.ref C) dd a)) (.exn z.cls z.val) (.ref a) := by
            unfold Rp
            exact ⟨a, C, dd, rfl, c1, upd_same, c3.mono ga.F⟩
          have he2 := (((he'.go ga).set (i := j) r2).unset (i := i))
          have es : ((σ'.set i (some (V.ref a))).set j (some (V.ref a))).set i none = (σ'.set j (some (V.ref a))).set i none := by
            apply List.ext_getElem?
            intro k
            simp only [List.getElem?_set, List.length_set]
            by_cases hk : i = k
            · simp [hk]
            · simp [hk]
          show D.nx (((σ'.set i (some (V.ref a))).set j (some (V.ref a))).set i none) _
          rw [es]
          exact hs ⟨w'.r, upd w'.F a (ExH (.ref C) dd a), w'.S, upd w'.H a (ExH (.ref C) dd a)⟩ _ (g'.trans ga) eS he2
      · subst hb
        simp only [q] at hs
        exact hs w' σ' _ dd g' eS he' ⟨C, c1, rfl, c3⟩
end

/-! ### isinstance of what was caught; its field -/
def VeOk (K : PySem.W.Frag) (c : Str) : Prop := ∀ C, ClsAt K c C → PySem.W.kitOne K (.ref C) (.type "ValueError") = some true
theorem ve_ok {K : PySem.W.Frag} {mg : Str → Option Value} {c : Str} {C : Addr} (h1 : Rc K mg c C) (h : PySem.W.subIn K (.ref C) (.type "ValueError") = some true) : VeOk K c := fun C' e1 => by
  have e3 : C = C' := ClsAt.uniq h1.n e1
  subst e3
  have q : ¬ (Value.ref C == Value.type "ValueError") = true := by
    intro z
    have e := beq_iff_eq.mp z
    cases e
  unfold PySem.W.kitOne
  rw [if_neg q]
  show (if PySem.W.kitMeta "ValueError" = true then PySem.W.subIn K (.ref C) (.type "ValueError") else none) = some true
  rw [if_pos (by decide +kernel)]
  exact h
/-- what is asked of the classes that may be caught -/
structure XcOk (K : PySem.W.Frag) (L : List (Str × Str × Bool)) (R : List Str) : Prop where
  sub : ∀ p ∈ L, SubOk K p
  ve : ∀ c ∈ R, VeOk K c
  ec : ∀ c ∈ R, ∀ C, ClsAt K c C → ExcC K C
def anyE (L : List (Str × Str × Bool)) (c : Str) : List D → Option Bool
  | [] => some false
  | .cls d :: l => match subT L c d, anyE L c l with
    | some a, some b => some (a || b)
    | _, _ => none
  | _ => none
def bIsE (L : List (Str × Str × Bool)) (R : List Str) (l : List D) (S : Store) : Res D := match l with
  | [.exn c _, .tup l] => if c ∈ R then match anyE L c l with
      | some b => .ok (.bl b) S
      | none => .bad
    else .bad
  | [.exn c _, .cls d] => if c ∈ R then match subT L c d with
      | some b => .ok (.bl b) S
      | none => .bad
    else .bad
  | [.exn c _, .raw v] => if c ∈ R ∧ v = .ty "ValueError" then .ok (.bl true) S else .bad
  | _ => .bad
def rIsX (K : PySem.W.Frag) : List V → Hp → VK → Prop := fun xs H Q => ∃ (a C : Addr) (d : Option Addr) (c : V) (cv : Value) (b : Bool), xs = [.ref a, c] ∧ (∀ u, RelV c u → u = cv) ∧ H a = some (ExH (.ref C) d a) ∧ (∀ b, d = some b → ∃ o, H b = some o) ∧ ExcC K C ∧ PySem.W.kitOne K (.ref C) cv = some b ∧ Q (.bl b) H
theorem exh_at {P : Program} {w : World} {H : Hp} {h : Heap} {a C : Addr} {d : Option Addr} (hok : HOk P w H h) (e : H a = some (ExH (.ref C) d a)) (hd : ∀ b, d = some b → ∃ o, H b = some o) : ∃ oe od, PySem.W.InstAt h a oe C od ∧ ∀ b, d = some b → ∃ o, od = some o ∧ h.get? b = some o := by
  have z : ObjOk P w H h a (ExH (.ref C) d a) := hok a _ e
  obtain ⟨⟨oe, vs, h1, h2, h3⟩, _, _⟩ := z
  obtain ⟨oc, odd, oda, osl⟩ := oe
  obtain ⟨h4, h5⟩ := h2
  dsimp only at h3 h4 h5
  subst h3 h4 h5
  cases odd with
  | none => exact ⟨_, none, ⟨h1, rfl, rfl, trivial⟩, fun b q => by cases q⟩
  | some b =>
    obtain ⟨o, q⟩ := hd b rfl
    obtain ⟨ob, eb⟩ := objOk_get (hok b o q)
    exact ⟨_, some ob, ⟨h1, rfl, rfl, eb⟩, fun b' q' => by cases q'; exact ⟨ob, rfl, eb⟩⟩
section
variable {X : Cx} {W : WX}
theorem call_isX : CallR X (.builtin "isinstance") (rIsX X.K) := by
  intro pins s σ H xs us Q I r h
  obtain ⟨a, C, d, c, cv, b, rfl, hcv, ha, hd, E, e, q⟩ := h
  obtain ⟨u1, u2, rfl, r1, r2⟩ := vals2 r
  cases (show u1 = Value.ref a from r1)
  have ec := hcv _ r2
  subst ec
  obtain ⟨oe, od, J, _⟩ := exh_at I.hok ha hd
  have hcl : (PySem.W.clsIn X.K C).isSome = true := by obtain ⟨cd, hc, _⟩ := PySem.W.any_some E.hd; rw [hc]; rfl
  exact PySem.W.kia_one (PySem.W.kitx_exc hcl E.hg E.hk E.hs E.ha E.hn E.ht E.hm) I.kIn J e (fun z => nomatch z) fun tk => ⟨.bl b, H, I.tok tk, rfl, q⟩
def rIsXT (K : PySem.W.Frag) : List V → Hp → VK → Prop := fun xs H Q => ∃ (a C : Addr) (d : Option Addr) (tp : Addr) (vs : List V) (us : List Value) (b : Bool), xs = [.ref a, .ref tp] ∧ Rd H tp (.tup vs) ∧ (∀ ws, Vals vs ws → ws = us) ∧ H a = some (ExH (.ref C) d a) ∧ (∀ b, d = some b → ∃ o, H b = some o) ∧ ExcC K C ∧ PySem.W.kitAny K (.ref C) us = some b ∧ Q (.bl b) H
theorem call_isXT : CallR X (.builtin "isinstance") (rIsXT X.K) := by
  intro pins s σ H xs us Q I r h
  obtain ⟨a, C, d, tp, vs, ws, b, rfl, hT, hcv, ha, hd, E, e, q⟩ := h
  obtain ⟨u1, u2, rfl, r1, r2⟩ := vals2 r
  cases (show u1 = Value.ref a from r1)
  cases (show u2 = Value.ref tp from r2)
  obtain ⟨oe, od, J, _⟩ := exh_at I.hok ha hd
  have hcl : (PySem.W.clsIn X.K C).isSome = true := by obtain ⟨cd, hc, _⟩ := PySem.W.any_some E.hd; rw [hc]; rfl
  obtain ⟨_, its, rv, o, h1, h2, n, h3⟩ := (show ObjOk X.prog X.w H s.heap tp (.tup vs) from hT.ok I.hok)
  have e3 := hcv _ rv
  subst e3
  obtain ⟨oc, odd, dt, sl⟩ := o
  simp only at h2 h3
  subst h2 h3
  exact PySem.W.kia_tup (PySem.W.kitx_exc hcl E.hg E.hk E.hs E.ha E.hn E.ht E.hm) I.kIn J h1 e (fun z => nomatch z) fun tk => ⟨.bl b, H, I.tok tk, rfl, q⟩
theorem any_ok {K : PySem.W.Frag} {L : List (Str × Str × Bool)} {r : List Addr} {F : Hp} {c : Str} {C : Addr} (hx : ∀ p ∈ L, SubOk K p) (hC : ClsAt K c C) : ∀ {l : List D} {vs : List V} {b : Bool}, Rps K r F l vs → anyE L c l = some b → ∃ us : List Value, (∀ ws, Vals vs ws → ws = us) ∧ PySem.W.kitAny K (.ref C) us = some b
  | [], vs, b, h, e => by
    rw [h.nil_inv]
    cases e
    exact ⟨[], fun ws q => by cases q; rfl, rfl⟩
  | .cls d :: l, vs, b, h, e => by
    obtain ⟨v, t, rfl, h1, h2⟩ := h.cons_inv
    unfold Rp at h1
    obtain ⟨D, hD, rfl⟩ := h1
    have us_of : ∀ {us : List Value}, (∀ ws, Vals t ws → ws = us) → ∀ ws, Vals (V.ref D :: t) ws → ws = Value.ref D :: us := fun {us} hu ws q => by
      cases q with
      | cons q1 q2 =>
        rw [hu _ q2, show _ = Value.ref D from q1]
    unfold anyE at e
    cases q : subT L c d with
    | none => rw [q] at e; cases e
    | some k =>
      cases q2 : anyE L c l with
      | none => rw [q, q2] at e; cases e
      | some k2 =>
        rw [q, q2] at e
        cases e
        have hk := hx _ (subT_mem q) C D hC hD
        obtain ⟨us, h3, h4⟩ := any_ok hx hC h2 q2
        refine ⟨_, us_of h3, ?_⟩
        unfold PySem.W.kitAny
        rw [hk]
        cases k with
        | true => rfl
        | false => exact h4
  | .non :: _, _, _, _, e => by cases e
  | .bl _ :: _, _, _, _, e => by cases e
  | .int _ :: _, _, _, _, e => by cases e
  | .str _ :: _, _, _, _, e => by cases e
  | .tup _ :: _, _, _, _, e => by cases e
  | .lst _ :: _, _, _, _, e => by cases e
  | .scr _ :: _, _, _, _, e => by cases e
  | .cell _ :: _, _, _, _, e => by cases e
  | .raw _ :: _, _, _, _, e => by cases e
  | .exn _ _ :: _, _, _, _, e => by cases e
theorem fld_some {F H : Hp} (s : Same F H) {d : Option Addr} {f : Option (Str × Int)} (h : FldOk F d f) : ∀ b, d = some b → ∃ o, H b = some o := fun b e => by
  cases f with
  | none =>
    have z : d = none := h
    rw [z] at e
    cases e
  | some p =>
    obtain ⟨b', e', q⟩ := h
    rw [e'] at e
    cases e
    exact ⟨_, s _ _ q⟩
theorem cd_isE {L : List (Str × Str × Bool)} {R : List Str} (hx : XcOk X.K L R) : CallD X (.builtin "isinstance") (bIsE L R) := ⟨_, call_isX.or call_isXT, fun w xs ds W σ Q hw r hs => by
  unfold bIsE at hs
  split at hs
  · rename_i c f l
    obtain ⟨v, u, rfl, rv, ru⟩ := two_inv r
    unfold Rp at rv ru
    obtain ⟨a, C, dd, rfl, hC, hF, hf⟩ := rv
    obtain ⟨tp, vs, rfl, hT, hvs⟩ := ru
    obtain ⟨hR, hs⟩ := satIf hs
    cases q : anyE L c l with
    | none => simp only [q] at hs; exact hs.elim
    | some b =>
      simp only [q] at hs
      obtain ⟨us, h1, h2⟩ := any_ok hx.sub hC hvs q
      exact .inr ⟨a, C, dd, tp, vs, us, b, rfl, rd_same hw.same hT, h1, hw.same _ _ hF, fld_some hw.same hf, hx.ec c hR C hC, h2, SatW.here hs hw rpb⟩
  · rename_i c f d
    obtain ⟨v, u, rfl, rv, ru⟩ := two_inv r
    unfold Rp at rv ru
    obtain ⟨a, C, dd, rfl, hC, hF, hf⟩ := rv
    obtain ⟨D, hD, rfl⟩ := ru
    obtain ⟨hR, hs⟩ := satIf hs
    cases q : subT L c d with
    | none => simp only [q] at hs; exact hs.elim
    | some b =>
      simp only [q] at hs
      exact .inl ⟨a, C, dd, _, .ref D, b, rfl, fun u e => e, hw.same _ _ hF, fld_some hw.same hf, hx.ec c hR C hC, hx.sub _ (subT_mem q) C D hC hD, SatW.here hs hw rpb⟩
  · rename_i c f v0
    obtain ⟨v, u, rfl, rv, ru⟩ := two_inv r
    unfold Rp at rv
    obtain ⟨a, C, dd, rfl, hC, hF, hf⟩ := rv
    cases rp_raw ru
    obtain ⟨⟨hR, he⟩, hs2⟩ := satIf hs
    rw [he]
    exact .inl ⟨a, C, dd, _, .type "ValueError", true, rfl, fun u e => e, hw.same _ _ hF, fld_some hw.same hf, hx.ec c hR C hC, hx.ve c hR C hC, SatW.here hs2 hw rpb⟩
  · exact hs.elim⟩
theorem pd_cls {x : Str} {C : Addr} {pos : Pos} (R : Cl X.K X.mg x C) (hg : Gl X x := by rfl) (hd : (x == ("__debug__" : Str)) = false := by decide) : PD X W (.Name x pos) (xC (.cls x)) := by
  refine weakE (pe_glob (v := V.ref C) hg R.g rfl hd) fun σ H Q ⟨w, env, eH, hw, he, hs⟩ => ?_
  subst eH
  exact SatW.here (d := D.cls x) (v := V.ref C) hs hw (by unfold RD Rp; exact ⟨C, R.n, rfl⟩)
/-- e.f -/
def xFldX (f : Str) (g : Env → M D) : Env → M D := fun e S => (g e S).bind fun d S1 => match d with
  | .exn _ (some (f', i)) => if f' = f then .ok (.int i) S1 else .bad
  | _ => .bad
theorem units65 {k : Nat} {A : Around} (r : Room k A) : A.units + 65 < cLine := by have := r.un; omega
/-! ### list.index, in: data of any depth -/
def mIndexD (x : D) (a : List D) (S : Store) : Res D := match a with
  | [k] => match toP S 60 k, toP S 60 x with
    | some d, some (.list ds) => match ds.findIdx? fun y => PyData.eqv y d with
      | some j => .ok (.int (j : Nat)) S
      | none => .bad
    | _, _ => .bad
  | _ => .bad
theorem dp_ref {K : PySem.W.Frag} {H : Hp} {v : V} {ds : List PyData} (h : Dp K H v (.list ds)) : ∃ a, v = .ref a := by
  cases h with
  | lst _ _ => exact ⟨_, rfl⟩
theorem md_indexD (hu : X.A.units + 65 < cLine) : MtD X "list.index" mIndexD := ⟨_, mt_indexD hu, fun w x xs d ds W σ Q hw r1 r2 hs => by
  unfold mIndexD at hs
  split at hs
  · rename_i k
    obtain ⟨v0, rfl, rv0⟩ := one_inv r2
    split at hs
    · rename_i p ps h1 h2
      have dp := toP_dp hw 60 d x _ h2 r1
      obtain ⟨a, rfl⟩ := dp_ref dp
      cases q : ps.findIdx? fun y => PyData.eqv y p with
      | none => simp only [q] at hs; exact hs.elim
      | some j =>
        simp only [q] at hs
        obtain ⟨hj, hz, hno⟩ := List.findIdx?_eq_some_iff_getElem.mp q
        refine ⟨a, v0, p, ps, j, ps[j], rfl, rfl, dp, toP_dp hw 60 k v0 p h1 rv0, shaped_of h2, shaped_of h1, List.getElem?_eq_getElem hj, hz, fun m z' hm e => ?_, SatW.here hs hw rpi⟩
        have := hno m hm
        rw [List.getElem?_eq_some_iff] at e
        obtain ⟨_, rfl⟩ := e
        simpa using this
    · exact hs.elim
  · exact hs.elim⟩
def dInD (neg : Bool) (x y : D) (S : Store) : Res D := match toP S 60 x, toP S 60 y with
  | some d, some (.list ds) => .ok (.bl (if neg then !ds.any (fun z => PyData.eqv z d) else ds.any fun z => PyData.eqv z d)) S
  | _, _ => .bad
theorem od_inD (hu : X.A.units + 65 < cLine) : OpD X (compareOp .In) (dInD false) := ⟨_, op_inD hu, fun w x y d e W σ Q hw r1 r2 hs => by
  unfold dInD at hs
  split at hs
  · rename_i p ps h1 h2
    exact ⟨p, ps, toP_dp hw 60 d x p h1 r1, toP_dp hw 60 e y _ h2 r2, shaped_of h1, shaped_of h2, SatW.here hs hw rpb⟩
  · exact hs.elim⟩
theorem od_notInD (hu : X.A.units + 65 < cLine) : OpD X (compareOp .NotIn) (dInD true) := ⟨_, op_notInD hu, fun w x y d e W σ Q hw r1 r2 hs => by
  unfold dInD at hs
  split at hs
  · rename_i p ps h1 h2
    exact ⟨p, ps, toP_dp hw 60 d x p h1 r1, toP_dp hw 60 e y _ h2 r2, shaped_of h1, shaped_of h2, SatW.here hs hw rpb⟩
  · exact hs.elim⟩
def FldC (K : PySem.W.Frag) (f : Str) (c : Str) : Prop := ∀ C, ClsAt K c C → PySem.W.findIn K (.ref C) f = some none ∧ XfC K C
end
end Dv
/-! # Dv14: reckoning with exceptions -/
namespace Dv
open PySem PySem.Spec PyProof.Rows L2
section
variable {oo : Option D} {ll : Env} {S S' : Store} {e e' : Env} {x : Exn} {c d : Str} {i j : Nat} {g : Env → Store → Out} {L : List (Str × Str × Bool)} {R : List Str} {Q : Pst}
@[simp] theorem yRaise_app : yRaise c (oo :: ll) S = .exc ⟨c, none⟩ (oo :: ll) S := rfl
@[simp] theorem yTry_nx (h : g e S = .nx e' S') : yTryKeep L d i j g e S = .nx e' S' := by simp only [yTryKeep, h]
theorem yTry_exc {o : Option D} (h : g e S = .exc x e' S') (hs : subT L x.cls d = some true) (hi : e'[i]? = some o) : yTryKeep L d i j g e S = .nx ((e'.set j (some (.exn x.cls x.val))).set i none) S' := by simp only [yTryKeep, h, hs, hi]
theorem enso_try (h : EnsO (g e S) Q) : EnsO (yTryKeep L d i j g e S) Q := by
  unfold yTryKeep
  cases o : g e S with
  | exc y e2 S2 => rw [o] at h; exact (h.go).elim
  | _ => rw [o] at h; exact h
/-- a body that tells or is caught -/
theorem enso_try2 (x : Exn) (hs : subT L x.cls d = some true) (h : EnsO (g e S) Q ∨ ∃ o, e[i]? = some o ∧ g e S = .exc x e S ∧ Q.nx ((e.set j (some (.exn x.cls x.val))).set i none) S) : EnsO (yTryKeep L d i j g e S) Q := by
  rcases h with h | ⟨o, hi, hg, q⟩
  · exact enso_try h
  · rw [yTry_exc hg hs hi, enso_nx]
    exact q
@[simp] theorem isE_cls {f : Option (Str × Int)} : bIsE L R [.exn c f, .cls d] S = if c ∈ R then match subT L c d with | some b => .ok (.bl b) S | none => .bad else .bad := rfl
@[simp] theorem isE_ty {f : Option (Str × Int)} {v : V} : bIsE L R [.exn c f, .raw v] S = if c ∈ R ∧ v = .ty "ValueError" then .ok (.bl true) S else .bad := rfl
@[simp] theorem isN_exn {f : Option (Str × Int)} : dIsN (.exn c f) .non S = .ok (.bl false) S := rfl
@[simp] theorem isN_non : dIsN .non .non S = .ok (.bl true) S := rfl
@[simp] theorem isN_int {k : Int} : dIsN (.int k) .non S = .ok (.bl false) S := rfl
@[simp] theorem isN_tup {l : List D} : dIsN (.tup l) .non S = .ok (.bl false) S := rfl
@[simp] theorem isN_lst {l : List D} : dIsN (.lst l) .non S = .ok (.bl false) S := rfl
@[simp] theorem isE_tup {f : Option (Str × Int)} {l : List D} : bIsE L R [.exn c f, .tup l] S = if c ∈ R then match anyE L c l with | some b => .ok (.bl b) S | none => .bad else .bad := rfl
@[simp] theorem anyE_nil : anyE L c [] = some false := rfl
@[simp] theorem anyE_cons {l : List D} : anyE L c (.cls d :: l) = match subT L c d, anyE L c l with | some a, some b => some (a || b) | _, _ => none := rfl
theorem toPs_bls {S : Store} {n : Nat} : ∀ cs : List Bool, toPs S n (cs.map D.bl) = some (cs.map PyData.bool)
  | [] => by simp [toPs]
  | c :: cs => by
    have e : toP S n (D.bl c) = some (.bool c) := by cases n <;> simp [toP]
    simp [toPs, e, toPs_bls cs]
/-- a def that raises -/
theorem fn_exc {np ns : Nat} {keep : Bool} {body : Env → Store → Out} {ds : List D} {e : Env} (hl : ds.length = np) (h : body (ds.map some ++ List.replicate (ns - np) none) S = .exc x e S) : fnD np ns keep body ds S = .exc x S := by
  unfold fnD
  rw [if_pos hl, h]
  simp [finX]
theorem fn_exc' {np ns : Nat} {keep : Bool} {body : Env → Store → Out} {ds : List D} {e : Env} {R : Store} (hl : ds.length = np) (hu : (S.all fun c => c.under S.length) = true) (h : body (ds.map some ++ List.replicate (ns - np) none) S = .exc x e (S ++ R)) : fnD np ns keep body ds S = .exc x S := by
  unfold fnD
  rw [if_pos hl, h]
  simp only [finX]
  by_cases z : (S ++ R).length = S.length
  · rw [if_pos z]
    have : R = [] := List.length_eq_zero_iff.mp (by rw [List.length_append] at z; omega)
    subst this
    simp
  · rw [if_neg z, List.take_left, hu]
    rfl
end
end Dv
/-! # Dv15: fractions in lowest terms are rational numbers -/
namespace Dv
open PySem PySem.Spec PyProof.Rows L2
/-- a fraction as the program has it -/
def fr (x : Rat) : D := .tup [.int x.num, .int x.den]
/-- the divisor with the lower part's sign -/
def gsr (a b : Int) : Int := if b < 0 then 0 - (Int.gcd a b : Int) else Int.gcd a b
theorem gsr_ne {a b : Int} (h : b ≠ 0) : gsr a b ≠ 0 := by
  have e : Int.gcd a b ≠ 0 := fun z => h (Int.gcd_eq_zero_iff.mp z).2
  unfold gsr
  split <;> omega
theorem gsr_dr (a b : Int) : gsr a b ∣ b := by
  unfold gsr
  split
  · rw [Int.zero_sub, Int.neg_dvd]; exact Int.gcd_dvd_right ..
  · exact Int.gcd_dvd_right ..
theorem gsr_dl (a b : Int) : gsr a b ∣ a := by
  unfold gsr
  split
  · rw [Int.zero_sub, Int.neg_dvd]; exact Int.gcd_dvd_left ..
  · exact Int.gcd_dvd_left ..
theorem gsr_sz {a b : Int} {n : Nat} (h : b ≠ 0) (hb : Sz n b) : Sz n (gsr a b) := hb.of_le (by
  have := Int.natAbs_dvd_natAbs.mpr (gsr_dr a b)
  exact Nat.le_of_dvd (by omega) this)
theorem fdiv_exact {a g : Int} (hg : g ≠ 0) (h : g ∣ a) : a.fdiv g = a / g := by
  obtain ⟨c, rfl⟩ := h
  rw [Int.mul_fdiv_cancel_left _ hg, Int.mul_ediv_cancel_left _ hg]
theorem gsr_num {a b : Int} (h : b ≠ 0) : a.fdiv (gsr a b) = ((a : Rat) / (b : Rat)).num := by
  rw [← Rat.divInt_eq_div, Rat.num_divInt, fdiv_exact (gsr_ne h) (gsr_dl a b), Int.gcd_comm b a]
  unfold gsr
  by_cases hl : b < 0
  · rw [if_pos hl, Int.sign_eq_neg_one_of_neg hl, Int.zero_sub, Int.ediv_neg, Int.neg_mul, Int.one_mul]
    obtain ⟨c, hc⟩ : (Int.gcd a b : Int) ∣ a := Int.gcd_dvd_left ..
    have e : (Int.gcd a b : Int) ≠ 0 := fun z => h (Int.gcd_eq_zero_iff.mp (show Int.gcd a b = 0 by omega)).2
    generalize (Int.gcd a b : Int) = g at hc e
    subst hc
    rw [Int.mul_ediv_cancel_left _ e, show -(g * c) = g * (-c) by rw [Int.mul_neg], Int.mul_ediv_cancel_left _ e]
  · rw [if_neg hl, Int.sign_eq_one_of_pos (by omega), Int.one_mul]
theorem gsr_den {a b : Int} (h : b ≠ 0) : b.fdiv (gsr a b) = (((a : Rat) / (b : Rat)).den : Int) := by
  rw [← Rat.divInt_eq_div, Rat.den_divInt, if_neg h, fdiv_exact (gsr_ne h) (gsr_dr a b), Int.gcd_comm b a]
  unfold gsr
  obtain ⟨c, hc⟩ : (Int.gcd a b : Int) ∣ b := Int.gcd_dvd_right ..
  have e : (Int.gcd a b : Int) ≠ 0 := fun z => h (Int.gcd_eq_zero_iff.mp (show Int.gcd a b = 0 by omega)).2
  by_cases hl : b < 0
  · rw [if_pos hl, Int.natCast_ediv, Int.ofNat_natAbs_of_nonpos (by omega), Int.zero_sub]
    generalize (Int.gcd a b : Int) = g at hc e
    subst hc
    rw [Int.ediv_neg, Int.mul_ediv_cancel_left _ e, show -(g * c) = g * (-c) by rw [Int.mul_neg], Int.mul_ediv_cancel_left _ e]
  · rw [if_neg hl, Int.natCast_ediv, Int.natAbs_of_nonneg (by omega)]
theorem fr_div {a b : Int} (h : b ≠ 0) : D.tup [.int (a.fdiv (gsr a b)), .int (b.fdiv (gsr a b))] = fr ((a : Rat) / b) := by
  rw [gsr_num h, gsr_den h]; rfl
/-! ### sizes -/
structure Fs (n : Nat) (x : Rat) : Prop where
  num : Sz n x.num
  den : Sz n (x.den : Int)
theorem Fs.le {n m : Nat} {x : Rat} (h : Fs n x) (hl : n ≤ m) : Fs m x := ⟨h.num.le hl, h.den.le hl⟩
theorem den_ne (x : Rat) : (x.den : Int) ≠ 0 := by have := x.den_nz; omega
theorem den_pos (x : Rat) : (0 : Int) < (x.den : Int) := by have := x.den_nz; omega
theorem denq (x : Rat) : (x.den : Rat) ≠ 0 := fun z => x.den_nz (Rat.natCast_eq_zero_iff.mp z)
theorem num_eq (x : Rat) : (x.num : Rat) = x * (x.den : Rat) := by
  have e : x = (x.num : Rat) / (x.den : Rat) := by
    have := Rat.num_divInt_den x
    rw [Rat.divInt_eq_div] at this
    exact this.symm
  calc (x.num : Rat) = ((x.num : Rat) / (x.den : Rat)) * (x.den : Rat) := (Rat.div_mul_cancel (denq x)).symm
    _ = x * (x.den : Rat) := by rw [← e]
theorem plus_rat (x y : Rat) : ((x.num * y.den + y.num * x.den : Int) : Rat) / ((x.den * y.den : Int) : Rat) = x + y := by
  have h1 := denq x
  have h2 := denq y
  simp only [Rat.intCast_add, Rat.intCast_mul, num_eq, Rat.intCast_natCast]
  generalize (x.den : Rat) = d at *
  generalize (y.den : Rat) = e at *
  grind
theorem minus_rat (x y : Rat) : ((x.num * y.den - y.num * x.den : Int) : Rat) / ((x.den * y.den : Int) : Rat) = x - y := by
  have h1 := denq x
  have h2 := denq y
  simp only [Rat.intCast_sub, Rat.intCast_mul, num_eq, Rat.intCast_natCast]
  generalize (x.den : Rat) = d at *
  generalize (y.den : Rat) = e at *
  grind
theorem times_rat (x y : Rat) : ((x.num * y.num : Int) : Rat) / ((x.den * y.den : Int) : Rat) = x * y := by
  have h1 := denq x
  have h2 := denq y
  simp only [Rat.intCast_mul, num_eq, Rat.intCast_natCast]
  generalize (x.den : Rat) = d at *
  generalize (y.den : Rat) = e at *
  grind
theorem over_rat (x y : Rat) (hy : y ≠ 0) : ((x.num * y.den : Int) : Rat) / ((x.den * y.num : Int) : Rat) = x / y := by
  have h1 := denq x
  have h2 := denq y
  simp only [Rat.intCast_mul, num_eq, Rat.intCast_natCast]
  generalize (x.den : Rat) = d at *
  generalize (y.den : Rat) = e at *
  grind
theorem plus_rat' (x y : Rat) : ((x.num : Rat) * ((y.den : Int) : Rat) + (y.num : Rat) * ((x.den : Int) : Rat)) / (((x.den : Int) : Rat) * ((y.den : Int) : Rat)) = x + y := by
  have := plus_rat x y
  simpa using this
theorem minus_rat' (x y : Rat) : ((x.num : Rat) * ((y.den : Int) : Rat) - (y.num : Rat) * ((x.den : Int) : Rat)) / (((x.den : Int) : Rat) * ((y.den : Int) : Rat)) = x - y := by
  have := minus_rat x y
  simpa using this
theorem times_rat' (x y : Rat) : ((x.num : Rat) * (y.num : Rat)) / (((x.den : Int) : Rat) * ((y.den : Int) : Rat)) = x * y := by
  have := times_rat x y
  simpa using this
theorem over_rat' (x y : Rat) (hy : y ≠ 0) : ((x.num : Rat) * ((y.den : Int) : Rat)) / (((x.den : Int) : Rat) * (y.num : Rat)) = x / y := by
  have := over_rat x y hy
  simpa using this
theorem num_ne {x : Rat} (h : x ≠ 0) : x.num ≠ 0 := fun z => h (Rat.num_eq_zero.mp z)
theorem fr_inj {x y : Rat} (h : fr x = fr y) : x = y := by
  unfold fr at h
  injection h with h
  injection h with h1 h2
  injection h2 with h2 _
  injection h1 with h1
  injection h2 with h2
  exact Rat.ext h1 (by omega)
theorem fr_toP (x : Rat) (S : Store) (n : Nat) : toP S (n + 1) (fr x) = some (.tuple [.int x.num, .int x.den]) := by
  cases n <;> simp [fr, toP, toPs]
theorem fr_eqv (x y : Rat) : PyData.eqv (.tuple [.int x.num, .int x.den]) (.tuple [.int y.num, .int y.den]) = decide (x = y) := by
  simp only [PyData.eqv, PyData.eqvAll]
  by_cases h : x = y
  · subst h; simp
  · rw [decide_eq_false h]
    by_cases h1 : x.num = y.num
    · have h2 : ¬ x.den = y.den := fun z => h (Rat.ext h1 z)
      simp [h1]; omega
    · simp [h1]
@[simp] theorem dEq_fr (x y : Rat) (S : Store) : dEq (fr x) (fr y) S = .ok (.bl (decide (x = y))) S := by
  rw [dEq_of (fr_toP x S 59) (fr_toP y S 59), fr_eqv]
@[simp] theorem dNe_fr (x y : Rat) (S : Store) : dNe (fr x) (fr y) S = .ok (.bl (!decide (x = y))) S := by
  rw [dNe_of (fr_toP x S 59) (fr_toP y S 59), fr_eqv]
@[simp] theorem dIx_fr0 (x : Rat) (S : Store) : dIx (fr x) (.int 0) S = .ok (.int x.num) S := by
  unfold fr; rw [dIx_tup, atI_zero]
@[simp] theorem dIx_fr1 (x : Rat) (S : Store) : dIx (fr x) (.int 1) S = .ok (.int x.den) S := by
  unfold fr; rw [dIx_tup, atI_one]
@[simp] theorem fr_zero : D.tup [.int 0, .int 1] = fr 0 := rfl
@[simp] theorem fr_one : D.tup [.int 1, .int 1] = fr 1 := rfl
theorem fr_int (k : Int) : D.tup [.int k, .int 1] = fr (k : Rat) := rfl
theorem fr_under {n : Nat} (x : Rat) : (fr x).under n = true := rfl

@[simp] theorem atI_three {α : Type} {a b c d : α} {l : List α} : L2.atI (a :: b :: c :: d :: l) 3 = some d := by
  have : (3 : Int) = ((3 : Nat) : Int) := rfl
  rw [this]
  exact atI_nat rfl
@[simp] theorem atI_four {α : Type} {a b c d e : α} {l : List α} : L2.atI (a :: b :: c :: d :: e :: l) 4 = some e := by
  have : (4 : Int) = ((4 : Nat) : Int) := rfl
  rw [this]
  exact atI_nat rfl
mutual
theorem under_mono {n m : Nat} (h : n ≤ m) : ∀ d : D, d.under n = true → d.under m = true
  | .cell k, u => by
    unfold D.under at *
    exact decide_eq_true (Nat.lt_of_lt_of_le (of_decide_eq_true u) h)
  | .tup l, u => by unfold D.under at *; exact underL_mono h l u
  | .lst l, u => by unfold D.under at *; exact underL_mono h l u
  | .scr l, u => by unfold D.under at *; exact underL_mono h l u
  | .non, _ => rfl
  | .bl _, _ => rfl
  | .int _, _ => rfl
  | .str _, _ => rfl
  | .raw _, _ => rfl
  | .cls _, _ => rfl
  | .exn _ _, _ => rfl
theorem underL_mono {n m : Nat} (h : n ≤ m) : ∀ l : List D, D.underL n l = true → D.underL m l = true
  | [], _ => rfl
  | d :: l, u => by
    unfold D.underL at *
    rw [Bool.and_eq_true] at *
    exact ⟨under_mono h d u.1, underL_mono h l u.2⟩
end
theorem cn_under_mono {n m : Nat} (h : n ≤ m) {c : Cn} (u : c.under n = true) : c.under m = true := by
  cases c with
  | dead => rfl
  | lst l => exact underL_mono h l u
  | dct kvs =>
    unfold Cn.under at *
    rw [List.all_eq_true] at *
    exact fun p hp => under_mono h _ (u p hp)
/-! ### over a common lower part -/
/-- a whole number over N, of a size of B at most -/
structure On (N B : Nat) (x : Rat) : Prop where
  pos : 0 < N
  ex : ∃ a : Int, x * (N : Rat) = (a : Rat) ∧ a.natAbs ≤ B * N
theorem natq {N : Nat} (h : 0 < N) : (N : Rat) ≠ 0 := fun z => by
  have := Rat.natCast_eq_zero_iff.mp z
  omega
theorem On.den {N B : Nat} {x : Rat} (h : On N B x) : x.den ∣ N := by
  obtain ⟨h0, a, e, _⟩ := h
  have ex : x = Rat.divInt a N := by
    rw [Rat.divInt_eq_div, Rat.intCast_natCast, ← e, Rat.mul_div_cancel (natq h0)]
  rw [ex, Rat.den_divInt, if_neg (by omega)]
  exact ⟨Int.gcd N a, by
    have : Int.gcd N a ∣ N := by simpa using Int.natAbs_dvd_natAbs.mpr (Int.gcd_dvd_left (a := (N : Int)) (b := a))
    simpa using (Nat.div_mul_cancel this).symm⟩
theorem On.num {N B : Nat} {x : Rat} (h : On N B x) : x.num.natAbs ≤ B * N := by
  have hd := h.den
  obtain ⟨h0, a, e, hb⟩ := h
  obtain ⟨c, rfl⟩ := hd
  have hc : 0 < c := Nat.pos_of_ne_zero fun z => by subst z; simp at h0
  have h1 : (x.num : Rat) * (c : Rat) = (a : Rat) := by
    rw [num_eq, ← e, Rat.natCast_mul]
    grind
  have h2 : x.num * (c : Int) = a := by
    have : ((x.num * (c : Int) : Int) : Rat) = (a : Rat) := by rw [Rat.intCast_mul, Rat.intCast_natCast]; exact h1
    exact Rat.intCast_inj.mp this
  have h3 : x.num.natAbs * c = a.natAbs := by rw [← h2, Int.natAbs_mul]; simp
  calc x.num.natAbs ≤ x.num.natAbs * c := Nat.le_mul_of_pos_right _ hc
    _ = a.natAbs := h3
    _ ≤ _ := hb
theorem On.fs {N B n : Nat} {x : Rat} (h : On N B x) (h1 : N < 2 ^ n) (h2 : B * N < 2 ^ n) : Fs n x :=
  ⟨Nat.lt_of_le_of_lt h.num h2, by
    show ((x.den : Int)).natAbs < 2 ^ n
    have := Nat.le_of_dvd h.pos h.den
    simp
    omega⟩
theorem On.add {N B C : Nat} {x y : Rat} (h : On N B x) (g : On N C y) : On N (B + C) (x + y) := by
  obtain ⟨h0, a, e, hb⟩ := h
  obtain ⟨_, b, f, hc⟩ := g
  refine ⟨h0, a + b, ?_, ?_⟩
  · rw [Rat.intCast_add, ← e, ← f]; grind
  · rw [Nat.add_mul]
    have := Int.natAbs_add_le a b
    omega
theorem On.sub {N B C : Nat} {x y : Rat} (h : On N B x) (g : On N C y) : On N (B + C) (x - y) := by
  obtain ⟨h0, a, e, hb⟩ := h
  obtain ⟨_, b, f, hc⟩ := g
  refine ⟨h0, a - b, ?_, ?_⟩
  · rw [Rat.intCast_sub, ← e, ← f]; grind
  · rw [Nat.add_mul]
    have := Int.natAbs_sub_le a b
    omega
theorem On.mul {N M B C : Nat} {x y : Rat} (h : On N B x) (g : On M C y) : On (N * M) (B * C) (x * y) := by
  obtain ⟨h0, a, e, hb⟩ := h
  obtain ⟨g0, b, f, hc⟩ := g
  refine ⟨Nat.mul_pos h0 g0, a * b, ?_, ?_⟩
  · rw [Rat.intCast_mul, ← e, ← f, Rat.natCast_mul]; grind
  · rw [Int.natAbs_mul]
    calc a.natAbs * b.natAbs ≤ (B * N) * (C * M) := Nat.mul_le_mul hb hc
      _ = _ := by grind
theorem On.int (k : Int) : On 1 k.natAbs (k : Rat) := ⟨by decide, k, by simp, by simp⟩
theorem On.up {N M B : Nat} {x : Rat} (h : On N B x) (hd : N ∣ M) (h0 : 0 < M) : On M B x := by
  obtain ⟨_, a, e, hb⟩ := h
  obtain ⟨c, rfl⟩ := hd
  refine ⟨h0, a * c, ?_, ?_⟩
  · rw [Rat.intCast_mul, ← e, Rat.natCast_mul, Rat.intCast_natCast]; grind
  · rw [Int.natAbs_mul]
    calc a.natAbs * (c : Int).natAbs ≤ (B * N) * c := Nat.mul_le_mul hb (by simp)
      _ = _ := by grind
theorem On.mono {N B C : Nat} {x : Rat} (h : On N B x) (hl : B ≤ C) : On N C x := ⟨h.pos, by
  obtain ⟨a, e, hb⟩ := h.ex
  exact ⟨a, e, Nat.le_trans hb (Nat.mul_le_mul_right _ hl)⟩⟩
theorem On.bd {N B C : Nat} {x : Rat} (h : On N B x) (h1 : -(C : Rat) ≤ x) (h2 : x ≤ (C : Rat)) : On N C x := ⟨h.pos, by
  obtain ⟨a, e, hb⟩ := h.ex
  refine ⟨a, e, ?_⟩
  have hN : (0 : Rat) < (N : Rat) := Rat.natCast_pos.mpr h.pos
  have k1 : ((a : Int) : Rat) ≤ (((C * N : Nat) : Int) : Rat) := by
    rw [← e, Rat.intCast_natCast, Rat.natCast_mul]
    exact Rat.mul_le_mul_of_nonneg_right h2 (Rat.le_of_lt hN)
  have k2 : ((-(C * N : Nat) : Int) : Rat) ≤ ((a : Int) : Rat) := by
    rw [← e, Rat.intCast_neg, Rat.intCast_natCast, Rat.natCast_mul]
    have := Rat.mul_le_mul_of_nonneg_right h1 (Rat.le_of_lt hN)
    rw [Rat.neg_mul] at this
    exact this
  rw [Rat.intCast_le_intCast] at k1 k2
  omega⟩
theorem On.div {a b : Int} {N B : Nat} (hN : 0 < N) (hb : b = (N : Int)) (h : a.natAbs ≤ B * N) : On N B ((a : Rat) / (b : Rat)) := ⟨hN, a, by
  subst hb
  rw [Rat.intCast_natCast, Rat.div_mul_cancel (natq hN)], h⟩
theorem On.one {N : Nat} (h : 0 < N) : On N 1 1 := ⟨h, N, by rw [Rat.intCast_natCast]; grind, by simp⟩
theorem On.zero {N : Nat} (h : 0 < N) : On N 0 0 := ⟨h, 0, by simp, by simp⟩
theorem On.times {N B : Nat} {x : Rat} (h : On N B x) (c : Int) : On N (c.natAbs * B) ((c : Rat) * x) := by
  have := (On.int c).mul h
  rwa [Nat.one_mul] at this
theorem int_fs {k : Int} {n : Nat} (h : k.natAbs < 2 ^ n) (h0 : 0 < n) : Fs n (k : Rat) := ⟨h, by
  show ((k : Rat).den : Int).natAbs < 2 ^ n
  simp; omega⟩
end Dv
/-! # Dv16: xs[::-1]; is True -/
namespace Dv
open PySem PySem.Spec PyProof.Rows L2
def xRevL (mk : List D → M D) (f : Env → M D) : Env → M D := fun e S => (f e S).bind fun d S1 => match getQ d S1 with
  | some l => mk l.reverse S1
  | none => .bad
theorem pd_revL {X : Cx} {W : WX} {e : Expr} {f : Env → M D} {mk : List D → M D} {k : Nat} {p1 p2 p3 pos : Pos} (m : Mk mk) (he : PD X W e f) : PD X W (.Subscript e (.Slice none none (some (.UnaryOp .USub (.Constant (.int 1) k p1) p2)) p3) pos) (xRevL mk f) := by
  refine weakE (pe_revL he) fun σ H Q ⟨w, env, eH, hw, he, hs⟩ => ?_
  subst eH
  refine ⟨w, env, rfl, hw, he, SatW.imp (SatW.bind hs) fun w1 d v g1 r1 s1 => ?_⟩
  cases q : getQ d w1.S with
  | none => simp only [q] at s1; exact s1.elim
  | some l =>
    simp only [q] at s1
    obtain ⟨a, vs, rfl, hq, t⟩ := getQ_ok g1.wd r1 q
    exact ⟨a, vs, rfl, hq, m.go g1.wd t.reverse s1⟩
@[simp] theorem xRevL_app {oo : Option D} {ll : Env} {S : Store} {mk : List D → M D} {f : Env → M D} : xRevL mk f (oo :: ll) S = (f (oo :: ll) S).bind fun d S1 => match getQ d S1 with | some l => mk l.reverse S1 | none => .bad := rfl
def dIsB (a b : D) (S : Store) : Res D := match a, b with
  | .bl x, .bl y => .ok (.bl (decide (x = y))) S
  | _, _ => .bad
def dIsNotB (a b : D) (S : Store) : Res D := match a, b with
  | .bl x, .bl y => .ok (.bl (!decide (x = y))) S
  | _, _ => .bad
theorem od_isB {X : Cx} : OpD X (compareOp .Is) dIsB := ⟨_, op_isBl, fun w x y d e W σ Q hw r1 r2 hs => by
  unfold dIsB at hs
  split at hs
  · rename_i a b
    exact ⟨a, b, rp_bl r1, rp_bl r2, SatW.here hs hw rpb⟩
  · exact hs.elim⟩
theorem od_isNotB {X : Cx} : OpD X (compareOp .IsNot) dIsNotB := ⟨_, op_notBl, fun w x y d e W σ Q hw r1 r2 hs => by
  unfold dIsNotB at hs
  split at hs
  · rename_i a b
    exact ⟨a, b, rp_bl r1, rp_bl r2, SatW.here hs hw rpb⟩
  · exact hs.elim⟩
@[simp] theorem dIsB_bl {a b : Bool} {S : Store} : dIsB (.bl a) (.bl b) S = .ok (.bl (decide (a = b))) S := rfl
@[simp] theorem dIsNotB_bl {a b : Bool} {S : Store} : dIsNotB (.bl a) (.bl b) S = .ok (.bl (!decide (a = b))) S := rfl
end Dv
/-! # Dv17: loops over a list that may change; a list, frozen or not -/
namespace Dv
open PySem PySem.Spec PyProof.Rows L2
theorem en0_forC {chk : Store → Prop} {g : D → Env → Store → Out} {b : Env → Store → Out} {items : List D} {e : Env} {S : Store} {Q : Pst} (I : Nat → Env → Store → Prop) (h0 : I 0 e S) (hc : ∀ i e S, I i e S → chk S)
    (hs : ∀ (i : Nat) d e S, items[i]? = some d → I i e S → EnO0 (g d e S) { nx := fun e1 S1 => EnO0 (b e1 S1) { nx := I (i + 1), ct := I (i + 1), bk := Q.nx, rt := Q.rt } })
    (hd : ∀ e S, I items.length e S → Q.nx e S) : EnO0 (forL chk g b items e S) Q := by
  have go : ∀ (l : List D) (i : Nat) (e : Env) (S : Store), items.drop i = l → i ≤ items.length → I i e S → EnO0 (forL chk g b l e S) Q := by
    intro l
    induction l with
    | nil =>
      intro i e S hl hi h
      rw [forL, if_pos (hc i e S h)]
      have e1 := drop_nil hl hi
      subst e1
      exact hd e S h
    | cons d l ih =>
      intro i e S hl hi h
      obtain ⟨h1, h2⟩ := drop_get hl
      have st := hs i d e S h1 h
      have hlt : i < items.length := (List.getElem?_eq_some_iff.mp h1).1
      rw [forL, if_pos (hc i e S h)]
      cases o : g d e S with
      | nx e1 S1 =>
        rw [o] at st
        have st' : EnO0 (b e1 S1) { nx := I (i + 1), ct := I (i + 1), bk := Q.nx, rt := Q.rt } := st
        show EnO0 (match b e1 S1 with
          | .nx e' S' => forL chk g b l e' S'
          | .ct e' S' => forL chk g b l e' S'
          | .bk e' S' => .nx e' S'
          | o => o) Q
        cases ob : b e1 S1 with
        | nx e2 S2 => rw [ob] at st'; exact ih (i + 1) e2 S2 h2 hlt st'
        | ct e2 S2 => rw [ob] at st'; exact ih (i + 1) e2 S2 h2 hlt st'
        | bk e2 S2 => rw [ob] at st'; exact st'
        | rt d2 S2 => rw [ob] at st'; exact st'
        | exc x e2 S2 => rw [ob] at st'; exact st'.elim
        | bad => rw [ob] at st'; exact st'.elim
      | rt _ _ => rw [o] at st; exact st.elim
      | bk _ _ => rw [o] at st; exact st.elim
      | ct _ _ => rw [o] at st; exact st.elim
      | exc _ _ _ => rw [o] at st; exact st.elim
      | bad => rw [o] at st; exact st.elim
  exact go items 0 e S rfl (Nat.zero_le _) h0
theorem ens_frC {chk : Store → Prop} {g : D → Env → Store → Out} {b : Env → Store → Out} {items : List D} {e : Env} {S : Store} {Q : Pst} (I : Nat → Env → Store → Prop) (h0 : I 0 e S) (hc : ∀ i e S, I i e S → chk S)
    (hs : ∀ (i : Nat) d e S (R' : Env → Store → Prop), items[i]? = some d → I i e S → (∀ e S, I (i + 1) e S → R' e S) → EnsO (g d e S) { nx := fun e1 S1 => EnsO (b e1 S1) { nx := R', ct := R', bk := Q.nx, rt := Q.rt } })
    (hd : ∀ e S, I items.length e S → Q.nx e S) : EnsO (forL chk g b items e S) Q :=
  ⟨en0_forC I h0 hc (fun i d e S h1 h2 => (hs i d e S _ h1 h2 fun _ _ h => h).go.imp (fun _ _ h => h.go) (fun _ _ h => h.elim) (fun _ _ h => h.elim) (fun _ _ h => h.elim)) hd⟩
/-- S' is S and more behind it -/
def Ext (S S' : Store) : Prop := ∃ R, S' = S ++ R
theorem Ext.refl (S : Store) : Ext S S := ⟨[], by simp⟩
theorem Ext.app (S R : Store) : Ext S (S ++ R) := ⟨R, rfl⟩
theorem Ext.get {S S' : Store} (h : Ext S S') {n : Nat} {c : Cn} (e : S[n]? = some c) : S'[n]? = some c := by
  obtain ⟨R, rfl⟩ := h
  have := (List.getElem?_eq_some_iff.mp e).1
  rw [List.getElem?_append_left this]
  exact e
/-- a list that may be read: frozen, or a cell -/
structure LstAt (S : Store) (p : D) (l : List D) : Prop where
  src : ∀ S', Ext S S' → ∃ chk : Store → Prop, srcL p S' = .ok ⟨l, chk⟩ S' ∧ ∀ S2, Ext S S2 → chk S2
  zip : ∀ S' m, Ext S S' → ∃ chk : Store → Prop, srcZip [p, .lst m] S' = .ok ⟨(l.zip m).map fun z => .tup [z.1, z.2], chk⟩ S' ∧ ∀ S2, Ext S S2 → chk S2
  get : ∀ S', Ext S S' → getQ p S' = some l
  ix : ∀ S' k, Ext S S' → dIx p k S' = dIx (.lst l) k S'
  len : ∀ S', Ext S S' → bLen [p] S' = .ok (.int l.length) S'
theorem lst_lst (S : Store) (l : List D) : LstAt S (.lst l) l := ⟨fun _ _ => ⟨_, rfl, fun _ _ => trivial⟩, fun _ m _ => ⟨fun _ => True, by rw [srcZip_lst], fun _ _ => trivial⟩, fun _ _ => rfl, fun _ _ _ => rfl, fun _ _ => by simp⟩
theorem lst_cell {S : Store} {n : Nat} {l : List D} (h : S[n]? = some (.lst l)) : LstAt S (.cell n) l := by
  refine ⟨fun S' x => ⟨_, srcL_cell (x.get h), fun S2 y => y.get h⟩, fun S' m x => ⟨fun S2 => S2[n]? = some (.lst l) ∧ True, ?_, fun S2 y => ⟨y.get h, trivial⟩⟩, fun S' x => ?_, fun S' k x => ?_, fun S' x => ?_⟩
  · have := x.get h
    simp [srcZip, stL, this]
  · have := x.get h
    simp only [getQ, getL, this]
  · have := x.get h
    cases k <;> simp only [dIx, getQ, getL, this]
  · have := x.get h
    simp [bLen, getQ, getL, this]
end Dv
/-! # Dv18: dicts in cells; sorted; list.pop -/
namespace Dv
open PySem PySem.Spec PyProof.Rows L2
theorem units1 {k : Nat} {A : Around} (r : Room k A) : A.units + 1 < cLine := by have := r.un; omega
/-! ### keys and tables -/
def keyD : D → Option Key
  | .int i => some (.inl i)
  | .str x => some (.inr x)
  | _ => none
theorem keyD_v {K : PySem.W.Frag} {r : List Addr} {F : Hp} {d : D} {v : V} {k : Key} (h : Rp K r F d v) (e : keyD d = some k) : v = kV k := by
  cases d with
  | int i => cases e; rw [rp_int h]; rfl
  | str x => cases e; rw [rp_str h]; rfl
  | _ => cases e
def cellK (d : D) (S : Store) : Option (Nat × List (Key × D)) := match d with
  | .cell n => match S[n]? with
    | some (.dct l) => some (n, l)
    | _ => none
  | _ => none
theorem cellK_eq {d : D} {S : Store} {n : Nat} {l : List (Key × D)} (h : cellK d S = some (n, l)) : d = .cell n ∧ S[n]? = some (.dct l) := by
  unfold cellK at h
  split at h
  · split at h
    · rename_i k l' e
      cases h
      exact ⟨rfl, e⟩
    · cases h
  · cases h
def valD (kvs : List (Key × D)) (k : Key) : Option D := (kvs.find? fun kv => decide (kv.1 = k)).map (·.2)
def putD (kvs : List (Key × D)) (k : Key) (d : D) : List (Key × D) :=
  if (kvs.any fun kv => decide (kv.1 = k)) = true then kvs.map (fun kv => if kv.1 = k then (kv.1, d) else kv) else kvs ++ [(k, d)]
section
variable {K : PySem.W.Frag} {r : List Addr} {F : Hp} {kvs : List (Key × D)} {ws : List (Key × V)}
theorem RpK.some (h : RpK K r F kvs ws) {k : Key} {d : D} (e : valD kvs k = some d) : ∃ v, valV ws k = some v ∧ Rp K r F d v := by
  unfold RpK at h
  induction h with
  | nil => cases e
  | @cons p q ps qs z t ih =>
    obtain ⟨h1, h2⟩ := z
    by_cases c : p.1 = k
    · have b : valD (p :: ps) k = Option.some p.2 := by simp [valD, List.find?_cons, c]
      rw [b] at e
      cases e
      exact ⟨q.2, valV_pos (h1.symm.trans c), h2⟩
    · have b : valD (p :: ps) k = valD ps k := by simp [valD, List.find?_cons, c]
      rw [b] at e
      obtain ⟨v, e2, q2⟩ := ih e
      exact ⟨v, by rw [valV_neg (fun z => c (h1.trans z))]; exact e2, q2⟩
theorem RpK.none (h : RpK K r F kvs ws) {k : Key} (e : valD kvs k = Option.none) : valV ws k = Option.none := by
  unfold RpK at h
  induction h with
  | nil => rfl
  | @cons p q ps qs z t ih =>
    obtain ⟨h1, h2⟩ := z
    by_cases c : p.1 = k
    · have b : valD (p :: ps) k = Option.some p.2 := by simp [valD, List.find?_cons, c]
      rw [b] at e
      cases e
    · have b : valD (p :: ps) k = valD ps k := by simp [valD, List.find?_cons, c]
      rw [b] at e
      rw [valV_neg (fun z => c (h1.trans z))]
      exact ih e
theorem RpK.any (h : RpK K r F kvs ws) (k : Key) : (kvs.any fun kv => decide (kv.1 = k)) = ws.any fun kv => decide (kv.1 = k) := by
  unfold RpK at h
  induction h with
  | nil => rfl
  | cons h t ih => rw [List.any_cons, List.any_cons, ih, h.1]
theorem RpK.repl (h : RpK K r F kvs ws) (k : Key) {d : D} {v : V} (rv : Rp K r F d v) : RpK K r F (kvs.map fun kv => if kv.1 = k then (kv.1, d) else kv) (ws.map fun kv => if kv.1 = k then (kv.1, v) else kv) := by
  unfold RpK at h ⊢
  induction h with
  | nil => exact .nil
  | @cons p q ps qs h t ih =>
    rw [List.map_cons, List.map_cons]
    refine .cons ?_ ih
    obtain ⟨h1, h2⟩ := h
    by_cases e : p.1 = k
    · rw [if_pos e, if_pos (h1.symm.trans e)]; exact ⟨h1, rv⟩
    · rw [if_neg e, if_neg (fun z => e (h1.trans z))]; exact ⟨h1, h2⟩
theorem RpK.put (h : RpK K r F kvs ws) (k : Key) {d : D} {v : V} (rv : Rp K r F d v) : RpK K r F (putD kvs k d) (putK ws k v) := by
  unfold putD putK
  rw [h.any k]
  by_cases e : (ws.any fun kv => decide (kv.1 = k)) = true
  · rw [if_pos e, if_pos e]; exact h.repl k rv
  · rw [if_neg e, if_neg e]; exact Paired.snoc h ⟨rfl, rv⟩
theorem RpK.keys (h : RpK K r F kvs ws) : ws.map (·.1) = kvs.map (·.1) := by
  unfold RpK at h
  induction h with
  | nil => rfl
  | cons h t ih => rw [List.map_cons, List.map_cons, ih, h.1]
theorem RpK.length (h : RpK K r F kvs ws) : ws.length = kvs.length := by
  have := congrArg List.length h.keys
  simpa using this
end
/-- a dict's cell is read, written -/
theorem cellK_read {T : Kt} {w : Wl} {n : Nat} {l : List (Key × D)} {v : V} (hw : Wd T.K w) (r : Rp T.K w.r w.F (.cell n) v) (e : w.S[n]? = some (.dct l)) : ∃ a ws, v = .ref a ∧ w.H a = some (.dK ws) ∧ RpK T.K w.r w.F l ws := by
  unfold Rp at r
  obtain ⟨a, e1, rfl⟩ := r
  obtain ⟨hf, ws, e2, p⟩ := hw.cell n a _ e1 e
  exact ⟨a, ws, rfl, e2, p⟩
theorem cellK_write {T : Kt} {w : Wl} {n : Nat} {l l' : List (Key × D)} {v : V} (hw : Wd T.K w) (r : Rp T.K w.r w.F (.cell n) v) (e : w.S[n]? = some (.dct l)) : ∃ a ws, v = .ref a ∧ w.H a = some (.dK ws) ∧ RpK T.K w.r w.F l ws ∧
    ∀ ws', RpK T.K w.r w.F l' ws' → Go T.K w ⟨w.r, w.F, w.S.set n (.dct l'), upd w.H a (.dK ws')⟩ := by
  unfold Rp at r
  obtain ⟨a, e1, rfl⟩ := r
  obtain ⟨hf, ws, e2, p⟩ := hw.cell n a _ e1 e
  exact ⟨a, ws, rfl, e2, p, fun ws' h => Go.write (c := .dct l') hw e (by simp) e1 (by exact ⟨hf, ws', upd_same, h⟩)⟩
/-! ### {} -/
def xDct0 : Env → M D := fun _ S => .ok (.cell S.length) (S ++ [.dct []])
def dKx (x k : D) (S : Store) : Res D := match cellK x S, keyD k with
  | some (_, l), some kk => match valD l kk with
    | some d => .ok d S
    | none => .bad
  | _, _ => .bad
/-- o[i] of a dict -/
def setK (x i v : D) (S : Store) : Res Unit := match cellK x S, keyD i with
  | some (n, l), some kk => if l.length < 16000000 then .ok () (S.set n (.dct (putD l kk v))) else .bad
  | _, _ => .bad
/-- d.get(k, x) -/
def dGet (x k z : D) (S : Store) : Res D := match cellK x S, keyD k with
  | some (_, l), some kk => .ok ((valD l kk).getD z) S
  | _, _ => .bad
def isK (x : D) (S : Store) : Bool := (cellK x S).isSome
def xGet2 (o e f : Env → M D) : Env → M D := fun n S => (o n S).bind fun x S1 => if isK x S1 = true then (e n S1).bind fun k S2 => (f n S2).bind fun z S3 => dGet x k z S3 else .bad
def xGet1 (o e : Env → M D) : Env → M D := fun n S => (o n S).bind fun x S1 => if isK x S1 = true then (e n S1).bind fun k S2 => dGet x k .non S2 else .bad
def dInK (neg : Bool) (x y : D) (S : Store) : Res D := match cellK y S, keyD x with
  | some (_, l), some kk => .ok (.bl (xor neg (valD l kk).isSome)) S
  | _, _ => .bad
section
variable {X : Cx} {W : WX} {o i e f : Expr} {fo fi fe ff : Env → M D} {pos apos cpos : Pos}
theorem pd_dct0 : PD X W (.Dict [] [] pos) xDct0 := by
  refine weakE pe_dnewK fun σ H Q ⟨w, env, eH, hw, he, hs⟩ p hp => ?_
  subst eH
  refine hs ⟨w.r ++ [p], w.F, w.S ++ [.dct []], upd w.H p (.dK [])⟩ (.ref p) (Go.newCell (c := .dct []) hw hp (by exact ⟨hw.fresh hp, [], upd_same, .nil⟩)) rfl ?_
  unfold RD Rp
  refine ⟨p, ?_, rfl⟩
  show (w.r ++ [p])[w.S.length]? = some p
  rw [← hw.len, List.getElem?_append_right (Nat.le_refl _), Nat.sub_self]
  rfl
theorem pd_dkx (hu : X.A.units + 1 < cLine) (ho : PD X W o fo) (hi : PD X W i fi) (hs : NoSl i := by intro _ _; rfl) : PD X W (.Subscript o i pos) (xOp dKx fo fi) := by
  refine weakE (pe_dget hu ho hi hs) fun σ H Q ⟨w, env, eH, hw, he, hs⟩ => ?_
  subst eH
  refine ⟨w, env, rfl, hw, he, SatW.imp (SatW.bind hs) fun w1 d v g1 r1 s1 => ?_⟩
  refine ⟨w1, env, rfl, g1.wd, he.go g1, SatW.imp (SatW.bind s1) fun w2 d2 v2 g2 r2 s2 => ?_⟩
  have r1' := Rp.go g2 r1
  unfold dKx at s2
  split at s2
  · rename_i n l kk hc hk
    obtain ⟨rfl, en⟩ := cellK_eq hc
    obtain ⟨a, ws, rfl, ha, p⟩ := cellK_read (T := kt X) g2.wd r1' en
    cases q : valD l kk with
    | none => rw [q] at s2; exact s2.elim
    | some d =>
      rw [q] at s2
      obtain ⟨vz, ez, rz⟩ := p.some q
      rw [keyD_v r2 hk]
      exact ⟨a, vz, rfl, by rw [← ez]; exact DGet.k ha, SatW.here (v := vz) s2 g2.wd rz⟩
  · exact s2.elim
theorem sd_dict (hu : X.A.units + 1 < cLine) : SetD X setK := ⟨_, set_dict hu, fun w x i v dx di dv W σ Q hw r1 r2 r3 hs => by
  unfold setK at hs
  split at hs
  · rename_i n l kk hc hk
    obtain ⟨hl, hs⟩ := satIf hs
    obtain ⟨rfl, en⟩ := cellK_eq hc
    obtain ⟨a, ws, rfl, ha, p, go⟩ := cellK_write (T := kt X) (l' := putD l kk dv) hw r1 en
    rw [keyD_v r2 hk]
    exact ⟨a, _, rfl, DPut.k ha (by rw [p.length]; exact Nat.lt_of_lt_of_le hl (line16 (Nat.le_refl _))), hs _ () (go _ (p.put kk r3)) rfl trivial⟩
  · exact hs.elim⟩
theorem isK_isD {w : Wl} {d : D} {v : V} (hw : Wd X.K w) (r : Rp X.K w.r w.F d v) (h : isK d w.S = true) : ∃ a, v = .ref a ∧ IsD w.H a := by
  unfold isK at h
  cases hc : cellK d w.S with
  | none => rw [hc] at h; cases h
  | some p =>
    obtain ⟨n, l⟩ := p
    obtain ⟨rfl, en⟩ := cellK_eq hc
    obtain ⟨a, ws, rfl, ha, p⟩ := cellK_read (T := kt X) hw r en
    exact ⟨a, rfl, .inl ⟨ws, .inl ha⟩⟩
theorem pd_get2 (hu : X.A.units + 1 < cLine) (ho : PD X W o fo) (he : PD X W e fe) (hf : PD X W f ff) (m : M2 X o "get" apos e f cpos := by exact ⟨rfl, rfl, rfl, rfl⟩) : PD X W (.Call (.Attribute o "get" apos) [e, f] [] cpos) (xGet2 fo fe ff) := by
  refine weakE (pe_dget2 hu ho he hf m) fun σ H Q ⟨w, env, eH, hw, he, hs⟩ => ?_
  subst eH
  refine ⟨w, env, rfl, hw, he, SatW.imp (SatW.bind hs) fun w1 d v g1 r1 s1 => ?_⟩
  obtain ⟨hk, s1⟩ := satIf s1
  obtain ⟨a, rfl, hd⟩ := isK_isD g1.wd r1 hk
  refine ⟨a, rfl, hd, w1, env, rfl, g1.wd, he.go g1, SatW.imp (SatW.bind s1) fun w2 d2 v2 g2 r2 s2 => ?_⟩
  refine ⟨w2, env, rfl, g2.wd, (he.go g1).go g2, SatW.imp (SatW.bind s2) fun w3 d3 v3 g3 r3 s3 => ?_⟩
  have r1' := Rp.go (g2.trans g3) r1
  unfold dGet at s3
  split at s3
  · rename_i n l kk hc hk2
    obtain ⟨rfl, en⟩ := cellK_eq hc
    obtain ⟨a', ws, ea, ha, p⟩ := cellK_read (T := kt X) g3.wd r1' en
    cases ea
    rw [keyD_v r2 hk2]
    cases q : valD l kk with
    | none =>
      rw [q] at s3
      exact ⟨_, DGet.k ha, by rw [p.none q]; exact SatW.here (v := v3) s3 g3.wd r3⟩
    | some d =>
      rw [q] at s3
      obtain ⟨vz, ez, rz⟩ := p.some q
      exact ⟨_, DGet.k ha, by rw [ez]; exact SatW.here (v := vz) s3 g3.wd rz⟩
  · exact s3.elim
theorem pd_get1 (hu : X.A.units + 1 < cLine) (ho : PD X W o fo) (he : PD X W e fe) (m : M1 X o "get" apos e cpos := by exact ⟨rfl, rfl, rfl, rfl⟩) : PD X W (.Call (.Attribute o "get" apos) [e] [] cpos) (xGet1 fo fe) := by
  refine weakE (pe_dget1 hu ho he m) fun σ H Q ⟨w, env, eH, hw, he, hs⟩ => ?_
  subst eH
  refine ⟨w, env, rfl, hw, he, SatW.imp (SatW.bind hs) fun w1 d v g1 r1 s1 => ?_⟩
  obtain ⟨hk, s1⟩ := satIf s1
  obtain ⟨a, rfl, hd⟩ := isK_isD g1.wd r1 hk
  refine ⟨a, rfl, hd, w1, env, rfl, g1.wd, he.go g1, SatW.imp (SatW.bind s1) fun w2 d2 v2 g2 r2 s2 => ?_⟩
  have r1' := Rp.go g2 r1
  unfold dGet at s2
  split at s2
  · rename_i n l kk hc hk2
    obtain ⟨rfl, en⟩ := cellK_eq hc
    obtain ⟨a', ws, ea, ha, p⟩ := cellK_read (T := kt X) g2.wd r1' en
    cases ea
    rw [keyD_v r2 hk2]
    cases q : valD l kk with
    | none =>
      rw [q] at s2
      exact ⟨_, DGet.k ha, by rw [p.none q]; exact SatW.here (v := V.non) s2 g2.wd rpn⟩
    | some d =>
      rw [q] at s2
      obtain ⟨vz, ez, rz⟩ := p.some q
      exact ⟨_, DGet.k ha, by rw [ez]; exact SatW.here (v := vz) s2 g2.wd rz⟩
  · exact s2.elim
theorem op_inK (hu : X.A.units + 1 < cLine) : OpR X (compareOp .In) (fun y x H Q => ∃ a o, x = .ref a ∧ DGet H a y o ∧ Q (.bl o.isSome) H) := by
  intro pins s σ H y x v u Q I ry rx h
  obtain ⟨a, o, rfl, g, q⟩ := h
  cases rx
  exact d_in hu I g ry fun s' I' => ⟨V.bl o.isSome, H, I', rfl, q⟩
theorem op_notInK (hu : X.A.units + 1 < cLine) : OpR X (compareOp .NotIn) (fun y x H Q => ∃ a o, x = .ref a ∧ DGet H a y o ∧ Q (.bl (!o.isSome)) H) := by
  intro pins s σ H y x v u Q I ry rx h
  obtain ⟨a, o, rfl, g, q⟩ := h
  cases rx
  exact d_notIn hu I g ry fun s' I' => ⟨V.bl (!o.isSome), H, I', rfl, q⟩
theorem od_inK (hu : X.A.units + 1 < cLine) : OpD X (compareOp .In) (dInK false) := ⟨_, op_inK hu, fun w x y d e W σ Q hw r1 r2 hs => by
  unfold dInK at hs
  split at hs
  · rename_i n l kk hc hk
    obtain ⟨rfl, en⟩ := cellK_eq hc
    obtain ⟨a, ws, rfl, ha, p⟩ := cellK_read (T := kt X) hw r2 en
    refine ⟨a, _, rfl, by rw [keyD_v r1 hk]; exact DGet.k ha, ?_⟩
    have e : (valV ws kk).isSome = (valD l kk).isSome := by
      cases q : valD l kk with
      | none => rw [p.none q]; rfl
      | some d => obtain ⟨vz, ez, _⟩ := p.some q; rw [ez]; rfl
    rw [e]
    rw [Bool.false_xor] at hs
    exact SatW.here (v := V.bl (valD l kk).isSome) hs hw (by unfold RD Rp; rfl)
  · exact hs.elim⟩
theorem od_notInK (hu : X.A.units + 1 < cLine) : OpD X (compareOp .NotIn) (dInK true) := ⟨_, op_notInK hu, fun w x y d e W σ Q hw r1 r2 hs => by
  unfold dInK at hs
  split at hs
  · rename_i n l kk hc hk
    obtain ⟨rfl, en⟩ := cellK_eq hc
    obtain ⟨a, ws, rfl, ha, p⟩ := cellK_read (T := kt X) hw r2 en
    refine ⟨a, _, rfl, by rw [keyD_v r1 hk]; exact DGet.k ha, ?_⟩
    have e : (valV ws kk).isSome = (valD l kk).isSome := by
      cases q : valD l kk with
      | none => rw [p.none q]; rfl
      | some d => obtain ⟨vz, ez, _⟩ := p.some q; rw [ez]; rfl
    rw [e]
    rw [Bool.true_xor] at hs
    exact SatW.here (v := V.bl (!(valD l kk).isSome)) hs hw (by unfold RD Rp; rfl)
  · exact hs.elim⟩
end
/-! ### sorted, of ints -/
def isrt (l : List Int) : List Int := l.mergeSort fun a b => decide (a ≤ b)
theorem isrt_perm (l : List Int) : (isrt l).Perm l := List.mergeSort_perm l _
theorem isrt_sorted (l : List Int) : (isrt l).Pairwise (· ≤ ·) := by
  have := List.pairwise_mergeSort (le := fun a b : Int => decide (a ≤ b)) (fun a b c h1 h2 => by
    rw [decide_eq_true_iff] at *
    omega) (fun a b => by
    rw [Bool.or_eq_true, decide_eq_true_iff, decide_eq_true_iff]
    omega) l
  exact this.imp fun h => of_decide_eq_true h
theorem isrt_uniq {l m : List Int} (p : m.Perm l) (s : m.Pairwise (· ≤ ·)) : m = isrt l :=
  List.Perm.eq_of_pairwise (le := (· ≤ ·)) (fun _ _ _ _ h1 h2 => by omega) s (isrt_sorted l) (p.trans (isrt_perm l).symm)
def intK : List Key → Option (List Int)
  | [] => some []
  | .inl i :: l => (intK l).map (i :: ·)
  | .inr _ :: _ => none
theorem intK_eq : ∀ {l : List Key} {is : List Int}, intK l = some is → l = is.map Sum.inl
  | [], is, h => by cases h; rfl
  | .inl i :: l, is, h => by
    unfold intK at h
    cases q : intK l with
    | none => rw [q] at h; cases h
    | some js => rw [q] at h; cases h; rw [List.map_cons, ← intK_eq q]
  | .inr _ :: l, is, h => by cases h
def bSortK (mk : List D → M D) (l : List D) (S : Store) : Res D := match l with
  | [x] => match cellK x S with
    | some (_, kvs) => match intK (kvs.map (·.1)) with
      | some is => if is.length < 64 then mk ((isrt is).map D.int) S else .bad
      | none => .bad
    | none => .bad
  | _ => .bad
theorem rps_ofints {K : PySem.W.Frag} {r : List Addr} {F : Hp} : ∀ is : List Int, Rps K r F (is.map D.int) (is.map V.int)
  | [] => rps_nil
  | i :: is => by rw [List.map_cons, List.map_cons]; exact rps_cons rpi (rps_ofints is)
theorem cd_sortK {X : Cx} {mk : List D → M D} (m : Mk mk) (hc : X.calm = true) : CallD X (.builtin "sorted") (bSortK mk) := ⟨_, call_sortedDI hc, fun w xs ds W σ Q hw r hs => by
  unfold bSortK at hs
  split at hs
  · rename_i x
    obtain ⟨v, rfl, rv⟩ := one_inv r
    split at hs
    · rename_i n kvs hk
      split at hs
      · rename_i is hi
        obtain ⟨h64, hs⟩ := satIf hs
        obtain ⟨rfl, en⟩ := cellK_eq hk
        obtain ⟨a, ws, rfl, ha, p⟩ := cellK_read (T := kt X) hw rv en
        refine ⟨a, ws, is, rfl, .inl ha, by rw [p.keys]; exact intK_eq hi, h64, fun ys q hp hsr hn => ?_⟩
        rw [isrt_uniq hp hsr]
        exact m.go hw (rps_ofints _) hs q hn
      · exact hs.elim
    · exact hs.elim
  · exact hs.elim⟩
/-! ### list(range(..)) -/
def xLstRg2 (mk : List D → M D) (a b : Env → M D) : Env → M D := fun e S => (a e S).bind fun x S1 => (b e S1).bind fun y S2 => match x, y with
  | .int i, .int j => if 0 ≤ i ∧ j ≤ 16777216 ∧ i ≤ 16777216 ∧ 0 ≤ j then mk (irange i (j - i).toNat) S2 else .bad
  | _, _ => .bad
def xLstRg1 (mk : List D → M D) (b : Env → M D) : Env → M D := fun e S1 => (b e S1).bind fun y S2 => match y with
  | .int j => if j ≤ 16777216 ∧ 0 ≤ j then mk (irange 0 j.toNat) S2 else .bad
  | _ => .bad
theorem rps_irange {K : PySem.W.Frag} {r : List Addr} {F : Hp} (i : Int) : ∀ ns : List Nat, Rps K r F (ns.map fun n => D.int (i + (n : Nat))) (ns.map fun n => V.int (i + (n : Nat)))
  | [] => rps_nil
  | n :: ns => by rw [List.map_cons, List.map_cons]; exact rps_cons rpi (rps_irange i ns)
section
variable {X : Cx} {W : WX} {a b : Expr} {fa fb : Env → M D} {p p2 pos pos2 : Pos} {mk : List D → M D}
theorem pd_listRg2 (m : Mk mk) (hc : X.calm = true) (zr : X.mg "range" = none) (zl : X.mg "list" = none) (ha : PD X W a fa) (hb : PD X W b fb) (hgr : Gl X "range" := by rfl) (hgl : Gl X "list" := by rfl)
    (na : starEach [a, b] X.env = (false, eval a X.env) :: starEach [b] X.env := by rfl) (nb : starEach [b] X.env = (false, eval b X.env) :: starEach [] X.env := by rfl) (hp : (backTo pos2 (starEach [b] X.env)).any (·.1) = false := by rfl)
    (nl : starEach [.Call (.Name "range" p2) [a, b] [] pos2] X.env = (false, eval (.Call (.Name "range" p2) [a, b] [] pos2) X.env) :: starEach [] X.env := by rfl) : PD X W (.Call (.Name "list" p) [.Call (.Name "range" p2) [a, b] [] pos2] [] pos) (xLstRg2 mk fa fb) := by
  refine weakE (pe_listRg hc hgl zl (prg_2 hgr zr ha hb na nb hp) nl) fun σ H Q ⟨w, env, eH, hw, he, hs⟩ => ?_
  subst eH
  refine ⟨w, env, rfl, hw, he, SatW.imp (SatW.bind hs) fun w1 d v g1 r1 s1 => ?_⟩
  refine ⟨w1, env, rfl, g1.wd, he.go g1, SatW.imp (SatW.bind s1) fun w2 d2 v2 g2 r2 s2 => ?_⟩
  split at s2
  · rename_i i j
    obtain ⟨hk, s2⟩ := satIf s2
    refine ⟨i, j, rp_int r1, rp_int r2, RgOk.of_le hk.1 hk.2.1 hk.2.2.1 hk.2.2.2, fun q hn => ?_⟩
    exact m.go g2.wd (rps_irange i _) s2 q hn
  · exact s2.elim
theorem pd_listRg1 (m : Mk mk) (hc : X.calm = true) (zr : X.mg "range" = none) (zl : X.mg "list" = none) (hb : PD X W b fb) (hgr : Gl X "range" := by rfl) (hgl : Gl X "list" := by rfl)
    (nb : starEach [b] X.env = (false, eval b X.env) :: starEach [] X.env := by rfl)
    (nl : starEach [.Call (.Name "range" p2) [b] [] pos2] X.env = (false, eval (.Call (.Name "range" p2) [b] [] pos2) X.env) :: starEach [] X.env := by rfl) : PD X W (.Call (.Name "list" p) [.Call (.Name "range" p2) [b] [] pos2] [] pos) (xLstRg1 mk fb) := by
  refine weakE (pe_listRg hc hgl zl (prg_1 hgr zr hb nb) nl) fun σ H Q ⟨w, env, eH, hw, he, hs⟩ => ?_
  subst eH
  refine ⟨w, env, rfl, hw, he, SatW.imp (SatW.bind hs) fun w2 d2 v2 g2 r2 s2 => ?_⟩
  split at s2
  · rename_i j
    obtain ⟨hk, s2⟩ := satIf s2
    refine ⟨j, rp_int r2, RgOk.of_le (by omega) hk.1 (by omega) hk.2, fun q hn => ?_⟩
    have e : (j - 0).toNat = j.toNat := by rw [Int.sub_zero]
    unfold rgV
    rw [e]
    exact m.go g2.wd (rps_irange 0 _) s2 q hn
  · exact s2.elim
end
end Dv
/-! # Dv19: own exception classes with their own __init__ -/
namespace Dv
open PySem PySem.Spec PyProof.Rows L2
section
variable {X : Cx} {o e : Expr} {es : List Expr} {ta : TA} {B : Addr} {x : Str} {p p1 p2 pos : Pos}
/-- B.__init__(self, ..), B an own class without __init__ over ValueError -/
theorem pe_binit {pl : Sem Bool} {mc : Value} (hg : Gl X x) (hm : X.mg x = some (.ref B)) (sG : PySem.W.specialIn X.K (.ref B) "__getattribute__" = some (some (.builtin "type.__getattribute__"))) (rB : PySem.W.readsIn X.K B mc = true)
    (vV : PySem.W.findCls X.K (.ref B) mc "__init__" = some (.val (.builtin "ValueError.__init__"))) (ha : PA X (e :: es) ta) (hdb : (x == ("__debug__" : Str)) = false := by decide)
    (hc : eval (.Call (.Attribute (.Name x p1) "__init__" p2) (e :: es) [] pos) X.env = (do
      let ov ← eval (.Name x p1) X.env
      standAt p2.atName
      let (f, first) ← holding [ov] (getMethod ov "__init__" pl)
      callWith pos f first (backTo pos (starEach (e :: es) X.env)) (backToKw pos (keywordEach [] X.env))) := by rfl)
    (he : starEach (e :: es) X.env = (false, eval e X.env) :: starEach es X.env := by rfl) (hpl : (backTo pos (starEach es X.env)).any (·.1) = false := by rfl) :
    PE X (.Call (.Attribute (.Name x p1) "__init__" p2) (e :: es) [] pos) (tVeI X.K ta) := by
  refine ⟨fun pins s σ H Q I h => ?_⟩
  refine PySem.W.methodCall_KW (ld_glob I hg hm ?_ hdb) hc
  refine PySem.W.method_cls I.kIn sG ?_
  refine PySem.W.cls_value I.kIn rB vV (by decide +kernel) ?_
  show wpAny _ _ (callWith pos (Value.builtin "ValueError.__init__") [] (backTo pos (starEach (e :: es) X.env)) []) _ _ _
  refine PyProof.Rows.callWith_method1 (thn (ha.run pos pins _ σ H _ (I.tok _) h) fun us s1 ⟨vs, H1, I1, r1, a, C, ws, ev, hl, T, ea, q⟩ => ?_) he hpl
  subst ev
  cases r1 with
  | @cons _ u0 _ ur ra rw' =>
    obtain rfl : u0 = Value.ref a := ra
    have hlen : ur.length ≤ sizeLine := by
      rw [← Paired.length rw', sizeLine_eq]
      omega
    exact oinit_ok T I1 ea hlen fun s' J => ⟨.non, H1, J, rfl, q⟩
end
/-- what the __init__ of C does: the one field f is set -/
def spI (K : PySem.W.Frag) (C : Addr) (f : Str) : Sp := fun vs H Q _ => ∃ (a : Addr) (i : Int), vs = [.ref a, .int i] ∧ H a = some (exo a C none) ∧ ∀ dx, H dx = none → dx ≠ a → Q .non (upd (upd H dx (exd dx [(f, .int i)])) a (exo a C (some dx)))
def yRaiseI (c f : Str) (h : Env → M (List D)) : Env → Store → Out := fun e S => (h e S).out e fun l S1 => match l with
  | [.int i] => .exc ⟨c, some (f, i)⟩ e S1
  | _ => .bad
section
variable {X : Cx} {W : WX} {x f : Str} {e : Expr} {h : Env → M (List D)} {p pos pos2 : Pos} {C fI : Addr} {CX : CXT} {k : Nat} {fd : FuncData} {ps : List Str}
theorem upd_back {H : Hp} {a d : Addr} {o1 o2 o3 o4 : HO} (hn : H a = none) (hd : d ≠ a) : upd (del (upd (upd (upd H a o1) d o2) a o3) a) d o4 = upd H d o4 := by
  funext b
  by_cases q : b = d
  · subst q; rw [upd_same, upd_same]
  · rw [upd_ne q, upd_ne q]
    by_cases q2 : b = a
    · subst q2; rw [del_same, hn]
    · rw [del_ne q2, upd_ne q2, upd_ne q, upd_ne q2]
theorem psd_raiseI (hc : X.calm = true) (tk : Takes X W) (n : ClsAt X.K x C) (T : OexC X.K C) (iC : PySem.W.findIn X.K (.ref C) "__init__" = some (some (.ref fI))) (tI : PySem.W.typeIn X.K (.ref fI) = some (.type "function"))
    (F1 : FnOk X.prog X.w X.K X.mg X.base CX k fI fd ps (spI X.K C f)) (hr : Room (k + 1) X.A) (hb : Binds X.K fd ps []) (hx : Passes CX X (fun _ _ _ => False)) (hm : X.mg x = some (.ref C)) (ha : PAD X W [e] h) (hg : Gl X x := by rfl)
    (hdb : (x == ("__debug__" : Str)) = false := by decide) (he : starEach [e] X.env = (false, eval e X.env) :: starEach [] X.env := by rfl) (hpl : (backTo pos (starEach [] X.env)).any (·.1) = false := by rfl) :
    PSD X W (.Raise (some (.Call (.Name x p) [e] [] pos)) none pos2) (yRaiseI x f h) := by
  refine weakS (ps_raise hc tk (pmk_oex T iC tI F1 hr hb (ds := []) (dvs := []) .nil hx hg hm ha hdb he hpl)) fun D σ H ⟨w, env, eH, hw, hev, hs⟩ => ?_
  subst eH
  refine ⟨w, env, rfl, hw, hev, SatW.imp (SatS.out hs hev) fun w1 l vs g1 r1 s1 => ?_⟩
  split at s1
  · rename_i i
    obtain ⟨v, rfl, rv⟩ := one_inv r1
    rw [rp_int rv]
    refine ⟨by simp, fun a hn => ⟨a, i, rfl, upd_same, fun d hd hda => ⟨rfl, d, [(f, .int i)], upd_same, ?_, ?_, ?_⟩⟩⟩
    · rw [upd_ne hda, upd_same]
    · rwa [upd_ne hda] at hd
    · have hd1 : w1.H d = none := by rwa [upd_ne hda] at hd
      rw [upd_back hn hda]
      exact s1 ⟨w1.r, upd w1.F d (.xd [(f, .int i)]), w1.S, upd w1.H d (.xd [(f, .int i)])⟩ σ (.ref C) (some d) (Go.alloc g1.wd hd1) rfl ((hev.go g1).go (Go.alloc g1.wd hd1)) ⟨C, n, rfl, d, rfl, upd_same⟩
  · exact s1.elim
end
/-! ### e.f of a kept exception -/
def xFldL (L : List Str) (f : Str) (g : Env → M D) : Env → M D := fun e S => (g e S).bind fun d S1 => match d with
  | .exn c (some (f', i)) => if f' = f ∧ c ∈ L then .ok (.int i) S1 else .bad
  | _ => .bad
section
variable {X : Cx} {W : WX} {e : Expr} {g : Env → M D} {pos : Pos} {f : Str}
theorem pe_xfK {te : TE} (he : PE X e te) (hb : attributeBase e f X.env (eval e X.env) = eval e X.env := by rfl) :
    PE X (.Attribute e f pos) (fun σ H Q => te σ H fun x H1 => ∃ (a C dd : Addr) (fs : List (Str × V)) (v : V), x = .ref a ∧ H1 a = some (ExH (.ref C) (some dd) a) ∧ XfC X.K C ∧ PySem.W.findIn X.K (.ref C) f = some none ∧ H1 dd = some (.xd fs) ∧ fs.lookup f = some v ∧ Q v H1) := by
  refine ⟨fun pins s σ H Q I h => ?_⟩
  refine attr_of hb (thn (he.run pins s σ H _ I h) fun u s1 hh => ?_)
  obtain ⟨x, H1, I1, rx, a, C, dd, fs, v, ex, eh, T, hno, ea, l, q⟩ := hh
  subst ex
  obtain rfl : u = Value.ref a := rx
  obtain ⟨oe, vs, ha, hz, hd⟩ := (I1.hok a _ eh).1
  have hx : ObjOk X.prog X.w H1 s1.heap dd (.xd fs) := I1.hok dd _ ea
  obtain ⟨mA, hns, hr⟩ := hx
  obtain ⟨od, ho, hl⟩ := lookIn_ns hns
  obtain ⟨u, hu, ru⟩ := RelO.some_of (v := v) (o := mA f) (by rw [← l]; exact hr f)
  have J : PySem.W.InstAt s1.heap a oe C (some od) := ⟨ha, hz.1, by unfold PySem.W.notCls; rw [hd] <;> rfl, by rw [hz.2]; exact ho⟩
  exact HandSPX.exc_get I1.kIn J T.ga T.gg T.exC (PySem.W.findObj_own T.hdC hno rfl (by rw [hl, hu])) (handed_of ru) ⟨v, H1, I1.tok _, ru, q⟩
theorem pd_fldL {L : List Str} (fc : ∀ c ∈ L, FldC X.K f c) (he : PD X W e g) (hb : attributeBase e f X.env (eval e X.env) = eval e X.env := by rfl) : PD X W (.Attribute e f pos) (xFldL L f g) := by
  refine weakE (pe_xfK he hb) fun σ H Q ⟨w, env, eH, hw, hev, hs⟩ => ?_
  subst eH
  refine ⟨w, env, rfl, hw, hev, SatW.imp (SatW.bind hs) fun w1 d v g1 r1 s1 => ?_⟩
  split at s1
  · rename_i c f' i
    obtain ⟨hk, s2⟩ := satIf s1
    obtain ⟨hf, hc⟩ := hk
    subst hf
    unfold RD Rp at r1
    obtain ⟨a, C, d, rfl, hC, hF, dd, rfl, hdd⟩ := r1
    obtain ⟨hno, T⟩ := fc c hc C hC
    refine ⟨a, C, dd, _, .int i, rfl, g1.wd.same _ _ hF, T, hno, g1.wd.same _ _ hdd, by simp, s2 w1 (V.int i) (Go.refl g1.wd) rfl (by unfold RD; exact rpi)⟩
  · exact s1.elim
end
theorem fld_of {K : PySem.W.Frag} {mg : Str → Option Value} {c f : Str} {C : Addr} (h1 : Rc K mg c C) (hf : PySem.W.findIn K (.ref C) f = some none) : FldC K f c := fun C' e1 => by
  have e3 : C = C' := ClsAt.uniq h1.n e1
  subst e3
  exact ⟨hf, ⟨h1.e.hg, h1.e.hk, h1.b, h1.e.hd⟩⟩
end Dv
/-! # Dv20: reckoning where exceptions may be told -/
namespace Dv
open PySem PySem.Spec PyProof.Rows L2
structure Enx {α : Type} (x : Res α) (P : α → Store → Prop) (X : Exn → Store → Prop) : Prop where
  go : match x with
    | .ok a S => P a S
    | .exc y S => X y S
    | .bad => False
structure EnxO (o : Out) (Q : Pst) (X : Exn → Env → Store → Prop) : Prop where
  go : match o with
    | .exc y e S => X y e S
    | o => EnO0 o Q
section
variable {α β : Type} {x : Res α} {a : α} {S : Store} {P : α → Store → Prop} {X : Exn → Store → Prop} {Y : Exn → Env → Store → Prop} {Q : Pst} {e : Env} {d : D} {y : Exn}
@[simp] theorem enx_ok : Enx (.ok a S) P X = P a S := propext ⟨fun h => h.go, fun h => ⟨h⟩⟩
@[simp] theorem enx_exc : Enx (.exc y S : Res α) P X = X y S := propext ⟨fun h => h.go, fun h => ⟨h⟩⟩
@[simp] theorem enx_bad : Enx (.bad : Res α) P X = False := propext ⟨fun h => h.go, fun h => h.elim⟩
@[simp] theorem enx_bind {k : α → Store → Res β} {P : β → Store → Prop} : Enx (x.bind k) P X = Enx x (fun a S => Enx (k a S) P X) X := by cases x <;> simp
theorem Enx.imp {P' : α → Store → Prop} {X' : Exn → Store → Prop} (h : Enx x P X) (q : ∀ a S, P a S → P' a S) (r : ∀ y S, X y S → X' y S) : Enx x P' X' := by
  cases x with
  | ok a S => exact ⟨q _ _ h.go⟩
  | exc y S => exact ⟨r _ _ h.go⟩
  | bad => exact ⟨h.go⟩
theorem Ens.toX (h : Ens x P) : Enx x P X := by
  cases x with
  | ok a S => exact ⟨h.go⟩
  | exc y S => exact h.go.elim
  | bad => exact ⟨h.go⟩
theorem enx_ite {c : Prop} [Decidable c] {y : Res α} (h1 : c → Enx x P X) (h2 : ¬ c → Enx y P X) : Enx (if c then x else y) P X := by
  split
  · exact h1 (by assumption)
  · exact h2 (by assumption)
@[simp] theorem enxo_nx : EnxO (.nx e S) Q Y = Q.nx e S := propext ⟨fun h => h.go, fun h => ⟨h⟩⟩
@[simp] theorem enxo_rt : EnxO (.rt d S) Q Y = Q.rt d S := propext ⟨fun h => h.go, fun h => ⟨h⟩⟩
@[simp] theorem enxo_bk : EnxO (.bk e S) Q Y = Q.bk e S := propext ⟨fun h => h.go, fun h => ⟨h⟩⟩
@[simp] theorem enxo_ct : EnxO (.ct e S) Q Y = Q.ct e S := propext ⟨fun h => h.go, fun h => ⟨h⟩⟩
@[simp] theorem enxo_exc : EnxO (.exc y e S) Q Y = Y y e S := propext ⟨fun h => h.go, fun h => ⟨h⟩⟩
@[simp] theorem enxo_bad : EnxO .bad Q Y = False := propext ⟨fun h => h.go, fun h => h.elim⟩
@[simp] theorem enxo_out {k : α → Store → Out} : EnxO (x.out e k) Q Y = Enx x (fun a S => EnxO (k a S) Q Y) (fun y S => Y y e S) := by cases x <;> simp
@[simp] theorem enxo_seq {o : Out} {k : Env → Store → Out} : EnxO (o.seq k) Q Y = EnxO o { Q with nx := fun e S => EnxO (k e S) Q Y } Y := by cases o <;> simp
theorem EnsO.toX {o : Out} (h : EnsO o Q) : EnxO o Q Y := by
  cases o with
  | exc y e S => exact h.go.elim
  | _ => exact ⟨h.go⟩
theorem EnxO.imp {o : Out} {Q' : Pst} {Y' : Exn → Env → Store → Prop} (h : EnxO o Q Y) (h1 : ∀ e S, Q.nx e S → Q'.nx e S) (h2 : ∀ e S, Q.rt e S → Q'.rt e S) (h3 : ∀ e S, Q.bk e S → Q'.bk e S) (h4 : ∀ e S, Q.ct e S → Q'.ct e S) (h5 : ∀ y e S, Y y e S → Y' y e S) : EnxO o Q' Y' := by
  cases o with
  | nx e S => exact ⟨h1 _ _ h.go⟩
  | rt e S => exact ⟨h2 _ _ h.go⟩
  | bk e S => exact ⟨h3 _ _ h.go⟩
  | ct e S => exact ⟨h4 _ _ h.go⟩
  | exc y e S => exact ⟨h5 _ _ _ h.go⟩
  | bad => exact ⟨h.go⟩
theorem enxo_ite {c : Prop} [Decidable c] {o p : Out} (h1 : c → EnxO o Q Y) (h2 : ¬ c → EnxO p Q Y) : EnxO (if c then o else p) Q Y := by
  split
  · exact h1 (by assumption)
  · exact h2 (by assumption)
end
theorem enx_fn {np ns : Nat} {keep : Bool} {body : Env → Store → Out} {ds : List D} {S : Store} {P : D → Store → Prop} {X : Exn → Store → Prop} (hl : ds.length = np)
    (h : EnxO (body (ds.map some ++ List.replicate (ns - np) none) S) { nx := fun _ S' => Enx (fin keep S.length .non S') P X, rt := fun d S' => Enx (fin keep S.length d S') P X } fun y _ S' => Enx (finX S.length y S') P X) : Enx (fnD np ns keep body ds S) P X := by
  unfold fnD
  rw [if_pos hl]
  cases o : body (ds.map some ++ List.replicate (ns - np) none) S with
  | nx e S => rw [o] at h; exact h.go
  | rt e S => rw [o] at h; exact h.go
  | bk e S => rw [o] at h; exact h.go.elim
  | ct e S => rw [o] at h; exact h.go.elim
  | exc y e S => rw [o] at h; exact h.go
  | bad => rw [o] at h; exact h.go.elim
@[simp] theorem finX_same {S : Store} {y : Exn} : finX S.length y S = .exc y S := by simp [finX]
theorem finX_cut {S R : Store} {y : Exn} (hu : (S.all fun c => c.under S.length) = true) : finX S.length y (S ++ R) = .exc y S := by
  unfold finX
  by_cases z : (S ++ R).length = S.length
  · rw [if_pos z]
    have : R = [] := List.length_eq_zero_iff.mp (by rw [List.length_append] at z; omega)
    subst this
    simp
  · rw [if_neg z, List.take_left, hu]
    rfl
theorem enx_sq {y y' : Env → Store → Out} {e : Env} {S : Store} {Q : Pst} {Y : Exn → Env → Store → Prop} (R : Env → Store → Prop) (h1 : ∀ R' : Env → Store → Prop, (∀ e S, R e S → R' e S) → EnxO (y e S) { Q with nx := R' } Y) (h2 : ∀ e S, R e S → EnxO (y' e S) Q Y) : EnxO (ySeq y y' e S) Q Y := by
  have h := h1 R fun _ _ h => h
  unfold ySeq
  rw [enxo_seq]
  exact h.imp h2 (fun _ _ h => h) (fun _ _ h => h) (fun _ _ h => h) (fun _ _ _ h => h)
theorem enx_fr {g : D → Env → Store → Out} {b : Env → Store → Out} {Q : Pst} {Y : Exn → Env → Store → Prop} (I : Nat → Env → Store → Prop) : ∀ {items : List D} {e : Env} {S : Store}, I 0 e S →
    (∀ (i : Nat) d e S (R' : Env → Store → Prop), items[i]? = some d → I i e S → (∀ e S, I (i + 1) e S → R' e S) → EnxO (g d e S) { nx := fun e1 S1 => EnxO (b e1 S1) { nx := R', ct := R', bk := Q.nx, rt := Q.rt } Y } fun _ _ _ => False) →
    (∀ e S, I items.length e S → Q.nx e S) → EnxO (forL (fun _ => True) g b items e S) Q Y := by
  have go : ∀ (items : List D) (I : Nat → Env → Store → Prop) (e : Env) (S : Store), I 0 e S →
    (∀ (i : Nat) d e S (R' : Env → Store → Prop), items[i]? = some d → I i e S → (∀ e S, I (i + 1) e S → R' e S) → EnxO (g d e S) { nx := fun e1 S1 => EnxO (b e1 S1) { nx := R', ct := R', bk := Q.nx, rt := Q.rt } Y } fun _ _ _ => False) →
    (∀ e S, I items.length e S → Q.nx e S) → EnxO (forL (fun _ => True) g b items e S) Q Y := by
    intro items
    induction items with
    | nil =>
      intro I e S h0 _ hd
      unfold forL
      rw [if_pos trivial, enxo_nx]
      exact hd e S h0
    | cons d l ih =>
      intro I e S h0 hs hd
      unfold forL
      rw [if_pos trivial]
      have h1 := hs 0 d e S (I 1) rfl h0 fun _ _ h => h
      have next : ∀ e' S', I 1 e' S' → EnxO (forL (fun _ => True) g b l e' S') Q Y := fun e' S' q => ih (fun i => I (i + 1)) e' S' q (fun i d' e2 S2 R' hi hI hR => hs (i + 1) d' e2 S2 R' hi hI hR) fun e2 S2 q2 => hd e2 S2 q2
      cases o : g d e S with
      | nx e1 S1 =>
        rw [o, enxo_nx] at h1
        dsimp only at h1 ⊢
        cases o2 : b e1 S1 with
        | nx e2 S2 => rw [o2, enxo_nx] at h1; exact next _ _ h1
        | ct e2 S2 => rw [o2, enxo_ct] at h1; exact next _ _ h1
        | bk e2 S2 => rw [o2, enxo_bk] at h1; dsimp only; rw [enxo_nx]; exact h1
        | rt e2 S2 => rw [o2, enxo_rt] at h1; dsimp only; rw [enxo_rt]; exact h1
        | exc y e2 S2 => rw [o2, enxo_exc] at h1; dsimp only; rw [enxo_exc]; exact h1
        | bad => rw [o2, enxo_bad] at h1; exact h1.elim
      | rt e1 S1 => rw [o, enxo_rt] at h1; exact h1.elim
      | bk e1 S1 => rw [o, enxo_bk] at h1; exact h1.elim
      | ct e1 S1 => rw [o, enxo_ct] at h1; exact h1.elim
      | exc y e1 S1 => rw [o, enxo_exc] at h1; exact h1.elim
      | bad => rw [o, enxo_bad] at h1; exact h1.elim
  intro items e S h0 hs hd
  exact go items I e S h0 hs hd
section
variable {oo : Option D} {ll : Env} {S S' : Store} {e e' : Env} {x : Exn} {c d f : Str} {i j : Nat} {g : Env → Store → Out} {h : Env → M (List D)} {g' : Env → M D} {L : List (Str × Str × Bool)} {R : List Str} {Q : Pst} {Y : Exn → Env → Store → Prop}
@[simp] theorem yRaiseI_app : yRaiseI c f h (oo :: ll) S = (h (oo :: ll) S).out (oo :: ll) fun l S1 => match l with
  | [.int i] => .exc ⟨c, some (f, i)⟩ (oo :: ll) S1
  | _ => .bad := rfl
@[simp] theorem xFldL_app {R : List Str} : xFldL R f g' (oo :: ll) S = (g' (oo :: ll) S).bind fun d S1 => match d with
  | .exn c (some (f', i)) => if f' = f ∧ c ∈ R then .ok (.int i) S1 else .bad
  | _ => .bad := rfl
/-- a suite that tells, or raises what is caught and kept -/
theorem enx_try (h : EnxO (g e S) Q fun y e' S' => subT L y.cls d = some true ∧ ∃ o, e'[i]? = some o ∧ Q.nx ((e'.set j (some (.exn y.cls y.val))).set i none) S') : EnsO (yTryKeep L d i j g e S) Q := by
  cases o : g e S with
  | exc y e2 S2 =>
    rw [o, enxo_exc] at h
    obtain ⟨h1, o', h2, h3⟩ := h
    rw [yTry_exc o h1 h2, enso_nx]
    exact h3
  | nx e2 S2 => rw [o, enxo_nx] at h; unfold yTryKeep; rw [o]; exact ⟨h⟩
  | rt e2 S2 => rw [o, enxo_rt] at h; unfold yTryKeep; rw [o]; exact ⟨h⟩
  | bk e2 S2 => rw [o, enxo_bk] at h; unfold yTryKeep; rw [o]; exact ⟨h⟩
  | ct e2 S2 => rw [o, enxo_ct] at h; unfold yTryKeep; rw [o]; exact ⟨h⟩
  | bad => rw [o, enxo_bad] at h; exact h.elim
end
end Dv
/-! # Dv21: {k: v}, d.setdefault, len(set(..)); defs that call themselves -/
namespace Dv
open PySem PySem.Spec PyProof.Rows L2
theorem fn_bad {P : Program} {w : World} {K : PySem.W.Frag} {mg : Str → Option Value} {base : Heap} {CX : CXT} {k : Nat} {f : Addr} {fd : FuncData} {ps : List Str} : FnOk P w K mg base CX k f fd ps (spD ⟨K, mg⟩ fun _ _ => .bad) := by
  refine ⟨fun vs H Q E ⟨wl, ds, _, _, _, hs⟩ => hs.elim, fun A outer s H args us vs Q E _ _ _ _ ⟨wl, ds, _, _, _, hs⟩ => hs.elim⟩
/-! ### {k: v} -/
def xDct1 (f g : Env → M D) : Env → M D := fun e S => (f e (S ++ [.dct []])).bind fun k S1 => (g e S1).bind fun v S2 => match keyD k, S2[S.length]? with
  | some kk, some (.dct []) => .ok (.cell S.length) (S2.set S.length (.dct [(kk, v)]))
  | _, _ => .bad
section
variable {X : Cx} {W : WX} {o i e f k v : Expr} {fo fi fe ff fk fv : Env → M D} {pos apos cpos : Pos}
theorem pd_dct1 (hk : PD X W k fk) (hv : PD X W v fv) : PD X W (.Dict [some k] [v] pos) (xDct1 fk fv) := by
  refine weakE (pe_disp (pps_cons hk hv pps_nil) rfl rfl (by simp) (by simp)) fun σ H Q ⟨w, env, eH, hw, he, hs⟩ p hp => ?_
  subst eH
  have g0 : Go X.K w ⟨w.r ++ [p], w.F, w.S ++ [.dct []], upd w.H p (.dK [])⟩ := Go.newCell (c := .dct []) hw hp (by exact ⟨hw.fresh hp, [], upd_same, .nil⟩)
  have hat : (w.r ++ [p])[w.S.length]? = some p := by
    rw [← hw.len, List.getElem?_append_right (Nat.le_refl _), Nat.sub_self]
    rfl
  unfold xDct1 at hs
  refine ⟨⟨w.r ++ [p], w.F, w.S ++ [.dct []], upd w.H p (.dK [])⟩, env, rfl, g0.wd, he.go g0, SatW.imp (SatW.bind (hs.pre g0)) fun w1 d1 v1 g1 r1 s1 => ?_⟩
  refine ⟨w1, env, rfl, g1.wd, (he.go g0).go g1, SatW.imp (SatW.bind s1) fun w2 d2 v2 g2 r2 s2 => ?_⟩
  have cellAt : RD (kt X).K w2 (.cell w.S.length) (.ref p) := by
    have h0 : Rp X.K (w.r ++ [p]) w.F (.cell w.S.length) (.ref p) := by unfold Rp; exact ⟨p, hat, rfl⟩
    exact Rp.go (g1.trans g2) (w := ⟨w.r ++ [p], w.F, w.S ++ [.dct []], upd w.H p (.dK [])⟩) h0
  split at s2
  · rename_i kk hk2 hc
    obtain ⟨a, ws, ea, ha, pp, go⟩ := cellK_write (T := kt X) (l' := [(kk, d2)]) g2.wd cellAt hc
    cases ea
    cases pp.length ▸ (show ws.length = 0 from pp.length)
    have ew : ws = [] := List.length_eq_zero_iff.mp pp.length
    subst ew
    rw [keyD_v r1 hk2]
    refine ⟨ha, [(kk, v2)], rfl, by simp, ?_⟩
    have g3 := go [(kk, v2)] (.cons ⟨rfl, r2⟩ .nil)
    exact s2 _ (.ref p) g3 rfl (Rp.go g3 cellAt)
  · exact s2.elim
def dSetd (x k z : D) (S : Store) : Res D := match cellK x S, keyD k with
  | some (n, l), some kk => if l.length < 16000000 then match valD l kk with
    | some d => .ok d S
    | none => .ok z (S.set n (.dct (putD l kk z)))
    else .bad
  | _, _ => .bad
def xSetd (o e f : Env → M D) : Env → M D := fun n S => (o n S).bind fun x S1 => if isK x S1 = true then (e n S1).bind fun k S2 => (f n S2).bind fun z S3 => dSetd x k z S3 else .bad
theorem pd_setd (ho : PD X W o fo) (he : PD X W e fe) (hf : PD X W f ff) (m : M2 X o "setdefault" apos e f cpos := by exact ⟨rfl, rfl, rfl, rfl⟩) : PD X W (.Call (.Attribute o "setdefault" apos) [e, f] [] cpos) (xSetd fo fe ff) := by
  refine weakE (pe_dsetd ho he hf m) fun σ H Q ⟨w, env, eH, hw, he, hs⟩ => ?_
  subst eH
  refine ⟨w, env, rfl, hw, he, SatW.imp (SatW.bind hs) fun w1 d v g1 r1 s1 => ?_⟩
  obtain ⟨hk, s1⟩ := satIf s1
  obtain ⟨a, rfl, hd⟩ := isK_isD g1.wd r1 hk
  refine ⟨a, rfl, hd, w1, env, rfl, g1.wd, he.go g1, SatW.imp (SatW.bind s1) fun w2 d2 v2 g2 r2 s2 => ?_⟩
  refine ⟨w2, env, rfl, g2.wd, (he.go g1).go g2, SatW.imp (SatW.bind s2) fun w3 d3 v3 g3 r3 s3 => ?_⟩
  have r1' := Rp.go (g2.trans g3) r1
  have r2' := Rp.go g3 r2
  unfold dSetd at s3
  split at s3
  · rename_i n l kk hc hk2
    obtain ⟨hl, s3⟩ := satIf s3
    obtain ⟨rfl, en⟩ := cellK_eq hc
    obtain ⟨a', ws, ea, ha, p, go⟩ := cellK_write (T := kt X) (l' := putD l kk d3) g3.wd r1' en
    cases ea
    refine ⟨ws, kk, ha, keyD_v r2 hk2, by rw [p.length]; exact Nat.lt_of_lt_of_le hl (line16 (Nat.le_refl _)), fun vz ez => ?_, fun ez => ?_⟩
    · cases q : valD l kk with
      | none => rw [p.none q] at ez; cases ez
      | some d =>
        rw [q] at s3
        obtain ⟨vz', ez', rz⟩ := p.some q
        rw [ez'] at ez
        cases ez
        exact SatW.here (v := vz) s3 g3.wd rz
    · cases q : valD l kk with
      | some d =>
        obtain ⟨vz', ez', rz⟩ := p.some q
        rw [ez'] at ez
        cases ez
      | none =>
        rw [q] at s3
        have g4 := go _ (p.put kk r3)
        exact s3 _ v3 g4 rfl (Rp.go g4 r3)
  · exact s3.elim
end
/-! ### len(set(xs)) -/
def dedup (ns : List Int) : List Int := firstMet (fun i => ns.getD i 0) ns.length
def tLenSetX (K : PySem.W.Frag) (ta : TE) : TE := fun σ H Q => ta σ H fun x H1 => ∃ (l : Addr) (ns : List Int), x = V.ref l ∧ SqL K H1 l (ns.map V.int) ∧ ns.length ≤ 4000 ∧ Q (.int (dedup ns).length) H1
section
variable {X : Cx} {W : WX}
theorem pe_lenSetX {a : Expr} {ta : TE} {p p2 q pos : Pos} (hc : X.calm = true) (hg : Gl X "len") (hm : X.mg "len" = none) (hg2 : Gl X "set") (hm2 : X.mg "set" = none) (ha : PE X a ta)
    (na : starEach [a] X.env = (false, eval a X.env) :: starEach [] X.env := by rfl) : PE X (.Call (.Name "len" p) [.Call (.Name "set" p2) [a] [] q] [] pos) (tLenSetX X.K ta) := by
  refine ⟨fun pins s σ H Q I h => ?_⟩
  refine Call_ (ld_blt I hg hm PySem.boot_len ?_)
  refine PyProof.Rows.callWith_builtin1 (PyProof.Rows.args_cons ?_ rfl) rfl rfl
  refine Call_ (ld_blt I hg2 hm2 PyProof.Rows.boot_set ?_)
  refine PyProof.Rows.callWith_type1 (PyProof.Rows.args_cons (thn (ha.run pins s σ H _ I h) fun v s1 ⟨x, H1, I1, r1, q1⟩ => PyProof.Rows.args_nil ?_) na) na rfl
  obtain ⟨l, ns, rfl, hq, h1, q1⟩ := q1
  cases r1
  obtain ⟨its, r, pl, hz⟩ := I1.list hq
  have hl : its.toArray.size = ns.length := by rw [List.size_toArray, ← r.length, List.length_map]
  refine call_set_list (I1.ok.hd hc) pl.isList (ns := ns) (by simpa using r.ints) (by unfold scanBound; omega) fun h' tk hS hk => ?_
  rw [hl] at hS
  have hle := firstMet_length_le (fun i => ns.getD i 0) ns.length
  refine PyProof.Rows.args_nil ?_
  obtain ⟨o, es, ep, t, ho, hex, hd, _, _, _, hf, hn⟩ := hS
  have I2 : Inv X pins σ H1 { s1 with heap := h', toks := tk } := I1.kept fun b o e => hk b o (Heap.lt_size e) e
  refine call_len_set ho hex hd hf (by rw [hn] <;> omega) ⟨.int (dedup ns).length, H1, I2.tok _, ⟨_, by rw [hn]; rfl⟩, q1⟩
def dLenSet (d : D) (S : Store) : Res D := match (getQ d S).bind intsOf with
  | some ns => if ns.length ≤ 4000 then .ok (.int (dedup ns).length) S else .bad
  | none => .bad
def xLenSet (f : Env → M D) : Env → M D := fun e S => (f e S).bind dLenSet
theorem pd_lenSet {a : Expr} {f : Env → M D} {p p2 q pos : Pos} (hc : X.calm = true) (hm : X.mg "len" = none) (hm2 : X.mg "set" = none) (ha : PD X W a f) (hg : Gl X "len" := by rfl) (hg2 : Gl X "set" := by rfl)
    (na : starEach [a] X.env = (false, eval a X.env) :: starEach [] X.env := by rfl) : PD X W (.Call (.Name "len" p) [.Call (.Name "set" p2) [a] [] q] [] pos) (xLenSet f) := by
  refine weakE (pe_lenSetX hc hg hm hg2 hm2 ha na) fun σ H Q ⟨w, env, eH, hw, he, hs⟩ => ?_
  subst eH
  refine ⟨w, env, rfl, hw, he, SatW.imp (SatW.bind hs) fun w1 d v g1 r1 s1 => ?_⟩
  unfold dLenSet at s1
  cases hn : (getQ d w1.S).bind intsOf with
  | none => rw [hn] at s1; exact s1.elim
  | some ns =>
    rw [hn] at s1
    obtain ⟨hl, s1⟩ := satIf s1
    obtain ⟨a, rfl, hq⟩ := ints_of g1.wd r1 hn
    exact ⟨a, ns, rfl, hq, hl, SatW.here (v := V.int _) s1 g1.wd rpi⟩
end
theorem dedup_mem (ns : List Int) (k : Int) : k ∈ dedup ns ↔ k ∈ ns := by
  have e : (List.range ns.length).map (fun i => ns.getD i 0) = ns := by
    apply List.ext_getElem
    · simp
    · intro i h1 h2
      simp at h1 ⊢
      rw [List.getElem?_eq_getElem h2]
      rfl
  have h := firstMet_any (fun i => ns.getD i 0) ns.length k
  rw [e] at h
  have z : ∀ l : List Int, (l.any (· == k)) = true ↔ k ∈ l := fun l => by
    rw [List.any_eq_true]
    constructor
    · rintro ⟨x, hx, q⟩
      rw [← beq_iff_eq.mp q]; exact hx
    · exact fun hk => ⟨k, hk, beq_self_eq_true _⟩
  unfold dedup
  rw [← z, ← z, h]
theorem dedup_nodup (ns : List Int) : (dedup ns).Nodup := by
  have go : ∀ (val : Nat → Int) (i : Nat), (firstMet val i).Nodup := by
    intro val i
    induction i with
    | zero => rw [firstMet_zero]; exact List.nodup_nil
    | succ i ih =>
      rw [firstMet_succ]
      unfold step_dedup
      split
      · exact ih
      · rename_i h
        refine List.nodup_append.mpr ⟨ih, by simp, fun a ha b hb => ?_⟩
        rw [List.mem_singleton.mp hb]
        intro z
        exact h (List.any_eq_true.mpr ⟨a, ha, by rw [z]; exact beq_self_eq_true _⟩)
  exact go _ _
section
variable {oo : Option D} {ll : Env} {S : Store} {f g h : Env → M D}
@[simp] theorem xLenSet_app : xLenSet f (oo :: ll) S = (f (oo :: ll) S).bind dLenSet := rfl
@[simp] theorem xDct1_app : xDct1 f g (oo :: ll) S = (f (oo :: ll) (S ++ [.dct []])).bind fun k S1 => (g (oo :: ll) S1).bind fun v S2 => match keyD k, S2[S.length]? with
  | some kk, some (.dct []) => .ok (.cell S.length) (S2.set S.length (.dct [(kk, v)]))
  | _, _ => .bad := rfl
@[simp] theorem xSetd_app : xSetd f g h (oo :: ll) S = (f (oo :: ll) S).bind fun x S1 => if isK x S1 = true then (g (oo :: ll) S1).bind fun k S2 => (h (oo :: ll) S2).bind fun z S3 => dSetd x k z S3 else .bad := rfl
end
end Dv
/-! # Dv22: try with a suite of any statements -/
namespace Dv
open PySem PySem.Spec PyProof.Rows L2
section
variable {X : Cx} {pins : List (Addr × Obj)} {σ : L2.St} {H : Hp} {s : Shared}
theorem suite0 {a : Addr} (I : Inv X pins σ H s) : Inv (X.suite a (X.pn ++ pins)) [] σ H s :=
  ⟨I.ok.suite _ _, I.os, I.bare, I.base, I.loc, I.cell, I.free, I.freeC, fun p hp => I.pin p (by rw [List.append_nil] at hp; exact hp), I.hok, I.len⟩
theorem unsuite0 {a : Addr} {pn' : List (Addr × Obj)} (I : Inv (X.suite a (X.pn ++ pins)) pn' σ H s) (ok : X.Ok) : Inv X pins σ H s :=
  ⟨ok, I.os, I.bare, I.base, I.loc, I.cell, I.free, I.freeC, fun p hp => I.pin p (List.mem_append_left _ hp), I.hok, I.len⟩
end
/-- as wKeep; the exception is tracked ahead of the suite -/
def wAdopt (K : PySem.W.Frag) (c : Value) (i : Nat) (ts : Addr → Value → Option Addr → TS) (Wout : WX) (D : Ends) : WX := fun cls d σ H =>
  ∃ b, PySem.W.exmOne K cls c = some b ∧ (b = true → ∀ a, H a = none → ts a cls d { nx := fun σ' H' => D.nx (σ'.set i none) H', rt := D.rt, bk := fun σ' H' => D.bk (σ'.set i none) H', ct := fun σ' H' => D.ct (σ'.set i none) H' } (σ.set i (some (.ref a))) (upd H a (ExH cls d a))) ∧
    (b = false → Wout cls d σ H)
section
variable {X : Cx} {x n : Str} {c : Value} {i : Nat} {body suite : List Stmt} {b₀ : Stmt} {np pos pos' : Pos} {tb : WX → TS} {ts : Addr → Value → Option Addr → TS} {Wout : WX}
theorem ps_try_adopt (hs : X.stack = X.env :: X.outer) (hf : X.env.frame = some X.env.locals) (hex : X.ex = []) (hN : X.N.Nodup) (hi : X.N[i]? = some n) (hln : X.env.kindOf n = some .local) (hc : Names X x c) (tk : Takes X Wout)
    (hb : ∀ (W : WX) (pn : List (Addr × Obj)) (xe : Value → Shared → Prop), Takes (X.tr pn xe) W → PassesOwn (model X.prog X.w) X.A X.env xe → PSs (X.tr pn xe) body (tb W))
    (hsu : ∀ (a : Addr) (cls : Value) (d : Option Addr) (pn : List (Addr × Obj)), PSs (X.suite a pn) (b₀ :: suite) (ts a cls d)) :
    PS X (.Try body [.ExceptHandler (some (.Name x np)) (some n) (b₀ :: suite) pos'] [] [] pos) (fun D σ H => tb (wAdopt X.K c i ts Wout D) D σ H) := by
  refine ⟨fun pins s σ H D I h => ?_⟩
  have ok := I.ok
  have hfr : X.A.frames = some (X.env :: X.outer) := by rw [ok.frames, hs]
  have hloc : Loc X.env.scope n := .inl hln
  refine wpAny_Try_except ?_
  refine wpAny_mono ((hb (wAdopt X.K c i ts Wout D) (X.pn ++ pins) (fun e s₁ => wpAny (model X.prog X.w) X.A (noteFrame e X.env) (fun _ s₂ => wpAny (model X.prog X.w) X.A (setFlight e none) (fun _ s₃ =>
    wpAny (model X.prog X.w) X.A (handleBy e X.env [.ExceptHandler (some (.Name x np)) (some n) (b₀ :: suite) pos']) (SP X pins D) X.xe s₃) X.xe s₂) X.xe s₁) (fun u s' xx => ?_) PassesOwn.looking).run [] s σ H D (I.toTry _) h) (fun f s1 hsp => ?_) (fun e s1 he => he)
  · -- the catch
    obtain ⟨a, B, sI, pins', σ', H', cls, d, rfl, J', nb, up, sky, na, os, ag, b, hb1, hyes, hno⟩ := xx
    have J : Inv X pins σ' H' sI := J'.ofTry ok
    have sky' : Sky B (X.env :: X.outer) a (Zc cls d) X.env.locals s'.heap := by rw [← hs]; exact sky
    show wpAny _ X.A (noteFrame (.ref a) X.env) _ _ _
    refine Sky.land Zc.steady hfr hf sky' fun h3 fl3 up3 => ?_
    have J3 : Inv X pins σ' H' { s' with heap := h3 } := J.landed nb fl3.1 (up.trans up3) os ag
    obtain ⟨oe3, vs3, he3, hz3, hd3⟩ := fl3.there
    have notFr : ∀ {h : Heap} {o : Obj} {vs : Array Value}, h.FunFrames B (X.env :: X.outer) → h.get? a = some o → o.data = .fields vs → a ∉ frs (X.env :: X.outer) := fun {h o vs} ff e dd hm => by
      obtain ⟨_, o', e', hnf⟩ := ff.mem hm
      rw [e] at e'; cases e'
      exact hnf _ dd
    have nfr := notFr fl3.2.2.1 he3 hd3
    have nL : a ≠ X.env.locals := fun z => nfr (List.mem_filterMap.mpr ⟨X.env, List.mem_cons_self, by rw [hf, z]⟩)
    have nF : a ∉ X.fs := fun hm => by
      obtain ⟨e, he, q⟩ := List.mem_filterMap.mp hm
      exact nfr (List.mem_filterMap.mpr ⟨e, List.mem_cons_of_mem _ he, q⟩)
    -- what was there is not the exception
    have old : ∀ b ob, sI.heap.get? b = some ob → b ≠ a := fun b ob e z => by
      have hbf : b ∉ frs X.stack := fun hm => by
        rw [hs] at hm
        exact nfr (by rw [← z]; exact hm)
      have q := nb b ob e hbf
      rw [z, fl3.2.1] at q
      cases q
    have n0 : X.s_0.heap.get? a = none := by
      cases e : X.s_0.heap.get? a with
      | none => rfl
      | some ob =>
        obtain ⟨o', q⟩ := J.base.there a ob e (by rw [hex]; exact fun z => nomatch z)
        exact (old a o' q rfl).elim
    have nC : ∀ x c, X.env.cells.lookup x = some c → c ≠ a := fun x c e => by
      obtain ⟨v, ob, q, _⟩ := J.cell x c e
      exact old c ob q
    have nP : ∀ p ∈ X.pn ++ pins, p.1 ≠ a := fun p hp => old p.1 p.2 (J.pin p hp).1
    have S3 := J3.suite he3 hd3 na nL nF
    refine wpAny_handleBy_cons (codeAny_handlers_test ?_) (by intro q; cases q)
    have LT : PySem.W.Looks (model X.prog X.w) h3 (typeOf (.ref a)) cls := fun A Q E s k q => wpAny_typeOf_ref (k _ _ he3) (by rw [hz3.1]; exact q)
    have LM := PySem.W.exm_one (M := model X.prog X.w) (J3.kIn) LT hb1
    have test : ∀ {Q : Value → Shared → Prop} {E : Value → Shared → Prop}, Q c { s' with heap := h3 } → wpAny (model X.prog X.w) (X.A.mark (some (.ref a))) (eval (.Name x np) X.env) Q E { s' with heap := h3 } := fun {Q E} q => by
      obtain ⟨hg, hdbg, hm | ⟨hm, hv, hnn⟩⟩ := hc
      · exact ld_glob (X := X.suite a ((a, oe3) :: (X.pn ++ pins))) S3 hg hm q hdbg
      · exact ld_blt (X := X.suite a ((a, oe3) :: (X.pn ++ pins))) S3 hg hm hv q hnn hdbg
    refine test (LM.here ?_)
    cases b with
    | true =>
      refine codeAny_handlers_suite_as ?_
      refine HandSPX.lands_againZ fl3 fun h4 fl4 up4 => ?_
      have J4 : Inv X pins σ' H' { s' with heap := h4 } := J.landed nb fl4.1 ((up.trans up3).trans up4) os ag
      obtain ⟨oe4, vs4, he4, hz4, hd4⟩ := fl4.there
      have S4 := suite0 (a := a) (inv_adopt J4 na nL nC nP n0 (exh_ok he4 hz4 hd4))
      refine store_ok (X := X.suite a (X.pn ++ pins)) (v := .ref a) S4 hN hi hloc rfl (fun s5 S5 => ?_) (.inr hln)
      refine wpAny_mono ((hsu a cls d (X.pn ++ pins)).run [] s5 _ _ _ S5 (hyes rfl a na)) (fun f s6 hsp => ?_) (fun _ _ z => False.elim z)
      have end_ : ∀ {σ6 : L2.St} {H6 : Hp} {Q : Shared → Prop}, Inv (X.suite a (X.pn ++ pins)) [] σ6 H6 s6 → (∀ s7, Inv X pins (σ6.set i none) H6 s7 → Q s7) →
          wpAny (model X.prog X.w) X.A (do bindName X.env n .none; unbindBehindTheSuite X.env n pos') (fun _ s7 => Q s7) X.xe s6 := fun {σ6 H6 Q} S6 hq => gone_ok (unsuite0 S6 ok) hN hi hln hq
      cases f with
      | next =>
        obtain ⟨σ6, H6, S6, q6⟩ := hsp
        exact end_ S6 fun s7 J7 => ⟨_, _, J7, q6⟩
      | brk =>
        obtain ⟨σ6, H6, S6, q6⟩ := hsp
        exact end_ S6 fun s7 J7 => ⟨_, _, J7, q6⟩
      | cont =>
        obtain ⟨σ6, H6, S6, q6⟩ := hsp
        exact end_ S6 fun s7 J7 => ⟨_, _, J7, q6⟩
      | ret u =>
        obtain ⟨v6, σ6, H6, S6, r6, q6⟩ := hsp
        exact end_ S6 fun s7 J7 => ⟨_, _, _, J7, r6, q6⟩
    | false =>
      show wpAny _ X.A (handleBy (.ref a) X.env []) _ _ _
      refine wpAny_handleBy_nil ?_
      obtain ⟨k1, k2, k3, oe, vs, T, oT, ts', he, hz, hd, h1, hr⟩ := id fl3
      unfold PySem.passOn
      refine wpAny_bind (wpAny_field he hd h1 ?_)
      rw [if_neg (show ¬ ((Value.ref T == Value.none) = true) from by simp)]
      have fin : wpAny (model X.prog X.w) X.A (setFlight (.ref a) X.env.frame) (fun _ s4 => wpAny (model X.prog X.w) X.A (throw (.ref a) : Sem Flow) (SP X pins D) X.xe s4) X.xe { s' with heap := h3 } := by
        rw [hf]
        refine HandSPX.setFlight_upZ fl3 fun h4 hh4 up4 => wpAny_throw (tk _ _ ?_)
        exact ⟨a, B, sI, pins, σ', H', cls, d, rfl, J, nb, (up.trans up3).trans up4, .inr (.inr (by rw [hs]; exact hh4)), na, os, ag, hno rfl⟩
      first
        | exact wpAny_bind (wpAny_pure (wpAny_bind fin))
        | exact wpAny_bind fin
  · cases f with
    | next =>
      obtain ⟨σ', H', J', q⟩ := hsp
      exact wpAny_execs_nil ⟨σ', H', J'.ofTry ok, q⟩
    | brk =>
      obtain ⟨σ', H', J', q⟩ := hsp
      exact ⟨σ', H', J'.ofTry ok, q⟩
    | cont =>
      obtain ⟨σ', H', J', q⟩ := hsp
      exact ⟨σ', H', J'.ofTry ok, q⟩
    | ret u =>
      obtain ⟨v, σ', H', J', r, q⟩ := hsp
      exact ⟨v, σ', H', J'.ofTry ok, r, q⟩
end

/-! ### try .. except D as e: any suite -/
def yTryD (L : List (Str × Str × Bool)) (d : Str) (i : Nat) (g g2 : Env → Store → Out) : Env → Store → Out := fun e S => match g e S with
  | .exc x e' S' => match subT L x.cls d with
    | some true => match e'[i]? with
      | some _ => match g2 (e'.set i (some (.exn x.cls x.val))) S' with
        | .nx e2 S2 => .nx (e2.set i none) S2
        | .rt d S2 => .rt d S2
        | .bk e2 S2 => .bk (e2.set i none) S2
        | .ct e2 S2 => .ct (e2.set i none) S2
        | .exc _ _ _ => .bad
        | .bad => .bad
      | none => .bad
    | some false => .exc x e' S'
    | none => .bad
  | o => o
section
variable {X : Cx} {W : WX} {x n : Str} {i : Nat} {body suite : List Stmt} {b₀ : Stmt} {np pos pos' : Pos} {g g2 : Env → Store → Out} {L : List (Str × Str × Bool)} {Dc : Addr}
theorem psd_tryD (hs : X.stack = X.env :: X.outer) (hf : X.env.frame = some X.env.locals) (hex : X.ex = []) (hN : X.N.Nodup) (hi : X.N[i]? = some n) (hln : X.env.kindOf n = some .local) (tk : Takes X W)
    (hg : Gl X x) (hd : Cl X.K X.mg x Dc) (hL : ∀ p ∈ L, CatchOk X.K p)
    (hb : ∀ (W : WX) (pn : List (Addr × Obj)) (xe : Value → Shared → Prop), Takes (X.tr pn xe) W → PassesOwn (model X.prog X.w) X.A X.env xe → PSsD (X.tr pn xe) W body g)
    (h2 : ∀ (a : Addr) (pn : List (Addr × Obj)), PSsD (X.suite a pn) (fun _ _ _ _ => False) (b₀ :: suite) g2) (hdb : (x == ("__debug__" : Str)) = false := by decide) :
    PSD X W (.Try body [.ExceptHandler (some (.Name x np)) (some n) (b₀ :: suite) pos'] [] [] pos) (yTryD L x i g g2) := by
  refine weakS (ps_try_adopt (i := i) (c := .ref Dc) (tb := fun W => sD (kt X) W g) (ts := fun _ _ _ => sD (kt X) (fun _ _ _ _ => False) g2) hs hf hex hN hi hln ⟨hg, hdb, .inl hd.g⟩ tk (fun W pn xe tk' pas => hb W pn xe tk' pas)
    (fun a cls d pn => h2 a pn)) fun D σ H ⟨w, env, eH, hw, he, hs⟩ => ⟨w, env, eH, hw, he, ?_⟩
  unfold yTryD at hs
  cases o : g env w.S with
  | nx e S => rw [o] at hs; exact hs
  | rt e S => rw [o] at hs; exact hs
  | bk e S => rw [o] at hs; exact hs
  | ct e S => rw [o] at hs; exact hs
  | bad => rw [o] at hs; exact hs
  | exc z e' S' =>
    rw [o] at hs
    intro w' σ' cls dd g' eS he' hx
    obtain ⟨C, c1, rfl, c3⟩ := hx
    cases q : subT L z.cls x with
    | none => simp only [q] at hs; exact hs.elim
    | some b =>
      refine ⟨b, hL _ (subT_mem q) C Dc c1 hd.n, fun hb a na => ?_, fun hb => ?_⟩
      · subst hb
        simp only [q] at hs
        cases qi : e'[i]? with
        | none => simp only [qi] at hs; exact hs.elim
        | some oo =>
          simp only [qi] at hs
          have ga := Go.alloc (o := ExH (.ref C) dd a) g'.wd na
          have r2 : Rp X.K w'.r (upd w'.F a (ExH (.ref C) dd a)) (.exn z.cls z.val) (.ref a) := by
            unfold Rp
            exact ⟨a, C, dd, rfl, c1, upd_same, c3.mono ga.F⟩
          have he2 := (he'.go ga).set (i := i) r2
          refine ⟨⟨w'.r, upd w'.F a (ExH (.ref C) dd a), w'.S, upd w'.H a (ExH (.ref C) dd a)⟩, e'.set i (some (.exn z.cls z.val)), rfl, ga.wd, he2, ?_⟩
          subst eS
          show SatS _ _ _ (g2 (e'.set i (some (.exn z.cls z.val))) w'.S) _
          cases o2 : g2 (e'.set i (some (.exn z.cls z.val))) w'.S with
          | nx e2 S2 =>
            simp only [o2] at hs
            exact fun w2 σ2 g2' eS2 he3 => hs w2 (σ2.set i none) ((g'.trans ga).trans g2') eS2 (he3.unset (i := i))
          | rt d2 S2 =>
            simp only [o2] at hs
            exact fun w2 v2 g2' eS2 rv => hs w2 v2 ((g'.trans ga).trans g2') eS2 rv
          | bk e2 S2 =>
            simp only [o2] at hs
            exact fun w2 σ2 g2' eS2 he3 => hs w2 (σ2.set i none) ((g'.trans ga).trans g2') eS2 (he3.unset (i := i))
          | ct e2 S2 =>
            simp only [o2] at hs
            exact fun w2 σ2 g2' eS2 he3 => hs w2 (σ2.set i none) ((g'.trans ga).trans g2') eS2 (he3.unset (i := i))
          | exc y2 e2 S2 => simp only [o2] at hs; exact hs.elim
          | bad => simp only [o2] at hs; exact hs.elim
      · subst hb
        simp only [q] at hs
        exact hs w' σ' _ dd g' eS he' ⟨C, c1, rfl, c3⟩
end
section
variable {S : Store} {e : Env} {d : Str} {i : Nat} {g g2 : Env → Store → Out} {L : List (Str × Str × Bool)} {Q : Pst}
/-- a suite that tells, or raises what the suite behind it takes -/
theorem enx_tryD (h : EnxO (g e S) Q fun y e' S' => subT L y.cls d = some true ∧ (∃ o, e'[i]? = some o) ∧ EnsO (g2 (e'.set i (some (.exn y.cls y.val))) S') { nx := fun e2 S2 => Q.nx (e2.set i none) S2, rt := Q.rt, bk := fun e2 S2 => Q.bk (e2.set i none) S2, ct := fun e2 S2 => Q.ct (e2.set i none) S2 }) : EnsO (yTryD L d i g g2 e S) Q := by
  cases o : g e S with
  | exc y e2 S2 =>
    rw [o, enxo_exc] at h
    obtain ⟨h1, ⟨o', h2⟩, h3⟩ := h
    unfold yTryD
    simp only [o, h1, h2]
    cases o2 : g2 (e2.set i (some (.exn y.cls y.val))) S2 with
    | nx e3 S3 => rw [o2, enso_nx] at h3; simp only [enso_nx]; exact h3
    | rt e3 S3 => rw [o2, enso_rt] at h3; simp only [enso_rt]; exact h3
    | bk e3 S3 => rw [o2, enso_bk] at h3; simp only [enso_bk]; exact h3
    | ct e3 S3 => rw [o2, enso_ct] at h3; simp only [enso_ct]; exact h3
    | exc y3 e3 S3 => rw [o2] at h3; exact h3.go.elim
    | bad => rw [o2, enso_bad] at h3; exact h3.elim
  | nx e2 S2 => rw [o, enxo_nx] at h; unfold yTryD; rw [o]; exact ⟨h⟩
  | rt e2 S2 => rw [o, enxo_rt] at h; unfold yTryD; rw [o]; exact ⟨h⟩
  | bk e2 S2 => rw [o, enxo_bk] at h; unfold yTryD; rw [o]; exact ⟨h⟩
  | ct e2 S2 => rw [o, enxo_ct] at h; unfold yTryD; rw [o]; exact ⟨h⟩
  | bad => rw [o, enxo_bad] at h; exact h.elim
end
end Dv
/-! # Dv23: things frozen all the way down; a def that gets cells for a while as frozen things -/
namespace Dv
open PySem PySem.Spec PyProof.Rows L2
def mapS (f : D → Store → Res D) : List D → Store → Res (List D)
  | [], S => .ok [] S
  | d :: l, S => (f d S).bind fun d' S1 => (mapS f l S1).bind fun l' S2 => .ok (d' :: l') S2
def dfz : Nat → D → Store → Res D
  | 0, _, _ => .bad
  | n + 1, d, S => match d with
    | .cell k => match S[k]? with
      | some (.lst l) => (mapS (dfz n) l (S.set k .dead)).bind fun l' S' => .ok (.lst l') S'
      | some (.dct _) => .ok d S
      | _ => .bad
    | .lst l => (mapS (dfz n) l S).bind fun l' S' => .ok (.lst l') S'
    | .tup l => (mapS (dfz n) l S).bind fun l' S' => .ok (.tup l') S'
    | d => .ok d S
/-- some cells of w are frozen in w1 -/
structure Fz (K : PySem.W.Frag) (w w1 : Wl) : Prop where
  go : Go K w w1
  r : w1.r = w.r
  H : w1.H = w.H
  len : w1.S.length = w.S.length
  cell : ∀ n : Nat, w1.S[n]? = w.S[n]? ∨ ∃ l, w.S[n]? = some (.lst l) ∧ w1.S[n]? = some .dead ∧ ∀ a, w.r[n]? = some a → w1.F a ≠ none
section
variable {K : PySem.W.Frag} {w w1 w2 : Wl}
theorem Fz.refl (h : Wd K w) : Fz K w w := ⟨Go.refl h, rfl, rfl, rfl, fun _ => .inl rfl⟩
theorem Fz.trans (g : Fz K w w1) (h : Fz K w1 w2) : Fz K w w2 := by
  refine ⟨g.go.trans h.go, h.r.trans g.r, h.H.trans g.H, h.len.trans g.len, fun n => ?_⟩
  rcases g.cell n with e | ⟨l, e1, e2, e3⟩
  · rcases h.cell n with e' | ⟨l', e1', e2', e3'⟩
    · exact .inl (e'.trans e)
    · exact .inr ⟨l', e.symm.trans e1', e2', fun a ha => e3' a (by rw [g.r]; exact ha)⟩
  · rcases h.cell n with e' | ⟨l', e1', e2', e3'⟩
    · refine .inr ⟨l, e1, e'.trans e2, fun a ha => ?_⟩
      have := e3 a ha
      cases q : w1.F a with
      | none => exact absurd q this
      | some o => rw [h.go.F a o q]; simp
    · rw [e2] at e1'
      cases e1'
theorem Fz.one (h : Wd K w) {n : Nat} {a : Addr} {l : List D} {vs : List V} (e0 : w.S[n]? = some (.lst l)) (er : w.r[n]? = some a) (ha : w.H a = some (.lst vs)) : Fz K w ⟨w.r, upd w.F a (.lst vs), w.S.set n .dead, w.H⟩ := by
  refine ⟨Go.freeze h e0 er ha, rfl, rfl, by simp, fun k => ?_⟩
  have hn : n < w.S.length := (List.getElem?_eq_some_iff.mp e0).1
  by_cases hk : k = n
  · subst hk
    refine .inr ⟨l, e0, by rw [List.getElem?_set_self hn], fun b hb => ?_⟩
    have : a = b := Option.some.inj (er.symm.trans hb)
    subst this
    show upd w.F a (.lst vs) a ≠ none
    rw [upd_same]
    simp
  · exact .inl (by rw [List.getElem?_set_ne (Ne.symm hk)])
theorem mapS_sat {f : D → Store → Res D} (hf : ∀ {w : Wl} {d d' : D} {v : V} {S' : Store}, Wd K w → Rp K w.r w.F d v → f d w.S = .ok d' S' → ∃ w1, Fz K w w1 ∧ w1.S = S' ∧ Rp K w1.r w1.F d' v) :
    ∀ {l l' : List D} {w : Wl} {vs : List V} {S' : Store}, Wd K w → Rps K w.r w.F l vs → mapS f l w.S = .ok l' S' → ∃ w1, Fz K w w1 ∧ w1.S = S' ∧ Rps K w1.r w1.F l' vs
  | [], l', w, vs, S', hw, hr, h => by
    unfold mapS at h
    cases h
    exact ⟨w, Fz.refl hw, rfl, hr⟩
  | d :: l, l', w, vs, S', hw, hr, h => by
    unfold mapS at h
    unfold Rps at hr
    obtain ⟨v, t, rfl, r1, r2⟩ := hr
    cases o : f d w.S with
    | bad => rw [o] at h; cases h
    | exc x S => rw [o] at h; cases h
    | ok d1 S1 =>
      rw [o, Res.bind_ok] at h
      obtain ⟨w1, z1, e1, q1⟩ := hf hw r1 o
      subst e1
      cases o2 : mapS f l w1.S with
      | bad => rw [o2] at h; cases h
      | exc x S => rw [o2] at h; cases h
      | ok l2 S2 =>
        rw [o2, Res.bind_ok] at h
        cases h
        obtain ⟨w2, z2, e2, q2⟩ := mapS_sat hf z1.go.wd (r2.go z1.go) o2
        refine ⟨w2, z1.trans z2, e2, ?_⟩
        unfold Rps
        exact ⟨v, t, rfl, q1.go z2.go, q2⟩
theorem dfz_sat : ∀ (n : Nat) {w : Wl} {d d' : D} {v : V} {S' : Store}, Wd K w → Rp K w.r w.F d v → dfz n d w.S = .ok d' S' → ∃ w1, Fz K w w1 ∧ w1.S = S' ∧ Rp K w1.r w1.F d' v
  | 0, w, d, d', v, S', hw, hr, h => by unfold dfz at h; cases h
  | n + 1, w, d, d', v, S', hw, hr, h => by
    have ih := fun {w : Wl} {d d' : D} {v : V} {S' : Store} => dfz_sat n (w := w) (d := d) (d' := d') (v := v) (S' := S')
    unfold dfz at h
    cases d with
    | cell k =>
      cases e : w.S[k]? with
      | none => simp only [e] at h; cases h
      | some c =>
        cases c with
        | dead => simp only [e] at h; cases h
        | dct _ =>
          simp only [e] at h
          cases h
          exact ⟨w, Fz.refl hw, rfl, hr⟩
        | lst l =>
          simp only [e] at h
          have hr0 := hr
          unfold Rp at hr
          obtain ⟨a, e1, rfl⟩ := hr
          obtain ⟨hf, vs, e2, p⟩ := hw.cell k a _ e1 e
          have z := Fz.one hw e e1 e2
          cases o : mapS (dfz n) l (w.S.set k .dead) with
          | bad => rw [o] at h; cases h
          | exc x S => rw [o] at h; cases h
          | ok l1 S1 =>
            rw [o, Res.bind_ok] at h
            cases h
            obtain ⟨w2, z2, e3, q2⟩ := mapS_sat ih z.go.wd (p.go z.go) o
            refine ⟨w2, z.trans z2, e3, ?_⟩
            unfold Rp
            exact ⟨a, vs, rfl, z2.go.F _ _ upd_same, q2⟩
    | lst l =>
      simp only at h
      unfold Rp at hr
      obtain ⟨a, vs, rfl, e1, p⟩ := hr
      cases o : mapS (dfz n) l w.S with
      | bad => rw [o] at h; cases h
      | exc x S => rw [o] at h; cases h
      | ok l1 S1 =>
        rw [o, Res.bind_ok] at h
        cases h
        obtain ⟨w2, z2, e3, q2⟩ := mapS_sat ih hw p o
        refine ⟨w2, z2, e3, ?_⟩
        unfold Rp
        exact ⟨a, vs, rfl, z2.go.F _ _ e1, q2⟩
    | tup l =>
      simp only at h
      unfold Rp at hr
      obtain ⟨a, vs, rfl, e1, p⟩ := hr
      cases o : mapS (dfz n) l w.S with
      | bad => rw [o] at h; cases h
      | exc x S => rw [o] at h; cases h
      | ok l1 S1 =>
        rw [o, Res.bind_ok] at h
        cases h
        obtain ⟨w2, z2, e3, q2⟩ := mapS_sat ih hw p o
        refine ⟨w2, z2, e3, ?_⟩
        unfold Rp
        exact ⟨a, vs, rfl, rd_same z2.go.F e1, q2⟩
    | non => cases h; exact ⟨w, Fz.refl hw, rfl, hr⟩
    | bl _ => cases h; exact ⟨w, Fz.refl hw, rfl, hr⟩
    | int _ => cases h; exact ⟨w, Fz.refl hw, rfl, hr⟩
    | str _ => cases h; exact ⟨w, Fz.refl hw, rfl, hr⟩
    | scr _ => cases h; exact ⟨w, Fz.refl hw, rfl, hr⟩
    | raw _ => cases h; exact ⟨w, Fz.refl hw, rfl, hr⟩
    | cls _ => cases h; exact ⟨w, Fz.refl hw, rfl, hr⟩
    | exn _ _ => cases h; exact ⟨w, Fz.refl hw, rfl, hr⟩
end
/-! ### borrowed -/
mutual
def D.sol : D → Bool
  | .lst _ => false
  | .scr _ => false
  | .tup l => D.solL l
  | _ => true
def D.solL : List D → Bool
  | [] => true
  | d :: l => D.sol d && D.solL l
end
def Cn.sol : Cn → Bool
  | .dead => true
  | .lst l => D.solL l
  | .dct kvs => kvs.all fun z => D.sol z.2
def rst : Store → Store → Store → Store
  | c :: S, c1 :: S1, c2 :: S2 => (match c1 with | .dead => c | _ => c2) :: rst S S1 S2
  | _, _, S2 => S2
theorem rst_length : ∀ (S S1 S2 : Store), (rst S S1 S2).length = S2.length
  | c :: S, c1 :: S1, c2 :: S2 => by simp [rst, rst_length S S1 S2]
  | [], _, _ => by simp [rst]
  | _ :: _, [], _ => by simp [rst]
  | _ :: _, _ :: _, [] => by simp [rst]
theorem rst_get : ∀ (S S1 S2 : Store) (n : Nat) (c : Cn), (rst S S1 S2)[n]? = some c → (S1[n]? = some .dead ∧ S[n]? = some c) ∨ ((S[n]? = none ∨ S1[n]? ≠ some .dead) ∧ S2[n]? = some c)
  | c :: S, c1 :: S1, c2 :: S2, 0, x, h => by
    unfold rst at h
    cases c1 with
    | dead => simp only [List.getElem?_cons_zero] at h ⊢; exact .inl ⟨trivial, h⟩
    | lst _ => simp only [List.getElem?_cons_zero] at h ⊢; exact .inr ⟨.inr (by simp), h⟩
    | dct _ => simp only [List.getElem?_cons_zero] at h ⊢; exact .inr ⟨.inr (by simp), h⟩
  | c :: S, c1 :: S1, c2 :: S2, n + 1, x, h => by
    unfold rst at h
    rw [List.getElem?_cons_succ] at h
    simpa only [List.getElem?_cons_succ] using rst_get S S1 S2 n x h
  | [], _, _, n, x, h => by
    simp only [rst] at h
    exact .inr ⟨.inl (by simp), h⟩
  | _ :: _, [], _, n, x, h => by
    simp only [rst] at h
    exact .inr ⟨.inr (by simp), h⟩
  | _ :: _, _ :: _, [], n, x, h => by simp [rst] at h
/-- what comes behind a store that stays -/
theorem rst_app : ∀ (S S1 R : Store), S1.length = S.length → (∀ n : Nat, S1[n]? = S[n]? ∨ S1[n]? = some .dead) → rst S S1 (S1 ++ R) = S ++ R
  | [], [], R, _, _ => by simp [rst]
  | c :: S, c1 :: S1, R, hl, h => by
    have ih := rst_app S S1 R (by simpa using hl) fun n => by simpa using h (n + 1)
    have h0 := h 0
    simp only [List.getElem?_cons_zero] at h0
    rw [List.cons_append]
    unfold rst
    rw [ih]
    cases c1 with
    | dead => rfl
    | lst _ => rcases h0 with e | e <;> cases e <;> rfl
    | dct _ => rcases h0 with e | e <;> cases e <;> rfl
  | [], c1 :: S1, R, hl, _ => by simp at hl
  | c :: S, [], R, hl, _ => by simp at hl
def bor (f : List D → M D) : List D → M D := fun ds S => match mapS (dfz 60) ds S with
  | .ok ds1 S1 => match f ds1 S1 with
    | .ok d S2 => if D.sol d = true ∧ S2.all Cn.sol = true then .ok d (rst S S1 S2) else .bad
    | .exc x S2 => if S2.all Cn.sol = true then .exc x (rst S S1 S2) else .bad
    | .bad => .bad
  | _ => .bad
section
variable {K : PySem.W.Frag} {w w1 w2 : Wl}
open Classical in
/-- what stays frozen when the borrowed cells are given back -/
noncomputable def offF (w w1 : Wl) (F : Hp) : Hp := fun a => if ∃ n : Nat, w.r[n]? = some a ∧ alv w.S n ∧ w1.S[n]? = some .dead then none else F a
theorem offF_some {F : Hp} {a : Addr} {o : HO} (h : offF w w1 F a = some o) : F a = some o := by
  unfold offF at h
  split at h
  · cases h
  · exact h
theorem offF_none {F : Hp} {a : Addr} (h : F a = none) : offF w w1 F a = none := by
  unfold offF
  split
  · rfl
  · exact h
/-- a borrowed cell's object is a list -/
theorem Fz.lent (z : Fz K w w1) (hw : Wd K w) (g : Go K w1 w2) {a : Addr} (h : ∃ n : Nat, w.r[n]? = some a ∧ alv w.S n ∧ w1.S[n]? = some .dead) : ∃ vs, w2.F a = some (.lst vs) ∧ w.H a = some (.lst vs) := by
  obtain ⟨n, e, ⟨c, ec, hc⟩, hd⟩ := h
  rcases z.cell n with q | ⟨l, e1, e2, e3⟩
  · rw [hd, ec] at q
    cases q
    exact absurd rfl hc
  · obtain ⟨_, vs, eH, _⟩ := hw.cell n a _ e e1
    have hF := e3 a e
    cases q : w1.F a with
    | none => exact absurd q hF
    | some o =>
      have := z.go.wd.same a o q
      rw [z.H, eH] at this
      cases this
      exact ⟨vs, g.F _ _ q, eH⟩
theorem Fz.keep (z : Fz K w w1) (hw : Wd K w) (g : Go K w1 w2) {a : Addr} {o : HO} (h : w2.F a = some o) (no : ∀ vs, o ≠ .lst vs) : offF w w1 w2.F a = some o := by
  unfold offF
  split
  · rename_i q
    obtain ⟨vs, e, _⟩ := z.lent hw g q
    rw [h] at e
    cases e
    exact absurd rfl (no vs)
  · exact h
mutual
theorem Rp.off (z : Fz K w w1) (hw : Wd K w) (g : Go K w1 w2) {r : List Addr} : ∀ (d : D) (v : V), D.sol d = true → Rp K r w2.F d v → Rp K r (offF w w1 w2.F) d v
  | .non, _, _, h => by unfold Rp at h ⊢; exact h
  | .bl _, _, _, h => by unfold Rp at h ⊢; exact h
  | .int _, _, _, h => by unfold Rp at h ⊢; exact h
  | .str _, _, _, h => by unfold Rp at h ⊢; exact h
  | .raw _, _, _, h => by unfold Rp at h ⊢; exact h
  | .cell _, _, _, h => by unfold Rp at h ⊢; exact h
  | .cls _, _, _, h => by unfold Rp at h ⊢; exact h
  | .lst _, _, s, _ => by simp [D.sol] at s
  | .scr _, _, s, _ => by simp [D.sol] at s
  | .tup l, v, s, h => by
    unfold D.sol at s
    unfold Rp at h ⊢
    obtain ⟨a, vs, e, q, p⟩ := h
    refine ⟨a, vs, e, ?_, Rps.off z hw g l vs s p⟩
    rcases q with q | ⟨o, q⟩
    · exact .inl (z.keep hw g q fun vs e => by cases e)
    · exact .inr ⟨o, z.keep hw g q fun vs e => by cases e⟩
  | .exn c f, v, _, h => by
    unfold Rp at h ⊢
    obtain ⟨a, C, d, e, hc, q, p⟩ := h
    refine ⟨a, C, d, e, hc, z.keep hw g q fun vs e => (by cases e), ?_⟩
    cases f with
    | none => exact p
    | some y =>
      obtain ⟨f, i⟩ := y
      obtain ⟨b, e1, e2⟩ := p
      exact ⟨b, e1, z.keep hw g e2 fun vs e => by cases e⟩
theorem Rps.off (z : Fz K w w1) (hw : Wd K w) (g : Go K w1 w2) {r : List Addr} : ∀ (d : List D) (v : List V), D.solL d = true → Rps K r w2.F d v → Rps K r (offF w w1 w2.F) d v
  | [], _, _, h => by unfold Rps at h ⊢; exact h
  | d :: l, v, s, h => by
    unfold D.solL at s
    rw [Bool.and_eq_true] at s
    unfold Rps at h ⊢
    obtain ⟨v, t, e, p, q⟩ := h
    exact ⟨v, t, e, Rp.off z hw g d v s.1 p, Rps.off z hw g l t s.2 q⟩
end
theorem RpK.off (z : Fz K w w1) (hw : Wd K w) (g : Go K w1 w2) {r : List Addr} {kvs : List (Key × D)} {ws : List (Key × V)} (s : (kvs.all fun z => D.sol z.2) = true) (h : RpK K r w2.F kvs ws) : RpK K r (offF w w1 w2.F) kvs ws := by
  induction h with
  | nil => exact .nil
  | cons h1 h2 ih =>
    rw [List.all_cons, Bool.and_eq_true] at s
    exact .cons ⟨h1.1, Rp.off z hw g _ _ s.1 h1.2⟩ (ih s.2)
/-- the borrowed cells are given back -/
theorem Fz.back (z : Fz K w w1) (hw : Wd K w) (g : Go K w1 w2) (hs : w2.S.all Cn.sol = true) : Go K w ⟨w2.r, offF w w1 w2.F, rst w.S w1.S w2.S, w2.H⟩ := by
  have hl := g.slen
  have pre : ∃ t, w2.r = w.r ++ t := by
    obtain ⟨t, e⟩ := g.pre
    exact ⟨t, by rw [e, z.r]⟩
  have sF : Same w.F (offF w w1 w2.F) := fun a o e => by
    unfold offF
    split
    · rename_i q
      obtain ⟨n, e1, ⟨c, ec, hc⟩, _⟩ := q
      have := (hw.cell n a c e1 ec).free hc
      rw [this] at e
      cases e
    · exact g.F _ _ (z.go.F _ _ e)
  have rlen : w2.r.length = w2.S.length := g.wd.len
  have alv3 : ∀ {n : Nat}, alv (rst w.S w1.S w2.S) n → (w1.S[n]? = some .dead ∧ alv w.S n) ∨ ((w.S[n]? = none ∨ w1.S[n]? ≠ some .dead) ∧ alv w2.S n) := fun {n} ⟨c, e, hc⟩ => by
    rcases rst_get _ _ _ _ _ e with ⟨e1, e2⟩ | ⟨e1, e2⟩
    · exact .inl ⟨e1, c, e2, hc⟩
    · exact .inr ⟨e1, c, e2, hc⟩
  have alv_old : ∀ {n : Nat}, n < w.S.length → alv (rst w.S w1.S w2.S) n → alv w.S n := fun {n} hn h => by
    rcases alv3 h with ⟨_, q⟩ | ⟨_, q⟩
    · exact q
    · exact z.go.live n hn (g.live n (by rw [z.len]; exact hn) q)
  have alv_new : ∀ {n : Nat}, w.S.length ≤ n → alv (rst w.S w1.S w2.S) n → alv w2.S n := fun {n} hn h => by
    rcases alv3 h with ⟨_, c, e, _⟩ | ⟨_, q⟩
    · have := (List.getElem?_eq_some_iff.mp e).1
      omega
    · exact q
  refine ⟨⟨by rw [rst_length]; exact rlen, fun a o e => g.wd.same a o (offF_some e), fun n a c e1 e2 => ?_, fun n m a e1 e2 l1 l2 => ?_⟩, pre, hw.len, fun n hn q => alv_old hn q, fun n a hn e q => ?_, sF, fun a o e q => ?_, fun a e => ?_, fun a e f q => ?_⟩
  · show CellOk K w2.r (offF w w1 w2.F) w2.H a c
    rcases rst_get _ _ _ _ _ e2 with ⟨d1, d2⟩ | ⟨d1, d2⟩
    · by_cases hc : c = .dead
      · subst hc; exact trivial
      · have hn : n < w.S.length := (List.getElem?_eq_some_iff.mp d2).1
        have er : w.r[n]? = some a := pre_back pre (by rw [hw.len]; exact hn) e1
        have hx := hw.cell n a c er d2
        have lent : ∃ n : Nat, w.r[n]? = some a ∧ alv w.S n ∧ w1.S[n]? = some .dead := ⟨n, er, ⟨c, d2, hc⟩, d1⟩
        obtain ⟨vs, f2, h2⟩ := z.lent hw g lent
        have hn3 : offF w w1 w2.F a = none := by unfold offF; rw [if_pos lent]
        have hH : w2.H a = some (.lst vs) := g.wd.same _ _ f2
        refine hx.mono pre sF (fun _ _ => hn3) fun _ o e => ?_
        rw [h2] at e
        cases e
        exact hH
    · have hx := g.wd.cell n a c e1 d2
      have sc : Cn.sol c = true := List.all_eq_true.mp hs c (List.mem_of_getElem? d2)
      cases c with
      | dead => exact trivial
      | lst l =>
        obtain ⟨f, vs, h, p⟩ := hx
        exact ⟨offF_none f, vs, h, Rps.off z hw g l vs sc p⟩
      | dct kvs =>
        obtain ⟨f, vs, h, p⟩ := hx
        exact ⟨offF_none f, vs, h, RpK.off z hw g sc p⟩
  · have key : ∀ {n m : Nat}, w2.r[n]? = some a → w2.r[m]? = some a → alv (rst w.S w1.S w2.S) n → alv (rst w.S w1.S w2.S) m → n < w.S.length → w.S.length ≤ m → False := fun {n m} e1 e2 l1 l2 hn hm => by
      have er : w.r[n]? = some a := pre_back pre (by rw [hw.len]; exact hn) e1
      obtain ⟨c, ec, hc⟩ := alv_old hn l1
      obtain ⟨o, ho⟩ := (hw.cell n a c er ec).some hc
      have := g.new m a (by rw [z.len]; exact hm) e2 (alv_new hm l2)
      rw [z.H, ho] at this
      cases this
    by_cases hn : n < w.S.length
    · by_cases hm : m < w.S.length
      · exact hw.inj n m a (pre_back pre (by rw [hw.len]; exact hn) e1) (pre_back pre (by rw [hw.len]; exact hm) e2) (alv_old hn l1) (alv_old hm l2)
      · exact (key e1 e2 l1 l2 hn (Nat.le_of_not_lt hm)).elim
    · by_cases hm : m < w.S.length
      · exact (key e2 e1 l2 l1 hm (Nat.le_of_not_lt hn)).elim
      · exact g.wd.inj n m a e1 e2 (alv_new (Nat.le_of_not_lt hn) l1) (alv_new (Nat.le_of_not_lt hm) l2)
  · have := g.new n a (by rw [z.len]; exact hn) e (alv_new hn q)
    rwa [z.H] at this
  · refine g.fr a o (by rw [z.H]; exact e) fun n hn hl => ?_
    rw [z.r] at hn
    have hn2 : n < w.S.length := by rw [← hw.len]; exact (List.getElem?_eq_some_iff.mp hn).1
    exact q n hn (z.go.live n hn2 hl)
  · have := g.trk a e
    rwa [z.H] at this
  · refine offF_none (g.fnew a (by rw [z.H]; exact e) (z.go.fnew a e f q) fun n hn hl => ?_)
    rw [z.r] at hn
    have hn2 : n < w.S.length := by rw [← hw.len]; exact (List.getElem?_eq_some_iff.mp hn).1
    exact q n hn (z.go.live n hn2 hl)
theorem bor_sp {mg : Str → Option Value} {f : List D → M D} (vs : List V) (H : Hp) (Q : VK) (E : XK) (h : spD ⟨K, mg⟩ (bor f) vs H Q E) : spD ⟨K, mg⟩ f vs H Q E := by
  obtain ⟨w, ds, eH, hw, hr, hs⟩ := h
  unfold bor at hs
  cases o : mapS (dfz 60) ds w.S with
  | bad => simp only [o] at hs; exact hs.elim
  | exc x S => simp only [o] at hs; exact hs.elim
  | ok ds1 S1 =>
    simp only [o] at hs
    obtain ⟨w1, z, e1, r1⟩ := mapS_sat (fun hw hr h => dfz_sat 60 hw hr h) hw hr o
    subst e1
    refine ⟨w1, ds1, z.H.trans eH, z.go.wd, r1, ?_⟩
    cases o2 : f ds1 w1.S with
    | bad => simp only [o2] at hs; exact hs.elim
    | ok d S2 =>
      simp only [o2] at hs
      intro w2 v g e r
      subst e
      split at hs
      · rename_i c
        exact hs ⟨w2.r, offF w w1 w2.F, rst w.S w1.S w2.S, w2.H⟩ v (z.back hw g c.2) rfl (Rp.off z hw g d v c.1 r)
      · exact hs.elim
    | exc x S2 =>
      simp only [o2] at hs
      intro w2 cls dd g e q
      subst e
      split at hs
      · rename_i c
        refine hs ⟨w2.r, offF w w1 w2.F, rst w.S w1.S w2.S, w2.H⟩ cls dd (z.back hw g c) rfl ?_
        obtain ⟨C, c1, c2, c3⟩ := q
        refine ⟨C, c1, c2, ?_⟩
        show FldOk (offF w w1 w2.F) dd x.val
        cases q : x.val with
        | none => rw [q] at c3; exact c3
        | some y =>
          rw [q] at c3
          obtain ⟨f, i⟩ := y
          obtain ⟨b, b1, b2⟩ := c3
          exact ⟨b, b1, z.keep hw g b2 fun vs e => by cases e⟩
      · exact hs.elim
end
/-! ### things frozen all the way down -/
def xDfz (f : Env → M D) : Env → M D := fun e S => (f e S).bind (dfz 60)
theorem pd_dfz {X : Cx} {W : WX} {e : Expr} {f : Env → M D} (h : PD X W e f) : PD X W e (xDfz f) := by
  refine weakE h fun σ H Q ⟨w, env, eH, hw, he, hs⟩ => ?_
  refine ⟨w, env, eH, hw, he, SatW.imp (SatW.bind hs) fun w1 d v g1 r1 s1 => ?_⟩
  cases o : dfz 60 d w1.S with
  | bad => simp only [o] at s1; exact s1.elim
  | exc x S => 
    exfalso
    have : ∀ (n : Nat) (d : D) (S : Store) (x : Exn) (S' : Store), dfz n d S ≠ .exc x S' := by
      intro n
      induction n with
      | zero => intro d S x S' h; unfold dfz at h; cases h
      | succ n ih =>
        have ml : ∀ (l : List D) (S : Store) (x : Exn) (S' : Store), mapS (dfz n) l S ≠ .exc x S' := by
          intro l
          induction l with
          | nil => intro S x S' h; unfold mapS at h; cases h
          | cons d l il =>
            intro S x S' h
            unfold mapS at h
            cases o : dfz n d S with
            | bad => rw [o] at h; cases h
            | exc y S2 => exact ih _ _ _ _ o
            | ok d' S2 =>
              rw [o, Res.bind_ok] at h
              cases o2 : mapS (dfz n) l S2 with
              | bad => rw [o2] at h; cases h
              | exc y S3 => exact il _ _ _ o2
              | ok l' S3 => rw [o2, Res.bind_ok] at h; cases h
        have fin : ∀ (l : List D) (S : Store) (k : List D → Store → Res D) (hk : ∀ l S, ∃ d, k l S = .ok d S) (x : Exn) (S' : Store), (mapS (dfz n) l S).bind k ≠ .exc x S' := fun l S k hk x S' h => by
          cases o : mapS (dfz n) l S with
          | bad => rw [o] at h; cases h
          | exc y S2 => exact ml _ _ _ _ o
          | ok l' S2 =>
            obtain ⟨d, e⟩ := hk l' S2
            rw [o, Res.bind_ok, e] at h
            cases h
        intro d S x S' h
        unfold dfz at h
        cases d with
        | cell k =>
          cases e : S[k]? with
          | none => simp only [e] at h; cases h
          | some c =>
            cases c with
            | dead => simp only [e] at h; cases h
            | dct _ => simp only [e] at h; cases h
            | lst l => simp only [e] at h; exact fin _ _ _ (fun l S => ⟨_, rfl⟩) _ _ h
        | lst l => exact fin _ _ _ (fun l S => ⟨_, rfl⟩) _ _ h
        | tup l => exact fin _ _ _ (fun l S => ⟨_, rfl⟩) _ _ h
        | _ => cases h
    exact this _ _ _ _ _ o
  | ok d' S' =>
    obtain ⟨w2, z, e2, r2⟩ := dfz_sat 60 g1.wd r1 o
    simp only [o] at s1
    have := s1 w2 v z.go e2 r2
    show Q v w1.H
    rw [← z.H]
    exact this
/-! ### reckoning -/
section
variable {oo : Option D} {ll : Env} {S : Store} {f : Env → M D}
@[simp] theorem xDfz_app : xDfz f (oo :: ll) S = (f (oo :: ll) S).bind (dfz 60) := rfl
@[simp] theorem mapS_nil {g : D → Store → Res D} : mapS g [] S = .ok [] S := rfl
@[simp] theorem mapS_cons {g : D → Store → Res D} {d : D} {l : List D} : mapS g (d :: l) S = (g d S).bind fun d' S1 => (mapS g l S1).bind fun l' S2 => .ok (d' :: l') S2 := rfl
/-- things without cells stay as they are -/
def D.clr : Nat → D → Bool
  | 0, _ => false
  | n + 1, d => match d with
    | .cell _ => false
    | .lst l => l.all (D.clr n)
    | .tup l => l.all (D.clr n)
    | _ => true
theorem mapS_id {g : D → Store → Res D} : ∀ {l : List D}, (∀ d ∈ l, g d S = .ok d S) → mapS g l S = .ok l S
  | [], _ => rfl
  | d :: l, h => by
    rw [mapS_cons, h d (by simp), Res.bind_ok, mapS_id fun x hx => h x (by simp [hx])]
    rfl
theorem dfz_clr : ∀ (n : Nat) (d : D) (S : Store), D.clr n d = true → dfz n d S = .ok d S
  | 0, _, _, h => by simp [D.clr] at h
  | n + 1, d, S, h => by
    cases d with
    | cell k => simp [D.clr] at h
    | lst l =>
      have h' : l.all (D.clr n) = true := h
      show (mapS (dfz n) l S).bind _ = _
      rw [mapS_id fun x hx => dfz_clr n x S (List.all_eq_true.mp h' x hx)]
      rfl
    | tup l =>
      have h' : l.all (D.clr n) = true := h
      show (mapS (dfz n) l S).bind _ = _
      rw [mapS_id fun x hx => dfz_clr n x S (List.all_eq_true.mp h' x hx)]
      rfl
    | _ => rfl
theorem clr_ints (n : Nat) (l : List Int) : D.clr (n + 2) (.lst (l.map D.int)) = true := by
  show (l.map D.int).all (D.clr (n + 1)) = true
  rw [List.all_eq_true]
  intro x hx
  obtain ⟨i, _, rfl⟩ := List.mem_map.mp hx
  rfl
theorem bor_ok {g : List D → M D} {ds ds1 : List D} {S1 S2 : Store} {d : D} (h1 : mapS (dfz 60) ds S = .ok ds1 S1) (h2 : g ds1 S1 = .ok d S2) (h3 : D.sol d = true) (h4 : S2.all Cn.sol = true) : bor g ds S = .ok d (rst S S1 S2) := by
  unfold bor
  simp only [h1, h2, if_pos (⟨h3, h4⟩ : D.sol d = true ∧ S2.all Cn.sol = true)]
end
end Dv
/-! # Dv24: != of two empty dicts -/
namespace Dv
open PySem PySem.Spec PyProof.Rows L2
theorem op_ne0 {X : Cx} (hu : X.A.units + 64 < cLine) : OpR X (compareOp .NotEq) (fun x y H Q => ∃ a b, x = .ref a ∧ y = .ref b ∧ H a = some (.dK []) ∧ H b = some (.dK []) ∧ Q (.bl false) H) := by
  intro pins s σ H x y v u Q I rx ry h
  obtain ⟨a, b, rfl, rfl, ha, hb, q⟩ := h
  cases (show v = Value.ref a from rx)
  cases (show u = Value.ref b from ry)
  obtain ⟨_, ya, va, ra, da⟩ := (show ObjOk X.prog X.w H s.heap a (.dK []) from I.hok a _ ha)
  obtain ⟨_, yb, vb, rb, db⟩ := (show ObjOk X.prog X.w H s.heap b (.dK []) from I.hok b _ hb)
  cases ra
  cases rb
  refine PySem.W.keq_ne (knd := mixKind X.prog X.w) (r := true) ya yb da db (by omega) (fun _ => .nil) ⟨.bl false, H, I, rfl, q⟩
def dNeX (a b : D) (S : Store) : Res D := match cellK a S, cellK b S with
  | some (_, []), some (_, []) => .ok (.bl false) S
  | _, _ => dNe a b S
theorem od_neX {X : Cx} (hu : X.A.units + 64 < cLine) : OpD X (compareOp .NotEq) dNeX := by
  refine ⟨fun x y H Q => rNeD X.K x y H Q ∨ ∃ a b, x = .ref a ∧ y = .ref b ∧ H a = some (.dK []) ∧ H b = some (.dK []) ∧ Q (.bl false) H, ?_, ?_⟩
  · intro pins s σ H x y v u Q I rx ry h
    rcases h with h | h
    · exact op_neD hu pins s σ H x y v u Q I rx ry h
    · exact op_ne0 hu pins s σ H x y v u Q I rx ry h
  · intro w x y d e W σ Q hw r1 r2 hs
    have other : SatW (kt X) W σ (RD X.K) w (dNe d e w.S) (fun w' _ v => Q v w'.H) → rNeD X.K x y w.H Q := fun hs => by
      unfold dNe at hs
      split at hs
      · rename_i p q h1 h2
        exact ⟨p, q, toP_dp hw 60 d x p h1 r1, toP_dp hw 60 e y q h2 r2, shaped_of h1, shaped_of h2, SatW.here hs hw rpb⟩
      · exact hs.elim
    unfold dNeX at hs
    split at hs
    · rename_i n m e1 e2
      obtain ⟨rfl, f1⟩ := cellK_eq e1
      obtain ⟨rfl, f2⟩ := cellK_eq e2
      obtain ⟨a, wa, ea, ha, pa⟩ := cellK_read (T := kt X) hw r1 f1
      obtain ⟨b, wb, eb, hb, pb⟩ := cellK_read (T := kt X) hw r2 f2
      cases pa
      cases pb
      exact .inr ⟨a, b, ea, eb, ha, hb, SatW.here hs hw rpb⟩
    · exact .inl (other hs)
theorem dNeX_p {a b : D} {S : Store} (h : cellK a S = none) : dNeX a b S = dNe a b S := by unfold dNeX; simp only [h]
end Dv
/-! # Dv29: sorted of data, sorted(set(..)), sorted(d.items()) -/
namespace PySem.W
open PySem PySem.Calls PyProof.Rows
section
variable {prog : Program} {w : World} {A : Around} {E : Value → Shared → Prop} {s : Shared} {κ : PyProof.Rows.KeyKind}
theorem dv_collect_tuple {l : Addr} {vs : List Value} {Q : List Value → Shared → Prop} (hl : s.heap.IsTuple l vs.toArray)
    (h : Q vs { s with heap := (s.heap.push (seqObj "list" #[] 0)).update s.heap.objs.size (Obj.mapSeq (· ++ vs.toArray)) }) (hsz : vs.length ≤ sizeLine) :
    wpAny (model prog w) A (collect (.ref l)) Q E s := by
  obtain ⟨o, ho, hc, n, hd⟩ := id hl
  unfold collect
  refine wpAny_bind (wpAny_runValue (codeAny_builtin entry_proto_collect' ?_))
  show wpAny _ _ (do again (.builtin "list.__iadd__" ⟨[← newList [], .ref l], []⟩)) _ _ s
  refine wpAny_bind (wpAny_newList (wpAny_pure ⟨Code.quiet_builtin _ (by decide +kernel), codeAny_builtin entry_list_iadd' ?_⟩))
  show wpAny _ _ (Builtin.List.listExtendWith (.ref s.heap.objs.size) (.ref l) (.ref s.heap.objs.size)) _ _ { s with heap := s.heap.push (seqObj "list" #[] 0) }
  unfold Builtin.List.listExtendWith
  have ho' : (s.heap.push (seqObj "list" #[] 0)).get? l = some o := Heap.get?_push_of_some _ ho
  refine wpAny_bind (wpAny_typeOf (T := "tuple") ⟨o, ho', hc⟩ ?_)
  have ht : (Value.type "tuple" == Value.type "tuple") = true := by rfl
  rw [if_pos (by rw [ht]; simp)]
  refine wpAny_bind (listItems_at ho' hd ?_)
  refine wpAny_bind (listItems_at (xs := #[]) (n := 0) (Heap.get?_push_size _ rfl) rfl ?_)
  rw [if_neg (by simp)]
  refine wpAny_bind (listUpdate_at (xs := #[]) (n := 0) (Heap.get?_push_size _ rfl) rfl ?_ (Nat.zero_le _) (by show (#[] ++ vs.toArray).size ≤ sizeLine + 1; simp only [Array.size_append, List.size_toArray, List.length_nil]; omega))
  refine wpAny_pure ?_
  show wpAny (model prog w) A (do
      let o ← load s.heap.objs.size
      match o.data with
      | .seq xs _ => pure xs.toList
      | _ => unsupported "internal:collect") Q E { s with heap := (s.heap.push (seqObj "list" #[] 0)).update s.heap.objs.size (Obj.mapSeq (· ++ vs.toArray)) }
  refine wpAny_bind (wpAny_load (get?_update_seq (Heap.get?_push_size _ rfl) _) ?_)
  show wpAny _ _ (pure ((#[] : Array Value) ++ vs.toArray).toList) Q E _
  rw [show ((#[] : Array Value) ++ vs.toArray).toList = vs by simp]
  exact wpAny_pure h
theorem dv_sorted_tup {l : Addr} {vs : List Value} {Q : Value → Shared → Prop} (hl : s.heap.IsTuple l vs.toArray) (S : SortsAt prog w A.in1.in1 { s with heap := sortingHeap (copyHeap s.heap vs) (s.heap.objs.size + 1) vs } κ vs) (hL : vs.length ≤ sizeLine)
    (h : Q (.ref (s.heap.objs.size + 1)) { s with heap := sortedAll s.heap vs (sortVals κ false vs vs).toArray }) : wpAny (model prog w) A (call (.builtin "sorted") [.ref l]) Q E s := by
  have body : ∀ E' : Value → Shared → Prop, wpAny (model prog w) A.in1.in1 (Builtin.«list.sort» ⟨[.ref (s.heap.objs.size + 1)], []⟩) (fun f s' => f = .done (.ret .none) ∧ Q (.ref (s.heap.objs.size + 1)) s') E' { s with heap := copyHeap s.heap vs } :=
    fun _ => list_sort_vals (s := { s with heap := copyHeap s.heap vs }) (copyHeap_at s.heap vs) S hL ⟨rfl, h⟩
  refine call_function_entry_kw kind_sorted plain_sorted entry_sorted (args_sorted1 _) ?_
  unfold Builtin.«sorted»
  refine wpAny_bind (m := checkCount "sorted" 1 1 _) (wpAny_pure ?_)
  refine wpAny_bind (dv_collect_tuple hl ?_ hL)
  refine wpAny_bind (wpAny_newList ?_ hL)
  have hsz : ((s.heap.push (seqObj "list" #[] 0)).update s.heap.objs.size (Obj.mapSeq (· ++ vs.toArray))).objs.size = s.heap.objs.size + 1 := by
    rw [Heap.size_update, size_push']
  show wpAny _ _ _ _ _ { s with heap := copyHeap s.heap vs }
  rw [hsz]
  refine wpAny_bind (wpAny_holding (wpAny_call_entry_kw slot_list_sort ⟨_, copyHeap_at s.heap vs, rfl⟩ entry_list_sort ?body (args_list_sort _)))
  case body =>
    show wpAny (model prog w) A.in1.in1 (Builtin.«list.sort» ⟨[.ref (s.heap.objs.size + 1)], []⟩) _ _ _
    refine wpAny_mono (body _) (fun f s' hf => ?_) fun _ _ e => e
    obtain ⟨rfl, hq⟩ := hf
    exact ⟨_, rfl, wpAny_pure ⟨_, rfl, hq⟩⟩
end
end PySem.W
namespace Dv
open PySem PySem.Spec PyProof.Rows L2
/-! ### sorted(xs), data that are alike -/
noncomputable def srtV (ys : List V) (ds : List PyData) : List V := ((ys.zip ds).mergeSort (PySem.W.dataLe false (·.2))).map (·.1)
def rSortedD (K : PySem.W.Frag) : List V → Hp → VK → Prop := fun vs H Q => ∃ (a : Addr) (ys : List V) (ds : List PyData), vs = [V.ref a] ∧ (SqL K H a ys ∨ Rd H a (.tup ys)) ∧ Paired (Dp K H) ys ds ∧ PySem.W.AllAlike ds ∧ PySem.W.Sortable ds ∧ (∀ d ∈ ds, d.depth ≤ 60) ∧
  ∀ p, H p = none → Q (.ref p) (upd H p (.lst (srtV ys ds)))
theorem paired_each {α β γ : Type} {R : α → β → Prop} {R2 : γ → β → Prop} {R3 : α → γ → Prop} (h : ∀ a b c, R a b → R3 a c → R2 c b) : ∀ {as : List α} {bs : List β} {cs : List γ}, Paired R as bs → Paired R3 as cs → PySem.W.EachIs R2 cs bs
  | _, _, _, .nil, .nil => .nil
  | _, _, _, .cons p t, .cons q u => .cons (h _ _ _ p q) (paired_each h t u)
theorem each_zip {α β γ : Type} {R : α → β → Prop} {R3 : α → γ → Prop} : ∀ {as : List α} {bs : List β} {cs : List γ}, Paired R as bs → Paired R3 as cs → PySem.W.EachIs (fun (c : γ) (z : α × β) => R3 z.1 c) cs (as.zip bs)
  | _, _, _, .nil, .nil => .nil
  | _, _, _, .cons p t, .cons q u => .cons q (each_zip t u)
theorem each_vals : ∀ {zs : List (V × PyData)} {us : List Value}, PySem.W.EachIs (fun (c : Value) (z : V × PyData) => RelV z.1 c) us zs → Vals (zs.map (·.1)) us
  | [], _, .nil => .nil
  | _ :: _, _, .cons q u => .cons q (each_vals u)
theorem paired_len {α β : Type} {R : α → β → Prop} : ∀ {as : List α} {bs : List β}, Paired R as bs → as.length = bs.length
  | _, _, .nil => rfl
  | _, _, .cons _ t => by simp [paired_len t]
theorem zip_snd {α β : Type} : ∀ {as : List α} {bs : List β}, as.length = bs.length → (as.zip bs).map (·.2) = bs
  | [], [], _ => rfl
  | _ :: _, _ :: _, h => by simp at h; simp [zip_snd h]
theorem srtV_length {ys : List V} {ds : List PyData} (h : ys.length = ds.length) : (srtV ys ds).length = ys.length := by
  unfold srtV
  rw [List.length_map, List.length_mergeSort, List.length_zip]
  omega
section
variable {X : Cx}
theorem cr_sortedD (hu : X.A.units + 65 < cLine) : CallR X (.builtin "sorted") (rSortedD X.K) := by
  intro pins s σ H vs us Q I r h
  obtain ⟨a, ys, ds, rfl, hs, hd, hal, hsk, hdep, q⟩ := h
  have lyd := paired_len hd
  have go : ∀ its : List Value, Vals ys its → ys.length ≤ sizeLine → ((∀ (Q' : Value → Shared → Prop) (E' : Value → Shared → Prop) (κ : PyProof.Rows.KeyKind), PySem.W.SortsAt X.prog X.w X.A.in1.in1 { s with heap := PySem.W.sortingHeap (PySem.W.copyHeap s.heap its) (s.heap.objs.size + 1) its } κ its → its.length ≤ sizeLine →
      Q' (.ref (s.heap.objs.size + 1)) { s with heap := sortedAll s.heap its (PySem.W.sortVals κ false its its).toArray } → wpAny (model X.prog X.w) X.A (call (.builtin "sorted") [.ref a]) Q' E' s)) → wpAny (model X.prog X.w) X.A (call (.builtin "sorted") [.ref a]) (EP X pins σ Q) X.xe s := by
    intro its rv hz rule
    have e0 : PySem.W.EachIs (fun v d => ∃ as, Reads s.heap v d as) its ds := paired_each (R := Dp X.K H) (fun x d u hx hr => Dp.reads I d x u hx hr) hd rv
    have kp : ∀ b o, s.heap.get? b = some o → (PySem.W.sortingHeap (PySem.W.copyHeap s.heap its) (s.heap.objs.size + 1) its).get? b = some o := fun b o e => PySem.W.sorting_copy_old e
    have e1 : PySem.W.EachIs (fun v d => ∃ as, Reads (PySem.W.sortingHeap (PySem.W.copyHeap s.heap its) (s.heap.objs.size + 1) its) v d as) its ds := e0.mono fun _ _ ⟨as, rd⟩ => ⟨as, Reads.keeps kp rd⟩
    have li : its.length = ys.length := (paired_len rv).symm
    refine rule _ _ _ (PySem.W.SortsAt.data (s := { s with heap := PySem.W.sortingHeap (PySem.W.copyHeap s.heap its) (s.heap.objs.size + 1) its }) e1 hal hsk (fun d hm => by
      have := hdep d hm
      simp only [Around.in1_units]
      omega)) (by omega) ?_
    have hR : PySem.W.EachIs (fun (c : Value) (z : V × PyData) => RelV z.1 c) its (ys.zip ds) := each_zip hd rv
    have out := PySem.W.keyedOut_each (rev := false) (bs := ys.zip ds) (vs := its) (out := PySem.W.sortVals (PySem.W.dataKind (PySem.W.sortingHeap (PySem.W.copyHeap s.heap its) (s.heap.objs.size + 1) its) ds) false its its) (fun z : V × PyData => z.2)
      (by rw [zip_snd lyd]; exact ⟨_, _, hal, rfl, e1⟩) hR
    have ov := each_vals out
    obtain ⟨ep, he'⟩ := PyProof.Rows.sortedAll_at s.heap its (PySem.W.sortVals (PySem.W.dataKind (PySem.W.sortingHeap (PySem.W.copyHeap s.heap its) (s.heap.objs.size + 1) its) ds) false its its).toArray
    have hlen : (srtV ys ds).length ≤ sizeLine := by rw [srtV_length lyd]; exact hz
    exact ⟨.ref _, upd H (s.heap.objs.size + 1) (.lst (srtV ys ds)), I.laid (t' := s.toks) (fun _ _ => PyProof.Rows.sortedAll_old) (Nat.le_succ _) ⟨hlen, _, ep, ov, he'⟩, rfl, q _ (I.hok.fresh (Nat.le_succ _))⟩
  rw [Vals.ref1 r]
  rcases hs with hs | hs
  · obtain ⟨its, rv, hl, hz⟩ := I.list hs
    exact go its rv hz fun Q' E' κ S hL h => PySem.W.sorted_vals hl.isList S hL h
  · obtain ⟨hz, its, rv, hob⟩ := hs.ok I.hok
    exact go its rv hz fun Q' E' κ S hL h => PySem.W.dv_sorted_tup (by obtain ⟨o, ho, hc, n, hd⟩ := hob; exact ⟨o, ho, hc, n, hd⟩) S hL h
end
/-! ### the mirror -/
def getQT (d : D) (S : Store) : Option (List D) := match d with
  | .tup l => some l
  | d => getQ d S
noncomputable def srtD (l : List D) (ds : List PyData) : List D := ((l.zip ds).mergeSort (PySem.W.dataLe false (·.2))).map (·.1)
open Classical in
noncomputable def bSortD (mk : List D → M D) (l : List D) (S : Store) : Res D := match l with
  | [x] => match getQT x S with
    | some l => match toPs S 59 l with
      | some ds => if PySem.W.AllAlike ds ∧ PySem.W.Sortable ds ∧ l.length ≤ 16000000 then mk (srtD l ds) S else .bad
      | none => .bad
    | none => .bad
  | _ => .bad
theorem zip3_fst {α β γ : Type} : ∀ {a : List α} {b : List β} {c : List γ}, a.length = b.length → b.length = c.length → (a.zip (b.zip c)).map (fun z => (z.1, z.2.2)) = a.zip c
  | [], [], [], _, _ => rfl
  | _ :: a, _ :: b, _ :: c, h1, h2 => by
    simp at h1 h2
    simp [zip3_fst (a := a) (b := b) (c := c) (by omega) (by omega)]
theorem zip3_snd {α β γ : Type} : ∀ {a : List α} {b : List β} {c : List γ}, a.length = b.length → b.length = c.length → (a.zip (b.zip c)).map (·.2) = b.zip c
  | [], [], [], _, _ => rfl
  | _ :: a, _ :: b, _ :: c, h1, h2 => by
    simp at h1 h2
    simp [zip3_snd (a := a) (b := b) (c := c) (by omega) (by omega)]
theorem rps_zip {K : PySem.W.Frag} {r : List Addr} {F : Hp} {γ : Type} : ∀ {l : List D} {vs : List V} {ds : List γ}, Rps K r F l vs → ∀ z ∈ l.zip (vs.zip ds), Rp K r F z.1 z.2.1
  | [], _, _, _ => fun z hz => by simp at hz
  | d :: l, vs, [], h => fun z hz => by
    obtain ⟨v, t, rfl, _, _⟩ := h.cons_inv
    simp at hz
  | d :: l, vs, x :: ds, h => fun z hz => by
    obtain ⟨v, t, rfl, h1, h2⟩ := h.cons_inv
    rw [List.zip_cons_cons, List.zip_cons_cons] at hz
    rcases List.mem_cons.mp hz with rfl | q
    · exact h1
    · exact rps_zip h2 z q
theorem rps_of {K : PySem.W.Frag} {r : List Addr} {F : Hp} {γ : Type} {f : γ → D} {g : γ → V} : ∀ {T : List γ}, (∀ z ∈ T, Rp K r F (f z) (g z)) → Rps K r F (T.map f) (T.map g)
  | [], _ => rps_nil
  | z :: T, h => rps_cons (h z (by simp)) (rps_of fun x hx => h x (by simp [hx]))
theorem rps_srt {K : PySem.W.Frag} {r : List Addr} {F : Hp} {l : List D} {vs : List V} {ds : List PyData} (h : Rps K r F l vs) (hl : vs.length = ds.length) : Rps K r F (srtD l ds) (srtV vs ds) := by
  have ll := h.length
  have e1 : srtD l ds = ((l.zip (vs.zip ds)).mergeSort (PySem.W.dataLe false (·.2.2))).map (·.1) := by
    unfold srtD
    have q := List.map_mergeSort (r := PySem.W.dataLe false fun z : D × V × PyData => z.2.2) (s := PySem.W.dataLe false fun z : D × PyData => z.2) (f := fun z : D × V × PyData => (z.1, z.2.2)) (l := l.zip (vs.zip ds)) (fun a _ b _ => rfl)
    rw [zip3_fst (by omega) hl] at q
    rw [← q, List.map_map]
    rfl
  have e2 : srtV vs ds = ((l.zip (vs.zip ds)).mergeSort (PySem.W.dataLe false (·.2.2))).map (·.2.1) := by
    unfold srtV
    have q := List.map_mergeSort (r := PySem.W.dataLe false fun z : D × V × PyData => z.2.2) (s := PySem.W.dataLe false fun z : V × PyData => z.2) (f := fun z : D × V × PyData => z.2) (l := l.zip (vs.zip ds)) (fun a _ b _ => rfl)
    rw [zip3_snd (by omega) hl] at q
    rw [← q, List.map_map]
    rfl
  rw [e1, e2]
  exact rps_of fun z hz => rps_zip h z ((List.mergeSort_perm _ _).mem_iff.mp hz)
theorem toPs_paired {K : PySem.W.Frag} {w : Wl} (hw : Wd K w) : ∀ (l : List D) (vs : List V) (ds : List PyData), toPs w.S 59 l = some ds → Rps K w.r w.F l vs → Paired (Dp K w.H) vs ds ∧ ∀ d ∈ ds, d.depth ≤ 60
  | [], vs, ds, h, hr => by
    rw [toPs] at h
    cases h
    rw [hr.nil_inv]
    exact ⟨.nil, by simp⟩
  | d :: l, vs, ds, h, hr => by
    obtain ⟨v, t, rfl, h1, h2⟩ := hr.cons_inv
    rw [toPs] at h
    split at h
    · rename_i x y ex ey
      cases h
      obtain ⟨q1, q2⟩ := toPs_paired hw l t y ey h2
      refine ⟨.cons (toP_dp hw 59 d v x ex h1) q1, fun z hz => ?_⟩
      rcases List.mem_cons.mp hz with rfl | hz
      · have := (toP_ok 59 d z ex).2
        omega
      · exact q2 z hz
    · cases h
theorem getQT_ok {K : PySem.W.Frag} {w : Wl} {d : D} {v : V} {l : List D} (hw : Wd K w) (hr : Rp K w.r w.F d v) (h : getQT d w.S = some l) : ∃ a vs, v = .ref a ∧ (SqL K w.H a vs ∨ Rd w.H a (.tup vs)) ∧ Rps K w.r w.F l vs := by
  have gen : getQ d w.S = some l → ∃ a vs, v = .ref a ∧ (SqL K w.H a vs ∨ Rd w.H a (.tup vs)) ∧ Rps K w.r w.F l vs := fun h => by
    obtain ⟨a, vs, e, q, p⟩ := getQ_ok hw hr h
    exact ⟨a, vs, e, .inl q, p⟩
  cases d with
  | tup l' =>
    have e : l' = l := Option.some.inj h
    subst e
    obtain ⟨a, vs, e, q, p⟩ := getT_ok hw hr rfl
    exact ⟨a, vs, e, .inr q, p⟩
  | _ => exact gen h
open Classical in
theorem cd_sortD {X : Cx} {mk : List D → M D} (m : Mk mk) (hu : X.A.units + 65 < cLine) : CallD X (.builtin "sorted") (bSortD mk) := ⟨_, cr_sortedD hu, fun w xs ds W σ Q hw r hs => by
  unfold bSortD at hs
  split at hs
  · rename_i x
    obtain ⟨v, rfl, rv⟩ := one_inv r
    split at hs
    · rename_i l hl
      split at hs
      · rename_i ps hp
        obtain ⟨⟨h1, h2, h3⟩, hs⟩ := satIf hs
        obtain ⟨a, vs, rfl, q, p⟩ := getQT_ok hw rv hl
        obtain ⟨pd, dep⟩ := toPs_paired hw l vs ps hp p
        exact ⟨a, vs, ps, rfl, q, pd, h1, h2, dep, m.go hw (rps_srt p (paired_len pd)) hs⟩
      · exact hs.elim
    · exact hs.elim
  · exact hs.elim⟩
/-! ### sorted(set(xs)), a tuple of ints -/
def srtSet (ns : List Int) : List Int := isrt (dedup ns)
theorem srtSet_uniq {ns ms : List Int} (h1 : ms.Pairwise (· < ·)) (h2 : ∀ k, k ∈ ms ↔ k ∈ ns) : ms = srtSet ns := by
  refine isrt_uniq ?_ (h1.imp fun h => Int.le_of_lt h)
  refine (List.perm_ext_iff_of_nodup (h1.imp fun h => by omega) (dedup_nodup ns)).mpr fun k => ?_
  rw [h2, dedup_mem]
def tSortSetX (K : PySem.W.Frag) (ta : TE) : TE := fun σ H Q => ta σ H fun x H1 => ∃ (l : Addr) (ns : List Int), x = V.ref l ∧ Rd H1 l (.tup (ns.map V.int)) ∧ ns.length ≤ 60 ∧ ∀ p, H1 p = none → Q (.ref p) (upd H1 p (.lst ((srtSet ns).map V.int)))
section
variable {X : Cx} {W : WX}
theorem pe_sortSet {a : Expr} {ta : TE} {p p2 q pos : Pos} (hc : X.calm = true) (hg : Gl X "sorted") (hm : X.mg "sorted" = none) (hg2 : Gl X "set") (hm2 : X.mg "set" = none) (ha : PE X a ta)
    (na : starEach [a] X.env = (false, eval a X.env) :: starEach [] X.env := by rfl) : PE X (.Call (.Name "sorted" p) [.Call (.Name "set" p2) [a] [] q] [] pos) (tSortSetX X.K ta) := by
  refine ⟨fun pins s σ H Q I h => ?_⟩
  refine Call_ (ld_blt I hg hm PyProof.Rows.boot_sorted ?_)
  refine PyProof.Rows.callWith_builtin1 (PyProof.Rows.args_cons ?_ rfl) rfl rfl
  refine Call_ (ld_blt I hg2 hm2 PyProof.Rows.boot_set ?_)
  refine PyProof.Rows.callWith_type1 (PyProof.Rows.args_cons (thn (ha.run pins s σ H _ I h) fun v s1 ⟨x, H1, I1, r1, q1⟩ => PyProof.Rows.args_nil ?_) na) na rfl
  obtain ⟨l, ns, rfl, hq, h1, q1⟩ := q1
  cases r1
  obtain ⟨hz, its, r, hob⟩ := hq.ok I1.hok
  have hit : IntsAre its ns := r.ints
  refine call_set_tupI (items := its.toArray) ns (I1.ok.hd hc) (by obtain ⟨o, ho, hc, n, hd⟩ := hob; exact ⟨o, ho, hc, n, hd⟩) (by simpa using hit) (by unfold scanBound; omega) fun h' tk c hS hcl hk => ?_
  refine PyProof.Rows.args_nil ?_
  have I2 : Inv X pins σ H1 { s1 with heap := h', toks := tk } := I1.kept fun b o e => hk b o e
  refine sorted_set hS (I2.ok.hd hc) (by omega) fun s' p out c2 ms k g o hp hg' hi hs hm hl => ?_
  have em : ms = srtSet ns := srtSet_uniq hs fun j => by rw [hm j]; simp
  subst em
  have hlen : ((srtSet ns).map V.int).length ≤ sizeLine := by rw [List.length_map, hl, sizeLine_eq]; omega
  have hn : H1 p = none := I2.hok.fresh hp
  have J : Inv X pins σ (upd H1 p (.lst ((srtSet ns).map V.int))) { ({ s1 with heap := h', toks := tk } : Shared) with heap := s'.heap, gens := s'.gens, drawn := s'.drawn, toks := s'.toks } :=
    I2.call (ch := []) (Un.laid k hp hn) (I2.hok.laid k hp ⟨hlen, out.toList, c2, vals_of_ints hi, hg'⟩) (by rw [g]; exact I2.bare) (fun _ z => nomatch z)
  have e : s' = { ({ s1 with heap := h', toks := tk } : Shared) with heap := s'.heap, gens := s'.gens, drawn := s'.drawn, toks := s'.toks } := by
    cases s'
    cases s1
    cases o
    rfl
  rw [e]
  exact ⟨.ref p, _, J, rfl, q1 p hn⟩
def dSortSet (mk : List D → M D) (d : D) (S : Store) : Res D := match d with
  | .tup l => match intsOf l with
    | some ns => if ns.length ≤ 60 then mk ((srtSet ns).map D.int) S else .bad
    | none => .bad
  | _ => .bad
def xSortSet (mk : List D → M D) (f : Env → M D) : Env → M D := fun e S => (f e S).bind (dSortSet mk)
theorem pd_sortSet {a : Expr} {f : Env → M D} {mk : List D → M D} {p p2 q pos : Pos} (m : Mk mk) (hc : X.calm = true) (hm : X.mg "sorted" = none) (hm2 : X.mg "set" = none) (ha : PD X W a f) (hg : Gl X "sorted" := by rfl) (hg2 : Gl X "set" := by rfl)
    (na : starEach [a] X.env = (false, eval a X.env) :: starEach [] X.env := by rfl) : PD X W (.Call (.Name "sorted" p) [.Call (.Name "set" p2) [a] [] q] [] pos) (xSortSet mk f) := by
  refine weakE (pe_sortSet hc hg hm hg2 hm2 ha na) fun σ H Q ⟨w, env, eH, hw, he, hs⟩ => ?_
  subst eH
  refine ⟨w, env, rfl, hw, he, SatW.imp (SatW.bind hs) fun w1 d v g1 r1 s1 => ?_⟩
  unfold dSortSet at s1
  split at s1
  · rename_i l
    split at s1
    · rename_i ns hn
      obtain ⟨hl, s1⟩ := satIf s1
      obtain ⟨a, vs, rfl, hq, hp⟩ := getT_ok g1.wd r1 rfl
      have e : vs = ns.map V.int := by
        have : l = ns.map D.int := intsOf_eq hn
        rw [this] at hp
        exact hp.ints
      subst e
      exact ⟨a, ns, rfl, hq, hl, m.go g1.wd (rps_ints _) s1⟩
    · exact s1.elim
  · exact s1.elim
end
section
variable {oo : Option D} {ll : Env} {S : Store} {f : Env → M D} {mk : List D → M D}
@[simp] theorem xSortSet_app : xSortSet mk f (oo :: ll) S = (f (oo :: ll) S).bind (dSortSet mk) := rfl
end
theorem mem_srtSet {ns : List Int} {k : Int} : k ∈ srtSet ns ↔ k ∈ ns := by
  unfold srtSet
  rw [(isrt_perm _).mem_iff, dedup_mem]
theorem srtSet_sorted (ns : List Int) : (srtSet ns).Pairwise (· < ·) := by
  have h1 := isrt_sorted (dedup ns)
  have h2 : (isrt (dedup ns)).Nodup := (isrt_perm _).nodup_iff.mpr (dedup_nodup ns)
  unfold srtSet
  exact (List.pairwise_and_iff.mpr ⟨h1, h2⟩).imp fun ⟨a, b⟩ => by omega
end Dv
/-! # Dv30: sorted(d.items()) -/
namespace Dv
open PySem PySem.Spec PyProof.Rows L2
def pdP (e : Int × Int) : PyData := .tuple [.int e.1, .int e.2]
noncomputable def srtP (kvs : List (Int × Int)) : List (Int × Int) := kvs.mergeSort (PySem.W.dataLe false pdP)
def rItemsK : V → List V → Hp → VK → Prop := fun x xs H Q => ∃ (a : Addr) (kvs : List (L2.Key × V)), x = .ref a ∧ xs = [] ∧ H a = some (.dK kvs) ∧ ∀ p, H p = none → Q (.ref p) (upd H p (L2.DX.itemsO p a))
def entK (e : Int × Int) : L2.Key × V := (.inl e.1, .int e.2)
def rSortItK : List V → Hp → VK → Prop := fun vs H Q => ∃ (p a : Addr) (kvs : List (Int × Int)), vs = [.ref p] ∧ H p = some (L2.DX.itemsO p a) ∧ H a = some (.dK (kvs.map entK)) ∧
  ∀ (H' : Hp) (l : Addr) (bs : List Addr), (∀ b o, H b = some o → H' b = some o) → H l = none → H' l = some (.lst (bs.map V.ref)) → Paired (fun b e => H b = none ∧ H' b = some (.tup [.int e.1, .int e.2])) bs (srtP kvs) → Q (.ref l) H'
theorem pair_alike (kvs : List (Int × Int)) : PySem.W.AllAlike (kvs.map pdP) ∧ PySem.W.Sortable (kvs.map pdP) := by
  refine ⟨fun d hd d' hd' => ?_, .inl fun d hd => ?_⟩
  · obtain ⟨e, _, rfl⟩ := List.mem_map.mp hd
    obtain ⟨e', _, rfl⟩ := List.mem_map.mp hd'
    rfl
  · obtain ⟨e, _, rfl⟩ := List.mem_map.mp hd
    exact ⟨_, _, rfl⟩
theorem each_maps {α : Type} (f : α → Value) : ∀ l : List α, PySem.W.EachIs (fun (v : Value) (z : α) => v = f z) (l.map f) l
  | [] => .nil
  | z :: l => .cons rfl (each_maps f l)
theorem each_maps_inv {α : Type} (f : α → Value) : ∀ {vs : List Value} {l : List α}, PySem.W.EachIs (fun (v : Value) (z : α) => v = f z) vs l → vs = l.map f
  | _, _, .nil => rfl
  | _, _, .cons h t => by rw [h, each_maps_inv f t]; rfl
theorem each_build {α : Type} {R : Value → PyData → Prop} (f : α → Value) (g : α → PyData) : ∀ {l : List α}, (∀ z ∈ l, R (f z) (g z)) → PySem.W.EachIs R (l.map f) (l.map g)
  | [], _ => .nil
  | z :: l, h => .cons (h z (by simp)) (each_build f g fun x hx => h x (by simp [hx]))
theorem paired_build {α β γ : Type} {R : β → γ → Prop} (f : α → β) (g : α → γ) : ∀ {l : List α}, (∀ z ∈ l, R (f z) (g z)) → Paired R (l.map f) (l.map g)
  | [], _ => .nil
  | z :: l, h => .cons (h z (by simp)) (paired_build f g fun x hx => h x (by simp [hx]))
section
variable {X : Cx}
theorem mt_itemsK : MtR X "dict.items" rItemsK := by
  intro pins s σ H x xs v us Q I rx rxs h
  obtain ⟨a, kvs, rfl, rfl, ha, q⟩ := h
  cases rx
  cases rxs
  obtain ⟨z, hd, vs, kv, o, es, ep, ho, hx, hdat, _⟩ := I.hok a _ ha
  refine DT.callItems (es := es) (ep := ep) hd ⟨o, ho, hx, hdat⟩ ?_
  have hf : H s.heap.objs.size = none := I.hok.fresh (Nat.le_refl _)
  exact ⟨.ref s.heap.objs.size, upd H s.heap.objs.size (L2.DX.itemsO s.heap.objs.size a), I.laid (t' := s.toks) (fun b u e => Heap.get?_push_of_some _ e) (Nat.le_refl _) (L2.DX.itemsO_ok (Heap.get?_push_size _ rfl)), rfl, q _ hf⟩
theorem cr_sortedItemsK (hc : X.calm = true) (hu : X.A.units + 65 < cLine) : CallR X (.builtin "sorted") rSortItK := by
  intro pins s σ H xs us Q I r h
  obtain ⟨p, a, kvs, rfl, hp, ha, q⟩ := h
  obtain rfl := Vals.ref1 r
  have view : s.heap.IsItemsView p a := (show ObjOk X.prog X.w H s.heap p (L2.DX.itemsO p a) from I.hok p _ hp).1
  obtain ⟨z, hd, vs, kv, dof⟩ := I.hok a _ ha
  obtain ⟨es, ep, hraw, hsz, hent⟩ := Heap.DictOf.raw dof
  have l1 : kvs.length = vs.length := by
    have := Paired.length kv
    rwa [List.length_map] at this
  rw [List.length_map] at z
  have hh : X.A.handled = none := I.ok.hd hc
  refine DT.sortedI (es := es) (ep := ep) hh view hraw (by omega) fun h' tk as hk hlt hl hG => ?_
  have lak : as.length = kvs.length := by omega
  have nd : as.Nodup := List.Pairwise.imp (fun h => Nat.ne_of_lt h) hG.rise
  have pr : ∀ (j : Nat) (b : Addr), as[j]? = some b → ∃ (e : Int × Int) (t u : Tok), kvs[j]? = some e ∧ h'.get? b = some { cls := .type "tuple", data := .seq #[Value.int e.1 t, Value.int e.2 u] } := by
    intro j b hj
    obtain ⟨en, he, hg⟩ := hG.pairs j b hj
    obtain ⟨hjs, ee⟩ := Array.getElem?_eq_some_iff.mp he
    have hjk : j < kvs.length := by omega
    have hkj : kvs[j]? = some kvs[j] := List.getElem?_eq_getElem hjk
    obtain ⟨v, hv, h2⟩ := L2.kv_get kv (show (kvs.map entK)[j]? = some (Sum.inl kvs[j].1, V.int kvs[j].2) by rw [List.getElem?_map, hkj]; rfl)
    obtain ⟨q1, q2⟩ := hent j hjs _ v hv
    obtain ⟨t, rk⟩ := L2.relV_key (k := Sum.inl kvs[j].1) (u := es[j].key) q1
    obtain ⟨u, rv⟩ := (show RelV (.int kvs[j].2) v from h2)
    refine ⟨kvs[j], t, u, hkj, ?_⟩
    rw [hg, ← ee, rk, q2, rv]
  have hob : (h'.push { cls := .type "list", data := .seq (as.map Value.ref).toArray }).get? h'.objs.size = some (seqObj "list" (as.map Value.ref).toArray 0) := Heap.get?_push_size _ rfl
  have kb : ∀ b o, s.heap.get? b = some o → (h'.push { cls := .type "list", data := .seq (as.map Value.ref).toArray }).get? b = some o := fun b o e => Heap.get?_push_of_some _ (hk b o e)
  have ne0 : ∀ b o, h'.get? b = some o → b ≠ h'.objs.size := fun b o e => Nat.ne_of_lt (Heap.lt_size e)
  generalize hh2 : h'.push { cls := .type "list", data := .seq (as.map Value.ref).toArray } = h2 at hob kb ⊢
  have ka : ∀ b o, h'.get? b = some o → h2.get? b = some o := fun b o e => by rw [← hh2]; exact Heap.get?_push_of_some _ e
  let bs := as.zip kvs
  have b1 : bs.map (fun z => Value.ref z.1) = as.map Value.ref := by
    have e : bs.map (·.1) = as := List.map_fst_zip (by omega)
    have q : (bs.map (·.1)).map Value.ref = as.map Value.ref := by rw [e]
    rw [List.map_map] at q
    exact q
  have b2 : bs.map (fun z => pdP z.2) = kvs.map pdP := by
    have e : bs.map (·.2) = kvs := List.map_snd_zip (by omega)
    have q : (bs.map (·.2)).map pdP = kvs.map pdP := by rw [e]
    rw [List.map_map] at q
    exact q
  have idx : ∀ z ∈ bs, ∃ j : Nat, as[j]? = some z.1 ∧ kvs[j]? = some z.2 := by
    intro z' hz'
    obtain ⟨j, hj⟩ := List.mem_iff_getElem?.mp hz'
    exact ⟨j, List.getElem?_zip_eq_some.mp hj⟩
  have rd : ∀ h3 : Heap, (∀ b o, b ≠ h'.objs.size → h2.get? b = some o → h3.get? b = some o) → PySem.W.EachIs (fun v d => ∃ as, Reads h3 v d as) (as.map Value.ref) (kvs.map pdP) := by
    intro h3 k3
    rw [← b1, ← b2]
    refine each_build _ _ fun z hz => ?_
    obtain ⟨j, j1, j2⟩ := idx z hz
    obtain ⟨e, t, u, he, hg⟩ := pr j z.1 j1
    have : e = z.2 := Option.some.inj (he.symm.trans j2)
    subst this
    exact ⟨_, Reads.tuple (k3 _ _ (ne0 _ _ hg) (ka _ _ hg)) rfl rfl (.cons (.int _ _) (.cons (.int _ _) .nil))⟩
  obtain ⟨al1, al2⟩ := pair_alike kvs
  refine wpAny_call_entry PyProof.Rows.slot_list_sort ⟨_, hob, rfl⟩ PyProof.Rows.entry_list_sort
    (PySem.W.list_sort_vals (s := { s with heap := h2, toks := tk }) (κ := PySem.W.dataKind (PySem.W.sortingHeap h2 h'.objs.size (as.map Value.ref)) (kvs.map pdP)) hob
      (PySem.W.SortsAt.data (s := { s with heap := PySem.W.sortingHeap h2 h'.objs.size (as.map Value.ref), toks := tk }) (rd _ fun b o hb e => PySem.W.sortingHeap_old hb e) al1 al2 (fun d hd => by
        obtain ⟨e, _, rfl⟩ := List.mem_map.mp hd
        have : (pdP e).depth ≤ 3 := by simp [pdP, PyData.depth, PyData.depthAll]
        simp only [Around.in1_units]
        omega)) (by rw [List.length_map]; omega) ⟨.none, rfl, ?_⟩) (PyProof.Rows.args_list_sort _)
  have out := PySem.W.keyedOut_each (rev := false) (bs := bs) (vs := as.map Value.ref) (out := PySem.W.sortVals (PySem.W.dataKind (PySem.W.sortingHeap h2 h'.objs.size (as.map Value.ref)) (kvs.map pdP)) false (as.map Value.ref) (as.map Value.ref)) (fun z : Addr × Int × Int => pdP z.2)
    (by rw [b2]; exact ⟨_, _, al1, rfl, rd _ fun b o hb e => PySem.W.sortingHeap_old hb e⟩) (by rw [← b1]; exact each_maps (fun z : Addr × Int × Int => Value.ref z.1) bs)
  have out2 := each_maps_inv (fun z : Addr × Int × Int => Value.ref z.1) out
  generalize PySem.W.sortVals (PySem.W.dataKind (PySem.W.sortingHeap h2 h'.objs.size (as.map Value.ref)) (kvs.map pdP)) false (as.map Value.ref) (as.map Value.ref) = ov at *
  have zs2 : (bs.mergeSort (PySem.W.dataLe false fun z : Addr × Int × Int => pdP z.2)).map (·.2) = srtP kvs := by
    have : bs.map (·.2) = kvs := List.map_snd_zip (by omega)
    unfold srtP
    conv => rhs; rw [← this]
    exact List.map_mergeSort (fun a _ b _ => rfl)
  have zsm : ∀ z ∈ bs.mergeSort (PySem.W.dataLe false fun z : Addr × Int × Int => pdP z.2), z ∈ bs := fun z hz => (List.mergeSort_perm _ _).mem_iff.mp hz
  have zsl : (bs.mergeSort (PySem.W.dataLe false fun z : Addr × Int × Int => pdP z.2)).length = kvs.length := by
    rw [List.length_mergeSort]
    show (as.zip kvs).length = _
    rw [List.length_zip]
    omega
  generalize bs.mergeSort (PySem.W.dataLe false fun z : Addr × Int × Int => pdP z.2) = zs at *
  show EP X pins σ Q (.ref h'.objs.size) { s with heap := sortedHeap h2 h'.objs.size (as.map Value.ref) ov.toArray, toks := tk }
  have kF : ∀ b o, b ≠ h'.objs.size → h2.get? b = some o → (sortedHeap h2 h'.objs.size (as.map Value.ref) ov.toArray).get? b = some o := fun b o hb e => (PyProof.Rows.sortedHeap_old hb (Heap.lt_size e)).trans e
  have kS : ∀ b o, s.heap.get? b = some o → (sortedHeap h2 h'.objs.size (as.map Value.ref) ov.toArray).get? b = some o := fun b o e => kF b o (ne0 _ _ (hk b o e)) (kb b o e)
  obtain ⟨eF, heF⟩ := PyProof.Rows.sortedHeap_at (vs := as.map Value.ref) (out := ov.toArray) hob
  have I1 : Inv X pins σ H { s with heap := sortedHeap h2 h'.objs.size (as.map Value.ref) ov.toArray, toks := tk } := I.kept (t' := tk) kS
  have hn0 : H h'.objs.size = none := I.hok.fresh (Nat.le_of_lt hlt)
  have hlen : ((zs.map (·.1)).map V.ref).length ≤ sizeLine := by
    rw [List.length_map, List.length_map]
    omega
  have rv : Vals ((zs.map (·.1)).map V.ref) ov := by
    rw [out2, List.map_map]
    exact vals_maps (fun z : Addr × Int × Int => V.ref z.1) (fun z => Value.ref z.1) zs fun _ _ => rfl
  have I2 : Inv X pins σ (upd H h'.objs.size (.lst ((zs.map (·.1)).map V.ref))) { s with heap := sortedHeap h2 h'.objs.size (as.map Value.ref) ov.toArray, toks := tk } :=
    I1.take (h' := sortedHeap h2 h'.objs.size (as.map Value.ref) ov.toArray) (t' := tk) (fun b ob _ e => e) (I.fpOk (Nat.le_of_lt hlt) hn0) ⟨hlen, ov, eF, rv, heF⟩
  obtain ⟨H2, I3, g, qt⟩ := L2.DX.takeT (P := fun b vs => ∃ (j : Nat) (e : Int × Int), as[j]? = some b ∧ kvs[j]? = some e ∧ vs = [.int e.1, .int e.2]) I as _ I2 nd fun b hb => by
    obtain ⟨j, hj⟩ := List.mem_iff_getElem?.mp hb
    obtain ⟨e, t, u, he, hg⟩ := pr j b hj
    have hbl : s.heap.objs.size ≤ b := Nat.le_of_lt (hG.above b hb)
    refine ⟨hbl, ?_, [.int e.1, .int e.2], ⟨j, e, hj, he, rfl⟩, fun H3 => ⟨(by rw [sizeLine_eq]; show 2 ≤ 16777216; omega), [Value.int e.1 t, Value.int e.2 u], .cons ⟨t, rfl⟩ (.cons ⟨u, rfl⟩ .nil), ⟨_, kF _ _ (ne0 _ _ hg) (ka _ _ hg), rfl, 0, rfl⟩⟩⟩
    rw [upd_ne (ne0 _ _ hg)]
    exact I.hok.fresh hbl
  have gr : ∀ b o, H b = some o → H2 b = some o := fun b o e => g b o (by rw [upd_ne (ne_of_none e hn0)]; exact e)
  refine ⟨.ref h'.objs.size, H2, I3, rfl, q H2 h'.objs.size (zs.map (·.1)) gr hn0 (g _ _ upd_same) ?_⟩
  rw [← zs2]
  refine paired_build _ _ fun z' hz' => ?_
  obtain ⟨i, i1, i2⟩ := idx z' (zsm z' hz')
  have him := List.mem_of_getElem? i1
  obtain ⟨vs', ⟨j, e, j1, j2, ev⟩, hH⟩ := qt z'.1 him
  have eij : i = j := (List.getElem?_inj (List.getElem?_eq_some_iff.mp i1).1 nd).mp (i1.trans j1.symm)
  subst eij
  have ee : e = z'.2 := Option.some.inj (j2.symm.trans i2)
  rw [ev, ee] at hH
  exact ⟨I.hok.fresh (Nat.le_of_lt (hG.above _ him)), hH⟩
end
/-! ### new things are frozen at once -/
def newF (F H H' : Hp) : Hp := fun a => match F a with
  | some o => some o
  | none => if (H a).isSome then none else H' a
theorem newF_old {F H H' : Hp} : Same F (newF F H H') := fun a o e => by unfold newF; rw [e]
theorem newF_new {F H H' : Hp} {a : Addr} (hs : Same F H) (h : H a = none) : newF F H H' a = H' a := by
  unfold newF
  cases q : F a with
  | some o => rw [hs a o q] at h; cases h
  | none => simp [h]
theorem newF_none {F H H' : Hp} {a : Addr} (h : H a ≠ none) (f : F a = none) : newF F H H' a = none := by
  unfold newF
  rw [f]
  cases q : H a with
  | none => exact (h q).elim
  | some o => rfl
theorem Go.ext {K : PySem.W.Frag} {w : Wl} (h : Wd K w) {H' : Hp} (e : Same w.H H') : Go K w ⟨w.r, newF w.F w.H H', w.S, H'⟩ := by
  refine ⟨⟨h.len, fun b x q => ?_, fun k a c e1 e2 => (h.cell k a c e1 e2).mono ⟨[], by simp⟩ newF_old (fun hd z => ?_) (fun hd x z => e _ _ z), h.inj⟩, ⟨[], by simp⟩, h.len, fun _ _ q => q, fun k a hk e1 _ => ?_, newF_old, fun a x q _ => e _ _ q, fun a q => ?_, fun a q f _ => newF_none q f⟩
  · show H' b = some x
    have q : newF w.F w.H H' b = some x := q
    unfold newF at q
    cases f : w.F b with
    | some o =>
      rw [f] at q
      cases q
      exact e _ _ (h.same _ _ f)
    | none =>
      rw [f] at q
      simp only at q
      split at q
      · cases q
      · exact q
  · obtain ⟨x, ex⟩ := (h.cell k a c e1 e2).some hd
    exact newF_none (by rw [ex]; simp) z
  · have hk1 : k < w.r.length := (List.getElem?_eq_some_iff.mp e1).1
    have := h.len
    have hk : w.S.length ≤ k := hk
    omega
  · cases f : w.H a with
    | none => rfl
    | some x =>
      have q : H' a = none := q
      rw [e _ _ f] at q
      cases q
/-! ### the mirror -/
def intsKV : List (L2.Key × D) → Option (List (Int × Int))
  | [] => some []
  | (.inl k, .int v) :: l => (intsKV l).map ((k, v) :: ·)
  | _ :: _ => none
theorem intsKV_eq : ∀ {l : List (L2.Key × D)} {kvs : List (Int × Int)}, intsKV l = some kvs → l = kvs.map fun e => (.inl e.1, .int e.2)
  | [], kvs, h => by cases h; rfl
  | (.inl k, .int v) :: l, kvs, h => by
    unfold intsKV at h
    cases q : intsKV l with
    | none => rw [q] at h; cases h
    | some js => rw [q] at h; cases h; rw [List.map_cons, ← intsKV_eq q]
  | (.inr _, _) :: l, kvs, h => by cases h
  | (.inl _, .non) :: l, kvs, h => by cases h
  | (.inl _, .bl _) :: l, kvs, h => by cases h
  | (.inl _, .str _) :: l, kvs, h => by cases h
  | (.inl _, .tup _) :: l, kvs, h => by cases h
  | (.inl _, .lst _) :: l, kvs, h => by cases h
  | (.inl _, .scr _) :: l, kvs, h => by cases h
  | (.inl _, .cell _) :: l, kvs, h => by cases h
  | (.inl _, .raw _) :: l, kvs, h => by cases h
  | (.inl _, .cls _) :: l, kvs, h => by cases h
  | (.inl _, .exn _ _) :: l, kvs, h => by cases h
theorem intsKV_map (kvs : List (Int × Int)) : intsKV (kvs.map fun e => (.inl e.1, .int e.2)) = some kvs := by
  induction kvs with
  | nil => rfl
  | cons e l ih => rw [List.map_cons, intsKV, ih]; rfl
theorem rpk_ints {K : PySem.W.Frag} {r : List Addr} {F : Hp} : ∀ {kvs : List (Int × Int)} {ws : List (L2.Key × V)}, RpK K r F (kvs.map fun e => (.inl e.1, .int e.2)) ws → ws = kvs.map entK
  | [], ws, h => by unfold RpK at h; cases h; rfl
  | e :: kvs, ws, h => by
    unfold RpK at h
    cases h with
    | @cons p q ps qs h1 h2 =>
      obtain ⟨a, b⟩ := h1
      have b := rp_int b
      have := rpk_ints (kvs := kvs) h2
      rw [this]
      obtain ⟨q1, q2⟩ := q
      cases a
      cases b
      rfl
noncomputable def dSortIt (d : D) (S : Store) : Res D := match cellK d S with
  | some (_, l) => match intsKV l with
    | some kvs => .ok (.lst ((srtP kvs).map fun e => D.tup [.int e.1, .int e.2])) S
    | none => .bad
  | none => .bad
noncomputable def xSortIt (f : Env → M D) : Env → M D := fun e S => (f e S).bind dSortIt
theorem rps_bs {K : PySem.W.Frag} {r : List Addr} {F H H' : Hp} (hs : Same F H) : ∀ {bs : List Addr} {es : List (Int × Int)}, Paired (fun b e => H b = none ∧ H' b = some (.tup [.int e.1, .int e.2])) bs es → Rps K r (newF F H H') (es.map fun e => D.tup [.int e.1, .int e.2]) (bs.map V.ref)
  | _, _, .nil => rps_nil
  | _, _, .cons ⟨h1, h2⟩ t => by
    refine rps_cons ?_ (rps_bs hs t)
    unfold Rp
    exact ⟨_, _, rfl, .inl (by rw [newF_new hs h1]; exact h2), rps_cons rpi (rps_cons rpi rps_nil)⟩
section
variable {X : Cx} {W : WX}
theorem pd_sortIt {a : Expr} {f : Env → M D} {p apos cpos pos : Pos} (hc : X.calm = true) (hu : X.A.units + 65 < cLine) (hm : X.mg "sorted" = none) (ha : PD X W a f) (hg : Gl X "sorted" := by rfl)
    (hbase : attributeBase a "items" X.env (eval a X.env) = eval a X.env := by rfl) (hline : (apos.endLine == cpos.line) = true := by rfl) : PD X W (.Call (.Name "sorted" p) [.Call (.Attribute a "items" apos) [] [] cpos] [] pos) (xSortIt f) := by
  refine weakE (pe_callB (cr_sortedItemsK hc hu) hg hm PyProof.Rows.boot_sorted (pa_cons (pe_bm0 PySem.F.plainAttrs_dict PySem.F.slot_dict_items PySem.F.type_dict_items mt_itemsK ha hbase hline) pa_nil)) fun σ H Q ⟨w, env, eH, hw, he, hs⟩ => ?_
  subst eH
  refine ⟨w, env, rfl, hw, he, SatW.imp (SatW.bind hs) fun w1 d v g1 r1 s1 => ?_⟩
  unfold dSortIt at s1
  cases hcl : cellK d w1.S with
  | none => rw [hcl] at s1; exact s1.elim
  | some nl =>
    obtain ⟨n, l⟩ := nl
    rw [hcl] at s1
    simp only at s1
    cases hi : intsKV l with
    | none => rw [hi] at s1; exact s1.elim
    | some kvs =>
      rw [hi] at s1
      obtain ⟨rfl, en⟩ := cellK_eq hcl
      have el := intsKV_eq hi
      subst el
      obtain ⟨a', ws, rfl, hA, pp⟩ := cellK_read (T := kt X) g1.wd r1 en
      have ew := rpk_ints pp
      subst ew
      refine ⟨?_, a', _, rfl, rfl, hA, fun p hp => ?_⟩
      · exact tyV_of (T := "dict") g1.wd r1 (by simp only [isT, en]; rfl)
      · refine ⟨p, a', kvs, rfl, upd_same, by rw [upd_ne (ne_of_none hA hp)]; exact hA, fun H' l bs e1 e2 e3 e4 => ?_⟩
        have ext : Same w1.H H' := fun b o e => e1 b o (by rw [upd_ne (ne_of_none e hp)]; exact e)
        have nn : ∀ b, upd w1.H p (L2.DX.itemsO p a') b = none → w1.H b = none := fun b e => by
          by_cases q : b = p
          · subst q; rw [upd_same] at e; cases e
          · rwa [upd_ne q] at e
        have g2 := Go.ext g1.wd ext
        refine s1 _ (.ref l) g2 rfl ?_
        unfold RD Rp
        refine ⟨l, _, rfl, ?_, rps_bs g1.wd.same (Paired.mapP e4 fun b e ⟨k1, k2⟩ => ⟨nn b k1, k2⟩)⟩
        show newF w1.F w1.H H' l = _
        rw [newF_new g1.wd.same (nn l e2)]
        exact e3
end
section
variable {oo : Option D} {ll : Env} {S : Store} {f : Env → M D}
@[simp] theorem xSortIt_app : xSortIt f (oo :: ll) S = (f (oo :: ll) S).bind dSortIt := rfl
end
/-! ### a list or a tuple is walked -/
def iLT (K : PySem.W.Frag) (tl : TE) : TI := fun σ H R => tl σ H fun x H1 => (∃ a, x = .ref a ∧ (∃ xs, SqL K H1 a xs) ∧ R (Itl K a) H1) ∨ (∃ a, x = .ref a ∧ (∃ xs, SqT K H1 a xs) ∧ R (Itt K a) H1)
def srcLT (d : D) (S : Store) : Res Src := match d with
  | .tup l => srcT (.tup l) S
  | d => srcL d S
section
variable {X : Cx} {W : WX} {tg e : Expr} {f : Env → M D}
theorem pi_LT {l : Expr} {tl : TE} (hl : PE X l tl) : PI X tg l (iLT X.K tl) := by
  refine ⟨fun pins s σ H R I h => ?_⟩
  refine thn (hl.run pins s σ H _ I h) fun v s1 ⟨x, H1, I1, r1, q1⟩ => ?_
  rcases q1 with q1 | q1
  · obtain ⟨a, e, ⟨xs, hq⟩, q⟩ := q1
    subst e
    cases r1
    obtain ⟨its, rv, p, hz⟩ := I1.list hq
    refine wpAny_pyIter_list p.isList ?_
    refine ⟨s1.heap.objs.size, [s1.heap.objs.size], _, _, H1, rfl, I1.kept (t' := s1.toks) fun b o e => Heap.get?_push_of_some _ e, turn_list a _, ⟨_, Heap.get?_push_size _ rfl, rfl, rfl⟩, fun b hb => ?_, q⟩
    have e : b = s1.heap.objs.size := by simpa using hb
    subst e
    exact I1.fpOk (Nat.le_refl _) (I1.hok.fresh (Nat.le_refl _))
  · obtain ⟨a, e, ⟨xs, hq⟩, q⟩ := q1
    subst e
    cases r1
    obtain ⟨its, rv, p, hz⟩ := I1.tuple hq
    refine wpAny_pyIter_tuple (show s1.heap.IsTuple a its.toArray from p) ?_
    refine ⟨s1.heap.objs.size, [s1.heap.objs.size], _, _, H1, rfl, I1.kept (t' := s1.toks) fun b o e => Heap.get?_push_of_some _ e, turn_tuple a _, ⟨_, Heap.get?_push_size _ rfl, rfl, rfl⟩, fun b hb => ?_, q⟩
    have e : b = s1.heap.objs.size := by simpa using hb
    subst e
    exact I1.fpOk (Nat.le_refl _) (I1.hok.fresh (Nat.le_refl _))
theorem pid_LT (ha : PD X W e f) : PID X W tg e (iSrc srcLT f) := by
  refine weakI (pi_LT ha) fun σ H R ⟨w, env, eH, hw, he, hs⟩ => ?_
  subst eH
  refine ⟨w, env, rfl, hw, he, SatW.imp (SatW.bind hs) fun w1 d v g1 r1 s1 => ?_⟩
  cases d with
  | tup l =>
    obtain ⟨a, vs, rfl, q, p⟩ := getT_ok g1.wd (show Rp X.K w1.r w1.F (.tup l) v from r1) rfl
    refine .inr ⟨a, rfl, ⟨vs, .inl q⟩, SatW.here (d := (⟨l, fun _ => True⟩ : Src)) s1 g1.wd (itt_ok fun w2 g2 _ => ?_)⟩
    have r2 : Rp X.K w2.r w2.F (.tup l) (.ref a) := Rp.go g2 r1
    obtain ⟨a', vs', e', q', p'⟩ := getT_ok g2.wd r2 rfl
    cases e'
    exact ⟨vs', .inl q', p'⟩
  | lst l =>
    obtain ⟨a, vs, rfl, q, p⟩ := getL_ok g1.wd (show Rp X.K w1.r w1.F (.lst l) v from r1) rfl
    refine .inl ⟨a, rfl, ⟨vs, .inl (.inl q)⟩, SatW.here (d := (⟨l, fun _ => True⟩ : Src)) s1 g1.wd (itl_ok fun w2 g2 _ => ?_)⟩
    have r2 : Rp X.K w2.r w2.F (.lst l) (.ref a) := Rp.go g2 r1
    obtain ⟨a', vs', e', q', p'⟩ := getL_ok g2.wd r2 rfl
    cases e'
    exact ⟨vs', .inl (.inl q'), p'⟩
  | scr l =>
    obtain ⟨a, vs, rfl, q, p⟩ := getQ_ok g1.wd (show Rp X.K w1.r w1.F (.scr l) v from r1) rfl
    refine .inl ⟨a, rfl, ⟨vs, q⟩, SatW.here (d := (⟨l, fun _ => True⟩ : Src)) s1 g1.wd (itl_ok fun w2 g2 _ => ?_)⟩
    have r2 : Rp X.K w2.r w2.F (.scr l) (.ref a) := Rp.go g2 r1
    obtain ⟨a', vs', e', q', p'⟩ := getQ_ok g2.wd r2 rfl
    cases e'
    exact ⟨vs', q', p'⟩
  | cell n =>
    have s1' : SatW (kt X) W σ _ w1 (srcL (.cell n) w1.S) _ := s1
    unfold srcL at s1'
    cases en : w1.S[n]? with
    | none => simp only [en] at s1'; exact s1'.elim
    | some c =>
      cases c with
      | lst l =>
        simp only [en] at s1'
        obtain ⟨a, vs, rfl, q, p⟩ := getL_ok (l := l) g1.wd (show Rp X.K w1.r w1.F (.cell n) v from r1) (by simp only [getL, en])
        refine .inl ⟨a, rfl, ⟨vs, .inl (.inl q)⟩, SatW.here (d := (⟨l, fun S' => S'[n]? = some (.lst l)⟩ : Src)) s1' g1.wd (itl_ok fun w2 g2 hc => ?_)⟩
        have hc' : w2.S[n]? = some (.lst l) := hc
        have r2 : Rp X.K w2.r w2.F (.cell n) (.ref a) := Rp.go g2 r1
        obtain ⟨a', vs', e', q', p'⟩ := getL_ok (l := l) g2.wd r2 (by simp only [getL, hc'])
        cases e'
        exact ⟨vs', .inl (.inl q'), p'⟩
      | dct l => simp only [en] at s1'; exact s1'.elim
      | dead => simp only [en] at s1'; exact s1'.elim
  | _ => exact s1.elim
end
@[simp] theorem srcLT_tup {l : List D} {S : Store} : srcLT (.tup l) S = .ok ⟨l, fun _ => True⟩ S := rfl
@[simp] theorem srcLT_lst {l : List D} {S : Store} : srcLT (.lst l) S = .ok ⟨l, fun _ => True⟩ S := rfl
end Dv
namespace Lw
open PySem PySem.Spec PyProof.Rows L2 Dv
def topS (i : Nat) : Stmt := PySem.Challenge.pw_hideworth_k40_standings.main.body.getD i (.Pass ⟨0, 0, 0, 0⟩)
/-! ### the text and its mirrors -/
abbrev s_is_road : Stmt := topS 10
theorem sc_is_road : FnScope ["many", "road", "a", "b", "length"] ["many", "road"] (defScope s_is_road) := ⟨rfl, rfl, rfl, by decide +kernel, rfl, by decide +kernel, by decide +kernel⟩
noncomputable def b_is_road : Dv.Env → Store → Out :=
  (ySeq (yAsg (xVar 1) (fun d e S => match (gT 3 (gsCons (gN 2) (gsCons (gN 3) (gsCons (gN 4) gsNil)))) d e S with | .nx e' S' => .nx e' S' | _ => .bad))
    (ySeq (yIf (xOr (xIsT (xOp dLt (xFn bMin (xCons (xVar 2) (xCons (xVar 3) xNil))) (xC (.int 0)))) (xOr (xIsT (xOp dGe (xFn bMax (xCons (xVar 2) (xCons (xVar 3) xNil))) (xVar 0))) (xIsT (xOp dEq (xVar 2) (xVar 3))))) (yRet (xC (.bl false))) yNil)
    (yRet (xAndV (xOp dLe (xC (.int 1)) (xVar 4)) (xOp dLe (xVar 4) (xC (.int 1000000)))))))
noncomputable def F_is_road : List D → M D := fnD 2 5 false b_is_road
abbrev s_roads_from : Stmt := topS 11
theorem sc_roads_from : FnScope ["web", "place", "near", "a", "b", "length", "other"] ["web", "place"] (defScope s_roads_from) := ⟨rfl, rfl, rfl, by decide +kernel, rfl, by decide +kernel, by decide +kernel⟩
noncomputable def b_roads_from : Dv.Env → Store → Out :=
  (ySeq (ySet 2 xDct0)
    (ySeq (yFor (iSrc srcL (xOp dIx (xVar 0) (xC (.int 1)))) (gT 3 (gsCons (gN 3) (gsCons (gN 4) (gsCons (gN 5) gsNil)))) (yIf (xOr (xIsT (xOp dEq (xVar 3) (xVar 1))) (xIsT (xOp dEq (xVar 4) (xVar 1)))) (ySeq (ySet 6 (xOp dSub (xOp (dAdd mkF) (xVar 3) (xVar 4)) (xVar 1)))
    (ySub (xFn bMin (xCons (xVar 5) (xCons (xGet2 (xVar 2) (xVar 6) (xVar 5)) xNil))) (xVar 2) (xVar 6) setK)) yNil))
    (yRet (xLc mkF (iSrc srcL (xFn (bSortK mkF) (xCons (xVar 2) xNil))) (eN 6) cYes (xTup (xCons (xVar 6) (xCons (xOp dKx (xVar 2) (xVar 6)) xNil))) [6]))))
noncomputable def F_roads_from : List D → M D := fnD 2 7 false b_roads_from
abbrev s_reached : Stmt := topS 12
theorem sc_reached : FnScope ["web", "row", "at", "other", "length"] ["web"] (defScope s_reached) := ⟨rfl, rfl, rfl, by decide +kernel, rfl, by decide +kernel, by decide +kernel⟩
noncomputable def b_reached : Dv.Env → Store → Out :=
  (ySeq (ySet 1 (xLst mkC (xCons (xC (.int 0)) xNil)))
    (ySeq (ySet 2 (xC (.int 0)))
    (ySeq (ySeq (yWhile (xIsT (xOp dLt (xVar 2) (xFn bLen (xCons (xVar 1) xNil)))) (ySeq (yFor (iSrc srcL (xFn F_roads_from (xCons (xVar 0) (xCons (xOp dIx (xVar 1) (xVar 2)) xNil)))) (gT 2 (gsCons (gN 3) (gsCons (gN 4) gsNil))) (yIf (xIsT (xOp dNotIn (xVar 3) (xVar 1))) (yExpr (xMt "list" mAppend (xVar 1) (xCons (xVar 3) xNil))) yNil))
    (yAug 2 (xC (.int 1)) ipAdd))) (frzE 1))
    (yRet (xVar 1)))))
noncomputable def F_reached : List D → M D := fnD 1 5 false b_reached
abbrev s_look_web : Stmt := topS 13
theorem sc_look_web : FnScope ["web", "many", "roads", "number", "road"] ["web"] (defScope s_look_web) := ⟨rfl, rfl, rfl, by decide +kernel, rfl, by decide +kernel, by decide +kernel⟩
noncomputable def b_look_web : Dv.Env → Store → Out :=
  (ySeq (yAsg (xVar 0) (fun d e S => match (gT 2 (gsCons (gN 1) (gsCons (gN 2) gsNil))) d e S with | .nx e' S' => .nx e' S' | _ => .bad))
    (ySeq (yFor (iSrcA srcEnum (xCons (xVar 2) xNil)) (gT 2 (gsCons (gN 3) (gsCons (gN 4) gsNil))) (yIf (xNot (xTru (xFn F_is_road (xCons (xVar 1) (xCons (xVar 4) xNil))))) yNever yNil))
    (ySeq (yIf (xOr (xIsT (xOp dLt (xVar 1) (xC (.int 1)))) (xOr (xIsT (xOp dGt (xVar 1) (xC (.int 60)))) (xIsT (xOp dGt (xFn bLen (xCons (xVar 2) xNil)) (xC (.int 120)))))) yNever yNil)
    (yIf (xIsT (xOp dNe (xFn bLen (xCons (xFn F_reached (xCons (xVar 0) xNil)) xNil)) (xVar 1))) yNever yNil))))
noncomputable def F_look_web : List D → M D := fnD 1 5 false b_look_web
abbrev s_must_be_small : Stmt := topS 14
theorem sc_must_be_small : FnScope ["web"] ["web"] (defScope s_must_be_small) := ⟨rfl, rfl, rfl, by decide +kernel, rfl, by decide +kernel, by decide +kernel⟩
noncomputable def b_must_be_small : Dv.Env → Store → Out :=
  (yIf (xIsT (xOp dGt (xOp dIx (xVar 0) (xC (.int 0))) (xC (.int 7)))) yNever yNil)
noncomputable def F_must_be_small : List D → M D := fnD 1 1 false b_must_be_small
abbrev s_must_be_kind : Stmt := topS 15
theorem sc_must_be_kind : FnScope ["kind"] ["kind"] (defScope s_must_be_kind) := ⟨rfl, rfl, rfl, by decide +kernel, rfl, by decide +kernel, by decide +kernel⟩
noncomputable def b_must_be_kind : Dv.Env → Store → Out :=
  (yIf (xAnd (xIsT (xOp dNe (xVar 0) (xC (.str ("walk" : PySem.Str))))) (xIsT (xOp dNe (xVar 0) (xC (.str ("spread" : PySem.Str)))))) yNever yNil)
noncomputable def F_must_be_kind : List D → M D := fnD 1 1 false b_must_be_kind
abbrev s_sets_come_to : Stmt := topS 17
theorem sc_sets_come_to : FnScope ["web", "found", "at", "place", "other", "length", "more"] ["web"] (defScope s_sets_come_to) := ⟨rfl, rfl, rfl, by decide +kernel, rfl, by decide +kernel, by decide +kernel⟩
noncomputable def b_sets_come_to : Dv.Env → Store → Out :=
  (ySeq (ySet 1 (xLst mkC (xCons (xTup (xCons (xC (.int 0)) xNil)) xNil)))
    (ySeq (ySet 2 (xC (.int 0)))
    (ySeq (yWhile (xIsT (xOp dLt (xVar 2) (xFn bLen (xCons (xVar 1) xNil)))) (ySeq (yFor (iSrc srcT (xOp dIx (xVar 1) (xVar 2))) (gN 3) (yFor (iSrc srcL (xFn F_roads_from (xCons (xVar 0) (xCons (xVar 3) xNil)))) (gT 2 (gsCons (gN 4) (gsCons (gN 5) gsNil))) (ySeq (ySet 6 (xFn bTuple (xCons (xSortSet mkF (xOp (dAdd mkF) (xOp dIx (xVar 1) (xVar 2)) (xTup (xCons (xVar 4) xNil)))) xNil)))
    (yIf (xIsT (xOp (dInD true) (xVar 6) (xVar 1))) (yExpr (xMt "list" mAppend (xVar 1) (xCons (xVar 6) xNil))) yNil))))
    (yAug 2 (xC (.int 1)) ipAdd)))
    (yRet (xFn (bSortD mkF) (xCons (xVar 1) xNil))))))
noncomputable def F_sets_come_to : List D → M D := fnD 1 7 false b_sets_come_to
abbrev s_standings_of : Stmt := topS 18
theorem sc_standings_of : FnScope ["web", "kind", "found", "places", "here"] ["web", "kind"] (defScope s_standings_of) := ⟨rfl, rfl, rfl, by decide +kernel, rfl, by decide +kernel, by decide +kernel⟩
noncomputable def b_standings_of : Dv.Env → Store → Out :=
  (ySeq (ySet 2 (xLst mkC xNil))
    (ySeq (yFor (iSrc srcL (xFn F_sets_come_to (xCons (xVar 0) xNil))) (gN 3) (yIf (xIsT (xOp dEq (xVar 1) (xC (.str ("spread" : PySem.Str))))) (yExpr (xMt "list" mAppend (xVar 2) (xCons (xTup (xCons (xVar 3) (xCons (xC (.int 0)) xNil))) xNil))) (ySet 2 (xOp (dAdd mkC) (xVar 2) (xLc mkF (iSrc srcT (xVar 3)) (eN 4) cYes (xTup (xCons (xVar 3) (xCons (xVar 4) xNil))) [4])))))
    (yRet (xVar 2))))
noncomputable def F_standings_of : List D → M D := fnD 2 5 true b_standings_of
abbrev s_standings : Stmt := topS 19
theorem sc_standings : FnScope ["web", "kind"] ["web", "kind"] (defScope s_standings) := ⟨rfl, rfl, rfl, by decide +kernel, rfl, by decide +kernel, by decide +kernel⟩
noncomputable def b_standings : Dv.Env → Store → Out :=
  (ySeq (yExpr (xFn F_look_web (xCons (xVar 0) xNil)))
    (ySeq (yExpr (xFn F_must_be_small (xCons (xVar 0) xNil)))
    (ySeq (yExpr (xFn F_must_be_kind (xCons (xVar 1) xNil)))
    (yRet (xFn F_standings_of (xCons (xVar 0) (xCons (xVar 1) xNil)))))))
noncomputable def F_standings : List D → M D := fnD 2 2 true b_standings
abbrev s__law_draws : Stmt := topS 21
theorem sc__law_draws : FnScope ["_law_script", "_law_many", "_law_found", "_law_k", "_law_cell", "_law_j", "_law_number"] ["_law_script", "_law_many"] (defScope s__law_draws) := ⟨rfl, rfl, rfl, by decide +kernel, rfl, by decide +kernel, by decide +kernel⟩
noncomputable def b__law_draws : Dv.Env → Store → Out :=
  (ySeq (ySet 2 (xLst mkC xNil))
    (ySeq (ySeq (yFor (iSrcA srcR1 (xCons (xVar 1) xNil)) (gN 3) (ySeq (ySet 4 (xC (.int 0)))
    (ySeq (yIf (xIsT (xOp dGt (xFn bLen (xCons (xVar 0) xNil)) (xC (.int 0)))) (ySet 4 (xOp dIx (xVar 0) (xOp dMod (xOp dFdiv (xVar 3) (xC (.int 20))) (xFn bMin (xCons (xC (.int 63)) (xCons (xFn bLen (xCons (xVar 0) xNil)) xNil)))))) yNil)
    (yIf (xIsT (xOp dGe (xVar 4) (xOp dPow (xC (.int 10)) (xC (.int 18))))) (ySeq (ySet 4 (xOp dFdiv (xVar 4) (xOp dPow (xC (.int 10)) (xC (.int 18)))))
    (ySeq (yFor (iSrcA srcR1 (xCons (xOp dMod (xVar 3) (xC (.int 20))) xNil)) (gN 5) (ySet 4 (xOp dFdiv (xVar 4) (xC (.int 5040)))))
    (yExpr (xMt "list" mAppend (xVar 2) (xCons (xOp dMod (xVar 4) (xC (.int 5040))) xNil))))) (ySeq (ySet 6 (xOp dMod (xOp (dAdd mkF) (xVar 4) (xOp (dMul mkF) (xC (.int 48271)) (xOp (dAdd mkF) (xVar 3) (xC (.int 1))))) (xC (.int 2147483629))))
    (ySeq (ySet 6 (xOp dMod (xOp (dAdd mkF) (xOp (dMul mkF) (xVar 6) (xVar 6)) (xVar 3)) (xC (.int 2147483629))))
    (yExpr (xMt "list" mAppend (xVar 2) (xCons (xOp dMod (xOp (dMul mkF) (xVar 6) (xVar 6)) (xC (.int 2147483587))) xNil))))))))) (frzE 2))
    (yRet (xVar 2))))
noncomputable def F__law_draws : List D → M D := fnD 2 7 false b__law_draws
abbrev s__law_web : Stmt := topS 22
theorem sc__law_web : FnScope ["_law_draws_here", "_law_at", "_law_most", "_law_many", "_law_roads_here", "_law_place", "_law_k", "_law_names", "_law_found", "_law_other", "_law_length", "_law_one", "_law_a", "_law_b", "_law_spot"] ["_law_draws_here", "_law_at", "_law_most"] (defScope s__law_web) := ⟨rfl, rfl, rfl, by decide +kernel, rfl, by decide +kernel, by decide +kernel⟩
noncomputable def b__law_web : Dv.Env → Store → Out :=
  (ySeq (ySet 3 (xOp (dAdd mkF) (xC (.int 1)) (xOp dMod (xOp dIx (xVar 0) (xVar 1)) (xVar 2))))
    (ySeq (ySet 4 (xLst mkC xNil))
    (ySeq (yFor (iSrcA srcR2 (xCons (xC (.int 1)) (xCons (xVar 3) xNil))) (gN 5) (ySeq (ySet 9 (xOp dMod (xOp dIx (xVar 0) (xOp (dAdd mkF) (xVar 1) (xVar 5))) (xVar 5)))
    (ySeq (ySet 10 (xOp (dAdd mkF) (xC (.int 1)) (xOp dMod (xOp dFdiv (xOp dIx (xVar 0) (xOp (dAdd mkF) (xVar 1) (xVar 5))) (xC (.int 16))) (xC (.int 9)))))
    (yExpr (xMt "list" mAppend (xVar 4) (xCons (xOp dIx (xLst mkF (xCons (xTup (xCons (xVar 9) (xCons (xVar 5) (xCons (xVar 10) xNil)))) (xCons (xTup (xCons (xVar 5) (xCons (xVar 9) (xCons (xVar 10) xNil)))) xNil))) (xOp dMod (xOp dFdiv (xOp dIx (xVar 0) (xOp (dAdd mkF) (xVar 1) (xVar 5))) (xC (.int 256))) (xC (.int 2)))) xNil))))))
    (ySeq (ySeq (yFor (iSrcA srcR1 (xCons (xOp dMod (xOp dIx (xVar 0) (xOp (dAdd mkF) (xVar 1) (xC (.int 8)))) (xC (.int 5))) xNil)) (gN 6) (ySeq (ySet 11 (xOp dMod (xOp dIx (xVar 0) (xOp (dAdd mkF) (xOp (dAdd mkF) (xVar 1) (xC (.int 9))) (xVar 6))) (xVar 3)))
    (ySeq (ySet 9 (xOp dMod (xOp dFdiv (xOp dIx (xVar 0) (xOp (dAdd mkF) (xOp (dAdd mkF) (xVar 1) (xC (.int 9))) (xVar 6))) (xC (.int 16))) (xVar 3)))
    (yIf (xIsT (xOp dNe (xVar 11) (xVar 9))) (yExpr (xMt "list" mAppend (xVar 4) (xCons (xTup (xCons (xVar 11) (xCons (xVar 9) (xCons (xOp (dAdd mkF) (xC (.int 1)) (xOp dMod (xOp dFdiv (xOp dIx (xVar 0) (xOp (dAdd mkF) (xOp (dAdd mkF) (xVar 1) (xC (.int 9))) (xVar 6))) (xC (.int 256))) (xC (.int 12)))) xNil)))) xNil))) yNil)))) (frzE 4))
    (ySeq (ySet 7 (xLst mkC xNil))
    (ySeq (ySeq (yFor (iSrcA srcR2 (xCons (xC (.int 1)) (xCons (xVar 3) xNil))) (gN 6) (yExpr (xMt "list" mInsert (xVar 7) (xCons (xOp dMod (xOp dFdiv (xOp dIx (xVar 0) (xOp (dAdd mkF) (xVar 1) (xC (.int 14)))) (xOp (dAdd mkF) (xC (.int 1)) (xOp (dMul mkF) (xC (.int 2)) (xVar 6)))) (xOp (dAdd mkF) (xFn bLen (xCons (xVar 7) xNil)) (xC (.int 1)))) (xCons (xVar 6) xNil))))) (frzE 7))
    (ySeq (ySet 7 (xOp (dAdd mkF) (xLst mkF (xCons (xC (.int 0)) xNil)) (xVar 7)))
    (ySeq (ySet 8 (xLst mkC xNil))
    (ySeq (ySeq (yFor (iSrc srcL (xVar 4)) (gT 3 (gsCons (gN 12) (gsCons (gN 13) (gsCons (gN 10) gsNil)))) (ySeq (ySet 14 (xOp dFdiv (xOp dIx (xVar 0) (xOp (dAdd mkF) (xVar 1) (xC (.int 15)))) (xOp (dAdd mkF) (xC (.int 1)) (xFn bLen (xCons (xVar 8) xNil)))))
    (yExpr (xMt "list" mInsert (xVar 8) (xCons (xOp dMod (xVar 14) (xOp (dAdd mkF) (xFn bLen (xCons (xVar 8) xNil)) (xC (.int 1)))) (xCons (xTup (xCons (xOp dIx (xVar 7) (xVar 12)) (xCons (xOp dIx (xVar 7) (xVar 13)) (xCons (xVar 10) xNil)))) xNil)))))) (frzE 8))
    (yRet (xTup (xCons (xVar 3) (xCons (xVar 8) xNil)))))))))))))
noncomputable def F__law_web : List D → M D := fnD 3 15 false b__law_web
abbrev s__law_roads : Stmt := topS 23
theorem sc__law_roads : FnScope ["_law_web_here", "_law_place", "_law_found", "_law_a", "_law_b", "_law_length", "_law_one", "_law_other"] ["_law_web_here", "_law_place"] (defScope s__law_roads) := ⟨rfl, rfl, rfl, by decide +kernel, rfl, by decide +kernel, by decide +kernel⟩
noncomputable def b__law_roads : Dv.Env → Store → Out :=
  (ySeq (ySet 2 xDct0)
    (ySeq (yFor (iSrc srcL (xOp dIx (xVar 0) (xC (.int 1)))) (gT 3 (gsCons (gN 3) (gsCons (gN 4) (gsCons (gN 5) gsNil)))) (yFor (iSrc srcL (xLst mkF (xCons (xTup (xCons (xVar 3) (xCons (xVar 4) xNil))) (xCons (xTup (xCons (xVar 4) (xCons (xVar 3) xNil))) xNil)))) (gT 2 (gsCons (gN 6) (gsCons (gN 7) gsNil))) (yIf (xIsT (xOp dEq (xVar 6) (xVar 1))) (ySub (xFn bMin (xCons (xVar 5) (xCons (xGet2 (xVar 2) (xVar 7) (xVar 5)) xNil))) (xVar 2) (xVar 7) setK) yNil)))
    (yRet (xSortIt (xVar 2)))))
noncomputable def F__law_roads : List D → M D := fnD 2 8 false b__law_roads
abbrev s__law_next : Stmt := topS 24
theorem sc__law_next : FnScope ["_law_web_here", "_law_kind", "_law_places", "_law_here", "_law_found", "_law_place", "_law_other", "_law_length", "_law_near"] ["_law_web_here", "_law_kind", "_law_places", "_law_here"] (defScope s__law_next) := ⟨rfl, rfl, rfl, by decide +kernel, rfl, by decide +kernel, by decide +kernel⟩
noncomputable def b__law_next : Dv.Env → Store → Out :=
  (ySeq (ySet 4 (xLst mkC xNil))
    (ySeq (ySeq (yFor (iSrc srcLT (xIf (xIsT (xOp dEq (xVar 1) (xC (.str ("walk" : PySem.Str))))) (xLst mkF (xCons (xVar 3) xNil)) (xVar 2))) (gN 5) (yFor (iSrc srcL (xFn F__law_roads (xCons (xVar 0) (xCons (xVar 5) xNil)))) (gT 2 (gsCons (gN 6) (gsCons (gN 7) gsNil))) (yIf (xOr (xIsT (xOp dEq (xVar 1) (xC (.str ("walk" : PySem.Str))))) (xIsT (xOp dNotIn (xVar 6) (xVar 2)))) (ySeq (ySet 8 (xFn bTuple (xCons (xSortSet mkF (xOp (dAdd mkF) (xVar 2) (xTup (xCons (xVar 6) xNil)))) xNil)))
    (yExpr (xMt "list" mAppend (xVar 4) (xCons (xTup (xCons (xVar 8) (xCons (xOp dIx (xLst mkF (xCons (xC (.int 0)) (xCons (xVar 6) xNil))) (xFn bInt (xCons (xOp dEq (xVar 1) (xC (.str ("walk" : PySem.Str)))) xNil))) xNil))) xNil)))) yNil))) (frzE 4))
    (yRet (xVar 4))))
noncomputable def F__law_next : List D → M D := fnD 4 9 false b__law_next
abbrev s_law : Stmt := topS 25
theorem sc_law : FnScope ["_law_script", "_law_draws_here", "_law_web_here", "_law_kind", "_law_due", "_law_at", "_law_handed", "_law_found", "_law_near"] ["_law_script"] (defScope s_law) := ⟨rfl, rfl, rfl, by decide +kernel, rfl, by decide +kernel, by decide +kernel⟩
noncomputable def b_law : Dv.Env → Store → Out :=
  (ySeq (ySet 1 (xFn F__law_draws (xCons (xVar 0) (xCons (xC (.int 20)) xNil))))
    (ySeq (ySet 2 (xFn F__law_web (xCons (xVar 1) (xCons (xC (.int 0)) (xCons (xC (.int 6)) xNil)))))
    (ySeq (yFor (iSrc srcL (xLst mkF (xCons (xC (.str ("walk" : PySem.Str))) (xCons (xC (.str ("spread" : PySem.Str))) xNil)))) (gN 3) (ySeq (ySet 4 (xLst mkC (xCons (xTup (xCons (xTup (xCons (xC (.int 0)) xNil)) (xCons (xC (.int 0)) xNil))) xNil)))
    (ySeq (ySet 5 (xC (.int 0)))
    (ySeq (yWhile (xIsT (xOp dLt (xVar 5) (xFn bLen (xCons (xVar 4) xNil)))) (ySeq (yFor (iSrc srcL (xFn F__law_next (xCons (xVar 2) (xCons (xVar 3) (xCons (xOp dIx (xOp dIx (xVar 4) (xVar 5)) (xC (.int 0))) (xCons (xOp dIx (xOp dIx (xVar 4) (xVar 5)) (xC (.int 1))) xNil)))))) (gN 8) (yIf (xIsT (xOp (dInD true) (xVar 8) (xVar 4))) (yExpr (xMt "list" mAppend (xVar 4) (xCons (xVar 8) xNil))) yNil))
    (ySet 5 (xOp (dAdd mkF) (xVar 5) (xC (.int 1))))))
    (ySeq (ySet 6 (xTup (xCons (xOp dIx (xVar 2) (xC (.int 0))) (xCons (xFn (bList mkF) (xCons (xOp dIx (xVar 2) (xC (.int 1))) xNil)) xNil))))
    (ySeq (ySet 7 (xFn F_standings (xCons (xVar 6) (xCons (xVar 3) xNil))))
    (ySeq (yIf (xOr (xNot (xTru (xFn bIsi (xCons (xVar 7) (xCons (xC (.raw (.ty "list"))) xNil))))) (xOr (xIsT (xOp dNe (xVar 7) (xFn (bSortD mkF) (xCons (xVar 4) xNil)))) (xIsT (xOp dNe (xVar 6) (xVar 2))))) (yRet (xC (.bl false))) yNil)
    (ySeq (yExpr (xMt "list" mClear (xVar 7) xNil))
    (yIf (xIsT (xOp dNe (xFn F_standings (xCons (xVar 6) (xCons (xVar 3) xNil))) (xFn (bSortD mkF) (xCons (xVar 4) xNil)))) (yRet (xC (.bl false))) yNil)))))))))
    (yRet (xC (.bl true))))))
noncomputable def F_law : List D → M D := fnD 1 9 false b_law
end Lw
namespace Lw
open PySem PySem.Spec PyProof.Rows L2 Dv
/-! reckoning in one word -/
theorem ens_fdiv {i j : Int} {S : Store} {P : D → Store → Prop} : Ens (dFdiv (.int i) (.int j) S) P = (divOk i j ∧ P (.int (i.fdiv j)) S) := by rw [dFdiv_ok, ens_if, ens_ok]
theorem ens_mod {i j : Int} {S : Store} {P : D → Store → Prop} : Ens (dMod (.int i) (.int j) S) P = (j ≠ 0 ∧ P (.int (i.fmod j)) S) := by rw [dMod_ok, ens_if, ens_ok]
theorem ens_mul {mk : List D → M D} {i j : Int} {S : Store} {P : D → Store → Prop} : Ens (dMul mk (.int i) (.int j) S) P = (IntMulOk i j ∧ P (.int (i * j)) S) := by rw [dMul_int, ens_if, ens_ok]
theorem ens_ixl {l : List D} {i : Int} {S : Store} {P : D → Store → Prop} : Ens (dIx (.lst l) (.int i) S) P = ∃ d, L2.atI l i = some d ∧ P d S := by
  rw [dIx_lst]
  cases L2.atI l i with
  | none => simp
  | some d => simp
theorem ens_ixs {l : List D} {i : Int} {S : Store} {P : D → Store → Prop} : Ens (dIx (.scr l) (.int i) S) P = ∃ d, L2.atI l i = some d ∧ P d S := by
  rw [dIx_scr]
  cases L2.atI l i with
  | none => simp
  | some d => simp
theorem p10_18 (S : Store) : dPow (.int 10) (.int 18) S = .ok (.int 1000000000000000000) S := by simp [powOk]
theorem cellL_is {n : Nat} {l : List D} {S : Store} (h : S[n]? = some (.lst l)) : isT "list" (.cell n) S = true := by simp only [isT, h, beq_self_eq_true]
theorem app_cell {n : Nat} {l : List D} {x : D} {S : Store} (h : S[n]? = some (.lst l)) (hl : l.length < 16000000) : mAppend (.cell n) [x] S = .ok .non (S.set n (.lst (l ++ [x]))) := by simp only [mAppend, cellL, h, if_pos hl]
theorem ens_tl {n : Nat} {l : List D} {x : Res (List D)} {k : List D → Store → Res D} {S : Store} {P : D → Store → Prop} (e : S[n]? = some (.lst l)) (q : Ens x fun l S2 => Ens (k l S2) P) : Ens (if isT "list" (.cell n) S = true then x.bind k else .bad) P := by
  rw [if_pos (cellL_is e), ens_bind]
  exact q
local macro_rules | `(tactic| walk_at "ds") => `(tactic| first | exact rng62_of (by omega) (by omega) | exact ⟨rng62_of (by omega) (by omega), rng62_of (by omega) (by omega)⟩ | exact divOk_lit (by omega) (by omega) | exact mulOkL (by omega) (by omega) | exact mulOkR (by omega) (by omega) | omega | decide | assumption)
local macro_rules | `(tactic| walk_at "dv") => `(tactic| simp only [ySeq_app, ySet_app, yIf_app, yExpr_app, yRet_app, yRetN_app, yNil_app, yFor_app, yAsg_app, yPar_app, yAug_app, ySub_app, yBreak_app, yCont_app, xVar_app, xC_app, xOp_app, xUn_app, xNil_app, xCons_app, xFn_app, xTup_app, xLst_app, xTru_app, xIsT_app, xNot_app, xAnd_app, xOr_app, xAndV_app, xOrV_app, xNotV_app, xIf_app, iSrc_app, iSrcA_app, xLc_app, xMt_app, xSl_app, oNone_app, oSome_app, srcL_lst, srcL_scr, srcT_tup, gN_app, gT_app, gsNil_app, gsCons_app, mkF_app, mkC_app, wipeE_cons, wipeE_nil, bInt_int, bInt_bl, tru_bl, bIsi_tup, bIsi_lst, bIsi_int, bIsi_intb, bLen_lst, bLen_scr, bLen_tup, atI_zero, atI_one, atI_two, dAdd_int, dSub_ok, dLt_ok, dLe_ok, dGt_ok, dGe_ok, dEq_int, dNe_int, List.getElem?_cons_zero, List.getElem?_cons_succ, List.set_cons_zero, List.set_cons_succ, List.length_cons, List.length_nil, List.map_cons, List.map_nil, List.replicate_zero, List.replicate_succ, List.cons_append, List.nil_append, Nat.reduceSub, Nat.reduceAdd, Nat.reduceLeDiff, List.replicate, Res.bind_ok, Res.out_ok, Out.seq_nx, enso_out, ens_ok, enso_nx, enso_rt, enso_bk, enso_ct, enso_seq, ens_bind, fin_same, ens_fdiv, ens_mod, ens_mul, p10_18, ens_srcR1, ens_srcR2, if_true, if_false, Bool.false_eq_true, ite_true, ite_false, reduceIte, beq_self_eq_true, true_and, and_true, Bool.not_true, Bool.not_false, Int.reduceLT, fdiv_pos, fmod_pos, Int.zero_add])
local macro_rules | `(tactic| walk_at "dw") => `(tactic| ((try walk_at "dv"); repeat ((refine And.intro (by walk_at "ds") ?_); try walk_at "dv")))
theorem sIx_n {n d k : Nat} : HT.sIx n d (some (k : Int)) = min k n := by rw [HT.sIx_nat]
theorem dl_ix {l : List D} {i : Nat} (h : i < l.length) (S : Store) : dIx (.lst l) (.int (i : Int)) S = .ok l[i] S := by
  simp only [dIx, getQ_lst, atI_nat (xs := l) (j := i) (v := l[i]) (List.getElem?_eq_getElem h)]
theorem dl_to (l : List D) (b : Nat) (S : Store) : slD mkF (.lst l) none (some (b : Int)) S = .ok (.lst (l.take (min b l.length))) S := by
  unfold slD
  have a1 : HT.sIx l.length 0 none = 0 := by simp [HT.sIx]
  simp only [getQ_lst, sIx_n, a1, List.drop_zero, Nat.sub_zero, mkF_app]
theorem dl_from (l : List D) (a : Nat) (S : Store) : slD mkF (.lst l) (some (a : Int)) none S = .ok (.lst (l.drop (min a l.length))) S := by
  unfold slD
  have a1 : HT.sIx l.length l.length none = l.length := by simp [HT.sIx]
  simp only [getQ_lst, sIx_n, a1, mkF_app]
  rw [List.take_of_length_le (by rw [List.length_drop]; exact Nat.le_refl _)]
theorem dl_add (a b : List D) (S : Store) (h : a.length + b.length ≤ 16000000) : dAdd mkF (.lst a) (.lst b) S = .ok (.lst (a ++ b)) S := by
  simp only [dAdd, getL, if_pos h, mkF_app]
theorem dl_pick (l : List Int) {r : Int} (h0 : 0 ≤ r) (h1 : r < l.length) (S : Store) : ∃ v ∈ l, dIx (.lst (l.map D.int)) (.int r) S = .ok (.int v) S := by
  have hi : r.toNat < l.length := by omega
  refine ⟨l[r.toNat], List.getElem_mem _, ?_⟩
  have := dl_ix (l := l.map D.int) (i := r.toNat) (by rw [List.length_map]; exact hi) S
  rw [Int.toNat_of_nonneg h0] at this
  rw [this, List.getElem_map]
theorem dt_add (a b : List D) (S : Store) (ha : a ≠ []) (hb : b ≠ []) (h : a.length + b.length ≤ 16000000) : dAdd mkF (.tup a) (.tup b) S = .ok (.tup (a ++ b)) S := by
  simp only [dAdd, if_pos (⟨ha, hb, h⟩ : a ≠ [] ∧ b ≠ [] ∧ a.length + b.length ≤ 16000000)]
theorem dt_two (a b c : D) (S : Store) : slD mkF (.tup [a, b, c]) none (some 2) S = .ok (.tup [a, b]) S := by
  have a1 : HT.sIx 3 0 none = 0 := by simp [HT.sIx]
  have a2 : HT.sIx 3 3 (some 2) = 2 := sIx_n (k := 2)
  simp [slD, a1, a2]
theorem cell_nat' {S : Store} {n : Nat} {dn : List Nat} (h : S[n]? = some (.lst (dn.map fun (m : Nat) => D.int (m : Int)))) {k : Nat} (hk : k < dn.length) : dIx (.cell n) (.int (k : Int)) S = .ok (.int (dn[k] : Int)) S := by
  have e : L2.atI (dn.map fun (m : Nat) => D.int (m : Int)) (k : Int) = some (.int (dn[k] : Int)) := by
    rw [atI_nat (by rw [List.getElem?_map, List.getElem?_eq_getElem hk]; rfl)]
  simp only [dIx, getQ, getL, h, e]
theorem underL_nat {n : Nat} (l : List Nat) : D.underL n (l.map fun (m : Nat) => D.int (m : Int)) = true := underL_of fun d hd => by
  obtain ⟨z, _, rfl⟩ := List.mem_map.mp hd
  rfl
theorem under_app {S : Store} (hS : (S.all fun c => c.under S.length) = true) (row : List Nat) : ((S ++ [Cn.lst (row.map fun (k : Nat) => D.int (k : Int))]).all fun c => c.under (S ++ [Cn.lst (row.map fun (k : Nat) => D.int (k : Int))]).length) = true := by
  rw [List.all_append, Bool.and_eq_true]
  rw [List.all_eq_true] at hS
  refine ⟨List.all_eq_true.mpr fun x hx => cn_under_mono (by simp) (hS x hx), ?_⟩
  simp [Cn.under, underL_nat]
theorem under_nats {n : Nat} (l : List Nat) : D.under n (.lst (l.map fun (m : Nat) => D.int (m : Int))) = true := by
  rw [D.under]
  exact underL_nat l
/-! ### webs -/
abbrev Ro := Nat × Nat × Int
def roD (z : Ro) : D := .tup [.int (z.1 : Int), .int (z.2.1 : Int), .int z.2.2]
def wbD (m : Nat) (rs : List Ro) : D := .tup [.int (m : Int), .lst (rs.map roD)]
structure WebP (m : Nat) (rs : List Ro) : Prop where
  ok : ∀ z ∈ rs, z.1 < m ∧ z.2.1 < m ∧ z.1 ≠ z.2.1 ∧ 1 ≤ z.2.2 ∧ z.2.2 ≤ 1000000
  m1 : 1 ≤ m
  m60 : m ≤ 60
  few : rs.length ≤ 120
structure WebOk (m : Nat) (rs : List Ro) : Prop extends WebP m rs where
  conn : ∀ R : Nat → Prop, R 0 → (∀ z ∈ rs, R z.1 ↔ R z.2.1) → ∀ k < m, R k
def getN (kv : List (Nat × Int)) (k : Nat) : Option Int := (kv.find? fun p => decide (p.1 = k)).map (·.2)
def putN (kv : List (Nat × Int)) (k : Nat) (v : Int) : List (Nat × Int) :=
  if (kv.any fun p => decide (p.1 = k)) = true then kv.map (fun p => if p.1 = k then (p.1, v) else p) else kv ++ [(k, v)]
def emb (kv : List (Nat × Int)) : List (Key × D) := kv.map fun p => (Sum.inl (p.1 : Int), D.int p.2)
theorem inl_eq {a b : Nat} : ((Sum.inl (a : Int) : Key) = Sum.inl (b : Int)) ↔ a = b := by
  constructor
  · intro h
    have := Sum.inl.inj h
    omega
  · intro h; rw [h]
theorem valD_emb (k : Nat) : ∀ kv : List (Nat × Int), valD (emb kv) (Sum.inl (k : Int)) = (getN kv k).map D.int
  | [] => rfl
  | p :: kv => by
    have ih := valD_emb k kv
    unfold valD emb getN at ih ⊢
    rw [List.map_cons, List.find?_cons, List.find?_cons]
    by_cases q : p.1 = k
    · rw [decide_eq_true (inl_eq.mpr q), decide_eq_true q]
      rfl
    · rw [decide_eq_false (fun z => q (inl_eq.mp z)), decide_eq_false q]
      exact ih
theorem any_emb (k : Nat) (kv : List (Nat × Int)) : ((emb kv).any fun x => decide (x.1 = (Sum.inl (k : Int) : Key))) = kv.any fun p => decide (p.1 = k) := by
  unfold emb
  rw [List.any_map]
  congr 1
  funext p
  show decide ((Sum.inl (p.1 : Int) : Key) = Sum.inl (k : Int)) = decide (p.1 = k)
  rw [Bool.eq_iff_iff, decide_eq_true_iff, decide_eq_true_iff, inl_eq]
theorem putD_emb (kv : List (Nat × Int)) (k : Nat) (v : Int) : putD (emb kv) (Sum.inl (k : Int)) (.int v) = emb (putN kv k v) := by
  unfold putD putN
  rw [any_emb]
  split
  · unfold emb
    rw [List.map_map, List.map_map]
    apply List.map_congr_left
    intro p _
    show (if (Sum.inl (p.1 : Int) : Key) = Sum.inl (k : Int) then ((Sum.inl (p.1 : Int) : Key), D.int v) else (Sum.inl (p.1 : Int), D.int p.2)) = _
    by_cases q : p.1 = k
    · rw [if_pos (inl_eq.mpr q)]
      simp [q]
    · rw [if_neg (fun z => q (inl_eq.mp z))]
      simp [q]
  · simp [emb]
theorem putN_len (kv : List (Nat × Int)) (k : Nat) (v : Int) : (putN kv k v).length ≤ kv.length + 1 := by
  unfold putN
  split <;> simp
theorem keys_put (kv : List (Nat × Int)) (k : Nat) (v : Int) (h : (kv.map (·.1)).Nodup) : ((putN kv k v).map (·.1)).Nodup ∧ ∀ x ∈ (putN kv k v).map (·.1), x ∈ kv.map (·.1) ∨ x = k := by
  unfold putN
  split
  · have e : (kv.map fun p => if p.1 = k then (p.1, v) else p).map (·.1) = kv.map (·.1) := by
      rw [List.map_map]
      apply List.map_congr_left
      intro p _
      show (if p.1 = k then (p.1, v) else p).1 = p.1
      split <;> rfl
    rw [e]
    exact ⟨h, fun x hx => .inl hx⟩
  · rename_i q
    rw [List.map_append, List.map_cons, List.map_nil]
    refine ⟨List.nodup_append.mpr ⟨h, by simp, fun a ha b hb => ?_⟩, fun x hx => ?_⟩
    · rw [List.mem_singleton.mp hb]
      intro z
      subst z
      obtain ⟨p, hp, e⟩ := List.mem_map.mp ha
      exact q (List.any_eq_true.mpr ⟨p, hp, decide_eq_true e⟩)
    · rcases List.mem_append.mp hx with y | y
      · exact .inl y
      · exact .inr (List.mem_singleton.mp y)
theorem pigeon : ∀ (m : Nat) (l : List Nat), l.Nodup → (∀ x ∈ l, x < m) → l.length ≤ m
  | 0, [], _, _ => by simp
  | 0, x :: l, _, h => by have := h x (by simp); omega
  | m + 1, l, hn, h => by
    by_cases q : m ∈ l
    · have h1 := pigeon m (l.erase m) (hn.erase m) (fun x hx => by
        have h2 := h x (List.mem_of_mem_erase hx)
        have h3 : x ≠ m := fun z => by
          subst z
          exact (List.Nodup.not_mem_erase hn) hx
        omega)
      rw [List.length_erase_of_mem q] at h1
      have := List.length_pos_of_mem q
      omega
    · have := pigeon m l hn (fun x hx => by
        have h2 := h x hx
        have h3 : x ≠ m := fun z => q (z ▸ hx)
        omega)
      omega
def nearS (p : Nat) (kv : List (Nat × Int)) (z : Ro) : List (Nat × Int) :=
  if z.1 = p ∨ z.2.1 = p then putN kv (z.1 + z.2.1 - p) (if (getN kv (z.1 + z.2.1 - p)).getD z.2.2 < z.2.2 then (getN kv (z.1 + z.2.1 - p)).getD z.2.2 else z.2.2) else kv
def near (rs : List Ro) (p : Nat) : List (Nat × Int) := rs.foldl (nearS p) []
theorem near_snoc (rs : List Ro) (z : Ro) (p : Nat) : near (rs ++ [z]) p = nearS p (near rs p) z := by
  unfold near
  rw [List.foldl_append]
  rfl
theorem near_keys {m : Nat} (p : Nat) : ∀ rs : List Ro, (∀ z ∈ rs, z.1 < m ∧ z.2.1 < m ∧ z.1 ≠ z.2.1 ∧ 1 ≤ z.2.2 ∧ z.2.2 ≤ 1000000) → ((near rs p).map (·.1)).Nodup ∧ ∀ x ∈ (near rs p).map (·.1), x < m := by
  intro rs
  have go : ∀ (l : List Ro) (kv : List (Nat × Int)), (∀ z ∈ l, z.1 < m ∧ z.2.1 < m ∧ z.1 ≠ z.2.1 ∧ 1 ≤ z.2.2 ∧ z.2.2 ≤ 1000000) → (kv.map (·.1)).Nodup → (∀ x ∈ kv.map (·.1), x < m) → ((l.foldl (nearS p) kv).map (·.1)).Nodup ∧ ∀ x ∈ (l.foldl (nearS p) kv).map (·.1), x < m := by
    intro l
    induction l with
    | nil => exact fun kv _ h1 h2 => ⟨h1, h2⟩
    | cons z l ih =>
      intro kv h h1 h2
      rw [List.foldl_cons]
      have hz := h z (by simp)
      refine ih _ (fun y hy => h y (by simp [hy])) ?_ ?_
      · unfold nearS
        split
        · exact (keys_put kv _ _ h1).1
        · exact h1
      · unfold nearS
        split
        · intro x hx
          rcases (keys_put kv _ _ h1).2 x hx with y | y
          · exact h2 x y
          · omega
        · exact h2
  exact fun h => go rs [] h (by simp) (by simp)
theorem intK_emb : ∀ kv : List (Nat × Int), intK ((emb kv).map (·.1)) = some (kv.map fun p => (p.1 : Int))
  | [] => rfl
  | p :: kv => by
    have ih := intK_emb kv
    unfold emb at ih ⊢
    rw [List.map_cons, List.map_cons, intK, ih]
    rfl
theorem getN_mem {kv : List (Nat × Int)} {k : Nat} (h : k ∈ kv.map (·.1)) : ∃ v, getN kv k = some v := by
  obtain ⟨p, hp, e⟩ := List.mem_map.mp h
  unfold getN
  cases q : kv.find? fun p => decide (p.1 = k) with
  | none =>
    have := List.find?_eq_none.mp q p hp
    simp at this
    exact absurd e this
  | some y => exact ⟨y.2, rfl⟩
theorem getN_none {kv : List (Nat × Int)} {k : Nat} (h : k ∉ kv.map (·.1)) : getN kv k = none := by
  unfold getN
  have : (kv.find? fun p => decide (p.1 = k)) = none := List.find?_eq_none.mpr fun p hp => by
    simp
    intro e
    exact h (List.mem_map.mpr ⟨p, hp, e⟩)
  rw [this]
  rfl
/-- sorted keys, as natural numbers -/
theorem isrt_nat (ks : List Nat) : ∃ ns : List Nat, isrt (ks.map fun (k : Nat) => (k : Int)) = ns.map (fun (k : Nat) => (k : Int)) ∧ ns.Perm ks := by
  have p := isrt_perm (ks.map fun (k : Nat) => (k : Int))
  refine ⟨(isrt (ks.map fun (k : Nat) => (k : Int))).map Int.toNat, ?_, ?_⟩
  · rw [List.map_map]
    conv => lhs; rw [← List.map_id (isrt (ks.map fun (k : Nat) => (k : Int)))]
    apply List.map_congr_left
    intro x hx
    obtain ⟨k, _, rfl⟩ := List.mem_map.mp (p.mem_iff.mp hx)
    simp
  · have := p.map Int.toNat
    rw [List.map_map] at this
    have e : (Int.toNat ∘ fun (k : Nat) => (k : Int)) = id := by funext k; simp
    rw [e, List.map_id] at this
    exact this
def prN (p : Nat × Int) : D := .tup [.int (p.1 : Int), .int p.2]
def srN (ks : List Nat) : List Nat := (isrt (ks.map fun (k : Nat) => (k : Int))).map Int.toNat
theorem srN_cast (ks : List Nat) : isrt (ks.map fun (k : Nat) => (k : Int)) = (srN ks).map fun (k : Nat) => (k : Int) := by
  obtain ⟨ns, h, _⟩ := isrt_nat ks
  have e : (ns.map fun (k : Nat) => (k : Int)).map Int.toNat = ns := by
    rw [List.map_map, show (Int.toNat ∘ fun (k : Nat) => (k : Int)) = id by funext k; simp, List.map_id]
  unfold srN
  rw [h, e]
theorem srN_perm (ks : List Nat) : (srN ks).Perm ks := by
  obtain ⟨ns, h, p⟩ := isrt_nat ks
  unfold srN
  rw [h, List.map_map, show (Int.toNat ∘ fun (k : Nat) => (k : Int)) = id by funext k; simp, List.map_id]
  exact p
theorem srN_sorted (ks : List Nat) : (srN ks).Pairwise (· ≤ ·) := by
  have h := isrt_sorted (ks.map fun (k : Nat) => (k : Int))
  rw [srN_cast, List.pairwise_map] at h
  exact h.imp fun q => by omega
/-- the roads from a place, rising -/
def prs (rs : List Ro) (p : Nat) : List (Nat × Int) := (srN ((near rs p).map (·.1))).map fun o => (o, (getN (near rs p) o).getD 0)
theorem roads_from_x {m : Nat} {rs : List Ro} (h : WebP m rs) (p : Nat) (S : Store) (hS : (S.all fun c => c.under S.length) = true) : Ens (F_roads_from [wbD m rs, .int (p : Int)] S) fun d S' => S' = S ∧ d = .lst ((prs rs p).map prN) := by
  have few := h.few
  have m60 := h.m60
  refine ens_fn rfl ?_
  unfold b_roads_from
  simp only [List.map_cons, List.map_nil, List.replicate, List.cons_append, List.nil_append]
  refine ens_sq (fun e S' => S' = S ++ [.dct (emb [])] ∧ e = [some (wbD m rs), some (.int (p : Int)), some (.cell S.length), none, none, none, none]) (fun R hR => ?_) ?_
  · simp only [ySet_app, xDct0, enso_out, ens_ok, enso_nx, List.set_cons_succ, List.set_cons_zero]
    exact hR _ _ ⟨rfl, rfl⟩
  rintro e S' ⟨rfl, rfl⟩
  have i1 : ∀ S, dIx (wbD m rs) (.int 1) S = .ok (.lst (rs.map roD)) S := fun S => by unfold wbD; simp
  refine ens_sq (fun e S' => S' = S ++ [.dct (emb (near rs p))] ∧ ∃ v3 v4 v5 v6, e = [some (wbD m rs), some (.int (p : Int)), some (.cell S.length), v3, v4, v5, v6]) (fun R hR => ?_) ?_
  · simp only [yFor_app, iSrc_app, xOp_app, xC_app, xVar_app, List.getElem?_cons_zero, Res.bind_ok, i1, srcL_lst, enso_out, ens_ok]
    refine ens_fr (fun i e S' => S' = S ++ [.dct (emb (near (rs.take i) p))] ∧ ∃ v3 v4 v5 v6, e = [some (wbD m rs), some (.int (p : Int)), some (.cell S.length), v3, v4, v5, v6]) ⟨rfl, _, _, _, _, rfl⟩ ?_ ?_
    · rintro i d e S' R2 hd ⟨rfl, v3, v4, v5, v6, rfl⟩ hR2
      rw [List.getElem?_map] at hd
      have hi : i < rs.length := by
        by_cases q : i < rs.length
        · exact q
        · rw [List.getElem?_eq_none (by omega)] at hd; cases hd
      rw [List.getElem?_eq_getElem hi] at hd
      cases hd
      have hz := h.ok rs[i] (List.getElem_mem _)
      have nx : near (rs.take (i + 1)) p = nearS p (near (rs.take i) p) rs[i] := by rw [List.take_succ_eq_append_getElem hi, near_snoc]
      have kl := near_keys (m := m) p (rs.take i) (fun z hz => h.ok z (List.mem_of_mem_take hz))
      have len := pigeon m _ kl.1 kl.2
      rw [List.length_map] at len
      generalize rs[i] = z at *
      generalize near (rs.take i) p = kv at *
      have c0 : (S ++ [.dct (emb kv)])[S.length]? = some (.dct (emb kv)) := app_at0 rfl
      have ck : cellK (.cell S.length) (S ++ [.dct (emb kv)]) = some (S.length, emb kv) := by simp only [cellK, c0]
      simp only [roD, gT_app, gsCons_app, gsNil_app, gN_app, Out.seq_nx, List.length_cons, List.length_nil, if_pos, enso_nx, List.set_cons_succ, List.set_cons_zero, yIf_app, xOr_app, xIsT_app, xOp_app, xVar_app, List.getElem?_cons_zero, List.getElem?_cons_succ, Res.bind_ok, dEq_int]
      have body : z.1 = p ∨ z.2.1 = p → EnsO ((ySeq (ySet 6 (xOp dSub (xOp (dAdd mkF) (xVar 3) (xVar 4)) (xVar 1)))
    (ySub (xFn bMin (xCons (xVar 5) (xCons (xGet2 (xVar 2) (xVar 6) (xVar 5)) xNil))) (xVar 2) (xVar 6) setK)) [some (wbD m rs), some (.int (p : Int)), some (.cell S.length), some (.int (z.1 : Int)), some (.int (z.2.1 : Int)), some (.int z.2.2), v6] (S ++ [.dct (emb kv)])) { nx := R2, ct := R2, bk := R, rt := fun d S' => Ens (fin false S.length d S') fun d S' => S' = S ∧ d = .lst ((prs rs p).map prN) } := fun hor => by
        have eo : ((z.1 : Int) + (z.2.1 : Int) - (p : Int)) = ((z.1 + z.2.1 - p : Nat) : Int) := by omega
        have nxs : nearS p kv z = putN kv (z.1 + z.2.1 - p) (if (getN kv (z.1 + z.2.1 - p)).getD z.2.2 < z.2.2 then (getN kv (z.1 + z.2.1 - p)).getD z.2.2 else z.2.2) := if_pos hor
        rw [nxs] at nx
        generalize z.1 + z.2.1 - p = o at *
        have vg : ((valD (emb kv) (Sum.inl (o : Int))).getD (.int z.2.2)) = .int ((getN kv o).getD z.2.2) := by
          rw [valD_emb]
          cases getN kv o <;> rfl
        have g2 : dGet (.cell S.length) (.int (o : Int)) (.int z.2.2) (S ++ [.dct (emb kv)]) = .ok (.int ((getN kv o).getD z.2.2)) (S ++ [.dct (emb kv)]) := by
          simp only [dGet, ck, keyD, vg]
        have ik : isK (.cell S.length) (S ++ [.dct (emb kv)]) = true := by unfold isK; rw [ck]; rfl
        have el : (emb kv).length < 16000000 := by unfold emb; rw [List.length_map]; omega
        simp only [ySeq_app, ySet_app, xOp_app, xVar_app, List.getElem?_cons_zero, List.getElem?_cons_succ, Res.bind_ok, dAdd_int, dSub_ok, eo, Res.out_ok, Out.seq_nx, List.set_cons_succ, List.set_cons_zero, ySub_app, xFn_app, xCons_app, xNil_app, xGet2, ik, if_true, g2, bMin_two, setK, ck, keyD, if_pos el, putD_emb, app_set0, enso_nx]
        refine hR2 _ _ ⟨?_, _, _, _, _, rfl⟩
        rw [nx]
      by_cases q1 : z.1 = p
      · simp only [decide_eq_true (show ((z.1 : Int) = (p : Int)) by omega), if_true, enso_out, ens_ok]
        exact body (.inl q1)
      · by_cases q2 : z.2.1 = p
        · simp only [decide_eq_false (show ¬ ((z.1 : Int) = (p : Int)) by omega), decide_eq_true (show ((z.2.1 : Int) = (p : Int)) by omega), Bool.false_eq_true, if_false, if_true, enso_out, ens_ok]
          exact body (.inr q2)
        · simp only [decide_eq_false (show ¬ ((z.1 : Int) = (p : Int)) by omega), decide_eq_false (show ¬ ((z.2.1 : Int) = (p : Int)) by omega), Bool.false_eq_true, if_false, enso_out, ens_ok, yNil_app, enso_nx]
          have nxs : nearS p kv z = kv := if_neg (by simp [q1, q2])
          rw [nxs] at nx
          exact hR2 _ _ ⟨by rw [nx], _, _, _, _, rfl⟩
    · rintro e S' ⟨rfl, v3, v4, v5, v6, rfl⟩
      rw [List.length_map, List.take_length]
      exact hR _ _ ⟨rfl, _, _, _, _, rfl⟩
  rintro e S' ⟨rfl, v3, v4, v5, v6, rfl⟩
  have kl := near_keys (m := m) p rs h.ok
  have len := pigeon m _ kl.1 kl.2
  rw [List.length_map] at len
  unfold prs
  generalize near rs p = kv at *
  have c0 : (S ++ [.dct (emb kv)])[S.length]? = some (.dct (emb kv)) := app_at0 rfl
  have ck : cellK (.cell S.length) (S ++ [.dct (emb kv)]) = some (S.length, emb kv) := by simp only [cellK, c0]
  have e1 := srN_cast (kv.map (·.1))
  have e2 := srN_perm (kv.map (·.1))
  generalize srN (kv.map (·.1)) = os at *
  rw [List.map_map] at e1
  have ol : os.length = kv.length := by rw [e2.length_eq, List.length_map]
  have so : bSortK mkF [.cell S.length] (S ++ [.dct (emb kv)]) = .ok (.lst (os.map fun (k : Nat) => D.int (k : Int))) (S ++ [.dct (emb kv)]) := by
    have e3 : (kv.map fun q => (q.1 : Int)) = kv.map ((fun (k : Nat) => (k : Int)) ∘ fun q => q.1) := rfl
    simp only [bSortK, ck, intK_emb, List.length_map]
    rw [if_pos (by omega), mkF_app, e3, e1, List.map_map]
    rfl
  have gv : ∀ o ∈ os, ∃ v, getN kv o = some v := fun o ho => getN_mem (e2.mem_iff.mp ho)
  have hc : lcL (fun _ => True) (eN 6) cYes (xTup (xCons (xVar 6) (xCons (xOp dKx (xVar 2) (xVar 6)) xNil))) [some (wbD m rs), some (.int (p : Int)), some (.cell S.length), v3, v4, v5, none] (os.map fun (k : Nat) => D.int (k : Int)) [] (S ++ [.dct (emb kv)]) = .ok ([] ++ os.map fun o => prN (o, (getN kv o).getD 0)) (S ++ [.dct (emb kv)]) := by
    refine lc_map (fun (k : Nat) => D.int (k : Int)) (fun o => prN (o, (getN kv o).getD 0)) os [] (fun o ho => ⟨_, rfl, ?_⟩) (by simp; omega)
    obtain ⟨v, hv⟩ := gv o ho
    have dk : dKx (.cell S.length) (.int (o : Int)) (S ++ [.dct (emb kv)]) = .ok (.int v) (S ++ [.dct (emb kv)]) := by
      simp only [dKx, ck, keyD, valD_emb, hv, Option.map_some]
    simp only [List.set_cons_succ, List.set_cons_zero, xTup_app, xCons_app, xNil_app, xOp_app, xVar_app, List.getElem?_cons_zero, List.getElem?_cons_succ, Res.bind_ok, dk, List.length_cons, List.length_nil, if_pos (show 0 + 1 + 1 ≤ 1000 by decide), hv]
    rfl
  simp only [yRet_app, xLc_app, iSrc_app, xFn_app, xCons_app, xNil_app, xVar_app, List.getElem?_cons_zero, List.getElem?_cons_succ, Res.bind_ok, so, srcL_lst, wipeE_cons, wipeE_nil, List.set_cons_succ, List.set_cons_zero, hc, mkF_app, Res.out_ok, enso_rt, List.nil_append]
  rw [fin_cut rfl hS (by
    rw [D.under]
    exact underL_of fun d hd => by
      obtain ⟨z, _, rfl⟩ := List.mem_map.mp hd
      rfl), ens_ok]
  exact ⟨rfl, by rw [List.map_map]; rfl⟩
theorem prs_mem {m : Nat} {rs : List Ro} (h : WebP m rs) (p : Nat) : (∀ q ∈ prs rs p, getN (near rs p) q.1 = some q.2) ∧ (∀ o v, getN (near rs p) o = some v → (o, v) ∈ prs rs p) ∧ (prs rs p).length ≤ 60 ∧ ((prs rs p).map (·.1)).Pairwise (· < ·) ∧ ∀ q ∈ prs rs p, q.1 < m := by
  have kl := near_keys (m := m) p rs h.ok
  have len := pigeon m _ kl.1 kl.2
  have m60 := h.m60
  rw [List.length_map] at len
  have sp := srN_perm ((near rs p).map (·.1))
  have sl := sp.length_eq
  rw [List.length_map] at sl
  refine ⟨fun q hq => ?_, fun o v hv => ?_, by unfold prs; rw [List.length_map]; omega, ?_, fun q hq => ?_⟩
  · unfold prs at hq
    obtain ⟨o, ho, rfl⟩ := List.mem_map.mp hq
    obtain ⟨v, hv⟩ := getN_mem (sp.mem_iff.mp ho)
    show getN (near rs p) o = some ((getN (near rs p) o).getD 0)
    rw [hv]
    rfl
  · refine List.mem_map.mpr ⟨o, sp.mem_iff.mpr ?_, by show (o, (getN (near rs p) o).getD 0) = (o, v); rw [hv]; rfl⟩
    by_cases q : o ∈ (near rs p).map (·.1)
    · exact q
    · rw [getN_none q] at hv
      cases hv
  · unfold prs
    rw [List.map_map, show ((fun x : Nat × Int => x.1) ∘ fun o => (o, (getN (near rs p) o).getD 0)) = id by funext o; rfl, List.map_id]
    have nd := sp.symm.nodup kl.1
    have so := srN_sorted ((near rs p).map (·.1))
    exact (List.pairwise_and_iff.mpr ⟨so, nd⟩).imp fun ⟨a, b⟩ => Nat.lt_of_le_of_ne a b
  · unfold prs at hq
    obtain ⟨o, ho, rfl⟩ := List.mem_map.mp hq
    exact kl.2 _ (sp.mem_iff.mp ho)
theorem roads_from_ok {m : Nat} {rs : List Ro} (h : WebP m rs) (p : Nat) (S : Store) (hS : (S.all fun c => c.under S.length) = true) : Ens (F_roads_from [wbD m rs, .int (p : Int)] S) fun d S' => S' = S ∧ ∃ L : List (Nat × Int), d = .lst (L.map prN) ∧ (∀ q ∈ L, getN (near rs p) q.1 = some q.2) ∧ (∀ o v, getN (near rs p) o = some v → (o, v) ∈ L) ∧ L.length ≤ 60 := by
  obtain ⟨a, b, c, _⟩ := prs_mem h p
  refine (roads_from_x h p S hS).imp ?_
  rintro d S' ⟨rfl, rfl⟩
  exact ⟨rfl, _, rfl, a, b, c⟩
theorem inFl_nat (x : Nat) : ∀ l : List Nat, inFl (.int (x : Int)) (l.map fun (m : Nat) => D.int (m : Int)) = decide (x ∈ l)
  | [] => by simp [inFl]
  | y :: l => by
    have ih := inFl_nat x l
    unfold inFl at ih ⊢
    rw [List.map_cons, List.any_cons, ih]
    by_cases q : x = y
    · subst q; simp [eqFl]
    · have q2 : ¬ ((y : Int) = (x : Int)) := by omega
      simp [eqFl, q, q2]
theorem all_flat (l : List Nat) : (l.map fun (m : Nat) => D.int (m : Int)).all flatD = true := by
  rw [List.all_map, List.all_eq_true]
  intro x _
  rfl
theorem notIn_nat {S : Store} {n : Nat} {l : List Nat} (h : S[n]? = some (.lst (l.map fun (m : Nat) => D.int (m : Int)))) (x : Nat) : dNotIn (.int (x : Int)) (.cell n) S = .ok (.bl (!decide (x ∈ l))) S := by
  have g : getI (.cell n) S = some (l.map fun (m : Nat) => D.int (m : Int)) := by simp [getI, getL, h]
  unfold dNotIn dInX
  rw [g]
  simp only [inFl_nat]
  rw [if_pos ⟨rfl, all_flat l⟩]
  rfl
theorem is_road_ok {m : Nat} {z : Ro} (h : z.1 < m ∧ z.2.1 < m ∧ z.1 ≠ z.2.1 ∧ 1 ≤ z.2.2 ∧ z.2.2 ≤ 1000000) (S : Store) : F_is_road [.int (m : Int), roD z] S = .ok (.bl true) S := by
  obtain ⟨h1, h2, h3, h4, h5⟩ := h
  rw [← ens_eq]
  refine ens_fn rfl ?_
  unfold b_is_road roD
  simp only [List.map_cons, List.map_nil, List.replicate, List.cons_append, List.nil_append]
  refine ens_sq (fun e S' => S' = S ∧ e = [some (.int (m : Int)), some (.tup [.int (z.1 : Int), .int (z.2.1 : Int), .int z.2.2]), some (.int (z.1 : Int)), some (.int (z.2.1 : Int)), some (.int z.2.2)]) (fun R hR => ?_) ?_
  · simp [gT, gsCons, gsNil, gN, Out.seq]
    exact hR _ _ ⟨rfl, rfl⟩
  rintro e S' ⟨rfl, rfl⟩
  refine ens_sq (fun e S2 => S2 = S' ∧ e = [some (.int (m : Int)), some (.tup [.int (z.1 : Int), .int (z.2.1 : Int), .int z.2.2]), some (.int (z.1 : Int)), some (.int (z.2.1 : Int)), some (.int z.2.2)]) (fun R hR => ?_) ?_
  · have n1 : ¬ ((if (z.2.1 : Int) < (z.1 : Int) then (z.2.1 : Int) else (z.1 : Int)) < 0) := by split <;> omega
    have n2 : ¬ ((m : Int) ≤ (if (z.2.1 : Int) > (z.1 : Int) then (z.2.1 : Int) else (z.1 : Int))) := by split <;> omega
    have n3 : ¬ ((z.1 : Int) = (z.2.1 : Int)) := by omega
    simp only [yIf_app, xOr_app, xIsT_app, xOp_app, xFn_app, xCons_app, xNil_app, xC_app, xVar_app, List.getElem?_cons_zero, List.getElem?_cons_succ, Res.bind_ok, bMin_two, bMax_two, dLt_ok, dGe_ok, dEq_int, decide_eq_false n1, decide_eq_false n2, decide_eq_false n3, Bool.false_eq_true, if_false, enso_out, ens_ok, yNil_app, enso_nx]
    exact hR _ _ ⟨rfl, rfl⟩
  rintro e S2 ⟨rfl, rfl⟩
  simp [h4, h5]
/-- what the search has: places, each once; those below at have all their neighbours in -/
def Rch (rs : List Ro) (k : Nat) : Prop := ∀ R : Nat → Prop, R 0 → (∀ z ∈ rs, R z.1 ↔ R z.2.1) → R k
structure RowI (m : Nat) (rs : List Ro) (row : List Nat) (at' : Nat) : Prop where
  nd : row.Nodup
  lt : ∀ x ∈ row, x < m
  zero : 0 ∈ row
  re : ∀ x ∈ row, Rch rs x
  cl : ∀ (i : Nat) (h : i < row.length), i < at' → ∀ o v, getN (near rs row[i]) o = some v → o ∈ row
theorem near_key_lt {m : Nat} {rs : List Ro} (h : WebP m rs) {p o : Nat} {v : Int} (e : getN (near rs p) o = some v) : o < m := by
  by_cases q : o ∈ (near rs p).map (·.1)
  · exact (near_keys (m := m) p rs h.ok).2 o q
  · rw [getN_none q] at e; cases e
theorem getN_put (kv : List (Nat × Int)) (k : Nat) (v : Int) (j : Nat) : getN (putN kv k v) j = if j = k then some v else getN kv j := by
  unfold putN getN
  induction kv with
  | nil =>
    simp
    by_cases q : k = j
    · subst q; simp
    · simp [q]
      exact fun z => q z.symm
  | cons p kv ih => 
    by_cases a : (((p :: kv).any fun p => decide (p.1 = k)) = true)
    · rw [if_pos a]
      by_cases q : p.1 = k
      · by_cases w : j = k
        · subst w
          simp [q]
        · have w2 : ¬ k = j := fun z => w z.symm
          have : (kv.map fun p => if p.1 = k then (p.1, v) else p).find? (fun p => decide (p.1 = j)) = kv.find? fun p => decide (p.1 = j) := by
            clear ih a
            induction kv with
            | nil => rfl
            | cons y kv ih2 =>
              rw [List.map_cons, List.find?_cons, List.find?_cons]
              by_cases c : y.1 = k
              · have c2 : ¬ y.1 = j := fun z => w (z.symm.trans c)
                rw [if_pos c]
                simp only [c2, decide_false]
                exact ih2
              · rw [if_neg c]
                by_cases c3 : y.1 = j
                · simp [c3]
                · simp only [c3, decide_false]; exact ih2
          rw [List.map_cons, if_pos q, List.find?_cons, List.find?_cons]
          have q2 : ¬ p.1 = j := fun z => w (z.symm.trans q)
          simp only [q2, decide_false]
          rw [this, if_neg w]
      · have a2 : (kv.any fun p => decide (p.1 = k)) = true := by
          rw [List.any_cons, decide_eq_false q, Bool.false_or] at a
          exact a
        rw [if_pos a2] at ih
        rw [List.map_cons, if_neg q, List.find?_cons, List.find?_cons]
        by_cases w : p.1 = j
        · have w2 : ¬ j = k := fun z => q (w.trans z)
          simp [w, w2]
        · simp only [w, decide_false]
          exact ih
    · rw [if_neg a]
      have q : ¬ p.1 = k := fun z => a (List.any_eq_true.mpr ⟨p, by simp, decide_eq_true z⟩)
      have a2 : ¬ (kv.any fun p => decide (p.1 = k)) = true := fun z => by
        rw [List.any_cons, z, Bool.or_true] at a
        exact a rfl
      rw [if_neg a2] at ih
      rw [List.cons_append, List.find?_cons, List.find?_cons]
      by_cases w : p.1 = j
      · have w2 : ¬ j = k := fun z => q (w.trans z)
        simp [w, w2]
      · simp only [w, decide_false]
        exact ih
/-- neighbours have a road -/
theorem road_of_near {rs : List Ro} {p o : Nat} {v : Int} (e : getN (near rs p) o = some v) : ∃ z ∈ rs, (z.1 = p ∧ z.2.1 = o) ∨ (z.2.1 = p ∧ z.1 = o) := by
  have go : ∀ (l : List Ro) (kv : List (Nat × Int)), (∀ o v, getN kv o = some v → ∃ z ∈ rs, (z.1 = p ∧ z.2.1 = o) ∨ (z.2.1 = p ∧ z.1 = o)) → (∀ z ∈ l, z ∈ rs) → ∀ o v, getN (l.foldl (nearS p) kv) o = some v → ∃ z ∈ rs, (z.1 = p ∧ z.2.1 = o) ∨ (z.2.1 = p ∧ z.1 = o) := by
    intro l
    induction l with
    | nil => exact fun kv h _ => h
    | cons y l ih =>
      intro kv h hs
      rw [List.foldl_cons]
      refine ih _ (fun o v q => ?_) (fun z hz => hs z (by simp [hz]))
      unfold nearS at q
      split at q
      · rename_i c
        rw [getN_put] at q
        split at q
        · rename_i eo
          refine ⟨y, hs y (by simp), ?_⟩
          rcases c with c | c
          · left; omega
          · right; omega
        · exact h o v q
      · exact h o v q
  exact go rs [] (fun o v q => by simp [getN] at q) (fun z hz => hz) o v e
theorem Rch.near {rs : List Ro} {p o : Nat} {v : Int} (h : Rch rs p) (e : getN (near rs p) o = some v) : Rch rs o := fun R h0 hr => by
  obtain ⟨z, hz, ⟨e1, e2⟩ | ⟨e1, e2⟩⟩ := road_of_near e
  · rw [← e2]; exact (hr z hz).mp (by rw [e1]; exact h R h0 hr)
  · rw [← e2]; exact (hr z hz).mpr (by rw [e1]; exact h R h0 hr)
/-- a road makes neighbours -/
theorem near_of_road {rs : List Ro} {z : Ro} (hz : z ∈ rs) : (∃ v, getN (near rs z.1) z.2.1 = some v) ∧ ∃ v, getN (near rs z.2.1) z.1 = some v := by
  have step : ∀ (p : Nat) (kv : List (Nat × Int)) (y : Ro) (o : Nat), (∃ v, getN kv o = some v) → ∃ v, getN (nearS p kv y) o = some v := fun p kv y o ⟨v, e⟩ => by
    unfold nearS
    split
    · rw [getN_put]
      split
      · exact ⟨_, rfl⟩
      · exact ⟨v, e⟩
    · exact ⟨v, e⟩
  have here : ∀ (p o : Nat) (kv : List (Nat × Int)), (z.1 = p ∧ z.2.1 = o) ∨ (z.2.1 = p ∧ z.1 = o) → ∃ v, getN (nearS p kv z) o = some v := fun p o kv h => by
    unfold nearS
    have e : z.1 + z.2.1 - p = o := by omega
    rw [if_pos (by omega), e, getN_put, if_pos rfl]
    exact ⟨_, rfl⟩
  have go : ∀ (p o : Nat), (z.1 = p ∧ z.2.1 = o) ∨ (z.2.1 = p ∧ z.1 = o) → ∀ (l : List Ro) (kv : List (Nat × Int)), (z ∈ l ∨ ∃ v, getN kv o = some v) → ∃ v, getN (l.foldl (nearS p) kv) o = some v := by
    intro p o h l
    induction l with
    | nil => 
      intro kv q
      rcases q with q | q
      · simp at q
      · exact q
    | cons y l ih =>
      intro kv q
      rw [List.foldl_cons]
      refine ih _ ?_
      rcases q with q | q
      · rcases List.mem_cons.mp q with e | e
        · subst e
          exact .inr (here p o kv h)
        · exact .inl e
      · exact .inr (step p kv y o q)
  exact ⟨go z.1 z.2.1 (.inl ⟨rfl, rfl⟩) rs [] (.inl hz), go z.2.1 z.1 (.inr ⟨rfl, rfl⟩) rs [] (.inl hz)⟩
theorem row_all {m : Nat} {rs : List Ro} (h : WebOk m rs) {row : List Nat} (r : RowI m rs row row.length) : row.length = m := by
  have closed : ∀ x ∈ row, ∀ o v, getN (near rs x) o = some v → o ∈ row := fun x hx o v e => by
    obtain ⟨i, hi, rfl⟩ := List.getElem_of_mem hx
    exact r.cl i hi hi o v e
  have all := h.conn (fun k => k ∈ row) r.zero (fun z hz => by
    obtain ⟨⟨v, e⟩, ⟨u, f⟩⟩ := near_of_road hz
    exact ⟨fun q => closed _ q _ _ e, fun q => closed _ q _ _ f⟩)
  have h1 := pigeon m row r.nd r.lt
  have h2 : m ≤ row.length := by
    have sub := List.nodup_range (n := m)
    have : ((List.range m).filter fun x => decide (x ∈ row)).length = m := by
      rw [List.filter_eq_self.mpr fun x hx => decide_eq_true (all x (List.mem_range.mp hx)), List.length_range]
    have p : ∀ (l s : List Nat), l.Nodup → (∀ x ∈ l, x ∈ s) → l.length ≤ s.length := by
      intro l
      induction l with
      | nil => intro s _ _; simp
      | cons a l ih =>
        intro s hn hs
        have ha := hs a (by simp)
        have hn2 := List.nodup_cons.mp hn
        have := ih (s.erase a) hn2.2 (fun x hx => by
          have hne : x ≠ a := fun z => hn2.1 (z ▸ hx)
          exact (List.mem_erase_of_ne hne).mpr (hs x (by simp [hx])))
        rw [List.length_erase_of_mem ha] at this
        have := List.length_pos_of_mem ha
        rw [List.length_cons]
        omega
    have := p (List.range m) row sub (fun x hx => all x (List.mem_range.mp hx))
    rwa [List.length_range] at this
  omega
theorem reached_all {m : Nat} {rs : List Ro} (h : WebP m rs) (S : Store) (hS : (S.all fun c => c.under S.length) = true) : Ens (F_reached [wbD m rs] S) fun d S' => S' = S ∧ ∃ row : List Nat, d = .lst (row.map fun (k : Nat) => D.int (k : Int)) ∧ RowI m rs row row.length := by
  have m60 := h.m60
  have hm1 := h.m1
  refine ens_fn rfl ?_
  unfold b_reached
  simp only [List.map_cons, List.map_nil, List.replicate, List.cons_append, List.nil_append]
  refine ens_sq (fun e S' => S' = S ++ [.lst (([0] : List Nat).map fun (k : Nat) => D.int (k : Int))] ∧ e = [some (wbD m rs), some (.cell S.length), none, none, none]) (fun R hR => ?_) ?_
  · simp
    exact hR _ _ ⟨rfl, rfl⟩
  rintro e S' ⟨rfl, rfl⟩
  refine ens_sq (fun e S' => S' = S ++ [.lst (([0] : List Nat).map fun (k : Nat) => D.int (k : Int))] ∧ e = [some (wbD m rs), some (.cell S.length), some (.int ((0 : Nat) : Int)), none, none]) (fun R hR => ?_) ?_
  · simp
    exact hR _ _ ⟨rfl, rfl⟩
  rintro e S' ⟨rfl, rfl⟩
  refine ens_sq (fun e S' => ∃ (row : List Nat) (v2 v3 v4 : Option D), RowI m rs row row.length ∧ S' = S ++ [.dead] ∧ e = [some (wbD m rs), some (.lst (row.map fun (k : Nat) => D.int (k : Int))), v2, v3, v4]) (fun R hR => ?_) ?_
  · refine ens_sq (fun e S' => ∃ (row : List Nat) (v2 v3 v4 : Option D), RowI m rs row row.length ∧ S' = S ++ [.lst (row.map fun (k : Nat) => D.int (k : Int))] ∧ e = [some (wbD m rs), some (.cell S.length), v2, v3, v4]) (fun R2 hR2 => ?_) ?_
    · refine ens_while (fun e S' => ∃ (row : List Nat) (a : Nat) (v3 v4 : Option D), RowI m rs row a ∧ a ≤ row.length ∧ S' = S ++ [.lst (row.map fun (k : Nat) => D.int (k : Int))] ∧ e = [some (wbD m rs), some (.cell S.length), some (.int (a : Int)), v3, v4]) (fun e S' => match e[2]? with | some (some (D.int a)) => m - a.toNat | _ => 0) ?_ ⟨[0], 0, none, none, ⟨by simp, fun x hx => by rw [List.mem_singleton.mp hx]; omega, by simp, fun x hx => by rw [List.mem_singleton.mp hx]; exact fun R r0 _ => r0, fun i hi h0 => by omega⟩, by simp, rfl, rfl⟩
      rintro e S' ⟨row, a, v3, v4, hr, ha, rfl, rfl⟩
      have c0 : (S ++ [Cn.lst (row.map fun (k : Nat) => D.int (k : Int))])[S.length]? = some (.lst (row.map fun (k : Nat) => D.int (k : Int))) := app_at0 rfl
      have bl : bLen [.cell S.length] (S ++ [Cn.lst (row.map fun (k : Nat) => D.int (k : Int))]) = .ok (.int row.length) (S ++ [Cn.lst (row.map fun (k : Nat) => D.int (k : Int))]) := by simp [bLen, getQ, getL, c0]
      have rl := pigeon m row hr.nd hr.lt
      simp only [xIsT_app, xOp_app, xFn_app, xCons_app, xNil_app, xVar_app, List.getElem?_cons_zero, List.getElem?_cons_succ, Res.bind_ok, bl, dLt_ok, ens_ok, decide_eq_true_iff, decide_eq_false_iff_not]
      refine ⟨fun hlt => ?_, fun hnl => ?_⟩
      · have hlt2 : a < row.length := by omega
        have ix : dIx (.cell S.length) (.int (a : Int)) (S ++ [Cn.lst (row.map fun (k : Nat) => D.int (k : Int))]) = .ok (.int (row[a] : Int)) (S ++ [Cn.lst (row.map fun (k : Nat) => D.int (k : Int))]) := by
          rw [cell_nat' c0 hlt2]
        have un : ((S ++ [Cn.lst (row.map fun (k : Nat) => D.int (k : Int))]).all fun c => c.under (S ++ [Cn.lst (row.map fun (k : Nat) => D.int (k : Int))]).length) = true := under_app hS row
        refine ens_sq (fun e S' => ∃ (row' : List Nat) (v3 v4 : Option D), RowI m rs row' (a + 1) ∧ row.length ≤ row'.length ∧ S' = S ++ [.lst (row'.map fun (k : Nat) => D.int (k : Int))] ∧ e = [some (wbD m rs), some (.cell S.length), some (.int (a : Int)), v3, v4]) (fun R3 hR3 => ?_) ?_
        · simp only [yFor_app, iSrc_app, xFn_app, xCons_app, xNil_app, xOp_app, xVar_app, List.getElem?_cons_zero, List.getElem?_cons_succ, Res.bind_ok, ix, enso_out, ens_bind]
          refine (roads_from_ok h row[a] _ un).imp ?_
          rintro d S2 ⟨rfl, L, rfl, q1, q2, q3⟩
          simp only [srcL_lst, ens_ok]
          refine ens_fr (fun j e S' => ∃ (ex : List Nat) (v3 v4 : Option D), (row ++ ex).Nodup ∧ (∀ x ∈ row ++ ex, x < m) ∧ (∀ q ∈ L.take j, q.1 ∈ row ++ ex) ∧ (∀ x ∈ row ++ ex, Rch rs x) ∧ S' = S ++ [.lst ((row ++ ex).map fun (k : Nat) => D.int (k : Int))] ∧ e = [some (wbD m rs), some (.cell S.length), some (.int (a : Int)), v3, v4]) ⟨[], v3, v4, by simpa using hr.nd, by simpa using hr.lt, by simp, by simpa using hr.re, by simp, rfl⟩ ?_ ?_
          · rintro j d e S' R4 hd ⟨ex, v3, v4, e1, e2, e3, e4, rfl, rfl⟩ hR4
            rw [List.getElem?_map] at hd
            have hj : j < L.length := by
              by_cases q : j < L.length
              · exact q
              · rw [List.getElem?_eq_none (by omega)] at hd; cases hd
            rw [List.getElem?_eq_getElem hj] at hd
            cases hd
            have hq := q1 L[j] (List.getElem_mem _)
            have hlt := near_key_lt h hq
            have tk : L.take (j + 1) = L.take j ++ [L[j]] := List.take_succ_eq_append_getElem hj
            generalize L[j] = q at *
            have rl2 := pigeon m _ e1 e2
            have c1 : (S ++ [Cn.lst ((row ++ ex).map fun (k : Nat) => D.int (k : Int))])[S.length]? = some (.lst ((row ++ ex).map fun (k : Nat) => D.int (k : Int))) := app_at0 rfl
            simp only [prN, gT_app, gsCons_app, gsNil_app, gN_app, Out.seq_nx, List.length_cons, List.length_nil, if_pos, enso_nx, List.set_cons_succ, List.set_cons_zero, yIf_app, xIsT_app, xOp_app, xVar_app, List.getElem?_cons_zero, List.getElem?_cons_succ, Res.bind_ok, notIn_nat c1 q.1, enso_out, ens_ok]
            by_cases hm : q.1 ∈ row ++ ex
            · simp only [decide_eq_true hm, Bool.not_true, Bool.false_eq_true, if_false, yNil_app, enso_nx]
              refine hR4 _ _ ⟨ex, _, _, e1, e2, fun y hy => ?_, e4, rfl, rfl⟩
              rw [tk] at hy
              rcases List.mem_append.mp hy with w | w
              · exact e3 y w
              · rw [List.mem_singleton.mp w]; exact hm
            · have hre : Rch rs q.1 := (hr.re row[a] (List.getElem_mem _)).near hq
              have al : (row ++ ex).length < 16000000 := by omega
              simp only [decide_eq_false hm, Bool.not_false, if_true, yExpr_app, xMt_app, xVar_app, xCons_app, xNil_app, List.getElem?_cons_zero, List.getElem?_cons_succ, Res.bind_ok, isT, c1, beq_self_eq_true, mAppend, cellL, List.length_map, if_pos al, app_set0, enso_out, ens_ok, enso_nx]
              refine hR4 _ _ ⟨ex ++ [q.1], _, _, ?_, ?_, ?_, ?_, ?_, rfl⟩
              · rw [← List.append_assoc]
                exact List.nodup_append.mpr ⟨e1, by simp, fun x hx y hy => by rw [List.mem_singleton.mp hy]; intro z; exact hm (z ▸ hx)⟩
              · intro x hx
                rw [← List.append_assoc] at hx
                rcases List.mem_append.mp hx with w | w
                · exact e2 x w
                · rw [List.mem_singleton.mp w]; exact hlt
              · intro y hy
                rw [← List.append_assoc]
                rw [tk] at hy
                rcases List.mem_append.mp hy with w | w
                · exact List.mem_append_left _ (e3 y w)
                · rw [List.mem_singleton.mp w]; simp
              · intro x hx
                rw [← List.append_assoc] at hx
                rcases List.mem_append.mp hx with w | w
                · exact e4 x w
                · rw [List.mem_singleton.mp w]; exact hre
              · simp
          · rintro e S' ⟨ex, v3, v4, e1, e2, e3, e4, rfl, rfl⟩
            rw [List.length_map, List.take_length] at e3
            refine hR3 _ _ ⟨row ++ ex, _, _, ⟨e1, e2, List.mem_append_left _ hr.zero, e4, fun i hi hia o v e => ?_⟩, by simp, rfl, rfl⟩
            by_cases q : i < a
            · rw [List.getElem_append_left (by omega)] at e
              exact List.mem_append_left _ (hr.cl i (by omega) q o v e)
            · have : i = a := by omega
              subst this
              rw [List.getElem_append_left hlt2] at e
              exact e3 (o, v) (q2 o v e)
        rintro e S' ⟨row', v3, v4, hr', hl', rfl, rfl⟩
        simp only [yAug_app, xVar_app, xC_app, List.getElem?_cons_zero, List.getElem?_cons_succ, Res.bind_ok, ipAdd_ok, enso_out, ens_ok, enso_nx, List.set_cons_succ, List.set_cons_zero]
        exact ⟨⟨row', a + 1, v3, v4, hr', by omega, rfl, by simp⟩, by omega⟩
      · have e : a = row.length := by omega
        subst e
        exact hR2 _ _ ⟨row, _, _, _, hr, rfl, rfl⟩
    rintro e S' ⟨row, v2, v3, v4, hl, rfl, rfl⟩
    simp [frzE, frz, app_at0, app_set0]
    exact hR _ _ ⟨row, _, _, _, hl, rfl, rfl⟩
  rintro e S' ⟨row, v2, v3, v4, hl, rfl, rfl⟩
  simp
  rw [fin_cut rfl hS (under_nats row), ens_ok]
  exact ⟨rfl, row, rfl, hl⟩
theorem reached_ok {m : Nat} {rs : List Ro} (h : WebOk m rs) (S : Store) (hS : (S.all fun c => c.under S.length) = true) : Ens (F_reached [wbD m rs] S) fun d S' => S' = S ∧ ∃ row : List Nat, d = .lst (row.map fun (k : Nat) => D.int (k : Int)) ∧ row.length = m :=
  (reached_all h.toWebP S hS).imp fun d S' ⟨h1, row, h2, h3⟩ => ⟨h1, row, h2, row_all h h3⟩
theorem look_web_ok {m : Nat} {rs : List Ro} (h : WebOk m rs) (S : Store) (hS : (S.all fun c => c.under S.length) = true) : Ens (F_look_web [wbD m rs] S) fun d S' => d = .non ∧ S' = S := by
  have m60 := h.m60
  have hm1 := h.m1
  have few := h.few
  refine ens_fn rfl ?_
  unfold b_look_web
  simp only [List.map_cons, List.map_nil, List.replicate, List.cons_append, List.nil_append]
  refine ens_sq (fun e S' => S' = S ∧ e = [some (wbD m rs), some (.int (m : Int)), some (.lst (rs.map roD)), none, none]) (fun R hR => ?_) ?_
  · simp [wbD, gT, gsCons, gsNil, gN, Out.seq]
    exact hR _ _ ⟨rfl, rfl⟩
  rintro e S' ⟨rfl, rfl⟩
  refine ens_sq (fun e S2 => S2 = S' ∧ ∃ v3 v4, e = [some (wbD m rs), some (.int (m : Int)), some (.lst (rs.map roD)), v3, v4]) (fun R hR => ?_) ?_
  · simp only [yFor_app, iSrcA_app, xCons_app, xNil_app, xVar_app, List.getElem?_cons_zero, List.getElem?_cons_succ, Res.bind_ok, srcEnum_lst, enso_out, ens_ok]
    refine ens_fr (fun i e S2 => S2 = S' ∧ ∃ v3 v4, e = [some (wbD m rs), some (.int (m : Int)), some (.lst (rs.map roD)), v3, v4]) ⟨rfl, _, _, rfl⟩ ?_ ?_
    · rintro i d e S2 R2 hd ⟨rfl, v3, v4, rfl⟩ hR2
      have hi : i < rs.length := by
        by_cases q : i < rs.length
        · exact q
        · rw [List.getElem?_eq_none (by simp; omega)] at hd; cases hd
      rw [List.getElem?_map, List.getElem?_eq_getElem (by simp; omega), Option.map_some, List.getElem_zipIdx, List.getElem_map] at hd
      cases hd
      have ro := is_road_ok (h.ok rs[i] (List.getElem_mem _))
      simp only [gT_app, gsCons_app, gsNil_app, gN_app, Out.seq_nx, List.length_cons, List.length_nil, if_pos, enso_nx, List.set_cons_succ, List.set_cons_zero, yIf_app, xNot_app, xTru_app, xFn_app, xCons_app, xNil_app, xVar_app, List.getElem?_cons_zero, List.getElem?_cons_succ, Res.bind_ok, ro, tru_bl, Bool.not_true, Bool.false_eq_true, if_false, enso_out, ens_ok, yNil_app]
      exact hR2 _ _ ⟨rfl, _, _, rfl⟩
    · rintro e S2 ⟨rfl, v3, v4, rfl⟩
      exact hR _ _ ⟨rfl, _, _, rfl⟩
  rintro e S2 ⟨rfl, v3, v4, rfl⟩
  refine ens_sq (fun e S3 => S3 = S2 ∧ e = [some (wbD m rs), some (.int (m : Int)), some (.lst (rs.map roD)), v3, v4]) (fun R hR => ?_) ?_
  · have n1 : ¬ ((m : Int) < 1) := by omega
    have n2 : ¬ ((60 : Int) < (m : Int)) := by omega
    have n3 : ¬ ((120 : Int) < (rs.length : Int)) := by omega
    simp only [yIf_app, xOr_app, xIsT_app, xOp_app, xFn_app, xCons_app, xNil_app, xC_app, xVar_app, List.getElem?_cons_zero, List.getElem?_cons_succ, Res.bind_ok, bLen_lst, List.length_map, dLt_ok, dGt_ok, decide_eq_false n1, decide_eq_false n2, decide_eq_false n3, Bool.false_eq_true, if_false, enso_out, ens_ok, yNil_app, enso_nx]
    exact hR _ _ ⟨rfl, rfl⟩
  rintro e S3 ⟨rfl, rfl⟩
  simp only [yIf_app, xIsT_app, xOp_app, xFn_app, xCons_app, xNil_app, xVar_app, List.getElem?_cons_zero, List.getElem?_cons_succ, Res.bind_ok, enso_out, ens_bind]
  refine (reached_ok h S3 hS).imp ?_
  rintro d S4 ⟨rfl, row, rfl, hl⟩
  simp [hl]
theorem ro_toPs {S : Store} {n : Nat} : ∀ rs : List Ro, toPs S (n + 1) (rs.map roD) = some (rs.map fun z => PyData.tuple [.int (z.1 : Int), .int (z.2.1 : Int), .int z.2.2])
  | [] => by simp [toPs]
  | z :: rs => by
    have e : toP S (n + 1) (roD z) = some (.tuple [.int (z.1 : Int), .int (z.2.1 : Int), .int z.2.2]) := by cases n <;> simp [roD, toP, toPs]
    rw [List.map_cons, toPs, e, ro_toPs rs]
    rfl
theorem wb_toP (m : Nat) (rs : List Ro) (S : Store) : ∃ p, toP S 60 (wbD m rs) = some p := by
  refine ⟨.tuple [.int (m : Int), .list (rs.map fun z => PyData.tuple [.int (z.1 : Int), .int (z.2.1 : Int), .int z.2.2])], ?_⟩
  unfold wbD
  simp [toP, toPs, ro_toPs]
/-! numbers drawn from the script -/
theorem draws_ok {ns : List Int} {many : Nat} (hm : many ≤ 1000) (S : Store) (hS : (S.all fun c => c.under S.length) = true) : Ens (F__law_draws [.scr (ns.map D.int), .int (many : Int)] S) fun d S' => S' = S ∧ ∃ l : List Int, d = .lst (l.map D.int) ∧ l.length = many ∧ ∀ x ∈ l, 0 ≤ x ∧ x < 2147483629 := by
  refine ens_fn rfl ?_
  unfold b__law_draws
  simp only [List.map_cons, List.map_nil, List.replicate, List.cons_append, List.nil_append]
  refine ens_sq (fun e S' => S' = S ++ [.lst (([] : List Int).map D.int)] ∧ e = [some (.scr (ns.map D.int)), some (.int (many : Int)), some (.cell S.length), none, none, none, none]) (fun R hR => ?_) ?_
  · walk_at "dv"
    exact hR _ _ ⟨rfl, rfl⟩
  rintro e S' ⟨rfl, rfl⟩
  refine ens_sq (fun e S' => ∃ (l : List Int) (v3 v4 v5 v6 : Option D), l.length = many ∧ (∀ x ∈ l, 0 ≤ x ∧ x < 2147483629) ∧ S' = S ++ [.dead] ∧ e = [some (.scr (ns.map D.int)), some (.int (many : Int)), some (.lst (l.map D.int)), v3, v4, v5, v6]) (fun R hR => ?_) ?_
  · refine ens_sq (fun e S' => ∃ (l : List Int) (v3 v4 v5 v6 : Option D), l.length = many ∧ (∀ x ∈ l, 0 ≤ x ∧ x < 2147483629) ∧ S' = S ++ [.lst (l.map D.int)] ∧ e = [some (.scr (ns.map D.int)), some (.int (many : Int)), some (.cell S.length), v3, v4, v5, v6]) (fun R1 hR1 => ?_) ?_
    · walk_at "dv"
      refine ⟨rng62_of (by omega) (by omega), ?_⟩
      rw [show ((many : Int)).toNat = many by simp]
      refine ens_fr (fun i e S' => ∃ (l : List Int) (v3 v4 v5 v6 : Option D), l.length = i ∧ (∀ x ∈ l, 0 ≤ x ∧ x < 2147483629) ∧ S' = S ++ [.lst (l.map D.int)] ∧ e = [some (.scr (ns.map D.int)), some (.int (many : Int)), some (.cell S.length), v3, v4, v5, v6]) ⟨[], _, _, _, _, rfl, by simp, rfl, rfl⟩ ?_ ?_
      · rintro i d e S' R2 hd ⟨l, v3, v4, v5, v6, ll, lz, rfl, rfl⟩ hR2
        obtain ⟨rfl, hi⟩ := irange_get hd
        have c0 : (S ++ [Cn.lst (l.map D.int)])[S.length]? = some (.lst (l.map D.int)) := app_at0 rfl
        have al : (l.map D.int).length < 16000000 := by rw [List.length_map]; omega
        have ap : ∀ x, (S ++ [Cn.lst (l.map D.int)]).set S.length (.lst (l.map D.int ++ [D.int x])) = S ++ [Cn.lst ((l ++ [x]).map D.int)] := fun x => by rw [app_set0 rfl, List.map_append]; rfl
        have add : ∀ x : Int, 0 ≤ x → x < 2147483629 → (l ++ [x]).length = i + 1 ∧ ∀ y ∈ l ++ [x], 0 ≤ y ∧ y < 2147483629 := fun x x0 x1 => ⟨by simp [ll], fun y hy => by
          rcases List.mem_append.mp hy with q | q
          · exact lz y q
          · rw [List.mem_singleton.mp q]; exact ⟨x0, x1⟩⟩
        generalize (S ++ [Cn.lst (l.map D.int)]) = S1 at *
        walk_at "dv"
        have fin1 : ∀ (v : Int) (v6 : Option D), EnsO ((yIf (xIsT (xOp dGe (xVar 4) (xOp dPow (xC (.int 10)) (xC (.int 18))))) (ySeq (ySet 4 (xOp dFdiv (xVar 4) (xOp dPow (xC (.int 10)) (xC (.int 18)))))
    (ySeq (yFor (iSrcA srcR1 (xCons (xOp dMod (xVar 3) (xC (.int 20))) xNil)) (gN 5) (ySet 4 (xOp dFdiv (xVar 4) (xC (.int 5040)))))
    (yExpr (xMt "list" mAppend (xVar 2) (xCons (xOp dMod (xVar 4) (xC (.int 5040))) xNil))))) (ySeq (ySet 6 (xOp dMod (xOp (dAdd mkF) (xVar 4) (xOp (dMul mkF) (xC (.int 48271)) (xOp (dAdd mkF) (xVar 3) (xC (.int 1))))) (xC (.int 2147483629))))
    (ySeq (ySet 6 (xOp dMod (xOp (dAdd mkF) (xOp (dMul mkF) (xVar 6) (xVar 6)) (xVar 3)) (xC (.int 2147483629))))
    (yExpr (xMt "list" mAppend (xVar 2) (xCons (xOp dMod (xOp (dMul mkF) (xVar 6) (xVar 6)) (xC (.int 2147483587))) xNil)))))) [some (.scr (ns.map D.int)), some (.int (many : Int)), some (.cell S.length), some (.int (i : Int)), some (.int v), v5, v6] S1) { nx := R2, ct := R2, bk := R1, rt := fun d S' => Ens (fin false S.length d S') fun d S' => S' = S ∧ ∃ l : List Int, d = .lst (l.map D.int) ∧ l.length = many ∧ ∀ x ∈ l, 0 ≤ x ∧ x < 2147483629 } := fun v v6 => by
          walk_at "dw"
          refine enso_ite (fun h => ?_) (fun h => ?_)
          · walk_at "dw"
            refine ens_fr (fun j e S' => S' = S1 ∧ ∃ (v : Int) (v5 : Option D), e = [some (.scr (ns.map D.int)), some (.int (many : Int)), some (.cell S.length), some (.int (i : Int)), some (.int v), v5, v6]) ⟨rfl, _, _, rfl⟩ ?_ ?_
            · rintro j d e S' R3 hd ⟨rfl, v, v5, rfl⟩ hR3
              walk_at "dw"
              exact hR3 _ _ ⟨rfl, _, _, rfl⟩
            · rintro e S' ⟨rfl, v, v5, rfl⟩
              walk_at "dw"
              refine ens_tl c0 ?_
              walk_at "dw"
              rw [app_cell c0 al]
              walk_at "dw"
              have m0 := Int.emod_nonneg v (show (5040 : Int) ≠ 0 by decide)
              have m1 := Int.emod_lt_of_pos v (show (0 : Int) < 5040 by decide)
              obtain ⟨q1, q2⟩ := add _ m0 (by omega)
              exact hR2 _ _ ⟨_, _, _, _, _, q1, q2, ap _, rfl⟩
          · walk_at "dw"
            generalize v + 48271 * ((i : Int) + 1) = a
            have a0 := Int.emod_nonneg a (show (2147483629 : Int) ≠ 0 by decide)
            have a1 := Int.emod_lt_of_pos a (show (0 : Int) < 2147483629 by decide)
            generalize a % 2147483629 = b at *
            walk_at "dw"
            generalize b * b + (i : Int) = a
            have a0 := Int.emod_nonneg a (show (2147483629 : Int) ≠ 0 by decide)
            have a1 := Int.emod_lt_of_pos a (show (0 : Int) < 2147483629 by decide)
            generalize a % 2147483629 = b at *
            walk_at "dw"
            refine ens_tl c0 ?_
            walk_at "dw"
            rw [app_cell c0 al]
            walk_at "dw"
            generalize b * b = a
            have m0 := Int.emod_nonneg a (show (2147483587 : Int) ≠ 0 by decide)
            have m1 := Int.emod_lt_of_pos a (show (0 : Int) < 2147483587 by decide)
            obtain ⟨q1, q2⟩ := add _ m0 (by omega)
            exact hR2 _ _ ⟨_, _, _, _, _, q1, q2, ap _, rfl⟩
        refine enso_ite (fun h => ?_) (fun h => ?_)
        · have nl : 0 < (ns.map D.int).length := by
            simp at h
            simpa using h
          rw [List.length_map] at nl
          have bm : ∀ S, bMin [.int 63, .int ((ns.map D.int).length : Int)] S = .ok (.int ((min 63 ns.length : Nat) : Int)) S := fun S => by
            rw [bMin_two, List.length_map]
            congr 2
            split <;> omega
          have m0 := Int.emod_nonneg ((i : Int) / 20) (show ((min 63 ns.length : Nat) : Int) ≠ 0 by omega)
          have m1 := Int.emod_lt_of_pos ((i : Int) / 20) (show (0 : Int) < ((min 63 ns.length : Nat) : Int) by omega)
          obtain ⟨z, hz, e3⟩ := atI_mem (l := ns) m0 (by omega)
          walk_at "dw"
          rw [bm]
          walk_at "dw"
          rw [fmod_pos (by omega), ens_ixs, atI_map, e3]
          refine ⟨_, rfl, ?_⟩
          walk_at "dw"
          have := fin1 z v6
          revert this
          walk_at "dv"
          exact id
        · have := fin1 0 v6
          revert this
          walk_at "dv"
          exact id
      · rintro e S' ⟨l, v3, v4, v5, v6, ll, lz, rfl, rfl⟩
        rw [irange_length] at ll
        exact hR1 _ _ ⟨l, _, _, _, _, ll, lz, rfl, rfl⟩
    rintro e S' ⟨l, v3, v4, v5, v6, ll, lz, rfl, rfl⟩
    have c0 : (S ++ [Cn.lst (l.map D.int)])[S.length]? = some (.lst (l.map D.int)) := app_at0 rfl
    simp only [frzE, List.getElem?_cons_zero, List.getElem?_cons_succ, frz, c0, app_set0 rfl, Res.out_ok, enso_nx, List.set_cons_succ, List.set_cons_zero]
    exact hR _ _ ⟨l, _, _, _, _, ll, lz, rfl, rfl⟩
  rintro e S' ⟨l, v3, v4, v5, v6, ll, lz, rfl, rfl⟩
  walk_at "dv"
  rw [fin_cut rfl hS (by rw [D.under]; exact underL_ints l), ens_ok]
  exact ⟨rfl, l, rfl, ll, lz⟩
/-! a web drawn from numbers -/
theorem mem_ins {α : Type} {l : List α} {t : Nat} {y x : α} : x ∈ l.take t ++ [y] ++ l.drop t ↔ x ∈ l ∨ x = y := by
  conv => rhs; rw [← List.take_append_drop t l]
  simp only [List.mem_append, List.mem_singleton]
  constructor
  · rintro ((h | h) | h)
    · exact .inl (.inl h)
    · exact .inr h
    · exact .inl (.inr h)
  · rintro ((h | h) | h)
    · exact .inl (.inl h)
    · exact .inr h
    · exact .inl (.inr h)
theorem len_ins {α : Type} {l : List α} {t : Nat} {y : α} : (l.take t ++ [y] ++ l.drop t).length = l.length + 1 := by
  have := congrArg List.length (List.take_append_drop t l)
  rw [List.length_append] at this
  rw [List.length_append, List.length_append, List.length_singleton]
  omega
structure TrR (m i : Nat) (rs : List Ro) : Prop where
  ok : ∀ z ∈ rs, z.1 < m ∧ z.2.1 < m ∧ z.1 ≠ z.2.1 ∧ 1 ≤ z.2.2 ∧ z.2.2 ≤ 12
  tree : ∀ k, 1 ≤ k → k ≤ i → ∃ a, a < k ∧ ∃ z ∈ rs, (z.1 = a ∧ z.2.1 = k) ∨ (z.1 = k ∧ z.2.1 = a)
structure FdR (m : Nat) (nm : List Nat) (ps rs : List Ro) : Prop where
  ok : ∀ z ∈ rs, z.1 < m ∧ z.2.1 < m ∧ z.1 ≠ z.2.1 ∧ 1 ≤ z.2.2 ∧ z.2.2 ≤ 12
  has : ∀ p ∈ ps, ∃ z ∈ rs, nm[p.1]? = some z.1 ∧ nm[p.2.1]? = some z.2.1
theorem FdR.web {m : Nat} {nm : List Nat} {ps rs : List Ro} (h : FdR m (0 :: nm) ps rs) (ht : TrR m (m - 1) ps) (hn : (0 :: nm).Perm (List.range m)) (m1 : 1 ≤ m) (m60 : m ≤ 60) (few : rs.length ≤ 120) : WebOk m rs := by
  refine ⟨⟨fun z hz => by have := h.ok z hz; exact ⟨this.1, this.2.1, this.2.2.1, this.2.2.2.1, by omega⟩, m1, m60, few⟩, fun R r0 hR k hk => ?_⟩
  have nl : (0 :: nm).length = m := by rw [hn.length_eq, List.length_range]
  have all : ∀ (n i : Nat) (hi : i < (0 :: nm).length), i ≤ n → R (0 :: nm)[i] := by
    intro n
    induction n with
    | zero =>
      intro i hi h0
      have : i = 0 := by omega
      subst this
      exact r0
    | succ n ih =>
      intro i hi h0
      by_cases q : i = 0
      · exact ih i hi (by omega)
      · obtain ⟨a, ha, z, hz, q⟩ := ht.tree i (by omega) (by omega)
        have ra := ih a (by omega) (by omega)
        obtain ⟨y, hy, e1, e2⟩ := h.has z hz
        rcases q with ⟨q1, q2⟩ | ⟨q1, q2⟩
        · rw [q1, List.getElem?_eq_getElem (by omega)] at e1
          rw [q2, List.getElem?_eq_getElem (by omega)] at e2
          rw [Option.some.inj e1] at ra
          rw [Option.some.inj e2]
          exact (hR y hy).mp ra
        · rw [q1, List.getElem?_eq_getElem (by omega)] at e1
          rw [q2, List.getElem?_eq_getElem (by omega)] at e2
          rw [Option.some.inj e2] at ra
          rw [Option.some.inj e1]
          exact (hR y hy).mpr ra
  have mem : k ∈ 0 :: nm := hn.mem_iff.mpr (List.mem_range.mpr hk)
  obtain ⟨i, hi, e⟩ := List.getElem_of_mem mem
  rw [← e]
  exact all (0 :: nm).length i hi (by omega)
theorem ins_cell {n : Nat} {l : List D} {x : D} {i : Int} {S : Store} (h : S[n]? = some (.lst l)) (hl : l.length < 16000000) (h0 : 0 ≤ i) (h1 : i < 4611686018427387904) : mInsert (.cell n) [.int i, x] S = .ok .non (S.set n (.lst (l.take i.toNat ++ [x] ++ l.drop i.toNat))) := by simp only [mInsert, cellL, h, if_pos (⟨hl, h0, h1⟩ : l.length < 16000000 ∧ 0 ≤ i ∧ i < 4611686018427387904)]
theorem len_cell {n : Nat} {l : List D} {S : Store} (h : S[n]? = some (.lst l)) : bLen [.cell n] S = .ok (.int (l.length : Int)) S := by simp [bLen, getQ, getL, h]
def Dw (L : List Int) : Prop := ∀ x ∈ L, 0 ≤ x ∧ x < 2147483629
theorem Dw.at {L : List Int} (h : Dw L) {i : Int} (h0 : 0 ≤ i) (h1 : i < L.length) : ∃ x : Int, L2.atI (L.map D.int) i = some (.int x) ∧ 0 ≤ x ∧ x < 2147483629 := by
  obtain ⟨z, hz, e⟩ := atI_mem (l := L) h0 h1
  exact ⟨z, by rw [atI_map, e]; rfl, h z hz⟩
abbrev EW40 (L : List Int) (a mo m : Nat) (r : List (Option D)) : Dv.Env := some (.lst (L.map D.int)) :: some (.int (a : Int)) :: some (.int (mo : Int)) :: some (.int (m : Int)) :: r
theorem law_web_ok {L : List Int} (hL : Dw L) {a mo : Nat} (hl : a + 16 ≤ L.length) (la : a ≤ 1000) (mo1 : 1 ≤ mo) (mo2 : mo ≤ 7) (S : Store) (hS : (S.all fun c => c.under S.length) = true) :
    Ens (F__law_web [.lst (L.map D.int), .int (a : Int), .int (mo : Int)] S) fun d S' => S' = S ∧ ∃ m rs, d = wbD m rs ∧ WebOk m rs ∧ m ≤ mo ∧ (∀ z ∈ rs, z.2.2 ≤ 12) ∧ rs.length ≤ m + 3 := by
  refine ens_fn rfl ?_
  unfold b__law_web
  simp only [List.map_cons, List.map_nil, List.replicate, List.cons_append, List.nil_append]
  refine ens_sq (fun e S' => S' = S ∧ ∃ m : Nat, 1 ≤ m ∧ m ≤ mo ∧ e = EW40 L a mo m [none, none, none, none, none, none, none, none, none, none, none]) (fun R hR => ?_) ?_
  · walk_at "dw"
    obtain ⟨x, e, x0, x1⟩ := hL.at (i := (a : Int)) (by omega) (by omega)
    rw [ens_ixl]
    refine ⟨_, e, ?_⟩
    walk_at "dw"
    rw [fmod_pos (by omega)]
    have m0 := Int.emod_nonneg x (show (mo : Int) ≠ 0 by omega)
    have m1 := Int.emod_lt_of_pos x (show (0 : Int) < mo by omega)
    refine hR _ _ ⟨rfl, (1 + x % mo).toNat, by omega, by omega, ?_⟩
    simp only [EW40]
    rw [show (((1 + x % mo).toNat : Nat) : Int) = 1 + x % mo by omega]
  rintro e S' ⟨rfl, m, m1, m2, rfl⟩
  refine ens_sq (fun e S2 => S2 = S' ++ [.lst (([] : List Ro).map roD)] ∧ e = EW40 L a mo m [some (.cell S'.length), none, none, none, none, none, none, none, none, none, none]) (fun R hR => ?_) ?_
  · walk_at "dw"
    exact hR _ _ ⟨rfl, rfl⟩
  rintro e S2 ⟨rfl, rfl⟩
  have app : ∀ (rs : List Ro) (z : Ro), (S' ++ [Cn.lst (rs.map roD)]).set S'.length (.lst (rs.map roD ++ [roD z])) = S' ++ [Cn.lst ((rs ++ [z]).map roD)] := fun rs z => by rw [app_set0 rfl, List.map_append]; rfl
  refine ens_sq (fun e S2 => ∃ (rs : List Ro) (v5 v9 v10 : Option D), TrR m (m - 1) rs ∧ rs.length ≤ m - 1 ∧ S2 = S' ++ [.lst (rs.map roD)] ∧ e = EW40 L a mo m [some (.cell S'.length), v5, none, none, none, v9, v10, none, none, none, none]) (fun R hR => ?_) ?_
  · walk_at "dw"
    rw [show ((m : Int) - 1).toNat = m - 1 by omega]
    refine ens_fr (fun i e S2 => ∃ (rs : List Ro) (v5 v9 v10 : Option D), TrR m i rs ∧ rs.length ≤ i ∧ S2 = S' ++ [.lst (rs.map roD)] ∧ e = EW40 L a mo m [some (.cell S'.length), v5, none, none, none, v9, v10, none, none, none, none]) ⟨[], _, _, _, ⟨by simp, fun k k1 k2 => by omega⟩, by simp, rfl, rfl⟩ ?_ ?_
    · rintro i d e S2 R2 hd ⟨rs, v5, v9, v10, ht, hlen, rfl, rfl⟩ hR2
      obtain ⟨rfl, hi⟩ := irange_get hd
      have c0 : (S' ++ [Cn.lst (rs.map roD)])[S'.length]? = some (.lst (rs.map roD)) := app_at0 rfl
      have ap := app rs
      generalize (S' ++ [Cn.lst (rs.map roD)]) = S1 at *
      obtain ⟨x, e, x0, x1⟩ := hL.at (i := (a : Int) + (1 + (i : Int))) (by omega) (by omega)
      walk_at "dw"
      rw [ens_ixl]
      refine ⟨_, e, ?_⟩
      walk_at "dw"
      rw [ens_ixl]
      refine ⟨_, e, ?_⟩
      walk_at "dw"
      refine ens_tl c0 ?_
      walk_at "dw"
      rw [ens_ixl]
      refine ⟨_, e, ?_⟩
      walk_at "dw"
      rw [fmod_pos (show (0 : Int) < 1 + (i : Int) by omega)]
      have p0 := Int.emod_nonneg x (show (1 + (i : Int)) ≠ 0 by omega)
      have p1 := Int.emod_lt_of_pos x (show (0 : Int) < 1 + (i : Int) by omega)
      have q0 := Int.emod_nonneg (x / 16) (show (9 : Int) ≠ 0 by decide)
      have q1 := Int.emod_lt_of_pos (x / 16) (show (0 : Int) < 9 by decide)
      have r0 := Int.emod_nonneg (x / 256) (show (2 : Int) ≠ 0 by decide)
      have r1 := Int.emod_lt_of_pos (x / 256) (show (0 : Int) < 2 by decide)
      generalize x / 256 % 2 = r at *
      generalize x / 16 % 9 = q at *
      obtain ⟨p, hp⟩ : ∃ p : Nat, x % (1 + (i : Int)) = (p : Int) := ⟨_, (Int.toNat_of_nonneg p0).symm⟩
      rw [hp] at p1 ⊢
      have pick : ∃ z : Ro, L2.atI [D.tup [.int (p : Int), .int (1 + (i : Int)), .int (1 + q)], D.tup [.int (1 + (i : Int)), .int (p : Int), .int (1 + q)]] r = some (roD z) ∧ z.2.2 = 1 + q ∧ ((z.1 = p ∧ z.2.1 = i + 1) ∨ (z.1 = i + 1 ∧ z.2.1 = p)) := by
        have : (1 + (i : Int)) = ((i + 1 : Nat) : Int) := by omega
        rw [this]
        rcases (show r = 0 ∨ r = 1 by omega) with rfl | rfl
        · exact ⟨(p, i + 1, 1 + q), by rw [atI_zero]; rfl, rfl, .inl ⟨rfl, rfl⟩⟩
        · exact ⟨(i + 1, p, 1 + q), by rw [atI_one]; rfl, rfl, .inr ⟨rfl, rfl⟩⟩
      obtain ⟨z, hz, z1, z2⟩ := pick
      rw [ens_ixl]
      refine ⟨_, hz, ?_⟩
      rw [app_cell c0 (by rw [List.length_map]; omega)]
      walk_at "dw"
      refine hR2 _ _ ⟨rs ++ [z], _, _, _, ⟨fun y hy => ?_, fun k k1 k2 => ?_⟩, by simp; omega, ap z, rfl⟩
      · rcases List.mem_append.mp hy with w | w
        · exact ht.ok y w
        · rw [List.mem_singleton.mp w]
          omega
      · by_cases h : k ≤ i
        · obtain ⟨b, hb, y, hy, e⟩ := ht.tree k k1 h
          exact ⟨b, hb, y, List.mem_append_left _ hy, e⟩
        · exact ⟨p, by omega, z, by simp, by omega⟩
    · rintro e S2 ⟨rs, v5, v9, v10, ht, hlen, rfl, rfl⟩
      rw [irange_length] at ht hlen
      exact hR _ _ ⟨rs, _, _, _, ht, hlen, rfl, rfl⟩
  rintro e S2 ⟨rs, v5, v9, v10, ht, hlen, rfl, rfl⟩
  refine ens_sq (fun e S2 => ∃ (rs : List Ro) (v6 v9 v10 v11 : Option D), TrR m (m - 1) rs ∧ rs.length ≤ m + 3 ∧ S2 = S' ++ [.dead] ∧ e = EW40 L a mo m [some (.lst (rs.map roD)), v5, v6, none, none, v9, v10, v11, none, none, none]) (fun R hR => ?_) ?_
  · refine ens_sq (fun e S2 => ∃ (rs : List Ro) (v6 v9 v10 v11 : Option D), TrR m (m - 1) rs ∧ rs.length ≤ m + 3 ∧ S2 = S' ++ [.lst (rs.map roD)] ∧ e = EW40 L a mo m [some (.cell S'.length), v5, v6, none, none, v9, v10, v11, none, none, none]) (fun R1 hR1 => ?_) ?_
    · obtain ⟨x, e, x0, x1⟩ := hL.at (i := (a : Int) + 8) (by omega) (by omega)
      have q0 := Int.emod_nonneg x (show (5 : Int) ≠ 0 by decide)
      have q1 := Int.emod_lt_of_pos x (show (0 : Int) < 5 by decide)
      walk_at "dw"
      rw [ens_ixl]
      refine ⟨_, e, ?_⟩
      walk_at "dw"
      refine ens_fr (fun i e S2 => ∃ (rs : List Ro) (v6 v9 v10 v11 : Option D), TrR m (m - 1) rs ∧ rs.length ≤ m - 1 + i ∧ S2 = S' ++ [.lst (rs.map roD)] ∧ e = EW40 L a mo m [some (.cell S'.length), v5, v6, none, none, v9, v10, v11, none, none, none]) ⟨rs, _, _, _, _, ht, by omega, rfl, rfl⟩ ?_ ?_
      · rintro i d e S2 R2 hd ⟨rs, v6, v9, v10, v11, ht, hlen, rfl, rfl⟩ hR2
        obtain ⟨rfl, hi⟩ := irange_get hd
        have c0 : (S' ++ [Cn.lst (rs.map roD)])[S'.length]? = some (.lst (rs.map roD)) := app_at0 rfl
        have ap := app rs
        have hfin := fun (rs : List Ro) (h1 : TrR m (m - 1) rs) (h2 : rs.length ≤ m - 1 + (i + 1)) v6 v9 v10 v11 => hR2 _ _ ⟨rs, v6, v9, v10, v11, h1, h2, rfl, rfl⟩
        have hfin0 := hfin rs ht (by omega)
        generalize (S' ++ [Cn.lst (rs.map roD)]) = S1 at *
        obtain ⟨y, ey, y0, y1⟩ := hL.at (i := (a : Int) + 9 + (i : Int)) (by omega) (by omega)
        walk_at "dw"
        rw [ens_ixl]
        refine ⟨_, ey, ?_⟩
        walk_at "dw"
        rw [ens_ixl]
        refine ⟨_, ey, ?_⟩
        walk_at "dw"
        rw [fmod_pos (show (0 : Int) < m by omega), fmod_pos (show (0 : Int) < m by omega)]
        have p0 := Int.emod_nonneg y (show (m : Int) ≠ 0 by omega)
        have p1 := Int.emod_lt_of_pos y (show (0 : Int) < m by omega)
        have r0 := Int.emod_nonneg (y / 16) (show (m : Int) ≠ 0 by omega)
        have r1 := Int.emod_lt_of_pos (y / 16) (show (0 : Int) < m by omega)
        have s0 := Int.emod_nonneg (y / 256) (show (12 : Int) ≠ 0 by decide)
        have s1 := Int.emod_lt_of_pos (y / 256) (show (0 : Int) < 12 by decide)
        obtain ⟨u, hu⟩ : ∃ p : Nat, y % (m : Int) = (p : Int) := ⟨_, (Int.toNat_of_nonneg p0).symm⟩
        obtain ⟨v, hv⟩ : ∃ p : Nat, y / 16 % (m : Int) = (p : Int) := ⟨_, (Int.toNat_of_nonneg r0).symm⟩
        rw [hu, hv]
        refine enso_ite (fun h => ?_) (fun h => ?_)
        · have huv : u ≠ v := by simp at h; omega
          walk_at "dw"
          refine ens_tl c0 ?_
          walk_at "dw"
          rw [ens_ixl]
          refine ⟨_, ey, ?_⟩
          walk_at "dw"
          rw [app_cell c0 (by rw [List.length_map]; omega)]
          walk_at "dw"
          have := ap (u, v, 1 + y / 256 % 12)
          unfold roD at this
          dsimp only at this
          unfold roD
          rw [this]
          refine hfin (rs ++ [(u, v, 1 + y / 256 % 12)]) ⟨fun z hz => ?_, fun k k1 k2 => ?_⟩ (by simp; omega) _ _ _ _
          · rcases List.mem_append.mp hz with w | w
            · exact ht.ok z w
            · rw [List.mem_singleton.mp w]
              dsimp only
              omega
          · obtain ⟨b, hb, z, hz, e⟩ := ht.tree k k1 k2
            exact ⟨b, hb, z, List.mem_append_left _ hz, e⟩
        · walk_at "dw"
          exact hfin0 _ _ _ _
      · rintro e S2 ⟨rs, v6, v9, v10, v11, ht, hlen, rfl, rfl⟩
        rw [irange_length] at hlen
        exact hR1 _ _ ⟨rs, _, _, _, _, ht, by omega, rfl, rfl⟩
    rintro e S2 ⟨rs, v6, v9, v10, v11, ht, hlen, rfl, rfl⟩
    have c0 : (S' ++ [Cn.lst (rs.map roD)])[S'.length]? = some (.lst (rs.map roD)) := app_at0 rfl
    simp only [frzE, List.getElem?_cons_zero, List.getElem?_cons_succ, frz, c0, app_set0 rfl, Res.out_ok, enso_nx, List.set_cons_succ, List.set_cons_zero]
    exact hR _ _ ⟨rs, _, _, _, _, ht, hlen, rfl, rfl⟩
  rintro e S2 ⟨rs, v6, v9, v10, v11, ht, hlen, rfl, rfl⟩
  let nD : List Nat → List D := fun ns => ns.map fun (k : Nat) => D.int (k : Int)
  refine ens_sq (fun e S2 => S2 = S' ++ [.dead, .lst (nD [])] ∧ e = EW40 L a mo m [some (.lst (rs.map roD)), v5, v6, some (.cell (S'.length + 1)), none, v9, v10, v11, none, none, none]) (fun R hR => ?_) ?_
  · walk_at "dw"
    refine hR _ _ ⟨by simp [nD], by simp⟩
  rintro e S2 ⟨rfl, rfl⟩
  refine ens_sq (fun e S2 => ∃ (nm : List Nat) (v6 : Option D), (0 :: nm).Perm (List.range m) ∧ S2 = S' ++ [.dead, .dead] ∧ e = EW40 L a mo m [some (.lst (rs.map roD)), v5, v6, some (.lst (nD nm)), none, v9, v10, v11, none, none, none]) (fun R hR => ?_) ?_
  · refine ens_sq (fun e S2 => ∃ (nm : List Nat) (v6 : Option D), (0 :: nm).Perm (List.range m) ∧ S2 = S' ++ [.dead, .lst (nD nm)] ∧ e = EW40 L a mo m [some (.lst (rs.map roD)), v5, v6, some (.cell (S'.length + 1)), none, v9, v10, v11, none, none, none]) (fun R1 hR1 => ?_) ?_
    · walk_at "dw"
      rw [show ((m : Int) - 1).toNat = m - 1 by omega]
      refine ens_fr (fun i e S2 => ∃ (nm : List Nat) (v6 : Option D), (0 :: nm).Perm (List.range (i + 1)) ∧ S2 = S' ++ [.dead, .lst (nD nm)] ∧ e = EW40 L a mo m [some (.lst (rs.map roD)), v5, v6, some (.cell (S'.length + 1)), none, v9, v10, v11, none, none, none]) ⟨[], _, by simp [List.range_succ], rfl, rfl⟩ ?_ ?_
      · rintro i d e S2 R2 hd ⟨nm, v6, hn, rfl, rfl⟩ hR2
        obtain ⟨rfl, hi⟩ := irange_get hd
        have nl := hn.length_eq
        rw [List.length_cons, List.length_range] at nl
        have c0 : (S' ++ [Cn.dead, Cn.lst (nD nm)])[S'.length + 1]? = some (.lst (nD nm)) := app_at1 rfl
        have ap : ∀ t, (S' ++ [Cn.dead, Cn.lst (nD nm)]).set (S'.length + 1) (.lst ((nD nm).take t ++ [D.int (1 + (i : Int))] ++ (nD nm).drop t)) = S' ++ [Cn.dead, Cn.lst (nD (nm.take t ++ [i + 1] ++ nm.drop t))] := fun t => by
          rw [app_set1 rfl]
          have : (1 + (i : Int)) = ((i + 1 : Nat) : Int) := by omega
          simp [nD, this]
        have hlD : (nD nm).length = nm.length := by simp [nD]
        generalize (S' ++ [Cn.dead, Cn.lst (nD nm)]) = S1 at *
        obtain ⟨y, ey, y0, y1⟩ := hL.at (i := (a : Int) + 14) (by omega) (by omega)
        walk_at "dw"
        refine ens_tl c0 ?_
        walk_at "dw"
        rw [ens_ixl]
        refine ⟨_, ey, ?_⟩
        walk_at "dw"
        rw [len_cell c0]
        walk_at "dw"
        rw [hlD, fmod_pos (show (0 : Int) < (nm.length : Int) + 1 by omega)]
        have p0 := Int.emod_nonneg (y.fdiv (1 + 2 * (1 + (i : Int)))) (show ((nm.length : Int) + 1) ≠ 0 by omega)
        have p1 := Int.emod_lt_of_pos (y.fdiv (1 + 2 * (1 + (i : Int)))) (show (0 : Int) < (nm.length : Int) + 1 by omega)
        rw [ins_cell c0 (by omega) p0 (by omega)]
        walk_at "dw"
        rw [ap]
        refine hR2 _ _ ⟨_, _, ?_, rfl, rfl⟩
        generalize (y.fdiv (1 + 2 * (1 + (i : Int))) % ((nm.length : Int) + 1)).toNat = t
        rw [List.range_succ]
        have h1 : (nm.take t ++ [i + 1] ++ nm.drop t).Perm ([i + 1] ++ nm) := by
          rw [List.append_assoc]
          refine List.perm_append_comm_assoc _ _ _ |>.trans ?_
          rw [List.take_append_drop]
        refine (List.Perm.cons 0 h1).trans ?_
        have h2 : (0 :: ([i + 1] ++ nm)).Perm ((0 :: nm) ++ [i + 1]) := by
          exact List.Perm.cons 0 (List.perm_append_singleton (i + 1) nm).symm
        exact h2.trans (List.Perm.append_right _ hn)
      · rintro e S2 ⟨nm, v6, hn, rfl, rfl⟩
        rw [irange_length, show m - 1 + 1 = m by omega] at hn
        exact hR1 _ _ ⟨nm, _, hn, rfl, rfl⟩
    rintro e S2 ⟨nm, v6, hn, rfl, rfl⟩
    have c0 : (S' ++ [Cn.dead, Cn.lst (nD nm)])[S'.length + 1]? = some (.lst (nD nm)) := app_at1 rfl
    simp only [frzE, List.getElem?_cons_zero, List.getElem?_cons_succ, frz, c0, app_set1 rfl, Res.out_ok, enso_nx, List.set_cons_succ, List.set_cons_zero]
    exact hR _ _ ⟨nm, _, hn, rfl, rfl⟩
  rintro e S2 ⟨nm, v6, hn, rfl, rfl⟩
  have nl := hn.length_eq
  rw [List.length_cons, List.length_range] at nl
  refine ens_sq (fun e S2 => S2 = S' ++ [.dead, .dead] ∧ e = EW40 L a mo m [some (.lst (rs.map roD)), v5, v6, some (.lst (nD (0 :: nm))), none, v9, v10, v11, none, none, none]) (fun R hR => ?_) ?_
  · walk_at "dw"
    rw [dAdd_lst, if_pos (by simp [nD]; omega)]
    walk_at "dw"
    exact hR _ _ ⟨rfl, rfl⟩
  rintro e S2 ⟨rfl, rfl⟩
  refine ens_sq (fun e S2 => S2 = S' ++ [.dead, .dead, .lst (([] : List Ro).map roD)] ∧ e = EW40 L a mo m [some (.lst (rs.map roD)), v5, v6, some (.lst (nD (0 :: nm))), some (.cell (S'.length + 2)), v9, v10, v11, none, none, none]) (fun R hR => ?_) ?_
  · walk_at "dw"
    refine hR _ _ ⟨by simp, by simp⟩
  rintro e S2 ⟨rfl, rfl⟩
  have nod : (0 :: nm).Nodup := hn.symm.nodup List.nodup_range
  have lt : ∀ (i x : Nat), (0 :: nm)[i]? = some x → x < m := fun i x h => List.mem_range.mp (hn.mem_iff.mp (List.mem_of_getElem? h))
  refine ens_sq (fun e S2 => ∃ (fs : List Ro) (v10 v12 v13 v14 : Option D), FdR m (0 :: nm) rs fs ∧ fs.length = rs.length ∧ S2 = S' ++ [.dead, .dead, .dead] ∧ e = EW40 L a mo m [some (.lst (rs.map roD)), v5, v6, some (.lst (nD (0 :: nm))), some (.lst (fs.map roD)), v9, v10, v11, v12, v13, v14]) (fun R hR => ?_) ?_
  · refine ens_sq (fun e S2 => ∃ (fs : List Ro) (v10 v12 v13 v14 : Option D), FdR m (0 :: nm) rs fs ∧ fs.length = rs.length ∧ S2 = S' ++ [.dead, .dead, .lst (fs.map roD)] ∧ e = EW40 L a mo m [some (.lst (rs.map roD)), v5, v6, some (.lst (nD (0 :: nm))), some (.cell (S'.length + 2)), v9, v10, v11, v12, v13, v14]) (fun R1 hR1 => ?_) ?_
    · walk_at "dw"
      refine ens_fr (fun i e S2 => ∃ (fs : List Ro) (v10 v12 v13 v14 : Option D), FdR m (0 :: nm) (rs.take i) fs ∧ fs.length = i ∧ S2 = S' ++ [.dead, .dead, .lst (fs.map roD)] ∧ e = EW40 L a mo m [some (.lst (rs.map roD)), v5, v6, some (.lst (nD (0 :: nm))), some (.cell (S'.length + 2)), v9, v10, v11, v12, v13, v14]) ⟨[], _, _, _, _, ⟨by simp, by simp⟩, rfl, rfl, rfl⟩ ?_ ?_
      · rintro i d e S2 R2 hd ⟨fs, v10, v12, v13, v14, hf, hfl, rfl, rfl⟩ hR2
        rw [List.getElem?_map] at hd
        have hi : i < rs.length := by
          by_cases q : i < rs.length
          · exact q
          · rw [List.getElem?_eq_none (by omega)] at hd; cases hd
        rw [List.getElem?_eq_getElem hi] at hd
        cases hd
        have hz := ht.ok rs[i] (List.getElem_mem _)
        have tk : rs.take (i + 1) = rs.take i ++ [rs[i]] := List.take_succ_eq_append_getElem hi
        generalize rs[i] = z at *
        obtain ⟨z1, z2, z3⟩ := z
        dsimp only at hz
        obtain ⟨p, hp⟩ : ∃ p, (0 :: nm)[z1]? = some p := ⟨_, List.getElem?_eq_getElem (by simp; omega)⟩
        obtain ⟨q, hq⟩ : ∃ p, (0 :: nm)[z2]? = some p := ⟨_, List.getElem?_eq_getElem (by simp; omega)⟩
        have hpq : p ≠ q := fun h => by
          subst h
          have l1 := (List.getElem?_eq_some_iff.mp hp).1
          have l2 := (List.getElem?_eq_some_iff.mp hq).1
          exact hz.2.2.1 ((List.getElem?_inj l1 nod).mp (hp.trans hq.symm))
        have np : L2.atI (nD (0 :: nm)) (z1 : Int) = some (.int (p : Int)) := atI_nat (by simp only [nD, List.getElem?_map, hp]; rfl)
        have nq : L2.atI (nD (0 :: nm)) (z2 : Int) = some (.int (q : Int)) := atI_nat (by simp only [nD, List.getElem?_map, hq]; rfl)
        have c0 : (S' ++ [Cn.dead, Cn.dead, Cn.lst (fs.map roD)])[S'.length + 2]? = some (.lst (fs.map roD)) := app_at2 rfl
        have ap : ∀ t, (S' ++ [Cn.dead, Cn.dead, Cn.lst (fs.map roD)]).set (S'.length + 2) (.lst ((fs.map roD).take t ++ [D.tup [.int (p : Int), .int (q : Int), .int z3]] ++ (fs.map roD).drop t)) = S' ++ [Cn.dead, Cn.dead, Cn.lst ((fs.take t ++ [(p, q, z3)] ++ fs.drop t).map roD)] := fun t => by
          rw [app_set2 rfl]
          simp [roD]
        generalize (S' ++ [Cn.dead, Cn.dead, Cn.lst (fs.map roD)]) = S1 at *
        obtain ⟨y, ey, y0, y1⟩ := hL.at (i := (a : Int) + 15) (by omega) (by omega)
        rw [show roD (z1, z2, z3) = .tup [.int (z1 : Int), .int (z2 : Int), .int z3] from rfl]
        walk_at "dw"
        rw [ens_ixl]
        refine ⟨_, ey, ?_⟩
        walk_at "dw"
        rw [len_cell c0]
        walk_at "dw"
        rw [List.length_map]
        refine ⟨by walk_at "ds", ?_⟩
        refine ens_tl c0 ?_
        walk_at "dw"
        rw [len_cell c0]
        walk_at "dw"
        rw [List.length_map]
        rw [ens_ixl]
        refine ⟨_, np, ?_⟩
        rw [ens_ixl]
        refine ⟨_, nq, ?_⟩
        rw [fmod_pos (show (0 : Int) < (fs.length : Int) + 1 by omega)]
        have p0 := Int.emod_nonneg (y.fdiv (1 + (fs.length : Int))) (show ((fs.length : Int) + 1) ≠ 0 by omega)
        have p1 := Int.emod_lt_of_pos (y.fdiv (1 + (fs.length : Int))) (show (0 : Int) < (fs.length : Int) + 1 by omega)
        walk_at "dw"
        rw [ins_cell c0 (by rw [List.length_map]; omega) p0 (by omega)]
        walk_at "dw"
        rw [ap (y.fdiv (1 + (fs.length : Int)) % ((fs.length : Int) + 1)).toNat]
        generalize (y.fdiv (1 + (fs.length : Int)) % ((fs.length : Int) + 1)).toNat = t
        refine hR2 _ _ ⟨_, _, _, _, _, ⟨fun x hx => ?_, fun x hx => ?_⟩, by rw [len_ins]; omega, rfl, rfl⟩
        · rcases mem_ins.mp hx with w | w
          · exact hf.ok x w
          · rw [w]
            exact ⟨lt _ _ hp, lt _ _ hq, hpq, hz.2.2.2.1, hz.2.2.2.2⟩
        · rw [tk] at hx
          rcases List.mem_append.mp hx with w | w
          · obtain ⟨u, hu, e⟩ := hf.has x w
            exact ⟨u, mem_ins.mpr (.inl hu), e⟩
          · rw [List.mem_singleton.mp w]
            exact ⟨_, mem_ins.mpr (.inr rfl), hp, hq⟩
      · rintro e S2 ⟨fs, v10, v12, v13, v14, hf, hfl, rfl, rfl⟩
        rw [List.length_map] at hfl hf
        rw [List.take_length] at hf
        exact hR1 _ _ ⟨fs, _, _, _, _, hf, hfl, rfl, rfl⟩
    rintro e S2 ⟨fs, v10, v12, v13, v14, hf, hfl, rfl, rfl⟩
    have c0 : (S' ++ [Cn.dead, Cn.dead, Cn.lst (fs.map roD)])[S'.length + 2]? = some (.lst (fs.map roD)) := app_at2 rfl
    simp only [frzE, List.getElem?_cons_zero, List.getElem?_cons_succ, frz, c0, app_set2 rfl, Res.out_ok, enso_nx, List.set_cons_succ, List.set_cons_zero]
    exact hR _ _ ⟨fs, _, _, _, _, hf, hfl, rfl, rfl⟩
  rintro e S2 ⟨fs, v10, v12, v13, v14, hf, hfl, rfl, rfl⟩
  walk_at "dw"
  rw [fin_cut rfl hS (by
    have u : D.underL S'.length (fs.map roD) = true := underL_of fun d hd => by
      obtain ⟨z, _, rfl⟩ := List.mem_map.mp hd
      rfl
    simp [D.under, D.underL, u]), ens_ok]
  exact ⟨rfl, m, fs, rfl, hf.web ht hn m1 (by omega) (by omega), m2, fun z hz => (hf.ok z hz).2.2.2.2, by omega⟩


local macro_rules | `(tactic| walk_at "ds") => `(tactic| first | exact rng62_of (by omega) (by omega) | exact ⟨rng62_of (by omega) (by omega), rng62_of (by omega) (by omega)⟩ | exact divOk_lit (by omega) (by omega) | exact mulOkL (by omega) (by omega) | exact mulOkR (by omega) (by omega) | omega | decide | assumption)
local macro_rules | `(tactic| walk_at "dv") => `(tactic| simp only [ySeq_app, ySet_app, yIf_app, yExpr_app, yRet_app, yRetN_app, yNil_app, yFor_app, yAsg_app, yPar_app, yAug_app, ySub_app, yBreak_app, yCont_app, xVar_app, xC_app, xOp_app, xUn_app, xNil_app, xCons_app, xFn_app, xTup_app, xLst_app, xTru_app, xIsT_app, xNot_app, xAnd_app, xOr_app, xAndV_app, xOrV_app, xNotV_app, xIf_app, iSrc_app, iSrcA_app, xLc_app, xMt_app, xSl_app, oNone_app, oSome_app, srcL_lst, srcL_scr, srcT_tup, gN_app, gT_app, gsNil_app, gsCons_app, mkF_app, mkC_app, wipeE_cons, wipeE_nil, bInt_int, bInt_bl, tru_bl, bIsi_tup, bIsi_lst, bIsi_int, bIsi_intb, bLen_lst, bLen_scr, bLen_tup, atI_zero, atI_one, atI_two, dAdd_int, dSub_ok, dLt_ok, dLe_ok, dGt_ok, dGe_ok, dEq_int, dNe_int, List.getElem?_cons_zero, List.getElem?_cons_succ, List.set_cons_zero, List.set_cons_succ, List.length_cons, List.length_nil, List.map_cons, List.map_nil, List.replicate_zero, List.replicate_succ, List.cons_append, List.nil_append, Nat.reduceSub, Nat.reduceAdd, Nat.reduceLeDiff, List.replicate, Res.bind_ok, Res.out_ok, Out.seq_nx, enso_out, ens_ok, enso_nx, enso_rt, enso_bk, enso_ct, enso_seq, ens_bind, fin_same, ens_fdiv, ens_mod, ens_mul, p10_18, ens_srcR1, ens_srcR2, if_true, if_false, Bool.false_eq_true, ite_true, ite_false, reduceIte, beq_self_eq_true, true_and, and_true, Bool.not_true, Bool.not_false, Int.reduceLT, fdiv_pos, fmod_pos, Int.zero_add])
local macro_rules | `(tactic| walk_at "dw") => `(tactic| ((try walk_at "dv"); repeat ((refine And.intro (by walk_at "ds") ?_); try walk_at "dv")))
section
variable {α : Type} {g : D → Dv.Env → Option Dv.Env} {c : Dv.Env → M Bool} {f : Dv.Env → M D} {e0 : Dv.Env} {S : Store} {P : List D → Store → Prop}
/-- a comprehension over items, each told alone -/
theorem ens_lcm {chk : Store → Prop} {emb : α → D} {items : List α} (ψ : α → D) (hc : chk S) (hl : items.length ≤ 16000000) (h : ∀ a ∈ items, ∃ e1, g (emb a) e0 = some e1 ∧ Ens (f e1 S) fun y S' => y = ψ a ∧ S' = S) (hP : P (items.map ψ) S) : Ens (lcL chk g cYes f e0 (items.map emb) [] S) P := by
  have go : ∀ (is : List α) (acc : List D), (∀ a ∈ is, ∃ e1, g (emb a) e0 = some e1 ∧ f e1 S = .ok (ψ a) S) → acc.length + is.length ≤ 16000000 → lcL chk g cYes f e0 (is.map emb) acc S = .ok (acc ++ is.map ψ) S := by
    intro is
    induction is with
    | nil => intro acc _ _; rw [List.map_nil, lcL, if_pos hc]; simp
    | cons a is ih =>
      intro acc h hl
      obtain ⟨e1, h1, h2⟩ := h a (by simp)
      rw [List.length_cons] at hl
      rw [List.map_cons, lcL, if_pos hc]
      simp only [h1, cYes, h2]
      rw [if_pos (by omega), ih _ (fun x hx => h x (by simp [hx])) (by rw [List.length_append, List.length_singleton]; omega)]
      simp
  rw [go items [] (fun a ha => by
    obtain ⟨e1, h1, h2⟩ := h a ha
    exact ⟨e1, h1, ens_eq.mp h2⟩) (by simpa using hl), ens_ok]
  exact hP
/-- the same, some of the items alone -/
theorem ens_lcf {chk : Store → Prop} {emb : α → D} {items : List α} (p : α → Bool) (ψ : α → D) (hc : chk S) (hl : items.length ≤ 16000000) (h : ∀ a ∈ items, ∃ e1, g (emb a) e0 = some e1 ∧ (Ens (c e1 S) fun y S' => y = p a ∧ S' = S) ∧ (p a = true → Ens (f e1 S) fun y S' => y = ψ a ∧ S' = S)) (hP : P ((items.filter p).map ψ) S) : Ens (lcL chk g c f e0 (items.map emb) [] S) P := by
  have go : ∀ (is : List α) (acc : List D), (∀ a ∈ is, ∃ e1, g (emb a) e0 = some e1 ∧ c e1 S = .ok (p a) S ∧ (p a = true → f e1 S = .ok (ψ a) S)) → acc.length + is.length ≤ 16000000 → lcL chk g c f e0 (is.map emb) acc S = .ok (acc ++ (is.filter p).map ψ) S := by
    intro is
    induction is with
    | nil => intro acc _ _; rw [List.map_nil, lcL, if_pos hc]; simp
    | cons a is ih =>
      intro acc h hl
      obtain ⟨e1, h1, h2, h3⟩ := h a (by simp)
      rw [List.length_cons] at hl
      rw [List.map_cons, lcL, if_pos hc]
      simp only [h1, h2]
      cases q : p a with
      | true =>
        simp only [h3 q]
        rw [if_pos (by omega), ih _ (fun x hx => h x (by simp [hx])) (by rw [List.length_append, List.length_singleton]; omega)]
        simp [q]
      | false =>
        simp only []
        rw [ih _ (fun x hx => h x (by simp [hx])) (by omega)]
        simp [q]
  rw [go items [] (fun a ha => by
    obtain ⟨e1, h1, h2, h3⟩ := h a ha
    exact ⟨e1, h1, ens_eq.mp h2, fun q => ens_eq.mp (h3 q)⟩) (by simpa using hl), ens_ok]
  exact hP
end
/-! lists that are read: frozen, or in a cell from lo on -/
def LsAt (lo : Nat → Prop) (S : Store) (d : D) (l : List D) : Prop := d = .lst l ∨ ∃ n, lo n ∧ d = .cell n ∧ S[n]? = some (.lst l)
section
variable {lo : Nat → Prop} {S S' : Store} {d : D} {l : List D}
theorem LsAt.frz (lo : Nat → Prop) (S : Store) (l : List D) : LsAt lo S (.lst l) l := .inl rfl
theorem LsAt.mono (h : LsAt lo S d l) (q : ∀ n c, lo n → S[n]? = some c → S'[n]? = some c) : LsAt lo S' d l := by
  rcases h with h | ⟨n, h1, h2, h3⟩
  · exact .inl h
  · exact .inr ⟨n, h1, h2, q n _ h1 h3⟩
theorem LsAt.app (h : LsAt lo S d l) (X : Store) : LsAt lo (S ++ X) d l := h.mono fun n c _ e => by
  rw [List.getElem?_append_left (List.getElem?_eq_some_iff.mp e).1]
  exact e
theorem LsAt.less (h : LsAt lo S d l) {lo' : Nat → Prop} (q : ∀ n, lo n → lo' n) : LsAt lo' S d l := by
  rcases h with h | ⟨n, h1, h2, h3⟩
  · exact .inl h
  · exact .inr ⟨n, q n h1, h2, h3⟩
theorem LsAt.getL (h : LsAt lo S d l) : getL d S = some l := by
  rcases h with rfl | ⟨n, _, rfl, h⟩
  · rfl
  · simp [Dv.getL, h]
theorem LsAt.getQ (h : LsAt lo S d l) : getQ d S = some l := by
  rcases h with rfl | ⟨n, _, rfl, h⟩
  · rfl
  · simp [Dv.getQ, Dv.getL, h]
theorem LsAt.stL (h : LsAt lo S d l) : ∃ chk : Store → Prop, stL d S = some (l, chk) ∧ chk S := by
  rcases h with rfl | ⟨n, _, rfl, h⟩
  · exact ⟨fun _ => True, rfl, trivial⟩
  · exact ⟨fun S' => S'[n]? = some (.lst l), by simp [Dv.stL, h], h⟩
theorem LsAt.src (h : LsAt lo S d l) : ∃ chk : Store → Prop, srcL d S = .ok ⟨l, chk⟩ S ∧ chk S := by
  rcases h with rfl | ⟨n, _, rfl, h⟩
  · exact ⟨fun _ => True, rfl, trivial⟩
  · exact ⟨fun S' => S'[n]? = some (.lst l), by simp [srcL, h], h⟩
theorem LsAt.len (h : LsAt lo S d l) : bLen [d] S = .ok (.int (l.length : Int)) S := by
  rcases h with rfl | ⟨n, _, rfl, h⟩
  · rfl
  · simp [bLen, Dv.getQ, Dv.getL, h]
theorem LsAt.ix (h : LsAt lo S d l) {i : Int} {P : D → Store → Prop} (q : ∃ x, L2.atI l i = some x ∧ P x S) : Ens (dIx d (.int i) S) P := by
  obtain ⟨x, e, p⟩ := q
  rcases h with rfl | ⟨n, _, rfl, h⟩
  · rw [ens_ixl]; exact ⟨x, e, p⟩
  · simp only [dIx, Dv.getQ, Dv.getL, h, e, ens_ok]
    exact p
theorem LsAt.isi (h : LsAt lo S d l) : bIsi [d, .raw (.ty "list")] S = .ok (.bl true) S := by
  rcases h with rfl | ⟨n, _, rfl, h⟩
  · simp
  · simp [bIsi, tyOf, h]
theorem LsAt.toP (h : LsAt lo S d l) {n : Nat} {ps : List PyData} (q : toPs S n l = some ps) : toP S (n + 1) d = some (.list ps) := by
  rcases h with rfl | ⟨k, _, rfl, h⟩
  · rw [Dv.toP, q]; rfl
  · rw [Dv.toP, h]
    simp only [q, Option.map_some]
end
theorem in_bls (b : Bool) (l : List Bool) (S : Store) : dIn (.bl b) (.lst (l.map D.bl)) S = .ok (.bl (l.any fun x => x == b)) S := by
  have h1 : (l.map D.bl).all flatD = true := by simp [List.all_eq_true, flatD]
  unfold dIn dInX getI
  simp only [getQ_lst, h1, flatD, true_and, if_true, Bool.false_eq_true, if_false, inFl, List.any_map]
  rfl
theorem zip_at {lo1 lo2 : Nat → Prop} {S : Store} {a b : D} {l m : List D} (h1 : LsAt lo1 S a l) (h2 : LsAt lo2 S b m) : ∃ chk : Store → Prop, srcZip [a, b] S = .ok ⟨(l.zip m).map fun z => .tup [z.1, z.2], chk⟩ S ∧ chk S := by
  obtain ⟨c1, e1, k1⟩ := h1.stL
  obtain ⟨c2, e2, k2⟩ := h2.stL
  exact ⟨fun S' => c1 S' ∧ c2 S', by simp only [srcZip, e1, e2], k1, k2⟩
/-! ### the order of data -/
def tpP (s : List Nat) : PyData := .tuple (s.map fun (k : Nat) => PyData.int (k : Int))
def stP (z : List Nat × Nat) : PyData := .tuple [tpP z.1, .int (z.2 : Int)]
def ltN : List Nat → List Nat → Bool
  | [], [] => false
  | [], _ :: _ => true
  | _ :: _, [] => false
  | x :: a, y :: b => if x = y then ltN a b else decide (x < y)
theorem alikeAll_ints : ∀ a b : List Nat, PySem.W.alikeAll (a.map fun (k : Nat) => PyData.int (k : Int)) (b.map fun (k : Nat) => PyData.int (k : Int)) = true
  | [], b => by rw [List.map_nil]; cases b <;> rfl
  | _ :: _, [] => rfl
  | x :: a, y :: b => by rw [List.map_cons, List.map_cons, PySem.W.alikeAll, alikeAll_ints a b]; rfl
theorem tp_alike (a b : List Nat) : PySem.W.alike (tpP a) (tpP b) = true := by
  unfold tpP
  rw [PySem.W.alike]
  exact alikeAll_ints a b
theorem st_alike (a b : List Nat × Nat) : PySem.W.alike (stP a) (stP b) = true := by
  unfold stP
  rw [PySem.W.alike, PySem.W.alikeAll, tp_alike]
  rfl
theorem tpP_eqv (a b : List Nat) : PyData.eqv (tpP a) (tpP b) = decide (a = b) := by
  unfold tpP
  rw [PyData.eqv]
  induction a generalizing b with
  | nil => cases b <;> simp [PyData.eqvAll]
  | cons x a ih =>
    cases b with
    | nil => simp [PyData.eqvAll]
    | cons y b =>
      rw [List.map_cons, List.map_cons, PyData.eqvAll, ih]
      by_cases q : x = y
      · subst q; simp [PyData.eqv]
      · have : ¬ (x : Int) = (y : Int) := by omega
        simp [PyData.eqv, q, this]
theorem stP_eqv (a b : List Nat × Nat) : PyData.eqv (stP a) (stP b) = decide (a = b) := by
  unfold stP
  rw [PyData.eqv, PyData.eqvAll, PyData.eqvAll, PyData.eqvAll, tpP_eqv, PyData.eqv]
  obtain ⟨a, h⟩ := a
  obtain ⟨b, k⟩ := b
  by_cases q : a = b
  · by_cases r : h = k
    · simp [q, r]
    · have : ¬ (h : Int) = (k : Int) := by omega
      simp [q, r, this]
  · simp [q]
theorem lt_tp (a b : List Nat) : PySem.W.dataLt (tpP a) (tpP b) = ltN a b := by
  unfold tpP
  rw [PySem.W.dataLt_tuple]
  induction a generalizing b with
  | nil =>
    cases b with
    | nil => rfl
    | cons y b =>
      rw [List.map_nil, List.map_cons, PySem.W.toks_all_cons, PySem.W.keyToksAll, PySem.W.lex_atom (by simp), PySem.W.lex_one]
      rfl
  | cons x a ih =>
    cases b with
    | nil =>
      rw [List.map_nil, List.map_cons, PySem.W.toks_all_cons, PySem.W.keyToksAll, PySem.W.lex_atom (by simp), PySem.W.lex_one]
      rfl
    | cons y b =>
      rw [List.map_cons, List.map_cons, ltN]
      by_cases q : x = y
      · subst q
        rw [if_pos rfl, PySem.W.dataLt_all_yes rfl (by simp [PyData.eqv]), ih]
      · have : ¬ (x : Int) = (y : Int) := by omega
        rw [if_neg q, PySem.W.dataLt_all_no rfl (by simp [PyData.eqv, this]), PySem.W.dataLt_int]
        exact decide_eq_decide.mpr ⟨fun h => by omega, fun h => by omega⟩
theorem lt_st (a b : List Nat × Nat) : PySem.W.dataLt (stP a) (stP b) = if a.1 = b.1 then decide (a.2 < b.2) else ltN a.1 b.1 := by
  unfold stP
  rw [PySem.W.dataLt_tuple]
  by_cases q : a.1 = b.1
  · rw [if_pos q, PySem.W.dataLt_all_yes (tp_alike _ _) (by rw [tpP_eqv, decide_eq_true q])]
    by_cases r : a.2 = b.2
    · rw [PySem.W.dataLt_all_yes rfl (by simp [PyData.eqv, r]), decide_eq_false (by omega)]
      rfl
    · have : ¬ (a.2 : Int) = (b.2 : Int) := by omega
      rw [PySem.W.dataLt_all_no rfl (by simp [PyData.eqv, this]), PySem.W.dataLt_int]
      exact decide_eq_decide.mpr ⟨fun h => by omega, fun h => by omega⟩
  · rw [if_neg q, PySem.W.dataLt_all_no (tp_alike _ _) (by rw [tpP_eqv, decide_eq_false q]), lt_tp]
theorem ltN_anti : ∀ {a b : List Nat}, ltN a b = false → ltN b a = false → a = b
  | [], [], _, _ => rfl
  | [], _ :: _, h, _ => by simp [ltN] at h
  | _ :: _, [], _, h => by simp [ltN] at h
  | x :: a, y :: b, h1, h2 => by
    unfold ltN at h1 h2
    by_cases q : x = y
    · subst q
      rw [if_pos rfl] at h1 h2
      rw [ltN_anti h1 h2]
    · rw [if_neg q] at h1
      rw [if_neg (Ne.symm q)] at h2
      have := of_decide_eq_false h1
      have := of_decide_eq_false h2
      omega
theorem ltN_irrefl : ∀ a : List Nat, ltN a a = false
  | [] => rfl
  | x :: a => by unfold ltN; rw [if_pos rfl]; exact ltN_irrefl a
theorem ltN_asymm : ∀ {a b : List Nat}, ltN a b = true → ltN b a = false
  | [], [], h => by simp [ltN] at h
  | [], _ :: _, _ => rfl
  | _ :: _, [], h => by simp [ltN] at h
  | x :: a, y :: b, h => by
    unfold ltN at h ⊢
    by_cases q : x = y
    · subst q
      rw [if_pos rfl] at h ⊢
      exact ltN_asymm h
    · rw [if_neg q] at h
      rw [if_neg (Ne.symm q)]
      have := of_decide_eq_true h
      exact decide_eq_false (by omega)
theorem dle_eq {α : Type} (pd : α → PyData) (a b : α) : PySem.W.dataLe false pd a b = !PySem.W.dataLt (pd b) (pd a) := rfl
theorem dle_sorted {α : Type} (pd : α → PyData) (L : List α) : (L.mergeSort (PySem.W.dataLe false pd)).Pairwise fun a b => PySem.W.dataLe false pd a b = true := by
  have t := PySem.W.sortLe_total (α := α) (listOrd itemOrd) false fun b => PySem.W.keyToks (pd b)
  exact List.pairwise_mergeSort (le := PySem.W.dataLe false pd) (fun a b c h1 h2 => t.trans a b c h1 h2) (fun a b => by
    rw [Bool.or_eq_true]
    exact t.total a b) L
theorem srtD_emb {α : Type} (emb : α → D) (pd : α → PyData) (L : List α) : srtD (L.map emb) (L.map pd) = (L.mergeSort (PySem.W.dataLe false pd)).map emb := by
  unfold srtD
  have z : (L.map emb).zip (L.map pd) = L.map fun a => (emb a, pd a) := by
    induction L with
    | nil => rfl
    | cons a L ih => rw [List.map_cons, List.map_cons, List.zip_cons_cons, ih]; rfl
  have q := List.map_mergeSort (r := PySem.W.dataLe false pd) (s := PySem.W.dataLe false fun z : D × PyData => z.2) (f := fun a => (emb a, pd a)) (l := L) (fun a _ b _ => rfl)
  rw [z, ← q, List.map_map]
  rfl
theorem bSortD_ok {α : Type} {mk : List D → M D} {emb : α → D} {pd : α → PyData} {L : List α} {x : D} {S : Store} (h1 : getQT x S = some (L.map emb)) (h2 : toPs S 59 (L.map emb) = some (L.map pd)) (h3 : ∀ a ∈ L, ∀ b ∈ L, PySem.W.alike (pd a) (pd b) = true) (h4 : ∀ a ∈ L, ∃ x r, pd a = .tuple (x :: r)) (h5 : L.length ≤ 16000000) :
    bSortD mk [x] S = mk ((L.mergeSort (PySem.W.dataLe false pd)).map emb) S := by
  simp only [bSortD, h1, h2]
  have c1 : PySem.W.AllAlike (L.map pd) := fun d hd d' hd' => by
    obtain ⟨a, ha, rfl⟩ := List.mem_map.mp hd
    obtain ⟨b, hb, rfl⟩ := List.mem_map.mp hd'
    exact h3 a ha b hb
  have c2 : PySem.W.Sortable (L.map pd) := .inl fun d hd => by
    obtain ⟨a, ha, rfl⟩ := List.mem_map.mp hd
    exact h4 a ha
  rw [if_pos ⟨c1, c2, by rw [List.length_map]; exact h5⟩, srtD_emb]
/-- a list in order, known -/
theorem dle_uniq {α : Type} {pd : α → PyData} {L M : List α} (an : ∀ a b, PySem.W.dataLt (pd a) (pd b) = false → PySem.W.dataLt (pd b) (pd a) = false → a = b) (p : M.Perm L) (s : M.Pairwise fun a b => PySem.W.dataLe false pd a b = true) : L.mergeSort (PySem.W.dataLe false pd) = M := by
  refine List.Perm.eq_of_pairwise (le := fun a b => PySem.W.dataLe false pd a b = true) (fun a b _ _ h1 h2 => ?_) (dle_sorted pd L) s ((List.mergeSort_perm L _).trans p.symm)
  rw [dle_eq] at h1 h2
  exact an a b (by simpa using h2) (by simpa using h1)


local macro_rules | `(tactic| walk_at "ds") => `(tactic| first | exact rng62_of (by omega) (by omega) | exact ⟨rng62_of (by omega) (by omega), rng62_of (by omega) (by omega)⟩ | exact divOk_lit (by omega) (by omega) | exact mulOkL (by omega) (by omega) | exact mulOkR (by omega) (by omega) | omega | decide | assumption)
local macro_rules | `(tactic| walk_at "dv") => `(tactic| simp only [ySeq_app, ySet_app, yIf_app, yExpr_app, yRet_app, yRetN_app, yNil_app, yFor_app, yAsg_app, yPar_app, yAug_app, ySub_app, yBreak_app, yCont_app, xVar_app, xC_app, xOp_app, xUn_app, xNil_app, xCons_app, xFn_app, xTup_app, xLst_app, xTru_app, xIsT_app, xNot_app, xAnd_app, xOr_app, xAndV_app, xOrV_app, xNotV_app, xIf_app, iSrc_app, iSrcA_app, xLc_app, xMt_app, xSl_app, oNone_app, oSome_app, srcL_lst, srcL_scr, srcT_tup, gN_app, gT_app, gsNil_app, gsCons_app, mkF_app, mkC_app, wipeE_cons, wipeE_nil, bInt_int, bInt_bl, tru_bl, bIsi_tup, bIsi_lst, bIsi_int, bIsi_intb, bLen_lst, bLen_scr, bLen_tup, atI_zero, atI_one, atI_two, dAdd_int, dSub_ok, dLt_ok, dLe_ok, dGt_ok, dGe_ok, dEq_int, dNe_int, List.getElem?_cons_zero, List.getElem?_cons_succ, List.set_cons_zero, List.set_cons_succ, List.length_cons, List.length_nil, List.map_cons, List.map_nil, List.replicate_zero, List.replicate_succ, List.cons_append, List.nil_append, Nat.reduceSub, Nat.reduceAdd, Nat.reduceLeDiff, List.replicate, Res.bind_ok, Res.out_ok, Out.seq_nx, enso_out, ens_ok, enso_nx, enso_rt, enso_bk, enso_ct, enso_seq, ens_bind, fin_same, ens_fdiv, ens_mod, ens_mul, p10_18, ens_srcR1, ens_srcR2, if_true, if_false, Bool.false_eq_true, ite_true, ite_false, reduceIte, beq_self_eq_true, true_and, and_true, Bool.not_true, Bool.not_false, Int.reduceLT, fdiv_pos, fmod_pos, Int.zero_add])
local macro_rules | `(tactic| walk_at "dw") => `(tactic| ((try walk_at "dv"); repeat ((refine And.intro (by walk_at "ds") ?_); try walk_at "dv")))
/-! ### sets come to, standings -/
abbrev Un (S : Store) : Prop := (S.all fun c => c.under S.length) = true
theorem un_app {S X : Store} (h : Un S) (hx : ∀ c ∈ X, c.under (S ++ X).length = true) : Un (S ++ X) := by
  refine List.all_eq_true.mpr fun c hc => ?_
  rcases List.mem_append.mp hc with q | q
  · exact cn_under_mono (by simp) (List.all_eq_true.mp h c q)
  · exact hx c q
def tpD (s : List Nat) : D := .tup (s.map fun (k : Nat) => D.int (k : Int))
def stD (z : List Nat × Nat) : D := .tup [tpD z.1, .int (z.2 : Int)]
def insN (s : List Nat) (k : Nat) : List Nat := (srtSet ((s ++ [k]).map fun (x : Nat) => (x : Int))).map Int.toNat
theorem insN_cast (s : List Nat) (k : Nat) : (insN s k).map (fun (x : Nat) => (x : Int)) = srtSet ((s ++ [k]).map fun (x : Nat) => (x : Int)) := by
  unfold insN
  rw [List.map_map]
  conv => rhs; rw [← List.map_id (srtSet _)]
  refine List.map_congr_left fun x hx => ?_
  obtain ⟨y, _, rfl⟩ := List.mem_map.mp (mem_srtSet.mp hx)
  simp
theorem insN_mem {s : List Nat} {k x : Nat} : x ∈ insN s k ↔ x ∈ s ∨ x = k := by
  have h : (x : Int) ∈ (insN s k).map (fun (x : Nat) => (x : Int)) ↔ (x : Int) ∈ (s ++ [k]).map fun (x : Nat) => (x : Int) := by rw [insN_cast, mem_srtSet]
  have c : ∀ l : List Nat, (x : Int) ∈ l.map (fun (x : Nat) => (x : Int)) ↔ x ∈ l := fun l => by
    rw [List.mem_map]
    constructor
    · rintro ⟨y, hy, e⟩
      have : y = x := by omega
      rw [← this]; exact hy
    · exact fun hx => ⟨x, hx, rfl⟩
  rw [c, c] at h
  rw [h, List.mem_append, List.mem_singleton]
theorem insN_sorted (s : List Nat) (k : Nat) : (insN s k).Pairwise (· < ·) := by
  have h := srtSet_sorted ((s ++ [k]).map fun (x : Nat) => (x : Int))
  rw [← insN_cast, List.pairwise_map] at h
  exact h.imp fun q => by omega
theorem sorted_ext : ∀ {a b : List Nat}, a.Pairwise (· < ·) → b.Pairwise (· < ·) → (∀ x, x ∈ a ↔ x ∈ b) → a = b := fun {a b} ha hb h => by
  refine List.Perm.eq_of_pairwise (le := (· < ·)) (fun x y _ _ h1 h2 => by omega) ha hb ?_
  exact (List.perm_ext_iff_of_nodup (ha.imp fun q => by omega) (hb.imp fun q => by omega)).mpr h
theorem insN_old {s : List Nat} {k : Nat} (hs : s.Pairwise (· < ·)) (hk : k ∈ s) : insN s k = s :=
  sorted_ext (insN_sorted s k) hs fun x => by
    rw [insN_mem]
    exact ⟨fun q => by rcases q with q | rfl <;> assumption, .inl⟩
def nb (rs : List Ro) (p k : Nat) : Prop := ∃ v, (k, v) ∈ prs rs p
theorem nb_get {m : Nat} {rs : List Ro} (h : WebP m rs) {p k : Nat} : nb rs p k ↔ ∃ v, getN (near rs p) k = some v := by
  obtain ⟨a, b, _⟩ := prs_mem h p
  exact ⟨fun ⟨v, q⟩ => ⟨v, a _ q⟩, fun ⟨v, q⟩ => ⟨v, b _ _ q⟩⟩
theorem nb_lt {m : Nat} {rs : List Ro} (h : WebP m rs) {p k : Nat} (q : nb rs p k) : k < m := by
  obtain ⟨v, e⟩ := (nb_get h).mp q
  exact near_key_lt h e
theorem nb_sym {m : Nat} {rs : List Ro} (h : WebP m rs) {p k : Nat} (q : nb rs p k) : nb rs k p := by
  obtain ⟨v, e⟩ := (nb_get h).mp q
  obtain ⟨z, hz, t⟩ := road_of_near e
  obtain ⟨h1, h2⟩ := near_of_road hz
  rcases t with ⟨a, b⟩ | ⟨a, b⟩
  · rw [a, b] at h2; exact (nb_get h).mpr h2
  · rw [a, b] at h1; exact (nb_get h).mpr h1
inductive CS (rs : List Ro) : List Nat → Prop
  | base : CS rs [0]
  | step {s : List Nat} {p k : Nat} : CS rs s → p ∈ s → nb rs p k → CS rs (insN s k)
theorem CS.sorted {rs : List Ro} {s : List Nat} (h : CS rs s) : s.Pairwise (· < ·) := by
  cases h with
  | base => simp
  | step _ _ _ => exact insN_sorted _ _
theorem CS.zero {rs : List Ro} {s : List Nat} (h : CS rs s) : 0 ∈ s := by
  induction h with
  | base => simp
  | step _ _ _ ih => exact insN_mem.mpr (.inl ih)
theorem CS.lt {m : Nat} {rs : List Ro} (w : WebP m rs) {s : List Nat} (h : CS rs s) : ∀ x ∈ s, x < m := by
  induction h with
  | base => intro x hx; rw [List.mem_singleton.mp hx]; exact w.m1
  | step _ _ q ih =>
    intro x hx
    rcases insN_mem.mp hx with a | rfl
    · exact ih x a
    · exact nb_lt w q
theorem CS.len {m : Nat} {rs : List Ro} (w : WebP m rs) {s : List Nat} (h : CS rs s) : s.length ≤ m := pigeon m s (h.sorted.imp fun q => by omega) (h.lt w)
theorem CS.conn {m : Nat} {rs : List Ro} (w : WebP m rs) {s : List Nat} (h : CS rs s) : ∀ R : Nat → Prop, (∃ a ∈ s, R a) → (∀ a ∈ s, R a → ∀ b ∈ s, nb rs a b → R b) → ∀ x ∈ s, R x := by
  induction h with
  | base =>
    rintro R ⟨a, ha, ra⟩ _ x hx
    rw [List.mem_singleton.mp hx, ← List.mem_singleton.mp ha]
    exact ra
  | @step s p k hs hp hn ih =>
    rintro R ⟨a, ha, ra⟩ hc x hx
    have all : ∀ y ∈ s, R y := by
      have rp : ∃ b ∈ s, R b := by
        rcases insN_mem.mp ha with q | rfl
        · exact ⟨a, q, ra⟩
        · exact ⟨p, hp, hc a ha ra p (insN_mem.mpr (.inl hp)) (nb_sym w hn)⟩
      exact ih R rp fun a ha ra b hb q => hc a (insN_mem.mpr (.inl ha)) ra b (insN_mem.mpr (.inl hb)) q
    rcases insN_mem.mp hx with q | rfl
    · exact all x q
    · exact hc p (insN_mem.mpr (.inl hp)) (all p hp) x hx hn
theorem pig {α : Type} [DecidableEq α] : ∀ (l E : List α), l.Nodup → (∀ x ∈ l, x ∈ E) → l.length ≤ E.length
  | [], E, _, _ => by simp
  | x :: l, E, nd, h => by
    rw [List.nodup_cons] at nd
    have hx := h x (by simp)
    have := pig l (E.erase x) nd.2 fun y hy => by
      rw [List.mem_erase_of_ne (fun e => nd.1 (by rw [← e]; exact hy))]
      exact h y (by simp [hy])
    rw [List.length_erase_of_mem hx] at this
    have := List.length_pos_of_mem hx
    simp
    omega
def subs : Nat → List (List Nat)
  | 0 => [[]]
  | n + 1 => subs n ++ (subs n).map (· ++ [n])
theorem subs_len : ∀ n, (subs n).length = 2 ^ n
  | 0 => rfl
  | n + 1 => by unfold subs; rw [List.length_append, List.length_map, subs_len n, Nat.pow_succ]; omega
theorem subs_mem : ∀ {n : Nat} {s : List Nat}, s.Pairwise (· < ·) → (∀ x ∈ s, x < n) → s ∈ subs n
  | 0, s, _, h => by
    cases s with
    | nil => simp [subs]
    | cons x s => have := h x (by simp); omega
  | n + 1, s, hs, h => by
    unfold subs
    rw [List.mem_append]
    rcases List.eq_nil_or_concat s with rfl | ⟨t, a, rfl⟩
    · exact .inl (subs_mem (by simp) (by simp))
    · rw [List.concat_eq_append] at *
      rw [List.pairwise_append] at hs
      obtain ⟨h1, _, h3⟩ := hs
      have ha := h a (by simp)
      have ht : ∀ x ∈ t, x < a := fun x hx => h3 x hx a (by simp)
      by_cases q : a = n
      · subst q
        exact .inr (List.mem_map.mpr ⟨t, subs_mem h1 ht, rfl⟩)
      · refine .inl (subs_mem ?_ fun x hx => ?_)
        · rw [List.pairwise_append]
          exact ⟨h1, by simp, h3⟩
        · rcases List.mem_append.mp hx with q2 | q2
          · have := ht x q2; omega
          · rw [List.mem_singleton.mp q2]; omega
theorem CS.few {m : Nat} {rs : List Ro} (w : WebP m rs) (hm : m ≤ 7) {L : List (List Nat)} (nd : L.Nodup) (h : ∀ s ∈ L, CS rs s) : L.length ≤ 128 := by
  have := pig L (subs m) nd fun s hs => subs_mem (h s hs).sorted ((h s hs).lt w)
  rw [subs_len] at this
  exact Nat.le_trans this (Nat.pow_le_pow_right (by decide) hm : 2 ^ m ≤ 2 ^ 7)
/-- all that is come to, closed -/
theorem cs_all {rs : List Ro} {L : List (List Nat)} (h0 : [0] ∈ L) (hc : ∀ s ∈ L, ∀ p ∈ s, ∀ k, nb rs p k → insN s k ∈ L) {s : List Nat} (h : CS rs s) : s ∈ L := by
  induction h with
  | base => exact h0
  | step _ hp hn ih => exact hc _ ih _ hp _ hn
/-! standings -/
def nx (rs : List Ro) (wk : Bool) (z : List Nat × Nat) : List (List Nat × Nat) :=
  if wk then (prs rs z.2).map fun q => (insN z.1 q.1, q.1)
  else z.1.flatMap fun p => ((prs rs p).filter fun q => !decide (q.1 ∈ z.1)).map fun q => (insN z.1 q.1, 0)
def isSt (rs : List Ro) (wk : Bool) (z : List Nat × Nat) : Prop := CS rs z.1 ∧ if wk then z.2 ∈ z.1 else z.2 = 0
theorem nx_mem {rs : List Ro} {wk : Bool} {z y : List Nat × Nat} : y ∈ nx rs wk z ↔ if wk then nb rs z.2 y.2 ∧ y.1 = insN z.1 y.2 else ∃ p ∈ z.1, ∃ k, nb rs p k ∧ k ∉ z.1 ∧ y = (insN z.1 k, 0) := by
  unfold nx
  cases wk with
  | true =>
    simp only [if_true]
    rw [List.mem_map]
    constructor
    · rintro ⟨q, hq, rfl⟩
      exact ⟨⟨q.2, hq⟩, rfl⟩
    · rintro ⟨⟨v, hv⟩, e⟩
      exact ⟨(y.2, v), hv, by rw [← e]⟩
  | false =>
    simp only [Bool.false_eq_true, if_false]
    rw [List.mem_flatMap]
    constructor
    · rintro ⟨p, hp, hy⟩
      obtain ⟨q, hq, rfl⟩ := List.mem_map.mp hy
      obtain ⟨h1, h2⟩ := List.mem_filter.mp hq
      exact ⟨p, hp, q.1, ⟨q.2, h1⟩, by simpa using h2, rfl⟩
    · rintro ⟨p, hp, k, ⟨v, hv⟩, hk, rfl⟩
      exact ⟨p, hp, List.mem_map.mpr ⟨(k, v), List.mem_filter.mpr ⟨hv, by simpa using hk⟩, rfl⟩⟩
theorem isSt_nx {rs : List Ro} {wk : Bool} {z y : List Nat × Nat} (h : isSt rs wk z) (hy : y ∈ nx rs wk z) : isSt rs wk y := by
  rw [nx_mem] at hy
  obtain ⟨h1, h2⟩ := h
  cases wk with
  | true =>
    simp only [if_true] at h2 hy
    obtain ⟨a, b⟩ := hy
    refine ⟨by rw [b]; exact .step h1 h2 a, ?_⟩
    simp only [if_true]
    rw [b]
    exact insN_mem.mpr (.inr rfl)
  | false =>
    simp only [Bool.false_eq_true, if_false] at h2 hy
    obtain ⟨p, hp, k, hn, hk, rfl⟩ := hy
    exact ⟨.step h1 hp hn, by simp⟩
theorem isSt_all {m : Nat} {rs : List Ro} (w : WebP m rs) {wk : Bool} {L : List (List Nat × Nat)} (h0 : ([0], 0) ∈ L) (hc : ∀ z ∈ L, ∀ y ∈ nx rs wk z, y ∈ L) {z : List Nat × Nat} (h : isSt rs wk z) : z ∈ L := by
  obtain ⟨h1, h2⟩ := h
  obtain ⟨s, x⟩ := z
  cases wk with
  | true =>
    simp only [if_true] at h2 h1
    have all : ∀ {s : List Nat}, CS rs s → ∀ x ∈ s, (s, x) ∈ L := fun {s} h => by
      induction h with
      | base => intro x hx; rw [List.mem_singleton.mp hx]; exact h0
      | @step s p k hs hp hn ih =>
        have e1 : (insN s k, k) ∈ L := hc _ (ih p hp) _ (nx_mem.mpr (by simp only [if_true]; exact ⟨hn, trivial⟩))
        exact (CS.step hs hp hn).conn w (fun x => (insN s k, x) ∈ L) ⟨k, insN_mem.mpr (.inr rfl), e1⟩ fun a ha ra b hb q => by
          have := hc _ ra (insN (insN s k) b, b) (nx_mem.mpr (by simp only [if_true]; exact ⟨q, trivial⟩))
          rwa [insN_old (insN_sorted s k) hb] at this
    exact all h1 x h2
  | false =>
    simp only [Bool.false_eq_true, if_false] at h2 h1
    subst h2
    induction h1 with
    | base => exact h0
    | @step s p k hs hp hn ih =>
      by_cases q : k ∈ s
      · rw [insN_old hs.sorted q]; exact ih
      · exact hc _ ih _ (nx_mem.mpr (by simp only [Bool.false_eq_true, if_false]; exact ⟨p, hp, k, hn, q, rfl⟩))
/-- the standings in their order -/
def stL (wk : Bool) (SS : List (List Nat)) : List (List Nat × Nat) := if wk then SS.flatMap fun s => s.map fun x => (s, x) else SS.map fun s => (s, 0)
theorem stL_mem {wk : Bool} {SS : List (List Nat)} {z : List Nat × Nat} : z ∈ stL wk SS ↔ z.1 ∈ SS ∧ if wk then z.2 ∈ z.1 else z.2 = 0 := by
  unfold stL
  cases wk with
  | true =>
    simp only [if_true]
    rw [List.mem_flatMap]
    constructor
    · rintro ⟨s, hs, hz⟩
      obtain ⟨x, hx, rfl⟩ := List.mem_map.mp hz
      exact ⟨hs, hx⟩
    · rintro ⟨h1, h2⟩
      exact ⟨z.1, h1, List.mem_map.mpr ⟨z.2, h2, rfl⟩⟩
  | false =>
    simp only [Bool.false_eq_true, if_false]
    rw [List.mem_map]
    constructor
    · rintro ⟨s, hs, rfl⟩
      exact ⟨hs, rfl⟩
    · rintro ⟨h1, h2⟩
      exact ⟨z.1, h1, by rw [← h2]⟩
theorem st_anti {a b : List Nat × Nat} (h1 : PySem.W.dataLt (stP a) (stP b) = false) (h2 : PySem.W.dataLt (stP b) (stP a) = false) : a = b := by
  rw [lt_st] at h1 h2
  obtain ⟨a, x⟩ := a
  obtain ⟨b, y⟩ := b
  by_cases q : a = b
  · subst q
    simp at h1 h2
    rw [show x = y by omega]
  · simp only [if_neg q] at h1
    simp only [if_neg (Ne.symm q)] at h2
    exact (q (ltN_anti h1 h2)).elim
theorem stL_sorted {wk : Bool} {SS : List (List Nat)} (h : SS.Pairwise fun a b => ltN a b = true) (hs : ∀ s ∈ SS, s.Pairwise (· < ·)) : (stL wk SS).Pairwise fun a b => PySem.W.dataLe false stP a b = true := by
  have le : ∀ a b : List Nat × Nat, (PySem.W.dataLe false stP a b = true) ↔ (if b.1 = a.1 then decide (b.2 < a.2) else ltN b.1 a.1) = false := fun a b => by
    rw [dle_eq, lt_st]
    simp
  unfold stL
  cases wk with
  | true =>
    simp only [if_true]
    induction h with
    | nil => simp
    | @cons s SS h1 h2 ih =>
      rw [List.flatMap_cons, List.pairwise_append]
      refine ⟨?_, ih fun t ht => hs t (by simp [ht]), fun x hx y hy => ?_⟩
      · rw [List.pairwise_map]
        exact (hs s (by simp)).imp fun {x y} q => by
          rw [le]
          simp
          omega
      · obtain ⟨x', _, rfl⟩ := List.mem_map.mp hx
        obtain ⟨t, ht, hy⟩ := List.mem_flatMap.mp hy
        obtain ⟨y', _, rfl⟩ := List.mem_map.mp hy
        have := h1 t ht
        rw [le]
        have ne : t ≠ s := fun z => by rw [z, ltN_irrefl] at this; cases this
        simp only [if_neg ne]
        exact ltN_asymm this
  | false =>
    simp only [Bool.false_eq_true, if_false]
    rw [List.pairwise_map]
    exact h.imp fun {a b} q => by
      rw [le]
      have ne : b ≠ a := fun z => by rw [z, ltN_irrefl] at q; cases q
      simp only [if_neg ne]
      exact ltN_asymm q
theorem stL_nodup {wk : Bool} {SS : List (List Nat)} (h : SS.Pairwise fun a b => ltN a b = true) (hs : ∀ s ∈ SS, s.Pairwise (· < ·)) : (stL wk SS).Nodup := by
  unfold stL
  cases wk with
  | true =>
    simp only [if_true]
    induction h with
    | nil => simp
    | @cons s SS h1 h2 ih =>
      rw [List.flatMap_cons]
      refine List.nodup_append.mpr ⟨?_, ih fun t ht => hs t (by simp [ht]), fun x hx y hy e => ?_⟩
      · unfold List.Nodup
        rw [List.pairwise_map]
        exact (hs s (by simp)).imp fun {x y} q e => by
          have := (Prod.mk.inj e).2
          omega
      · obtain ⟨x', _, rfl⟩ := List.mem_map.mp hx
        obtain ⟨t, ht, hy⟩ := List.mem_flatMap.mp hy
        obtain ⟨y', _, rfl⟩ := List.mem_map.mp hy
        have := h1 t ht
        rw [← (Prod.mk.inj e).1, ltN_irrefl] at this
        cases this
  | false =>
    simp only [Bool.false_eq_true, if_false]
    unfold List.Nodup
    rw [List.pairwise_map]
    exact h.imp fun {a b} q e => by
      rw [(Prod.mk.inj e).1, ltN_irrefl] at q
      cases q
/-- the sets' order -/
theorem sets_sorted {L : List (List Nat)} (nd : L.Nodup) : (L.mergeSort (PySem.W.dataLe false tpP)).Pairwise fun a b => ltN a b = true := by
  have h1 := dle_sorted tpP L
  have h2 : (L.mergeSort (PySem.W.dataLe false tpP)).Nodup := (List.mergeSort_perm _ _).nodup_iff.mpr nd
  refine (List.pairwise_and_iff.mpr ⟨h1, h2⟩).imp fun {a b} ⟨p, q⟩ => ?_
  rw [dle_eq, lt_tp] at p
  cases r : ltN a b with
  | true => rfl
  | false => exact (q (ltN_anti r (by simpa using p))).elim
theorem due_sorted {m : Nat} {rs : List Ro} (w : WebP m rs) {wk : Bool} {L : List (List Nat)} {E : List (List Nat × Nat)} (nd : L.Nodup) (h1 : ∀ s ∈ L, CS rs s) (h2 : ∀ s, CS rs s → s ∈ L) (ne : E.Nodup) (e1 : ∀ z ∈ E, isSt rs wk z) (e2 : ∀ z, isSt rs wk z → z ∈ E) :
    E.mergeSort (PySem.W.dataLe false stP) = stL wk (L.mergeSort (PySem.W.dataLe false tpP)) := by
  have ss := sets_sorted nd
  have so : ∀ s ∈ L.mergeSort (PySem.W.dataLe false tpP), s.Pairwise (· < ·) := fun s hs => (h1 s ((List.mergeSort_perm _ _).mem_iff.mp hs)).sorted
  refine dle_uniq (fun a b => st_anti) ?_ (stL_sorted ss so)
  refine (List.perm_ext_iff_of_nodup (stL_nodup ss so) ne).mpr fun z => ?_
  rw [stL_mem, (List.mergeSort_perm _ _).mem_iff]
  exact ⟨fun ⟨a, b⟩ => e2 z ⟨h1 _ a, b⟩, fun hz => ⟨h2 _ (e1 z hz).1, (e1 z hz).2⟩⟩


local macro_rules | `(tactic| walk_at "ds") => `(tactic| first | exact rng62_of (by omega) (by omega) | exact ⟨rng62_of (by omega) (by omega), rng62_of (by omega) (by omega)⟩ | exact divOk_lit (by omega) (by omega) | exact mulOkL (by omega) (by omega) | exact mulOkR (by omega) (by omega) | omega | decide | assumption)
local macro_rules | `(tactic| walk_at "dv") => `(tactic| simp only [ySeq_app, ySet_app, yIf_app, yExpr_app, yRet_app, yRetN_app, yNil_app, yFor_app, yAsg_app, yPar_app, yAug_app, ySub_app, yBreak_app, yCont_app, xVar_app, xC_app, xOp_app, xUn_app, xNil_app, xCons_app, xFn_app, xTup_app, xLst_app, xTru_app, xIsT_app, xNot_app, xAnd_app, xOr_app, xAndV_app, xOrV_app, xNotV_app, xIf_app, iSrc_app, iSrcA_app, xLc_app, xMt_app, xSl_app, oNone_app, oSome_app, srcL_lst, srcL_scr, srcT_tup, gN_app, gT_app, gsNil_app, gsCons_app, mkF_app, mkC_app, wipeE_cons, wipeE_nil, bInt_int, bInt_bl, tru_bl, bIsi_tup, bIsi_lst, bIsi_int, bIsi_intb, bLen_lst, bLen_scr, bLen_tup, atI_zero, atI_one, atI_two, dAdd_int, dSub_ok, dLt_ok, dLe_ok, dGt_ok, dGe_ok, dEq_int, dNe_int, List.getElem?_cons_zero, List.getElem?_cons_succ, List.set_cons_zero, List.set_cons_succ, List.length_cons, List.length_nil, List.map_cons, List.map_nil, List.replicate_zero, List.replicate_succ, List.cons_append, List.nil_append, Nat.reduceSub, Nat.reduceAdd, Nat.reduceLeDiff, List.replicate, Res.bind_ok, Res.out_ok, Out.seq_nx, enso_out, ens_ok, enso_nx, enso_rt, enso_bk, enso_ct, enso_seq, ens_bind, fin_same, ens_fdiv, ens_mod, ens_mul, p10_18, ens_srcR1, ens_srcR2, if_true, if_false, Bool.false_eq_true, ite_true, ite_false, reduceIte, beq_self_eq_true, true_and, and_true, Bool.not_true, Bool.not_false, Int.reduceLT, fdiv_pos, fmod_pos, Int.zero_add])
local macro_rules | `(tactic| walk_at "dw") => `(tactic| ((try walk_at "dv"); repeat ((refine And.intro (by walk_at "ds") ?_); try walk_at "dv")))
/-! ### the program's standings -/
theorem toPs_nat (S : Store) (n : Nat) : ∀ s : List Nat, toPs S n (s.map fun (k : Nat) => D.int (k : Int)) = some (s.map fun (k : Nat) => PyData.int (k : Int))
  | [] => by rw [List.map_nil, toPs]; rfl
  | k :: s => by rw [List.map_cons, toPs, toPs_nat S n s]; cases n <;> rw [toP] <;> rfl
theorem tp_toP (S : Store) (n : Nat) (s : List Nat) : toP S (n + 1) (tpD s) = some (tpP s) := by
  unfold tpD tpP
  rw [toP, toPs_nat]
  rfl
theorem tps_toPs (S : Store) (n : Nat) : ∀ L : List (List Nat), toPs S (n + 1) (L.map tpD) = some (L.map tpP)
  | [] => by rw [List.map_nil, toPs]; rfl
  | s :: L => by rw [List.map_cons, toPs, tp_toP, tps_toPs S n L]; rfl
theorem st_toP (S : Store) (n : Nat) (z : List Nat × Nat) : toP S (n + 2) (stD z) = some (stP z) := by
  unfold stD stP
  rw [toP, toPs, tp_toP, toPs, toPs, toP]
  rfl
theorem sts_toPs (S : Store) (n : Nat) : ∀ L : List (List Nat × Nat), toPs S (n + 2) (L.map stD) = some (L.map stP)
  | [] => by rw [List.map_nil, toPs]; rfl
  | s :: L => by rw [List.map_cons, toPs, st_toP, sts_toPs S n L]; rfl
theorem cell_toP {S : Store} {n k : Nat} {l : List D} {ps : List PyData} (h : S[n]? = some (.lst l)) (q : toPs S k l = some ps) : toP S (k + 1) (.cell n) = some (.list ps) := by
  rw [toP]
  simp only [h, q]
  rfl
theorem in_cell {α : Type} [DecidableEq α] {emb : α → D} {pd : α → PyData} {S : Store} {n : Nat} {L : List α} {a : α} (h : S[n]? = some (.lst (L.map emb))) (h1 : toP S 60 (emb a) = some (pd a)) (h2 : toPs S 59 (L.map emb) = some (L.map pd)) (he : ∀ x y, PyData.eqv (pd x) (pd y) = decide (x = y)) :
    dInD true (emb a) (.cell n) S = .ok (.bl (!decide (a ∈ L))) S := by
  simp only [dInD, h1, cell_toP h h2, if_true, List.any_map]
  congr 3
  rw [Bool.eq_iff_iff, List.any_eq_true, decide_eq_true_iff]
  constructor
  · rintro ⟨x, hx, e⟩
    have e : PyData.eqv (pd x) (pd a) = true := e
    rw [he, decide_eq_true_iff] at e
    rw [← e]; exact hx
  · exact fun hx => ⟨a, hx, by show PyData.eqv (pd a) (pd a) = true; rw [he]; simp⟩
theorem cell_ix {n a : Nat} {l : List D} {x : D} {S : Store} (h : S[n]? = some (.lst l)) (hx : l[a]? = some x) : dIx (.cell n) (.int (a : Int)) S = .ok x S := by
  simp only [dIx, getQ, getL, h, atI_nat hx]
theorem cell_len {n : Nat} {l : List D} {S : Store} (h : S[n]? = some (.lst l)) : bLen [.cell n] S = .ok (.int (l.length : Int)) S := by
  simp only [bLen, getQ, getL, h]
theorem roads_eq {m : Nat} {rs : List Ro} (h : WebP m rs) (p : Nat) (S : Store) (hS : Un S) : F_roads_from [wbD m rs, .int (p : Int)] S = .ok (.lst ((prs rs p).map prN)) S := by
  obtain ⟨d, S', e, rfl, rfl⟩ := (roads_from_x h p S hS).get
  exact e
theorem at_app (S : Store) (c : Cn) : (S ++ [c])[S.length]? = some c := by simp
theorem set_app (S : Store) (c c' : Cn) : (S ++ [c]).set S.length c' = S ++ [c'] := by
  rw [List.set_append_right _ _ (Nat.le_refl _), Nat.sub_self]
  rfl
theorem tp_under (N : Nat) (s : List Nat) : (tpD s).under N = true := by unfold tpD; rw [D.under]; exact underL_nat s
theorem st_under (N : Nat) (z : List Nat × Nat) : (stD z).under N = true := by
  unfold stD
  simp [D.under, D.underL, tp_under]
theorem un_lst {α : Type} {emb : α → D} (hu : ∀ N a, (emb a).under N = true) {S : Store} (hS : Un S) (L : List α) : Un (S ++ [.lst (L.map emb)]) := un_app hS fun c hc => by
  rw [List.mem_singleton.mp hc, Cn.under]
  exact underL_of fun d hd => by
    obtain ⟨a, _, rfl⟩ := List.mem_map.mp hd
    exact hu _ a
theorem add_ok {s : List Nat} (k : Nat) (hs : s ≠ []) (hl : s.length ≤ 50) (S : Store) : dAdd mkF (tpD s) (.tup [.int (k : Int)]) S = .ok (.tup ((s.map fun (x : Nat) => D.int (x : Int)) ++ [.int (k : Int)])) S := by
  unfold tpD
  rw [dt_add _ _ _ (by simpa using hs) (by simp) (by simp; omega)]
theorem more_ok {s : List Nat} (k : Nat) (hl : s.length ≤ 50) (S : Store) : dSortSet mkF (.tup ((s.map fun (x : Nat) => D.int (x : Int)) ++ [.int (k : Int)])) S = .ok (.lst ((insN s k).map fun (x : Nat) => D.int (x : Int))) S := by
  have e : (s.map fun (x : Nat) => D.int (x : Int)) ++ [.int (k : Int)] = ((s ++ [k]).map fun (x : Nat) => (x : Int)).map D.int := by
    rw [List.map_map, List.map_append]
    rfl
  have io : ∀ ns : List Int, intsOf (ns.map D.int) = some ns := fun ns => by
    induction ns with
    | nil => rfl
    | cons n ns ih => rw [List.map_cons, intsOf, ih]; rfl
  simp only [dSortSet, e, io]
  rw [if_pos (by simp; omega), ← insN_cast, List.map_map]
  rfl
structure FI (rs : List Ro) (FL : List (List Nat)) : Prop where
  nd : FL.Nodup
  cs : ∀ s ∈ FL, CS rs s
  hd : FL[0]? = some [0]
theorem FI.snoc {rs : List Ro} {FL : List (List Nat)} (h : FI rs FL) {s : List Nat} (hn : s ∉ FL) (hs : CS rs s) : FI rs (FL ++ [s]) := by
  refine ⟨List.nodup_append.mpr ⟨h.nd, by simp, fun a ha b hb e => ?_⟩, fun t ht => ?_, ?_⟩
  · rw [List.mem_singleton.mp hb] at e
    exact hn (e ▸ ha)
  · rcases List.mem_append.mp ht with q | q
    · exact h.cs t q
    · rw [List.mem_singleton.mp q]; exact hs
  · rw [List.getElem?_append_left (List.getElem?_eq_some_iff.mp h.hd).1]
    exact h.hd
def Pre {α : Type} (A B : List α) : Prop := ∀ (i : Nat) s, A[i]? = some s → B[i]? = some s
theorem Pre.mem {α : Type} {A B : List α} (h : Pre A B) {s : α} (hs : s ∈ A) : s ∈ B := by
  obtain ⟨i, hi, rfl⟩ := List.getElem_of_mem hs
  exact List.mem_of_getElem? (h i _ (List.getElem?_eq_getElem hi))
theorem Pre.snoc {α : Type} {A B : List α} (h : Pre A B) (s : α) : Pre A (B ++ [s]) := fun i t e => by
  have := h i t e
  rw [List.getElem?_append_left (List.getElem?_eq_some_iff.mp this).1]
  exact this
theorem Pre.len {α : Type} {A B : List α} (h : Pre A B) : A.length ≤ B.length := by
  cases q : A.length with
  | zero => omega
  | succ n =>
    have := h n A[n] (List.getElem?_eq_getElem (by omega))
    have := (List.getElem?_eq_some_iff.mp this).1
    omega
theorem sets_ok {m : Nat} {rs : List Ro} (w : WebP m rs) (hm : m ≤ 7) (S : Store) (hS : Un S) : Ens (F_sets_come_to [wbD m rs] S) fun d S' => S' = S ∧ ∃ L : List (List Nat), d = .lst ((L.mergeSort (PySem.W.dataLe false tpP)).map tpD) ∧ L.Nodup ∧ (∀ s ∈ L, CS rs s) ∧ (∀ s, CS rs s → s ∈ L) ∧ L.length ≤ 128 := by
  refine ens_fn rfl ?_
  unfold b_sets_come_to
  simp only [List.map_cons, List.map_nil, List.replicate, List.cons_append, List.nil_append]
  refine ens_sq (fun e S' => S' = S ++ [.lst ([[0]].map tpD)] ∧ e = [some (wbD m rs), some (.cell S.length), none, none, none, none, none]) (fun R hR => ?_) ?_
  · walk_at "dw"
    exact hR _ _ ⟨rfl, rfl⟩
  rintro e S' ⟨rfl, rfl⟩
  refine ens_sq (fun e S' => S' = S ++ [.lst ([[0]].map tpD)] ∧ e = [some (wbD m rs), some (.cell S.length), some (.int ((0 : Nat) : Int)), none, none, none, none]) (fun R hR => ?_) ?_
  · walk_at "dw"
    exact hR _ _ ⟨rfl, rfl⟩
  rintro e S' ⟨rfl, rfl⟩
  refine ens_sq (fun e S' => ∃ FL v2 v3 v4 v5 v6, S' = S ++ [.lst (FL.map tpD)] ∧ e = [some (wbD m rs), some (.cell S.length), v2, v3, v4, v5, v6] ∧ FI rs FL ∧ ∀ s ∈ FL, ∀ p ∈ s, ∀ k, nb rs p k → insN s k ∈ FL) (fun R hR => ?_) ?_
  · refine ens_while (fun e S' => ∃ FL v3 v4 v5 v6, ∃ a : Nat, S' = S ++ [.lst (FL.map tpD)] ∧ e = [some (wbD m rs), some (.cell S.length), some (.int (a : Int)), v3, v4, v5, v6] ∧ FI rs FL ∧ a ≤ FL.length ∧ ∀ i, i < a → ∀ s, FL[i]? = some s → ∀ p ∈ s, ∀ k, nb rs p k → insN s k ∈ FL)
      (fun e _ => match e with | [_, _, some (.int a), _, _, _, _] => 128 - a.toNat | _ => 0) ?_ ⟨[[0]], _, _, _, _, 0, rfl, rfl, ⟨by simp, fun s hs => by rw [List.mem_singleton.mp hs]; exact .base, rfl⟩, by omega, fun i hi => by omega⟩
    rintro e S' ⟨FL, v3, v4, v5, v6, a, rfl, rfl, fi, ha, hc⟩
    have few := CS.few w hm fi.nd fi.cs
    walk_at "dw"
    rw [cell_len (at_app _ _), List.length_map]
    walk_at "dw"
    refine ⟨fun h => ?_, fun h => ?_⟩
    · have h : a < FL.length := by have := of_decide_eq_true h; omega
      obtain ⟨s, hs⟩ : ∃ s, FL[a]? = some s := ⟨FL[a], List.getElem?_eq_getElem h⟩
      have css := fi.cs s (List.mem_of_getElem? hs)
      have sne : s ≠ [] := fun z => by have := css.zero; rw [z] at this; simp at this
      have sl : s.length ≤ 50 := by have := css.len w; omega
      have at1 : ∀ FL', Pre FL FL' → (FL'.map tpD)[a]? = some (tpD s) := fun FL' hp => by rw [List.getElem?_map, hp a s hs]; rfl
      rw [cell_ix (at_app _ _) (at1 FL fun _ _ e => e)]
      walk_at "dw"
      rw [show tpD s = .tup (s.map fun (k : Nat) => D.int (k : Int)) from rfl]
      walk_at "dw"
      refine ens_fr (fun i e S2 => ∃ FL' v3 v4 v5 v6, S2 = S ++ [.lst (FL'.map tpD)] ∧ e = [some (wbD m rs), some (.cell S.length), some (.int (a : Int)), v3, v4, v5, v6] ∧ FI rs FL' ∧ Pre FL FL' ∧ ∀ p ∈ s.take i, ∀ k, nb rs p k → insN s k ∈ FL') ⟨FL, _, _, _, _, rfl, rfl, fi, fun _ _ e => e, by simp⟩ ?_ ?_
      · rintro i d e S2 R3 hd ⟨FL', u3, u4, u5, u6, rfl, rfl, fi', pr, hq⟩ hR3
        rw [List.getElem?_map] at hd
        have hi : i < s.length := by
          by_cases q : i < s.length
          · exact q
          · rw [List.getElem?_eq_none (by omega)] at hd; cases hd
        rw [List.getElem?_eq_getElem hi] at hd
        cases hd
        have hps : s[i] ∈ s := List.getElem_mem hi
        have tk : s.take (i + 1) = s.take i ++ [s[i]] := List.take_succ_eq_append_getElem hi
        generalize s[i] = p at *
        walk_at "dw"
        rw [roads_eq w p _ (un_lst tp_under hS _)]
        walk_at "dw"
        refine ens_fr (fun j e S2 => ∃ FL' v4 v5 v6, S2 = S ++ [.lst (FL'.map tpD)] ∧ e = [some (wbD m rs), some (.cell S.length), some (.int (a : Int)), some (.int (p : Int)), v4, v5, v6] ∧ FI rs FL' ∧ Pre FL FL' ∧ (∀ p ∈ s.take i, ∀ k, nb rs p k → insN s k ∈ FL') ∧ ∀ q ∈ (prs rs p).take j, insN s q.1 ∈ FL') ⟨FL', _, _, _, rfl, rfl, fi', pr, hq, by simp⟩ ?_ ?_
        · rintro j d e S2 R4 hd ⟨FL2, w4, w5, w6, rfl, rfl, fi2, pr2, hq2, hj⟩ hR4
          rw [List.getElem?_map] at hd
          have hj2 : j < (prs rs p).length := by
            by_cases q : j < (prs rs p).length
            · exact q
            · rw [List.getElem?_eq_none (by omega)] at hd; cases hd
          rw [List.getElem?_eq_getElem hj2] at hd
          cases hd
          have hk : (prs rs p)[j] ∈ prs rs p := List.getElem_mem hj2
          have tk2 : (prs rs p).take (j + 1) = (prs rs p).take j ++ [(prs rs p)[j]] := List.take_succ_eq_append_getElem hj2
          generalize (prs rs p)[j] = q at *
          obtain ⟨k, v⟩ := q
          have csk : CS rs (insN s k) := .step css hps ⟨v, hk⟩
          unfold prN
          walk_at "dw"
          rw [xSortSet_app]
          walk_at "dw"
          rw [cell_ix (at_app _ _) (at1 FL2 pr2)]
          walk_at "dw"
          rw [add_ok k sne sl]
          walk_at "dw"
          rw [more_ok k sl]
          walk_at "dw"
          rw [show bTuple [.lst ((insN s k).map fun (x : Nat) => D.int (x : Int))] (S ++ [.lst (FL2.map tpD)]) = .ok (tpD (insN s k)) (S ++ [.lst (FL2.map tpD)]) from rfl]
          walk_at "dw"
          rw [in_cell (emb := tpD) (pd := tpP) (at_app _ _) (tp_toP _ 59 _) (tps_toPs _ 58 _) tpP_eqv]
          walk_at "dw"
          by_cases q : insN s k ∈ FL2
          · rw [if_neg (by simp [q])]
            walk_at "dw"
            refine hR4 _ _ ⟨FL2, _, _, _, rfl, rfl, fi2, pr2, hq2, fun q' hq' => ?_⟩
            rw [tk2] at hq'
            rcases List.mem_append.mp hq' with z | z
            · exact hj q' z
            · rw [List.mem_singleton.mp z]; exact q
          · have few2 := CS.few w hm fi2.nd fi2.cs
            rw [if_pos (by simp [q])]
            rw [if_pos (cellL_is (at_app _ _)), app_cell (at_app _ _) (by rw [List.length_map]; omega), set_app]
            walk_at "dw"
            refine hR4 _ _ ⟨FL2 ++ [insN s k], _, _, _, by rw [List.map_append]; rfl, rfl, fi2.snoc q csk, pr2.snoc _, fun p' hp' k' hk' => List.mem_append_left _ (hq2 p' hp' k' hk'), fun q' hq' => ?_⟩
            rw [tk2] at hq'
            rcases List.mem_append.mp hq' with z | z
            · exact List.mem_append_left _ (hj q' z)
            · rw [List.mem_singleton.mp z]; simp
        · rintro e S2 ⟨FL2, w4, w5, w6, rfl, rfl, fi2, pr2, hq2, hj⟩
          rw [List.length_map, List.take_length] at hj
          refine hR3 _ _ ⟨FL2, _, _, _, _, rfl, rfl, fi2, pr2, fun p' hp' k hk => ?_⟩
          rw [tk] at hp'
          rcases List.mem_append.mp hp' with q | q
          · exact hq2 p' q k hk
          · rw [List.mem_singleton.mp q] at hk
            obtain ⟨v, hv⟩ := hk
            exact hj _ hv
      · rintro e S2 ⟨FL', u3, u4, u5, u6, rfl, rfl, fi', pr, hq⟩
        rw [List.length_map, List.take_length] at hq
        have ia : ∀ S, ipAdd (.int (a : Int)) (.int 1) S = .ok (.int ((a + 1 : Nat) : Int)) S := fun _ => rfl
        walk_at "dw"
        try rw [ia]
        walk_at "dw"
        refine ⟨⟨FL', _, _, _, _, a + 1, rfl, rfl, fi', by have := pr.len; omega, fun i hi t ht p hp k hk => ?_⟩, by omega⟩
        by_cases q : i < a
        · have hi2 : i < FL.length := by omega
          have e1 : FL[i]? = some FL[i] := List.getElem?_eq_getElem hi2
          have e2 := pr i _ e1
          rw [ht] at e2
          cases e2
          exact pr.mem (hc i q _ e1 p hp k hk)
        · obtain rfl : i = a := by omega
          rw [pr i s hs] at ht
          cases ht
          exact hq p hp k hk
    · have h : a = FL.length := by have := of_decide_eq_false h; omega
      refine hR _ _ ⟨FL, _, _, _, _, _, rfl, rfl, fi, fun s hs p hp k hk => ?_⟩
      obtain ⟨i, hi, rfl⟩ := List.getElem_of_mem hs
      exact hc i (by omega) _ (List.getElem?_eq_getElem hi) p hp k hk
  rintro e S' ⟨FL, v2, v3, v4, v5, v6, rfl, rfl, fi, hc⟩
  have few := CS.few w hm fi.nd fi.cs
  walk_at "dw"
  rw [bSortD_ok (emb := tpD) (pd := tpP) (L := FL) (by simp only [getQT, getQ, getL, at_app]) (tps_toPs _ 58 FL) (fun a _ b _ => tp_alike a b) (fun s hs => by
    have := (fi.cs s hs).zero
    cases s with
    | nil => simp at this
    | cons x s => exact ⟨_, _, rfl⟩) (by omega)]
  walk_at "dw"
  rw [fin_cut rfl hS (by
    rw [D.under]
    refine underL_of fun d hd => ?_
    obtain ⟨a, _, rfl⟩ := List.mem_map.mp hd
    exact tp_under _ a)]
  walk_at "dw"
  exact ⟨FL, rfl, fi.nd, fi.cs, fun s hs => cs_all (List.mem_of_getElem? fi.hd) hc hs, few⟩


local macro_rules | `(tactic| walk_at "ds") => `(tactic| first | exact rng62_of (by omega) (by omega) | exact ⟨rng62_of (by omega) (by omega), rng62_of (by omega) (by omega)⟩ | exact divOk_lit (by omega) (by omega) | exact mulOkL (by omega) (by omega) | exact mulOkR (by omega) (by omega) | omega | decide | assumption)
local macro_rules | `(tactic| walk_at "dv") => `(tactic| simp only [ySeq_app, ySet_app, yIf_app, yExpr_app, yRet_app, yRetN_app, yNil_app, yFor_app, yAsg_app, yPar_app, yAug_app, ySub_app, yBreak_app, yCont_app, xVar_app, xC_app, xOp_app, xUn_app, xNil_app, xCons_app, xFn_app, xTup_app, xLst_app, xTru_app, xIsT_app, xNot_app, xAnd_app, xOr_app, xAndV_app, xOrV_app, xNotV_app, xIf_app, iSrc_app, iSrcA_app, xLc_app, xMt_app, xSl_app, oNone_app, oSome_app, srcL_lst, srcL_scr, srcT_tup, gN_app, gT_app, gsNil_app, gsCons_app, mkF_app, mkC_app, wipeE_cons, wipeE_nil, bInt_int, bInt_bl, tru_bl, bIsi_tup, bIsi_lst, bIsi_int, bIsi_intb, bLen_lst, bLen_scr, bLen_tup, atI_zero, atI_one, atI_two, dAdd_int, dSub_ok, dLt_ok, dLe_ok, dGt_ok, dGe_ok, dEq_int, dNe_int, List.getElem?_cons_zero, List.getElem?_cons_succ, List.set_cons_zero, List.set_cons_succ, List.length_cons, List.length_nil, List.map_cons, List.map_nil, List.replicate_zero, List.replicate_succ, List.cons_append, List.nil_append, Nat.reduceSub, Nat.reduceAdd, Nat.reduceLeDiff, List.replicate, Res.bind_ok, Res.out_ok, Out.seq_nx, enso_out, ens_ok, enso_nx, enso_rt, enso_bk, enso_ct, enso_seq, ens_bind, fin_same, ens_fdiv, ens_mod, ens_mul, p10_18, ens_srcR1, ens_srcR2, if_true, if_false, Bool.false_eq_true, ite_true, ite_false, reduceIte, beq_self_eq_true, true_and, and_true, Bool.not_true, Bool.not_false, Int.reduceLT, fdiv_pos, fmod_pos, Int.zero_add])
local macro_rules | `(tactic| walk_at "dw") => `(tactic| ((try walk_at "dv"); repeat ((refine And.intro (by walk_at "ds") ?_); try walk_at "dv")))
/-! ### the kinds of plans -/
def kdD (kd : Bool) : D := .str (if kd then ("walk" : PySem.Str) else ("spread" : PySem.Str))
theorem kd_lay (kd : Bool) : PySem.PyData.canLay0 (.str (if kd then ("walk" : PySem.Str) else ("spread" : PySem.Str))) = true := by cases kd <;> decide +kernel
theorem kd_toP (kd : Bool) (S : Store) : toP S 60 (kdD kd) = some (.str (if kd then ("walk" : PySem.Str) else ("spread" : PySem.Str))) := by
  have := kd_lay kd
  simp [kdD, toP, this]
theorem kd_walk (kd : Bool) (S : Store) : dEq (kdD kd) (.str ("walk" : PySem.Str)) S = .ok (.bl kd) S := by
  rw [show D.str ("walk" : PySem.Str) = kdD true from rfl, dEq_of (kd_toP kd S) (kd_toP true S)]
  have : PyData.eqv (.str (if kd then ("walk" : PySem.Str) else ("spread" : PySem.Str))) (.str (if true then ("walk" : PySem.Str) else ("spread" : PySem.Str))) = kd := by cases kd <;> decide +kernel
  rw [this]
theorem kd_spread (kd : Bool) (S : Store) : dEq (kdD kd) (.str ("spread" : PySem.Str)) S = .ok (.bl (!kd)) S := by
  rw [show D.str ("spread" : PySem.Str) = kdD false from rfl, dEq_of (kd_toP kd S) (kd_toP false S)]
  have : PyData.eqv (.str (if kd then ("walk" : PySem.Str) else ("spread" : PySem.Str))) (.str (if false then ("walk" : PySem.Str) else ("spread" : PySem.Str))) = !kd := by cases kd <;> decide +kernel
  rw [this]
theorem kd_nwalk (kd : Bool) (S : Store) : dNe (kdD kd) (.str ("walk" : PySem.Str)) S = .ok (.bl (!kd)) S := by
  rw [show D.str ("walk" : PySem.Str) = kdD true from rfl, dNe_of (kd_toP kd S) (kd_toP true S)]
  have : PyData.eqv (.str (if kd then ("walk" : PySem.Str) else ("spread" : PySem.Str))) (.str (if true then ("walk" : PySem.Str) else ("spread" : PySem.Str))) = kd := by cases kd <;> decide +kernel
  rw [this]
theorem kd_nspread (kd : Bool) (S : Store) : dNe (kdD kd) (.str ("spread" : PySem.Str)) S = .ok (.bl kd) S := by
  rw [show D.str ("spread" : PySem.Str) = kdD false from rfl, dNe_of (kd_toP kd S) (kd_toP false S)]
  have : PyData.eqv (.str (if kd then ("walk" : PySem.Str) else ("spread" : PySem.Str))) (.str (if false then ("walk" : PySem.Str) else ("spread" : PySem.Str))) = !kd := by cases kd <;> decide +kernel
  rw [this, Bool.not_not]
theorem must_be_kind_ok (kd : Bool) (S : Store) : F_must_be_kind [kdD kd] S = .ok .non S := by
  rw [← ens_eq]
  refine ens_fn rfl ?_
  unfold b_must_be_kind
  cases kd <;> simp [kd_nwalk, kd_nspread]
theorem small_ok {m : Nat} (rs : List Ro) (hm : m ≤ 7) (S : Store) : F_must_be_small [wbD m rs] S = .ok .non S := by
  rw [← ens_eq]
  refine ens_fn rfl ?_
  unfold b_must_be_small
  have n7 : ¬ (7 : Int) < (m : Int) := by omega
  unfold wbD
  simp [n7]
theorem stL_take {wk : Bool} {SS : List (List Nat)} {i : Nat} {s : List Nat} (h : SS[i]? = some s) : stL wk (SS.take (i + 1)) = stL wk (SS.take i) ++ (if wk then s.map fun x => (s, x) else [(s, 0)]) := by
  have hi := (List.getElem?_eq_some_iff.mp h).1
  have e : SS[i] = s := (List.getElem?_eq_some_iff.mp h).2
  have tk : SS.take (i + 1) = SS.take i ++ [s] := by rw [List.take_succ_eq_append_getElem hi, e]
  rw [tk]
  unfold stL
  cases wk <;> simp
theorem stL_len {wk : Bool} {SS : List (List Nat)} (h : ∀ s ∈ SS, s.length ≤ 60) : (stL wk SS).length ≤ 60 * SS.length := by
  unfold stL
  cases wk with
  | false => simp; omega
  | true =>
    simp only [if_true]
    induction SS with
    | nil => simp
    | cons s SS ih =>
      rw [List.flatMap_cons, List.length_append, List.length_map, List.length_cons]
      have := ih fun t ht => h t (by simp [ht])
      have := h s (by simp)
      omega
/-- a list of standings in a new cell -/
def StC (S S' : Store) (d : D) (T : List (List Nat × Nat)) : Prop := ∃ X n, S' = S ++ X ∧ d = .cell n ∧ S.length ≤ n ∧ S'[n]? = some (.lst (T.map stD)) ∧ Un S'
theorem un_cell {α : Type} {emb : α → D} (hu : ∀ N a, (emb a).under N = true) {S : Store} (hS : Un S) (n : Nat) (L : List α) : Un (S.set n (.lst (L.map emb))) := by
  have := all_set_under (k := n) (x := .lst (L.map emb)) hS (by
    rw [Cn.under]
    exact underL_of fun d hd => by
      obtain ⟨a, _, rfl⟩ := List.mem_map.mp hd
      exact hu _ a)
  unfold Un
  rw [List.length_set]
  exact this
theorem standings_of_ok {m : Nat} {rs : List Ro} (w : WebP m rs) (hm : m ≤ 7) (wk : Bool) (S : Store) (hS : Un S) : Ens (F_standings_of [wbD m rs, kdD wk] S) fun d S' => ∃ L : List (List Nat), L.Nodup ∧ (∀ s ∈ L, CS rs s) ∧ (∀ s, CS rs s → s ∈ L) ∧ L.length ≤ 128 ∧ StC S S' d (stL wk (L.mergeSort (PySem.W.dataLe false tpP))) := by
  refine ens_fn rfl ?_
  unfold b_standings_of
  simp only [List.map_cons, List.map_nil, List.replicate, List.cons_append, List.nil_append]
  refine ens_sq (fun e S' => S' = S ++ [.lst ([].map stD)] ∧ e = [some (wbD m rs), some (kdD wk), some (.cell S.length), none, none]) (fun R hR => ?_) ?_
  · walk_at "dw"
    exact hR _ _ ⟨rfl, rfl⟩
  rintro e S' ⟨rfl, rfl⟩
  refine ens_sq (fun e S' => ∃ L : List (List Nat), L.Nodup ∧ (∀ s ∈ L, CS rs s) ∧ (∀ s, CS rs s → s ∈ L) ∧ L.length ≤ 128 ∧ ∃ d v3 v4, StC S S' d (stL wk (L.mergeSort (PySem.W.dataLe false tpP))) ∧ e = [some (wbD m rs), some (kdD wk), some d, v3, v4]) (fun R hR => ?_) ?_
  · walk_at "dw"
    refine (sets_ok w hm _ (un_lst st_under hS [])).imp ?_
    rintro d S2 ⟨rfl, L, rfl, l1, l2, l3, l4⟩
    have so : ∀ s ∈ L.mergeSort (PySem.W.dataLe false tpP), CS rs s := fun s hs => l2 s ((List.mergeSort_perm _ _).mem_iff.mp hs)
    have sl : (L.mergeSort (PySem.W.dataLe false tpP)).length ≤ 128 := by rw [List.length_mergeSort]; exact l4
    have fin : ∀ e S2, (∃ d v3 v4, StC S S2 d (stL wk (L.mergeSort (PySem.W.dataLe false tpP))) ∧ e = [some (wbD m rs), some (kdD wk), some d, v3, v4]) → R e S2 := fun e S2 h => hR e S2 ⟨L, l1, l2, l3, l4, h⟩
    generalize L.mergeSort (PySem.W.dataLe false tpP) = SS at *
    walk_at "dw"
    refine ens_fr (fun i e S2 => ∃ d v3 v4, StC S S2 d (stL wk (SS.take i)) ∧ e = [some (wbD m rs), some (kdD wk), some d, v3, v4]) ⟨_, _, _, ⟨_, _, rfl, rfl, Nat.le_refl _, by rw [at_app]; cases wk <;> rfl, un_lst st_under hS []⟩, rfl⟩ ?_ ?_
    · rintro i d e S2 R3 hd ⟨dn, u3, u4, ⟨X, n, rfl, rfl, hn, hc, hu⟩, rfl⟩ hR3
      rw [List.getElem?_map] at hd
      have hi : i < SS.length := by
        by_cases q : i < SS.length
        · exact q
        · rw [List.getElem?_eq_none (by omega)] at hd; cases hd
      rw [List.getElem?_eq_getElem hi] at hd
      cases hd
      have hs : SS[i]? = some SS[i] := List.getElem?_eq_getElem hi
      have css := so _ (List.getElem_mem hi)
      have tk := stL_take (wk := wk) hs
      have tl : (stL wk (SS.take i)).length ≤ 60 * 128 := by
        refine Nat.le_trans (stL_len fun s hs => ?_) (Nat.mul_le_mul_left 60 (show (SS.take i).length ≤ 128 by rw [List.length_take]; omega))
        have := (so s (List.mem_of_mem_take hs)).len w
        have := w.m60
        omega
      have sl60 := css.len w
      have m60 := w.m60
      generalize SS[i] = s at *
      walk_at "dw"
      rw [kd_spread]
      walk_at "dw"
      cases wk with
      | false =>
        simp only [Bool.not_false, if_true]
        rw [if_pos (cellL_is hc), app_cell hc (by rw [List.length_map]; omega)]
        walk_at "dw"
        have nl := (List.getElem?_eq_some_iff.mp hc).1
        refine hR3 _ _ ⟨_, _, _, ⟨X.set (n - S.length) (.lst ((stL false (SS.take i)).map stD ++ [stD (s, 0)])), n, by rw [List.set_append_right _ _ hn]; rfl, rfl, hn, ?_, ?_⟩, rfl⟩
        · rw [List.getElem?_set_self nl, tk]
          simp
          rfl
        · have := un_cell st_under hu n (stL false (SS.take i) ++ [(s, 0)])
          rw [List.map_append] at this
          exact this
      | true =>
        simp only [Bool.not_true, Bool.false_eq_true, if_false]
        walk_at "dw"
        rw [show tpD s = .tup (s.map fun (k : Nat) => D.int (k : Int)) from rfl]
        walk_at "dw"
        refine ens_lcm (fun x : Nat => stD (s, x)) trivial (by omega) (fun x hx => ⟨_, rfl, ?_⟩) ?_
        · walk_at "dw"
          rfl
        · have ad : dAdd mkC (.cell n) (.lst (s.map fun x => stD (s, x))) (S ++ X) = .ok (.cell (S ++ X).length) ((S ++ X) ++ [.lst ((stL true (SS.take i)).map stD ++ s.map fun x => stD (s, x))]) := by
            simp only [dAdd, getL, hc]
            rw [if_pos (by rw [List.length_map, List.length_map]; omega)]
            rfl
          walk_at "dw"
          rw [ad]
          walk_at "dw"
          have e1 : (stL true (SS.take i)).map stD ++ (s.map fun x => stD (s, x)) = (stL true (SS.take (i + 1))).map stD := by
            rw [tk, List.map_append]
            simp
          rw [e1]
          refine hR3 _ _ ⟨_, _, _, ⟨X ++ [.lst ((stL true (SS.take (i + 1))).map stD)], (S ++ X).length, by rw [List.append_assoc], rfl, by simp, at_app _ _, un_lst st_under hu _⟩, rfl⟩
    · rintro e S2 ⟨dn, u3, u4, hc, rfl⟩
      rw [List.length_map, List.take_length] at hc
      exact fin _ _ ⟨_, _, _, hc, rfl⟩
  rintro e S' ⟨L, l1, l2, l3, l4, d, v3, v4, hc, rfl⟩
  walk_at "dw"
  rw [show ∀ n d S, fin true n d S = .ok d S from fun n d S => by simp [fin]]
  walk_at "dw"
  exact ⟨L, l1, l2, l3, l4, hc⟩
theorem standings_ok {m : Nat} {rs : List Ro} (w : WebOk m rs) (hm : m ≤ 7) (wk : Bool) (S : Store) (hS : Un S) : Ens (F_standings [wbD m rs, kdD wk] S) fun d S' => ∃ L : List (List Nat), L.Nodup ∧ (∀ s ∈ L, CS rs s) ∧ (∀ s, CS rs s → s ∈ L) ∧ L.length ≤ 128 ∧ StC S S' d (stL wk (L.mergeSort (PySem.W.dataLe false tpP))) := by
  refine ens_fn rfl ?_
  unfold b_standings
  simp only [List.map_cons, List.map_nil, List.replicate, List.cons_append, List.nil_append]
  walk_at "dw"
  refine (look_web_ok w S hS).imp ?_
  rintro d S' ⟨rfl, rfl⟩
  walk_at "dw"
  rw [small_ok rs hm]
  walk_at "dw"
  rw [must_be_kind_ok]
  walk_at "dw"
  refine (standings_of_ok w.toWebP hm wk S' hS).imp ?_
  rintro d S2 h
  rw [show ∀ n d S, fin true n d S = .ok d S from fun n d S => by simp [fin]]
  walk_at "dw"
  exact h


local macro_rules | `(tactic| walk_at "ds") => `(tactic| first | exact rng62_of (by omega) (by omega) | exact ⟨rng62_of (by omega) (by omega), rng62_of (by omega) (by omega)⟩ | exact divOk_lit (by omega) (by omega) | exact mulOkL (by omega) (by omega) | exact mulOkR (by omega) (by omega) | omega | decide | assumption)
local macro_rules | `(tactic| walk_at "dv") => `(tactic| simp only [ySeq_app, ySet_app, yIf_app, yExpr_app, yRet_app, yRetN_app, yNil_app, yFor_app, yAsg_app, yPar_app, yAug_app, ySub_app, yBreak_app, yCont_app, xVar_app, xC_app, xOp_app, xUn_app, xNil_app, xCons_app, xFn_app, xTup_app, xLst_app, xTru_app, xIsT_app, xNot_app, xAnd_app, xOr_app, xAndV_app, xOrV_app, xNotV_app, xIf_app, iSrc_app, iSrcA_app, xLc_app, xMt_app, xSl_app, oNone_app, oSome_app, srcL_lst, srcL_scr, srcT_tup, gN_app, gT_app, gsNil_app, gsCons_app, mkF_app, mkC_app, wipeE_cons, wipeE_nil, bInt_int, bInt_bl, tru_bl, bIsi_tup, bIsi_lst, bIsi_int, bIsi_intb, bLen_lst, bLen_scr, bLen_tup, atI_zero, atI_one, atI_two, dAdd_int, dSub_ok, dLt_ok, dLe_ok, dGt_ok, dGe_ok, dEq_int, dNe_int, List.getElem?_cons_zero, List.getElem?_cons_succ, List.set_cons_zero, List.set_cons_succ, List.length_cons, List.length_nil, List.map_cons, List.map_nil, List.replicate_zero, List.replicate_succ, List.cons_append, List.nil_append, Nat.reduceSub, Nat.reduceAdd, Nat.reduceLeDiff, List.replicate, Res.bind_ok, Res.out_ok, Out.seq_nx, enso_out, ens_ok, enso_nx, enso_rt, enso_bk, enso_ct, enso_seq, ens_bind, fin_same, ens_fdiv, ens_mod, ens_mul, p10_18, ens_srcR1, ens_srcR2, if_true, if_false, Bool.false_eq_true, ite_true, ite_false, reduceIte, beq_self_eq_true, true_and, and_true, Bool.not_true, Bool.not_false, Int.reduceLT, fdiv_pos, fmod_pos, Int.zero_add])
local macro_rules | `(tactic| walk_at "dw") => `(tactic| ((try walk_at "dv"); repeat ((refine And.intro (by walk_at "ds") ?_); try walk_at "dv")))
/-! ### the law's own roads -/
theorem lt_pd (a b : Int × Int) : PySem.W.dataLt (pdP a) (pdP b) = if a.1 = b.1 then decide (a.2 < b.2) else decide (a.1 < b.1) := by
  unfold pdP
  rw [PySem.W.dataLt_tuple]
  by_cases q : a.1 = b.1
  · rw [if_pos q, PySem.W.dataLt_all_yes rfl (by simp [PyData.eqv, q])]
    by_cases r : a.2 = b.2
    · rw [PySem.W.dataLt_all_yes rfl (by simp [PyData.eqv, r]), decide_eq_false (by omega)]
      rfl
    · rw [PySem.W.dataLt_all_no rfl (by simp [PyData.eqv, r]), PySem.W.dataLt_int]
  · rw [if_neg q, PySem.W.dataLt_all_no rfl (by simp [PyData.eqv, q]), PySem.W.dataLt_int]
theorem pd_anti {a b : Int × Int} (h1 : PySem.W.dataLt (pdP a) (pdP b) = false) (h2 : PySem.W.dataLt (pdP b) (pdP a) = false) : a = b := by
  rw [lt_pd] at h1 h2
  obtain ⟨a, x⟩ := a
  obtain ⟨b, y⟩ := b
  by_cases q : a = b
  · subst q
    simp at h1 h2
    rw [show x = y by omega]
  · simp only [if_neg q] at h1
    simp only [if_neg (Ne.symm q)] at h2
    have := of_decide_eq_false h1
    have := of_decide_eq_false h2
    omega
theorem getN_iff : ∀ {kv : List (Nat × Int)} {o : Nat} {v : Int}, (kv.map (·.1)).Nodup → (getN kv o = some v ↔ (o, v) ∈ kv)
  | [], o, v, _ => by simp [getN]
  | p :: kv, o, v, h => by
    rw [List.map_cons, List.nodup_cons] at h
    have ih := getN_iff (kv := kv) (o := o) (v := v) h.2
    unfold getN at ih ⊢
    rw [List.find?_cons]
    by_cases q : p.1 = o
    · simp only [decide_eq_true q, Option.map_some, List.mem_cons]
      constructor
      · intro e
        exact .inl (by rw [← q, ← Option.some.inj e])
      · rintro (e | e)
        · rw [← e]
        · exact (h.1 (List.mem_map.mpr ⟨(o, v), e, q.symm⟩)).elim
    · simp only [decide_eq_false q, List.mem_cons]
      rw [ih]
      exact ⟨.inr, fun e => by
        rcases e with e | e
        · exact (q (by rw [← e])).elim
        · exact e⟩
theorem srtP_near {m : Nat} {rs : List Ro} (h : WebP m rs) (p : Nat) : srtP ((near rs p).map fun q => ((q.1 : Int), q.2)) = (prs rs p).map fun q => ((q.1 : Int), q.2) := by
  obtain ⟨a, b, _, d, _⟩ := prs_mem h p
  have kl := (near_keys (m := m) p rs h.ok).1
  unfold srtP
  refine dle_uniq (fun a b => pd_anti) (List.Perm.map _ ?_) ?_
  · have n1 : (prs rs p).Nodup := by
      rw [List.pairwise_map] at d
      exact d.imp fun {x y} q e => by rw [e] at q; omega
    have n2 : (near rs p).Nodup := by
      have kl' : ((near rs p).map (·.1)).Pairwise (· ≠ ·) := kl
      rw [List.pairwise_map] at kl'
      exact kl'.imp fun {x y} q e => q (by rw [e])
    refine (List.perm_ext_iff_of_nodup n1 n2).mpr fun q => ?_
    rw [← getN_iff (o := q.1) (v := q.2) kl]
    exact ⟨fun hq => a q hq, fun hq => b _ _ hq⟩
  · rw [List.pairwise_map]
    rw [List.pairwise_map] at d
    refine d.imp fun {x y} q => ?_
    rw [dle_eq, lt_pd]
    have : ¬ (y.1 : Int) = (x.1 : Int) := by omega
    simp only [if_neg this]
    simp
    omega
theorem law_roads_ok {m : Nat} {rs : List Ro} (h : WebP m rs) (p : Nat) (S : Store) (hS : Un S) : F__law_roads [wbD m rs, .int (p : Int)] S = .ok (.lst ((prs rs p).map prN)) S := by
  have few := h.few
  have m60 := h.m60
  rw [← ens_eq]
  refine ens_fn rfl ?_
  unfold b__law_roads
  simp only [List.map_cons, List.map_nil, List.replicate, List.cons_append, List.nil_append]
  refine ens_sq (fun e S' => S' = S ++ [.dct (emb [])] ∧ e = [some (wbD m rs), some (.int (p : Int)), some (.cell S.length), none, none, none, none, none]) (fun R hR => ?_) ?_
  · simp only [ySet_app, xDct0, enso_out, ens_ok, enso_nx, List.set_cons_succ, List.set_cons_zero]
    exact hR _ _ ⟨rfl, rfl⟩
  rintro e S' ⟨rfl, rfl⟩
  have i1 : ∀ S, dIx (wbD m rs) (.int 1) S = .ok (.lst (rs.map roD)) S := fun S => by unfold wbD; simp
  refine ens_sq (fun e S' => S' = S ++ [.dct (emb (near rs p))] ∧ ∃ v3 v4 v5 v6 v7, e = [some (wbD m rs), some (.int (p : Int)), some (.cell S.length), v3, v4, v5, v6, v7]) (fun R hR => ?_) ?_
  · walk_at "dw"
    rw [i1]
    walk_at "dw"
    refine ens_fr (fun i e S' => S' = S ++ [.dct (emb (near (rs.take i) p))] ∧ ∃ v3 v4 v5 v6 v7, e = [some (wbD m rs), some (.int (p : Int)), some (.cell S.length), v3, v4, v5, v6, v7]) ⟨rfl, _, _, _, _, _, rfl⟩ ?_ ?_
    · rintro i d e S' R2 hd ⟨rfl, v3, v4, v5, v6, v7, rfl⟩ hR2
      rw [List.getElem?_map] at hd
      have hi : i < rs.length := by
        by_cases q : i < rs.length
        · exact q
        · rw [List.getElem?_eq_none (by omega)] at hd; cases hd
      rw [List.getElem?_eq_getElem hi] at hd
      cases hd
      have hz := h.ok rs[i] (List.getElem_mem _)
      have nx : near (rs.take (i + 1)) p = nearS p (near (rs.take i) p) rs[i] := by rw [List.take_succ_eq_append_getElem hi, near_snoc]
      have kl := near_keys (m := m) p (rs.take i) (fun z hz => h.ok z (List.mem_of_mem_take hz))
      have len := pigeon m _ kl.1 kl.2
      rw [List.length_map] at len
      generalize rs[i] = z at *
      generalize near (rs.take i) p = kv at *
      have ck : ∀ kv, cellK (.cell S.length) (S ++ [.dct (emb kv)]) = some (S.length, emb kv) := fun kv => by simp only [cellK, at_app]
      have ik : ∀ kv, isK (.cell S.length) (S ++ [.dct (emb kv)]) = true := fun kv => by unfold isK; rw [ck]; rfl
      have el : (emb kv).length < 16000000 := by unfold emb; rw [List.length_map]; omega
      have put : ∀ o : Nat, setK (.cell S.length) (.int (o : Int)) (.int (if (getN kv o).getD z.2.2 < z.2.2 then (getN kv o).getD z.2.2 else z.2.2)) (S ++ [.dct (emb kv)]) = .ok () (S ++ [.dct (emb (putN kv o (if (getN kv o).getD z.2.2 < z.2.2 then (getN kv o).getD z.2.2 else z.2.2)))]) := fun o => by
        simp only [setK, ck, keyD, putD_emb]
        rw [if_pos el, app_set0 rfl]
      have g2 : ∀ o : Nat, dGet (.cell S.length) (.int (o : Int)) (.int z.2.2) (S ++ [.dct (emb kv)]) = .ok (.int ((getN kv o).getD z.2.2)) (S ++ [.dct (emb kv)]) := fun o => by
        have vg : ((valD (emb kv) (Sum.inl (o : Int))).getD (.int z.2.2)) = .int ((getN kv o).getD z.2.2) := by
          rw [valD_emb]
          cases getN kv o <;> rfl
        simp only [dGet, ck, keyD, vg]
      unfold roD
      walk_at "dw"
      by_cases q1 : z.1 = p
      · have q2 : ¬ z.2.1 = p := by omega
        have nxs : nearS p kv z = putN kv z.2.1 (if (getN kv z.2.1).getD z.2.2 < z.2.2 then (getN kv z.2.1).getD z.2.2 else z.2.2) := by
          unfold nearS
          rw [if_pos (.inl q1), show z.1 + z.2.1 - p = z.2.1 by omega]
        rw [nxs] at nx
        simp only [forL, xGet2, gT_app, gsCons_app, gsNil_app, gN_app, Out.seq_nx, List.length_cons, List.length_nil, if_true, yIf_app, xIsT_app, xOp_app, xVar_app, List.getElem?_cons_zero, List.getElem?_cons_succ, List.set_cons_zero, List.set_cons_succ, Res.bind_ok, Res.out_ok, dEq_int, decide_eq_true (show (z.1 : Int) = (p : Int) by omega), decide_eq_false (show ¬ (z.2.1 : Int) = (p : Int) by omega), ySub_app, xFn_app, xCons_app, xNil_app, ik, g2, bMin_two, put, yNil_app, Bool.false_eq_true, if_false, enso_nx]
        exact hR2 _ _ ⟨by rw [nx], _, _, _, _, _, rfl⟩
      · by_cases q2 : z.2.1 = p
        · have nxs : nearS p kv z = putN kv z.1 (if (getN kv z.1).getD z.2.2 < z.2.2 then (getN kv z.1).getD z.2.2 else z.2.2) := by
            unfold nearS
            rw [if_pos (.inr q2), show z.1 + z.2.1 - p = z.1 by omega]
          rw [nxs] at nx
          simp only [forL, xGet2, gT_app, gsCons_app, gsNil_app, gN_app, Out.seq_nx, List.length_cons, List.length_nil, if_true, yIf_app, xIsT_app, xOp_app, xVar_app, List.getElem?_cons_zero, List.getElem?_cons_succ, List.set_cons_zero, List.set_cons_succ, Res.bind_ok, Res.out_ok, dEq_int, decide_eq_true (show (z.2.1 : Int) = (p : Int) by omega), decide_eq_false (show ¬ (z.1 : Int) = (p : Int) by omega), ySub_app, xFn_app, xCons_app, xNil_app, ik, g2, bMin_two, put, yNil_app, Bool.false_eq_true, if_false, enso_nx]
          exact hR2 _ _ ⟨by rw [nx], _, _, _, _, _, rfl⟩
        · have nxs : nearS p kv z = kv := if_neg (by simp [q1, q2])
          rw [nxs] at nx
          simp only [forL, xGet2, gT_app, gsCons_app, gsNil_app, gN_app, Out.seq_nx, List.length_cons, List.length_nil, if_true, yIf_app, xIsT_app, xOp_app, xVar_app, List.getElem?_cons_zero, List.getElem?_cons_succ, List.set_cons_zero, List.set_cons_succ, Res.bind_ok, Res.out_ok, dEq_int, decide_eq_false (show ¬ (z.2.1 : Int) = (p : Int) by omega), decide_eq_false (show ¬ (z.1 : Int) = (p : Int) by omega), yNil_app, Bool.false_eq_true, if_false, enso_nx]
          exact hR2 _ _ ⟨by rw [nx], _, _, _, _, _, rfl⟩
    · rintro e S' ⟨rfl, v3, v4, v5, v6, v7, rfl⟩
      rw [List.length_map, List.take_length]
      exact hR _ _ ⟨rfl, _, _, _, _, _, rfl⟩
  rintro e S' ⟨rfl, v3, v4, v5, v6, v7, rfl⟩
  have st : dSortIt (.cell S.length) (S ++ [.dct (emb (near rs p))]) = .ok (.lst ((prs rs p).map prN)) (S ++ [.dct (emb (near rs p))]) := by
    have ck : cellK (.cell S.length) (S ++ [.dct (emb (near rs p))]) = some (S.length, emb (near rs p)) := by simp only [cellK, at_app]
    have iv : intsKV (emb (near rs p)) = some ((near rs p).map fun q => ((q.1 : Int), q.2)) := by
      rw [← intsKV_map, List.map_map]
      rfl
    simp only [dSortIt, ck, iv]
    rw [srtP_near h p, List.map_map]
    rfl
  walk_at "dw"
  rw [xSortIt_app]
  walk_at "dw"
  rw [st]
  walk_at "dw"
  rw [fin_cut rfl hS (by
    rw [D.under]
    exact underL_of fun d hd => by
      obtain ⟨z, _, rfl⟩ := List.mem_map.mp hd
      rfl), ens_ok]
  exact ⟨rfl, rfl⟩


local macro_rules | `(tactic| walk_at "ds") => `(tactic| first | exact rng62_of (by omega) (by omega) | exact ⟨rng62_of (by omega) (by omega), rng62_of (by omega) (by omega)⟩ | exact divOk_lit (by omega) (by omega) | exact mulOkL (by omega) (by omega) | exact mulOkR (by omega) (by omega) | omega | decide | assumption)
local macro_rules | `(tactic| walk_at "dv") => `(tactic| simp only [ySeq_app, ySet_app, yIf_app, yExpr_app, yRet_app, yRetN_app, yNil_app, yFor_app, yAsg_app, yPar_app, yAug_app, ySub_app, yBreak_app, yCont_app, xVar_app, xC_app, xOp_app, xUn_app, xNil_app, xCons_app, xFn_app, xTup_app, xLst_app, xTru_app, xIsT_app, xNot_app, xAnd_app, xOr_app, xAndV_app, xOrV_app, xNotV_app, xIf_app, iSrc_app, iSrcA_app, xLc_app, xMt_app, xSl_app, oNone_app, oSome_app, srcL_lst, srcL_scr, srcT_tup, gN_app, gT_app, gsNil_app, gsCons_app, mkF_app, mkC_app, wipeE_cons, wipeE_nil, bInt_int, bInt_bl, tru_bl, bIsi_tup, bIsi_lst, bIsi_int, bIsi_intb, bLen_lst, bLen_scr, bLen_tup, atI_zero, atI_one, atI_two, dAdd_int, dSub_ok, dLt_ok, dLe_ok, dGt_ok, dGe_ok, dEq_int, dNe_int, List.getElem?_cons_zero, List.getElem?_cons_succ, List.set_cons_zero, List.set_cons_succ, List.length_cons, List.length_nil, List.map_cons, List.map_nil, List.replicate_zero, List.replicate_succ, List.cons_append, List.nil_append, Nat.reduceSub, Nat.reduceAdd, Nat.reduceLeDiff, List.replicate, Res.bind_ok, Res.out_ok, Out.seq_nx, enso_out, ens_ok, enso_nx, enso_rt, enso_bk, enso_ct, enso_seq, ens_bind, fin_same, ens_fdiv, ens_mod, ens_mul, p10_18, ens_srcR1, ens_srcR2, if_true, if_false, Bool.false_eq_true, ite_true, ite_false, reduceIte, beq_self_eq_true, true_and, and_true, Bool.not_true, Bool.not_false, Int.reduceLT, fdiv_pos, fmod_pos, Int.zero_add])
local macro_rules | `(tactic| walk_at "dw") => `(tactic| ((try walk_at "dv"); repeat ((refine And.intro (by walk_at "ds") ?_); try walk_at "dv")))
/-! ### the law's own steps -/
def nxp (rs : List Ro) (wk : Bool) (s : List Nat) (l : List (Nat × Int)) : List (List Nat × Nat) := (l.filter fun q => wk || !decide (q.1 ∈ s)).map fun q => (insN s q.1, if wk then q.1 else 0)
theorem nxp_app (rs : List Ro) (wk : Bool) (s : List Nat) (a b : List (Nat × Int)) : nxp rs wk s (a ++ b) = nxp rs wk s a ++ nxp rs wk s b := by
  unfold nxp
  rw [List.filter_append, List.map_append]
theorem nx_eq (rs : List Ro) (wk : Bool) (s : List Nat) (h : Nat) : nx rs wk (s, h) = (if wk then [h] else s).flatMap fun p => nxp rs wk s (prs rs p) := by
  unfold nx nxp
  cases wk with
  | true =>
    simp only [if_true, List.flatMap_cons, List.flatMap_nil, List.append_nil, Bool.true_or]
    rw [List.filter_eq_self.mpr fun _ _ => rfl]
  | false =>
    simp only [Bool.false_eq_true, if_false, Bool.false_or]
theorem nxp_len (rs : List Ro) (wk : Bool) (s : List Nat) (l : List (Nat × Int)) : (nxp rs wk s l).length ≤ l.length := by
  unfold nxp
  rw [List.length_map]
  exact List.length_filter_le _ _
theorem fm_len {α β : Type} {f : α → List β} {N : Nat} : ∀ {l : List α}, (∀ a ∈ l, (f a).length ≤ N) → (l.flatMap f).length ≤ N * l.length
  | [], _ => by simp
  | a :: l, h => by
    rw [List.flatMap_cons, List.length_append, List.length_cons]
    have h1 := h a (by simp)
    have h2 := fm_len (l := l) fun b hb => h b (by simp [hb])
    rw [Nat.mul_add]
    omega
theorem notIn_tup (l : List Nat) (x : Nat) (S : Store) : dNotIn (.int (x : Int)) (.tup (l.map fun (m : Nat) => D.int (m : Int))) S = .ok (.bl (!decide (x ∈ l))) S := by
  unfold dNotIn dInX
  simp only [getI, inFl_nat]
  rw [if_pos ⟨rfl, all_flat l⟩]
  rfl
theorem law_next_ok {m : Nat} {rs : List Ro} (w : WebP m rs) (wk : Bool) {s : List Nat} (cs : CS rs s) (hm : m ≤ 7) (h : Nat) (S : Store) (hS : Un S) : F__law_next [wbD m rs, kdD wk, tpD s, .int (h : Int)] S = .ok (.lst ((nx rs wk (s, h)).map stD)) S := by
  have sne : s ≠ [] := fun z => by have := cs.zero; rw [z] at this; simp at this
  have sl7 := cs.len w
  have sl : s.length ≤ 50 := by omega
  have pl : ∀ p, (prs rs p).length ≤ 60 := fun p => (prs_mem w p).2.2.1
  rw [← ens_eq]
  refine ens_fn rfl ?_
  unfold b__law_next
  simp only [List.map_cons, List.map_nil, List.replicate, List.cons_append, List.nil_append]
  refine ens_sq (fun e S' => S' = S ++ [.lst ([].map stD)] ∧ e = [some (wbD m rs), some (kdD wk), some (tpD s), some (.int (h : Int)), some (.cell S.length), none, none, none, none]) (fun R hR => ?_) ?_
  · walk_at "dw"
    exact hR _ _ ⟨rfl, rfl⟩
  rintro e S' ⟨rfl, rfl⟩
  refine ens_sq (fun e S' => S' = S ++ [.dead] ∧ ∃ v5 v6 v7 v8, e = [some (wbD m rs), some (kdD wk), some (tpD s), some (.int (h : Int)), some (.lst ((nx rs wk (s, h)).map stD)), v5, v6, v7, v8]) (fun R hR => ?_) ?_
  · refine ens_sq (fun e S' => S' = S ++ [.lst ((nx rs wk (s, h)).map stD)] ∧ ∃ v5 v6 v7 v8, e = [some (wbD m rs), some (kdD wk), some (tpD s), some (.int (h : Int)), some (.cell S.length), v5, v6, v7, v8]) (fun R1 hR1 => ?_) ?_
    · have src : ∀ S, (if wk then Res.ok (D.lst [.int (h : Int)]) S else Res.ok (tpD s) S).bind srcLT = .ok ⟨(if wk then [h] else s).map fun (k : Nat) => D.int (k : Int), fun _ => True⟩ S := fun S => by cases wk <;> rfl
      have pl2 : (if wk then [h] else s).length ≤ 7 := by cases wk <;> simp <;> omega
      walk_at "dw"
      rw [kd_walk]
      walk_at "dw"
      have s2 := src (S ++ [.lst []])
      rw [← ens_bind, s2, ens_ok]
      rw [nx_eq] at hR1
      generalize (if wk then [h] else s) = ps at *
      refine ens_fr (fun i e S' => S' = S ++ [.lst (((ps.take i).flatMap fun p => nxp rs wk s (prs rs p)).map stD)] ∧ ∃ v5 v6 v7 v8, e = [some (wbD m rs), some (kdD wk), some (tpD s), some (.int (h : Int)), some (.cell S.length), v5, v6, v7, v8]) ⟨rfl, _, _, _, _, rfl⟩ ?_ ?_
      · rintro i d e S2 R3 hd ⟨rfl, u5, u6, u7, u8, rfl⟩ hR3
        rw [List.getElem?_map] at hd
        have hi : i < ps.length := by
          by_cases q : i < ps.length
          · exact q
          · rw [List.getElem?_eq_none (by omega)] at hd; cases hd
        rw [List.getElem?_eq_getElem hi] at hd
        cases hd
        have tk : ps.take (i + 1) = ps.take i ++ [ps[i]] := List.take_succ_eq_append_getElem hi
        rw [tk] at hR3
        have al : ((ps.take i).flatMap fun p => nxp rs wk s (prs rs p)).length ≤ 60 * 7 := by
          refine Nat.le_trans (fm_len fun p _ => Nat.le_trans (nxp_len _ _ _ _) (pl p)) (Nat.mul_le_mul_left 60 (by rw [List.length_take]; omega))
        rw [List.flatMap_append, List.flatMap_cons, List.flatMap_nil, List.append_nil] at hR3
        generalize ps[i] = p at *
        generalize ((ps.take i).flatMap fun p => nxp rs wk s (prs rs p)) = A at *
        walk_at "dw"
        rw [law_roads_ok w p _ (un_lst st_under hS _)]
        walk_at "dw"
        refine ens_fr (fun j e S' => S' = S ++ [.lst ((A ++ nxp rs wk s ((prs rs p).take j)).map stD)] ∧ ∃ v6 v7 v8, e = [some (wbD m rs), some (kdD wk), some (tpD s), some (.int (h : Int)), some (.cell S.length), some (.int (p : Int)), v6, v7, v8]) ⟨by rw [show nxp rs wk s ((prs rs p).take 0) = [] from rfl, List.append_nil], _, _, _, rfl⟩ ?_ ?_
        · rintro j d e S2 R4 hd ⟨rfl, w6, w7, w8, rfl⟩ hR4
          rw [List.getElem?_map] at hd
          have hj : j < (prs rs p).length := by
            by_cases q : j < (prs rs p).length
            · exact q
            · rw [List.getElem?_eq_none (by omega)] at hd; cases hd
          rw [List.getElem?_eq_getElem hj] at hd
          cases hd
          have tk2 : (prs rs p).take (j + 1) = (prs rs p).take j ++ [(prs rs p)[j]] := List.take_succ_eq_append_getElem hj
          rw [tk2, nxp_app, ← List.append_assoc] at hR4
          have bl : (A ++ nxp rs wk s ((prs rs p).take j)).length ≤ 1000 := by
            have := nxp_len rs wk s ((prs rs p).take j)
            have := pl p
            have := List.length_take (l := prs rs p) (i := j)
            rw [List.length_append]
            omega
          generalize (prs rs p)[j] = q at *
          generalize A ++ nxp rs wk s ((prs rs p).take j) = B at *
          obtain ⟨k, v⟩ := q
          unfold prN
          have tu := notIn_tup s k (S ++ [.lst (B.map stD)])
          rw [show (D.tup (s.map fun (m : Nat) => D.int (m : Int))) = tpD s from rfl] at tu
          walk_at "dw"
          rw [kd_walk]
          walk_at "dw"
          cases wk with
          | true =>
            have hx : nxp rs true s [(k, v)] = [(insN s k, k)] := rfl
            rw [hx] at hR4
            walk_at "dw"
            rw [xSortSet_app]
            walk_at "dw"
            rw [add_ok k sne sl]
            walk_at "dw"
            rw [more_ok k sl]
            walk_at "dw"
            rw [show bTuple [.lst ((insN s k).map fun (x : Nat) => D.int (x : Int))] (S ++ [.lst (B.map stD)]) = .ok (tpD (insN s k)) (S ++ [.lst (B.map stD)]) from rfl]
            walk_at "dw"
            rw [if_pos (cellL_is (at_app _ _))]
            walk_at "dw"
            rw [kd_walk]
            walk_at "dw"
            rw [show dIx (.lst [.int 0, .int (k : Int)]) (.int 1) (S ++ [.lst (B.map stD)]) = .ok (.int ((k : Nat) : Int)) (S ++ [.lst (B.map stD)]) from by simp]
            walk_at "dw"
            rw [app_cell (at_app _ _) (by rw [List.length_map]; omega), set_app]
            walk_at "dw"
            refine hR4 _ _ ⟨?_, _, _, _, rfl⟩
            rw [List.map_append]
            rfl
          | false =>
            walk_at "dw"
            rw [tu]
            walk_at "dw"
            by_cases q : k ∈ s
            · have hx : nxp rs false s [(k, v)] = [] := by simp [nxp, q]
              rw [hx, List.append_nil] at hR4
              rw [if_neg (by simp [q])]
              walk_at "dw"
              exact hR4 _ _ ⟨rfl, _, _, _, rfl⟩
            · have hx : nxp rs false s [(k, v)] = [(insN s k, 0)] := by simp [nxp, q]
              rw [hx] at hR4
              rw [if_pos (by simp [q])]
              walk_at "dw"
              rw [xSortSet_app]
              walk_at "dw"
              rw [add_ok k sne sl]
              walk_at "dw"
              rw [more_ok k sl]
              walk_at "dw"
              rw [show bTuple [.lst ((insN s k).map fun (x : Nat) => D.int (x : Int))] (S ++ [.lst (B.map stD)]) = .ok (tpD (insN s k)) (S ++ [.lst (B.map stD)]) from rfl]
              walk_at "dw"
              rw [if_pos (cellL_is (at_app _ _))]
              walk_at "dw"
              rw [kd_walk]
              walk_at "dw"
              rw [show dIx (.lst [.int 0, .int (k : Int)]) (.int 0) (S ++ [.lst (B.map stD)]) = .ok (.int ((0 : Nat) : Int)) (S ++ [.lst (B.map stD)]) from by simp]
              walk_at "dw"
              rw [app_cell (at_app _ _) (by rw [List.length_map]; omega), set_app]
              walk_at "dw"
              refine hR4 _ _ ⟨?_, _, _, _, rfl⟩
              rw [List.map_append]
              rfl
        · rintro e S2 ⟨rfl, w6, w7, w8, rfl⟩
          rw [List.length_map, List.take_length]
          exact hR3 _ _ ⟨rfl, _, _, _, _, rfl⟩
      · rintro e S2 ⟨rfl, u5, u6, u7, u8, rfl⟩
        rw [List.length_map, List.take_length]
        exact hR1 _ _ ⟨rfl, _, _, _, _, rfl⟩
    rintro e S2 ⟨rfl, u5, u6, u7, u8, rfl⟩
    have c0 := at_app S (.lst ((nx rs wk (s, h)).map stD))
    simp only [frzE, List.getElem?_cons_zero, List.getElem?_cons_succ, frz, c0, set_app, Res.out_ok, enso_nx, List.set_cons_succ, List.set_cons_zero]
    exact hR _ _ ⟨rfl, _, _, _, _, rfl⟩
  rintro e S2 ⟨rfl, u5, u6, u7, u8, rfl⟩
  walk_at "dw"
  rw [fin_cut rfl hS (by
    rw [D.under]
    exact underL_of fun d hd => by
      obtain ⟨z, _, rfl⟩ := List.mem_map.mp hd
      exact st_under _ z), ens_ok]
  exact ⟨rfl, rfl⟩


local macro_rules | `(tactic| walk_at "ds") => `(tactic| first | exact rng62_of (by omega) (by omega) | exact ⟨rng62_of (by omega) (by omega), rng62_of (by omega) (by omega)⟩ | exact divOk_lit (by omega) (by omega) | exact mulOkL (by omega) (by omega) | exact mulOkR (by omega) (by omega) | omega | decide | assumption)
local macro_rules | `(tactic| walk_at "dv") => `(tactic| simp only [ySeq_app, ySet_app, yIf_app, yExpr_app, yRet_app, yRetN_app, yNil_app, yFor_app, yAsg_app, yPar_app, yAug_app, ySub_app, yBreak_app, yCont_app, xVar_app, xC_app, xOp_app, xUn_app, xNil_app, xCons_app, xFn_app, xTup_app, xLst_app, xTru_app, xIsT_app, xNot_app, xAnd_app, xOr_app, xAndV_app, xOrV_app, xNotV_app, xIf_app, iSrc_app, iSrcA_app, xLc_app, xMt_app, xSl_app, oNone_app, oSome_app, srcL_lst, srcL_scr, srcT_tup, gN_app, gT_app, gsNil_app, gsCons_app, mkF_app, mkC_app, wipeE_cons, wipeE_nil, bInt_int, bInt_bl, tru_bl, bIsi_tup, bIsi_lst, bIsi_int, bIsi_intb, bLen_lst, bLen_scr, bLen_tup, atI_zero, atI_one, atI_two, dAdd_int, dSub_ok, dLt_ok, dLe_ok, dGt_ok, dGe_ok, dEq_int, dNe_int, List.getElem?_cons_zero, List.getElem?_cons_succ, List.set_cons_zero, List.set_cons_succ, List.length_cons, List.length_nil, List.map_cons, List.map_nil, List.replicate_zero, List.replicate_succ, List.cons_append, List.nil_append, Nat.reduceSub, Nat.reduceAdd, Nat.reduceLeDiff, List.replicate, Res.bind_ok, Res.out_ok, Out.seq_nx, enso_out, ens_ok, enso_nx, enso_rt, enso_bk, enso_ct, enso_seq, ens_bind, fin_same, ens_fdiv, ens_mod, ens_mul, p10_18, ens_srcR1, ens_srcR2, if_true, if_false, Bool.false_eq_true, ite_true, ite_false, reduceIte, beq_self_eq_true, true_and, and_true, Bool.not_true, Bool.not_false, Int.reduceLT, fdiv_pos, fmod_pos, Int.zero_add])
local macro_rules | `(tactic| walk_at "dw") => `(tactic| ((try walk_at "dv"); repeat ((refine And.intro (by walk_at "ds") ?_); try walk_at "dv")))
theorem isSt_few {m : Nat} {rs : List Ro} (w : WebP m rs) (hm : m ≤ 7) {wk : Bool} {E : List (List Nat × Nat)} (nd : E.Nodup) (h : ∀ z ∈ E, isSt rs wk z) : E.length ≤ 896 := by
  have := pig E ((subs m).flatMap fun s => (List.range m).map fun x => (s, x)) nd fun z hz => by
    obtain ⟨h1, h2⟩ := h z hz
    refine List.mem_flatMap.mpr ⟨z.1, subs_mem h1.sorted (h1.lt w), List.mem_map.mpr ⟨z.2, List.mem_range.mpr ?_, rfl⟩⟩
    cases wk with
    | true => exact h1.lt w z.2 (by simpa using h2)
    | false =>
      have : z.2 = 0 := by simpa using h2
      have := w.m1
      omega
  have l2 : ((subs m).flatMap fun s => (List.range m).map fun x => (s, x)).length ≤ m * (subs m).length := fm_len fun s _ => by simp
  rw [subs_len] at l2
  have := Nat.mul_le_mul hm (Nat.pow_le_pow_right (n := 2) (by decide) hm)
  omega
structure Due (rs : List Ro) (wk : Bool) (E : List (List Nat × Nat)) : Prop where
  nd : E.Nodup
  st : ∀ z ∈ E, isSt rs wk z
  hd : E[0]? = some ([0], 0)
theorem Due.snoc {rs : List Ro} {wk : Bool} {E : List (List Nat × Nat)} (h : Due rs wk E) {z : List Nat × Nat} (hn : z ∉ E) (hs : isSt rs wk z) : Due rs wk (E ++ [z]) := by
  refine ⟨List.nodup_append.mpr ⟨h.nd, by simp, fun a ha b hb e => ?_⟩, fun t ht => ?_, ?_⟩
  · rw [List.mem_singleton.mp hb] at e
    exact hn (e ▸ ha)
  · rcases List.mem_append.mp ht with q | q
    · exact h.st t q
    · rw [List.mem_singleton.mp q]; exact hs
  · rw [List.getElem?_append_left (List.getElem?_eq_some_iff.mp h.hd).1]
    exact h.hd
theorem stD_0 (z : List Nat × Nat) (S : Store) : dIx (stD z) (.int 0) S = .ok (tpD z.1) S := by unfold stD; simp
theorem stD_1 (z : List Nat × Nat) (S : Store) : dIx (stD z) (.int 1) S = .ok (.int (z.2 : Int)) S := by unfold stD; simp
theorem wb0 (m : Nat) (rs : List Ro) (S : Store) : dIx (wbD m rs) (.int 0) S = .ok (.int (m : Int)) S := by unfold wbD; simp
theorem wb1 (m : Nat) (rs : List Ro) (S : Store) : dIx (wbD m rs) (.int 1) S = .ok (.lst (rs.map roD)) S := by unfold wbD; simp
abbrev E40 (ns L : List Int) (m : Nat) (rs : List Ro) (r : List (Option D)) : Dv.Env := some (.scr (ns.map D.int)) :: some (.lst (L.map D.int)) :: some (wbD m rs) :: r
theorem sort_due {m : Nat} {rs : List Ro} (w : WebP m rs) {wk : Bool} {E : List (List Nat × Nat)} {L : List (List Nat)} (hE : Due rs wk E) (hall : ∀ z, isSt rs wk z → z ∈ E) (few : E.length ≤ 896) (l1 : L.Nodup) (l2 : ∀ s ∈ L, CS rs s) (l3 : ∀ s, CS rs s → s ∈ L) {n : Nat} {S : Store} (h : S[n]? = some (.lst (E.map stD))) :
    bSortD mkF [.cell n] S = .ok (.lst ((stL wk (L.mergeSort (PySem.W.dataLe false tpP))).map stD)) S := by
  rw [bSortD_ok (emb := stD) (pd := stP) (L := E) (by simp only [getQT, getQ, getL, h]) (sts_toPs _ 57 E) (fun a _ b _ => st_alike a b) (fun s hs => ⟨_, _, rfl⟩) (by omega), due_sorted w l1 l2 l3 hE.nd hE.st hall]
  rfl
theorem law_true : LawTrue F_law := by
  intro ns hl hb
  have h : Ens (F_law [.scr (ns.map D.int)] []) fun d _ => d = .bl true := by
    refine ens_fn rfl ?_
    unfold b_law
    simp only [List.map_cons, List.map_nil, List.replicate, List.cons_append, List.nil_append]
    refine ens_sq (fun e S' => S' = [] ∧ ∃ L : List Int, Dw L ∧ L.length = 20 ∧ e = [some (.scr (ns.map D.int)), some (.lst (L.map D.int)), none, none, none, none, none, none, none]) (fun R hR => ?_) ?_
    · walk_at "dw"
      refine (draws_ok (ns := ns) (many := 20) (by decide) [] rfl).imp ?_
      rintro d S' ⟨rfl, L, rfl, h1, h2⟩
      walk_at "dw"
      exact hR _ _ ⟨rfl, L, h2, h1, rfl⟩
    rintro e S' ⟨rfl, L, hL, l20, rfl⟩
    refine ens_sq (fun e S' => S' = [] ∧ ∃ m rs, WebOk m rs ∧ m ≤ 6 ∧ e = E40 ns L m rs [none, none, none, none, none, none]) (fun R hR => ?_) ?_
    · walk_at "dw"
      refine (law_web_ok hL (a := 0) (mo := 6) (by omega) (by decide) (by decide) (by decide) [] rfl).imp ?_
      rintro d S' ⟨rfl, m, rs, rfl, h1, h2, h3, _⟩
      walk_at "dw"
      exact hR _ _ ⟨rfl, m, rs, h1, h2, rfl⟩
    rintro e S' ⟨rfl, m, rs, hW, m6, rfl⟩
    have w := hW.toWebP
    refine ens_sq (fun e S' => True ∧ ∃ o e', e = o :: e') (fun R hR => ?_) ?_
    · refine enso_forlst ?_
      walk_at "dw"
      refine fun items hi => ?_
      have it : ∀ (i : Nat) d, items[i]? = some d → ∃ wk, d = kdD wk := fun i d e => by
        rw [hi] at e
        match i, e with
        | 0, e => exact ⟨true, (Option.some.inj e).symm⟩
        | 1, e => exact ⟨false, (Option.some.inj e).symm⟩
      clear hi
      refine ens_fr (fun i e S2 => Un S2 ∧ ∃ v3 v4 v5 v6 v7 v8, e = E40 ns L m rs [v3, v4, v5, v6, v7, v8]) ⟨rfl, _, _, _, _, _, _, rfl⟩ ?_ ?_
      · rintro i d e S R2 hd ⟨hS, v3, v4, v5, v6, v7, v8, rfl⟩ hR2
        obtain ⟨wk, rfl⟩ := it i d hd
        clear hd it
        simp only [gN_app, enso_nx, List.set_cons_zero, List.set_cons_succ]
        refine ens_sq (fun e S1 => S1 = S ++ [.lst ([([0], 0)].map stD)] ∧ e = E40 ns L m rs [some (kdD wk), some (.cell S.length), v5, v6, v7, v8]) (fun R hR => ?_) ?_
        · walk_at "dw"
          exact hR _ _ ⟨rfl, rfl⟩
        rintro e S1 ⟨rfl, rfl⟩
        refine ens_sq (fun e S1 => S1 = S ++ [.lst ([([0], 0)].map stD)] ∧ e = E40 ns L m rs [some (kdD wk), some (.cell S.length), some (.int ((0 : Nat) : Int)), v6, v7, v8]) (fun R hR => ?_) ?_
        · walk_at "dw"
          exact hR _ _ ⟨rfl, rfl⟩
        rintro e S1 ⟨rfl, rfl⟩
        refine ens_sq (fun e S1 => ∃ E v5 v8, S1 = S ++ [.lst (E.map stD)] ∧ e = E40 ns L m rs [some (kdD wk), some (.cell S.length), v5, v6, v7, v8] ∧ Due rs wk E ∧ ∀ z ∈ E, ∀ y ∈ nx rs wk z, y ∈ E) (fun R hR => ?_) ?_
        · refine ens_while (fun e S1 => ∃ E v8, ∃ a : Nat, S1 = S ++ [.lst (E.map stD)] ∧ e = E40 ns L m rs [some (kdD wk), some (.cell S.length), some (.int (a : Int)), v6, v7, v8] ∧ Due rs wk E ∧ a ≤ E.length ∧ ∀ i, i < a → ∀ z, E[i]? = some z → ∀ y ∈ nx rs wk z, y ∈ E)
            (fun e _ => match e with | [_, _, _, _, _, some (.int a), _, _, _] => 1000 - a.toNat | _ => 0) ?_ ⟨[([0], 0)], _, 0, rfl, rfl, ⟨by simp, fun z hz => by
              rw [List.mem_singleton.mp hz]
              refine ⟨.base, ?_⟩
              cases wk <;> simp, rfl⟩, by omega, fun i hi => by omega⟩
          rintro e S1 ⟨E, u8, a, rfl, rfl, hE, ha, hc⟩
          have few := isSt_few w (by omega) hE.nd hE.st
          simp only [E40]
          walk_at "dw"
          rw [cell_len (at_app _ _), List.length_map]
          walk_at "dw"
          refine ⟨fun h => ?_, fun h => ?_⟩
          · have h : a < E.length := by have := of_decide_eq_true h; omega
            obtain ⟨z, hz⟩ : ∃ z, E[a]? = some z := ⟨E[a], List.getElem?_eq_getElem h⟩
            have stz := hE.st z (List.mem_of_getElem? hz)
            have ez : (E.map stD)[a]? = some (stD z) := by rw [List.getElem?_map, hz]; rfl
            rw [cell_ix (at_app _ _) ez]
            walk_at "dw"
            rw [stD_0]
            walk_at "dw"
            rw [cell_ix (at_app _ _) ez]
            walk_at "dw"
            rw [stD_1]
            walk_at "dw"
            rw [law_next_ok w wk stz.1 (by omega) z.2 _ (un_lst st_under hS _)]
            walk_at "dw"
            refine ens_fr (fun i e S1 => ∃ E' v8, S1 = S ++ [.lst (E'.map stD)] ∧ e = E40 ns L m rs [some (kdD wk), some (.cell S.length), some (.int (a : Int)), v6, v7, v8] ∧ Due rs wk E' ∧ Pre E E' ∧ ∀ y ∈ (nx rs wk (z.1, z.2)).take i, y ∈ E') ⟨E, _, rfl, rfl, hE, fun _ _ e => e, by simp⟩ ?_ ?_
            · rintro i d e S1 R3 hd ⟨E', w8, rfl, rfl, hE', pr, hq⟩ hR3
              rw [List.getElem?_map] at hd
              have hi : i < (nx rs wk (z.1, z.2)).length := by
                by_cases q : i < (nx rs wk (z.1, z.2)).length
                · exact q
                · rw [List.getElem?_eq_none (by omega)] at hd; cases hd
              rw [List.getElem?_eq_getElem hi] at hd
              cases hd
              have hy : (nx rs wk (z.1, z.2))[i] ∈ nx rs wk (z.1, z.2) := List.getElem_mem hi
              have sty := isSt_nx (z := (z.1, z.2)) stz hy
              have tk : (nx rs wk (z.1, z.2)).take (i + 1) = (nx rs wk (z.1, z.2)).take i ++ [(nx rs wk (z.1, z.2))[i]] := List.take_succ_eq_append_getElem hi
              generalize (nx rs wk (z.1, z.2))[i] = y at *
              have few2 := isSt_few w (by omega) hE'.nd hE'.st
              simp only [E40]
              walk_at "dw"
              rw [in_cell (emb := stD) (pd := stP) (at_app _ _) (st_toP _ 58 _) (sts_toPs _ 57 _) stP_eqv]
              walk_at "dw"
              by_cases q : y ∈ E'
              · rw [if_neg (by simp [q])]
                walk_at "dw"
                refine hR3 _ _ ⟨E', _, rfl, rfl, hE', pr, fun y' hy' => ?_⟩
                rw [tk] at hy'
                rcases List.mem_append.mp hy' with r | r
                · exact hq y' r
                · rw [List.mem_singleton.mp r]; exact q
              · rw [if_pos (by simp [q])]
                rw [if_pos (cellL_is (at_app _ _)), app_cell (at_app _ _) (by rw [List.length_map]; omega), set_app]
                walk_at "dw"
                refine hR3 _ _ ⟨E' ++ [y], _, by rw [List.map_append]; rfl, rfl, hE'.snoc q sty, pr.snoc _, fun y' hy' => ?_⟩
                rw [tk] at hy'
                rcases List.mem_append.mp hy' with r | r
                · exact List.mem_append_left _ (hq y' r)
                · rw [List.mem_singleton.mp r]; simp
            · rintro e S1 ⟨E', w8, rfl, rfl, hE', pr, hq⟩
              rw [List.length_map, List.take_length] at hq
              simp only [E40]
              walk_at "dw"
              refine ⟨⟨E', _, a + 1, rfl, rfl, hE', by have := pr.len; omega, fun i hi t ht y hy => ?_⟩, by omega⟩
              by_cases q : i < a
              · have hi2 : i < E.length := by omega
                have e1 : E[i]? = some E[i] := List.getElem?_eq_getElem hi2
                have e2 := pr i _ e1
                rw [ht] at e2
                cases e2
                exact pr.mem (hc i q _ e1 y hy)
              · obtain rfl : i = a := by omega
                rw [pr i z hz] at ht
                cases ht
                exact hq y hy
          · have h : a = E.length := by have := of_decide_eq_false h; omega
            refine hR _ _ ⟨E, _, _, rfl, rfl, hE, fun z hz y hy => ?_⟩
            obtain ⟨i, hi, rfl⟩ := List.getElem_of_mem hz
            exact hc i (by omega) _ (List.getElem?_eq_getElem hi) y hy
        rintro e S1 ⟨E, u5, u8, rfl, rfl, hE, hc⟩
        have few := isSt_few w (by omega) hE.nd hE.st
        have hall : ∀ z, isSt rs wk z → z ∈ E := fun z hz => isSt_all w (List.mem_of_getElem? hE.hd) hc hz
        have u1 : Un (S ++ [.lst (E.map stD)]) := un_lst st_under hS E
        have d0 : (S ++ [Cn.lst (E.map stD)])[S.length]? = some (.lst (E.map stD)) := at_app _ _
        have hlt : S.length < (S ++ [Cn.lst (E.map stD)]).length := by simp
        generalize hS1 : S ++ [Cn.lst (E.map stD)] = S1 at *
        refine ens_sq (fun e S2 => S2 = S1 ∧ e = E40 ns L m rs [some (kdD wk), some (.cell S.length), u5, some (wbD m rs), v7, u8]) (fun R hR => ?_) ?_
        · simp only [E40]
          walk_at "dw"
          rw [wb0]
          walk_at "dw"
          rw [wb1]
          walk_at "dw"
          rw [show bList mkF [D.lst (rs.map roD)] S1 = .ok (.lst (rs.map roD)) S1 from rfl]
          walk_at "dw"
          exact hR _ _ ⟨rfl, rfl⟩
        rintro e S2 ⟨rfl, rfl⟩
        refine ens_sq (fun e S3 => ∃ LS : List (List Nat), LS.Nodup ∧ (∀ s ∈ LS, CS rs s) ∧ (∀ s, CS rs s → s ∈ LS) ∧ ∃ d, StC S2 S3 d (stL wk (LS.mergeSort (PySem.W.dataLe false tpP))) ∧ e = E40 ns L m rs [some (kdD wk), some (.cell S.length), u5, some (wbD m rs), some d, u8]) (fun R hR => ?_) ?_
        · simp only [E40]
          walk_at "dw"
          refine (standings_ok hW (by omega) wk S2 u1).imp ?_
          rintro d S3 ⟨LS, l1, l2, l3, _, hc⟩
          walk_at "dw"
          exact hR _ _ ⟨LS, l1, l2, l3, d, hc, rfl⟩
        rintro e S3 ⟨LS, l1, l2, l3, d, ⟨X, n, rfl, rfl, hn, hc3, u3⟩, rfl⟩
        have keep3 : (S2 ++ X)[S.length]? = some (.lst (E.map stD)) := by rw [List.getElem?_append_left hlt]; exact d0
        have nl := (List.getElem?_eq_some_iff.mp hc3).1
        have tT : ∀ S, toP S 60 (.lst ((stL wk (LS.mergeSort (PySem.W.dataLe false tpP))).map stD)) = some (.list ((stL wk (LS.mergeSort (PySem.W.dataLe false tpP))).map stP)) := fun S => by rw [toP, sts_toPs]; rfl
        generalize hT : stL wk (LS.mergeSort (PySem.W.dataLe false tpP)) = T at *
        have tE := (toP_ok 60 _ _ (tT S2)).1
        refine ens_sq (fun e S4 => S4 = S2 ++ X ∧ e = E40 ns L m rs [some (kdD wk), some (.cell S.length), u5, some (wbD m rs), some (.cell n), u8]) (fun R hR => ?_) ?_
        · simp only [E40]
          walk_at "dw"
          rw [show bIsi [D.cell n, D.raw (V.ty "list")] (S2 ++ X) = .ok (.bl true) (S2 ++ X) by simp only [bIsi, tyOf, hc3]; rfl]
          walk_at "dw"
          rw [sort_due w hE hall few l1 l2 l3 keep3, hT]
          walk_at "dw"
          rw [dNe_of (cell_toP hc3 (sts_toPs _ 57 T)) (tT _), SeqAt.eqv_refl _ tE]
          walk_at "dw"
          obtain ⟨pw, hpw⟩ := wb_toP m rs (S2 ++ X)
          rw [dNe_self hpw]
          walk_at "dw"
          exact hR _ _ ⟨rfl, rfl⟩
        rintro e S4 ⟨rfl, rfl⟩
        refine ens_sq (fun e S5 => S5 = (S2 ++ X).set n (.lst ([].map stD)) ∧ e = E40 ns L m rs [some (kdD wk), some (.cell S.length), u5, some (wbD m rs), some (.cell n), u8]) (fun R hR => ?_) ?_
        · simp only [E40]
          walk_at "dw"
          rw [if_pos (cellL_is hc3)]
          have mc : mClear (.cell n) [] (S2 ++ X) = .ok .non ((S2 ++ X).set n (.lst [])) := by simp only [mClear, cellL, hc3]
          rw [mc]
          walk_at "dw"
          exact hR _ _ ⟨rfl, rfl⟩
        rintro e S5 ⟨rfl, rfl⟩
        have u5' : Un ((S2 ++ X).set n (.lst ([].map stD))) := un_cell st_under u3 n []
        have keep5 : ((S2 ++ X).set n (.lst ([].map stD)))[S.length]? = some (.lst (E.map stD)) := by rw [List.getElem?_set_ne (by omega)]; exact keep3
        generalize (S2 ++ X).set n (.lst ([].map stD)) = S5 at *
        simp only [E40]
        walk_at "dw"
        refine (standings_ok hW (by omega) wk S5 u5').imp ?_
        rintro d S6 ⟨LS2, k1, k2, k3, _, X2, n2, rfl, rfl, hn2, hc6, u6⟩
        have e2 : stL wk (LS2.mergeSort (PySem.W.dataLe false tpP)) = T := by
          rw [← hT, ← due_sorted w k1 k2 k3 hE.nd hE.st hall, due_sorted w l1 l2 l3 hE.nd hE.st hall]
        rw [e2] at hc6
        have keep6 : (S5 ++ X2)[S.length]? = some (.lst (E.map stD)) := by
          rw [List.getElem?_append_left (List.getElem?_eq_some_iff.mp keep5).1]
          exact keep5
        walk_at "dw"
        rw [sort_due w hE hall few l1 l2 l3 keep6, hT]
        walk_at "dw"
        rw [dNe_of (cell_toP hc6 (sts_toPs _ 57 T)) (tT _), SeqAt.eqv_refl _ tE]
        walk_at "dw"
        exact hR2 _ _ ⟨u6, _, _, _, _, _, _, rfl⟩
      · rintro e S2 ⟨hS, v3, v4, v5, v6, v7, v8, rfl⟩
        exact hR _ _ ⟨trivial, _, _, rfl⟩
    rintro e S2 ⟨_, o, e', rfl⟩
    walk_at "dw"
    rw [ens_fin0]
  obtain ⟨d, S', e, rfl⟩ := h.get
  exact ⟨S', e⟩

end Lw
namespace Lw
open PySem PySem.Spec PyProof.Rows L2 Dv
structure Tx (K : PySem.W.Frag) (mg : Str → Option Value) where
  a_is_road : Addr
  d_is_road : FuncData
  F_is_road : Fun K "is_road" "is_road" s_is_road a_is_road d_is_road
  g_is_road : mg "is_road" = some (.ref a_is_road)
  b_is_road : Binds K d_is_road ["many", "road"] []
  a_roads_from : Addr
  d_roads_from : FuncData
  F_roads_from : Fun K "roads_from" "roads_from" s_roads_from a_roads_from d_roads_from
  g_roads_from : mg "roads_from" = some (.ref a_roads_from)
  b_roads_from : Binds K d_roads_from ["web", "place"] []
  a_reached : Addr
  d_reached : FuncData
  F_reached : Fun K "reached" "reached" s_reached a_reached d_reached
  g_reached : mg "reached" = some (.ref a_reached)
  b_reached : Binds K d_reached ["web"] []
  a_look_web : Addr
  d_look_web : FuncData
  F_look_web : Fun K "look_web" "look_web" s_look_web a_look_web d_look_web
  g_look_web : mg "look_web" = some (.ref a_look_web)
  b_look_web : Binds K d_look_web ["web"] []
  a_must_be_small : Addr
  d_must_be_small : FuncData
  F_must_be_small : Fun K "must_be_small" "must_be_small" s_must_be_small a_must_be_small d_must_be_small
  g_must_be_small : mg "must_be_small" = some (.ref a_must_be_small)
  b_must_be_small : Binds K d_must_be_small ["web"] []
  a_must_be_kind : Addr
  d_must_be_kind : FuncData
  F_must_be_kind : Fun K "must_be_kind" "must_be_kind" s_must_be_kind a_must_be_kind d_must_be_kind
  g_must_be_kind : mg "must_be_kind" = some (.ref a_must_be_kind)
  b_must_be_kind : Binds K d_must_be_kind ["kind"] []
  a_sets_come_to : Addr
  d_sets_come_to : FuncData
  F_sets_come_to : Fun K "sets_come_to" "sets_come_to" s_sets_come_to a_sets_come_to d_sets_come_to
  g_sets_come_to : mg "sets_come_to" = some (.ref a_sets_come_to)
  b_sets_come_to : Binds K d_sets_come_to ["web"] []
  a_standings_of : Addr
  d_standings_of : FuncData
  F_standings_of : Fun K "standings_of" "standings_of" s_standings_of a_standings_of d_standings_of
  g_standings_of : mg "standings_of" = some (.ref a_standings_of)
  b_standings_of : Binds K d_standings_of ["web", "kind"] []
  a_standings : Addr
  d_standings : FuncData
  F_standings : Fun K "standings" "standings" s_standings a_standings d_standings
  g_standings : mg "standings" = some (.ref a_standings)
  b_standings : Binds K d_standings ["web", "kind"] []
  a__law_draws : Addr
  d__law_draws : FuncData
  F__law_draws : Fun K "_law_draws" "_law_draws" s__law_draws a__law_draws d__law_draws
  g__law_draws : mg "_law_draws" = some (.ref a__law_draws)
  b__law_draws : Binds K d__law_draws ["_law_script", "_law_many"] []
  a__law_web : Addr
  d__law_web : FuncData
  F__law_web : Fun K "_law_web" "_law_web" s__law_web a__law_web d__law_web
  g__law_web : mg "_law_web" = some (.ref a__law_web)
  b__law_web : Binds K d__law_web ["_law_draws_here", "_law_at", "_law_most"] []
  a__law_roads : Addr
  d__law_roads : FuncData
  F__law_roads : Fun K "_law_roads" "_law_roads" s__law_roads a__law_roads d__law_roads
  g__law_roads : mg "_law_roads" = some (.ref a__law_roads)
  b__law_roads : Binds K d__law_roads ["_law_web_here", "_law_place"] []
  a__law_next : Addr
  d__law_next : FuncData
  F__law_next : Fun K "_law_next" "_law_next" s__law_next a__law_next d__law_next
  g__law_next : mg "_law_next" = some (.ref a__law_next)
  b__law_next : Binds K d__law_next ["_law_web_here", "_law_kind", "_law_places", "_law_here"] []
  a_law : Addr
  d_law : FuncData
  F_law : Fun K "law" "law" s_law a_law d_law
  g_law : mg "law" = some (.ref a_law)
  b_law : Binds K d_law ["_law_script"] []
  z_min : mg "min" = none
  z_max : mg "max" = none
  z_sorted : mg "sorted" = none
  z_len : mg "len" = none
  z_enumerate : mg "enumerate" = none
  z_set : mg "set" = none
  z_tuple : mg "tuple" = none
  z_range : mg "range" = none
  z_int : mg "int" = none
  z_list : mg "list" = none
  z_isinstance : mg "isinstance" = none
  t_LONGEST : Tok
  c_LONGEST : mg "LONGEST" = some (.int 1000000 t_LONGEST)
  t_MOST_PLACES : Tok
  c_MOST_PLACES : mg "MOST_PLACES" = some (.int 60 t_MOST_PLACES)
  t_MOST_ROADS : Tok
  c_MOST_ROADS : mg "MOST_ROADS" = some (.int 120 t_MOST_ROADS)
  t_SMALL : Tok
  c_SMALL : mg "SMALL" = some (.int 7 t_SMALL)
section
variable {P : Program} {w : World} {K : PySem.W.Frag} {mg : Str → Option Value} {base : Heap}
theorem ok_is_road (T : Tx K mg) : FnOk P w K mg base (L2.CX P w) 2 T.a_is_road T.d_is_road ["many", "road"] (spD ⟨K, mg⟩ F_is_road) :=
  fn_mk (k := 1) (keep := false) (body := b_is_road) T.F_is_road sc_is_road rfl fun cdv A outer s H E hr => by
    have nd := sc_is_road.nd
    have tk : Takes (cxOf (L2.CX P w) P w K mg base ["many", "road", "a", "b", "length"] "is_road" (defScope s_is_road) T.a_is_road cdv A outer s H E) (fun cls d _ H' => E cls d H') := takes_of rfl rfl rfl rfl
    exact (pssd_cons (psd_asg (pd_var (i := 1)) (pgd_tup rfl (pgsd_cons (pgd_name (i := 2) nd) (pgsd_cons (pgd_name (i := 3) nd) (pgsd_cons (pgd_name (i := 4) nd) pgsd_nil)))))
      (pssd_cons (psd_if (PWD.pt (pwd_or (ptd_cmp od_lt (pd_callB (cd_min rfl) (by rfl) T.z_min (by decide +kernel) (pad_cons (pd_var (i := 2)) (pad_cons (pd_var (i := 3)) pad_nil))) pd_int) (pwd_or (ptd_cmp od_ge (pd_callB (cd_max rfl) (by rfl) T.z_max (by decide +kernel) (pad_cons (pd_var (i := 2)) (pad_cons (pd_var (i := 3)) pad_nil))) (pd_var (i := 0))) (pwd_or1 (ptd_cmp (od_eq hr.units) (pd_var (i := 2)) (pd_var (i := 3))))))) (pssd_one (psd_ret pd_bl)) pssd_nil)
      (pssd_one (psd_ret (pd_and (pd_cmp od_le pd_int (pd_var (i := 4))) (pd_one (pd_cmp od_le (pd_var (i := 4)) (pd_gint T.c_LONGEST))))))))
theorem ok_roads_from (T : Tx K mg) : FnOk P w K mg base (L2.CX P w) 2 T.a_roads_from T.d_roads_from ["web", "place"] (spD ⟨K, mg⟩ F_roads_from) :=
  fn_mk (k := 1) (keep := false) (body := b_roads_from) T.F_roads_from sc_roads_from rfl fun cdv A outer s H E hr => by
    have nd := sc_roads_from.nd
    have tk : Takes (cxOf (L2.CX P w) P w K mg base ["web", "place", "near", "a", "b", "length", "other"] "roads_from" (defScope s_roads_from) T.a_roads_from cdv A outer s H E) (fun cls d _ H' => E cls d H') := takes_of rfl rfl rfl rfl
    exact (pssd_cons (psd_set (i := 2) nd pd_dct0)
      (pssd_cons (psd_for (passes_of rfl) rfl (pid_list (pd_ix ixd (pd_var (i := 0)) pd_int)) (pgd_tup rfl (pgsd_cons (pgd_name (i := 3) nd) (pgsd_cons (pgd_name (i := 4) nd) (pgsd_cons (pgd_name (i := 5) nd) pgsd_nil)))) (pssd_one (psd_if (PWD.pt (pwd_or (ptd_cmp (od_eq hr.units) (pd_var (i := 3)) (pd_var (i := 1))) (pwd_or1 (ptd_cmp (od_eq hr.units) (pd_var (i := 4)) (pd_var (i := 1)))))) (pssd_cons (psd_set (i := 6) nd (pd_op od_sub (pd_op (od_add mk_F) (pd_var (i := 3)) (pd_var (i := 4))) (pd_var (i := 1))))
      (pssd_one (psd_sub (sd_dict (units1 hr)) (pd_callB (cd_min rfl) (by rfl) T.z_min (by decide +kernel) (pad_cons (pd_var (i := 5)) (pad_cons (pd_get2 (units1 hr) (pd_var (i := 2)) (pd_var (i := 6)) (pd_var (i := 5))) pad_nil))) (pd_var (i := 2)) (pd_var (i := 6))))) pssd_nil)))
      (pssd_one (psd_ret (pd_lc (own := [("other", 6)]) mk_F (tg_N (by decide)) rfl nd (pid_list (pd_callB (cd_sortK mk_F rfl) (by rfl) T.z_sorted (by decide +kernel) (pad_cons (pd_var (i := 2)) pad_nil))) (blkOk_by (N := ["web", "place", "near", "a", "b", "length", "other"]) (sc := defScope s_roads_from) (by decide +kernel)) (fun _ _ _ _ _ => pg_name (i := 6) nd rfl (Or.inl rfl)) (fun _ _ _ _ _ => (pd_tup (pad_cons (pd_var (i := 6)) (pad_cons (pd_dkx (units1 hr) (pd_var (i := 2)) (pd_var (i := 6))) pad_nil)))))))))
theorem ok_reached (T : Tx K mg) : FnOk P w K mg base (L2.CX P w) 3 T.a_reached T.d_reached ["web"] (spD ⟨K, mg⟩ F_reached) :=
  fn_mk (k := 2) (keep := false) (body := b_reached) T.F_reached sc_reached rfl fun cdv A outer s H E hr => by
    have nd := sc_reached.nd
    have tk : Takes (cxOf (L2.CX P w) P w K mg base ["web", "row", "at", "other", "length"] "reached" (defScope s_reached) T.a_reached cdv A outer s H E) (fun cls d _ H' => E cls d H') := takes_of rfl rfl rfl rfl
    exact (pssd_cons (psd_set (i := 1) nd (pd_lst mk_C (pad_cons pd_int pad_nil)))
      (pssd_cons (psd_set (i := 2) nd pd_int)
      (pssd_cons (psd_frz (i := 1) (psd_while (passes_of rfl) (ptd_cmp od_lt (pd_var (i := 2)) (pd_callB cd_len (by rfl) T.z_len (by decide +kernel) (pad_cons (pd_var (i := 1)) pad_nil))) (pssd_cons (psd_for (passes_of rfl) rfl (pid_list (pd_call (ok_roads_from T) (hr.mono (by decide)) T.g_roads_from T.F_roads_from.kp T.b_roads_from tk (pad_cons (pd_var (i := 0)) (pad_cons (pd_ix ixd (pd_var (i := 1)) (pd_var (i := 2))) pad_nil)))) (pgd_tup rfl (pgsd_cons (pgd_name (i := 3) nd) (pgsd_cons (pgd_name (i := 4) nd) pgsd_nil))) (pssd_one (psd_if (ptd_cmp od_notIn (pd_var (i := 3)) (pd_var (i := 1))) (pssd_one (psd_expr (pd_bm PySem.F.plainAttrs_list PySem.F.slot_list_append PySem.F.type_list_append md_append (pd_var (i := 1)) (pad_cons (pd_var (i := 3)) pad_nil)))) pssd_nil)))
      (pssd_one (psd_aug (i := 2) nd id_add pd_int)))))
      (pssd_one (psd_ret (pd_var (i := 1)))))))
theorem ok_look_web (T : Tx K mg) : FnOk P w K mg base (L2.CX P w) 4 T.a_look_web T.d_look_web ["web"] (spD ⟨K, mg⟩ F_look_web) :=
  fn_mk (k := 3) (keep := false) (body := b_look_web) T.F_look_web sc_look_web rfl fun cdv A outer s H E hr => by
    have nd := sc_look_web.nd
    have tk : Takes (cxOf (L2.CX P w) P w K mg base ["web", "many", "roads", "number", "road"] "look_web" (defScope s_look_web) T.a_look_web cdv A outer s H E) (fun cls d _ H' => E cls d H') := takes_of rfl rfl rfl rfl
    exact (pssd_cons (psd_asg (pd_var (i := 0)) (pgd_tup rfl (pgsd_cons (pgd_name (i := 1) nd) (pgsd_cons (pgd_name (i := 2) nd) pgsd_nil))))
      (pssd_cons (psd_for (passes_of rfl) rfl (pid_enum T.z_enumerate (pad_cons (pd_var (i := 2)) pad_nil)) (pgd_tup rfl (pgsd_cons (pgd_name (i := 3) nd) (pgsd_cons (pgd_name (i := 4) nd) pgsd_nil))) (pssd_one (psd_if (ptd_not (ptd_truth (pd_call (ok_is_road T) (hr.mono (by decide)) T.g_is_road T.F_is_road.kp T.b_is_road tk (pad_cons (pd_var (i := 1)) (pad_cons (pd_var (i := 4)) pad_nil))))) (pssd_one psd_never) pssd_nil)))
      (pssd_cons (psd_if (PWD.pt (pwd_or (ptd_cmp od_lt (pd_var (i := 1)) pd_int) (pwd_or (ptd_cmp od_gt (pd_var (i := 1)) (pd_gint T.c_MOST_PLACES)) (pwd_or1 (ptd_cmp od_gt (pd_callB cd_len (by rfl) T.z_len (by decide +kernel) (pad_cons (pd_var (i := 2)) pad_nil)) (pd_gint T.c_MOST_ROADS)))))) (pssd_one psd_never) pssd_nil)
      (pssd_one (psd_if (ptd_cmp (od_ne hr.units) (pd_callB cd_len (by rfl) T.z_len (by decide +kernel) (pad_cons (pd_call (ok_reached T) (hr.mono (by decide)) T.g_reached T.F_reached.kp T.b_reached tk (pad_cons (pd_var (i := 0)) pad_nil)) pad_nil)) (pd_var (i := 1))) (pssd_one psd_never) pssd_nil)))))
theorem ok_must_be_small (T : Tx K mg) : FnOk P w K mg base (L2.CX P w) 2 T.a_must_be_small T.d_must_be_small ["web"] (spD ⟨K, mg⟩ F_must_be_small) :=
  fn_mk (k := 1) (keep := false) (body := b_must_be_small) T.F_must_be_small sc_must_be_small rfl fun cdv A outer s H E hr => by
    have nd := sc_must_be_small.nd
    have tk : Takes (cxOf (L2.CX P w) P w K mg base ["web"] "must_be_small" (defScope s_must_be_small) T.a_must_be_small cdv A outer s H E) (fun cls d _ H' => E cls d H') := takes_of rfl rfl rfl rfl
    exact (pssd_one (psd_if (ptd_cmp od_gt (pd_ix ixd (pd_var (i := 0)) pd_int) (pd_gint T.c_SMALL)) (pssd_one psd_never) pssd_nil))
theorem ok_must_be_kind (T : Tx K mg) : FnOk P w K mg base (L2.CX P w) 2 T.a_must_be_kind T.d_must_be_kind ["kind"] (spD ⟨K, mg⟩ F_must_be_kind) :=
  fn_mk (k := 1) (keep := false) (body := b_must_be_kind) T.F_must_be_kind sc_must_be_kind rfl fun cdv A outer s H E hr => by
    have nd := sc_must_be_kind.nd
    have tk : Takes (cxOf (L2.CX P w) P w K mg base ["kind"] "must_be_kind" (defScope s_must_be_kind) T.a_must_be_kind cdv A outer s H E) (fun cls d _ H' => E cls d H') := takes_of rfl rfl rfl rfl
    exact (pssd_one (psd_if (PWD.pt (pwd_and (ptd_cmp (od_ne hr.units) (pd_var (i := 0)) pd_str) (pwd_and1 (ptd_cmp (od_ne hr.units) (pd_var (i := 0)) pd_str)))) (pssd_one psd_never) pssd_nil))
theorem ok_sets_come_to (T : Tx K mg) : FnOk P w K mg base (L2.CX P w) 3 T.a_sets_come_to T.d_sets_come_to ["web"] (spD ⟨K, mg⟩ F_sets_come_to) :=
  fn_mk (k := 2) (keep := false) (body := b_sets_come_to) T.F_sets_come_to sc_sets_come_to rfl fun cdv A outer s H E hr => by
    have nd := sc_sets_come_to.nd
    have tk : Takes (cxOf (L2.CX P w) P w K mg base ["web", "found", "at", "place", "other", "length", "more"] "sets_come_to" (defScope s_sets_come_to) T.a_sets_come_to cdv A outer s H E) (fun cls d _ H' => E cls d H') := takes_of rfl rfl rfl rfl
    exact (pssd_cons (psd_set (i := 1) nd (pd_lst mk_C (pad_cons (pd_tup (pad_cons pd_int pad_nil)) pad_nil)))
      (pssd_cons (psd_set (i := 2) nd pd_int)
      (pssd_cons (psd_while (passes_of rfl) (ptd_cmp od_lt (pd_var (i := 2)) (pd_callB cd_len (by rfl) T.z_len (by decide +kernel) (pad_cons (pd_var (i := 1)) pad_nil))) (pssd_cons (psd_for (passes_of rfl) rfl (pid_tup (pd_ix ixd (pd_var (i := 1)) (pd_var (i := 2)))) (pgd_name (i := 3) nd) (pssd_one (psd_for (passes_of rfl) rfl (pid_list (pd_call (ok_roads_from T) (hr.mono (by decide)) T.g_roads_from T.F_roads_from.kp T.b_roads_from tk (pad_cons (pd_var (i := 0)) (pad_cons (pd_var (i := 3)) pad_nil)))) (pgd_tup rfl (pgsd_cons (pgd_name (i := 4) nd) (pgsd_cons (pgd_name (i := 5) nd) pgsd_nil))) (pssd_cons (psd_set (i := 6) nd (pd_callTy cd_tuple (by rfl) T.z_tuple (by decide +kernel) (pad_cons (pd_sortSet mk_F rfl T.z_sorted T.z_set (pd_op (od_add mk_F) (pd_ix ixd (pd_var (i := 1)) (pd_var (i := 2))) (pd_tup (pad_cons (pd_var (i := 4)) pad_nil)))) pad_nil)))
      (pssd_one (psd_if (ptd_cmp (od_notInD (units65 hr)) (pd_var (i := 6)) (pd_var (i := 1))) (pssd_one (psd_expr (pd_bm PySem.F.plainAttrs_list PySem.F.slot_list_append PySem.F.type_list_append md_append (pd_var (i := 1)) (pad_cons (pd_var (i := 6)) pad_nil)))) pssd_nil))))))
      (pssd_one (psd_aug (i := 2) nd id_add pd_int))))
      (pssd_one (psd_ret (pd_callB (cd_sortD mk_F (units65 hr)) (by rfl) T.z_sorted (by decide +kernel) (pad_cons (pd_var (i := 1)) pad_nil)))))))
theorem ok_standings_of (T : Tx K mg) : FnOk P w K mg base (L2.CX P w) 4 T.a_standings_of T.d_standings_of ["web", "kind"] (spD ⟨K, mg⟩ F_standings_of) :=
  fn_mk (k := 3) (keep := true) (body := b_standings_of) T.F_standings_of sc_standings_of rfl fun cdv A outer s H E hr => by
    have nd := sc_standings_of.nd
    have tk : Takes (cxOf (L2.CX P w) P w K mg base ["web", "kind", "found", "places", "here"] "standings_of" (defScope s_standings_of) T.a_standings_of cdv A outer s H E) (fun cls d _ H' => E cls d H') := takes_of rfl rfl rfl rfl
    exact (pssd_cons (psd_set (i := 2) nd (pd_lst mk_C pad_nil))
      (pssd_cons (psd_for (passes_of rfl) rfl (pid_list (pd_call (ok_sets_come_to T) (hr.mono (by decide)) T.g_sets_come_to T.F_sets_come_to.kp T.b_sets_come_to tk (pad_cons (pd_var (i := 0)) pad_nil))) (pgd_name (i := 3) nd) (pssd_one (psd_if (ptd_cmp (od_eq hr.units) (pd_var (i := 1)) pd_str) (pssd_one (psd_expr (pd_bm PySem.F.plainAttrs_list PySem.F.slot_list_append PySem.F.type_list_append md_append (pd_var (i := 2)) (pad_cons (pd_tup (pad_cons (pd_var (i := 3)) (pad_cons pd_int pad_nil))) pad_nil)))) (pssd_one (psd_set (i := 2) nd (pd_op (od_add mk_C) (pd_var (i := 2)) (pd_lc (own := [("here", 4)]) mk_F (tg_N (by decide)) rfl nd (pid_tup (pd_var (i := 3))) (blkOk_by (N := ["web", "kind", "found", "places", "here"]) (sc := defScope s_standings_of) (by decide +kernel)) (fun _ _ _ _ _ => pg_name (i := 4) nd rfl (Or.inl rfl)) (fun _ _ _ _ _ => (pd_tup (pad_cons (pd_var (i := 3)) (pad_cons (pd_var (i := 4)) pad_nil)))))))))))
      (pssd_one (psd_ret (pd_var (i := 2))))))
theorem ok_standings (T : Tx K mg) : FnOk P w K mg base (L2.CX P w) 5 T.a_standings T.d_standings ["web", "kind"] (spD ⟨K, mg⟩ F_standings) :=
  fn_mk (k := 4) (keep := true) (body := b_standings) T.F_standings sc_standings rfl fun cdv A outer s H E hr => by
    have nd := sc_standings.nd
    have tk : Takes (cxOf (L2.CX P w) P w K mg base ["web", "kind"] "standings" (defScope s_standings) T.a_standings cdv A outer s H E) (fun cls d _ H' => E cls d H') := takes_of rfl rfl rfl rfl
    exact (pssd_cons (psd_expr (pd_call (ok_look_web T) (hr.mono (by decide)) T.g_look_web T.F_look_web.kp T.b_look_web tk (pad_cons (pd_var (i := 0)) pad_nil)))
      (pssd_cons (psd_expr (pd_call (ok_must_be_small T) (hr.mono (by decide)) T.g_must_be_small T.F_must_be_small.kp T.b_must_be_small tk (pad_cons (pd_var (i := 0)) pad_nil)))
      (pssd_cons (psd_expr (pd_call (ok_must_be_kind T) (hr.mono (by decide)) T.g_must_be_kind T.F_must_be_kind.kp T.b_must_be_kind tk (pad_cons (pd_var (i := 1)) pad_nil)))
      (pssd_one (psd_ret (pd_call (ok_standings_of T) (hr.mono (by decide)) T.g_standings_of T.F_standings_of.kp T.b_standings_of tk (pad_cons (pd_var (i := 0)) (pad_cons (pd_var (i := 1)) pad_nil))))))))
theorem ok__law_draws (T : Tx K mg) : FnOk P w K mg base (L2.CX P w) 2 T.a__law_draws T.d__law_draws ["_law_script", "_law_many"] (spD ⟨K, mg⟩ F__law_draws) :=
  fn_mk (k := 1) (keep := false) (body := b__law_draws) T.F__law_draws sc__law_draws rfl fun cdv A outer s H E hr => by
    have nd := sc__law_draws.nd
    have tk : Takes (cxOf (L2.CX P w) P w K mg base ["_law_script", "_law_many", "_law_found", "_law_k", "_law_cell", "_law_j", "_law_number"] "_law_draws" (defScope s__law_draws) T.a__law_draws cdv A outer s H E) (fun cls d _ H' => E cls d H') := takes_of rfl rfl rfl rfl
    exact (pssd_cons (psd_set (i := 2) nd (pd_lst mk_C pad_nil))
      (pssd_cons (psd_frz (i := 2) (psd_for (passes_of rfl) rfl (pid_range1 T.z_range (pad_cons (pd_var (i := 1)) pad_nil)) (pgd_name (i := 3) nd) (pssd_cons (psd_set (i := 4) nd pd_int)
      (pssd_cons (psd_if (ptd_cmp od_gt (pd_callB cd_len (by rfl) T.z_len (by decide +kernel) (pad_cons (pd_var (i := 0)) pad_nil)) pd_int) (pssd_one (psd_set (i := 4) nd (pd_ix ixd (pd_var (i := 0)) (pd_op od_mod (pd_op od_fdiv (pd_var (i := 3)) pd_int) (pd_callB (cd_min rfl) (by rfl) T.z_min (by decide +kernel) (pad_cons pd_int (pad_cons (pd_callB cd_len (by rfl) T.z_len (by decide +kernel) (pad_cons (pd_var (i := 0)) pad_nil)) pad_nil))))))) pssd_nil)
      (pssd_one (psd_if (ptd_cmp od_ge (pd_var (i := 4)) (pd_op od_pow pd_int pd_int)) (pssd_cons (psd_set (i := 4) nd (pd_op od_fdiv (pd_var (i := 4)) (pd_op od_pow pd_int pd_int)))
      (pssd_cons (psd_for (passes_of rfl) rfl (pid_range1 T.z_range (pad_cons (pd_op od_mod (pd_var (i := 3)) pd_int) pad_nil)) (pgd_name (i := 5) nd) (pssd_one (psd_set (i := 4) nd (pd_op od_fdiv (pd_var (i := 4)) pd_int))))
      (pssd_one (psd_expr (pd_bm PySem.F.plainAttrs_list PySem.F.slot_list_append PySem.F.type_list_append md_append (pd_var (i := 2)) (pad_cons (pd_op od_mod (pd_var (i := 4)) pd_int) pad_nil)))))) (pssd_cons (psd_set (i := 6) nd (pd_op od_mod (pd_op (od_add mk_F) (pd_var (i := 4)) (pd_op (od_mul mk_F) pd_int (pd_op (od_add mk_F) (pd_var (i := 3)) pd_int))) pd_int))
      (pssd_cons (psd_set (i := 6) nd (pd_op od_mod (pd_op (od_add mk_F) (pd_op (od_mul mk_F) (pd_var (i := 6)) (pd_var (i := 6))) (pd_var (i := 3))) pd_int))
      (pssd_one (psd_expr (pd_bm PySem.F.plainAttrs_list PySem.F.slot_list_append PySem.F.type_list_append md_append (pd_var (i := 2)) (pad_cons (pd_op od_mod (pd_op (od_mul mk_F) (pd_var (i := 6)) (pd_var (i := 6))) pd_int) pad_nil))))))))))))
      (pssd_one (psd_ret (pd_var (i := 2))))))
theorem ok__law_web (T : Tx K mg) : FnOk P w K mg base (L2.CX P w) 2 T.a__law_web T.d__law_web ["_law_draws_here", "_law_at", "_law_most"] (spD ⟨K, mg⟩ F__law_web) :=
  fn_mk (k := 1) (keep := false) (body := b__law_web) T.F__law_web sc__law_web rfl fun cdv A outer s H E hr => by
    have nd := sc__law_web.nd
    have tk : Takes (cxOf (L2.CX P w) P w K mg base ["_law_draws_here", "_law_at", "_law_most", "_law_many", "_law_roads_here", "_law_place", "_law_k", "_law_names", "_law_found", "_law_other", "_law_length", "_law_one", "_law_a", "_law_b", "_law_spot"] "_law_web" (defScope s__law_web) T.a__law_web cdv A outer s H E) (fun cls d _ H' => E cls d H') := takes_of rfl rfl rfl rfl
    exact (pssd_cons (psd_set (i := 3) nd (pd_op (od_add mk_F) pd_int (pd_op od_mod (pd_ix ixd (pd_var (i := 0)) (pd_var (i := 1))) (pd_var (i := 2)))))
      (pssd_cons (psd_set (i := 4) nd (pd_lst mk_C pad_nil))
      (pssd_cons (psd_for (passes_of rfl) rfl (pid_range2 T.z_range (pad_cons pd_int (pad_cons (pd_var (i := 3)) pad_nil))) (pgd_name (i := 5) nd) (pssd_cons (psd_set (i := 9) nd (pd_op od_mod (pd_ix ixd (pd_var (i := 0)) (pd_op (od_add mk_F) (pd_var (i := 1)) (pd_var (i := 5)))) (pd_var (i := 5))))
      (pssd_cons (psd_set (i := 10) nd (pd_op (od_add mk_F) pd_int (pd_op od_mod (pd_op od_fdiv (pd_ix ixd (pd_var (i := 0)) (pd_op (od_add mk_F) (pd_var (i := 1)) (pd_var (i := 5)))) pd_int) pd_int)))
      (pssd_one (psd_expr (pd_bm PySem.F.plainAttrs_list PySem.F.slot_list_append PySem.F.type_list_append md_append (pd_var (i := 4)) (pad_cons (pd_ix ixd (pd_lst mk_F (pad_cons (pd_tup (pad_cons (pd_var (i := 9)) (pad_cons (pd_var (i := 5)) (pad_cons (pd_var (i := 10)) pad_nil)))) (pad_cons (pd_tup (pad_cons (pd_var (i := 5)) (pad_cons (pd_var (i := 9)) (pad_cons (pd_var (i := 10)) pad_nil)))) pad_nil))) (pd_op od_mod (pd_op od_fdiv (pd_ix ixd (pd_var (i := 0)) (pd_op (od_add mk_F) (pd_var (i := 1)) (pd_var (i := 5)))) pd_int) pd_int)) pad_nil)))))))
      (pssd_cons (psd_frz (i := 4) (psd_for (passes_of rfl) rfl (pid_range1 T.z_range (pad_cons (pd_op od_mod (pd_ix ixd (pd_var (i := 0)) (pd_op (od_add mk_F) (pd_var (i := 1)) pd_int)) pd_int) pad_nil)) (pgd_name (i := 6) nd) (pssd_cons (psd_set (i := 11) nd (pd_op od_mod (pd_ix ixd (pd_var (i := 0)) (pd_op (od_add mk_F) (pd_op (od_add mk_F) (pd_var (i := 1)) pd_int) (pd_var (i := 6)))) (pd_var (i := 3))))
      (pssd_cons (psd_set (i := 9) nd (pd_op od_mod (pd_op od_fdiv (pd_ix ixd (pd_var (i := 0)) (pd_op (od_add mk_F) (pd_op (od_add mk_F) (pd_var (i := 1)) pd_int) (pd_var (i := 6)))) pd_int) (pd_var (i := 3))))
      (pssd_one (psd_if (ptd_cmp (od_ne hr.units) (pd_var (i := 11)) (pd_var (i := 9))) (pssd_one (psd_expr (pd_bm PySem.F.plainAttrs_list PySem.F.slot_list_append PySem.F.type_list_append md_append (pd_var (i := 4)) (pad_cons (pd_tup (pad_cons (pd_var (i := 11)) (pad_cons (pd_var (i := 9)) (pad_cons (pd_op (od_add mk_F) pd_int (pd_op od_mod (pd_op od_fdiv (pd_ix ixd (pd_var (i := 0)) (pd_op (od_add mk_F) (pd_op (od_add mk_F) (pd_var (i := 1)) pd_int) (pd_var (i := 6)))) pd_int) pd_int)) pad_nil)))) pad_nil)))) pssd_nil))))))
      (pssd_cons (psd_set (i := 7) nd (pd_lst mk_C pad_nil))
      (pssd_cons (psd_frz (i := 7) (psd_for (passes_of rfl) rfl (pid_range2 T.z_range (pad_cons pd_int (pad_cons (pd_var (i := 3)) pad_nil))) (pgd_name (i := 6) nd) (pssd_one (psd_expr (pd_bm PySem.F.plainAttrs_list PySem.F.slot_list_insert PySem.F.type_list_insert md_insert (pd_var (i := 7)) (pad_cons (pd_op od_mod (pd_op od_fdiv (pd_ix ixd (pd_var (i := 0)) (pd_op (od_add mk_F) (pd_var (i := 1)) pd_int)) (pd_op (od_add mk_F) pd_int (pd_op (od_mul mk_F) pd_int (pd_var (i := 6))))) (pd_op (od_add mk_F) (pd_callB cd_len (by rfl) T.z_len (by decide +kernel) (pad_cons (pd_var (i := 7)) pad_nil)) pd_int)) (pad_cons (pd_var (i := 6)) pad_nil)))))))
      (pssd_cons (psd_set (i := 7) nd (pd_op (od_add mk_F) (pd_lst mk_F (pad_cons pd_int pad_nil)) (pd_var (i := 7))))
      (pssd_cons (psd_set (i := 8) nd (pd_lst mk_C pad_nil))
      (pssd_cons (psd_frz (i := 8) (psd_for (passes_of rfl) rfl (pid_list (pd_var (i := 4))) (pgd_tup rfl (pgsd_cons (pgd_name (i := 12) nd) (pgsd_cons (pgd_name (i := 13) nd) (pgsd_cons (pgd_name (i := 10) nd) pgsd_nil)))) (pssd_cons (psd_set (i := 14) nd (pd_op od_fdiv (pd_ix ixd (pd_var (i := 0)) (pd_op (od_add mk_F) (pd_var (i := 1)) pd_int)) (pd_op (od_add mk_F) pd_int (pd_callB cd_len (by rfl) T.z_len (by decide +kernel) (pad_cons (pd_var (i := 8)) pad_nil)))))
      (pssd_one (psd_expr (pd_bm PySem.F.plainAttrs_list PySem.F.slot_list_insert PySem.F.type_list_insert md_insert (pd_var (i := 8)) (pad_cons (pd_op od_mod (pd_var (i := 14)) (pd_op (od_add mk_F) (pd_callB cd_len (by rfl) T.z_len (by decide +kernel) (pad_cons (pd_var (i := 8)) pad_nil)) pd_int)) (pad_cons (pd_tup (pad_cons (pd_ix ixd (pd_var (i := 7)) (pd_var (i := 12))) (pad_cons (pd_ix ixd (pd_var (i := 7)) (pd_var (i := 13))) (pad_cons (pd_var (i := 10)) pad_nil)))) pad_nil))))))))
      (pssd_one (psd_ret (pd_tup (pad_cons (pd_var (i := 3)) (pad_cons (pd_var (i := 8)) pad_nil))))))))))))))
theorem ok__law_roads (T : Tx K mg) : FnOk P w K mg base (L2.CX P w) 2 T.a__law_roads T.d__law_roads ["_law_web_here", "_law_place"] (spD ⟨K, mg⟩ F__law_roads) :=
  fn_mk (k := 1) (keep := false) (body := b__law_roads) T.F__law_roads sc__law_roads rfl fun cdv A outer s H E hr => by
    have nd := sc__law_roads.nd
    have tk : Takes (cxOf (L2.CX P w) P w K mg base ["_law_web_here", "_law_place", "_law_found", "_law_a", "_law_b", "_law_length", "_law_one", "_law_other"] "_law_roads" (defScope s__law_roads) T.a__law_roads cdv A outer s H E) (fun cls d _ H' => E cls d H') := takes_of rfl rfl rfl rfl
    exact (pssd_cons (psd_set (i := 2) nd pd_dct0)
      (pssd_cons (psd_for (passes_of rfl) rfl (pid_list (pd_ix ixd (pd_var (i := 0)) pd_int)) (pgd_tup rfl (pgsd_cons (pgd_name (i := 3) nd) (pgsd_cons (pgd_name (i := 4) nd) (pgsd_cons (pgd_name (i := 5) nd) pgsd_nil)))) (pssd_one (psd_for (passes_of rfl) rfl (pid_list (pd_lst mk_F (pad_cons (pd_tup (pad_cons (pd_var (i := 3)) (pad_cons (pd_var (i := 4)) pad_nil))) (pad_cons (pd_tup (pad_cons (pd_var (i := 4)) (pad_cons (pd_var (i := 3)) pad_nil))) pad_nil)))) (pgd_tup rfl (pgsd_cons (pgd_name (i := 6) nd) (pgsd_cons (pgd_name (i := 7) nd) pgsd_nil))) (pssd_one (psd_if (ptd_cmp (od_eq hr.units) (pd_var (i := 6)) (pd_var (i := 1))) (pssd_one (psd_sub (sd_dict (units1 hr)) (pd_callB (cd_min rfl) (by rfl) T.z_min (by decide +kernel) (pad_cons (pd_var (i := 5)) (pad_cons (pd_get2 (units1 hr) (pd_var (i := 2)) (pd_var (i := 7)) (pd_var (i := 5))) pad_nil))) (pd_var (i := 2)) (pd_var (i := 7)))) pssd_nil)))))
      (pssd_one (psd_ret (pd_sortIt rfl (units65 hr) T.z_sorted (pd_var (i := 2)))))))
theorem ok__law_next (T : Tx K mg) : FnOk P w K mg base (L2.CX P w) 3 T.a__law_next T.d__law_next ["_law_web_here", "_law_kind", "_law_places", "_law_here"] (spD ⟨K, mg⟩ F__law_next) :=
  fn_mk (k := 2) (keep := false) (body := b__law_next) T.F__law_next sc__law_next rfl fun cdv A outer s H E hr => by
    have nd := sc__law_next.nd
    have tk : Takes (cxOf (L2.CX P w) P w K mg base ["_law_web_here", "_law_kind", "_law_places", "_law_here", "_law_found", "_law_place", "_law_other", "_law_length", "_law_near"] "_law_next" (defScope s__law_next) T.a__law_next cdv A outer s H E) (fun cls d _ H' => E cls d H') := takes_of rfl rfl rfl rfl
    exact (pssd_cons (psd_set (i := 4) nd (pd_lst mk_C pad_nil))
      (pssd_cons (psd_frz (i := 4) (psd_for (passes_of rfl) rfl (pid_LT (pd_if (ptd_cmp (od_eq hr.units) (pd_var (i := 1)) pd_str) (pd_lst mk_F (pad_cons (pd_var (i := 3)) pad_nil)) (pd_var (i := 2)))) (pgd_name (i := 5) nd) (pssd_one (psd_for (passes_of rfl) rfl (pid_list (pd_call (ok__law_roads T) (hr.mono (by decide)) T.g__law_roads T.F__law_roads.kp T.b__law_roads tk (pad_cons (pd_var (i := 0)) (pad_cons (pd_var (i := 5)) pad_nil)))) (pgd_tup rfl (pgsd_cons (pgd_name (i := 6) nd) (pgsd_cons (pgd_name (i := 7) nd) pgsd_nil))) (pssd_one (psd_if (PWD.pt (pwd_or (ptd_cmp (od_eq hr.units) (pd_var (i := 1)) pd_str) (pwd_or1 (ptd_cmp od_notIn (pd_var (i := 6)) (pd_var (i := 2)))))) (pssd_cons (psd_set (i := 8) nd (pd_callTy cd_tuple (by rfl) T.z_tuple (by decide +kernel) (pad_cons (pd_sortSet mk_F rfl T.z_sorted T.z_set (pd_op (od_add mk_F) (pd_var (i := 2)) (pd_tup (pad_cons (pd_var (i := 6)) pad_nil)))) pad_nil)))
      (pssd_one (psd_expr (pd_bm PySem.F.plainAttrs_list PySem.F.slot_list_append PySem.F.type_list_append md_append (pd_var (i := 4)) (pad_cons (pd_tup (pad_cons (pd_var (i := 8)) (pad_cons (pd_ix ixd (pd_lst mk_F (pad_cons pd_int (pad_cons (pd_var (i := 6)) pad_nil))) (pd_callTy cd_int (by rfl) T.z_int (by decide +kernel) (pad_cons (pd_cmp (od_eq hr.units) (pd_var (i := 1)) pd_str) pad_nil))) pad_nil))) pad_nil))))) pssd_nil))))))
      (pssd_one (psd_ret (pd_var (i := 4))))))
theorem ok_law (T : Tx K mg) : FnOk P w K mg base (L2.CX P w) 6 T.a_law T.d_law ["_law_script"] (spD ⟨K, mg⟩ F_law) :=
  fn_mk (k := 5) (keep := false) (body := b_law) T.F_law sc_law rfl fun cdv A outer s H E hr => by
    have nd := sc_law.nd
    have tk : Takes (cxOf (L2.CX P w) P w K mg base ["_law_script", "_law_draws_here", "_law_web_here", "_law_kind", "_law_due", "_law_at", "_law_handed", "_law_found", "_law_near"] "law" (defScope s_law) T.a_law cdv A outer s H E) (fun cls d _ H' => E cls d H') := takes_of rfl rfl rfl rfl
    exact (pssd_cons (psd_set (i := 1) nd (pd_call (ok__law_draws T) (hr.mono (by decide)) T.g__law_draws T.F__law_draws.kp T.b__law_draws tk (pad_cons (pd_var (i := 0)) (pad_cons pd_int pad_nil))))
      (pssd_cons (psd_set (i := 2) nd (pd_call (ok__law_web T) (hr.mono (by decide)) T.g__law_web T.F__law_web.kp T.b__law_web tk (pad_cons (pd_var (i := 1)) (pad_cons pd_int (pad_cons pd_int pad_nil)))))
      (pssd_cons (psd_for (passes_of rfl) rfl (pid_list (pd_lst mk_F (pad_cons pd_str (pad_cons pd_str pad_nil)))) (pgd_name (i := 3) nd) (pssd_cons (psd_set (i := 4) nd (pd_lst mk_C (pad_cons (pd_tup (pad_cons (pd_tup (pad_cons pd_int pad_nil)) (pad_cons pd_int pad_nil))) pad_nil)))
      (pssd_cons (psd_set (i := 5) nd pd_int)
      (pssd_cons (psd_while (passes_of rfl) (ptd_cmp od_lt (pd_var (i := 5)) (pd_callB cd_len (by rfl) T.z_len (by decide +kernel) (pad_cons (pd_var (i := 4)) pad_nil))) (pssd_cons (psd_for (passes_of rfl) rfl (pid_list (pd_call (ok__law_next T) (hr.mono (by decide)) T.g__law_next T.F__law_next.kp T.b__law_next tk (pad_cons (pd_var (i := 2)) (pad_cons (pd_var (i := 3)) (pad_cons (pd_ix ixd (pd_ix ixd (pd_var (i := 4)) (pd_var (i := 5))) pd_int) (pad_cons (pd_ix ixd (pd_ix ixd (pd_var (i := 4)) (pd_var (i := 5))) pd_int) pad_nil)))))) (pgd_name (i := 8) nd) (pssd_one (psd_if (ptd_cmp (od_notInD (units65 hr)) (pd_var (i := 8)) (pd_var (i := 4))) (pssd_one (psd_expr (pd_bm PySem.F.plainAttrs_list PySem.F.slot_list_append PySem.F.type_list_append md_append (pd_var (i := 4)) (pad_cons (pd_var (i := 8)) pad_nil)))) pssd_nil)))
      (pssd_one (psd_set (i := 5) nd (pd_op (od_add mk_F) (pd_var (i := 5)) pd_int)))))
      (pssd_cons (psd_set (i := 6) nd (pd_tup (pad_cons (pd_ix ixd (pd_var (i := 2)) pd_int) (pad_cons (pd_callTy (cd_list mk_F) (by rfl) T.z_list (by decide +kernel) (pad_cons (pd_ix ixd (pd_var (i := 2)) pd_int) pad_nil)) pad_nil))))
      (pssd_cons (psd_set (i := 7) nd (pd_call (ok_standings T) (hr.mono (by decide)) T.g_standings T.F_standings.kp T.b_standings tk (pad_cons (pd_var (i := 6)) (pad_cons (pd_var (i := 3)) pad_nil))))
      (pssd_cons (psd_if (PWD.pt (pwd_or (ptd_not (ptd_truth (pd_callB cd_isi (by rfl) T.z_isinstance (by decide +kernel) (pad_cons (pd_var (i := 7)) (pad_cons (pd_ty T.z_list (by decide +kernel)) pad_nil))))) (pwd_or (ptd_cmp (od_ne hr.units) (pd_var (i := 7)) (pd_callB (cd_sortD mk_F (units65 hr)) (by rfl) T.z_sorted (by decide +kernel) (pad_cons (pd_var (i := 4)) pad_nil))) (pwd_or1 (ptd_cmp (od_ne hr.units) (pd_var (i := 6)) (pd_var (i := 2))))))) (pssd_one (psd_ret pd_bl)) pssd_nil)
      (pssd_cons (psd_expr (pd_bm0 PySem.F.plainAttrs_list PySem.F.slot_list_clear PySem.F.type_list_clear md_clear (pd_var (i := 7))))
      (pssd_one (psd_if (ptd_cmp (od_ne hr.units) (pd_call (ok_standings T) (hr.mono (by decide)) T.g_standings T.F_standings.kp T.b_standings tk (pad_cons (pd_var (i := 6)) (pad_cons (pd_var (i := 3)) pad_nil))) (pd_callB (cd_sortD mk_F (units65 hr)) (by rfl) T.z_sorted (by decide +kernel) (pad_cons (pd_var (i := 4)) pad_nil))) (pssd_one (psd_ret pd_bl)) pssd_nil))))))))))
      (pssd_one (psd_ret pd_bl)))))
end
section
theorem all_mk {P : Program} {w : World} {K : PySem.W.Frag} {h : Heap} {mg : Str → Option Value} {fa : Addr} (X : K.In h) (G : h.Ns mainGlobals mg) (hfa : mg "law" = some (.ref fa)) (ht : LawTrue F_law) {f0 f1 f2 f3 f4 f5 f6 f7 f8 f9 f10 f11 f12 f13 : Addr} {od0 an0 od1 an1 od2 an2 od3 an3 od4 an4 od5 an5 od6 an6 od7 an7 od8 an8 od9 an9 od10 an10 od11 an11 od12 an12 od13 an13 : Option Addr} {sl0 sl1 sl2 sl3 sl4 sl5 sl6 sl7 sl8 sl9 sl10 sl11 sl12 sl13 : Array (Option Value)} {oc0 kV0 dc0 pm0 cd0 ct0 oc1 kV1 dc1 pm1 cd1 ct1 oc2 kV2 dc2 pm2 cd2 ct2 oc3 kV3 dc3 pm3 cd3 ct3 oc4 kV4 dc4 pm4 cd4 ct4 oc5 kV5 dc5 pm5 cd5 ct5 oc6 kV6 dc6 pm6 cd6 ct6 oc7 kV7 dc7 pm7 cd7 ct7 oc8 kV8 dc8 pm8 cd8 ct8 oc9 kV9 dc9 pm9 cd9 ct9 oc10 kV10 dc10 pm10 cd10 ct10 oc11 kV11 dc11 pm11 cd11 ct11 oc12 kV12 dc12 pm12 cd12 ct12 oc13 kV13 dc13 pm13 cd13 ct13 : Value} {t_LONGEST t_MOST_PLACES t_MOST_ROADS t_SMALL : Tok}
    (a0 : PySem.W.nsIn K mainGlobals "is_road" = some (some (.ref f0))) (l0 : K.lookup f0 = some ⟨oc0, od0, .func (PySem.W.fnOf "is_road" "is_road" (defArgs s_is_road) (defBody s_is_road) (defScope s_is_road) .none kV0 dc0 pm0 an0 cd0 ct0), sl0⟩) (c0 : PySem.W.codeIn K cd0 "is_road" = true) (k0 : PySem.W.keepIn K (.ref f0) = true)
    (a1 : PySem.W.nsIn K mainGlobals "roads_from" = some (some (.ref f1))) (l1 : K.lookup f1 = some ⟨oc1, od1, .func (PySem.W.fnOf "roads_from" "roads_from" (defArgs s_roads_from) (defBody s_roads_from) (defScope s_roads_from) .none kV1 dc1 pm1 an1 cd1 ct1), sl1⟩) (c1 : PySem.W.codeIn K cd1 "roads_from" = true) (k1 : PySem.W.keepIn K (.ref f1) = true)
    (a2 : PySem.W.nsIn K mainGlobals "reached" = some (some (.ref f2))) (l2 : K.lookup f2 = some ⟨oc2, od2, .func (PySem.W.fnOf "reached" "reached" (defArgs s_reached) (defBody s_reached) (defScope s_reached) .none kV2 dc2 pm2 an2 cd2 ct2), sl2⟩) (c2 : PySem.W.codeIn K cd2 "reached" = true) (k2 : PySem.W.keepIn K (.ref f2) = true)
    (a3 : PySem.W.nsIn K mainGlobals "look_web" = some (some (.ref f3))) (l3 : K.lookup f3 = some ⟨oc3, od3, .func (PySem.W.fnOf "look_web" "look_web" (defArgs s_look_web) (defBody s_look_web) (defScope s_look_web) .none kV3 dc3 pm3 an3 cd3 ct3), sl3⟩) (c3 : PySem.W.codeIn K cd3 "look_web" = true) (k3 : PySem.W.keepIn K (.ref f3) = true)
    (a4 : PySem.W.nsIn K mainGlobals "must_be_small" = some (some (.ref f4))) (l4 : K.lookup f4 = some ⟨oc4, od4, .func (PySem.W.fnOf "must_be_small" "must_be_small" (defArgs s_must_be_small) (defBody s_must_be_small) (defScope s_must_be_small) .none kV4 dc4 pm4 an4 cd4 ct4), sl4⟩) (c4 : PySem.W.codeIn K cd4 "must_be_small" = true) (k4 : PySem.W.keepIn K (.ref f4) = true)
    (a5 : PySem.W.nsIn K mainGlobals "must_be_kind" = some (some (.ref f5))) (l5 : K.lookup f5 = some ⟨oc5, od5, .func (PySem.W.fnOf "must_be_kind" "must_be_kind" (defArgs s_must_be_kind) (defBody s_must_be_kind) (defScope s_must_be_kind) .none kV5 dc5 pm5 an5 cd5 ct5), sl5⟩) (c5 : PySem.W.codeIn K cd5 "must_be_kind" = true) (k5 : PySem.W.keepIn K (.ref f5) = true)
    (a6 : PySem.W.nsIn K mainGlobals "sets_come_to" = some (some (.ref f6))) (l6 : K.lookup f6 = some ⟨oc6, od6, .func (PySem.W.fnOf "sets_come_to" "sets_come_to" (defArgs s_sets_come_to) (defBody s_sets_come_to) (defScope s_sets_come_to) .none kV6 dc6 pm6 an6 cd6 ct6), sl6⟩) (c6 : PySem.W.codeIn K cd6 "sets_come_to" = true) (k6 : PySem.W.keepIn K (.ref f6) = true)
    (a7 : PySem.W.nsIn K mainGlobals "standings_of" = some (some (.ref f7))) (l7 : K.lookup f7 = some ⟨oc7, od7, .func (PySem.W.fnOf "standings_of" "standings_of" (defArgs s_standings_of) (defBody s_standings_of) (defScope s_standings_of) .none kV7 dc7 pm7 an7 cd7 ct7), sl7⟩) (c7 : PySem.W.codeIn K cd7 "standings_of" = true) (k7 : PySem.W.keepIn K (.ref f7) = true)
    (a8 : PySem.W.nsIn K mainGlobals "standings" = some (some (.ref f8))) (l8 : K.lookup f8 = some ⟨oc8, od8, .func (PySem.W.fnOf "standings" "standings" (defArgs s_standings) (defBody s_standings) (defScope s_standings) .none kV8 dc8 pm8 an8 cd8 ct8), sl8⟩) (c8 : PySem.W.codeIn K cd8 "standings" = true) (k8 : PySem.W.keepIn K (.ref f8) = true)
    (a9 : PySem.W.nsIn K mainGlobals "_law_draws" = some (some (.ref f9))) (l9 : K.lookup f9 = some ⟨oc9, od9, .func (PySem.W.fnOf "_law_draws" "_law_draws" (defArgs s__law_draws) (defBody s__law_draws) (defScope s__law_draws) .none kV9 dc9 pm9 an9 cd9 ct9), sl9⟩) (c9 : PySem.W.codeIn K cd9 "_law_draws" = true) (k9 : PySem.W.keepIn K (.ref f9) = true)
    (a10 : PySem.W.nsIn K mainGlobals "_law_web" = some (some (.ref f10))) (l10 : K.lookup f10 = some ⟨oc10, od10, .func (PySem.W.fnOf "_law_web" "_law_web" (defArgs s__law_web) (defBody s__law_web) (defScope s__law_web) .none kV10 dc10 pm10 an10 cd10 ct10), sl10⟩) (c10 : PySem.W.codeIn K cd10 "_law_web" = true) (k10 : PySem.W.keepIn K (.ref f10) = true)
    (a11 : PySem.W.nsIn K mainGlobals "_law_roads" = some (some (.ref f11))) (l11 : K.lookup f11 = some ⟨oc11, od11, .func (PySem.W.fnOf "_law_roads" "_law_roads" (defArgs s__law_roads) (defBody s__law_roads) (defScope s__law_roads) .none kV11 dc11 pm11 an11 cd11 ct11), sl11⟩) (c11 : PySem.W.codeIn K cd11 "_law_roads" = true) (k11 : PySem.W.keepIn K (.ref f11) = true)
    (a12 : PySem.W.nsIn K mainGlobals "_law_next" = some (some (.ref f12))) (l12 : K.lookup f12 = some ⟨oc12, od12, .func (PySem.W.fnOf "_law_next" "_law_next" (defArgs s__law_next) (defBody s__law_next) (defScope s__law_next) .none kV12 dc12 pm12 an12 cd12 ct12), sl12⟩) (c12 : PySem.W.codeIn K cd12 "_law_next" = true) (k12 : PySem.W.keepIn K (.ref f12) = true)
    (a13 : PySem.W.nsIn K mainGlobals "law" = some (some (.ref f13))) (l13 : K.lookup f13 = some ⟨oc13, od13, .func (PySem.W.fnOf "law" "law" (defArgs s_law) (defBody s_law) (defScope s_law) .none kV13 dc13 pm13 an13 cd13 ct13), sl13⟩) (c13 : PySem.W.codeIn K cd13 "law" = true) (k13 : PySem.W.keepIn K (.ref f13) = true)
    (z_min : PySem.W.nsIn K mainGlobals "min" = some none)
    (z_max : PySem.W.nsIn K mainGlobals "max" = some none)
    (z_sorted : PySem.W.nsIn K mainGlobals "sorted" = some none)
    (z_len : PySem.W.nsIn K mainGlobals "len" = some none)
    (z_enumerate : PySem.W.nsIn K mainGlobals "enumerate" = some none)
    (z_set : PySem.W.nsIn K mainGlobals "set" = some none)
    (z_tuple : PySem.W.nsIn K mainGlobals "tuple" = some none)
    (z_range : PySem.W.nsIn K mainGlobals "range" = some none)
    (z_int : PySem.W.nsIn K mainGlobals "int" = some none)
    (z_list : PySem.W.nsIn K mainGlobals "list" = some none)
    (z_isinstance : PySem.W.nsIn K mainGlobals "isinstance" = some none)
    (c_LONGEST : PySem.W.nsIn K mainGlobals "LONGEST" = some (some (.int 1000000 t_LONGEST)))
    (c_MOST_PLACES : PySem.W.nsIn K mainGlobals "MOST_PLACES" = some (some (.int 60 t_MOST_PLACES)))
    (c_MOST_ROADS : PySem.W.nsIn K mainGlobals "MOST_ROADS" = some (some (.int 120 t_MOST_ROADS)))
    (c_SMALL : PySem.W.nsIn K mainGlobals "SMALL" = some (some (.int 7 t_SMALL))) :
    ∃ fd : FuncData, (∀ (s : Shared) (v : Value), BindsTo s fd ⟨[v], []⟩ [("_law_script", v)]) ∧ ∀ base : Heap, K.In base → base.Ns mainGlobals mg → FnOk P w K mg base (L2.CX P w) 6 fa fd ["_law_script"] (spLaw K) := by
  have e := hfa.symm.trans (PySem.W.mg_of X G a13)
  cases e
  exact ⟨PySem.W.fnOf "law" "law" (defArgs s_law) (defBody s_law) (defScope s_law) .none kV13 dc13 pm13 an13 cd13 ct13, fun s v => .of_eq rfl, fun base _ _ => (ok_law (P := P) (w := w) (base := base) {
    a_is_road := f0, d_is_road := _, F_is_road := fun_mk l0 c0 k0, g_is_road := PySem.W.mg_of X G a0, b_is_road := (fun_mk (st := s_is_road) l0 c0 k0).binds (fun _ _ _ _ _ _ us hl => match us, hl with | [_, _], _ => rfl),
    a_roads_from := f1, d_roads_from := _, F_roads_from := fun_mk l1 c1 k1, g_roads_from := PySem.W.mg_of X G a1, b_roads_from := (fun_mk (st := s_roads_from) l1 c1 k1).binds (fun _ _ _ _ _ _ us hl => match us, hl with | [_, _], _ => rfl),
    a_reached := f2, d_reached := _, F_reached := fun_mk l2 c2 k2, g_reached := PySem.W.mg_of X G a2, b_reached := (fun_mk (st := s_reached) l2 c2 k2).binds (fun _ _ _ _ _ _ us hl => match us, hl with | [_], _ => rfl),
    a_look_web := f3, d_look_web := _, F_look_web := fun_mk l3 c3 k3, g_look_web := PySem.W.mg_of X G a3, b_look_web := (fun_mk (st := s_look_web) l3 c3 k3).binds (fun _ _ _ _ _ _ us hl => match us, hl with | [_], _ => rfl),
    a_must_be_small := f4, d_must_be_small := _, F_must_be_small := fun_mk l4 c4 k4, g_must_be_small := PySem.W.mg_of X G a4, b_must_be_small := (fun_mk (st := s_must_be_small) l4 c4 k4).binds (fun _ _ _ _ _ _ us hl => match us, hl with | [_], _ => rfl),
    a_must_be_kind := f5, d_must_be_kind := _, F_must_be_kind := fun_mk l5 c5 k5, g_must_be_kind := PySem.W.mg_of X G a5, b_must_be_kind := (fun_mk (st := s_must_be_kind) l5 c5 k5).binds (fun _ _ _ _ _ _ us hl => match us, hl with | [_], _ => rfl),
    a_sets_come_to := f6, d_sets_come_to := _, F_sets_come_to := fun_mk l6 c6 k6, g_sets_come_to := PySem.W.mg_of X G a6, b_sets_come_to := (fun_mk (st := s_sets_come_to) l6 c6 k6).binds (fun _ _ _ _ _ _ us hl => match us, hl with | [_], _ => rfl),
    a_standings_of := f7, d_standings_of := _, F_standings_of := fun_mk l7 c7 k7, g_standings_of := PySem.W.mg_of X G a7, b_standings_of := (fun_mk (st := s_standings_of) l7 c7 k7).binds (fun _ _ _ _ _ _ us hl => match us, hl with | [_, _], _ => rfl),
    a_standings := f8, d_standings := _, F_standings := fun_mk l8 c8 k8, g_standings := PySem.W.mg_of X G a8, b_standings := (fun_mk (st := s_standings) l8 c8 k8).binds (fun _ _ _ _ _ _ us hl => match us, hl with | [_, _], _ => rfl),
    a__law_draws := f9, d__law_draws := _, F__law_draws := fun_mk l9 c9 k9, g__law_draws := PySem.W.mg_of X G a9, b__law_draws := (fun_mk (st := s__law_draws) l9 c9 k9).binds (fun _ _ _ _ _ _ us hl => match us, hl with | [_, _], _ => rfl),
    a__law_web := f10, d__law_web := _, F__law_web := fun_mk l10 c10 k10, g__law_web := PySem.W.mg_of X G a10, b__law_web := (fun_mk (st := s__law_web) l10 c10 k10).binds (fun _ _ _ _ _ _ us hl => match us, hl with | [_, _, _], _ => rfl),
    a__law_roads := f11, d__law_roads := _, F__law_roads := fun_mk l11 c11 k11, g__law_roads := PySem.W.mg_of X G a11, b__law_roads := (fun_mk (st := s__law_roads) l11 c11 k11).binds (fun _ _ _ _ _ _ us hl => match us, hl with | [_, _], _ => rfl),
    a__law_next := f12, d__law_next := _, F__law_next := fun_mk l12 c12 k12, g__law_next := PySem.W.mg_of X G a12, b__law_next := (fun_mk (st := s__law_next) l12 c12 k12).binds (fun _ _ _ _ _ _ us hl => match us, hl with | [_, _, _, _], _ => rfl),
    a_law := fa, d_law := _, F_law := fun_mk l13 c13 k13, g_law := PySem.W.mg_of X G a13, b_law := (fun_mk (st := s_law) l13 c13 k13).binds (fun _ _ _ _ _ _ us hl => match us, hl with | [_], _ => rfl),
    z_min := PySem.W.mg_none_of X G z_min,
    z_max := PySem.W.mg_none_of X G z_max,
    z_sorted := PySem.W.mg_none_of X G z_sorted,
    z_len := PySem.W.mg_none_of X G z_len,
    z_enumerate := PySem.W.mg_none_of X G z_enumerate,
    z_set := PySem.W.mg_none_of X G z_set,
    z_tuple := PySem.W.mg_none_of X G z_tuple,
    z_range := PySem.W.mg_none_of X G z_range,
    z_int := PySem.W.mg_none_of X G z_int,
    z_list := PySem.W.mg_none_of X G z_list,
    z_isinstance := PySem.W.mg_none_of X G z_isinstance,
    t_LONGEST := t_LONGEST, c_LONGEST := PySem.W.mg_of X G c_LONGEST,
    t_MOST_PLACES := t_MOST_PLACES, c_MOST_PLACES := PySem.W.mg_of X G c_MOST_PLACES,
    t_MOST_ROADS := t_MOST_ROADS, c_MOST_ROADS := PySem.W.mg_of X G c_MOST_ROADS,
    t_SMALL := t_SMALL, c_SMALL := PySem.W.mg_of X G c_SMALL }).imp (law_imp ht)⟩
end
end Lw
open PySem PySem.W PyProof.Rows
set_option maxRecDepth 100000 in
set_option maxHeartbeats 0 in
theorem PySem.Challenge.cw_hideworth_k40_standings_holds : PySem.Challenge.rw_hideworth_k40_standings.Holds := by
  w_on; o_law; k_head; (case hw => w_witness2)
  k_fill
  refine L2.walk_ofB (l := PySem.Challenge.rw_hideworth_k40_standings) (n := 63) (k := 6) (x := "_law_script") (CX := fun w => L2.CX (PySem.Challenge.rw_hideworth_k40_standings).prog w) (sp := fun w => Dv.spLaw _) rfl (by decide) rfl ⟨rfl, by decide, by decide⟩ (fun w h Y => PySem.W.kIn_of Y) ?F (fun _ H a ns hl hb _ hS => Dv.law_sp _ H a ns hl hb hS) (fun _ _ _ _ _ h => Dv.cx_end h)
  case F =>
    intro w mg fa h KX G hmg
    refine' Lw.all_mk KX G hmg Lw.law_true ?a0 ?l0 ?c0 ?k0 ?a1 ?l1 ?c1 ?k1 ?a2 ?l2 ?c2 ?k2 ?a3 ?l3 ?c3 ?k3 ?a4 ?l4 ?c4 ?k4 ?a5 ?l5 ?c5 ?k5 ?a6 ?l6 ?c6 ?k6 ?a7 ?l7 ?c7 ?k7 ?a8 ?l8 ?c8 ?k8 ?a9 ?l9 ?c9 ?k9 ?a10 ?l10 ?c10 ?k10 ?a11 ?l11 ?c11 ?k11 ?a12 ?l12 ?c12 ?k12 ?a13 ?l13 ?c13 ?k13 ?z_min ?z_max ?z_sorted ?z_len ?z_enumerate ?z_set ?z_tuple ?z_range ?z_int ?z_list ?z_isinstance ?c_LONGEST ?c_MOST_PLACES ?c_MOST_ROADS ?c_SMALL
    (case a0 => k_is); (case l0 => k_is); (case c0 => k_is); (case k0 => k_is); (case a1 => k_is); (case l1 => k_is); (case c1 => k_is); (case k1 => k_is); (case a2 => k_is); (case l2 => k_is); (case c2 => k_is); (case k2 => k_is); (case a3 => k_is); (case l3 => k_is); (case c3 => k_is); (case k3 => k_is); (case a4 => k_is); (case l4 => k_is); (case c4 => k_is); (case k4 => k_is); (case a5 => k_is); (case l5 => k_is); (case c5 => k_is); (case k5 => k_is); (case a6 => k_is); (case l6 => k_is); (case c6 => k_is); (case k6 => k_is); (case a7 => k_is); (case l7 => k_is); (case c7 => k_is); (case k7 => k_is); (case a8 => k_is); (case l8 => k_is); (case c8 => k_is); (case k8 => k_is); (case a9 => k_is); (case l9 => k_is); (case c9 => k_is); (case k9 => k_is); (case a10 => k_is); (case l10 => k_is); (case c10 => k_is); (case k10 => k_is); (case a11 => k_is); (case l11 => k_is); (case c11 => k_is); (case k11 => k_is); (case a12 => k_is); (case l12 => k_is); (case c12 => k_is); (case k12 => k_is); (case a13 => k_is); (case l13 => k_is); (case c13 => k_is); (case k13 => k_is); (case z_min => k_is); (case z_max => k_is); (case z_sorted => k_is); (case z_len => k_is); (case z_enumerate => k_is); (case z_set => k_is); (case z_tuple => k_is); (case z_range => k_is); (case z_int => k_is); (case z_list => k_is); (case z_isinstance => k_is); (case c_LONGEST => k_is); (case c_MOST_PLACES => k_is); (case c_MOST_ROADS => k_is); (case c_SMALL => k_is)
