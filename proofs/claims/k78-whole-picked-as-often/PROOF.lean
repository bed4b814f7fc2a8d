import PyProof.Rows.All
import Wide.All
import OpenK.AllK
import Wide.FinOn
import HandS.ForMost
import HandS.Exc
import HandS.TryOnly
import HandS.ExcOwn
import HandS.WordsExc
import HandS.Wide
import HandS.IsInst
import HandS.EndBits
import HandS.NoneIn
import HandS.SetFor
import HandS.More
import KE.DataFind
import HandS.SortInts
import HandS.ExcIs
import HandS.ExcField
import HandS.ExcInit
import HandS.SetKeys
import PyProof.Rows.SetFrom
import PyProof.SetRoads
import KE.KExcIs
import HandS.Deep
import HandS.Dict
import HandS.Small
import HandS.More
import HandS.SortInts
import HandS.Conv
import HandS.Style
import PySem.Challenge.RW_hideworth_k78_whole_picked_as_often
set_option Elab.async false
set_option linter.all false
set_option maxRecDepth 100000
set_option maxHeartbeats 4000000
/-! # Dv: values and a store over the hand layer -/
namespace Dv
open PySem PySem.Spec PyProof.Rows L2

/-- plain data; a cell is an object that is still changed, by its number in the store -/
inductive D where
  | non | bl (b : Bool) | int (i : Int) | str (x : Str) | tup (l : List D) | lst (l : List D) | scr (l : List D) | cell (n : Nat) | raw (v : V)
  /-- a class of the program; a caught exception, with its one field -/
  | cls (c : Str) | exn (c : Str) (f : Option (Str × Int))

inductive Cn where
  | lst (l : List D)
  | dct (kvs : List (Key × D))
  | dead

abbrev Store := List Cn
abbrev Env := List (Option D)
structure Exn where
  cls : Str
  val : Option (Str × Int)

inductive Res (α : Type) where
  | ok (a : α) (S : Store)
  | exc (x : Exn) (S : Store)
  | bad

abbrev M (α : Type) := Store → Res α
def Res.bind {α β : Type} (x : Res α) (k : α → Store → Res β) : Res β := match x with
  | .ok a S => k a S
  | .exc e S => .exc e S
  | .bad => .bad
@[simp] theorem Res.bind_ok {α β : Type} (a : α) (S : Store) (k : α → Store → Res β) : (Res.ok a S).bind k = k a S := rfl
@[simp] theorem Res.bind_exc {α β : Type} (x : Exn) (S : Store) (k : α → Store → Res β) : (Res.exc x S : Res α).bind k = .exc x S := rfl
@[simp] theorem Res.bind_bad {α β : Type} (k : α → Store → Res β) : (Res.bad : Res α).bind k = .bad := rfl

/-! ### what stands for what -/
/-- a caught exception's object -/
def ExH (cls : Value) (d : Option Addr) (a : Addr) : HO := .ext fun h => ∃ (oe : Obj) (vs : Array Value), h.get? a = some oe ∧ Zc cls d oe ∧ oe.data = .fields vs
/-- the class of a name -/
def ClsAt (K : PySem.W.Frag) (c : Str) (C : Addr) : Prop := PySem.W.nsIn K mainGlobals c = some (some (.ref C))
theorem ClsAt.uniq {K : PySem.W.Frag} {c : Str} {C D : Addr} (h : ClsAt K c C) (g : ClsAt K c D) : C = D := by
  unfold ClsAt at h g
  rw [h] at g
  cases g
  rfl
/-- an exception's own dict -/
def FldOk (F : Hp) (d : Option Addr) : Option (Str × Int) → Prop
  | none => d = none
  | some (f, i) => ∃ b, d = some b ∧ F b = some (.xd [(f, .int i)])
theorem FldOk.mono {F F' : Hp} {d : Option Addr} (hF : Same F F') : ∀ {v : Option (Str × Int)}, FldOk F d v → FldOk F' d v
  | none, h => h
  | some (_, _), h => by
    obtain ⟨b, e, q⟩ := h
    exact ⟨b, e, hF _ _ q⟩
mutual
def Rp (K : PySem.W.Frag) (r : List Addr) (F : Hp) : D → V → Prop
  | .non, v => v = .non
  | .bl b, v => v = .bl b
  | .int i, v => v = .int i
  | .str x, v => v = .str x
  | .raw x, v => v = x
  | .cell n, v => ∃ a, r[n]? = some a ∧ v = .ref a
  | .tup l, v => ∃ a vs, v = .ref a ∧ Rd F a (.tup vs) ∧ Rps K r F l vs
  | .lst l, v => ∃ a vs, v = .ref a ∧ F a = some (.lst vs) ∧ Rps K r F l vs
  | .scr l, v => ∃ a vs, v = .ref a ∧ SqL K F a vs ∧ Rps K r F l vs
  | .cls c, v => ∃ C, ClsAt K c C ∧ v = .ref C
  | .exn c f, v => ∃ a C d, v = .ref a ∧ ClsAt K c C ∧ F a = some (ExH (.ref C) d a) ∧ FldOk F d f
def Rps (K : PySem.W.Frag) (r : List Addr) (F : Hp) : List D → List V → Prop
  | [], vs => vs = []
  | d :: l, vs => ∃ v t, vs = v :: t ∧ Rp K r F d v ∧ Rps K r F l t
end

theorem rd_same {H H' : Hp} {a : Addr} {u : HO} (e : Same H H') (h : Rd H a u) : Rd H' a u := by
  rcases h with h | ⟨o, h⟩
  · exact .inl (e _ _ h)
  · exact .inr ⟨o, e _ _ h⟩

section
variable {K : PySem.W.Frag} {r r' : List Addr} {F F' : Hp}
mutual
theorem Rp.mono (hr : ∃ t, r' = r ++ t) (hF : Same F F') : ∀ (d : D) (v : V), Rp K r F d v → Rp K r' F' d v
  | .non, _, h => by unfold Rp at h ⊢; exact h
  | .bl _, _, h => by unfold Rp at h ⊢; exact h
  | .int _, _, h => by unfold Rp at h ⊢; exact h
  | .str _, _, h => by unfold Rp at h ⊢; exact h
  | .raw _, _, h => by unfold Rp at h ⊢; exact h
  | .cell n, _, h => by
    unfold Rp at h ⊢
    obtain ⟨a, e, q⟩ := h
    obtain ⟨t, rfl⟩ := hr
    refine ⟨a, ?_, q⟩
    rw [List.getElem?_append_left (List.getElem?_eq_some_iff.mp e).1]
    exact e
  | .tup l, _, h => by
    unfold Rp at h ⊢
    obtain ⟨a, vs, e, q, p⟩ := h
    exact ⟨a, vs, e, rd_same hF q, Rps.mono hr hF l vs p⟩
  | .lst l, _, h => by
    unfold Rp at h ⊢
    obtain ⟨a, vs, e, q, p⟩ := h
    exact ⟨a, vs, e, hF _ _ q, Rps.mono hr hF l vs p⟩
  | .scr l, _, h => by
    unfold Rp at h ⊢
    obtain ⟨a, vs, e, q, p⟩ := h
    exact ⟨a, vs, e, hF.seq q, Rps.mono hr hF l vs p⟩
  | .cls _, _, h => by unfold Rp at h ⊢; exact h
  | .exn _ _, _, h => by
    unfold Rp at h ⊢
    obtain ⟨a, C, d, e, q, p, f⟩ := h
    exact ⟨a, C, d, e, q, hF _ _ p, f.mono hF⟩
theorem Rps.mono (hr : ∃ t, r' = r ++ t) (hF : Same F F') : ∀ (l : List D) (vs : List V), Rps K r F l vs → Rps K r' F' l vs
  | [], _, h => by unfold Rps at h ⊢; exact h
  | d :: l, vs, h => by
    unfold Rps at h ⊢
    obtain ⟨v, t, e, p, q⟩ := h
    exact ⟨v, t, e, Rp.mono hr hF d v p, Rps.mono hr hF l t q⟩
end
theorem rps_nil : Rps K r F [] [] := by unfold Rps; rfl
theorem rps_cons {d : D} {v : V} {l : List D} {vs : List V} (h : Rp K r F d v) (t : Rps K r F l vs) : Rps K r F (d :: l) (v :: vs) := by
  unfold Rps; exact ⟨v, vs, rfl, h, t⟩
theorem Rps.nil_inv {vs : List V} (h : Rps K r F [] vs) : vs = [] := by unfold Rps at h; exact h
theorem Rps.cons_inv {d : D} {l : List D} {vs : List V} (h : Rps K r F (d :: l) vs) : ∃ v t, vs = v :: t ∧ Rp K r F d v ∧ Rps K r F l t := by unfold Rps at h; exact h
theorem Rps.length : ∀ {l : List D} {vs : List V}, Rps K r F l vs → vs.length = l.length
  | [], vs, h => by rw [h.nil_inv]; rfl
  | d :: l, vs, h => by
    obtain ⟨v, t, e, _, q⟩ := h.cons_inv
    subst e
    simp [Rps.length q]
theorem Rps.get : ∀ {l : List D} {vs : List V} {i : Nat} {d : D}, Rps K r F l vs → l[i]? = some d → ∃ v, vs[i]? = some v ∧ Rp K r F d v
  | [], _, i, _, _, e => by simp at e
  | d :: l, vs, 0, d', h, e => by
    obtain ⟨v, t, e1, p, _⟩ := h.cons_inv
    subst e1
    simp at e
    subst e
    exact ⟨v, rfl, p⟩
  | d :: l, vs, i + 1, d', h, e => by
    obtain ⟨v, t, e1, _, q⟩ := h.cons_inv
    subst e1
    obtain ⟨v', e2, p⟩ := Rps.get (i := i) q (by simpa using e)
    exact ⟨v', by simpa using e2, p⟩
theorem Rps.append : ∀ {l m : List D} {vs ws : List V}, Rps K r F l vs → Rps K r F m ws → Rps K r F (l ++ m) (vs ++ ws)
  | [], m, vs, ws, h, q => by rw [h.nil_inv]; exact q
  | d :: l, m, vs, ws, h, q => by
    obtain ⟨v, t, e, p, q'⟩ := h.cons_inv
    subst e
    exact rps_cons p (Rps.append q' q)
theorem Rps.take : ∀ {l : List D} {vs : List V} (n : Nat), Rps K r F l vs → Rps K r F (l.take n) (vs.take n)
  | [], vs, n, h => by rw [h.nil_inv]; simp; exact rps_nil
  | d :: l, vs, 0, h => by simp; exact rps_nil
  | d :: l, vs, n + 1, h => by
    obtain ⟨v, t, e, p, q⟩ := h.cons_inv
    subst e
    exact rps_cons p (Rps.take n q)
theorem Rps.drop : ∀ {l : List D} {vs : List V} (n : Nat), Rps K r F l vs → Rps K r F (l.drop n) (vs.drop n)
  | l, vs, 0, h => by simpa using h
  | [], vs, n + 1, h => by rw [h.nil_inv]; simp; exact rps_nil
  | d :: l, vs, n + 1, h => by
    obtain ⟨v, t, e, p, q⟩ := h.cons_inv
    subst e
    exact Rps.drop n q
theorem Rps.set : ∀ {l : List D} {vs : List V} {d : D} {v : V} (n : Nat), Rps K r F l vs → Rp K r F d v → Rps K r F (l.set n d) (vs.set n v)
  | [], vs, d, v, n, h, p => by rw [h.nil_inv]; simp; exact rps_nil
  | d0 :: l, vs, d, v, 0, h, p => by
    obtain ⟨v', t, e, _, q⟩ := h.cons_inv
    subst e
    exact rps_cons p q
  | d0 :: l, vs, d, v, n + 1, h, p => by
    obtain ⟨v', t, e, p', q⟩ := h.cons_inv
    subst e
    exact rps_cons p' (Rps.set n q p)
theorem Rps.reverse {l : List D} {vs : List V} (h : Rps K r F l vs) : Rps K r F l.reverse vs.reverse := by
  induction l generalizing vs with
  | nil => rw [h.nil_inv]; exact rps_nil
  | cons d l ih =>
    obtain ⟨v, t, e, p, q⟩ := h.cons_inv
    subst e
    rw [List.reverse_cons, List.reverse_cons]
    exact (ih q).append (rps_cons p rps_nil)
theorem Rps.rep {l : List D} {vs : List V} (h : Rps K r F l vs) : ∀ k : Nat, Rps K r F (List.replicate k l).flatten (List.replicate k vs).flatten
  | 0 => rps_nil
  | k + 1 => by
    rw [List.replicate_succ, List.replicate_succ, List.flatten_cons, List.flatten_cons]
    exact h.append (Rps.rep h k)
theorem rps_ints : ∀ ns : List Int, Rps K r F (ns.map D.int) (ns.map V.int)
  | [] => rps_nil
  | n :: ns => rps_cons (by unfold Rp; rfl) (rps_ints ns)
theorem Rps.ints : ∀ {ns : List Int} {vs : List V}, Rps K r F (ns.map D.int) vs → vs = ns.map V.int
  | [], vs, h => h.nil_inv
  | n :: ns, vs, h => by
    obtain ⟨v, t, e, p, q⟩ := h.cons_inv
    subst e
    unfold Rp at p
    subst p
    rw [Rps.ints q]
    rfl
end

/-! ### worlds -/
structure Wl where
  r : List Addr
  F : Hp
  S : Store
  H : Hp

def alv (S : Store) (n : Nat) : Prop := ∃ c, S[n]? = some c ∧ c ≠ .dead
def RpK (K : PySem.W.Frag) (r : List Addr) (F : Hp) : List (Key × D) → List (Key × V) → Prop := Paired fun p q => p.1 = q.1 ∧ Rp K r F p.2 q.2
def CellOk (K : PySem.W.Frag) (r : List Addr) (F H : Hp) (a : Addr) : Cn → Prop
  | .dead => True
  | .lst l => F a = none ∧ ∃ vs, H a = some (.lst vs) ∧ Rps K r F l vs
  | .dct kvs => F a = none ∧ ∃ ws, H a = some (.dK ws) ∧ RpK K r F kvs ws

theorem RpK.mono {K : PySem.W.Frag} {r r' : List Addr} {F F' : Hp} (hr : ∃ t, r' = r ++ t) (hF : Same F F') {kvs : List (Key × D)} {ws : List (Key × V)} (h : RpK K r F kvs ws) : RpK K r' F' kvs ws :=
  Paired.mapP h fun p q z => ⟨z.1, Rp.mono hr hF _ _ z.2⟩

structure Wd (K : PySem.W.Frag) (w : Wl) : Prop where
  len : w.r.length = w.S.length
  same : Same w.F w.H
  cell : ∀ (n : Nat) a c, w.r[n]? = some a → w.S[n]? = some c → CellOk K w.r w.F w.H a c
  inj : ∀ (n m : Nat) a, w.r[n]? = some a → w.r[m]? = some a → alv w.S n → alv w.S m → n = m

structure Go (K : PySem.W.Frag) (w w' : Wl) : Prop where
  wd : Wd K w'
  pre : ∃ t, w'.r = w.r ++ t
  len : w.r.length = w.S.length
  live : ∀ (n : Nat), n < w.S.length → alv w'.S n → alv w.S n
  new : ∀ (n : Nat) a, w.S.length ≤ n → w'.r[n]? = some a → alv w'.S n → w.H a = none
  F : Same w.F w'.F
  fr : ∀ a o, w.H a = some o → (∀ (n : Nat), w.r[n]? = some a → ¬ alv w.S n) → w'.H a = some o
  trk : ∀ a, w'.H a = none → w.H a = none
  fnew : ∀ a, w.H a ≠ none → w.F a = none → (∀ (n : Nat), w.r[n]? = some a → ¬ alv w.S n) → w'.F a = none

section
variable {K : PySem.W.Frag} {w w1 w2 : Wl}
theorem Go.refl (h : Wd K w) : Go K w w where
  wd := h
  pre := ⟨[], by simp⟩
  len := h.len
  live := fun _ _ q => q
  new := fun n a hn e _ => by
    have := (List.getElem?_eq_some_iff.mp e).1
    have := h.len
    omega
  F := Same.refl _
  fr := fun _ _ e _ => e
  trk := fun _ e => e
  fnew := fun _ _ e _ => e
theorem Go.slen (g : Go K w w1) : w.S.length ≤ w1.S.length := by
  obtain ⟨t, e⟩ := g.pre
  have h1 := g.wd.len
  rw [e, List.length_append, g.len] at h1
  omega
theorem pre_get {r r' : List Addr} {n : Nat} {a : Addr} (h : ∃ t, r' = r ++ t) (e : r[n]? = some a) : r'[n]? = some a := by
  obtain ⟨t, rfl⟩ := h
  rw [List.getElem?_append_left (List.getElem?_eq_some_iff.mp e).1]
  exact e
theorem pre_back {r r' : List Addr} {n : Nat} {a : Addr} (h : ∃ t, r' = r ++ t) (hn : n < r.length) (e : r'[n]? = some a) : r[n]? = some a := by
  obtain ⟨t, rfl⟩ := h
  rw [List.getElem?_append_left hn] at e
  exact e
theorem Go.trans (g : Go K w w1) (h : Go K w1 w2) : Go K w w2 where
  wd := h.wd
  pre := by
    obtain ⟨t, e⟩ := g.pre
    obtain ⟨t', e'⟩ := h.pre
    exact ⟨t ++ t', by rw [e', e, List.append_assoc]⟩
  len := g.len
  live := fun n hn q => g.live n hn (h.live n (Nat.lt_of_lt_of_le hn g.slen) q)
  new := fun n a hn e q => by
    by_cases hl : n < w1.S.length
    · exact g.new n a hn (pre_back h.pre (by rw [g.wd.len]; exact hl) e) (h.live n hl q)
    · exact g.trk a (h.new n a (Nat.le_of_not_lt hl) e q)
  F := g.F.trans h.F
  fr := fun a o e q => by
    refine h.fr a o (g.fr a o e q) fun n hn hl => ?_
    by_cases hs : n < w.S.length
    · exact q n (pre_back g.pre (by rw [g.len]; exact hs) hn) (g.live n hs hl)
    · have := g.new n a (Nat.le_of_not_lt hs) hn hl
      rw [e] at this
      cases this
  trk := fun a e => g.trk a (h.trk a e)
  fnew := fun a e f q => h.fnew a (fun z => e (g.trk a z)) (g.fnew a e f q) fun n hn hl => by
    by_cases hs : n < w.S.length
    · exact q n (pre_back g.pre (by rw [g.len]; exact hs) hn) (g.live n hs hl)
    · exact e (g.new n a (Nat.le_of_not_lt hs) hn hl)
theorem Rp.go (g : Go K w w1) {d : D} {v : V} (h : Rp K w.r w.F d v) : Rp K w1.r w1.F d v := Rp.mono g.pre g.F d v h
theorem Rps.go (g : Go K w w1) {d : List D} {v : List V} (h : Rps K w.r w.F d v) : Rps K w1.r w1.F d v := Rps.mono g.pre g.F d v h

theorem Wd.fresh (h : Wd K w) {p : Addr} (n : w.H p = none) : w.F p = none := h.same.free n
theorem CellOk.mono {r r' : List Addr} {F F' H H' : Hp} {a : Addr} {c : Cn} (h : CellOk K r F H a c) (hr : ∃ t, r' = r ++ t) (hF : Same F F') (hn : c ≠ .dead → F a = none → F' a = none) (hH : c ≠ .dead → ∀ o, H a = some o → H' a = some o) : CellOk K r' F' H' a c := by
  cases c with
  | dead => exact trivial
  | lst l =>
    obtain ⟨n, vs, e, q⟩ := h
    exact ⟨hn (by simp) n, vs, hH (by simp) _ e, Rps.mono hr hF _ _ q⟩
  | dct kvs =>
    obtain ⟨n, vs, e, q⟩ := h
    exact ⟨hn (by simp) n, vs, hH (by simp) _ e, q.mono hr hF⟩
theorem CellOk.some {r : List Addr} {F H : Hp} {a : Addr} {c : Cn} (h : CellOk K r F H a c) (n : c ≠ .dead) : ∃ o, H a = some o := by
  cases c with
  | dead => exact (n rfl).elim
  | lst l => obtain ⟨_, vs, e, _⟩ := h; exact ⟨_, e⟩
  | dct l => obtain ⟨_, vs, e, _⟩ := h; exact ⟨_, e⟩
theorem CellOk.free {r : List Addr} {F H : Hp} {a : Addr} {c : Cn} (h : CellOk K r F H a c) (n : c ≠ .dead) : F a = none := by
  cases c with
  | dead => exact (n rfl).elim
  | lst l => exact h.1
  | dct l => exact h.1

/-- a new frozen object -/
theorem Go.alloc (h : Wd K w) {p : Addr} {o : HO} (n : w.H p = none) : Go K w ⟨w.r, upd w.F p o, w.S, upd w.H p o⟩ := by
  have sF : Same w.F (upd w.F p o) := fun b x e => by rw [upd_ne (ne_of_none e (h.fresh n))]; exact e
  have sH : Same w.H (upd w.H p o) := fun b x e => by rw [upd_ne (ne_of_none e n)]; exact e
  refine ⟨⟨h.len, fun b x e => ?_, fun k a c e1 e2 => ?_, h.inj⟩, ⟨[], by simp⟩, h.len, fun _ _ q => q, fun k a hk e _ => ?_, sF, fun a x e _ => sH a x e, fun a e => ?_, fun a e f _ => by
    show upd w.F p o a = none
    rw [upd_ne (fun z => e (by rw [z]; exact n))]
    exact f⟩
  · show upd w.H p o b = some x
    have e' : upd w.F p o b = some x := e
    by_cases hb : b = p
    · subst hb
      rw [upd_same] at e' ⊢
      exact e'
    · rw [upd_ne hb] at e' ⊢
      exact h.same _ _ e'
  · have q := h.cell k a c e1 e2
    refine q.mono ⟨[], by simp⟩ sF (fun hd z => ?_) (fun hd x z => sH _ _ z)
    obtain ⟨x, ex⟩ := q.some hd
    show upd w.F p o a = none
    rw [upd_ne (ne_of_none ex n)]
    exact z
  · have hk1 : k < w.r.length := (List.getElem?_eq_some_iff.mp e).1
    have hk2 : w.S.length ≤ k := hk
    have := h.len
    omega
  · show w.H a = none
    have e' : upd w.H p o a = none := e
    by_cases hb : a = p
    · subst hb
      rw [upd_same] at e'
      cases e'
    · rw [upd_ne hb] at e'
      exact e'
theorem alv_append_left {S : Store} {c : Cn} {n : Nat} (hn : n < S.length) (h : alv (S ++ [c]) n) : alv S n := by
  obtain ⟨x, e, q⟩ := h
  rw [List.getElem?_append_left hn] at e
  exact ⟨x, e, q⟩
/-- a new cell -/
theorem Go.newCell (h : Wd K w) {p : Addr} {o : HO} {c : Cn} (n : w.H p = none) (hc : CellOk K (w.r ++ [p]) w.F (upd w.H p o) p c) : Go K w ⟨w.r ++ [p], w.F, w.S ++ [c], upd w.H p o⟩ := by
  have sH : Same w.H (upd w.H p o) := fun b x e => by rw [upd_ne (ne_of_none e n)]; exact e
  have oldr : ∀ {k a}, (w.r ++ [p])[k]? = some a → k < w.S.length → w.r[k]? = some a := fun {k a} e hk => by
    rw [List.getElem?_append_left (by rw [h.len]; exact hk)] at e
    exact e
  have newr : ∀ {k a}, (w.r ++ [p])[k]? = some a → w.S.length ≤ k → k = w.S.length ∧ a = p := fun {k a} e hk => by
    have hl := (List.getElem?_eq_some_iff.mp e).1
    rw [List.length_append, List.length_singleton, h.len] at hl
    have ek : k = w.S.length := by omega
    subst ek
    rw [← h.len, List.getElem?_append_right (Nat.le_refl _), Nat.sub_self] at e
    exact ⟨rfl, (Option.some.inj e).symm⟩
  have addr_some : ∀ {k a}, w.r[k]? = some a → alv w.S k → ∃ x, w.H a = some x := fun {k a} e hl => by
    obtain ⟨c', e2, hd⟩ := hl
    exact (h.cell k a c' e e2).some hd
  refine ⟨⟨?_, h.same.trans sH, fun k a c' e1 e2 => ?_, fun k m a e1 e2 l1 l2 => ?_⟩, ⟨[p], rfl⟩, h.len, fun k hk q => alv_append_left hk q, fun k a hk e _ => ?_, Same.refl _, fun a x e _ => sH a x e, fun a e => ?_, fun _ _ f _ => f⟩
  · simp [h.len]
  · show CellOk K (w.r ++ [p]) w.F (upd w.H p o) a c'
    by_cases hk : k < w.S.length
    · have e2' : w.S[k]? = some c' := by
        have z : (w.S ++ [c])[k]? = some c' := e2
        rw [List.getElem?_append_left hk] at z
        exact z
      exact (h.cell k a c' (oldr e1 hk) e2').mono ⟨[p], rfl⟩ (Same.refl _) (fun _ z => z) (fun _ x z => sH _ _ z)
    · obtain ⟨ek, ea⟩ := newr e1 (Nat.le_of_not_lt hk)
      subst ea
      have z : (w.S ++ [c])[k]? = some c' := e2
      rw [ek, List.getElem?_append_right (Nat.le_refl _), Nat.sub_self] at z
      have : c = c' := Option.some.inj z
      subst this
      exact hc
  · have e1' : (w.r ++ [p])[k]? = some a := e1
    have e2' : (w.r ++ [p])[m]? = some a := e2
    by_cases hk : k < w.S.length
    · by_cases hm : m < w.S.length
      · exact h.inj k m a (oldr e1' hk) (oldr e2' hm) (alv_append_left hk l1) (alv_append_left hm l2)
      · obtain ⟨_, ea⟩ := newr e2' (Nat.le_of_not_lt hm)
        obtain ⟨x, ex⟩ := addr_some (oldr e1' hk) (alv_append_left hk l1)
        rw [ea, n] at ex
        cases ex
    · obtain ⟨ek, ea⟩ := newr e1' (Nat.le_of_not_lt hk)
      by_cases hm : m < w.S.length
      · obtain ⟨x, ex⟩ := addr_some (oldr e2' hm) (alv_append_left hm l2)
        rw [ea, n] at ex
        cases ex
      · obtain ⟨em, _⟩ := newr e2' (Nat.le_of_not_lt hm)
        omega
  · obtain ⟨_, ea⟩ := newr e hk
    rw [ea]
    exact n
  · show w.H a = none
    have e' : upd w.H p o a = none := e
    by_cases hb : a = p
    · subst hb
      rw [upd_same] at e'
      cases e'
    · rw [upd_ne hb] at e'
      exact e'
theorem get_set {S : Store} {n k : Nat} {c : Cn} : (S.set n c)[k]? = if k = n then (if n < S.length then some c else none) else S[k]? := by
  rw [List.getElem?_set]
  by_cases h : n = k
  · subst h; simp
  · rw [if_neg h, if_neg (Ne.symm h)]
theorem alv_set {S : Store} {n k : Nat} {c c0 : Cn} (e0 : S[n]? = some c0) (h0 : c0 ≠ .dead) (h : alv (S.set n c) k) : alv S k := by
  obtain ⟨x, e, q⟩ := h
  rw [get_set] at e
  by_cases hk : k = n
  · subst hk
    exact ⟨c0, e0, h0⟩
  · rw [if_neg hk] at e
    exact ⟨x, e, q⟩
/-- a cell is written -/
theorem Go.write (h : Wd K w) {n : Nat} {a : Addr} {c0 c : Cn} {o : HO} (e0 : w.S[n]? = some c0) (h0 : c0 ≠ .dead) (er : w.r[n]? = some a) (hc : CellOk K w.r w.F (upd w.H a o) a c) : Go K w ⟨w.r, w.F, w.S.set n c, upd w.H a o⟩ := by
  have fa : w.F a = none := (h.cell n a c0 er e0).free h0
  obtain ⟨x0, hx0⟩ := (h.cell n a c0 er e0).some h0
  have other : ∀ {k b}, w.r[k]? = some b → alv w.S k → k ≠ n → b ≠ a := fun {k b} e hl hk z => by
    subst z
    exact hk (h.inj k n b e er hl ⟨c0, e0, h0⟩)
  refine ⟨⟨by simp [h.len], fun b x e => ?_, fun k b c' e1 e2 => ?_, fun k m b e1 e2 l1 l2 => h.inj k m b e1 e2 (alv_set e0 h0 l1) (alv_set e0 h0 l2)⟩, ⟨[], by simp⟩, h.len, fun k hk q => alv_set e0 h0 q, fun k b hk e _ => ?_, Same.refl _, fun b x e q => ?_, fun b e => ?_, fun _ _ f _ => f⟩
  · show upd w.H a o b = some x
    rw [upd_ne (ne_of_none e fa)]
    exact h.same _ _ e
  · show CellOk K w.r w.F (upd w.H a o) b c'
    have e2' : (w.S.set n c)[k]? = some c' := e2
    rw [get_set] at e2'
    by_cases hk : k = n
    · subst hk
      rw [if_pos rfl, if_pos (List.getElem?_eq_some_iff.mp e0).1] at e2'
      have ec : c = c' := Option.some.inj e2'
      subst ec
      have eb : a = b := Option.some.inj (er.symm.trans e1)
      subst eb
      exact hc
    · rw [if_neg hk] at e2'
      refine (h.cell k b c' e1 e2').mono ⟨[], by simp⟩ (Same.refl _) (fun _ z => z) (fun hd x z => ?_)
      rw [upd_ne (other e1 ⟨c', e2', hd⟩ hk)]
      exact z
  · have hk1 : k < w.r.length := (List.getElem?_eq_some_iff.mp e).1
    have hk2 : w.S.length ≤ k := hk
    have := h.len
    omega
  · show upd w.H a o b = some x
    have : b ≠ a := fun z => by
      subst z
      exact q n er ⟨c0, e0, h0⟩
    rw [upd_ne this]
    exact e
  · show w.H b = none
    have e' : upd w.H a o b = none := e
    by_cases hb : b = a
    · subst hb
      rw [upd_same] at e'
      cases e'
    · rw [upd_ne hb] at e'
      exact e'
/-- a cell is frozen -/
theorem Go.freeze (h : Wd K w) {n : Nat} {a : Addr} {l : List D} {vs : List V} (e0 : w.S[n]? = some (.lst l)) (er : w.r[n]? = some a) (ha : w.H a = some (.lst vs)) : Go K w ⟨w.r, upd w.F a (.lst vs), w.S.set n .dead, w.H⟩ := by
  have h0 : Cn.lst l ≠ .dead := by simp
  have fa : w.F a = none := (h.cell n a _ er e0).free h0
  have sF : Same w.F (upd w.F a (.lst vs)) := fun b x e => by rw [upd_ne (ne_of_none e fa)]; exact e
  have other : ∀ {k b}, w.r[k]? = some b → alv w.S k → k ≠ n → b ≠ a := fun {k b} e hl hk z => by
    subst z
    exact hk (h.inj k n b e er hl ⟨_, e0, h0⟩)
  refine ⟨⟨by simp [h.len], fun b x e => ?_, fun k b c' e1 e2 => ?_, fun k m b e1 e2 l1 l2 => h.inj k m b e1 e2 (alv_set e0 h0 l1) (alv_set e0 h0 l2)⟩, ⟨[], by simp⟩, h.len, fun k hk q => alv_set e0 h0 q, fun k b hk e _ => ?_, sF, fun b x e q => e, fun b e => e, fun b e f q => by
    show upd w.F a (.lst vs) b = none
    rw [upd_ne (fun z => by
      subst z
      exact q n er ⟨_, e0, h0⟩)]
    exact f⟩
  · show w.H b = some x
    have e' : upd w.F a (.lst vs) b = some x := e
    by_cases hb : b = a
    · subst hb
      rw [upd_same] at e'
      rw [ha]
      exact e'
    · rw [upd_ne hb] at e'
      exact h.same _ _ e'
  · have e2' : (w.S.set n .dead)[k]? = some c' := e2
    rw [get_set] at e2'
    by_cases hk : k = n
    · subst hk
      rw [if_pos rfl, if_pos (List.getElem?_eq_some_iff.mp e0).1] at e2'
      have ec : Cn.dead = c' := Option.some.inj e2'
      subst ec
      exact trivial
    · rw [if_neg hk] at e2'
      refine (h.cell k b c' e1 e2').mono ⟨[], by simp⟩ sF (fun hd z => ?_) (fun hd x z => z)
      show upd w.F a (.lst vs) b = none
      rw [upd_ne (other e1 ⟨c', e2', hd⟩ hk)]
      exact z
  · have hk1 : k < w.r.length := (List.getElem?_eq_some_iff.mp e).1
    have hk2 : w.S.length ≤ k := hk
    have := h.len
    omega
end

section
variable {K : PySem.W.Frag} {w w1 w2 : Wl}
/-- an object that is not in the store yet: written, taken in -/
theorem Go.loose (g : Go K w w1) {p : Addr} {o : HO} (n : w.H p = none) (h1 : w1.H p ≠ none) (h2 : w1.F p = none) (h3 : ∀ (n : Nat), w1.r[n]? = some p → ¬ alv w1.S n) : Go K w ⟨w1.r, w1.F, w1.S, upd w1.H p o⟩ where
  wd := ⟨g.wd.len, fun b x e => by show upd w1.H p o b = some x; rw [upd_ne (ne_of_none e h2)]; exact g.wd.same _ _ e, fun k a c e1 e2 => (g.wd.cell k a c e1 e2).mono ⟨[], by simp⟩ (Same.refl _) (fun _ z => z) (fun hd x z => by
    show upd w1.H p o a = some x
    rw [upd_ne (fun q => h3 k (by rw [← q]; exact e1) ⟨c, e2, hd⟩)]
    exact z), g.wd.inj⟩
  pre := g.pre
  len := g.len
  live := g.live
  new := g.new
  F := g.F
  fr := fun a x e q => by
    show upd w1.H p o a = some x
    rw [upd_ne (ne_of_none e n)]
    exact g.fr a x e q
  trk := fun a e => by
    have e' : upd w1.H p o a = none := e
    by_cases hb : a = p
    · subst hb
      rw [upd_same] at e'
      cases e'
    · rw [upd_ne hb] at e'
      exact g.trk a e'
  fnew := g.fnew
theorem Go.adopt (g : Go K w w1) {p : Addr} {o : HO} (n : w.H p = none) (h1 : w1.H p = some o) (h2 : w1.F p = none) (h3 : ∀ (n : Nat), w1.r[n]? = some p → ¬ alv w1.S n) : Go K w ⟨w1.r, upd w1.F p o, w1.S, w1.H⟩ := by
  have sF : Same w1.F (upd w1.F p o) := fun b x e => by rw [upd_ne (ne_of_none e h2)]; exact e
  refine ⟨⟨g.wd.len, fun b x e => ?_, fun k a c e1 e2 => (g.wd.cell k a c e1 e2).mono ⟨[], by simp⟩ sF (fun hd z => ?_) (fun _ _ z => z), g.wd.inj⟩, g.pre, g.len, g.live, g.new, g.F.trans sF, g.fr, g.trk, fun a e f q => ?_⟩
  · show w1.H b = some x
    have e' : upd w1.F p o b = some x := e
    by_cases hb : b = p
    · subst hb
      rw [upd_same] at e'
      rw [h1]
      exact e'
    · rw [upd_ne hb] at e'
      exact g.wd.same _ _ e'
  · show upd w1.F p o a = none
    rw [upd_ne (fun q => h3 k (by rw [← q]; exact e1) ⟨c, e2, hd⟩)]
    exact z
  · show upd w1.F p o a = none
    rw [upd_ne (fun q => e (by rw [q]; exact n))]
    exact g.fnew a e f q
theorem Go.adoptCell (g : Go K w w1) {p : Addr} {o : HO} {c : Cn} (n : w.H p = none) (h1 : w1.H p = some o) (h2 : w1.F p = none) (h3 : ∀ (n : Nat), w1.r[n]? = some p → ¬ alv w1.S n) (hc : CellOk K (w1.r ++ [p]) w1.F w1.H p c) :
    Go K w ⟨w1.r ++ [p], w1.F, w1.S ++ [c], w1.H⟩ := by
  have oldr : ∀ {k a}, (w1.r ++ [p])[k]? = some a → k < w1.S.length → w1.r[k]? = some a := fun {k a} e hk => by
    rw [List.getElem?_append_left (by rw [g.wd.len]; exact hk)] at e
    exact e
  have newr : ∀ {k a}, (w1.r ++ [p])[k]? = some a → w1.S.length ≤ k → k = w1.S.length ∧ a = p := fun {k a} e hk => by
    have hl := (List.getElem?_eq_some_iff.mp e).1
    rw [List.length_append, List.length_singleton, g.wd.len] at hl
    have ek : k = w1.S.length := by omega
    subst ek
    rw [← g.wd.len, List.getElem?_append_right (Nat.le_refl _), Nat.sub_self] at e
    exact ⟨rfl, (Option.some.inj e).symm⟩
  have hlen := g.slen
  obtain ⟨t, et⟩ := g.pre
  refine ⟨⟨by simp [g.wd.len], g.wd.same, fun k a c' e1 e2 => ?_, fun k m a e1 e2 l1 l2 => ?_⟩, ⟨t ++ [p], by show w1.r ++ [p] = _; rw [et, List.append_assoc]⟩, g.len, fun k hk q => g.live k hk (alv_append_left (Nat.lt_of_lt_of_le hk hlen) q), fun k a hk e q => ?_, g.F, g.fr, g.trk, g.fnew⟩
  · show CellOk K (w1.r ++ [p]) w1.F w1.H a c'
    by_cases hk : k < w1.S.length
    · have e2' : w1.S[k]? = some c' := by
        have z : (w1.S ++ [c])[k]? = some c' := e2
        rw [List.getElem?_append_left hk] at z
        exact z
      exact (g.wd.cell k a c' (oldr e1 hk) e2').mono ⟨[p], rfl⟩ (Same.refl _) (fun _ z => z) (fun _ x z => z)
    · obtain ⟨ek, ea⟩ := newr e1 (Nat.le_of_not_lt hk)
      subst ea
      have z : (w1.S ++ [c])[k]? = some c' := e2
      rw [ek, List.getElem?_append_right (Nat.le_refl _), Nat.sub_self] at z
      have : c = c' := Option.some.inj z
      subst this
      exact hc
  · have e1' : (w1.r ++ [p])[k]? = some a := e1
    have e2' : (w1.r ++ [p])[m]? = some a := e2
    by_cases hk : k < w1.S.length
    · by_cases hm : m < w1.S.length
      · exact g.wd.inj k m a (oldr e1' hk) (oldr e2' hm) (alv_append_left hk l1) (alv_append_left hm l2)
      · obtain ⟨_, ea⟩ := newr e2' (Nat.le_of_not_lt hm)
        exact (h3 k (by rw [← ea]; exact oldr e1' hk) (alv_append_left hk l1)).elim
    · obtain ⟨ek, ea⟩ := newr e1' (Nat.le_of_not_lt hk)
      by_cases hm : m < w1.S.length
      · exact (h3 m (by rw [← ea]; exact oldr e2' hm) (alv_append_left hm l2)).elim
      · obtain ⟨em, _⟩ := newr e2' (Nat.le_of_not_lt hm)
        omega
  · by_cases hm : k < w1.S.length
    · exact g.new k a hk (oldr e hm) (alv_append_left hm q)
    · obtain ⟨_, ea⟩ := newr e (Nat.le_of_not_lt hm)
      rw [ea]
      exact n
/-- the cells that came behind n are forgotten -/
theorem take_get {α : Type} {l : List α} {n k : Nat} {x : α} (h : (l.take n)[k]? = some x) : l[k]? = some x ∧ k < n := by
  rw [List.getElem?_take] at h
  by_cases hk : k < n
  · rw [if_pos hk] at h
    exact ⟨h, hk⟩
  · rw [if_neg hk] at h
    cases h
theorem alv_take {S : Store} {n k : Nat} (h : alv (S.take n) k) : alv S k := by
  obtain ⟨c, e, q⟩ := h
  exact ⟨c, (take_get e).1, q⟩
end
/-! no cell from n on is told of -/
mutual
def D.under (n : Nat) : D → Bool
  | .cell k => decide (k < n)
  | .tup l => D.underL n l
  | .lst l => D.underL n l
  | .scr l => D.underL n l
  | _ => true
def D.underL (n : Nat) : List D → Bool
  | [] => true
  | d :: l => D.under n d && D.underL n l
end
section
variable {K : PySem.W.Frag} {r : List Addr} {F : Hp}
mutual
theorem Rp.cut {n : Nat} : ∀ (d : D) (v : V), D.under n d = true → Rp K r F d v → Rp K (r.take n) F d v
  | .non, _, _, h => by unfold Rp at h ⊢; exact h
  | .bl _, _, _, h => by unfold Rp at h ⊢; exact h
  | .int _, _, _, h => by unfold Rp at h ⊢; exact h
  | .str _, _, _, h => by unfold Rp at h ⊢; exact h
  | .raw _, _, _, h => by unfold Rp at h ⊢; exact h
  | .cell k, _, u, h => by
    unfold Rp at h ⊢
    unfold D.under at u
    obtain ⟨a, e, q⟩ := h
    refine ⟨a, ?_, q⟩
    rw [List.getElem?_take, if_pos (of_decide_eq_true u)]
    exact e
  | .tup l, _, u, h => by
    unfold Rp at h ⊢
    unfold D.under at u
    obtain ⟨a, vs, e, q, p⟩ := h
    exact ⟨a, vs, e, q, Rps.cut l vs u p⟩
  | .lst l, _, u, h => by
    unfold Rp at h ⊢
    unfold D.under at u
    obtain ⟨a, vs, e, q, p⟩ := h
    exact ⟨a, vs, e, q, Rps.cut l vs u p⟩
  | .scr l, _, u, h => by
    unfold Rp at h ⊢
    unfold D.under at u
    obtain ⟨a, vs, e, q, p⟩ := h
    exact ⟨a, vs, e, q, Rps.cut l vs u p⟩
  | .cls _, _, _, h => by unfold Rp at h ⊢; exact h
  | .exn _ _, _, _, h => by unfold Rp at h ⊢; exact h
theorem Rps.cut {n : Nat} : ∀ (l : List D) (vs : List V), D.underL n l = true → Rps K r F l vs → Rps K (r.take n) F l vs
  | [], _, _, h => by unfold Rps at h ⊢; exact h
  | d :: l, vs, u, h => by
    unfold Rps at h ⊢
    unfold D.underL at u
    rw [Bool.and_eq_true] at u
    obtain ⟨v, t, e, p, q⟩ := h
    exact ⟨v, t, e, Rp.cut d v u.1 p, Rps.cut l t u.2 q⟩
end
end
def Cn.under (n : Nat) : Cn → Bool
  | .dead => true
  | .lst l => D.underL n l
  | .dct kvs => kvs.all fun p => D.under n p.2
theorem RpK.cut {K : PySem.W.Frag} {r : List Addr} {F : Hp} {n : Nat} : ∀ {kvs : List (Key × D)} {ws : List (Key × V)}, (kvs.all fun p => D.under n p.2) = true → RpK K r F kvs ws → RpK K (r.take n) F kvs ws
  | [], _, _, .nil => .nil
  | p :: kvs, _, u, .cons h t => by
    rw [List.all_cons, Bool.and_eq_true] at u
    exact .cons ⟨h.1, Rp.cut _ _ u.1 h.2⟩ (RpK.cut u.2 t)
theorem CellOk.cut {K : PySem.W.Frag} {r : List Addr} {F H : Hp} {a : Addr} {n : Nat} {c : Cn} (u : c.under n = true) (h : CellOk K r F H a c) : CellOk K (r.take n) F H a c := by
  cases c with
  | dead => exact trivial
  | lst l =>
    obtain ⟨f, vs, e, q⟩ := h
    exact ⟨f, vs, e, Rps.cut _ _ u q⟩
  | dct kvs =>
    obtain ⟨f, vs, e, q⟩ := h
    exact ⟨f, vs, e, RpK.cut u q⟩
/-- a def's end: the cells that it made are forgotten -/
theorem Go.cut {K : PySem.W.Frag} {w w1 : Wl} (g : Go K w w1) (u : ((w1.S.take w.S.length).all fun c => c.under w.S.length) = true) : Go K w ⟨w1.r.take w.S.length, w1.F, w1.S.take w.S.length, w1.H⟩ := by
  have hl := g.slen
  have hr := g.wd.len
  obtain ⟨t, et⟩ := g.pre
  refine ⟨⟨by simp [hr], g.wd.same, fun k a c e1 e2 => ?_, fun k m a e1 e2 l1 l2 => g.wd.inj k m a (take_get e1).1 (take_get e2).1 (alv_take l1) (alv_take l2)⟩, ⟨[], ?_⟩, g.len, fun k hk q => g.live k hk (alv_take q), fun k a hk e q => ?_, g.F, g.fr, g.trk, g.fnew⟩
  · have hm : c ∈ w1.S.take w.S.length := List.mem_of_getElem? e2
    exact (g.wd.cell k a c (take_get e1).1 (take_get e2).1).cut (List.all_eq_true.mp u c hm)
  · show w1.r.take w.S.length = w.r ++ []
    rw [et, ← g.len, List.take_left, List.append_nil]
  · have := (take_get e).2
    have hk' : w.S.length ≤ k := hk
    omega

/-! ### what an end is to show -/
def ExcOk (K : PySem.W.Frag) (mg : Str → Option Value) (w : Wl) (x : Exn) (cls : Value) (dd : Option Addr) : Prop :=
  ∃ C, ClsAt K x.cls C ∧ cls = .ref C ∧ FldOk w.F dd x.val
/-- what the written part tells -/
structure Kt where
  K : PySem.W.Frag
  mg : Str → Option Value
abbrev kt (X : Cx) : Kt := ⟨X.K, X.mg⟩
def SatW {α β : Type} (T : Kt) (W : WX) (σ : L2.St) (R : Wl → α → β → Prop) (w : Wl) (res : Res α) (P : Wl → α → β → Prop) : Prop := match res with
  | .ok d S' => ∀ w' v, Go T.K w w' → w'.S = S' → R w' d v → P w' d v
  | .exc x S' => ∀ w' cls dd, Go T.K w w' → w'.S = S' → ExcOk T.K T.mg w' x cls dd → W cls dd σ w'.H
  | .bad => False
section
variable {α β γ δ : Type} {T : Kt} {W : WX} {σ : L2.St} {R : Wl → α → β → Prop} {R' : Wl → γ → δ → Prop} {w w1 : Wl}
theorem SatW.pre {res : Res α} {P : Wl → α → β → Prop} (h : SatW T W σ R w res P) (g : Go T.K w w1) : SatW T W σ R w1 res P := by
  cases res with
  | ok d S => exact fun w' v g' e q => h w' v (g.trans g') e q
  | exc x S => exact fun w' cls dd g' e q => h w' cls dd (g.trans g') e q
  | bad => exact h
theorem SatW.bind {x : Res α} {k : α → Store → Res γ} {P : Wl → γ → δ → Prop} (h : SatW T W σ R' w (x.bind k) P) : SatW T W σ R w x (fun w1 d _ => SatW T W σ R' w1 (k d w1.S) P) := by
  cases x with
  | ok d S => exact fun w' v g e q => by subst e; exact SatW.pre (res := k d w'.S) h g
  | exc x S => exact h
  | bad => exact h
theorem SatW.imp {res : Res α} {P P' : Wl → α → β → Prop} (h : SatW T W σ R w res P) (hP : ∀ w' d v, Go T.K w w' → R w' d v → P w' d v → P' w' d v) : SatW T W σ R w res P' := by
  cases res with
  | ok d S => exact fun w' v g e q => hP w' d v g q (h w' v g e q)
  | exc x S => exact h
  | bad => exact h
theorem SatW.here {d : α} {v : β} {P : Wl → α → β → Prop} (h : SatW T W σ R w (.ok d w.S) P) (hw : Wd T.K w) (q : R w d v) : P w d v := h w v (Go.refl hw) rfl q
end

def EnvOk (K : PySem.W.Frag) (w : Wl) (env : Env) (σ : L2.St) : Prop := env.length = σ.length ∧ ∀ (i : Nat) d, env[i]? = some (some d) → ∃ v, σ[i]? = some (some v) ∧ Rp K w.r w.F d v
theorem EnvOk.go {K : PySem.W.Frag} {w w1 : Wl} {env : Env} {σ : L2.St} (h : EnvOk K w env σ) (g : Go K w w1) : EnvOk K w1 env σ :=
  ⟨h.1, fun i d e => let ⟨v, e2, q⟩ := h.2 i d e; ⟨v, e2, q.go g⟩⟩
theorem EnvOk.set {K : PySem.W.Frag} {w : Wl} {env : Env} {σ : L2.St} (h : EnvOk K w env σ) {i : Nat} {d : D} {v : V} (q : Rp K w.r w.F d v) : EnvOk K w (env.set i (some d)) (σ.set i (some v)) := by
  refine ⟨by simp [h.1], fun j d' e => ?_⟩
  rw [List.getElem?_set] at e
  by_cases hj : i = j
  · subst hj
    rw [if_pos rfl] at e
    by_cases hl : i < env.length
    · rw [if_pos hl] at e
      have ed : d = d' := by injection (Option.some.inj e)
      subst ed
      exact ⟨v, by rw [List.getElem?_set_self (by rw [← h.1]; exact hl)], q⟩
    · rw [if_neg hl] at e
      cases e
  · rw [if_neg hj] at e
    obtain ⟨v', e2, q'⟩ := h.2 j d' e
    exact ⟨v', by rw [List.getElem?_set_ne hj]; exact e2, q'⟩
theorem EnvOk.unset {K : PySem.W.Frag} {w : Wl} {env : Env} {σ : L2.St} (h : EnvOk K w env σ) {i : Nat} : EnvOk K w (env.set i none) (σ.set i none) := by
  refine ⟨by simp [h.1], fun j d' e => ?_⟩
  rw [List.getElem?_set] at e
  by_cases hj : i = j
  · subst hj
    rw [if_pos rfl] at e
    by_cases hl : i < env.length
    · rw [if_pos hl] at e
      cases Option.some.inj e
    · rw [if_neg hl] at e
      cases e
  · rw [if_neg hj] at e
    obtain ⟨v', e2, q'⟩ := h.2 j d' e
    exact ⟨v', by rw [List.getElem?_set_ne hj]; exact e2, q'⟩

abbrev RD (K : PySem.W.Frag) : Wl → D → V → Prop := fun w d v => Rp K w.r w.F d v
abbrev RDs (K : PySem.W.Frag) : Wl → List D → List V → Prop := fun w d v => Rps K w.r w.F d v
abbrev RB : Wl → Bool → Bool → Prop := fun _ a b => a = b

/-- the readings -/
def tD (T : Kt) (W : WX) (f : Env → M D) : TE := fun σ H Q => ∃ (w : Wl) (env : Env), w.H = H ∧ Wd T.K w ∧ EnvOk T.K w env σ ∧ SatW T W σ (RD T.K) w (f env w.S) (fun w' _ v => Q v w'.H)
def tDB (T : Kt) (W : WX) (f : Env → M Bool) : TT := fun σ H Q => ∃ (w : Wl) (env : Env), w.H = H ∧ Wd T.K w ∧ EnvOk T.K w env σ ∧ SatW T W σ RB w (f env w.S) (fun w' _ v => Q v w'.H)
def tDA (T : Kt) (W : WX) (f : Env → M (List D)) : TA := fun σ H Q => ∃ (w : Wl) (env : Env), w.H = H ∧ Wd T.K w ∧ EnvOk T.K w env σ ∧ SatW T W σ (RDs T.K) w (f env w.S) (fun w' _ v => Q v w'.H)
def PD (X : Cx) (W : WX) (e : Expr) (f : Env → M D) : Prop := PE X e (tD (kt X) W f)
def PTD (X : Cx) (W : WX) (e : Expr) (f : Env → M Bool) : Prop := PT X e (tDB (kt X) W f)
def PWD (X : Cx) (W : WX) (e : Expr) (f : Env → M Bool) : Prop := PW X e (tDB (kt X) W f)
def PAD (X : Cx) (W : WX) (es : List Expr) (f : Env → M (List D)) : Prop := PA X es (tDA (kt X) W f)
theorem weakE {X : Cx} {e : Expr} {t t' : TE} (h : PE X e t) (q : ∀ σ H Q, t' σ H Q → t σ H Q) : PE X e t' := ⟨fun pins s σ H Q I z => h.run pins s σ H Q I (q _ _ _ z)⟩
theorem weakT {X : Cx} {e : Expr} {t t' : TT} (h : PT X e t) (q : ∀ σ H Q, t' σ H Q → t σ H Q) : PT X e t' := ⟨fun pins s σ H Q I z => h.run pins s σ H Q I (q _ _ _ z)⟩
theorem weakW {X : Cx} {e : Expr} {t t' : TT} (h : PW X e t) (q : ∀ σ H Q, t' σ H Q → t σ H Q) : PW X e t' := ⟨fun wh pins s σ H Q I z => h.run wh pins s σ H Q I (q _ _ _ z)⟩
theorem weakA {X : Cx} {e : List Expr} {t t' : TA} (h : PA X e t) (q : ∀ σ H Q, t' σ H Q → t σ H Q) : PA X e t' := ⟨fun pos pins s σ H Q I z => h.run pos pins s σ H Q I (q _ _ _ z)⟩
theorem weakS {X : Cx} {e : Stmt} {t t' : TS} (h : PS X e t) (q : ∀ D σ H, t' D σ H → t D σ H) : PS X e t' := ⟨fun pins s σ H D I z => h.run pins s σ H D I (q _ _ _ z)⟩
theorem weakSs {X : Cx} {e : List Stmt} {t t' : TS} (h : PSs X e t) (q : ∀ D σ H, t' D σ H → t D σ H) : PSs X e t' := ⟨fun pins s σ H D I z => h.run pins s σ H D I (q _ _ _ z)⟩
end Dv
/-! # Dv2: expressions -/
namespace Dv
open PySem PySem.Spec PyProof.Rows L2

/-! ### reading a list -/
def getL (d : D) (S : Store) : Option (List D) := match d with
  | .lst l => some l
  | .cell n => match S[n]? with
    | some (.lst l) => some l
    | _ => none
  | _ => none
def getT : D → Option (List D)
  | .tup l => some l
  | _ => none
section
variable {K : PySem.W.Frag} {w : Wl} {d : D} {v : V} {l : List D}
theorem getL_cell {n : Nat} (h : getL (.cell n) w.S = some l) : w.S[n]? = some (.lst l) := by
  simp only [getL] at h
  split at h
  · rename_i l' e
    rw [e, Option.some.inj h]
  · cases h
theorem getL_ok (hw : Wd K w) (hr : Rp K w.r w.F d v) (h : getL d w.S = some l) : ∃ a vs, v = .ref a ∧ w.H a = some (.lst vs) ∧ Rps K w.r w.F l vs := by
  cases d with
  | lst l' =>
    have e : l' = l := Option.some.inj h
    subst e
    unfold Rp at hr
    obtain ⟨a, vs, e, q, p⟩ := hr
    exact ⟨a, vs, e, hw.same _ _ q, p⟩
  | cell n =>
    have hs := getL_cell h
    unfold Rp at hr
    obtain ⟨a, e, q⟩ := hr
    obtain ⟨_, vs, e2, p⟩ := hw.cell n a _ e hs
    exact ⟨a, vs, q, e2, p⟩
  | non => cases h
  | bl _ => cases h
  | int _ => cases h
  | str _ => cases h
  | tup _ => cases h
  | scr _ => cases h
  | raw _ => cases h
  | cls _ => cases h
  | exn _ _ => cases h
/-- a list that is read alone -/
def getQ (d : D) (S : Store) : Option (List D) := match d with
  | .scr l => some l
  | d => getL d S
@[simp] theorem getQ_lst {l : List D} {S : Store} : getQ (.lst l) S = some l := rfl
@[simp] theorem getQ_scr {l : List D} {S : Store} : getQ (.scr l) S = some l := rfl
@[simp] theorem getQ_cell {n : Nat} {S : Store} : getQ (.cell n) S = getL (.cell n) S := rfl
@[simp] theorem getL_lst {l : List D} {S : Store} : getL (.lst l) S = some l := rfl
theorem getQ_ok (hw : Wd K w) (hr : Rp K w.r w.F d v) (h : getQ d w.S = some l) : ∃ a vs, v = .ref a ∧ SqL K w.H a vs ∧ Rps K w.r w.F l vs := by
  have gen : getL d w.S = some l → ∃ a vs, v = .ref a ∧ SqL K w.H a vs ∧ Rps K w.r w.F l vs := fun h => by
    obtain ⟨a, vs, e, q, p⟩ := getL_ok hw hr h
    exact ⟨a, vs, e, .inl (.inl q), p⟩
  cases d with
  | scr l' =>
    have e : l' = l := Option.some.inj h
    subst e
    unfold Rp at hr
    obtain ⟨a, vs, e, q, p⟩ := hr
    exact ⟨a, vs, e, hw.same.seq q, p⟩
  | _ => exact gen h
theorem getT_ok (hw : Wd K w) (hr : Rp K w.r w.F d v) (h : getT d = some l) : ∃ a vs, v = .ref a ∧ Rd w.H a (.tup vs) ∧ Rps K w.r w.F l vs := by
  cases d with
  | tup l' =>
    have e : l' = l := Option.some.inj h
    subst e
    unfold Rp at hr
    obtain ⟨a, vs, e, q, p⟩ := hr
    exact ⟨a, vs, e, rd_same hw.same q, p⟩
  | _ => cases h
end

/-! ### what makes a list: a frozen one, or a cell -/
def mkF : List D → M D := fun l S => .ok (.lst l) S
def mkC : List D → M D := fun l S => .ok (.cell S.length) (S ++ [.lst l])
structure Mk (mk : List D → M D) : Prop where
  adopt : ∀ {T : Kt} {W : WX} {σ : L2.St} {w w1 : Wl} {l : List D} {vs : List V} {p : Addr} {P : Wl → D → V → Prop}, Go T.K w w1 → w.H p = none → w1.H p = some (.lst vs) → w1.F p = none → (∀ (n : Nat), w1.r[n]? = some p → ¬ alv w1.S n) → Rps T.K w1.r w1.F l vs →
    SatW T W σ (RD T.K) w (mk l w1.S) P → ∃ w' d, w'.H = w1.H ∧ P w' d (.ref p)
  ok : ∀ {X : Kt} {W : WX} {σ : L2.St} {w : Wl} {l : List D} {vs : List V} {p : Addr} {P : Wl → D → V → Prop}, Wd X.K w → w.H p = none → Rps X.K w.r w.F l vs → SatW X W σ (RD X.K) w (mk l w.S) P →
    ∃ w' d, w'.H = upd w.H p (.lst vs) ∧ P w' d (.ref p)
theorem mk_F : Mk mkF where
  adopt := fun {T W σ w w1 l vs p P} g hn h1 h2 h3 hr h => ⟨⟨w1.r, upd w1.F p (.lst vs), w1.S, w1.H⟩, _, rfl, h ⟨w1.r, upd w1.F p (.lst vs), w1.S, w1.H⟩ (.ref p) (Go.adopt g hn h1 h2 h3) rfl (by
    unfold RD Rp
    exact ⟨p, vs, rfl, upd_same, Rps.mono ⟨[], by simp⟩ (fun b x e => by show upd w1.F p _ b = _; rw [upd_ne (ne_of_none e h2)]; exact e) _ _ hr⟩)⟩
  ok := fun {X W σ w l vs p P} hw hn hr h => ⟨_, _, rfl, h ⟨w.r, upd w.F p (.lst vs), w.S, upd w.H p (.lst vs)⟩ (.ref p) (Go.alloc hw hn) rfl (by
    unfold RD Rp
    exact ⟨p, vs, rfl, upd_same, Rps.mono ⟨[], by simp⟩ (fun b x e => by show upd w.F p _ b = _; rw [upd_ne (ne_of_none e (hw.fresh hn))]; exact e) _ _ hr⟩)⟩
theorem mk_C : Mk mkC where
  adopt := fun {T W σ w w1 l vs p P} g hn h1 h2 h3 hr h => ⟨⟨w1.r ++ [p], w1.F, w1.S ++ [.lst l], w1.H⟩, _, rfl, h ⟨w1.r ++ [p], w1.F, w1.S ++ [.lst l], w1.H⟩ (.ref p) (Go.adoptCell (c := .lst l) g hn h1 h2 h3 (by exact ⟨h2, vs, h1, Rps.mono ⟨[p], rfl⟩ (Same.refl _) _ _ hr⟩)) rfl (by
    unfold RD Rp
    refine ⟨p, ?_, rfl⟩
    show (w1.r ++ [p])[w1.S.length]? = some p
    rw [← g.wd.len, List.getElem?_append_right (Nat.le_refl _), Nat.sub_self]
    rfl)⟩
  ok := fun {X W σ w l vs p P} hw hn hr h => ⟨_, _, rfl, h ⟨w.r ++ [p], w.F, w.S ++ [.lst l], upd w.H p (.lst vs)⟩ (.ref p) (Go.newCell (c := .lst l) hw hn (by exact ⟨hw.fresh hn, vs, upd_same, Rps.mono ⟨[p], rfl⟩ (Same.refl _) _ _ hr⟩)) rfl (by
    unfold RD Rp
    refine ⟨p, ?_, rfl⟩
    show (w.r ++ [p])[w.S.length]? = some p
    rw [← hw.len, List.getElem?_append_right (Nat.le_refl _), Nat.sub_self]
    rfl)⟩
theorem Mk.go {mk : List D → M D} (m : Mk mk) {X : Kt} {W : WX} {σ : L2.St} {w : Wl} {l : List D} {vs : List V} {Q : VK} (hw : Wd X.K w) (hr : Rps X.K w.r w.F l vs) (h : SatW X W σ (RD X.K) w (mk l w.S) (fun w' _ v => Q v w'.H)) :
    ∀ p, w.H p = none → Q (.ref p) (upd w.H p (.lst vs)) := fun p hn => by
  obtain ⟨w', d, e, q⟩ := m.ok hw hn hr h
  rw [← e]
  exact q
/-- a new tuple -/
theorem tup_go {X : Kt} {W : WX} {σ : L2.St} {w : Wl} {l : List D} {vs : List V} {Q : VK} (hw : Wd X.K w) (hr : Rps X.K w.r w.F l vs) (h : SatW X W σ (RD X.K) w (.ok (.tup l) w.S) (fun w' _ v => Q v w'.H)) :
    ∀ p, w.H p = none → Q (.ref p) (upd w.H p (.tup vs)) := fun p hn =>
  h ⟨w.r, upd w.F p (.tup vs), w.S, upd w.H p (.tup vs)⟩ (.ref p) (Go.alloc hw hn) rfl (by
    unfold RD Rp
    exact ⟨p, vs, rfl, .inl upd_same, Rps.mono ⟨[], by simp⟩ (fun b x e => by show upd w.F p _ b = _; rw [upd_ne (ne_of_none e (hw.fresh hn))]; exact e) _ _ hr⟩)

/-! ### the small expressions -/
def xVar (i : Nat) : Env → M D := fun e S => match e[i]? with
  | some (some d) => .ok d S
  | _ => .bad
def xC (d : D) : Env → M D := fun _ S => .ok d S
def xOp (g : D → D → M D) (a b : Env → M D) : Env → M D := fun e S => (a e S).bind fun x S1 => (b e S1).bind fun y S2 => g x y S2
def xUn (g : D → M D) (a : Env → M D) : Env → M D := fun e S => (a e S).bind fun x S1 => g x S1
def xNil : Env → M (List D) := fun _ S => .ok [] S
def xCons (a : Env → M D) (b : Env → M (List D)) : Env → M (List D) := fun e S => (a e S).bind fun x S1 => (b e S1).bind fun y S2 => .ok (x :: y) S2
def xFn (g : List D → M D) (a : Env → M (List D)) : Env → M D := fun e S => (a e S).bind fun x S1 => g x S1
def xTup (a : Env → M (List D)) : Env → M D := xFn (fun l S => if l.length ≤ 1000 then .ok (.tup l) S else .bad) a
def xLst (mk : List D → M D) (a : Env → M (List D)) : Env → M D := xFn (fun l S => if l.length ≤ 1000 then mk l S else .bad) a
theorem line1000 {n : Nat} (h : n ≤ 1000) : n ≤ sizeLine := Nat.le_trans h (by rw [sizeLine_eq]; decide)
theorem line16 {n : Nat} (h : n ≤ 16000000) : n ≤ sizeLine := Nat.le_trans h (by rw [sizeLine_eq]; decide)
theorem satIf {α β : Type} {X : Kt} {W : WX} {σ : L2.St} {R : Wl → α → β → Prop} {w : Wl} {c : Prop} [Decidable c] {res : Res α} {P : Wl → α → β → Prop} (h : SatW X W σ R w (if c then res else .bad) P) : c ∧ SatW X W σ R w res P := by
  by_cases hc : c
  · rw [if_pos hc] at h
    exact ⟨hc, h⟩
  · rw [if_neg hc] at h
    exact h.elim

def OpD (X : Cx) (fn : Value → Value → Sem Value) (g : D → D → M D) : Prop :=
  ∃ rr : R2, OpR X fn rr ∧ ∀ (w : Wl) (x y : V) (d e : D) (W : WX) (σ : L2.St) (Q : VK), Wd X.K w → RD X.K w d x → RD X.K w e y → SatW (kt X) W σ (RD X.K) w (g d e w.S) (fun w' _ v => Q v w'.H) → rr x y w.H Q
def IxD (X : Cx) (g : D → D → M D) : Prop :=
  ∃ rr : R2, IxR X rr ∧ ∀ (w : Wl) (x y : V) (d e : D) (W : WX) (σ : L2.St) (Q : VK), Wd X.K w → RD X.K w d x → RD X.K w e y → SatW (kt X) W σ (RD X.K) w (g d e w.S) (fun w' _ v => Q v w'.H) → rr x y w.H Q
def UnD (X : Cx) (fn : Value → Sem Value) (g : D → M D) : Prop :=
  ∃ rr : V → Hp → VK → Prop, UnR X fn rr ∧ ∀ (w : Wl) (x : V) (d : D) (W : WX) (σ : L2.St) (Q : VK), Wd X.K w → RD X.K w d x → SatW (kt X) W σ (RD X.K) w (g d w.S) (fun w' _ v => Q v w'.H) → rr x w.H Q
def CallD (X : Cx) (f : Value) (g : List D → M D) : Prop :=
  ∃ rr : List V → Hp → VK → Prop, CallR X f rr ∧ ∀ (w : Wl) (xs : List V) (ds : List D) (W : WX) (σ : L2.St) (Q : VK), Wd X.K w → RDs X.K w ds xs → SatW (kt X) W σ (RD X.K) w (g ds w.S) (fun w' _ v => Q v w'.H) → rr xs w.H Q
section
variable {X : Cx} {W : WX} {a b e : Expr} {es : List Expr} {f g : Env → M D} {h : Env → M (List D)} {pos : Pos}
theorem pd_var {i : Nat} {x : Str} (hN : X.N[i]? = some x := by rfl) (hv : Vis X.env.scope x := by first | exact Or.inl rfl | exact Or.inr (Or.inl rfl) | exact Or.inr (Or.inr rfl)) (hd : (x == ("__debug__" : Str)) = false := by decide)
    (hcd : (x == ("__classdict__" : Str)) = false := by decide) : PD X W (.Name x pos) (xVar i) := by
  refine weakE (pe_var (i := i) hN hv hd hcd) fun σ H Q ⟨w, env, eH, hw, he, hs⟩ => ?_
  subst eH
  unfold xVar at hs
  cases q : env[i]? with
  | none => rw [q] at hs; exact hs.elim
  | some o =>
    cases o with
    | none => rw [q] at hs; exact hs.elim
    | some d =>
      rw [q] at hs
      obtain ⟨v, e1, r⟩ := he.2 i d q
      exact ⟨v, e1, SatW.here hs hw r⟩
theorem pd_c {t : TE} {d : D} {v : V} (h : PE X e t) (ht : ∀ σ H Q, Q v H → t σ H Q) (hr : ∀ K r F, Rp K r F d v) : PD X W e (xC d) := by
  refine weakE h fun σ H Q ⟨w, env, eH, hw, he, hs⟩ => ht _ _ _ ?_
  subst eH
  exact SatW.here (d := d) (v := v) hs hw (hr _ _ _)
theorem pd_int {i j} : PD X W (.Constant (.int i) j pos) (xC (.int i)) := pd_c pe_int (fun _ _ _ q => q) fun _ _ _ => by unfold Rp; rfl
theorem pd_bl {i j} : PD X W (.Constant (.bool i) j pos) (xC (.bl i)) := pd_c pe_bl (fun _ _ _ q => q) fun _ _ _ => by unfold Rp; rfl
theorem pd_non {j} : PD X W (.Constant .none j pos) (xC .non) := pd_c pe_non (fun _ _ _ q => q) fun _ _ _ => by unfold Rp; rfl
theorem pd_str {i j} : PD X W (.Constant (.str i) j pos) (xC (.str i)) := pd_c pe_str (fun _ _ _ q => q) fun _ _ _ => by unfold Rp; rfl
theorem two {rr : R2} {k : D → D → M D} (h1 : ∀ (w : Wl) (x y : V) (d e : D) (W : WX) (σ : L2.St) (Q : VK), Wd X.K w → RD X.K w d x → RD X.K w e y → SatW (kt X) W σ (RD X.K) w (k d e w.S) (fun w' _ v => Q v w'.H) → rr x y w.H Q)
    {σ : L2.St} {H : Hp} {Q : VK} (h : tD (kt X) W (xOp k f g) σ H Q) : tOp rr (tD (kt X) W f) (tD (kt X) W g) σ H Q := by
  obtain ⟨w, env, eH, hw, he, hs⟩ := h
  subst eH
  refine ⟨w, env, rfl, hw, he, SatW.imp (SatW.bind hs) fun w1 x v g1 r1 s1 => ?_⟩
  refine ⟨w1, env, rfl, g1.wd, he.go g1, SatW.imp (SatW.bind s1) fun w2 y u g2 r2 s2 => ?_⟩
  exact h1 w2 v u x y W σ Q g2.wd (Rp.go g2 r1) r2 s2
theorem pd_op {op : Operator} {k : D → D → M D} (ho : OpD X (binaryOp op) k) (ha : PD X W a f) (hb : PD X W b g) : PD X W (.BinOp a op b pos) (xOp k f g) := by
  obtain ⟨rr, ro, h1⟩ := ho
  exact weakE (pe_op ro ha hb) fun σ H Q => two h1
theorem pd_cmp {op : CmpOp} {k : D → D → M D} (ho : OpD X (compareOp op) k) (ha : PD X W a f) (hb : PD X W b g) (hm : behindInMarks op b = false := by first | exact nomark _ | rfl) : PD X W (.Compare a [op] [b] pos) (xOp k f g) := by
  obtain ⟨rr, ro, h1⟩ := ho
  exact weakE (pe_cmpR ro ha hb hm) fun σ H Q => two h1
theorem pd_ix {k : D → D → M D} (ho : IxD X k) (ha : PD X W a f) (hb : PD X W b g) (hs : PlainIx b := by exact fun _ _ => rfl) : PD X W (.Subscript a b pos) (xOp k f g) := by
  obtain ⟨rr, ro, h1⟩ := ho
  exact weakE (pe_ix ro ha hb hs) fun σ H Q => two h1
theorem pd_un {op : UnaryOp} {k : D → M D} (ho : UnD X (unaryOp op) k) (ha : PD X W a f) : PD X W (.UnaryOp op a pos) (xUn k f) := by
  obtain ⟨rr, ro, h1⟩ := ho
  refine weakE (pe_un ro ha) fun σ H Q ⟨w, env, eH, hw, he, hs⟩ => ?_
  subst eH
  refine ⟨w, env, rfl, hw, he, SatW.imp (SatW.bind hs) fun w1 x v g1 r1 s1 => ?_⟩
  exact h1 w1 v x W σ Q g1.wd r1 s1
theorem pad_nil : PAD X W [] xNil := by
  refine weakA pa_nil fun σ H Q ⟨w, env, eH, hw, he, hs⟩ => ?_
  subst eH
  exact SatW.here (d := []) (v := []) hs hw rps_nil
theorem pad_cons (ha : PD X W e f) (hr : PAD X W es h) (hs : starEach (e :: es) X.env = (false, eval e X.env) :: starEach es X.env := by rfl) : PAD X W (e :: es) (xCons f h) := by
  refine weakA (pa_cons ha hr hs) fun σ H Q ⟨w, env, eH, hw, he, hs⟩ => ?_
  subst eH
  refine ⟨w, env, rfl, hw, he, SatW.imp (SatW.bind hs) fun w1 x v g1 r1 s1 => ?_⟩
  refine ⟨w1, env, rfl, g1.wd, he.go g1, SatW.imp (SatW.bind s1) fun w2 y u g2 r2 s2 => ?_⟩
  exact SatW.here (d := x :: y) (v := v :: u) s2 g2.wd (rps_cons (Rp.go g2 r1) r2)
theorem pd_tup {k : Nat} (ha : PAD X W es h) : PD X W (.Tuple es k pos) (xTup h) := by
  refine weakE (pe_tup ha) fun σ H Q ⟨w, env, eH, hw, he, hs⟩ => ?_
  subst eH
  refine ⟨w, env, rfl, hw, he, SatW.imp (SatW.bind hs) fun w1 x v g1 r1 s1 => ?_⟩
  obtain ⟨hl, s1⟩ := satIf s1
  exact ⟨line1000 (by rw [Rps.length r1]; exact hl), tup_go g1.wd r1 s1⟩
theorem pd_lst {mk : List D → M D} (m : Mk mk) (ha : PAD X W es h) : PD X W (.List es pos) (xLst mk h) := by
  refine weakE (pe_lst ha) fun σ H Q ⟨w, env, eH, hw, he, hs⟩ => ?_
  subst eH
  refine ⟨w, env, rfl, hw, he, SatW.imp (SatW.bind hs) fun w1 x v g1 r1 s1 => ?_⟩
  obtain ⟨hl, s1⟩ := satIf s1
  exact ⟨line1000 (by rw [Rps.length r1]; exact hl), m.go g1.wd r1 s1⟩
theorem callB {rr : List V → Hp → VK → Prop} {k : List D → M D} (h1 : ∀ (w : Wl) (xs : List V) (ds : List D) (W : WX) (σ : L2.St) (Q : VK), Wd X.K w → RDs X.K w ds xs → SatW (kt X) W σ (RD X.K) w (k ds w.S) (fun w' _ v => Q v w'.H) → rr xs w.H Q)
    {σ : L2.St} {H : Hp} {Q : VK} (hh : tD (kt X) W (xFn k h) σ H Q) : tCB rr (tDA (kt X) W h) σ H Q := by
  obtain ⟨w, env, eH, hw, he, hs⟩ := hh
  subst eH
  refine ⟨w, env, rfl, hw, he, SatW.imp (SatW.bind hs) fun w1 x v g1 r1 s1 => ?_⟩
  exact h1 w1 v x W σ Q g1.wd r1 s1
/-- a built-in function, a built-in class called -/
theorem pd_callB {id : String} {x : Str} {p : Pos} {k : List D → M D} (hc : CallD X (.builtin id) k) (hg : Gl X x) (hm : X.mg x = none) (hv : bootBuiltins x = some (.builtin id)) (ha : PAD X W (e :: es) h) (hn : x ≠ "__name__" := by decide) (hdb : (x == ("__debug__" : Str)) = false := by decide)
    (he : starEach (e :: es) X.env = (false, eval e X.env) :: starEach es X.env := by rfl) (hpl : (backTo pos (starEach es X.env)).any (·.1) = false := by rfl) : PD X W (.Call (.Name x p) (e :: es) [] pos) (xFn k h) := by
  obtain ⟨rr, ro, h1⟩ := hc
  exact weakE (pe_callB ro hg hm hv ha hn hdb he hpl) fun σ H Q => callB h1
theorem pd_callTy {T : String} {x : Str} {p : Pos} {k : List D → M D} (hc : CallD X (.type T) k) (hg : Gl X x) (hm : X.mg x = none) (hv : bootBuiltins x = some (.type T)) (ha : PAD X W (e :: es) h) (hn : x ≠ "__name__" := by decide) (hdb : (x == ("__debug__" : Str)) = false := by decide)
    (he : starEach (e :: es) X.env = (false, eval e X.env) :: starEach es X.env := by rfl) (hpl : (backTo pos (starEach es X.env)).any (·.1) = false := by rfl) : PD X W (.Call (.Name x p) (e :: es) [] pos) (xFn k h) := by
  obtain ⟨rr, ro, h1⟩ := hc
  exact weakE (pe_callTy ro hg hm hv ha hn hdb he hpl) fun σ H Q => callB h1
end
end Dv
/-! # Dv3: tests, statements, loops, calls -/
namespace Dv
open PySem PySem.Spec PyProof.Rows L2

/-! ### tests -/
/-- a value's truth -/
def tru (d : D) (S : Store) : Res Bool := match d with
  | .non => .ok false S
  | .bl b => .ok b S
  | .int i => .ok (i != 0) S
  | .str x => if x.length ≤ 16000000 then .ok ((x.length : Int) != 0) S else .bad
  | .tup l => .ok (!l.isEmpty) S
  | .lst l => .ok (!l.isEmpty) S
  | .scr l => .ok (!l.isEmpty) S
  | .cell n => match S[n]? with
    | some (.lst l) => .ok (!l.isEmpty) S
    | some (.dct l) => .ok (!l.isEmpty) S
    | _ => .bad
  | .raw _ => .bad
  | .cls _ => .bad
  | .exn _ _ => .bad
def xTru (f : Env → M D) : Env → M Bool := fun e S => (f e S).bind tru
def xIsT (f : Env → M D) : Env → M Bool := fun e S => (f e S).bind fun d S1 => match d with
  | .bl b => .ok b S1
  | _ => .bad
def xNot (f : Env → M Bool) : Env → M Bool := fun e S => (f e S).bind fun b S1 => .ok (!b) S1
def xAnd (f g : Env → M Bool) : Env → M Bool := fun e S => (f e S).bind fun b S1 => if b then g e S1 else .ok false S1
def xOr (f g : Env → M Bool) : Env → M Bool := fun e S => (f e S).bind fun b S1 => if b then .ok true S1 else g e S1
def xAndV (f g : Env → M D) : Env → M D := fun e S => (f e S).bind fun d S1 => match d with
  | .bl true => g e S1
  | .bl false => .ok (.bl false) S1
  | _ => .bad
def xOrV (f g : Env → M D) : Env → M D := fun e S => (f e S).bind fun d S1 => match d with
  | .bl true => .ok (.bl true) S1
  | .bl false => g e S1
  | _ => .bad
def xNotV (f : Env → M D) : Env → M D := fun e S => (f e S).bind fun d S1 => match d with
  | .bl b => .ok (.bl (!b)) S1
  | _ => .bad
def xIf (c : Env → M Bool) (f g : Env → M D) : Env → M D := fun e S => (c e S).bind fun b S1 => if b then f e S1 else g e S1
section
variable {X : Cx} {W : WX} {a b c e : Expr} {es rest : List Expr} {f g : Env → M D} {k k' : Env → M Bool} {h : Env → M (List D)} {pos : Pos}
theorem ptd_cmp {op : CmpOp} {k : D → D → M D} (ho : OpD X (compareOp op) k) (ha : PD X W a f) (hb : PD X W b g) (hm : behindInMarks op b = false := by first | exact nomark _ | rfl) : PTD X W (.Compare a [op] [b] pos) (xIsT (xOp k f g)) := by
  obtain ⟨rr, ro, h1⟩ := ho
  refine weakT (pt_cmpR ro ha hb hm) fun σ H Q ⟨w, env, eH, hw, he, hs⟩ => ?_
  subst eH
  refine two h1 ⟨w, env, rfl, hw, he, SatW.imp (SatW.bind hs) fun w1 d v g1 r1 s1 => ?_⟩
  cases d with
  | bl b =>
    obtain rfl : v = V.bl b := by
      have r2 : Rp X.K w1.r w1.F (.bl b) v := r1
      unfold Rp at r2; exact r2
    exact ⟨b, rfl, SatW.here (d := b) (v := b) s1 g1.wd rfl⟩
  | _ => exact s1.elim
theorem rp_bl {K : PySem.W.Frag} {r : List Addr} {F : Hp} {b : Bool} {v : V} (h : Rp K r F (.bl b) v) : v = .bl b := by unfold Rp at h; exact h
theorem rp_int {K : PySem.W.Frag} {r : List Addr} {F : Hp} {b : Int} {v : V} (h : Rp K r F (.int b) v) : v = .int b := by unfold Rp at h; exact h
theorem rp_str {K : PySem.W.Frag} {r : List Addr} {F : Hp} {b : Str} {v : V} (h : Rp K r F (.str b) v) : v = .str b := by unfold Rp at h; exact h
theorem rp_non {K : PySem.W.Frag} {r : List Addr} {F : Hp} {v : V} (h : Rp K r F .non v) : v = .non := by unfold Rp at h; exact h
theorem rp_raw {K : PySem.W.Frag} {r : List Addr} {F : Hp} {b v : V} (h : Rp K r F (.raw b) v) : v = b := by unfold Rp at h; exact h
theorem rpb {K : PySem.W.Frag} {r : List Addr} {F : Hp} {b : Bool} : Rp K r F (.bl b) (.bl b) := by unfold Rp; rfl
theorem rpi {K : PySem.W.Frag} {r : List Addr} {F : Hp} {b : Int} : Rp K r F (.int b) (.int b) := by unfold Rp; rfl
theorem rps {K : PySem.W.Frag} {r : List Addr} {F : Hp} {b : Str} : Rp K r F (.str b) (.str b) := by unfold Rp; rfl
theorem rpn {K : PySem.W.Frag} {r : List Addr} {F : Hp} : Rp K r F .non .non := by unfold Rp; rfl
theorem isEmpty_rps {K : PySem.W.Frag} {r : List Addr} {F : Hp} {l : List D} {vs : List V} (h : Rps K r F l vs) : vs.isEmpty = l.isEmpty := by
  have e := h.length
  cases l <;> cases vs <;> first | rfl | simp at e
theorem isEmpty_rpk {K : PySem.W.Frag} {r : List Addr} {F : Hp} {l : List (Key × D)} {vs : List (Key × V)} (h : RpK K r F l vs) : vs.isEmpty = l.isEmpty := by
  cases h <;> rfl
theorem tru_sat {T : Kt} {σ : L2.St} {w : Wl} {d : D} {v : V} {Q : Bool → Hp → Prop} (hw : Wd T.K w) (r : RD T.K w d v) (hs : SatW T W σ RB w (tru d w.S) (fun w' _ v => Q v w'.H)) : ∃ k, TruV T.K v w.H k ∧ Q k w.H := by
  have r' : Rp T.K w.r w.F d v := r
  cases d with
  | non => cases rp_non r'; exact ⟨false, rfl, SatW.here (d := false) (v := false) hs hw rfl⟩
  | bl b => cases rp_bl r'; exact ⟨b, rfl, SatW.here (d := b) (v := b) hs hw rfl⟩
  | int i => cases rp_int r'; exact ⟨_, rfl, SatW.here (d := (i != 0)) (v := (i != 0)) hs hw rfl⟩
  | str x =>
    cases rp_str r'
    unfold tru at hs
    obtain ⟨hl, hs⟩ := satIf hs
    exact ⟨_, ⟨line16 hl, rfl⟩, SatW.here (d := ((x.length : Int) != 0)) (v := ((x.length : Int) != 0)) hs hw rfl⟩
  | tup l =>
    obtain ⟨a, vs, rfl, q, p⟩ := getT_ok hw r' rfl
    exact ⟨!l.isEmpty, .inr (.inl ⟨vs, .inl q, by rw [isEmpty_rps p]⟩), SatW.here (d := !l.isEmpty) (v := !l.isEmpty) hs hw rfl⟩
  | lst l =>
    obtain ⟨a, vs, rfl, q, p⟩ := getL_ok hw r' rfl
    exact ⟨!l.isEmpty, .inl ⟨vs, .inl (.inl q), by rw [isEmpty_rps p]⟩, SatW.here (d := !l.isEmpty) (v := !l.isEmpty) hs hw rfl⟩
  | scr l =>
    obtain ⟨a, vs, rfl, q, p⟩ := getQ_ok hw r' rfl
    exact ⟨!l.isEmpty, .inl ⟨vs, q, by rw [isEmpty_rps p]⟩, SatW.here (d := !l.isEmpty) (v := !l.isEmpty) hs hw rfl⟩
  | cell n =>
    unfold tru at hs
    cases e : w.S[n]? with
    | none => simp only [e] at hs; exact hs.elim
    | some c =>
      cases c with
      | lst l =>
        simp only [e] at hs
        obtain ⟨a, vs, rfl, q, p⟩ := getL_ok (l := l) hw r' (by simp only [getL, e])
        exact ⟨!l.isEmpty, .inl ⟨vs, .inl (.inl q), by rw [isEmpty_rps p]⟩, SatW.here (d := !l.isEmpty) (v := !l.isEmpty) hs hw rfl⟩
      | dct l =>
        simp only [e] at hs
        unfold Rp at r'
        obtain ⟨a, e1, rfl⟩ := r'
        obtain ⟨_, vs, e2, p⟩ := hw.cell n a _ e1 e
        exact ⟨!l.isEmpty, .inr (.inr ⟨vs, e2, by rw [isEmpty_rpk p]⟩), SatW.here (d := !l.isEmpty) (v := !l.isEmpty) hs hw rfl⟩
      | dead => simp only [e] at hs; exact hs.elim
  | raw _ => exact hs.elim
  | cls _ => exact hs.elim
  | exn _ _ => exact hs.elim
theorem ptd_truth (ha : PD X W a f) (he : ∀ whole, isTrue a X.env whole = (do let v ← whole; standAt a.pos; holding [v] (truthy v)) := by intro _; rfl) : PTD X W a (xTru f) := by
  refine weakT (pt_truth ha he) fun σ H Q ⟨w, env, eH, hw, he, hs⟩ => ?_
  subst eH
  exact ⟨w, env, rfl, hw, he, SatW.imp (SatW.bind hs) fun w1 d v g1 r1 s1 => tru_sat g1.wd r1 s1⟩
theorem ptd_not (ha : PTD X W a k) : PTD X W (.UnaryOp .Not a pos) (xNot k) := by
  refine weakT (pt_not ha) fun σ H Q ⟨w, env, eH, hw, he, hs⟩ => ?_
  subst eH
  refine ⟨w, env, rfl, hw, he, SatW.imp (SatW.bind hs) fun w1 d v g1 r1 s1 => ?_⟩
  have e : d = v := r1
  subst e
  exact SatW.here (d := !d) (v := !d) s1 g1.wd rfl
theorem PWD.pt (h : PWD X W a k) : PTD X W a k := PW.pt h
theorem pwd_and1 (ha : PTD X W a k) : PWD X W (.BoolOp .And [a] pos) k := pw_and1 ha
theorem pwd_or1 (ha : PTD X W a k) : PWD X W (.BoolOp .Or [a] pos) k := pw_or1 ha
theorem pwd_and (ha : PTD X W a k) (hb : PWD X W (.BoolOp .And (b :: rest) pos) k') : PWD X W (.BoolOp .And (a :: b :: rest) pos) (xAnd k k') := by
  refine weakW (pw_and ha hb) fun σ H Q ⟨w, env, eH, hw, he, hs⟩ => ?_
  subst eH
  refine ⟨w, env, rfl, hw, he, SatW.imp (SatW.bind hs) fun w1 d v g1 r1 s1 => ?_⟩
  have e : d = v := r1
  subst e
  cases d with
  | true => exact iteT ⟨w1, env, rfl, g1.wd, he.go g1, s1⟩
  | false => exact iteF (SatW.here (d := false) (v := false) s1 g1.wd rfl)
theorem pwd_or (ha : PTD X W a k) (hb : PWD X W (.BoolOp .Or (b :: rest) pos) k') : PWD X W (.BoolOp .Or (a :: b :: rest) pos) (xOr k k') := by
  refine weakW (pw_or ha hb) fun σ H Q ⟨w, env, eH, hw, he, hs⟩ => ?_
  subst eH
  refine ⟨w, env, rfl, hw, he, SatW.imp (SatW.bind hs) fun w1 d v g1 r1 s1 => ?_⟩
  have e : d = v := r1
  subst e
  cases d with
  | true => exact iteT (SatW.here (d := true) (v := true) s1 g1.wd rfl)
  | false => exact iteF ⟨w1, env, rfl, g1.wd, he.go g1, s1⟩
theorem pd_one {op} (ha : PD X W a f) : PD X W (.BoolOp op [a] pos) f := pe_one ha
theorem pd_and (ha : PD X W a f) (hb : PD X W (.BoolOp .And (b :: rest) pos) g) : PD X W (.BoolOp .And (a :: b :: rest) pos) (xAndV f g) := by
  refine weakE (pe_and ha hb) fun σ H Q ⟨w, env, eH, hw, he, hs⟩ => ?_
  subst eH
  refine ⟨w, env, rfl, hw, he, SatW.imp (SatW.bind hs) fun w1 d v g1 r1 s1 => ?_⟩
  cases d with
  | bl b =>
    cases rp_bl (show Rp X.K w1.r w1.F (.bl b) v from r1)
    refine ⟨b, rfl, ?_⟩
    cases b with
    | true => exact iteT ⟨w1, env, rfl, g1.wd, he.go g1, s1⟩
    | false => exact iteF (SatW.here (d := D.bl false) (v := V.bl false) s1 g1.wd r1)
  | _ => exact s1.elim
theorem pd_or (ha : PD X W a f) (hb : PD X W (.BoolOp .Or (b :: rest) pos) g) : PD X W (.BoolOp .Or (a :: b :: rest) pos) (xOrV f g) := by
  refine weakE (pe_or ha hb) fun σ H Q ⟨w, env, eH, hw, he, hs⟩ => ?_
  subst eH
  refine ⟨w, env, rfl, hw, he, SatW.imp (SatW.bind hs) fun w1 d v g1 r1 s1 => ?_⟩
  cases d with
  | bl b =>
    cases rp_bl (show Rp X.K w1.r w1.F (.bl b) v from r1)
    refine ⟨b, rfl, ?_⟩
    cases b with
    | true => exact iteT (SatW.here (d := D.bl true) (v := V.bl true) s1 g1.wd r1)
    | false => exact iteF ⟨w1, env, rfl, g1.wd, he.go g1, s1⟩
  | _ => exact s1.elim
theorem pd_not (ha : PD X W a f) : PD X W (.UnaryOp .Not a pos) (xNotV f) := by
  refine weakE (pe_not ha) fun σ H Q ⟨w, env, eH, hw, he, hs⟩ => ?_
  subst eH
  refine ⟨w, env, rfl, hw, he, SatW.imp (SatW.bind hs) fun w1 d v g1 r1 s1 => ?_⟩
  cases d with
  | bl b =>
    cases rp_bl (show Rp X.K w1.r w1.F (.bl b) v from r1)
    exact ⟨b, rfl, SatW.here (d := D.bl (!b)) (v := V.bl (!b)) s1 g1.wd rpb⟩
  | _ => exact s1.elim
theorem pd_if (hc : PTD X W c k) (ha : PD X W a f) (hb : PD X W b g) : PD X W (.IfExp c a b pos) (xIf k f g) := by
  refine weakE (pe_ifExp hc ha hb) fun σ H Q ⟨w, env, eH, hw, he, hs⟩ => ?_
  subst eH
  refine ⟨w, env, rfl, hw, he, SatW.imp (SatW.bind hs) fun w1 d v g1 r1 s1 => ?_⟩
  have e : d = v := r1
  subst e
  cases d with
  | true => exact iteT ⟨w1, env, rfl, g1.wd, he.go g1, s1⟩
  | false => exact iteF ⟨w1, env, rfl, g1.wd, he.go g1, s1⟩
end

/-! ### statements -/
inductive Out where
  | nx (e : Env) (S : Store)
  | rt (d : D) (S : Store)
  | bk (e : Env) (S : Store)
  | ct (e : Env) (S : Store)
  | exc (x : Exn) (e : Env) (S : Store)
  | bad
def SatS (T : Kt) (W : WX) (w : Wl) (o : Out) (D : Ends) : Prop := match o with
  | .nx e S => ∀ w' σ', Go T.K w w' → w'.S = S → EnvOk T.K w' e σ' → D.nx σ' w'.H
  | .rt d S => ∀ w' v, Go T.K w w' → w'.S = S → Rp T.K w'.r w'.F d v → D.rt v w'.H
  | .bk e S => ∀ w' σ', Go T.K w w' → w'.S = S → EnvOk T.K w' e σ' → D.bk σ' w'.H
  | .ct e S => ∀ w' σ', Go T.K w w' → w'.S = S → EnvOk T.K w' e σ' → D.ct σ' w'.H
  | .exc x e S => ∀ w' σ' cls dd, Go T.K w w' → w'.S = S → EnvOk T.K w' e σ' → ExcOk T.K T.mg w' x cls dd → W cls dd σ' w'.H
  | .bad => False
def Res.out {α : Type} (x : Res α) (env : Env) (k : α → Store → Out) : Out := match x with
  | .ok a S => k a S
  | .exc e S => .exc e env S
  | .bad => .bad
@[simp] theorem Res.out_ok {α : Type} (a : α) (S : Store) (env : Env) (k : α → Store → Out) : (Res.ok a S).out env k = k a S := rfl
@[simp] theorem Res.out_exc {α : Type} (x : Exn) (S : Store) (env : Env) (k : α → Store → Out) : (Res.exc x S : Res α).out env k = .exc x env S := rfl
@[simp] theorem Res.out_bad {α : Type} (env : Env) (k : α → Store → Out) : (Res.bad : Res α).out env k = .bad := rfl
def Out.seq (o : Out) (k : Env → Store → Out) : Out := match o with
  | .nx e S => k e S
  | o => o
@[simp] theorem Out.seq_nx (e : Env) (S : Store) (k : Env → Store → Out) : (Out.nx e S).seq k = k e S := rfl
@[simp] theorem Out.seq_rt (d : D) (S : Store) (k : Env → Store → Out) : (Out.rt d S).seq k = .rt d S := rfl
@[simp] theorem Out.seq_bk (e : Env) (S : Store) (k : Env → Store → Out) : (Out.bk e S).seq k = .bk e S := rfl
@[simp] theorem Out.seq_ct (e : Env) (S : Store) (k : Env → Store → Out) : (Out.ct e S).seq k = .ct e S := rfl
@[simp] theorem Out.seq_exc (x : Exn) (e : Env) (S : Store) (k : Env → Store → Out) : (Out.exc x e S).seq k = .exc x e S := rfl
@[simp] theorem Out.seq_bad (k : Env → Store → Out) : Out.bad.seq k = .bad := rfl
section
variable {T : Kt} {W : WX} {w w1 : Wl} {D : Ends}
theorem SatS.pre {o : Out} (h : SatS T W w o D) (g : Go T.K w w1) : SatS T W w1 o D := by
  cases o with
  | nx e S => exact fun w' v g' e q => h w' v (g.trans g') e q
  | rt e S => exact fun w' v g' e q => h w' v (g.trans g') e q
  | bk e S => exact fun w' v g' e q => h w' v (g.trans g') e q
  | ct e S => exact fun w' v g' e q => h w' v (g.trans g') e q
  | exc x e S => exact fun w' σ' cls dd g' e q => h w' σ' cls dd (g.trans g') e q
  | bad => exact h
theorem SatS.out {α β : Type} {R : Wl → α → β → Prop} {σ : L2.St} {x : Res α} {env : Env} {k : α → Store → Out} (h : SatS T W w (x.out env k) D) (he : EnvOk T.K w env σ) :
    SatW T W σ R w x (fun w1 d _ => SatS T W w1 (k d w1.S) D) := by
  cases x with
  | ok d S => exact fun w' v g e q => by subst e; exact SatS.pre (o := k d w'.S) h g
  | exc x S => exact fun w' cls dd g e q => h w' σ cls dd g e (he.go g) q
  | bad => exact h
end
/-- a statement's reading -/
def sD (T : Kt) (W : WX) (g : Env → Store → Out) : TS := fun D σ H => ∃ (w : Wl) (env : Env), w.H = H ∧ Wd T.K w ∧ EnvOk T.K w env σ ∧ SatS T W w (g env w.S) D
def PSD (X : Cx) (W : WX) (s : Stmt) (g : Env → Store → Out) : Prop := PS X s (sD (kt X) W g)
def PSsD (X : Cx) (W : WX) (s : List Stmt) (g : Env → Store → Out) : Prop := PSs X s (sD (kt X) W g)

def yNil : Env → Store → Out := fun e S => .nx e S
def ySeq (g h : Env → Store → Out) : Env → Store → Out := fun e S => (g e S).seq h
def yBreak : Env → Store → Out := fun e S => .bk e S
def yCont : Env → Store → Out := fun e S => .ct e S
def yExpr (f : Env → M D) : Env → Store → Out := fun e S => (f e S).out e fun _ S1 => .nx e S1
def yRet (f : Env → M D) : Env → Store → Out := fun e S => (f e S).out e fun d S1 => .rt d S1
def yRetN : Env → Store → Out := fun e S => .rt .non S
def yIf (c : Env → M Bool) (g h : Env → Store → Out) : Env → Store → Out := fun e S => (c e S).out e fun b S1 => if b then g e S1 else h e S1
def yNever : Env → Store → Out := fun _ _ => .bad
def ySet (i : Nat) (f : Env → M D) : Env → Store → Out := fun e S => (f e S).out e fun d S1 => .nx (e.set i (some d)) S1
def yAsg (f : Env → M D) (g : D → Env → Store → Out) : Env → Store → Out := fun e S => (f e S).out e fun d S1 => g d e S1
def yPar (i j : Nat) (f : Env → M (List D)) : Env → Store → Out := fun e S => (f e S).out e fun l S1 => match l with
  | [a, b] => .nx ((e.set i (some a)).set j (some b)) S1
  | _ => .bad
def yAug (i : Nat) (f : Env → M D) (g : D → D → M D) : Env → Store → Out := fun e S => match e[i]? with
  | some (some x) => (f e S).out e fun y S1 => (g x y S1).out e fun z S2 => .nx (e.set i (some z)) S2
  | _ => .bad

/-- a target -/
def SatG (T : Kt) (w : Wl) (o : Out) (Q : L2.St → Hp → Prop) : Prop := match o with
  | .nx e S => ∀ w' σ', Go T.K w w' → w'.S = S → EnvOk T.K w' e σ' → Q σ' w'.H
  | _ => False
def gD (T : Kt) (g : D → Env → Store → Out) : TG := fun v σ H Q => ∃ (w : Wl) (env : Env) (d : D), w.H = H ∧ Wd T.K w ∧ EnvOk T.K w env σ ∧ Rp T.K w.r w.F d v ∧ SatG T w (g d env w.S) Q
def gDs (T : Kt) (g : List D → Env → Store → Out) : TGs := fun v σ H Q => ∃ (w : Wl) (env : Env) (d : List D), w.H = H ∧ Wd T.K w ∧ EnvOk T.K w env σ ∧ Rps T.K w.r w.F d v ∧ SatG T w (g d env w.S) Q
def PGD (X : Cx) (e : Expr) (g : D → Env → Store → Out) : Prop := PG X e (gD (kt X) g)
def PGsD (X : Cx) (e : List Expr) (g : List D → Env → Store → Out) : Prop := PGs X e (gDs (kt X) g)
theorem SatG.pre {T : Kt} {w w1 : Wl} {o : Out} {Q : L2.St → Hp → Prop} (h : SatG T w o Q) (g : Go T.K w w1) : SatG T w1 o Q := by
  cases o with
  | nx e S => exact fun w' v g' e q => h w' v (g.trans g') e q
  | _ => exact h.elim
theorem SatG.seq {T : Kt} {w : Wl} {o : Out} {k : Env → Store → Out} {Q : L2.St → Hp → Prop} (h : SatG T w (o.seq k) Q) : SatG T w o (fun σ' H' => ∃ w' e', w'.H = H' ∧ Wd T.K w' ∧ EnvOk T.K w' e' σ' ∧ Go T.K w w' ∧ o = .nx e' w'.S ∧ SatG T w' (k e' w'.S) Q) := by
  cases o with
  | nx e S => exact fun w' σ' g' es he => by subst es; exact ⟨w', e, rfl, g'.wd, he, g', rfl, SatG.pre (o := k e w'.S) h g'⟩
  | _ => exact h
theorem weakG {X : Cx} {e : Expr} {t t' : TG} (h : PG X e t) (q : ∀ v σ H Q, t' v σ H Q → t v σ H Q) : PG X e t' := ⟨fun pins s σ H v u Q I r z => h.run pins s σ H v u Q I r (q _ _ _ _ z)⟩
theorem weakGs {X : Cx} {e : List Expr} {t t' : TGs} (h : PGs X e t) (q : ∀ v σ H Q, t' v σ H Q → t v σ H Q) : PGs X e t' := ⟨fun pins s σ H v u Q I r z => h.run pins s σ H v u Q I r (q _ _ _ _ z)⟩

def gN (i : Nat) : D → Env → Store → Out := fun d e S => .nx (e.set i (some d)) S
def gsNil : List D → Env → Store → Out := fun l e S => match l with
  | [] => .nx e S
  | _ => .bad
def gsCons (g : D → Env → Store → Out) (h : List D → Env → Store → Out) : List D → Env → Store → Out := fun l e S => match l with
  | d :: r => (g d e S).seq (h r)
  | [] => .bad
def gT (n : Nat) (h : List D → Env → Store → Out) : D → Env → Store → Out := fun d e S => match d with
  | .tup l => if l.length = n then h l e S else .bad
  | _ => .bad
section
variable {X : Cx} {W : WX} {a b c e : Expr} {es rest : List Expr} {f f' : Env → M D} {k : Env → M Bool} {h : Env → M (List D)} {g g' : Env → Store → Out} {s : Stmt} {ss : List Stmt} {pos : Pos}
theorem pgd_name {i : Nat} {x : Str} (hN : X.N.Nodup) (hi : X.N[i]? = some x := by rfl) (hx : Loc X.env.scope x := by first | exact .inl rfl | exact .inr rfl) (hf : X.fn x = true ∨ X.env.scope.names.lookup x = some .local := by first | exact .inl rfl | exact .inr rfl | assumption) : PGD X (.Name x pos) (gN i) := by
  refine weakG (pg_name (i := i) hN hi hx hf) fun v σ H Q ⟨w, env, d, eH, hw, he, hr, hs⟩ => ?_
  subst eH
  exact hs w _ (Go.refl hw) rfl (he.set hr)
theorem pgsd_nil : PGsD X [] gsNil := by
  refine weakGs pgs_nil fun v σ H Q ⟨w, env, d, eH, hw, he, hr, hs⟩ => ?_
  subst eH
  cases d with
  | nil => exact ⟨hr.nil_inv, hs w _ (Go.refl hw) rfl he⟩
  | cons x l => exact hs.elim
theorem pgsd_cons {gg : D → Env → Store → Out} {hh : List D → Env → Store → Out} (h1 : PGD X e gg) (h2 : PGsD X es hh) (hs : (assignEach (e :: es) X.env).map (·.2) = assign e X.env :: (assignEach es X.env).map (·.2) := by rfl) : PGsD X (e :: es) (gsCons gg hh) := by
  refine weakGs (pgs_cons h1 h2 hs) fun v σ H Q ⟨w, env, d, eH, hw, he, hr, hs⟩ => ?_
  subst eH
  cases d with
  | nil => exact hs.elim
  | cons x l =>
    obtain ⟨v0, t, e1, r1, r2⟩ := hr.cons_inv
    refine ⟨v0, t, e1, w, env, x, rfl, hw, he, r1, ?_⟩
    have hs' : SatG (kt X) w ((gg x env w.S).seq (hh l)) Q := hs
    have q := SatG.seq hs'
    cases o : gg x env w.S with
    | nx e' S' =>
      rw [o] at q
      intro w' σ' g' es' he'
      obtain ⟨w2, e2, eH, wd2, he2, g2, eo, s2⟩ := q w' σ' g' es' he'
      exact ⟨w2, e2, l, eH, wd2, he2, Rps.go g2 r2, s2⟩
    | _ => rw [o] at q; exact q.elim
theorem pgd_tup {n : Nat} {kk : Nat} {hh : List D → Env → Store → Out} (hc : X.calm = true) (h2 : PGsD X es hh) (hn : (assignEach es X.env).length = n := by rfl) (hst : (assignEach es X.env).findIdx? (·.1) = none := by rfl) : PGD X (.Tuple es kk pos) (gT n hh) := by
  refine weakG (pg_tup hc h2 hn hst) fun v σ H Q ⟨w, env, d, eH, hw, he, hr, hs⟩ => ?_
  subst eH
  cases d with
  | tup l =>
    have hs' : SatG (kt X) w (if l.length = n then hh l env w.S else .bad) Q := hs
    by_cases hl : l.length = n
    · rw [if_pos hl] at hs'
      obtain ⟨a, vs, rfl, q, p⟩ := getT_ok hw hr rfl
      exact ⟨a, vs, rfl, .inl q, by rw [p.length]; exact hl, w, env, l, rfl, hw, he, p, hs'⟩
    · rw [if_neg hl] at hs'
      exact hs'.elim
  | _ => exact hs.elim

theorem pssd_nil : PSsD X W [] yNil := by
  refine weakSs pss_nil fun D σ H ⟨w, env, eH, hw, he, hs⟩ => ?_
  subst eH
  exact hs w σ (Go.refl hw) rfl he
theorem sat_seq {T : Kt} {w : Wl} {o : Out} {gg : Env → Store → Out} {D : Ends} (hs : SatS T W w (o.seq gg) D) : SatS T W w o { D with nx := sD T W gg D } := by
  cases o with
  | nx e S => exact fun w' σ' g1 es he => by subst es; exact ⟨w', e, rfl, g1.wd, he, SatS.pre (o := gg e w'.S) hs g1⟩
  | rt d S => exact hs
  | bk e S => exact hs
  | ct e S => exact hs
  | exc x e S => exact hs
  | bad => exact hs
theorem pssd_cons (h1 : PSD X W s g) (h2 : PSsD X W ss g') : PSsD X W (s :: ss) (ySeq g g') := by
  refine weakSs (pss_cons h1 h2) fun D σ H ⟨w, env, eH, hw, he, hs⟩ => ?_
  exact ⟨w, env, eH, hw, he, sat_seq hs⟩
theorem pssd_one (h1 : PSD X W s g) : PSsD X W [s] g := pss_one h1
theorem psd_pass : PSD X W (.Pass pos) yNil := by
  refine weakS ps_pass fun D σ H ⟨w, env, eH, hw, he, hs⟩ => ?_
  subst eH
  exact hs w σ (Go.refl hw) rfl he
theorem psd_break : PSD X W (.Break pos) yBreak := by
  refine weakS ps_break fun D σ H ⟨w, env, eH, hw, he, hs⟩ => ?_
  subst eH
  exact hs w σ (Go.refl hw) rfl he
theorem psd_continue : PSD X W (.Continue pos) yCont := by
  refine weakS ps_continue fun D σ H ⟨w, env, eH, hw, he, hs⟩ => ?_
  subst eH
  exact hs w σ (Go.refl hw) rfl he
theorem psd_never : PSD X W s yNever := weakS ps_never fun D σ H ⟨w, env, eH, hw, he, hs⟩ => hs.elim
theorem psd_expr (he : PD X W e f) (hs : swapsWith e none pos.line X.env = pure false := by rfl) : PSD X W (.Expr e pos) (yExpr f) := by
  refine weakS (ps_expr he hs) fun D σ H ⟨w, env, eH, hw, he, hs⟩ => ?_
  subst eH
  exact ⟨w, env, rfl, hw, he, SatW.imp (SatS.out hs he) fun w1 d v g1 r1 s1 => s1 w1 σ (Go.refl g1.wd) rfl (he.go g1)⟩
theorem psd_ret (he : PD X W e f) : PSD X W (.Return (some e) pos) (yRet f) := by
  refine weakS (ps_ret he) fun D σ H ⟨w, env, eH, hw, he, hs⟩ => ?_
  subst eH
  exact ⟨w, env, rfl, hw, he, SatW.imp (SatS.out hs he) fun w1 d v g1 r1 s1 => s1 w1 v (Go.refl g1.wd) rfl r1⟩
theorem psd_retN : PSD X W (.Return none pos) yRetN := by
  refine weakS ps_retN fun D σ H ⟨w, env, eH, hw, he, hs⟩ => ?_
  subst eH
  exact hs w .non (Go.refl hw) rfl rpn
theorem psd_if {x y : List Stmt} (hc : PTD X W c k) (ha : PSsD X W x g) (hb : PSsD X W y g') : PSD X W (.If c x y pos) (yIf k g g') := by
  refine weakS (ps_if hc ha hb) fun D σ H ⟨w, env, eH, hw, he, hs⟩ => ?_
  subst eH
  refine ⟨w, env, rfl, hw, he, SatW.imp (SatS.out hs he) fun w1 d v g1 r1 s1 => ?_⟩
  have e : d = v := r1
  subst e
  cases d with
  | true => exact iteT ⟨w1, env, rfl, g1.wd, he.go g1, s1⟩
  | false => exact iteF ⟨w1, env, rfl, g1.wd, he.go g1, s1⟩
theorem psd_set {i : Nat} {x : Str} {pos' : Pos} (hN : X.N.Nodup) (he : PD X W e f) (hi : X.N[i]? = some x := by rfl) (hx : Loc X.env.scope x := by first | exact .inl rfl | exact .inr rfl) (hs : swapsWith e (some (.Name x pos')) pos.line X.env = pure false := by rfl) (hf : X.fn x = true ∨ X.env.scope.names.lookup x = some .local := by first | exact .inl rfl | exact .inr rfl | assumption) :
    PSD X W (.Assign [.Name x pos'] e pos) (ySet i f) := by
  refine weakS (ps_set (i := i) hN hi hx he hs hf) fun D σ H ⟨w, env, eH, hw, he, hs⟩ => ?_
  subst eH
  exact ⟨w, env, rfl, hw, he, SatW.imp (SatS.out hs he) fun w1 d v g1 r1 s1 => s1 w1 _ (Go.refl g1.wd) rfl ((he.go g1).set r1)⟩
theorem psd_asg {tg : Expr} {gg : D → Env → Store → Out} (he : PD X W e f) (hg : PGD X tg gg) (hs : swapsWithSole [tg] e pos.line X.env = pure false := by rfl) (hw : swappedStores [tg] e X.env = pure none := by rfl)
    (h1 : (assignEach [tg] X.env).map (·.2) = [assign tg X.env] := by rfl) : PSD X W (.Assign [tg] e pos) (yAsg f (fun d e S => match gg d e S with | .nx e' S' => .nx e' S' | _ => .bad)) := by
  refine weakS (ps_asg he hg hs hw h1) fun D σ H ⟨w, env, eH, hw, he, hs⟩ => ?_
  subst eH
  refine ⟨w, env, rfl, hw, he, SatW.imp (SatS.out hs he) fun w1 d v g1 r1 s1 => ?_⟩
  refine ⟨w1, env, d, rfl, g1.wd, he.go g1, r1, ?_⟩
  cases o : gg d env w1.S with
  | nx e' S' => simp only [o] at s1; exact s1
  | _ => simp only [o] at s1; exact s1.elim
theorem psd_par {i j : Nat} {x y : Str} {px py pt : Pos} {k1 k2 pt2} (hc : X.calm = true) (hN : X.N.Nodup) (hij : i ≠ j) (ha : PAD X W [a, b] h) (hw : swappedStores [.Tuple [.Name x px, .Name y py] k1 pt] (.Tuple [a, b] k2 pt2) X.env = pure (some [x, y]))
    (hi : X.N[i]? = some x := by rfl) (hj : X.N[j]? = some y := by rfl) (hx : X.env.scope.names.lookup x = some .local := by rfl) (hy : X.env.scope.names.lookup y = some .local := by rfl)
    (hs : swapsWithSole [.Tuple [.Name x px, .Name y py] k1 pt] (.Tuple [a, b] k2 pt2) pos.line X.env = pure false := by rfl) :
    PSD X W (.Assign [.Tuple [.Name x px, .Name y py] k1 pt] (.Tuple [a, b] k2 pt2) pos) (yPar i j h) := by
  refine weakS (ps_par hc hN hi hj hij hx hy ha hw hs) fun D σ H ⟨w, env, eH, hw, he, hs⟩ => ?_
  subst eH
  refine ⟨w, env, rfl, hw, he, SatW.imp (SatS.out hs he) fun w1 d v g1 r1 s1 => ?_⟩
  match d, r1, s1 with
  | [], _, s1 => exact s1.elim
  | [_], _, s1 => exact s1.elim
  | [p, q], r1, s1 =>
    obtain ⟨v1, t, e1, r2, r3⟩ := Rps.cons_inv r1
    obtain ⟨v2, t2, e2, r4, r5⟩ := r3.cons_inv
    have e3 := r5.nil_inv
    subst e3 e2 e1
    exact ⟨v1, v2, rfl, s1 w1 _ (Go.refl g1.wd) rfl (((he.go g1).set r2).set r4)⟩
  | _ :: _ :: _ :: _, _, s1 => exact s1.elim
/-- a op= b, by values -/
def IpD (X : Cx) (op : Operator) (g : D → D → M D) : Prop :=
  ∃ rr : TIp, PIp X op rr ∧ ∀ (w : Wl) (x y : V) (d e : D) (W : WX) (σ : L2.St) (Q : VK), Wd X.K w → RD X.K w d x → RD X.K w e y → SatW (kt X) W σ (RD X.K) w (g d e w.S) (fun w' _ v => Q v w'.H) → rr x y w.H Q
theorem psd_aug {i : Nat} {x : Str} {pos' : Pos} {op : Operator} {gg : D → D → M D} (hN : X.N.Nodup) (ho : IpD X op gg) (he : PD X W e f) (hi : X.N[i]? = some x := by rfl) (hx : Loc X.env.scope x := by first | exact .inl rfl | exact .inr rfl) (hf : X.fn x = true ∨ X.env.scope.names.lookup x = some .local := by first | exact .inl rfl | exact .inr rfl | assumption) :
    PSD X W (.AugAssign (.Name x pos') op e pos) (yAug i f gg) := by
  obtain ⟨rr, ro, h1⟩ := ho
  refine weakS (ps_aug (i := i) hN hi hx he ro hf) fun D σ H ⟨w, env, eH, hw, he, hs⟩ => ?_
  subst eH
  unfold yAug at hs
  cases q : env[i]? with
  | none => rw [q] at hs; exact hs.elim
  | some o =>
    cases o with
    | none => rw [q] at hs; exact hs.elim
    | some d =>
      rw [q] at hs
      obtain ⟨v, e1, r⟩ := he.2 i d q
      refine ⟨v, e1, w, env, rfl, hw, he, SatW.imp (SatS.out hs he) fun w1 d1 v1 g1 r1 s1 => ?_⟩
      refine h1 w1 v v1 d d1 W σ _ g1.wd (Rp.go g1 r) r1 (SatW.imp (SatS.out s1 (he.go g1)) fun w2 d2 v2 g2 r2 s2 => ?_)
      exact s2 w2 _ (Go.refl g2.wd) rfl (((he.go g1).go g2).set r2)
end
end Dv
/-! # Dv4: loops, comprehensions, calls, a def's contract -/
namespace Dv
open PySem PySem.Spec PyProof.Rows L2

/-! ### while -/
def whN (c : Env → M Bool) (b : Env → Store → Out) : Nat → Env → Store → Option Out
  | 0, _, _ => none
  | n + 1, e, S => match c e S with
    | .ok true S1 => match b e S1 with
      | .nx e' S' => whN c b n e' S'
      | .ct e' S' => whN c b n e' S'
      | .bk e' S' => some (.nx e' S')
      | o => some o
    | .ok false S1 => some (.nx e S1)
    | .exc x S1 => some (.exc x e S1)
    | .bad => some .bad
open Classical in
noncomputable def yWhile (c : Env → M Bool) (b : Env → Store → Out) : Env → Store → Out := fun e S =>
  if h : ∃ o, ∃ n, whN c b n e S = some o then Classical.choose h else .bad
theorem whN_succ {c : Env → M Bool} {b : Env → Store → Out} : ∀ {n : Nat} {e : Env} {S : Store} {o : Out}, whN c b n e S = some o → whN c b (n + 1) e S = some o
  | 0, _, _, _, h => by cases h
  | n + 1, e, S, o, h => by
    unfold whN at h ⊢
    cases q : c e S with
    | bad => rw [q] at h; exact h
    | exc x S1 => rw [q] at h; exact h
    | ok t S1 =>
      rw [q] at h
      cases t with
      | false => exact h
      | true =>
        cases r : b e S1 with
        | nx e' S' => simp only [r] at h ⊢; exact whN_succ h
        | ct e' S' => simp only [r] at h ⊢; exact whN_succ h
        | bk e' S' => simp only [r] at h ⊢; exact h
        | rt d S' => simp only [r] at h ⊢; exact h
        | exc x e' S' => simp only [r] at h ⊢; exact h
        | bad => simp only [r] at h ⊢; exact h
theorem whN_le {c : Env → M Bool} {b : Env → Store → Out} {n m : Nat} {e : Env} {S : Store} {o : Out} (h : whN c b n e S = some o) (hl : n ≤ m) : whN c b m e S = some o := by
  induction hl with
  | refl => exact h
  | step _ ih => exact whN_succ ih
theorem yWhile_of {c : Env → M Bool} {b : Env → Store → Out} {n : Nat} {e : Env} {S : Store} {o : Out} (h : whN c b n e S = some o) : yWhile c b e S = o := by
  have hx : ∃ o, ∃ n, whN c b n e S = some o := ⟨o, n, h⟩
  unfold yWhile
  rw [dif_pos hx]
  obtain ⟨m, hm⟩ := Classical.choose_spec hx
  have h1 := whN_le h (Nat.le_max_left n m)
  have h2 := whN_le hm (Nat.le_max_right n m)
  rw [h1] at h2
  exact (Option.some.inj h2).symm
theorem yWhile_ends {c : Env → M Bool} {b : Env → Store → Out} {e : Env} {S : Store} (h : yWhile c b e S ≠ .bad) : ∃ n, whN c b n e S = some (yWhile c b e S) := by
  unfold yWhile at h ⊢
  by_cases hx : ∃ o, ∃ n, whN c b n e S = some o
  · rw [dif_pos hx]
    exact Classical.choose_spec hx
  · rw [dif_neg hx] at h
    exact (h rfl).elim
theorem yWhile_stop {c : Env → M Bool} {b : Env → Store → Out} {e : Env} {S S1 : Store} (h : c e S = .ok false S1) : yWhile c b e S = .nx e S1 := yWhile_of (n := 1) (by unfold whN; rw [h])
theorem whN_none_bad {c : Env → M Bool} {b : Env → Store → Out} {e : Env} {S : Store} (h : ¬ ∃ o n, whN c b n e S = some o) : yWhile c b e S = .bad := by
  unfold yWhile
  rw [dif_neg h]
theorem yWhile_go {c : Env → M Bool} {b : Env → Store → Out} {e : Env} {S S1 : Store} (h : c e S = .ok true S1) : yWhile c b e S = (match b e S1 with
    | .nx e' S' => yWhile c b e' S'
    | .ct e' S' => yWhile c b e' S'
    | .bk e' S' => .nx e' S'
    | o => o) := by
  have step : ∀ {e' : Env} {S' : Store}, (∀ n, whN c b (n + 1) e S = whN c b n e' S') → yWhile c b e S = yWhile c b e' S' := fun {e' S'} hh => by
    by_cases hx : ∃ o n, whN c b n e' S' = some o
    · obtain ⟨o, n, hn⟩ := hx
      rw [yWhile_of hn, yWhile_of (n := n + 1) (by rw [hh]; exact hn)]
    · rw [whN_none_bad hx, whN_none_bad]
      rintro ⟨o, n, hn⟩
      cases n with
      | zero => cases hn
      | succ n => exact hx ⟨o, n, by rw [← hh]; exact hn⟩
  cases q : b e S1 with
  | nx e' S' => exact step fun n => by rw [whN]; simp only [h, q]
  | ct e' S' => exact step fun n => by rw [whN]; simp only [h, q]
  | bk e' S' => exact yWhile_of (n := 1) (by rw [whN]; simp only [h, q])
  | rt d S' => exact yWhile_of (n := 1) (by rw [whN]; simp only [h, q])
  | exc x e' S' => exact yWhile_of (n := 1) (by rw [whN]; simp only [h, q])
  | bad => exact yWhile_of (n := 1) (by rw [whN]; simp only [h, q])
section
variable {X : Cx} {W : WX} {c : Expr} {body : List Stmt} {k : Env → M Bool} {g : Env → Store → Out} {pos : Pos}
theorem psd_while (hp : PassesOwn (model X.prog X.w) X.A X.env X.xe) (hc : PTD X W c k) (hb : PSsD X W body g) : PSD X W (.While c body [] pos) (yWhile k g) := by
  refine weakS (ps_while hp hc hb) fun D σ H ⟨w, env, eH, hw, he, hs⟩ => ?_
  subst eH
  have nb : yWhile k g env w.S ≠ .bad := fun z => by rw [z] at hs; exact hs
  obtain ⟨n, hn⟩ := yWhile_ends nb
  refine ⟨fun m σ H => ∃ w env o, w.H = H ∧ Wd X.K w ∧ EnvOk X.K w env σ ∧ whN k g m env w.S = some o ∧ SatS (kt X) W w o D, ⟨n, w, env, _, rfl, hw, he, hn, hs⟩, ?_⟩
  rintro m σ1 H1 ⟨w1, env1, o, rfl, hw1, he1, hm, hs1⟩
  refine ⟨w1, env1, rfl, hw1, he1, ?_⟩
  cases m with
  | zero => cases hm
  | succ m =>
    rw [whN] at hm
    cases q : k env1 w1.S with
    | bad => simp only [q] at hm; cases hm; exact hs1.elim
    | exc x S1 =>
      simp only [q] at hm
      have e := Option.some.inj hm
      subst e
      exact fun w' cls dd g' e q => hs1 w' σ1 cls dd g' e (he1.go g') q
    | ok t S1 =>
      intro w2 v g2 eS ev
      have ev' : t = v := ev
      subst ev' eS
      cases t with
      | false =>
        simp only [q] at hm
        have e := Option.some.inj hm
        subst e
        exact iteF (hs1 w2 σ1 g2 rfl (he1.go g2))
      | true =>
        refine iteT ⟨fun σ' H' => ∃ w3 env3 o, w3.H = H' ∧ Wd X.K w3 ∧ EnvOk X.K w3 env3 σ' ∧ whN k g m env3 w3.S = some o ∧ SatS (kt X) W w3 o D, fun σ' H' z => ⟨m, Nat.lt_succ_self m, z⟩, w2, env1, rfl, g2.wd, he1.go g2, ?_⟩
        simp only [q] at hm
        cases r : g env1 w2.S with
        | nx e' S' => simp only [r] at hm; exact fun w3 σ3 g3 e3 he3 => ⟨w3, e', o, rfl, g3.wd, he3, by rw [e3]; exact hm, hs1.pre (g2.trans g3)⟩
        | ct e' S' => simp only [r] at hm; exact fun w3 σ3 g3 e3 he3 => ⟨w3, e', o, rfl, g3.wd, he3, by rw [e3]; exact hm, hs1.pre (g2.trans g3)⟩
        | bk e' S' => simp only [r] at hm; have e := Option.some.inj hm; subst e; exact fun w3 σ3 g3 e3 he3 => hs1 w3 σ3 (g2.trans g3) e3 he3
        | rt d S' => simp only [r] at hm; have e := Option.some.inj hm; subst e; exact fun w3 v3 g3 e3 r3 => hs1 w3 v3 (g2.trans g3) e3 r3
        | exc x e' S' => simp only [r] at hm; have e := Option.some.inj hm; subst e; exact fun w3 σ3 cls dd g3 e3 he3 q3 => hs1 w3 σ3 cls dd (g2.trans g3) e3 he3 q3
        | bad => simp only [r] at hm; have e := Option.some.inj hm; subst e; exact hs1.elim
end

/-! ### what is walked -/
structure Src where
  items : List D
  chk : Store → Prop
def ItOk (K : PySem.W.Frag) (w0 : Wl) (J : It) (s : Src) : Prop :=
  ∀ w1, Go K w0 w1 → s.chk w1.S → (∀ (i : Nat) d, s.items[i]? = some d → J.go i w1.H ∧ ∀ x H', J.yld i w1.H x H' → ∃ w2, Go K w1 w2 ∧ w2.S = w1.S ∧ w2.H = H' ∧ Rp K w2.r w2.F d x) ∧ J.stop s.items.length w1.H
def iD (T : Kt) (W : WX) (f : Env → M Src) : TI := fun σ H R => ∃ (w : Wl) (env : Env), w.H = H ∧ Wd T.K w ∧ EnvOk T.K w env σ ∧ SatW T W σ (fun w' s J => ItOk T.K w' J s) w (f env w.S) (fun w' _ J => R J w'.H)
def PID (X : Cx) (W : WX) (tg iter : Expr) (f : Env → M Src) : Prop := PI X tg iter (iD (kt X) W f)
theorem weakI {X : Cx} {tg iter : Expr} {t t' : TI} (h : PI X tg iter t) (q : ∀ σ H R, t' σ H R → t σ H R) : PI X tg iter t' := ⟨fun pins s σ H R I z => h.run pins s σ H R I (q _ _ _ z)⟩

/-- a list, frozen or a cell that stays -/
def srcL (d : D) (S : Store) : Res Src := match d with
  | .lst l => .ok ⟨l, fun _ => True⟩ S
  | .scr l => .ok ⟨l, fun _ => True⟩ S
  | .cell n => match S[n]? with
    | some (.lst l) => .ok ⟨l, fun S' => S'[n]? = some (.lst l)⟩ S
    | _ => .bad
  | _ => .bad
def srcT (d : D) (S : Store) : Res Src := match d with
  | .tup l => .ok ⟨l, fun _ => True⟩ S
  | _ => .bad
def irange (lo : Int) (n : Nat) : List D := (List.range n).map fun (i : Nat) => D.int (lo + (i : Int))
def rng62 (i : Int) : Prop := -(2 ^ 62) ≤ i ∧ i < 2 ^ 62
/- kept from the kernel: it would count down from 2 ^ 62 -/
noncomputable instance (i : Int) : Decidable (rng62 i) := Classical.propDecidable _
noncomputable def srcR1 (l : List D) (S : Store) : Res Src := match l with
  | [.int j] => if rng62 j then .ok ⟨irange 0 j.toNat, fun _ => True⟩ S else .bad
  | _ => .bad
noncomputable def srcR2 (l : List D) (S : Store) : Res Src := match l with
  | [.int i, .int j] => if rng62 i ∧ rng62 j then .ok ⟨irange i (j - i).toNat, fun _ => True⟩ S else .bad
  | _ => .bad
def iSrc (k : D → Store → Res Src) (f : Env → M D) : Env → M Src := fun e S => (f e S).bind k
def iSrcA (k : List D → Store → Res Src) (f : Env → M (List D)) : Env → M Src := fun e S => (f e S).bind k
theorem Rps.nth {K : PySem.W.Frag} {r : List Addr} {F : Hp} : ∀ {l : List D} {vs : List V} {i : Nat} {v : V}, Rps K r F l vs → vs[i]? = some v → ∃ d, l[i]? = some d ∧ Rp K r F d v := fun {l vs i v} h e => by
  have hl := h.length
  have hi : i < l.length := by
    have := (List.getElem?_eq_some_iff.mp e).1
    omega
  obtain ⟨v', e2, p⟩ := h.get (i := i) (d := l[i]) (List.getElem?_eq_getElem hi)
  rw [e] at e2
  cases e2
  exact ⟨_, List.getElem?_eq_getElem hi, p⟩
section
variable {X : Cx} {W : WX} {tg e : Expr} {f : Env → M D} {h : Env → M (List D)} {pos p : Pos}
theorem itl_ok {K : PySem.W.Frag} {w0 : Wl} {a : Addr} {l : List D} {chk : Store → Prop} (hh : ∀ w1, Go K w0 w1 → chk w1.S → ∃ vs, SqL K w1.H a vs ∧ Rps K w1.r w1.F l vs) : ItOk K w0 (Itl K a) ⟨l, chk⟩ := fun w1 g hc => by
  obtain ⟨vs, q, r⟩ := hh w1 g hc
  refine ⟨fun i d e => ?_, vs, q, Nat.le_of_eq r.length⟩
  obtain ⟨v, ev, rv⟩ := r.get e
  refine ⟨⟨vs, v, q, ev⟩, fun x H' y => ?_⟩
  obtain ⟨eH, fx⟩ := y
  have ex : x = v := Option.some.inj ((fx _ q).symm.trans ev)
  subst ex
  exact ⟨w1, Go.refl g.wd, rfl, eH.symm, rv⟩
theorem itt_ok {K : PySem.W.Frag} {w0 : Wl} {a : Addr} {l : List D} {chk : Store → Prop} (hh : ∀ w1, Go K w0 w1 → chk w1.S → ∃ vs, SqT K w1.H a vs ∧ Rps K w1.r w1.F l vs) : ItOk K w0 (Itt K a) ⟨l, chk⟩ := fun w1 g hc => by
  obtain ⟨vs, q, r⟩ := hh w1 g hc
  refine ⟨fun i d e => ?_, vs, q, Nat.le_of_eq r.length⟩
  obtain ⟨v, ev, rv⟩ := r.get e
  refine ⟨⟨vs, v, q, ev⟩, fun x H' y => ?_⟩
  obtain ⟨eH, fx⟩ := y
  have ex : x = v := Option.some.inj ((fx _ q).symm.trans ev)
  subst ex
  exact ⟨w1, Go.refl g.wd, rfl, eH.symm, rv⟩
theorem itr_ok {K : PySem.W.Frag} {w0 : Wl} {lo : Int} {n : Nat} {chk : Store → Prop} : ItOk K w0 (Itr lo n) ⟨irange lo n, chk⟩ := fun w1 g hc => by
  refine ⟨fun i d e => ?_, ?_⟩
  · unfold irange at e
    rw [List.getElem?_map] at e
    have hi : i < n := by
      have z := (List.getElem?_eq_some_iff.mp (show ((List.range n).map fun (i : Nat) => D.int (lo + (i : Int)))[i]? = some d by rw [List.getElem?_map]; exact e)).1
      simpa using z
    rw [List.getElem?_range hi] at e
    have ed := Option.some.inj e
    subst ed
    refine ⟨hi, fun x H' y => ?_⟩
    obtain ⟨eH, ex⟩ := y
    exact ⟨w1, Go.refl g.wd, rfl, by first | exact eH.symm | exact ex.symm, by first | (subst ex; exact rpi) | (subst eH; exact rpi)⟩
  · show n ≤ (irange lo n).length
    simp [irange]
theorem pid_list (ha : PD X W e f) : PID X W tg e (iSrc srcL f) := by
  refine weakI (pi_list ha) fun σ H R ⟨w, env, eH, hw, he, hs⟩ => ?_
  subst eH
  refine ⟨w, env, rfl, hw, he, SatW.imp (SatW.bind hs) fun w1 d v g1 r1 s1 => ?_⟩
  cases d with
  | lst l =>
    obtain ⟨a, vs, rfl, q, p⟩ := getL_ok g1.wd (show Rp X.K w1.r w1.F (.lst l) v from r1) rfl
    refine ⟨a, rfl, ⟨vs, .inl (.inl q)⟩, SatW.here (d := (⟨l, fun _ => True⟩ : Src)) s1 g1.wd (itl_ok fun w2 g2 _ => ?_)⟩
    have r2 : Rp X.K w2.r w2.F (.lst l) (.ref a) := Rp.go g2 r1
    obtain ⟨a', vs', e', q', p'⟩ := getL_ok g2.wd r2 rfl
    cases e'
    exact ⟨vs', .inl (.inl q'), p'⟩
  | scr l =>
    obtain ⟨a, vs, rfl, q, p⟩ := getQ_ok g1.wd (show Rp X.K w1.r w1.F (.scr l) v from r1) rfl
    refine ⟨a, rfl, ⟨vs, q⟩, SatW.here (d := (⟨l, fun _ => True⟩ : Src)) s1 g1.wd (itl_ok fun w2 g2 _ => ?_)⟩
    have r2 : Rp X.K w2.r w2.F (.scr l) (.ref a) := Rp.go g2 r1
    obtain ⟨a', vs', e', q', p'⟩ := getQ_ok g2.wd r2 rfl
    cases e'
    exact ⟨vs', q', p'⟩
  | cell n =>
    have s1' : SatW (kt X) W σ _ w1 (srcL (.cell n) w1.S) _ := s1
    unfold srcL at s1'
    cases en : w1.S[n]? with
    | none => simp only [en] at s1'; exact s1'.elim
    | some c =>
      cases c with
      | lst l =>
        simp only [en] at s1'
        obtain ⟨a, vs, rfl, q, p⟩ := getL_ok (l := l) g1.wd (show Rp X.K w1.r w1.F (.cell n) v from r1) (by simp only [getL, en])
        refine ⟨a, rfl, ⟨vs, .inl (.inl q)⟩, SatW.here (d := (⟨l, fun S' => S'[n]? = some (.lst l)⟩ : Src)) s1' g1.wd (itl_ok fun w2 g2 hc => ?_)⟩
        have hc' : w2.S[n]? = some (.lst l) := hc
        have r2 : Rp X.K w2.r w2.F (.cell n) (.ref a) := Rp.go g2 r1
        obtain ⟨a', vs', e', q', p'⟩ := getL_ok (l := l) g2.wd r2 (by simp only [getL, hc'])
        cases e'
        exact ⟨vs', .inl (.inl q'), p'⟩
      | dct l => simp only [en] at s1'; exact s1'.elim
      | dead => simp only [en] at s1'; exact s1'.elim
  | _ => exact s1.elim
theorem pid_tup (ha : PD X W e f) : PID X W tg e (iSrc srcT f) := by
  refine weakI (pi_tup ha) fun σ H R ⟨w, env, eH, hw, he, hs⟩ => ?_
  subst eH
  refine ⟨w, env, rfl, hw, he, SatW.imp (SatW.bind hs) fun w1 d v g1 r1 s1 => ?_⟩
  cases d with
  | tup l =>
    obtain ⟨a, vs, rfl, q, p⟩ := getT_ok g1.wd (show Rp X.K w1.r w1.F (.tup l) v from r1) rfl
    refine ⟨a, rfl, ⟨vs, .inl q⟩, SatW.here (d := (⟨l, fun _ => True⟩ : Src)) s1 g1.wd (itt_ok fun w2 g2 _ => ?_)⟩
    have r2 : Rp X.K w2.r w2.F (.tup l) (.ref a) := Rp.go g2 r1
    obtain ⟨a', vs', e', q', p'⟩ := getT_ok g2.wd r2 rfl
    cases e'
    exact ⟨vs', .inl q', p'⟩
  | _ => exact s1.elim
theorem pid_range1 {a : Expr} (hm : X.mg "range" = none) (ha : PAD X W [a] h) (hg : Gl X "range" := by rfl) (hs : starEach [a] X.env = [(false, eval a X.env)] := by rfl) : PID X W tg (.Call (.Name "range" p) [a] [] pos) (iSrcA srcR1 h) := by
  refine weakI (pi_range1 hg hm ha hs) fun σ H R ⟨w, env, eH, hw, he, hs⟩ => ?_
  subst eH
  refine ⟨w, env, rfl, hw, he, SatW.imp (SatW.bind hs) fun w1 d v g1 r1 s1 => ?_⟩
  have r2 : Rps X.K w1.r w1.F d v := r1
  match d, r2, s1 with
  | [], _, s1 => exact s1.elim
  | [.int j], r2, s1 =>
    obtain ⟨v1, t, e1, q1, q2⟩ := r2.cons_inv
    have e2 := q2.nil_inv
    cases rp_int q1
    subst e2 e1
    obtain ⟨hj, s2⟩ := satIf s1
    exact ⟨j, rfl, hj.1, hj.2, SatW.here s2 g1.wd itr_ok⟩
  | [.non], _, s1 => exact s1.elim
  | [.bl _], _, s1 => exact s1.elim
  | [.str _], _, s1 => exact s1.elim
  | [.tup _], _, s1 => exact s1.elim
  | [.lst _], _, s1 => exact s1.elim
  | [.scr _], _, s1 => exact s1.elim
  | [.cell _], _, s1 => exact s1.elim
  | [.raw _], _, s1 => exact s1.elim
  | [.cls _], _, s1 => exact s1.elim
  | [.exn _ _], _, s1 => exact s1.elim
  | x :: _ :: _, _, s1 => cases x <;> exact s1.elim
theorem pid_range2 {a b : Expr} (hm : X.mg "range" = none) (ha : PAD X W [a, b] h) (hg : Gl X "range" := by rfl) (hs : starEach [a, b] X.env = [(false, eval a X.env), (false, eval b X.env)] := by rfl) (hs2 : starEach [b] X.env = [(false, eval b X.env)] := by rfl) : PID X W tg (.Call (.Name "range" p) [a, b] [] pos) (iSrcA srcR2 h) := by
  refine weakI (pi_range2 hg hm ha hs hs2) fun σ H R ⟨w, env, eH, hw, he, hs⟩ => ?_
  subst eH
  refine ⟨w, env, rfl, hw, he, SatW.imp (SatW.bind hs) fun w1 d v g1 r1 s1 => ?_⟩
  have r2 : Rps X.K w1.r w1.F d v := r1
  have key : ∃ i j, d = [.int i, .int j] := by
    match d, s1 with
    | [.int i, .int j], _ => exact ⟨i, j, rfl⟩
    | [], s1 => exact s1.elim
    | [x], s1 => cases x <;> exact s1.elim
    | x :: y :: z :: t, s1 => cases x <;> cases y <;> exact s1.elim
    | [.non, y], s1 => cases y <;> exact s1.elim
    | [.bl _, y], s1 => cases y <;> exact s1.elim
    | [.str _, y], s1 => cases y <;> exact s1.elim
    | [.tup _, y], s1 => cases y <;> exact s1.elim
    | [.lst _, y], s1 => cases y <;> exact s1.elim
    | [.scr _, y], s1 => cases y <;> exact s1.elim
    | [.cell _, y], s1 => cases y <;> exact s1.elim
    | [.raw _, y], s1 => cases y <;> exact s1.elim
    | [.cls _, y], s1 => cases y <;> exact s1.elim
    | [.exn _ _, y], s1 => cases y <;> exact s1.elim
    | [.int _, .non], s1 => exact s1.elim
    | [.int _, .bl _], s1 => exact s1.elim
    | [.int _, .str _], s1 => exact s1.elim
    | [.int _, .tup _], s1 => exact s1.elim
    | [.int _, .lst _], s1 => exact s1.elim
    | [.int _, .scr _], s1 => exact s1.elim
    | [.int _, .cell _], s1 => exact s1.elim
    | [.int _, .raw _], s1 => exact s1.elim
    | [.int _, .cls _], s1 => exact s1.elim
    | [.int _, .exn _ _], s1 => exact s1.elim
  obtain ⟨i, j, rfl⟩ := key
  obtain ⟨v1, t, e1, q1, q2⟩ := r2.cons_inv
  obtain ⟨v2, t2, e2, q3, q4⟩ := q2.cons_inv
  have e3 := q4.nil_inv
  cases rp_int q1
  cases rp_int q3
  subst e3 e2 e1
  obtain ⟨hj, s2⟩ := satIf s1
  exact ⟨i, j, rfl, ⟨hj.1.1, hj.1.2, hj.2.1, hj.2.2⟩, SatW.here s2 g1.wd itr_ok⟩
end

/-! ### for -/
open Classical in
noncomputable def forL (chk : Store → Prop) (g : D → Env → Store → Out) (b : Env → Store → Out) : List D → Env → Store → Out
  | [], e, S => if chk S then .nx e S else .bad
  | d :: l, e, S => if chk S then match g d e S with
      | .nx e1 S1 => match b e1 S1 with
        | .nx e' S' => forL chk g b l e' S'
        | .ct e' S' => forL chk g b l e' S'
        | .bk e' S' => .nx e' S'
        | o => o
      | _ => .bad
    else .bad
noncomputable def yFor (src : Env → M Src) (g : D → Env → Store → Out) (b : Env → Store → Out) : Env → Store → Out := fun e S => (src e S).out e fun s S1 => forL s.chk g b s.items e S1
section
variable {X : Cx} {W : WX} {tg iter : Expr} {body : List Stmt} {src : Env → M Src} {gg : D → Env → Store → Out} {g : Env → Store → Out} {pos : Pos}
theorem drop_get {α : Type} {l : List α} {i : Nat} {d : α} {r : List α} (h : l.drop i = d :: r) : l[i]? = some d ∧ l.drop (i + 1) = r := by
  have h1 : (l.drop i)[0]? = some d := by rw [h]; rfl
  rw [List.getElem?_drop] at h1
  refine ⟨by simpa using h1, ?_⟩
  rw [← List.drop_drop, h]
  rfl
theorem drop_nil {α : Type} {l : List α} {i : Nat} (h : l.drop i = []) (hi : i ≤ l.length) : i = l.length := by
  have := congrArg List.length h
  simp at this
  omega
theorem psd_for (hp : PassesOwn (model X.prog X.w) X.A X.env X.xe) (hc : X.calm = true) (hi : PID X W tg iter src) (hg : PGD X tg gg) (hb : PSsD X W body g) (hfs : ∀ x, foldedSetIterable iter X.env x = pure x := by intro _; rfl) :
    PSD X W (.For tg iter body [] pos) (yFor src gg g) := by
  refine weakS (ps_for hp hc hi hg hb hfs) fun D σ H ⟨w, env, eH, hw, he, hs⟩ => ?_
  subst eH
  refine ⟨w, env, rfl, hw, he, SatW.imp (SatS.out hs he) fun w1 s J g1 it s1 => ?_⟩
  have it' : ItOk X.K w1 J s := it
  refine ⟨fun i m σ H => ∃ w env, w.H = H ∧ Go X.K w1 w ∧ EnvOk X.K w env σ ∧ i ≤ s.items.length ∧ m = s.items.length - i ∧ SatS (kt X) W w (forL s.chk gg g (s.items.drop i) env w.S) D, ⟨s.items.length, w1, env, rfl, Go.refl g1.wd, he.go g1, Nat.zero_le _, rfl, s1⟩, ?_⟩
  rintro i m σ2 H2 ⟨w2, env2, rfl, g2, he2, hil, rfl, s2⟩
  cases ed : s.items.drop i with
  | nil =>
    rw [ed, forL] at s2
    by_cases hk : s.chk w2.S
    · rw [if_pos hk] at s2
      refine .inl ⟨?_, s2 w2 σ2 (Go.refl g2.wd) rfl he2⟩
      rw [drop_nil ed hil]
      exact (it' w2 g2 hk).2
    · rw [if_neg hk] at s2
      exact s2.elim
  | cons d l =>
    obtain ⟨e1, e2⟩ := drop_get ed
    have hlt : i < s.items.length := (List.getElem?_eq_some_iff.mp e1).1
    rw [ed, forL] at s2
    by_cases hk : s.chk w2.S
    · rw [if_pos hk] at s2
      obtain ⟨go, yl⟩ := (it' w2 g2 hk).1 i d e1
      refine .inr ⟨go, fun σ' H' => ∃ w env, w.H = H' ∧ Go X.K w1 w ∧ EnvOk X.K w env σ' ∧ SatS (kt X) W w (forL s.chk gg g (s.items.drop (i + 1)) env w.S) D, fun σ' H' ⟨w', env', q1, q2, q3, q4⟩ => ⟨s.items.length - (i + 1), by omega, w', env', q1, q2, q3, hlt, rfl, q4⟩, fun x H' y => ?_⟩
      obtain ⟨w3, g3, eS3, eH3, r3⟩ := yl x H' y
      refine ⟨w3, env2, d, eH3, g3.wd, he2.go g3, r3, ?_⟩
      rw [eS3]
      cases og : gg d env2 w2.S with
      | nx e' S' =>
        simp only [og] at s2
        intro w4 σ4 g4 eS4 he4
        subst eS4
        refine ⟨w4, e', rfl, g4.wd, he4, ?_⟩
        cases ob : g e' w4.S with
        | nx e5 S5 => simp only [ob] at s2; exact fun w5 σ5 g5 eS5 he5 => ⟨w5, e5, rfl, (g2.trans g3).trans (g4.trans g5), he5, by rw [e2, eS5]; exact s2.pre (g3.trans (g4.trans g5))⟩
        | ct e5 S5 => simp only [ob] at s2; exact fun w5 σ5 g5 eS5 he5 => ⟨w5, e5, rfl, (g2.trans g3).trans (g4.trans g5), he5, by rw [e2, eS5]; exact s2.pre (g3.trans (g4.trans g5))⟩
        | bk e5 S5 => simp only [ob] at s2; exact fun w5 σ5 g5 eS5 he5 => s2 w5 σ5 (g3.trans (g4.trans g5)) eS5 he5
        | rt d5 S5 => simp only [ob] at s2; exact fun w5 v5 g5 eS5 r5 => s2 w5 v5 (g3.trans (g4.trans g5)) eS5 r5
        | exc x5 e5 S5 => simp only [ob] at s2; exact fun w5 σ5 cls dd g5 eS5 he5 q5 => s2 w5 σ5 cls dd (g3.trans (g4.trans g5)) eS5 he5 q5
        | bad => simp only [ob] at s2; exact s2.elim
      | _ => simp only [og] at s2; exact s2.elim
    · rw [if_neg hk] at s2
      exact s2.elim
end

/-! ### comprehensions -/
def wipeE (e : Env) : List Nat → Env
  | [] => e
  | v :: vs => (wipeE e vs).set v none
abbrev W0 : WX := fun _ _ _ _ => False
open Classical in
noncomputable def lcL (chk : Store → Prop) (g : D → Env → Option Env) (c : Env → M Bool) (f : Env → M D) (e0 : Env) : List D → List D → Store → Res (List D)
  | [], acc, S => if chk S then .ok acc S else .bad
  | d :: l, acc, S => if chk S then match g d e0 with
      | some e1 => match c e1 S with
        | .ok true S2 => match f e1 S2 with
          | .ok y S3 => if acc.length < 16000000 then lcL chk g c f e0 l (acc ++ [y]) S3 else .bad
          | _ => .bad
        | .ok false S2 => lcL chk g c f e0 l acc S2
        | _ => .bad
      | none => .bad
    else .bad
noncomputable def xLc (mk : List D → M D) (src : Env → M Src) (g : D → Env → Option Env) (c : Env → M Bool) (f : Env → M D) (vs : List Nat) : Env → M D := fun e S =>
  (src e S).bind fun s S1 => (lcL s.chk g c f (wipeE e vs) s.items [] S1).bind fun l S2 => mk l S2
theorem EnvOk.wipe {K : PySem.W.Frag} {w : Wl} {env : Env} {σ : L2.St} (h : EnvOk K w env σ) : ∀ vs : List Nat, EnvOk K w (wipeE env vs) (wipe σ vs)
  | [] => h
  | _ :: vs => (EnvOk.wipe h vs).unset
theorem wipe_get {σ : L2.St} {k : Nat} : ∀ {vs : List Nat}, (wipe σ vs)[k]? = if k ∈ vs then (if k < σ.length then some none else none) else σ[k]?
  | [] => by simp [wipe]
  | v :: vs => by
    unfold wipe
    rw [List.getElem?_set, wipe_length, wipe_get (vs := vs)]
    by_cases h : v = k
    · subst h; simp
    · rw [if_neg h]
      have hm : (k ∈ v :: vs) ↔ k ∈ vs := by simp [Ne.symm h]
      by_cases hk : k ∈ vs
      · rw [if_pos hk, if_pos (hm.mpr hk)]
      · rw [if_neg hk, if_neg (fun z => hk (hm.mp z))]
theorem wipe_eq {σ σ' : L2.St} {vs : List Nat} (hl : σ'.length = σ.length) (h : ∀ k, k ∉ vs → σ'[k]? = σ[k]?) : wipe σ' vs = wipe σ vs := by
  apply List.ext_getElem?
  intro k
  rw [wipe_get, wipe_get, hl]
  by_cases hk : k ∈ vs
  · rw [if_pos hk, if_pos hk]
  · rw [if_neg hk, if_neg hk, h k hk]
/-- a comprehension's target -/
def TgD (T : Kt) (vs : List Nat) (gV : TG) (gE : D → Env → Option Env) : Prop :=
  ∀ (w : Wl) (d : D) (v : V) (env env' : Env) (σ : L2.St) (Q : L2.St → Hp → Prop), Wd T.K w → Rp T.K w.r w.F d v → EnvOk T.K w env σ → gE d env = some env' →
    (∀ σ' : L2.St, EnvOk T.K w env' σ' → σ'.length = σ.length → (∀ k, k ∉ vs → σ'[k]? = σ[k]?) → Q σ' w.H) → gV v σ w.H Q
def eN (i : Nat) : D → Env → Option Env := fun d e => some (e.set i (some d))
def eT2 (i j : Nat) : D → Env → Option Env := fun d e => match d with
  | .tup [a, b] => some ((e.set i (some a)).set j (some b))
  | _ => none
def eT3 (i j k : Nat) : D → Env → Option Env := fun d e => match d with
  | .tup [a, b, c] => some (((e.set i (some a)).set j (some b)).set k (some c))
  | _ => none
theorem tg_N {T : Kt} {i : Nat} {vs : List Nat} (hi : i ∈ vs) : TgD T vs (gName i) (eN i) := fun w d v env env' σ Q hw hr he e q => by
  have e' := Option.some.inj e
  subst e'
  refine q _ (he.set hr) (by simp) fun k hk => ?_
  rw [List.getElem?_set_ne (fun z => hk (by rw [← z]; exact hi))]
theorem tg_T2 {T : Kt} {i j : Nat} {vs : List Nat} (hi : i ∈ vs) (hj : j ∈ vs) : TgD T vs (gTup T.K 2 (gCons (gName i) (gCons (gName j) gNil))) (eT2 i j) := fun w d v env env' σ Q hw hr he e q => by
  unfold eT2 at e
  split at e
  · rename_i a b
    have e' := Option.some.inj e
    subst e'
    obtain ⟨p, xs, rfl, hp, hx⟩ := getT_ok hw hr rfl
    obtain ⟨v1, t, e1, r1, r2⟩ := hx.cons_inv
    obtain ⟨v2, t2, e2, r3, r4⟩ := r2.cons_inv
    have e3 := r4.nil_inv
    subst e3 e2 e1
    refine ⟨p, _, rfl, .inl hp, rfl, v1, [v2], rfl, v2, [], rfl, rfl, q _ ((he.set r1).set r3) (by simp) fun k hk => ?_⟩
    rw [List.getElem?_set_ne (fun z => hk (by rw [← z]; exact hj)), List.getElem?_set_ne (fun z => hk (by rw [← z]; exact hi))]
  · cases e
theorem tg_T3 {T : Kt} {i j l : Nat} {vs : List Nat} (hi : i ∈ vs) (hj : j ∈ vs) (hl : l ∈ vs) : TgD T vs (gTup T.K 3 (gCons (gName i) (gCons (gName j) (gCons (gName l) gNil)))) (eT3 i j l) := fun w d v env env' σ Q hw hr he e q => by
  unfold eT3 at e
  split at e
  · rename_i a b c
    have e' := Option.some.inj e
    subst e'
    obtain ⟨p, xs, rfl, hp, hx⟩ := getT_ok hw hr rfl
    obtain ⟨v1, t, e1, r1, r2⟩ := hx.cons_inv
    obtain ⟨v2, t2, e2, r3, r4⟩ := r2.cons_inv
    obtain ⟨v3, t3, e3, r5, r6⟩ := r4.cons_inv
    have e4 := r6.nil_inv
    subst e4 e3 e2 e1
    refine ⟨p, _, rfl, .inl hp, rfl, v1, [v2, v3], rfl, v2, [v3], rfl, v3, [], rfl, rfl, q _ (((he.set r1).set r3).set r5) (by simp) fun k hk => ?_⟩
    rw [List.getElem?_set_ne (fun z => hk (by rw [← z]; exact hl)), List.getElem?_set_ne (fun z => hk (by rw [← z]; exact hj)), List.getElem?_set_ne (fun z => hk (by rw [← z]; exact hi))]
  · cases e
def cYes : Env → M Bool := fun _ S => .ok true S
/-- what isn't in the store stays so -/
theorem Go.loosely {K : PySem.W.Frag} {w w1 : Wl} (g : Go K w w1) {p : Addr} {o : HO} (h1 : w.H p = some o) (h2 : w.F p = none) (h3 : ∀ (n : Nat), w.r[n]? = some p → ¬ alv w.S n) :
    w1.H p = some o ∧ w1.F p = none ∧ ∀ (n : Nat), w1.r[n]? = some p → ¬ alv w1.S n := by
  refine ⟨g.fr p o h1 h3, g.fnew p (by rw [h1]; simp) h2 h3, fun n e q => ?_⟩
  by_cases hn : n < w.S.length
  · exact h3 n (pre_back g.pre (by rw [g.len]; exact hn) e) (g.live n hn q)
  · have := g.new n p (Nat.le_of_not_lt hn) e q
    rw [h1] at this
    cases this
section
variable {X : Cx} {W : WX} {elt tg iter : Expr} {ifs : List Expr} {scope : Scope} {own : List (Str × Nat)} {pos : Pos} {mk : List D → M D} {src : Env → M Src} {gV : TG} {gE : D → Env → Option Env} {c : Env → M Bool} {f : Env → M D}
/-- the reading of a comprehension -/
theorem lc_read (m : Mk mk) (tgd : TgD (kt X) (own.map (·.2)) gV gE) {tt : TT} (htt : ∀ σ H Q, tDB (kt X) W0 c σ H Q → tt σ H Q) {σ : L2.St} {H : Hp} {Q : VK} (hh : tD (kt X) W (xLc mk src gE c f (own.map (·.2))) σ H Q) :
    tLc (iD (kt X) W src) gV tt (tD (kt X) W0 f) (own.map (·.2)) σ H Q := by
  obtain ⟨w, env, eH, hw, he, hs⟩ := hh
  subst eH
  generalize own.map (·.2) = vs at tgd hs ⊢
  refine ⟨w, env, rfl, hw, he, SatW.imp (SatW.bind hs) fun w1 s J g1 it s1 => ?_⟩
  have it' : ItOk X.K w1 J s := it
  intro Dd hD
  -- the list under way at Dd
  refine ⟨fun i mm H => ∃ w2 acc accV, w2.H = H ∧ Go X.K w1 w2 ∧ (i ≤ s.items.length ∧ mm = s.items.length - i) ∧ w2.H Dd = some (.lst accV) ∧ w2.F Dd = none ∧ (∀ (n : Nat), w2.r[n]? = some Dd → ¬ alv w2.S n) ∧ Rps X.K w2.r w2.F acc accV ∧
      SatW (kt X) W σ (RD X.K) w1 ((lcL s.chk gE c f (wipeE env vs) (s.items.drop i) acc w2.S).bind fun l S2 => mk l S2) (fun w' _ v => Q v w'.H), ⟨s.items.length, ?_⟩, ?_⟩
  · refine ⟨⟨w1.r, w1.F, w1.S, upd w1.H Dd (.lst [])⟩, [], [], rfl, ?_, ⟨Nat.zero_le _, rfl⟩, upd_same, g1.wd.fresh hD, fun n e q => ?_, rps_nil, s1⟩
    · refine ⟨⟨g1.wd.len, fun b x e => ?_, fun k a cc e1 e2 => (g1.wd.cell k a cc e1 e2).mono ⟨[], by simp⟩ (Same.refl _) (fun _ z => z) (fun hd x z => ?_), g1.wd.inj⟩, ⟨[], by simp⟩, g1.wd.len, fun _ _ q => q, fun k a hk e _ => ?_, Same.refl _, fun a x e _ => ?_, fun a e => ?_, fun _ _ q _ => q⟩
      · show upd w1.H Dd (.lst []) b = some x
        have e' := g1.wd.same _ _ e
        rw [upd_ne (ne_of_none e' hD)]
        exact e'
      · show upd w1.H Dd (.lst []) a = some x
        rw [upd_ne (ne_of_none z hD)]
        exact z
      · have hk1 : k < w1.r.length := (List.getElem?_eq_some_iff.mp e).1
        have hk2 : w1.S.length ≤ k := hk
        have := g1.wd.len
        omega
      · show upd w1.H Dd (.lst []) a = some x
        rw [upd_ne (ne_of_none e hD)]
        exact e
      · have e' : upd w1.H Dd (.lst []) a = none := e
        by_cases hb : a = Dd
        · subst hb
          rw [upd_same] at e'
          cases e'
        · rw [upd_ne hb] at e'
          exact e'
    · obtain ⟨cc, e2, hd⟩ := q
      obtain ⟨o, eo⟩ := (g1.wd.cell n Dd cc e e2).some hd
      rw [hD] at eo
      cases eo
  · rintro i m' H2 ⟨w2, acc, accV, rfl, g2, ⟨hil, rfl⟩, hDd, hFd, hnc, hrs, s2⟩
    cases ed : s.items.drop i with
    | nil =>
      rw [ed, lcL] at s2
      by_cases hk : s.chk w2.S
      · rw [if_pos hk, Res.bind_ok] at s2
        obtain ⟨w', d', eH', q'⟩ := m.adopt (T := kt X) (W := W) (σ := σ) g2 hD hDd hFd hnc hrs s2
        refine .inl ⟨?_, ?_⟩
        · rw [drop_nil ed hil]
          exact (it' w2 g2 hk).2
        · rw [← eH']
          exact q'
      · rw [if_neg hk] at s2
        exact s2.elim
    | cons d l =>
      obtain ⟨e1, e2⟩ := drop_get ed
      have hlt : i < s.items.length := (List.getElem?_eq_some_iff.mp e1).1
      rw [ed, lcL] at s2
      by_cases hk : s.chk w2.S
      · rw [if_pos hk] at s2
        obtain ⟨go, yl⟩ := (it' w2 g2 hk).1 i d e1
        refine .inr ⟨go, fun H' => ∃ w2 acc accV, w2.H = H' ∧ Go X.K w1 w2 ∧ i + 1 ≤ s.items.length ∧ w2.H Dd = some (.lst accV) ∧ w2.F Dd = none ∧ (∀ (n : Nat), w2.r[n]? = some Dd → ¬ alv w2.S n) ∧ Rps X.K w2.r w2.F acc accV ∧
            SatW (kt X) W σ (RD X.K) w1 ((lcL s.chk gE c f (wipeE env vs) (s.items.drop (i + 1)) acc w2.S).bind fun l S2 => mk l S2) (fun w' _ v => Q v w'.H), fun H' z => ?_, fun x H' y => ?_⟩
        · obtain ⟨w', acc', accV', q1, q2, q3, q4⟩ := z
          exact ⟨s.items.length - (i + 1), by omega, w', acc', accV', q1, q2, ⟨q3, rfl⟩, q4⟩
        · obtain ⟨w3, g3, eS3, eH3, r3⟩ := yl x H' y
          subst eH3
          cases og : gE d (wipeE env vs) with
          | none => simp only [og] at s2; exact s2.elim
          | some e1 =>
            simp only [og] at s2
            refine tgd w3 d x (wipeE env vs) e1 (wipe σ vs) _ g3.wd r3 ((he.go (g1.trans (g2.trans g3))).wipe vs) og fun σ2 he2 hl2 hk2 => ?_
            refine ⟨(wipe_eq hl2 hk2).trans (wipe_eq (wipe_length _ _) fun k hk => by rw [wipe_get, if_neg hk]), ?_⟩
            refine htt _ _ _ ⟨w3, e1, rfl, g3.wd, he2, ?_⟩
            rw [eS3]
            cases oc : c e1 w2.S with
            | bad => simp only [oc] at s2; exact s2.elim
            | exc x S => simp only [oc] at s2; exact s2.elim
            | ok b S4 =>
              intro w4 v4 g4 eS4 ev
              have ev' : b = v4 := ev
              subst ev' eS4
              cases b with
              | false =>
                simp only [oc] at s2
                obtain ⟨k1, k2, k3⟩ := Go.loosely (g3.trans g4) hDd hFd hnc
                exact iteF ⟨w4, acc, accV, rfl, g2.trans (g3.trans g4), hlt, k1, k2, k3, Rps.go (g3.trans g4) hrs, by rw [e2]; exact s2⟩
              | true =>
                simp only [oc] at s2
                refine iteT ⟨w4, e1, rfl, g4.wd, he2.go g4, ?_⟩
                cases oy : f e1 w4.S with
                | bad => simp only [oy] at s2; exact s2.elim
                | exc x S => simp only [oy] at s2; exact s2.elim
                | ok yd S5 =>
                  simp only [oy] at s2
                  by_cases hal : acc.length < 16000000
                  · rw [if_pos hal] at s2
                    intro w5 v5 g5 eS5 r5
                    subst eS5
                    have r5' : Rp X.K w5.r w5.F yd v5 := r5
                    obtain ⟨k1, k2, k3⟩ := Go.loosely (g3.trans (g4.trans g5)) hDd hFd hnc
                    refine ⟨accV, k1, ?_, ⟨w5.r, w5.F, w5.S, upd w5.H Dd (.lst (accV ++ [v5]))⟩, acc ++ [yd], accV ++ [v5], rfl, ?_, hlt, upd_same, k2, k3, ?_, by rw [e2]; exact s2⟩
                    · rw [Rps.length hrs]
                      exact Nat.lt_of_lt_of_le hal (line16 (Nat.le_refl _))
                    · exact Go.loose (g2.trans (g3.trans (g4.trans g5))) hD (by rw [k1]; simp) k2 k3
                    · exact (Rps.go (g3.trans (g4.trans g5)) hrs).append (rps_cons r5' rps_nil)
                  · rw [if_neg hal] at s2
                    exact s2.elim
      · rw [if_neg hk] at s2
        exact s2.elim
theorem pd_lc (m : Mk mk) (tgd : TgD (kt X) (own.map (·.2)) gV gE) (hc : X.calm = true) (hN : X.N.Nodup) (hi : PID X W tg iter src) (ok : BlkOk X.N X.env.scope scope own)
    (hg : ∀ (s : Shared) (H : Hp) (C : Addr) (cl : List (Str × Addr)) (fp : List Addr), PG (X.blk s H scope (compEnvC scope cl C X.env) fp) tg gV)
    (he : ∀ (s : Shared) (H : Hp) (C : Addr) (cl : List (Str × Addr)) (fp : List Addr), PD (X.blk s H scope (compEnvC scope cl C X.env) fp) W0 elt f) (hs : ∀ x, foldedSetIterable iter X.env x = pure x := by intro _; rfl) :
    PD X W (.ListComp elt [⟨tg, iter, [], 0⟩] scope pos) (xLc mk src gE cYes f (own.map (·.2))) :=
  weakE (pe_lc (te := tD (kt X) W0 f) hc hN hi ok hg (fun _ _ _ _ _ => pts_nil) (fun s H C cl fp => show PE _ elt (tD (kt X) W0 f) from he s H C cl fp) hs) fun σ H Q => lc_read m tgd fun σ H Q ⟨w, env, eH, hw, he, hs⟩ => by
    subst eH
    exact SatW.here (d := true) (v := true) hs hw rfl
theorem pd_lcIf {t : Expr} (m : Mk mk) (tgd : TgD (kt X) (own.map (·.2)) gV gE) (hc : X.calm = true) (hN : X.N.Nodup) (hi : PID X W tg iter src) (ok : BlkOk X.N X.env.scope scope own)
    (hg : ∀ (s : Shared) (H : Hp) (C : Addr) (cl : List (Str × Addr)) (fp : List Addr), PG (X.blk s H scope (compEnvC scope cl C X.env) fp) tg gV)
    (ht : ∀ (s : Shared) (H : Hp) (C : Addr) (cl : List (Str × Addr)) (fp : List Addr), PTD (X.blk s H scope (compEnvC scope cl C X.env) fp) W0 t c)
    (he : ∀ (s : Shared) (H : Hp) (C : Addr) (cl : List (Str × Addr)) (fp : List Addr), PD (X.blk s H scope (compEnvC scope cl C X.env) fp) W0 elt f) (hs : ∀ x, foldedSetIterable iter X.env x = pure x := by intro _; rfl) :
    PD X W (.ListComp elt [⟨tg, iter, [t], 0⟩] scope pos) (xLc mk src gE c f (own.map (·.2))) :=
  weakE (pe_lc (te := tD (kt X) W0 f) (tt := tDB (kt X) W0 c) hc hN hi ok hg (fun s H C cl fp => pts_one (show PT _ t (tDB (kt X) W0 c) from ht s H C cl fp)) (fun s H C cl fp => show PE _ elt (tD (kt X) W0 f) from he s H C cl fp) hs) fun σ H Q => lc_read m tgd fun σ H Q h => h
end

/-! ### a def's contract, a call -/
def fin (keep : Bool) (n : Nat) (d : D) (S : Store) : Res D :=
  if keep = true ∨ S.length = n then .ok d S else if (d.under n && (S.take n).all (fun c => c.under n)) = true then .ok d (S.take n) else .bad
def finX (n : Nat) (x : Exn) (S : Store) : Res D := if S.length = n then .exc x S else if ((S.take n).all (fun c => c.under n)) = true then .exc x (S.take n) else .bad
def fnD (np ns : Nat) (keep : Bool) (body : Env → Store → Out) : List D → M D := fun ds S =>
  if ds.length = np then match body (ds.map some ++ List.replicate (ns - np) none) S with
    | .rt d S' => fin keep S.length d S'
    | .nx _ S' => fin keep S.length .non S'
    | .exc x _ S' => finX S.length x S'
    | _ => .bad
  else .bad
def spD (T : Kt) (f : List D → M D) : Sp := fun vs H Q E => ∃ (w : Wl) (ds : List D), w.H = H ∧ Wd T.K w ∧ Rps T.K w.r w.F ds vs ∧ SatW T (fun cls dd _ H' => E cls dd H') [] (RD T.K) w (f ds w.S) (fun w' _ v => Q v w'.H)
theorem fin_sat {T : Kt} {W : WX} {σ : L2.St} {w w1 : Wl} {keep : Bool} {d : D} {v : V} {Q : VK} (g : Go T.K w w1) (r : Rp T.K w1.r w1.F d v) (h : SatW T W σ (RD T.K) w (fin keep w.S.length d w1.S) (fun w' _ v => Q v w'.H)) : Q v w1.H := by
  unfold fin at h
  by_cases hk : keep = true ∨ w1.S.length = w.S.length
  · rw [if_pos hk] at h
    exact h w1 v g rfl r
  · rw [if_neg hk] at h
    obtain ⟨hu, h⟩ := satIf h
    rw [Bool.and_eq_true] at hu
    exact h ⟨w1.r.take w.S.length, w1.F, w1.S.take w.S.length, w1.H⟩ v (g.cut hu.2) rfl (Rp.cut d v hu.1 r)
section
variable {P : Program} {w : World} {K : PySem.W.Frag} {mg : Str → Option Value} {base : Heap}
theorem fn_ok {x qual : Str} {st : Stmt} {f : Addr} {fd : FuncData} {N ps : List Str} {k : Nat} {keep : Bool} {body : Env → Store → Out} (F : Fun K x qual st f fd) (S : FnScope N ps (defScope st))
    (hbody : ∀ (cdv : Value) (A : Around) (outer : List PySem.Env) (s : Shared) (H : Hp) (E : XK), Room k (A.deeper (envOfC qual (defScope st) s.heap.objs.size f cdv)) →
      PSsD (cxOf (L2.CX P w) P w K mg base N qual (defScope st) f cdv A outer s H E) (fun cls d _ H' => E cls d H') (defBody st) body) :
    FnOk P w K mg base (L2.CX P w) (k + 1) f fd ps (spD ⟨K, mg⟩ (fnD ps.length N.length keep body)) := by
  refine F.okX S (fun vs H Q E ⟨wl, ds, eH, hw, hr, hs⟩ => ?_) (fun cdv A outer s H vs Q E hr h => ⟨_, hbody cdv A outer s H E hr, ?_⟩)
  · unfold fnD at hs
    rw [hr.length]
    exact (satIf hs).1
  · obtain ⟨wl, ds, eH, hw, hrs, hs⟩ := h
    subst eH
    unfold fnD at hs
    obtain ⟨hl, hs⟩ := satIf hs
    have hvl : vs.length = ps.length := by rw [hrs.length]; exact hl
    have he : EnvOk K wl (ds.map some ++ List.replicate (N.length - ps.length) none) (L2.start N vs) := by
      unfold L2.start
      rw [hvl]
      refine ⟨by simp [hrs.length], fun i d e => ?_⟩
      by_cases hi : i < ds.length
      · rw [List.getElem?_append_left (by simpa using hi), List.getElem?_map] at e
        cases q : ds[i]? with
        | none => rw [q] at e; cases e
        | some d' =>
          rw [q] at e
          have ed : d' = d := by injection (Option.some.inj e)
          subst ed
          obtain ⟨v, ev, rv⟩ := hrs.get q
          refine ⟨v, ?_, rv⟩
          rw [List.getElem?_append_left (by rw [List.length_map]; exact (List.getElem?_eq_some_iff.mp ev).1), List.getElem?_map, ev]
          rfl
      · rw [List.getElem?_append_right (by simpa using hi)] at e
        have := (List.getElem?_eq_some_iff.mp e)
        obtain ⟨h1, h2⟩ := this
        rw [List.getElem_replicate] at h2
        cases h2
    refine ⟨wl, _, rfl, hw, he, ?_⟩
    cases o : body (ds.map some ++ List.replicate (N.length - ps.length) none) wl.S with
    | rt d S' => rw [o] at hs; exact fun w' v g e r => by subst e; exact fin_sat g r hs
    | nx e' S' => rw [o] at hs; exact fun w' σ' g e r => by subst e; exact fin_sat g rpn hs
    | bk e' S' => rw [o] at hs; exact hs.elim
    | ct e' S' => rw [o] at hs; exact hs.elim
    | exc x e' S' =>
      rw [o] at hs
      intro w' σ' cls dd g e he' q
      subst e
      replace hs : SatW ⟨K, mg⟩ (fun cls dd _ H' => E cls dd H') [] (RD K) wl (finX wl.S.length x w'.S) (fun w' _ v => Q v w'.H) := hs
      unfold finX at hs
      by_cases hk : w'.S.length = wl.S.length
      · rw [if_pos hk] at hs
        exact hs w' cls dd g rfl q
      rw [if_neg hk] at hs
      obtain ⟨hu, hs⟩ := satIf hs
      exact hs ⟨w'.r.take wl.S.length, w'.F, w'.S.take wl.S.length, w'.H⟩ cls dd (g.cut hu) rfl q
    | bad => rw [o] at hs; exact hs.elim
end
theorem fn_mk {P : Program} {w : World} {K : PySem.W.Frag} {mg : Str → Option Value} {base : Heap} {x qual : Str} {st : Stmt} {f : Addr} {fd : FuncData} {N ps : List Str} {k : Nat} {keep : Bool} {body : Env → Store → Out} {G : List D → M D} (F : Fun K x qual st f fd) (S : FnScope N ps (defScope st)) (hG : G = fnD ps.length N.length keep body)
    (hbody : ∀ (cdv : Value) (A : Around) (outer : List PySem.Env) (s : Shared) (H : Hp) (E : XK), Room k (A.deeper (envOfC qual (defScope st) s.heap.objs.size f cdv)) →
      PSsD (cxOf (L2.CX P w) P w K mg base N qual (defScope st) f cdv A outer s H E) (fun cls d _ H' => E cls d H') (defBody st) body) :
    FnOk P w K mg base (L2.CX P w) (k + 1) f fd ps (spD ⟨K, mg⟩ G) := by
  rw [hG]
  exact fn_ok F S hbody
section
variable {X : Cx} {W : WX} {e : Expr} {es : List Expr} {h : Env → M (List D)} {pos p : Pos} {x : Str} {k : Nat} {f : Addr} {fd : FuncData} {ps : List Str} {F : List D → M D}
theorem pd_call (G : FnOk X.prog X.w X.K X.mg X.base (L2.CX X.prog X.w) k f fd ps (spD (kt X) F)) (hr : Room k X.A) (hm : X.mg x = some (.ref f)) (hk : PySem.W.keepIn X.K (.ref f) = true) (hb : Binds X.K fd ps []) (tk : Takes X W) (ha : PAD X W (e :: es) h) (hg : Gl X x := by rfl)
    (hdb : (x == ("__debug__" : Str)) = false := by decide) (he : starEach (e :: es) X.env = (false, eval e X.env) :: starEach es X.env := by rfl) (hpl : (backTo pos (starEach es X.env)).any (·.1) = false := by rfl) :
    PD X W (.Call (.Name x p) (e :: es) [] pos) (xFn F h) := by
  refine weakE (pe_callS G hr hg hm hk hb (fun σ => passAt tk σ) ha hdb he hpl) fun σ H Q ⟨w, env, eH, hw, he, hs⟩ => ?_
  subst eH
  refine ⟨w, env, rfl, hw, he, SatW.imp (SatW.bind hs) fun w1 d v g1 r1 s1 => ?_⟩
  refine ⟨w1, d, rfl, g1.wd, r1, ?_⟩
  cases o : F d w1.S with
  | ok y S => rw [o] at s1; exact s1
  | exc y S => rw [o] at s1; exact s1
  | bad => rw [o] at s1; exact s1.elim
end
end Dv
/-! # Dv5: the operators -/
namespace Dv
noncomputable section
open PySem PySem.Spec PyProof.Rows L2

/-! ### ints -/
def divOk (i j : Int) : Prop := j ≠ 0 ∧ j.natAbs.log2 < 9000
instance (i j : Int) : Decidable (divOk i j) := inferInstanceAs (Decidable (_ ∧ _))
instance (i j : Int) : Decidable (IntMulOk i j) := inferInstanceAs (Decidable (¬ _))
def powOk (i j : Int) : Prop := 0 ≤ j ∧ j ≤ 1000000 ∧ i.natAbs < 2 ^ 64
instance (i j : Int) : Decidable (powOk i j) := inferInstanceAs (Decidable (_ ∧ _))
section
variable {X : Cx}
theorem op_fdivX : OpR X (binaryOp .FloorDiv) (rI divOk fun i j => .int (i.fdiv j)) := opI fun i j _ _ _ _ _ hc q => floordiv_int hc.1 q (.inl (PyProof.noPylong_of_log2 hc.2))
theorem op_mulX : OpR X (binaryOp .Mult) (rI IntMulOk fun i j => .int (i * j)) := opI fun _ _ _ _ _ _ _ hc q => mul_int q hc
end

/-! ### two numbers, by a table -/
def iOp (c : Int → Int → Prop) [∀ i j, Decidable (c i j)] (g : Int → Int → D) (x y : D) (S : Store) : Res D := match x, y with
  | .int i, .int j => if c i j then .ok (g i j) S else .bad
  | _, _ => .bad
def always : Int → Int → Prop := fun _ _ => True
instance (i j : Int) : Decidable (always i j) := inferInstanceAs (Decidable True)
@[simp] theorem iOp_ok {c : Int → Int → Prop} [∀ i j, Decidable (c i j)] {g : Int → Int → D} {i j : Int} {S : Store} : iOp c g (.int i) (.int j) S = if c i j then .ok (g i j) S else .bad := rfl
section
variable {X : Cx}
theorem iOp_sat {T : Kt} {W : WX} {σ : L2.St} {c : Int → Int → Prop} [∀ i j, Decidable (c i j)] {g : Int → Int → D} {gv : Int → Int → V} (hg : ∀ K r F i j, Rp K r F (g i j) (gv i j)) {w : Wl} {x y : V} {d e : D} {Q : VK} (hw : Wd T.K w) (r1 : RD T.K w d x) (r2 : RD T.K w e y)
    (hs : SatW T W σ (RD T.K) w (iOp c g d e w.S) (fun w' _ v => Q v w'.H)) : ∃ i j, x = .int i ∧ y = .int j ∧ c i j ∧ Q (gv i j) w.H := by
  unfold iOp at hs
  split at hs
  · rename_i i j
    obtain ⟨hc, hs⟩ := satIf hs
    exact ⟨i, j, rp_int r1, rp_int r2, hc, SatW.here hs hw (hg _ _ _ i j)⟩
  · exact hs.elim
theorem opI_d {fn : Value → Value → Sem Value} {c : Int → Int → Prop} [∀ i j, Decidable (c i j)] {g : Int → Int → D} {gv : Int → Int → V} (hg : ∀ K r F i j, Rp K r F (g i j) (gv i j)) (ho : OpR X fn (rI c gv)) : OpD X fn (iOp c g) :=
  ⟨_, ho, fun w x y d e W σ Q hw r1 r2 hs => iOp_sat hg hw r1 r2 hs⟩
theorem opI0_d {fn : Value → Value → Sem Value} {g : Int → Int → D} {gv : Int → Int → V} (hg : ∀ K r F i j, Rp K r F (g i j) (gv i j)) (ho : OpR X fn (rI0 gv)) : OpD X fn (iOp always g) :=
  ⟨_, ho, fun w x y d e W σ Q hw r1 r2 hs => by
    obtain ⟨i, j, h1, h2, _, q⟩ := iOp_sat hg hw r1 r2 hs
    exact ⟨i, j, h1, h2, q⟩⟩
def dSub := iOp always fun i j => .int (i - j)
def dFdiv := iOp divOk fun i j => .int (i.fdiv j)
def dMod := iOp (fun _ j => j ≠ 0) fun i j => .int (i.fmod j)
def dPow := iOp powOk fun i j => .int (i ^ j.toNat)
def dLt := iOp always fun i j => .bl (decide (i < j))
def dLe := iOp always fun i j => .bl (decide (i ≤ j))
def dGt := iOp always fun i j => .bl (decide (j < i))
def dGe := iOp always fun i j => .bl (decide (j ≤ i))
theorem od_sub : OpD X (binaryOp .Sub) dSub := opI0_d (fun _ _ _ _ _ => rpi) op_sub
theorem od_fdiv : OpD X (binaryOp .FloorDiv) dFdiv := opI_d (fun _ _ _ _ _ => rpi) op_fdivX
theorem od_mod : OpD X (binaryOp .Mod) dMod := opI_d (fun _ _ _ _ _ => rpi) op_modN
theorem od_pow : OpD X (binaryOp .Pow) dPow := opI_d (fun _ _ _ _ _ => rpi) op_pow
theorem od_lt : OpD X (compareOp .Lt) dLt := opI0_d (fun _ _ _ _ _ => rpb) op_lt
theorem od_le : OpD X (compareOp .LtE) dLe := opI0_d (fun _ _ _ _ _ => rpb) op_le
theorem od_gt : OpD X (compareOp .Gt) dGt := opI0_d (fun _ _ _ _ _ => rpb) op_gt
theorem od_ge : OpD X (compareOp .GtE) dGe := opI0_d (fun _ _ _ _ _ => rpb) op_ge
end
@[simp] theorem dSub_ok {i j : Int} {S : Store} : dSub (.int i) (.int j) S = .ok (.int (i - j)) S := rfl
@[simp] theorem dFdiv_ok {i j : Int} {S : Store} : dFdiv (.int i) (.int j) S = if divOk i j then .ok (.int (i.fdiv j)) S else .bad := rfl
@[simp] theorem dMod_ok {i j : Int} {S : Store} : dMod (.int i) (.int j) S = if j ≠ 0 then .ok (.int (i.fmod j)) S else .bad := rfl
@[simp] theorem dPow_ok {i j : Int} {S : Store} : dPow (.int i) (.int j) S = if powOk i j then .ok (.int (i ^ j.toNat)) S else .bad := rfl
@[simp] theorem dLt_ok {i j : Int} {S : Store} : dLt (.int i) (.int j) S = .ok (.bl (decide (i < j))) S := rfl
@[simp] theorem dLe_ok {i j : Int} {S : Store} : dLe (.int i) (.int j) S = .ok (.bl (decide (i ≤ j))) S := rfl
@[simp] theorem dGt_ok {i j : Int} {S : Store} : dGt (.int i) (.int j) S = .ok (.bl (decide (j < i))) S := rfl
@[simp] theorem dGe_ok {i j : Int} {S : Store} : dGe (.int i) (.int j) S = .ok (.bl (decide (j ≤ i))) S := rfl

/-! ### + and * : ints, lists, tuples, texts -/
def dAdd (mk : List D → M D) (x y : D) (S : Store) : Res D := match x, y with
  | .int i, .int j => .ok (.int (i + j)) S
  | .int i, .bl b => .ok (.int (i + b2i b)) S
  | .str a, .str b => if a.length + b.length ≤ 16000000 then .ok (.str (a ++ b)) S else .bad
  | .tup a, .tup b => if a ≠ [] ∧ b ≠ [] ∧ a.length + b.length ≤ 16000000 then .ok (.tup (a ++ b)) S else .bad
  | x, y => match getL x S, getL y S with
    | some a, some b => if a.length + b.length ≤ 16000000 then mk (a ++ b) S else .bad
    | _, _ => .bad
def dMul (mk : List D → M D) (x y : D) (S : Store) : Res D := match x, y with
  | .int i, .int j => if IntMulOk i j then .ok (.int (i * j)) S else .bad
  | .lst l, .int k => if rng62 k ∧ l.length * k.toNat ≤ 16000000 then mk (List.replicate k.toNat l).flatten S else .bad
  | _, _ => .bad
section
variable {X : Cx}
theorem Rps.ne_nil {K : PySem.W.Frag} {r : List Addr} {F : Hp} {l : List D} {vs : List V} (h : Rps K r F l vs) (hl : l ≠ []) : vs ≠ [] := fun z => by
  subst z
  have := h.length
  cases l with
  | nil => exact hl rfl
  | cons _ _ => cases this
theorem od_add {mk : List D → M D} (m : Mk mk) : OpD X (binaryOp .Add) (dAdd mk) := by
  refine ⟨_, (op_add.or (op_add_ib.or (op_add_str.or ((op_catT).or op_cat)))), fun w x y d e W σ Q hw r1 r2 hs => ?_⟩
  have lists : ∀ {a b : List D}, getL d w.S = some a → getL e w.S = some b → SatW (kt X) W σ (RD X.K) w (if a.length + b.length ≤ 16000000 then mk (a ++ b) w.S else .bad) (fun w' _ v => Q v w'.H) → rCat x y w.H Q := fun {a b} ha hb hs => by
    obtain ⟨hl, hs⟩ := satIf hs
    obtain ⟨p, vs, e1, q1, t1⟩ := getL_ok hw r1 ha
    obtain ⟨p', vs', e2, q2, t2⟩ := getL_ok hw r2 hb
    exact ⟨p, p', vs, vs', e1, e2, q1, q2, by rw [t1.length, t2.length]; exact line16 hl, m.go hw (t1.append t2) hs⟩
  have gen : ∀ {o1 o2 : Option (List D)}, getL d w.S = o1 → getL e w.S = o2 → SatW (kt X) W σ (RD X.K) w (match o1, o2 with | some a, some b => if a.length + b.length ≤ 16000000 then mk (a ++ b) w.S else .bad | _, _ => .bad) (fun w' _ v => Q v w'.H) → rCat x y w.H Q := fun {o1 o2} h1 h2 hs => by
    cases o1 with
    | none => exact hs.elim
    | some a =>
      cases o2 with
      | none => exact hs.elim
      | some b => exact lists h1 h2 hs
  unfold dAdd at hs
  split at hs
  · rename_i i j
    exact .inl ⟨i, j, rp_int r1, rp_int r2, SatW.here hs hw rpi⟩
  · rename_i i b
    exact .inr (.inl ⟨i, b, rp_int r1, rp_bl r2, SatW.here hs hw rpi⟩)
  · rename_i a b
    obtain ⟨hl, hs⟩ := satIf hs
    exact .inr (.inr (.inl ⟨a, b, rp_str r1, rp_str r2, line16 hl, SatW.here hs hw rps⟩))
  · rename_i a b
    obtain ⟨hl, hs⟩ := satIf hs
    obtain ⟨p, vs, e1, q1, t1⟩ := getT_ok hw r1 rfl
    obtain ⟨p', vs', e2, q2, t2⟩ := getT_ok hw r2 rfl
    exact .inr (.inr (.inr (.inl ⟨p, p', vs, vs', e1, e2, .inl q1, .inl q2, t1.ne_nil hl.1, by rw [t1.length, t2.length]; exact line16 hl.2.2, fun z => (t2.ne_nil hl.2.1 z).elim, fun _ => tup_go hw (t1.append t2) hs⟩)))
  · exact .inr (.inr (.inr (.inr (gen rfl rfl hs))))
theorem od_mul {mk : List D → M D} (m : Mk mk) : OpD X (binaryOp .Mult) (dMul mk) := by
  refine ⟨_, (op_mulX.or op_rep), fun w x y d e W σ Q hw r1 r2 hs => ?_⟩
  unfold dMul at hs
  split at hs
  · rename_i i j
    obtain ⟨hc, hs⟩ := satIf hs
    exact .inl ⟨i, j, rp_int r1, rp_int r2, hc, SatW.here hs hw rpi⟩
  · rename_i l k
    obtain ⟨hl, hs⟩ := satIf hs
    obtain ⟨p, vs, e1, q1, t1⟩ := getL_ok hw r1 rfl
    have b1 := hl.1.1
    have b2 := hl.1.2
    exact .inr ⟨p, k, vs, e1, rp_int r2, q1, by omega, by omega, by rw [t1.length]; exact line16 hl.2, m.go hw (t1.rep k.toNat) hs⟩
  · exact hs.elim
end
@[simp] theorem dAdd_int {mk : List D → M D} {i j : Int} {S : Store} : dAdd mk (.int i) (.int j) S = .ok (.int (i + j)) S := rfl
@[simp] theorem dAdd_ib {mk : List D → M D} {i : Int} {b : Bool} {S : Store} : dAdd mk (.int i) (.bl b) S = .ok (.int (i + b2i b)) S := rfl
@[simp] theorem dAdd_str {mk : List D → M D} {a b : Str} {S : Store} : dAdd mk (.str a) (.str b) S = if a.length + b.length ≤ 16000000 then .ok (.str (a ++ b)) S else .bad := rfl
@[simp] theorem dAdd_lst {mk : List D → M D} {a b : List D} {S : Store} : dAdd mk (.lst a) (.lst b) S = if a.length + b.length ≤ 16000000 then mk (a ++ b) S else .bad := rfl
@[simp] theorem dMul_int {mk : List D → M D} {i j : Int} {S : Store} : dMul mk (.int i) (.int j) S = if IntMulOk i j then .ok (.int (i * j)) S else .bad := rfl
@[simp] theorem dMul_lst {mk : List D → M D} {l : List D} {k : Int} {S : Store} : dMul mk (.lst l) (.int k) S = if rng62 k ∧ l.length * k.toNat ≤ 16000000 then mk (List.replicate k.toNat l).flatten S else .bad := rfl

/-! ### one number -/
def dNeg (d : D) (S : Store) : Res D := match d with
  | .int i => .ok (.int (-i)) S
  | _ => .bad
section
variable {X : Cx}
theorem ud_neg : UnD X (unaryOp .USub) dNeg := ⟨_, un_neg, fun w x d W σ Q hw r hs => by
  cases d with
  | int i => exact ⟨i, rp_int r, SatW.here hs hw rpi⟩
  | _ => exact hs.elim⟩
end
@[simp] theorem dNeg_ok {i : Int} {S : Store} : dNeg (.int i) S = .ok (.int (-i)) S := rfl

/-! ### == and != -/
mutual
def toP (S : Store) : Nat → D → Option PyData
  | _, .non => some .none
  | _, .bl b => some (.bool b)
  | _, .int i => some (.int i)
  | _, .str x => if PySem.PyData.canLay0 (.str x) then some (.str x) else none
  | 0, _ => none
  | n + 1, .tup l => (toPs S n l).map .tuple
  | n + 1, .lst l => (toPs S n l).map .list
  | n + 1, .scr l => (toPs S n l).map .list
  | n + 1, .cell c => match S[c]? with
    | some (.lst l) => (toPs S n l).map .list
    | _ => none
  | _ + 1, .raw _ => none
  | _ + 1, .cls _ => none
  | _ + 1, .exn _ _ => none
def toPs (S : Store) : Nat → List D → Option (List PyData)
  | _, [] => some []
  | n, d :: l => match toP S n d, toPs S n l with
    | some x, some y => some (x :: y)
    | _, _ => none
end
mutual
theorem toP_ok {S : Store} : ∀ (n : Nat) (d : D) (p : PyData), toP S n d = some p → p.canLay0 = true ∧ p.depth ≤ n
  | n, .non, p, h => by rw [toP] at h; cases h; exact ⟨rfl, Nat.zero_le _⟩
  | n, .bl b, p, h => by rw [toP] at h; cases h; exact ⟨rfl, Nat.zero_le _⟩
  | n, .int b, p, h => by rw [toP] at h; cases h; exact ⟨rfl, Nat.zero_le _⟩
  | n, .str x, p, h => by
    rw [toP] at h
    by_cases hc : PySem.PyData.canLay0 (.str x) = true
    · rw [if_pos hc] at h; cases h; exact ⟨hc, Nat.zero_le _⟩
    · rw [if_neg hc] at h; cases h
  | 0, .tup l, p, h => by rw [toP] at h <;> first | cases h | simp
  | 0, .lst l, p, h => by rw [toP] at h <;> first | cases h | simp
  | 0, .scr l, p, h => by rw [toP] at h <;> first | cases h | simp
  | 0, .cell l, p, h => by rw [toP] at h <;> first | cases h | simp
  | 0, .raw l, p, h => by rw [toP] at h <;> first | cases h | simp
  | n + 1, .raw l, p, h => by rw [toP] at h; cases h
  | 0, .cls l, p, h => by rw [toP] at h <;> first | cases h | simp
  | n + 1, .cls l, p, h => by rw [toP] at h; cases h
  | 0, .exn l _, p, h => by rw [toP] at h <;> first | cases h | simp
  | n + 1, .exn l _, p, h => by rw [toP] at h; cases h
  | n + 1, .tup l, p, h => by
    rw [toP] at h
    cases q : toPs S n l with
    | none => rw [q] at h; cases h
    | some ps =>
      rw [q] at h
      cases h
      obtain ⟨h1, h2⟩ := toPs_ok n l ps q
      exact ⟨h1, Nat.succ_le_succ h2⟩
  | n + 1, .lst l, p, h => by
    rw [toP] at h
    cases q : toPs S n l with
    | none => rw [q] at h; cases h
    | some ps =>
      rw [q] at h
      cases h
      obtain ⟨h1, h2⟩ := toPs_ok n l ps q
      exact ⟨h1, Nat.succ_le_succ h2⟩
  | n + 1, .scr l, p, h => by
    rw [toP] at h
    cases q : toPs S n l with
    | none => rw [q] at h; cases h
    | some ps =>
      rw [q] at h
      cases h
      obtain ⟨h1, h2⟩ := toPs_ok n l ps q
      exact ⟨h1, Nat.succ_le_succ h2⟩
  | n + 1, .cell c, p, h => by
    rw [toP] at h
    split at h
    · rename_i l e
      cases q : toPs S n l with
      | none => rw [q] at h; cases h
      | some ps =>
        rw [q] at h
        cases h
        obtain ⟨h1, h2⟩ := toPs_ok n l ps q
        exact ⟨h1, Nat.succ_le_succ h2⟩
    · cases h
theorem toPs_ok {S : Store} : ∀ (n : Nat) (l : List D) (p : List PyData), toPs S n l = some p → PyData.canLayAll0 p = true ∧ PyData.depthAll p ≤ n
  | n, [], p, h => by rw [toPs] at h; cases h; exact ⟨rfl, Nat.zero_le _⟩
  | n, d :: l, p, h => by
    rw [toPs] at h
    cases q1 : toP S n d with
    | none => rw [q1] at h; cases h
    | some x =>
      cases q2 : toPs S n l with
      | none => rw [q1, q2] at h; cases h
      | some y =>
        rw [q1, q2] at h
        cases h
        obtain ⟨h1, h2⟩ := toP_ok n d x q1
        obtain ⟨h3, h4⟩ := toPs_ok n l y q2
        refine ⟨?_, ?_⟩
        · rw [PyData.canLayAll0, h1, h3]; rfl
        · rw [PyData.depthAll]; omega
end
mutual
theorem toP_dp {K : PySem.W.Frag} {w : Wl} (hw : Wd K w) : ∀ (n : Nat) (d : D) (v : V) (p : PyData), toP w.S n d = some p → Rp K w.r w.F d v → Dp K w.H v p
  | n, .non, v, p, h, r => by rw [toP] at h; cases h; cases rp_non r; exact .non
  | n, .bl b, v, p, h, r => by rw [toP] at h; cases h; cases rp_bl r; exact .bl b
  | n, .int b, v, p, h, r => by rw [toP] at h; cases h; cases rp_int r; exact .int b
  | n, .str x, v, p, h, r => by
    rw [toP] at h
    by_cases hc : PySem.PyData.canLay0 (.str x) = true
    · rw [if_pos hc] at h; cases h; cases rp_str r; exact .str x
    · rw [if_neg hc] at h; cases h
  | 0, .tup l, v, p, h, r => by rw [toP] at h <;> first | cases h | simp
  | 0, .lst l, v, p, h, r => by rw [toP] at h <;> first | cases h | simp
  | 0, .scr l, v, p, h, r => by rw [toP] at h <;> first | cases h | simp
  | 0, .cell l, v, p, h, r => by rw [toP] at h <;> first | cases h | simp
  | 0, .raw l, v, p, h, r => by rw [toP] at h <;> first | cases h | simp
  | n + 1, .raw l, v, p, h, r => by rw [toP] at h; cases h
  | 0, .cls l, v, p, h, r => by rw [toP] at h <;> first | cases h | simp
  | n + 1, .cls l, v, p, h, r => by rw [toP] at h; cases h
  | 0, .exn l _, v, p, h, r => by rw [toP] at h <;> first | cases h | simp
  | n + 1, .exn l _, v, p, h, r => by rw [toP] at h; cases h
  | n + 1, .tup l, v, p, h, r => by
    rw [toP] at h
    cases q : toPs w.S n l with
    | none => rw [q] at h; cases h
    | some ps =>
      rw [q] at h
      cases h
      obtain ⟨a, vs, rfl, hr, t⟩ := getT_ok hw r rfl
      exact .tup (.inl hr) (toPs_dp hw n l vs ps q t)
  | n + 1, .lst l, v, p, h, r => by
    rw [toP] at h
    cases q : toPs w.S n l with
    | none => rw [q] at h; cases h
    | some ps =>
      rw [q] at h
      cases h
      obtain ⟨a, vs, rfl, hr, t⟩ := getL_ok hw r rfl
      exact .lst (.inl (.inl hr)) (toPs_dp hw n l vs ps q t)
  | n + 1, .scr l, v, p, h, r => by
    rw [toP] at h
    cases q : toPs w.S n l with
    | none => rw [q] at h; cases h
    | some ps =>
      rw [q] at h
      cases h
      obtain ⟨a, vs, rfl, hr, t⟩ := getQ_ok hw r rfl
      exact .lst hr (toPs_dp hw n l vs ps q t)
  | n + 1, .cell c, v, p, h, r => by
    rw [toP] at h
    split at h
    · rename_i l e
      cases q : toPs w.S n l with
      | none => rw [q] at h; cases h
      | some ps =>
        rw [q] at h
        cases h
        obtain ⟨a, vs, rfl, hr, t⟩ := getL_ok (l := l) hw r (by simp only [getL, e])
        exact .lst (.inl (.inl hr)) (toPs_dp hw n l vs ps q t)
    · cases h
theorem toPs_dp {K : PySem.W.Frag} {w : Wl} (hw : Wd K w) : ∀ (n : Nat) (l : List D) (vs : List V) (p : List PyData), toPs w.S n l = some p → Rps K w.r w.F l vs → DpAll K w.H vs p
  | n, [], vs, p, h, r => by rw [toPs] at h; cases h; rw [r.nil_inv]; exact .nil
  | n, d :: l, vs, p, h, r => by
    rw [toPs] at h
    cases q1 : toP w.S n d with
    | none => rw [q1] at h; cases h
    | some x =>
      cases q2 : toPs w.S n l with
      | none => rw [q1, q2] at h; cases h
      | some y =>
        rw [q1, q2] at h
        cases h
        obtain ⟨v, t, rfl, r1, r2⟩ := r.cons_inv
        exact .cons (toP_dp hw n d v x q1 r1) (toPs_dp hw n l t y q2 r2)
end
def dEq (a b : D) (S : Store) : Res D := match toP S 60 a, toP S 60 b with
  | some x, some y => .ok (.bl (PyData.eqv x y)) S
  | _, _ => .bad
def dNe (a b : D) (S : Store) : Res D := match toP S 60 a, toP S 60 b with
  | some x, some y => .ok (.bl (!PyData.eqv x y)) S
  | _, _ => .bad
theorem shaped_of {S : Store} {d : D} {p : PyData} (h : toP S 60 d = some p) : SeqAt.shaped p = true := by
  obtain ⟨h1, h2⟩ := toP_ok 60 d p h
  unfold SeqAt.shaped
  rw [h1, decide_eq_true (by omega)]
  rfl
section
variable {X : Cx}
theorem od_eq (hu : X.A.units + 64 < cLine) : OpD X (compareOp .Eq) dEq := ⟨_, op_eqD hu, fun w x y d e W σ Q hw r1 r2 hs => by
  unfold dEq at hs
  split at hs
  · rename_i p q h1 h2
    exact ⟨p, q, toP_dp hw 60 d x p h1 r1, toP_dp hw 60 e y q h2 r2, shaped_of h1, shaped_of h2, SatW.here hs hw rpb⟩
  · exact hs.elim⟩
theorem od_ne (hu : X.A.units + 64 < cLine) : OpD X (compareOp .NotEq) dNe := ⟨_, op_neD hu, fun w x y d e W σ Q hw r1 r2 hs => by
  unfold dNe at hs
  split at hs
  · rename_i p q h1 h2
    exact ⟨p, q, toP_dp hw 60 d x p h1 r1, toP_dp hw 60 e y q h2 r2, shaped_of h1, shaped_of h2, SatW.here hs hw rpb⟩
  · exact hs.elim⟩
end
@[simp] theorem dEq_int {i j : Int} {S : Store} : dEq (.int i) (.int j) S = .ok (.bl (decide (i = j))) S := by
  simp only [dEq, toP, PyData.eqv]
  rfl
@[simp] theorem dNe_int {i j : Int} {S : Store} : dNe (.int i) (.int j) S = .ok (.bl (!decide (i = j))) S := by
  simp only [dNe, toP, PyData.eqv]
  rfl
theorem dEq_of {a b : D} {S : Store} {p q : PyData} (h1 : toP S 60 a = some p) (h2 : toP S 60 b = some q) : dEq a b S = .ok (.bl (PyData.eqv p q)) S := by
  simp only [dEq, h1, h2]
theorem dNe_of {a b : D} {S : Store} {p q : PyData} (h1 : toP S 60 a = some p) (h2 : toP S 60 b = some q) : dNe a b S = .ok (.bl (!PyData.eqv p q)) S := by
  simp only [dNe, h1, h2]
theorem dEq_self {a : D} {S : Store} {p : PyData} (h1 : toP S 60 a = some p) : dEq a a S = .ok (.bl true) S := by
  rw [dEq_of h1 h1, SeqAt.eqv_refl p (toP_ok 60 a p h1).1]
theorem dNe_self {a : D} {S : Store} {p : PyData} (h1 : toP S 60 a = some p) : dNe a a S = .ok (.bl false) S := by
  rw [dNe_of h1 h1, SeqAt.eqv_refl p (toP_ok 60 a p h1).1]
  rfl

/-! ### is None -/
def dIsN (a b : D) (S : Store) : Res D := match b with
  | .non => match a with
    | .non => .ok (.bl true) S
    | .raw _ => .bad
    | _ => .ok (.bl false) S
  | _ => .bad
def dIsNotN (a b : D) (S : Store) : Res D := match b with
  | .non => match a with
    | .non => .ok (.bl false) S
    | .raw _ => .bad
    | _ => .ok (.bl true) S
  | _ => .bad
theorem rp_isnon {K : PySem.W.Frag} {r : List Addr} {F : Hp} {d : D} {v : V} (h : Rp K r F d v) (hd : ∀ x, d ≠ .raw x) : decide (v = .non) = (match d with | .non => true | _ => false) := by
  cases d with
  | non => cases rp_non h; rfl
  | bl b => cases rp_bl h; rfl
  | int b => cases rp_int h; rfl
  | str b => cases rp_str h; rfl
  | tup l => unfold Rp at h; obtain ⟨a, vs, rfl, _⟩ := h; rfl
  | lst l => unfold Rp at h; obtain ⟨a, vs, rfl, _⟩ := h; rfl
  | scr l => unfold Rp at h; obtain ⟨a, vs, rfl, _⟩ := h; rfl
  | cell n => unfold Rp at h; obtain ⟨a, _, rfl⟩ := h; rfl
  | cls n => unfold Rp at h; obtain ⟨a, _, rfl⟩ := h; rfl
  | exn n f => unfold Rp at h; obtain ⟨a, _, _, rfl, _⟩ := h; rfl
  | raw x => exact (hd x rfl).elim
section
variable {X : Cx}
theorem od_isN : OpD X (compareOp .Is) dIsN := ⟨_, op_isN, fun w x y d e W σ Q hw r1 r2 hs => by
  cases e with
  | non =>
    refine ⟨rp_non r2, ?_⟩
    have q := rp_isnon (show Rp X.K w.r w.F d x from r1)
    cases d with
    | raw z => exact hs.elim
    | non => rw [q (by simp)]; exact SatW.here hs hw rpb
    | bl z => rw [q (by simp)]; exact SatW.here hs hw rpb
    | int z => rw [q (by simp)]; exact SatW.here hs hw rpb
    | str z => rw [q (by simp)]; exact SatW.here hs hw rpb
    | tup z => rw [q (by simp)]; exact SatW.here hs hw rpb
    | lst z => rw [q (by simp)]; exact SatW.here hs hw rpb
    | scr z => rw [q (by simp)]; exact SatW.here hs hw rpb
    | cell z => rw [q (by simp)]; exact SatW.here hs hw rpb
    | cls z => rw [q (by simp)]; exact SatW.here hs hw rpb
    | exn z f => rw [q (by simp)]; exact SatW.here hs hw rpb
  | _ => exact hs.elim⟩
theorem od_isNotN : OpD X (compareOp .IsNot) dIsNotN := ⟨_, op_notN, fun w x y d e W σ Q hw r1 r2 hs => by
  cases e with
  | non =>
    refine ⟨rp_non r2, ?_⟩
    have q := rp_isnon (show Rp X.K w.r w.F d x from r1)
    cases d with
    | raw z => exact hs.elim
    | non => rw [q (by simp)]; exact SatW.here hs hw rpb
    | bl z => rw [q (by simp)]; exact SatW.here hs hw rpb
    | int z => rw [q (by simp)]; exact SatW.here hs hw rpb
    | str z => rw [q (by simp)]; exact SatW.here hs hw rpb
    | tup z => rw [q (by simp)]; exact SatW.here hs hw rpb
    | lst z => rw [q (by simp)]; exact SatW.here hs hw rpb
    | scr z => rw [q (by simp)]; exact SatW.here hs hw rpb
    | cell z => rw [q (by simp)]; exact SatW.here hs hw rpb
    | cls z => rw [q (by simp)]; exact SatW.here hs hw rpb
    | exn z f => rw [q (by simp)]; exact SatW.here hs hw rpb
  | _ => exact hs.elim⟩
end

/-! ### an item -/
def dIx (x y : D) (S : Store) : Res D := match y with
  | .int i => match x with
    | .tup l => match atI l i with
      | some d => .ok d S
      | none => .bad
    | .str z => if z.length ≤ 16000000 then match atI z.cps.toList i with
        | some c => .ok (.str ⟨#[c]⟩) S
        | none => .bad
      else .bad
    | x => match getQ x S with
      | some l => match atI l i with
        | some d => .ok d S
        | none => .bad
      | none => .bad
  | _ => .bad
theorem Rps.atI {K : PySem.W.Frag} {r : List Addr} {F : Hp} {l : List D} {vs : List V} {i : Int} {d : D} (h : Rps K r F l vs) (e : L2.atI l i = some d) : ∃ v, L2.atI vs i = some v ∧ Rp K r F d v := by
  unfold L2.atI at e ⊢
  rw [h.length]
  cases q : ixN l.length i with
  | none => rw [q] at e; cases e
  | some j =>
    rw [q] at e
    exact h.get (i := j) e
section
variable {X : Cx}
theorem ixd : IxD X dIx := ⟨_, ix_seq, fun w x y d e W σ Q hw r1 r2 hs => by
  have gen : ∀ {o : Option (List D)} {i : Int}, getQ d w.S = o → e = .int i → SatW (kt X) W σ (RD X.K) w (match o with | some l => (match L2.atI l i with | some d => (.ok d w.S : Res D) | none => .bad) | none => .bad) (fun w' _ v => Q v w'.H) → rIxL X.K x y w.H Q := fun {o i} h1 h2 hq => by
    cases o with
    | none => exact hq.elim
    | some l =>
      cases q : L2.atI l i with
      | none => simp only [q] at hq; exact hq.elim
      | some z =>
        simp only [q] at hq
        obtain ⟨p, vs, e1, q1, t1⟩ := getQ_ok hw r1 h1
        obtain ⟨v, ev, rv⟩ := t1.atI q
        subst h2
        exact ⟨p, vs, i, v, e1, rp_int r2, q1, ev, SatW.here hq hw rv⟩
  unfold dIx at hs
  split at hs
  · rename_i i
    split at hs
    · rename_i l
      cases q : L2.atI l i with
      | none => simp only [q] at hs; exact hs.elim
      | some z =>
        simp only [q] at hs
        obtain ⟨p, vs, e1, q1, t1⟩ := getT_ok hw r1 rfl
        obtain ⟨v, ev, rv⟩ := t1.atI q
        exact .inr (.inl ⟨p, vs, i, v, e1, rp_int r2, .inl q1, ev, SatW.here hs hw rv⟩)
    · rename_i z
      obtain ⟨hl, hs⟩ := satIf hs
      cases q : L2.atI z.cps.toList i with
      | none => simp only [q] at hs; exact hs.elim
      | some c =>
        simp only [q] at hs
        exact .inr (.inr ⟨z, i, c, rp_str r1, rp_int r2, line16 hl, q, SatW.here hs hw rps⟩)
    · exact .inl (gen rfl rfl hs)
  · exact hs.elim⟩
end
@[simp] theorem dIx_tup {l : List D} {i : Int} {S : Store} : dIx (.tup l) (.int i) S = match L2.atI l i with | some d => .ok d S | none => .bad := rfl
@[simp] theorem dIx_lst {l : List D} {i : Int} {S : Store} : dIx (.lst l) (.int i) S = match L2.atI l i with | some d => .ok d S | none => .bad := rfl

/-! ### built-in functions -/
def bAbs (l : List D) (S : Store) : Res D := match l with
  | [.int i] => .ok (.int (if i < 0 then -i else i)) S
  | _ => .bad
def bLen (l : List D) (S : Store) : Res D := match l with
  | [.str z] => if z.length ≤ 16000000 then .ok (.int z.length) S else .bad
  | [.tup l] => .ok (.int l.length) S
  | [x] => match getQ x S with
    | some l => .ok (.int l.length) S
    | none => .bad
  | _ => .bad
def intsOf : List D → Option (List Int)
  | [] => some []
  | .int i :: l => (intsOf l).map (i :: ·)
  | _ :: _ => none
def bSum (l : List D) (S : Store) : Res D := match l with
  | [x] => match (getQ x S).bind intsOf with
    | some ns => .ok (.int ns.sum) S
    | none => .bad
  | _ => .bad
def maxL : List Int → Int
  | [] => 0
  | [x] => x
  | x :: y :: l => max x (maxL (y :: l))
def minL : List Int → Int
  | [] => 0
  | [x] => x
  | x :: y :: l => min x (minL (y :: l))
def bMax (l : List D) (S : Store) : Res D := match l with
  | [.int i, .int j] => .ok (.int (if j > i then j else i)) S
  | [x] => match (getQ x S).bind intsOf with
    | some (n :: ns) => .ok (.int (maxL (n :: ns))) S
    | _ => .bad
  | _ => .bad
def bMin (l : List D) (S : Store) : Res D := match l with
  | [.int i, .int j] => .ok (.int (if j < i then j else i)) S
  | [x] => match (getQ x S).bind intsOf with
    | some (n :: ns) => .ok (.int (minL (n :: ns))) S
    | _ => .bad
  | _ => .bad
def bInt (l : List D) (S : Store) : Res D := match l with
  | [.int i] => .ok (.int i) S
  | [.bl b] => .ok (.int (if b then 1 else 0)) S
  | _ => .bad
def bList (mk : List D → M D) (l : List D) (S : Store) : Res D := match l with
  | [.tup l] => mk l S
  | [x] => match getQ x S with
    | some l => mk l S
    | none => .bad
  | _ => .bad
def bTuple (l : List D) (S : Store) : Res D := match l with
  | [.tup l] => .ok (.tup l) S
  | [x] => match getQ x S with
    | some l => .ok (.tup l) S
    | none => .bad
  | _ => .bad
theorem maxL_mem : ∀ {l : List Int}, l ≠ [] → maxL l ∈ l
  | [], h => (h rfl).elim
  | [x], _ => by simp [maxL]
  | x :: y :: l, _ => by
    have ih := maxL_mem (l := y :: l) (by simp)
    unfold maxL
    rcases Int.le_total x (maxL (y :: l)) with h | h
    · rw [Int.max_eq_right h]; exact List.mem_cons_of_mem _ ih
    · rw [Int.max_eq_left h]; exact List.mem_cons_self
theorem maxL_ge : ∀ {l : List Int} {y : Int}, y ∈ l → y ≤ maxL l
  | [], y, h => by simp at h
  | [x], y, h => by
    have : y = x := by simpa using h
    subst this; exact Int.le_refl _
  | x :: z :: l, y, h => by
    unfold maxL
    rcases List.mem_cons.mp h with e | h
    · subst e; exact Int.le_max_left _ _
    · exact Int.le_trans (maxL_ge h) (Int.le_max_right _ _)
theorem minL_mem : ∀ {l : List Int}, l ≠ [] → minL l ∈ l
  | [], h => (h rfl).elim
  | [x], _ => by simp [minL]
  | x :: y :: l, _ => by
    have ih := minL_mem (l := y :: l) (by simp)
    unfold minL
    rcases Int.le_total x (minL (y :: l)) with h | h
    · rw [Int.min_eq_left h]; exact List.mem_cons_self
    · rw [Int.min_eq_right h]; exact List.mem_cons_of_mem _ ih
theorem minL_le : ∀ {l : List Int} {y : Int}, y ∈ l → minL l ≤ y
  | [], y, h => by simp at h
  | [x], y, h => by
    have : y = x := by simpa using h
    subst this; exact Int.le_refl _
  | x :: z :: l, y, h => by
    unfold minL
    rcases List.mem_cons.mp h with e | h
    · subst e; exact Int.min_le_left _ _
    · exact Int.le_trans (Int.min_le_right _ _) (minL_le h)
theorem intsOf_eq : ∀ {l : List D} {ns : List Int}, intsOf l = some ns → l = ns.map D.int
  | [], ns, h => by cases h; rfl
  | .int i :: l, ns, h => by
    rw [intsOf] at h
    cases q : intsOf l with
    | none => rw [q] at h; cases h
    | some ms =>
      rw [q] at h
      cases h
      rw [intsOf_eq q]
      rfl
  | .non :: l, ns, h => by cases h
  | .bl _ :: l, ns, h => by cases h
  | .str _ :: l, ns, h => by cases h
  | .tup _ :: l, ns, h => by cases h
  | .lst _ :: l, ns, h => by cases h
  | .scr _ :: l, ns, h => by cases h
  | .cell _ :: l, ns, h => by cases h
  | .raw _ :: l, ns, h => by cases h
  | .cls _ :: l, ns, h => by cases h
  | .exn _ _ :: l, ns, h => by cases h
@[simp] theorem intsOf_map : ∀ ns : List Int, intsOf (ns.map D.int) = some ns
  | [] => rfl
  | n :: ns => by rw [List.map_cons, intsOf, intsOf_map ns]; rfl
section
variable {X : Cx} {K : PySem.W.Frag} {w : Wl}
theorem one_inv {d : D} {xs : List V} (h : Rps K w.r w.F [d] xs) : ∃ v, xs = [v] ∧ Rp K w.r w.F d v := by
  obtain ⟨v, t, e, r1, r2⟩ := h.cons_inv
  have := r2.nil_inv
  subst this
  exact ⟨v, e, r1⟩
theorem two_inv {d e : D} {xs : List V} (h : Rps K w.r w.F [d, e] xs) : ∃ v u, xs = [v, u] ∧ Rp K w.r w.F d v ∧ Rp K w.r w.F e u := by
  obtain ⟨v, t, e1, r1, r2⟩ := h.cons_inv
  obtain ⟨u, q, r3⟩ := one_inv r2
  subst q
  exact ⟨v, u, e1, r1, r3⟩
theorem ints_of {x : D} {v : V} {ns : List Int} (hw : Wd K w) (r : Rp K w.r w.F x v) (h : (getQ x w.S).bind intsOf = some ns) : ∃ a, v = .ref a ∧ SqL K w.H a (ns.map V.int) := by
  cases q : getQ x w.S with
  | none => rw [q] at h; cases h
  | some l =>
    rw [q] at h
    have e := intsOf_eq (show intsOf l = some ns from h)
    subst e
    obtain ⟨a, vs, e1, q1, t⟩ := getQ_ok hw r q
    rw [t.ints] at q1
    exact ⟨a, e1, q1⟩
theorem cd_abs : CallD X (.builtin "abs") bAbs := ⟨_, call_abs, fun w xs ds W σ Q hw r hs => by
  unfold bAbs at hs
  split at hs
  · rename_i i
    obtain ⟨v, rfl, rv⟩ := one_inv r
    cases rp_int rv
    exact ⟨i, rfl, SatW.here hs hw rpi⟩
  · exact hs.elim⟩
theorem cd_len : CallD X (.builtin "len") bLen := ⟨_, call_len, fun w xs ds W σ Q hw r hs => by
  unfold bLen at hs
  split at hs
  · rename_i z
    obtain ⟨v, rfl, rv⟩ := one_inv r
    cases rp_str rv
    obtain ⟨hl, hs⟩ := satIf hs
    exact ⟨_, z.length, rfl, ⟨line16 hl, rfl⟩, SatW.here hs hw rpi⟩
  · rename_i l
    obtain ⟨v, rfl, rv⟩ := one_inv r
    obtain ⟨a, vs, rfl, q, t⟩ := getT_ok hw rv rfl
    exact ⟨_, l.length, rfl, .inr ⟨vs, .inl q, t.length.symm⟩, SatW.here hs hw rpi⟩
  · rename_i x _ _
    obtain ⟨v, rfl, rv⟩ := one_inv r
    cases q : getQ x w.S with
    | none => rw [q] at hs; exact hs.elim
    | some l =>
      rw [q] at hs
      obtain ⟨a, vs, rfl, q, t⟩ := getQ_ok hw rv q
      exact ⟨_, l.length, rfl, .inl ⟨vs, q, t.length.symm⟩, SatW.here hs hw rpi⟩
  · exact hs.elim⟩
theorem cd_sum (hc : X.calm = true) : CallD X (.builtin "sum") bSum := ⟨_, cr_sum hc, fun w xs ds W σ Q hw r hs => by
  unfold bSum at hs
  split at hs
  · rename_i x
    obtain ⟨v, rfl, rv⟩ := one_inv r
    split at hs
    · rename_i ns h
      obtain ⟨a, rfl, q⟩ := ints_of hw rv h
      exact ⟨a, ns, rfl, q, SatW.here hs hw rpi⟩
    · exact hs.elim
  · exact hs.elim⟩
theorem cd_max (hc : X.calm = true) : CallD X (.builtin "max") bMax := ⟨_, (call_max2 hc).or (cr_max hc), fun w xs ds W σ Q hw r hs => by
  unfold bMax at hs
  split at hs
  · rename_i i j
    obtain ⟨v, u, rfl, rv, ru⟩ := two_inv r
    cases rp_int rv
    cases rp_int ru
    exact .inl ⟨i, j, rfl, SatW.here hs hw rpi⟩
  · rename_i x
    obtain ⟨v, rfl, rv⟩ := one_inv r
    split at hs
    · rename_i n ns h
      obtain ⟨a, rfl, q⟩ := ints_of hw rv h
      refine .inr ⟨a, n :: ns, rfl, q, by simp, fun m h1 h2 => ?_⟩
      have e : m = maxL (n :: ns) := Int.le_antisymm (maxL_ge h1) (h2 _ (maxL_mem (by simp)))
      rw [e]
      exact SatW.here hs hw rpi
    · exact hs.elim
  · exact hs.elim⟩
theorem cd_min (hc : X.calm = true) : CallD X (.builtin "min") bMin := ⟨_, (call_min2 hc).or (cr_min hc), fun w xs ds W σ Q hw r hs => by
  unfold bMin at hs
  split at hs
  · rename_i i j
    obtain ⟨v, u, rfl, rv, ru⟩ := two_inv r
    cases rp_int rv
    cases rp_int ru
    exact .inl ⟨i, j, rfl, SatW.here hs hw rpi⟩
  · rename_i x
    obtain ⟨v, rfl, rv⟩ := one_inv r
    split at hs
    · rename_i n ns h
      obtain ⟨a, rfl, q⟩ := ints_of hw rv h
      refine .inr ⟨a, n :: ns, rfl, q, by simp, fun m h1 h2 => ?_⟩
      have e : m = minL (n :: ns) := Int.le_antisymm (h2 _ (minL_mem (by simp))) (minL_le h1)
      rw [e]
      exact SatW.here hs hw rpi
    · exact hs.elim
  · exact hs.elim⟩
theorem cd_int : CallD X (.type "int") bInt := ⟨_, call_int1, fun w xs ds W σ Q hw r hs => by
  unfold bInt at hs
  split at hs
  · rename_i i
    obtain ⟨v, rfl, rv⟩ := one_inv r
    cases rp_int rv
    exact .inl ⟨i, rfl, SatW.here hs hw rpi⟩
  · rename_i b
    obtain ⟨v, rfl, rv⟩ := one_inv r
    cases rp_bl rv
    exact .inr ⟨b, rfl, SatW.here hs hw rpi⟩
  · exact hs.elim⟩
theorem cd_list {mk : List D → M D} (m : Mk mk) : CallD X (.type "list") (bList mk) := ⟨_, call_list_of, fun w xs ds W σ Q hw r hs => by
  unfold bList at hs
  split at hs
  · rename_i l
    obtain ⟨v, rfl, rv⟩ := one_inv r
    obtain ⟨a, vs, rfl, q, t⟩ := getT_ok hw rv rfl
    exact ⟨a, vs, rfl, .inr (.inl q), m.go hw t hs⟩
  · rename_i x _
    obtain ⟨v, rfl, rv⟩ := one_inv r
    cases q : getQ x w.S with
    | none => rw [q] at hs; exact hs.elim
    | some l =>
      rw [q] at hs
      obtain ⟨a, vs, rfl, q, t⟩ := getQ_ok hw rv q
      exact ⟨a, vs, rfl, .inl q, m.go hw t hs⟩
  · exact hs.elim⟩
theorem cd_tuple : CallD X (.type "tuple") bTuple := ⟨_, call_tuple_of, fun w xs ds W σ Q hw r hs => by
  unfold bTuple at hs
  split at hs
  · rename_i l
    obtain ⟨v, rfl, rv⟩ := one_inv r
    obtain ⟨a, vs, rfl, q, t⟩ := getT_ok hw rv rfl
    exact ⟨a, vs, rfl, .inr ⟨.inl q, SatW.here hs hw rv⟩⟩
  · rename_i x _
    obtain ⟨v, rfl, rv⟩ := one_inv r
    cases q : getQ x w.S with
    | none => rw [q] at hs; exact hs.elim
    | some l =>
      rw [q] at hs
      obtain ⟨a, vs, rfl, q, t⟩ := getQ_ok hw rv q
      exact ⟨a, vs, rfl, .inl ⟨q, tup_go hw t hs⟩⟩
  · exact hs.elim⟩

/-! ### isinstance, of built-in classes -/
inductive Ty where | int | bool | list | tuple | str | dict
  deriving DecidableEq
def Ty.name : Ty → String
  | .int => "int" | .bool => "bool" | .list => "list" | .tuple => "tuple" | .str => "str" | .dict => "dict"
def tyOf (d : D) (S : Store) : Option String := match d with
  | .non => some "NoneType"
  | .bl _ => some "bool"
  | .int _ => some "int"
  | .str _ => some "str"
  | .tup _ => some "tuple"
  | .lst _ => some "list"
  | .scr _ => some "list"
  | .cell n => match S[n]? with
    | some (.lst _) => some "list"
    | some (.dct _) => some "dict"
    | _ => none
  | .raw _ => none
  | .cls _ => none
  | .exn _ _ => none
def isTy (ty : Ty) (t : String) : Bool := t == ty.name || (ty == .int && t == "bool")
end
end
end Dv
/-! # Dv6: isinstance, slices, stores, methods of lists, freezing -/
namespace Dv
noncomputable section
open PySem PySem.Spec PyProof.Rows L2

/-! ### a built-in's name as a value -/
section
variable {X : Cx} {W : WX} {pos : Pos}
theorem pd_ty {x : Str} {n : String} (hm : X.mg x = none) (hv : bootBuiltins x = some (.type n)) (hg : Gl X x := by rfl) (hn : x ≠ "__name__" := by decide) (hd : (x == ("__debug__" : Str)) = false := by decide) : PD X W (.Name x pos) (xC (.raw (.ty n))) :=
  pd_c (v := V.ty n) (pe_bltn (v := V.ty n) hg hm hv rfl hn hd) (fun _ _ _ q => q) fun _ _ _ => by unfold Rp; rfl
/-- a module's number or text -/
theorem pd_gint {x : Str} {i : Int} {t : Tok} (hm : X.mg x = some (.int i t)) (hg : Gl X x := by rfl) (hd : (x == ("__debug__" : Str)) = false := by decide) : PD X W (.Name x pos) (xC (.int i)) :=
  pd_c (v := V.int i) (pe_glob (v := V.int i) hg hm ⟨_, rfl⟩ hd) (fun _ _ _ q => q) fun _ _ _ => rpi
theorem pd_gstr {x : Str} {i : Str} {t : Tok} (hm : X.mg x = some (.str i t)) (hg : Gl X x := by rfl) (hd : (x == ("__debug__" : Str)) = false := by decide) : PD X W (.Name x pos) (xC (.str i)) :=
  pd_c (v := V.str i) (pe_glob (v := V.str i) hg hm ⟨_, rfl⟩ hd) (fun _ _ _ q => q) fun _ _ _ => rps
theorem pd_gref {x : Str} {C : Addr} (hm : X.mg x = some (.ref C)) (hg : Gl X x := by rfl) (hd : (x == ("__debug__" : Str)) = false := by decide) : PD X W (.Name x pos) (xC (.raw (.ref C))) :=
  pd_c (v := V.ref C) (pe_glob (v := V.ref C) hg hm rfl hd) (fun _ _ _ q => q) fun _ _ _ => by unfold Rp; rfl
end
def bIsi (l : List D) (S : Store) : Res D := match l with
  | [d, .raw (.ty n)] => match tyOf d S with
    | some t => match kitB t n with
      | some b => .ok (.bl b) S
      | none => .bad
    | none => .bad
  | _ => .bad
theorem tyx {K : PySem.W.Frag} {w : Wl} {d : D} {v : V} {t : String} (hw : Wd K w) (r : Rp K w.r w.F d v) (h : tyOf d w.S = some t) : TyX K w.H v (.type t) := by
  have lst : ∀ {a : Addr} {vs : List V}, w.H a = some (.lst vs) → TyX K w.H (.ref a) (.type "list") := fun {a vs} q => .base (.lst q)
  cases d with
  | non => cases h; cases rp_non r; exact .base .non
  | bl b => cases h; cases rp_bl r; exact .base (.bl b)
  | int b => cases h; cases rp_int r; exact .base (.int b)
  | str b => cases h; cases rp_str r; exact .base (.str b)
  | tup l =>
    cases h
    obtain ⟨a, vs, rfl, q, p⟩ := getT_ok hw r rfl
    rcases q with q | ⟨o, q⟩
    · exact .base (.tup q)
    · exact .fTuple q
  | lst l =>
    cases h
    obtain ⟨a, vs, rfl, q, p⟩ := getL_ok hw r rfl
    exact lst q
  | scr l =>
    cases h
    obtain ⟨a, vs, rfl, q, p⟩ := getQ_ok hw r rfl
    rcases q with (q | ⟨o, q⟩) | ⟨o, its, n, h1, h2, _⟩
    · exact lst q
    · exact .base (.frz q)
    · exact .kList h1 h2
  | cell n =>
    unfold tyOf at h
    cases e : w.S[n]? with
    | none => simp only [e] at h; cases h
    | some c =>
      cases c with
      | lst l =>
        simp only [e] at h
        cases h
        obtain ⟨a, vs, rfl, q, p⟩ := getL_ok (l := l) hw r (by simp only [getL, e])
        exact lst q
      | dct l =>
        simp only [e] at h
        cases h
        unfold Rp at r
        obtain ⟨a, e1, rfl⟩ := r
        obtain ⟨_, vs, e2, p⟩ := hw.cell n a _ e1 e
        exact .base (.dK e2)
      | dead => simp only [e] at h; cases h
  | raw _ => cases h
  | cls _ => cases h
  | exn _ _ => cases h
section
variable {X : Cx}
theorem cd_isi : CallD X (.builtin "isinstance") bIsi := ⟨_, call_isi, fun w xs ds W σ Q hw r hs => by
  unfold bIsi at hs
  split at hs
  · rename_i d n
    obtain ⟨v, u, rfl, rv, ru⟩ := two_inv r
    cases rp_raw ru
    split at hs
    · rename_i t ht
      split at hs
      · rename_i b hb
        exact ⟨v, .ty n, .type t, .type n, b, rfl, .ty n, tyx hw rv ht, kit_ty hb, SatW.here hs hw rpb⟩
      · exact hs.elim
    · exact hs.elim
  · exact hs.elim⟩
end
@[simp] theorem kb_ii : kitB "int" "int" = some true := by decide +kernel
@[simp] theorem kb_bi : kitB "bool" "int" = some true := by decide +kernel
@[simp] theorem kb_si : kitB "str" "int" = some false := by decide +kernel
@[simp] theorem kb_ni : kitB "NoneType" "int" = some false := by decide +kernel
@[simp] theorem kb_li : kitB "list" "int" = some false := by decide +kernel
@[simp] theorem kb_ti : kitB "tuple" "int" = some false := by decide +kernel
@[simp] theorem kb_di : kitB "dict" "int" = some false := by decide +kernel
@[simp] theorem kb_ib : kitB "int" "bool" = some false := by decide +kernel
@[simp] theorem kb_bb : kitB "bool" "bool" = some true := by decide +kernel
@[simp] theorem kb_sb : kitB "str" "bool" = some false := by decide +kernel
@[simp] theorem kb_nb : kitB "NoneType" "bool" = some false := by decide +kernel
@[simp] theorem kb_lb : kitB "list" "bool" = some false := by decide +kernel
@[simp] theorem kb_tb : kitB "tuple" "bool" = some false := by decide +kernel
@[simp] theorem kb_db : kitB "dict" "bool" = some false := by decide +kernel
@[simp] theorem kb_il : kitB "int" "list" = some false := by decide +kernel
@[simp] theorem kb_bl : kitB "bool" "list" = some false := by decide +kernel
@[simp] theorem kb_sl : kitB "str" "list" = some false := by decide +kernel
@[simp] theorem kb_nl : kitB "NoneType" "list" = some false := by decide +kernel
@[simp] theorem kb_ll : kitB "list" "list" = some true := by decide +kernel
@[simp] theorem kb_tl : kitB "tuple" "list" = some false := by decide +kernel
@[simp] theorem kb_dl : kitB "dict" "list" = some false := by decide +kernel
@[simp] theorem kb_it : kitB "int" "tuple" = some false := by decide +kernel
@[simp] theorem kb_bt : kitB "bool" "tuple" = some false := by decide +kernel
@[simp] theorem kb_st : kitB "str" "tuple" = some false := by decide +kernel
@[simp] theorem kb_nt : kitB "NoneType" "tuple" = some false := by decide +kernel
@[simp] theorem kb_lt : kitB "list" "tuple" = some false := by decide +kernel
@[simp] theorem kb_tt : kitB "tuple" "tuple" = some true := by decide +kernel
@[simp] theorem kb_dt : kitB "dict" "tuple" = some false := by decide +kernel

/-! ### slices -/
abbrev RO : Wl → Option Int → Option Int → Prop := fun _ a b => a = b
def tDO (T : Kt) (W : WX) (f : Env → M (Option Int)) : TO := fun σ H Q => ∃ (w : Wl) (env : Env), w.H = H ∧ Wd T.K w ∧ EnvOk T.K w env σ ∧ SatW T W σ RO w (f env w.S) (fun w' _ v => Q v w'.H)
def POD (X : Cx) (W : WX) (e : Option Expr) (f : Env → M (Option Int)) : Prop := PO X e (tDO (kt X) W f)
def oNone : Env → M (Option Int) := fun _ S => .ok none S
def oSome (f : Env → M D) : Env → M (Option Int) := fun e S => (f e S).bind fun d S1 => match d with
  | .int i => .ok (some i) S1
  | _ => .bad
def slD (mk : List D → M D) (d : D) (lo hi : Option Int) (S : Store) : Res D := match d with
  | .str z => if z.length ≤ 16000000 then .ok (.str (cutS z lo hi)) S else .bad
  | .tup l => if ¬ (HT.sIx l.length 0 lo = 0 ∧ HT.sIx l.length l.length hi = l.length) then .ok (.tup ((l.drop (HT.sIx l.length 0 lo)).take (HT.sIx l.length l.length hi - HT.sIx l.length 0 lo))) S else .bad
  | d => match getQ d S with
    | some l => mk ((l.drop (HT.sIx l.length 0 lo)).take (HT.sIx l.length l.length hi - HT.sIx l.length 0 lo)) S
    | none => .bad
def xSl (mk : List D → M D) (f : Env → M D) (lo hi : Env → M (Option Int)) : Env → M D := fun e S => (f e S).bind fun d S1 => (lo e S1).bind fun a S2 => (hi e S2).bind fun b S3 => slD mk d a b S3
section
variable {X : Cx} {W : WX} {e : Expr} {lo hi : Option Expr} {f : Env → M D} {fl fh : Env → M (Option Int)} {pos p2 : Pos} {mk : List D → M D}
theorem weakO {e : Option Expr} {t t' : TO} (h : PO X e t) (q : ∀ σ H Q, t' σ H Q → t σ H Q) : PO X e t' := ⟨fun pins s σ H Q I z => h.run pins s σ H Q I (q _ _ _ z)⟩
theorem pod_none : POD X W none oNone := by
  refine weakO po_none fun σ H Q ⟨w, env, eH, hw, he, hs⟩ => ?_
  subst eH
  exact SatW.here (d := (none : Option Int)) (v := (none : Option Int)) hs hw rfl
theorem pod_some (h : PD X W e f) : POD X W (some e) (oSome f) := by
  refine weakO (po_some h) fun σ H Q ⟨w, env, eH, hw, he, hs⟩ => ?_
  subst eH
  refine ⟨w, env, rfl, hw, he, SatW.imp (SatW.bind hs) fun w1 d v g1 r1 s1 => ?_⟩
  cases d with
  | int i => exact ⟨i, rp_int r1, SatW.here (d := some i) (v := some i) s1 g1.wd rfl⟩
  | _ => exact s1.elim
theorem pd_slice (m : Mk mk) (he : PD X W e f) (hl : POD X W lo fl) (hu : POD X W hi fh) : PD X W (.Subscript e (.Slice lo hi none p2) pos) (xSl mk f fl fh) := by
  refine weakE (pe_slice (sl_list.or (sl_tup.or sl_str)) he hl hu) fun σ H Q ⟨w, env, eH, hw, he, hs⟩ => ?_
  subst eH
  refine ⟨w, env, rfl, hw, he, SatW.imp (SatW.bind hs) fun w1 d v g1 r1 s1 => ?_⟩
  refine ⟨w1, env, rfl, g1.wd, he.go g1, SatW.imp (SatW.bind s1) fun w2 a a' g2 ea s2 => ?_⟩
  have ea' : a = a' := ea
  subst ea'
  refine ⟨w2, env, rfl, g2.wd, (he.go g1).go g2, SatW.imp (SatW.bind s2) fun w3 b b' g3 eb s3 => ?_⟩
  have eb' : b = b' := eb
  subst eb'
  have r3 : Rp X.K w3.r w3.F d v := Rp.go (g2.trans g3) r1
  have s3' : SatW (kt X) W σ (RD X.K) w3 (slD mk d a b w3.S) (fun w' _ v => Q v w'.H) := s3
  unfold slD at s3'
  split at s3'
  · rename_i z
    obtain ⟨hl, s4⟩ := satIf s3'
    exact .inr (.inr ⟨z, rp_str r3, line16 hl, SatW.here s4 g3.wd rps⟩)
  · rename_i l
    obtain ⟨hl, s4⟩ := satIf s3'
    obtain ⟨p, vs, rfl, q, t⟩ := getT_ok g3.wd r3 rfl
    refine .inr (.inl ⟨p, vs, rfl, .inl q, by rw [t.length]; exact hl, tup_go g3.wd ?_ s4⟩)
    unfold cutV
    rw [t.length]
    exact (t.drop _).take _
  · split at s3'
    · rename_i l hl
      obtain ⟨p, vs, rfl, q, t⟩ := getQ_ok g3.wd r3 hl
      refine .inl ⟨p, vs, rfl, q, m.go g3.wd ?_ s3'⟩
      unfold cutV
      rw [t.length]
      exact (t.drop _).take _
    · exact s3'.elim
end

/-! ### freezing -/
def frz (d : D) (S : Store) : Res D := match d with
  | .cell n => match S[n]? with
    | some (.lst l) => .ok (.lst l) (S.set n .dead)
    | _ => .bad
  | d => .ok d S
def xFrz (f : Env → M D) : Env → M D := fun e S => (f e S).bind frz
def frzE (i : Nat) : Env → Store → Out := fun e S => match e[i]? with
  | some (some d) => (frz d S).out e fun d' S' => .nx (e.set i (some d')) S'
  | _ => .bad
theorem frz_sat {T : Kt} {W : WX} {σ : L2.St} {w : Wl} {d : D} {v : V} {P : Wl → D → V → Prop} (hw : Wd T.K w) (r : Rp T.K w.r w.F d v) (h : SatW T W σ (RD T.K) w (frz d w.S) P) : ∃ w' d', w'.H = w.H ∧ P w' d' v ∧ Go T.K w w' ∧ Rp T.K w'.r w'.F d' v ∧ frz d w.S = .ok d' w'.S := by
  cases d with
  | cell n =>
    unfold frz at h ⊢
    cases e : w.S[n]? with
    | none => simp only [e] at h; exact h.elim
    | some c =>
      cases c with
      | lst l =>
        simp only [e] at h ⊢
        unfold Rp at r
        obtain ⟨a, e1, rfl⟩ := r
        obtain ⟨hf, vs, e2, p⟩ := hw.cell n a _ e1 e
        have g := Go.freeze hw e e1 e2
        have r' : Rp T.K w.r (upd w.F a (.lst vs)) (.lst l) (.ref a) := by
          unfold Rp
          exact ⟨a, vs, rfl, upd_same, Rps.mono ⟨[], by simp⟩ g.F _ _ p⟩
        exact ⟨⟨w.r, upd w.F a (.lst vs), w.S.set n .dead, w.H⟩, .lst l, rfl, h _ _ g rfl r', g, r', rfl⟩
      | dct _ => simp only [e] at h; exact h.elim
      | dead => simp only [e] at h; exact h.elim
  | non => exact ⟨w, _, rfl, SatW.here h hw r, Go.refl hw, r, rfl⟩
  | bl _ => exact ⟨w, _, rfl, SatW.here h hw r, Go.refl hw, r, rfl⟩
  | int _ => exact ⟨w, _, rfl, SatW.here h hw r, Go.refl hw, r, rfl⟩
  | str _ => exact ⟨w, _, rfl, SatW.here h hw r, Go.refl hw, r, rfl⟩
  | tup _ => exact ⟨w, _, rfl, SatW.here h hw r, Go.refl hw, r, rfl⟩
  | lst _ => exact ⟨w, _, rfl, SatW.here h hw r, Go.refl hw, r, rfl⟩
  | scr _ => exact ⟨w, _, rfl, SatW.here h hw r, Go.refl hw, r, rfl⟩
  | raw _ => exact ⟨w, _, rfl, SatW.here h hw r, Go.refl hw, r, rfl⟩
  | cls _ => exact ⟨w, _, rfl, SatW.here h hw r, Go.refl hw, r, rfl⟩
  | exn _ _ => exact ⟨w, _, rfl, SatW.here h hw r, Go.refl hw, r, rfl⟩
section
variable {X : Cx} {W : WX} {e : Expr} {f : Env → M D} {s : Stmt} {g : Env → Store → Out}
theorem pd_frz (h : PD X W e f) : PD X W e (xFrz f) := by
  refine weakE h fun σ H Q ⟨w, env, eH, hw, he, hs⟩ => ?_
  refine ⟨w, env, eH, hw, he, SatW.imp (SatW.bind hs) fun w1 d v g1 r1 s1 => ?_⟩
  obtain ⟨w', d', e1, q, _⟩ := frz_sat g1.wd r1 s1
  rw [e1] at q
  exact q
theorem psd_frz {i : Nat} (h : PSD X W s g) : PSD X W s (ySeq g (frzE i)) := by
  refine weakS h fun D σ H ⟨w, env, eH, hw, he, hs⟩ => ⟨w, env, eH, hw, he, ?_⟩
  have hs' : SatS (kt X) W w ((g env w.S).seq (frzE i)) D := hs
  cases o : g env w.S with
  | nx e' S' =>
    rw [o] at hs'
    intro w1 σ1 g1 eS he1
    subst eS
    have hs1 := hs'.pre g1
    rw [Out.seq_nx] at hs1
    unfold frzE at hs1
    cases q : e'[i]? with
    | none => rw [q] at hs1; exact hs1.elim
    | some oo =>
      cases oo with
      | none => rw [q] at hs1; exact hs1.elim
      | some d =>
        rw [q] at hs1
        obtain ⟨v, ev, rv⟩ := he1.2 i d q
        have hs2 := SatS.out (R := RD X.K) (β := V) hs1 he1
        obtain ⟨w2, d2, e2, q2, g2, r2, f2⟩ := frz_sat (T := kt X) g1.wd rv hs2
        have hs3 : SatS (kt X) W w1 (.nx (e'.set i (some d2)) w2.S) D := by
          have hs1' : SatS (kt X) W w1 ((frz d w1.S).out e' fun d' S' => .nx (e'.set i (some d')) S') D := hs1
          rw [f2] at hs1'
          exact hs1'
        have fin := hs3 w2 (σ1.set i (some v)) g2 rfl ((he1.go g2).set r2)
        have es : σ1.set i (some v) = σ1 := by
          apply List.ext_getElem?
          intro k
          rw [List.getElem?_set]
          by_cases hk : i = k
          · subst hk
            rw [if_pos rfl, ev, if_pos (List.getElem?_eq_some_iff.mp ev).1]
          · rw [if_neg hk]
        rw [es, e2] at fin
        exact fin
  | rt d S => rw [o] at hs'; exact hs'
  | bk e S => rw [o] at hs'; exact hs'
  | ct e S => rw [o] at hs'; exact hs'
  | exc x e S => rw [o] at hs'; exact hs'
  | bad => rw [o] at hs'; exact hs'
end

/-! ### o[i] = v -/
def SetD (X : Cx) (g : D → D → D → M Unit) : Prop :=
  ∃ rr : TSet, PSet X rr ∧ ∀ (w : Wl) (x i v : V) (dx di dv : D) (W : WX) (σ : L2.St) (Q : Hp → Prop), Wd X.K w → RD X.K w dx x → RD X.K w di i → RD X.K w dv v → SatW (kt X) W σ (fun _ (_ : Unit) (_ : Unit) => True) w (g dx di dv w.S) (fun w' _ _ => Q w'.H) → rr x i v w.H Q
def setL (x i v : D) (S : Store) : Res Unit := match x, i with
  | .cell n, .int k => match S[n]? with
    | some (.lst l) => match ixN l.length k with
      | some j => .ok () (S.set n (.lst (l.set j v)))
      | none => .bad
    | _ => .bad
  | _, _ => .bad
/-- a list's cell is written -/
theorem cell_write {T : Kt} {w : Wl} {n : Nat} {l l' : List D} {v : V} (hw : Wd T.K w) (r : Rp T.K w.r w.F (.cell n) v) (e : w.S[n]? = some (.lst l)) : ∃ a vs, v = .ref a ∧ w.H a = some (.lst vs) ∧ Rps T.K w.r w.F l vs ∧
    ∀ vs', Rps T.K w.r w.F l' vs' → Go T.K w ⟨w.r, w.F, w.S.set n (.lst l'), upd w.H a (.lst vs')⟩ := by
  unfold Rp at r
  obtain ⟨a, e1, rfl⟩ := r
  obtain ⟨hf, vs, e2, p⟩ := hw.cell n a _ e1 e
  exact ⟨a, vs, rfl, e2, p, fun vs' h => Go.write (c := .lst l') hw e (by simp) e1 (by exact ⟨hf, vs', upd_same, h⟩)⟩
def ySub (f o i : Env → M D) (g : D → D → D → M Unit) : Env → Store → Out := fun e S => (f e S).out e fun v S1 => (o e S1).out e fun x S2 => (i e S2).out e fun k S3 => (g x k v S3).out e fun _ S4 => .nx e S4
section
variable {X : Cx} {W : WX} {e o i : Expr} {f fo fi : Env → M D} {g : D → D → D → M Unit} {pos tpos : Pos}
theorem sd_list : SetD X setL := ⟨_, set_list, fun w x i v dx di dv W σ Q hw r1 r2 r3 hs => by
  unfold setL at hs
  split at hs
  · rename_i n k
    cases en : w.S[n]? with
    | none => simp only [en] at hs; exact hs.elim
    | some c =>
      cases c with
      | lst l =>
        simp only [en] at hs
        cases ej : ixN l.length k with
        | none => simp only [ej] at hs; exact hs.elim
        | some j =>
          simp only [ej] at hs
          obtain ⟨a, vs, rfl, ha, p, go⟩ := cell_write (T := kt X) (l' := l.set j dv) hw r1 en
          exact ⟨a, vs, k, j, rfl, rp_int r2, ha, by rw [p.length]; exact ej, hs _ () (go _ (p.set j r3)) rfl trivial⟩
      | dct _ => simp only [en] at hs; exact hs.elim
      | dead => simp only [en] at hs; exact hs.elim
  · exact hs.elim⟩
theorem psd_sub (sd : SetD X g) (hv : PD X W e f) (ho : PD X W o fo) (hi : PD X W i fi) (hs : swapsWithSole [.Subscript o i tpos] e pos.line X.env = pure false := by rfl) (hw : swappedStores [.Subscript o i tpos] e X.env = pure none := by rfl)
    (h1 : (assignEach [.Subscript o i tpos] X.env).map (·.2) = [assign (.Subscript o i tpos) X.env] := by rfl)
    (ha : ∀ v, assign (.Subscript o i tpos) X.env v = (do
      let ov ← holding [v] (eval o X.env)
      let iv ← holding [v, ov] (eval i X.env)
      standAt tpos
      holding [v, ov, iv] (setItem ov iv v)
      release [v, ov, iv] []) := by intro _; rfl) : PSD X W (.Assign [.Subscript o i tpos] e pos) (ySub f fo fi g) := by
  obtain ⟨rr, ro, hr⟩ := sd
  refine weakS (ps_asg hv (pg_sub ho hi ro ha) hs hw h1) fun D σ H ⟨w, env, eH, hw, he, hs⟩ => ?_
  subst eH
  refine ⟨w, env, rfl, hw, he, SatW.imp (SatS.out hs he) fun w1 d v g1 r1 s1 => ?_⟩
  refine ⟨w1, env, rfl, g1.wd, he.go g1, SatW.imp (SatS.out s1 (he.go g1)) fun w2 d2 v2 g2 r2 s2 => ?_⟩
  refine ⟨w2, env, rfl, g2.wd, (he.go g1).go g2, SatW.imp (SatS.out s2 ((he.go g1).go g2)) fun w3 d3 v3 g3 r3 s3 => ?_⟩
  refine hr w3 v2 v3 v d2 d3 d W σ _ g3.wd (Rp.go g3 r2) r3 (Rp.go (g2.trans g3) r1) (SatW.imp (SatS.out s3 (((he.go g1).go g2).go g3)) fun w4 _ _ g4 _ s4 => ?_)
  exact s4 w4 σ (Go.refl g4.wd) rfl ((((he.go g1).go g2).go g3).go g4)
theorem pget_list : PGet X (fun x y H Q => ∃ p xs i v, x = .ref p ∧ y = .int i ∧ SqL X.K H p xs ∧ 0 ≤ i ∧ atI xs i = some v ∧ Q v H) := by
  intro pins s σ H x y v u Q I rx ry h
  obtain ⟨p, xs, i, z, rfl, rfl, hq, h0, he, q⟩ := h
  cases rx
  obtain ⟨t, rfl⟩ := ry
  obtain ⟨its, r, pl, hz⟩ := I.list hq
  obtain ⟨j, h1, h2, h3, h4, h5⟩ := atI_get he
  obtain ⟨w, ew, rw'⟩ := r.get h2
  have hl := r.length
  have hn := line63
  have hj : i.toNat = j := by
    rw [seqIndex_of h0 h5] at h1
    exact Option.some.inj h1
  exact wpAny_getItem_list pl.isList h0 (by omega) (by rw [hj]; simpa using ew) ⟨z, H, I, rw', q⟩
def yAugSub (o i f : Env → M D) (gi : D → D → M D) : Env → Store → Out := fun e S => (o e S).out e fun x S1 => (i e S1).out e fun k S2 => match k with
  | .int kk => match getL x S2 with
    | some l => if 0 ≤ kk then match atI l kk with
        | some old => (f e S2).out e fun y S4 => (gi old y S4).out e fun z S5 => (setL x (.int kk) z S5).out e fun _ S6 => .nx e S6
        | none => .bad
      else .bad
    | none => .bad
  | _ => .bad
theorem psd_augsub {op : Operator} {gi : D → D → M D} (io : IpD X op gi) (ho : PD X W o fo) (hi : PD X W i fi) (hv : PD X W e f)
    (ha : ∀ ov iv new, augStore i ov iv new = (do holding [new, ov, iv] (setItem ov iv new); release [new, ov, iv] []; pure .next) := by intros; rfl) : PSD X W (.AugAssign (.Subscript o i tpos) op e pos) (yAugSub fo fi f gi) := by
  obtain ⟨rr, ro, hr⟩ := io
  obtain ⟨rs, rso, hrs⟩ := (sd_list (X := X))
  refine weakS (ps_augS ho hi pget_list hv ro rso ha) fun D σ H ⟨w, env, eH, hw, he, hs⟩ => ?_
  subst eH
  refine ⟨w, env, rfl, hw, he, SatW.imp (SatS.out hs he) fun w1 d v g1 r1 s1 => ?_⟩
  refine ⟨w1, env, rfl, g1.wd, he.go g1, SatW.imp (SatS.out s1 (he.go g1)) fun w2 d2 v2 g2 r2 s2 => ?_⟩
  have he2 := (he.go g1).go g2
  cases d2 with
  | int kk =>
    cases hl : getL d w2.S with
    | none => simp only [hl] at s2; exact s2.elim
    | some l =>
      simp only [hl] at s2
      by_cases h0 : 0 ≤ kk
      · rw [if_pos h0] at s2
        cases q : L2.atI l kk with
        | none => simp only [q] at s2; exact s2.elim
        | some old =>
          simp only [q] at s2
          have rd : Rp X.K w2.r w2.F d v := Rp.go g2 r1
          obtain ⟨a, vs, rfl, hq, t⟩ := getL_ok g2.wd rd hl
          obtain ⟨vz, evz, rz⟩ := t.atI q
          refine ⟨a, vs, kk, vz, rfl, rp_int r2, .inl (.inl hq), h0, evz, ?_⟩
          refine ⟨w2, env, rfl, g2.wd, he2, SatW.imp (SatS.out s2 he2) fun w4 d4 v4 g4 r4 s4 => ?_⟩
          refine hr w4 vz v4 old d4 W σ _ g4.wd (Rp.go g4 rz) r4 (SatW.imp (SatS.out s4 (he2.go g4)) fun w5 d5 v5 g5 r5 s5 => ?_)
          refine hrs w5 (.ref a) v2 v5 d (.int kk) d5 W σ _ g5.wd (Rp.go (g4.trans g5) rd) (Rp.go (g4.trans g5) r2) r5 (SatW.imp (SatS.out s5 ((he2.go g4).go g5)) fun w6 _ _ g6 _ s6 => ?_)
          exact s6 w6 σ (Go.refl g6.wd) rfl (((he2.go g4).go g5).go g6)
      · rw [if_neg h0] at s2
        exact s2.elim
  | _ => exact s2.elim
def ipAdd : D → D → M D := iOp always fun i j => .int (i + j)
def ipSub : D → D → M D := iOp always fun i j => .int (i - j)
@[simp] theorem ipAdd_ok {i j : Int} {S : Store} : ipAdd (.int i) (.int j) S = .ok (.int (i + j)) S := rfl
@[simp] theorem ipSub_ok {i j : Int} {S : Store} : ipSub (.int i) (.int j) S = .ok (.int (i - j)) S := rfl
theorem id_add : IpD X .Add ipAdd := ⟨_, ip_add, fun w x y d e W σ Q hw r1 r2 hs => by
  obtain ⟨i, j, h1, h2, _, q⟩ := iOp_sat (gv := fun i j => V.int (i + j)) (fun _ _ _ _ _ => rpi) hw r1 r2 hs
  exact ⟨i, j, h1, h2, q⟩⟩
theorem id_sub : IpD X .Sub ipSub := ⟨_, ip_sub, fun w x y d e W σ Q hw r1 r2 hs => by
  obtain ⟨i, j, h1, h2, _, q⟩ := iOp_sat (gv := fun i j => V.int (i - j)) (fun _ _ _ _ _ => rpi) hw r1 r2 hs
  exact ⟨i, j, h1, h2, q⟩⟩
end

/-! ### methods -/
def isT (T : String) (d : D) (S : Store) : Bool := match d with
  | .str _ => T == "str"
  | .lst _ => T == "list"
  | .cell n => match S[n]? with
    | some (.lst _) => T == "list"
    | some (.dct _) => T == "dict"
    | _ => false
  | _ => false
theorem tyV_of {K : PySem.W.Frag} {w : Wl} {d : D} {v : V} {T : String} (hw : Wd K w) (r : Rp K w.r w.F d v) (h : isT T d w.S = true) : tyV K T v w.H := by
  cases d with
  | str x => cases rp_str r; exact eq_of_beq h
  | lst l =>
    obtain ⟨a, vs, rfl, q, t⟩ := getL_ok hw r rfl
    exact .inl ⟨eq_of_beq h, vs, .inl (.inl q)⟩
  | cell n =>
    unfold isT at h
    cases e : w.S[n]? with
    | none => simp only [e] at h; cases h
    | some c =>
      cases c with
      | lst l =>
        simp only [e] at h
        obtain ⟨a, vs, rfl, q, t⟩ := getL_ok (l := l) hw r (by simp only [getL, e])
        exact .inl ⟨eq_of_beq h, vs, .inl (.inl q)⟩
      | dct l =>
        simp only [e] at h
        unfold Rp at r
        obtain ⟨a, e1, rfl⟩ := r
        obtain ⟨_, vs, e2, p⟩ := hw.cell n a _ e1 e
        exact .inr (.inr (.inl ⟨eq_of_beq h, .inl ⟨vs, e2⟩⟩))
      | dead => simp only [e] at h; cases h
  | non => cases h
  | bl _ => cases h
  | int _ => cases h
  | tup _ => cases h
  | scr _ => cases h
  | raw _ => cases h
  | cls _ => cases h
  | exn _ _ => cases h
def MtD (X : Cx) (id : String) (g : D → List D → M D) : Prop :=
  ∃ rr : V → List V → Hp → VK → Prop, MtR X id rr ∧ ∀ (w : Wl) (x : V) (xs : List V) (d : D) (ds : List D) (W : WX) (σ : L2.St) (Q : VK), Wd X.K w → RD X.K w d x → RDs X.K w ds xs → SatW (kt X) W σ (RD X.K) w (g d ds w.S) (fun w' _ v => Q v w'.H) → rr x xs w.H Q
def xMt (T : String) (g : D → List D → M D) (o : Env → M D) (a : Env → M (List D)) : Env → M D := fun e S => (o e S).bind fun x S1 => if isT T x S1 = true then (a e S1).bind fun l S2 => g x l S2 else .bad
section
variable {X : Cx} {W : WX} {o e : Expr} {es : List Expr} {fo : Env → M D} {h : Env → M (List D)} {name : Str} {apos cpos : Pos} {T id : String} {g : D → List D → M D}
theorem pd_bm0 (pa : PlainAttrs T) (slot : Slot T name id) (hty : typeOf (.builtin id) = pure (.type "method_descriptor")) (hm : MtD X id g) (ho : PD X W o fo)
    (hbase : attributeBase o name X.env (eval o X.env) = eval o X.env := by rfl) (hline : (apos.endLine == cpos.line) = true := by rfl) : PD X W (.Call (.Attribute o name apos) [] [] cpos) (xMt T g fo xNil) := by
  obtain ⟨rr, ro, hr⟩ := hm
  refine weakE (pe_bm0 pa slot hty ro ho hbase hline) fun σ H Q ⟨w, env, eH, hw, he, hs⟩ => ?_
  subst eH
  refine ⟨w, env, rfl, hw, he, SatW.imp (SatW.bind hs) fun w1 d v g1 r1 s1 => ?_⟩
  obtain ⟨ht, s1⟩ := satIf s1
  exact ⟨tyV_of g1.wd r1 ht, hr w1 v [] d [] W σ Q g1.wd r1 rps_nil s1⟩
theorem pd_bm (pa : PlainAttrs T) (slot : Slot T name id) (hty : typeOf (.builtin id) = pure (.type "method_descriptor")) (hm : MtD X id g) (ho : PD X W o fo) (ha : PAD X W (e :: es) h)
    (hbase : attributeBase o name X.env (eval o X.env) = eval o X.env := by rfl)
    (hfew : ((backTo cpos (starEach (e :: es) X.env)).all (fun x => !x.1) && (backToKw cpos (keywordEach [] X.env)).all (fun x => x.1.isSome)
      && decide ((e :: es).length + ([] : List Keyword).length + (if ([] : List Keyword).isEmpty then 0 else 1) < 30)) = true := by rfl)
    (hline : (apos.endLine == cpos.line) = true := by rfl) (hs : starEach (e :: es) X.env = (false, eval e X.env) :: starEach es X.env := by rfl) (hplain : (backTo cpos (starEach es X.env)).any (·.1) = false := by rfl) :
    PD X W (.Call (.Attribute o name apos) (e :: es) [] cpos) (xMt T g fo h) := by
  obtain ⟨rr, ro, hr⟩ := hm
  refine weakE (pe_bm pa slot hty ro ho ha hbase hfew hline hs hplain) fun σ H Q ⟨w, env, eH, hw, he, hs⟩ => ?_
  subst eH
  refine ⟨w, env, rfl, hw, he, SatW.imp (SatW.bind hs) fun w1 d v g1 r1 s1 => ?_⟩
  obtain ⟨ht, s1⟩ := satIf s1
  refine ⟨tyV_of g1.wd r1 ht, w1, env, rfl, g1.wd, he.go g1, SatW.imp (SatW.bind s1) fun w2 d2 v2 g2 r2 s2 => ?_⟩
  exact hr w2 v v2 d d2 W σ Q g2.wd (Rp.go g2 r1) r2 s2
end
/-- the list in a cell -/
def cellL (d : D) (S : Store) : Option (Nat × List D) := match d with
  | .cell n => match S[n]? with
    | some (.lst l) => some (n, l)
    | _ => none
  | _ => none
def mAppend (x : D) (a : List D) (S : Store) : Res D := match a, cellL x S with
  | [y], some (n, l) => if l.length < 16000000 then .ok .non (S.set n (.lst (l ++ [y]))) else .bad
  | _, _ => .bad
def mClear (x : D) (a : List D) (S : Store) : Res D := match a, cellL x S with
  | [], some (n, _) => .ok .non (S.set n (.lst []))
  | _, _ => .bad
def mExtend (x : D) (a : List D) (S : Store) : Res D := match a, cellL x S with
  | [.lst z], some (n, l) => if l.length + z.length ≤ 16000000 then .ok .non (S.set n (.lst (l ++ z))) else .bad
  | _, _ => .bad
theorem cellL_eq {d : D} {S : Store} {n : Nat} {l : List D} (h : cellL d S = some (n, l)) : d = .cell n ∧ S[n]? = some (.lst l) := by
  unfold cellL at h
  split at h
  · split at h
    · rename_i k l' e
      cases h
      exact ⟨rfl, e⟩
    · cases h
  · cases h
section
variable {X : Cx}
theorem md_append : MtD X "list.append" mAppend := ⟨_, mt_append, fun w x xs d ds W σ Q hw r1 r2 hs => by
  unfold mAppend at hs
  split at hs
  · rename_i y n l hc
    obtain ⟨rfl, en⟩ := cellL_eq hc
    obtain ⟨hl, hs⟩ := satIf hs
    obtain ⟨v, rfl, rv⟩ := one_inv r2
    obtain ⟨a, vs, rfl, ha, p, go⟩ := cell_write (T := kt X) (l' := l ++ [y]) hw r1 en
    refine ⟨a, vs, v, rfl, rfl, ha, by rw [p.length]; exact Nat.lt_of_lt_of_le hl (line16 (Nat.le_refl _)), ?_⟩
    exact hs _ V.non (go _ (p.append (rps_cons rv rps_nil))) rfl rpn
  · exact hs.elim⟩
theorem md_clear : MtD X "list.clear" mClear := ⟨_, mt_clear, fun w x xs d ds W σ Q hw r1 r2 hs => by
  unfold mClear at hs
  split at hs
  · rename_i n l hc
    obtain ⟨rfl, en⟩ := cellL_eq hc
    obtain ⟨a, vs, rfl, ha, p, go⟩ := cell_write (T := kt X) (l' := []) hw r1 en
    have e0 := r2.nil_inv
    exact ⟨a, vs, rfl, e0, ha, hs _ V.non (go _ rps_nil) rfl rpn⟩
  · exact hs.elim⟩
end
end
end Dv
/-! # Dv7: a comprehension given to a name; the end of a law -/
namespace Dv
open PySem PySem.Spec PyProof.Rows L2
section
variable {X : Cx} {W : WX} {elt tg iter : Expr} {ifs : List Expr} {scope : Scope} {own : List (Str × Nat)} {pos spos py : Pos} {mk : List D → M D} {src : Env → M Src} {gV : TG} {gE : D → Env → Option Env} {c : Env → M Bool} {f : Env → M D} {i : Nat} {y : Str}
theorem set_read {t : TE} (ht : ∀ σ H Q, tD (kt X) W f σ H Q → t σ H Q) {D : Ends} {σ : L2.St} {H : Hp} (h : sD (kt X) W (ySet i f) D σ H) : tAsg t (gName i) D σ H := by
  obtain ⟨w, env, eH, hw, he, hs⟩ := h
  refine ht σ H (fun x H1 => gName i x σ H1 D.nx) ⟨w, env, eH, hw, he, SatW.imp (SatS.out hs he) fun w1 d v g1 r1 s1 => ?_⟩
  exact s1 w1 _ (Go.refl g1.wd) rfl ((he.go g1).set r1)
theorem psd_setLc (m : Mk mk) (tgd : TgD (kt X) (own.map (·.2)) gV gE) (hc : X.calm = true) (hN : X.N.Nodup) (hsw : swapsWith (.ListComp elt [⟨tg, iter, [], 0⟩] scope pos) (some (.Name y py)) spos.line X.env = pure true) (hi : PID X W tg iter src) (ok : BlkOk X.N X.env.scope scope own)
    (hg : ∀ (s : Shared) (H : Hp) (C : Addr) (cl : List (Str × Addr)) (fp : List Addr), PG (X.blk s H scope (compEnvC scope cl C X.env) fp) tg gV)
    (he : ∀ (s : Shared) (H : Hp) (C : Addr) (cl : List (Str × Addr)) (fp : List Addr), PD (X.blk s H scope (compEnvC scope cl C X.env) fp) W0 elt f) (hy : X.N[i]? = some y := by rfl) (hyl : X.env.scope.names.lookup y = some .local := by rfl) (hs : ∀ x, foldedSetIterable iter X.env x = pure x := by intro _; rfl) :
    PSD X W (.Assign [.Name y py] (.ListComp elt [⟨tg, iter, [], 0⟩] scope pos) spos) (ySet i (xLc mk src gE cYes f (own.map (·.2)))) :=
  weakS (ps_setLc (i := i) (te := tD (kt X) W0 f) hc hN hy hyl hsw hi ok hg (fun _ _ _ _ _ => pts_nil) (fun s H C cl fp => show PE _ elt (tD (kt X) W0 f) from he s H C cl fp) hs) fun D σ H => set_read fun σ H Q => lc_read m tgd fun σ H Q ⟨w, env, eH, hw, he, hs⟩ => by
    subst eH
    exact SatW.here (d := true) (v := true) hs hw rfl
theorem psd_setLcIf {t : Expr} (m : Mk mk) (tgd : TgD (kt X) (own.map (·.2)) gV gE) (hc : X.calm = true) (hN : X.N.Nodup) (hsw : swapsWith (.ListComp elt [⟨tg, iter, [t], 0⟩] scope pos) (some (.Name y py)) spos.line X.env = pure true) (hi : PID X W tg iter src) (ok : BlkOk X.N X.env.scope scope own)
    (hg : ∀ (s : Shared) (H : Hp) (C : Addr) (cl : List (Str × Addr)) (fp : List Addr), PG (X.blk s H scope (compEnvC scope cl C X.env) fp) tg gV)
    (ht : ∀ (s : Shared) (H : Hp) (C : Addr) (cl : List (Str × Addr)) (fp : List Addr), PTD (X.blk s H scope (compEnvC scope cl C X.env) fp) W0 t c)
    (he : ∀ (s : Shared) (H : Hp) (C : Addr) (cl : List (Str × Addr)) (fp : List Addr), PD (X.blk s H scope (compEnvC scope cl C X.env) fp) W0 elt f) (hy : X.N[i]? = some y := by rfl) (hyl : X.env.scope.names.lookup y = some .local := by rfl) (hs : ∀ x, foldedSetIterable iter X.env x = pure x := by intro _; rfl) :
    PSD X W (.Assign [.Name y py] (.ListComp elt [⟨tg, iter, [t], 0⟩] scope pos) spos) (ySet i (xLc mk src gE c f (own.map (·.2)))) :=
  weakS (ps_setLc (i := i) (te := tD (kt X) W0 f) (tt := tDB (kt X) W0 c) hc hN hy hyl hsw hi ok hg (fun s H C cl fp => pts_one (show PT _ t (tDB (kt X) W0 c) from ht s H C cl fp)) (fun s H C cl fp => show PE _ elt (tD (kt X) W0 f) from he s H C cl fp) hs) fun D σ H => set_read fun σ H Q => lc_read m tgd fun σ H Q h => h
end

/-! ### the law's end -/
theorem rps_scr {K : PySem.W.Frag} {r : List Addr} {F : Hp} : ∀ ns : List Int, Rps K r F (ns.map D.int) (ns.map V.int) := rps_ints
/-- the bits of the script's numbers -/
def Bits (ns : List Int) : Prop := ∀ z ∈ ns, Builtin.Int.intBits z ≤ 1048576
def spLaw (K : PySem.W.Frag) : Sp := fun vs H Q _ => ∃ (a : Addr) (ns : List Int), vs = [.ref a] ∧ SqL K H a (ns.map V.int) ∧ ns.length ≤ 63 ∧ Bits ns ∧ ∀ H', Q (.bl true) H'
def LawTrue (f : List D → M D) : Prop := ∀ ns : List Int, ns.length ≤ 63 → Bits ns → ∃ S', f [.scr (ns.map D.int)] [] = .ok (.bl true) S'
theorem law_imp {K : PySem.W.Frag} {mg : Str → Option Value} {f : List D → M D} (ht : LawTrue f) (vs : List V) (H : Hp) (Q : VK) (E : XK) (h : spLaw K vs H Q E) : spD ⟨K, mg⟩ f vs H Q E := by
  obtain ⟨a, ns, rfl, hS, hl, hb, q⟩ := h
  obtain ⟨S', hf⟩ := ht ns hl hb
  refine ⟨⟨[], H, [], H⟩, [.scr (ns.map D.int)], rfl, ⟨rfl, Same.refl _, fun n a c e _ => by simp at e, fun n m a e => by simp at e⟩, rps_cons ?_ rps_nil, ?_⟩
  · unfold Rp
    exact ⟨a, _, rfl, hS, rps_ints ns⟩
  · show SatW ⟨K, mg⟩ _ [] (RD K) _ (f [.scr (ns.map D.int)] []) _
    rw [hf]
    intro w' v g e r
    have ev := rp_bl r
    subst ev
    exact q _
theorem law_sp (K : PySem.W.Frag) (H : Hp) (a : Addr) (ns : List Int) (hl : ns.length ≤ 63) (hb : ∀ z ∈ ns, Builtin.Int.intBits z ≤ 1048576) (hS : SqL K H a (ns.map V.int)) : spLaw K [.ref a] H (fun v _ => v = .bl true) fun _ _ _ => False := ⟨a, ns, rfl, hS, hl, hb, fun _ => rfl⟩
theorem cx_end {P : Program} {w : World} {H : Hp} {s : Shared} {e : Value} {s' : Shared} (h : L2.CX P w [] H s (fun _ _ _ => False) e s') : False := by
  obtain ⟨_, _, _, _, _, _, _, _, _, _, _, _, z⟩ := h
  exact z.elim
end Dv
/-! # Dv8: reckoning with mirrors -/
namespace Dv
open PySem PySem.Spec PyProof.Rows L2

def En0 {α : Type} (x : Res α) (P : α → Store → Prop) : Prop := match x with
  | .ok a S => P a S
  | _ => False
structure Pst where
  nx : Env → Store → Prop := fun _ _ => False
  rt : D → Store → Prop := fun _ _ => False
  bk : Env → Store → Prop := fun _ _ => False
  ct : Env → Store → Prop := fun _ _ => False
def EnO0 (o : Out) (Q : Pst) : Prop := match o with
  | .nx e S => Q.nx e S
  | .rt d S => Q.rt d S
  | .bk e S => Q.bk e S
  | .ct e S => Q.ct e S
  | _ => False
section
variable {α β : Type} {x : Res α} {a : α} {S : Store} {P : α → Store → Prop} {Q : Pst} {e : Env} {d : D}
@[simp] theorem en0_ok : En0 (.ok a S) P = P a S := rfl
@[simp] theorem en0_bad : En0 (.bad : Res α) P = False := rfl
@[simp] theorem en0_exc {y : Exn} : En0 (.exc y S : Res α) P = False := rfl
@[simp] theorem en0_bind {k : α → Store → Res β} {P : β → Store → Prop} : En0 (x.bind k) P = En0 x (fun a S => En0 (k a S) P) := by cases x <;> rfl
theorem En0.imp {P' : α → Store → Prop} (h : En0 x P) (q : ∀ a S, P a S → P' a S) : En0 x P' := by
  cases x with
  | ok a S => exact q a S h
  | _ => exact h
theorem en0_eq {v : α} : En0 x (fun a S' => a = v ∧ S' = S) ↔ x = .ok v S := by
  cases x with
  | ok a S' => exact ⟨fun h => by rw [h.1, h.2], fun h => by cases h; exact ⟨rfl, rfl⟩⟩
  | exc y S' => exact ⟨fun h => h.elim, fun h => by cases h⟩
  | bad => exact ⟨fun h => h.elim, fun h => by cases h⟩
theorem En0.get (h : En0 x P) : ∃ a S, x = .ok a S ∧ P a S := by
  cases x with
  | ok a S => exact ⟨a, S, rfl, h⟩
  | exc y S' => exact h.elim
  | bad => exact h.elim
@[simp] theorem en0_if {c : Prop} [Decidable c] : En0 (if c then x else .bad) P = (c ∧ En0 x P) := by
  by_cases h : c
  · rw [if_pos h]; simp [h]
  · rw [if_neg h]; simp [h]
@[simp] theorem en0_if' {c : Prop} [Decidable c] : En0 (if c then .bad else x) P = (¬ c ∧ En0 x P) := by
  by_cases h : c
  · rw [if_pos h]; simp [h]
  · rw [if_neg h]; simp [h]
theorem en0_ite {c : Prop} [Decidable c] {y : Res α} (h1 : c → En0 x P) (h2 : ¬ c → En0 y P) : En0 (if c then x else y) P := by
  by_cases h : c
  · rw [if_pos h]; exact h1 h
  · rw [if_neg h]; exact h2 h
@[simp] theorem eno0_nx : EnO0 (.nx e S) Q = Q.nx e S := rfl
@[simp] theorem eno0_rt : EnO0 (.rt d S) Q = Q.rt d S := rfl
@[simp] theorem eno0_bk : EnO0 (.bk e S) Q = Q.bk e S := rfl
@[simp] theorem eno0_ct : EnO0 (.ct e S) Q = Q.ct e S := rfl
@[simp] theorem eno0_bad : EnO0 .bad Q = False := rfl
@[simp] theorem eno0_out {k : α → Store → Out} : EnO0 (x.out e k) Q = En0 x (fun a S => EnO0 (k a S) Q) := by cases x <;> rfl
@[simp] theorem eno0_seq {o : Out} {k : Env → Store → Out} : EnO0 (o.seq k) Q = EnO0 o { Q with nx := fun e S => EnO0 (k e S) Q } := by cases o <;> rfl
theorem EnO0.imp {o : Out} {Q' : Pst} (h : EnO0 o Q) (h1 : ∀ e S, Q.nx e S → Q'.nx e S) (h2 : ∀ e S, Q.rt e S → Q'.rt e S) (h3 : ∀ e S, Q.bk e S → Q'.bk e S) (h4 : ∀ e S, Q.ct e S → Q'.ct e S) : EnO0 o Q' := by
  cases o with
  | nx e S => exact h1 _ _ h
  | rt e S => exact h2 _ _ h
  | bk e S => exact h3 _ _ h
  | ct e S => exact h4 _ _ h
  | exc x e S => exact h
  | bad => exact h
theorem eno0_ite {c : Prop} [Decidable c] {o p : Out} (h1 : c → EnO0 o Q) (h2 : ¬ c → EnO0 p Q) : EnO0 (if c then o else p) Q := by
  by_cases h : c
  · rw [if_pos h]; exact h1 h
  · rw [if_neg h]; exact h2 h
end
/-! ### the combinators, laid open -/
section
variable {oo : Option D} {ll : Env} {S : Store} {d : D} {f g : Env → M D} {h : Env → M (List D)} {k k' : Env → M Bool} {y y' : Env → Store → Out}
@[simp] theorem xVar_app {i : Nat} : xVar i (oo :: ll) S = match (oo :: ll)[i]? with | some (some d) => .ok d S | _ => .bad := rfl
@[simp] theorem xC_app : xC d (oo :: ll) S = .ok d S := rfl
@[simp] theorem xOp_app {o : D → D → M D} : xOp o f g (oo :: ll) S = (f (oo :: ll) S).bind fun x S1 => (g (oo :: ll) S1).bind fun y S2 => o x y S2 := rfl
@[simp] theorem xUn_app {o : D → M D} : xUn o f (oo :: ll) S = (f (oo :: ll) S).bind fun x S1 => o x S1 := rfl
@[simp] theorem xNil_app : xNil (oo :: ll) S = .ok [] S := rfl
@[simp] theorem xCons_app : xCons f h (oo :: ll) S = (f (oo :: ll) S).bind fun x S1 => (h (oo :: ll) S1).bind fun y S2 => .ok (x :: y) S2 := rfl
@[simp] theorem xFn_app {o : List D → M D} : xFn o h (oo :: ll) S = (h (oo :: ll) S).bind fun x S1 => o x S1 := rfl
@[simp] theorem xTup_app : xTup h (oo :: ll) S = (h (oo :: ll) S).bind fun l S1 => if l.length ≤ 1000 then .ok (.tup l) S1 else .bad := rfl
@[simp] theorem xLst_app {mk : List D → M D} : xLst mk h (oo :: ll) S = (h (oo :: ll) S).bind fun l S1 => if l.length ≤ 1000 then mk l S1 else .bad := rfl
@[simp] theorem mkF_app {l : List D} : mkF l S = .ok (.lst l) S := rfl
@[simp] theorem mkC_app {l : List D} : mkC l S = .ok (.cell S.length) (S ++ [.lst l]) := rfl
@[simp] theorem xTru_app : xTru f (oo :: ll) S = (f (oo :: ll) S).bind tru := rfl
@[simp] theorem xIsT_app : xIsT f (oo :: ll) S = (f (oo :: ll) S).bind fun d S1 => match d with | .bl b => .ok b S1 | _ => .bad := rfl
@[simp] theorem xNot_app : xNot k (oo :: ll) S = (k (oo :: ll) S).bind fun b S1 => .ok (!b) S1 := rfl
@[simp] theorem xAnd_app : xAnd k k' (oo :: ll) S = (k (oo :: ll) S).bind fun b S1 => if b then k' (oo :: ll) S1 else .ok false S1 := rfl
@[simp] theorem xOr_app : xOr k k' (oo :: ll) S = (k (oo :: ll) S).bind fun b S1 => if b then .ok true S1 else k' (oo :: ll) S1 := rfl
@[simp] theorem xAndV_app : xAndV f g (oo :: ll) S = (f (oo :: ll) S).bind fun d S1 => match d with | .bl true => g (oo :: ll) S1 | .bl false => .ok (.bl false) S1 | _ => .bad := rfl
@[simp] theorem xOrV_app : xOrV f g (oo :: ll) S = (f (oo :: ll) S).bind fun d S1 => match d with | .bl true => .ok (.bl true) S1 | .bl false => g (oo :: ll) S1 | _ => .bad := rfl
@[simp] theorem xNotV_app : xNotV f (oo :: ll) S = (f (oo :: ll) S).bind fun d S1 => match d with | .bl b => .ok (.bl (!b)) S1 | _ => .bad := rfl
@[simp] theorem xIf_app : xIf k f g (oo :: ll) S = (k (oo :: ll) S).bind fun b S1 => if b then f (oo :: ll) S1 else g (oo :: ll) S1 := rfl
@[simp] theorem xFrz_app : xFrz f (oo :: ll) S = (f (oo :: ll) S).bind frz := rfl
@[simp] theorem yNil_app : yNil (oo :: ll) S = .nx (oo :: ll) S := rfl
@[simp] theorem ySeq_app : ySeq y y' (oo :: ll) S = (y (oo :: ll) S).seq y' := rfl
@[simp] theorem yBreak_app : yBreak (oo :: ll) S = .bk (oo :: ll) S := rfl
@[simp] theorem yCont_app : yCont (oo :: ll) S = .ct (oo :: ll) S := rfl
@[simp] theorem yExpr_app : yExpr f (oo :: ll) S = (f (oo :: ll) S).out (oo :: ll) fun _ S1 => .nx (oo :: ll) S1 := rfl
@[simp] theorem yRet_app : yRet f (oo :: ll) S = (f (oo :: ll) S).out (oo :: ll) fun d S1 => .rt d S1 := rfl
@[simp] theorem yRetN_app : yRetN (oo :: ll) S = .rt .non S := rfl
@[simp] theorem yIf_app : yIf k y y' (oo :: ll) S = (k (oo :: ll) S).out (oo :: ll) fun b S1 => if b then y (oo :: ll) S1 else y' (oo :: ll) S1 := rfl
@[simp] theorem ySet_app {i : Nat} : ySet i f (oo :: ll) S = (f (oo :: ll) S).out (oo :: ll) fun d S1 => .nx ((oo :: ll).set i (some d)) S1 := rfl
@[simp] theorem yAsg_app {q : D → Env → Store → Out} : yAsg f q (oo :: ll) S = (f (oo :: ll) S).out (oo :: ll) fun d S1 => q d (oo :: ll) S1 := rfl
@[simp] theorem yPar_app {i j : Nat} : yPar i j h (oo :: ll) S = (h (oo :: ll) S).out (oo :: ll) fun l S1 => match l with | [a, b] => .nx (((oo :: ll).set i (some a)).set j (some b)) S1 | _ => .bad := rfl
@[simp] theorem yFor_app {s : Env → M Src} {q : D → Env → Store → Out} : yFor s q y (oo :: ll) S = (s (oo :: ll) S).out (oo :: ll) fun s S1 => forL s.chk q y s.items (oo :: ll) S1 := rfl
@[simp] theorem iSrc_app {q : D → Store → Res Src} : iSrc q f (oo :: ll) S = (f (oo :: ll) S).bind q := rfl
@[simp] theorem iSrcA_app {q : List D → Store → Res Src} : iSrcA q h (oo :: ll) S = (h (oo :: ll) S).bind q := rfl
@[simp] theorem srcL_lst {l : List D} : srcL (.lst l) S = .ok ⟨l, fun _ => True⟩ S := rfl
@[simp] theorem srcL_scr {l : List D} : srcL (.scr l) S = .ok ⟨l, fun _ => True⟩ S := rfl
@[simp] theorem srcT_tup {l : List D} : srcT (.tup l) S = .ok ⟨l, fun _ => True⟩ S := rfl
theorem srcR1_app {j : Int} : srcR1 [.int j] S = if rng62 j then .ok ⟨irange 0 j.toNat, fun _ => True⟩ S else .bad := rfl
theorem srcR2_app {i j : Int} : srcR2 [.int i, .int j] S = if rng62 i ∧ rng62 j then .ok ⟨irange i (j - i).toNat, fun _ => True⟩ S else .bad := rfl
@[simp] theorem gN_app {i : Nat} : gN i d (oo :: ll) S = .nx ((oo :: ll).set i (some d)) S := rfl
@[simp] theorem gT_app {n : Nat} {l : List D} {q : List D → Env → Store → Out} : gT n q (.tup l) (oo :: ll) S = if l.length = n then q l (oo :: ll) S else .bad := rfl
@[simp] theorem gsNil_app : gsNil [] (oo :: ll) S = .nx (oo :: ll) S := rfl
@[simp] theorem gsCons_app {l : List D} {q : D → Env → Store → Out} {q' : List D → Env → Store → Out} : gsCons q q' (d :: l) (oo :: ll) S = (q d (oo :: ll) S).seq (q' l) := rfl
@[simp] theorem xLc_app {mk : List D → M D} {s : Env → M Src} {q : D → Env → Option Env} {vs : List Nat} : xLc mk s q k f vs (oo :: ll) S = (s (oo :: ll) S).bind fun s S1 => (lcL s.chk q k f (wipeE (oo :: ll) vs) s.items [] S1).bind fun l S2 => mk l S2 := rfl
@[simp] theorem eN_app {i : Nat} : eN i d (oo :: ll) = some ((oo :: ll).set i (some d)) := rfl
@[simp] theorem eT2_app {i j : Nat} {a b : D} : eT2 i j (.tup [a, b]) (oo :: ll) = some (((oo :: ll).set i (some a)).set j (some b)) := rfl
@[simp] theorem eT3_app {i j m : Nat} {a b c : D} : eT3 i j m (.tup [a, b, c]) (oo :: ll) = some ((((oo :: ll).set i (some a)).set j (some b)).set m (some c)) := rfl
@[simp] theorem cYes_app : cYes (oo :: ll) S = .ok true S := rfl
@[simp] theorem wipeE_nil : wipeE (oo :: ll) [] = (oo :: ll) := rfl
@[simp] theorem wipeE_cons {v : Nat} {vs : List Nat} : wipeE (oo :: ll) (v :: vs) = (wipeE (oo :: ll) vs).set v none := rfl
@[simp] theorem yAug_app {i : Nat} {q : D → D → M D} : yAug i f q (oo :: ll) S = match (oo :: ll)[i]? with | some (some x) => (f (oo :: ll) S).out (oo :: ll) fun y S1 => (q x y S1).out (oo :: ll) fun z S2 => .nx ((oo :: ll).set i (some z)) S2 | _ => .bad := rfl
@[simp] theorem ySub_app {o i : Env → M D} {q : D → D → D → M Unit} : ySub f o i q (oo :: ll) S = (f (oo :: ll) S).out (oo :: ll) fun v S1 => (o (oo :: ll) S1).out (oo :: ll) fun x S2 => (i (oo :: ll) S2).out (oo :: ll) fun k S3 => (q x k v S3).out (oo :: ll) fun _ S4 => .nx (oo :: ll) S4 := rfl
@[simp] theorem xMt_app {T : String} {q : D → List D → M D} : xMt T q f h (oo :: ll) S = (f (oo :: ll) S).bind fun x S1 => if isT T x S1 = true then (h (oo :: ll) S1).bind fun l S2 => q x l S2 else .bad := rfl
@[simp] theorem xSl_app {mk : List D → M D} {lo hi : Env → M (Option Int)} : xSl mk f lo hi (oo :: ll) S = (f (oo :: ll) S).bind fun d S1 => (lo (oo :: ll) S1).bind fun a S2 => (hi (oo :: ll) S2).bind fun b S3 => slD mk d a b S3 := rfl
@[simp] theorem oNone_app : oNone (oo :: ll) S = .ok none S := rfl
@[simp] theorem oSome_app : oSome f (oo :: ll) S = (f (oo :: ll) S).bind fun d S1 => match d with | .int i => .ok (some i) S1 | _ => .bad := rfl
@[simp] theorem bLen_lst {l : List D} : bLen [.lst l] S = .ok (.int l.length) S := rfl
@[simp] theorem bLen_scr {l : List D} : bLen [.scr l] S = .ok (.int l.length) S := rfl
@[simp] theorem bLen_tup {l : List D} : bLen [.tup l] S = .ok (.int l.length) S := rfl
@[simp] theorem bAbs_app {i : Int} : bAbs [.int i] S = .ok (.int (if i < 0 then -i else i)) S := rfl
@[simp] theorem bMin_two {i j : Int} : bMin [.int i, .int j] S = .ok (.int (if j < i then j else i)) S := rfl
@[simp] theorem bMax_two {i j : Int} : bMax [.int i, .int j] S = .ok (.int (if j > i then j else i)) S := rfl
@[simp] theorem bInt_int {i : Int} : bInt [.int i] S = .ok (.int i) S := rfl
@[simp] theorem bInt_bl {b : Bool} : bInt [.bl b] S = .ok (.int (if b then 1 else 0)) S := rfl
@[simp] theorem dIx_scr {l : List D} {i : Int} : dIx (.scr l) (.int i) S = match L2.atI l i with | some d => .ok d S | none => .bad := rfl
@[simp] theorem tru_bl {b : Bool} : tru (.bl b) S = .ok b S := rfl
@[simp] theorem bIsi_int {i : Int} : bIsi [.int i, .raw (.ty "int")] S = .ok (.bl true) S := by simp [bIsi, tyOf]
@[simp] theorem bIsi_intb {i : Int} : bIsi [.int i, .raw (.ty "bool")] S = .ok (.bl false) S := by simp [bIsi, tyOf]
@[simp] theorem bIsi_tup {l : List D} : bIsi [.tup l, .raw (.ty "tuple")] S = .ok (.bl true) S := by simp [bIsi, tyOf]
@[simp] theorem bIsi_lst {l : List D} : bIsi [.lst l, .raw (.ty "list")] S = .ok (.bl true) S := by simp [bIsi, tyOf]
end
theorem sat_of {c : Prop} (h : c) : c = True := eq_true h

/-! ### a def -/
theorem en0_fn {np ns : Nat} {keep : Bool} {body : Env → Store → Out} {ds : List D} {S : Store} {P : D → Store → Prop} (hl : ds.length = np)
    (h : EnO0 (body (ds.map some ++ List.replicate (ns - np) none) S) { nx := fun _ S' => En0 (fin keep S.length .non S') P, rt := fun d S' => En0 (fin keep S.length d S') P }) : En0 (fnD np ns keep body ds S) P := by
  unfold fnD
  rw [if_pos hl]
  cases o : body (ds.map some ++ List.replicate (ns - np) none) S with
  | nx e S' => rw [o] at h; exact h
  | rt e S' => rw [o] at h; exact h
  | bk e S' => rw [o] at h; exact h.elim
  | ct e S' => rw [o] at h; exact h.elim
  | exc x e S' => rw [o] at h; exact h.elim
  | bad => rw [o] at h; exact h.elim
@[simp] theorem fin_same {keep : Bool} {d : D} {S : Store} : fin keep S.length d S = .ok d S := by simp [fin]
@[simp] theorem fin_zero {keep : Bool} {d : D} : fin keep 0 d [] = .ok d [] := by simp [fin]
theorem fin_len {keep : Bool} {n : Nat} {d : D} {S : Store} (h : S.length = n) : fin keep n d S = .ok d S := by simp [fin, h]

/-! ### loops -/
theorem en0_for {g : D → Env → Store → Out} {b : Env → Store → Out} {items : List D} {e : Env} {S : Store} {Q : Pst} (I : Nat → Env → Store → Prop) (h0 : I 0 e S)
    (hs : ∀ (i : Nat) d e S, items[i]? = some d → I i e S → EnO0 (g d e S) { nx := fun e1 S1 => EnO0 (b e1 S1) { nx := I (i + 1), ct := I (i + 1), bk := Q.nx, rt := Q.rt } })
    (hd : ∀ e S, I items.length e S → Q.nx e S) : EnO0 (forL (fun _ => True) g b items e S) Q := by
  have go : ∀ (l : List D) (i : Nat) (e : Env) (S : Store), items.drop i = l → i ≤ items.length → I i e S → EnO0 (forL (fun _ => True) g b l e S) Q := by
    intro l
    induction l with
    | nil =>
      intro i e S hl hi h
      rw [forL, if_pos trivial]
      have e1 := drop_nil hl hi
      subst e1
      exact hd e S h
    | cons d l ih =>
      intro i e S hl hi h
      obtain ⟨h1, h2⟩ := drop_get hl
      have st := hs i d e S h1 h
      have hlt : i < items.length := (List.getElem?_eq_some_iff.mp h1).1
      rw [forL, if_pos trivial]
      cases o : g d e S with
      | nx e1 S1 =>
        rw [o] at st
        have st' : EnO0 (b e1 S1) { nx := I (i + 1), ct := I (i + 1), bk := Q.nx, rt := Q.rt } := st
        show EnO0 (match b e1 S1 with
          | .nx e' S' => forL (fun _ => True) g b l e' S'
          | .ct e' S' => forL (fun _ => True) g b l e' S'
          | .bk e' S' => .nx e' S'
          | o => o) Q
        cases ob : b e1 S1 with
        | nx e2 S2 => rw [ob] at st'; exact ih (i + 1) e2 S2 h2 hlt st'
        | ct e2 S2 => rw [ob] at st'; exact ih (i + 1) e2 S2 h2 hlt st'
        | bk e2 S2 => rw [ob] at st'; exact st'
        | rt d2 S2 => rw [ob] at st'; exact st'
        | exc x e2 S2 => rw [ob] at st'; exact st'.elim
        | bad => rw [ob] at st'; exact st'.elim
      | rt _ _ => rw [o] at st; exact st.elim
      | bk _ _ => rw [o] at st; exact st.elim
      | ct _ _ => rw [o] at st; exact st.elim
      | exc _ _ _ => rw [o] at st; exact st.elim
      | bad => rw [o] at st; exact st.elim
  exact go items 0 e S rfl (Nat.zero_le _) h0
theorem en0_while {c : Env → M Bool} {b : Env → Store → Out} {Q : Pst} (I : Env → Store → Prop) (m : Env → Store → Nat)
    (hs : ∀ e S, I e S → En0 (c e S) fun t S1 => (t = true → EnO0 (b e S1) { nx := fun e' S' => I e' S' ∧ m e' S' < m e S, ct := fun e' S' => I e' S' ∧ m e' S' < m e S, bk := Q.nx, rt := Q.rt }) ∧ (t = false → Q.nx e S1)) {e : Env} {S : Store} (h0 : I e S) : EnO0 (yWhile c b e S) Q := by
  have go : ∀ (n : Nat) (e : Env) (S : Store), m e S ≤ n → I e S → EnO0 (yWhile c b e S) Q := by
    intro n
    induction n with
    | zero =>
      intro e S hm h
      have st := hs e S h
      cases q : c e S with
      | ok t S1 =>
        rw [q] at st
        cases t with
        | false => rw [yWhile_stop q]; exact st.2 rfl
        | true =>
          rw [yWhile_go q]
          have s2 := st.1 rfl
          cases o : b e S1 with
          | nx e1 S2 => rw [o] at s2; have z : m e1 S2 < m e S := s2.2; omega
          | ct e1 S2 => rw [o] at s2; have z : m e1 S2 < m e S := s2.2; omega
          | bk e1 S2 => rw [o] at s2; exact s2
          | rt d S2 => rw [o] at s2; exact s2
          | exc x e1 S2 => rw [o] at s2; exact s2.elim
          | bad => rw [o] at s2; exact s2.elim
      | exc x S1 => rw [q] at st; exact st.elim
      | bad => rw [q] at st; exact st.elim
    | succ n ih =>
      intro e S hm h
      have st := hs e S h
      cases q : c e S with
      | ok t S1 =>
        rw [q] at st
        cases t with
        | false => rw [yWhile_stop q]; exact st.2 rfl
        | true =>
          rw [yWhile_go q]
          have s2 := st.1 rfl
          cases o : b e S1 with
          | nx e1 S2 => rw [o] at s2; exact ih e1 S2 (by have z : m e1 S2 < m e S := s2.2; omega) s2.1
          | ct e1 S2 => rw [o] at s2; exact ih e1 S2 (by have z : m e1 S2 < m e S := s2.2; omega) s2.1
          | bk e1 S2 => rw [o] at s2; exact s2
          | rt d S2 => rw [o] at s2; exact s2
          | exc x e1 S2 => rw [o] at s2; exact s2.elim
          | bad => rw [o] at s2; exact s2.elim
      | exc x S1 => rw [q] at st; exact st.elim
      | bad => rw [q] at st; exact st.elim
  exact go _ e S (Nat.le_refl _) h0
theorem en0_lc {g : D → Env → Option Env} {c : Env → M Bool} {f : Env → M D} {e0 : Env} {items : List D} {S : Store} {P : List D → Store → Prop} (I : Nat → List D → Store → Prop) (h0 : I 0 [] S)
    (hs : ∀ (i : Nat) d acc S, items[i]? = some d → I i acc S → ∃ e1, g d e0 = some e1 ∧ En0 (c e1 S) fun t S2 => (t = true → En0 (f e1 S2) fun y S3 => acc.length < 16000000 ∧ I (i + 1) (acc ++ [y]) S3) ∧ (t = false → I (i + 1) acc S2))
    (hd : ∀ l S, I items.length l S → P l S) : En0 (lcL (fun _ => True) g c f e0 items [] S) P := by
  have go : ∀ (l : List D) (i : Nat) (acc : List D) (S : Store), items.drop i = l → i ≤ items.length → I i acc S → En0 (lcL (fun _ => True) g c f e0 l acc S) P := by
    intro l
    induction l with
    | nil =>
      intro i acc S hl hi h
      rw [lcL, if_pos trivial]
      have e1 := drop_nil hl hi
      subst e1
      exact hd acc S h
    | cons d l ih =>
      intro i acc S hl hi h
      obtain ⟨h1, h2⟩ := drop_get hl
      have hlt : i < items.length := (List.getElem?_eq_some_iff.mp h1).1
      obtain ⟨e1, he1, st⟩ := hs i d acc S h1 h
      rw [lcL, if_pos trivial]
      simp only [he1]
      cases q : c e1 S with
      | ok t S2 =>
        rw [q] at st
        cases t with
        | false => exact ih (i + 1) acc S2 h2 hlt (st.2 rfl)
        | true =>
          have s2 := st.1 rfl
          simp only
          cases qf : f e1 S2 with
          | ok y S3 =>
            rw [qf] at s2
            have z : acc.length < 16000000 ∧ I (i + 1) (acc ++ [y]) S3 := s2
            simp only
            rw [if_pos z.1]
            exact ih (i + 1) _ S3 h2 hlt z.2
          | exc x S3 => rw [qf] at s2; exact s2.elim
          | bad => rw [qf] at s2; exact s2.elim
      | exc x S1 => rw [q] at st; exact st.elim
      | bad => rw [q] at st; exact st.elim
  exact go items 0 [] S rfl (Nat.zero_le _) h0

/-! ### sizes -/
theorem mulOk_bits {a b : Int} (h : Builtin.Int.intBits a + Builtin.Int.intBits b ≤ 134217728) : IntMulOk a b := by
  unfold IntMulOk
  intro z
  rw [Bool.and_eq_true] at z
  have z2 := z.2
  unfold Builtin.Int.intTooBig at z2
  have z3 := of_decide_eq_true z2
  have e : bitsLine = 134217728 := by decide
  rw [e] at z3
  omega
theorem bits_lt {a : Int} {n : Nat} (h : a.natAbs < 2 ^ n) : Builtin.Int.intBits a ≤ n := by
  unfold Builtin.Int.intBits
  split
  · exact Nat.zero_le _
  · rename_i hz
    have h0 : a.natAbs ≠ 0 := fun z => hz (by simpa using z)
    have := (Nat.log2_lt h0).mpr h
    omega
/-- below 2 ^ n in size -/
def Sz (n : Nat) (a : Int) : Prop := a.natAbs < 2 ^ n
theorem Sz.mulOk {a b : Int} {n m : Nat} (ha : Sz n a) (hb : Sz m b) (h : n + m ≤ 134217728) : IntMulOk a b := mulOk_bits (by have := bits_lt ha; have := bits_lt hb; omega)
theorem Sz.mul {a b : Int} {n m : Nat} (ha : Sz n a) (hb : Sz m b) : Sz (n + m) (a * b) := by
  unfold Sz at *
  rw [Int.natAbs_mul, Nat.pow_add]
  exact Nat.mul_lt_mul'' ha hb
theorem Sz.le {a : Int} {n m : Nat} (ha : Sz n a) (h : n ≤ m) : Sz m a := Nat.lt_of_lt_of_le ha (Nat.pow_le_pow_right (by decide) h)
theorem Sz.add {a b : Int} {n : Nat} (ha : Sz n a) (hb : Sz n b) : Sz (n + 1) (a + b) := by
  unfold Sz at *
  have : 2 ^ (n + 1) = 2 ^ n + 2 ^ n := by rw [Nat.pow_succ]; omega
  omega
theorem Sz.sub {a b : Int} {n : Nat} (ha : Sz n a) (hb : Sz n b) : Sz (n + 1) (a - b) := by
  unfold Sz at *
  have : 2 ^ (n + 1) = 2 ^ n + 2 ^ n := by rw [Nat.pow_succ]; omega
  omega
theorem Sz.neg {a : Int} {n : Nat} (ha : Sz n a) : Sz n (-a) := by
  unfold Sz at *
  omega
theorem Sz.of_le {a b : Int} {n : Nat} (hb : Sz n b) (h : a.natAbs ≤ b.natAbs) : Sz n a := Nat.lt_of_le_of_lt h hb
theorem Sz.log2 {a : Int} {n : Nat} (ha : Sz n a) (h0 : 0 < n) : a.natAbs.log2 < n := PySem.Flt.log2_lt_of h0 ha
theorem Sz.divOk {a b : Int} {n : Nat} (hb : Sz n b) (h : b ≠ 0) (hn : n ≤ 9000) : divOk a b := ⟨h, by
  have h1 : Sz (n + 1) b := hb.le (Nat.le_succ n)
  by_cases h0 : n = 0
  · subst h0
    have : b.natAbs < 1 := hb
    omega
  · have := hb.log2 (Nat.pos_of_ne_zero h0)
    omega⟩
theorem en0_seq {y y' : Env → Store → Out} {e : Env} {S : Store} {Q : Pst} (R : Env → Store → Prop) (h1 : EnO0 (y e S) { Q with nx := R }) (h2 : ∀ e S, R e S → EnO0 (y' e S) Q) : EnO0 (ySeq y y' e S) Q := by
  show EnO0 ((y e S).seq y') Q
  rw [eno0_seq]
  exact h1.imp (fun e S h => h2 e S h) (fun _ _ h => h) (fun _ _ h => h) (fun _ _ h => h)
theorem mulOkL {a b : Int} (h1 : -18446744073709551616 < a) (h2 : a < 18446744073709551616) : IntMulOk a b := .of_left (intBits_le_64 h1 h2)
theorem mulOkR {a b : Int} (h1 : -18446744073709551616 < b) (h2 : b < 18446744073709551616) : IntMulOk a b := .of_right (intBits_le_64 h1 h2)
theorem sz_of {a B : Int} {n : Nat} (h1 : -B < a) (h2 : a < B) (hB : B ≤ 2 ^ n) : Sz n a := by
  unfold Sz
  have : ((2 ^ n : Nat) : Int) = 2 ^ n := by simp
  omega
theorem divOk_lit {i j : Int} (h0 : 0 < j) (h1 : j < 1000000000000000000000000000000000000000000000000000000000000) : divOk i j := Sz.divOk (n := 200) (sz_of (B := 1000000000000000000000000000000000000000000000000000000000000) (by omega) h1 (by decide)) (by omega) (by decide)
theorem fdiv_pos {i j : Int} (h : 0 < j) : i.fdiv j = i / j := Int.fdiv_eq_ediv_of_nonneg i (Int.le_of_lt h)
theorem fmod_pos {i j : Int} (h : 0 < j) : i.fmod j = i % j := Int.fmod_eq_emod_of_nonneg i (Int.le_of_lt h)
theorem atI_map {α β : Type} (g : α → β) (l : List α) (i : Int) : L2.atI (l.map g) i = (L2.atI l i).map g := by
  unfold L2.atI
  rw [List.length_map]
  cases ixN l.length i with
  | none => rfl
  | some j => simp
theorem atI_in {α : Type} {l : List α} {i : Int} (h0 : 0 ≤ i) (h1 : i < l.length) : ∃ z, L2.atI l i = some z ∧ l[i.toNat]? = some z := by
  have hj : i.toNat < l.length := by omega
  refine ⟨l[i.toNat], ?_, List.getElem?_eq_getElem hj⟩
  have q := atI_nat (List.getElem?_eq_getElem hj)
  have e : ((i.toNat : Nat) : Int) = i := by omega
  rw [e] at q
  exact q
theorem atI_mem {α : Type} {l : List α} {i : Int} (h0 : 0 ≤ i) (h1 : i < l.length) : ∃ z ∈ l, L2.atI l i = some z := by
  obtain ⟨z, h, h2⟩ := atI_in h0 h1
  exact ⟨z, List.mem_of_getElem? h2, h⟩
@[simp] theorem atI_zero {α : Type} {a : α} {l : List α} : L2.atI (a :: l) 0 = some a := by
  have : (0 : Int) = ((0 : Nat) : Int) := rfl
  rw [this]
  exact atI_nat rfl
@[simp] theorem atI_one {α : Type} {a b : α} {l : List α} : L2.atI (a :: b :: l) 1 = some b := by
  have : (1 : Int) = ((1 : Nat) : Int) := rfl
  rw [this]
  exact atI_nat rfl
@[simp] theorem atI_two {α : Type} {a b c : α} {l : List α} : L2.atI (a :: b :: c :: l) 2 = some c := by
  have : (2 : Int) = ((2 : Nat) : Int) := rfl
  rw [this]
  exact atI_nat rfl
theorem irange_get {lo : Int} {n i : Nat} {d : D} (h : (irange lo n)[i]? = some d) : d = .int (lo + i) ∧ i < n := by
  unfold irange at h
  rw [List.getElem?_map] at h
  by_cases hi : i < n
  · rw [List.getElem?_range hi] at h
    exact ⟨(Option.some.inj h).symm, hi⟩
  · rw [List.getElem?_eq_none (by simpa using hi)] at h
    cases h
@[simp] theorem irange_length {lo : Int} {n : Nat} : (irange lo n).length = n := by simp [irange]
theorem rng62_of {i : Int} (h1 : -4611686018427387904 ≤ i) (h2 : i < 4611686018427387904) : rng62 i := ⟨by omega, by omega⟩
end Dv
/-! # Dv9: zip, enumerate, reversed; in; more methods; a list unpacked -/
namespace Dv
noncomputable section
open PySem PySem.Spec PyProof.Rows L2

/-! ### a list that stays while it is walked -/
def stL (d : D) (S : Store) : Option (List D × (Store → Prop)) := match d with
  | .lst l => some (l, fun _ => True)
  | .scr l => some (l, fun _ => True)
  | .cell n => match S[n]? with
    | some (.lst l) => some (l, fun S' => S'[n]? = some (.lst l))
    | _ => none
  | _ => none
theorem stL_ok {K : PySem.W.Frag} {w : Wl} {d : D} {v : V} {l : List D} {chk : Store → Prop} (hw : Wd K w) (hr : Rp K w.r w.F d v) (h : stL d w.S = some (l, chk)) :
    ∃ a, v = .ref a ∧ (∃ vs, SqL K w.H a vs ∧ Rps K w.r w.F l vs) ∧ ∀ w1, Go K w w1 → chk w1.S → ∃ vs, SqL K w1.H a vs ∧ Rps K w1.r w1.F l vs := by
  have gen : ∀ (d' : D), d' = d → (∀ w1, Go K w w1 → chk w1.S → getQ d' w1.S = some l) → getQ d' w.S = some l → ∃ a, v = .ref a ∧ (∃ vs, SqL K w.H a vs ∧ Rps K w.r w.F l vs) ∧ ∀ w1, Go K w w1 → chk w1.S → ∃ vs, SqL K w1.H a vs ∧ Rps K w1.r w1.F l vs := by
    intro d' e hq h0
    subst e
    obtain ⟨a, vs, rfl, q, p⟩ := getQ_ok hw hr h0
    refine ⟨a, rfl, ⟨vs, q, p⟩, fun w1 g hc => ?_⟩
    obtain ⟨a', vs', e', q', p'⟩ := getQ_ok g.wd (Rp.go g hr) (hq w1 g hc)
    cases e'
    exact ⟨vs', q', p'⟩
  cases d with
  | lst l' =>
    have e := Option.some.inj h
    cases e
    exact gen _ rfl (fun _ _ _ => rfl) rfl
  | scr l' =>
    have e := Option.some.inj h
    cases e
    exact gen _ rfl (fun _ _ _ => rfl) rfl
  | cell n =>
    unfold stL at h
    cases en : w.S[n]? with
    | none => simp only [en] at h; cases h
    | some c =>
      cases c with
      | lst l' =>
        simp only [en] at h
        have e := Option.some.inj h
        cases e
        refine gen _ rfl (fun w1 g hc => ?_) (by simp only [getQ, getL, en])
        have hc' : w1.S[n]? = some (.lst l) := hc
        simp only [getQ, getL, hc']
      | dct _ => simp only [en] at h; cases h
      | dead => simp only [en] at h; cases h
  | non => cases h
  | bl _ => cases h
  | int _ => cases h
  | str _ => cases h
  | tup _ => cases h
  | raw _ => cases h
  | cls _ => cases h
  | exn _ _ => cases h
def srcZip (l : List D) (S : Store) : Res Src := match l with
  | [a, b] => match stL a S, stL b S with
    | some (x, p), some (y, q) => .ok ⟨(x.zip y).map fun z => .tup [z.1, z.2], fun S' => p S' ∧ q S'⟩ S
    | _, _ => .bad
  | _ => .bad
def srcEnum (l : List D) (S : Store) : Res Src := match l with
  | [a] => match stL a S with
    | some (x, p) => .ok ⟨x.zipIdx.map fun z => .tup [.int z.2, z.1], p⟩ S
    | _ => .bad
  | _ => .bad
def srcRev (l : List D) (S : Store) : Res Src := match l with
  | [a] => match stL a S with
    | some (x, p) => .ok ⟨x.reverse, p⟩ S
    | _ => .bad
  | _ => .bad
section
variable {X : Cx} {W : WX} {e e2 : Expr} {elts : List Expr} {kk : Nat} {tpos pos p : Pos} {h : Env → M (List D)} {tg : Expr}
theorem pid_zip (hm : X.mg "zip" = none) (ha : PAD X W [e, e2] h) (hg : Gl X "zip" := by rfl) (hs : starEach [e, e2] X.env = (false, eval e X.env) :: starEach [e2] X.env := by rfl) (hpl : (backTo pos (starEach [e2] X.env)).any (·.1) = false := by rfl) :
    PID X W (.Tuple elts kk tpos) (.Call (.Name "zip" p) [e, e2] [] pos) (iSrcA srcZip h) := by
  refine weakI (pi_zip hg hm ha hs hpl) fun σ H R ⟨w, env, eH, hw, he, hs⟩ => ?_
  subst eH
  refine ⟨w, env, rfl, hw, he, SatW.imp (SatW.bind hs) fun w1 d v g1 r1 s1 => ?_⟩
  unfold srcZip at s1
  split at s1
  · rename_i a b
    split at s1
    · rename_i x p y q hx hy
      obtain ⟨va, vb, rfl, ra, rb⟩ := two_inv (show Rps X.K w1.r w1.F [a, b] v from r1)
      obtain ⟨pa, rfl, ⟨vs, q1, t1⟩, st1⟩ := stL_ok g1.wd ra hx
      obtain ⟨pb, rfl, ⟨us, q2, t2⟩, st2⟩ := stL_ok g1.wd rb hy
      refine ⟨pa, pb, vs, us, rfl, q1, q2, SatW.here s1 g1.wd (fun w2 g2 hc => ?_)⟩
      obtain ⟨vs', q1', t1'⟩ := st1 w2 g2 hc.1
      obtain ⟨us', q2', t2'⟩ := st2 w2 g2 hc.2
      refine ⟨fun i d e => ?_, vs', us', q1', q2', ?_⟩
      · rw [List.getElem?_map] at e
        cases ez : (x.zip y)[i]? with
        | none => rw [ez] at e; cases e
        | some z =>
          rw [ez] at e
          have ed := Option.some.inj e
          subst ed
          obtain ⟨e1, e2⟩ := List.getElem?_zip_eq_some.mp ez
          obtain ⟨v1, f1, rv1⟩ := t1'.get e1
          obtain ⟨v2, f2, rv2⟩ := t2'.get e2
          refine ⟨⟨vs', us', v1, v2, q1', q2', f1, f2⟩, fun xv H' yl => ?_⟩
          obtain ⟨Tp, x1, x2, rfl, nT, rfl, k1, k2⟩ := yl
          have ex1 : x1 = v1 := Option.some.inj ((k1 _ q1').symm.trans f1)
          have ex2 : x2 = v2 := Option.some.inj ((k2 _ q2').symm.trans f2)
          subst ex1 ex2
          refine ⟨⟨w2.r, upd w2.F Tp (.tup [x1, x2]), w2.S, upd w2.H Tp (.tup [x1, x2])⟩, Go.alloc g2.wd nT, rfl, rfl, ?_⟩
          unfold Rp
          refine ⟨Tp, [x1, x2], rfl, .inl upd_same, Rps.mono (r := w2.r) (F := w2.F) ⟨[], by simp⟩ (fun b z e => ?_) _ _ (rps_cons rv1 (rps_cons rv2 rps_nil))⟩
          show upd w2.F Tp _ b = _
          rw [upd_ne (ne_of_none e (g2.wd.fresh nT))]
          exact e
      · have l1 := t1'.length
        have l2 := t2'.length
        simp only [List.length_map, List.length_zip]
        omega
    · exact s1.elim
  · exact s1.elim
theorem pid_enum (hm : X.mg "enumerate" = none) (ha : PAD X W [e] h) (hg : Gl X "enumerate" := by rfl) (hs : starEach [e] X.env = [(false, eval e X.env)] := by rfl) :
    PID X W (.Tuple elts kk tpos) (.Call (.Name "enumerate" p) [e] [] pos) (iSrcA srcEnum h) := by
  refine weakI (pi_enum hg hm ha hs) fun σ H R ⟨w, env, eH, hw, he, hs⟩ => ?_
  subst eH
  refine ⟨w, env, rfl, hw, he, SatW.imp (SatW.bind hs) fun w1 d v g1 r1 s1 => ?_⟩
  unfold srcEnum at s1
  split at s1
  · rename_i a
    split at s1
    · rename_i x p hx
      obtain ⟨va, rfl, ra⟩ := one_inv (show Rps X.K w1.r w1.F [a] v from r1)
      obtain ⟨pa, rfl, ⟨vs, q1, t1⟩, st1⟩ := stL_ok g1.wd ra hx
      refine ⟨pa, vs, rfl, q1, SatW.here s1 g1.wd (fun w2 g2 hc => ?_)⟩
      obtain ⟨vs', q1', t1'⟩ := st1 w2 g2 hc
      refine ⟨fun i d e => ?_, vs', q1', ?_⟩
      · rw [List.getElem?_map, List.getElem?_zipIdx] at e
        cases ez : x[i]? with
        | none => rw [ez] at e; cases e
        | some z =>
          rw [ez] at e
          have ed := Option.some.inj e
          subst ed
          obtain ⟨v1, f1, rv1⟩ := t1'.get ez
          refine ⟨⟨vs', v1, q1', f1⟩, fun xv H' yl => ?_⟩
          obtain ⟨Tp, x1, rfl, nT, rfl, k1⟩ := yl
          have ex1 : x1 = v1 := Option.some.inj ((k1 _ q1').symm.trans f1)
          subst ex1
          refine ⟨⟨w2.r, upd w2.F Tp (.tup [.int (i : Nat), x1]), w2.S, upd w2.H Tp (.tup [.int (i : Nat), x1])⟩, Go.alloc g2.wd nT, rfl, rfl, ?_⟩
          unfold Rp
          refine ⟨Tp, [.int (i : Nat), x1], rfl, .inl upd_same, Rps.mono (r := w2.r) (F := w2.F) ⟨[], by simp⟩ (fun b z e => ?_) _ _ (rps_cons (by simp; exact rpi) (rps_cons rv1 rps_nil))⟩
          show upd w2.F Tp _ b = _
          rw [upd_ne (ne_of_none e (g2.wd.fresh nT))]
          exact e
      · simp only [List.length_map, List.length_zipIdx]
        exact Nat.le_of_eq t1'.length
    · exact s1.elim
  · exact s1.elim
theorem pid_rev (hm : X.mg "reversed" = none) (ha : PAD X W [e] h) (hg : Gl X "reversed" := by rfl) (hs : starEach [e] X.env = [(false, eval e X.env)] := by rfl) :
    PID X W tg (.Call (.Name "reversed" p) [e] [] pos) (iSrcA srcRev h) := by
  refine weakI (pi_reversed hg hm ha hs) fun σ H R ⟨w, env, eH, hw, he, hs⟩ => ?_
  subst eH
  refine ⟨w, env, rfl, hw, he, SatW.imp (SatW.bind hs) fun w1 d v g1 r1 s1 => ?_⟩
  unfold srcRev at s1
  split at s1
  · rename_i a
    split at s1
    · rename_i x p hx
      obtain ⟨va, rfl, ra⟩ := one_inv (show Rps X.K w1.r w1.F [a] v from r1)
      obtain ⟨pa, rfl, ⟨vs, q1, t1⟩, st1⟩ := stL_ok g1.wd ra hx
      refine ⟨pa, vs, rfl, q1, SatW.here s1 g1.wd (fun w2 g2 hc => ?_)⟩
      obtain ⟨vs', q1', t1'⟩ := st1 w2 g2 hc
      have hl : vs.length = vs'.length := t1.length.trans t1'.length.symm
      refine ⟨fun i d e => ?_, ?_⟩
      · have hi : i < x.length := by
          have := (List.getElem?_eq_some_iff.mp e).1
          simpa using this
        rw [List.getElem?_reverse hi] at e
        obtain ⟨v1, f1, rv1⟩ := t1'.get e
        rw [← t1'.length, ← hl] at f1
        refine ⟨⟨by rw [t1.length]; exact hi, vs', v1, q1', f1⟩, fun xv H' yl => ?_⟩
        obtain ⟨rfl, k1⟩ := yl
        have ex1 : xv = v1 := Option.some.inj ((k1 _ q1').symm.trans f1)
        subst ex1
        exact ⟨w2, Go.refl g2.wd, rfl, rfl, rv1⟩
      · show vs.length ≤ x.reverse.length
        rw [List.length_reverse, t1.length]
        exact Nat.le_refl _
    · exact s1.elim
  · exact s1.elim
end
@[simp] theorem srcZip_lst {a b : List D} {S : Store} : srcZip [.lst a, .lst b] S = .ok ⟨(a.zip b).map fun z => .tup [z.1, z.2], fun _ => True⟩ S := by simp [srcZip, stL]
@[simp] theorem srcEnum_lst {a : List D} {S : Store} : srcEnum [.lst a] S = .ok ⟨a.zipIdx.map fun z => .tup [.int z.2, z.1], fun _ => True⟩ S := rfl
@[simp] theorem srcRev_lst {a : List D} {S : Store} : srcRev [.lst a] S = .ok ⟨a.reverse, fun _ => True⟩ S := rfl

/-! ### in, not in: flat things -/
def flatD : D → Bool
  | .non => true
  | .bl _ => true
  | .int _ => true
  | .str _ => true
  | _ => false
def eqFl : D → D → Bool
  | .non, .non => true
  | .bl a, .bl b => a == b
  | .bl a, .int b => (if a then 1 else 0) == b
  | .int a, .bl b => a == (if b then 1 else 0)
  | .int a, .int b => a == b
  | .str a, .str b => a == b
  | _, _ => false
def inFl (x : D) (l : List D) : Bool := l.any fun y => eqFl y x
def getI (d : D) (S : Store) : Option (List D) := match d with
  | .tup l => some l
  | d => getQ d S
def dInX (neg : Bool) (x y : D) (S : Store) : Res D := match getI y S with
  | some l => if flatD x = true ∧ l.all flatD = true then .ok (.bl (if neg then !inFl x l else inFl x l)) S else .bad
  | none => .bad
def dIn := dInX false
def dNotIn := dInX true
section
variable {K : PySem.W.Frag} {r : List Addr} {F : Hp}
theorem flat_v {d : D} {v : V} (h : Rp K r F d v) (f : flatD d = true) : flatV v = true ∧ ∀ {e : D} {u : V}, Rp K r F e u → flatD e = true → eqV u v = eqFl e d := by
  cases d with
  | non =>
    cases rp_non h
    refine ⟨rfl, fun {e u} hu fe => ?_⟩
    cases e with
    | non => cases rp_non hu; rfl
    | bl _ => cases rp_bl hu; rfl
    | int _ => cases rp_int hu; rfl
    | str _ => cases rp_str hu; rfl
    | _ => cases fe
  | bl b =>
    cases rp_bl h
    refine ⟨rfl, fun {e u} hu fe => ?_⟩
    cases e with
    | non => cases rp_non hu; rfl
    | bl _ => cases rp_bl hu; rfl
    | int _ => cases rp_int hu; rfl
    | str _ => cases rp_str hu; rfl
    | _ => cases fe
  | int b =>
    cases rp_int h
    refine ⟨rfl, fun {e u} hu fe => ?_⟩
    cases e with
    | non => cases rp_non hu; rfl
    | bl _ => cases rp_bl hu; rfl
    | int _ => cases rp_int hu; rfl
    | str _ => cases rp_str hu; rfl
    | _ => cases fe
  | str b =>
    cases rp_str h
    refine ⟨rfl, fun {e u} hu fe => ?_⟩
    cases e with
    | non => cases rp_non hu; rfl
    | bl _ => cases rp_bl hu; rfl
    | int _ => cases rp_int hu; rfl
    | str _ => cases rp_str hu; rfl
    | _ => cases fe
  | _ => cases f
theorem flats_v {x : D} {v : V} (hx : Rp K r F x v) (fx : flatD x = true) : ∀ {l : List D} {vs : List V}, Rps K r F l vs → l.all flatD = true → vs.all flatV = true ∧ inV v vs = inFl x l
  | [], vs, h, _ => by rw [h.nil_inv]; exact ⟨rfl, rfl⟩
  | d :: l, vs, h, f => by
    obtain ⟨u, t, rfl, h1, h2⟩ := h.cons_inv
    rw [List.all_cons, Bool.and_eq_true] at f
    obtain ⟨f1, _⟩ := flat_v h1 f.1
    obtain ⟨f3, f4⟩ := flats_v hx fx h2 f.2
    refine ⟨by rw [List.all_cons, f1, f3]; rfl, ?_⟩
    have e1 : eqV u v = eqFl d x := (flat_v hx fx).2 h1 f.1
    unfold inV inFl at f4 ⊢
    rw [List.any_cons, List.any_cons, e1, f4]
theorem getI_ok {w : Wl} {d : D} {v : V} {l : List D} (hw : Wd K w) (hr : Rp K w.r w.F d v) (h : getI d w.S = some l) : ∃ a vs, v = .ref a ∧ (SqL K w.H a vs ∨ SqT K w.H a vs) ∧ Rps K w.r w.F l vs := by
  have gen : getQ d w.S = some l → ∃ a vs, v = .ref a ∧ (SqL K w.H a vs ∨ SqT K w.H a vs) ∧ Rps K w.r w.F l vs := fun h => by
    obtain ⟨a, vs, e, q, p⟩ := getQ_ok hw hr h
    exact ⟨a, vs, e, .inl q, p⟩
  cases d with
  | tup l' =>
    obtain ⟨a, vs, e, q, p⟩ := getT_ok hw hr h
    exact ⟨a, vs, e, .inr (.inl q), p⟩
  | _ => exact gen h
end
section
variable {X : Cx}
theorem od_in : OpD X (compareOp .In) dIn := ⟨_, op_in_seq, fun w x y d e W σ Q hw r1 r2 hs => by
  unfold dIn dInX at hs
  split at hs
  · rename_i l hl
    obtain ⟨hf, hs⟩ := satIf hs
    obtain ⟨a, vs, e1, q, t⟩ := getI_ok hw r2 hl
    obtain ⟨f1, f2⟩ := flats_v (show Rp X.K w.r w.F d x from r1) hf.1 t hf.2
    refine ⟨a, vs, e1, q, (flat_v (show Rp X.K w.r w.F d x from r1) hf.1).1, f1, ?_⟩
    rw [f2]
    exact SatW.here hs hw rpb
  · exact hs.elim⟩
theorem od_notIn : OpD X (compareOp .NotIn) dNotIn := ⟨_, op_notIn_seq, fun w x y d e W σ Q hw r1 r2 hs => by
  unfold dNotIn dInX at hs
  split at hs
  · rename_i l hl
    obtain ⟨hf, hs⟩ := satIf hs
    obtain ⟨a, vs, e1, q, t⟩ := getI_ok hw r2 hl
    obtain ⟨f1, f2⟩ := flats_v (show Rp X.K w.r w.F d x from r1) hf.1 t hf.2
    refine ⟨a, vs, e1, q, (flat_v (show Rp X.K w.r w.F d x from r1) hf.1).1, f1, ?_⟩
    rw [f2]
    exact SatW.here hs hw rpb
  · exact hs.elim⟩

/-! ### more methods -/
def mInsert (x : D) (a : List D) (S : Store) : Res D := match a, cellL x S with
  | [.int i, y], some (n, l) => if l.length < 16000000 ∧ 0 ≤ i ∧ i < 4611686018427387904 then .ok .non (S.set n (.lst (l.take i.toNat ++ [y] ++ l.drop i.toNat))) else .bad
  | _, _ => .bad
def mPop (x : D) (a : List D) (S : Store) : Res D := match a, cellL x S with
  | [], some (n, l) => match l[l.length - 1]? with
    | some y => .ok y (S.set n (.lst l.dropLast))
    | none => .bad
  | _, _ => .bad
def mPopAt (x : D) (a : List D) (S : Store) : Res D := match a, cellL x S with
  | [.int i], some (n, l) => if rng62 i then match seqIndex? i l.length with
      | some k => match l[k]? with
        | some y => .ok y (S.set n (.lst (l.eraseIdx k)))
        | none => .bad
      | none => .bad
    else .bad
  | _, _ => .bad
def mCount (x : D) (a : List D) (S : Store) : Res D := match a with
  | [.int k] => match (getQ x S).bind intsOf with
    | some ns => .ok (.int (ns.count k : Nat)) S
    | none => .bad
  | _ => .bad
theorem Rps.dropLast {K : PySem.W.Frag} {r : List Addr} {F : Hp} {l : List D} {vs : List V} (h : Rps K r F l vs) : Rps K r F l.dropLast vs.dropLast := by
  rw [List.dropLast_eq_take, List.dropLast_eq_take, h.length]
  exact h.take _
theorem Rps.eraseIdx {K : PySem.W.Frag} {r : List Addr} {F : Hp} {l : List D} {vs : List V} (h : Rps K r F l vs) (k : Nat) : Rps K r F (l.eraseIdx k) (vs.eraseIdx k) := by
  rw [List.eraseIdx_eq_take_drop_succ, List.eraseIdx_eq_take_drop_succ]
  exact (h.take _).append (h.drop _)
theorem md_insert : MtD X "list.insert" mInsert := ⟨_, mt_insert, fun w x xs d ds W σ Q hw r1 r2 hs => by
  unfold mInsert at hs
  split at hs
  · rename_i i y n l hc
    obtain ⟨rfl, en⟩ := cellL_eq hc
    obtain ⟨hl, hs⟩ := satIf hs
    obtain ⟨v, u, rfl, rv, ru⟩ := two_inv r2
    obtain ⟨a, vs, rfl, ha, p, go⟩ := cell_write (T := kt X) (l' := l.take i.toNat ++ [y] ++ l.drop i.toNat) hw r1 en
    refine ⟨a, vs, i, u, rfl, by rw [rp_int rv], ha, by rw [p.length]; exact Nat.lt_of_lt_of_le hl.1 (line16 (Nat.le_refl _)), hl.2.1, by omega, ?_⟩
    exact hs _ V.non (go _ (((p.take _).append (rps_cons ru rps_nil)).append (p.drop _))) rfl rpn
  · exact hs.elim⟩
theorem md_pop : MtD X "list.pop" mPop := ⟨_, mt_pop, fun w x xs d ds W σ Q hw r1 r2 hs => by
  unfold mPop at hs
  split at hs
  · rename_i n l hc
    obtain ⟨rfl, en⟩ := cellL_eq hc
    split at hs
    · rename_i y hy
      obtain ⟨a, vs, rfl, ha, p, go⟩ := cell_write (T := kt X) (l' := l.dropLast) hw r1 en
      obtain ⟨v, ev, rv⟩ := p.get hy
      refine ⟨a, vs, v, rfl, r2.nil_inv, ha, by rw [p.length]; exact ev, ?_⟩
      exact hs _ v (go _ p.dropLast) rfl (show Rp X.K w.r w.F y v from rv)
    · exact hs.elim
  · exact hs.elim⟩
theorem md_popAt : MtD X "list.pop" mPopAt := ⟨_, mt_popAt, fun w x xs d ds W σ Q hw r1 r2 hs => by
  unfold mPopAt at hs
  split at hs
  · rename_i i n l hc
    obtain ⟨rfl, en⟩ := cellL_eq hc
    obtain ⟨hi, hs⟩ := satIf hs
    split at hs
    · rename_i k hk
      split at hs
      · rename_i y hy
        obtain ⟨v0, rfl, rv0⟩ := one_inv r2
        obtain ⟨a, vs, rfl, ha, p, go⟩ := cell_write (T := kt X) (l' := l.eraseIdx k) hw r1 en
        obtain ⟨v, ev, rv⟩ := p.get hy
        have b1 := hi.1
        have b2 := hi.2
        refine ⟨a, vs, i, k, v, rfl, by rw [rp_int rv0], ha, by omega, by omega, by rw [p.length]; exact hk, ev, ?_⟩
        exact hs _ v (go _ (p.eraseIdx k)) rfl (show Rp X.K w.r w.F y v from rv)
      · exact hs.elim
    · exact hs.elim
  · exact hs.elim⟩
theorem md_count : MtD X "list.count" mCount := ⟨_, mt_lcount, fun w x xs d ds W σ Q hw r1 r2 hs => by
  unfold mCount at hs
  split at hs
  · rename_i k
    obtain ⟨v0, rfl, rv0⟩ := one_inv r2
    split at hs
    · rename_i ns h
      obtain ⟨a, e1, q⟩ := ints_of hw r1 h
      exact ⟨a, ns, k, e1, by rw [rp_int rv0], q, SatW.here hs hw rpi⟩
    · exact hs.elim
  · exact hs.elim⟩
theorem md_extend : MtD X "list.extend" mExtend := ⟨_, mt_extend, fun w x xs d ds W σ Q hw r1 r2 hs => by
  unfold mExtend at hs
  split at hs
  · rename_i z n l hc
    obtain ⟨rfl, en⟩ := cellL_eq hc
    obtain ⟨hl, hs⟩ := satIf hs
    obtain ⟨v0, rfl, rv0⟩ := one_inv r2
    obtain ⟨b, zs, rfl, hb, t⟩ := getL_ok hw rv0 rfl
    obtain ⟨a, vs, rfl, ha, p, go⟩ := cell_write (T := kt X) (l' := l ++ z) hw r1 en
    refine ⟨a, b, vs, zs, rfl, rfl, ha, hb, by rw [p.length, t.length]; exact line16 hl, ?_⟩
    exact hs _ V.non (go _ (p.append t)) rfl rpn
  · exact hs.elim⟩
end

/-! ### a list unpacked -/
def gL (n : Nat) (h : List D → Env → Store → Out) : D → Env → Store → Out := fun d e S => match getQ d S with
  | some l => if l.length = n then h l e S else .bad
  | none => .bad
section
variable {X : Cx} {es : List Expr} {pos : Pos}
theorem pgd_unl {n : Nat} {kk : Nat} {hh : List D → Env → Store → Out} (hc : X.calm = true) (h2 : PGsD X es hh) (hn : (assignEach es X.env).length = n := by rfl) (hst : (assignEach es X.env).findIdx? (·.1) = none := by rfl) : PGD X (.Tuple es kk pos) (gL n hh) := by
  refine weakG (pg_unl hc h2 hn hst) fun v σ H Q ⟨w, env, d, eH, hw, he, hr, hs⟩ => ?_
  subst eH
  have hs' : SatG (kt X) w (match getQ d w.S with | some l => if l.length = n then hh l env w.S else .bad | none => .bad) Q := hs
  cases q : getQ d w.S with
  | none => rw [q] at hs'; exact hs'.elim
  | some l =>
    rw [q] at hs'
    have hs2 : SatG (kt X) w (if l.length = n then hh l env w.S else .bad) Q := hs'
    by_cases hl : l.length = n
    · rw [if_pos hl] at hs2
      obtain ⟨a, vs, rfl, q, p⟩ := getQ_ok hw hr q
      exact ⟨a, vs, rfl, q, by rw [p.length]; exact hl, w, env, l, rfl, hw, he, p, hs2⟩
    · rw [if_neg hl] at hs2
      exact hs2.elim
end
end
end Dv
/-! # Dv10: counting over data -/
namespace Dv
noncomputable section
open PySem PySem.Spec PyProof.Rows L2

def rCntD (K : PySem.W.Frag) : V → List V → Hp → VK → Prop := fun x xs H Q => ∃ (p : Addr) (vs : List V) (ds : List PyData) (v : V) (d : PyData), x = .ref p ∧ xs = [v] ∧ SqL K H p vs ∧ DpAll K H vs ds ∧ Dp K H v d ∧ PyData.plainAll ds = true ∧ d.plain = true ∧ d.depth ≤ 60 ∧ Q (.int (ds.countP fun y => PyData.eqv y d : Nat)) H
theorem mt_countD {X : Cx} (hu : X.A.units + 64 < cLine) : MtR X "list.count" (rCntD X.K) := by
  intro pins s σ H x xs v us Q I rx rxs h
  obtain ⟨p, vs, ds, u, d, rfl, rfl, hs, ha, hd, h1, h2, h3, q⟩ := h
  cases rx
  obtain ⟨u', rfl, ru⟩ := rxs.one
  obtain ⟨its, rv, ⟨o, n, ho, hc, hdn, hd2⟩, hlen⟩ := I.list hs
  obtain ⟨as, r1⟩ := Dp.readsAll I ds vs its ha rv
  obtain ⟨bs, r2⟩ := Dp.reads I d u u' hd ru
  refine SeqAt.count_list_data (vs := its.toArray) ⟨o, ho, hc, n, hd2⟩ (by simpa using r1) r2 h1 h2 ?_ ?_
  · have : min (PyData.depthAll ds) d.depth ≤ d.depth := Nat.min_le_right _ _
    omega
  · exact ⟨.int (ds.countP fun y => PyData.eqv y d : Nat), H, I.tok _, ⟨s.toks, rfl⟩, q⟩
def mCountD (x : D) (a : List D) (S : Store) : Res D := match a with
  | [k] => match toP S 60 k, (getQ x S).bind (toPs S 60) with
    | some d, some ds => .ok (.int (ds.countP fun y => PyData.eqv y d : Nat)) S
    | _, _ => .bad
  | _ => .bad
theorem toPs_plain {S : Store} {n : Nat} {l : List D} {ps : List PyData} (h : toPs S n l = some ps) : PyData.plainAll ps = true := by
  have := (toP_ok (S := S) (n + 1) (.lst l) (.list ps) (by rw [toP, h]; rfl)).1
  have q := PyData.plain_of_canLay0 _ this
  simpa [PyData.plain] using q
theorem md_countD {X : Cx} (hu : X.A.units + 64 < cLine) : MtD X "list.count" mCountD := ⟨_, mt_countD hu, fun w x xs d ds W σ Q hw r1 r2 hs => by
  unfold mCountD at hs
  split at hs
  · rename_i k
    obtain ⟨v0, rfl, rv0⟩ := one_inv r2
    split at hs
    · rename_i p ps h1 h2
      cases q : getQ d w.S with
      | none => rw [q] at h2; cases h2
      | some l =>
        rw [q] at h2
        obtain ⟨a, vs, e1, hq, t⟩ := getQ_ok hw r1 q
        obtain ⟨h3, h4⟩ := toP_ok 60 k p h1
        exact ⟨a, vs, ps, v0, p, e1, rfl, hq, toPs_dp hw 60 l vs ps h2 t, toP_dp hw 60 k v0 p h1 rv0, toPs_plain h2, PyData.plain_of_canLay0 _ h3, h4, SatW.here hs hw rpi⟩
    · exact hs.elim
  · exact hs.elim⟩
theorem bt3 {a b c : Bool} : (mCountD (.lst [.bl a, .bl b, .bl c]) [.bl true] : M D) = fun S => .ok (.int ((if a then 1 else 0) + (if b then 1 else 0) + (if c then 1 else 0))) S := by
  funext S
  cases a <;> cases b <;> cases c <;> simp [mCountD, getQ, toP, toPs, PyData.eqv]
theorem toPs_ints {S : Store} {n : Nat} : ∀ cs : List Int, toPs S n (cs.map D.int) = some (cs.map PyData.int)
  | [] => by simp [toPs]
  | c :: cs => by
    have e : toP S n (D.int c) = some (.int c) := by cases n <;> simp [toP]
    simp [toPs, e, toPs_ints cs]
/-! ### stores: what stands ahead, and the cells behind -/
section
variable {P R : Store} {a b c x : Cn} {L : Nat}
theorem app_at0 (h : P.length = L) : (P ++ a :: R)[L]? = some a := by rw [List.getElem?_append_right (by omega)]; simp [h]
theorem app_at1 (h : P.length = L) : (P ++ a :: b :: R)[L + 1]? = some b := by rw [List.getElem?_append_right (by omega)]; simp [h]
theorem app_at2 (h : P.length = L) : (P ++ a :: b :: c :: R)[L + 2]? = some c := by rw [List.getElem?_append_right (by omega)]; simp [h]
theorem app_set0 (h : P.length = L) : (P ++ a :: R).set L x = P ++ x :: R := by rw [List.set_append_right _ _ (by omega)]; simp [h]
theorem app_set1 (h : P.length = L) : (P ++ a :: b :: R).set (L + 1) x = P ++ a :: x :: R := by rw [List.set_append_right _ _ (by omega)]; simp [h]
theorem app_set2 (h : P.length = L) : (P ++ a :: b :: c :: R).set (L + 2) x = P ++ a :: b :: x :: R := by rw [List.set_append_right _ _ (by omega)]; simp [h]
theorem fin_cut {d : D} (h : P.length = L) (hu : (P.all fun c => c.under L) = true) (hd : d.under L = true) : fin false L d (P ++ R) = .ok d P := by
  unfold fin
  have e : (P ++ R).take L = P := by rw [← h]; simp
  by_cases z : (false = true ∨ (P ++ R).length = L)
  · rw [if_pos z]
    rcases z with z | z
    · cases z
    · rw [List.length_append] at z
      have : R = [] := List.length_eq_zero_iff.mp (by omega)
      subst this
      simp
  · rw [if_neg z, e, hd, hu]
    rfl
end
theorem underL_ints {n : Nat} : ∀ cs : List Int, D.underL n (cs.map D.int) = true
  | [] => rfl
  | c :: cs => by rw [List.map_cons, D.underL, underL_ints cs]; rfl
theorem underL_of {n : Nat} : ∀ {l : List D}, (∀ d ∈ l, D.under n d = true) → D.underL n l = true
  | [], _ => rfl
  | d :: l, h => by rw [D.underL, h d (by simp), underL_of fun x hx => h x (by simp [hx])]; rfl
theorem all_set_under {n k : Nat} {x : Cn} {P : Store} (h : (P.all fun c => c.under n) = true) (hx : x.under n = true) : ((P.set k x).all fun c => c.under n) = true := by
  rw [List.all_eq_true] at *
  intro c hc
  rcases List.mem_or_eq_of_mem_set hc with z | z
  · exact h c z
  · rw [z]; exact hx
/-- a comprehension that only reckons -/
theorem lc_map {α : Type} {g : D → Env → Option Env} {f : Env → M D} {e0 : Env} {S : Store} (emb ψ : α → D) : ∀ (items : List α) (acc : List D), (∀ a ∈ items, ∃ e1, g (emb a) e0 = some e1 ∧ f e1 S = .ok (ψ a) S) → acc.length + items.length ≤ 16000000 → lcL (fun _ => True) g cYes f e0 (items.map emb) acc S = .ok (acc ++ items.map ψ) S
  | [], acc, _, _ => by rw [List.map_nil, lcL, if_pos trivial]; simp
  | a :: items, acc, h, hl => by
    obtain ⟨e1, h1, h2⟩ := h a (by simp)
    rw [List.length_cons] at hl
    rw [List.map_cons, lcL, if_pos trivial]
    simp only [h1, cYes, h2]
    rw [if_pos (by omega), lc_map emb ψ items _ (fun x hx => h x (by simp [hx])) (by rw [List.length_append, List.length_singleton]; omega)]
    simp
theorem irange_map {lo : Int} {n : Nat} : irange lo n = (List.range n).map fun (i : Nat) => D.int (lo + i) := rfl
end
end Dv
/-! # Dv11: Ens and EnsO as structures, so that nobody reckons through them -/
namespace Dv
open PySem PySem.Spec PyProof.Rows L2
structure Ens {α : Type} (x : Res α) (P : α → Store → Prop) : Prop where
  go : En0 x P
structure EnsO (o : Out) (Q : Pst) : Prop where
  go : EnO0 o Q
theorem ens_is {α : Type} {x : Res α} {P : α → Store → Prop} : Ens x P = En0 x P := propext ⟨fun h => h.go, fun h => ⟨h⟩⟩
theorem enso_is {o : Out} {Q : Pst} : EnsO o Q = EnO0 o Q := propext ⟨fun h => h.go, fun h => ⟨h⟩⟩
section
variable {α β : Type} {x : Res α} {a : α} {S : Store} {P : α → Store → Prop} {Q : Pst} {e : Env} {d : D}
@[simp] theorem ens_ok : Ens (.ok a S) P = P a S := ens_is
@[simp] theorem ens_bad : Ens (.bad : Res α) P = False := ens_is
@[simp] theorem ens_exc {y : Exn} : Ens (.exc y S : Res α) P = False := ens_is
@[simp] theorem ens_bind {k : α → Store → Res β} {P : β → Store → Prop} : Ens (x.bind k) P = Ens x (fun a S => Ens (k a S) P) := by
  rw [ens_is, ens_is, en0_bind]
  congr 1
  funext a S
  rw [ens_is]
theorem Ens.imp {P' : α → Store → Prop} (h : Ens x P) (q : ∀ a S, P a S → P' a S) : Ens x P' := ⟨h.go.imp q⟩
theorem ens_eq {v : α} : Ens x (fun a S' => a = v ∧ S' = S) ↔ x = .ok v S := by rw [ens_is]; exact en0_eq
theorem Ens.get (h : Ens x P) : ∃ a S, x = .ok a S ∧ P a S := En0.get h.go
@[simp] theorem ens_if {c : Prop} [Decidable c] : Ens (if c then x else .bad) P = (c ∧ Ens x P) := by rw [ens_is, ens_is, en0_if]
@[simp] theorem ens_if' {c : Prop} [Decidable c] : Ens (if c then .bad else x) P = (¬ c ∧ Ens x P) := by rw [ens_is, ens_is, en0_if']
theorem ens_ite {c : Prop} [Decidable c] {y : Res α} (h1 : c → Ens x P) (h2 : ¬ c → Ens y P) : Ens (if c then x else y) P := ⟨en0_ite (fun h => (h1 h).go) fun h => (h2 h).go⟩
@[simp] theorem enso_nx : EnsO (.nx e S) Q = Q.nx e S := enso_is
@[simp] theorem enso_rt : EnsO (.rt d S) Q = Q.rt d S := enso_is
@[simp] theorem enso_bk : EnsO (.bk e S) Q = Q.bk e S := enso_is
@[simp] theorem enso_ct : EnsO (.ct e S) Q = Q.ct e S := enso_is
@[simp] theorem enso_bad : EnsO .bad Q = False := enso_is
@[simp] theorem enso_out {k : α → Store → Out} : EnsO (x.out e k) Q = Ens x (fun a S => EnsO (k a S) Q) := by
  rw [enso_is, ens_is, eno0_out]
  congr 1
  funext a S
  rw [enso_is]
@[simp] theorem enso_seq {o : Out} {k : Env → Store → Out} : EnsO (o.seq k) Q = EnsO o { Q with nx := fun e S => EnsO (k e S) Q } := by
  rw [enso_is, enso_is, eno0_seq]
  congr 1
  congr 1
  funext e S
  rw [enso_is]
theorem EnsO.imp {o : Out} {Q' : Pst} (h : EnsO o Q) (h1 : ∀ e S, Q.nx e S → Q'.nx e S) (h2 : ∀ e S, Q.rt e S → Q'.rt e S) (h3 : ∀ e S, Q.bk e S → Q'.bk e S) (h4 : ∀ e S, Q.ct e S → Q'.ct e S) : EnsO o Q' := ⟨h.go.imp h1 h2 h3 h4⟩
theorem enso_ite {c : Prop} [Decidable c] {o p : Out} (h1 : c → EnsO o Q) (h2 : ¬ c → EnsO p Q) : EnsO (if c then o else p) Q := ⟨eno0_ite (fun h => (h1 h).go) fun h => (h2 h).go⟩
end
theorem ens_fn {np ns : Nat} {keep : Bool} {body : Env → Store → Out} {ds : List D} {S : Store} {P : D → Store → Prop} (hl : ds.length = np)
    (h : EnsO (body (ds.map some ++ List.replicate (ns - np) none) S) { nx := fun _ S' => Ens (fin keep S.length .non S') P, rt := fun d S' => Ens (fin keep S.length d S') P }) : Ens (fnD np ns keep body ds S) P :=
  ⟨en0_fn hl (h.go.imp (fun _ _ h => h.go) (fun _ _ h => h.go) (fun _ _ h => h.elim) (fun _ _ h => h.elim))⟩
theorem ens_for {g : D → Env → Store → Out} {b : Env → Store → Out} {items : List D} {e : Env} {S : Store} {Q : Pst} (I : Nat → Env → Store → Prop) (h0 : I 0 e S)
    (hs : ∀ (i : Nat) d e S, items[i]? = some d → I i e S → EnsO (g d e S) { nx := fun e1 S1 => EnsO (b e1 S1) { nx := I (i + 1), ct := I (i + 1), bk := Q.nx, rt := Q.rt } })
    (hd : ∀ e S, I items.length e S → Q.nx e S) : EnsO (forL (fun _ => True) g b items e S) Q :=
  ⟨en0_for I h0 (fun i d e S h1 h2 => (hs i d e S h1 h2).go.imp (fun _ _ h => h.go) (fun _ _ h => h.elim) (fun _ _ h => h.elim) (fun _ _ h => h.elim)) hd⟩
theorem ens_while {c : Env → M Bool} {b : Env → Store → Out} {Q : Pst} (I : Env → Store → Prop) (m : Env → Store → Nat)
    (hs : ∀ e S, I e S → Ens (c e S) fun t S1 => (t = true → EnsO (b e S1) { nx := fun e' S' => I e' S' ∧ m e' S' < m e S, ct := fun e' S' => I e' S' ∧ m e' S' < m e S, bk := Q.nx, rt := Q.rt }) ∧ (t = false → Q.nx e S1)) {e : Env} {S : Store} (h0 : I e S) : EnsO (yWhile c b e S) Q :=
  ⟨en0_while I m (fun e S h => (hs e S h).go.imp fun t S1 z => ⟨fun q => (z.1 q).go, z.2⟩) h0⟩
theorem ens_lc {g : D → Env → Option Env} {c : Env → M Bool} {f : Env → M D} {e0 : Env} {items : List D} {S : Store} {P : List D → Store → Prop} (I : Nat → List D → Store → Prop) (h0 : I 0 [] S)
    (hs : ∀ (i : Nat) d acc S, items[i]? = some d → I i acc S → ∃ e1, g d e0 = some e1 ∧ Ens (c e1 S) fun t S2 => (t = true → Ens (f e1 S2) fun y S3 => acc.length < 16000000 ∧ I (i + 1) (acc ++ [y]) S3) ∧ (t = false → I (i + 1) acc S2))
    (hd : ∀ l S, I items.length l S → P l S) : Ens (lcL (fun _ => True) g c f e0 items [] S) P :=
  ⟨en0_lc I h0 (fun i d acc S h1 h2 => by
    obtain ⟨e1, q1, q2⟩ := hs i d acc S h1 h2
    exact ⟨e1, q1, q2.go.imp fun t S2 z => ⟨fun q => (z.1 q).go, z.2⟩⟩) hd⟩
theorem ens_seq {y y' : Env → Store → Out} {e : Env} {S : Store} {Q : Pst} (R : Env → Store → Prop) (h1 : EnsO (y e S) { Q with nx := R }) (h2 : ∀ e S, R e S → EnsO (y' e S) Q) : EnsO (ySeq y y' e S) Q :=
  ⟨en0_seq R h1.go fun e S h => (h2 e S h).go⟩
@[simp] theorem ens_fin0 {k b : Bool} {S : Store} {p : D → Prop} : Ens (fin k 0 (.bl b) S) (fun d _ => p d) = p (.bl b) := by
  unfold fin
  by_cases h : k = true ∨ S.length = 0
  · rw [if_pos h, ens_ok]
  · rw [if_neg h, if_pos (by simp [D.under]), ens_ok]
/- no `if` over rng62 in the reckoning: the kernel would run through its decision -/
@[simp] theorem ens_srcR1 {j : Int} {S : Store} {P : Src → Store → Prop} : Ens (srcR1 [.int j] S) P = (rng62 j ∧ P ⟨irange 0 j.toNat, fun _ => True⟩ S) := by
  rw [srcR1_app, ens_if, ens_ok]
@[simp] theorem ens_srcR2 {i j : Int} {S : Store} {P : Src → Store → Prop} : Ens (srcR2 [.int i, .int j] S) P = ((rng62 i ∧ rng62 j) ∧ P ⟨irange i (j - i).toNat, fun _ => True⟩ S) := by
  rw [srcR2_app, ens_if, ens_ok]
/-- as ens_seq, the middle's form kept from simp -/
theorem ens_sq {y y' : Env → Store → Out} {e : Env} {S : Store} {Q : Pst} (R : Env → Store → Prop) (h1 : ∀ R' : Env → Store → Prop, (∀ e S, R e S → R' e S) → EnsO (y e S) { Q with nx := R' }) (h2 : ∀ e S, R e S → EnsO (y' e S) Q) : EnsO (ySeq y y' e S) Q := ens_seq R (h1 R fun _ _ h => h) h2
theorem ens_fr {g : D → Env → Store → Out} {b : Env → Store → Out} {items : List D} {e : Env} {S : Store} {Q : Pst} (I : Nat → Env → Store → Prop) (h0 : I 0 e S)
    (hs : ∀ (i : Nat) d e S (R' : Env → Store → Prop), items[i]? = some d → I i e S → (∀ e S, I (i + 1) e S → R' e S) → EnsO (g d e S) { nx := fun e1 S1 => EnsO (b e1 S1) { nx := R', ct := R', bk := Q.nx, rt := Q.rt } })
    (hd : ∀ e S, I items.length e S → Q.nx e S) : EnsO (forL (fun _ => True) g b items e S) Q := ens_for I h0 (fun i d e S h1 h2 => hs i d e S _ h1 h2 fun _ _ h => h) hd
theorem ens_lcq {g : D → Env → Option Env} {c : Env → M Bool} {f : Env → M D} {e0 : Env} {items : List D} {S : Store} {P : List D → Store → Prop} (I : Nat → List D → Store → Prop) (h0 : I 0 [] S)
    (hs : ∀ (i : Nat) d acc S (R' : List D → Store → Prop), items[i]? = some d → I i acc S → (∀ l S, I (i + 1) l S → R' l S) → ∃ e1, g d e0 = some e1 ∧ Ens (c e1 S) fun t S2 => (t = true → Ens (f e1 S2) fun y S3 => acc.length < 16000000 ∧ R' (acc ++ [y]) S3) ∧ (t = false → R' acc S2))
    (hd : ∀ l S, I items.length l S → P l S) : Ens (lcL (fun _ => True) g c f e0 items [] S) P := ens_lc I h0 (fun i d acc S h1 h2 => hs i d acc S _ h1 h2 fun _ _ h => h) hd
/-- over a list that is written there; the items are kept from the kernel's reckoning -/
theorem enso_forlst {h : Env → M (List D)} {g : D → Env → Store → Out} {b : Env → Store → Out} {oo : Option D} {ll : Env} {S : Store} {Q : Pst} (hh : Ens (h (oo :: ll) S) fun l S1 => l.length ≤ 1000 ∧ ∀ items, items = l → EnsO (forL (fun _ => True) g b items (oo :: ll) S1) Q) : EnsO (yFor (iSrc srcL (xLst mkF h)) g b (oo :: ll) S) Q := by
  rw [yFor_app, iSrc_app, xLst_app, enso_out, ens_bind, ens_bind]
  refine hh.imp fun l S1 ⟨h1, h2⟩ => ?_
  rw [if_pos h1, mkF_app, ens_ok, srcL_lst, ens_ok]
  exact h2 l rfl
end Dv
/-! # Dv12: any, all, sorted -/
namespace Dv
noncomputable section
open PySem PySem.Spec PyProof.Rows L2
def blsOf : List D → Option (List Bool)
  | [] => some []
  | .bl b :: l => (blsOf l).map (b :: ·)
  | _ :: _ => none
theorem blsOf_eq : ∀ {l : List D} {bs : List Bool}, blsOf l = some bs → l = bs.map D.bl
  | [], bs, h => by cases h; rfl
  | .bl b :: l, bs, h => by
    rw [blsOf] at h
    cases q : blsOf l with
    | none => rw [q] at h; cases h
    | some m => rw [q] at h; cases h; rw [blsOf_eq q]; rfl
  | .non :: _, _, h => by cases h
  | .int _ :: _, _, h => by cases h
  | .str _ :: _, _, h => by cases h
  | .tup _ :: _, _, h => by cases h
  | .lst _ :: _, _, h => by cases h
  | .scr _ :: _, _, h => by cases h
  | .cell _ :: _, _, h => by cases h
  | .raw _ :: _, _, h => by cases h
  | .cls _ :: _, _, h => by cases h
  | .exn _ _ :: _, _, h => by cases h
@[simp] theorem blsOf_map : ∀ bs : List Bool, blsOf (bs.map D.bl) = some bs
  | [] => rfl
  | b :: bs => by rw [List.map_cons, blsOf, blsOf_map bs]; rfl
theorem Rps.bls {K : PySem.W.Frag} {r : List Addr} {F : Hp} : ∀ {bs : List Bool} {vs : List V}, Rps K r F (bs.map D.bl) vs → vs = bs.map V.bl
  | [], vs, h => h.nil_inv
  | b :: bs, vs, h => by
    obtain ⟨v, t, rfl, h1, h2⟩ := h.cons_inv
    cases rp_bl h1
    rw [Rps.bls h2]
    rfl
theorem bls_of {K : PySem.W.Frag} {w : Wl} {x : D} {v : V} {bs : List Bool} (hw : Wd K w) (r : Rp K w.r w.F x v) (h : (getQ x w.S).bind blsOf = some bs) : ∃ a, v = .ref a ∧ SqL K w.H a (bs.map V.bl) := by
  cases q : getQ x w.S with
  | none => rw [q] at h; cases h
  | some l =>
    rw [q] at h
    have e := blsOf_eq (show blsOf l = some bs from h)
    subst e
    obtain ⟨a, vs, e1, q1, t⟩ := getQ_ok hw r q
    rw [t.bls] at q1
    exact ⟨a, e1, q1⟩
def bAll (l : List D) (S : Store) : Res D := match l with
  | [x] => match (getQ x S).bind blsOf with
    | some bs => .ok (.bl (bs.all id)) S
    | none => .bad
  | _ => .bad
def bAny (l : List D) (S : Store) : Res D := match l with
  | [x] => match (getQ x S).bind blsOf with
    | some bs => .ok (.bl (bs.any id)) S
    | none => .bad
  | _ => .bad
@[simp] theorem bAll_bls {bs : List Bool} {S : Store} : bAll [.lst (bs.map D.bl)] S = .ok (.bl (bs.all id)) S := by simp [bAll]
@[simp] theorem bAny_bls {bs : List Bool} {S : Store} : bAny [.lst (bs.map D.bl)] S = .ok (.bl (bs.any id)) S := by simp [bAny]
def bSorted (mk : List D → M D) (l : List D) (S : Store) : Res D := match l with
  | [x] => match (getQ x S).bind intsOf with
    | some ns => mk ((ns.mergeSort fun a b => decide (a ≤ b)).map D.int) S
    | none => .bad
  | _ => .bad
section
variable {X : Cx} {mk : List D → M D}
theorem cd_all (hc : X.calm = true) : CallD X (.builtin "all") bAll := ⟨_, cr_all hc, fun w xs ds W σ Q hw r hs => by
  unfold bAll at hs
  split at hs
  · rename_i x
    obtain ⟨v, rfl, rv⟩ := one_inv r
    split at hs
    · rename_i bs h
      obtain ⟨a, rfl, q⟩ := bls_of hw rv h
      exact ⟨a, bs, rfl, q, SatW.here hs hw rpb⟩
    · exact hs.elim
  · exact hs.elim⟩
theorem cd_any (hc : X.calm = true) : CallD X (.builtin "any") bAny := ⟨_, cr_any hc, fun w xs ds W σ Q hw r hs => by
  unfold bAny at hs
  split at hs
  · rename_i x
    obtain ⟨v, rfl, rv⟩ := one_inv r
    split at hs
    · rename_i bs h
      obtain ⟨a, rfl, q⟩ := bls_of hw rv h
      exact ⟨a, bs, rfl, q, SatW.here hs hw rpb⟩
    · exact hs.elim
  · exact hs.elim⟩
theorem rps_intsV {K : PySem.W.Frag} {r : List Addr} {F : Hp} : ∀ ns : List Int, Rps K r F (ns.map D.int) (ns.map V.int)
  | [] => rps_nil
  | n :: ns => rps_cons rpi (rps_intsV ns)
theorem sorted_uniq {ns ns' : List Int} (h1 : ns'.Perm ns) (h2 : ns'.Pairwise (· ≤ ·)) : ns' = ns.mergeSort fun a b => decide (a ≤ b) := by
  have p := List.mergeSort_perm ns fun a b => decide (a ≤ b)
  have s : (ns.mergeSort fun a b => decide (a ≤ b)).Pairwise (fun a b => decide (a ≤ b) = true) := List.pairwise_mergeSort (le := fun a b => decide (a ≤ b)) (fun a b c h1 h2 => by simp at *; omega) (fun a b => by simp; omega) ns
  exact List.Perm.eq_of_pairwise (le := (· ≤ ·)) (fun a b _ _ h1 h2 => Int.le_antisymm h1 h2) h2 (s.imp fun h => by simpa using h) (h1.trans p.symm)
theorem cd_sorted (m : Mk mk) : CallD X (.builtin "sorted") (bSorted mk) := ⟨_, cr_sortedI, fun w xs ds W σ Q hw r hs => by
  unfold bSorted at hs
  split at hs
  · rename_i x
    obtain ⟨v, rfl, rv⟩ := one_inv r
    split at hs
    · rename_i ns h
      obtain ⟨a, rfl, q⟩ := ints_of hw rv h
      refine ⟨a, ns, rfl, q, fun ns' p h1 h2 hp => ?_⟩
      rw [sorted_uniq h1 h2]
      exact m.go hw (rps_intsV _) hs p hp
    · exact hs.elim
  · exact hs.elim⟩
end
/-- as lc_map, over a list that stands in a cell -/
theorem lc_mapC {α : Type} {chk : Store → Prop} {g : D → Env → Option Env} {f : Env → M D} {e0 : Env} {S : Store} (hk : chk S) (emb ψ : α → D) : ∀ (items : List α) (acc : List D), (∀ a ∈ items, ∃ e1, g (emb a) e0 = some e1 ∧ f e1 S = .ok (ψ a) S) → acc.length + items.length ≤ 16000000 → lcL chk g cYes f e0 (items.map emb) acc S = .ok (acc ++ items.map ψ) S
  | [], acc, _, _ => by rw [List.map_nil, lcL, if_pos hk]; simp
  | a :: items, acc, h, hl => by
    obtain ⟨e1, h1, h2⟩ := h a (by simp)
    rw [List.length_cons] at hl
    rw [List.map_cons, lcL, if_pos hk]
    simp only [h1, cYes, h2]
    rw [if_pos (by omega), lc_mapC hk emb ψ items _ (fun x hx => h x (by simp [hx])) (by rw [List.length_append, List.length_singleton]; omega)]
    simp
theorem srcL_cell {n : Nat} {l : List D} {S : Store} (h : S[n]? = some (.lst l)) : srcL (.cell n) S = .ok ⟨l, fun S' => S'[n]? = some (.lst l)⟩ S := by
  unfold srcL
  simp only [h]
end
end Dv
/-! # Dv13: exceptions: raised, caught, kept as values -/
namespace Dv
open PySem PySem.Spec PyProof.Rows L2

/-! ### an object that wasn't tracked is tracked -/
section
variable {X : Cx} {pins : List (Addr × Obj)} {σ : L2.St} {H : Hp} {s : Shared}
theorem inv_adopt {a : Addr} {o : HO} (I : Inv X pins σ H s) (na : H a = none) (nL : a ≠ X.env.locals) (nC : ∀ x c, X.env.cells.lookup x = some c → c ≠ a) (nP : ∀ p ∈ X.pn ++ pins, p.1 ≠ a) (n0 : X.s_0.heap.get? a = none)
    (new : ObjOk X.prog X.w (upd H a o) s.heap a o) : Inv X pins σ (upd H a o) s := by
  have ne0 : ∀ b ob, X.s_0.heap.get? b = some ob → b ≠ a := fun b ob e z => by
    rw [z, n0] at e
    cases e
  refine ⟨I.ok, I.os, I.bare, ⟨I.base.keep, I.base.slot, fun b ob q n hx => ?_, I.base.there, fun b xs q => ?_, fun b ob u q => ?_, fun b ps q => ?_⟩, I.loc, I.cell, ?_, fun x c e => ?_, fun p hp => ?_, fun b u e => ?_, I.len⟩
  · rw [upd_ne (ne0 b ob q)]
    exact I.base.free b ob q n hx
  · have z := I.base.tups b xs q
    rw [upd_ne (ne_of_none z na)]
    exact z
  · have z := I.base.frzs b ob u q
    rw [upd_ne (ne_of_none z na)]
    exact z
  · obtain ⟨m, z⟩ := I.base.tbls b ps q
    exact ⟨m, by rw [upd_ne (ne_of_none z na)]; exact z⟩
  · rw [upd_ne (Ne.symm nL)]
    exact I.free
  · rw [upd_ne (nC x c e)]
    exact I.freeC x c e
  · obtain ⟨e, n, r⟩ := I.pin p hp
    exact ⟨e, by rw [upd_ne (nP p hp)]; exact n, r⟩
  · by_cases hb : b = a
    · subst hb
      rw [upd_same] at e
      cases e
      exact new
    · rw [upd_ne hb] at e
      exact (I.hok b u e).stay (fun c v _ q => q) (fun c q => by rw [upd_ne (ne_of_none q na)]; exact q) fun c xs q => by rw [upd_ne (ne_of_none q na)]; exact q
theorem exh_ok {P : Program} {w : World} {h : Heap} {a : Addr} {cls : Value} {d : Option Addr} {oe : Obj} {vs : Array Value} (e : h.get? a = some oe) (z : Zc cls d oe) (f : oe.data = .fields vs) : ObjOk P w H h a (ExH cls d a) :=
  ⟨⟨oe, vs, e, z, f⟩, ⟨oe, e⟩, fun _ _ ⟨o, v, q, r⟩ k => ⟨o, v, k o q, r⟩⟩
end
/-- as wAs; behind the suite the exception is tracked -/
def wKeep (K : PySem.W.Frag) (c : Value) (i : Nat) (ts : Addr → Value → Option Addr → TS) (Wout : WX) (D : Ends) : WX := fun cls d σ H =>
  ∃ b, PySem.W.exmOne K cls c = some b ∧ (b = true → ∀ a, H a = none → ts a cls d { nx := fun σ' H' => D.nx (σ'.set i none) (upd H' a (ExH cls d a)), rt := fun v H' => D.rt v (upd H' a (ExH cls d a)), bk := fun σ' H' => D.bk (σ'.set i none) (upd H' a (ExH cls d a)), ct := fun σ' H' => D.ct (σ'.set i none) (upd H' a (ExH cls d a)) } (σ.set i (some (.ref a))) H) ∧
    (b = false → Wout cls d σ H)
section
variable {X : Cx} {x n : Str} {c : Value} {i : Nat} {body suite : List Stmt} {b₀ : Stmt} {np pos pos' : Pos} {tb : WX → TS} {ts : Addr → Value → Option Addr → TS} {Wout : WX}
theorem ps_try_keep (hs : X.stack = X.env :: X.outer) (hf : X.env.frame = some X.env.locals) (hex : X.ex = []) (hN : X.N.Nodup) (hi : X.N[i]? = some n) (hln : X.env.kindOf n = some .local) (hc : Names X x c) (tk : Takes X Wout)
    (hb : ∀ (W : WX) (pn : List (Addr × Obj)) (xe : Value → Shared → Prop), Takes (X.tr pn xe) W → PassesOwn (model X.prog X.w) X.A X.env xe → PSs (X.tr pn xe) body (tb W))
    (hsu : ∀ (a : Addr) (oe : Obj) (cls : Value) (d : Option Addr) (pn : List (Addr × Obj)), Zc cls d oe → (∃ vs, oe.data = .fields vs) → PSs (X.suite a ((a, oe) :: pn)) (b₀ :: suite) (ts a cls d)) :
    PS X (.Try body [.ExceptHandler (some (.Name x np)) (some n) (b₀ :: suite) pos'] [] [] pos) (fun D σ H => tb (wKeep X.K c i ts Wout D) D σ H) := by
  refine ⟨fun pins s σ H D I h => ?_⟩
  have ok := I.ok
  have hfr : X.A.frames = some (X.env :: X.outer) := by rw [ok.frames, hs]
  have hloc : Loc X.env.scope n := .inl hln
  refine wpAny_Try_except ?_
  refine wpAny_mono ((hb (wKeep X.K c i ts Wout D) (X.pn ++ pins) (fun e s₁ => wpAny (model X.prog X.w) X.A (noteFrame e X.env) (fun _ s₂ => wpAny (model X.prog X.w) X.A (setFlight e none) (fun _ s₃ =>
    wpAny (model X.prog X.w) X.A (handleBy e X.env [.ExceptHandler (some (.Name x np)) (some n) (b₀ :: suite) pos']) (SP X pins D) X.xe s₃) X.xe s₂) X.xe s₁) (fun u s' xx => ?_) PassesOwn.looking).run [] s σ H D (I.toTry _) h) (fun f s1 hsp => ?_) (fun e s1 he => he)
  · -- the catch
    obtain ⟨a, B, sI, pins', σ', H', cls, d, rfl, J', nb, up, sky, na, os, ag, b, hb1, hyes, hno⟩ := xx
    have J : Inv X pins σ' H' sI := J'.ofTry ok
    have sky' : Sky B (X.env :: X.outer) a (Zc cls d) X.env.locals s'.heap := by rw [← hs]; exact sky
    show wpAny _ X.A (noteFrame (.ref a) X.env) _ _ _
    refine Sky.land Zc.steady hfr hf sky' fun h3 fl3 up3 => ?_
    have J3 : Inv X pins σ' H' { s' with heap := h3 } := J.landed nb fl3.1 (up.trans up3) os ag
    obtain ⟨oe3, vs3, he3, hz3, hd3⟩ := fl3.there
    have notFr : ∀ {h : Heap} {o : Obj} {vs : Array Value}, h.FunFrames B (X.env :: X.outer) → h.get? a = some o → o.data = .fields vs → a ∉ frs (X.env :: X.outer) := fun {h o vs} ff e dd hm => by
      obtain ⟨_, o', e', hnf⟩ := ff.mem hm
      rw [e] at e'; cases e'
      exact hnf _ dd
    have nfr := notFr fl3.2.2.1 he3 hd3
    have nL : a ≠ X.env.locals := fun z => nfr (List.mem_filterMap.mpr ⟨X.env, List.mem_cons_self, by rw [hf, z]⟩)
    have nF : a ∉ X.fs := fun hm => by
      obtain ⟨e, he, q⟩ := List.mem_filterMap.mp hm
      exact nfr (List.mem_filterMap.mpr ⟨e, List.mem_cons_of_mem _ he, q⟩)
    -- what was there is not the exception
    have old : ∀ b ob, sI.heap.get? b = some ob → b ≠ a := fun b ob e z => by
      have hbf : b ∉ frs X.stack := fun hm => by
        rw [hs] at hm
        exact nfr (by rw [← z]; exact hm)
      have q := nb b ob e hbf
      rw [z, fl3.2.1] at q
      cases q
    have n0 : X.s_0.heap.get? a = none := by
      cases e : X.s_0.heap.get? a with
      | none => rfl
      | some ob =>
        obtain ⟨o', q⟩ := J.base.there a ob e (by rw [hex]; exact fun z => nomatch z)
        exact (old a o' q rfl).elim
    have nC : ∀ x c, X.env.cells.lookup x = some c → c ≠ a := fun x c e => by
      obtain ⟨v, ob, q, _⟩ := J.cell x c e
      exact old c ob q
    have nP : ∀ p ∈ X.pn ++ pins, p.1 ≠ a := fun p hp => old p.1 p.2 (J.pin p hp).1
    have S3 := J3.suite he3 hd3 na nL nF
    refine wpAny_handleBy_cons (codeAny_handlers_test ?_) (by intro q; cases q)
    have LT : PySem.W.Looks (model X.prog X.w) h3 (typeOf (.ref a)) cls := fun A Q E s k q => wpAny_typeOf_ref (k _ _ he3) (by rw [hz3.1]; exact q)
    have LM := PySem.W.exm_one (M := model X.prog X.w) (J3.kIn) LT hb1
    have test : ∀ {Q : Value → Shared → Prop} {E : Value → Shared → Prop}, Q c { s' with heap := h3 } → wpAny (model X.prog X.w) (X.A.mark (some (.ref a))) (eval (.Name x np) X.env) Q E { s' with heap := h3 } := fun {Q E} q => by
      obtain ⟨hg, hdbg, hm | ⟨hm, hv, hnn⟩⟩ := hc
      · exact ld_glob (X := X.suite a ((a, oe3) :: (X.pn ++ pins))) S3 hg hm q hdbg
      · exact ld_blt (X := X.suite a ((a, oe3) :: (X.pn ++ pins))) S3 hg hm hv q hnn hdbg
    refine test (LM.here ?_)
    cases b with
    | true =>
      refine codeAny_handlers_suite_as ?_
      refine HandSPX.lands_againZ fl3 fun h4 fl4 up4 => ?_
      have J4 : Inv X pins σ' H' { s' with heap := h4 } := J.landed nb fl4.1 ((up.trans up3).trans up4) os ag
      obtain ⟨oe4, vs4, he4, hz4, hd4⟩ := fl4.there
      have S4 := J4.suite he4 hd4 na nL nF
      refine store_ok (X := X.suite a ((a, oe4) :: (X.pn ++ pins))) (v := .ref a) S4 hN hi hloc rfl (fun s5 S5 => ?_) (.inr hln)
      refine wpAny_mono ((hsu a oe4 cls d (X.pn ++ pins) hz4 ⟨_, hd4⟩).run [] s5 _ H' _ S5 (hyes rfl a na)) (fun f s6 hsp => ?_) (fun _ _ z => False.elim z)
      have end_ : ∀ {σ6 : L2.St} {H6 : Hp} {Q : Shared → Prop}, Inv (X.suite a ((a, oe4) :: (X.pn ++ pins))) [] σ6 H6 s6 → (∀ s7, Inv X pins (σ6.set i none) (upd H6 a (ExH cls d a)) s7 → Q s7) →
          wpAny (model X.prog X.w) X.A (do bindName X.env n .none; unbindBehindTheSuite X.env n pos') (fun _ s7 => Q s7) X.xe s6 := fun {σ6 H6 Q} S6 hq => by
        obtain ⟨e6, n6, _⟩ := S6.pin (a, oe4) (List.mem_append_left _ List.mem_cons_self)
        exact gone_ok (inv_adopt (S6.unsuite ok) n6 nL nC nP n0 (exh_ok e6 hz4 hd4)) hN hi hln hq
      cases f with
      | next =>
        obtain ⟨σ6, H6, S6, q6⟩ := hsp
        exact end_ S6 fun s7 J7 => ⟨_, _, J7, q6⟩
      | brk =>
        obtain ⟨σ6, H6, S6, q6⟩ := hsp
        exact end_ S6 fun s7 J7 => ⟨_, _, J7, q6⟩
      | cont =>
        obtain ⟨σ6, H6, S6, q6⟩ := hsp
        exact end_ S6 fun s7 J7 => ⟨_, _, J7, q6⟩
      | ret u =>
        obtain ⟨v6, σ6, H6, S6, r6, q6⟩ := hsp
        exact end_ S6 fun s7 J7 => ⟨_, _, _, J7, r6, q6⟩
    | false =>
      show wpAny _ X.A (handleBy (.ref a) X.env []) _ _ _
      refine wpAny_handleBy_nil ?_
      obtain ⟨k1, k2, k3, oe, vs, T, oT, ts', he, hz, hd, h1, hr⟩ := id fl3
      unfold PySem.passOn
      refine wpAny_bind (wpAny_field he hd h1 ?_)
      rw [if_neg (show ¬ ((Value.ref T == Value.none) = true) from by simp)]
      have fin : wpAny (model X.prog X.w) X.A (setFlight (.ref a) X.env.frame) (fun _ s4 => wpAny (model X.prog X.w) X.A (throw (.ref a) : Sem Flow) (SP X pins D) X.xe s4) X.xe { s' with heap := h3 } := by
        rw [hf]
        refine HandSPX.setFlight_upZ fl3 fun h4 hh4 up4 => wpAny_throw (tk _ _ ?_)
        exact ⟨a, B, sI, pins, σ', H', cls, d, rfl, J, nb, (up.trans up3).trans up4, .inr (.inr (by rw [hs]; exact hh4)), na, os, ag, hno rfl⟩
      first
        | exact wpAny_bind (wpAny_pure (wpAny_bind fin))
        | exact wpAny_bind fin
  · cases f with
    | next =>
      obtain ⟨σ', H', J', q⟩ := hsp
      exact wpAny_execs_nil ⟨σ', H', J'.ofTry ok, q⟩
    | brk =>
      obtain ⟨σ', H', J', q⟩ := hsp
      exact ⟨σ', H', J'.ofTry ok, q⟩
    | cont =>
      obtain ⟨σ', H', J', q⟩ := hsp
      exact ⟨σ', H', J'.ofTry ok, q⟩
    | ret u =>
      obtain ⟨v, σ', H', J', r, q⟩ := hsp
      exact ⟨v, σ', H', J'.ofTry ok, r, q⟩
end

/-! ### the classes -/
abbrev veMro : List Value := [.type "ValueError", .type "Exception", .type "BaseException", .type "object"]
/-- a class of the program, as a name of its own -/
structure Cl (K : PySem.W.Frag) (mg : Str → Option Value) (c : Str) (C : Addr) : Prop where
  n : PySem.W.nsIn K mainGlobals c = some (some (.ref C))
  g : mg c = some (.ref C)
  i : PySem.W.isClsIn K C = true
  t : PySem.W.typeIn K (.ref C) = some (.type "type")
/-- one that is raised -/
structure Rc (K : PySem.W.Frag) (mg : Str → Option Value) (c : Str) (C : Addr) : Prop extends Cl K mg c C where
  k : PySem.W.keepIn K (.ref C) = true
  b : PySem.W.subIn K (.ref C) (.type "BaseException") = some true
  s : PySem.W.subIn K (.ref C) (.ref C) = some true
  e : ExcC K C
/-- the answers about subclasses -/
def SubOk (K : PySem.W.Frag) (p : Str × Str × Bool) : Prop := ∀ C D, ClsAt K p.1 C → ClsAt K p.2.1 D → PySem.W.kitOne K (.ref C) (.ref D) = some p.2.2
def subT (L : List (Str × Str × Bool)) (c d : Str) : Option Bool := (L.find? fun p => p.1 == c && p.2.1 == d).map (·.2.2)
theorem subT_mem {L : List (Str × Str × Bool)} {c d : Str} {b : Bool} (h : subT L c d = some b) : (c, d, b) ∈ L := by
  unfold subT at h
  cases q : L.find? fun p => p.1 == c && p.2.1 == d with
  | none => rw [q] at h; cases h
  | some p =>
    rw [q] at h
    have e := Option.some.inj h
    have m := List.mem_of_find?_eq_some q
    have z := List.find?_some q
    rw [Bool.and_eq_true] at z
    obtain ⟨p1, p2, p3⟩ := p
    have e1 : p1 = c := eq_of_beq z.1
    have e2 : p2 = d := eq_of_beq z.2
    have e3 : p3 = b := e
    subst e1 e2 e3
    exact m
theorem cls_some {K : PySem.W.Frag} {C : Addr} (h : PySem.W.isClsIn K C = true) : (PySem.W.clsIn K C).isSome = true := h
theorem sub_ok {K : PySem.W.Frag} {mg : Str → Option Value} {c d : Str} {C D : Addr} {b : Bool} (h1 : Rc K mg c C) (h2 : Cl K mg d D) (h : PySem.W.subIn K (.ref C) (.ref D) = some b) : SubOk K (c, d, b) := fun C' D' e1 e2 => by
  have e3 : C = C' := ClsAt.uniq h1.n e1
  have e4 : D = D' := ClsAt.uniq h2.n e2
  subst e3 e4
  unfold PySem.W.kitOne
  by_cases q : (Value.ref C == Value.ref D) = true
  · rw [if_pos q]
    have e : C = D := Value.ref.inj (beq_iff_eq.mp q)
    subst e
    rw [h1.s] at h
    exact h
  · rw [if_neg q]
    have z : ((PySem.W.clsIn K D).isSome && PySem.W.typeIn K (.ref D) == some (.type "type")) = true := by rw [cls_some h2.i, h2.t] <;> rfl
    show (if ((PySem.W.clsIn K D).isSome && PySem.W.typeIn K (.ref D) == some (.type "type")) = true then PySem.W.subIn K (.ref C) (.ref D) else none) = some b
    rw [if_pos z]
    exact h
/-- except D -/
def CatchOk (K : PySem.W.Frag) (p : Str × Str × Bool) : Prop := ∀ C D, ClsAt K p.1 C → ClsAt K p.2.1 D → PySem.W.exmOne K (.ref C) (.ref D) = some p.2.2
theorem catch_ok {K : PySem.W.Frag} {mg : Str → Option Value} {c d : Str} {C D : Addr} {b : Bool} (h1 : Rc K mg c C) (h2 : Cl K mg d D) (h : PySem.W.subIn K (.ref C) (.ref D) = some b) (hb : PySem.W.subIn K (.ref D) (.type "BaseException") = some true) : CatchOk K (c, d, b) := fun C' D' e1 e2 => by
  have e3 : C = C' := ClsAt.uniq h1.n e1
  have e4 : D = D' := ClsAt.uniq h2.n e2
  subst e3 e4
  have z1 : (PySem.W.subIn K (.ref D) (.type "BaseException") == some true) = true := by rw [hb] <;> rfl
  have z : ((PySem.W.clsIn K D).isSome && PySem.W.typeIn K (.ref D) == some (.type "type")) = true := by rw [cls_some h2.i, h2.t] <;> rfl
  show (if (PySem.W.subIn K (.ref D) (.type "BaseException") == some true) = true then (if ((PySem.W.clsIn K D).isSome && PySem.W.typeIn K (.ref D) == some (.type "type")) = true then PySem.W.subIn K (.ref C) (.ref D) else none) else none) = some b
  rw [if_pos z1, if_pos z]
  exact h

theorem all_c {α : Type} {P : α → Prop} {a : α} {l : List α} (h : P a) (t : ∀ x ∈ l, P x) : ∀ x ∈ a :: l, P x := List.forall_mem_cons.mpr ⟨h, t⟩
theorem all_n {α : Type} {P : α → Prop} : ∀ x ∈ ([] : List α), P x := fun x h => nomatch h
theorem ec_of {K : PySem.W.Frag} {mg : Str → Option Value} {c : Str} {C : Addr} (h1 : Rc K mg c C) : ∀ C', ClsAt K c C' → ExcC K C' := fun C' e1 => by
  have e3 : C = C' := ClsAt.uniq h1.n e1
  subst e3
  exact h1.e
/-! ### raise -/
def yRaise (c : Str) : Env → Store → Out := fun e S => .exc ⟨c, none⟩ e S
section
variable {X : Cx} {W : WX} {x m : Str} {j : Nat} {p p2 pos pos2 : Pos} {C : Addr}
theorem psd_raise (hc : X.calm = true) (tk : Takes X W) (R : Rc X.K X.mg x C) (q : PySem.W.excIn X.K C veMro "ValueError.__new__" = true) (hg : Gl X x := by rfl) (hdb : (x == ("__debug__" : Str)) = false := by decide) :
    PSD X W (.Raise (some (.Call (.Name x p) [.Constant (.str m) j p2] [] pos)) none pos2) (yRaise x) := by
  refine weakS (ps_raise hc tk (pmk_own PySem.F.excBase_ValueError q R.g R.k (raises_own R.b R.t) hg hdb)) fun D σ H ⟨w, env, eH, hw, he, hs⟩ => ?_
  subst eH
  exact hs w σ (.ref C) none (Go.refl hw) rfl he ⟨C, R.n, rfl, rfl⟩
end

/-! ### try .. except D as e: y = e -/
def yTryKeep (L : List (Str × Str × Bool)) (d : Str) (i j : Nat) (g : Env → Store → Out) : Env → Store → Out := fun e S => match g e S with
  | .exc x e' S' => match subT L x.cls d with
    | some true => match e'[i]? with
      | some _ => .nx ((e'.set j (some (.exn x.cls x.val))).set i none) S'
      | none => .bad
    | some false => .exc x e' S'
    | none => .bad
  | o => o
section
variable {X : Cx} {W : WX} {x n y : Str} {i j : Nat} {body : List Stmt} {np pos pos' py pe ps : Pos} {g : Env → Store → Out} {L : List (Str × Str × Bool)} {Dc : Addr}
theorem psd_tryKeep (hs : X.stack = X.env :: X.outer) (hf : X.env.frame = some X.env.locals) (hex : X.ex = []) (hN : X.N.Nodup) (hi : X.N[i]? = some n) (hj : X.N[j]? = some y) (hij : i ≠ j) (hln : X.env.kindOf n = some .local) (hly : X.env.scope.names.lookup y = some .local) (tk : Takes X W)
    (hg : Gl X x) (hd : Cl X.K X.mg x Dc) (hL : ∀ p ∈ L, CatchOk X.K p)
    (hb : ∀ (W : WX) (pn : List (Addr × Obj)) (xe : Value → Shared → Prop), Takes (X.tr pn xe) W → PassesOwn (model X.prog X.w) X.A X.env xe → PSsD (X.tr pn xe) W body g)
    (hsw : swapsWith (.Name n pe) (some (.Name y py)) ps.line X.env = pure false := by rfl) (hdb : (x == ("__debug__" : Str)) = false := by decide) (hn1 : (n == ("__debug__" : Str)) = false := by decide) (hn2 : (n == ("__classdict__" : Str)) = false := by decide) :
    PSD X W (.Try body [.ExceptHandler (some (.Name x np)) (some n) [.Assign [.Name y py] (.Name n pe) ps] pos'] [] [] pos) (yTryKeep L x i j g) := by
  refine weakS (ps_try_keep (i := i) (c := .ref Dc) (tb := fun W => sD (kt X) W g) (ts := fun _ _ _ => tAsg (tVar i) (gName j)) hs hf hex hN hi hln ⟨hg, hdb, .inl hd.g⟩ tk (fun W pn xe tk' pas => hb W pn xe tk' pas)
    (fun a oe cls d pn hz hf' => pss_one (ps_set (i := j) hN hj (.inl hly) (pe_var (i := i) hi (.inl hln) hn1 hn2) hsw (.inr hly)))) fun D σ H ⟨w, env, eH, hw, he, hs⟩ => ⟨w, env, eH, hw, he, ?_⟩
  unfold yTryKeep at hs
  cases o : g env w.S with
  | nx e S => rw [o] at hs; exact hs
  | rt e S => rw [o] at hs; exact hs
  | bk e S => rw [o] at hs; exact hs
  | ct e S => rw [o] at hs; exact hs
  | bad => rw [o] at hs; exact hs
  | exc z e' S' =>
    rw [o] at hs
    intro w' σ' cls dd g' eS he' hx
    obtain ⟨C, c1, rfl, c3⟩ := hx
    cases q : subT L z.cls x with
    | none => simp only [q] at hs; exact hs.elim
    | some b =>
      refine ⟨b, hL _ (subT_mem q) C Dc c1 hd.n, fun hb a na => ?_, fun hb => ?_⟩
      · subst hb
        simp only [q] at hs
        cases qi : e'[i]? with
        | none => simp only [qi] at hs; exact hs.elim
        | some oo =>
          simp only [qi] at hs
          have hlt : i < σ'.length := by
            rw [← he'.1]
            exact (List.getElem?_eq_some_iff.mp qi).1
          refine ⟨.ref a, List.getElem?_set_self hlt, ?_⟩
          have ga := Go.alloc (o := ExH (.ref C) dd a) g'.wd na
          have r2 : Rp X.K w'.r (upd w'.F a (ExH (.ref C) dd a)) (.exn z.cls z.val) (.ref a) := by
            unfold Rp
            exact ⟨a, C, dd, rfl, c1, upd_same, c3.mono ga.F⟩
          have he2 := (((he'.go ga).set (i := j) r2).unset (i := i))
          have es : ((σ'.set i (some (V.ref a))).set j (some (V.ref a))).set i none = (σ'.set j (some (V.ref a))).set i none := by
            apply List.ext_getElem?
            intro k
            simp only [List.getElem?_set, List.length_set]
            by_cases hk : i = k
            · simp [hk]
            · simp [hk]
          show D.nx (((σ'.set i (some (V.ref a))).set j (some (V.ref a))).set i none) _
          rw [es]
          exact hs ⟨w'.r, upd w'.F a (ExH (.ref C) dd a), w'.S, upd w'.H a (ExH (.ref C) dd a)⟩ _ (g'.trans ga) eS he2
      · subst hb
        simp only [q] at hs
        exact hs w' σ' _ dd g' eS he' ⟨C, c1, rfl, c3⟩
end

/-! ### isinstance of what was caught; its field -/
def VeOk (K : PySem.W.Frag) (c : Str) : Prop := ∀ C, ClsAt K c C → PySem.W.kitOne K (.ref C) (.type "ValueError") = some true
theorem ve_ok {K : PySem.W.Frag} {mg : Str → Option Value} {c : Str} {C : Addr} (h1 : Rc K mg c C) (h : PySem.W.subIn K (.ref C) (.type "ValueError") = some true) : VeOk K c := fun C' e1 => by
  have e3 : C = C' := ClsAt.uniq h1.n e1
  subst e3
  have q : ¬ (Value.ref C == Value.type "ValueError") = true := by
    intro z
    have e := beq_iff_eq.mp z
    cases e
  unfold PySem.W.kitOne
  rw [if_neg q]
  show (if PySem.W.kitMeta "ValueError" = true then PySem.W.subIn K (.ref C) (.type "ValueError") else none) = some true
  rw [if_pos (by decide +kernel)]
  exact h
/-- what is asked of the classes that may be caught -/
structure XcOk (K : PySem.W.Frag) (L : List (Str × Str × Bool)) (R : List Str) : Prop where
  sub : ∀ p ∈ L, SubOk K p
  ve : ∀ c ∈ R, VeOk K c
  ec : ∀ c ∈ R, ∀ C, ClsAt K c C → ExcC K C
def anyE (L : List (Str × Str × Bool)) (c : Str) : List D → Option Bool
  | [] => some false
  | .cls d :: l => match subT L c d, anyE L c l with
    | some a, some b => some (a || b)
    | _, _ => none
  | _ => none
def bIsE (L : List (Str × Str × Bool)) (R : List Str) (l : List D) (S : Store) : Res D := match l with
  | [.exn c _, .tup l] => if c ∈ R then match anyE L c l with
      | some b => .ok (.bl b) S
      | none => .bad
    else .bad
  | [.exn c _, .cls d] => if c ∈ R then match subT L c d with
      | some b => .ok (.bl b) S
      | none => .bad
    else .bad
  | [.exn c _, .raw v] => if c ∈ R ∧ v = .ty "ValueError" then .ok (.bl true) S else .bad
  | _ => .bad
def rIsX (K : PySem.W.Frag) : List V → Hp → VK → Prop := fun xs H Q => ∃ (a C : Addr) (d : Option Addr) (c : V) (cv : Value) (b : Bool), xs = [.ref a, c] ∧ (∀ u, RelV c u → u = cv) ∧ H a = some (ExH (.ref C) d a) ∧ (∀ b, d = some b → ∃ o, H b = some o) ∧ ExcC K C ∧ PySem.W.kitOne K (.ref C) cv = some b ∧ Q (.bl b) H
theorem exh_at {P : Program} {w : World} {H : Hp} {h : Heap} {a C : Addr} {d : Option Addr} (hok : HOk P w H h) (e : H a = some (ExH (.ref C) d a)) (hd : ∀ b, d = some b → ∃ o, H b = some o) : ∃ oe od, PySem.W.InstAt h a oe C od ∧ ∀ b, d = some b → ∃ o, od = some o ∧ h.get? b = some o := by
  have z : ObjOk P w H h a (ExH (.ref C) d a) := hok a _ e
  obtain ⟨⟨oe, vs, h1, h2, h3⟩, _, _⟩ := z
  obtain ⟨oc, odd, oda, osl⟩ := oe
  obtain ⟨h4, h5⟩ := h2
  dsimp only at h3 h4 h5
  subst h3 h4 h5
  cases odd with
  | none => exact ⟨_, none, ⟨h1, rfl, rfl, trivial⟩, fun b q => by cases q⟩
  | some b =>
    obtain ⟨o, q⟩ := hd b rfl
    obtain ⟨ob, eb⟩ := objOk_get (hok b o q)
    exact ⟨_, some ob, ⟨h1, rfl, rfl, eb⟩, fun b' q' => by cases q'; exact ⟨ob, rfl, eb⟩⟩
section
variable {X : Cx} {W : WX}
theorem call_isX : CallR X (.builtin "isinstance") (rIsX X.K) := by
  intro pins s σ H xs us Q I r h
  obtain ⟨a, C, d, c, cv, b, rfl, hcv, ha, hd, E, e, q⟩ := h
  obtain ⟨u1, u2, rfl, r1, r2⟩ := vals2 r
  cases (show u1 = Value.ref a from r1)
  have ec := hcv _ r2
  subst ec
  obtain ⟨oe, od, J, _⟩ := exh_at I.hok ha hd
  have hcl : (PySem.W.clsIn X.K C).isSome = true := by obtain ⟨cd, hc, _⟩ := PySem.W.any_some E.hd; rw [hc]; rfl
  exact PySem.W.kia_one (PySem.W.kitx_exc hcl E.hg E.hk E.hs E.ha E.hn E.ht E.hm) I.kIn J e (fun z => nomatch z) fun tk => ⟨.bl b, H, I.tok tk, rfl, q⟩
def rIsXT (K : PySem.W.Frag) : List V → Hp → VK → Prop := fun xs H Q => ∃ (a C : Addr) (d : Option Addr) (tp : Addr) (vs : List V) (us : List Value) (b : Bool), xs = [.ref a, .ref tp] ∧ Rd H tp (.tup vs) ∧ (∀ ws, Vals vs ws → ws = us) ∧ H a = some (ExH (.ref C) d a) ∧ (∀ b, d = some b → ∃ o, H b = some o) ∧ ExcC K C ∧ PySem.W.kitAny K (.ref C) us = some b ∧ Q (.bl b) H
theorem call_isXT : CallR X (.builtin "isinstance") (rIsXT X.K) := by
  intro pins s σ H xs us Q I r h
  obtain ⟨a, C, d, tp, vs, ws, b, rfl, hT, hcv, ha, hd, E, e, q⟩ := h
  obtain ⟨u1, u2, rfl, r1, r2⟩ := vals2 r
  cases (show u1 = Value.ref a from r1)
  cases (show u2 = Value.ref tp from r2)
  obtain ⟨oe, od, J, _⟩ := exh_at I.hok ha hd
  have hcl : (PySem.W.clsIn X.K C).isSome = true := by obtain ⟨cd, hc, _⟩ := PySem.W.any_some E.hd; rw [hc]; rfl
  obtain ⟨_, its, rv, o, h1, h2, n, h3⟩ := (show ObjOk X.prog X.w H s.heap tp (.tup vs) from hT.ok I.hok)
  have e3 := hcv _ rv
  subst e3
  obtain ⟨oc, odd, dt, sl⟩ := o
  simp only at h2 h3
  subst h2 h3
  exact PySem.W.kia_tup (PySem.W.kitx_exc hcl E.hg E.hk E.hs E.ha E.hn E.ht E.hm) I.kIn J h1 e (fun z => nomatch z) fun tk => ⟨.bl b, H, I.tok tk, rfl, q⟩
theorem any_ok {K : PySem.W.Frag} {L : List (Str × Str × Bool)} {r : List Addr} {F : Hp} {c : Str} {C : Addr} (hx : ∀ p ∈ L, SubOk K p) (hC : ClsAt K c C) : ∀ {l : List D} {vs : List V} {b : Bool}, Rps K r F l vs → anyE L c l = some b → ∃ us : List Value, (∀ ws, Vals vs ws → ws = us) ∧ PySem.W.kitAny K (.ref C) us = some b
  | [], vs, b, h, e => by
    rw [h.nil_inv]
    cases e
    exact ⟨[], fun ws q => by cases q; rfl, rfl⟩
  | .cls d :: l, vs, b, h, e => by
    obtain ⟨v, t, rfl, h1, h2⟩ := h.cons_inv
    unfold Rp at h1
    obtain ⟨D, hD, rfl⟩ := h1
    have us_of : ∀ {us : List Value}, (∀ ws, Vals t ws → ws = us) → ∀ ws, Vals (V.ref D :: t) ws → ws = Value.ref D :: us := fun {us} hu ws q => by
      cases q with
      | cons q1 q2 =>
        rw [hu _ q2, show _ = Value.ref D from q1]
    unfold anyE at e
    cases q : subT L c d with
    | none => rw [q] at e; cases e
    | some k =>
      cases q2 : anyE L c l with
      | none => rw [q, q2] at e; cases e
      | some k2 =>
        rw [q, q2] at e
        cases e
        have hk := hx _ (subT_mem q) C D hC hD
        obtain ⟨us, h3, h4⟩ := any_ok hx hC h2 q2
        refine ⟨_, us_of h3, ?_⟩
        unfold PySem.W.kitAny
        rw [hk]
        cases k with
        | true => rfl
        | false => exact h4
  | .non :: _, _, _, _, e => by cases e
  | .bl _ :: _, _, _, _, e => by cases e
  | .int _ :: _, _, _, _, e => by cases e
  | .str _ :: _, _, _, _, e => by cases e
  | .tup _ :: _, _, _, _, e => by cases e
  | .lst _ :: _, _, _, _, e => by cases e
  | .scr _ :: _, _, _, _, e => by cases e
  | .cell _ :: _, _, _, _, e => by cases e
  | .raw _ :: _, _, _, _, e => by cases e
  | .exn _ _ :: _, _, _, _, e => by cases e
theorem fld_some {F H : Hp} (s : Same F H) {d : Option Addr} {f : Option (Str × Int)} (h : FldOk F d f) : ∀ b, d = some b → ∃ o, H b = some o := fun b e => by
  cases f with
  | none =>
    have z : d = none := h
    rw [z] at e
    cases e
  | some p =>
    obtain ⟨b', e', q⟩ := h
    rw [e'] at e
    cases e
    exact ⟨_, s _ _ q⟩
theorem cd_isE {L : List (Str × Str × Bool)} {R : List Str} (hx : XcOk X.K L R) : CallD X (.builtin "isinstance") (bIsE L R) := ⟨_, call_isX.or call_isXT, fun w xs ds W σ Q hw r hs => by
  unfold bIsE at hs
  split at hs
  · rename_i c f l
    obtain ⟨v, u, rfl, rv, ru⟩ := two_inv r
    unfold Rp at rv ru
    obtain ⟨a, C, dd, rfl, hC, hF, hf⟩ := rv
    obtain ⟨tp, vs, rfl, hT, hvs⟩ := ru
    obtain ⟨hR, hs⟩ := satIf hs
    cases q : anyE L c l with
    | none => simp only [q] at hs; exact hs.elim
    | some b =>
      simp only [q] at hs
      obtain ⟨us, h1, h2⟩ := any_ok hx.sub hC hvs q
      exact .inr ⟨a, C, dd, tp, vs, us, b, rfl, rd_same hw.same hT, h1, hw.same _ _ hF, fld_some hw.same hf, hx.ec c hR C hC, h2, SatW.here hs hw rpb⟩
  · rename_i c f d
    obtain ⟨v, u, rfl, rv, ru⟩ := two_inv r
    unfold Rp at rv ru
    obtain ⟨a, C, dd, rfl, hC, hF, hf⟩ := rv
    obtain ⟨D, hD, rfl⟩ := ru
    obtain ⟨hR, hs⟩ := satIf hs
    cases q : subT L c d with
    | none => simp only [q] at hs; exact hs.elim
    | some b =>
      simp only [q] at hs
      exact .inl ⟨a, C, dd, _, .ref D, b, rfl, fun u e => e, hw.same _ _ hF, fld_some hw.same hf, hx.ec c hR C hC, hx.sub _ (subT_mem q) C D hC hD, SatW.here hs hw rpb⟩
  · rename_i c f v0
    obtain ⟨v, u, rfl, rv, ru⟩ := two_inv r
    unfold Rp at rv
    obtain ⟨a, C, dd, rfl, hC, hF, hf⟩ := rv
    cases rp_raw ru
    obtain ⟨⟨hR, he⟩, hs2⟩ := satIf hs
    rw [he]
    exact .inl ⟨a, C, dd, _, .type "ValueError", true, rfl, fun u e => e, hw.same _ _ hF, fld_some hw.same hf, hx.ec c hR C hC, hx.ve c hR C hC, SatW.here hs2 hw rpb⟩
  · exact hs.elim⟩
theorem pd_cls {x : Str} {C : Addr} {pos : Pos} (R : Cl X.K X.mg x C) (hg : Gl X x := by rfl) (hd : (x == ("__debug__" : Str)) = false := by decide) : PD X W (.Name x pos) (xC (.cls x)) := by
  refine weakE (pe_glob (v := V.ref C) hg R.g rfl hd) fun σ H Q ⟨w, env, eH, hw, he, hs⟩ => ?_
  subst eH
  exact SatW.here (d := D.cls x) (v := V.ref C) hs hw (by unfold RD Rp; exact ⟨C, R.n, rfl⟩)
/-- e.f -/
def xFldX (f : Str) (g : Env → M D) : Env → M D := fun e S => (g e S).bind fun d S1 => match d with
  | .exn _ (some (f', i)) => if f' = f then .ok (.int i) S1 else .bad
  | _ => .bad
theorem units65 {k : Nat} {A : Around} (r : Room k A) : A.units + 65 < cLine := by have := r.un; omega
/-! ### list.index, in: data of any depth -/
def mIndexD (x : D) (a : List D) (S : Store) : Res D := match a with
  | [k] => match toP S 60 k, toP S 60 x with
    | some d, some (.list ds) => match ds.findIdx? fun y => PyData.eqv y d with
      | some j => .ok (.int (j : Nat)) S
      | none => .bad
    | _, _ => .bad
  | _ => .bad
theorem dp_ref {K : PySem.W.Frag} {H : Hp} {v : V} {ds : List PyData} (h : Dp K H v (.list ds)) : ∃ a, v = .ref a := by
  cases h with
  | lst _ _ => exact ⟨_, rfl⟩
theorem md_indexD (hu : X.A.units + 65 < cLine) : MtD X "list.index" mIndexD := ⟨_, mt_indexD hu, fun w x xs d ds W σ Q hw r1 r2 hs => by
  unfold mIndexD at hs
  split at hs
  · rename_i k
    obtain ⟨v0, rfl, rv0⟩ := one_inv r2
    split at hs
    · rename_i p ps h1 h2
      have dp := toP_dp hw 60 d x _ h2 r1
      obtain ⟨a, rfl⟩ := dp_ref dp
      cases q : ps.findIdx? fun y => PyData.eqv y p with
      | none => simp only [q] at hs; exact hs.elim
      | some j =>
        simp only [q] at hs
        obtain ⟨hj, hz, hno⟩ := List.findIdx?_eq_some_iff_getElem.mp q
        refine ⟨a, v0, p, ps, j, ps[j], rfl, rfl, dp, toP_dp hw 60 k v0 p h1 rv0, shaped_of h2, shaped_of h1, List.getElem?_eq_getElem hj, hz, fun m z' hm e => ?_, SatW.here hs hw rpi⟩
        have := hno m hm
        rw [List.getElem?_eq_some_iff] at e
        obtain ⟨_, rfl⟩ := e
        simpa using this
    · exact hs.elim
  · exact hs.elim⟩
def dInD (neg : Bool) (x y : D) (S : Store) : Res D := match toP S 60 x, toP S 60 y with
  | some d, some (.list ds) => .ok (.bl (if neg then !ds.any (fun z => PyData.eqv z d) else ds.any fun z => PyData.eqv z d)) S
  | _, _ => .bad
theorem od_inD (hu : X.A.units + 65 < cLine) : OpD X (compareOp .In) (dInD false) := ⟨_, op_inD hu, fun w x y d e W σ Q hw r1 r2 hs => by
  unfold dInD at hs
  split at hs
  · rename_i p ps h1 h2
    exact ⟨p, ps, toP_dp hw 60 d x p h1 r1, toP_dp hw 60 e y _ h2 r2, shaped_of h1, shaped_of h2, SatW.here hs hw rpb⟩
  · exact hs.elim⟩
theorem od_notInD (hu : X.A.units + 65 < cLine) : OpD X (compareOp .NotIn) (dInD true) := ⟨_, op_notInD hu, fun w x y d e W σ Q hw r1 r2 hs => by
  unfold dInD at hs
  split at hs
  · rename_i p ps h1 h2
    exact ⟨p, ps, toP_dp hw 60 d x p h1 r1, toP_dp hw 60 e y _ h2 r2, shaped_of h1, shaped_of h2, SatW.here hs hw rpb⟩
  · exact hs.elim⟩
def FldC (K : PySem.W.Frag) (f : Str) (c : Str) : Prop := ∀ C, ClsAt K c C → PySem.W.findIn K (.ref C) f = some none ∧ XfC K C
end
end Dv
/-! # Dv14: reckoning with exceptions -/
namespace Dv
open PySem PySem.Spec PyProof.Rows L2
section
variable {oo : Option D} {ll : Env} {S S' : Store} {e e' : Env} {x : Exn} {c d : Str} {i j : Nat} {g : Env → Store → Out} {L : List (Str × Str × Bool)} {R : List Str} {Q : Pst}
@[simp] theorem yRaise_app : yRaise c (oo :: ll) S = .exc ⟨c, none⟩ (oo :: ll) S := rfl
@[simp] theorem yTry_nx (h : g e S = .nx e' S') : yTryKeep L d i j g e S = .nx e' S' := by simp only [yTryKeep, h]
theorem yTry_exc {o : Option D} (h : g e S = .exc x e' S') (hs : subT L x.cls d = some true) (hi : e'[i]? = some o) : yTryKeep L d i j g e S = .nx ((e'.set j (some (.exn x.cls x.val))).set i none) S' := by simp only [yTryKeep, h, hs, hi]
theorem enso_try (h : EnsO (g e S) Q) : EnsO (yTryKeep L d i j g e S) Q := by
  unfold yTryKeep
  cases o : g e S with
  | exc y e2 S2 => rw [o] at h; exact (h.go).elim
  | _ => rw [o] at h; exact h
/-- a body that tells or is caught -/
theorem enso_try2 (x : Exn) (hs : subT L x.cls d = some true) (h : EnsO (g e S) Q ∨ ∃ o, e[i]? = some o ∧ g e S = .exc x e S ∧ Q.nx ((e.set j (some (.exn x.cls x.val))).set i none) S) : EnsO (yTryKeep L d i j g e S) Q := by
  rcases h with h | ⟨o, hi, hg, q⟩
  · exact enso_try h
  · rw [yTry_exc hg hs hi, enso_nx]
    exact q
@[simp] theorem isE_cls {f : Option (Str × Int)} : bIsE L R [.exn c f, .cls d] S = if c ∈ R then match subT L c d with | some b => .ok (.bl b) S | none => .bad else .bad := rfl
@[simp] theorem isE_ty {f : Option (Str × Int)} {v : V} : bIsE L R [.exn c f, .raw v] S = if c ∈ R ∧ v = .ty "ValueError" then .ok (.bl true) S else .bad := rfl
@[simp] theorem isN_exn {f : Option (Str × Int)} : dIsN (.exn c f) .non S = .ok (.bl false) S := rfl
@[simp] theorem isN_non : dIsN .non .non S = .ok (.bl true) S := rfl
@[simp] theorem isN_int {k : Int} : dIsN (.int k) .non S = .ok (.bl false) S := rfl
@[simp] theorem isN_tup {l : List D} : dIsN (.tup l) .non S = .ok (.bl false) S := rfl
@[simp] theorem isN_lst {l : List D} : dIsN (.lst l) .non S = .ok (.bl false) S := rfl
@[simp] theorem isE_tup {f : Option (Str × Int)} {l : List D} : bIsE L R [.exn c f, .tup l] S = if c ∈ R then match anyE L c l with | some b => .ok (.bl b) S | none => .bad else .bad := rfl
@[simp] theorem anyE_nil : anyE L c [] = some false := rfl
@[simp] theorem anyE_cons {l : List D} : anyE L c (.cls d :: l) = match subT L c d, anyE L c l with | some a, some b => some (a || b) | _, _ => none := rfl
theorem toPs_bls {S : Store} {n : Nat} : ∀ cs : List Bool, toPs S n (cs.map D.bl) = some (cs.map PyData.bool)
  | [] => by simp [toPs]
  | c :: cs => by
    have e : toP S n (D.bl c) = some (.bool c) := by cases n <;> simp [toP]
    simp [toPs, e, toPs_bls cs]
/-- a def that raises -/
theorem fn_exc {np ns : Nat} {keep : Bool} {body : Env → Store → Out} {ds : List D} {e : Env} (hl : ds.length = np) (h : body (ds.map some ++ List.replicate (ns - np) none) S = .exc x e S) : fnD np ns keep body ds S = .exc x S := by
  unfold fnD
  rw [if_pos hl, h]
  simp [finX]
theorem fn_exc' {np ns : Nat} {keep : Bool} {body : Env → Store → Out} {ds : List D} {e : Env} {R : Store} (hl : ds.length = np) (hu : (S.all fun c => c.under S.length) = true) (h : body (ds.map some ++ List.replicate (ns - np) none) S = .exc x e (S ++ R)) : fnD np ns keep body ds S = .exc x S := by
  unfold fnD
  rw [if_pos hl, h]
  simp only [finX]
  by_cases z : (S ++ R).length = S.length
  · rw [if_pos z]
    have : R = [] := List.length_eq_zero_iff.mp (by rw [List.length_append] at z; omega)
    subst this
    simp
  · rw [if_neg z, List.take_left, hu]
    rfl
end
end Dv
/-! # Dv15: fractions in lowest terms are rational numbers -/
namespace Dv
open PySem PySem.Spec PyProof.Rows L2
/-- a fraction as the program has it -/
def fr (x : Rat) : D := .tup [.int x.num, .int x.den]
/-- the divisor with the lower part's sign -/
def gsr (a b : Int) : Int := if b < 0 then 0 - (Int.gcd a b : Int) else Int.gcd a b
theorem gsr_ne {a b : Int} (h : b ≠ 0) : gsr a b ≠ 0 := by
  have e : Int.gcd a b ≠ 0 := fun z => h (Int.gcd_eq_zero_iff.mp z).2
  unfold gsr
  split <;> omega
theorem gsr_dr (a b : Int) : gsr a b ∣ b := by
  unfold gsr
  split
  · rw [Int.zero_sub, Int.neg_dvd]; exact Int.gcd_dvd_right ..
  · exact Int.gcd_dvd_right ..
theorem gsr_dl (a b : Int) : gsr a b ∣ a := by
  unfold gsr
  split
  · rw [Int.zero_sub, Int.neg_dvd]; exact Int.gcd_dvd_left ..
  · exact Int.gcd_dvd_left ..
theorem gsr_sz {a b : Int} {n : Nat} (h : b ≠ 0) (hb : Sz n b) : Sz n (gsr a b) := hb.of_le (by
  have := Int.natAbs_dvd_natAbs.mpr (gsr_dr a b)
  exact Nat.le_of_dvd (by omega) this)
theorem fdiv_exact {a g : Int} (hg : g ≠ 0) (h : g ∣ a) : a.fdiv g = a / g := by
  obtain ⟨c, rfl⟩ := h
  rw [Int.mul_fdiv_cancel_left _ hg, Int.mul_ediv_cancel_left _ hg]
theorem gsr_num {a b : Int} (h : b ≠ 0) : a.fdiv (gsr a b) = ((a : Rat) / (b : Rat)).num := by
  rw [← Rat.divInt_eq_div, Rat.num_divInt, fdiv_exact (gsr_ne h) (gsr_dl a b), Int.gcd_comm b a]
  unfold gsr
  by_cases hl : b < 0
  · rw [if_pos hl, Int.sign_eq_neg_one_of_neg hl, Int.zero_sub, Int.ediv_neg, Int.neg_mul, Int.one_mul]
    obtain ⟨c, hc⟩ : (Int.gcd a b : Int) ∣ a := Int.gcd_dvd_left ..
    have e : (Int.gcd a b : Int) ≠ 0 := fun z => h (Int.gcd_eq_zero_iff.mp (show Int.gcd a b = 0 by omega)).2
    generalize (Int.gcd a b : Int) = g at hc e
    subst hc
    rw [Int.mul_ediv_cancel_left _ e, show -(g * c) = g * (-c) by rw [Int.mul_neg], Int.mul_ediv_cancel_left _ e]
  · rw [if_neg hl, Int.sign_eq_one_of_pos (by omega), Int.one_mul]
theorem gsr_den {a b : Int} (h : b ≠ 0) : b.fdiv (gsr a b) = (((a : Rat) / (b : Rat)).den : Int) := by
  rw [← Rat.divInt_eq_div, Rat.den_divInt, if_neg h, fdiv_exact (gsr_ne h) (gsr_dr a b), Int.gcd_comm b a]
  unfold gsr
  obtain ⟨c, hc⟩ : (Int.gcd a b : Int) ∣ b := Int.gcd_dvd_right ..
  have e : (Int.gcd a b : Int) ≠ 0 := fun z => h (Int.gcd_eq_zero_iff.mp (show Int.gcd a b = 0 by omega)).2
  by_cases hl : b < 0
  · rw [if_pos hl, Int.natCast_ediv, Int.ofNat_natAbs_of_nonpos (by omega), Int.zero_sub]
    generalize (Int.gcd a b : Int) = g at hc e
    subst hc
    rw [Int.ediv_neg, Int.mul_ediv_cancel_left _ e, show -(g * c) = g * (-c) by rw [Int.mul_neg], Int.mul_ediv_cancel_left _ e]
  · rw [if_neg hl, Int.natCast_ediv, Int.natAbs_of_nonneg (by omega)]
theorem fr_div {a b : Int} (h : b ≠ 0) : D.tup [.int (a.fdiv (gsr a b)), .int (b.fdiv (gsr a b))] = fr ((a : Rat) / b) := by
  rw [gsr_num h, gsr_den h]; rfl
/-! ### sizes -/
structure Fs (n : Nat) (x : Rat) : Prop where
  num : Sz n x.num
  den : Sz n (x.den : Int)
theorem Fs.le {n m : Nat} {x : Rat} (h : Fs n x) (hl : n ≤ m) : Fs m x := ⟨h.num.le hl, h.den.le hl⟩
theorem den_ne (x : Rat) : (x.den : Int) ≠ 0 := by have := x.den_nz; omega
theorem den_pos (x : Rat) : (0 : Int) < (x.den : Int) := by have := x.den_nz; omega
theorem denq (x : Rat) : (x.den : Rat) ≠ 0 := fun z => x.den_nz (Rat.natCast_eq_zero_iff.mp z)
theorem num_eq (x : Rat) : (x.num : Rat) = x * (x.den : Rat) := by
  have e : x = (x.num : Rat) / (x.den : Rat) := by
    have := Rat.num_divInt_den x
    rw [Rat.divInt_eq_div] at this
    exact this.symm
  calc (x.num : Rat) = ((x.num : Rat) / (x.den : Rat)) * (x.den : Rat) := (Rat.div_mul_cancel (denq x)).symm
    _ = x * (x.den : Rat) := by rw [← e]
theorem plus_rat (x y : Rat) : ((x.num * y.den + y.num * x.den : Int) : Rat) / ((x.den * y.den : Int) : Rat) = x + y := by
  have h1 := denq x
  have h2 := denq y
  simp only [Rat.intCast_add, Rat.intCast_mul, num_eq, Rat.intCast_natCast]
  generalize (x.den : Rat) = d at *
  generalize (y.den : Rat) = e at *
  grind
theorem minus_rat (x y : Rat) : ((x.num * y.den - y.num * x.den : Int) : Rat) / ((x.den * y.den : Int) : Rat) = x - y := by
  have h1 := denq x
  have h2 := denq y
  simp only [Rat.intCast_sub, Rat.intCast_mul, num_eq, Rat.intCast_natCast]
  generalize (x.den : Rat) = d at *
  generalize (y.den : Rat) = e at *
  grind
theorem times_rat (x y : Rat) : ((x.num * y.num : Int) : Rat) / ((x.den * y.den : Int) : Rat) = x * y := by
  have h1 := denq x
  have h2 := denq y
  simp only [Rat.intCast_mul, num_eq, Rat.intCast_natCast]
  generalize (x.den : Rat) = d at *
  generalize (y.den : Rat) = e at *
  grind
theorem over_rat (x y : Rat) (hy : y ≠ 0) : ((x.num * y.den : Int) : Rat) / ((x.den * y.num : Int) : Rat) = x / y := by
  have h1 := denq x
  have h2 := denq y
  simp only [Rat.intCast_mul, num_eq, Rat.intCast_natCast]
  generalize (x.den : Rat) = d at *
  generalize (y.den : Rat) = e at *
  grind
theorem plus_rat' (x y : Rat) : ((x.num : Rat) * ((y.den : Int) : Rat) + (y.num : Rat) * ((x.den : Int) : Rat)) / (((x.den : Int) : Rat) * ((y.den : Int) : Rat)) = x + y := by
  have := plus_rat x y
  simpa using this
theorem minus_rat' (x y : Rat) : ((x.num : Rat) * ((y.den : Int) : Rat) - (y.num : Rat) * ((x.den : Int) : Rat)) / (((x.den : Int) : Rat) * ((y.den : Int) : Rat)) = x - y := by
  have := minus_rat x y
  simpa using this
theorem times_rat' (x y : Rat) : ((x.num : Rat) * (y.num : Rat)) / (((x.den : Int) : Rat) * ((y.den : Int) : Rat)) = x * y := by
  have := times_rat x y
  simpa using this
theorem over_rat' (x y : Rat) (hy : y ≠ 0) : ((x.num : Rat) * ((y.den : Int) : Rat)) / (((x.den : Int) : Rat) * (y.num : Rat)) = x / y := by
  have := over_rat x y hy
  simpa using this
theorem num_ne {x : Rat} (h : x ≠ 0) : x.num ≠ 0 := fun z => h (Rat.num_eq_zero.mp z)
theorem fr_inj {x y : Rat} (h : fr x = fr y) : x = y := by
  unfold fr at h
  injection h with h
  injection h with h1 h2
  injection h2 with h2 _
  injection h1 with h1
  injection h2 with h2
  exact Rat.ext h1 (by omega)
theorem fr_toP (x : Rat) (S : Store) (n : Nat) : toP S (n + 1) (fr x) = some (.tuple [.int x.num, .int x.den]) := by
  cases n <;> simp [fr, toP, toPs]
theorem fr_eqv (x y : Rat) : PyData.eqv (.tuple [.int x.num, .int x.den]) (.tuple [.int y.num, .int y.den]) = decide (x = y) := by
  simp only [PyData.eqv, PyData.eqvAll]
  by_cases h : x = y
  · subst h; simp
  · rw [decide_eq_false h]
    by_cases h1 : x.num = y.num
    · have h2 : ¬ x.den = y.den := fun z => h (Rat.ext h1 z)
      simp [h1]; omega
    · simp [h1]
@[simp] theorem dEq_fr (x y : Rat) (S : Store) : dEq (fr x) (fr y) S = .ok (.bl (decide (x = y))) S := by
  rw [dEq_of (fr_toP x S 59) (fr_toP y S 59), fr_eqv]
@[simp] theorem dNe_fr (x y : Rat) (S : Store) : dNe (fr x) (fr y) S = .ok (.bl (!decide (x = y))) S := by
  rw [dNe_of (fr_toP x S 59) (fr_toP y S 59), fr_eqv]
@[simp] theorem dIx_fr0 (x : Rat) (S : Store) : dIx (fr x) (.int 0) S = .ok (.int x.num) S := by
  unfold fr; rw [dIx_tup, atI_zero]
@[simp] theorem dIx_fr1 (x : Rat) (S : Store) : dIx (fr x) (.int 1) S = .ok (.int x.den) S := by
  unfold fr; rw [dIx_tup, atI_one]
@[simp] theorem fr_zero : D.tup [.int 0, .int 1] = fr 0 := rfl
@[simp] theorem fr_one : D.tup [.int 1, .int 1] = fr 1 := rfl
theorem fr_int (k : Int) : D.tup [.int k, .int 1] = fr (k : Rat) := rfl
theorem fr_under {n : Nat} (x : Rat) : (fr x).under n = true := rfl

@[simp] theorem atI_three {α : Type} {a b c d : α} {l : List α} : L2.atI (a :: b :: c :: d :: l) 3 = some d := by
  have : (3 : Int) = ((3 : Nat) : Int) := rfl
  rw [this]
  exact atI_nat rfl
@[simp] theorem atI_four {α : Type} {a b c d e : α} {l : List α} : L2.atI (a :: b :: c :: d :: e :: l) 4 = some e := by
  have : (4 : Int) = ((4 : Nat) : Int) := rfl
  rw [this]
  exact atI_nat rfl
mutual
theorem under_mono {n m : Nat} (h : n ≤ m) : ∀ d : D, d.under n = true → d.under m = true
  | .cell k, u => by
    unfold D.under at *
    exact decide_eq_true (Nat.lt_of_lt_of_le (of_decide_eq_true u) h)
  | .tup l, u => by unfold D.under at *; exact underL_mono h l u
  | .lst l, u => by unfold D.under at *; exact underL_mono h l u
  | .scr l, u => by unfold D.under at *; exact underL_mono h l u
  | .non, _ => rfl
  | .bl _, _ => rfl
  | .int _, _ => rfl
  | .str _, _ => rfl
  | .raw _, _ => rfl
  | .cls _, _ => rfl
  | .exn _ _, _ => rfl
theorem underL_mono {n m : Nat} (h : n ≤ m) : ∀ l : List D, D.underL n l = true → D.underL m l = true
  | [], _ => rfl
  | d :: l, u => by
    unfold D.underL at *
    rw [Bool.and_eq_true] at *
    exact ⟨under_mono h d u.1, underL_mono h l u.2⟩
end
theorem cn_under_mono {n m : Nat} (h : n ≤ m) {c : Cn} (u : c.under n = true) : c.under m = true := by
  cases c with
  | dead => rfl
  | lst l => exact underL_mono h l u
  | dct kvs =>
    unfold Cn.under at *
    rw [List.all_eq_true] at *
    exact fun p hp => under_mono h _ (u p hp)
/-! ### over a common lower part -/
/-- a whole number over N, of a size of B at most -/
structure On (N B : Nat) (x : Rat) : Prop where
  pos : 0 < N
  ex : ∃ a : Int, x * (N : Rat) = (a : Rat) ∧ a.natAbs ≤ B * N
theorem natq {N : Nat} (h : 0 < N) : (N : Rat) ≠ 0 := fun z => by
  have := Rat.natCast_eq_zero_iff.mp z
  omega
theorem On.den {N B : Nat} {x : Rat} (h : On N B x) : x.den ∣ N := by
  obtain ⟨h0, a, e, _⟩ := h
  have ex : x = Rat.divInt a N := by
    rw [Rat.divInt_eq_div, Rat.intCast_natCast, ← e, Rat.mul_div_cancel (natq h0)]
  rw [ex, Rat.den_divInt, if_neg (by omega)]
  exact ⟨Int.gcd N a, by
    have : Int.gcd N a ∣ N := by simpa using Int.natAbs_dvd_natAbs.mpr (Int.gcd_dvd_left (a := (N : Int)) (b := a))
    simpa using (Nat.div_mul_cancel this).symm⟩
theorem On.num {N B : Nat} {x : Rat} (h : On N B x) : x.num.natAbs ≤ B * N := by
  have hd := h.den
  obtain ⟨h0, a, e, hb⟩ := h
  obtain ⟨c, rfl⟩ := hd
  have hc : 0 < c := Nat.pos_of_ne_zero fun z => by subst z; simp at h0
  have h1 : (x.num : Rat) * (c : Rat) = (a : Rat) := by
    rw [num_eq, ← e, Rat.natCast_mul]
    grind
  have h2 : x.num * (c : Int) = a := by
    have : ((x.num * (c : Int) : Int) : Rat) = (a : Rat) := by rw [Rat.intCast_mul, Rat.intCast_natCast]; exact h1
    exact Rat.intCast_inj.mp this
  have h3 : x.num.natAbs * c = a.natAbs := by rw [← h2, Int.natAbs_mul]; simp
  calc x.num.natAbs ≤ x.num.natAbs * c := Nat.le_mul_of_pos_right _ hc
    _ = a.natAbs := h3
    _ ≤ _ := hb
theorem On.fs {N B n : Nat} {x : Rat} (h : On N B x) (h1 : N < 2 ^ n) (h2 : B * N < 2 ^ n) : Fs n x :=
  ⟨Nat.lt_of_le_of_lt h.num h2, by
    show ((x.den : Int)).natAbs < 2 ^ n
    have := Nat.le_of_dvd h.pos h.den
    simp
    omega⟩
theorem On.add {N B C : Nat} {x y : Rat} (h : On N B x) (g : On N C y) : On N (B + C) (x + y) := by
  obtain ⟨h0, a, e, hb⟩ := h
  obtain ⟨_, b, f, hc⟩ := g
  refine ⟨h0, a + b, ?_, ?_⟩
  · rw [Rat.intCast_add, ← e, ← f]; grind
  · rw [Nat.add_mul]
    have := Int.natAbs_add_le a b
    omega
theorem On.sub {N B C : Nat} {x y : Rat} (h : On N B x) (g : On N C y) : On N (B + C) (x - y) := by
  obtain ⟨h0, a, e, hb⟩ := h
  obtain ⟨_, b, f, hc⟩ := g
  refine ⟨h0, a - b, ?_, ?_⟩
  · rw [Rat.intCast_sub, ← e, ← f]; grind
  · rw [Nat.add_mul]
    have := Int.natAbs_sub_le a b
    omega
theorem On.mul {N M B C : Nat} {x y : Rat} (h : On N B x) (g : On M C y) : On (N * M) (B * C) (x * y) := by
  obtain ⟨h0, a, e, hb⟩ := h
  obtain ⟨g0, b, f, hc⟩ := g
  refine ⟨Nat.mul_pos h0 g0, a * b, ?_, ?_⟩
  · rw [Rat.intCast_mul, ← e, ← f, Rat.natCast_mul]; grind
  · rw [Int.natAbs_mul]
    calc a.natAbs * b.natAbs ≤ (B * N) * (C * M) := Nat.mul_le_mul hb hc
      _ = _ := by grind
theorem On.int (k : Int) : On 1 k.natAbs (k : Rat) := ⟨by decide, k, by simp, by simp⟩
theorem On.up {N M B : Nat} {x : Rat} (h : On N B x) (hd : N ∣ M) (h0 : 0 < M) : On M B x := by
  obtain ⟨_, a, e, hb⟩ := h
  obtain ⟨c, rfl⟩ := hd
  refine ⟨h0, a * c, ?_, ?_⟩
  · rw [Rat.intCast_mul, ← e, Rat.natCast_mul, Rat.intCast_natCast]; grind
  · rw [Int.natAbs_mul]
    calc a.natAbs * (c : Int).natAbs ≤ (B * N) * c := Nat.mul_le_mul hb (by simp)
      _ = _ := by grind
theorem On.mono {N B C : Nat} {x : Rat} (h : On N B x) (hl : B ≤ C) : On N C x := ⟨h.pos, by
  obtain ⟨a, e, hb⟩ := h.ex
  exact ⟨a, e, Nat.le_trans hb (Nat.mul_le_mul_right _ hl)⟩⟩
theorem On.bd {N B C : Nat} {x : Rat} (h : On N B x) (h1 : -(C : Rat) ≤ x) (h2 : x ≤ (C : Rat)) : On N C x := ⟨h.pos, by
  obtain ⟨a, e, hb⟩ := h.ex
  refine ⟨a, e, ?_⟩
  have hN : (0 : Rat) < (N : Rat) := Rat.natCast_pos.mpr h.pos
  have k1 : ((a : Int) : Rat) ≤ (((C * N : Nat) : Int) : Rat) := by
    rw [← e, Rat.intCast_natCast, Rat.natCast_mul]
    exact Rat.mul_le_mul_of_nonneg_right h2 (Rat.le_of_lt hN)
  have k2 : ((-(C * N : Nat) : Int) : Rat) ≤ ((a : Int) : Rat) := by
    rw [← e, Rat.intCast_neg, Rat.intCast_natCast, Rat.natCast_mul]
    have := Rat.mul_le_mul_of_nonneg_right h1 (Rat.le_of_lt hN)
    rw [Rat.neg_mul] at this
    exact this
  rw [Rat.intCast_le_intCast] at k1 k2
  omega⟩
theorem On.div {a b : Int} {N B : Nat} (hN : 0 < N) (hb : b = (N : Int)) (h : a.natAbs ≤ B * N) : On N B ((a : Rat) / (b : Rat)) := ⟨hN, a, by
  subst hb
  rw [Rat.intCast_natCast, Rat.div_mul_cancel (natq hN)], h⟩
theorem On.one {N : Nat} (h : 0 < N) : On N 1 1 := ⟨h, N, by rw [Rat.intCast_natCast]; grind, by simp⟩
theorem On.zero {N : Nat} (h : 0 < N) : On N 0 0 := ⟨h, 0, by simp, by simp⟩
theorem On.times {N B : Nat} {x : Rat} (h : On N B x) (c : Int) : On N (c.natAbs * B) ((c : Rat) * x) := by
  have := (On.int c).mul h
  rwa [Nat.one_mul] at this
theorem int_fs {k : Int} {n : Nat} (h : k.natAbs < 2 ^ n) (h0 : 0 < n) : Fs n (k : Rat) := ⟨h, by
  show ((k : Rat).den : Int).natAbs < 2 ^ n
  simp; omega⟩
end Dv
/-! # Dv16: xs[::-1]; is True -/
namespace Dv
open PySem PySem.Spec PyProof.Rows L2
def xRevL (mk : List D → M D) (f : Env → M D) : Env → M D := fun e S => (f e S).bind fun d S1 => match getQ d S1 with
  | some l => mk l.reverse S1
  | none => .bad
theorem pd_revL {X : Cx} {W : WX} {e : Expr} {f : Env → M D} {mk : List D → M D} {k : Nat} {p1 p2 p3 pos : Pos} (m : Mk mk) (he : PD X W e f) : PD X W (.Subscript e (.Slice none none (some (.UnaryOp .USub (.Constant (.int 1) k p1) p2)) p3) pos) (xRevL mk f) := by
  refine weakE (pe_revL he) fun σ H Q ⟨w, env, eH, hw, he, hs⟩ => ?_
  subst eH
  refine ⟨w, env, rfl, hw, he, SatW.imp (SatW.bind hs) fun w1 d v g1 r1 s1 => ?_⟩
  cases q : getQ d w1.S with
  | none => simp only [q] at s1; exact s1.elim
  | some l =>
    simp only [q] at s1
    obtain ⟨a, vs, rfl, hq, t⟩ := getQ_ok g1.wd r1 q
    exact ⟨a, vs, rfl, hq, m.go g1.wd t.reverse s1⟩
@[simp] theorem xRevL_app {oo : Option D} {ll : Env} {S : Store} {mk : List D → M D} {f : Env → M D} : xRevL mk f (oo :: ll) S = (f (oo :: ll) S).bind fun d S1 => match getQ d S1 with | some l => mk l.reverse S1 | none => .bad := rfl
def dIsB (a b : D) (S : Store) : Res D := match a, b with
  | .bl x, .bl y => .ok (.bl (decide (x = y))) S
  | _, _ => .bad
def dIsNotB (a b : D) (S : Store) : Res D := match a, b with
  | .bl x, .bl y => .ok (.bl (!decide (x = y))) S
  | _, _ => .bad
theorem od_isB {X : Cx} : OpD X (compareOp .Is) dIsB := ⟨_, op_isBl, fun w x y d e W σ Q hw r1 r2 hs => by
  unfold dIsB at hs
  split at hs
  · rename_i a b
    exact ⟨a, b, rp_bl r1, rp_bl r2, SatW.here hs hw rpb⟩
  · exact hs.elim⟩
theorem od_isNotB {X : Cx} : OpD X (compareOp .IsNot) dIsNotB := ⟨_, op_notBl, fun w x y d e W σ Q hw r1 r2 hs => by
  unfold dIsNotB at hs
  split at hs
  · rename_i a b
    exact ⟨a, b, rp_bl r1, rp_bl r2, SatW.here hs hw rpb⟩
  · exact hs.elim⟩
@[simp] theorem dIsB_bl {a b : Bool} {S : Store} : dIsB (.bl a) (.bl b) S = .ok (.bl (decide (a = b))) S := rfl
@[simp] theorem dIsNotB_bl {a b : Bool} {S : Store} : dIsNotB (.bl a) (.bl b) S = .ok (.bl (!decide (a = b))) S := rfl
end Dv
/-! # Dv17: loops over a list that may change; a list, frozen or not -/
namespace Dv
open PySem PySem.Spec PyProof.Rows L2
theorem en0_forC {chk : Store → Prop} {g : D → Env → Store → Out} {b : Env → Store → Out} {items : List D} {e : Env} {S : Store} {Q : Pst} (I : Nat → Env → Store → Prop) (h0 : I 0 e S) (hc : ∀ i e S, I i e S → chk S)
    (hs : ∀ (i : Nat) d e S, items[i]? = some d → I i e S → EnO0 (g d e S) { nx := fun e1 S1 => EnO0 (b e1 S1) { nx := I (i + 1), ct := I (i + 1), bk := Q.nx, rt := Q.rt } })
    (hd : ∀ e S, I items.length e S → Q.nx e S) : EnO0 (forL chk g b items e S) Q := by
  have go : ∀ (l : List D) (i : Nat) (e : Env) (S : Store), items.drop i = l → i ≤ items.length → I i e S → EnO0 (forL chk g b l e S) Q := by
    intro l
    induction l with
    | nil =>
      intro i e S hl hi h
      rw [forL, if_pos (hc i e S h)]
      have e1 := drop_nil hl hi
      subst e1
      exact hd e S h
    | cons d l ih =>
      intro i e S hl hi h
      obtain ⟨h1, h2⟩ := drop_get hl
      have st := hs i d e S h1 h
      have hlt : i < items.length := (List.getElem?_eq_some_iff.mp h1).1
      rw [forL, if_pos (hc i e S h)]
      cases o : g d e S with
      | nx e1 S1 =>
        rw [o] at st
        have st' : EnO0 (b e1 S1) { nx := I (i + 1), ct := I (i + 1), bk := Q.nx, rt := Q.rt } := st
        show EnO0 (match b e1 S1 with
          | .nx e' S' => forL chk g b l e' S'
          | .ct e' S' => forL chk g b l e' S'
          | .bk e' S' => .nx e' S'
          | o => o) Q
        cases ob : b e1 S1 with
        | nx e2 S2 => rw [ob] at st'; exact ih (i + 1) e2 S2 h2 hlt st'
        | ct e2 S2 => rw [ob] at st'; exact ih (i + 1) e2 S2 h2 hlt st'
        | bk e2 S2 => rw [ob] at st'; exact st'
        | rt d2 S2 => rw [ob] at st'; exact st'
        | exc x e2 S2 => rw [ob] at st'; exact st'.elim
        | bad => rw [ob] at st'; exact st'.elim
      | rt _ _ => rw [o] at st; exact st.elim
      | bk _ _ => rw [o] at st; exact st.elim
      | ct _ _ => rw [o] at st; exact st.elim
      | exc _ _ _ => rw [o] at st; exact st.elim
      | bad => rw [o] at st; exact st.elim
  exact go items 0 e S rfl (Nat.zero_le _) h0
theorem ens_frC {chk : Store → Prop} {g : D → Env → Store → Out} {b : Env → Store → Out} {items : List D} {e : Env} {S : Store} {Q : Pst} (I : Nat → Env → Store → Prop) (h0 : I 0 e S) (hc : ∀ i e S, I i e S → chk S)
    (hs : ∀ (i : Nat) d e S (R' : Env → Store → Prop), items[i]? = some d → I i e S → (∀ e S, I (i + 1) e S → R' e S) → EnsO (g d e S) { nx := fun e1 S1 => EnsO (b e1 S1) { nx := R', ct := R', bk := Q.nx, rt := Q.rt } })
    (hd : ∀ e S, I items.length e S → Q.nx e S) : EnsO (forL chk g b items e S) Q :=
  ⟨en0_forC I h0 hc (fun i d e S h1 h2 => (hs i d e S _ h1 h2 fun _ _ h => h).go.imp (fun _ _ h => h.go) (fun _ _ h => h.elim) (fun _ _ h => h.elim) (fun _ _ h => h.elim)) hd⟩
/-- S' is S and more behind it -/
def Ext (S S' : Store) : Prop := ∃ R, S' = S ++ R
theorem Ext.refl (S : Store) : Ext S S := ⟨[], by simp⟩
theorem Ext.app (S R : Store) : Ext S (S ++ R) := ⟨R, rfl⟩
theorem Ext.get {S S' : Store} (h : Ext S S') {n : Nat} {c : Cn} (e : S[n]? = some c) : S'[n]? = some c := by
  obtain ⟨R, rfl⟩ := h
  have := (List.getElem?_eq_some_iff.mp e).1
  rw [List.getElem?_append_left this]
  exact e
/-- a list that may be read: frozen, or a cell -/
structure LstAt (S : Store) (p : D) (l : List D) : Prop where
  src : ∀ S', Ext S S' → ∃ chk : Store → Prop, srcL p S' = .ok ⟨l, chk⟩ S' ∧ ∀ S2, Ext S S2 → chk S2
  zip : ∀ S' m, Ext S S' → ∃ chk : Store → Prop, srcZip [p, .lst m] S' = .ok ⟨(l.zip m).map fun z => .tup [z.1, z.2], chk⟩ S' ∧ ∀ S2, Ext S S2 → chk S2
  get : ∀ S', Ext S S' → getQ p S' = some l
  ix : ∀ S' k, Ext S S' → dIx p k S' = dIx (.lst l) k S'
  len : ∀ S', Ext S S' → bLen [p] S' = .ok (.int l.length) S'
theorem lst_lst (S : Store) (l : List D) : LstAt S (.lst l) l := ⟨fun _ _ => ⟨_, rfl, fun _ _ => trivial⟩, fun _ m _ => ⟨fun _ => True, by rw [srcZip_lst], fun _ _ => trivial⟩, fun _ _ => rfl, fun _ _ _ => rfl, fun _ _ => by simp⟩
theorem lst_cell {S : Store} {n : Nat} {l : List D} (h : S[n]? = some (.lst l)) : LstAt S (.cell n) l := by
  refine ⟨fun S' x => ⟨_, srcL_cell (x.get h), fun S2 y => y.get h⟩, fun S' m x => ⟨fun S2 => S2[n]? = some (.lst l) ∧ True, ?_, fun S2 y => ⟨y.get h, trivial⟩⟩, fun S' x => ?_, fun S' k x => ?_, fun S' x => ?_⟩
  · have := x.get h
    simp [srcZip, stL, this]
  · have := x.get h
    simp only [getQ, getL, this]
  · have := x.get h
    cases k <;> simp only [dIx, getQ, getL, this]
  · have := x.get h
    simp [bLen, getQ, getL, this]
end Dv
/-! # Dv18: dicts in cells; sorted; list.pop -/
namespace Dv
open PySem PySem.Spec PyProof.Rows L2
theorem units1 {k : Nat} {A : Around} (r : Room k A) : A.units + 1 < cLine := by have := r.un; omega
/-! ### keys and tables -/
def keyD : D → Option Key
  | .int i => some (.inl i)
  | .str x => some (.inr x)
  | _ => none
theorem keyD_v {K : PySem.W.Frag} {r : List Addr} {F : Hp} {d : D} {v : V} {k : Key} (h : Rp K r F d v) (e : keyD d = some k) : v = kV k := by
  cases d with
  | int i => cases e; rw [rp_int h]; rfl
  | str x => cases e; rw [rp_str h]; rfl
  | _ => cases e
def cellK (d : D) (S : Store) : Option (Nat × List (Key × D)) := match d with
  | .cell n => match S[n]? with
    | some (.dct l) => some (n, l)
    | _ => none
  | _ => none
theorem cellK_eq {d : D} {S : Store} {n : Nat} {l : List (Key × D)} (h : cellK d S = some (n, l)) : d = .cell n ∧ S[n]? = some (.dct l) := by
  unfold cellK at h
  split at h
  · split at h
    · rename_i k l' e
      cases h
      exact ⟨rfl, e⟩
    · cases h
  · cases h
def valD (kvs : List (Key × D)) (k : Key) : Option D := (kvs.find? fun kv => decide (kv.1 = k)).map (·.2)
def putD (kvs : List (Key × D)) (k : Key) (d : D) : List (Key × D) :=
  if (kvs.any fun kv => decide (kv.1 = k)) = true then kvs.map (fun kv => if kv.1 = k then (kv.1, d) else kv) else kvs ++ [(k, d)]
section
variable {K : PySem.W.Frag} {r : List Addr} {F : Hp} {kvs : List (Key × D)} {ws : List (Key × V)}
theorem RpK.some (h : RpK K r F kvs ws) {k : Key} {d : D} (e : valD kvs k = some d) : ∃ v, valV ws k = some v ∧ Rp K r F d v := by
  unfold RpK at h
  induction h with
  | nil => cases e
  | @cons p q ps qs z t ih =>
    obtain ⟨h1, h2⟩ := z
    by_cases c : p.1 = k
    · have b : valD (p :: ps) k = Option.some p.2 := by simp [valD, List.find?_cons, c]
      rw [b] at e
      cases e
      exact ⟨q.2, valV_pos (h1.symm.trans c), h2⟩
    · have b : valD (p :: ps) k = valD ps k := by simp [valD, List.find?_cons, c]
      rw [b] at e
      obtain ⟨v, e2, q2⟩ := ih e
      exact ⟨v, by rw [valV_neg (fun z => c (h1.trans z))]; exact e2, q2⟩
theorem RpK.none (h : RpK K r F kvs ws) {k : Key} (e : valD kvs k = Option.none) : valV ws k = Option.none := by
  unfold RpK at h
  induction h with
  | nil => rfl
  | @cons p q ps qs z t ih =>
    obtain ⟨h1, h2⟩ := z
    by_cases c : p.1 = k
    · have b : valD (p :: ps) k = Option.some p.2 := by simp [valD, List.find?_cons, c]
      rw [b] at e
      cases e
    · have b : valD (p :: ps) k = valD ps k := by simp [valD, List.find?_cons, c]
      rw [b] at e
      rw [valV_neg (fun z => c (h1.trans z))]
      exact ih e
theorem RpK.any (h : RpK K r F kvs ws) (k : Key) : (kvs.any fun kv => decide (kv.1 = k)) = ws.any fun kv => decide (kv.1 = k) := by
  unfold RpK at h
  induction h with
  | nil => rfl
  | cons h t ih => rw [List.any_cons, List.any_cons, ih, h.1]
theorem RpK.repl (h : RpK K r F kvs ws) (k : Key) {d : D} {v : V} (rv : Rp K r F d v) : RpK K r F (kvs.map fun kv => if kv.1 = k then (kv.1, d) else kv) (ws.map fun kv => if kv.1 = k then (kv.1, v) else kv) := by
  unfold RpK at h ⊢
  induction h with
  | nil => exact .nil
  | @cons p q ps qs h t ih =>
    rw [List.map_cons, List.map_cons]
    refine .cons ?_ ih
    obtain ⟨h1, h2⟩ := h
    by_cases e : p.1 = k
    · rw [if_pos e, if_pos (h1.symm.trans e)]; exact ⟨h1, rv⟩
    · rw [if_neg e, if_neg (fun z => e (h1.trans z))]; exact ⟨h1, h2⟩
theorem RpK.put (h : RpK K r F kvs ws) (k : Key) {d : D} {v : V} (rv : Rp K r F d v) : RpK K r F (putD kvs k d) (putK ws k v) := by
  unfold putD putK
  rw [h.any k]
  by_cases e : (ws.any fun kv => decide (kv.1 = k)) = true
  · rw [if_pos e, if_pos e]; exact h.repl k rv
  · rw [if_neg e, if_neg e]; exact Paired.snoc h ⟨rfl, rv⟩
theorem RpK.keys (h : RpK K r F kvs ws) : ws.map (·.1) = kvs.map (·.1) := by
  unfold RpK at h
  induction h with
  | nil => rfl
  | cons h t ih => rw [List.map_cons, List.map_cons, ih, h.1]
theorem RpK.length (h : RpK K r F kvs ws) : ws.length = kvs.length := by
  have := congrArg List.length h.keys
  simpa using this
end
/-- a dict's cell is read, written -/
theorem cellK_read {T : Kt} {w : Wl} {n : Nat} {l : List (Key × D)} {v : V} (hw : Wd T.K w) (r : Rp T.K w.r w.F (.cell n) v) (e : w.S[n]? = some (.dct l)) : ∃ a ws, v = .ref a ∧ w.H a = some (.dK ws) ∧ RpK T.K w.r w.F l ws := by
  unfold Rp at r
  obtain ⟨a, e1, rfl⟩ := r
  obtain ⟨hf, ws, e2, p⟩ := hw.cell n a _ e1 e
  exact ⟨a, ws, rfl, e2, p⟩
theorem cellK_write {T : Kt} {w : Wl} {n : Nat} {l l' : List (Key × D)} {v : V} (hw : Wd T.K w) (r : Rp T.K w.r w.F (.cell n) v) (e : w.S[n]? = some (.dct l)) : ∃ a ws, v = .ref a ∧ w.H a = some (.dK ws) ∧ RpK T.K w.r w.F l ws ∧
    ∀ ws', RpK T.K w.r w.F l' ws' → Go T.K w ⟨w.r, w.F, w.S.set n (.dct l'), upd w.H a (.dK ws')⟩ := by
  unfold Rp at r
  obtain ⟨a, e1, rfl⟩ := r
  obtain ⟨hf, ws, e2, p⟩ := hw.cell n a _ e1 e
  exact ⟨a, ws, rfl, e2, p, fun ws' h => Go.write (c := .dct l') hw e (by simp) e1 (by exact ⟨hf, ws', upd_same, h⟩)⟩
/-! ### {} -/
def xDct0 : Env → M D := fun _ S => .ok (.cell S.length) (S ++ [.dct []])
def dKx (x k : D) (S : Store) : Res D := match cellK x S, keyD k with
  | some (_, l), some kk => match valD l kk with
    | some d => .ok d S
    | none => .bad
  | _, _ => .bad
/-- o[i] of a dict -/
def setK (x i v : D) (S : Store) : Res Unit := match cellK x S, keyD i with
  | some (n, l), some kk => if l.length < 16000000 then .ok () (S.set n (.dct (putD l kk v))) else .bad
  | _, _ => .bad
/-- d.get(k, x) -/
def dGet (x k z : D) (S : Store) : Res D := match cellK x S, keyD k with
  | some (_, l), some kk => .ok ((valD l kk).getD z) S
  | _, _ => .bad
def isK (x : D) (S : Store) : Bool := (cellK x S).isSome
def xGet2 (o e f : Env → M D) : Env → M D := fun n S => (o n S).bind fun x S1 => if isK x S1 = true then (e n S1).bind fun k S2 => (f n S2).bind fun z S3 => dGet x k z S3 else .bad
def xGet1 (o e : Env → M D) : Env → M D := fun n S => (o n S).bind fun x S1 => if isK x S1 = true then (e n S1).bind fun k S2 => dGet x k .non S2 else .bad
def dInK (neg : Bool) (x y : D) (S : Store) : Res D := match cellK y S, keyD x with
  | some (_, l), some kk => .ok (.bl (xor neg (valD l kk).isSome)) S
  | _, _ => .bad
section
variable {X : Cx} {W : WX} {o i e f : Expr} {fo fi fe ff : Env → M D} {pos apos cpos : Pos}
theorem pd_dct0 : PD X W (.Dict [] [] pos) xDct0 := by
  refine weakE pe_dnewK fun σ H Q ⟨w, env, eH, hw, he, hs⟩ p hp => ?_
  subst eH
  refine hs ⟨w.r ++ [p], w.F, w.S ++ [.dct []], upd w.H p (.dK [])⟩ (.ref p) (Go.newCell (c := .dct []) hw hp (by exact ⟨hw.fresh hp, [], upd_same, .nil⟩)) rfl ?_
  unfold RD Rp
  refine ⟨p, ?_, rfl⟩
  show (w.r ++ [p])[w.S.length]? = some p
  rw [← hw.len, List.getElem?_append_right (Nat.le_refl _), Nat.sub_self]
  rfl
theorem pd_dkx (hu : X.A.units + 1 < cLine) (ho : PD X W o fo) (hi : PD X W i fi) (hs : NoSl i := by intro _ _; rfl) : PD X W (.Subscript o i pos) (xOp dKx fo fi) := by
  refine weakE (pe_dget hu ho hi hs) fun σ H Q ⟨w, env, eH, hw, he, hs⟩ => ?_
  subst eH
  refine ⟨w, env, rfl, hw, he, SatW.imp (SatW.bind hs) fun w1 d v g1 r1 s1 => ?_⟩
  refine ⟨w1, env, rfl, g1.wd, he.go g1, SatW.imp (SatW.bind s1) fun w2 d2 v2 g2 r2 s2 => ?_⟩
  have r1' := Rp.go g2 r1
  unfold dKx at s2
  split at s2
  · rename_i n l kk hc hk
    obtain ⟨rfl, en⟩ := cellK_eq hc
    obtain ⟨a, ws, rfl, ha, p⟩ := cellK_read (T := kt X) g2.wd r1' en
    cases q : valD l kk with
    | none => rw [q] at s2; exact s2.elim
    | some d =>
      rw [q] at s2
      obtain ⟨vz, ez, rz⟩ := p.some q
      rw [keyD_v r2 hk]
      exact ⟨a, vz, rfl, by rw [← ez]; exact DGet.k ha, SatW.here (v := vz) s2 g2.wd rz⟩
  · exact s2.elim
theorem sd_dict (hu : X.A.units + 1 < cLine) : SetD X setK := ⟨_, set_dict hu, fun w x i v dx di dv W σ Q hw r1 r2 r3 hs => by
  unfold setK at hs
  split at hs
  · rename_i n l kk hc hk
    obtain ⟨hl, hs⟩ := satIf hs
    obtain ⟨rfl, en⟩ := cellK_eq hc
    obtain ⟨a, ws, rfl, ha, p, go⟩ := cellK_write (T := kt X) (l' := putD l kk dv) hw r1 en
    rw [keyD_v r2 hk]
    exact ⟨a, _, rfl, DPut.k ha (by rw [p.length]; exact Nat.lt_of_lt_of_le hl (line16 (Nat.le_refl _))), hs _ () (go _ (p.put kk r3)) rfl trivial⟩
  · exact hs.elim⟩
theorem isK_isD {w : Wl} {d : D} {v : V} (hw : Wd X.K w) (r : Rp X.K w.r w.F d v) (h : isK d w.S = true) : ∃ a, v = .ref a ∧ IsD w.H a := by
  unfold isK at h
  cases hc : cellK d w.S with
  | none => rw [hc] at h; cases h
  | some p =>
    obtain ⟨n, l⟩ := p
    obtain ⟨rfl, en⟩ := cellK_eq hc
    obtain ⟨a, ws, rfl, ha, p⟩ := cellK_read (T := kt X) hw r en
    exact ⟨a, rfl, .inl ⟨ws, .inl ha⟩⟩
theorem pd_get2 (hu : X.A.units + 1 < cLine) (ho : PD X W o fo) (he : PD X W e fe) (hf : PD X W f ff) (m : M2 X o "get" apos e f cpos := by exact ⟨rfl, rfl, rfl, rfl⟩) : PD X W (.Call (.Attribute o "get" apos) [e, f] [] cpos) (xGet2 fo fe ff) := by
  refine weakE (pe_dget2 hu ho he hf m) fun σ H Q ⟨w, env, eH, hw, he, hs⟩ => ?_
  subst eH
  refine ⟨w, env, rfl, hw, he, SatW.imp (SatW.bind hs) fun w1 d v g1 r1 s1 => ?_⟩
  obtain ⟨hk, s1⟩ := satIf s1
  obtain ⟨a, rfl, hd⟩ := isK_isD g1.wd r1 hk
  refine ⟨a, rfl, hd, w1, env, rfl, g1.wd, he.go g1, SatW.imp (SatW.bind s1) fun w2 d2 v2 g2 r2 s2 => ?_⟩
  refine ⟨w2, env, rfl, g2.wd, (he.go g1).go g2, SatW.imp (SatW.bind s2) fun w3 d3 v3 g3 r3 s3 => ?_⟩
  have r1' := Rp.go (g2.trans g3) r1
  unfold dGet at s3
  split at s3
  · rename_i n l kk hc hk2
    obtain ⟨rfl, en⟩ := cellK_eq hc
    obtain ⟨a', ws, ea, ha, p⟩ := cellK_read (T := kt X) g3.wd r1' en
    cases ea
    rw [keyD_v r2 hk2]
    cases q : valD l kk with
    | none =>
      rw [q] at s3
      exact ⟨_, DGet.k ha, by rw [p.none q]; exact SatW.here (v := v3) s3 g3.wd r3⟩
    | some d =>
      rw [q] at s3
      obtain ⟨vz, ez, rz⟩ := p.some q
      exact ⟨_, DGet.k ha, by rw [ez]; exact SatW.here (v := vz) s3 g3.wd rz⟩
  · exact s3.elim
theorem pd_get1 (hu : X.A.units + 1 < cLine) (ho : PD X W o fo) (he : PD X W e fe) (m : M1 X o "get" apos e cpos := by exact ⟨rfl, rfl, rfl, rfl⟩) : PD X W (.Call (.Attribute o "get" apos) [e] [] cpos) (xGet1 fo fe) := by
  refine weakE (pe_dget1 hu ho he m) fun σ H Q ⟨w, env, eH, hw, he, hs⟩ => ?_
  subst eH
  refine ⟨w, env, rfl, hw, he, SatW.imp (SatW.bind hs) fun w1 d v g1 r1 s1 => ?_⟩
  obtain ⟨hk, s1⟩ := satIf s1
  obtain ⟨a, rfl, hd⟩ := isK_isD g1.wd r1 hk
  refine ⟨a, rfl, hd, w1, env, rfl, g1.wd, he.go g1, SatW.imp (SatW.bind s1) fun w2 d2 v2 g2 r2 s2 => ?_⟩
  have r1' := Rp.go g2 r1
  unfold dGet at s2
  split at s2
  · rename_i n l kk hc hk2
    obtain ⟨rfl, en⟩ := cellK_eq hc
    obtain ⟨a', ws, ea, ha, p⟩ := cellK_read (T := kt X) g2.wd r1' en
    cases ea
    rw [keyD_v r2 hk2]
    cases q : valD l kk with
    | none =>
      rw [q] at s2
      exact ⟨_, DGet.k ha, by rw [p.none q]; exact SatW.here (v := V.non) s2 g2.wd rpn⟩
    | some d =>
      rw [q] at s2
      obtain ⟨vz, ez, rz⟩ := p.some q
      exact ⟨_, DGet.k ha, by rw [ez]; exact SatW.here (v := vz) s2 g2.wd rz⟩
  · exact s2.elim
theorem op_inK (hu : X.A.units + 1 < cLine) : OpR X (compareOp .In) (fun y x H Q => ∃ a o, x = .ref a ∧ DGet H a y o ∧ Q (.bl o.isSome) H) := by
  intro pins s σ H y x v u Q I ry rx h
  obtain ⟨a, o, rfl, g, q⟩ := h
  cases rx
  exact d_in hu I g ry fun s' I' => ⟨V.bl o.isSome, H, I', rfl, q⟩
theorem op_notInK (hu : X.A.units + 1 < cLine) : OpR X (compareOp .NotIn) (fun y x H Q => ∃ a o, x = .ref a ∧ DGet H a y o ∧ Q (.bl (!o.isSome)) H) := by
  intro pins s σ H y x v u Q I ry rx h
  obtain ⟨a, o, rfl, g, q⟩ := h
  cases rx
  exact d_notIn hu I g ry fun s' I' => ⟨V.bl (!o.isSome), H, I', rfl, q⟩
theorem od_inK (hu : X.A.units + 1 < cLine) : OpD X (compareOp .In) (dInK false) := ⟨_, op_inK hu, fun w x y d e W σ Q hw r1 r2 hs => by
  unfold dInK at hs
  split at hs
  · rename_i n l kk hc hk
    obtain ⟨rfl, en⟩ := cellK_eq hc
    obtain ⟨a, ws, rfl, ha, p⟩ := cellK_read (T := kt X) hw r2 en
    refine ⟨a, _, rfl, by rw [keyD_v r1 hk]; exact DGet.k ha, ?_⟩
    have e : (valV ws kk).isSome = (valD l kk).isSome := by
      cases q : valD l kk with
      | none => rw [p.none q]; rfl
      | some d => obtain ⟨vz, ez, _⟩ := p.some q; rw [ez]; rfl
    rw [e]
    rw [Bool.false_xor] at hs
    exact SatW.here (v := V.bl (valD l kk).isSome) hs hw (by unfold RD Rp; rfl)
  · exact hs.elim⟩
theorem od_notInK (hu : X.A.units + 1 < cLine) : OpD X (compareOp .NotIn) (dInK true) := ⟨_, op_notInK hu, fun w x y d e W σ Q hw r1 r2 hs => by
  unfold dInK at hs
  split at hs
  · rename_i n l kk hc hk
    obtain ⟨rfl, en⟩ := cellK_eq hc
    obtain ⟨a, ws, rfl, ha, p⟩ := cellK_read (T := kt X) hw r2 en
    refine ⟨a, _, rfl, by rw [keyD_v r1 hk]; exact DGet.k ha, ?_⟩
    have e : (valV ws kk).isSome = (valD l kk).isSome := by
      cases q : valD l kk with
      | none => rw [p.none q]; rfl
      | some d => obtain ⟨vz, ez, _⟩ := p.some q; rw [ez]; rfl
    rw [e]
    rw [Bool.true_xor] at hs
    exact SatW.here (v := V.bl (!(valD l kk).isSome)) hs hw (by unfold RD Rp; rfl)
  · exact hs.elim⟩
end
/-! ### sorted, of ints -/
def isrt (l : List Int) : List Int := l.mergeSort fun a b => decide (a ≤ b)
theorem isrt_perm (l : List Int) : (isrt l).Perm l := List.mergeSort_perm l _
theorem isrt_sorted (l : List Int) : (isrt l).Pairwise (· ≤ ·) := by
  have := List.pairwise_mergeSort (le := fun a b : Int => decide (a ≤ b)) (fun a b c h1 h2 => by
    rw [decide_eq_true_iff] at *
    omega) (fun a b => by
    rw [Bool.or_eq_true, decide_eq_true_iff, decide_eq_true_iff]
    omega) l
  exact this.imp fun h => of_decide_eq_true h
theorem isrt_uniq {l m : List Int} (p : m.Perm l) (s : m.Pairwise (· ≤ ·)) : m = isrt l :=
  List.Perm.eq_of_pairwise (le := (· ≤ ·)) (fun _ _ _ _ h1 h2 => by omega) s (isrt_sorted l) (p.trans (isrt_perm l).symm)
def intK : List Key → Option (List Int)
  | [] => some []
  | .inl i :: l => (intK l).map (i :: ·)
  | .inr _ :: _ => none
theorem intK_eq : ∀ {l : List Key} {is : List Int}, intK l = some is → l = is.map Sum.inl
  | [], is, h => by cases h; rfl
  | .inl i :: l, is, h => by
    unfold intK at h
    cases q : intK l with
    | none => rw [q] at h; cases h
    | some js => rw [q] at h; cases h; rw [List.map_cons, ← intK_eq q]
  | .inr _ :: l, is, h => by cases h
def bSortK (mk : List D → M D) (l : List D) (S : Store) : Res D := match l with
  | [x] => match cellK x S with
    | some (_, kvs) => match intK (kvs.map (·.1)) with
      | some is => if is.length < 64 then mk ((isrt is).map D.int) S else .bad
      | none => .bad
    | none => .bad
  | _ => .bad
theorem rps_ofints {K : PySem.W.Frag} {r : List Addr} {F : Hp} : ∀ is : List Int, Rps K r F (is.map D.int) (is.map V.int)
  | [] => rps_nil
  | i :: is => by rw [List.map_cons, List.map_cons]; exact rps_cons rpi (rps_ofints is)
theorem cd_sortK {X : Cx} {mk : List D → M D} (m : Mk mk) (hc : X.calm = true) : CallD X (.builtin "sorted") (bSortK mk) := ⟨_, call_sortedDI hc, fun w xs ds W σ Q hw r hs => by
  unfold bSortK at hs
  split at hs
  · rename_i x
    obtain ⟨v, rfl, rv⟩ := one_inv r
    split at hs
    · rename_i n kvs hk
      split at hs
      · rename_i is hi
        obtain ⟨h64, hs⟩ := satIf hs
        obtain ⟨rfl, en⟩ := cellK_eq hk
        obtain ⟨a, ws, rfl, ha, p⟩ := cellK_read (T := kt X) hw rv en
        refine ⟨a, ws, is, rfl, .inl ha, by rw [p.keys]; exact intK_eq hi, h64, fun ys q hp hsr hn => ?_⟩
        rw [isrt_uniq hp hsr]
        exact m.go hw (rps_ofints _) hs q hn
      · exact hs.elim
    · exact hs.elim
  · exact hs.elim⟩
/-! ### list(range(..)) -/
def xLstRg2 (mk : List D → M D) (a b : Env → M D) : Env → M D := fun e S => (a e S).bind fun x S1 => (b e S1).bind fun y S2 => match x, y with
  | .int i, .int j => if 0 ≤ i ∧ j ≤ 16777216 ∧ i ≤ 16777216 ∧ 0 ≤ j then mk (irange i (j - i).toNat) S2 else .bad
  | _, _ => .bad
def xLstRg1 (mk : List D → M D) (b : Env → M D) : Env → M D := fun e S1 => (b e S1).bind fun y S2 => match y with
  | .int j => if j ≤ 16777216 ∧ 0 ≤ j then mk (irange 0 j.toNat) S2 else .bad
  | _ => .bad
theorem rps_irange {K : PySem.W.Frag} {r : List Addr} {F : Hp} (i : Int) : ∀ ns : List Nat, Rps K r F (ns.map fun n => D.int (i + (n : Nat))) (ns.map fun n => V.int (i + (n : Nat)))
  | [] => rps_nil
  | n :: ns => by rw [List.map_cons, List.map_cons]; exact rps_cons rpi (rps_irange i ns)
section
variable {X : Cx} {W : WX} {a b : Expr} {fa fb : Env → M D} {p p2 pos pos2 : Pos} {mk : List D → M D}
theorem pd_listRg2 (m : Mk mk) (hc : X.calm = true) (zr : X.mg "range" = none) (zl : X.mg "list" = none) (ha : PD X W a fa) (hb : PD X W b fb) (hgr : Gl X "range" := by rfl) (hgl : Gl X "list" := by rfl)
    (na : starEach [a, b] X.env = (false, eval a X.env) :: starEach [b] X.env := by rfl) (nb : starEach [b] X.env = (false, eval b X.env) :: starEach [] X.env := by rfl) (hp : (backTo pos2 (starEach [b] X.env)).any (·.1) = false := by rfl)
    (nl : starEach [.Call (.Name "range" p2) [a, b] [] pos2] X.env = (false, eval (.Call (.Name "range" p2) [a, b] [] pos2) X.env) :: starEach [] X.env := by rfl) : PD X W (.Call (.Name "list" p) [.Call (.Name "range" p2) [a, b] [] pos2] [] pos) (xLstRg2 mk fa fb) := by
  refine weakE (pe_listRg hc hgl zl (prg_2 hgr zr ha hb na nb hp) nl) fun σ H Q ⟨w, env, eH, hw, he, hs⟩ => ?_
  subst eH
  refine ⟨w, env, rfl, hw, he, SatW.imp (SatW.bind hs) fun w1 d v g1 r1 s1 => ?_⟩
  refine ⟨w1, env, rfl, g1.wd, he.go g1, SatW.imp (SatW.bind s1) fun w2 d2 v2 g2 r2 s2 => ?_⟩
  split at s2
  · rename_i i j
    obtain ⟨hk, s2⟩ := satIf s2
    refine ⟨i, j, rp_int r1, rp_int r2, RgOk.of_le hk.1 hk.2.1 hk.2.2.1 hk.2.2.2, fun q hn => ?_⟩
    exact m.go g2.wd (rps_irange i _) s2 q hn
  · exact s2.elim
theorem pd_listRg1 (m : Mk mk) (hc : X.calm = true) (zr : X.mg "range" = none) (zl : X.mg "list" = none) (hb : PD X W b fb) (hgr : Gl X "range" := by rfl) (hgl : Gl X "list" := by rfl)
    (nb : starEach [b] X.env = (false, eval b X.env) :: starEach [] X.env := by rfl)
    (nl : starEach [.Call (.Name "range" p2) [b] [] pos2] X.env = (false, eval (.Call (.Name "range" p2) [b] [] pos2) X.env) :: starEach [] X.env := by rfl) : PD X W (.Call (.Name "list" p) [.Call (.Name "range" p2) [b] [] pos2] [] pos) (xLstRg1 mk fb) := by
  refine weakE (pe_listRg hc hgl zl (prg_1 hgr zr hb nb) nl) fun σ H Q ⟨w, env, eH, hw, he, hs⟩ => ?_
  subst eH
  refine ⟨w, env, rfl, hw, he, SatW.imp (SatW.bind hs) fun w2 d2 v2 g2 r2 s2 => ?_⟩
  split at s2
  · rename_i j
    obtain ⟨hk, s2⟩ := satIf s2
    refine ⟨j, rp_int r2, RgOk.of_le (by omega) hk.1 (by omega) hk.2, fun q hn => ?_⟩
    have e : (j - 0).toNat = j.toNat := by rw [Int.sub_zero]
    unfold rgV
    rw [e]
    exact m.go g2.wd (rps_irange 0 _) s2 q hn
  · exact s2.elim
end
end Dv
/-! # Dv19: own exception classes with their own __init__ -/
namespace Dv
open PySem PySem.Spec PyProof.Rows L2
section
variable {X : Cx} {o e : Expr} {es : List Expr} {ta : TA} {B : Addr} {x : Str} {p p1 p2 pos : Pos}
/-- B.__init__(self, ..), B an own class without __init__ over ValueError -/
theorem pe_binit {pl : Sem Bool} {mc : Value} (hg : Gl X x) (hm : X.mg x = some (.ref B)) (sG : PySem.W.specialIn X.K (.ref B) "__getattribute__" = some (some (.builtin "type.__getattribute__"))) (rB : PySem.W.readsIn X.K B mc = true)
    (vV : PySem.W.findCls X.K (.ref B) mc "__init__" = some (.val (.builtin "ValueError.__init__"))) (ha : PA X (e :: es) ta) (hdb : (x == ("__debug__" : Str)) = false := by decide)
    (hc : eval (.Call (.Attribute (.Name x p1) "__init__" p2) (e :: es) [] pos) X.env = (do
      let ov ← eval (.Name x p1) X.env
      standAt p2.atName
      let (f, first) ← holding [ov] (getMethod ov "__init__" pl)
      callWith pos f first (backTo pos (starEach (e :: es) X.env)) (backToKw pos (keywordEach [] X.env))) := by rfl)
    (he : starEach (e :: es) X.env = (false, eval e X.env) :: starEach es X.env := by rfl) (hpl : (backTo pos (starEach es X.env)).any (·.1) = false := by rfl) :
    PE X (.Call (.Attribute (.Name x p1) "__init__" p2) (e :: es) [] pos) (tVeI X.K ta) := by
  refine ⟨fun pins s σ H Q I h => ?_⟩
  refine PySem.W.methodCall_KW (ld_glob I hg hm ?_ hdb) hc
  refine PySem.W.method_cls I.kIn sG ?_
  refine PySem.W.cls_value I.kIn rB vV (by decide +kernel) ?_
  show wpAny _ _ (callWith pos (Value.builtin "ValueError.__init__") [] (backTo pos (starEach (e :: es) X.env)) []) _ _ _
  refine PyProof.Rows.callWith_method1 (thn (ha.run pos pins _ σ H _ (I.tok _) h) fun us s1 ⟨vs, H1, I1, r1, a, C, ws, ev, hl, T, ea, q⟩ => ?_) he hpl
  subst ev
  cases r1 with
  | @cons _ u0 _ ur ra rw' =>
    obtain rfl : u0 = Value.ref a := ra
    have hlen : ur.length ≤ sizeLine := by
      rw [← Paired.length rw', sizeLine_eq]
      omega
    exact oinit_ok T I1 ea hlen fun s' J => ⟨.non, H1, J, rfl, q⟩
end
/-- what the __init__ of C does: the one field f is set -/
def spI (K : PySem.W.Frag) (C : Addr) (f : Str) : Sp := fun vs H Q _ => ∃ (a : Addr) (i : Int), vs = [.ref a, .int i] ∧ H a = some (exo a C none) ∧ ∀ dx, H dx = none → dx ≠ a → Q .non (upd (upd H dx (exd dx [(f, .int i)])) a (exo a C (some dx)))
def yRaiseI (c f : Str) (h : Env → M (List D)) : Env → Store → Out := fun e S => (h e S).out e fun l S1 => match l with
  | [.int i] => .exc ⟨c, some (f, i)⟩ e S1
  | _ => .bad
section
variable {X : Cx} {W : WX} {x f : Str} {e : Expr} {h : Env → M (List D)} {p pos pos2 : Pos} {C fI : Addr} {CX : CXT} {k : Nat} {fd : FuncData} {ps : List Str}
theorem upd_back {H : Hp} {a d : Addr} {o1 o2 o3 o4 : HO} (hn : H a = none) (hd : d ≠ a) : upd (del (upd (upd (upd H a o1) d o2) a o3) a) d o4 = upd H d o4 := by
  funext b
  by_cases q : b = d
  · subst q; rw [upd_same, upd_same]
  · rw [upd_ne q, upd_ne q]
    by_cases q2 : b = a
    · subst q2; rw [del_same, hn]
    · rw [del_ne q2, upd_ne q2, upd_ne q, upd_ne q2]
theorem psd_raiseI (hc : X.calm = true) (tk : Takes X W) (n : ClsAt X.K x C) (T : OexC X.K C) (iC : PySem.W.findIn X.K (.ref C) "__init__" = some (some (.ref fI))) (tI : PySem.W.typeIn X.K (.ref fI) = some (.type "function"))
    (F1 : FnOk X.prog X.w X.K X.mg X.base CX k fI fd ps (spI X.K C f)) (hr : Room (k + 1) X.A) (hb : Binds X.K fd ps []) (hx : Passes CX X (fun _ _ _ => False)) (hm : X.mg x = some (.ref C)) (ha : PAD X W [e] h) (hg : Gl X x := by rfl)
    (hdb : (x == ("__debug__" : Str)) = false := by decide) (he : starEach [e] X.env = (false, eval e X.env) :: starEach [] X.env := by rfl) (hpl : (backTo pos (starEach [] X.env)).any (·.1) = false := by rfl) :
    PSD X W (.Raise (some (.Call (.Name x p) [e] [] pos)) none pos2) (yRaiseI x f h) := by
  refine weakS (ps_raise hc tk (pmk_oex T iC tI F1 hr hb (ds := []) (dvs := []) .nil hx hg hm ha hdb he hpl)) fun D σ H ⟨w, env, eH, hw, hev, hs⟩ => ?_
  subst eH
  refine ⟨w, env, rfl, hw, hev, SatW.imp (SatS.out hs hev) fun w1 l vs g1 r1 s1 => ?_⟩
  split at s1
  · rename_i i
    obtain ⟨v, rfl, rv⟩ := one_inv r1
    rw [rp_int rv]
    refine ⟨by simp, fun a hn => ⟨a, i, rfl, upd_same, fun d hd hda => ⟨rfl, d, [(f, .int i)], upd_same, ?_, ?_, ?_⟩⟩⟩
    · rw [upd_ne hda, upd_same]
    · rwa [upd_ne hda] at hd
    · have hd1 : w1.H d = none := by rwa [upd_ne hda] at hd
      rw [upd_back hn hda]
      exact s1 ⟨w1.r, upd w1.F d (.xd [(f, .int i)]), w1.S, upd w1.H d (.xd [(f, .int i)])⟩ σ (.ref C) (some d) (Go.alloc g1.wd hd1) rfl ((hev.go g1).go (Go.alloc g1.wd hd1)) ⟨C, n, rfl, d, rfl, upd_same⟩
  · exact s1.elim
end
/-! ### e.f of a kept exception -/
def xFldL (L : List Str) (f : Str) (g : Env → M D) : Env → M D := fun e S => (g e S).bind fun d S1 => match d with
  | .exn c (some (f', i)) => if f' = f ∧ c ∈ L then .ok (.int i) S1 else .bad
  | _ => .bad
section
variable {X : Cx} {W : WX} {e : Expr} {g : Env → M D} {pos : Pos} {f : Str}
theorem pe_xfK {te : TE} (he : PE X e te) (hb : attributeBase e f X.env (eval e X.env) = eval e X.env := by rfl) :
    PE X (.Attribute e f pos) (fun σ H Q => te σ H fun x H1 => ∃ (a C dd : Addr) (fs : List (Str × V)) (v : V), x = .ref a ∧ H1 a = some (ExH (.ref C) (some dd) a) ∧ XfC X.K C ∧ PySem.W.findIn X.K (.ref C) f = some none ∧ H1 dd = some (.xd fs) ∧ fs.lookup f = some v ∧ Q v H1) := by
  refine ⟨fun pins s σ H Q I h => ?_⟩
  refine attr_of hb (thn (he.run pins s σ H _ I h) fun u s1 hh => ?_)
  obtain ⟨x, H1, I1, rx, a, C, dd, fs, v, ex, eh, T, hno, ea, l, q⟩ := hh
  subst ex
  obtain rfl : u = Value.ref a := rx
  obtain ⟨oe, vs, ha, hz, hd⟩ := (I1.hok a _ eh).1
  have hx : ObjOk X.prog X.w H1 s1.heap dd (.xd fs) := I1.hok dd _ ea
  obtain ⟨mA, hns, hr⟩ := hx
  obtain ⟨od, ho, hl⟩ := lookIn_ns hns
  obtain ⟨u, hu, ru⟩ := RelO.some_of (v := v) (o := mA f) (by rw [← l]; exact hr f)
  have J : PySem.W.InstAt s1.heap a oe C (some od) := ⟨ha, hz.1, by unfold PySem.W.notCls; rw [hd] <;> rfl, by rw [hz.2]; exact ho⟩
  exact HandSPX.exc_get I1.kIn J T.ga T.gg T.exC (PySem.W.findObj_own T.hdC hno rfl (by rw [hl, hu])) (handed_of ru) ⟨v, H1, I1.tok _, ru, q⟩
theorem pd_fldL {L : List Str} (fc : ∀ c ∈ L, FldC X.K f c) (he : PD X W e g) (hb : attributeBase e f X.env (eval e X.env) = eval e X.env := by rfl) : PD X W (.Attribute e f pos) (xFldL L f g) := by
  refine weakE (pe_xfK he hb) fun σ H Q ⟨w, env, eH, hw, hev, hs⟩ => ?_
  subst eH
  refine ⟨w, env, rfl, hw, hev, SatW.imp (SatW.bind hs) fun w1 d v g1 r1 s1 => ?_⟩
  split at s1
  · rename_i c f' i
    obtain ⟨hk, s2⟩ := satIf s1
    obtain ⟨hf, hc⟩ := hk
    subst hf
    unfold RD Rp at r1
    obtain ⟨a, C, d, rfl, hC, hF, dd, rfl, hdd⟩ := r1
    obtain ⟨hno, T⟩ := fc c hc C hC
    refine ⟨a, C, dd, _, .int i, rfl, g1.wd.same _ _ hF, T, hno, g1.wd.same _ _ hdd, by simp, s2 w1 (V.int i) (Go.refl g1.wd) rfl (by unfold RD; exact rpi)⟩
  · exact s1.elim
end
theorem fld_of {K : PySem.W.Frag} {mg : Str → Option Value} {c f : Str} {C : Addr} (h1 : Rc K mg c C) (hf : PySem.W.findIn K (.ref C) f = some none) : FldC K f c := fun C' e1 => by
  have e3 : C = C' := ClsAt.uniq h1.n e1
  subst e3
  exact ⟨hf, ⟨h1.e.hg, h1.e.hk, h1.b, h1.e.hd⟩⟩
end Dv
/-! # Dv20: reckoning where exceptions may be told -/
namespace Dv
open PySem PySem.Spec PyProof.Rows L2
structure Enx {α : Type} (x : Res α) (P : α → Store → Prop) (X : Exn → Store → Prop) : Prop where
  go : match x with
    | .ok a S => P a S
    | .exc y S => X y S
    | .bad => False
structure EnxO (o : Out) (Q : Pst) (X : Exn → Env → Store → Prop) : Prop where
  go : match o with
    | .exc y e S => X y e S
    | o => EnO0 o Q
section
variable {α β : Type} {x : Res α} {a : α} {S : Store} {P : α → Store → Prop} {X : Exn → Store → Prop} {Y : Exn → Env → Store → Prop} {Q : Pst} {e : Env} {d : D} {y : Exn}
@[simp] theorem enx_ok : Enx (.ok a S) P X = P a S := propext ⟨fun h => h.go, fun h => ⟨h⟩⟩
@[simp] theorem enx_exc : Enx (.exc y S : Res α) P X = X y S := propext ⟨fun h => h.go, fun h => ⟨h⟩⟩
@[simp] theorem enx_bad : Enx (.bad : Res α) P X = False := propext ⟨fun h => h.go, fun h => h.elim⟩
@[simp] theorem enx_bind {k : α → Store → Res β} {P : β → Store → Prop} : Enx (x.bind k) P X = Enx x (fun a S => Enx (k a S) P X) X := by cases x <;> simp
theorem Enx.imp {P' : α → Store → Prop} {X' : Exn → Store → Prop} (h : Enx x P X) (q : ∀ a S, P a S → P' a S) (r : ∀ y S, X y S → X' y S) : Enx x P' X' := by
  cases x with
  | ok a S => exact ⟨q _ _ h.go⟩
  | exc y S => exact ⟨r _ _ h.go⟩
  | bad => exact ⟨h.go⟩
theorem Ens.toX (h : Ens x P) : Enx x P X := by
  cases x with
  | ok a S => exact ⟨h.go⟩
  | exc y S => exact h.go.elim
  | bad => exact ⟨h.go⟩
theorem enx_ite {c : Prop} [Decidable c] {y : Res α} (h1 : c → Enx x P X) (h2 : ¬ c → Enx y P X) : Enx (if c then x else y) P X := by
  split
  · exact h1 (by assumption)
  · exact h2 (by assumption)
@[simp] theorem enxo_nx : EnxO (.nx e S) Q Y = Q.nx e S := propext ⟨fun h => h.go, fun h => ⟨h⟩⟩
@[simp] theorem enxo_rt : EnxO (.rt d S) Q Y = Q.rt d S := propext ⟨fun h => h.go, fun h => ⟨h⟩⟩
@[simp] theorem enxo_bk : EnxO (.bk e S) Q Y = Q.bk e S := propext ⟨fun h => h.go, fun h => ⟨h⟩⟩
@[simp] theorem enxo_ct : EnxO (.ct e S) Q Y = Q.ct e S := propext ⟨fun h => h.go, fun h => ⟨h⟩⟩
@[simp] theorem enxo_exc : EnxO (.exc y e S) Q Y = Y y e S := propext ⟨fun h => h.go, fun h => ⟨h⟩⟩
@[simp] theorem enxo_bad : EnxO .bad Q Y = False := propext ⟨fun h => h.go, fun h => h.elim⟩
@[simp] theorem enxo_out {k : α → Store → Out} : EnxO (x.out e k) Q Y = Enx x (fun a S => EnxO (k a S) Q Y) (fun y S => Y y e S) := by cases x <;> simp
@[simp] theorem enxo_seq {o : Out} {k : Env → Store → Out} : EnxO (o.seq k) Q Y = EnxO o { Q with nx := fun e S => EnxO (k e S) Q Y } Y := by cases o <;> simp
theorem EnsO.toX {o : Out} (h : EnsO o Q) : EnxO o Q Y := by
  cases o with
  | exc y e S => exact h.go.elim
  | _ => exact ⟨h.go⟩
theorem EnxO.imp {o : Out} {Q' : Pst} {Y' : Exn → Env → Store → Prop} (h : EnxO o Q Y) (h1 : ∀ e S, Q.nx e S → Q'.nx e S) (h2 : ∀ e S, Q.rt e S → Q'.rt e S) (h3 : ∀ e S, Q.bk e S → Q'.bk e S) (h4 : ∀ e S, Q.ct e S → Q'.ct e S) (h5 : ∀ y e S, Y y e S → Y' y e S) : EnxO o Q' Y' := by
  cases o with
  | nx e S => exact ⟨h1 _ _ h.go⟩
  | rt e S => exact ⟨h2 _ _ h.go⟩
  | bk e S => exact ⟨h3 _ _ h.go⟩
  | ct e S => exact ⟨h4 _ _ h.go⟩
  | exc y e S => exact ⟨h5 _ _ _ h.go⟩
  | bad => exact ⟨h.go⟩
theorem enxo_ite {c : Prop} [Decidable c] {o p : Out} (h1 : c → EnxO o Q Y) (h2 : ¬ c → EnxO p Q Y) : EnxO (if c then o else p) Q Y := by
  split
  · exact h1 (by assumption)
  · exact h2 (by assumption)
end
theorem enx_fn {np ns : Nat} {keep : Bool} {body : Env → Store → Out} {ds : List D} {S : Store} {P : D → Store → Prop} {X : Exn → Store → Prop} (hl : ds.length = np)
    (h : EnxO (body (ds.map some ++ List.replicate (ns - np) none) S) { nx := fun _ S' => Enx (fin keep S.length .non S') P X, rt := fun d S' => Enx (fin keep S.length d S') P X } fun y _ S' => Enx (finX S.length y S') P X) : Enx (fnD np ns keep body ds S) P X := by
  unfold fnD
  rw [if_pos hl]
  cases o : body (ds.map some ++ List.replicate (ns - np) none) S with
  | nx e S => rw [o] at h; exact h.go
  | rt e S => rw [o] at h; exact h.go
  | bk e S => rw [o] at h; exact h.go.elim
  | ct e S => rw [o] at h; exact h.go.elim
  | exc y e S => rw [o] at h; exact h.go
  | bad => rw [o] at h; exact h.go.elim
@[simp] theorem finX_same {S : Store} {y : Exn} : finX S.length y S = .exc y S := by simp [finX]
theorem finX_cut {S R : Store} {y : Exn} (hu : (S.all fun c => c.under S.length) = true) : finX S.length y (S ++ R) = .exc y S := by
  unfold finX
  by_cases z : (S ++ R).length = S.length
  · rw [if_pos z]
    have : R = [] := List.length_eq_zero_iff.mp (by rw [List.length_append] at z; omega)
    subst this
    simp
  · rw [if_neg z, List.take_left, hu]
    rfl
theorem enx_sq {y y' : Env → Store → Out} {e : Env} {S : Store} {Q : Pst} {Y : Exn → Env → Store → Prop} (R : Env → Store → Prop) (h1 : ∀ R' : Env → Store → Prop, (∀ e S, R e S → R' e S) → EnxO (y e S) { Q with nx := R' } Y) (h2 : ∀ e S, R e S → EnxO (y' e S) Q Y) : EnxO (ySeq y y' e S) Q Y := by
  have h := h1 R fun _ _ h => h
  unfold ySeq
  rw [enxo_seq]
  exact h.imp h2 (fun _ _ h => h) (fun _ _ h => h) (fun _ _ h => h) (fun _ _ _ h => h)
theorem enx_fr {g : D → Env → Store → Out} {b : Env → Store → Out} {Q : Pst} {Y : Exn → Env → Store → Prop} (I : Nat → Env → Store → Prop) : ∀ {items : List D} {e : Env} {S : Store}, I 0 e S →
    (∀ (i : Nat) d e S (R' : Env → Store → Prop), items[i]? = some d → I i e S → (∀ e S, I (i + 1) e S → R' e S) → EnxO (g d e S) { nx := fun e1 S1 => EnxO (b e1 S1) { nx := R', ct := R', bk := Q.nx, rt := Q.rt } Y } fun _ _ _ => False) →
    (∀ e S, I items.length e S → Q.nx e S) → EnxO (forL (fun _ => True) g b items e S) Q Y := by
  have go : ∀ (items : List D) (I : Nat → Env → Store → Prop) (e : Env) (S : Store), I 0 e S →
    (∀ (i : Nat) d e S (R' : Env → Store → Prop), items[i]? = some d → I i e S → (∀ e S, I (i + 1) e S → R' e S) → EnxO (g d e S) { nx := fun e1 S1 => EnxO (b e1 S1) { nx := R', ct := R', bk := Q.nx, rt := Q.rt } Y } fun _ _ _ => False) →
    (∀ e S, I items.length e S → Q.nx e S) → EnxO (forL (fun _ => True) g b items e S) Q Y := by
    intro items
    induction items with
    | nil =>
      intro I e S h0 _ hd
      unfold forL
      rw [if_pos trivial, enxo_nx]
      exact hd e S h0
    | cons d l ih =>
      intro I e S h0 hs hd
      unfold forL
      rw [if_pos trivial]
      have h1 := hs 0 d e S (I 1) rfl h0 fun _ _ h => h
      have next : ∀ e' S', I 1 e' S' → EnxO (forL (fun _ => True) g b l e' S') Q Y := fun e' S' q => ih (fun i => I (i + 1)) e' S' q (fun i d' e2 S2 R' hi hI hR => hs (i + 1) d' e2 S2 R' hi hI hR) fun e2 S2 q2 => hd e2 S2 q2
      cases o : g d e S with
      | nx e1 S1 =>
        rw [o, enxo_nx] at h1
        dsimp only at h1 ⊢
        cases o2 : b e1 S1 with
        | nx e2 S2 => rw [o2, enxo_nx] at h1; exact next _ _ h1
        | ct e2 S2 => rw [o2, enxo_ct] at h1; exact next _ _ h1
        | bk e2 S2 => rw [o2, enxo_bk] at h1; dsimp only; rw [enxo_nx]; exact h1
        | rt e2 S2 => rw [o2, enxo_rt] at h1; dsimp only; rw [enxo_rt]; exact h1
        | exc y e2 S2 => rw [o2, enxo_exc] at h1; dsimp only; rw [enxo_exc]; exact h1
        | bad => rw [o2, enxo_bad] at h1; exact h1.elim
      | rt e1 S1 => rw [o, enxo_rt] at h1; exact h1.elim
      | bk e1 S1 => rw [o, enxo_bk] at h1; exact h1.elim
      | ct e1 S1 => rw [o, enxo_ct] at h1; exact h1.elim
      | exc y e1 S1 => rw [o, enxo_exc] at h1; exact h1.elim
      | bad => rw [o, enxo_bad] at h1; exact h1.elim
  intro items e S h0 hs hd
  exact go items I e S h0 hs hd
section
variable {oo : Option D} {ll : Env} {S S' : Store} {e e' : Env} {x : Exn} {c d f : Str} {i j : Nat} {g : Env → Store → Out} {h : Env → M (List D)} {g' : Env → M D} {L : List (Str × Str × Bool)} {R : List Str} {Q : Pst} {Y : Exn → Env → Store → Prop}
@[simp] theorem yRaiseI_app : yRaiseI c f h (oo :: ll) S = (h (oo :: ll) S).out (oo :: ll) fun l S1 => match l with
  | [.int i] => .exc ⟨c, some (f, i)⟩ (oo :: ll) S1
  | _ => .bad := rfl
@[simp] theorem xFldL_app {R : List Str} : xFldL R f g' (oo :: ll) S = (g' (oo :: ll) S).bind fun d S1 => match d with
  | .exn c (some (f', i)) => if f' = f ∧ c ∈ R then .ok (.int i) S1 else .bad
  | _ => .bad := rfl
/-- a suite that tells, or raises what is caught and kept -/
theorem enx_try (h : EnxO (g e S) Q fun y e' S' => subT L y.cls d = some true ∧ ∃ o, e'[i]? = some o ∧ Q.nx ((e'.set j (some (.exn y.cls y.val))).set i none) S') : EnsO (yTryKeep L d i j g e S) Q := by
  cases o : g e S with
  | exc y e2 S2 =>
    rw [o, enxo_exc] at h
    obtain ⟨h1, o', h2, h3⟩ := h
    rw [yTry_exc o h1 h2, enso_nx]
    exact h3
  | nx e2 S2 => rw [o, enxo_nx] at h; unfold yTryKeep; rw [o]; exact ⟨h⟩
  | rt e2 S2 => rw [o, enxo_rt] at h; unfold yTryKeep; rw [o]; exact ⟨h⟩
  | bk e2 S2 => rw [o, enxo_bk] at h; unfold yTryKeep; rw [o]; exact ⟨h⟩
  | ct e2 S2 => rw [o, enxo_ct] at h; unfold yTryKeep; rw [o]; exact ⟨h⟩
  | bad => rw [o, enxo_bad] at h; exact h.elim
end
end Dv
/-! # Dv21: {k: v}, d.setdefault, len(set(..)); defs that call themselves -/
namespace Dv
open PySem PySem.Spec PyProof.Rows L2
theorem fn_bad {P : Program} {w : World} {K : PySem.W.Frag} {mg : Str → Option Value} {base : Heap} {CX : CXT} {k : Nat} {f : Addr} {fd : FuncData} {ps : List Str} : FnOk P w K mg base CX k f fd ps (spD ⟨K, mg⟩ fun _ _ => .bad) := by
  refine ⟨fun vs H Q E ⟨wl, ds, _, _, _, hs⟩ => hs.elim, fun A outer s H args us vs Q E _ _ _ _ ⟨wl, ds, _, _, _, hs⟩ => hs.elim⟩
/-! ### {k: v} -/
def xDct1 (f g : Env → M D) : Env → M D := fun e S => (f e (S ++ [.dct []])).bind fun k S1 => (g e S1).bind fun v S2 => match keyD k, S2[S.length]? with
  | some kk, some (.dct []) => .ok (.cell S.length) (S2.set S.length (.dct [(kk, v)]))
  | _, _ => .bad
section
variable {X : Cx} {W : WX} {o i e f k v : Expr} {fo fi fe ff fk fv : Env → M D} {pos apos cpos : Pos}
theorem pd_dct1 (hk : PD X W k fk) (hv : PD X W v fv) : PD X W (.Dict [some k] [v] pos) (xDct1 fk fv) := by
  refine weakE (pe_disp (pps_cons hk hv pps_nil) rfl rfl (by simp) (by simp)) fun σ H Q ⟨w, env, eH, hw, he, hs⟩ p hp => ?_
  subst eH
  have g0 : Go X.K w ⟨w.r ++ [p], w.F, w.S ++ [.dct []], upd w.H p (.dK [])⟩ := Go.newCell (c := .dct []) hw hp (by exact ⟨hw.fresh hp, [], upd_same, .nil⟩)
  have hat : (w.r ++ [p])[w.S.length]? = some p := by
    rw [← hw.len, List.getElem?_append_right (Nat.le_refl _), Nat.sub_self]
    rfl
  unfold xDct1 at hs
  refine ⟨⟨w.r ++ [p], w.F, w.S ++ [.dct []], upd w.H p (.dK [])⟩, env, rfl, g0.wd, he.go g0, SatW.imp (SatW.bind (hs.pre g0)) fun w1 d1 v1 g1 r1 s1 => ?_⟩
  refine ⟨w1, env, rfl, g1.wd, (he.go g0).go g1, SatW.imp (SatW.bind s1) fun w2 d2 v2 g2 r2 s2 => ?_⟩
  have cellAt : RD (kt X).K w2 (.cell w.S.length) (.ref p) := by
    have h0 : Rp X.K (w.r ++ [p]) w.F (.cell w.S.length) (.ref p) := by unfold Rp; exact ⟨p, hat, rfl⟩
    exact Rp.go (g1.trans g2) (w := ⟨w.r ++ [p], w.F, w.S ++ [.dct []], upd w.H p (.dK [])⟩) h0
  split at s2
  · rename_i kk hk2 hc
    obtain ⟨a, ws, ea, ha, pp, go⟩ := cellK_write (T := kt X) (l' := [(kk, d2)]) g2.wd cellAt hc
    cases ea
    cases pp.length ▸ (show ws.length = 0 from pp.length)
    have ew : ws = [] := List.length_eq_zero_iff.mp pp.length
    subst ew
    rw [keyD_v r1 hk2]
    refine ⟨ha, [(kk, v2)], rfl, by simp, ?_⟩
    have g3 := go [(kk, v2)] (.cons ⟨rfl, r2⟩ .nil)
    exact s2 _ (.ref p) g3 rfl (Rp.go g3 cellAt)
  · exact s2.elim
def dSetd (x k z : D) (S : Store) : Res D := match cellK x S, keyD k with
  | some (n, l), some kk => if l.length < 16000000 then match valD l kk with
    | some d => .ok d S
    | none => .ok z (S.set n (.dct (putD l kk z)))
    else .bad
  | _, _ => .bad
def xSetd (o e f : Env → M D) : Env → M D := fun n S => (o n S).bind fun x S1 => if isK x S1 = true then (e n S1).bind fun k S2 => (f n S2).bind fun z S3 => dSetd x k z S3 else .bad
theorem pd_setd (ho : PD X W o fo) (he : PD X W e fe) (hf : PD X W f ff) (m : M2 X o "setdefault" apos e f cpos := by exact ⟨rfl, rfl, rfl, rfl⟩) : PD X W (.Call (.Attribute o "setdefault" apos) [e, f] [] cpos) (xSetd fo fe ff) := by
  refine weakE (pe_dsetd ho he hf m) fun σ H Q ⟨w, env, eH, hw, he, hs⟩ => ?_
  subst eH
  refine ⟨w, env, rfl, hw, he, SatW.imp (SatW.bind hs) fun w1 d v g1 r1 s1 => ?_⟩
  obtain ⟨hk, s1⟩ := satIf s1
  obtain ⟨a, rfl, hd⟩ := isK_isD g1.wd r1 hk
  refine ⟨a, rfl, hd, w1, env, rfl, g1.wd, he.go g1, SatW.imp (SatW.bind s1) fun w2 d2 v2 g2 r2 s2 => ?_⟩
  refine ⟨w2, env, rfl, g2.wd, (he.go g1).go g2, SatW.imp (SatW.bind s2) fun w3 d3 v3 g3 r3 s3 => ?_⟩
  have r1' := Rp.go (g2.trans g3) r1
  have r2' := Rp.go g3 r2
  unfold dSetd at s3
  split at s3
  · rename_i n l kk hc hk2
    obtain ⟨hl, s3⟩ := satIf s3
    obtain ⟨rfl, en⟩ := cellK_eq hc
    obtain ⟨a', ws, ea, ha, p, go⟩ := cellK_write (T := kt X) (l' := putD l kk d3) g3.wd r1' en
    cases ea
    refine ⟨ws, kk, ha, keyD_v r2 hk2, by rw [p.length]; exact Nat.lt_of_lt_of_le hl (line16 (Nat.le_refl _)), fun vz ez => ?_, fun ez => ?_⟩
    · cases q : valD l kk with
      | none => rw [p.none q] at ez; cases ez
      | some d =>
        rw [q] at s3
        obtain ⟨vz', ez', rz⟩ := p.some q
        rw [ez'] at ez
        cases ez
        exact SatW.here (v := vz) s3 g3.wd rz
    · cases q : valD l kk with
      | some d =>
        obtain ⟨vz', ez', rz⟩ := p.some q
        rw [ez'] at ez
        cases ez
      | none =>
        rw [q] at s3
        have g4 := go _ (p.put kk r3)
        exact s3 _ v3 g4 rfl (Rp.go g4 r3)
  · exact s3.elim
end
/-! ### len(set(xs)) -/
def dedup (ns : List Int) : List Int := firstMet (fun i => ns.getD i 0) ns.length
def tLenSetX (K : PySem.W.Frag) (ta : TE) : TE := fun σ H Q => ta σ H fun x H1 => ∃ (l : Addr) (ns : List Int), x = V.ref l ∧ SqL K H1 l (ns.map V.int) ∧ ns.length ≤ 4000 ∧ Q (.int (dedup ns).length) H1
section
variable {X : Cx} {W : WX}
theorem pe_lenSetX {a : Expr} {ta : TE} {p p2 q pos : Pos} (hc : X.calm = true) (hg : Gl X "len") (hm : X.mg "len" = none) (hg2 : Gl X "set") (hm2 : X.mg "set" = none) (ha : PE X a ta)
    (na : starEach [a] X.env = (false, eval a X.env) :: starEach [] X.env := by rfl) : PE X (.Call (.Name "len" p) [.Call (.Name "set" p2) [a] [] q] [] pos) (tLenSetX X.K ta) := by
  refine ⟨fun pins s σ H Q I h => ?_⟩
  refine Call_ (ld_blt I hg hm PySem.boot_len ?_)
  refine PyProof.Rows.callWith_builtin1 (PyProof.Rows.args_cons ?_ rfl) rfl rfl
  refine Call_ (ld_blt I hg2 hm2 PyProof.Rows.boot_set ?_)
  refine PyProof.Rows.callWith_type1 (PyProof.Rows.args_cons (thn (ha.run pins s σ H _ I h) fun v s1 ⟨x, H1, I1, r1, q1⟩ => PyProof.Rows.args_nil ?_) na) na rfl
  obtain ⟨l, ns, rfl, hq, h1, q1⟩ := q1
  cases r1
  obtain ⟨its, r, pl, hz⟩ := I1.list hq
  have hl : its.toArray.size = ns.length := by rw [List.size_toArray, ← r.length, List.length_map]
  refine call_set_list (I1.ok.hd hc) pl.isList (ns := ns) (by simpa using r.ints) (by unfold scanBound; omega) fun h' tk hS hk => ?_
  rw [hl] at hS
  have hle := firstMet_length_le (fun i => ns.getD i 0) ns.length
  refine PyProof.Rows.args_nil ?_
  obtain ⟨o, es, ep, t, ho, hex, hd, _, _, _, hf, hn⟩ := hS
  have I2 : Inv X pins σ H1 { s1 with heap := h', toks := tk } := I1.kept fun b o e => hk b o (Heap.lt_size e) e
  refine call_len_set ho hex hd hf (by rw [hn] <;> omega) ⟨.int (dedup ns).length, H1, I2.tok _, ⟨_, by rw [hn]; rfl⟩, q1⟩
def dLenSet (d : D) (S : Store) : Res D := match (getQ d S).bind intsOf with
  | some ns => if ns.length ≤ 4000 then .ok (.int (dedup ns).length) S else .bad
  | none => .bad
def xLenSet (f : Env → M D) : Env → M D := fun e S => (f e S).bind dLenSet
theorem pd_lenSet {a : Expr} {f : Env → M D} {p p2 q pos : Pos} (hc : X.calm = true) (hm : X.mg "len" = none) (hm2 : X.mg "set" = none) (ha : PD X W a f) (hg : Gl X "len" := by rfl) (hg2 : Gl X "set" := by rfl)
    (na : starEach [a] X.env = (false, eval a X.env) :: starEach [] X.env := by rfl) : PD X W (.Call (.Name "len" p) [.Call (.Name "set" p2) [a] [] q] [] pos) (xLenSet f) := by
  refine weakE (pe_lenSetX hc hg hm hg2 hm2 ha na) fun σ H Q ⟨w, env, eH, hw, he, hs⟩ => ?_
  subst eH
  refine ⟨w, env, rfl, hw, he, SatW.imp (SatW.bind hs) fun w1 d v g1 r1 s1 => ?_⟩
  unfold dLenSet at s1
  cases hn : (getQ d w1.S).bind intsOf with
  | none => rw [hn] at s1; exact s1.elim
  | some ns =>
    rw [hn] at s1
    obtain ⟨hl, s1⟩ := satIf s1
    obtain ⟨a, rfl, hq⟩ := ints_of g1.wd r1 hn
    exact ⟨a, ns, rfl, hq, hl, SatW.here (v := V.int _) s1 g1.wd rpi⟩
end
theorem dedup_mem (ns : List Int) (k : Int) : k ∈ dedup ns ↔ k ∈ ns := by
  have e : (List.range ns.length).map (fun i => ns.getD i 0) = ns := by
    apply List.ext_getElem
    · simp
    · intro i h1 h2
      simp at h1 ⊢
      rw [List.getElem?_eq_getElem h2]
      rfl
  have h := firstMet_any (fun i => ns.getD i 0) ns.length k
  rw [e] at h
  have z : ∀ l : List Int, (l.any (· == k)) = true ↔ k ∈ l := fun l => by
    rw [List.any_eq_true]
    constructor
    · rintro ⟨x, hx, q⟩
      rw [← beq_iff_eq.mp q]; exact hx
    · exact fun hk => ⟨k, hk, beq_self_eq_true _⟩
  unfold dedup
  rw [← z, ← z, h]
theorem dedup_nodup (ns : List Int) : (dedup ns).Nodup := by
  have go : ∀ (val : Nat → Int) (i : Nat), (firstMet val i).Nodup := by
    intro val i
    induction i with
    | zero => rw [firstMet_zero]; exact List.nodup_nil
    | succ i ih =>
      rw [firstMet_succ]
      unfold step_dedup
      split
      · exact ih
      · rename_i h
        refine List.nodup_append.mpr ⟨ih, by simp, fun a ha b hb => ?_⟩
        rw [List.mem_singleton.mp hb]
        intro z
        exact h (List.any_eq_true.mpr ⟨a, ha, by rw [z]; exact beq_self_eq_true _⟩)
  exact go _ _
section
variable {oo : Option D} {ll : Env} {S : Store} {f g h : Env → M D}
@[simp] theorem xLenSet_app : xLenSet f (oo :: ll) S = (f (oo :: ll) S).bind dLenSet := rfl
@[simp] theorem xDct1_app : xDct1 f g (oo :: ll) S = (f (oo :: ll) (S ++ [.dct []])).bind fun k S1 => (g (oo :: ll) S1).bind fun v S2 => match keyD k, S2[S.length]? with
  | some kk, some (.dct []) => .ok (.cell S.length) (S2.set S.length (.dct [(kk, v)]))
  | _, _ => .bad := rfl
@[simp] theorem xSetd_app : xSetd f g h (oo :: ll) S = (f (oo :: ll) S).bind fun x S1 => if isK x S1 = true then (g (oo :: ll) S1).bind fun k S2 => (h (oo :: ll) S2).bind fun z S3 => dSetd x k z S3 else .bad := rfl
end
end Dv
namespace Lw
open PySem PySem.Spec PyProof.Rows L2 Dv
def topS (i : Nat) : Stmt := PySem.Challenge.pw_hideworth_k78_whole_picked_as_often.main.body.getD i (.Pass ⟨0, 0, 0, 0⟩)
/-! ### the text and its mirrors -/
abbrev s_divisor : Stmt := topS 8
theorem sc_divisor : FnScope ["one", "other"] ["one", "other"] (defScope s_divisor) := ⟨rfl, rfl, rfl, by decide +kernel, rfl, by decide +kernel, by decide +kernel⟩
noncomputable def b_divisor : Dv.Env → Store → Out :=
  (ySeq (ySet 0 (xFn bAbs (xCons (xVar 0) xNil)))
    (ySeq (ySet 1 (xFn bAbs (xCons (xVar 1) xNil)))
    (ySeq (yWhile (xIsT (xOp dNe (xVar 1) (xC (.int 0)))) (yPar 0 1 (xCons (xVar 1) (xCons (xOp dMod (xVar 0) (xVar 1)) xNil))))
    (yRet (xVar 0)))))
noncomputable def F_divisor : List D → M D := fnD 2 2 false b_divisor
abbrev s_ratio : Stmt := topS 9
theorem sc_ratio : FnScope ["top", "bottom", "by"] ["top", "bottom"] (defScope s_ratio) := ⟨rfl, rfl, rfl, by decide +kernel, rfl, by decide +kernel, by decide +kernel⟩
noncomputable def b_ratio : Dv.Env → Store → Out :=
  (ySeq (yIf (xIsT (xOp dEq (xVar 1) (xC (.int 0)))) yNever yNil)
    (ySeq (ySet 2 (xFn F_divisor (xCons (xVar 0) (xCons (xVar 1) xNil))))
    (ySeq (yIf (xIsT (xOp dLt (xVar 1) (xC (.int 0)))) (ySet 2 (xOp dSub (xC (.int 0)) (xVar 2))) yNil)
    (yRet (xTup (xCons (xOp dFdiv (xVar 0) (xVar 2)) (xCons (xOp dFdiv (xVar 1) (xVar 2)) xNil)))))))
noncomputable def F_ratio : List D → M D := fnD 2 3 false b_ratio
abbrev s_whole_of : Stmt := topS 11
theorem sc_whole_of : FnScope ["paper", "plan", "weight"] ["paper"] (defScope s_whole_of) := ⟨rfl, rfl, rfl, by decide +kernel, rfl, by decide +kernel, by decide +kernel⟩
noncomputable def b_whole_of : Dv.Env → Store → Out :=
  (yRet (xFn bSum (xCons (xLc mkF (iSrc srcL (xVar 0)) (eT2 1 2) cYes (xVar 2) [1, 2]) xNil)))
noncomputable def F_whole_of : List D → M D := fnD 1 3 false b_whole_of
abbrev s_played : Stmt := topS 12
theorem sc_played : FnScope ["paper", "number", "at", "left"] ["paper", "number"] (defScope s_played) := ⟨rfl, rfl, rfl, by decide +kernel, rfl, by decide +kernel, by decide +kernel⟩
noncomputable def b_played : Dv.Env → Store → Out :=
  (ySeq (yIf (xOr (xIsT (xOp dLt (xVar 1) (xC (.int 0)))) (xIsT (xOp dGe (xVar 1) (xFn F_whole_of (xCons (xVar 0) xNil))))) yNever yNil)
    (ySeq (ySet 2 (xC (.int 0)))
    (ySeq (ySet 3 (xOp dSub (xVar 1) (xOp dIx (xOp dIx (xVar 0) (xC (.int 0))) (xC (.int 1)))))
    (ySeq (yWhile (xIsT (xOp dGe (xVar 3) (xC (.int 0)))) (ySeq (yAug 2 (xC (.int 1)) ipAdd)
    (yAug 3 (xOp dIx (xOp dIx (xVar 0) (xVar 2)) (xC (.int 1))) ipSub)))
    (yRet (xFn (bList mkF) (xCons (xOp dIx (xOp dIx (xVar 0) (xVar 2)) (xC (.int 0))) xNil)))))))
noncomputable def F_played : List D → M D := fnD 2 4 false b_played
abbrev s_average : Stmt := topS 13
theorem sc_average : FnScope ["numbers", "weights", "total", "number", "weight"] ["numbers", "weights"] (defScope s_average) := ⟨rfl, rfl, rfl, by decide +kernel, rfl, by decide +kernel, by decide +kernel⟩
noncomputable def b_average : Dv.Env → Store → Out :=
  (ySeq (ySet 2 (xFn bSum (xCons (xLc mkF (iSrcA srcZip (xCons (xVar 0) (xCons (xVar 1) xNil))) (eT2 3 4) cYes (xOp (dMul mkF) (xVar 3) (xVar 4)) [3, 4]) xNil)))
    (yRet (xFn F_ratio (xCons (xVar 2) (xCons (xFn bSum (xCons (xVar 1) xNil)) xNil)))))
noncomputable def F_average : List D → M D := fnD 2 5 false b_average
abbrev s_is_road : Stmt := topS 18
theorem sc_is_road : FnScope ["many", "road", "a", "b", "length"] ["many", "road"] (defScope s_is_road) := ⟨rfl, rfl, rfl, by decide +kernel, rfl, by decide +kernel, by decide +kernel⟩
noncomputable def b_is_road : Dv.Env → Store → Out :=
  (ySeq (yAsg (xVar 1) (fun d e S => match (gT 3 (gsCons (gN 2) (gsCons (gN 3) (gsCons (gN 4) gsNil)))) d e S with | .nx e' S' => .nx e' S' | _ => .bad))
    (ySeq (yIf (xOr (xIsT (xOp dLt (xFn bMin (xCons (xVar 2) (xCons (xVar 3) xNil))) (xC (.int 0)))) (xOr (xIsT (xOp dGe (xFn bMax (xCons (xVar 2) (xCons (xVar 3) xNil))) (xVar 0))) (xIsT (xOp dEq (xVar 2) (xVar 3))))) (yRet (xC (.bl false))) yNil)
    (yRet (xAndV (xOp dLe (xC (.int 1)) (xVar 4)) (xOp dLe (xVar 4) (xC (.int 1000000)))))))
noncomputable def F_is_road : List D → M D := fnD 2 5 false b_is_road
abbrev s_roads_from : Stmt := topS 19
theorem sc_roads_from : FnScope ["web", "place", "near", "a", "b", "length", "other"] ["web", "place"] (defScope s_roads_from) := ⟨rfl, rfl, rfl, by decide +kernel, rfl, by decide +kernel, by decide +kernel⟩
noncomputable def b_roads_from : Dv.Env → Store → Out :=
  (ySeq (ySet 2 xDct0)
    (ySeq (yFor (iSrc srcL (xOp dIx (xVar 0) (xC (.int 1)))) (gT 3 (gsCons (gN 3) (gsCons (gN 4) (gsCons (gN 5) gsNil)))) (yIf (xOr (xIsT (xOp dEq (xVar 3) (xVar 1))) (xIsT (xOp dEq (xVar 4) (xVar 1)))) (ySeq (ySet 6 (xOp dSub (xOp (dAdd mkF) (xVar 3) (xVar 4)) (xVar 1)))
    (ySub (xFn bMin (xCons (xVar 5) (xCons (xGet2 (xVar 2) (xVar 6) (xVar 5)) xNil))) (xVar 2) (xVar 6) setK)) yNil))
    (yRet (xLc mkF (iSrc srcL (xFn (bSortK mkF) (xCons (xVar 2) xNil))) (eN 6) cYes (xTup (xCons (xVar 6) (xCons (xOp dKx (xVar 2) (xVar 6)) xNil))) [6]))))
noncomputable def F_roads_from : List D → M D := fnD 2 7 false b_roads_from
abbrev s_reached : Stmt := topS 20
theorem sc_reached : FnScope ["web", "row", "at", "other", "length"] ["web"] (defScope s_reached) := ⟨rfl, rfl, rfl, by decide +kernel, rfl, by decide +kernel, by decide +kernel⟩
noncomputable def b_reached : Dv.Env → Store → Out :=
  (ySeq (ySet 1 (xLst mkC (xCons (xC (.int 0)) xNil)))
    (ySeq (ySet 2 (xC (.int 0)))
    (ySeq (ySeq (yWhile (xIsT (xOp dLt (xVar 2) (xFn bLen (xCons (xVar 1) xNil)))) (ySeq (yFor (iSrc srcL (xFn F_roads_from (xCons (xVar 0) (xCons (xOp dIx (xVar 1) (xVar 2)) xNil)))) (gT 2 (gsCons (gN 3) (gsCons (gN 4) gsNil))) (yIf (xIsT (xOp dNotIn (xVar 3) (xVar 1))) (yExpr (xMt "list" mAppend (xVar 1) (xCons (xVar 3) xNil))) yNil))
    (yAug 2 (xC (.int 1)) ipAdd))) (frzE 1))
    (yRet (xVar 1)))))
noncomputable def F_reached : List D → M D := fnD 1 5 false b_reached
abbrev s_look_web : Stmt := topS 21
theorem sc_look_web : FnScope ["web", "many", "roads", "number", "road"] ["web"] (defScope s_look_web) := ⟨rfl, rfl, rfl, by decide +kernel, rfl, by decide +kernel, by decide +kernel⟩
noncomputable def b_look_web : Dv.Env → Store → Out :=
  (ySeq (yAsg (xVar 0) (fun d e S => match (gT 2 (gsCons (gN 1) (gsCons (gN 2) gsNil))) d e S with | .nx e' S' => .nx e' S' | _ => .bad))
    (ySeq (yFor (iSrcA srcEnum (xCons (xVar 2) xNil)) (gT 2 (gsCons (gN 3) (gsCons (gN 4) gsNil))) (yIf (xNot (xTru (xFn F_is_road (xCons (xVar 1) (xCons (xVar 4) xNil))))) yNever yNil))
    (ySeq (yIf (xOr (xIsT (xOp dLt (xVar 1) (xC (.int 1)))) (xOr (xIsT (xOp dGt (xVar 1) (xC (.int 60)))) (xIsT (xOp dGt (xFn bLen (xCons (xVar 2) xNil)) (xC (.int 120)))))) yNever yNil)
    (yIf (xIsT (xOp dNe (xFn bLen (xCons (xFn F_reached (xCons (xVar 0) xNil)) xNil)) (xVar 1))) yNever yNil))))
noncomputable def F_look_web : List D → M D := fnD 1 5 false b_look_web
abbrev s_must_be_kind : Stmt := topS 22
theorem sc_must_be_kind : FnScope ["kind"] ["kind"] (defScope s_must_be_kind) := ⟨rfl, rfl, rfl, by decide +kernel, rfl, by decide +kernel, by decide +kernel⟩
noncomputable def b_must_be_kind : Dv.Env → Store → Out :=
  (yIf (xAnd (xIsT (xOp dNe (xVar 0) (xC (.str ("walk" : PySem.Str))))) (xIsT (xOp dNe (xVar 0) (xC (.str ("spread" : PySem.Str)))))) yNever yNil)
noncomputable def F_must_be_kind : List D → M D := fnD 1 1 false b_must_be_kind
abbrev s_length_of : Stmt := topS 23
theorem sc_length_of : FnScope ["web", "a", "b", "other", "length"] ["web", "a", "b"] (defScope s_length_of) := ⟨rfl, rfl, rfl, by decide +kernel, rfl, by decide +kernel, by decide +kernel⟩
noncomputable def b_length_of : Dv.Env → Store → Out :=
  (ySeq (yFor (iSrc srcL (xFn F_roads_from (xCons (xVar 0) (xCons (xVar 1) xNil)))) (gT 2 (gsCons (gN 3) (gsCons (gN 4) gsNil))) (yIf (xIsT (xOp dEq (xVar 3) (xVar 2))) (yRet (xVar 4)) yNil))
    (yRet (xC .non)))
noncomputable def F_length_of : List D → M D := fnD 3 5 false b_length_of
abbrev s_is_whole : Stmt := topS 24
theorem sc_is_whole : FnScope ["thing"] ["thing"] (defScope s_is_whole) := ⟨rfl, rfl, rfl, by decide +kernel, rfl, by decide +kernel, by decide +kernel⟩
noncomputable def b_is_whole : Dv.Env → Store → Out :=
  (yRet (xAndV (xFn bIsi (xCons (xVar 0) (xCons (xC (.raw (.ty "int"))) xNil))) (xNotV (xFn bIsi (xCons (xVar 0) (xCons (xC (.raw (.ty "bool"))) xNil))))))
noncomputable def F_is_whole : List D → M D := fnD 1 1 false b_is_whole
abbrev s_walk_goes_on : Stmt := topS 25
theorem sc_walk_goes_on : FnScope ["web", "come", "ahead", "thing"] ["web", "come", "ahead", "thing"] (defScope s_walk_goes_on) := ⟨rfl, rfl, rfl, by decide +kernel, rfl, by decide +kernel, by decide +kernel⟩
noncomputable def b_walk_goes_on : Dv.Env → Store → Out :=
  (ySeq (yIf (xNot (xTru (xFn F_is_whole (xCons (xVar 3) xNil)))) (yRet (xC (.bl false))) yNil)
    (ySeq (yIf (xIsT (xOp dEq (xVar 1) (xLst mkF xNil))) (yRet (xOp dEq (xVar 3) (xC (.int 0)))) yNil)
    (yRet (xOp dIsNotN (xFn F_length_of (xCons (xVar 0) (xCons (xVar 2) (xCons (xVar 3) xNil)))) (xC .non)))))
noncomputable def F_walk_goes_on : List D → M D := fnD 4 4 false b_walk_goes_on
abbrev s_spread_goes_on : Stmt := topS 26
theorem sc_spread_goes_on : FnScope ["web", "come", "thing"] ["web", "come", "thing"] (defScope s_spread_goes_on) := ⟨rfl, rfl, rfl, by decide +kernel, rfl, by decide +kernel, by decide +kernel⟩
noncomputable def b_spread_goes_on : Dv.Env → Store → Out :=
  (ySeq (yIf (xOr (xNot (xTru (xFn bIsi (xCons (xVar 2) (xCons (xC (.raw (.ty "tuple"))) xNil))))) (xOr (xIsT (xOp dNe (xFn bLen (xCons (xVar 2) xNil)) (xC (.int 2)))) (xOr (xNot (xTru (xFn F_is_whole (xCons (xOp dIx (xVar 2) (xC (.int 0))) xNil)))) (xNot (xTru (xFn F_is_whole (xCons (xOp dIx (xVar 2) (xC (.int 1))) xNil))))))) (yRet (xC (.bl false))) yNil)
    (yRet (xAndV (xOp dIn (xOp dIx (xVar 2) (xC (.int 0))) (xVar 1)) (xAndV (xOp dNotIn (xOp dIx (xVar 2) (xC (.int 1))) (xVar 1)) (xOp dIsNotN (xFn F_length_of (xCons (xVar 0) (xCons (xOp dIx (xVar 2) (xC (.int 0))) (xCons (xOp dIx (xVar 2) (xC (.int 1))) xNil)))) (xC .non))))))
noncomputable def F_spread_goes_on : List D → M D := fnD 3 3 false b_spread_goes_on
abbrev s_first_wrong : Stmt := topS 27
theorem sc_first_wrong : FnScope ["web", "kind", "plan", "come", "ahead", "number", "thing"] ["web", "kind", "plan"] (defScope s_first_wrong) := ⟨rfl, rfl, rfl, by decide +kernel, rfl, by decide +kernel, by decide +kernel⟩
noncomputable def b_first_wrong : Dv.Env → Store → Out :=
  (ySeq (yIf (xNot (xTru (xFn bIsi (xCons (xVar 2) (xCons (xC (.raw (.ty "list"))) xNil))))) (yRet (xC (.int 0))) yNil)
    (ySeq (ySet 3 (xLst mkC (xCons (xC (.int 0)) xNil)))
    (ySeq (yIf (xIsT (xOp dEq (xVar 1) (xC (.str ("walk" : PySem.Str))))) (ySet 3 (xLst mkC xNil)) yNil)
    (ySeq (ySet 4 (xC (.int 0)))
    (ySeq (yFor (iSrcA srcEnum (xCons (xVar 2) xNil)) (gT 2 (gsCons (gN 5) (gsCons (gN 6) gsNil))) (ySeq (yIf (xIsT (xOp dEq (xVar 1) (xC (.str ("walk" : PySem.Str))))) (ySeq (yIf (xNot (xTru (xFn F_walk_goes_on (xCons (xVar 0) (xCons (xVar 3) (xCons (xVar 4) (xCons (xVar 6) xNil))))))) (yRet (xVar 5)) yNil)
    (ySet 4 (xVar 6))) (ySeq (yIf (xNot (xTru (xFn F_spread_goes_on (xCons (xVar 0) (xCons (xVar 3) (xCons (xVar 6) xNil)))))) (yRet (xVar 5)) yNil)
    (ySet 4 (xOp dIx (xVar 6) (xC (.int 1))))))
    (yIf (xIsT (xOp dNotIn (xVar 4) (xVar 3))) (yExpr (xMt "list" mAppend (xVar 3) (xCons (xVar 4) xNil))) yNil)))
    (ySeq (yIf (xIsT (xOp dLt (xFn bLen (xCons (xVar 3) xNil)) (xOp dIx (xVar 0) (xC (.int 0))))) (yRet (xFn bLen (xCons (xVar 2) xNil))) yNil)
    (yRet (xC .non))))))))
noncomputable def F_first_wrong : List D → M D := fnD 3 7 false b_first_wrong
abbrev s_costs_of : Stmt := topS 28
theorem sc_costs_of : FnScope ["web", "kind", "plan", "wrong", "costs", "total", "ahead", "thing", "start", "goal", "place"] ["web", "kind", "plan"] (defScope s_costs_of) := ⟨rfl, rfl, rfl, by decide +kernel, rfl, by decide +kernel, by decide +kernel⟩
noncomputable def b_costs_of : Dv.Env → Store → Out :=
  (ySeq (yExpr (xFn F_look_web (xCons (xVar 0) xNil)))
    (ySeq (yExpr (xFn F_must_be_kind (xCons (xVar 1) xNil)))
    (ySeq (ySet 3 (xFn F_first_wrong (xCons (xVar 0) (xCons (xVar 1) (xCons (xVar 2) xNil)))))
    (ySeq (yIf (xIsT (xOp dIsNotN (xVar 3) (xC .non))) yNever yNil)
    (ySeq (ySet 4 (xDct1 (xC (.int 0)) (xC (.int 0))))
    (ySeq (ySet 5 (xC (.int 0)))
    (ySeq (ySet 6 (xC (.int 0)))
    (ySeq (yFor (iSrc srcL (xVar 2)) (gN 7) (ySeq (yPar 8 9 (xCons (xVar 6) (xCons (xVar 7) xNil)))
    (ySeq (yIf (xIsT (xOp dEq (xVar 1) (xC (.str ("spread" : PySem.Str))))) (yAsg (xVar 7) (fun d e S => match (gT 2 (gsCons (gN 8) (gsCons (gN 9) gsNil))) d e S with | .nx e' S' => .nx e' S' | _ => .bad)) yNil)
    (ySeq (yIf (xIsT (xOp dNe (xVar 8) (xVar 9))) (yAug 5 (xFn F_length_of (xCons (xVar 0) (xCons (xVar 8) (xCons (xVar 9) xNil)))) ipAdd) yNil)
    (ySeq (yExpr (xSetd (xVar 4) (xVar 9) (xVar 5)))
    (ySet 6 (xVar 9)))))))
    (yRet (xLc mkF (iSrcA srcR1 (xCons (xOp dIx (xVar 0) (xC (.int 0))) xNil)) (eN 10) cYes (xOp dKx (xVar 4) (xVar 10)) [10]))))))))))
noncomputable def F_costs_of : List D → M D := fnD 3 11 false b_costs_of
abbrev s__law_purse : Stmt := topS 30
theorem sc__law_purse : FnScope ["_law_script", "_law_cells"] ["_law_script"] (defScope s__law_purse) := ⟨rfl, rfl, rfl, by decide +kernel, rfl, by decide +kernel, by decide +kernel⟩
noncomputable def b__law_purse : Dv.Env → Store → Out :=
  (ySeq (ySet 1 (xSl mkC (xVar 0) oNone (oSome (xC (.int 63)))))
    (ySeq (yIf (xIsT (xOp dEq (xVar 1) (xLst mkF xNil))) (ySet 1 (xLst mkC (xCons (xC (.int 0)) xNil))) yNil)
    (yRet (xLst mkC (xCons (xVar 1) (xCons (xC (.int 0)) xNil))))))
noncomputable def F__law_purse : List D → M D := fnD 1 2 true b__law_purse
abbrev s__law_draw : Stmt := topS 31
theorem sc__law_draw : FnScope ["_law_purse_here", "_law_out_of", "_law_at", "_law_cell", "_law_number", "_law_cells", "_law_turn"] ["_law_purse_here", "_law_out_of"] (defScope s__law_draw) := ⟨rfl, rfl, rfl, by decide +kernel, rfl, by decide +kernel, by decide +kernel⟩
noncomputable def b__law_draw : Dv.Env → Store → Out :=
  (ySeq (yAsg (xVar 0) (fun d e S => match (gL 2 (gsCons (gN 5) (gsCons (gN 6) gsNil))) d e S with | .nx e' S' => .nx e' S' | _ => .bad))
    (ySeq (ySet 2 (xOp dMod (xVar 6) (xFn bLen (xCons (xVar 5) xNil))))
    (ySeq (ySet 3 (xOp dIx (xVar 5) (xVar 2)))
    (ySeq (ySub (xOp (dAdd mkF) (xVar 6) (xC (.int 1))) (xVar 0) (xC (.int 1)) setL)
    (ySeq (yIf (xIsT (xOp dGe (xVar 3) (xOp dPow (xC (.int 10)) (xC (.int 18))))) (ySeq (ySub (xOp dFdiv (xVar 3) (xVar 1)) (xVar 5) (xVar 2) setL)
    (yRet (xOp dMod (xVar 3) (xVar 1)))) yNil)
    (ySeq (ySet 4 (xOp dMod (xOp (dAdd mkF) (xOp (dAdd mkF) (xOp (dMul mkF) (xVar 3) (xC (.int 48271))) (xOp (dMul mkF) (xOp (dMul mkF) (xVar 6) (xVar 6)) (xC (.int 69621)))) (xC (.int 7))) (xC (.int 2147483647))))
    (ySeq (ySet 4 (xOp dMod (xOp (dMul mkF) (xVar 4) (xVar 4)) (xC (.int 2147483629))))
    (yRet (xOp dMod (xOp dMod (xOp (dMul mkF) (xVar 4) (xVar 4)) (xC (.int 2147483587))) (xVar 1))))))))))
noncomputable def F__law_draw : List D → M D := fnD 2 7 false b__law_draw
abbrev s__law_low : Stmt := topS 32
theorem sc__law_low : FnScope ["_law_top", "_law_bottom", "_law_one", "_law_other", "_law_rest"] ["_law_top", "_law_bottom"] (defScope s__law_low) := ⟨rfl, rfl, rfl, by decide +kernel, rfl, by decide +kernel, by decide +kernel⟩
noncomputable def b__law_low : Dv.Env → Store → Out :=
  (ySeq (ySet 2 (xFn bAbs (xCons (xVar 0) xNil)))
    (ySeq (ySet 3 (xVar 1))
    (ySeq (yWhile (xIsT (xOp dNe (xVar 2) (xC (.int 0)))) (ySeq (ySet 4 (xOp dMod (xVar 3) (xVar 2)))
    (ySeq (ySet 3 (xVar 2))
    (ySet 2 (xVar 4)))))
    (yRet (xTup (xCons (xOp dFdiv (xVar 0) (xVar 3)) (xCons (xOp dFdiv (xVar 1) (xVar 3)) xNil)))))))
noncomputable def F__law_low : List D → M D := fnD 2 5 false b__law_low
abbrev s__law_web : Stmt := topS 33
theorem sc__law_web : FnScope ["_law_purse_here", "_law_most", "_law_many", "_law_roads", "_law_place", "_law_k", "_law_names", "_law_found", "_law_a", "_law_b", "_law_length"] ["_law_purse_here", "_law_most"] (defScope s__law_web) := ⟨rfl, rfl, rfl, by decide +kernel, rfl, by decide +kernel, by decide +kernel⟩
noncomputable def b__law_web : Dv.Env → Store → Out :=
  (ySeq (ySet 2 (xOp (dAdd mkF) (xC (.int 1)) (xFn F__law_draw (xCons (xVar 0) (xCons (xVar 1) xNil)))))
    (ySeq (ySet 3 (xLst mkC xNil))
    (ySeq (yFor (iSrcA srcR2 (xCons (xC (.int 1)) (xCons (xVar 2) xNil))) (gN 4) (yExpr (xMt "list" mAppend (xVar 3) (xCons (xLst mkF (xCons (xFn F__law_draw (xCons (xVar 0) (xCons (xVar 4) xNil))) (xCons (xVar 4) xNil))) xNil))))
    (ySeq (ySeq (yFor (iSrcA srcR1 (xCons (xFn F__law_draw (xCons (xVar 0) (xCons (xC (.int 4)) xNil))) xNil)) (gN 5) (ySeq (ySet 8 (xFn F__law_draw (xCons (xVar 0) (xCons (xVar 2) xNil))))
    (ySeq (ySet 9 (xFn F__law_draw (xCons (xVar 0) (xCons (xVar 2) xNil))))
    (yIf (xIsT (xOp dNe (xVar 8) (xVar 9))) (yExpr (xMt "list" mInsert (xVar 3) (xCons (xFn F__law_draw (xCons (xVar 0) (xCons (xOp (dAdd mkF) (xFn bLen (xCons (xVar 3) xNil)) (xC (.int 1))) xNil))) (xCons (xLst mkF (xCons (xVar 8) (xCons (xVar 9) xNil))) xNil)))) yNil)))) (frzE 3))
    (ySeq (ySet 6 (xLst mkC (xCons (xC (.int 0)) xNil)))
    (ySeq (ySeq (yFor (iSrcA srcR2 (xCons (xC (.int 1)) (xCons (xVar 2) xNil))) (gN 4) (yExpr (xMt "list" mInsert (xVar 6) (xCons (xOp (dAdd mkF) (xC (.int 1)) (xFn F__law_draw (xCons (xVar 0) (xCons (xVar 4) xNil)))) (xCons (xVar 4) xNil))))) (frzE 6))
    (ySeq (ySet 7 (xLst mkC xNil))
    (ySeq (ySeq (yFor (iSrc srcL (xVar 3)) (gL 2 (gsCons (gN 8) (gsCons (gN 9) gsNil))) (ySeq (ySet 10 (xOp (dAdd mkF) (xC (.int 1)) (xFn F__law_draw (xCons (xVar 0) (xCons (xOp dIx (xLst mkF (xCons (xC (.int 3)) (xCons (xC (.int 9)) (xCons (xOp dPow (xC (.int 10)) (xC (.int 6))) xNil)))) (xFn F__law_draw (xCons (xVar 0) (xCons (xC (.int 3)) xNil)))) xNil)))))
    (yExpr (xMt "list" mAppend (xVar 7) (xCons (xOp dIx (xLst mkF (xCons (xTup (xCons (xOp dIx (xVar 6) (xVar 8)) (xCons (xOp dIx (xVar 6) (xVar 9)) (xCons (xVar 10) xNil)))) (xCons (xTup (xCons (xOp dIx (xVar 6) (xVar 9)) (xCons (xOp dIx (xVar 6) (xVar 8)) (xCons (xVar 10) xNil)))) xNil))) (xFn F__law_draw (xCons (xVar 0) (xCons (xC (.int 2)) xNil)))) xNil))))) (frzE 7))
    (yRet (xTup (xCons (xVar 2) (xCons (xVar 7) xNil))))))))))))
noncomputable def F__law_web : List D → M D := fnD 2 11 false b__law_web
abbrev s__law_road : Stmt := topS 34
theorem sc__law_road : FnScope ["_law_web_here", "_law_start", "_law_goal", "_law_ways", "_law_row", "_law_at", "_law_a", "_law_b", "_law_length", "_law_one", "_law_other"] ["_law_web_here", "_law_start", "_law_goal"] (defScope s__law_road) := ⟨rfl, rfl, rfl, by decide +kernel, rfl, by decide +kernel, by decide +kernel⟩
noncomputable def b__law_road : Dv.Env → Store → Out :=
  (ySeq (ySet 3 (xDct1 (xVar 1) (xLst mkF (xCons (xVar 1) xNil))))
    (ySeq (ySet 4 (xLst mkC (xCons (xVar 1) xNil)))
    (ySeq (ySet 5 (xC (.int 0)))
    (ySeq (yWhile (xIsT (xOp (dInK true) (xVar 2) (xVar 3))) (ySeq (yFor (iSrc srcL (xOp dIx (xVar 0) (xC (.int 1)))) (gT 3 (gsCons (gN 6) (gsCons (gN 7) (gsCons (gN 8) gsNil)))) (yFor (iSrc srcL (xLst mkF (xCons (xTup (xCons (xVar 6) (xCons (xVar 7) xNil))) (xCons (xTup (xCons (xVar 7) (xCons (xVar 6) xNil))) xNil)))) (gT 2 (gsCons (gN 9) (gsCons (gN 10) gsNil))) (yIf (xAnd (xIsT (xOp dEq (xVar 9) (xOp dIx (xVar 4) (xVar 5)))) (xIsT (xOp (dInK true) (xVar 10) (xVar 3)))) (ySeq (ySub (xOp (dAdd mkF) (xOp dKx (xVar 3) (xVar 9)) (xLst mkF (xCons (xVar 10) xNil))) (xVar 3) (xVar 10) setK)
    (yExpr (xMt "list" mAppend (xVar 4) (xCons (xVar 10) xNil)))) yNil)))
    (ySet 5 (xOp (dAdd mkF) (xVar 5) (xC (.int 1))))))
    (yRet (xOp dKx (xVar 3) (xVar 2)))))))
noncomputable def F__law_road : List D → M D := fnD 3 11 false b__law_road
abbrev s__law_walk : Stmt := topS 35
theorem sc__law_walk : FnScope ["_law_purse_here", "_law_web_here", "_law_walk_here", "_law_left", "_law_place"] ["_law_purse_here", "_law_web_here"] (defScope s__law_walk) := ⟨rfl, rfl, rfl, by decide +kernel, rfl, by decide +kernel, by decide +kernel⟩
noncomputable def b__law_walk : Dv.Env → Store → Out :=
  (ySeq (ySet 2 (xLst mkF (xCons (xC (.int 0)) xNil)))
    (ySeq (ySet 3 (xLstRg2 mkF (xC (.int 1)) (xOp dIx (xVar 1) (xC (.int 0)))))
    (ySeq (yWhile (xIsT (xOp dNe (xVar 3) (xLst mkF xNil))) (ySeq (ySet 2 (xOp (dAdd mkF) (xVar 2) (xSl mkF (xFn F__law_road (xCons (xVar 1) (xCons (xOp dIx (xVar 2) (xUn dNeg (xC (.int 1)))) (xCons (xOp dIx (xVar 3) (xFn F__law_draw (xCons (xVar 0) (xCons (xFn bLen (xCons (xVar 3) xNil)) xNil)))) xNil)))) (oSome (xC (.int 1))) oNone)))
    (ySet 3 (xLc mkF (iSrc srcL (xVar 3)) (eN 4) (xIsT (xOp dNotIn (xVar 4) (xVar 2))) (xVar 4) [4]))))
    (yRet (xVar 2)))))
noncomputable def F__law_walk : List D → M D := fnD 2 5 false b__law_walk
abbrev s_law : Stmt := topS 36
theorem sc_law : FnScope ["_law_script", "_law_purse_here", "_law_web_here", "_law_paper", "_law_k", "_law_due", "_law_handed", "_law_plans", "_law_paid", "_law_rows", "_law_place", "_law_plan", "_law_weight", "_law_total", "_law_number", "_law_costs", "_law_row"] ["_law_script"] (defScope s_law) := ⟨rfl, rfl, rfl, by decide +kernel, rfl, by decide +kernel, by decide +kernel⟩
noncomputable def b_law : Dv.Env → Store → Out :=
  (ySeq (ySet 1 (xFn F__law_purse (xCons (xVar 0) xNil)))
    (ySeq (ySet 2 (xFn F__law_web (xCons (xVar 1) (xCons (xC (.int 5)) xNil))))
    (ySeq (ySet 3 (xLst mkC xNil))
    (ySeq (ySeq (yFor (iSrcA srcR1 (xCons (xOp (dAdd mkF) (xC (.int 1)) (xFn F__law_draw (xCons (xVar 1) (xCons (xC (.int 4)) xNil)))) xNil)) (gN 4) (yExpr (xMt "list" mAppend (xVar 3) (xCons (xTup (xCons (xFn F__law_walk (xCons (xVar 1) (xCons (xVar 2) xNil))) (xCons (xOp (dAdd mkF) (xC (.int 1)) (xFn F__law_draw (xCons (xVar 1) (xCons (xC (.int 6)) xNil)))) xNil))) xNil)))) (frzE 3))
    (ySeq (ySet 5 (xLst mkF xNil))
    (ySeq (yFor (iSrc srcL (xVar 3)) (gT 2 (gsCons (gN 11) (gsCons (gN 12) gsNil))) (ySet 5 (xOp (dAdd mkF) (xVar 5) (xOp (dMul mkF) (xLst mkF (xCons (xVar 11) xNil)) (xVar 12)))))
    (ySeq (ySet 6 (xLc mkF (iSrc srcL (xVar 3)) (eT2 11 12) cYes (xTup (xCons (xFn (bList mkF) (xCons (xVar 11) xNil)) (xCons (xVar 12) xNil))) [11, 12]))
    (ySeq (yIf (xIsT (xOp dNe (xFn F_whole_of (xCons (xVar 6) xNil)) (xFn bLen (xCons (xVar 5) xNil)))) (yRet (xC (.bl false))) yNil)
    (ySeq (ySet 7 (xLc mkF (iSrcA srcR1 (xCons (xFn bLen (xCons (xVar 5) xNil)) xNil)) (eN 14) cYes (xFn F_played (xCons (xVar 6) (xCons (xVar 14) xNil))) [14]))
    (ySeq (yIf (xOr (xIsT (xOp dNe (xVar 7) (xVar 5))) (xIsT (xOp dNe (xVar 6) (xVar 3)))) (yRet (xC (.bl false))) yNil)
    (ySeq (ySet 8 (xLc mkF (iSrc srcL (xVar 7)) (eN 11) cYes (xFn F_costs_of (xCons (xVar 2) (xCons (xC (.str ("walk" : PySem.Str))) (xCons (xVar 11) xNil)))) [11]))
    (ySeq (ySet 9 (xLc mkF (iSrc srcL (xVar 3)) (eT2 11 12) cYes (xFn F_costs_of (xCons (xVar 2) (xCons (xC (.str ("walk" : PySem.Str))) (xCons (xFn (bList mkF) (xCons (xVar 11) xNil)) xNil)))) [11, 12]))
    (ySeq (yFor (iSrcA srcR1 (xCons (xOp dIx (xVar 2) (xC (.int 0))) xNil)) (gN 10) (ySeq (ySet 13 (xFn bSum (xCons (xLc mkF (iSrc srcL (xVar 8)) (eN 15) cYes (xOp dIx (xVar 15) (xVar 10)) [15]) xNil)))
    (yIf (xIsT (xOp dNe (xFn F_average (xCons (xLc mkF (iSrc srcL (xVar 9)) (eN 16) cYes (xOp dIx (xVar 16) (xVar 10)) [16]) (xCons (xLc mkF (iSrc srcL (xVar 3)) (eT2 11 12) cYes (xVar 12) [11, 12]) xNil))) (xFn F__law_low (xCons (xVar 13) (xCons (xFn bLen (xCons (xVar 5) xNil)) xNil))))) (yRet (xC (.bl false))) yNil)))
    (yRet (xC (.bl true))))))))))))))))
noncomputable def F_law : List D → M D := fnD 1 17 false b_law
end Lw
namespace Lw
open PySem PySem.Spec PyProof.Rows L2 Dv
theorem gcd_step {x y : Int} (hx : 0 ≤ x) (hy : 0 < y) : 0 ≤ x.fmod y ∧ x.fmod y < y ∧ Int.gcd y (x.fmod y) = Int.gcd x y := by
  rw [fmod_pos hy]
  refine ⟨Int.emod_nonneg x (by omega), Int.emod_lt_of_pos x hy, ?_⟩
  rw [Int.gcd_comm]
  unfold Int.gcd
  rw [Int.natAbs_emod_of_nonneg hx, Nat.gcd_comm x.natAbs, Nat.gcd_rec y.natAbs]
theorem abs_gcd (a b : Int) : Int.gcd (if a < 0 then -a else a) (if b < 0 then -b else b) = Int.gcd a b := by
  unfold Int.gcd
  split <;> split <;> simp
theorem divisor_ok (a b : Int) (S : Store) : F_divisor [.int a, .int b] S = .ok (.int (Int.gcd a b)) S := by
  rw [← ens_eq]
  refine ens_fn rfl ?_
  unfold b_divisor
  simp
  rw [← abs_gcd a b]
  have ha : 0 ≤ (if a < 0 then -a else a) := by split <;> omega
  have hb : 0 ≤ (if b < 0 then -b else b) := by split <;> omega
  generalize (if a < 0 then -a else a) = x at ha ⊢
  generalize (if b < 0 then -b else b) = y at hb ⊢
  refine ens_while (fun e S' => ∃ x' y' : Int, e = [some (.int x'), some (.int y')] ∧ S' = S ∧ 0 ≤ x' ∧ 0 ≤ y' ∧ Int.gcd x' y' = Int.gcd x y) (fun e _ => match e with | [_, some (.int y')] => y'.toNat | _ => 0) ?_ ⟨x, y, rfl, rfl, ha, hb, rfl⟩
  rintro e S' ⟨x', y', rfl, rfl, hx, hy, hg⟩
  simp
  refine ⟨fun h => ?_, fun h => ?_⟩
  · have hp : 0 < y' := by omega
    obtain ⟨h1, h2, h3⟩ := gcd_step hx hp
    exact ⟨h, ⟨_, _, ⟨rfl, rfl⟩, hy, h1, h3.trans hg⟩, by omega⟩
  · subst h
    rw [← hg, Int.gcd_zero_right]
    omega
/-- the purse: a cell that holds the cells' cell and the turn -/
def Pu (L n m : Nat) (T : Int) (P : Store) : Prop := P.length = L ∧ (n ≠ m ∧ (P.all fun c => c.under L) = true) ∧ ∃ (t : Int) (cs : List Int), P[n]? = some (.lst [.cell m, .int t]) ∧ P[m]? = some (.lst (cs.map D.int)) ∧ cs ≠ [] ∧ 0 ≤ t ∧ t ≤ T
theorem Pu.mono {L n m : Nat} {T T' : Int} {P : Store} (h : Pu L n m T P) (hT : T ≤ T') : Pu L n m T' P := by
  obtain ⟨h1, h2, t, cs, h3, h4, h5, h6, h7⟩ := h
  exact ⟨h1, h2, t, cs, h3, h4, h5, h6, by omega⟩
theorem ixN_atI {α : Type} {l : List α} {i : Int} {z : α} (h : L2.atI l i = some z) : ∃ j, ixN l.length i = some j ∧ l[j]? = some z := by
  unfold L2.atI at h
  cases q : ixN l.length i with
  | none => rw [q] at h; cases h
  | some j => rw [q] at h; exact ⟨j, rfl, h⟩
theorem draw_ok {L n m : Nat} {T k : Int} {P R : Store} (h : Pu L n m T P) (hk : 0 < k) (hk2 : k < 1000000000000000000000000000000000000000000000000000000000000) (hT : T < 1000000000000) :
    Ens (F__law_draw [.cell n, .int k] (P ++ R)) fun d S' => ∃ (P' : Store) (r : Int), S' = P' ++ R ∧ Pu L n m (T + 1) P' ∧ d = .int r ∧ 0 ≤ r ∧ r < k := by
  obtain ⟨hL, ⟨hnm, hun⟩, t, cs, hn, hm, hcs, ht0, htT⟩ := h
  have nl : n < P.length := (List.getElem?_eq_some_iff.mp hn).1
  have ml : m < P.length := (List.getElem?_eq_some_iff.mp hm).1
  have gn : (P ++ R)[n]? = some (.lst [.cell m, .int t]) := by rw [List.getElem?_append_left nl, hn]
  have gm : (P ++ R)[m]? = some (.lst (cs.map D.int)) := by rw [List.getElem?_append_left ml, hm]
  have cl : 0 < cs.length := List.length_pos_iff.mpr hcs
  refine ens_fn rfl ?_
  unfold b__law_draw
  simp only [List.map_cons, List.map_nil, List.replicate, List.cons_append, List.nil_append]
  refine ens_seq (fun e S' => S' = P ++ R ∧ e = [some (.cell n), some (.int k), none, none, none, some (.cell m), some (.int t)]) ?_ ?_
  · simp [gL, getQ, getL, gn, gsCons, gN, gsNil, Out.seq]
  rintro e S' ⟨rfl, rfl⟩
  have hat := Int.emod_nonneg t (show (cs.length : Int) ≠ 0 by omega)
  have hat2 := Int.emod_lt_of_pos t (show (0 : Int) < cs.length by omega)
  refine ens_seq (fun e S' => S' = P ++ R ∧ e = [some (.cell n), some (.int k), some (.int (t % cs.length)), none, none, some (.cell m), some (.int t)]) ?_ ?_
  · simp [bLen, getQ, getL, gm, fmod_pos (show (0 : Int) < cs.length by omega)]
    omega
  rintro e S' ⟨rfl, rfl⟩
  obtain ⟨c, hc, _⟩ := atI_in (l := cs) hat (by omega)
  generalize t % cs.length = at' at *
  refine ens_seq (fun e S' => S' = P ++ R ∧ e = [some (.cell n), some (.int k), some (.int at'), some (.int c), none, some (.cell m), some (.int t)]) ?_ ?_
  · simp [dIx, ixd, getQ, getL, gm, atI_map, hc]
  rintro e S' ⟨rfl, rfl⟩
  refine ens_seq (fun e S' => S' = P.set n (.lst [.cell m, .int (t + 1)]) ++ R ∧ e = [some (.cell n), some (.int k), some (.int at'), some (.int c), none, some (.cell m), some (.int t)]) ?_ ?_
  · simp [setL, gn, ixN, List.set_append_left _ _ nl]
  rintro e S' ⟨rfl, rfl⟩
  have hu1 := all_set_under (k := n) (x := .lst [.cell m, .int (t + 1)]) hun (by simp [Cn.under, D.underL, D.under]; omega)
  have hp : Pu L n m (T + 1) (P.set n (.lst [.cell m, .int (t + 1)])) := ⟨by rw [List.length_set]; exact hL, ⟨hnm, hu1⟩, t + 1, cs, by rw [List.getElem?_set_self nl], by rw [List.getElem?_set_ne hnm]; exact hm, hcs, by omega, by omega⟩
  have gm2 : (P.set n (.lst [.cell m, .int (t + 1)]) ++ R)[m]? = some (.lst (cs.map D.int)) := by rw [List.getElem?_append_left (by rw [List.length_set]; exact ml), List.getElem?_set_ne hnm, hm]
  refine ens_seq (fun e S' => S' = P.set n (.lst [.cell m, .int (t + 1)]) ++ R ∧ e = [some (.cell n), some (.int k), some (.int at'), some (.int c), none, some (.cell m), some (.int t)]) ?_ ?_
  · simp [powOk]
    refine enso_ite (fun hc2 => ?_) (fun _ => ?_)
    · obtain ⟨j, hj, hj2⟩ := ixN_atI hc
      simp [divOk_lit hk hk2, fdiv_pos hk, fmod_pos hk, setL, gm2, hj]
      refine ⟨by omega, ?_⟩
      rw [fin_len (by simp)]
      refine ⟨(P.set n (.lst [.cell m, .int (t + 1)])).set m (.lst ((cs.set j (c / k)).map D.int)), ?_, ?_, _, rfl, Int.emod_nonneg _ (by omega), Int.emod_lt_of_pos _ hk⟩
      · rw [List.set_append_left _ _ (by rw [List.length_set]; exact ml), List.map_set]
      · refine ⟨by simp [hL], ⟨hnm, all_set_under hu1 (by rw [Cn.under]; exact underL_ints _)⟩, t + 1, cs.set j (c / k), ?_, ?_, ?_, by omega, by omega⟩
        · rw [List.getElem?_set_ne (fun z => hnm z.symm), List.getElem?_set_self nl]
        · rw [List.getElem?_set_self (by rw [List.length_set]; exact ml)]
        · intro z
          have := congrArg List.length z
          rw [List.length_set] at this
          exact hcs (List.length_eq_zero_iff.mp this)
    · simp
  rintro e S' ⟨rfl, rfl⟩
  simp [fmod_pos]
  refine ⟨mulOkR (by decide) (by decide), mulOkL (by omega) (by omega), mulOkR (by decide) (by decide), ?_⟩
  have a1 := Int.emod_nonneg (c * 48271 + t * t * 69621 + 7) (show (2147483647 : Int) ≠ 0 by decide)
  have a2 := Int.emod_lt_of_pos (c * 48271 + t * t * 69621 + 7) (show (0 : Int) < 2147483647 by decide)
  generalize (c * 48271 + t * t * 69621 + 7) % 2147483647 = q at *
  refine ⟨mulOkL (by omega) (by omega), ?_⟩
  have a3 := Int.emod_nonneg (q * q) (show (2147483629 : Int) ≠ 0 by decide)
  have a4 := Int.emod_lt_of_pos (q * q) (show (0 : Int) < 2147483629 by decide)
  generalize q * q % 2147483629 = q2 at *
  refine ⟨mulOkL (by omega) (by omega), by omega, ?_⟩
  rw [fmod_pos hk, fin_len (by simp)]
  exact ⟨_, rfl, hp, _, rfl, Int.emod_nonneg _ (by omega), Int.emod_lt_of_pos _ hk⟩
theorem cells_empty (cs : List Int) : dEq (.cell 0) (.lst []) [Cn.lst (cs.map D.int)] = .ok (.bl (decide (cs = []))) [Cn.lst (cs.map D.int)] := by
  rw [dEq_of (p := .list (cs.map PyData.int)) (q := .list []) (by rw [toP]; simp only [List.getElem?_cons_zero]; rw [toPs_ints]; rfl) (by simp [toP, toPs])]
  cases cs <;> simp [PyData.eqv, PyData.eqvAll]
theorem purse_ok (ns : List Int) : Ens (F__law_purse [.scr (ns.map D.int)] []) fun d S' => ∃ L n m, d = .cell n ∧ Pu L n m 0 S' := by
  refine ens_fn rfl ?_
  unfold b__law_purse
  refine ens_seq (fun e S' => ∃ cs : List Int, S' = [.lst (cs.map D.int)] ∧ e = [some (.scr (ns.map D.int)), some (.cell 0)]) ?_ ?_
  · simp [slD, getQ]
    exact ⟨_, by rw [← List.map_drop, ← List.map_take]⟩
  rintro e S' ⟨cs, rfl, rfl⟩
  refine ens_seq (fun e S' => ∃ (m : Nat) (cs : List Int), m < S'.length ∧ (∀ k, (S'.all fun c => c.under k) = true) ∧ S'[m]? = some (.lst (cs.map D.int)) ∧ cs ≠ [] ∧ e = [some (.scr (ns.map D.int)), some (.cell m)]) ?_ ?_
  · simp [cells_empty]
    refine enso_ite (fun h => ?_) (fun h => ?_)
    · simp
      refine ⟨1, by simp, fun k => by simp [Cn.under, D.underL, D.under]; exact underL_ints _, [0], by simp, by simp, rfl⟩
    · simp
      refine ⟨fun k => underL_ints cs, cs, by simp, h⟩
  rintro e S' ⟨m, cs, hm, hun, hm2, hcs, rfl⟩
  simp [fin]
  exact ⟨S'.length + 1, m, by simp, ⟨by omega, by rw [List.all_append, hun]; simp [Cn.under, D.underL, D.under]; omega⟩, 0, cs, by simp, by rw [List.getElem?_append_left hm, hm2], hcs, by decide, by decide⟩
/-- the divisor with the lower part's sign -/
def gs (a b : Int) : Int := if b < 0 then 0 - (Int.gcd a b : Int) else Int.gcd a b
def loP (a b : Int) : Int := a.fdiv (gs a b)
def loQ (a b : Int) : Int := b.fdiv (gs a b)
theorem gs_abs (a b : Int) : (gs a b).natAbs = Int.gcd a b := by unfold gs; split <;> omega
theorem gs_ne {a b : Int} (h : b ≠ 0) : gs a b ≠ 0 := by
  intro z
  have := gs_abs a b
  rw [z] at this
  have h2 : Int.gcd a b = 0 := this.symm
  rw [Int.gcd_eq_zero_iff] at h2
  exact h h2.2
theorem gs_dl (a b : Int) : gs a b ∣ a := by
  rw [← Int.natAbs_dvd, gs_abs]; exact Int.gcd_dvd_left ..
theorem gs_dr (a b : Int) : gs a b ∣ b := by
  rw [← Int.natAbs_dvd, gs_abs]; exact Int.gcd_dvd_right ..
theorem gs_sz {a b : Int} {n : Nat} (h : b ≠ 0) (hb : Sz n b) : Sz n (gs a b) := hb.of_le (by
  have := Int.natAbs_dvd_natAbs.mpr (gs_dr a b)
  exact Nat.le_of_dvd (by omega) this)
theorem fdiv_sz {a g : Int} {n : Nat} (hg : g ≠ 0) (hd : g ∣ a) (ha : Sz n a) : Sz n (a.fdiv g) := by
  obtain ⟨c, rfl⟩ := hd
  rw [Int.mul_fdiv_cancel_left _ hg]
  refine ha.of_le ?_
  rw [Int.natAbs_mul]
  exact Nat.le_mul_of_pos_left _ (by omega)
theorem loP_sz {a b : Int} {n : Nat} (h : b ≠ 0) (ha : Sz n a) : Sz n (loP a b) := fdiv_sz (gs_ne h) (gs_dl a b) ha
theorem loQ_sz {a b : Int} {n : Nat} (h : b ≠ 0) (hb : Sz n b) : Sz n (loQ a b) := fdiv_sz (gs_ne h) (gs_dr a b) hb
theorem loQ_ne {a b : Int} (h : b ≠ 0) : loQ a b ≠ 0 := by
  intro z
  obtain ⟨c, hc⟩ := gs_dr a b
  unfold loQ at z
  generalize gs a b = g at *
  subst hc
  by_cases hg : g = 0
  · subst hg; simp at h
  rw [Int.mul_fdiv_cancel_left _ hg] at z
  subst z
  simp at h
theorem low0 {b : Int} (h : 0 < b) : loP 0 b = 0 ∧ loQ 0 b = 1 := by
  have e : gs 0 b = b := by
    unfold gs
    rw [if_neg (by omega), Int.gcd_zero_left]
    omega
  unfold loP loQ
  rw [e]
  exact ⟨Int.zero_fdiv b, Int.fdiv_self (by omega)⟩
theorem ratio_ok (a b : Int) (n : Nat) (S : Store) (h : b ≠ 0) (hb : Sz n b) (hn : n ≤ 9000) : F_ratio [.int a, .int b] S = .ok (.tup [.int (loP a b), .int (loQ a b)]) S := by
  rw [← ens_eq]
  refine ens_fn rfl ?_
  unfold b_ratio
  have g1 := gs_sz (a := a) h hb
  have g2 := g1.divOk (a := a) (gs_ne h) hn
  have g3 := g1.divOk (a := b) (gs_ne h) hn
  simp [divisor_ok, h]
  unfold loP loQ
  by_cases hl : b < 0
  · have e : gs a b = 0 - (Int.gcd a b : Int) := if_pos hl
    rw [e] at g2 g3 ⊢
    simp [hl] at g2 g3 ⊢
    exact ⟨g2, g3⟩
  · have e : gs a b = (Int.gcd a b : Int) := if_neg hl
    rw [e] at g2 g3 ⊢
    simp [hl]
    exact ⟨g2, g3⟩
theorem gs_pos {a b : Int} (h : b ≠ 0) : 0 < b → 0 < gs a b := fun hb => by
  have := gs_ne (a := a) h
  unfold gs at *
  rw [if_neg (by omega)] at *
  omega
theorem gs_neg {a b : Int} (h : b ≠ 0) : b < 0 → gs a b < 0 := fun hb => by
  have := gs_ne (a := a) h
  unfold gs at *
  rw [if_pos (by omega)] at *
  omega
theorem lo_mul {a b : Int} (h : b ≠ 0) : loP a b * gs a b = a ∧ loQ a b * gs a b = b := by
  have g := gs_ne (a := a) h
  obtain ⟨c, hc⟩ := gs_dl a b
  obtain ⟨d, hd⟩ := gs_dr a b
  unfold loP loQ
  generalize gs a b = g0 at *
  subst hc hd
  rw [Int.mul_fdiv_cancel_left _ g, Int.mul_fdiv_cancel_left _ g]
  exact ⟨Int.mul_comm .., Int.mul_comm ..⟩
theorem loQ_pos {a b : Int} (h : b ≠ 0) : 0 < loQ a b := by
  obtain ⟨_, h2⟩ := lo_mul (a := a) h
  have hq := loQ_ne (a := a) h
  rcases Int.lt_or_lt_of_ne h with hb | hb
  · have g := gs_neg (a := a) h hb
    rcases Int.lt_or_lt_of_ne hq with z | z
    · have := Int.mul_pos_of_neg_of_neg z g
      omega
    · exact z
  · have g := gs_pos (a := a) h hb
    rcases Int.lt_or_lt_of_ne hq with z | z
    · have := Int.mul_neg_of_neg_of_pos z g
      omega
    · exact z
theorem lo_cross {a b : Int} (h : b ≠ 0) : loP a b * b = a * loQ a b := by
  obtain ⟨h1, h2⟩ := lo_mul (a := a) h
  generalize loP a b = p at *
  generalize loQ a b = q at *
  generalize gs a b = g at *
  subst h1 h2
  grind
theorem lo_cop {a b : Int} (h : b ≠ 0) : Int.gcd (loP a b) (loQ a b) = 1 := by
  obtain ⟨h1, h2⟩ := lo_mul (a := a) h
  have g := gs_abs a b
  have h0 : Int.gcd a b ≠ 0 := by
    intro z
    rw [Int.gcd_eq_zero_iff] at z
    exact h z.2
  have e : Int.gcd (loP a b * gs a b) (loQ a b * gs a b) = Int.gcd (loP a b) (loQ a b) * (gs a b).natAbs := Int.gcd_mul_right ..
  rw [h1, h2, g] at e
  exact (Nat.eq_of_mul_eq_mul_right (Nat.pos_of_ne_zero h0) (by rw [Nat.one_mul]; exact e.symm))
theorem cop_eq {p q r s : Int} (h1 : Int.gcd p q = 1) (h2 : Int.gcd r s = 1) (hq : 0 < q) (hs : 0 < s) (h : p * s = r * q) : p = r ∧ q = s := by
  have a1 : q ∣ s := by
    have : q ∣ p * s := ⟨r, by rw [h, Int.mul_comm]⟩
    exact Int.natAbs_dvd_natAbs.mp (Nat.Coprime.dvd_of_dvd_mul_left (m := p.natAbs) (by rw [Nat.Coprime, Nat.gcd_comm]; exact h1) (by rw [← Int.natAbs_mul]; exact Int.natAbs_dvd_natAbs.mpr this))
  have a2 : s ∣ q := by
    have : s ∣ r * q := ⟨p, by rw [← h, Int.mul_comm]⟩
    exact Int.natAbs_dvd_natAbs.mp (Nat.Coprime.dvd_of_dvd_mul_left (m := r.natAbs) (by rw [Nat.Coprime, Nat.gcd_comm]; exact h2) (by rw [← Int.natAbs_mul]; exact Int.natAbs_dvd_natAbs.mpr this))
  have e : q = s := Int.dvd_antisymm (by omega) (by omega) a1 a2
  subst e
  exact ⟨Int.eq_of_mul_eq_mul_right (by omega) h, rfl⟩
/-- two fractions of one worth are told alike -/
theorem lo_eq {a b c d : Int} (hb : b ≠ 0) (hd : d ≠ 0) (h : a * d = c * b) : loP a b = loP c d ∧ loQ a b = loQ c d := by
  refine cop_eq (lo_cop hb) (lo_cop hd) (loQ_pos hb) (loQ_pos hd) ?_
  obtain ⟨h1, h2⟩ := lo_mul (a := a) hb
  obtain ⟨h3, h4⟩ := lo_mul (a := c) hd
  have g1 := gs_ne (a := a) hb
  have g2 := gs_ne (a := c) hd
  refine Int.eq_of_mul_eq_mul_right (Int.mul_ne_zero g1 g2) ?_
  generalize loP a b = p at *
  generalize loQ a b = q at *
  generalize gs a b = g at *
  generalize loP c d = p' at *
  generalize loQ c d = q' at *
  generalize gs c d = g' at *
  subst h1 h2 h3 h4
  grind
theorem lo_iff {a b c d : Int} (hb : b ≠ 0) (hd : d ≠ 0) : (loP a b = loP c d ∧ loQ a b = loQ c d) ↔ a * d = c * b := by
  refine ⟨fun ⟨e1, e2⟩ => ?_, lo_eq hb hd⟩
  have h1 := lo_cross (a := a) hb
  have h2 := lo_cross (a := c) hd
  have q0 := loQ_ne (a := c) hd
  rw [e1, e2] at h1
  generalize loP c d = p at *
  generalize loQ c d = q at *
  refine Int.eq_of_mul_eq_mul_right q0 ?_
  grind
def lo (p q : Int) : D := .tup [.int (loP p q), .int (loQ p q)]
theorem lo_same {a b c d : Int} (hb : b ≠ 0) (hd : d ≠ 0) (h : a * d = c * b) : lo a b = lo c d := by
  obtain ⟨e1, e2⟩ := lo_eq hb hd h
  unfold lo
  rw [e1, e2]
theorem lo_self {a b : Int} (hb : b ≠ 0) : lo (loP a b) (loQ a b) = lo a b := lo_same (loQ_ne hb) hb (lo_cross hb)
/-- the sizes and the signs of a fraction before it is brought down -/
structure Fq (n : Nat) (p q : Int) : Prop where
  sp : Sz n p
  sq : Sz n q
  pos : 0 < q
theorem Fq.ne {n : Nat} {p q : Int} (h : Fq n p q) : q ≠ 0 := by have := h.pos; omega
theorem lo_dEq {a b c d : Int} (hb : b ≠ 0) (hd : d ≠ 0) (S : Store) : dEq (lo a b) (lo c d) S = .ok (.bl (decide (a * d = c * b))) S := by
  unfold lo
  rw [dEq_of (p := .tuple [.int (loP a b), .int (loQ a b)]) (q := .tuple [.int (loP c d), .int (loQ c d)]) (by simp [toP, toPs]) (by simp [toP, toPs])]
  congr 2
  have := lo_iff (a := a) (c := c) hb hd
  by_cases h : a * d = c * b
  · obtain ⟨e1, e2⟩ := this.mpr h
    simp [PyData.eqv, PyData.eqvAll, h, e1, e2]
  · have e : ¬ (loP a b = loP c d ∧ loQ a b = loQ c d) := fun z => h (this.mp z)
    simp [PyData.eqv, PyData.eqvAll, h]
    first | exact fun z z2 => e ⟨z, z2⟩ | exact Decidable.not_and_iff_or_not.mp e
theorem lo_dNe {a b c d : Int} (hb : b ≠ 0) (hd : d ≠ 0) (S : Store) : dNe (lo a b) (lo c d) S = .ok (.bl (!decide (a * d = c * b))) S := by
  unfold lo
  rw [dNe_of (p := .tuple [.int (loP a b), .int (loQ a b)]) (q := .tuple [.int (loP c d), .int (loQ c d)]) (by simp [toP, toPs]) (by simp [toP, toPs])]
  congr 2
  have := lo_iff (a := a) (c := c) hb hd
  by_cases h : a * d = c * b
  · obtain ⟨e1, e2⟩ := this.mpr h
    simp [PyData.eqv, PyData.eqvAll, h, e1, e2]
  · have e : ¬ (loP a b = loP c d ∧ loQ a b = loQ c d) := fun z => h (this.mp z)
    simp [PyData.eqv, PyData.eqvAll, h]
    first | exact fun z z2 => e ⟨z, z2⟩ | exact Decidable.not_and_iff_or_not.mp e
theorem loQ_of_pos {a b : Int} (h : 0 < b) : gs a b = Int.gcd a b := if_neg (by omega)
theorem low_ok (a b : Int) (n : Nat) (S : Store) (h : 0 < b) (hb : Sz n b) (hn : n ≤ 9000) : F__law_low [.int a, .int b] S = .ok (lo a b) S := by
  rw [← ens_eq]
  refine ens_fn rfl ?_
  unfold b__law_low
  simp only [List.map_cons, List.map_nil, List.replicate, List.cons_append, List.nil_append]
  refine ens_seq (fun e S' => S' = S ∧ ∃ x : Int, 0 ≤ x ∧ Int.gcd x b = Int.gcd a b ∧ e = [some (.int a), some (.int b), some (.int x), none, none]) ?_ ?_
  · simp
    refine ⟨by split <;> omega, ?_⟩
    unfold Int.gcd
    split <;> simp
  rintro e S' ⟨rfl, x, hx, hg, rfl⟩
  refine ens_seq (fun e S'' => S'' = S' ∧ e = [some (.int a), some (.int b), some (.int x), some (.int b), none]) ?_ ?_
  · simp
  rintro e S'' ⟨rfl, rfl⟩
  have b0 : b ≠ 0 := by omega
  have g1 := gs_sz (a := a) b0 hb
  have g2 := g1.divOk (a := a) (gs_ne b0) hn
  have g3 := g1.divOk (a := b) (gs_ne b0) hn
  have ge := loQ_of_pos (a := a) h
  refine ens_seq (fun e S' => S' = S'' ∧ ∃ v4, e = [some (.int a), some (.int b), some (.int 0), some (.int (gs a b)), v4]) ?_ ?_
  · refine ens_while (fun e S' => ∃ (x' y' : Int) (v4 : Option D), e = [some (.int a), some (.int b), some (.int x'), some (.int y'), v4] ∧ S' = S'' ∧ 0 ≤ x' ∧ 0 ≤ y' ∧ Int.gcd x' y' = Int.gcd a b) (fun e _ => match e with | [_, _, some (.int x'), _, _] => x'.toNat | _ => 0) ?_ ⟨x, b, none, rfl, rfl, hx, by omega, hg⟩
    rintro e S' ⟨x', y', v4, rfl, rfl, hx', hy', hg'⟩
    simp
    refine ⟨fun hz => ?_, fun hz => ?_⟩
    · have hp : 0 < x' := by omega
      obtain ⟨h1, h2, h3⟩ := gcd_step hy' hp
      refine ⟨hz, ?_⟩
      exact ⟨⟨_, _, ⟨rfl, rfl⟩, h1, hx', by rw [Int.gcd_comm, h3, Int.gcd_comm]; exact hg'⟩, by omega⟩
    · subst hz
      simp
      rw [ge, ← hg', Int.gcd_zero_left]
      omega
  rintro e S' ⟨rfl, v4, rfl⟩
  simp
  exact ⟨g2, g3, rfl⟩
theorem sum_sz {n : Nat} : ∀ (l : List Int) (k : Nat), (∀ x ∈ l, Sz n x) → l.length ≤ k → l.sum.natAbs ≤ k * 2 ^ n
  | [], k, _, _ => by simp
  | x :: l, k, h, hk => by
    rw [List.length_cons] at hk
    have h1 := sum_sz l (k - 1) (fun y hy => h y (by simp [hy])) (by omega)
    have h2 : x.natAbs < 2 ^ n := h x (by simp)
    rw [List.sum_cons]
    obtain ⟨k, rfl⟩ : ∃ j, k = j + 1 := ⟨k - 1, by omega⟩
    rw [Nat.add_sub_cancel] at h1
    rw [Nat.succ_mul]
    omega
theorem sum_pos {l : List Int} (h : ∀ x ∈ l, 0 < x) (hl : l ≠ []) : 0 < l.sum := by
  induction l with
  | nil => exact absurd rfl hl
  | cons x l ih =>
    rw [List.sum_cons]
    have hx := h x (by simp)
    cases l with
    | nil => simp; omega
    | cons y l => have := ih (fun z hz => h z (by simp [hz])) (by simp); omega
/-- the lists -/
structure Li (xs ws : List Int) : Prop where
  len : xs.length = ws.length
  few : ws.length ≤ 10
  some : ws ≠ []
  sx : ∀ x ∈ xs, Sz 110 x
  sw : ∀ w ∈ ws, Sz 110 w
  pw : ∀ w ∈ ws, 0 < w
def prod (xs ws : List Int) : List Int := (xs.zip ws).map fun z => z.1 * z.2
theorem Li.sumW {xs ws : List Int} (h : Li xs ws) : 0 < ws.sum ∧ Sz 120 ws.sum := by
  refine ⟨sum_pos h.pw h.some, ?_⟩
  have := sum_sz ws 10 h.sw h.few
  refine Nat.lt_of_le_of_lt this (by decide)
theorem average_ok {xs ws : List Int} (h : Li xs ws) (S : Store) : F_average [.lst (xs.map D.int), .lst (ws.map D.int)] S = .ok (lo (prod xs ws).sum ws.sum) S := by
  obtain ⟨w0, wz⟩ := h.sumW
  rw [← ens_eq]
  refine ens_fn rfl ?_
  unfold b_average
  simp only [List.map_cons, List.map_nil, List.replicate, List.cons_append, List.nil_append]
  have hz : (fun (z : D × D) => D.tup [z.1, z.2]) ∘ Prod.map D.int D.int = fun (z : Int × Int) => D.tup [D.int z.1, D.int z.2] := rfl
  simp [srcZip, stL, List.zip_map, List.map_map, hz, true_and]
  rw [lc_map (emb := fun (z : Int × Int) => D.tup [D.int z.1, D.int z.2]) (ψ := fun z => D.int (z.1 * z.2)) (xs.zip ws) []]
  · have e : (xs.zip ws).map (fun z => D.int (z.1 * z.2)) = (prod xs ws).map D.int := by unfold prod; rw [List.map_map]; rfl
    simp [e, bSum]
    rw [ratio_ok _ _ 120 S (by omega) wz (by decide)]
    simp
    rfl
  · rintro ⟨x, w⟩ hm
    have hx := List.of_mem_zip hm
    refine ⟨_, rfl, ?_⟩
    simp
    exact (h.sx x hx.1).mulOk (h.sw w hx.2) (by decide)
  · rw [List.length_zip]
    have := h.few
    simp
    omega
theorem dMod_pos {i j : Int} {S : Store} (h : 0 < j) : dMod (.int i) (.int j) S = .ok (.int (i % j)) S := by
  simp [fmod_pos h]
  omega
theorem cell_nat' {S : Store} {n : Nat} {dn : List Nat} (h : S[n]? = some (.lst (dn.map fun (m : Nat) => D.int (m : Int)))) {k : Nat} (hk : k < dn.length) : dIx (.cell n) (.int (k : Int)) S = .ok (.int (dn[k] : Int)) S := by
  have e : L2.atI (dn.map fun (m : Nat) => D.int (m : Int)) (k : Int) = some (.int (dn[k] : Int)) := by
    rw [atI_nat (by rw [List.getElem?_map, List.getElem?_eq_getElem hk]; rfl)]
  simp only [dIx, getQ, getL, h, e]
theorem underL_nat {n : Nat} (l : List Nat) : D.underL n (l.map fun (m : Nat) => D.int (m : Int)) = true := underL_of fun d hd => by
  obtain ⟨z, _, rfl⟩ := List.mem_map.mp hd
  rfl
theorem under_app {S : Store} (hS : (S.all fun c => c.under S.length) = true) (row : List Nat) : ((S ++ [Cn.lst (row.map fun (k : Nat) => D.int (k : Int))]).all fun c => c.under (S ++ [Cn.lst (row.map fun (k : Nat) => D.int (k : Int))]).length) = true := by
  rw [List.all_append, Bool.and_eq_true]
  rw [List.all_eq_true] at hS
  refine ⟨List.all_eq_true.mpr fun x hx => cn_under_mono (by simp) (hS x hx), ?_⟩
  simp [Cn.under, underL_nat]
theorem under_nats {n : Nat} (l : List Nat) : D.under n (.lst (l.map fun (m : Nat) => D.int (m : Int))) = true := by
  rw [D.under]
  exact underL_nat l
/-! ### webs -/
abbrev Ro := Nat × Nat × Int
def roD (z : Ro) : D := .tup [.int (z.1 : Int), .int (z.2.1 : Int), .int z.2.2]
def wbD (m : Nat) (rs : List Ro) : D := .tup [.int (m : Int), .lst (rs.map roD)]
structure WebP (m : Nat) (rs : List Ro) : Prop where
  ok : ∀ z ∈ rs, z.1 < m ∧ z.2.1 < m ∧ z.1 ≠ z.2.1 ∧ 1 ≤ z.2.2 ∧ z.2.2 ≤ 1000000
  m1 : 1 ≤ m
  m60 : m ≤ 60
  few : rs.length ≤ 120
structure WebOk (m : Nat) (rs : List Ro) : Prop extends WebP m rs where
  conn : ∀ R : Nat → Prop, R 0 → (∀ z ∈ rs, R z.1 ↔ R z.2.1) → ∀ k < m, R k
def getN (kv : List (Nat × Int)) (k : Nat) : Option Int := (kv.find? fun p => decide (p.1 = k)).map (·.2)
def putN (kv : List (Nat × Int)) (k : Nat) (v : Int) : List (Nat × Int) :=
  if (kv.any fun p => decide (p.1 = k)) = true then kv.map (fun p => if p.1 = k then (p.1, v) else p) else kv ++ [(k, v)]
def emb (kv : List (Nat × Int)) : List (Key × D) := kv.map fun p => (Sum.inl (p.1 : Int), D.int p.2)
theorem inl_eq {a b : Nat} : ((Sum.inl (a : Int) : Key) = Sum.inl (b : Int)) ↔ a = b := by
  constructor
  · intro h
    have := Sum.inl.inj h
    omega
  · intro h; rw [h]
theorem valD_emb (k : Nat) : ∀ kv : List (Nat × Int), valD (emb kv) (Sum.inl (k : Int)) = (getN kv k).map D.int
  | [] => rfl
  | p :: kv => by
    have ih := valD_emb k kv
    unfold valD emb getN at ih ⊢
    rw [List.map_cons, List.find?_cons, List.find?_cons]
    by_cases q : p.1 = k
    · rw [decide_eq_true (inl_eq.mpr q), decide_eq_true q]
      rfl
    · rw [decide_eq_false (fun z => q (inl_eq.mp z)), decide_eq_false q]
      exact ih
theorem any_emb (k : Nat) (kv : List (Nat × Int)) : ((emb kv).any fun x => decide (x.1 = (Sum.inl (k : Int) : Key))) = kv.any fun p => decide (p.1 = k) := by
  unfold emb
  rw [List.any_map]
  congr 1
  funext p
  show decide ((Sum.inl (p.1 : Int) : Key) = Sum.inl (k : Int)) = decide (p.1 = k)
  rw [Bool.eq_iff_iff, decide_eq_true_iff, decide_eq_true_iff, inl_eq]
theorem putD_emb (kv : List (Nat × Int)) (k : Nat) (v : Int) : putD (emb kv) (Sum.inl (k : Int)) (.int v) = emb (putN kv k v) := by
  unfold putD putN
  rw [any_emb]
  split
  · unfold emb
    rw [List.map_map, List.map_map]
    apply List.map_congr_left
    intro p _
    show (if (Sum.inl (p.1 : Int) : Key) = Sum.inl (k : Int) then ((Sum.inl (p.1 : Int) : Key), D.int v) else (Sum.inl (p.1 : Int), D.int p.2)) = _
    by_cases q : p.1 = k
    · rw [if_pos (inl_eq.mpr q)]
      simp [q]
    · rw [if_neg (fun z => q (inl_eq.mp z))]
      simp [q]
  · simp [emb]
theorem putN_len (kv : List (Nat × Int)) (k : Nat) (v : Int) : (putN kv k v).length ≤ kv.length + 1 := by
  unfold putN
  split <;> simp
theorem keys_put (kv : List (Nat × Int)) (k : Nat) (v : Int) (h : (kv.map (·.1)).Nodup) : ((putN kv k v).map (·.1)).Nodup ∧ ∀ x ∈ (putN kv k v).map (·.1), x ∈ kv.map (·.1) ∨ x = k := by
  unfold putN
  split
  · have e : (kv.map fun p => if p.1 = k then (p.1, v) else p).map (·.1) = kv.map (·.1) := by
      rw [List.map_map]
      apply List.map_congr_left
      intro p _
      show (if p.1 = k then (p.1, v) else p).1 = p.1
      split <;> rfl
    rw [e]
    exact ⟨h, fun x hx => .inl hx⟩
  · rename_i q
    rw [List.map_append, List.map_cons, List.map_nil]
    refine ⟨List.nodup_append.mpr ⟨h, by simp, fun a ha b hb => ?_⟩, fun x hx => ?_⟩
    · rw [List.mem_singleton.mp hb]
      intro z
      subst z
      obtain ⟨p, hp, e⟩ := List.mem_map.mp ha
      exact q (List.any_eq_true.mpr ⟨p, hp, decide_eq_true e⟩)
    · rcases List.mem_append.mp hx with y | y
      · exact .inl y
      · exact .inr (List.mem_singleton.mp y)
theorem pigeon : ∀ (m : Nat) (l : List Nat), l.Nodup → (∀ x ∈ l, x < m) → l.length ≤ m
  | 0, [], _, _ => by simp
  | 0, x :: l, _, h => by have := h x (by simp); omega
  | m + 1, l, hn, h => by
    by_cases q : m ∈ l
    · have h1 := pigeon m (l.erase m) (hn.erase m) (fun x hx => by
        have h2 := h x (List.mem_of_mem_erase hx)
        have h3 : x ≠ m := fun z => by
          subst z
          exact (List.Nodup.not_mem_erase hn) hx
        omega)
      rw [List.length_erase_of_mem q] at h1
      have := List.length_pos_of_mem q
      omega
    · have := pigeon m l hn (fun x hx => by
        have h2 := h x hx
        have h3 : x ≠ m := fun z => q (z ▸ hx)
        omega)
      omega
def nearS (p : Nat) (kv : List (Nat × Int)) (z : Ro) : List (Nat × Int) :=
  if z.1 = p ∨ z.2.1 = p then putN kv (z.1 + z.2.1 - p) (if (getN kv (z.1 + z.2.1 - p)).getD z.2.2 < z.2.2 then (getN kv (z.1 + z.2.1 - p)).getD z.2.2 else z.2.2) else kv
def near (rs : List Ro) (p : Nat) : List (Nat × Int) := rs.foldl (nearS p) []
theorem near_snoc (rs : List Ro) (z : Ro) (p : Nat) : near (rs ++ [z]) p = nearS p (near rs p) z := by
  unfold near
  rw [List.foldl_append]
  rfl
theorem near_keys {m : Nat} (p : Nat) : ∀ rs : List Ro, (∀ z ∈ rs, z.1 < m ∧ z.2.1 < m ∧ z.1 ≠ z.2.1 ∧ 1 ≤ z.2.2 ∧ z.2.2 ≤ 1000000) → ((near rs p).map (·.1)).Nodup ∧ ∀ x ∈ (near rs p).map (·.1), x < m := by
  intro rs
  have go : ∀ (l : List Ro) (kv : List (Nat × Int)), (∀ z ∈ l, z.1 < m ∧ z.2.1 < m ∧ z.1 ≠ z.2.1 ∧ 1 ≤ z.2.2 ∧ z.2.2 ≤ 1000000) → (kv.map (·.1)).Nodup → (∀ x ∈ kv.map (·.1), x < m) → ((l.foldl (nearS p) kv).map (·.1)).Nodup ∧ ∀ x ∈ (l.foldl (nearS p) kv).map (·.1), x < m := by
    intro l
    induction l with
    | nil => exact fun kv _ h1 h2 => ⟨h1, h2⟩
    | cons z l ih =>
      intro kv h h1 h2
      rw [List.foldl_cons]
      have hz := h z (by simp)
      refine ih _ (fun y hy => h y (by simp [hy])) ?_ ?_
      · unfold nearS
        split
        · exact (keys_put kv _ _ h1).1
        · exact h1
      · unfold nearS
        split
        · intro x hx
          rcases (keys_put kv _ _ h1).2 x hx with y | y
          · exact h2 x y
          · omega
        · exact h2
  exact fun h => go rs [] h (by simp) (by simp)
theorem intK_emb : ∀ kv : List (Nat × Int), intK ((emb kv).map (·.1)) = some (kv.map fun p => (p.1 : Int))
  | [] => rfl
  | p :: kv => by
    have ih := intK_emb kv
    unfold emb at ih ⊢
    rw [List.map_cons, List.map_cons, intK, ih]
    rfl
theorem getN_mem {kv : List (Nat × Int)} {k : Nat} (h : k ∈ kv.map (·.1)) : ∃ v, getN kv k = some v := by
  obtain ⟨p, hp, e⟩ := List.mem_map.mp h
  unfold getN
  cases q : kv.find? fun p => decide (p.1 = k) with
  | none =>
    have := List.find?_eq_none.mp q p hp
    simp at this
    exact absurd e this
  | some y => exact ⟨y.2, rfl⟩
theorem getN_none {kv : List (Nat × Int)} {k : Nat} (h : k ∉ kv.map (·.1)) : getN kv k = none := by
  unfold getN
  have : (kv.find? fun p => decide (p.1 = k)) = none := List.find?_eq_none.mpr fun p hp => by
    simp
    intro e
    exact h (List.mem_map.mpr ⟨p, hp, e⟩)
  rw [this]
  rfl
/-- sorted keys, as natural numbers -/
theorem isrt_nat (ks : List Nat) : ∃ ns : List Nat, isrt (ks.map fun (k : Nat) => (k : Int)) = ns.map (fun (k : Nat) => (k : Int)) ∧ ns.Perm ks := by
  have p := isrt_perm (ks.map fun (k : Nat) => (k : Int))
  refine ⟨(isrt (ks.map fun (k : Nat) => (k : Int))).map Int.toNat, ?_, ?_⟩
  · rw [List.map_map]
    conv => lhs; rw [← List.map_id (isrt (ks.map fun (k : Nat) => (k : Int)))]
    apply List.map_congr_left
    intro x hx
    obtain ⟨k, _, rfl⟩ := List.mem_map.mp (p.mem_iff.mp hx)
    simp
  · have := p.map Int.toNat
    rw [List.map_map] at this
    have e : (Int.toNat ∘ fun (k : Nat) => (k : Int)) = id := by funext k; simp
    rw [e, List.map_id] at this
    exact this
def prN (p : Nat × Int) : D := .tup [.int (p.1 : Int), .int p.2]
theorem roads_from_ok {m : Nat} {rs : List Ro} (h : WebP m rs) (p : Nat) (S : Store) (hS : (S.all fun c => c.under S.length) = true) : Ens (F_roads_from [wbD m rs, .int (p : Int)] S) fun d S' => S' = S ∧ ∃ L : List (Nat × Int), d = .lst (L.map prN) ∧ (∀ q ∈ L, getN (near rs p) q.1 = some q.2) ∧ (∀ o v, getN (near rs p) o = some v → (o, v) ∈ L) ∧ L.length ≤ 60 := by
  have few := h.few
  have m60 := h.m60
  refine ens_fn rfl ?_
  unfold b_roads_from
  simp only [List.map_cons, List.map_nil, List.replicate, List.cons_append, List.nil_append]
  refine ens_sq (fun e S' => S' = S ++ [.dct (emb [])] ∧ e = [some (wbD m rs), some (.int (p : Int)), some (.cell S.length), none, none, none, none]) (fun R hR => ?_) ?_
  · simp only [ySet_app, xDct0, enso_out, ens_ok, enso_nx, List.set_cons_succ, List.set_cons_zero]
    exact hR _ _ ⟨rfl, rfl⟩
  rintro e S' ⟨rfl, rfl⟩
  have i1 : ∀ S, dIx (wbD m rs) (.int 1) S = .ok (.lst (rs.map roD)) S := fun S => by unfold wbD; simp
  refine ens_sq (fun e S' => S' = S ++ [.dct (emb (near rs p))] ∧ ∃ v3 v4 v5 v6, e = [some (wbD m rs), some (.int (p : Int)), some (.cell S.length), v3, v4, v5, v6]) (fun R hR => ?_) ?_
  · simp only [yFor_app, iSrc_app, xOp_app, xC_app, xVar_app, List.getElem?_cons_zero, Res.bind_ok, i1, srcL_lst, enso_out, ens_ok]
    refine ens_fr (fun i e S' => S' = S ++ [.dct (emb (near (rs.take i) p))] ∧ ∃ v3 v4 v5 v6, e = [some (wbD m rs), some (.int (p : Int)), some (.cell S.length), v3, v4, v5, v6]) ⟨rfl, _, _, _, _, rfl⟩ ?_ ?_
    · rintro i d e S' R2 hd ⟨rfl, v3, v4, v5, v6, rfl⟩ hR2
      rw [List.getElem?_map] at hd
      have hi : i < rs.length := by
        by_cases q : i < rs.length
        · exact q
        · rw [List.getElem?_eq_none (by omega)] at hd; cases hd
      rw [List.getElem?_eq_getElem hi] at hd
      cases hd
      have hz := h.ok rs[i] (List.getElem_mem _)
      have nx : near (rs.take (i + 1)) p = nearS p (near (rs.take i) p) rs[i] := by rw [List.take_succ_eq_append_getElem hi, near_snoc]
      have kl := near_keys (m := m) p (rs.take i) (fun z hz => h.ok z (List.mem_of_mem_take hz))
      have len := pigeon m _ kl.1 kl.2
      rw [List.length_map] at len
      generalize rs[i] = z at *
      generalize near (rs.take i) p = kv at *
      have c0 : (S ++ [.dct (emb kv)])[S.length]? = some (.dct (emb kv)) := app_at0 rfl
      have ck : cellK (.cell S.length) (S ++ [.dct (emb kv)]) = some (S.length, emb kv) := by simp only [cellK, c0]
      simp only [roD, gT_app, gsCons_app, gsNil_app, gN_app, Out.seq_nx, List.length_cons, List.length_nil, if_pos, enso_nx, List.set_cons_succ, List.set_cons_zero, yIf_app, xOr_app, xIsT_app, xOp_app, xVar_app, List.getElem?_cons_zero, List.getElem?_cons_succ, Res.bind_ok, dEq_int]
      have body : z.1 = p ∨ z.2.1 = p → EnsO ((ySeq (ySet 6 (xOp dSub (xOp (dAdd mkF) (xVar 3) (xVar 4)) (xVar 1)))
    (ySub (xFn bMin (xCons (xVar 5) (xCons (xGet2 (xVar 2) (xVar 6) (xVar 5)) xNil))) (xVar 2) (xVar 6) setK)) [some (wbD m rs), some (.int (p : Int)), some (.cell S.length), some (.int (z.1 : Int)), some (.int (z.2.1 : Int)), some (.int z.2.2), v6] (S ++ [.dct (emb kv)])) { nx := R2, ct := R2, bk := R, rt := fun d S' => Ens (fin false S.length d S') fun d S' => S' = S ∧ ∃ L : List (Nat × Int), d = .lst (L.map prN) ∧ (∀ q ∈ L, getN (near rs p) q.1 = some q.2) ∧ (∀ o v, getN (near rs p) o = some v → (o, v) ∈ L) ∧ L.length ≤ 60 } := fun hor => by
        have eo : ((z.1 : Int) + (z.2.1 : Int) - (p : Int)) = ((z.1 + z.2.1 - p : Nat) : Int) := by omega
        have nxs : nearS p kv z = putN kv (z.1 + z.2.1 - p) (if (getN kv (z.1 + z.2.1 - p)).getD z.2.2 < z.2.2 then (getN kv (z.1 + z.2.1 - p)).getD z.2.2 else z.2.2) := if_pos hor
        rw [nxs] at nx
        generalize z.1 + z.2.1 - p = o at *
        have vg : ((valD (emb kv) (Sum.inl (o : Int))).getD (.int z.2.2)) = .int ((getN kv o).getD z.2.2) := by
          rw [valD_emb]
          cases getN kv o <;> rfl
        have g2 : dGet (.cell S.length) (.int (o : Int)) (.int z.2.2) (S ++ [.dct (emb kv)]) = .ok (.int ((getN kv o).getD z.2.2)) (S ++ [.dct (emb kv)]) := by
          simp only [dGet, ck, keyD, vg]
        have ik : isK (.cell S.length) (S ++ [.dct (emb kv)]) = true := by unfold isK; rw [ck]; rfl
        have el : (emb kv).length < 16000000 := by unfold emb; rw [List.length_map]; omega
        simp only [ySeq_app, ySet_app, xOp_app, xVar_app, List.getElem?_cons_zero, List.getElem?_cons_succ, Res.bind_ok, dAdd_int, dSub_ok, eo, Res.out_ok, Out.seq_nx, List.set_cons_succ, List.set_cons_zero, ySub_app, xFn_app, xCons_app, xNil_app, xGet2, ik, if_true, g2, bMin_two, setK, ck, keyD, if_pos el, putD_emb, app_set0, enso_nx]
        refine hR2 _ _ ⟨?_, _, _, _, _, rfl⟩
        rw [nx]
      by_cases q1 : z.1 = p
      · simp only [decide_eq_true (show ((z.1 : Int) = (p : Int)) by omega), if_true, enso_out, ens_ok]
        exact body (.inl q1)
      · by_cases q2 : z.2.1 = p
        · simp only [decide_eq_false (show ¬ ((z.1 : Int) = (p : Int)) by omega), decide_eq_true (show ((z.2.1 : Int) = (p : Int)) by omega), Bool.false_eq_true, if_false, if_true, enso_out, ens_ok]
          exact body (.inr q2)
        · simp only [decide_eq_false (show ¬ ((z.1 : Int) = (p : Int)) by omega), decide_eq_false (show ¬ ((z.2.1 : Int) = (p : Int)) by omega), Bool.false_eq_true, if_false, enso_out, ens_ok, yNil_app, enso_nx]
          have nxs : nearS p kv z = kv := if_neg (by simp [q1, q2])
          rw [nxs] at nx
          exact hR2 _ _ ⟨by rw [nx], _, _, _, _, rfl⟩
    · rintro e S' ⟨rfl, v3, v4, v5, v6, rfl⟩
      rw [List.length_map, List.take_length]
      exact hR _ _ ⟨rfl, _, _, _, _, rfl⟩
  rintro e S' ⟨rfl, v3, v4, v5, v6, rfl⟩
  have kl := near_keys (m := m) p rs h.ok
  have len := pigeon m _ kl.1 kl.2
  rw [List.length_map] at len
  generalize near rs p = kv at *
  have c0 : (S ++ [.dct (emb kv)])[S.length]? = some (.dct (emb kv)) := app_at0 rfl
  have ck : cellK (.cell S.length) (S ++ [.dct (emb kv)]) = some (S.length, emb kv) := by simp only [cellK, c0]
  obtain ⟨os, e1, e2⟩ := isrt_nat (kv.map (·.1))
  rw [List.map_map] at e1
  have ol : os.length = kv.length := by rw [e2.length_eq, List.length_map]
  have so : bSortK mkF [.cell S.length] (S ++ [.dct (emb kv)]) = .ok (.lst (os.map fun (k : Nat) => D.int (k : Int))) (S ++ [.dct (emb kv)]) := by
    have e3 : (kv.map fun q => (q.1 : Int)) = kv.map ((fun (k : Nat) => (k : Int)) ∘ fun q => q.1) := rfl
    simp only [bSortK, ck, intK_emb, List.length_map]
    rw [if_pos (by omega), mkF_app, e3, e1, List.map_map]
    rfl
  have gv : ∀ o ∈ os, ∃ v, getN kv o = some v := fun o ho => getN_mem (e2.mem_iff.mp ho)
  have hc : lcL (fun _ => True) (eN 6) cYes (xTup (xCons (xVar 6) (xCons (xOp dKx (xVar 2) (xVar 6)) xNil))) [some (wbD m rs), some (.int (p : Int)), some (.cell S.length), v3, v4, v5, none] (os.map fun (k : Nat) => D.int (k : Int)) [] (S ++ [.dct (emb kv)]) = .ok ([] ++ os.map fun o => prN (o, (getN kv o).getD 0)) (S ++ [.dct (emb kv)]) := by
    refine lc_map (fun (k : Nat) => D.int (k : Int)) (fun o => prN (o, (getN kv o).getD 0)) os [] (fun o ho => ⟨_, rfl, ?_⟩) (by simp; omega)
    obtain ⟨v, hv⟩ := gv o ho
    have dk : dKx (.cell S.length) (.int (o : Int)) (S ++ [.dct (emb kv)]) = .ok (.int v) (S ++ [.dct (emb kv)]) := by
      simp only [dKx, ck, keyD, valD_emb, hv, Option.map_some]
    simp only [List.set_cons_succ, List.set_cons_zero, xTup_app, xCons_app, xNil_app, xOp_app, xVar_app, List.getElem?_cons_zero, List.getElem?_cons_succ, Res.bind_ok, dk, List.length_cons, List.length_nil, if_pos (show 0 + 1 + 1 ≤ 1000 by decide), hv]
    rfl
  simp only [yRet_app, xLc_app, iSrc_app, xFn_app, xCons_app, xNil_app, xVar_app, List.getElem?_cons_zero, List.getElem?_cons_succ, Res.bind_ok, so, srcL_lst, wipeE_cons, wipeE_nil, List.set_cons_succ, List.set_cons_zero, hc, mkF_app, Res.out_ok, enso_rt, List.nil_append]
  rw [fin_cut rfl hS (by
    rw [D.under]
    exact underL_of fun d hd => by
      obtain ⟨z, _, rfl⟩ := List.mem_map.mp hd
      rfl), ens_ok]
  refine ⟨rfl, os.map fun o => (o, (getN kv o).getD 0), by rw [List.map_map]; rfl, fun q hq => ?_, fun o v hv => ?_, by rw [List.length_map]; omega⟩
  · obtain ⟨o, ho, rfl⟩ := List.mem_map.mp hq
    obtain ⟨v, hv⟩ := gv o ho
    simp only [hv]
    rfl
  · refine List.mem_map.mpr ⟨o, ?_, by rw [hv]; rfl⟩
    refine e2.mem_iff.mpr ?_
    by_cases q : o ∈ kv.map (·.1)
    · exact q
    · rw [getN_none q] at hv; cases hv
theorem inFl_nat (x : Nat) : ∀ l : List Nat, inFl (.int (x : Int)) (l.map fun (m : Nat) => D.int (m : Int)) = decide (x ∈ l)
  | [] => by simp [inFl]
  | y :: l => by
    have ih := inFl_nat x l
    unfold inFl at ih ⊢
    rw [List.map_cons, List.any_cons, ih]
    by_cases q : x = y
    · subst q; simp [eqFl]
    · have q2 : ¬ ((y : Int) = (x : Int)) := by omega
      simp [eqFl, q, q2]
theorem all_flat (l : List Nat) : (l.map fun (m : Nat) => D.int (m : Int)).all flatD = true := by
  rw [List.all_map, List.all_eq_true]
  intro x _
  rfl
theorem notIn_nat {S : Store} {n : Nat} {l : List Nat} (h : S[n]? = some (.lst (l.map fun (m : Nat) => D.int (m : Int)))) (x : Nat) : dNotIn (.int (x : Int)) (.cell n) S = .ok (.bl (!decide (x ∈ l))) S := by
  have g : getI (.cell n) S = some (l.map fun (m : Nat) => D.int (m : Int)) := by simp [getI, getL, h]
  unfold dNotIn dInX
  rw [g]
  simp only [inFl_nat]
  rw [if_pos ⟨rfl, all_flat l⟩]
  rfl
theorem is_road_ok {m : Nat} {z : Ro} (h : z.1 < m ∧ z.2.1 < m ∧ z.1 ≠ z.2.1 ∧ 1 ≤ z.2.2 ∧ z.2.2 ≤ 1000000) (S : Store) : F_is_road [.int (m : Int), roD z] S = .ok (.bl true) S := by
  obtain ⟨h1, h2, h3, h4, h5⟩ := h
  rw [← ens_eq]
  refine ens_fn rfl ?_
  unfold b_is_road roD
  simp only [List.map_cons, List.map_nil, List.replicate, List.cons_append, List.nil_append]
  refine ens_sq (fun e S' => S' = S ∧ e = [some (.int (m : Int)), some (.tup [.int (z.1 : Int), .int (z.2.1 : Int), .int z.2.2]), some (.int (z.1 : Int)), some (.int (z.2.1 : Int)), some (.int z.2.2)]) (fun R hR => ?_) ?_
  · simp [gT, gsCons, gsNil, gN, Out.seq]
    exact hR _ _ ⟨rfl, rfl⟩
  rintro e S' ⟨rfl, rfl⟩
  refine ens_sq (fun e S2 => S2 = S' ∧ e = [some (.int (m : Int)), some (.tup [.int (z.1 : Int), .int (z.2.1 : Int), .int z.2.2]), some (.int (z.1 : Int)), some (.int (z.2.1 : Int)), some (.int z.2.2)]) (fun R hR => ?_) ?_
  · have n1 : ¬ ((if (z.2.1 : Int) < (z.1 : Int) then (z.2.1 : Int) else (z.1 : Int)) < 0) := by split <;> omega
    have n2 : ¬ ((m : Int) ≤ (if (z.2.1 : Int) > (z.1 : Int) then (z.2.1 : Int) else (z.1 : Int))) := by split <;> omega
    have n3 : ¬ ((z.1 : Int) = (z.2.1 : Int)) := by omega
    simp only [yIf_app, xOr_app, xIsT_app, xOp_app, xFn_app, xCons_app, xNil_app, xC_app, xVar_app, List.getElem?_cons_zero, List.getElem?_cons_succ, Res.bind_ok, bMin_two, bMax_two, dLt_ok, dGe_ok, dEq_int, decide_eq_false n1, decide_eq_false n2, decide_eq_false n3, Bool.false_eq_true, if_false, enso_out, ens_ok, yNil_app, enso_nx]
    exact hR _ _ ⟨rfl, rfl⟩
  rintro e S2 ⟨rfl, rfl⟩
  simp [h4, h5]
/-- what the search has: places, each once; those below at have all their neighbours in -/
def Rch (rs : List Ro) (k : Nat) : Prop := ∀ R : Nat → Prop, R 0 → (∀ z ∈ rs, R z.1 ↔ R z.2.1) → R k
structure RowI (m : Nat) (rs : List Ro) (row : List Nat) (at' : Nat) : Prop where
  nd : row.Nodup
  lt : ∀ x ∈ row, x < m
  zero : 0 ∈ row
  re : ∀ x ∈ row, Rch rs x
  cl : ∀ (i : Nat) (h : i < row.length), i < at' → ∀ o v, getN (near rs row[i]) o = some v → o ∈ row
theorem near_key_lt {m : Nat} {rs : List Ro} (h : WebP m rs) {p o : Nat} {v : Int} (e : getN (near rs p) o = some v) : o < m := by
  by_cases q : o ∈ (near rs p).map (·.1)
  · exact (near_keys (m := m) p rs h.ok).2 o q
  · rw [getN_none q] at e; cases e
theorem getN_put (kv : List (Nat × Int)) (k : Nat) (v : Int) (j : Nat) : getN (putN kv k v) j = if j = k then some v else getN kv j := by
  unfold putN getN
  induction kv with
  | nil =>
    simp
    by_cases q : k = j
    · subst q; simp
    · simp [q]
      exact fun z => q z.symm
  | cons p kv ih => 
    by_cases a : (((p :: kv).any fun p => decide (p.1 = k)) = true)
    · rw [if_pos a]
      by_cases q : p.1 = k
      · by_cases w : j = k
        · subst w
          simp [q]
        · have w2 : ¬ k = j := fun z => w z.symm
          have : (kv.map fun p => if p.1 = k then (p.1, v) else p).find? (fun p => decide (p.1 = j)) = kv.find? fun p => decide (p.1 = j) := by
            clear ih a
            induction kv with
            | nil => rfl
            | cons y kv ih2 =>
              rw [List.map_cons, List.find?_cons, List.find?_cons]
              by_cases c : y.1 = k
              · have c2 : ¬ y.1 = j := fun z => w (z.symm.trans c)
                rw [if_pos c]
                simp only [c2, decide_false]
                exact ih2
              · rw [if_neg c]
                by_cases c3 : y.1 = j
                · simp [c3]
                · simp only [c3, decide_false]; exact ih2
          rw [List.map_cons, if_pos q, List.find?_cons, List.find?_cons]
          have q2 : ¬ p.1 = j := fun z => w (z.symm.trans q)
          simp only [q2, decide_false]
          rw [this, if_neg w]
      · have a2 : (kv.any fun p => decide (p.1 = k)) = true := by
          rw [List.any_cons, decide_eq_false q, Bool.false_or] at a
          exact a
        rw [if_pos a2] at ih
        rw [List.map_cons, if_neg q, List.find?_cons, List.find?_cons]
        by_cases w : p.1 = j
        · have w2 : ¬ j = k := fun z => q (w.trans z)
          simp [w, w2]
        · simp only [w, decide_false]
          exact ih
    · rw [if_neg a]
      have q : ¬ p.1 = k := fun z => a (List.any_eq_true.mpr ⟨p, by simp, decide_eq_true z⟩)
      have a2 : ¬ (kv.any fun p => decide (p.1 = k)) = true := fun z => by
        rw [List.any_cons, z, Bool.or_true] at a
        exact a rfl
      rw [if_neg a2] at ih
      rw [List.cons_append, List.find?_cons, List.find?_cons]
      by_cases w : p.1 = j
      · have w2 : ¬ j = k := fun z => q (w.trans z)
        simp [w, w2]
      · simp only [w, decide_false]
        exact ih
/-- neighbours have a road -/
theorem road_of_near {rs : List Ro} {p o : Nat} {v : Int} (e : getN (near rs p) o = some v) : ∃ z ∈ rs, (z.1 = p ∧ z.2.1 = o) ∨ (z.2.1 = p ∧ z.1 = o) := by
  have go : ∀ (l : List Ro) (kv : List (Nat × Int)), (∀ o v, getN kv o = some v → ∃ z ∈ rs, (z.1 = p ∧ z.2.1 = o) ∨ (z.2.1 = p ∧ z.1 = o)) → (∀ z ∈ l, z ∈ rs) → ∀ o v, getN (l.foldl (nearS p) kv) o = some v → ∃ z ∈ rs, (z.1 = p ∧ z.2.1 = o) ∨ (z.2.1 = p ∧ z.1 = o) := by
    intro l
    induction l with
    | nil => exact fun kv h _ => h
    | cons y l ih =>
      intro kv h hs
      rw [List.foldl_cons]
      refine ih _ (fun o v q => ?_) (fun z hz => hs z (by simp [hz]))
      unfold nearS at q
      split at q
      · rename_i c
        rw [getN_put] at q
        split at q
        · rename_i eo
          refine ⟨y, hs y (by simp), ?_⟩
          rcases c with c | c
          · left; omega
          · right; omega
        · exact h o v q
      · exact h o v q
  exact go rs [] (fun o v q => by simp [getN] at q) (fun z hz => hz) o v e
theorem Rch.near {rs : List Ro} {p o : Nat} {v : Int} (h : Rch rs p) (e : getN (near rs p) o = some v) : Rch rs o := fun R h0 hr => by
  obtain ⟨z, hz, ⟨e1, e2⟩ | ⟨e1, e2⟩⟩ := road_of_near e
  · rw [← e2]; exact (hr z hz).mp (by rw [e1]; exact h R h0 hr)
  · rw [← e2]; exact (hr z hz).mpr (by rw [e1]; exact h R h0 hr)
/-- a road makes neighbours -/
theorem near_of_road {rs : List Ro} {z : Ro} (hz : z ∈ rs) : (∃ v, getN (near rs z.1) z.2.1 = some v) ∧ ∃ v, getN (near rs z.2.1) z.1 = some v := by
  have step : ∀ (p : Nat) (kv : List (Nat × Int)) (y : Ro) (o : Nat), (∃ v, getN kv o = some v) → ∃ v, getN (nearS p kv y) o = some v := fun p kv y o ⟨v, e⟩ => by
    unfold nearS
    split
    · rw [getN_put]
      split
      · exact ⟨_, rfl⟩
      · exact ⟨v, e⟩
    · exact ⟨v, e⟩
  have here : ∀ (p o : Nat) (kv : List (Nat × Int)), (z.1 = p ∧ z.2.1 = o) ∨ (z.2.1 = p ∧ z.1 = o) → ∃ v, getN (nearS p kv z) o = some v := fun p o kv h => by
    unfold nearS
    have e : z.1 + z.2.1 - p = o := by omega
    rw [if_pos (by omega), e, getN_put, if_pos rfl]
    exact ⟨_, rfl⟩
  have go : ∀ (p o : Nat), (z.1 = p ∧ z.2.1 = o) ∨ (z.2.1 = p ∧ z.1 = o) → ∀ (l : List Ro) (kv : List (Nat × Int)), (z ∈ l ∨ ∃ v, getN kv o = some v) → ∃ v, getN (l.foldl (nearS p) kv) o = some v := by
    intro p o h l
    induction l with
    | nil => 
      intro kv q
      rcases q with q | q
      · simp at q
      · exact q
    | cons y l ih =>
      intro kv q
      rw [List.foldl_cons]
      refine ih _ ?_
      rcases q with q | q
      · rcases List.mem_cons.mp q with e | e
        · subst e
          exact .inr (here p o kv h)
        · exact .inl e
      · exact .inr (step p kv y o q)
  exact ⟨go z.1 z.2.1 (.inl ⟨rfl, rfl⟩) rs [] (.inl hz), go z.2.1 z.1 (.inr ⟨rfl, rfl⟩) rs [] (.inl hz)⟩
theorem row_all {m : Nat} {rs : List Ro} (h : WebOk m rs) {row : List Nat} (r : RowI m rs row row.length) : row.length = m := by
  have closed : ∀ x ∈ row, ∀ o v, getN (near rs x) o = some v → o ∈ row := fun x hx o v e => by
    obtain ⟨i, hi, rfl⟩ := List.getElem_of_mem hx
    exact r.cl i hi hi o v e
  have all := h.conn (fun k => k ∈ row) r.zero (fun z hz => by
    obtain ⟨⟨v, e⟩, ⟨u, f⟩⟩ := near_of_road hz
    exact ⟨fun q => closed _ q _ _ e, fun q => closed _ q _ _ f⟩)
  have h1 := pigeon m row r.nd r.lt
  have h2 : m ≤ row.length := by
    have sub := List.nodup_range (n := m)
    have : ((List.range m).filter fun x => decide (x ∈ row)).length = m := by
      rw [List.filter_eq_self.mpr fun x hx => decide_eq_true (all x (List.mem_range.mp hx)), List.length_range]
    have p : ∀ (l s : List Nat), l.Nodup → (∀ x ∈ l, x ∈ s) → l.length ≤ s.length := by
      intro l
      induction l with
      | nil => intro s _ _; simp
      | cons a l ih =>
        intro s hn hs
        have ha := hs a (by simp)
        have hn2 := List.nodup_cons.mp hn
        have := ih (s.erase a) hn2.2 (fun x hx => by
          have hne : x ≠ a := fun z => hn2.1 (z ▸ hx)
          exact (List.mem_erase_of_ne hne).mpr (hs x (by simp [hx])))
        rw [List.length_erase_of_mem ha] at this
        have := List.length_pos_of_mem ha
        rw [List.length_cons]
        omega
    have := p (List.range m) row sub (fun x hx => all x (List.mem_range.mp hx))
    rwa [List.length_range] at this
  omega
theorem reached_all {m : Nat} {rs : List Ro} (h : WebP m rs) (S : Store) (hS : (S.all fun c => c.under S.length) = true) : Ens (F_reached [wbD m rs] S) fun d S' => S' = S ∧ ∃ row : List Nat, d = .lst (row.map fun (k : Nat) => D.int (k : Int)) ∧ RowI m rs row row.length := by
  have m60 := h.m60
  have hm1 := h.m1
  refine ens_fn rfl ?_
  unfold b_reached
  simp only [List.map_cons, List.map_nil, List.replicate, List.cons_append, List.nil_append]
  refine ens_sq (fun e S' => S' = S ++ [.lst (([0] : List Nat).map fun (k : Nat) => D.int (k : Int))] ∧ e = [some (wbD m rs), some (.cell S.length), none, none, none]) (fun R hR => ?_) ?_
  · simp
    exact hR _ _ ⟨rfl, rfl⟩
  rintro e S' ⟨rfl, rfl⟩
  refine ens_sq (fun e S' => S' = S ++ [.lst (([0] : List Nat).map fun (k : Nat) => D.int (k : Int))] ∧ e = [some (wbD m rs), some (.cell S.length), some (.int ((0 : Nat) : Int)), none, none]) (fun R hR => ?_) ?_
  · simp
    exact hR _ _ ⟨rfl, rfl⟩
  rintro e S' ⟨rfl, rfl⟩
  refine ens_sq (fun e S' => ∃ (row : List Nat) (v2 v3 v4 : Option D), RowI m rs row row.length ∧ S' = S ++ [.dead] ∧ e = [some (wbD m rs), some (.lst (row.map fun (k : Nat) => D.int (k : Int))), v2, v3, v4]) (fun R hR => ?_) ?_
  · refine ens_sq (fun e S' => ∃ (row : List Nat) (v2 v3 v4 : Option D), RowI m rs row row.length ∧ S' = S ++ [.lst (row.map fun (k : Nat) => D.int (k : Int))] ∧ e = [some (wbD m rs), some (.cell S.length), v2, v3, v4]) (fun R2 hR2 => ?_) ?_
    · refine ens_while (fun e S' => ∃ (row : List Nat) (a : Nat) (v3 v4 : Option D), RowI m rs row a ∧ a ≤ row.length ∧ S' = S ++ [.lst (row.map fun (k : Nat) => D.int (k : Int))] ∧ e = [some (wbD m rs), some (.cell S.length), some (.int (a : Int)), v3, v4]) (fun e S' => match e[2]? with | some (some (D.int a)) => m - a.toNat | _ => 0) ?_ ⟨[0], 0, none, none, ⟨by simp, fun x hx => by rw [List.mem_singleton.mp hx]; omega, by simp, fun x hx => by rw [List.mem_singleton.mp hx]; exact fun R r0 _ => r0, fun i hi h0 => by omega⟩, by simp, rfl, rfl⟩
      rintro e S' ⟨row, a, v3, v4, hr, ha, rfl, rfl⟩
      have c0 : (S ++ [Cn.lst (row.map fun (k : Nat) => D.int (k : Int))])[S.length]? = some (.lst (row.map fun (k : Nat) => D.int (k : Int))) := app_at0 rfl
      have bl : bLen [.cell S.length] (S ++ [Cn.lst (row.map fun (k : Nat) => D.int (k : Int))]) = .ok (.int row.length) (S ++ [Cn.lst (row.map fun (k : Nat) => D.int (k : Int))]) := by simp [bLen, getQ, getL, c0]
      have rl := pigeon m row hr.nd hr.lt
      simp only [xIsT_app, xOp_app, xFn_app, xCons_app, xNil_app, xVar_app, List.getElem?_cons_zero, List.getElem?_cons_succ, Res.bind_ok, bl, dLt_ok, ens_ok, decide_eq_true_iff, decide_eq_false_iff_not]
      refine ⟨fun hlt => ?_, fun hnl => ?_⟩
      · have hlt2 : a < row.length := by omega
        have ix : dIx (.cell S.length) (.int (a : Int)) (S ++ [Cn.lst (row.map fun (k : Nat) => D.int (k : Int))]) = .ok (.int (row[a] : Int)) (S ++ [Cn.lst (row.map fun (k : Nat) => D.int (k : Int))]) := by
          rw [cell_nat' c0 hlt2]
        have un : ((S ++ [Cn.lst (row.map fun (k : Nat) => D.int (k : Int))]).all fun c => c.under (S ++ [Cn.lst (row.map fun (k : Nat) => D.int (k : Int))]).length) = true := under_app hS row
        refine ens_sq (fun e S' => ∃ (row' : List Nat) (v3 v4 : Option D), RowI m rs row' (a + 1) ∧ row.length ≤ row'.length ∧ S' = S ++ [.lst (row'.map fun (k : Nat) => D.int (k : Int))] ∧ e = [some (wbD m rs), some (.cell S.length), some (.int (a : Int)), v3, v4]) (fun R3 hR3 => ?_) ?_
        · simp only [yFor_app, iSrc_app, xFn_app, xCons_app, xNil_app, xOp_app, xVar_app, List.getElem?_cons_zero, List.getElem?_cons_succ, Res.bind_ok, ix, enso_out, ens_bind]
          refine (roads_from_ok h row[a] _ un).imp ?_
          rintro d S2 ⟨rfl, L, rfl, q1, q2, q3⟩
          simp only [srcL_lst, ens_ok]
          refine ens_fr (fun j e S' => ∃ (ex : List Nat) (v3 v4 : Option D), (row ++ ex).Nodup ∧ (∀ x ∈ row ++ ex, x < m) ∧ (∀ q ∈ L.take j, q.1 ∈ row ++ ex) ∧ (∀ x ∈ row ++ ex, Rch rs x) ∧ S' = S ++ [.lst ((row ++ ex).map fun (k : Nat) => D.int (k : Int))] ∧ e = [some (wbD m rs), some (.cell S.length), some (.int (a : Int)), v3, v4]) ⟨[], v3, v4, by simpa using hr.nd, by simpa using hr.lt, by simp, by simpa using hr.re, by simp, rfl⟩ ?_ ?_
          · rintro j d e S' R4 hd ⟨ex, v3, v4, e1, e2, e3, e4, rfl, rfl⟩ hR4
            rw [List.getElem?_map] at hd
            have hj : j < L.length := by
              by_cases q : j < L.length
              · exact q
              · rw [List.getElem?_eq_none (by omega)] at hd; cases hd
            rw [List.getElem?_eq_getElem hj] at hd
            cases hd
            have hq := q1 L[j] (List.getElem_mem _)
            have hlt := near_key_lt h hq
            have tk : L.take (j + 1) = L.take j ++ [L[j]] := List.take_succ_eq_append_getElem hj
            generalize L[j] = q at *
            have rl2 := pigeon m _ e1 e2
            have c1 : (S ++ [Cn.lst ((row ++ ex).map fun (k : Nat) => D.int (k : Int))])[S.length]? = some (.lst ((row ++ ex).map fun (k : Nat) => D.int (k : Int))) := app_at0 rfl
            simp only [prN, gT_app, gsCons_app, gsNil_app, gN_app, Out.seq_nx, List.length_cons, List.length_nil, if_pos, enso_nx, List.set_cons_succ, List.set_cons_zero, yIf_app, xIsT_app, xOp_app, xVar_app, List.getElem?_cons_zero, List.getElem?_cons_succ, Res.bind_ok, notIn_nat c1 q.1, enso_out, ens_ok]
            by_cases hm : q.1 ∈ row ++ ex
            · simp only [decide_eq_true hm, Bool.not_true, Bool.false_eq_true, if_false, yNil_app, enso_nx]
              refine hR4 _ _ ⟨ex, _, _, e1, e2, fun y hy => ?_, e4, rfl, rfl⟩
              rw [tk] at hy
              rcases List.mem_append.mp hy with w | w
              · exact e3 y w
              · rw [List.mem_singleton.mp w]; exact hm
            · have hre : Rch rs q.1 := (hr.re row[a] (List.getElem_mem _)).near hq
              have al : (row ++ ex).length < 16000000 := by omega
              simp only [decide_eq_false hm, Bool.not_false, if_true, yExpr_app, xMt_app, xVar_app, xCons_app, xNil_app, List.getElem?_cons_zero, List.getElem?_cons_succ, Res.bind_ok, isT, c1, beq_self_eq_true, mAppend, cellL, List.length_map, if_pos al, app_set0, enso_out, ens_ok, enso_nx]
              refine hR4 _ _ ⟨ex ++ [q.1], _, _, ?_, ?_, ?_, ?_, ?_, rfl⟩
              · rw [← List.append_assoc]
                exact List.nodup_append.mpr ⟨e1, by simp, fun x hx y hy => by rw [List.mem_singleton.mp hy]; intro z; exact hm (z ▸ hx)⟩
              · intro x hx
                rw [← List.append_assoc] at hx
                rcases List.mem_append.mp hx with w | w
                · exact e2 x w
                · rw [List.mem_singleton.mp w]; exact hlt
              · intro y hy
                rw [← List.append_assoc]
                rw [tk] at hy
                rcases List.mem_append.mp hy with w | w
                · exact List.mem_append_left _ (e3 y w)
                · rw [List.mem_singleton.mp w]; simp
              · intro x hx
                rw [← List.append_assoc] at hx
                rcases List.mem_append.mp hx with w | w
                · exact e4 x w
                · rw [List.mem_singleton.mp w]; exact hre
              · simp
          · rintro e S' ⟨ex, v3, v4, e1, e2, e3, e4, rfl, rfl⟩
            rw [List.length_map, List.take_length] at e3
            refine hR3 _ _ ⟨row ++ ex, _, _, ⟨e1, e2, List.mem_append_left _ hr.zero, e4, fun i hi hia o v e => ?_⟩, by simp, rfl, rfl⟩
            by_cases q : i < a
            · rw [List.getElem_append_left (by omega)] at e
              exact List.mem_append_left _ (hr.cl i (by omega) q o v e)
            · have : i = a := by omega
              subst this
              rw [List.getElem_append_left hlt2] at e
              exact e3 (o, v) (q2 o v e)
        rintro e S' ⟨row', v3, v4, hr', hl', rfl, rfl⟩
        simp only [yAug_app, xVar_app, xC_app, List.getElem?_cons_zero, List.getElem?_cons_succ, Res.bind_ok, ipAdd_ok, enso_out, ens_ok, enso_nx, List.set_cons_succ, List.set_cons_zero]
        exact ⟨⟨row', a + 1, v3, v4, hr', by omega, rfl, by simp⟩, by omega⟩
      · have e : a = row.length := by omega
        subst e
        exact hR2 _ _ ⟨row, _, _, _, hr, rfl, rfl⟩
    rintro e S' ⟨row, v2, v3, v4, hl, rfl, rfl⟩
    simp [frzE, frz, app_at0, app_set0]
    exact hR _ _ ⟨row, _, _, _, hl, rfl, rfl⟩
  rintro e S' ⟨row, v2, v3, v4, hl, rfl, rfl⟩
  simp
  rw [fin_cut rfl hS (under_nats row), ens_ok]
  exact ⟨rfl, row, rfl, hl⟩
theorem reached_ok {m : Nat} {rs : List Ro} (h : WebOk m rs) (S : Store) (hS : (S.all fun c => c.under S.length) = true) : Ens (F_reached [wbD m rs] S) fun d S' => S' = S ∧ ∃ row : List Nat, d = .lst (row.map fun (k : Nat) => D.int (k : Int)) ∧ row.length = m :=
  (reached_all h.toWebP S hS).imp fun d S' ⟨h1, row, h2, h3⟩ => ⟨h1, row, h2, row_all h h3⟩
theorem look_web_ok {m : Nat} {rs : List Ro} (h : WebOk m rs) (S : Store) (hS : (S.all fun c => c.under S.length) = true) : Ens (F_look_web [wbD m rs] S) fun d S' => d = .non ∧ S' = S := by
  have m60 := h.m60
  have hm1 := h.m1
  have few := h.few
  refine ens_fn rfl ?_
  unfold b_look_web
  simp only [List.map_cons, List.map_nil, List.replicate, List.cons_append, List.nil_append]
  refine ens_sq (fun e S' => S' = S ∧ e = [some (wbD m rs), some (.int (m : Int)), some (.lst (rs.map roD)), none, none]) (fun R hR => ?_) ?_
  · simp [wbD, gT, gsCons, gsNil, gN, Out.seq]
    exact hR _ _ ⟨rfl, rfl⟩
  rintro e S' ⟨rfl, rfl⟩
  refine ens_sq (fun e S2 => S2 = S' ∧ ∃ v3 v4, e = [some (wbD m rs), some (.int (m : Int)), some (.lst (rs.map roD)), v3, v4]) (fun R hR => ?_) ?_
  · simp only [yFor_app, iSrcA_app, xCons_app, xNil_app, xVar_app, List.getElem?_cons_zero, List.getElem?_cons_succ, Res.bind_ok, srcEnum_lst, enso_out, ens_ok]
    refine ens_fr (fun i e S2 => S2 = S' ∧ ∃ v3 v4, e = [some (wbD m rs), some (.int (m : Int)), some (.lst (rs.map roD)), v3, v4]) ⟨rfl, _, _, rfl⟩ ?_ ?_
    · rintro i d e S2 R2 hd ⟨rfl, v3, v4, rfl⟩ hR2
      have hi : i < rs.length := by
        by_cases q : i < rs.length
        · exact q
        · rw [List.getElem?_eq_none (by simp; omega)] at hd; cases hd
      rw [List.getElem?_map, List.getElem?_eq_getElem (by simp; omega), Option.map_some, List.getElem_zipIdx, List.getElem_map] at hd
      cases hd
      have ro := is_road_ok (h.ok rs[i] (List.getElem_mem _))
      simp only [gT_app, gsCons_app, gsNil_app, gN_app, Out.seq_nx, List.length_cons, List.length_nil, if_pos, enso_nx, List.set_cons_succ, List.set_cons_zero, yIf_app, xNot_app, xTru_app, xFn_app, xCons_app, xNil_app, xVar_app, List.getElem?_cons_zero, List.getElem?_cons_succ, Res.bind_ok, ro, tru_bl, Bool.not_true, Bool.false_eq_true, if_false, enso_out, ens_ok, yNil_app]
      exact hR2 _ _ ⟨rfl, _, _, rfl⟩
    · rintro e S2 ⟨rfl, v3, v4, rfl⟩
      exact hR _ _ ⟨rfl, _, _, rfl⟩
  rintro e S2 ⟨rfl, v3, v4, rfl⟩
  refine ens_sq (fun e S3 => S3 = S2 ∧ e = [some (wbD m rs), some (.int (m : Int)), some (.lst (rs.map roD)), v3, v4]) (fun R hR => ?_) ?_
  · have n1 : ¬ ((m : Int) < 1) := by omega
    have n2 : ¬ ((60 : Int) < (m : Int)) := by omega
    have n3 : ¬ ((120 : Int) < (rs.length : Int)) := by omega
    simp only [yIf_app, xOr_app, xIsT_app, xOp_app, xFn_app, xCons_app, xNil_app, xC_app, xVar_app, List.getElem?_cons_zero, List.getElem?_cons_succ, Res.bind_ok, bLen_lst, List.length_map, dLt_ok, dGt_ok, decide_eq_false n1, decide_eq_false n2, decide_eq_false n3, Bool.false_eq_true, if_false, enso_out, ens_ok, yNil_app, enso_nx]
    exact hR _ _ ⟨rfl, rfl⟩
  rintro e S3 ⟨rfl, rfl⟩
  simp only [yIf_app, xIsT_app, xOp_app, xFn_app, xCons_app, xNil_app, xVar_app, List.getElem?_cons_zero, List.getElem?_cons_succ, Res.bind_ok, enso_out, ens_bind]
  refine (reached_ok h S3 hS).imp ?_
  rintro d S4 ⟨rfl, row, rfl, hl⟩
  simp [hl]
theorem length_of_ok {m : Nat} {rs : List Ro} (h : WebP m rs) (a b : Nat) (S : Store) (hS : (S.all fun c => c.under S.length) = true) : Ens (F_length_of [wbD m rs, .int (a : Int), .int (b : Int)] S) fun d S' => d = ((getN (near rs a) b).map D.int).getD .non ∧ S' = S := by
  refine ens_fn rfl ?_
  unfold b_length_of
  simp only [List.map_cons, List.map_nil, List.replicate, List.cons_append, List.nil_append]
  refine ens_sq (fun e S' => S' = S ∧ getN (near rs a) b = none ∧ ∃ v3 v4, e = [some (wbD m rs), some (.int (a : Int)), some (.int (b : Int)), v3, v4]) (fun R hR => ?_) ?_
  · simp only [yFor_app, iSrc_app, xFn_app, xCons_app, xNil_app, xVar_app, List.getElem?_cons_zero, List.getElem?_cons_succ, Res.bind_ok, enso_out, ens_bind]
    refine (roads_from_ok h a S hS).imp ?_
    rintro d S2 ⟨rfl, L, rfl, q1, q2, q3⟩
    simp only [srcL_lst, ens_ok]
    refine ens_fr (fun j e S' => S' = S2 ∧ (∀ q ∈ L.take j, q.1 ≠ b) ∧ ∃ v3 v4, e = [some (wbD m rs), some (.int (a : Int)), some (.int (b : Int)), v3, v4]) ⟨rfl, by simp, _, _, rfl⟩ ?_ ?_
    · rintro j d e S' R4 hd ⟨rfl, hn, v3, v4, rfl⟩ hR4
      rw [List.getElem?_map] at hd
      have hj : j < L.length := by
        by_cases q : j < L.length
        · exact q
        · rw [List.getElem?_eq_none (by omega)] at hd; cases hd
      rw [List.getElem?_eq_getElem hj] at hd
      cases hd
      have hq := q1 L[j] (List.getElem_mem _)
      have tk : L.take (j + 1) = L.take j ++ [L[j]] := List.take_succ_eq_append_getElem hj
      generalize L[j] = q at *
      simp only [prN, gT_app, gsCons_app, gsNil_app, gN_app, Out.seq_nx, List.length_cons, List.length_nil, if_pos, enso_nx, List.set_cons_succ, List.set_cons_zero, yIf_app, xIsT_app, xOp_app, xVar_app, List.getElem?_cons_zero, List.getElem?_cons_succ, Res.bind_ok, dEq_int, enso_out, ens_ok]
      by_cases hb : q.1 = b
      · rw [if_pos (decide_eq_true (by omega))]
        rw [hb] at hq
        simp [hq]
      · rw [if_neg (by rw [decide_eq_true_iff]; omega)]
        simp only [yNil_app, enso_nx]
        refine hR4 _ _ ⟨rfl, fun y hy => ?_, _, _, rfl⟩
        rw [tk] at hy
        rcases List.mem_append.mp hy with w | w
        · exact hn y w
        · rw [List.mem_singleton.mp w]; exact hb
    · rintro e S' ⟨rfl, hn, v3, v4, rfl⟩
      rw [List.length_map, List.take_length] at hn
      refine hR _ _ ⟨rfl, ?_, _, _, rfl⟩
      cases q : getN (near rs a) b with
      | none => rfl
      | some v => exact absurd rfl (hn (b, v) (q2 b v q))
  rintro e S' ⟨rfl, hn, v3, v4, rfl⟩
  simp [hn]
theorem sub_len : ∀ (l s : List Nat), l.Nodup → (∀ x ∈ l, x ∈ s) → l.length ≤ s.length := by
  intro l
  induction l with
  | nil => intro s _ _; simp
  | cons a l ih =>
    intro s hn hs
    have ha := hs a (by simp)
    have hn2 := List.nodup_cons.mp hn
    have := ih (s.erase a) hn2.2 (fun x hx => by
      have hne : x ≠ a := fun z => hn2.1 (z ▸ hx)
      exact (List.mem_erase_of_ne hne).mpr (hs x (by simp [hx])))
    rw [List.length_erase_of_mem ha] at this
    have := List.length_pos_of_mem ha
    rw [List.length_cons]
    omega
theorem all_in_len {m : Nat} {l : List Nat} (h : ∀ k < m, k ∈ l) : m ≤ l.length := by
  have := sub_len (List.range m) l List.nodup_range fun x hx => h x (List.mem_range.mp hx)
  rwa [List.length_range] at this
theorem len_all_in {m : Nat} {l : List Nat} (hn : l.Nodup) (hl : ∀ x ∈ l, x < m) (h : m ≤ l.length) : ∀ k < m, k ∈ l := fun k hk => by
  by_cases q : k ∈ l
  · exact q
  · have := pigeon m (k :: l) (List.nodup_cons.mpr ⟨q, hn⟩) (fun x hx => by
      rcases List.mem_cons.mp hx with e | e
      · omega
      · exact hl x e)
    rw [List.length_cons] at this
    omega
theorem ro_toPs {S : Store} {n : Nat} : ∀ rs : List Ro, toPs S (n + 1) (rs.map roD) = some (rs.map fun z => PyData.tuple [.int (z.1 : Int), .int (z.2.1 : Int), .int z.2.2])
  | [] => by simp [toPs]
  | z :: rs => by
    have e : toP S (n + 1) (roD z) = some (.tuple [.int (z.1 : Int), .int (z.2.1 : Int), .int z.2.2]) := by cases n <;> simp [roD, toP, toPs]
    rw [List.map_cons, toPs, e, ro_toPs rs]
    rfl
theorem wb_toP (m : Nat) (rs : List Ro) (S : Store) : ∃ p, toP S 60 (wbD m rs) = some p := by
  refine ⟨.tuple [.int (m : Int), .list (rs.map fun z => PyData.tuple [.int (z.1 : Int), .int (z.2.1 : Int), .int z.2.2])], ?_⟩
  unfold wbD
  simp [toP, toPs, ro_toPs]
theorem sIx_n {n d k : Nat} : HT.sIx n d (some (k : Int)) = min k n := by rw [HT.sIx_nat]
theorem dl_ix {l : List D} {i : Nat} (h : i < l.length) (S : Store) : dIx (.lst l) (.int (i : Int)) S = .ok l[i] S := by
  simp only [dIx, getQ_lst, atI_nat (xs := l) (j := i) (v := l[i]) (List.getElem?_eq_getElem h)]
theorem dl_to (l : List D) (b : Nat) (S : Store) : slD mkF (.lst l) none (some (b : Int)) S = .ok (.lst (l.take (min b l.length))) S := by
  unfold slD
  have a1 : HT.sIx l.length 0 none = 0 := by simp [HT.sIx]
  simp only [getQ_lst, sIx_n, a1, List.drop_zero, Nat.sub_zero, mkF_app]
theorem dl_from (l : List D) (a : Nat) (S : Store) : slD mkF (.lst l) (some (a : Int)) none S = .ok (.lst (l.drop (min a l.length))) S := by
  unfold slD
  have a1 : HT.sIx l.length l.length none = l.length := by simp [HT.sIx]
  simp only [getQ_lst, sIx_n, a1, mkF_app]
  rw [List.take_of_length_le (by rw [List.length_drop]; exact Nat.le_refl _)]
theorem dl_add (a b : List D) (S : Store) (h : a.length + b.length ≤ 16000000) : dAdd mkF (.lst a) (.lst b) S = .ok (.lst (a ++ b)) S := by
  simp only [dAdd, getL, if_pos h, mkF_app]
theorem dl_pick (l : List Int) {r : Int} (h0 : 0 ≤ r) (h1 : r < l.length) (S : Store) : ∃ v ∈ l, dIx (.lst (l.map D.int)) (.int r) S = .ok (.int v) S := by
  have hi : r.toNat < l.length := by omega
  refine ⟨l[r.toNat], List.getElem_mem _, ?_⟩
  have := dl_ix (l := l.map D.int) (i := r.toNat) (by rw [List.length_map]; exact hi) S
  rw [Int.toNat_of_nonneg h0] at this
  rw [this, List.getElem_map]
theorem dt_add (a b : List D) (S : Store) (ha : a ≠ []) (hb : b ≠ []) (h : a.length + b.length ≤ 16000000) : dAdd mkF (.tup a) (.tup b) S = .ok (.tup (a ++ b)) S := by
  simp only [dAdd, if_pos (⟨ha, hb, h⟩ : a ≠ [] ∧ b ≠ [] ∧ a.length + b.length ≤ 16000000)]
theorem dt_two (a b c : D) (S : Store) : slD mkF (.tup [a, b, c]) none (some 2) S = .ok (.tup [a, b]) S := by
  have a1 : HT.sIx 3 0 none = 0 := by simp [HT.sIx]
  have a2 : HT.sIx 3 3 (some 2) = 2 := sIx_n (k := 2)
  simp [slD, a1, a2]
/-! ### plans and their costs -/
abbrev Pa := Nat × Nat
def kdD (kd : Bool) : D := .str (if kd then ("walk" : PySem.Str) else ("spread" : PySem.Str))
def thD (kd : Bool) (p : Pa) : D := if kd then .int (p.2 : Int) else .tup [.int (p.1 : Int), .int (p.2 : Int)]
theorem kd_lay (kd : Bool) : PySem.PyData.canLay0 (.str (if kd then ("walk" : PySem.Str) else ("spread" : PySem.Str))) = true := by cases kd <;> decide +kernel
theorem kd_toP (kd : Bool) (S : Store) : toP S 60 (kdD kd) = some (.str (if kd then ("walk" : PySem.Str) else ("spread" : PySem.Str))) := by
  have := kd_lay kd
  simp [kdD, toP, this]
theorem kd_walk (kd : Bool) (S : Store) : dEq (kdD kd) (.str ("walk" : PySem.Str)) S = .ok (.bl kd) S := by
  rw [show D.str ("walk" : PySem.Str) = kdD true from rfl, dEq_of (kd_toP kd S) (kd_toP true S)]
  have : PyData.eqv (.str (if kd then ("walk" : PySem.Str) else ("spread" : PySem.Str))) (.str (if true then ("walk" : PySem.Str) else ("spread" : PySem.Str))) = kd := by cases kd <;> decide +kernel
  rw [this]
theorem kd_spread (kd : Bool) (S : Store) : dEq (kdD kd) (.str ("spread" : PySem.Str)) S = .ok (.bl (!kd)) S := by
  rw [show D.str ("spread" : PySem.Str) = kdD false from rfl, dEq_of (kd_toP kd S) (kd_toP false S)]
  have : PyData.eqv (.str (if kd then ("walk" : PySem.Str) else ("spread" : PySem.Str))) (.str (if false then ("walk" : PySem.Str) else ("spread" : PySem.Str))) = !kd := by cases kd <;> decide +kernel
  rw [this]
theorem kd_nwalk (kd : Bool) (S : Store) : dNe (kdD kd) (.str ("walk" : PySem.Str)) S = .ok (.bl (!kd)) S := by
  rw [show D.str ("walk" : PySem.Str) = kdD true from rfl, dNe_of (kd_toP kd S) (kd_toP true S)]
  have : PyData.eqv (.str (if kd then ("walk" : PySem.Str) else ("spread" : PySem.Str))) (.str (if true then ("walk" : PySem.Str) else ("spread" : PySem.Str))) = kd := by cases kd <;> decide +kernel
  rw [this]
theorem kd_nspread (kd : Bool) (S : Store) : dNe (kdD kd) (.str ("spread" : PySem.Str)) S = .ok (.bl kd) S := by
  rw [show D.str ("spread" : PySem.Str) = kdD false from rfl, dNe_of (kd_toP kd S) (kd_toP false S)]
  have : PyData.eqv (.str (if kd then ("walk" : PySem.Str) else ("spread" : PySem.Str))) (.str (if false then ("walk" : PySem.Str) else ("spread" : PySem.Str))) = !kd := by cases kd <;> decide +kernel
  rw [this, Bool.not_not]
theorem must_be_kind_ok (kd : Bool) (S : Store) : F_must_be_kind [kdD kd] S = .ok .non S := by
  rw [← ens_eq]
  refine ens_fn rfl ?_
  unfold b_must_be_kind
  cases kd <;> simp [kd_nwalk, kd_nspread]
theorem in_nat {S : Store} {n : Nat} {l : List Nat} (h : S[n]? = some (.lst (l.map fun (m : Nat) => D.int (m : Int)))) (x : Nat) : dIn (.int (x : Int)) (.cell n) S = .ok (.bl (decide (x ∈ l))) S := by
  have g : getI (.cell n) S = some (l.map fun (m : Nat) => D.int (m : Int)) := by simp [getI, getL, h]
  unfold dIn dInX
  rw [g]
  simp only [inFl_nat]
  rw [if_pos ⟨rfl, all_flat l⟩]
  rfl
/-- who has been come to -/
def addC (come : List Nat) (b : Nat) : List Nat := if b ∈ come then come else come ++ [b]
def comeF (kd : Bool) (P : List Pa) : List Nat := P.foldl (fun c p => addC c p.2) (if kd then [] else [0])
def priorF (P : List Pa) : Nat := (P.getLast?.map (·.2)).getD 0
theorem comeF_snoc (kd : Bool) (P : List Pa) (p : Pa) : comeF kd (P ++ [p]) = addC (comeF kd P) p.2 := by
  unfold comeF
  rw [List.foldl_append]
  rfl
theorem priorF_snoc (P : List Pa) (p : Pa) : priorF (P ++ [p]) = p.2 := by simp [priorF]
def GoOn (kd : Bool) (rs : List Ro) (come : List Nat) (prior : Nat) (p : Pa) : Prop :=
  if kd = true then p.1 = prior ∧ (if come = [] then p.2 = 0 else (getN (near rs p.1) p.2).isSome = true) else p.1 ∈ come ∧ p.2 ∉ come ∧ (getN (near rs p.1) p.2).isSome = true
def PlanI (kd : Bool) (rs : List Ro) (P : List Pa) : Prop := ∀ (i : Nat) (h : i < P.length), GoOn kd rs (comeF kd (P.take i)) (priorF (P.take i)) P[i]
theorem PlanI.nil {kd : Bool} {rs : List Ro} : PlanI kd rs [] := fun i h => by simp at h
theorem PlanI.snoc {kd : Bool} {rs : List Ro} {P : List Pa} {p : Pa} (h : PlanI kd rs P) (g : GoOn kd rs (comeF kd P) (priorF P) p) : PlanI kd rs (P ++ [p]) := fun i hi => by
  by_cases q : i < P.length
  · rw [List.getElem_append_left q, List.take_append_of_le_length (by omega)]
    exact h i q
  · have : i = P.length := by rw [List.length_append, List.length_singleton] at hi; omega
    subst this
    rw [List.getElem_append_right (by omega), List.take_append_of_le_length (by omega), List.take_length]
    simpa using g
theorem mem_addC {come : List Nat} {b x : Nat} : x ∈ addC come b ↔ x ∈ come ∨ x = b := by
  unfold addC
  split
  · rename_i h
    exact ⟨.inl, fun q => q.elim id fun e => e ▸ h⟩
  · simp
theorem nodup_addC {come : List Nat} {b : Nat} (h : come.Nodup) : (addC come b).Nodup := by
  unfold addC
  split
  · exact h
  · rename_i q
    exact List.nodup_append.mpr ⟨h, by simp, fun a ha b' hb => by rw [List.mem_singleton.mp hb]; exact fun z => q (z ▸ ha)⟩
theorem comeF_nodup (kd : Bool) (P : List Pa) : (comeF kd P).Nodup := by
  have go : ∀ (l : List Pa) (c : List Nat), c.Nodup → (l.foldl (fun c p => addC c p.2) c).Nodup := by
    intro l
    induction l with
    | nil => exact fun c h => h
    | cons p l ih => exact fun c h => ih _ (nodup_addC h)
  refine go P _ ?_
  cases kd <;> simp
theorem PlanI.take {kd : Bool} {rs : List Ro} {P : List Pa} (h : PlanI kd rs P) (k : Nat) : PlanI kd rs (P.take k) := fun i hi => by
  rw [List.length_take] at hi
  have := h i (by omega)
  rw [List.take_take, show min i k = i by omega, List.getElem_take]
  exact this
/-- all places lie in the web -/
theorem PlanI.lt {kd : Bool} {m : Nat} {rs : List Ro} {P : List Pa} (hw : WebP m rs) (h : PlanI kd rs P) : ∀ p ∈ P, p.1 < m ∧ p.2 < m := by
  have m1 := hw.m1
  have go : ∀ k ≤ P.length, (∀ p ∈ P.take k, p.1 < m ∧ p.2 < m) ∧ (∀ x ∈ comeF kd (P.take k), x < m) ∧ priorF (P.take k) < m := by
    intro k
    induction k with
    | zero =>
      intro _
      refine ⟨by simp, ?_, by simp [priorF]; omega⟩
      cases kd
      · simp [comeF]; omega
      · simp [comeF]
    | succ k ih =>
      intro hk
      obtain ⟨h1, h2, h3⟩ := ih (by omega)
      have g := h k (by omega)
      have tk : P.take (k + 1) = P.take k ++ [P[k]] := List.take_succ_eq_append_getElem (by omega)
      rw [tk]
      generalize P[k]'(by omega) = p at *
      have hp : p.1 < m ∧ p.2 < m := by
        unfold GoOn at g
        split at g
        · obtain ⟨g1, g2⟩ := g
          refine ⟨by omega, ?_⟩
          split at g2
          · omega
          · obtain ⟨v, hv⟩ := Option.isSome_iff_exists.mp g2
            exact near_key_lt hw hv
        · obtain ⟨v, hv⟩ := Option.isSome_iff_exists.mp g.2.2
          exact ⟨h2 _ g.1, near_key_lt hw hv⟩
      refine ⟨fun q hq => ?_, fun x hx => ?_, by rw [priorF_snoc]; exact hp.2⟩
      · rcases List.mem_append.mp hq with w | w
        · exact h1 q w
        · rw [List.mem_singleton.mp w]; exact hp
      · rw [comeF_snoc, mem_addC] at hx
        rcases hx with w | w
        · exact h2 x w
        · omega
  have := (go P.length (Nat.le_refl _)).1
  rwa [List.take_length] at this
/-! the store of first_wrong -/
def SW (kd : Bool) (come : List Nat) (S : Store) : Store := if kd then S ++ [.lst (([0] : List Nat).map fun (k : Nat) => D.int (k : Int)), .lst (come.map fun (k : Nat) => D.int (k : Int))] else S ++ [.lst (come.map fun (k : Nat) => D.int (k : Int))]
def cN (kd : Bool) (S : Store) : Nat := if kd then S.length + 1 else S.length
theorem SW_get (kd : Bool) (come : List Nat) (S : Store) : (SW kd come S)[cN kd S]? = some (.lst (come.map fun (k : Nat) => D.int (k : Int))) := by
  cases kd
  · exact app_at0 rfl
  · exact app_at1 rfl
theorem SW_set (kd : Bool) (come come' : List Nat) (S : Store) : (SW kd come S).set (cN kd S) (.lst (come'.map fun (k : Nat) => D.int (k : Int))) = SW kd come' S := by
  cases kd
  · exact app_set0 rfl
  · exact app_set1 rfl
theorem SW_app (kd : Bool) (come : List Nat) (S : Store) : ∃ R, SW kd come S = S ++ R := by
  cases kd
  · exact ⟨_, rfl⟩
  · exact ⟨_, rfl⟩
theorem SW_under (kd : Bool) (come : List Nat) {S : Store} (hS : (S.all fun c => c.under S.length) = true) : ((SW kd come S).all fun c => c.under (SW kd come S).length) = true := by
  cases kd
  · exact under_app hS come
  · have h1 := under_app hS [0]
    have h2 := under_app h1 come
    rw [List.append_assoc] at h2
    exact h2
theorem toPs_nats {S : Store} {n : Nat} : ∀ l : List Nat, toPs S n (l.map fun (k : Nat) => D.int (k : Int)) = some (l.map fun (k : Nat) => PyData.int (k : Int))
  | [] => by simp [toPs]
  | a :: l => by
    have e : toP S n (D.int (a : Int)) = some (.int (a : Int)) := by cases n <;> simp [toP]
    rw [List.map_cons, toPs, e, toPs_nats l]
    rfl
theorem dEq_nilC {S : Store} {n : Nat} {l : List Nat} (h : S[n]? = some (.lst (l.map fun (k : Nat) => D.int (k : Int)))) : dEq (.cell n) (.lst []) S = .ok (.bl (decide (l = []))) S := by
  have e1 : toP S 60 (.cell n) = some (.list (l.map fun (k : Nat) => PyData.int (k : Int))) := by simp [toP, h, toPs_nats]
  have e2 : toP S 60 (.lst []) = some (.list []) := by simp [toP, toPs]
  rw [dEq_of e1 e2]
  cases l <;> simp [PyData.eqv, PyData.eqvAll]
theorem is_whole_ok (k : Int) (S : Store) : F_is_whole [.int k] S = .ok (.bl true) S := by
  rw [← ens_eq]
  refine ens_fn rfl ?_
  unfold b_is_whole
  simp
theorem walk_goes_on_ok {m : Nat} {rs : List Ro} (h : WebP m rs) {come : List Nat} {a b n : Nat} {S : Store} (hS : (S.all fun c => c.under S.length) = true) (hn : S[n]? = some (.lst (come.map fun (k : Nat) => D.int (k : Int)))) (g : if come = [] then b = 0 else (getN (near rs a) b).isSome = true) : Ens (F_walk_goes_on [wbD m rs, .cell n, .int (a : Int), .int (b : Int)] S) fun d S' => d = .bl true ∧ S' = S := by
  refine ens_fn rfl ?_
  unfold b_walk_goes_on
  simp only [List.map_cons, List.map_nil, List.replicate, List.cons_append, List.nil_append]
  refine ens_sq (fun e S' => S' = S ∧ e = [some (wbD m rs), some (.cell n), some (.int (a : Int)), some (.int (b : Int))]) (fun R hR => ?_) ?_
  · simp only [yIf_app, xNot_app, xTru_app, xFn_app, xCons_app, xNil_app, xVar_app, List.getElem?_cons_zero, List.getElem?_cons_succ, Res.bind_ok, is_whole_ok, tru_bl, Bool.not_true, Bool.false_eq_true, if_false, enso_out, ens_ok, yNil_app, enso_nx]
    exact hR _ _ ⟨rfl, rfl⟩
  rintro e S' ⟨rfl, rfl⟩
  refine ens_sq (fun e S2 => S2 = S' ∧ (getN (near rs a) b).isSome = true ∧ e = [some (wbD m rs), some (.cell n), some (.int (a : Int)), some (.int (b : Int))]) (fun R hR => ?_) ?_
  · simp only [yIf_app, xIsT_app, xOp_app, xLst_app, xNil_app, xVar_app, List.getElem?_cons_zero, List.getElem?_cons_succ, Res.bind_ok, List.length_nil, if_pos (show 0 ≤ 1000 by decide), mkF_app, dEq_nilC hn, enso_out, ens_ok]
    by_cases q : come = []
    · rw [if_pos q] at g
      simp [q, g]
    · rw [if_neg q] at g
      simp only [decide_eq_false q, Bool.false_eq_true, if_false, yNil_app, enso_nx]
      exact hR _ _ ⟨rfl, g, rfl⟩
  rintro e S2 ⟨rfl, g2, rfl⟩
  obtain ⟨v, hv⟩ := Option.isSome_iff_exists.mp g2
  simp only [yRet_app, xOp_app, xFn_app, xCons_app, xNil_app, xC_app, xVar_app, List.getElem?_cons_zero, List.getElem?_cons_succ, Res.bind_ok, enso_out, ens_bind]
  refine (length_of_ok h a b S2 hS).imp ?_
  rintro d S3 ⟨rfl, rfl⟩
  simp [hv, dIsNotN]
theorem spread_goes_on_ok {m : Nat} {rs : List Ro} (h : WebP m rs) {come : List Nat} {a b n : Nat} {S : Store} (hS : (S.all fun c => c.under S.length) = true) (hn : S[n]? = some (.lst (come.map fun (k : Nat) => D.int (k : Int)))) (g : a ∈ come ∧ b ∉ come ∧ (getN (near rs a) b).isSome = true) : Ens (F_spread_goes_on [wbD m rs, .cell n, .tup [.int (a : Int), .int (b : Int)]] S) fun d S' => d = .bl true ∧ S' = S := by
  obtain ⟨g1, g2, g3⟩ := g
  refine ens_fn rfl ?_
  unfold b_spread_goes_on
  simp only [List.map_cons, List.map_nil, List.replicate, List.cons_append, List.nil_append]
  have i0 : dIx (.tup [.int (a : Int), .int (b : Int)]) (.int 0) S = .ok (.int (a : Int)) S := by simp
  have i1 : dIx (.tup [.int (a : Int), .int (b : Int)]) (.int 1) S = .ok (.int (b : Int)) S := by simp
  refine ens_sq (fun e S' => S' = S ∧ e = [some (wbD m rs), some (.cell n), some (.tup [.int (a : Int), .int (b : Int)])]) (fun R hR => ?_) ?_
  · have two : (!decide ((((0 : Nat) + 1 + 1 : Nat) : Int) = 2)) = false := by decide
    simp only [yIf_app, xOr_app, xIsT_app, xNot_app, xTru_app, xOp_app, xFn_app, xCons_app, xNil_app, xC_app, xVar_app, List.getElem?_cons_zero, List.getElem?_cons_succ, Res.bind_ok, bIsi_tup, tru_bl, Bool.not_true, Bool.false_eq_true, if_false, bLen_tup, List.length_cons, List.length_nil, dNe_int, two, i0, i1, is_whole_ok, enso_out, ens_ok, yNil_app, enso_nx]
    exact hR _ _ ⟨rfl, rfl⟩
  rintro e S' ⟨rfl, rfl⟩
  obtain ⟨v, hv⟩ := Option.isSome_iff_exists.mp g3
  simp only [yRet_app, xAndV_app, xOp_app, xFn_app, xCons_app, xNil_app, xC_app, xVar_app, List.getElem?_cons_zero, List.getElem?_cons_succ, Res.bind_ok, i0, i1, in_nat hn, decide_eq_true g1, notIn_nat hn, decide_eq_false g2, Bool.not_false, enso_out, ens_bind]
  refine (length_of_ok h a b S' hS).imp ?_
  rintro d S3 ⟨rfl, rfl⟩
  simp [hv, dIsNotN]
abbrev EFW (m : Nat) (rs : List Ro) (kd : Bool) (P : List Pa) (r : List (Option D)) : Dv.Env := some (wbD m rs) :: some (kdD kd) :: some (.lst (P.map (thD kd))) :: r
theorem first_wrong_ok {m : Nat} {rs : List Ro} (h : WebP m rs) (kd : Bool) {P : List Pa} (hp : PlanI kd rs P) (hc : ∀ k < m, k ∈ comeF kd P) (few : P.length ≤ 10000) (S : Store) (hS : (S.all fun c => c.under S.length) = true) : Ens (F_first_wrong [wbD m rs, kdD kd, .lst (P.map (thD kd))] S) fun d S' => d = .non ∧ S' = S := by
  refine ens_fn rfl ?_
  unfold b_first_wrong
  simp only [List.map_cons, List.map_nil, List.replicate, List.cons_append, List.nil_append]
  refine ens_sq (fun e S' => S' = S ∧ e = EFW m rs kd P [none, none, none, none]) (fun R hR => ?_) ?_
  · simp
    exact hR _ _ ⟨rfl, rfl⟩
  rintro e S' ⟨rfl, rfl⟩
  refine ens_sq (fun e S2 => S2 = S' ++ [.lst (([0] : List Nat).map fun (k : Nat) => D.int (k : Int))] ∧ e = EFW m rs kd P [some (.cell S'.length), none, none, none]) (fun R hR => ?_) ?_
  · simp
    exact hR _ _ ⟨rfl, rfl⟩
  rintro e S2 ⟨rfl, rfl⟩
  refine ens_sq (fun e S2 => S2 = SW kd (comeF kd []) S' ∧ e = EFW m rs kd P [some (.cell (cN kd S')), none, none, none]) (fun R hR => ?_) ?_
  · simp only [EFW, yIf_app, xIsT_app, xOp_app, xC_app, xVar_app, List.getElem?_cons_zero, List.getElem?_cons_succ, Res.bind_ok, kd_walk, enso_out, ens_ok]
    cases kd
    · simp only [Bool.false_eq_true, if_false, yNil_app, enso_nx]
      exact hR _ _ ⟨rfl, rfl⟩
    · simp only [if_true, ySet_app, xLst_app, xNil_app, Res.bind_ok, List.length_nil, if_pos (show 0 ≤ 1000 by decide), mkC_app, enso_out, ens_ok, enso_nx, List.set_cons_succ, List.set_cons_zero]
      exact hR _ _ ⟨by simp [SW, comeF], by simp [cN]⟩
  rintro e S2 ⟨rfl, rfl⟩
  refine ens_sq (fun e S2 => S2 = SW kd (comeF kd []) S' ∧ e = EFW m rs kd P [some (.cell (cN kd S')), some (.int ((0 : Nat) : Int)), none, none]) (fun R hR => ?_) ?_
  · simp
    exact hR _ _ ⟨rfl, rfl⟩
  rintro e S2 ⟨rfl, rfl⟩
  refine ens_sq (fun e S2 => S2 = SW kd (comeF kd P) S' ∧ ∃ r, e = EFW m rs kd P (some (.cell (cN kd S')) :: r)) (fun R hR => ?_) ?_
  · simp only [EFW, yFor_app, iSrcA_app, xCons_app, xNil_app, xVar_app, List.getElem?_cons_zero, List.getElem?_cons_succ, Res.bind_ok, srcEnum_lst, enso_out, ens_ok]
    refine ens_fr (fun i e S2 => S2 = SW kd (comeF kd (P.take i)) S' ∧ ∃ v5 v6, e = EFW m rs kd P [some (.cell (cN kd S')), some (.int ((priorF (P.take i) : Nat) : Int)), v5, v6]) ⟨rfl, _, _, rfl⟩ ?_ ?_
    · rintro i d e S2 R2 hd ⟨rfl, v5, v6, rfl⟩ hR2
      have hi : i < P.length := by
        by_cases q : i < P.length
        · exact q
        · rw [List.getElem?_eq_none (by simp; omega)] at hd; cases hd
      rw [List.getElem?_map, List.getElem?_eq_getElem (by simp; omega), Option.map_some, List.getElem_zipIdx, List.getElem_map] at hd
      cases hd
      have g := hp i hi
      have lt := hp.lt h P[i] (List.getElem_mem _)
      have tk : P.take (i + 1) = P.take i ++ [P[i]] := List.take_succ_eq_append_getElem hi
      have cl : (comeF kd (P.take i)).length ≤ 20000 := by
        have := pigeon m _ (comeF_nodup kd (P.take i)) (fun x hx => by
          have z : ∀ (l : List Pa) (c : List Nat), (∀ p ∈ l, p.2 < m) → (∀ x ∈ c, x < m) → ∀ x ∈ l.foldl (fun c p => addC c p.2) c, x < m := by
            intro l
            induction l with
            | nil => exact fun c _ h => h
            | cons p l ih => 
              intro c h1 h2
              refine ih _ (fun q hq => h1 q (by simp [hq])) fun x hx => ?_
              rcases mem_addC.mp hx with w | w
              · exact h2 x w
              · rw [w]; exact h1 p (by simp)
          refine z (P.take i) _ (fun p hp' => (hp.lt h p (List.mem_of_mem_take hp')).2) ?_ x hx
          have := h.m1
          cases kd <;> simp
          omega)
        have := h.m60
        omega
      rw [tk, comeF_snoc, priorF_snoc] at hR2
      have hun := SW_under kd (comeF kd (P.take i)) hS
      have hge := SW_get kd (comeF kd (P.take i)) S'
      have hse := fun c' => SW_set kd (comeF kd (P.take i)) c' S'
      generalize P[i] = p at *
      generalize comeF kd (P.take i) = come at *
      generalize priorF (P.take i) = pr at *
      generalize hT : SW kd come S' = T at *
      simp only [EFW, gT_app, gsCons_app, gsNil_app, gN_app, Out.seq_nx, List.length_cons, List.length_nil, if_pos, enso_nx, List.set_cons_succ, List.set_cons_zero]
      refine ens_sq (fun e S3 => S3 = T ∧ e = EFW m rs kd P [some (.cell (cN kd S')), some (.int (p.2 : Int)), some (.int ((0 + i : Nat) : Int)), some (thD kd p)]) (fun R3 hR3 => ?_) ?_
      · simp only [EFW, yIf_app, xIsT_app, xOp_app, xC_app, xVar_app, List.getElem?_cons_zero, List.getElem?_cons_succ, Res.bind_ok, kd_walk, enso_out, ens_ok]
        cases kd
        · simp only [GoOn, Bool.false_eq_true, if_false] at g
          simp only [Bool.false_eq_true, if_false]
          refine ens_sq (fun e S3 => S3 = T ∧ e = EFW m rs false P [some (.cell (cN false S')), some (.int (pr : Int)), some (.int ((0 + i : Nat) : Int)), some (thD false p)]) (fun R4 hR4 => ?_) ?_
          · simp only [EFW, thD, Bool.false_eq_true, if_false, yIf_app, xNot_app, xTru_app, xFn_app, xCons_app, xNil_app, xVar_app, List.getElem?_cons_zero, List.getElem?_cons_succ, Res.bind_ok, enso_out, ens_bind]
            refine (spread_goes_on_ok h hun hge g).imp ?_
            rintro d S4 ⟨rfl, rfl⟩
            simp only [tru_bl, ens_ok, Bool.not_true, Bool.false_eq_true, if_false, yNil_app, enso_nx]
            exact hR4 _ _ ⟨rfl, rfl⟩
          rintro e S3 ⟨rfl, rfl⟩
          have i1 : dIx (.tup [.int (p.1 : Int), .int (p.2 : Int)]) (.int 1) S3 = .ok (.int (p.2 : Int)) S3 := by simp
          simp only [EFW, thD, Bool.false_eq_true, if_false, ySet_app, xOp_app, xC_app, xVar_app, List.getElem?_cons_zero, List.getElem?_cons_succ, Res.bind_ok, i1, enso_out, ens_ok, enso_nx, List.set_cons_succ, List.set_cons_zero]
          exact hR3 _ _ ⟨rfl, rfl⟩
        · simp only [GoOn, if_true] at g
          simp only [if_true]
          refine ens_sq (fun e S3 => S3 = T ∧ e = EFW m rs true P [some (.cell (cN true S')), some (.int (pr : Int)), some (.int ((0 + i : Nat) : Int)), some (thD true p)]) (fun R4 hR4 => ?_) ?_
          · rw [← g.1]
            simp only [EFW, thD, if_true, yIf_app, xNot_app, xTru_app, xFn_app, xCons_app, xNil_app, xVar_app, List.getElem?_cons_zero, List.getElem?_cons_succ, Res.bind_ok, enso_out, ens_bind]
            refine (walk_goes_on_ok h hun hge g.2).imp ?_
            rintro d S4 ⟨rfl, rfl⟩
            simp only [tru_bl, ens_ok, Bool.not_true, Bool.false_eq_true, if_false, yNil_app, enso_nx]
            exact hR4 _ _ ⟨rfl, by rw [g.1]; rfl⟩
          rintro e S3 ⟨rfl, rfl⟩
          simp only [EFW, thD, if_true, ySet_app, xVar_app, List.getElem?_cons_zero, List.getElem?_cons_succ, Res.bind_ok, enso_out, ens_ok, enso_nx, List.set_cons_succ, List.set_cons_zero]
          exact hR3 _ _ ⟨rfl, rfl⟩
      rintro e S3 ⟨rfl, rfl⟩
      simp only [EFW, yIf_app, xIsT_app, xOp_app, xVar_app, List.getElem?_cons_zero, List.getElem?_cons_succ, Res.bind_ok, notIn_nat hge p.2, enso_out, ens_ok]
      by_cases hm : p.2 ∈ come
      · simp only [decide_eq_true hm, Bool.not_true, Bool.false_eq_true, if_false, yNil_app, enso_nx]
        exact hR2 _ _ ⟨by rw [← hT]; unfold addC; rw [if_pos hm], _, _, rfl⟩
      · have al : come.length < 16000000 := by omega
        have ap : (come.map fun (k : Nat) => D.int (k : Int)) ++ [D.int (p.2 : Int)] = (come ++ [p.2]).map fun (k : Nat) => D.int (k : Int) := by simp
        simp only [decide_eq_false hm, Bool.not_false, if_true, yExpr_app, xMt_app, xVar_app, xCons_app, xNil_app, List.getElem?_cons_zero, List.getElem?_cons_succ, Res.bind_ok, isT, hge, beq_self_eq_true, mAppend, cellL, List.length_map, if_pos al, ap, hse, enso_out, ens_ok, enso_nx]
        exact hR2 _ _ ⟨by unfold addC; rw [if_neg hm], _, _, rfl⟩
    · rintro e S2 ⟨rfl, v5, v6, rfl⟩
      rw [List.length_map, List.length_zipIdx, List.length_map, List.take_length]
      exact hR _ _ ⟨rfl, _, rfl⟩
  rintro e S2 ⟨rfl, r, rfl⟩
  have i0 : ∀ S, dIx (wbD m rs) (.int 0) S = .ok (.int (m : Int)) S := fun S => by unfold wbD; simp
  have hge := SW_get kd (comeF kd P) S'
  obtain ⟨Q, hQ⟩ := SW_app kd (comeF kd P) S'
  have ml : m ≤ (comeF kd P).length := all_in_len hc
  refine ens_sq (fun e S3 => S3 = SW kd (comeF kd P) S' ∧ ∃ r, e = some (wbD m rs) :: r) (fun R hR => ?_) ?_
  · have bl : bLen [.cell (cN kd S')] (SW kd (comeF kd P) S') = .ok (.int (comeF kd P).length) (SW kd (comeF kd P) S') := by simp [bLen, getQ, getL, hge]
    simp only [EFW, yIf_app, xIsT_app, xOp_app, xFn_app, xCons_app, xNil_app, xC_app, xVar_app, List.getElem?_cons_zero, List.getElem?_cons_succ, Res.bind_ok, bl, i0, dLt_ok, enso_out, ens_ok]
    rw [if_neg (by simp; omega)]
    simp only [yNil_app, enso_nx]
    exact hR _ _ ⟨rfl, _, rfl⟩
  rintro e S3 ⟨rfl, r, rfl⟩
  simp only [yRet_app, xC_app, enso_out, ens_ok, enso_rt]
  rw [hQ, fin_cut rfl hS rfl, ens_ok]
  exact ⟨rfl, rfl⟩
/-! the costs -/
def stepC (rs : List Ro) (t : List (Nat × Int) × Int) (p : Pa) : List (Nat × Int) × Int :=
  (if (getN t.1 p.2).isSome then t.1 else putN t.1 p.2 (if p.1 = p.2 then t.2 else t.2 + (getN (near rs p.1) p.2).getD 0), if p.1 = p.2 then t.2 else t.2 + (getN (near rs p.1) p.2).getD 0)
def costsF (rs : List Ro) (P : List Pa) : List (Nat × Int) × Int := P.foldl (stepC rs) ([(0, 0)], 0)
def costL (m : Nat) (rs : List Ro) (P : List Pa) : List Int := (List.range m).map fun p => (getN (costsF rs P).1 p).getD 0
theorem costsF_snoc (rs : List Ro) (P : List Pa) (p : Pa) : costsF rs (P ++ [p]) = stepC rs (costsF rs P) p := by
  unfold costsF
  rw [List.foldl_append]
  rfl
theorem costsF_len (rs : List Ro) (P : List Pa) : (costsF rs P).1.length ≤ 1 + P.length := by
  have go : ∀ (l : List Pa) (t : List (Nat × Int) × Int), (l.foldl (stepC rs) t).1.length ≤ t.1.length + l.length := by
    intro l
    induction l with
    | nil => intro t; simp
    | cons p l ih =>
      intro t
      rw [List.foldl_cons, List.length_cons]
      have h1 := ih (stepC rs t p)
      have h2 : (stepC rs t p).1.length ≤ t.1.length + 1 := by
        unfold stepC
        dsimp only
        split
        · omega
        · exact putN_len _ _ _
      omega
  exact go P _
theorem costsF_mem (kd : Bool) (rs : List Ro) (P : List Pa) : ∀ x ∈ comeF kd P, (getN (costsF rs P).1 x).isSome = true := by
  have go : ∀ (l : List Pa) (c : List Nat) (t : List (Nat × Int) × Int), (∀ x ∈ c, (getN t.1 x).isSome = true) → ∀ x ∈ l.foldl (fun c p => addC c p.2) c, (getN (l.foldl (stepC rs) t).1 x).isSome = true := by
    intro l
    induction l with
    | nil => exact fun c t h => h
    | cons p l ih =>
      intro c t h
      rw [List.foldl_cons, List.foldl_cons]
      refine ih _ _ fun x hx => ?_
      unfold stepC
      dsimp only
      split
      · rename_i q
        rcases mem_addC.mp hx with w | w
        · exact h x w
        · rw [w]; exact q
      · rw [getN_put]
        split
        · rfl
        · rename_i q
          rcases mem_addC.mp hx with w | w
          · exact h x w
          · exact absurd w q
  refine go P _ _ ?_
  cases kd <;> simp [getN]
theorem GoOn.near {kd : Bool} {rs : List Ro} {come : List Nat} {pr : Nat} {p : Pa} (g : GoOn kd rs come pr p) (h0 : come = [] → pr = 0) (hne : p.1 ≠ p.2) : ∃ v, getN (near rs p.1) p.2 = some v := by
  unfold GoOn at g
  split at g
  · obtain ⟨g1, g2⟩ := g
    split at g2
    · rename_i q
      have := h0 q
      omega
    · exact Option.isSome_iff_exists.mp g2
  · exact Option.isSome_iff_exists.mp g.2.2
theorem come_nil {kd : Bool} {P : List Pa} (h : comeF kd P = []) : priorF P = 0 := by
  rcases List.eq_nil_or_concat P with e | ⟨Q, p, e⟩
  · subst e; rfl
  · subst e
    rw [List.concat_eq_append, comeF_snoc] at h
    have : p.2 ∈ addC (comeF kd Q) p.2 := mem_addC.mpr (.inr rfl)
    rw [h] at this
    simp at this
abbrev ECo (m : Nat) (rs : List Ro) (kd : Bool) (P : List Pa) (r : List (Option D)) : Dv.Env := some (wbD m rs) :: some (kdD kd) :: some (.lst (P.map (thD kd))) :: some .non :: r
theorem under_dct {S : Store} (hS : (S.all fun c => c.under S.length) = true) (kv : List (Nat × Int)) : ((S ++ [Cn.dct (emb kv)]).all fun c => c.under (S ++ [Cn.dct (emb kv)]).length) = true := by
  rw [List.all_append, Bool.and_eq_true]
  rw [List.all_eq_true] at hS
  refine ⟨List.all_eq_true.mpr fun x hx => cn_under_mono (by simp) (hS x hx), ?_⟩
  simp only [List.all_cons, List.all_nil, Bool.and_true]
  rw [Cn.under, List.all_eq_true]
  intro y hy
  obtain ⟨q, _, rfl⟩ := List.mem_map.mp hy
  rfl
theorem costs_of_ok {m : Nat} {rs : List Ro} (h : WebOk m rs) (kd : Bool) {P : List Pa} (hp : PlanI kd rs P) (hc : ∀ k < m, k ∈ comeF kd P) (few : P.length ≤ 10000) (S : Store) (hS : (S.all fun c => c.under S.length) = true) : Ens (F_costs_of [wbD m rs, kdD kd, .lst (P.map (thD kd))] S) fun d S' => d = .lst ((costL m rs P).map D.int) ∧ S' = S := by
  have m60 := h.m60
  refine ens_fn rfl ?_
  unfold b_costs_of
  simp only [List.map_cons, List.map_nil, List.replicate, List.cons_append, List.nil_append]
  have i0 : ∀ S, dIx (wbD m rs) (.int 0) S = .ok (.int (m : Int)) S := fun S => by unfold wbD; simp
  refine ens_sq (fun e S' => S' = S ∧ e = EFW m rs kd P [none, none, none, none, none, none, none, none]) (fun R hR => ?_) ?_
  · simp only [EFW, yExpr_app, xFn_app, xCons_app, xNil_app, xVar_app, List.getElem?_cons_zero, List.getElem?_cons_succ, Res.bind_ok, enso_out]
    refine (look_web_ok h S hS).imp ?_
    rintro d S2 ⟨rfl, rfl⟩
    simp only [enso_nx]
    exact hR _ _ ⟨rfl, rfl⟩
  rintro e S' ⟨rfl, rfl⟩
  refine ens_sq (fun e S2 => S2 = S' ∧ e = EFW m rs kd P [none, none, none, none, none, none, none, none]) (fun R hR => ?_) ?_
  · simp only [EFW, yExpr_app, xFn_app, xCons_app, xNil_app, xVar_app, List.getElem?_cons_zero, List.getElem?_cons_succ, Res.bind_ok, must_be_kind_ok, enso_out, ens_ok, enso_nx]
    exact hR _ _ ⟨rfl, rfl⟩
  rintro e S2 ⟨rfl, rfl⟩
  refine ens_sq (fun e S3 => S3 = S2 ∧ e = ECo m rs kd P [none, none, none, none, none, none, none]) (fun R hR => ?_) ?_
  · simp only [EFW, ySet_app, xFn_app, xCons_app, xNil_app, xVar_app, List.getElem?_cons_zero, List.getElem?_cons_succ, Res.bind_ok, enso_out]
    refine (first_wrong_ok h.toWebP kd hp hc few S2 hS).imp ?_
    rintro d S3 ⟨rfl, rfl⟩
    simp only [enso_nx, List.set_cons_succ, List.set_cons_zero]
    exact hR _ _ ⟨rfl, rfl⟩
  rintro e S3 ⟨rfl, rfl⟩
  refine ens_sq (fun e S4 => S4 = S3 ∧ e = ECo m rs kd P [none, none, none, none, none, none, none]) (fun R hR => ?_) ?_
  · simp [dIsNotN]
    exact hR _ _ ⟨rfl, rfl⟩
  rintro e S4 ⟨rfl, rfl⟩
  refine ens_sq (fun e S5 => S5 = S4 ++ [.dct (emb [(0, 0)])] ∧ e = ECo m rs kd P [some (.cell S4.length), none, none, none, none, none, none]) (fun R hR => ?_) ?_
  · have c0 : (S4 ++ [Cn.dct []])[S4.length]? = some (.dct []) := app_at0 rfl
    have s0 : (S4 ++ [Cn.dct []]).set S4.length (.dct [((Sum.inl 0 : Key), D.int 0)]) = S4 ++ [.dct (emb [(0, 0)])] := app_set0 rfl
    simp only [ECo, ySet_app, xDct1_app, xC_app, Res.bind_ok, keyD, c0, s0, enso_out, ens_ok, enso_nx, List.set_cons_succ, List.set_cons_zero]
    exact hR _ _ ⟨rfl, rfl⟩
  rintro e S5 ⟨rfl, rfl⟩
  refine ens_sq (fun e S5 => S5 = S4 ++ [.dct (emb [(0, 0)])] ∧ e = ECo m rs kd P [some (.cell S4.length), some (.int 0), none, none, none, none, none]) (fun R hR => ?_) ?_
  · simp only [ECo, ySet_app, xC_app, enso_out, ens_ok, enso_nx, List.set_cons_succ, List.set_cons_zero]
    exact hR _ _ ⟨rfl, rfl⟩
  rintro e S5 ⟨rfl, rfl⟩
  refine ens_sq (fun e S5 => S5 = S4 ++ [.dct (emb [(0, 0)])] ∧ e = ECo m rs kd P [some (.cell S4.length), some (.int 0), some (.int ((0 : Nat) : Int)), none, none, none, none]) (fun R hR => ?_) ?_
  · simp only [ECo, ySet_app, xC_app, enso_out, ens_ok, enso_nx, List.set_cons_succ, List.set_cons_zero]
    exact hR _ _ ⟨rfl, rfl⟩
  rintro e S5 ⟨rfl, rfl⟩
  refine ens_sq (fun e S5 => S5 = S4 ++ [.dct (emb (costsF rs P).1)] ∧ ∃ v5 v6 v7 v8 v9, e = ECo m rs kd P [some (.cell S4.length), v5, v6, v7, v8, v9, none]) (fun R hR => ?_) ?_
  · simp only [ECo, yFor_app, iSrc_app, xVar_app, List.getElem?_cons_zero, List.getElem?_cons_succ, Res.bind_ok, srcL_lst, enso_out, ens_ok]
    refine ens_fr (fun i e S5 => S5 = S4 ++ [.dct (emb (costsF rs (P.take i)).1)] ∧ ∃ v7 v8 v9, e = ECo m rs kd P [some (.cell S4.length), some (.int (costsF rs (P.take i)).2), some (.int ((priorF (P.take i) : Nat) : Int)), v7, v8, v9, none]) ⟨rfl, _, _, _, rfl⟩ ?_ ?_
    · rintro i d e S5 R2 hd ⟨rfl, v7, v8, v9, rfl⟩ hR2
      rw [List.getElem?_map] at hd
      have hi : i < P.length := by
        by_cases q : i < P.length
        · exact q
        · rw [List.getElem?_eq_none (by omega)] at hd; cases hd
      rw [List.getElem?_eq_getElem hi] at hd
      cases hd
      have g := hp i hi
      have gn := g.near come_nil
      have lt := hp.lt h.toWebP P[i] (List.getElem_mem _)
      have tk : P.take (i + 1) = P.take i ++ [P[i]] := List.take_succ_eq_append_getElem hi
      have len := costsF_len rs (P.take i)
      rw [List.length_take] at len
      rw [tk, costsF_snoc, priorF_snoc] at hR2
      have pr1 : kd = true → P[i].1 = priorF (P.take i) := fun q => by
        unfold GoOn at g
        rw [if_pos q] at g
        exact g.1
      generalize P[i] = p at *
      generalize priorF (P.take i) = pr at *
      generalize costsF rs (P.take i) = t at *
      obtain ⟨kv, tot⟩ := t
      dsimp only at *
      have hun := under_dct hS kv
      have c0 : (S4 ++ [Cn.dct (emb kv)])[S4.length]? = some (.dct (emb kv)) := app_at0 rfl
      have ck : cellK (.cell S4.length) (S4 ++ [.dct (emb kv)]) = some (S4.length, emb kv) := by simp only [cellK, c0]
      simp only [ECo, gN_app, enso_nx, List.set_cons_succ, List.set_cons_zero]
      refine ens_sq (fun e S6 => S6 = S4 ++ [.dct (emb kv)] ∧ e = ECo m rs kd P [some (.cell S4.length), some (.int tot), some (.int (pr : Int)), some (thD kd p), some (.int (pr : Int)), some (thD kd p), none]) (fun R3 hR3 => ?_) ?_
      · simp only [ECo, yPar_app, xCons_app, xNil_app, xVar_app, List.getElem?_cons_zero, List.getElem?_cons_succ, Res.bind_ok, enso_out, ens_ok, enso_nx, List.set_cons_succ, List.set_cons_zero]
        exact hR3 _ _ ⟨rfl, rfl⟩
      rintro e S6 ⟨rfl, rfl⟩
      refine ens_sq (fun e S6 => S6 = S4 ++ [.dct (emb kv)] ∧ e = ECo m rs kd P [some (.cell S4.length), some (.int tot), some (.int (pr : Int)), some (thD kd p), some (.int (p.1 : Int)), some (.int (p.2 : Int)), none]) (fun R3 hR3 => ?_) ?_
      · simp only [ECo, yIf_app, xIsT_app, xOp_app, xC_app, xVar_app, List.getElem?_cons_zero, List.getElem?_cons_succ, Res.bind_ok, kd_spread, enso_out, ens_ok]
        cases kd
        · simp only [Bool.not_false, if_true, thD, Bool.false_eq_true, if_false, yAsg_app, xVar_app, List.getElem?_cons_zero, List.getElem?_cons_succ, gT_app, gsCons_app, gsNil_app, gN_app, Out.seq_nx, List.length_cons, List.length_nil, if_pos, List.set_cons_succ, List.set_cons_zero, enso_out, ens_ok, enso_nx]
          exact hR3 _ _ ⟨rfl, rfl⟩
        · simp only [Bool.not_true, Bool.false_eq_true, if_false, yNil_app, enso_nx]
          exact hR3 _ _ ⟨rfl, by rw [pr1 rfl]; rfl⟩
      rintro e S6 ⟨rfl, rfl⟩
      refine ens_sq (fun e S6 => S6 = S4 ++ [.dct (emb kv)] ∧ e = ECo m rs kd P [some (.cell S4.length), some (.int (if p.1 = p.2 then tot else tot + (getN (near rs p.1) p.2).getD 0)), some (.int (pr : Int)), some (thD kd p), some (.int (p.1 : Int)), some (.int (p.2 : Int)), none]) (fun R3 hR3 => ?_) ?_
      · simp only [ECo, yIf_app, xIsT_app, xOp_app, xVar_app, List.getElem?_cons_zero, List.getElem?_cons_succ, Res.bind_ok, dNe_int, enso_out, ens_ok]
        by_cases q : p.1 = p.2
        · rw [if_neg (by simp; omega)]
          simp only [yNil_app, enso_nx]
          exact hR3 _ _ ⟨rfl, by rw [if_pos q]⟩
        · obtain ⟨v, hv⟩ := gn q
          rw [if_pos (by simp; omega)]
          simp only [yAug_app, xFn_app, xCons_app, xNil_app, xVar_app, List.getElem?_cons_zero, List.getElem?_cons_succ, Res.bind_ok, enso_out]
          refine (length_of_ok h.toWebP p.1 p.2 _ hun).imp ?_
          rintro d S7 ⟨rfl, rfl⟩
          simp only [hv, Option.map_some, Option.getD_some, ipAdd_ok, enso_out, ens_ok, enso_nx, List.set_cons_succ, List.set_cons_zero]
          exact hR3 _ _ ⟨rfl, by rw [if_neg q, hv]; rfl⟩
      rintro e S6 ⟨rfl, rfl⟩
      unfold stepC at hR2
      dsimp only at hR2
      generalize (if p.1 = p.2 then tot else tot + (getN (near rs p.1) p.2).getD 0) = tot' at *
      refine ens_sq (fun e S6 => S6 = S4 ++ [.dct (emb (if (getN kv p.2).isSome then kv else putN kv p.2 tot'))] ∧ e = ECo m rs kd P [some (.cell S4.length), some (.int tot'), some (.int (pr : Int)), some (thD kd p), some (.int (p.1 : Int)), some (.int (p.2 : Int)), none]) (fun R3 hR3 => ?_) ?_
      · have ik : isK (.cell S4.length) (S4 ++ [.dct (emb kv)]) = true := by unfold isK; rw [ck]; rfl
        have el : (emb kv).length < 16000000 := by unfold emb; rw [List.length_map]; omega
        simp only [ECo, yExpr_app, xSetd_app, xVar_app, List.getElem?_cons_zero, List.getElem?_cons_succ, Res.bind_ok, ik, if_true, dSetd, ck, keyD, if_pos el, valD_emb]
        cases hg : getN kv p.2 with
        | none =>
          simp only [Option.map_none, putD_emb, app_set0, enso_out, ens_ok, enso_nx]
          exact hR3 _ _ ⟨by rw [hg]; rfl, rfl⟩
        | some v =>
          simp only [Option.map_some, enso_out, ens_ok, enso_nx]
          exact hR3 _ _ ⟨by rw [hg]; rfl, rfl⟩
      rintro e S6 ⟨rfl, rfl⟩
      simp only [ECo, ySet_app, xVar_app, List.getElem?_cons_zero, List.getElem?_cons_succ, enso_out, ens_ok, enso_nx, List.set_cons_succ, List.set_cons_zero]
      exact hR2 _ _ ⟨rfl, _, _, _, rfl⟩
    · rintro e S5 ⟨rfl, v7, v8, v9, rfl⟩
      rw [List.length_map, List.take_length]
      exact hR _ _ ⟨rfl, _, _, _, _, _, rfl⟩
  rintro e S5 ⟨rfl, v5, v6, v7, v8, v9, rfl⟩
  have mem : ∀ k < m, (getN (costsF rs P).1 k).isSome = true := fun k hk => costsF_mem kd rs P k (hc k hk)
  have eL : costL m rs P = (List.range m).map fun p => (getN (costsF rs P).1 p).getD 0 := rfl
  generalize (costsF rs P).1 = kv at *
  have c0 : (S4 ++ [Cn.dct (emb kv)])[S4.length]? = some (.dct (emb kv)) := app_at0 rfl
  have ck : cellK (.cell S4.length) (S4 ++ [.dct (emb kv)]) = some (S4.length, emb kv) := by simp only [cellK, c0]
  have hcm : lcL (fun _ => True) (eN 10) cYes (xOp dKx (xVar 4) (xVar 10)) (ECo m rs kd P [some (.cell S4.length), v5, v6, v7, v8, v9, none]) ((List.range m).map fun (k : Nat) => D.int (k : Int)) [] (S4 ++ [.dct (emb kv)]) = .ok ([] ++ (List.range m).map fun k => D.int ((getN kv k).getD 0)) (S4 ++ [.dct (emb kv)]) := by
    refine lc_map (fun (k : Nat) => D.int (k : Int)) (fun k => D.int ((getN kv k).getD 0)) (List.range m) [] (fun k hk => ⟨_, rfl, ?_⟩) (by simp; omega)
    obtain ⟨v, hv⟩ := Option.isSome_iff_exists.mp (mem k (List.mem_range.mp hk))
    simp only [ECo, List.set_cons_succ, List.set_cons_zero, xOp_app, xVar_app, List.getElem?_cons_zero, List.getElem?_cons_succ, Res.bind_ok, dKx, ck, keyD, valD_emb, hv, Option.map_some, Option.getD_some]
  have ir : irange 0 m = (List.range m).map fun (k : Nat) => D.int (k : Int) := by
    unfold irange
    apply List.map_congr_left
    intro i _
    simp
  simp only [ECo, yRet_app, xLc_app, iSrcA_app, xCons_app, xNil_app, xOp_app, xC_app, xVar_app, List.getElem?_cons_zero, List.getElem?_cons_succ, Res.bind_ok, i0, enso_out, ens_bind, ens_srcR1, wipeE_cons, wipeE_nil, List.set_cons_succ, List.set_cons_zero]
  refine ⟨rng62_of (by omega) (by omega), ?_⟩
  rw [show ((m : Int)).toNat = m by simp, ir, hcm]
  simp only [List.nil_append, ens_ok, mkF_app, enso_rt]
  rw [fin_cut rfl hS (by
    rw [D.under]
    exact underL_of fun d hd => by
      obtain ⟨z, _, rfl⟩ := List.mem_map.mp hd
      rfl), ens_ok]
  refine ⟨?_, rfl⟩
  rw [eL, List.map_map]
  rfl
/-! a walk drawn -/
abbrev natL (l : List Nat) : List D := l.map fun (k : Nat) => D.int (k : Int)
theorem in_natL (x : Nat) (l : List Nat) (S : Store) : dIn (.int (x : Int)) (.lst (natL l)) S = .ok (.bl (decide (x ∈ l))) S := by
  have g : getI (.lst (natL l)) S = some (natL l) := rfl
  unfold dIn dInX
  rw [g]
  simp only [inFl_nat]
  rw [if_pos ⟨rfl, all_flat l⟩]
  rfl
theorem walk_nats (P : List Pa) : P.map (thD true) = natL (P.map (·.2)) := by
  unfold natL
  rw [List.map_map]
  apply List.map_congr_left
  intro p _
  simp [thD]
theorem last_ix {P : List Pa} (h : P ≠ []) : L2.atI (P.map (thD true)) (-1) = some (.int (priorF P : Int)) := by
  rcases List.eq_nil_or_concat P with e | ⟨Q, p, e⟩
  · exact absurd e h
  · subst e
    rw [List.concat_eq_append, List.map_append, priorF_snoc]
    exact atI_last _ _
/-- a way: each place a neighbour of the one ahead -/
inductive WayC (rs : List Ro) : Nat → List Nat → Prop
  | nil {a : Nat} : WayC rs a []
  | cons {a b : Nat} {l : List Nat} : (getN (near rs a) b).isSome = true → WayC rs b l → WayC rs a (b :: l)
/-! the walk -/
def extP (P : List Pa) (path : List Nat) : List Pa := path.foldl (fun P b => P ++ [(priorF P, b)]) P
theorem extP_ok {rs : List Ro} : ∀ (path : List Nat) (P : List Pa), PlanI true rs P → P ≠ [] → WayC rs (priorF P) path → PlanI true rs (extP P path) ∧ (extP P path).map (thD true) = P.map (thD true) ++ natL path ∧ extP P path ≠ [] ∧ (extP P path).length = P.length + path.length ∧ (∀ x ∈ comeF true P, x ∈ comeF true (extP P path)) ∧ (∀ x ∈ path, x ∈ comeF true (extP P path))
  | [], P, h, hn, _ => ⟨h, by simp [extP], hn, by simp [extP], fun x hx => hx, fun x hx => by simp at hx⟩
  | b :: path, P, h, hn, hw => by
    cases hw with
    | cons h1 h2 =>
      have hc : comeF true P ≠ [] := fun z => by
        rcases List.eq_nil_or_concat P with e | ⟨Q, p, e⟩
        · exact hn e
        · subst e
          rw [List.concat_eq_append, comeF_snoc] at z
          have : p.2 ∈ addC (comeF true Q) p.2 := mem_addC.mpr (.inr rfl)
          rw [z] at this
          simp at this
      have hs : PlanI true rs (P ++ [(priorF P, b)]) := h.snoc (by
        unfold GoOn
        rw [if_pos rfl]
        exact ⟨rfl, by rw [if_neg hc]; exact h1⟩)
      obtain ⟨q1, q2, q3, q4, q5, q6⟩ := extP_ok path (P ++ [(priorF P, b)]) hs (by simp) (by rw [priorF_snoc]; exact h2)
      refine ⟨q1, ?_, q3, ?_, fun x hx => q5 x (by rw [comeF_snoc]; exact mem_addC.mpr (.inl hx)), fun x hx => ?_⟩
      · show (extP (P ++ [(priorF P, b)]) path).map (thD true) = _
        rw [q2, List.map_append, List.append_assoc]
        rfl
      · show (extP (P ++ [(priorF P, b)]) path).length = _
        rw [q4, List.length_append, List.length_singleton, List.length_cons]
        omega
      · rcases List.mem_cons.mp hx with e | e
        · rw [e]
          exact q5 b (by rw [comeF_snoc]; exact mem_addC.mpr (.inr rfl))
        · exact q6 x e
theorem comeF_walk (P : List Pa) (x : Nat) : x ∈ comeF true P ↔ ∃ p ∈ P, p.2 = x := by
  have go : ∀ (l : List Pa) (c : List Nat), x ∈ l.foldl (fun c p => addC c p.2) c ↔ x ∈ c ∨ ∃ p ∈ l, p.2 = x := by
    intro l
    induction l with
    | nil => intro c; simp
    | cons p l ih =>
      intro c
      rw [List.foldl_cons, ih, mem_addC]
      constructor
      · rintro ((h | h) | ⟨q, h1, h2⟩)
        · exact .inl h
        · exact .inr ⟨p, by simp, h.symm⟩
        · exact .inr ⟨q, by simp [h1], h2⟩
      · rintro (h | ⟨q, h1, h2⟩)
        · exact .inl (.inl h)
        · rcases List.mem_cons.mp h1 with e | e
          · subst e; exact .inl (.inr h2.symm)
          · exact .inr ⟨q, e, h2⟩
  have := go P []
  simpa [comeF] using this
theorem sub_lenG {α : Type} [DecidableEq α] : ∀ (l s : List α), l.Nodup → (∀ x ∈ l, x ∈ s) → l.length ≤ s.length := by
  intro l
  induction l with
  | nil => intro s _ _; simp
  | cons a l ih =>
    intro s hn hs
    have ha := hs a (by simp)
    have hn2 := List.nodup_cons.mp hn
    have := ih (s.erase a) hn2.2 (fun x hx => by
      have hne : x ≠ a := fun z => hn2.1 (z ▸ hx)
      exact (List.mem_erase_of_ne hne).mpr (hs x (by simp [hx])))
    rw [List.length_erase_of_mem ha] at this
    have := List.length_pos_of_mem ha
    rw [List.length_cons]
    omega
/-- a plan: flat, no cell in it -/
def Pg (l : List D) : Prop := l.length ≤ 4000 ∧ (∀ S n, 3 ≤ n → ∃ ps, toPs S n l = some ps) ∧ ∀ k, D.underL k l = true
abbrev Pl := List (List D × Int)
def itm (z : List D × Int) : D := .tup [.lst z.1, .int z.2]
def Pd (pl : Pl) : D := .lst (pl.map itm)
structure PlOk (pl : Pl) : Prop where
  ne : pl ≠ []
  few : pl.length ≤ 6
  pg : ∀ z ∈ pl, Pg z.1
  pos : ∀ z ∈ pl, 0 < z.2
  sm : ∀ z ∈ pl, z.2 ≤ 1000000000000000000000000000000
theorem items_toPs {S : Store} : ∀ (pl : Pl), (∀ z ∈ pl, Pg z.1) → ∃ ps, toPs S 59 (pl.map itm) = some ps
  | [], _ => ⟨[], by simp [toPs]⟩
  | z :: pl, h => by
    obtain ⟨ps, hps⟩ := items_toPs pl fun y hy => h y (by simp [hy])
    obtain ⟨qs, hqs⟩ := (h z (by simp)).2.1 S 57 (by decide)
    have hz : toP S 59 (itm z) = some (.tuple [.list qs, .int z.2]) := by simp [itm, toP, toPs, hqs]
    exact ⟨.tuple [.list qs, .int z.2] :: ps, by rw [List.map_cons, toPs, hz, hps]⟩
theorem pd_toP {pl : Pl} (h : ∀ z ∈ pl, Pg z.1) (S : Store) : ∃ p, toP S 60 (Pd pl) = some p := by
  obtain ⟨ps, hps⟩ := items_toPs (S := S) pl h
  exact ⟨.list ps, by unfold Pd; simp [toP, hps]⟩
def wsum (pl : Pl) : Int := (pl.map (·.2)).sum
def psum (pl : Pl) (j : Nat) : Int := wsum (pl.take j)
theorem psum_succ {pl : Pl} {j : Nat} (h : j < pl.length) : psum pl (j + 1) = psum pl j + pl[j].2 := by
  unfold psum wsum
  rw [List.take_succ_eq_append_getElem h, List.map_append, List.sum_append]
  simp
theorem psum_all {pl : Pl} : psum pl pl.length = wsum pl := by unfold psum; rw [List.take_length]
theorem psum_mono {pl : Pl} (hp : ∀ z ∈ pl, 0 < z.2) {i : Nat} : ∀ {j : Nat}, i ≤ j → j ≤ pl.length → psum pl i + (j - i : Int) ≤ psum pl j
  | 0, h, _ => by have : i = 0 := by omega
                  subst this; simp
  | j + 1, h, hj => by
    by_cases e : i = j + 1
    · subst e; omega
    · have := psum_mono hp (i := i) (j := j) (by omega) (by omega)
      rw [psum_succ (by omega)]
      have := hp pl[j] (List.getElem_mem _)
      omega
/-- the plan that a number picks -/
def pk : Pl → Int → Option (List D)
  | [], _ => none
  | z :: r, x => if x < z.2 then some z.1 else pk r (x - z.2)
theorem pk_drop {pl : Pl} {j : Nat} {x : Int} (h : j < pl.length) : pk (pl.drop j) x = if x < pl[j].2 then some pl[j].1 else pk (pl.drop (j + 1)) (x - pl[j].2) := by
  rw [List.drop_eq_getElem_cons h, pk]
theorem eT2_pl {i j : Nat} {z : List D × Int} {e : Dv.Env} : eT2 i j (itm z) e = some ((e.set i (some (.lst z.1))).set j (some (.int z.2))) := rfl
theorem weights_lc {i j : Nat} {oo : Option D} {ll : Dv.Env} {S : Store} {pl : Pl} (hij : i ≠ j) (hj : j < (oo :: ll).length) (hl : pl.length ≤ 6) : lcL (fun _ => True) (eT2 i j) cYes (xVar j) (oo :: ll) (pl.map itm) [] S = .ok ((pl.map (·.2)).map D.int) S := by
  rw [lc_map (emb := itm) (ψ := fun z => D.int z.2) pl [] _ (by simp; omega)]
  · simp
  · intro z _
    refine ⟨_, eT2_pl, ?_⟩
    unfold xVar
    rw [List.getElem?_set_self (by rw [List.length_set]; exact hj)]
theorem whole_of_ok {pl : Pl} (hl : pl.length ≤ 6) (S : Store) : F_whole_of [Pd pl] S = .ok (.int (wsum pl)) S := by
  rw [← ens_eq]
  refine ens_fn rfl ?_
  unfold b_whole_of Pd
  simp only [List.map_cons, List.map_nil, List.replicate, List.cons_append, List.nil_append, yRet_app, xFn_app, xCons_app, xNil_app, xLc_app, iSrc_app, xVar_app, List.getElem?_cons_zero, Res.bind_ok, srcL_lst, wipeE_cons, wipeE_nil, List.set_cons_succ, List.set_cons_zero]
  rw [weights_lc (by decide) (by simp) hl]
  have hb : bSum [.lst ((pl.map (·.2)).map D.int)] S = .ok (.int (wsum pl)) S := by
    unfold bSum
    simp only [getQ_lst, Option.bind_some, intsOf_map]
    rfl
  simp only [Res.bind_ok, mkF_app, hb]
  simp
theorem played_ok {pl : Pl} (h : PlOk pl) {x : Int} (h0 : 0 ≤ x) (h1 : x < wsum pl) (S : Store) : Ens (F_played [Pd pl, .int x] S) fun d S' => ∃ l, pk pl x = some l ∧ (∃ z ∈ pl, z.1 = l) ∧ d = .lst l ∧ S' = S := by
  refine ens_fn rfl ?_
  unfold b_played
  simp only [List.map_cons, List.map_nil, List.replicate, List.cons_append, List.nil_append]
  have hl0 : 0 < pl.length := List.length_pos_iff.mpr h.ne
  have ix : ∀ (j : Nat) (hj : j < pl.length) (S : Store), dIx (Pd pl) (.int j) S = .ok (itm pl[j]) S := fun j hj S => by
    unfold Pd
    rw [dIx_lst, atI_nat (by rw [List.getElem?_map, List.getElem?_eq_getElem hj]; rfl)]
  have ix0 := ix 0 hl0
  refine ens_seq (fun e S' => S' = S ∧ e = [some (Pd pl), some (.int x), none, none]) ?_ ?_
  · simp [whole_of_ok h.few, show ¬ x < 0 by omega, show ¬ wsum pl ≤ x by omega]
  rintro e S' ⟨rfl, rfl⟩
  refine ens_seq (fun e S2 => S2 = S' ∧ e = [some (Pd pl), some (.int x), some (.int 0), none]) ?_ ?_
  · simp
  rintro e S2 ⟨rfl, rfl⟩
  refine ens_seq (fun e S3 => S3 = S2 ∧ e = [some (Pd pl), some (.int x), some (.int 0), some (.int (x - psum pl 1))]) ?_ ?_
  · have e1 : psum pl 1 = pl[0].2 := by rw [psum_succ hl0]; simp [psum, wsum]
    have e2 := ix0 S2
    simp at e2
    simp [e2, itm, e1]
  rintro e S3 ⟨rfl, rfl⟩
  refine ens_seq (fun e S2 => S2 = S3 ∧ ∃ j : Nat, ∃ hj : j < pl.length, pk pl x = some pl[j].1 ∧ e = [some (Pd pl), some (.int x), some (.int j), some (.int (x - psum pl (j + 1)))]) ?_ ?_
  · refine ens_while (fun e S2 => S2 = S3 ∧ ∃ j : Nat, j < pl.length ∧ pk pl x = pk (pl.drop j) (x - psum pl j) ∧ e = [some (Pd pl), some (.int x), some (.int j), some (.int (x - psum pl (j + 1)))]) (fun e _ => match e with | [_, _, some (.int j), _] => (pl.length - j).toNat | _ => 0) ?_ ⟨rfl, 0, hl0, by simp [psum, wsum], rfl⟩
    rintro e S2 ⟨rfl, j, hj, hpk, rfl⟩
    have ps := psum_succ hj
    rw [pk_drop hj] at hpk
    simp
    refine ⟨fun hc => ?_, fun hc => ?_⟩
    · have hj2 : j + 1 < pl.length := by
        by_cases q : j + 1 < pl.length
        · exact q
        · have e : j + 1 = pl.length := by omega
          rw [e, psum_all] at hc
          omega
      rw [if_neg (by omega)] at hpk
      have e2 := ix (j + 1) hj2
      have ps2 := psum_succ hj2
      simp only [Int.natCast_add, Int.cast_ofNat_Int] at e2
      simp [ipAdd, ipSub, e2, itm]
      refine ⟨trivial, ⟨j + 1, hj2, ?_, by omega, by omega⟩, by omega⟩
      rw [hpk, ps]
      congr 1
      omega
    · rw [if_pos (by omega)] at hpk
      exact ⟨j, ⟨hj, hpk⟩, rfl, rfl⟩
  rintro e S2 ⟨rfl, j, hj, hpk, rfl⟩
  simp [ix j hj, itm, bList, fin]
  exact ⟨hpk, _, List.getElem_mem hj⟩

theorem pk_some {pl : Pl} : ∀ {x : Int}, 0 ≤ x → x < wsum pl → ∃ l, pk pl x = some l := by
  induction pl with
  | nil => intro x h0 h; simp [wsum] at h; omega
  | cons z pl ih => 
    intro x h0 h
    unfold pk
    by_cases q : x < z.2
    · rw [if_pos q]; exact ⟨_, rfl⟩
    · rw [if_neg q]
      exact ih (by omega) (by unfold wsum at h ⊢; rw [List.map_cons, List.sum_cons] at h; omega)

theorem wsum_pos {pl : Pl} (h : ∀ z ∈ pl, 0 < z.2) (hn : pl ≠ []) : 0 < wsum pl := sum_pos (fun x hx => by
  obtain ⟨z, hz, rfl⟩ := List.mem_map.mp hx
  exact h z hz) (by simpa using hn)
/-! a web drawn from a purse -/
theorem gL_lst {n : Nat} {hh : List D → Dv.Env → Store → Out} {l : List D} {e : Dv.Env} {S : Store} : gL n hh (.lst l) e S = if l.length = n then hh l e S else .bad := rfl
def plD (z : Nat × Nat) : D := .lst [.int (z.1 : Int), .int (z.2 : Int)]
structure TrI (m i : Nat) (ps : List (Nat × Nat)) : Prop where
  ok : ∀ z ∈ ps, z.1 < m ∧ z.2 < m ∧ z.1 ≠ z.2
  tree : ∀ k, 1 ≤ k → k ≤ i → ∃ a, a < k ∧ (a, k) ∈ ps
theorem mem_ins {α : Type} {l : List α} {t : Nat} {y x : α} : x ∈ l.take t ++ [y] ++ l.drop t ↔ x ∈ l ∨ x = y := by
  conv => rhs; rw [← List.take_append_drop t l]
  simp only [List.mem_append, List.mem_singleton]
  constructor
  · rintro ((h | h) | h)
    · exact .inl (.inl h)
    · exact .inr h
    · exact .inl (.inr h)
  · rintro ((h | h) | h)
    · exact .inl (.inl h)
    · exact .inr h
    · exact .inl (.inr h)
theorem len_ins {α : Type} {l : List α} {t : Nat} {y : α} : (l.take t ++ [y] ++ l.drop t).length = l.length + 1 := by
  have := congrArg List.length (List.take_append_drop t l)
  rw [List.length_append] at this
  rw [List.length_append, List.length_append, List.length_singleton]
  omega
structure NmI (i : Nat) (ns : List Nat) : Prop where
  perm : ns.Perm (List.range (i + 1))
  hd : ns[0]? = some 0
theorem NmI.more {i t : Nat} {ns : List Nat} (h : NmI i ns) (ht : 1 ≤ t) : NmI (i + 1) (ns.take t ++ [i + 1] ++ ns.drop t) := by
  refine ⟨?_, ?_⟩
  · rw [List.range_succ, List.append_assoc]
    have h1 : (ns.take t ++ ([i + 1] ++ ns.drop t)).Perm ([i + 1] ++ (ns.take t ++ ns.drop t)) := by
      rw [← List.append_assoc, ← List.append_assoc]
      exact List.Perm.append_right _ List.perm_append_comm
    rw [List.take_append_drop] at h1
    exact h1.trans ((List.perm_append_comm).trans (List.Perm.append_right _ h.perm))
  · rw [List.append_assoc]
    have l0 : 0 < ns.length := (List.getElem?_eq_some_iff.mp h.hd).1
    rw [List.getElem?_append_left (by rw [List.length_take]; omega), List.getElem?_take, if_pos (by omega)]
    exact h.hd
structure FdI (m : Nat) (nm : List Nat) (ps : List (Nat × Nat)) (rs : List Ro) : Prop where
  ok : ∀ z ∈ rs, z.1 < m ∧ z.2.1 < m ∧ z.1 ≠ z.2.1 ∧ 1 ≤ z.2.2 ∧ z.2.2 ≤ 1000000
  has : ∀ p ∈ ps, ∃ z ∈ rs, (nm[p.1]? = some z.1 ∧ nm[p.2]? = some z.2.1) ∨ (nm[p.1]? = some z.2.1 ∧ nm[p.2]? = some z.1)
theorem FdI.web {m : Nat} {nm : List Nat} {ps : List (Nat × Nat)} {rs : List Ro} (h : FdI m nm ps rs) (ht : TrI m (m - 1) ps) (hn : NmI (m - 1) nm) (m1 : 1 ≤ m) (m60 : m ≤ 60) (few : rs.length ≤ 120) : WebOk m rs := by
  refine ⟨⟨h.ok, m1, m60, few⟩, fun R r0 hR k hk => ?_⟩
  have nl : nm.length = m := by rw [hn.perm.length_eq, List.length_range]; omega
  have all : ∀ (n i : Nat) (hi : i < nm.length), i ≤ n → R nm[i] := by
    intro n
    induction n with
    | zero =>
      intro i hi h0
      have : i = 0 := by omega
      subst this
      have z := hn.hd
      rw [List.getElem?_eq_getElem hi] at z
      rw [Option.some.inj z]
      exact r0
    | succ n ih =>
      intro i hi h0
      by_cases q : i = 0
      · exact ih i hi (by omega)
      · obtain ⟨a, ha, hp⟩ := ht.tree i (by omega) (by omega)
        have ra := ih a (by omega) (by omega)
        obtain ⟨z, hz, ⟨e1, e2⟩ | ⟨e1, e2⟩⟩ := h.has _ hp
        · rw [List.getElem?_eq_getElem (by omega)] at e1 e2
          rw [Option.some.inj e1] at ra
          rw [Option.some.inj e2]
          exact (hR z hz).mp ra
        · rw [List.getElem?_eq_getElem (by omega)] at e1 e2
          rw [Option.some.inj e1] at ra
          rw [Option.some.inj e2]
          exact (hR z hz).mpr ra
  have mem : k ∈ nm := hn.perm.mem_iff.mpr (List.mem_range.mpr (by omega))
  obtain ⟨i, hi, rfl⟩ := List.getElem_of_mem mem
  exact all nm.length i hi (by omega)
abbrev EW8 (n : Nat) (mo : Int) (m : Nat) (r : List (Option D)) : Dv.Env := some (.cell n) :: some (.int mo) :: some (.int (m : Int)) :: r
theorem law_web78_ok {L n mm : Nat} {T : Int} {P : Store} (h : Pu L n mm T P) (hT : T ≤ 1000) (mo : Int) (mo1 : 1 ≤ mo) (mo2 : mo ≤ 60) : Ens (F__law_web [.cell n, .int mo] P) fun d S' => ∃ m rs, d = wbD m rs ∧ WebOk m rs ∧ (m : Int) ≤ mo ∧ Pu L n mm (T + 1000) S' := by
  refine ens_fn rfl ?_
  unfold b__law_web
  simp only [List.map_cons, List.map_nil, List.replicate, List.cons_append, List.nil_append]
  refine ens_sq (fun e S' => ∃ m : Nat, 1 ≤ m ∧ (m : Int) ≤ mo ∧ Pu L n mm (T + 1) S' ∧ e = EW8 n mo m [none, none, none, none, none, none, none, none]) (fun R hR => ?_) ?_
  · simp only [ySet_app, xOp_app, xFn_app, xCons_app, xNil_app, xC_app, xVar_app, List.getElem?_cons_zero, List.getElem?_cons_succ, Res.bind_ok, enso_out, ens_bind]
    have := draw_ok (R := []) h (k := mo) (by omega) (by omega) (by omega)
    rw [List.append_nil] at this
    refine this.imp ?_
    rintro d S' ⟨P1, r, rfl, h1, rfl, r0, r1⟩
    rw [List.append_nil]
    simp only [dAdd_int, ens_ok, enso_nx, List.set_cons_succ, List.set_cons_zero]
    refine hR _ _ ⟨(1 + r).toNat, by omega, by omega, h1, ?_⟩
    simp only [EW8]
    rw [show ((1 + r).toNat : Int) = 1 + r by omega]
  rintro e P1 ⟨m, m1, mo3, h1, rfl⟩
  have lL := h1.1
  refine ens_sq (fun e S' => S' = P1 ++ [.lst (([] : List (Nat × Nat)).map plD)] ∧ e = EW8 n mo m [some (.cell L), none, none, none, none, none, none, none]) (fun R hR => ?_) ?_
  · simp [lL]
    exact hR _ _ ⟨rfl, rfl⟩
  rintro e S' ⟨rfl, rfl⟩
  refine ens_sq (fun e S' => ∃ (P2 : Store) (ps : List (Nat × Nat)) (v4 : Option D), Pu L n mm (T + 1 + m) P2 ∧ TrI m (m - 1) ps ∧ ps.length ≤ m ∧ S' = P2 ++ [.lst (ps.map plD)] ∧ e = EW8 n mo m [some (.cell L), v4, none, none, none, none, none, none]) (fun R hR => ?_) ?_
  · simp only [EW8, yFor_app, iSrcA_app, xCons_app, xNil_app, xC_app, xVar_app, List.getElem?_cons_zero, List.getElem?_cons_succ, Res.bind_ok, enso_out, ens_srcR2]
    refine ⟨⟨rng62_of (by omega) (by omega), rng62_of (by omega) (by omega)⟩, ?_⟩
    rw [show ((m : Int) - 1).toNat = m - 1 by omega]
    refine ens_fr (fun i e S' => ∃ (P2 : Store) (ps : List (Nat × Nat)) (v4 : Option D), Pu L n mm (T + 1 + i) P2 ∧ TrI m i ps ∧ ps.length ≤ i ∧ S' = P2 ++ [.lst (ps.map plD)] ∧ e = EW8 n mo m [some (.cell L), v4, none, none, none, none, none, none]) ⟨P1, [], none, by simpa using h1, ⟨by simp, fun k k1 k2 => by omega⟩, by simp, rfl, rfl⟩ ?_ ?_
    · rintro i d e S' R2 hd ⟨P2, ps, v4, h2, ht, hl, rfl, rfl⟩ hR2
      obtain ⟨rfl, hi⟩ := irange_get hd
      have lL := h2.1
      have c0 : (P2 ++ [Cn.lst (ps.map plD)])[L]? = some (.lst (ps.map plD)) := app_at0 lL
      simp only [EW8, gN_app, enso_nx, List.set_cons_succ, List.set_cons_zero, yExpr_app, xMt_app, xLst_app, xFn_app, xCons_app, xNil_app, xVar_app, List.getElem?_cons_zero, List.getElem?_cons_succ, Res.bind_ok, isT, c0, beq_self_eq_true, if_true, enso_out, ens_bind]
      refine (draw_ok (R := [Cn.lst (ps.map plD)]) h2 (k := 1 + (i : Int)) (by omega) (by omega) (by omega)).imp ?_
      rintro d S' ⟨P3, r, rfl, h3, rfl, r0, r1⟩
      have lL3 := h3.1
      have c1 : (P3 ++ [Cn.lst (ps.map plD)])[L]? = some (.lst (ps.map plD)) := app_at0 lL3
      have al : ps.length < 16000000 := by omega
      obtain ⟨a, rfl⟩ : ∃ a : Nat, r = (a : Int) := ⟨_, (Int.toNat_of_nonneg r0).symm⟩
      have ap : ps.map plD ++ [D.lst [.int (a : Int), .int (1 + (i : Int))]] = (ps ++ [(a, i + 1)]).map plD := by
        have : (1 + (i : Int)) = ((i + 1 : Nat) : Int) := by omega
        rw [this]
        simp [plD]
      simp only [ens_ok, Res.bind_ok, List.length_cons, List.length_nil, if_pos (show 0 + 1 + 1 ≤ 1000 by decide), mkF_app, mAppend, cellL, c1, List.length_map, if_pos al, ap, app_set0 lL3, enso_nx]
      refine hR2 _ _ ⟨P3, ps ++ [(a, i + 1)], _, by
        have : T + 1 + ((i + 1 : Nat) : Int) = T + 1 + (i : Int) + 1 := by omega
        rw [this]; exact h3, ⟨fun z hz => ?_, fun k k1 k2 => ?_⟩, by simp; omega, rfl, rfl⟩
      · rcases List.mem_append.mp hz with w | w
        · exact ht.ok z w
        · rw [List.mem_singleton.mp w]
          dsimp only
          omega
      · by_cases q : k ≤ i
        · obtain ⟨a', h4, h5⟩ := ht.tree k k1 q
          exact ⟨a', h4, List.mem_append_left _ h5⟩
        · have : k = i + 1 := by omega
          subst this
          exact ⟨a, by omega, by simp⟩
    · rintro e S' ⟨P2, ps, v4, h2, ht, hl, rfl, rfl⟩
      rw [irange_length] at h2 ht hl
      exact hR _ _ ⟨P2, ps, v4, h2.mono (by omega), ht, by omega, rfl, rfl⟩
  rintro e S' ⟨P2, ps, v4, h2, ht, hl, rfl, rfl⟩
  refine ens_sq (fun e S' => ∃ (P3 : Store) (ps : List (Nat × Nat)) (v4 v5 v8 v9 : Option D), Pu L n mm (T + 100) P3 ∧ TrI m (m - 1) ps ∧ ps.length ≤ m + 4 ∧ S' = P3 ++ [.dead] ∧ e = EW8 n mo m [some (.lst (ps.map plD)), v4, v5, none, none, v8, v9, none]) (fun R hR => ?_) ?_
  · refine ens_sq (fun e S' => ∃ (P3 : Store) (ps : List (Nat × Nat)) (v4 v5 v8 v9 : Option D), Pu L n mm (T + 100) P3 ∧ TrI m (m - 1) ps ∧ ps.length ≤ m + 4 ∧ S' = P3 ++ [.lst (ps.map plD)] ∧ e = EW8 n mo m [some (.cell L), v4, v5, none, none, v8, v9, none]) (fun R1 hR1 => ?_) ?_
    · simp only [EW8, yFor_app, iSrcA_app, xFn_app, xCons_app, xNil_app, xC_app, xVar_app, List.getElem?_cons_zero, List.getElem?_cons_succ, Res.bind_ok, enso_out, ens_bind]
      refine (draw_ok (R := [Cn.lst (ps.map plD)]) h2 (k := 4) (by omega) (by omega) (by omega)).imp ?_
      rintro d S' ⟨P3, r, rfl, h3, rfl, r0, r1⟩
      simp only [ens_ok, Res.bind_ok, ens_srcR1]
      refine ⟨rng62_of (by omega) (by omega), ?_⟩
      refine ens_fr (fun i e S' => ∃ (P3 : Store) (ps : List (Nat × Nat)) (v4 v5 v8 v9 : Option D), Pu L n mm (T + 1 + m + 1 + 3 * i) P3 ∧ TrI m (m - 1) ps ∧ ps.length ≤ m + i ∧ S' = P3 ++ [.lst (ps.map plD)] ∧ e = EW8 n mo m [some (.cell L), v4, v5, none, none, v8, v9, none]) ⟨P3, ps, v4, none, none, none, by simpa using h3, ht, by omega, rfl, rfl⟩ ?_ ?_
      · rintro i d e S' R2 hd ⟨P3, ps, v4, v5, v8, v9, h3, ht, hl, rfl, rfl⟩ hR2
        obtain ⟨rfl, hi⟩ := irange_get hd
        have hi4 : i < 4 := by omega
        simp only [EW8, gN_app, enso_nx, List.set_cons_succ, List.set_cons_zero, Int.zero_add]
        refine ens_sq (fun e S' => ∃ (P4 : Store) (a : Nat), a < m ∧ Pu L n mm (T + 1 + m + 1 + 3 * i + 1) P4 ∧ S' = P4 ++ [.lst (ps.map plD)] ∧ e = EW8 n mo m [some (.cell L), v4, some (.int (i : Int)), none, none, some (.int (a : Int)), v9, none]) (fun R3 hR3 => ?_) ?_
        · simp only [EW8, ySet_app, xFn_app, xCons_app, xNil_app, xVar_app, List.getElem?_cons_zero, List.getElem?_cons_succ, Res.bind_ok, enso_out]
          refine (draw_ok (R := [Cn.lst (ps.map plD)]) h3 (k := (m : Int)) (by omega) (by omega) (by omega)).imp ?_
          rintro d S' ⟨P4, r, rfl, h4, rfl, r0, r1⟩
          simp only [enso_nx, List.set_cons_succ, List.set_cons_zero]
          refine hR3 _ _ ⟨P4, r.toNat, by omega, h4, rfl, ?_⟩
          rw [Int.toNat_of_nonneg r0]
        rintro e S' ⟨P4, a, ha, h4, rfl, rfl⟩
        refine ens_sq (fun e S' => ∃ (P5 : Store) (b : Nat), b < m ∧ Pu L n mm (T + 1 + m + 1 + 3 * i + 1 + 1) P5 ∧ S' = P5 ++ [.lst (ps.map plD)] ∧ e = EW8 n mo m [some (.cell L), v4, some (.int (i : Int)), none, none, some (.int (a : Int)), some (.int (b : Int)), none]) (fun R3 hR3 => ?_) ?_
        · simp only [EW8, ySet_app, xFn_app, xCons_app, xNil_app, xVar_app, List.getElem?_cons_zero, List.getElem?_cons_succ, Res.bind_ok, enso_out]
          refine (draw_ok (R := [Cn.lst (ps.map plD)]) h4 (k := (m : Int)) (by omega) (by omega) (by omega)).imp ?_
          rintro d S' ⟨P5, r, rfl, h5, rfl, r0, r1⟩
          simp only [enso_nx, List.set_cons_succ, List.set_cons_zero]
          refine hR3 _ _ ⟨P5, r.toNat, by omega, h5, rfl, ?_⟩
          rw [Int.toNat_of_nonneg r0]
        rintro e S' ⟨P5, b, hb, h5, rfl, rfl⟩
        have eT : T + 1 + (m : Int) + 1 + 3 * ((i + 1 : Nat) : Int) = T + 1 + (m : Int) + 1 + 3 * (i : Int) + 1 + 1 + 1 := by omega
        simp only [EW8, yIf_app, xIsT_app, xOp_app, xVar_app, List.getElem?_cons_zero, List.getElem?_cons_succ, Res.bind_ok, dNe_int, enso_out, ens_ok]
        by_cases hab : a = b
        · rw [if_neg (by simp; omega)]
          simp only [yNil_app, enso_nx]
          exact hR2 _ _ ⟨P5, ps, _, _, _, _, by rw [eT]; exact h5.mono (by omega), ht, by omega, rfl, rfl⟩
        · rw [if_pos (by simp; omega)]
          have lL5 := h5.1
          have c5 : (P5 ++ [Cn.lst (ps.map plD)])[L]? = some (.lst (ps.map plD)) := app_at0 lL5
          have bl : bLen [.cell L] (P5 ++ [Cn.lst (ps.map plD)]) = .ok (.int ps.length) (P5 ++ [Cn.lst (ps.map plD)]) := by simp [bLen, getQ, getL, c5]
          simp only [EW8, yExpr_app, xMt_app, xLst_app, xOp_app, xFn_app, xCons_app, xNil_app, xC_app, xVar_app, List.getElem?_cons_zero, List.getElem?_cons_succ, Res.bind_ok, isT, c5, beq_self_eq_true, if_true, bl, dAdd_int, enso_out, ens_bind]
          refine (draw_ok (R := [Cn.lst (ps.map plD)]) h5 (k := (ps.length : Int) + 1) (by omega) (by omega) (by omega)).imp ?_
          rintro d S' ⟨P6, r, rfl, h6, rfl, r0, r1⟩
          have lL6 := h6.1
          have c6 : (P6 ++ [Cn.lst (ps.map plD)])[L]? = some (.lst (ps.map plD)) := app_at0 lL6
          have ic : (ps.map plD).length < 16000000 ∧ 0 ≤ r ∧ r < 4611686018427387904 := by rw [List.length_map]; omega
          have ap : (ps.map plD).take r.toNat ++ [D.lst [.int (a : Int), .int (b : Int)]] ++ (ps.map plD).drop r.toNat = (ps.take r.toNat ++ [(a, b)] ++ ps.drop r.toNat).map plD := by simp [plD]
          simp only [ens_ok, Res.bind_ok, List.length_cons, List.length_nil, if_pos (show 0 + 1 + 1 ≤ 1000 by decide), mkF_app, mInsert, cellL, c6, if_pos ic, ap, app_set0 lL6, enso_nx]
          refine hR2 _ _ ⟨P6, ps.take r.toNat ++ [(a, b)] ++ ps.drop r.toNat, _, _, _, _, by rw [eT]; exact h6, ⟨fun z hz => ?_, fun k k1 k2 => ?_⟩, by rw [len_ins]; omega, rfl, rfl⟩
          · rcases mem_ins.mp hz with w | w
            · exact ht.ok z w
            · rw [w]; exact ⟨ha, hb, hab⟩
          · obtain ⟨a', h7, h8⟩ := ht.tree k k1 k2
            exact ⟨a', h7, mem_ins.mpr (.inl h8)⟩
      · rintro e S' ⟨P3, ps, v4, v5, v8, v9, h3, ht, hl, rfl, rfl⟩
        rw [irange_length] at h3 hl
        exact hR1 _ _ ⟨P3, ps, v4, v5, v8, v9, h3.mono (by omega), ht, by omega, rfl, rfl⟩
    rintro e S' ⟨P3, ps, v4, v5, v8, v9, h3, ht, hl, rfl, rfl⟩
    have lL3 := h3.1
    have c3 : (P3 ++ [Cn.lst (ps.map plD)])[L]? = some (.lst (ps.map plD)) := app_at0 lL3
    simp only [EW8, frzE, List.getElem?_cons_zero, List.getElem?_cons_succ, frz, c3, app_set0 lL3, Res.out_ok, enso_nx, List.set_cons_succ, List.set_cons_zero]
    exact hR _ _ ⟨P3, ps, v4, v5, v8, v9, h3, ht, hl, rfl, rfl⟩
  rintro e S' ⟨P3, ps, v4, v5, v8, v9, h3, ht, hl, rfl, rfl⟩
  have lL3 := h3.1
  refine ens_sq (fun e S' => S' = P3 ++ [.dead, .lst (([0] : List Nat).map fun (k : Nat) => D.int (k : Int))] ∧ e = EW8 n mo m [some (.lst (ps.map plD)), v4, v5, some (.cell (L + 1)), none, v8, v9, none]) (fun R hR => ?_) ?_
  · simp [lL3]
    exact hR _ _ ⟨rfl, rfl⟩
  rintro e S' ⟨rfl, rfl⟩
  refine ens_sq (fun e S' => ∃ (P4 : Store) (nm : List Nat) (v4 : Option D), Pu L n mm (T + 200) P4 ∧ NmI (m - 1) nm ∧ S' = P4 ++ [.dead, .dead] ∧ e = EW8 n mo m [some (.lst (ps.map plD)), v4, v5, some (.lst (nm.map fun (k : Nat) => D.int (k : Int))), none, v8, v9, none]) (fun R hR => ?_) ?_
  · refine ens_sq (fun e S' => ∃ (P4 : Store) (nm : List Nat) (v4 : Option D), Pu L n mm (T + 200) P4 ∧ NmI (m - 1) nm ∧ S' = P4 ++ [.dead, .lst (nm.map fun (k : Nat) => D.int (k : Int))] ∧ e = EW8 n mo m [some (.lst (ps.map plD)), v4, v5, some (.cell (L + 1)), none, v8, v9, none]) (fun R1 hR1 => ?_) ?_
    · simp only [EW8, yFor_app, iSrcA_app, xCons_app, xNil_app, xC_app, xVar_app, List.getElem?_cons_zero, List.getElem?_cons_succ, Res.bind_ok, enso_out, ens_srcR2]
      refine ⟨⟨rng62_of (by omega) (by omega), rng62_of (by omega) (by omega)⟩, ?_⟩
      rw [show ((m : Int) - 1).toNat = m - 1 by omega]
      refine ens_fr (fun i e S' => ∃ (P4 : Store) (nm : List Nat) (v4 : Option D), Pu L n mm (T + 100 + i) P4 ∧ NmI i nm ∧ S' = P4 ++ [.dead, .lst (nm.map fun (k : Nat) => D.int (k : Int))] ∧ e = EW8 n mo m [some (.lst (ps.map plD)), v4, v5, some (.cell (L + 1)), none, v8, v9, none]) ⟨P3, [0], _, by simpa using h3, ⟨List.Perm.refl _, rfl⟩, rfl, rfl⟩ ?_ ?_
      · rintro i d e S' R2 hd ⟨P4, nm, v4, h4, hn, rfl, rfl⟩ hR2
        obtain ⟨rfl, hi⟩ := irange_get hd
        have lL4 := h4.1
        have nl : nm.length = i + 1 := by rw [hn.perm.length_eq, List.length_range]
        have c0 : (P4 ++ [Cn.dead, Cn.lst (nm.map fun (k : Nat) => D.int (k : Int))])[L + 1]? = some (.lst (nm.map fun (k : Nat) => D.int (k : Int))) := app_at1 lL4
        simp only [EW8, gN_app, enso_nx, List.set_cons_succ, List.set_cons_zero, yExpr_app, xMt_app, xOp_app, xFn_app, xCons_app, xNil_app, xC_app, xVar_app, List.getElem?_cons_zero, List.getElem?_cons_succ, Res.bind_ok, isT, c0, beq_self_eq_true, if_true, enso_out, ens_bind]
        refine (draw_ok (R := [Cn.dead, Cn.lst (nm.map fun (k : Nat) => D.int (k : Int))]) h4 (k := 1 + (i : Int)) (by omega) (by omega) (by omega)).imp ?_
        rintro d S' ⟨P5, r, rfl, h5, rfl, r0, r1⟩
        have lL5 := h5.1
        have c5 : (P5 ++ [Cn.dead, Cn.lst (nm.map fun (k : Nat) => D.int (k : Int))])[L + 1]? = some (.lst (nm.map fun (k : Nat) => D.int (k : Int))) := app_at1 lL5
        have ic : (nm.map fun (k : Nat) => D.int (k : Int)).length < 16000000 ∧ 0 ≤ 1 + r ∧ 1 + r < 4611686018427387904 := by rw [List.length_map]; omega
        have ap : (nm.map fun (k : Nat) => D.int (k : Int)).take (1 + r).toNat ++ [D.int (1 + (i : Int))] ++ (nm.map fun (k : Nat) => D.int (k : Int)).drop (1 + r).toNat = (nm.take (1 + r).toNat ++ [i + 1] ++ nm.drop (1 + r).toNat).map fun (k : Nat) => D.int (k : Int) := by
          have : (1 + (i : Int)) = ((i + 1 : Nat) : Int) := by omega
          rw [this]
          simp
        simp only [dAdd_int, ens_ok, Res.bind_ok, mInsert, cellL, c5, if_pos ic, ap, app_set1 lL5, enso_nx]
        refine hR2 _ _ ⟨P5, _, _, by
          have : T + 100 + ((i + 1 : Nat) : Int) = T + 100 + (i : Int) + 1 := by omega
          rw [this]; exact h5, hn.more (by omega), rfl, rfl⟩
      · rintro e S' ⟨P4, nm, v4, h4, hn, rfl, rfl⟩
        rw [irange_length] at h4 hn
        exact hR1 _ _ ⟨P4, nm, v4, h4.mono (by omega), hn, rfl, rfl⟩
    rintro e S' ⟨P4, nm, v4, h4, hn, rfl, rfl⟩
    have lL4 := h4.1
    have c4 : (P4 ++ [Cn.dead, Cn.lst (nm.map fun (k : Nat) => D.int (k : Int))])[L + 1]? = some (.lst (nm.map fun (k : Nat) => D.int (k : Int))) := app_at1 lL4
    simp only [EW8, frzE, List.getElem?_cons_zero, List.getElem?_cons_succ, frz, c4, app_set1 lL4, Res.out_ok, enso_nx, List.set_cons_succ, List.set_cons_zero]
    exact hR _ _ ⟨P4, nm, v4, h4, hn, rfl, rfl⟩
  rintro e S' ⟨P4, nm, v4, h4, hn, rfl, rfl⟩
  have lL4 := h4.1
  have nl : nm.length = m := by rw [hn.perm.length_eq, List.length_range]; omega
  have nlt : ∀ (i : Nat) (hi : i < nm.length), nm[i] < m := fun i hi => by
    have := List.mem_range.mp (hn.perm.mem_iff.mp (List.getElem_mem hi))
    omega
  have nnd : ∀ (i j : Nat) (hi : i < nm.length) (hj : j < nm.length), i ≠ j → nm[i] ≠ nm[j] := fun i j hi hj hij e => by
    have nd : nm.Nodup := hn.perm.nodup_iff.mpr List.nodup_range
    rcases Nat.lt_or_gt_of_ne hij with q | q
    · exact List.pairwise_iff_getElem.mp nd i j hi hj q e
    · exact List.pairwise_iff_getElem.mp nd j i hj hi q e.symm
  refine ens_sq (fun e S' => S' = P4 ++ [.dead, .dead, .lst (([] : List Ro).map roD)] ∧ e = EW8 n mo m [some (.lst (ps.map plD)), v4, v5, some (.lst (nm.map fun (k : Nat) => D.int (k : Int))), some (.cell (L + 2)), v8, v9, none]) (fun R hR => ?_) ?_
  · simp [lL4]
    exact hR _ _ ⟨rfl, rfl⟩
  rintro e S' ⟨rfl, rfl⟩
  have nix : ∀ (i : Nat) (hi : i < nm.length) S, dIx (.lst (nm.map fun (k : Nat) => D.int (k : Int))) (.int (i : Int)) S = .ok (.int (nm[i] : Int)) S := fun i hi S => by
    have := dl_ix (l := nm.map fun (k : Nat) => D.int (k : Int)) (i := i) (by rw [List.length_map]; exact hi) S
    rw [List.getElem_map] at this
    exact this
  refine ens_sq (fun e S' => ∃ (P5 : Store) (rs : List Ro) (v3 v4 v5 v6 v8 v9 v10 : Option D), Pu L n mm (T + 1000) P5 ∧ FdI m nm ps rs ∧ rs.length ≤ 120 ∧ S' = P5 ++ [.dead, .dead, .dead] ∧ e = EW8 n mo m [v3, v4, v5, v6, some (.lst (rs.map roD)), v8, v9, v10]) (fun R hR => ?_) ?_
  · refine ens_sq (fun e S' => ∃ (P5 : Store) (rs : List Ro) (v8 v9 v10 : Option D), Pu L n mm (T + 1000) P5 ∧ FdI m nm ps rs ∧ rs.length ≤ 120 ∧ S' = P5 ++ [.dead, .dead, .lst (rs.map roD)] ∧ e = EW8 n mo m [some (.lst (ps.map plD)), v4, v5, some (.lst (nm.map fun (k : Nat) => D.int (k : Int))), some (.cell (L + 2)), v8, v9, v10]) (fun R1 hR1 => ?_) ?_
    · simp only [EW8, yFor_app, iSrc_app, xVar_app, List.getElem?_cons_zero, List.getElem?_cons_succ, Res.bind_ok, srcL_lst, enso_out, ens_ok]
      refine ens_fr (fun i e S' => ∃ (P5 : Store) (rs : List Ro) (v8 v9 v10 : Option D), Pu L n mm (T + 200 + 4 * i) P5 ∧ FdI m nm (ps.take i) rs ∧ rs.length = i ∧ S' = P5 ++ [.dead, .dead, .lst (rs.map roD)] ∧ e = EW8 n mo m [some (.lst (ps.map plD)), v4, v5, some (.lst (nm.map fun (k : Nat) => D.int (k : Int))), some (.cell (L + 2)), v8, v9, v10]) ⟨P4, [], _, _, _, by simpa using h4, ⟨by simp, by simp⟩, rfl, rfl, rfl⟩ ?_ ?_
      · rintro i d e S' R2 hd ⟨P5, rs, v8, v9, v10, h5, hf, hlen, rfl, rfl⟩ hR2
        rw [List.getElem?_map] at hd
        have hi : i < ps.length := by
          by_cases q : i < ps.length
          · exact q
          · rw [List.getElem?_eq_none (by omega)] at hd; cases hd
        rw [List.getElem?_eq_getElem hi] at hd
        cases hd
        obtain ⟨z1, z2, z3⟩ := ht.ok ps[i] (List.getElem_mem _)
        have tk : ps.take (i + 1) = ps.take i ++ [ps[i]] := List.take_succ_eq_append_getElem hi
        rw [tk] at hR2
        generalize ps[i] = z at *
        have lL5 := h5.1
        have lt1 : z.1 < nm.length := by omega
        have lt2 : z.2 < nm.length := by omega
        have n1 := nlt z.1 lt1
        have n2 := nlt z.2 lt2
        have nn := nnd z.1 z.2 lt1 lt2 z3
        have q1 : nm[z.1]? = some nm[z.1] := List.getElem?_eq_getElem lt1
        have q2 : nm[z.2]? = some nm[z.2] := List.getElem?_eq_getElem lt2
        have x1 := nix z.1 lt1
        have x2 := nix z.2 lt2
        generalize nm[z.1] = u at *
        generalize nm[z.2] = v at *
        simp only [EW8, plD, gL_lst, gsCons_app, gsNil_app, gN_app, Out.seq_nx, List.length_cons, List.length_nil, if_pos, enso_nx, List.set_cons_succ, List.set_cons_zero]
        refine ens_sq (fun e S' => ∃ (P6 : Store) (l : Int), 1 ≤ l ∧ l ≤ 1000000 ∧ Pu L n mm (T + 200 + 4 * i + 1 + 1) P6 ∧ S' = P6 ++ [.dead, .dead, .lst (rs.map roD)] ∧ e = EW8 n mo m [some (.lst (ps.map plD)), v4, v5, some (.lst (nm.map fun (k : Nat) => D.int (k : Int))), some (.cell (L + 2)), some (.int (z.1 : Int)), some (.int (z.2 : Int)), some (.int l)]) (fun R3 hR3 => ?_) ?_
        · have p6 : ∀ S, dPow (.int 10) (.int 6) S = .ok (.int 1000000) S := fun S => by simp [powOk]
          simp only [EW8, ySet_app, xOp_app, xLst_app, xFn_app, xCons_app, xNil_app, xC_app, xVar_app, List.getElem?_cons_zero, List.getElem?_cons_succ, Res.bind_ok, p6, List.length_cons, List.length_nil, if_pos (show 0 + 1 + 1 + 1 ≤ 1000 by decide), mkF_app, enso_out, ens_bind]
          refine (draw_ok (R := [Cn.dead, Cn.dead, Cn.lst (rs.map roD)]) h5 (k := 3) (by omega) (by omega) (by omega)).imp ?_
          rintro d S' ⟨P6, r, rfl, h6, rfl, r0, r1⟩
          obtain ⟨w, hw, hv⟩ := dl_pick [3, 9, 1000000] (r := r) r0 (by simpa using r1) (P6 ++ [Cn.dead, Cn.dead, Cn.lst (rs.map roD)])
          simp only [List.map_cons, List.map_nil] at hv
          have hwb : 3 ≤ w ∧ w ≤ 1000000 := by
            simp at hw
            omega
          simp only [hv, ens_ok, Res.bind_ok]
          refine (draw_ok (R := [Cn.dead, Cn.dead, Cn.lst (rs.map roD)]) h6 (k := w) (by omega) (by omega) (by omega)).imp ?_
          rintro d S' ⟨P7, r', rfl, h7, rfl, r0', r1'⟩
          simp only [dAdd_int, ens_ok, enso_nx, List.set_cons_succ, List.set_cons_zero]
          exact hR3 _ _ ⟨P7, 1 + r', by omega, by omega, h7, rfl, rfl⟩
        rintro e S' ⟨P6, l, l1, l2, h6, rfl, rfl⟩
        have lL6 := h6.1
        have c6 : (P6 ++ [Cn.dead, Cn.dead, Cn.lst (rs.map roD)])[L + 2]? = some (.lst (rs.map roD)) := app_at2 lL6
        simp only [EW8, yExpr_app, xMt_app, xOp_app, xLst_app, xTup_app, xFn_app, xCons_app, xNil_app, xC_app, xVar_app, List.getElem?_cons_zero, List.getElem?_cons_succ, Res.bind_ok, isT, c6, beq_self_eq_true, if_true, x1, x2, List.length_cons, List.length_nil, if_pos (show 0 + 1 + 1 + 1 ≤ 1000 by decide), if_pos (show 0 + 1 + 1 ≤ 1000 by decide), mkF_app, enso_out, ens_bind]
        refine (draw_ok (R := [Cn.dead, Cn.dead, Cn.lst (rs.map roD)]) h6 (k := 2) (by omega) (by omega) (by omega)).imp ?_
        rintro d S' ⟨P7, r, rfl, h7, rfl, r0, r1⟩
        have lL7 := h7.1
        have c7 : (P7 ++ [Cn.dead, Cn.dead, Cn.lst (rs.map roD)])[L + 2]? = some (.lst (rs.map roD)) := app_at2 lL7
        have al : rs.length < 16000000 := by omega
        obtain ⟨y, hy, hab⟩ : ∃ y : Ro, dIx (.lst [.tup [.int (u : Int), .int (v : Int), .int l], .tup [.int (v : Int), .int (u : Int), .int l]]) (.int r) (P7 ++ [Cn.dead, Cn.dead, Cn.lst (rs.map roD)]) = .ok (roD y) (P7 ++ [Cn.dead, Cn.dead, Cn.lst (rs.map roD)]) ∧ (y = (u, v, l) ∨ y = (v, u, l)) := by
          have : r = 0 ∨ r = 1 := by omega
          rcases this with e | e
          · subst e; exact ⟨(u, v, l), by simp [roD], .inl rfl⟩
          · subst e; exact ⟨(v, u, l), by simp [roD], .inr rfl⟩
        have ap : rs.map roD ++ [roD y] = (rs ++ [y]).map roD := by simp
        simp only [ens_ok, Res.bind_ok, hy, mAppend, cellL, c7, List.length_map, if_pos al, ap, app_set2 lL7, enso_nx]
        refine hR2 _ _ ⟨P7, rs ++ [y], _, _, _, by
          have : T + 200 + 4 * ((i + 1 : Nat) : Int) = T + 200 + 4 * (i : Int) + 1 + 1 + 1 + 1 := by omega
          rw [this]; exact h7.mono (by omega), ⟨fun x hx => ?_, fun p hp => ?_⟩, by simp [hlen], rfl, rfl⟩
        · rcases List.mem_append.mp hx with w | w
          · exact hf.ok x w
          · rw [List.mem_singleton.mp w]
            rcases hab with e | e <;> rw [e]
            · exact ⟨n1, n2, nn, l1, l2⟩
            · exact ⟨n2, n1, nn.symm, l1, l2⟩
        · rcases List.mem_append.mp hp with w | w
          · obtain ⟨x, hx, q⟩ := hf.has p w
            exact ⟨x, List.mem_append_left _ hx, q⟩
          · rw [List.mem_singleton.mp w]
            refine ⟨y, by simp, ?_⟩
            rcases hab with e | e <;> rw [e]
            · exact .inl ⟨q1, q2⟩
            · exact .inr ⟨q1, q2⟩
      · rintro e S' ⟨P5, rs, v8, v9, v10, h5, hf, hlen, rfl, rfl⟩
        rw [List.length_map] at h5 hf hlen
        rw [List.take_length] at hf
        exact hR1 _ _ ⟨P5, rs, v8, v9, v10, h5.mono (by omega), hf, by omega, rfl, rfl⟩
    rintro e S' ⟨P5, rs, v8, v9, v10, h5, hf, hlen, rfl, rfl⟩
    have lL5 := h5.1
    have c5 : (P5 ++ [Cn.dead, Cn.dead, Cn.lst (rs.map roD)])[L + 2]? = some (.lst (rs.map roD)) := app_at2 lL5
    simp only [EW8, frzE, List.getElem?_cons_zero, List.getElem?_cons_succ, frz, c5, app_set2 lL5, Res.out_ok, enso_nx, List.set_cons_succ, List.set_cons_zero]
    exact hR _ _ ⟨P5, rs, _, _, _, _, v8, v9, v10, h5, hf, hlen, rfl, rfl⟩
  rintro e S' ⟨P5, rs, v3, v4', v5', v6, v8', v9', v10, h5, hf, hlen, rfl, rfl⟩
  have lL5 := h5.1
  have hun := h5.2.1.2
  simp only [EW8, yRet_app, xTup_app, xCons_app, xNil_app, xVar_app, List.getElem?_cons_zero, List.getElem?_cons_succ, Res.bind_ok, List.length_cons, List.length_nil, if_pos (show 0 + 1 + 1 ≤ 1000 by decide), enso_out, ens_ok, enso_rt]
  rw [h.1, fin_cut lL5 hun (by
    have u : D.underL L (rs.map roD) = true := underL_of fun d hd => by
      obtain ⟨z, _, rfl⟩ := List.mem_map.mp hd
      rfl
    simp [D.under, D.underL, u]), ens_ok]
  exact ⟨m, rs, rfl, hf.web ht hn m1 (by omega) hlen, mo3, h5⟩
/-! a way by as few roads as can be -/
def lastW (a : Nat) (t : List Nat) : Nat := t.getLast?.getD a
theorem lastW_snoc (a : Nat) (t : List Nat) (b : Nat) : lastW a (t ++ [b]) = b := by simp [lastW]
theorem WayC.snoc {rs : List Ro} : ∀ {t : List Nat} {a b : Nat}, WayC rs a t → (getN (near rs (lastW a t)) b).isSome = true → WayC rs a (t ++ [b])
  | [], a, b, _, h => .cons h .nil
  | c :: t, a, b, .cons h1 h2, h => .cons h1 (h2.snoc (by
      have : lastW a (c :: t) = lastW c t := by
        unfold lastW
        rw [List.getLast?_cons]
        rfl
      rw [this] at h
      exact h))
abbrev Wz := Nat × List Nat
def embZ (s : Nat) (W : List Wz) : List (Key × D) := W.map fun p => (Sum.inl (p.1 : Int), D.lst (natL (s :: p.2)))
theorem valD_embZ (s k : Nat) : ∀ W : List Wz, valD (embZ s W) (Sum.inl (k : Int)) = (W.find? fun p => decide (p.1 = k)).map fun p => D.lst (natL (s :: p.2))
  | [] => rfl
  | p :: W => by
    have ih := valD_embZ s k W
    unfold valD embZ at ih ⊢
    rw [List.map_cons, List.find?_cons, List.find?_cons]
    by_cases q : p.1 = k
    · rw [decide_eq_true (inl_eq.mpr q), decide_eq_true q]
      rfl
    · rw [decide_eq_false (fun z => q (inl_eq.mp z)), decide_eq_false q]
      exact ih
theorem findZ {W : List Wz} (hn : (W.map (·.1)).Nodup) {i : Nat} (hi : i < W.length) : (W.find? fun p => decide (p.1 = W[i].1)) = some W[i] := by
  refine List.find?_eq_some_iff_getElem.mpr ⟨by simp, i, hi, rfl, fun j hj => ?_⟩
  have := List.pairwise_iff_getElem.mp hn j i (by rw [List.length_map]; omega) (by rw [List.length_map]; omega) hj
  rw [List.getElem_map, List.getElem_map] at this
  simp [this]
theorem findZ_none {W : List Wz} {k : Nat} (h : k ∉ W.map (·.1)) : (W.find? fun p => decide (p.1 = k)) = none := List.find?_eq_none.mpr fun p hp => by
  simp
  intro e
  exact h (List.mem_map.mpr ⟨p, hp, e⟩)
theorem putZ {s : Nat} {W : List Wz} {k : Nat} {t : List Nat} (h : k ∉ W.map (·.1)) : putD (embZ s W) (Sum.inl (k : Int)) (.lst (natL (s :: t))) = embZ s (W ++ [(k, t)]) := by
  have : ¬ ((embZ s W).any fun x => decide (x.1 = (Sum.inl (k : Int) : Key))) = true := fun z => by
    obtain ⟨y, hy, e⟩ := List.any_eq_true.mp z
    obtain ⟨p, hp, rfl⟩ := List.mem_map.mp hy
    exact h (List.mem_map.mpr ⟨p, hp, inl_eq.mp (of_decide_eq_true e)⟩)
  unfold putD
  rw [if_neg this]
  simp [embZ]
theorem inK_Z {s n k : Nat} {W : List Wz} {S : Store} (hn : S[n]? = some (.dct (embZ s W))) : dInK true (.int (k : Int)) (.cell n) S = .ok (.bl (!decide (k ∈ W.map (·.1)))) S := by
  have ck : cellK (.cell n) S = some (n, embZ s W) := by simp only [cellK, hn]
  simp only [dInK, ck, keyD, valD_embZ]
  congr 2
  by_cases q : k ∈ W.map (·.1)
  · obtain ⟨p, hp, e⟩ := List.mem_map.mp q
    have : (W.find? fun p => decide (p.1 = k)).isSome = true := by
      rw [List.find?_isSome]
      exact ⟨p, hp, by simpa using e⟩
    rw [decide_eq_true q, Option.isSome_map, this]
    rfl
  · rw [findZ_none q, decide_eq_false q]
    rfl
structure RdI (m : Nat) (rs : List Ro) (s : Nat) (W : List Wz) (at' : Nat) : Prop where
  nd : (W.map (·.1)).Nodup
  lt : ∀ p ∈ W, p.1 < m
  hd : W[0]? = some (s, [])
  pr : ∀ (i : Nat) (h : i < W.length), WayC rs s W[i].2 ∧ lastW s W[i].2 = W[i].1 ∧ W[i].2.length ≤ i
  cl : ∀ (i : Nat) (h : i < W.length), i < at' → ∀ z ∈ rs, (z.1 = W[i].1 → z.2.1 ∈ W.map (·.1)) ∧ (z.2.1 = W[i].1 → z.1 ∈ W.map (·.1))
theorem RdI.more {m : Nat} {rs : List Ro} {s : Nat} {W : List Wz} {a o : Nat} (h : RdI m rs s W a) (ha : a < W.length) (ho : (getN (near rs W[a].1) o).isSome = true) (hlt : o < m) (hn : o ∉ W.map (·.1)) : RdI m rs s (W ++ [(o, W[a].2 ++ [o])]) a := by
  obtain ⟨p1, p2, p3⟩ := h.pr a ha
  refine ⟨?_, fun p hp => ?_, ?_, fun i hi => ?_, fun i hi h1 z hz => ?_⟩
  · rw [List.map_append]
    exact List.nodup_append.mpr ⟨h.nd, by simp, fun x hx y hy => by simp at hy; subst hy; exact fun z => hn (z ▸ hx)⟩
  · rcases List.mem_append.mp hp with w | w
    · exact h.lt p w
    · rw [List.mem_singleton.mp w]; exact hlt
  · rw [List.getElem?_append_left (by omega)]; exact h.hd
  · by_cases q : i < W.length
    · rw [List.getElem_append_left q]; exact h.pr i q
    · have : i = W.length := by rw [List.length_append, List.length_singleton] at hi; omega
      subst this
      rw [List.getElem_append_right (by omega)]
      simp only [Nat.sub_self, List.getElem_cons_zero]
      exact ⟨p1.snoc (by rw [p2]; exact ho), lastW_snoc _ _ _, by rw [List.length_append, List.length_singleton]; omega⟩
  · have q : i < W.length := by omega
    rw [List.getElem_append_left q, List.map_append]
    obtain ⟨h2, h3⟩ := h.cl i q h1 z hz
    exact ⟨fun e => List.mem_append_left _ (h2 e), fun e => List.mem_append_left _ (h3 e)⟩
abbrev ERo (m : Nat) (rs : List Ro) (s g : Nat) (r : List (Option D)) : Dv.Env := some (wbD m rs) :: some (.int (s : Int)) :: some (.int (g : Int)) :: r
theorem law_road_ok {m : Nat} {rs : List Ro} (h : WebOk m rs) (s g : Nat) (hs : s < m) (hg : g < m) (S : Store) (hS : (S.all fun c => c.under S.length) = true) : Ens (F__law_road [wbD m rs, .int (s : Int), .int (g : Int)] S) fun d S' => S' = S ∧ ∃ t : List Nat, d = .lst (natL (s :: t)) ∧ WayC rs s t ∧ lastW s t = g ∧ t.length ≤ 60 := by
  have m60 := h.m60
  have m1 := h.m1
  have i1 : ∀ S, dIx (wbD m rs) (.int 1) S = .ok (.lst (rs.map roD)) S := fun S => by unfold wbD; simp
  refine ens_fn rfl ?_
  unfold b__law_road
  simp only [List.map_cons, List.map_nil, List.replicate, List.cons_append, List.nil_append]
  refine ens_sq (fun e S5 => S5 = S ++ [.dct (embZ s [(s, [])])] ∧ e = ERo m rs s g [some (.cell S.length), none, none, none, none, none, none, none]) (fun R hR => ?_) ?_
  · have c0 : (S ++ [Cn.dct []])[S.length]? = some (.dct []) := app_at0 rfl
    have s0 : (S ++ [Cn.dct []]).set S.length (.dct [((Sum.inl (s : Int) : Key), D.lst [.int (s : Int)])]) = S ++ [.dct (embZ s [(s, [])])] := app_set0 rfl
    simp only [ySet_app, xDct1_app, xLst_app, xCons_app, xNil_app, xVar_app, List.getElem?_cons_zero, List.getElem?_cons_succ, Res.bind_ok, List.length_cons, List.length_nil, if_pos (show 0 + 1 ≤ 1000 by decide), mkF_app, keyD, c0, s0, enso_out, ens_ok, enso_nx, List.set_cons_succ, List.set_cons_zero]
    exact hR _ _ ⟨rfl, rfl⟩
  rintro e S5 ⟨rfl, rfl⟩
  refine ens_sq (fun e S5 => S5 = S ++ [.dct (embZ s [(s, [])]), .lst (natL [s])] ∧ e = ERo m rs s g [some (.cell S.length), some (.cell (S.length + 1)), none, none, none, none, none, none]) (fun R hR => ?_) ?_
  · simp
    exact hR _ _ ⟨rfl, rfl⟩
  rintro e S5 ⟨rfl, rfl⟩
  refine ens_sq (fun e S5 => S5 = S ++ [.dct (embZ s [(s, [])]), .lst (natL [s])] ∧ e = ERo m rs s g [some (.cell S.length), some (.cell (S.length + 1)), some (.int ((0 : Nat) : Int)), none, none, none, none, none]) (fun R hR => ?_) ?_
  · simp
    exact hR _ _ ⟨rfl, rfl⟩
  rintro e S5 ⟨rfl, rfl⟩
  refine ens_sq (fun e S5 => ∃ (W : List Wz) (a : Nat) (r : List (Option D)), RdI m rs s W a ∧ g ∈ W.map (·.1) ∧ S5 = S ++ [.dct (embZ s W), .lst (natL (W.map (·.1)))] ∧ e = ERo m rs s g (some (.cell S.length) :: r)) (fun R1 hR1 => ?_) ?_
  · refine ens_while (fun e S5 => ∃ (W : List Wz) (a : Nat) (v6 v7 v8 v9 v10 : Option D), a ≤ W.length ∧ RdI m rs s W a ∧ S5 = S ++ [.dct (embZ s W), .lst (natL (W.map (·.1)))] ∧ e = ERo m rs s g [some (.cell S.length), some (.cell (S.length + 1)), some (.int (a : Int)), v6, v7, v8, v9, v10]) (fun e S' => match e[5]? with | some (some (D.int a)) => 100 - a.toNat | _ => 0) ?_ ⟨[(s, [])], 0, none, none, none, none, none, by simp, ⟨by simp, by simpa using hs, rfl, fun i hi => by
        have : i = 0 := by simp at hi; omega
        subst this
        exact ⟨.nil, rfl, by simp⟩, fun i hi h1 => by omega⟩, rfl, rfl⟩
    rintro e S5 ⟨W, a, v6, v7, v8, v9, v10, ha, hI, rfl, rfl⟩
    have rl := pigeon m _ hI.nd (fun x hx => by
      obtain ⟨p, hp, rfl⟩ := List.mem_map.mp hx
      exact hI.lt p hp)
    rw [List.length_map] at rl
    have c0 : ∀ x y, (S ++ [Cn.dct x, .lst y])[S.length]? = some (.dct x) := fun x y => app_at0 rfl
    have c1 : ∀ x y, (S ++ [Cn.dct x, .lst y])[S.length + 1]? = some (.lst y) := fun x y => app_at1 rfl
    have s0 : ∀ x y z, (S ++ [Cn.dct x, .lst y]).set S.length z = S ++ [z, .lst y] := fun x y z => app_set0 rfl
    have s1 : ∀ x y z, (S ++ [Cn.dct x, .lst y]).set (S.length + 1) z = S ++ [Cn.dct x, z] := fun x y z => app_set1 rfl
    have ixr : ∀ (W : List Wz) (a : Nat) (h : a < W.length), dIx (.cell (S.length + 1)) (.int (a : Int)) (S ++ [Cn.dct (embZ s W), .lst (natL (W.map (·.1)))]) = .ok (.int (W[a].1 : Int)) (S ++ [Cn.dct (embZ s W), .lst (natL (W.map (·.1)))]) := fun W a h => by
      have := cell_nat' (S := S ++ [Cn.dct (embZ s W), .lst (natL (W.map (·.1)))]) (n := S.length + 1) (dn := W.map (·.1)) (c1 _ _) (k := a) (by rw [List.length_map]; exact h)
      rw [List.getElem_map] at this
      exact this
    simp only [ERo, xIsT_app, xOp_app, xVar_app, List.getElem?_cons_zero, List.getElem?_cons_succ, Res.bind_ok, inK_Z (c0 _ _), ens_ok]
    refine ⟨fun hin => ?_, fun hnin => ?_⟩
    · have hgn : g ∉ W.map (·.1) := by simpa using hin
      have hlt : a < W.length := by
        by_cases q : a < W.length
        · exact q
        · have ea : a = W.length := by omega
          subst ea
          have step : ∀ z ∈ rs, (z.1 ∈ W.map (·.1) ↔ z.2.1 ∈ W.map (·.1)) := fun z hz => by
            constructor
            · intro q
              obtain ⟨p, hp, e⟩ := List.mem_map.mp q
              obtain ⟨i, hi, e2⟩ := List.getElem_of_mem hp
              exact ((hI.cl i hi hi) z hz).1 (by rw [e2]; exact e.symm)
            · intro q
              obtain ⟨p, hp, e⟩ := List.mem_map.mp q
              obtain ⟨i, hi, e2⟩ := List.getElem_of_mem hp
              exact ((hI.cl i hi hi) z hz).2 (by rw [e2]; exact e.symm)
          have e0 : s ∈ W.map (·.1) := List.mem_map.mpr ⟨(s, []), List.mem_of_getElem? hI.hd, rfl⟩
          have z0 : 0 ∈ W.map (·.1) := by
            by_cases q0 : 0 ∈ W.map (·.1)
            · exact q0
            · exact absurd e0 (h.conn (fun x => x ∉ W.map (·.1)) q0 (fun z hz => not_congr (step z hz)) s hs)
          exact absurd (h.conn (fun x => x ∈ W.map (·.1)) z0 step g hg) hgn
      refine ens_sq (fun e S6 => ∃ (W' : List Wz) (v6 v7 v8 v9 v10 : Option D), RdI m rs s W' (a + 1) ∧ a + 1 ≤ W'.length ∧ S6 = S ++ [.dct (embZ s W'), .lst (natL (W'.map (·.1)))] ∧ e = ERo m rs s g [some (.cell S.length), some (.cell (S.length + 1)), some (.int (a : Int)), v6, v7, v8, v9, v10]) (fun R2 hR2 => ?_) ?_
      · simp only [ERo, yFor_app, iSrc_app, xOp_app, xC_app, xVar_app, List.getElem?_cons_zero, List.getElem?_cons_succ, Res.bind_ok, i1, srcL_lst, enso_out, ens_ok]
        refine ens_fr (fun j e S6 => ∃ (W' : List Wz) (v6 v7 v8 v9 v10 : Option D) (ha' : a < W'.length), W'[a] = W[a] ∧ RdI m rs s W' a ∧ (∀ z ∈ rs.take j, (z.1 = W[a].1 → z.2.1 ∈ W'.map (·.1)) ∧ (z.2.1 = W[a].1 → z.1 ∈ W'.map (·.1))) ∧ S6 = S ++ [.dct (embZ s W'), .lst (natL (W'.map (·.1)))] ∧ e = ERo m rs s g [some (.cell S.length), some (.cell (S.length + 1)), some (.int (a : Int)), v6, v7, v8, v9, v10]) ⟨W, v6, v7, v8, v9, v10, hlt, rfl, hI, by simp, rfl, rfl⟩ ?_ ?_
        · rintro j d e S6 R3 hd ⟨W', v6, v7, v8, v9, v10, ha', er, hI', h3, rfl, rfl⟩ hR3
          rw [List.getElem?_map] at hd
          have hj : j < rs.length := by
            by_cases q : j < rs.length
            · exact q
            · rw [List.getElem?_eq_none (by omega)] at hd; cases hd
          rw [List.getElem?_eq_getElem hj] at hd
          cases hd
          have hz := List.getElem_mem (l := rs) hj
          have zok := h.ok _ hz
          have nr := near_of_road hz
          have tk : rs.take (j + 1) = rs.take j ++ [rs[j]] := List.take_succ_eq_append_getElem hj
          rw [tk] at hR3
          generalize rs[j] = z at *
          simp only [ERo, roD, gT_app, gsCons_app, gsNil_app, gN_app, Out.seq_nx, List.length_cons, List.length_nil, if_pos, enso_nx, List.set_cons_succ, List.set_cons_zero]
          refine enso_forlst ?_
          simp only [xCons_app, xTup_app, xNil_app, xVar_app, List.getElem?_cons_zero, List.getElem?_cons_succ, Res.bind_ok, List.length_cons, List.length_nil, if_pos (show 0 + 1 + 1 ≤ 1000 by decide), ens_ok]
          refine ⟨by decide, fun items hit' => ?_⟩
          have hit := hit'.symm
          refine ens_fr (fun i e S7 => ∃ (W'' : List Wz) (v9 v10 : Option D) (ha'' : a < W''.length), W''[a] = W[a] ∧ RdI m rs s W'' a ∧ (∀ x ∈ W'.map (·.1), x ∈ W''.map (·.1)) ∧ (1 ≤ i → z.1 = W[a].1 → z.2.1 ∈ W''.map (·.1)) ∧ (2 ≤ i → z.2.1 = W[a].1 → z.1 ∈ W''.map (·.1)) ∧ S7 = S ++ [.dct (embZ s W''), .lst (natL (W''.map (·.1)))] ∧ e = ERo m rs s g [some (.cell S.length), some (.cell (S.length + 1)), some (.int (a : Int)), some (.int (z.1 : Int)), some (.int (z.2.1 : Int)), some (.int z.2.2), v9, v10]) ⟨W', v9, v10, ha', er, hI', fun x hx => hx, fun h => by omega, fun h => by omega, rfl, rfl⟩ ?_ ?_
          · rintro i d e S7 R4 hd ⟨W'', v9, v10, ha'', er', hI'', h4, h5, h6, rfl, rfl⟩ hR4
            rw [← hit] at hd
            obtain ⟨u, v, rfl, hu, hv, nuv, hcase⟩ : ∃ u v : Nat, d = .tup [.int (u : Int), .int (v : Int)] ∧ u < m ∧ v < m ∧ (getN (near rs u) v).isSome = true ∧ ((i = 0 ∧ u = z.1 ∧ v = z.2.1) ∨ (i = 1 ∧ u = z.2.1 ∧ v = z.1)) := by
              have hi2 : i < 2 := by
                have := (List.getElem?_eq_some_iff.mp hd).1
                simpa using this
              have : i = 0 ∨ i = 1 := by omega
              rcases this with e | e
              · subst e
                simp at hd
                obtain ⟨w, hw⟩ := nr.1
                exact ⟨z.1, z.2.1, hd.symm, zok.1, zok.2.1, by rw [hw]; rfl, .inl ⟨rfl, rfl, rfl⟩⟩
              · subst e
                simp at hd
                obtain ⟨w, hw⟩ := nr.2
                exact ⟨z.2.1, z.1, hd.symm, zok.2.1, zok.1, by rw [hw]; rfl, .inr ⟨rfl, rfl, rfl⟩⟩
            have rl' := pigeon m _ hI''.nd (fun x hx => by
              obtain ⟨p, hp, rfl⟩ := List.mem_map.mp hx
              exact hI''.lt p hp)
            rw [List.length_map] at rl'
            have done : ∀ (W3 : List Wz) (ha3 : a < W3.length), W3[a] = W[a] → RdI m rs s W3 a → (∀ x ∈ W''.map (·.1), x ∈ W3.map (·.1)) → (u = W[a].1 → v ∈ W3.map (·.1)) → R4 (ERo m rs s g [some (.cell S.length), some (.cell (S.length + 1)), some (.int (a : Int)), some (.int (z.1 : Int)), some (.int (z.2.1 : Int)), some (.int z.2.2), some (.int (u : Int)), some (.int (v : Int))]) (S ++ [.dct (embZ s W3), .lst (natL (W3.map (·.1)))]) := fun W3 ha3 e3 hI3 sub hin3 => by
              refine hR4 _ _ ⟨W3, _, _, ha3, e3, hI3, fun x hx => sub x (h4 x hx), fun hi q => ?_, fun hi q => ?_, rfl, rfl⟩
              · rcases hcase with ⟨c1, c2, c3⟩ | ⟨c1, c2, c3⟩
                · rw [← c3]; exact hin3 (by rw [c2]; exact q)
                · exact sub _ (h5 (by omega) q)
              · rcases hcase with ⟨c1, c2, c3⟩ | ⟨c1, c2, c3⟩
                · omega
                · rw [← c3]; exact hin3 (by rw [c2]; exact q)
            simp only [ERo, gT_app, gsCons_app, gsNil_app, gN_app, Out.seq_nx, List.length_cons, List.length_nil, if_pos, enso_nx, List.set_cons_succ, List.set_cons_zero, yIf_app, xAnd_app, xIsT_app, xOp_app, xVar_app, List.getElem?_cons_zero, List.getElem?_cons_succ, Res.bind_ok, ixr W'' a ha'', dEq_int]
            by_cases q1 : u = W[a].1
            · rw [if_pos (by rw [er', q1]; simp)]
              simp only [inK_Z (c0 _ _), Res.bind_ok, enso_out, ens_ok]
              by_cases q2 : v ∈ W''.map (·.1)
              · rw [if_neg (by rw [decide_eq_true q2]; decide)]
                simp only [yNil_app, enso_nx]
                exact done W'' ha'' er' hI'' (fun x hx => hx) (fun _ => q2)
              · rw [if_pos (by rw [decide_eq_false q2]; rfl)]
                have hI3 := hI''.more ha'' (o := v) (by rw [er', ← q1]; exact nuv) hv q2
                rw [er'] at hI3
                have ck : cellK (.cell S.length) (S ++ [.dct (embZ s W''), .lst (natL (W''.map (·.1)))]) = some (S.length, embZ s W'') := by simp only [cellK, c0]
                have fz := findZ hI''.nd ha''
                rw [er', ← q1] at fz
                have pl := (hI''.pr a ha'').2.2
                rw [er'] at pl
                have dk : dKx (.cell S.length) (.int (u : Int)) (S ++ [.dct (embZ s W''), .lst (natL (W''.map (·.1)))]) = .ok (.lst (natL (s :: W[a].2))) (S ++ [.dct (embZ s W''), .lst (natL (W''.map (·.1)))]) := by
                  simp only [dKx, ck, keyD, valD_embZ, fz, Option.map_some]
                have ad : dAdd mkF (.lst (natL (s :: W[a].2))) (.lst [D.int (v : Int)]) (S ++ [.dct (embZ s W''), .lst (natL (W''.map (·.1)))]) = .ok (.lst (natL (s :: (W[a].2 ++ [v])))) (S ++ [.dct (embZ s W''), .lst (natL (W''.map (·.1)))]) := by
                  rw [dl_add _ _ _ (by simp [natL]; omega)]
                  simp [natL]
                have el : (embZ s W'').length < 16000000 := by unfold embZ; rw [List.length_map]; omega
                have al : (natL (W''.map (·.1))).length < 16000000 := by unfold natL; rw [List.length_map, List.length_map]; omega
                simp only [ySeq_app, ySub_app, xOp_app, xLst_app, xCons_app, xNil_app, xVar_app, List.getElem?_cons_zero, List.getElem?_cons_succ, Res.bind_ok, dk, List.length_cons, List.length_nil, if_pos (show 0 + 1 ≤ 1000 by decide), mkF_app, ad, setK, ck, keyD, if_pos el, putZ q2, s0, Res.out_ok, Out.seq_nx, yExpr_app, xMt_app, isT, c1, beq_self_eq_true, if_true, mAppend, cellL, if_pos al, s1, enso_nx]
                have nw : natL (W''.map (·.1)) ++ [D.int (v : Int)] = natL ((W'' ++ [(v, W[a].2 ++ [v])]).map (·.1)) := by simp [natL]
                rw [nw]
                exact done (W'' ++ [(v, W[a].2 ++ [v])]) (by simp; omega) (by rw [List.getElem_append_left ha'']; exact er') hI3 (fun x hx => by rw [List.map_append]; exact List.mem_append_left _ hx) (fun _ => by simp)
            · rw [if_neg (by rw [er']; simp; omega)]
              simp only [enso_out, ens_ok, Bool.false_eq_true, if_false, yNil_app, enso_nx]
              exact done W'' ha'' er' hI'' (fun x hx => hx) (fun q => absurd q q1)
          · rintro e S7 ⟨W'', v9, v10, ha'', er', hI'', h4, h5, h6, rfl, rfl⟩
            have il : items.length = 2 := by rw [← hit]; rfl
            rw [il] at h5 h6
            refine hR3 _ _ ⟨W'', _, _, _, _, _, ha'', er', hI'', fun y hy => ?_, rfl, rfl⟩
            rcases List.mem_append.mp hy with w | w
            · exact ⟨fun q => h4 _ ((h3 y w).1 q), fun q => h4 _ ((h3 y w).2 q)⟩
            · rw [List.mem_singleton.mp w]
              exact ⟨h5 (by omega), h6 (by omega)⟩
        · rintro e S6 ⟨W', v6, v7, v8, v9, v10, ha', er, hI', h3, rfl, rfl⟩
          rw [List.length_map, List.take_length] at h3
          refine hR2 _ _ ⟨W', _, _, _, _, _, ⟨hI'.nd, hI'.lt, hI'.hd, hI'.pr, fun i hi h1 => ?_⟩, by omega, rfl, rfl⟩
          by_cases q : i < a
          · exact hI'.cl i hi q
          · have : i = a := by omega
            subst this
            rw [er]
            exact h3
      rintro e S6 ⟨W', v6, v7, v8, v9, v10, hI', hl', rfl, rfl⟩
      simp only [ERo, ySet_app, xOp_app, xC_app, xVar_app, List.getElem?_cons_zero, List.getElem?_cons_succ, Res.bind_ok, dAdd_int, enso_out, ens_ok, enso_nx, List.set_cons_succ, List.set_cons_zero]
      exact ⟨⟨W', a + 1, _, _, _, _, _, hl', hI', rfl, rfl⟩, by omega⟩
    · exact hR1 _ _ ⟨W, a, _, hI, by simpa using hnin, rfl, rfl⟩
  rintro e S5 ⟨W, a, r, hI, hgm, rfl, rfl⟩
  obtain ⟨p, hp, e1⟩ := List.mem_map.mp hgm
  obtain ⟨i, hi, e2⟩ := List.getElem_of_mem hp
  have fz := findZ hI.nd hi
  rw [e2, e1] at fz
  obtain ⟨w1, w2, w3⟩ := hI.pr i hi
  have rl := pigeon m _ hI.nd (fun x hx => by
    obtain ⟨p, hp, rfl⟩ := List.mem_map.mp hx
    exact hI.lt p hp)
  rw [List.length_map] at rl
  rw [e2] at w1 w2 w3
  rw [e1] at w2
  have c0 : (S ++ [Cn.dct (embZ s W), .lst (natL (W.map (·.1)))])[S.length]? = some (.dct (embZ s W)) := app_at0 rfl
  have ck : cellK (.cell S.length) (S ++ [.dct (embZ s W), .lst (natL (W.map (·.1)))]) = some (S.length, embZ s W) := by simp only [cellK, c0]
  simp only [ERo, yRet_app, xOp_app, xVar_app, List.getElem?_cons_zero, List.getElem?_cons_succ, Res.bind_ok, dKx, ck, keyD, valD_embZ, fz, Option.map_some, enso_out, ens_ok, enso_rt]
  rw [fin_cut rfl hS (under_nats (s :: p.2)), ens_ok]
  exact ⟨rfl, p.2, rfl, w1, w2, by omega⟩
/-! a walk drawn from a purse -/
theorem nd_natL (l : List Nat) (x : Nat) (S : Store) : dNotIn (.int (x : Int)) (.lst (natL l)) S = .ok (.bl (!decide (x ∈ l))) S := by
  have g : getI (.lst (natL l)) S = some (natL l) := rfl
  unfold dNotIn dInX
  rw [g]
  simp only [inFl_nat]
  rw [if_pos ⟨rfl, all_flat l⟩]
  rfl
theorem ne_nilL (l : List Nat) (S : Store) : dNe (.lst (natL l)) (.lst []) S = .ok (.bl (!decide (l = []))) S := by
  have e1 : toP S 60 (.lst (natL l)) = some (.list (l.map fun (k : Nat) => PyData.int (k : Int))) := by simp [toP, natL, toPs_nats]
  have e2 : toP S 60 (.lst []) = some (.list []) := by simp [toP, toPs]
  rw [dNe_of e1 e2]
  cases l <;> simp [PyData.eqv, PyData.eqvAll]
theorem extP_prior (P : List Pa) : ∀ path : List Nat, priorF (extP P path) = lastW (priorF P) path
  | path => by
    have go : ∀ (path : List Nat) (P : List Pa), priorF (path.foldl (fun P b => P ++ [(priorF P, b)]) P) = lastW (priorF P) path := by
      intro path
      induction path with
      | nil => intro P; rfl
      | cons b path ih =>
        intro P
        rw [List.foldl_cons, ih, priorF_snoc]
        unfold lastW
        rw [List.getLast?_cons]
        rfl
    exact go path P
theorem lastW_mem {s g : Nat} {t : List Nat} (h : lastW s t = g) (hne : g ≠ s) : g ∈ t := by
  unfold lastW at h
  cases q : t.getLast? with
  | none => rw [q] at h; exact absurd h.symm hne
  | some x =>
    rw [q] at h
    have : x = g := h
    subst this
    exact List.mem_of_getLast? q
structure WlQ (m : Nat) (rs : List Ro) (W : List Pa) : Prop where
  plan : PlanI true rs W
  ne : W ≠ []
  all : ∀ k < m, k ∈ comeF true W
  few : W.length ≤ 3700
abbrev EWk (n : Nat) (m : Nat) (rs : List Ro) (r : List (Option D)) : Dv.Env := some (.cell n) :: some (wbD m rs) :: r
theorem law_walk78_ok {L n mm : Nat} {T : Int} {P R : Store} (h : Pu L n mm T P) (hT : T ≤ 100000) {m : Nat} {rs : List Ro} (hw : WebOk m rs) (hR : ∀ c ∈ R, ∀ k, c.under k = true) : Ens (F__law_walk [.cell n, wbD m rs] (P ++ R)) fun d S' => ∃ (P' : Store) (W : List Pa), S' = P' ++ R ∧ Pu L n mm (T + 100) P' ∧ d = .lst (W.map (thD true)) ∧ WlQ m rs W := by
  have m60 := hw.m60
  have m1 := hw.m1
  refine ens_fn rfl ?_
  unfold b__law_walk
  simp only [List.map_cons, List.map_nil, List.replicate, List.cons_append, List.nil_append]
  have und : ∀ {P' : Store} {T' : Int}, Pu L n mm T' P' → ((P' ++ R).all fun c => c.under (P' ++ R).length) = true := fun {P' T'} h' => by
    have h1 := h'.2.1.2
    have h2 := h'.1
    rw [List.all_append, Bool.and_eq_true]
    rw [List.all_eq_true] at h1
    exact ⟨List.all_eq_true.mpr fun x hx => cn_under_mono (by rw [List.length_append]; omega) (h1 x hx), List.all_eq_true.mpr fun x hx => hR x hx _⟩
  have p00 : PlanI true rs [(0, 0)] := PlanI.nil.snoc (P := []) (p := (0, 0)) (by unfold GoOn; rw [if_pos rfl]; exact ⟨rfl, by rw [if_pos (by simp [comeF])]⟩)
  refine ens_sq (fun e S' => S' = P ++ R ∧ e = EWk n m rs [some (.lst (([(0, 0)] : List Pa).map (thD true))), none, none]) (fun R0 hR0 => ?_) ?_
  · simp
    exact hR0 _ _ ⟨rfl, rfl⟩
  rintro e S' ⟨rfl, rfl⟩
  have i0 : ∀ S, dIx (wbD m rs) (.int 0) S = .ok (.int (m : Int)) S := fun S => by unfold wbD; simp
  refine ens_sq (fun e S' => S' = P ++ R ∧ e = EWk n m rs [some (.lst (([(0, 0)] : List Pa).map (thD true))), some (.lst (natL (List.range' 1 (m - 1)))), none]) (fun R0 hR0 => ?_) ?_
  · have c : (0 : Int) ≤ 1 ∧ (m : Int) ≤ 16777216 ∧ (1 : Int) ≤ 16777216 ∧ (0 : Int) ≤ (m : Int) := by omega
    have tn : ((m : Int) - 1).toNat = m - 1 := by omega
    have io : irange 1 (m - 1) = natL (List.range' 1 (m - 1)) := by
      unfold irange natL
      rw [List.range'_eq_map_range, List.map_map]
      apply List.map_congr_left
      intro i _
      show D.int (1 + (i : Int)) = D.int ((1 + i : Nat) : Int)
      congr 1
    simp only [EWk, ySet_app, xLstRg2, xOp_app, xC_app, xVar_app, List.getElem?_cons_zero, List.getElem?_cons_succ, Res.bind_ok, i0, if_pos c, tn, io, mkF_app, enso_out, ens_ok, enso_nx, List.set_cons_succ, List.set_cons_zero]
    exact hR0 _ _ ⟨rfl, rfl⟩
  rintro e S' ⟨rfl, rfl⟩
  refine ens_sq (fun e S' => ∃ (P' : Store) (W : List Pa) (r : List (Option D)), WlQ m rs W ∧ Pu L n mm (T + 100) P' ∧ S' = P' ++ R ∧ e = EWk n m rs (some (.lst (W.map (thD true))) :: r)) (fun R1 hR1 => ?_) ?_
  · refine ens_while (fun e S' => ∃ (P' : Store) (W : List Pa) (lf : List Nat) (v4 : Option D), PlanI true rs W ∧ W ≠ [] ∧ (∀ x, x ∈ lf ↔ (1 ≤ x ∧ x < m ∧ x ∉ W.map (·.2))) ∧ 0 ∈ W.map (·.2) ∧ lf.length + 1 ≤ m ∧ W.length ≤ 1 + 60 * (60 - lf.length) ∧ Pu L n mm (T + (60 - lf.length)) P' ∧ S' = P' ++ R ∧ e = EWk n m rs [some (.lst (W.map (thD true))), some (.lst (natL lf)), v4]) (fun e S' => match e[3]? with | some (some (D.lst l)) => l.length | _ => 0) ?_ ⟨P, [(0, 0)], List.range' 1 (m - 1), none, p00, by simp, fun x => by
        rw [List.mem_range'_1]
        simp
        omega, by simp, by simp; omega, by simp, h.mono (by rw [List.length_range']; omega), rfl, rfl⟩
    rintro e S' ⟨P', W, lf, v4, hp, hne, hlf, hz, hl1, hl2, hP, rfl, rfl⟩
    simp only [EWk, xIsT_app, xOp_app, xLst_app, xNil_app, xVar_app, List.getElem?_cons_zero, List.getElem?_cons_succ, Res.bind_ok, List.length_nil, if_pos (show 0 ≤ 1000 by decide), mkF_app, ne_nilL, ens_ok]
    refine ⟨fun hq => ?_, fun hq => ?_⟩
    · have lne : lf ≠ [] := by simpa using hq
      have lpos := List.length_pos_iff.mpr lne
      have pmem : priorF W ∈ W.map (·.2) ∧ priorF W < m := by
        rcases List.eq_nil_or_concat W with e | ⟨Q, p, e⟩
        · exact absurd e hne
        · subst e
          rw [List.concat_eq_append, priorF_snoc]
          exact ⟨by simp, (hp.lt hw.toWebP p (by simp)).2⟩
      have ixl : ∀ S, dIx (.lst (W.map (thD true))) (.int (-1)) S = .ok (.int (priorF W : Int)) S := fun S => by
        simp only [dIx, getQ_lst, last_ix hne]
      have ll : (natL lf).length = lf.length := by unfold natL; simp
      refine ens_sq (fun e S' => ∃ (P2 : Store) (W' : List Pa) (g : Nat), PlanI true rs W' ∧ W' ≠ [] ∧ (∀ x ∈ W.map (·.2), x ∈ W'.map (·.2)) ∧ g ∈ lf ∧ g ∈ W'.map (·.2) ∧ W'.length ≤ W.length + 60 ∧ Pu L n mm (T + (60 - lf.length) + 1) P2 ∧ S' = P2 ++ R ∧ e = EWk n m rs [some (.lst (W'.map (thD true))), some (.lst (natL lf)), v4]) (fun R2 hR2 => ?_) ?_
      · simp only [EWk, ySet_app, xOp_app, xUn_app, xSl_app, oSome_app, oNone_app, xFn_app, xCons_app, xNil_app, xC_app, xVar_app, List.getElem?_cons_zero, List.getElem?_cons_succ, Res.bind_ok, dNeg_ok, ixl, bLen_lst, ll, enso_out, ens_bind]
        refine (draw_ok (R := R) hP (k := (lf.length : Int)) (by omega) (by omega) (by omega)).imp ?_
        rintro d S' ⟨P2, r, rfl, h2, rfl, r0, r1⟩
        obtain ⟨j, rfl⟩ : ∃ j : Nat, r = (j : Int) := ⟨_, (Int.toNat_of_nonneg r0).symm⟩
        have hj : j < lf.length := by omega
        have ix := dl_ix (l := natL lf) (i := j) (by rw [ll]; exact hj) (P2 ++ R)
        unfold natL at ix
        rw [List.getElem_map] at ix
        have gm := List.getElem_mem hj
        have gok := (hlf lf[j]).mp gm
        generalize lf[j] = g at *
        simp only [natL, ix, ens_ok]
        refine (law_road_ok hw (priorF W) g pmem.2 gok.2.1 (P2 ++ R) (und h2)).imp ?_
        rintro d S' ⟨rfl, t, rfl, t1, t2, t3⟩
        have st : slD mkF (.lst (natL (priorF W :: t))) (some 1) none (P2 ++ R) = .ok (.lst (natL t)) (P2 ++ R) := by
          have := dl_from (natL (priorF W :: t)) 1 (P2 ++ R)
          rw [show ((1 : Nat) : Int) = 1 from rfl] at this
          rw [this]
          simp [natL]
        obtain ⟨q1, q2, q3, q4, q5, q6⟩ := extP_ok t W hp hne t1
        have wl := List.length_map (f := thD true) (as := W)
        have ad : dAdd mkF (.lst (W.map (thD true))) (.lst (natL t)) (P2 ++ R) = .ok (.lst ((extP W t).map (thD true))) (P2 ++ R) := by
          rw [dl_add _ _ _ (by simp [natL]; omega), q2]
        have gne : g ≠ priorF W := fun z => gok.2.2 (by rw [z]; exact pmem.1)
        have mm2 : ∀ x, x ∈ comeF true (extP W t) ↔ x ∈ (extP W t).map (·.2) := fun x => by rw [comeF_walk, List.mem_map]
        have mm1 : ∀ x, x ∈ comeF true W ↔ x ∈ W.map (·.2) := fun x => by rw [comeF_walk, List.mem_map]
        simp only [natL] at st ad
        simp only [natL, st, ad, ens_ok, Res.bind_ok, enso_nx, List.set_cons_succ, List.set_cons_zero]
        exact hR2 _ _ ⟨P2, extP W t, g, q1, q3, fun x hx => (mm2 x).mp (q5 x ((mm1 x).mpr hx)), gm, (mm2 g).mp (q6 g (lastW_mem t2 gne)), by omega, h2, rfl, rfl⟩
      rintro e S' ⟨P2, W', g, w1, w2, w3, w4, w5, w6, h2, rfl, rfl⟩
      have hl : lcL (fun _ => True) (eN 4) (xIsT (xOp dNotIn (xVar 4) (xVar 2))) (xVar 4) (EWk n m rs [some (.lst (W'.map (thD true))), some (.lst (natL lf)), none]) (natL lf) [] (P2 ++ R) = .ok (natL (lf.filter fun x => !decide (x ∈ W'.map (·.2)))) (P2 ++ R) := by
        have go : ∀ (l acc : List Nat), l.length + acc.length ≤ 100 → lcL (fun _ => True) (eN 4) (xIsT (xOp dNotIn (xVar 4) (xVar 2))) (xVar 4) (EWk n m rs [some (.lst (W'.map (thD true))), some (.lst (natL lf)), none]) (natL l) (natL acc) (P2 ++ R) = .ok (natL (acc ++ l.filter fun x => !decide (x ∈ W'.map (·.2)))) (P2 ++ R) := by
          intro l
          induction l with
          | nil => intro acc _; simp [natL, lcL]
          | cons x l ih =>
            intro acc hlen
            rw [List.length_cons] at hlen
            show lcL (fun _ => True) (eN 4) (xIsT (xOp dNotIn (xVar 4) (xVar 2))) (xVar 4) _ (D.int (x : Int) :: natL l) (natL acc) (P2 ++ R) = _
            rw [lcL, if_pos trivial]
            simp only [EWk, eN_app, List.set_cons_succ, List.set_cons_zero, xIsT_app, xOp_app, xVar_app, List.getElem?_cons_zero, List.getElem?_cons_succ, Res.bind_ok]
            rw [walk_nats, nd_natL]
            simp only [Res.bind_ok]
            by_cases q : x ∈ W'.map (·.2)
            · have := ih acc (by omega)
              simp only [EWk, walk_nats] at this
              rw [List.filter_cons_of_neg (by simp only [decide_eq_true q]; decide)]
              simpa [decide_eq_true q] using this
            · have := ih (acc ++ [x]) (by rw [List.length_append, List.length_singleton]; omega)
              simp only [EWk, walk_nats] at this
              rw [List.filter_cons_of_pos (by simp only [decide_eq_false q]; rfl)]
              rw [List.append_assoc] at this
              have na : natL (acc ++ [x]) = natL acc ++ [D.int (x : Int)] := by simp [natL]
              rw [na] at this
              have al : (natL acc).length < 16000000 := by unfold natL; rw [List.length_map]; omega
              simp only [decide_eq_false q, Bool.not_false, if_pos al]
              exact this
        have := go lf [] (by simp; omega)
        simpa [natL] using this
      simp only [EWk, ySet_app, xLc_app, iSrc_app, xVar_app, List.getElem?_cons_zero, List.getElem?_cons_succ, Res.bind_ok, srcL_lst, wipeE_cons, wipeE_nil, List.set_cons_succ, List.set_cons_zero, hl, mkF_app, enso_out, ens_ok, enso_nx]
      have fl : (lf.filter fun x => !decide (x ∈ W'.map (·.2))).length < lf.length := List.length_filter_lt_length_iff_exists.mpr ⟨g, w4, by rw [decide_eq_true w5]; decide⟩
      refine ⟨⟨P2, W', lf.filter fun x => !decide (x ∈ W'.map (·.2)), v4, w1, w2, fun x => ?_, w3 0 hz, by omega, by omega, h2.mono (by omega), rfl, rfl⟩, ?_⟩
      · rw [List.mem_filter, hlf]
        constructor
        · rintro ⟨⟨q1, q2, q3⟩, q4⟩
          exact ⟨q1, q2, by simpa using q4⟩
        · rintro ⟨q1, q2, q3⟩
          exact ⟨⟨q1, q2, fun z => q3 (w3 x z)⟩, by rw [decide_eq_false q3]; rfl⟩
      · unfold natL
        simp only [List.length_map]
        exact fl
    · have le : lf = [] := by simpa using hq
      subst le
      refine hR1 _ _ ⟨P', W, _, ⟨hp, hne, fun k hk => ?_, by simp at hl2; omega⟩, hP.mono (by simp), rfl, rfl⟩
      rw [comeF_walk]
      have : k ∈ W.map (·.2) := by
        by_cases q : k ∈ W.map (·.2)
        · exact q
        · by_cases k0 : k = 0
          · subst k0; exact hz
          · exact absurd ((hlf k).mpr ⟨by omega, hk, q⟩) (by simp)
      exact List.mem_map.mp this
  rintro e S' ⟨P', W, r, hW, hP, rfl, rfl⟩
  have lP : P'.length = L := hP.1
  simp only [EWk, yRet_app, xVar_app, List.getElem?_cons_zero, List.getElem?_cons_succ, enso_out, ens_ok, enso_rt]
  have sl : (P ++ R).length = (P' ++ R).length := by rw [List.length_append, List.length_append, h.1, lP]
  rw [sl, fin_same, ens_ok]
  exact ⟨P', W, rfl, hP, rfl, hW⟩
theorem lo_ne {p q : Int} {S : Store} (h : q ≠ 0) : dNe (lo p q) (lo p q) S = .ok (.bl false) S := by rw [lo_dNe h h]; simp
/-! what is paid -/
theorem near_val {m : Nat} {rs : List Ro} (h : WebP m rs) {p o : Nat} {v : Int} (e : getN (near rs p) o = some v) : 1 ≤ v ∧ v ≤ 1000000 := by
  have go : ∀ (l : List Ro) (kv : List (Nat × Int)), (∀ o v, getN kv o = some v → 1 ≤ v ∧ v ≤ 1000000) → (∀ z ∈ l, z ∈ rs) → ∀ o v, getN (l.foldl (nearS p) kv) o = some v → 1 ≤ v ∧ v ≤ 1000000 := by
    intro l
    induction l with
    | nil => exact fun kv h _ => h
    | cons y l ih =>
      intro kv hk hs
      rw [List.foldl_cons]
      refine ih _ (fun o v q => ?_) (fun z hz => hs z (by simp [hz]))
      have yok := h.ok y (hs y (by simp))
      unfold nearS at q
      split at q
      · rw [getN_put] at q
        split at q
        · cases q
          cases hg : getN kv (y.1 + y.2.1 - p) with
          | none => simp only [Option.getD_none]; split <;> omega
          | some w =>
            have := hk _ _ hg
            simp only [Option.getD_some]
            split <;> omega
        · exact hk o v q
      · exact hk o v q
  exact go rs [] (fun o v q => by simp [getN] at q) (fun z hz => hz) o v e
theorem put_mem {kv : List (Nat × Int)} {k : Nat} {v : Int} {p : Nat × Int} (h : p ∈ putN kv k v) : (∃ q ∈ kv, q.2 = p.2) ∨ p.2 = v := by
  unfold putN at h
  split at h
  · obtain ⟨q, hq, rfl⟩ := List.mem_map.mp h
    by_cases c : q.1 = k
    · rw [if_pos c]; exact .inr rfl
    · rw [if_neg c]; exact .inl ⟨q, hq, rfl⟩
  · rcases List.mem_append.mp h with w | w
    · exact .inl ⟨p, w, rfl⟩
    · rw [List.mem_singleton.mp w]; exact .inr rfl
theorem costs_bd {m : Nat} {rs : List Ro} (h : WebP m rs) : ∀ (l : List Pa) (t : List (Nat × Int) × Int) (B : Int), (0 ≤ t.2 ∧ t.2 ≤ B) → (∀ p ∈ t.1, 0 ≤ p.2 ∧ p.2 ≤ B) → (0 ≤ (l.foldl (stepC rs) t).2 ∧ (l.foldl (stepC rs) t).2 ≤ B + 1000000 * l.length) ∧ ∀ p ∈ (l.foldl (stepC rs) t).1, 0 ≤ p.2 ∧ p.2 ≤ B + 1000000 * l.length := by
  intro l
  induction l with
  | nil => intro t B h1 h2; simpa using ⟨h1, fun a b hb => h2 (a, b) hb⟩
  | cons p l ih =>
    intro t B h1 h2
    rw [List.foldl_cons]
    have e0 : 0 ≤ (getN (near rs p.1) p.2).getD 0 ∧ (getN (near rs p.1) p.2).getD 0 ≤ 1000000 := by
      cases hg : getN (near rs p.1) p.2 with
      | none => simp
      | some v => have := near_val h hg; simp only [Option.getD_some]; omega
    have e1 : 0 ≤ (stepC rs t p).2 ∧ (stepC rs t p).2 ≤ B + 1000000 := by
      unfold stepC
      dsimp only
      split <;> omega
    have e2 : ∀ q ∈ (stepC rs t p).1, 0 ≤ q.2 ∧ q.2 ≤ B + 1000000 := fun q hq => by
      have e1' := e1
      unfold stepC at hq e1'
      dsimp only at hq e1'
      split at hq
      · have := h2 q hq; omega
      · rcases put_mem hq with ⟨y, hy, e⟩ | e
        · have := h2 y hy; omega
        · rw [e]; exact e1'
    have := ih (stepC rs t p) (B + 1000000) e1 e2
    rw [List.length_cons]
    refine ⟨⟨this.1.1, by have := this.1.2; omega⟩, fun q hq => ?_⟩
    have := this.2 q hq
    omega
def cAt (m : Nat) (rs : List Ro) (p : Nat) (W : List Pa) : Int := (costL m rs W).getD p 0
theorem cAt_bd {m : Nat} {rs : List Ro} (h : WebP m rs) {W : List Pa} (hl : W.length ≤ 3700) (p : Nat) : 0 ≤ cAt m rs p W ∧ cAt m rs p W ≤ 3700000000 := by
  have b := (costs_bd h W ([(0, 0)], 0) 0 (by simp) (by simp)).2
  unfold cAt
  rw [List.getD_eq_getElem?_getD]
  by_cases q : p < m
  · have : (costL m rs W)[p]? = some ((getN (costsF rs W).1 p).getD 0) := by
      unfold costL
      rw [List.getElem?_map, List.getElem?_eq_getElem (by simpa using q)]
      simp
    rw [this, Option.getD_some]
    cases hg : getN (costsF rs W).1 p with
    | none => simp
    | some v =>
      have hm : ∃ x ∈ (costsF rs W).1, x.2 = v := by
        unfold getN at hg
        cases hf : (costsF rs W).1.find? fun y => decide (y.1 = p) with
        | none => rw [hf] at hg; cases hg
        | some y =>
          rw [hf] at hg
          exact ⟨y, List.mem_of_find?_eq_some hf, Option.some.inj hg⟩
      obtain ⟨x, hx, e⟩ := hm
      have := b x hx
      rw [Option.getD_some]
      omega
  · have : (costL m rs W)[p]? = none := List.getElem?_eq_none (by unfold costL; rw [List.length_map, List.length_range]; omega)
    rw [this]
    simp
theorem cAt_ix {m : Nat} {rs : List Ro} {W : List Pa} {p : Nat} (hp : p < m) (S : Store) : dIx (.lst ((costL m rs W).map D.int)) (.int (p : Int)) S = .ok (.int (cAt m rs p W)) S := by
  have hl : p < ((costL m rs W).map D.int).length := by unfold costL; rw [List.length_map, List.length_map, List.length_range]; exact hp
  rw [dl_ix hl, List.getElem_map]
  unfold cAt
  rw [List.getD_eq_getElem?_getD, List.getElem?_eq_getElem (by rwa [List.length_map] at hl)]
  rfl
/-! the paper and its plays -/
abbrev Pq := List (List Pa × Int)
structure QOk (m : Nat) (rs : List Ro) (Q : Pq) : Prop where
  wl : ∀ z ∈ Q, WlQ m rs z.1
  pos : ∀ z ∈ Q, 1 ≤ z.2 ∧ z.2 ≤ 6
  few : Q.length ≤ 4
def plQ (Q : Pq) : Pl := Q.map fun z => (z.1.map (thD true), z.2)
def dueQ (Q : Pq) : List (List Pa) := Q.flatMap fun z => List.replicate z.2.toNat z.1
def wlD (W : List Pa) : D := .lst (W.map (thD true))
theorem dueQ_snoc (Q : Pq) (z : List Pa × Int) : dueQ (Q ++ [z]) = dueQ Q ++ List.replicate z.2.toNat z.1 := by simp [dueQ]
theorem due_len {Q : Pq} (h : ∀ z ∈ Q, 1 ≤ z.2) : ((dueQ Q).length : Int) = (Q.map (·.2)).sum := by
  induction Q with
  | nil => rfl
  | cons z Q ih =>
    have h1 := h z (by simp)
    have h2 := ih fun y hy => h y (by simp [hy])
    have e : dueQ (z :: Q) = List.replicate z.2.toNat z.1 ++ dueQ Q := by simp [dueQ]
    rw [e, List.length_append, List.length_replicate, List.map_cons, List.sum_cons]
    omega
theorem due_sum {Q : Pq} (h : ∀ z ∈ Q, 1 ≤ z.2) (f : List Pa → Int) : ((dueQ Q).map f).sum = (prod (Q.map fun z => f z.1) (Q.map (·.2))).sum := by
  induction Q with
  | nil => rfl
  | cons z Q ih =>
    have h1 := h z (by simp)
    have h2 := ih fun y hy => h y (by simp [hy])
    have e : dueQ (z :: Q) = List.replicate z.2.toNat z.1 ++ dueQ Q := by simp [dueQ]
    have r : ∀ n : Nat, ((List.replicate n z.1).map f).sum = n * f z.1 := fun n => by
      induction n with
      | zero => simp
      | succ n ih =>
        rw [List.replicate_succ, List.map_cons, List.sum_cons, ih, Int.natCast_succ, Int.add_mul]
        omega
    rw [e, List.map_append, List.sum_append, r, h2, Int.toNat_of_nonneg (by omega)]
    unfold prod
    rw [List.map_cons, List.map_cons, List.zip_cons_cons, List.map_cons, List.sum_cons]
    dsimp only
    rw [Int.mul_comm]
theorem pk_due : ∀ (Q : Pq) (_ : ∀ z ∈ Q, 1 ≤ z.2) (i : Nat) (hi : i < (dueQ Q).length), pk (plQ Q) i = some ((dueQ Q)[i].map (thD true))
  | [], _, i, hi => by simp [dueQ] at hi
  | z :: Q, h, i, hi => by
    have h1 := h z (by simp)
    have e : dueQ (z :: Q) = List.replicate z.2.toNat z.1 ++ dueQ Q := by simp [dueQ]
    have ge : (dueQ (z :: Q))[i] = (List.replicate z.2.toNat z.1 ++ dueQ Q)[i]'(by rw [← e]; exact hi) := by congr 1
    rw [ge]
    show (if (i : Int) < z.2 then some (z.1.map (thD true)) else pk (plQ Q) ((i : Int) - z.2)) = _
    by_cases q : (i : Int) < z.2
    · rw [if_pos q, List.getElem_append_left (by rw [List.length_replicate]; omega), List.getElem_replicate]
    · have lt : i - z.2.toNat < (dueQ Q).length := by
        have := hi
        rw [e, List.length_append, List.length_replicate] at this
        omega
      rw [if_neg q, List.getElem_append_right (by rw [List.length_replicate]; omega)]
      have := pk_due Q (fun y hy => h y (by simp [hy])) (i - z.2.toNat) lt
      have ei : ((i - z.2.toNat : Nat) : Int) = (i : Int) - z.2 := by omega
      rw [ei] at this
      rw [this]
      simp only [List.length_replicate]
theorem QOk.pl {m : Nat} {rs : List Ro} {Q : Pq} (h : QOk m rs Q) (hn : Q ≠ []) : PlOk (plQ Q) := by
  refine ⟨by simpa [plQ] using hn, by unfold plQ; rw [List.length_map]; have := h.few; omega, fun z hz => ?_, fun z hz => ?_, fun z hz => ?_⟩
  · obtain ⟨y, hy, rfl⟩ := List.mem_map.mp hz
    have w := h.wl y hy
    refine ⟨by rw [List.length_map]; have := w.few; omega, fun S n hn => ?_, fun k => underL_of fun d hd => by
      obtain ⟨p, _, rfl⟩ := List.mem_map.mp hd
      simp [thD, D.under]⟩
    exact ⟨(y.1.map (·.2)).map fun (k : Nat) => PyData.int (k : Int), by
      show toPs S n (y.1.map (thD true)) = _
      rw [walk_nats]
      exact toPs_nats _⟩
  · obtain ⟨y, hy, rfl⟩ := List.mem_map.mp hz
    have := h.pos y hy
    dsimp only
    omega
  · obtain ⟨y, hy, rfl⟩ := List.mem_map.mp hz
    have := h.pos y hy
    dsimp only
    omega
theorem wls_toPs {S : Store} {n : Nat} : ∀ l : List (List Pa), ∃ ps, toPs S (n + 1) (l.map wlD) = some ps
  | [] => ⟨[], by simp [toPs]⟩
  | W :: l => by
    obtain ⟨ps, h⟩ := wls_toPs (S := S) (n := n) l
    have e : ∃ q, toP S (n + 1) (wlD W) = some q := ⟨.list ((W.map (·.2)).map fun (k : Nat) => PyData.int (k : Int)), by unfold wlD; rw [walk_nats]; simp only [toP, natL, toPs_nats, Option.map_some]⟩
    obtain ⟨q, e⟩ := e
    exact ⟨q :: ps, by rw [List.map_cons, toPs, e, h]⟩
theorem wls_toP (l : List (List Pa)) (S : Store) : ∃ p, toP S 60 (.lst (l.map wlD)) = some p := by
  obtain ⟨ps, h⟩ := wls_toPs (S := S) (n := 58) l
  exact ⟨.list ps, by simp [toP, h]⟩
theorem under_plQ {m : Nat} {rs : List Ro} {Q : Pq} (k : Nat) : D.underL k ((plQ Q).map itm) = true := underL_of fun d hd => by
  obtain ⟨z, hz, rfl⟩ := List.mem_map.mp hd
  obtain ⟨y, hy, rfl⟩ := List.mem_map.mp hz
  have : D.underL k (y.1.map (thD true)) = true := underL_of fun d hd => by
    obtain ⟨p, _, rfl⟩ := List.mem_map.mp hd
    simp [thD, D.under]
  simp [itm, D.under, D.underL, this]
abbrev EL8 (ns : List Int) (n m : Nat) (rs : List Ro) (r : List (Option D)) : Dv.Env := some (.scr (ns.map D.int)) :: some (.cell n) :: some (wbD m rs) :: r
theorem law_true : LawTrue F_law := by
  intro ns hl hb
  have h : Ens (F_law [.scr (ns.map D.int)] []) fun d _ => d = .bl true := by
    refine ens_fn rfl ?_
    unfold b_law
    simp only [List.map_cons, List.map_nil, List.replicate, List.cons_append, List.nil_append]
    refine ens_sq (fun e S' => ∃ L n mm, Pu L n mm 0 S' ∧ e = some (.scr (ns.map D.int)) :: some (.cell n) :: List.replicate 15 none) (fun R' hR => ?_) ?_
    · simp only [ySet_app, xFn_app, xCons_app, xNil_app, xVar_app, List.getElem?_cons_zero, Res.bind_ok, enso_out]
      refine (purse_ok ns).imp ?_
      rintro d S' ⟨L, n, m, rfl, hp⟩
      simp only [enso_nx, List.set_cons_succ, List.set_cons_zero]
      exact hR _ _ ⟨L, n, m, hp, rfl⟩
    rintro e S' ⟨L, n, mm, hp, rfl⟩
    simp only [List.replicate]
    refine ens_sq (fun e S' => ∃ m rs, WebOk m rs ∧ Pu L n mm 1000 S' ∧ e = EL8 ns n m rs [none, none, none, none, none, none, none, none, none, none, none, none, none, none]) (fun R' hR => ?_) ?_
    · simp only [ySet_app, xFn_app, xCons_app, xNil_app, xC_app, xVar_app, List.getElem?_cons_zero, List.getElem?_cons_succ, Res.bind_ok, enso_out]
      refine (law_web78_ok hp (by decide) 5 (by decide) (by decide)).imp ?_
      rintro d S' ⟨m, rs, rfl, hw, _, hp2⟩
      simp only [enso_nx, List.set_cons_succ, List.set_cons_zero]
      exact hR _ _ ⟨m, rs, hw, hp2.mono (by decide), rfl⟩
    rintro e P ⟨m, rs, hw, hp, rfl⟩
    have m60 := hw.m60
    have m1 := hw.m1
    have lL := hp.1
    refine ens_sq (fun e S' => S' = P ++ [.lst ((plQ []).map itm)] ∧ e = EL8 ns n m rs [some (.cell L), none, none, none, none, none, none, none, none, none, none, none, none, none]) (fun R' hR => ?_) ?_
    · simp only [EL8, ySet_app, xLst_app, xNil_app, Res.bind_ok, List.length_nil, if_pos (show 0 ≤ 1000 by decide), mkC_app, enso_out, ens_ok, enso_nx, List.set_cons_succ, List.set_cons_zero]
      exact hR _ _ ⟨rfl, by rw [lL]⟩
    rintro e S' ⟨rfl, rfl⟩
    refine ens_sq (fun e S' => (S'.all fun c => c.under S'.length) = true ∧ ∃ (Q : Pq) (v4 : Option D), QOk m rs Q ∧ Q ≠ [] ∧ e = EL8 ns n m rs [some (Pd (plQ Q)), v4, none, none, none, none, none, none, none, none, none, none, none, none]) (fun R' hR => ?_) ?_
    · refine ens_sq (fun e S' => ∃ (P' : Store) (Q : Pq) (v4 : Option D), Pu L n mm 5000 P' ∧ QOk m rs Q ∧ Q ≠ [] ∧ S' = P' ++ [.lst ((plQ Q).map itm)] ∧ e = EL8 ns n m rs [some (.cell L), v4, none, none, none, none, none, none, none, none, none, none, none, none]) (fun R1 hR1 => ?_) ?_
      · simp only [EL8, yFor_app, iSrcA_app, xOp_app, xFn_app, xCons_app, xNil_app, xC_app, xVar_app, List.getElem?_cons_zero, List.getElem?_cons_succ, Res.bind_ok, enso_out, ens_bind]
        refine (draw_ok (R := [Cn.lst ((plQ []).map itm)]) hp (k := 4) (by decide) (by decide) (by decide)).imp ?_
        rintro d S' ⟨P1, r, rfl, h1, rfl, r0, r1⟩
        simp only [dAdd_int, ens_ok, Res.bind_ok, ens_srcR1]
        refine ⟨rng62_of (by omega) (by omega), ?_⟩
        refine ens_fr (fun i e S' => ∃ (P' : Store) (Q : Pq) (v4 : Option D), Pu L n mm (1001 + 101 * i) P' ∧ QOk m rs Q ∧ Q.length = i ∧ S' = P' ++ [.lst ((plQ Q).map itm)] ∧ e = EL8 ns n m rs [some (.cell L), v4, none, none, none, none, none, none, none, none, none, none, none, none]) ⟨P1, [], _, by simpa using h1, ⟨by simp, by simp, by simp⟩, rfl, rfl, rfl⟩ ?_ ?_
        · rintro i d e S' R2 hd ⟨P2, Q, v4, h2, hq, hlen, rfl, rfl⟩ hR2
          obtain ⟨rfl, hi⟩ := irange_get hd
          have hi4 : i < 4 := by omega
          have lL2 := h2.1
          have c0 : (P2 ++ [Cn.lst ((plQ Q).map itm)])[L]? = some (.lst ((plQ Q).map itm)) := app_at0 lL2
          simp only [EL8, gN_app, enso_nx, List.set_cons_succ, List.set_cons_zero, yExpr_app, xMt_app, xTup_app, xOp_app, xFn_app, xCons_app, xNil_app, xC_app, xVar_app, List.getElem?_cons_zero, List.getElem?_cons_succ, Res.bind_ok, isT, c0, beq_self_eq_true, if_true, enso_out, ens_bind]
          refine (law_walk78_ok (R := [Cn.lst ((plQ Q).map itm)]) h2 (by omega) hw (fun c hc k => by
            rw [List.mem_singleton.mp hc, Cn.under]
            exact under_plQ (m := m) (rs := rs) k)).imp ?_
          rintro d S' ⟨P3, W, rfl, h3, rfl, hW⟩
          simp only [ens_ok, Res.bind_ok]
          refine (draw_ok (R := [Cn.lst ((plQ Q).map itm)]) h3 (k := 6) (by decide) (by decide) (by omega)).imp ?_
          rintro d S' ⟨P4, r', rfl, h4, rfl, r0', r1'⟩
          have lL4 := h4.1
          have c4 : (P4 ++ [Cn.lst ((plQ Q).map itm)])[L]? = some (.lst ((plQ Q).map itm)) := app_at0 lL4
          have al : ((plQ Q).map itm).length < 16000000 := by unfold plQ; rw [List.length_map, List.length_map]; omega
          have ap : (plQ Q).map itm ++ [D.tup [.lst (W.map (thD true)), .int (1 + r')]] = (plQ (Q ++ [(W, 1 + r')])).map itm := by simp [plQ, itm]
          simp only [dAdd_int, ens_ok, Res.bind_ok, List.length_cons, List.length_nil, if_pos (show 0 + 1 + 1 ≤ 1000 by decide), mAppend, cellL, c4, if_pos al, ap, app_set0 lL4, enso_nx]
          refine hR2 _ _ ⟨P4, Q ++ [(W, 1 + r')], _, h4.mono (by omega), ⟨fun z hz => ?_, fun z hz => ?_, by simp; omega⟩, by simp [hlen], rfl, rfl⟩
          · rcases List.mem_append.mp hz with w | w
            · exact hq.wl z w
            · rw [List.mem_singleton.mp w]; exact hW
          · rcases List.mem_append.mp hz with w | w
            · exact hq.pos z w
            · rw [List.mem_singleton.mp w]
              dsimp only
              omega
        · rintro e S' ⟨P2, Q, v4, h2, hq, hlen, rfl, rfl⟩
          rw [irange_length] at h2 hlen
          exact hR1 _ _ ⟨P2, Q, v4, h2.mono (by omega), hq, fun z => by subst z; simp at hlen; omega, rfl, rfl⟩
      rintro e S' ⟨P2, Q, v4, h2, hq, hne, rfl, rfl⟩
      have lL2 := h2.1
      have c2 : (P2 ++ [Cn.lst ((plQ Q).map itm)])[L]? = some (.lst ((plQ Q).map itm)) := app_at0 lL2
      simp only [EL8, frzE, List.getElem?_cons_zero, List.getElem?_cons_succ, frz, c2, app_set0 lL2, Res.out_ok, enso_nx, List.set_cons_succ, List.set_cons_zero]
      refine hR _ _ ⟨?_, Q, v4, hq, hne, rfl⟩
      have hun := h2.2.1.2
      rw [List.all_append, Bool.and_eq_true]
      rw [List.all_eq_true] at hun
      exact ⟨List.all_eq_true.mpr fun x hx => cn_under_mono (by rw [List.length_append]; omega) (hun x hx), by simp [Cn.under]⟩
    rintro e S ⟨hS, Q, v4, hq, hne, rfl⟩
    have hpl := hq.pl hne
    have pos1 : ∀ z ∈ Q, 1 ≤ z.2 := fun z hz => (hq.pos z hz).1
    have dl := due_len pos1
    have ws : wsum (plQ Q) = (Q.map (·.2)).sum := by unfold wsum plQ; rw [List.map_map]; rfl
    have qf := hq.few
    have dle : (dueQ Q).length ≤ 24 := by
      have go : ∀ Q : Pq, (∀ z ∈ Q, z.2 ≤ 6) → (dueQ Q).length ≤ 6 * Q.length := by
        intro Q
        induction Q with
        | nil => intro _; simp [dueQ]
        | cons z Q ih =>
          intro h
          have h1 := h z (by simp)
          have h2 := ih fun y hy => h y (by simp [hy])
          have e : dueQ (z :: Q) = List.replicate z.2.toNat z.1 ++ dueQ Q := by simp [dueQ]
          rw [e, List.length_append, List.length_replicate, List.length_cons]
          omega
      have := go Q fun z hz => (hq.pos z hz).2
      omega
    have dmem : ∀ W ∈ dueQ Q, WlQ m rs W := fun W hW => by
      obtain ⟨z, hz, h2⟩ := List.mem_flatMap.mp hW
      rw [(List.mem_replicate.mp h2).2]
      exact hq.wl z hz
    have pmap : ∀ z ∈ Q, itm ((fun z : List Pa × Int => (z.1.map (thD true), z.2)) z) = .tup [wlD z.1, .int z.2] := fun z _ => rfl
    have pd : Pd (plQ Q) = .lst (Q.map fun z => D.tup [wlD z.1, .int z.2]) := by
      unfold Pd plQ
      rw [List.map_map]
      rfl
    refine ens_sq (fun e S' => S' = S ∧ e = EL8 ns n m rs [some (Pd (plQ Q)), v4, some (.lst ((dueQ []).map wlD)), none, none, none, none, none, none, none, none, none, none, none]) (fun R' hR => ?_) ?_
    · simp only [EL8, ySet_app, xLst_app, xNil_app, Res.bind_ok, List.length_nil, if_pos (show 0 ≤ 1000 by decide), mkF_app, enso_out, ens_ok, enso_nx, List.set_cons_succ, List.set_cons_zero]
      exact hR _ _ ⟨rfl, rfl⟩
    rintro e S' ⟨rfl, rfl⟩
    refine ens_sq (fun e S2 => S2 = S' ∧ ∃ v11 v12, e = EL8 ns n m rs [some (Pd (plQ Q)), v4, some (.lst ((dueQ Q).map wlD)), none, none, none, none, none, v11, v12, none, none, none, none]) (fun R' hR => ?_) ?_
    · rw [pd]
      simp only [EL8, yFor_app, iSrc_app, xVar_app, List.getElem?_cons_zero, List.getElem?_cons_succ, Res.bind_ok, srcL_lst, enso_out, ens_ok]
      refine ens_fr (fun i e S2 => S2 = S' ∧ ∃ v11 v12, e = EL8 ns n m rs [some (.lst (Q.map fun z => D.tup [wlD z.1, .int z.2])), v4, some (.lst ((dueQ (Q.take i)).map wlD)), none, none, none, none, none, v11, v12, none, none, none, none]) ⟨rfl, _, _, rfl⟩ ?_ ?_
      · rintro i d e S2 R2 hd ⟨rfl, v11, v12, rfl⟩ hR2
        rw [List.getElem?_map] at hd
        have hi : i < Q.length := by
          by_cases q : i < Q.length
          · exact q
          · rw [List.getElem?_eq_none (by omega)] at hd; cases hd
        rw [List.getElem?_eq_getElem hi] at hd
        cases hd
        have zp := hq.pos Q[i] (List.getElem_mem _)
        have tk : Q.take (i + 1) = Q.take i ++ [Q[i]] := List.take_succ_eq_append_getElem hi
        have dlt : (dueQ (Q.take i)).length ≤ 24 := by
          have e : dueQ Q = dueQ (Q.take i) ++ dueQ (Q.drop i) := by
            have f : dueQ (Q.take i ++ Q.drop i) = dueQ (Q.take i) ++ dueQ (Q.drop i) := List.flatMap_append
            rwa [List.take_append_drop] at f
          have := congrArg List.length e
          rw [List.length_append] at this
          omega
        rw [tk, dueQ_snoc] at hR2
        generalize Q[i] = z at *
        have rep : (List.replicate z.2.toNat [wlD z.1]).flatten = (List.replicate z.2.toNat z.1).map wlD := by
          rw [List.map_replicate]
          generalize z.2.toNat = n
          induction n with
          | zero => rfl
          | succ n ih => rw [List.replicate_succ, List.flatten_cons, ih, List.replicate_succ]; rfl
        have mu : dMul mkF (.lst [wlD z.1]) (.int z.2) S2 = .ok (.lst ((List.replicate z.2.toNat z.1).map wlD)) S2 := by
          simp only [dMul]
          rw [if_pos ⟨rng62_of (by omega) (by omega), by rw [List.length_singleton]; omega⟩, mkF_app, rep]
        have ad : dAdd mkF (.lst ((dueQ (Q.take i)).map wlD)) (.lst ((List.replicate z.2.toNat z.1).map wlD)) S2 = .ok (.lst ((dueQ (Q.take i) ++ List.replicate z.2.toNat z.1).map wlD)) S2 := by
          rw [dl_add _ _ _ (by rw [List.length_map, List.length_map, List.length_replicate]; omega), List.map_append]
        simp only [EL8, gT_app, gsCons_app, gsNil_app, gN_app, Out.seq_nx, List.length_cons, List.length_nil, if_pos, enso_nx, List.set_cons_succ, List.set_cons_zero, ySet_app, xOp_app, xLst_app, xCons_app, xNil_app, xVar_app, List.getElem?_cons_zero, List.getElem?_cons_succ, Res.bind_ok, if_pos (show 0 + 1 ≤ 1000 by decide), mkF_app, mu, ad, enso_out, ens_ok]
        exact hR2 _ _ ⟨rfl, _, _, rfl⟩
      · rintro e S2 ⟨rfl, v11, v12, rfl⟩
        rw [List.length_map, List.take_length]
        exact hR _ _ ⟨rfl, v11, v12, by rw [pd]⟩
    rintro e S' ⟨rfl, v11, v12, rfl⟩
    refine ens_sq (fun e S2 => S2 = S' ∧ e = EL8 ns n m rs [some (Pd (plQ Q)), v4, some (.lst ((dueQ Q).map wlD)), some (Pd (plQ Q)), none, none, none, none, v11, v12, none, none, none, none]) (fun R' hR => ?_) ?_
    · have hc : lcL (fun _ => True) (eT2 11 12) cYes (xTup (xCons (xFn (bList mkF) (xCons (xVar 11) xNil)) (xCons (xVar 12) xNil))) (EL8 ns n m rs [some (Pd (plQ Q)), v4, some (.lst ((dueQ Q).map wlD)), none, none, none, none, none, none, none, none, none, none, none]) ((plQ Q).map itm) [] S' = .ok ([] ++ (plQ Q).map itm) S' := by
        refine lc_map itm itm (plQ Q) [] (fun z hz => ⟨_, eT2_pl, ?_⟩) (by unfold plQ; simp; omega)
        simp [itm, bList]
      unfold Pd at hR ⊢
      simp only [EL8, Pd] at hc
      simp only [EL8, ySet_app, xLc_app, iSrc_app, xVar_app, List.getElem?_cons_zero, List.getElem?_cons_succ, Res.bind_ok, srcL_lst, wipeE_cons, wipeE_nil, List.set_cons_succ, List.set_cons_zero, hc, List.nil_append, mkF_app, enso_out, ens_ok, enso_nx]
      exact hR _ _ ⟨rfl, rfl⟩
    rintro e S2 ⟨rfl, rfl⟩
    refine ens_sq (fun e S3 => S3 = S2 ∧ e = EL8 ns n m rs [some (Pd (plQ Q)), v4, some (.lst ((dueQ Q).map wlD)), some (Pd (plQ Q)), none, none, none, none, v11, v12, none, none, none, none]) (fun R' hR => ?_) ?_
    · simp only [EL8, yIf_app, xIsT_app, xOp_app, xFn_app, xCons_app, xNil_app, xVar_app, List.getElem?_cons_zero, List.getElem?_cons_succ, Res.bind_ok, whole_of_ok hpl.few, bLen_lst, List.length_map, dNe_int, ws, dl, decide_true, Bool.not_true, Bool.false_eq_true, if_false, enso_out, ens_ok, yNil_app, enso_nx]
      exact hR _ _ ⟨rfl, rfl⟩
    rintro e S3 ⟨rfl, rfl⟩
    refine ens_sq (fun e S4 => S4 = S3 ∧ e = EL8 ns n m rs [some (Pd (plQ Q)), v4, some (.lst ((dueQ Q).map wlD)), some (Pd (plQ Q)), some (.lst ((dueQ Q).map wlD)), none, none, none, v11, v12, none, none, none, none]) (fun R' hR => ?_) ?_
    · have hc : lcL (fun _ => True) (eN 14) cYes (xFn F_played (xCons (xVar 6) (xCons (xVar 14) xNil))) (EL8 ns n m rs [some (Pd (plQ Q)), v4, some (.lst ((dueQ Q).map wlD)), some (Pd (plQ Q)), none, none, none, none, v11, v12, none, none, none, none]) ((List.range (dueQ Q).length).map fun (k : Nat) => D.int (k : Int)) [] S3 = .ok ([] ++ (List.range (dueQ Q).length).map fun k => wlD ((dueQ Q).getD k [])) S3 := by
        refine lc_map (fun (k : Nat) => D.int (k : Int)) (fun k => wlD ((dueQ Q).getD k [])) (List.range (dueQ Q).length) [] (fun k hk => ⟨_, rfl, ?_⟩) (by simp; omega)
        have hk := List.mem_range.mp hk
        have pk1 := pk_due Q pos1 k hk
        have pl := played_ok hpl (x := (k : Int)) (by omega) (by rw [ws, ← dl]; omega) S3
        have eq : F_played [Pd (plQ Q), .int (k : Int)] S3 = .ok (wlD ((dueQ Q).getD k [])) S3 := by
          rw [← ens_eq]
          refine pl.imp ?_
          rintro d S' ⟨l, h1, _, rfl, rfl⟩
          rw [pk1] at h1
          refine ⟨?_, rfl⟩
          rw [← Option.some.inj h1, List.getD_eq_getElem?_getD, List.getElem?_eq_getElem hk]
          rfl
        simp only [EL8, List.set_cons_succ, List.set_cons_zero, xFn_app, xCons_app, xNil_app, xVar_app, List.getElem?_cons_zero, List.getElem?_cons_succ, Res.bind_ok, eq]
      have em : ((List.range (dueQ Q).length).map fun k => wlD ((dueQ Q).getD k [])) = (dueQ Q).map wlD := by
        apply List.ext_getElem
        · simp
        · intro i h1 h2
          simp at h1 h2 ⊢
          rw [List.getElem?_eq_getElem h1]
          rfl
      have ir : irange 0 (dueQ Q).length = (List.range (dueQ Q).length).map fun (k : Nat) => D.int (k : Int) := by
        unfold irange
        apply List.map_congr_left
        intro i _
        simp
      rw [em] at hc
      simp only [EL8] at hc
      simp only [EL8, ySet_app, xLc_app, iSrcA_app, xFn_app, xCons_app, xNil_app, xVar_app, List.getElem?_cons_zero, List.getElem?_cons_succ, Res.bind_ok, bLen_lst, List.length_map, enso_out, ens_bind, ens_srcR1, wipeE_cons, wipeE_nil, List.set_cons_succ, List.set_cons_zero]
      refine ⟨rng62_of (by omega) (by omega), ?_⟩
      rw [show (((dueQ Q).length : Int)).toNat = (dueQ Q).length by simp, ir, hc]
      simp only [List.nil_append, ens_ok, mkF_app, enso_nx, List.set_cons_succ, List.set_cons_zero]
      exact hR _ _ ⟨rfl, rfl⟩
    rintro e S4 ⟨rfl, rfl⟩
    refine ens_sq (fun e S5 => S5 = S4 ∧ e = EL8 ns n m rs [some (Pd (plQ Q)), v4, some (.lst ((dueQ Q).map wlD)), some (Pd (plQ Q)), some (.lst ((dueQ Q).map wlD)), none, none, none, v11, v12, none, none, none, none]) (fun R' hR => ?_) ?_
    · obtain ⟨p1, h1⟩ := wls_toP (dueQ Q) S4
      obtain ⟨p2, h2⟩ := pd_toP hpl.pg S4
      simp only [EL8, yIf_app, xOr_app, xIsT_app, xOp_app, xVar_app, List.getElem?_cons_zero, List.getElem?_cons_succ, Res.bind_ok, dNe_self h1, dNe_self h2, Bool.false_eq_true, if_false, enso_out, ens_ok, yNil_app, enso_nx]
      exact hR _ _ ⟨rfl, rfl⟩
    rintro e S5 ⟨rfl, rfl⟩
    have cst : ∀ W, WlQ m rs W → F_costs_of [wbD m rs, .str ("walk" : PySem.Str), wlD W] S5 = .ok (.lst ((costL m rs W).map D.int)) S5 := fun W hW => by
      rw [← ens_eq]
      exact costs_of_ok hw true hW.plan hW.all (by have := hW.few; omega) S5 hS
    refine ens_sq (fun e S6 => S6 = S5 ∧ e = EL8 ns n m rs [some (Pd (plQ Q)), v4, some (.lst ((dueQ Q).map wlD)), some (Pd (plQ Q)), some (.lst ((dueQ Q).map wlD)), some (.lst ((dueQ Q).map fun W => D.lst ((costL m rs W).map D.int))), none, none, v11, v12, none, none, none, none]) (fun R' hR => ?_) ?_
    · have hc : lcL (fun _ => True) (eN 11) cYes (xFn F_costs_of (xCons (xVar 2) (xCons (xC (.str ("walk" : PySem.Str))) (xCons (xVar 11) xNil)))) (EL8 ns n m rs [some (Pd (plQ Q)), v4, some (.lst ((dueQ Q).map wlD)), some (Pd (plQ Q)), some (.lst ((dueQ Q).map wlD)), none, none, none, none, v12, none, none, none, none]) ((dueQ Q).map wlD) [] S5 = .ok ([] ++ (dueQ Q).map fun W => D.lst ((costL m rs W).map D.int)) S5 := by
        refine lc_map wlD (fun W => D.lst ((costL m rs W).map D.int)) (dueQ Q) [] (fun W hW => ⟨_, rfl, ?_⟩) (by simp; omega)
        simp only [EL8, List.set_cons_succ, List.set_cons_zero, xFn_app, xCons_app, xNil_app, xC_app, xVar_app, List.getElem?_cons_zero, List.getElem?_cons_succ, Res.bind_ok, cst W (dmem W hW)]
      simp only [EL8] at hc
      simp only [EL8, ySet_app, xLc_app, iSrc_app, xVar_app, List.getElem?_cons_zero, List.getElem?_cons_succ, Res.bind_ok, srcL_lst, wipeE_cons, wipeE_nil, List.set_cons_succ, List.set_cons_zero, hc, List.nil_append, mkF_app, enso_out, ens_ok, enso_nx]
      exact hR _ _ ⟨rfl, rfl⟩
    rintro e S6 ⟨rfl, rfl⟩
    refine ens_sq (fun e S7 => S7 = S6 ∧ e = EL8 ns n m rs [some (Pd (plQ Q)), v4, some (.lst ((dueQ Q).map wlD)), some (Pd (plQ Q)), some (.lst ((dueQ Q).map wlD)), some (.lst ((dueQ Q).map fun W => D.lst ((costL m rs W).map D.int))), some (.lst (Q.map fun z => D.lst ((costL m rs z.1).map D.int))), none, v11, v12, none, none, none, none]) (fun R' hR => ?_) ?_
    · have hc : lcL (fun _ => True) (eT2 11 12) cYes (xFn F_costs_of (xCons (xVar 2) (xCons (xC (.str ("walk" : PySem.Str))) (xCons (xFn (bList mkF) (xCons (xVar 11) xNil)) xNil)))) (EL8 ns n m rs [some (Pd (plQ Q)), v4, some (.lst ((dueQ Q).map wlD)), some (Pd (plQ Q)), some (.lst ((dueQ Q).map wlD)), some (.lst ((dueQ Q).map fun W => D.lst ((costL m rs W).map D.int))), none, none, none, none, none, none, none, none]) (Q.map fun z => D.tup [wlD z.1, .int z.2]) [] S6 = .ok ([] ++ Q.map fun z => D.lst ((costL m rs z.1).map D.int)) S6 := by
        refine lc_map (fun z : List Pa × Int => D.tup [wlD z.1, .int z.2]) (fun z => D.lst ((costL m rs z.1).map D.int)) Q [] (fun z hz => ⟨_, rfl, ?_⟩) (by simp; omega)
        have bl : bList mkF [wlD z.1] S6 = .ok (wlD z.1) S6 := by simp [bList, wlD]
        simp only [EL8, List.set_cons_succ, List.set_cons_zero, xFn_app, xCons_app, xNil_app, xC_app, xVar_app, List.getElem?_cons_zero, List.getElem?_cons_succ, Res.bind_ok, bl, cst z.1 (hq.wl z hz)]
      rw [pd] at hc hR ⊢
      simp only [EL8] at hc
      simp only [EL8, ySet_app, xLc_app, iSrc_app, xVar_app, List.getElem?_cons_zero, List.getElem?_cons_succ, Res.bind_ok, srcL_lst, wipeE_cons, wipeE_nil, List.set_cons_succ, List.set_cons_zero, hc, List.nil_append, mkF_app, enso_out, ens_ok, enso_nx]
      exact hR _ _ ⟨rfl, rfl⟩
    rintro e S7 ⟨rfl, rfl⟩
    have i0 : ∀ S, dIx (wbD m rs) (.int 0) S = .ok (.int (m : Int)) S := fun S => by unfold wbD; simp
    refine ens_sq (fun e S8 => ∃ r, e = some (.scr (ns.map D.int)) :: r) (fun R' hR => ?_) ?_
    · simp only [EL8, yFor_app, iSrcA_app, xOp_app, xCons_app, xNil_app, xC_app, xVar_app, List.getElem?_cons_zero, List.getElem?_cons_succ, Res.bind_ok, i0, enso_out, ens_srcR1]
      refine ⟨rng62_of (by omega) (by omega), ?_⟩
      refine ens_fr (fun i e S8 => S8 = S7 ∧ ∃ v10 v13, e = EL8 ns n m rs [some (Pd (plQ Q)), v4, some (.lst ((dueQ Q).map wlD)), some (Pd (plQ Q)), some (.lst ((dueQ Q).map wlD)), some (.lst ((dueQ Q).map fun W => D.lst ((costL m rs W).map D.int))), some (.lst (Q.map fun z => D.lst ((costL m rs z.1).map D.int))), v10, v11, v12, v13, none, none, none]) ⟨rfl, _, _, rfl⟩ ?_ ?_
      · rintro i d e S8 R2 hd ⟨rfl, v10, v13, rfl⟩ hR2
        obtain ⟨rfl, hi⟩ := irange_get hd
        have hi : i < m := by simpa using hi
        simp only [EL8, gN_app, enso_nx, List.set_cons_succ, List.set_cons_zero, Int.zero_add]
        refine ens_sq (fun e S9 => S9 = S8 ∧ e = EL8 ns n m rs [some (Pd (plQ Q)), v4, some (.lst ((dueQ Q).map wlD)), some (Pd (plQ Q)), some (.lst ((dueQ Q).map wlD)), some (.lst ((dueQ Q).map fun W => D.lst ((costL m rs W).map D.int))), some (.lst (Q.map fun z => D.lst ((costL m rs z.1).map D.int))), some (.int (i : Int)), v11, v12, some (.int ((dueQ Q).map (cAt m rs i)).sum), none, none, none]) (fun R3 hR3 => ?_) ?_
        · have hc : lcL (fun _ => True) (eN 15) cYes (xOp dIx (xVar 15) (xVar 10)) (EL8 ns n m rs [some (Pd (plQ Q)), v4, some (.lst ((dueQ Q).map wlD)), some (Pd (plQ Q)), some (.lst ((dueQ Q).map wlD)), some (.lst ((dueQ Q).map fun W => D.lst ((costL m rs W).map D.int))), some (.lst (Q.map fun z => D.lst ((costL m rs z.1).map D.int))), some (.int (i : Int)), v11, v12, v13, none, none, none]) ((dueQ Q).map fun W => D.lst ((costL m rs W).map D.int)) [] S8 = .ok ([] ++ (dueQ Q).map fun W => D.int (cAt m rs i W)) S8 := by
            refine lc_map (fun W => D.lst ((costL m rs W).map D.int)) (fun W => D.int (cAt m rs i W)) (dueQ Q) [] (fun W hW => ⟨_, rfl, ?_⟩) (by simp; omega)
            simp only [EL8, List.set_cons_succ, List.set_cons_zero, xOp_app, xVar_app, List.getElem?_cons_zero, List.getElem?_cons_succ, Res.bind_ok, cAt_ix hi]
          have bs : bSum [.lst ((dueQ Q).map fun W => D.int (cAt m rs i W))] S8 = .ok (.int ((dueQ Q).map (cAt m rs i)).sum) S8 := by
            have : ((dueQ Q).map fun W => D.int (cAt m rs i W)) = ((dueQ Q).map (cAt m rs i)).map D.int := by rw [List.map_map]; rfl
            rw [this]
            unfold bSum
            simp only [getQ_lst, Option.bind_some, intsOf_map]
          simp only [EL8] at hc
          simp only [EL8, ySet_app, xLc_app, iSrc_app, xFn_app, xCons_app, xNil_app, xVar_app, List.getElem?_cons_zero, List.getElem?_cons_succ, Res.bind_ok, srcL_lst, wipeE_cons, wipeE_nil, List.set_cons_succ, List.set_cons_zero, hc, List.nil_append, mkF_app, bs, enso_out, ens_ok, enso_nx]
          exact hR3 _ _ ⟨rfl, rfl⟩
        rintro e S9 ⟨rfl, rfl⟩
        have li : Li (Q.map fun z => cAt m rs i z.1) (Q.map (·.2)) := by
          refine ⟨by simp, by rw [List.length_map]; omega, by simpa using hne, fun x hx => ?_, fun x hx => ?_, fun x hx => ?_⟩
          · obtain ⟨z, hz, rfl⟩ := List.mem_map.mp hx
            have := cAt_bd hw.toWebP (hq.wl z hz).few i
            show (cAt m rs i z.1).natAbs < 2 ^ 110
            have : (cAt m rs i z.1).natAbs ≤ 3700000000 := by omega
            exact Nat.lt_of_le_of_lt this (by decide)
          · obtain ⟨z, hz, rfl⟩ := List.mem_map.mp hx
            have := hq.pos z hz
            show (z.2).natAbs < 2 ^ 110
            have : (z.2).natAbs ≤ 6 := by omega
            exact Nat.lt_of_le_of_lt this (by decide)
          · obtain ⟨z, hz, rfl⟩ := List.mem_map.mp hx
            have := hq.pos z hz
            omega
        have hc1 : lcL (fun _ => True) (eN 16) cYes (xOp dIx (xVar 16) (xVar 10)) (EL8 ns n m rs [some (Pd (plQ Q)), v4, some (.lst ((dueQ Q).map wlD)), some (Pd (plQ Q)), some (.lst ((dueQ Q).map wlD)), some (.lst ((dueQ Q).map fun W => D.lst ((costL m rs W).map D.int))), some (.lst (Q.map fun z => D.lst ((costL m rs z.1).map D.int))), some (.int (i : Int)), v11, v12, some (.int ((dueQ Q).map (cAt m rs i)).sum), none, none, none]) (Q.map fun z => D.lst ((costL m rs z.1).map D.int)) [] S9 = .ok ([] ++ Q.map fun z => D.int (cAt m rs i z.1)) S9 := by
          refine lc_map (fun z : List Pa × Int => D.lst ((costL m rs z.1).map D.int)) (fun z => D.int (cAt m rs i z.1)) Q [] (fun W hW => ⟨_, rfl, ?_⟩) (by simp; omega)
          simp only [EL8, List.set_cons_succ, List.set_cons_zero, xOp_app, xVar_app, List.getElem?_cons_zero, List.getElem?_cons_succ, Res.bind_ok, cAt_ix hi]
        have hc2 : lcL (fun _ => True) (eT2 11 12) cYes (xVar 12) (EL8 ns n m rs [some (Pd (plQ Q)), v4, some (.lst ((dueQ Q).map wlD)), some (Pd (plQ Q)), some (.lst ((dueQ Q).map wlD)), some (.lst ((dueQ Q).map fun W => D.lst ((costL m rs W).map D.int))), some (.lst (Q.map fun z => D.lst ((costL m rs z.1).map D.int))), some (.int (i : Int)), none, none, some (.int ((dueQ Q).map (cAt m rs i)).sum), none, none, none]) (Q.map fun z => D.tup [wlD z.1, .int z.2]) [] S9 = .ok ([] ++ Q.map fun z => D.int z.2) S9 := by
          refine lc_map (fun z : List Pa × Int => D.tup [wlD z.1, .int z.2]) (fun z => D.int z.2) Q [] (fun z hz => ⟨_, rfl, ?_⟩) (by simp; omega)
          simp only [EL8, List.set_cons_succ, List.set_cons_zero, xVar_app, List.getElem?_cons_zero, List.getElem?_cons_succ]
        have av : F_average [.lst (Q.map fun z => D.int (cAt m rs i z.1)), .lst (Q.map fun z => D.int z.2)] S9 = .ok (lo ((dueQ Q).map (cAt m rs i)).sum (Q.map (·.2)).sum) S9 := by
          have := average_ok li S9
          rw [List.map_map, List.map_map] at this
          rw [due_sum pos1]
          exact this
        obtain ⟨wpos, wsz⟩ := li.sumW
        have lw := low_ok ((dueQ Q).map (cAt m rs i)).sum (Q.map (·.2)).sum 120 S9 wpos wsz (by decide)
        rw [pd] at hc1 hc2
        simp only [EL8, pd] at hc1 hc2
        simp only [EL8, pd, yIf_app, xIsT_app, xOp_app, xLc_app, iSrc_app, xFn_app, xCons_app, xNil_app, xVar_app, List.getElem?_cons_zero, List.getElem?_cons_succ, Res.bind_ok, srcL_lst, wipeE_cons, wipeE_nil, List.set_cons_succ, List.set_cons_zero, hc1, hc2, List.nil_append, mkF_app, av, bLen_lst, List.length_map, dl, lw, lo_ne (show (Q.map (·.2)).sum ≠ 0 by omega), Bool.false_eq_true, if_false, enso_out, ens_ok, yNil_app, enso_nx]
        exact hR2 _ _ ⟨rfl, some (.int (i : Int)), some (.int ((dueQ Q).map (cAt m rs i)).sum), by simp only [EL8, pd]⟩
      · rintro e S8 ⟨rfl, v10, v13, rfl⟩
        exact hR _ _ ⟨_, rfl⟩
    rintro e S8 ⟨r, rfl⟩
    simp
  obtain ⟨d, S', e, rfl⟩ := h.get
  exact ⟨S', e⟩

end Lw
namespace Lw
open PySem PySem.Spec PyProof.Rows L2 Dv
structure Tx (K : PySem.W.Frag) (mg : Str → Option Value) where
  a_divisor : Addr
  d_divisor : FuncData
  F_divisor : Fun K "divisor" "divisor" s_divisor a_divisor d_divisor
  g_divisor : mg "divisor" = some (.ref a_divisor)
  b_divisor : Binds K d_divisor ["one", "other"] []
  a_ratio : Addr
  d_ratio : FuncData
  F_ratio : Fun K "ratio" "ratio" s_ratio a_ratio d_ratio
  g_ratio : mg "ratio" = some (.ref a_ratio)
  b_ratio : Binds K d_ratio ["top", "bottom"] []
  a_whole_of : Addr
  d_whole_of : FuncData
  F_whole_of : Fun K "whole_of" "whole_of" s_whole_of a_whole_of d_whole_of
  g_whole_of : mg "whole_of" = some (.ref a_whole_of)
  b_whole_of : Binds K d_whole_of ["paper"] []
  a_played : Addr
  d_played : FuncData
  F_played : Fun K "played" "played" s_played a_played d_played
  g_played : mg "played" = some (.ref a_played)
  b_played : Binds K d_played ["paper", "number"] []
  a_average : Addr
  d_average : FuncData
  F_average : Fun K "average" "average" s_average a_average d_average
  g_average : mg "average" = some (.ref a_average)
  b_average : Binds K d_average ["numbers", "weights"] []
  a_is_road : Addr
  d_is_road : FuncData
  F_is_road : Fun K "is_road" "is_road" s_is_road a_is_road d_is_road
  g_is_road : mg "is_road" = some (.ref a_is_road)
  b_is_road : Binds K d_is_road ["many", "road"] []
  a_roads_from : Addr
  d_roads_from : FuncData
  F_roads_from : Fun K "roads_from" "roads_from" s_roads_from a_roads_from d_roads_from
  g_roads_from : mg "roads_from" = some (.ref a_roads_from)
  b_roads_from : Binds K d_roads_from ["web", "place"] []
  a_reached : Addr
  d_reached : FuncData
  F_reached : Fun K "reached" "reached" s_reached a_reached d_reached
  g_reached : mg "reached" = some (.ref a_reached)
  b_reached : Binds K d_reached ["web"] []
  a_look_web : Addr
  d_look_web : FuncData
  F_look_web : Fun K "look_web" "look_web" s_look_web a_look_web d_look_web
  g_look_web : mg "look_web" = some (.ref a_look_web)
  b_look_web : Binds K d_look_web ["web"] []
  a_must_be_kind : Addr
  d_must_be_kind : FuncData
  F_must_be_kind : Fun K "must_be_kind" "must_be_kind" s_must_be_kind a_must_be_kind d_must_be_kind
  g_must_be_kind : mg "must_be_kind" = some (.ref a_must_be_kind)
  b_must_be_kind : Binds K d_must_be_kind ["kind"] []
  a_length_of : Addr
  d_length_of : FuncData
  F_length_of : Fun K "length_of" "length_of" s_length_of a_length_of d_length_of
  g_length_of : mg "length_of" = some (.ref a_length_of)
  b_length_of : Binds K d_length_of ["web", "a", "b"] []
  a_is_whole : Addr
  d_is_whole : FuncData
  F_is_whole : Fun K "is_whole" "is_whole" s_is_whole a_is_whole d_is_whole
  g_is_whole : mg "is_whole" = some (.ref a_is_whole)
  b_is_whole : Binds K d_is_whole ["thing"] []
  a_walk_goes_on : Addr
  d_walk_goes_on : FuncData
  F_walk_goes_on : Fun K "walk_goes_on" "walk_goes_on" s_walk_goes_on a_walk_goes_on d_walk_goes_on
  g_walk_goes_on : mg "walk_goes_on" = some (.ref a_walk_goes_on)
  b_walk_goes_on : Binds K d_walk_goes_on ["web", "come", "ahead", "thing"] []
  a_spread_goes_on : Addr
  d_spread_goes_on : FuncData
  F_spread_goes_on : Fun K "spread_goes_on" "spread_goes_on" s_spread_goes_on a_spread_goes_on d_spread_goes_on
  g_spread_goes_on : mg "spread_goes_on" = some (.ref a_spread_goes_on)
  b_spread_goes_on : Binds K d_spread_goes_on ["web", "come", "thing"] []
  a_first_wrong : Addr
  d_first_wrong : FuncData
  F_first_wrong : Fun K "first_wrong" "first_wrong" s_first_wrong a_first_wrong d_first_wrong
  g_first_wrong : mg "first_wrong" = some (.ref a_first_wrong)
  b_first_wrong : Binds K d_first_wrong ["web", "kind", "plan"] []
  a_costs_of : Addr
  d_costs_of : FuncData
  F_costs_of : Fun K "costs_of" "costs_of" s_costs_of a_costs_of d_costs_of
  g_costs_of : mg "costs_of" = some (.ref a_costs_of)
  b_costs_of : Binds K d_costs_of ["web", "kind", "plan"] []
  a__law_purse : Addr
  d__law_purse : FuncData
  F__law_purse : Fun K "_law_purse" "_law_purse" s__law_purse a__law_purse d__law_purse
  g__law_purse : mg "_law_purse" = some (.ref a__law_purse)
  b__law_purse : Binds K d__law_purse ["_law_script"] []
  a__law_draw : Addr
  d__law_draw : FuncData
  F__law_draw : Fun K "_law_draw" "_law_draw" s__law_draw a__law_draw d__law_draw
  g__law_draw : mg "_law_draw" = some (.ref a__law_draw)
  b__law_draw : Binds K d__law_draw ["_law_purse_here", "_law_out_of"] []
  a__law_low : Addr
  d__law_low : FuncData
  F__law_low : Fun K "_law_low" "_law_low" s__law_low a__law_low d__law_low
  g__law_low : mg "_law_low" = some (.ref a__law_low)
  b__law_low : Binds K d__law_low ["_law_top", "_law_bottom"] []
  a__law_web : Addr
  d__law_web : FuncData
  F__law_web : Fun K "_law_web" "_law_web" s__law_web a__law_web d__law_web
  g__law_web : mg "_law_web" = some (.ref a__law_web)
  b__law_web : Binds K d__law_web ["_law_purse_here", "_law_most"] []
  a__law_road : Addr
  d__law_road : FuncData
  F__law_road : Fun K "_law_road" "_law_road" s__law_road a__law_road d__law_road
  g__law_road : mg "_law_road" = some (.ref a__law_road)
  b__law_road : Binds K d__law_road ["_law_web_here", "_law_start", "_law_goal"] []
  a__law_walk : Addr
  d__law_walk : FuncData
  F__law_walk : Fun K "_law_walk" "_law_walk" s__law_walk a__law_walk d__law_walk
  g__law_walk : mg "_law_walk" = some (.ref a__law_walk)
  b__law_walk : Binds K d__law_walk ["_law_purse_here", "_law_web_here"] []
  a_law : Addr
  d_law : FuncData
  F_law : Fun K "law" "law" s_law a_law d_law
  g_law : mg "law" = some (.ref a_law)
  b_law : Binds K d_law ["_law_script"] []
  z_abs : mg "abs" = none
  z_sum : mg "sum" = none
  z_list : mg "list" = none
  z_zip : mg "zip" = none
  z_min : mg "min" = none
  z_max : mg "max" = none
  z_sorted : mg "sorted" = none
  z_len : mg "len" = none
  z_enumerate : mg "enumerate" = none
  z_int : mg "int" = none
  z_isinstance : mg "isinstance" = none
  z_bool : mg "bool" = none
  z_tuple : mg "tuple" = none
  z_range : mg "range" = none
  t_LONGEST : Tok
  c_LONGEST : mg "LONGEST" = some (.int 1000000 t_LONGEST)
  t_MOST_PLACES : Tok
  c_MOST_PLACES : mg "MOST_PLACES" = some (.int 60 t_MOST_PLACES)
  t_MOST_ROADS : Tok
  c_MOST_ROADS : mg "MOST_ROADS" = some (.int 120 t_MOST_ROADS)
section
variable {P : Program} {w : World} {K : PySem.W.Frag} {mg : Str → Option Value} {base : Heap}
theorem ok_divisor (T : Tx K mg) : FnOk P w K mg base (L2.CX P w) 2 T.a_divisor T.d_divisor ["one", "other"] (spD ⟨K, mg⟩ F_divisor) :=
  fn_mk (k := 1) (keep := false) (body := b_divisor) T.F_divisor sc_divisor rfl fun cdv A outer s H E hr => by
    have nd := sc_divisor.nd
    have tk : Takes (cxOf (L2.CX P w) P w K mg base ["one", "other"] "divisor" (defScope s_divisor) T.a_divisor cdv A outer s H E) (fun cls d _ H' => E cls d H') := takes_of rfl rfl rfl rfl
    exact (pssd_cons (psd_set (i := 0) nd (pd_callB cd_abs (by rfl) T.z_abs (by decide +kernel) (pad_cons (pd_var (i := 0)) pad_nil)))
      (pssd_cons (psd_set (i := 1) nd (pd_callB cd_abs (by rfl) T.z_abs (by decide +kernel) (pad_cons (pd_var (i := 1)) pad_nil)))
      (pssd_cons (psd_while (passes_of rfl) (ptd_cmp (od_ne hr.units) (pd_var (i := 1)) pd_int) (pssd_one (psd_par (i := 0) (j := 1) rfl nd (by decide) (pad_cons (pd_var (i := 1)) (pad_cons (pd_op od_mod (pd_var (i := 0)) (pd_var (i := 1))) pad_nil)) (by rfl))))
      (pssd_one (psd_ret (pd_var (i := 0)))))))
theorem ok_ratio (T : Tx K mg) : FnOk P w K mg base (L2.CX P w) 3 T.a_ratio T.d_ratio ["top", "bottom"] (spD ⟨K, mg⟩ F_ratio) :=
  fn_mk (k := 2) (keep := false) (body := b_ratio) T.F_ratio sc_ratio rfl fun cdv A outer s H E hr => by
    have nd := sc_ratio.nd
    have tk : Takes (cxOf (L2.CX P w) P w K mg base ["top", "bottom", "by"] "ratio" (defScope s_ratio) T.a_ratio cdv A outer s H E) (fun cls d _ H' => E cls d H') := takes_of rfl rfl rfl rfl
    exact (pssd_cons (psd_if (ptd_cmp (od_eq hr.units) (pd_var (i := 1)) pd_int) (pssd_one psd_never) pssd_nil)
      (pssd_cons (psd_set (i := 2) nd (pd_call (ok_divisor T) (hr.mono (by decide)) T.g_divisor T.F_divisor.kp T.b_divisor tk (pad_cons (pd_var (i := 0)) (pad_cons (pd_var (i := 1)) pad_nil))))
      (pssd_cons (psd_if (ptd_cmp od_lt (pd_var (i := 1)) pd_int) (pssd_one (psd_set (i := 2) nd (pd_op od_sub pd_int (pd_var (i := 2))))) pssd_nil)
      (pssd_one (psd_ret (pd_tup (pad_cons (pd_op od_fdiv (pd_var (i := 0)) (pd_var (i := 2))) (pad_cons (pd_op od_fdiv (pd_var (i := 1)) (pd_var (i := 2))) pad_nil))))))))
theorem ok_whole_of (T : Tx K mg) : FnOk P w K mg base (L2.CX P w) 2 T.a_whole_of T.d_whole_of ["paper"] (spD ⟨K, mg⟩ F_whole_of) :=
  fn_mk (k := 1) (keep := false) (body := b_whole_of) T.F_whole_of sc_whole_of rfl fun cdv A outer s H E hr => by
    have nd := sc_whole_of.nd
    have tk : Takes (cxOf (L2.CX P w) P w K mg base ["paper", "plan", "weight"] "whole_of" (defScope s_whole_of) T.a_whole_of cdv A outer s H E) (fun cls d _ H' => E cls d H') := takes_of rfl rfl rfl rfl
    exact (pssd_one (psd_ret (pd_callB (cd_sum rfl) (by rfl) T.z_sum (by decide +kernel) (pad_cons (pd_lc (own := [("plan", 1), ("weight", 2)]) mk_F (tg_T2 (by decide) (by decide)) rfl nd (pid_list (pd_var (i := 0))) (blkOk_by (N := ["paper", "plan", "weight"]) (sc := defScope s_whole_of) (by decide +kernel)) (fun _ _ _ _ _ => pg_tup rfl (pgs_cons (pg_name (i := 1) nd rfl (Or.inl rfl)) (pgs_cons (pg_name (i := 2) nd rfl (Or.inl rfl)) pgs_nil))) (fun _ _ _ _ _ => (pd_var (i := 2)))) pad_nil))))
theorem ok_played (T : Tx K mg) : FnOk P w K mg base (L2.CX P w) 3 T.a_played T.d_played ["paper", "number"] (spD ⟨K, mg⟩ F_played) :=
  fn_mk (k := 2) (keep := false) (body := b_played) T.F_played sc_played rfl fun cdv A outer s H E hr => by
    have nd := sc_played.nd
    have tk : Takes (cxOf (L2.CX P w) P w K mg base ["paper", "number", "at", "left"] "played" (defScope s_played) T.a_played cdv A outer s H E) (fun cls d _ H' => E cls d H') := takes_of rfl rfl rfl rfl
    exact (pssd_cons (psd_if (PWD.pt (pwd_or (ptd_cmp od_lt (pd_var (i := 1)) pd_int) (pwd_or1 (ptd_cmp od_ge (pd_var (i := 1)) (pd_call (ok_whole_of T) (hr.mono (by decide)) T.g_whole_of T.F_whole_of.kp T.b_whole_of tk (pad_cons (pd_var (i := 0)) pad_nil)))))) (pssd_one psd_never) pssd_nil)
      (pssd_cons (psd_set (i := 2) nd pd_int)
      (pssd_cons (psd_set (i := 3) nd (pd_op od_sub (pd_var (i := 1)) (pd_ix ixd (pd_ix ixd (pd_var (i := 0)) pd_int) pd_int)))
      (pssd_cons (psd_while (passes_of rfl) (ptd_cmp od_ge (pd_var (i := 3)) pd_int) (pssd_cons (psd_aug (i := 2) nd id_add pd_int)
      (pssd_one (psd_aug (i := 3) nd id_sub (pd_ix ixd (pd_ix ixd (pd_var (i := 0)) (pd_var (i := 2))) pd_int)))))
      (pssd_one (psd_ret (pd_callTy (cd_list mk_F) (by rfl) T.z_list (by decide +kernel) (pad_cons (pd_ix ixd (pd_ix ixd (pd_var (i := 0)) (pd_var (i := 2))) pd_int) pad_nil))))))))
theorem ok_average (T : Tx K mg) : FnOk P w K mg base (L2.CX P w) 4 T.a_average T.d_average ["numbers", "weights"] (spD ⟨K, mg⟩ F_average) :=
  fn_mk (k := 3) (keep := false) (body := b_average) T.F_average sc_average rfl fun cdv A outer s H E hr => by
    have nd := sc_average.nd
    have tk : Takes (cxOf (L2.CX P w) P w K mg base ["numbers", "weights", "total", "number", "weight"] "average" (defScope s_average) T.a_average cdv A outer s H E) (fun cls d _ H' => E cls d H') := takes_of rfl rfl rfl rfl
    exact (pssd_cons (psd_set (i := 2) nd (pd_callB (cd_sum rfl) (by rfl) T.z_sum (by decide +kernel) (pad_cons (pd_lc (own := [("number", 3), ("weight", 4)]) mk_F (tg_T2 (by decide) (by decide)) rfl nd (pid_zip T.z_zip (pad_cons (pd_var (i := 0)) (pad_cons (pd_var (i := 1)) pad_nil))) (blkOk_by (N := ["numbers", "weights", "total", "number", "weight"]) (sc := defScope s_average) (by decide +kernel)) (fun _ _ _ _ _ => pg_tup rfl (pgs_cons (pg_name (i := 3) nd rfl (Or.inl rfl)) (pgs_cons (pg_name (i := 4) nd rfl (Or.inl rfl)) pgs_nil))) (fun _ _ _ _ _ => (pd_op (od_mul mk_F) (pd_var (i := 3)) (pd_var (i := 4))))) pad_nil)))
      (pssd_one (psd_ret (pd_call (ok_ratio T) (hr.mono (by decide)) T.g_ratio T.F_ratio.kp T.b_ratio tk (pad_cons (pd_var (i := 2)) (pad_cons (pd_callB (cd_sum rfl) (by rfl) T.z_sum (by decide +kernel) (pad_cons (pd_var (i := 1)) pad_nil)) pad_nil))))))
theorem ok_is_road (T : Tx K mg) : FnOk P w K mg base (L2.CX P w) 2 T.a_is_road T.d_is_road ["many", "road"] (spD ⟨K, mg⟩ F_is_road) :=
  fn_mk (k := 1) (keep := false) (body := b_is_road) T.F_is_road sc_is_road rfl fun cdv A outer s H E hr => by
    have nd := sc_is_road.nd
    have tk : Takes (cxOf (L2.CX P w) P w K mg base ["many", "road", "a", "b", "length"] "is_road" (defScope s_is_road) T.a_is_road cdv A outer s H E) (fun cls d _ H' => E cls d H') := takes_of rfl rfl rfl rfl
    exact (pssd_cons (psd_asg (pd_var (i := 1)) (pgd_tup rfl (pgsd_cons (pgd_name (i := 2) nd) (pgsd_cons (pgd_name (i := 3) nd) (pgsd_cons (pgd_name (i := 4) nd) pgsd_nil)))))
      (pssd_cons (psd_if (PWD.pt (pwd_or (ptd_cmp od_lt (pd_callB (cd_min rfl) (by rfl) T.z_min (by decide +kernel) (pad_cons (pd_var (i := 2)) (pad_cons (pd_var (i := 3)) pad_nil))) pd_int) (pwd_or (ptd_cmp od_ge (pd_callB (cd_max rfl) (by rfl) T.z_max (by decide +kernel) (pad_cons (pd_var (i := 2)) (pad_cons (pd_var (i := 3)) pad_nil))) (pd_var (i := 0))) (pwd_or1 (ptd_cmp (od_eq hr.units) (pd_var (i := 2)) (pd_var (i := 3))))))) (pssd_one (psd_ret pd_bl)) pssd_nil)
      (pssd_one (psd_ret (pd_and (pd_cmp od_le pd_int (pd_var (i := 4))) (pd_one (pd_cmp od_le (pd_var (i := 4)) (pd_gint T.c_LONGEST))))))))
theorem ok_roads_from (T : Tx K mg) : FnOk P w K mg base (L2.CX P w) 2 T.a_roads_from T.d_roads_from ["web", "place"] (spD ⟨K, mg⟩ F_roads_from) :=
  fn_mk (k := 1) (keep := false) (body := b_roads_from) T.F_roads_from sc_roads_from rfl fun cdv A outer s H E hr => by
    have nd := sc_roads_from.nd
    have tk : Takes (cxOf (L2.CX P w) P w K mg base ["web", "place", "near", "a", "b", "length", "other"] "roads_from" (defScope s_roads_from) T.a_roads_from cdv A outer s H E) (fun cls d _ H' => E cls d H') := takes_of rfl rfl rfl rfl
    exact (pssd_cons (psd_set (i := 2) nd pd_dct0)
      (pssd_cons (psd_for (passes_of rfl) rfl (pid_list (pd_ix ixd (pd_var (i := 0)) pd_int)) (pgd_tup rfl (pgsd_cons (pgd_name (i := 3) nd) (pgsd_cons (pgd_name (i := 4) nd) (pgsd_cons (pgd_name (i := 5) nd) pgsd_nil)))) (pssd_one (psd_if (PWD.pt (pwd_or (ptd_cmp (od_eq hr.units) (pd_var (i := 3)) (pd_var (i := 1))) (pwd_or1 (ptd_cmp (od_eq hr.units) (pd_var (i := 4)) (pd_var (i := 1)))))) (pssd_cons (psd_set (i := 6) nd (pd_op od_sub (pd_op (od_add mk_F) (pd_var (i := 3)) (pd_var (i := 4))) (pd_var (i := 1))))
      (pssd_one (psd_sub (sd_dict (units1 hr)) (pd_callB (cd_min rfl) (by rfl) T.z_min (by decide +kernel) (pad_cons (pd_var (i := 5)) (pad_cons (pd_get2 (units1 hr) (pd_var (i := 2)) (pd_var (i := 6)) (pd_var (i := 5))) pad_nil))) (pd_var (i := 2)) (pd_var (i := 6))))) pssd_nil)))
      (pssd_one (psd_ret (pd_lc (own := [("other", 6)]) mk_F (tg_N (by decide)) rfl nd (pid_list (pd_callB (cd_sortK mk_F rfl) (by rfl) T.z_sorted (by decide +kernel) (pad_cons (pd_var (i := 2)) pad_nil))) (blkOk_by (N := ["web", "place", "near", "a", "b", "length", "other"]) (sc := defScope s_roads_from) (by decide +kernel)) (fun _ _ _ _ _ => pg_name (i := 6) nd rfl (Or.inl rfl)) (fun _ _ _ _ _ => (pd_tup (pad_cons (pd_var (i := 6)) (pad_cons (pd_dkx (units1 hr) (pd_var (i := 2)) (pd_var (i := 6))) pad_nil)))))))))
theorem ok_reached (T : Tx K mg) : FnOk P w K mg base (L2.CX P w) 3 T.a_reached T.d_reached ["web"] (spD ⟨K, mg⟩ F_reached) :=
  fn_mk (k := 2) (keep := false) (body := b_reached) T.F_reached sc_reached rfl fun cdv A outer s H E hr => by
    have nd := sc_reached.nd
    have tk : Takes (cxOf (L2.CX P w) P w K mg base ["web", "row", "at", "other", "length"] "reached" (defScope s_reached) T.a_reached cdv A outer s H E) (fun cls d _ H' => E cls d H') := takes_of rfl rfl rfl rfl
    exact (pssd_cons (psd_set (i := 1) nd (pd_lst mk_C (pad_cons pd_int pad_nil)))
      (pssd_cons (psd_set (i := 2) nd pd_int)
      (pssd_cons (psd_frz (i := 1) (psd_while (passes_of rfl) (ptd_cmp od_lt (pd_var (i := 2)) (pd_callB cd_len (by rfl) T.z_len (by decide +kernel) (pad_cons (pd_var (i := 1)) pad_nil))) (pssd_cons (psd_for (passes_of rfl) rfl (pid_list (pd_call (ok_roads_from T) (hr.mono (by decide)) T.g_roads_from T.F_roads_from.kp T.b_roads_from tk (pad_cons (pd_var (i := 0)) (pad_cons (pd_ix ixd (pd_var (i := 1)) (pd_var (i := 2))) pad_nil)))) (pgd_tup rfl (pgsd_cons (pgd_name (i := 3) nd) (pgsd_cons (pgd_name (i := 4) nd) pgsd_nil))) (pssd_one (psd_if (ptd_cmp od_notIn (pd_var (i := 3)) (pd_var (i := 1))) (pssd_one (psd_expr (pd_bm PySem.F.plainAttrs_list PySem.F.slot_list_append PySem.F.type_list_append md_append (pd_var (i := 1)) (pad_cons (pd_var (i := 3)) pad_nil)))) pssd_nil)))
      (pssd_one (psd_aug (i := 2) nd id_add pd_int)))))
      (pssd_one (psd_ret (pd_var (i := 1)))))))
theorem ok_look_web (T : Tx K mg) : FnOk P w K mg base (L2.CX P w) 4 T.a_look_web T.d_look_web ["web"] (spD ⟨K, mg⟩ F_look_web) :=
  fn_mk (k := 3) (keep := false) (body := b_look_web) T.F_look_web sc_look_web rfl fun cdv A outer s H E hr => by
    have nd := sc_look_web.nd
    have tk : Takes (cxOf (L2.CX P w) P w K mg base ["web", "many", "roads", "number", "road"] "look_web" (defScope s_look_web) T.a_look_web cdv A outer s H E) (fun cls d _ H' => E cls d H') := takes_of rfl rfl rfl rfl
    exact (pssd_cons (psd_asg (pd_var (i := 0)) (pgd_tup rfl (pgsd_cons (pgd_name (i := 1) nd) (pgsd_cons (pgd_name (i := 2) nd) pgsd_nil))))
      (pssd_cons (psd_for (passes_of rfl) rfl (pid_enum T.z_enumerate (pad_cons (pd_var (i := 2)) pad_nil)) (pgd_tup rfl (pgsd_cons (pgd_name (i := 3) nd) (pgsd_cons (pgd_name (i := 4) nd) pgsd_nil))) (pssd_one (psd_if (ptd_not (ptd_truth (pd_call (ok_is_road T) (hr.mono (by decide)) T.g_is_road T.F_is_road.kp T.b_is_road tk (pad_cons (pd_var (i := 1)) (pad_cons (pd_var (i := 4)) pad_nil))))) (pssd_one psd_never) pssd_nil)))
      (pssd_cons (psd_if (PWD.pt (pwd_or (ptd_cmp od_lt (pd_var (i := 1)) pd_int) (pwd_or (ptd_cmp od_gt (pd_var (i := 1)) (pd_gint T.c_MOST_PLACES)) (pwd_or1 (ptd_cmp od_gt (pd_callB cd_len (by rfl) T.z_len (by decide +kernel) (pad_cons (pd_var (i := 2)) pad_nil)) (pd_gint T.c_MOST_ROADS)))))) (pssd_one psd_never) pssd_nil)
      (pssd_one (psd_if (ptd_cmp (od_ne hr.units) (pd_callB cd_len (by rfl) T.z_len (by decide +kernel) (pad_cons (pd_call (ok_reached T) (hr.mono (by decide)) T.g_reached T.F_reached.kp T.b_reached tk (pad_cons (pd_var (i := 0)) pad_nil)) pad_nil)) (pd_var (i := 1))) (pssd_one psd_never) pssd_nil)))))
theorem ok_must_be_kind (T : Tx K mg) : FnOk P w K mg base (L2.CX P w) 2 T.a_must_be_kind T.d_must_be_kind ["kind"] (spD ⟨K, mg⟩ F_must_be_kind) :=
  fn_mk (k := 1) (keep := false) (body := b_must_be_kind) T.F_must_be_kind sc_must_be_kind rfl fun cdv A outer s H E hr => by
    have nd := sc_must_be_kind.nd
    have tk : Takes (cxOf (L2.CX P w) P w K mg base ["kind"] "must_be_kind" (defScope s_must_be_kind) T.a_must_be_kind cdv A outer s H E) (fun cls d _ H' => E cls d H') := takes_of rfl rfl rfl rfl
    exact (pssd_one (psd_if (PWD.pt (pwd_and (ptd_cmp (od_ne hr.units) (pd_var (i := 0)) pd_str) (pwd_and1 (ptd_cmp (od_ne hr.units) (pd_var (i := 0)) pd_str)))) (pssd_one psd_never) pssd_nil))
theorem ok_length_of (T : Tx K mg) : FnOk P w K mg base (L2.CX P w) 3 T.a_length_of T.d_length_of ["web", "a", "b"] (spD ⟨K, mg⟩ F_length_of) :=
  fn_mk (k := 2) (keep := false) (body := b_length_of) T.F_length_of sc_length_of rfl fun cdv A outer s H E hr => by
    have nd := sc_length_of.nd
    have tk : Takes (cxOf (L2.CX P w) P w K mg base ["web", "a", "b", "other", "length"] "length_of" (defScope s_length_of) T.a_length_of cdv A outer s H E) (fun cls d _ H' => E cls d H') := takes_of rfl rfl rfl rfl
    exact (pssd_cons (psd_for (passes_of rfl) rfl (pid_list (pd_call (ok_roads_from T) (hr.mono (by decide)) T.g_roads_from T.F_roads_from.kp T.b_roads_from tk (pad_cons (pd_var (i := 0)) (pad_cons (pd_var (i := 1)) pad_nil)))) (pgd_tup rfl (pgsd_cons (pgd_name (i := 3) nd) (pgsd_cons (pgd_name (i := 4) nd) pgsd_nil))) (pssd_one (psd_if (ptd_cmp (od_eq hr.units) (pd_var (i := 3)) (pd_var (i := 2))) (pssd_one (psd_ret (pd_var (i := 4)))) pssd_nil)))
      (pssd_one (psd_ret pd_non)))
theorem ok_is_whole (T : Tx K mg) : FnOk P w K mg base (L2.CX P w) 2 T.a_is_whole T.d_is_whole ["thing"] (spD ⟨K, mg⟩ F_is_whole) :=
  fn_mk (k := 1) (keep := false) (body := b_is_whole) T.F_is_whole sc_is_whole rfl fun cdv A outer s H E hr => by
    have nd := sc_is_whole.nd
    have tk : Takes (cxOf (L2.CX P w) P w K mg base ["thing"] "is_whole" (defScope s_is_whole) T.a_is_whole cdv A outer s H E) (fun cls d _ H' => E cls d H') := takes_of rfl rfl rfl rfl
    exact (pssd_one (psd_ret (pd_and (pd_callB cd_isi (by rfl) T.z_isinstance (by decide +kernel) (pad_cons (pd_var (i := 0)) (pad_cons (pd_ty T.z_int (by decide +kernel)) pad_nil))) (pd_one (pd_not (pd_callB cd_isi (by rfl) T.z_isinstance (by decide +kernel) (pad_cons (pd_var (i := 0)) (pad_cons (pd_ty T.z_bool (by decide +kernel)) pad_nil))))))))
theorem ok_walk_goes_on (T : Tx K mg) : FnOk P w K mg base (L2.CX P w) 4 T.a_walk_goes_on T.d_walk_goes_on ["web", "come", "ahead", "thing"] (spD ⟨K, mg⟩ F_walk_goes_on) :=
  fn_mk (k := 3) (keep := false) (body := b_walk_goes_on) T.F_walk_goes_on sc_walk_goes_on rfl fun cdv A outer s H E hr => by
    have nd := sc_walk_goes_on.nd
    have tk : Takes (cxOf (L2.CX P w) P w K mg base ["web", "come", "ahead", "thing"] "walk_goes_on" (defScope s_walk_goes_on) T.a_walk_goes_on cdv A outer s H E) (fun cls d _ H' => E cls d H') := takes_of rfl rfl rfl rfl
    exact (pssd_cons (psd_if (ptd_not (ptd_truth (pd_call (ok_is_whole T) (hr.mono (by decide)) T.g_is_whole T.F_is_whole.kp T.b_is_whole tk (pad_cons (pd_var (i := 3)) pad_nil)))) (pssd_one (psd_ret pd_bl)) pssd_nil)
      (pssd_cons (psd_if (ptd_cmp (od_eq hr.units) (pd_var (i := 1)) (pd_lst mk_F pad_nil)) (pssd_one (psd_ret (pd_cmp (od_eq hr.units) (pd_var (i := 3)) pd_int))) pssd_nil)
      (pssd_one (psd_ret (pd_cmp od_isNotN (pd_call (ok_length_of T) (hr.mono (by decide)) T.g_length_of T.F_length_of.kp T.b_length_of tk (pad_cons (pd_var (i := 0)) (pad_cons (pd_var (i := 2)) (pad_cons (pd_var (i := 3)) pad_nil)))) pd_non)))))
theorem ok_spread_goes_on (T : Tx K mg) : FnOk P w K mg base (L2.CX P w) 4 T.a_spread_goes_on T.d_spread_goes_on ["web", "come", "thing"] (spD ⟨K, mg⟩ F_spread_goes_on) :=
  fn_mk (k := 3) (keep := false) (body := b_spread_goes_on) T.F_spread_goes_on sc_spread_goes_on rfl fun cdv A outer s H E hr => by
    have nd := sc_spread_goes_on.nd
    have tk : Takes (cxOf (L2.CX P w) P w K mg base ["web", "come", "thing"] "spread_goes_on" (defScope s_spread_goes_on) T.a_spread_goes_on cdv A outer s H E) (fun cls d _ H' => E cls d H') := takes_of rfl rfl rfl rfl
    exact (pssd_cons (psd_if (PWD.pt (pwd_or (ptd_not (ptd_truth (pd_callB cd_isi (by rfl) T.z_isinstance (by decide +kernel) (pad_cons (pd_var (i := 2)) (pad_cons (pd_ty T.z_tuple (by decide +kernel)) pad_nil))))) (pwd_or (ptd_cmp (od_ne hr.units) (pd_callB cd_len (by rfl) T.z_len (by decide +kernel) (pad_cons (pd_var (i := 2)) pad_nil)) pd_int) (pwd_or (ptd_not (ptd_truth (pd_call (ok_is_whole T) (hr.mono (by decide)) T.g_is_whole T.F_is_whole.kp T.b_is_whole tk (pad_cons (pd_ix ixd (pd_var (i := 2)) pd_int) pad_nil)))) (pwd_or1 (ptd_not (ptd_truth (pd_call (ok_is_whole T) (hr.mono (by decide)) T.g_is_whole T.F_is_whole.kp T.b_is_whole tk (pad_cons (pd_ix ixd (pd_var (i := 2)) pd_int) pad_nil))))))))) (pssd_one (psd_ret pd_bl)) pssd_nil)
      (pssd_one (psd_ret (pd_and (pd_cmp od_in (pd_ix ixd (pd_var (i := 2)) pd_int) (pd_var (i := 1))) (pd_and (pd_cmp od_notIn (pd_ix ixd (pd_var (i := 2)) pd_int) (pd_var (i := 1))) (pd_one (pd_cmp od_isNotN (pd_call (ok_length_of T) (hr.mono (by decide)) T.g_length_of T.F_length_of.kp T.b_length_of tk (pad_cons (pd_var (i := 0)) (pad_cons (pd_ix ixd (pd_var (i := 2)) pd_int) (pad_cons (pd_ix ixd (pd_var (i := 2)) pd_int) pad_nil)))) pd_non)))))))
theorem ok_first_wrong (T : Tx K mg) : FnOk P w K mg base (L2.CX P w) 5 T.a_first_wrong T.d_first_wrong ["web", "kind", "plan"] (spD ⟨K, mg⟩ F_first_wrong) :=
  fn_mk (k := 4) (keep := false) (body := b_first_wrong) T.F_first_wrong sc_first_wrong rfl fun cdv A outer s H E hr => by
    have nd := sc_first_wrong.nd
    have tk : Takes (cxOf (L2.CX P w) P w K mg base ["web", "kind", "plan", "come", "ahead", "number", "thing"] "first_wrong" (defScope s_first_wrong) T.a_first_wrong cdv A outer s H E) (fun cls d _ H' => E cls d H') := takes_of rfl rfl rfl rfl
    exact (pssd_cons (psd_if (ptd_not (ptd_truth (pd_callB cd_isi (by rfl) T.z_isinstance (by decide +kernel) (pad_cons (pd_var (i := 2)) (pad_cons (pd_ty T.z_list (by decide +kernel)) pad_nil))))) (pssd_one (psd_ret pd_int)) pssd_nil)
      (pssd_cons (psd_set (i := 3) nd (pd_lst mk_C (pad_cons pd_int pad_nil)))
      (pssd_cons (psd_if (ptd_cmp (od_eq hr.units) (pd_var (i := 1)) pd_str) (pssd_one (psd_set (i := 3) nd (pd_lst mk_C pad_nil))) pssd_nil)
      (pssd_cons (psd_set (i := 4) nd pd_int)
      (pssd_cons (psd_for (passes_of rfl) rfl (pid_enum T.z_enumerate (pad_cons (pd_var (i := 2)) pad_nil)) (pgd_tup rfl (pgsd_cons (pgd_name (i := 5) nd) (pgsd_cons (pgd_name (i := 6) nd) pgsd_nil))) (pssd_cons (psd_if (ptd_cmp (od_eq hr.units) (pd_var (i := 1)) pd_str) (pssd_cons (psd_if (ptd_not (ptd_truth (pd_call (ok_walk_goes_on T) (hr.mono (by decide)) T.g_walk_goes_on T.F_walk_goes_on.kp T.b_walk_goes_on tk (pad_cons (pd_var (i := 0)) (pad_cons (pd_var (i := 3)) (pad_cons (pd_var (i := 4)) (pad_cons (pd_var (i := 6)) pad_nil))))))) (pssd_one (psd_ret (pd_var (i := 5)))) pssd_nil)
      (pssd_one (psd_set (i := 4) nd (pd_var (i := 6))))) (pssd_cons (psd_if (ptd_not (ptd_truth (pd_call (ok_spread_goes_on T) (hr.mono (by decide)) T.g_spread_goes_on T.F_spread_goes_on.kp T.b_spread_goes_on tk (pad_cons (pd_var (i := 0)) (pad_cons (pd_var (i := 3)) (pad_cons (pd_var (i := 6)) pad_nil)))))) (pssd_one (psd_ret (pd_var (i := 5)))) pssd_nil)
      (pssd_one (psd_set (i := 4) nd (pd_ix ixd (pd_var (i := 6)) pd_int)))))
      (pssd_one (psd_if (ptd_cmp od_notIn (pd_var (i := 4)) (pd_var (i := 3))) (pssd_one (psd_expr (pd_bm PySem.F.plainAttrs_list PySem.F.slot_list_append PySem.F.type_list_append md_append (pd_var (i := 3)) (pad_cons (pd_var (i := 4)) pad_nil)))) pssd_nil))))
      (pssd_cons (psd_if (ptd_cmp od_lt (pd_callB cd_len (by rfl) T.z_len (by decide +kernel) (pad_cons (pd_var (i := 3)) pad_nil)) (pd_ix ixd (pd_var (i := 0)) pd_int)) (pssd_one (psd_ret (pd_callB cd_len (by rfl) T.z_len (by decide +kernel) (pad_cons (pd_var (i := 2)) pad_nil)))) pssd_nil)
      (pssd_one (psd_ret pd_non))))))))
theorem ok_costs_of (T : Tx K mg) : FnOk P w K mg base (L2.CX P w) 6 T.a_costs_of T.d_costs_of ["web", "kind", "plan"] (spD ⟨K, mg⟩ F_costs_of) :=
  fn_mk (k := 5) (keep := false) (body := b_costs_of) T.F_costs_of sc_costs_of rfl fun cdv A outer s H E hr => by
    have nd := sc_costs_of.nd
    have tk : Takes (cxOf (L2.CX P w) P w K mg base ["web", "kind", "plan", "wrong", "costs", "total", "ahead", "thing", "start", "goal", "place"] "costs_of" (defScope s_costs_of) T.a_costs_of cdv A outer s H E) (fun cls d _ H' => E cls d H') := takes_of rfl rfl rfl rfl
    exact (pssd_cons (psd_expr (pd_call (ok_look_web T) (hr.mono (by decide)) T.g_look_web T.F_look_web.kp T.b_look_web tk (pad_cons (pd_var (i := 0)) pad_nil)))
      (pssd_cons (psd_expr (pd_call (ok_must_be_kind T) (hr.mono (by decide)) T.g_must_be_kind T.F_must_be_kind.kp T.b_must_be_kind tk (pad_cons (pd_var (i := 1)) pad_nil)))
      (pssd_cons (psd_set (i := 3) nd (pd_call (ok_first_wrong T) (hr.mono (by decide)) T.g_first_wrong T.F_first_wrong.kp T.b_first_wrong tk (pad_cons (pd_var (i := 0)) (pad_cons (pd_var (i := 1)) (pad_cons (pd_var (i := 2)) pad_nil)))))
      (pssd_cons (psd_if (ptd_cmp od_isNotN (pd_var (i := 3)) pd_non) (pssd_one psd_never) pssd_nil)
      (pssd_cons (psd_set (i := 4) nd (pd_dct1 pd_int pd_int))
      (pssd_cons (psd_set (i := 5) nd pd_int)
      (pssd_cons (psd_set (i := 6) nd pd_int)
      (pssd_cons (psd_for (passes_of rfl) rfl (pid_list (pd_var (i := 2))) (pgd_name (i := 7) nd) (pssd_cons (psd_par (i := 8) (j := 9) rfl nd (by decide) (pad_cons (pd_var (i := 6)) (pad_cons (pd_var (i := 7)) pad_nil)) (by rfl))
      (pssd_cons (psd_if (ptd_cmp (od_eq hr.units) (pd_var (i := 1)) pd_str) (pssd_one (psd_asg (pd_var (i := 7)) (pgd_tup rfl (pgsd_cons (pgd_name (i := 8) nd) (pgsd_cons (pgd_name (i := 9) nd) pgsd_nil))))) pssd_nil)
      (pssd_cons (psd_if (ptd_cmp (od_ne hr.units) (pd_var (i := 8)) (pd_var (i := 9))) (pssd_one (psd_aug (i := 5) nd id_add (pd_call (ok_length_of T) (hr.mono (by decide)) T.g_length_of T.F_length_of.kp T.b_length_of tk (pad_cons (pd_var (i := 0)) (pad_cons (pd_var (i := 8)) (pad_cons (pd_var (i := 9)) pad_nil)))))) pssd_nil)
      (pssd_cons (psd_expr (pd_setd (pd_var (i := 4)) (pd_var (i := 9)) (pd_var (i := 5))))
      (pssd_one (psd_set (i := 6) nd (pd_var (i := 9)))))))))
      (pssd_one (psd_ret (pd_lc (own := [("place", 10)]) mk_F (tg_N (by decide)) rfl nd (pid_range1 T.z_range (pad_cons (pd_ix ixd (pd_var (i := 0)) pd_int) pad_nil)) (blkOk_by (N := ["web", "kind", "plan", "wrong", "costs", "total", "ahead", "thing", "start", "goal", "place"]) (sc := defScope s_costs_of) (by decide +kernel)) (fun _ _ _ _ _ => pg_name (i := 10) nd rfl (Or.inl rfl)) (fun _ _ _ _ _ => (pd_dkx (units1 hr) (pd_var (i := 4)) (pd_var (i := 10)))))))))))))))
theorem ok__law_purse (T : Tx K mg) : FnOk P w K mg base (L2.CX P w) 2 T.a__law_purse T.d__law_purse ["_law_script"] (spD ⟨K, mg⟩ F__law_purse) :=
  fn_mk (k := 1) (keep := true) (body := b__law_purse) T.F__law_purse sc__law_purse rfl fun cdv A outer s H E hr => by
    have nd := sc__law_purse.nd
    have tk : Takes (cxOf (L2.CX P w) P w K mg base ["_law_script", "_law_cells"] "_law_purse" (defScope s__law_purse) T.a__law_purse cdv A outer s H E) (fun cls d _ H' => E cls d H') := takes_of rfl rfl rfl rfl
    exact (pssd_cons (psd_set (i := 1) nd (pd_slice mk_C (pd_var (i := 0)) pod_none (pod_some pd_int)))
      (pssd_cons (psd_if (ptd_cmp (od_eq hr.units) (pd_var (i := 1)) (pd_lst mk_F pad_nil)) (pssd_one (psd_set (i := 1) nd (pd_lst mk_C (pad_cons pd_int pad_nil)))) pssd_nil)
      (pssd_one (psd_ret (pd_lst mk_C (pad_cons (pd_var (i := 1)) (pad_cons pd_int pad_nil)))))))
theorem ok__law_draw (T : Tx K mg) : FnOk P w K mg base (L2.CX P w) 2 T.a__law_draw T.d__law_draw ["_law_purse_here", "_law_out_of"] (spD ⟨K, mg⟩ F__law_draw) :=
  fn_mk (k := 1) (keep := false) (body := b__law_draw) T.F__law_draw sc__law_draw rfl fun cdv A outer s H E hr => by
    have nd := sc__law_draw.nd
    have tk : Takes (cxOf (L2.CX P w) P w K mg base ["_law_purse_here", "_law_out_of", "_law_at", "_law_cell", "_law_number", "_law_cells", "_law_turn"] "_law_draw" (defScope s__law_draw) T.a__law_draw cdv A outer s H E) (fun cls d _ H' => E cls d H') := takes_of rfl rfl rfl rfl
    exact (pssd_cons (psd_asg (pd_var (i := 0)) (pgd_unl rfl (pgsd_cons (pgd_name (i := 5) nd) (pgsd_cons (pgd_name (i := 6) nd) pgsd_nil))))
      (pssd_cons (psd_set (i := 2) nd (pd_op od_mod (pd_var (i := 6)) (pd_callB cd_len (by rfl) T.z_len (by decide +kernel) (pad_cons (pd_var (i := 5)) pad_nil))))
      (pssd_cons (psd_set (i := 3) nd (pd_ix ixd (pd_var (i := 5)) (pd_var (i := 2))))
      (pssd_cons (psd_sub sd_list (pd_op (od_add mk_F) (pd_var (i := 6)) pd_int) (pd_var (i := 0)) pd_int)
      (pssd_cons (psd_if (ptd_cmp od_ge (pd_var (i := 3)) (pd_op od_pow pd_int pd_int)) (pssd_cons (psd_sub sd_list (pd_op od_fdiv (pd_var (i := 3)) (pd_var (i := 1))) (pd_var (i := 5)) (pd_var (i := 2)))
      (pssd_one (psd_ret (pd_op od_mod (pd_var (i := 3)) (pd_var (i := 1)))))) pssd_nil)
      (pssd_cons (psd_set (i := 4) nd (pd_op od_mod (pd_op (od_add mk_F) (pd_op (od_add mk_F) (pd_op (od_mul mk_F) (pd_var (i := 3)) pd_int) (pd_op (od_mul mk_F) (pd_op (od_mul mk_F) (pd_var (i := 6)) (pd_var (i := 6))) pd_int)) pd_int) pd_int))
      (pssd_cons (psd_set (i := 4) nd (pd_op od_mod (pd_op (od_mul mk_F) (pd_var (i := 4)) (pd_var (i := 4))) pd_int))
      (pssd_one (psd_ret (pd_op od_mod (pd_op od_mod (pd_op (od_mul mk_F) (pd_var (i := 4)) (pd_var (i := 4))) pd_int) (pd_var (i := 1))))))))))))
theorem ok__law_low (T : Tx K mg) : FnOk P w K mg base (L2.CX P w) 2 T.a__law_low T.d__law_low ["_law_top", "_law_bottom"] (spD ⟨K, mg⟩ F__law_low) :=
  fn_mk (k := 1) (keep := false) (body := b__law_low) T.F__law_low sc__law_low rfl fun cdv A outer s H E hr => by
    have nd := sc__law_low.nd
    have tk : Takes (cxOf (L2.CX P w) P w K mg base ["_law_top", "_law_bottom", "_law_one", "_law_other", "_law_rest"] "_law_low" (defScope s__law_low) T.a__law_low cdv A outer s H E) (fun cls d _ H' => E cls d H') := takes_of rfl rfl rfl rfl
    exact (pssd_cons (psd_set (i := 2) nd (pd_callB cd_abs (by rfl) T.z_abs (by decide +kernel) (pad_cons (pd_var (i := 0)) pad_nil)))
      (pssd_cons (psd_set (i := 3) nd (pd_var (i := 1)))
      (pssd_cons (psd_while (passes_of rfl) (ptd_cmp (od_ne hr.units) (pd_var (i := 2)) pd_int) (pssd_cons (psd_set (i := 4) nd (pd_op od_mod (pd_var (i := 3)) (pd_var (i := 2))))
      (pssd_cons (psd_set (i := 3) nd (pd_var (i := 2)))
      (pssd_one (psd_set (i := 2) nd (pd_var (i := 4)))))))
      (pssd_one (psd_ret (pd_tup (pad_cons (pd_op od_fdiv (pd_var (i := 0)) (pd_var (i := 3))) (pad_cons (pd_op od_fdiv (pd_var (i := 1)) (pd_var (i := 3))) pad_nil))))))))
theorem ok__law_web (T : Tx K mg) : FnOk P w K mg base (L2.CX P w) 3 T.a__law_web T.d__law_web ["_law_purse_here", "_law_most"] (spD ⟨K, mg⟩ F__law_web) :=
  fn_mk (k := 2) (keep := false) (body := b__law_web) T.F__law_web sc__law_web rfl fun cdv A outer s H E hr => by
    have nd := sc__law_web.nd
    have tk : Takes (cxOf (L2.CX P w) P w K mg base ["_law_purse_here", "_law_most", "_law_many", "_law_roads", "_law_place", "_law_k", "_law_names", "_law_found", "_law_a", "_law_b", "_law_length"] "_law_web" (defScope s__law_web) T.a__law_web cdv A outer s H E) (fun cls d _ H' => E cls d H') := takes_of rfl rfl rfl rfl
    exact (pssd_cons (psd_set (i := 2) nd (pd_op (od_add mk_F) pd_int (pd_call (ok__law_draw T) (hr.mono (by decide)) T.g__law_draw T.F__law_draw.kp T.b__law_draw tk (pad_cons (pd_var (i := 0)) (pad_cons (pd_var (i := 1)) pad_nil)))))
      (pssd_cons (psd_set (i := 3) nd (pd_lst mk_C pad_nil))
      (pssd_cons (psd_for (passes_of rfl) rfl (pid_range2 T.z_range (pad_cons pd_int (pad_cons (pd_var (i := 2)) pad_nil))) (pgd_name (i := 4) nd) (pssd_one (psd_expr (pd_bm PySem.F.plainAttrs_list PySem.F.slot_list_append PySem.F.type_list_append md_append (pd_var (i := 3)) (pad_cons (pd_lst mk_F (pad_cons (pd_call (ok__law_draw T) (hr.mono (by decide)) T.g__law_draw T.F__law_draw.kp T.b__law_draw tk (pad_cons (pd_var (i := 0)) (pad_cons (pd_var (i := 4)) pad_nil))) (pad_cons (pd_var (i := 4)) pad_nil))) pad_nil)))))
      (pssd_cons (psd_frz (i := 3) (psd_for (passes_of rfl) rfl (pid_range1 T.z_range (pad_cons (pd_call (ok__law_draw T) (hr.mono (by decide)) T.g__law_draw T.F__law_draw.kp T.b__law_draw tk (pad_cons (pd_var (i := 0)) (pad_cons pd_int pad_nil))) pad_nil)) (pgd_name (i := 5) nd) (pssd_cons (psd_set (i := 8) nd (pd_call (ok__law_draw T) (hr.mono (by decide)) T.g__law_draw T.F__law_draw.kp T.b__law_draw tk (pad_cons (pd_var (i := 0)) (pad_cons (pd_var (i := 2)) pad_nil))))
      (pssd_cons (psd_set (i := 9) nd (pd_call (ok__law_draw T) (hr.mono (by decide)) T.g__law_draw T.F__law_draw.kp T.b__law_draw tk (pad_cons (pd_var (i := 0)) (pad_cons (pd_var (i := 2)) pad_nil))))
      (pssd_one (psd_if (ptd_cmp (od_ne hr.units) (pd_var (i := 8)) (pd_var (i := 9))) (pssd_one (psd_expr (pd_bm PySem.F.plainAttrs_list PySem.F.slot_list_insert PySem.F.type_list_insert md_insert (pd_var (i := 3)) (pad_cons (pd_call (ok__law_draw T) (hr.mono (by decide)) T.g__law_draw T.F__law_draw.kp T.b__law_draw tk (pad_cons (pd_var (i := 0)) (pad_cons (pd_op (od_add mk_F) (pd_callB cd_len (by rfl) T.z_len (by decide +kernel) (pad_cons (pd_var (i := 3)) pad_nil)) pd_int) pad_nil))) (pad_cons (pd_lst mk_F (pad_cons (pd_var (i := 8)) (pad_cons (pd_var (i := 9)) pad_nil))) pad_nil))))) pssd_nil))))))
      (pssd_cons (psd_set (i := 6) nd (pd_lst mk_C (pad_cons pd_int pad_nil)))
      (pssd_cons (psd_frz (i := 6) (psd_for (passes_of rfl) rfl (pid_range2 T.z_range (pad_cons pd_int (pad_cons (pd_var (i := 2)) pad_nil))) (pgd_name (i := 4) nd) (pssd_one (psd_expr (pd_bm PySem.F.plainAttrs_list PySem.F.slot_list_insert PySem.F.type_list_insert md_insert (pd_var (i := 6)) (pad_cons (pd_op (od_add mk_F) pd_int (pd_call (ok__law_draw T) (hr.mono (by decide)) T.g__law_draw T.F__law_draw.kp T.b__law_draw tk (pad_cons (pd_var (i := 0)) (pad_cons (pd_var (i := 4)) pad_nil)))) (pad_cons (pd_var (i := 4)) pad_nil)))))))
      (pssd_cons (psd_set (i := 7) nd (pd_lst mk_C pad_nil))
      (pssd_cons (psd_frz (i := 7) (psd_for (passes_of rfl) rfl (pid_list (pd_var (i := 3))) (pgd_unl rfl (pgsd_cons (pgd_name (i := 8) nd) (pgsd_cons (pgd_name (i := 9) nd) pgsd_nil))) (pssd_cons (psd_set (i := 10) nd (pd_op (od_add mk_F) pd_int (pd_call (ok__law_draw T) (hr.mono (by decide)) T.g__law_draw T.F__law_draw.kp T.b__law_draw tk (pad_cons (pd_var (i := 0)) (pad_cons (pd_ix ixd (pd_lst mk_F (pad_cons pd_int (pad_cons pd_int (pad_cons (pd_op od_pow pd_int pd_int) pad_nil)))) (pd_call (ok__law_draw T) (hr.mono (by decide)) T.g__law_draw T.F__law_draw.kp T.b__law_draw tk (pad_cons (pd_var (i := 0)) (pad_cons pd_int pad_nil)))) pad_nil)))))
      (pssd_one (psd_expr (pd_bm PySem.F.plainAttrs_list PySem.F.slot_list_append PySem.F.type_list_append md_append (pd_var (i := 7)) (pad_cons (pd_ix ixd (pd_lst mk_F (pad_cons (pd_tup (pad_cons (pd_ix ixd (pd_var (i := 6)) (pd_var (i := 8))) (pad_cons (pd_ix ixd (pd_var (i := 6)) (pd_var (i := 9))) (pad_cons (pd_var (i := 10)) pad_nil)))) (pad_cons (pd_tup (pad_cons (pd_ix ixd (pd_var (i := 6)) (pd_var (i := 9))) (pad_cons (pd_ix ixd (pd_var (i := 6)) (pd_var (i := 8))) (pad_cons (pd_var (i := 10)) pad_nil)))) pad_nil))) (pd_call (ok__law_draw T) (hr.mono (by decide)) T.g__law_draw T.F__law_draw.kp T.b__law_draw tk (pad_cons (pd_var (i := 0)) (pad_cons pd_int pad_nil)))) pad_nil)))))))
      (pssd_one (psd_ret (pd_tup (pad_cons (pd_var (i := 2)) (pad_cons (pd_var (i := 7)) pad_nil)))))))))))))
theorem ok__law_road (T : Tx K mg) : FnOk P w K mg base (L2.CX P w) 2 T.a__law_road T.d__law_road ["_law_web_here", "_law_start", "_law_goal"] (spD ⟨K, mg⟩ F__law_road) :=
  fn_mk (k := 1) (keep := false) (body := b__law_road) T.F__law_road sc__law_road rfl fun cdv A outer s H E hr => by
    have nd := sc__law_road.nd
    have tk : Takes (cxOf (L2.CX P w) P w K mg base ["_law_web_here", "_law_start", "_law_goal", "_law_ways", "_law_row", "_law_at", "_law_a", "_law_b", "_law_length", "_law_one", "_law_other"] "_law_road" (defScope s__law_road) T.a__law_road cdv A outer s H E) (fun cls d _ H' => E cls d H') := takes_of rfl rfl rfl rfl
    exact (pssd_cons (psd_set (i := 3) nd (pd_dct1 (pd_var (i := 1)) (pd_lst mk_F (pad_cons (pd_var (i := 1)) pad_nil))))
      (pssd_cons (psd_set (i := 4) nd (pd_lst mk_C (pad_cons (pd_var (i := 1)) pad_nil)))
      (pssd_cons (psd_set (i := 5) nd pd_int)
      (pssd_cons (psd_while (passes_of rfl) (ptd_cmp (od_notInK (units1 hr)) (pd_var (i := 2)) (pd_var (i := 3))) (pssd_cons (psd_for (passes_of rfl) rfl (pid_list (pd_ix ixd (pd_var (i := 0)) pd_int)) (pgd_tup rfl (pgsd_cons (pgd_name (i := 6) nd) (pgsd_cons (pgd_name (i := 7) nd) (pgsd_cons (pgd_name (i := 8) nd) pgsd_nil)))) (pssd_one (psd_for (passes_of rfl) rfl (pid_list (pd_lst mk_F (pad_cons (pd_tup (pad_cons (pd_var (i := 6)) (pad_cons (pd_var (i := 7)) pad_nil))) (pad_cons (pd_tup (pad_cons (pd_var (i := 7)) (pad_cons (pd_var (i := 6)) pad_nil))) pad_nil)))) (pgd_tup rfl (pgsd_cons (pgd_name (i := 9) nd) (pgsd_cons (pgd_name (i := 10) nd) pgsd_nil))) (pssd_one (psd_if (PWD.pt (pwd_and (ptd_cmp (od_eq hr.units) (pd_var (i := 9)) (pd_ix ixd (pd_var (i := 4)) (pd_var (i := 5)))) (pwd_and1 (ptd_cmp (od_notInK (units1 hr)) (pd_var (i := 10)) (pd_var (i := 3)))))) (pssd_cons (psd_sub (sd_dict (units1 hr)) (pd_op (od_add mk_F) (pd_dkx (units1 hr) (pd_var (i := 3)) (pd_var (i := 9))) (pd_lst mk_F (pad_cons (pd_var (i := 10)) pad_nil))) (pd_var (i := 3)) (pd_var (i := 10)))
      (pssd_one (psd_expr (pd_bm PySem.F.plainAttrs_list PySem.F.slot_list_append PySem.F.type_list_append md_append (pd_var (i := 4)) (pad_cons (pd_var (i := 10)) pad_nil))))) pssd_nil)))))
      (pssd_one (psd_set (i := 5) nd (pd_op (od_add mk_F) (pd_var (i := 5)) pd_int)))))
      (pssd_one (psd_ret (pd_dkx (units1 hr) (pd_var (i := 3)) (pd_var (i := 2)))))))))
theorem ok__law_walk (T : Tx K mg) : FnOk P w K mg base (L2.CX P w) 3 T.a__law_walk T.d__law_walk ["_law_purse_here", "_law_web_here"] (spD ⟨K, mg⟩ F__law_walk) :=
  fn_mk (k := 2) (keep := false) (body := b__law_walk) T.F__law_walk sc__law_walk rfl fun cdv A outer s H E hr => by
    have nd := sc__law_walk.nd
    have tk : Takes (cxOf (L2.CX P w) P w K mg base ["_law_purse_here", "_law_web_here", "_law_walk_here", "_law_left", "_law_place"] "_law_walk" (defScope s__law_walk) T.a__law_walk cdv A outer s H E) (fun cls d _ H' => E cls d H') := takes_of rfl rfl rfl rfl
    exact (pssd_cons (psd_set (i := 2) nd (pd_lst mk_F (pad_cons pd_int pad_nil)))
      (pssd_cons (psd_set (i := 3) nd (pd_listRg2 mk_F rfl T.z_range T.z_list pd_int (pd_ix ixd (pd_var (i := 1)) pd_int)))
      (pssd_cons (psd_while (passes_of rfl) (ptd_cmp (od_ne hr.units) (pd_var (i := 3)) (pd_lst mk_F pad_nil)) (pssd_cons (psd_set (i := 2) nd (pd_op (od_add mk_F) (pd_var (i := 2)) (pd_slice mk_F (pd_call (ok__law_road T) (hr.mono (by decide)) T.g__law_road T.F__law_road.kp T.b__law_road tk (pad_cons (pd_var (i := 1)) (pad_cons (pd_ix ixd (pd_var (i := 2)) (pd_un ud_neg pd_int)) (pad_cons (pd_ix ixd (pd_var (i := 3)) (pd_call (ok__law_draw T) (hr.mono (by decide)) T.g__law_draw T.F__law_draw.kp T.b__law_draw tk (pad_cons (pd_var (i := 0)) (pad_cons (pd_callB cd_len (by rfl) T.z_len (by decide +kernel) (pad_cons (pd_var (i := 3)) pad_nil)) pad_nil)))) pad_nil)))) (pod_some pd_int) pod_none)))
      (pssd_one (psd_setLcIf (i := 3) (own := [("_law_place", 4)]) mk_F (tg_N (by decide)) rfl nd (sw_true rfl rfl rfl (by decide +kernel)) (pid_list (pd_var (i := 3))) (blkOk_by (N := ["_law_purse_here", "_law_web_here", "_law_walk_here", "_law_left", "_law_place"]) (sc := defScope s__law_walk) (by decide +kernel)) (fun _ _ _ _ _ => pg_name (i := 4) nd rfl (Or.inl rfl)) (fun _ _ _ _ _ => (ptd_cmp od_notIn (pd_var (i := 4)) (pd_var (i := 2)))) (fun _ _ _ _ _ => (pd_var (i := 4)))))))
      (pssd_one (psd_ret (pd_var (i := 2)))))))
theorem ok_law (T : Tx K mg) : FnOk P w K mg base (L2.CX P w) 7 T.a_law T.d_law ["_law_script"] (spD ⟨K, mg⟩ F_law) :=
  fn_mk (k := 6) (keep := false) (body := b_law) T.F_law sc_law rfl fun cdv A outer s H E hr => by
    have nd := sc_law.nd
    have tk : Takes (cxOf (L2.CX P w) P w K mg base ["_law_script", "_law_purse_here", "_law_web_here", "_law_paper", "_law_k", "_law_due", "_law_handed", "_law_plans", "_law_paid", "_law_rows", "_law_place", "_law_plan", "_law_weight", "_law_total", "_law_number", "_law_costs", "_law_row"] "law" (defScope s_law) T.a_law cdv A outer s H E) (fun cls d _ H' => E cls d H') := takes_of rfl rfl rfl rfl
    exact (pssd_cons (psd_set (i := 1) nd (pd_call (ok__law_purse T) (hr.mono (by decide)) T.g__law_purse T.F__law_purse.kp T.b__law_purse tk (pad_cons (pd_var (i := 0)) pad_nil)))
      (pssd_cons (psd_set (i := 2) nd (pd_call (ok__law_web T) (hr.mono (by decide)) T.g__law_web T.F__law_web.kp T.b__law_web tk (pad_cons (pd_var (i := 1)) (pad_cons pd_int pad_nil))))
      (pssd_cons (psd_set (i := 3) nd (pd_lst mk_C pad_nil))
      (pssd_cons (psd_frz (i := 3) (psd_for (passes_of rfl) rfl (pid_range1 T.z_range (pad_cons (pd_op (od_add mk_F) pd_int (pd_call (ok__law_draw T) (hr.mono (by decide)) T.g__law_draw T.F__law_draw.kp T.b__law_draw tk (pad_cons (pd_var (i := 1)) (pad_cons pd_int pad_nil)))) pad_nil)) (pgd_name (i := 4) nd) (pssd_one (psd_expr (pd_bm PySem.F.plainAttrs_list PySem.F.slot_list_append PySem.F.type_list_append md_append (pd_var (i := 3)) (pad_cons (pd_tup (pad_cons (pd_call (ok__law_walk T) (hr.mono (by decide)) T.g__law_walk T.F__law_walk.kp T.b__law_walk tk (pad_cons (pd_var (i := 1)) (pad_cons (pd_var (i := 2)) pad_nil))) (pad_cons (pd_op (od_add mk_F) pd_int (pd_call (ok__law_draw T) (hr.mono (by decide)) T.g__law_draw T.F__law_draw.kp T.b__law_draw tk (pad_cons (pd_var (i := 1)) (pad_cons pd_int pad_nil)))) pad_nil))) pad_nil))))))
      (pssd_cons (psd_set (i := 5) nd (pd_lst mk_F pad_nil))
      (pssd_cons (psd_for (passes_of rfl) rfl (pid_list (pd_var (i := 3))) (pgd_tup rfl (pgsd_cons (pgd_name (i := 11) nd) (pgsd_cons (pgd_name (i := 12) nd) pgsd_nil))) (pssd_one (psd_set (i := 5) nd (pd_op (od_add mk_F) (pd_var (i := 5)) (pd_op (od_mul mk_F) (pd_lst mk_F (pad_cons (pd_var (i := 11)) pad_nil)) (pd_var (i := 12)))))))
      (pssd_cons (psd_set (i := 6) nd (pd_lc (own := [("_law_plan", 11), ("_law_weight", 12)]) mk_F (tg_T2 (by decide) (by decide)) rfl nd (pid_list (pd_var (i := 3))) (blkOk_by (N := ["_law_script", "_law_purse_here", "_law_web_here", "_law_paper", "_law_k", "_law_due", "_law_handed", "_law_plans", "_law_paid", "_law_rows", "_law_place", "_law_plan", "_law_weight", "_law_total", "_law_number", "_law_costs", "_law_row"]) (sc := defScope s_law) (by decide +kernel)) (fun _ _ _ _ _ => pg_tup rfl (pgs_cons (pg_name (i := 11) nd rfl (Or.inl rfl)) (pgs_cons (pg_name (i := 12) nd rfl (Or.inl rfl)) pgs_nil))) (fun _ _ _ _ _ => (pd_tup (pad_cons (pd_callTy (cd_list mk_F) (by rfl) T.z_list (by decide +kernel) (pad_cons (pd_var (i := 11)) pad_nil)) (pad_cons (pd_var (i := 12)) pad_nil))))))
      (pssd_cons (psd_if (ptd_cmp (od_ne hr.units) (pd_call (ok_whole_of T) (hr.mono (by decide)) T.g_whole_of T.F_whole_of.kp T.b_whole_of tk (pad_cons (pd_var (i := 6)) pad_nil)) (pd_callB cd_len (by rfl) T.z_len (by decide +kernel) (pad_cons (pd_var (i := 5)) pad_nil))) (pssd_one (psd_ret pd_bl)) pssd_nil)
      (pssd_cons (psd_setLc (i := 7) (own := [("_law_number", 14)]) mk_F (tg_N (by decide)) rfl nd (sw_true rfl rfl rfl (by decide +kernel)) (pid_range1 T.z_range (pad_cons (pd_callB cd_len (by rfl) T.z_len (by decide +kernel) (pad_cons (pd_var (i := 5)) pad_nil)) pad_nil)) (blkOk_by (N := ["_law_script", "_law_purse_here", "_law_web_here", "_law_paper", "_law_k", "_law_due", "_law_handed", "_law_plans", "_law_paid", "_law_rows", "_law_place", "_law_plan", "_law_weight", "_law_total", "_law_number", "_law_costs", "_law_row"]) (sc := defScope s_law) (by decide +kernel)) (fun _ _ _ _ _ => pg_name (i := 14) nd rfl (Or.inl rfl)) (fun _ _ _ _ _ => (pd_call (ok_played T) (hr.mono (by decide)) T.g_played T.F_played.kp T.b_played takes0 (pad_cons (pd_var (i := 6)) (pad_cons (pd_var (i := 14)) pad_nil)))))
      (pssd_cons (psd_if (PWD.pt (pwd_or (ptd_cmp (od_ne hr.units) (pd_var (i := 7)) (pd_var (i := 5))) (pwd_or1 (ptd_cmp (od_ne hr.units) (pd_var (i := 6)) (pd_var (i := 3)))))) (pssd_one (psd_ret pd_bl)) pssd_nil)
      (pssd_cons (psd_setLc (i := 8) (own := [("_law_plan", 11)]) mk_F (tg_N (by decide)) rfl nd (sw_true rfl rfl rfl (by decide +kernel)) (pid_list (pd_var (i := 7))) (blkOk_by (N := ["_law_script", "_law_purse_here", "_law_web_here", "_law_paper", "_law_k", "_law_due", "_law_handed", "_law_plans", "_law_paid", "_law_rows", "_law_place", "_law_plan", "_law_weight", "_law_total", "_law_number", "_law_costs", "_law_row"]) (sc := defScope s_law) (by decide +kernel)) (fun _ _ _ _ _ => pg_name (i := 11) nd rfl (Or.inl rfl)) (fun _ _ _ _ _ => (pd_call (ok_costs_of T) (hr.mono (by decide)) T.g_costs_of T.F_costs_of.kp T.b_costs_of takes0 (pad_cons (pd_var (i := 2)) (pad_cons pd_str (pad_cons (pd_var (i := 11)) pad_nil))))))
      (pssd_cons (psd_setLc (i := 9) (own := [("_law_plan", 11), ("_law_weight", 12)]) mk_F (tg_T2 (by decide) (by decide)) rfl nd (sw_true rfl rfl rfl (by decide +kernel)) (pid_list (pd_var (i := 3))) (blkOk_by (N := ["_law_script", "_law_purse_here", "_law_web_here", "_law_paper", "_law_k", "_law_due", "_law_handed", "_law_plans", "_law_paid", "_law_rows", "_law_place", "_law_plan", "_law_weight", "_law_total", "_law_number", "_law_costs", "_law_row"]) (sc := defScope s_law) (by decide +kernel)) (fun _ _ _ _ _ => pg_tup rfl (pgs_cons (pg_name (i := 11) nd rfl (Or.inl rfl)) (pgs_cons (pg_name (i := 12) nd rfl (Or.inl rfl)) pgs_nil))) (fun _ _ _ _ _ => (pd_call (ok_costs_of T) (hr.mono (by decide)) T.g_costs_of T.F_costs_of.kp T.b_costs_of takes0 (pad_cons (pd_var (i := 2)) (pad_cons pd_str (pad_cons (pd_callTy (cd_list mk_F) (by rfl) T.z_list (by decide +kernel) (pad_cons (pd_var (i := 11)) pad_nil)) pad_nil))))))
      (pssd_cons (psd_for (passes_of rfl) rfl (pid_range1 T.z_range (pad_cons (pd_ix ixd (pd_var (i := 2)) pd_int) pad_nil)) (pgd_name (i := 10) nd) (pssd_cons (psd_set (i := 13) nd (pd_callB (cd_sum rfl) (by rfl) T.z_sum (by decide +kernel) (pad_cons (pd_lc (own := [("_law_costs", 15)]) mk_F (tg_N (by decide)) rfl nd (pid_list (pd_var (i := 8))) (blkOk_by (N := ["_law_script", "_law_purse_here", "_law_web_here", "_law_paper", "_law_k", "_law_due", "_law_handed", "_law_plans", "_law_paid", "_law_rows", "_law_place", "_law_plan", "_law_weight", "_law_total", "_law_number", "_law_costs", "_law_row"]) (sc := defScope s_law) (by decide +kernel)) (fun _ _ _ _ _ => pg_name (i := 15) nd rfl (Or.inl rfl)) (fun _ _ _ _ _ => (pd_ix ixd (pd_var (i := 15)) (pd_var (i := 10))))) pad_nil)))
      (pssd_one (psd_if (ptd_cmp (od_ne hr.units) (pd_call (ok_average T) (hr.mono (by decide)) T.g_average T.F_average.kp T.b_average tk (pad_cons (pd_lc (own := [("_law_row", 16)]) mk_F (tg_N (by decide)) rfl nd (pid_list (pd_var (i := 9))) (blkOk_by (N := ["_law_script", "_law_purse_here", "_law_web_here", "_law_paper", "_law_k", "_law_due", "_law_handed", "_law_plans", "_law_paid", "_law_rows", "_law_place", "_law_plan", "_law_weight", "_law_total", "_law_number", "_law_costs", "_law_row"]) (sc := defScope s_law) (by decide +kernel)) (fun _ _ _ _ _ => pg_name (i := 16) nd rfl (Or.inl rfl)) (fun _ _ _ _ _ => (pd_ix ixd (pd_var (i := 16)) (pd_var (i := 10))))) (pad_cons (pd_lc (own := [("_law_plan", 11), ("_law_weight", 12)]) mk_F (tg_T2 (by decide) (by decide)) rfl nd (pid_list (pd_var (i := 3))) (blkOk_by (N := ["_law_script", "_law_purse_here", "_law_web_here", "_law_paper", "_law_k", "_law_due", "_law_handed", "_law_plans", "_law_paid", "_law_rows", "_law_place", "_law_plan", "_law_weight", "_law_total", "_law_number", "_law_costs", "_law_row"]) (sc := defScope s_law) (by decide +kernel)) (fun _ _ _ _ _ => pg_tup rfl (pgs_cons (pg_name (i := 11) nd rfl (Or.inl rfl)) (pgs_cons (pg_name (i := 12) nd rfl (Or.inl rfl)) pgs_nil))) (fun _ _ _ _ _ => (pd_var (i := 12)))) pad_nil))) (pd_call (ok__law_low T) (hr.mono (by decide)) T.g__law_low T.F__law_low.kp T.b__law_low tk (pad_cons (pd_var (i := 13)) (pad_cons (pd_callB cd_len (by rfl) T.z_len (by decide +kernel) (pad_cons (pd_var (i := 5)) pad_nil)) pad_nil)))) (pssd_one (psd_ret pd_bl)) pssd_nil))))
      (pssd_one (psd_ret pd_bl)))))))))))))))
end
section
theorem all_mk {P : Program} {w : World} {K : PySem.W.Frag} {h : Heap} {mg : Str → Option Value} {fa : Addr} (X : K.In h) (G : h.Ns mainGlobals mg) (hfa : mg "law" = some (.ref fa)) (ht : LawTrue F_law) {f0 f1 f2 f3 f4 f5 f6 f7 f8 f9 f10 f11 f12 f13 f14 f15 f16 f17 f18 f19 f20 f21 f22 : Addr} {od0 an0 od1 an1 od2 an2 od3 an3 od4 an4 od5 an5 od6 an6 od7 an7 od8 an8 od9 an9 od10 an10 od11 an11 od12 an12 od13 an13 od14 an14 od15 an15 od16 an16 od17 an17 od18 an18 od19 an19 od20 an20 od21 an21 od22 an22 : Option Addr} {sl0 sl1 sl2 sl3 sl4 sl5 sl6 sl7 sl8 sl9 sl10 sl11 sl12 sl13 sl14 sl15 sl16 sl17 sl18 sl19 sl20 sl21 sl22 : Array (Option Value)} {oc0 kV0 dc0 pm0 cd0 ct0 oc1 kV1 dc1 pm1 cd1 ct1 oc2 kV2 dc2 pm2 cd2 ct2 oc3 kV3 dc3 pm3 cd3 ct3 oc4 kV4 dc4 pm4 cd4 ct4 oc5 kV5 dc5 pm5 cd5 ct5 oc6 kV6 dc6 pm6 cd6 ct6 oc7 kV7 dc7 pm7 cd7 ct7 oc8 kV8 dc8 pm8 cd8 ct8 oc9 kV9 dc9 pm9 cd9 ct9 oc10 kV10 dc10 pm10 cd10 ct10 oc11 kV11 dc11 pm11 cd11 ct11 oc12 kV12 dc12 pm12 cd12 ct12 oc13 kV13 dc13 pm13 cd13 ct13 oc14 kV14 dc14 pm14 cd14 ct14 oc15 kV15 dc15 pm15 cd15 ct15 oc16 kV16 dc16 pm16 cd16 ct16 oc17 kV17 dc17 pm17 cd17 ct17 oc18 kV18 dc18 pm18 cd18 ct18 oc19 kV19 dc19 pm19 cd19 ct19 oc20 kV20 dc20 pm20 cd20 ct20 oc21 kV21 dc21 pm21 cd21 ct21 oc22 kV22 dc22 pm22 cd22 ct22 : Value} {t_LONGEST t_MOST_PLACES t_MOST_ROADS : Tok}
    (a0 : PySem.W.nsIn K mainGlobals "divisor" = some (some (.ref f0))) (l0 : K.lookup f0 = some ⟨oc0, od0, .func (PySem.W.fnOf "divisor" "divisor" (defArgs s_divisor) (defBody s_divisor) (defScope s_divisor) .none kV0 dc0 pm0 an0 cd0 ct0), sl0⟩) (c0 : PySem.W.codeIn K cd0 "divisor" = true) (k0 : PySem.W.keepIn K (.ref f0) = true)
    (a1 : PySem.W.nsIn K mainGlobals "ratio" = some (some (.ref f1))) (l1 : K.lookup f1 = some ⟨oc1, od1, .func (PySem.W.fnOf "ratio" "ratio" (defArgs s_ratio) (defBody s_ratio) (defScope s_ratio) .none kV1 dc1 pm1 an1 cd1 ct1), sl1⟩) (c1 : PySem.W.codeIn K cd1 "ratio" = true) (k1 : PySem.W.keepIn K (.ref f1) = true)
    (a2 : PySem.W.nsIn K mainGlobals "whole_of" = some (some (.ref f2))) (l2 : K.lookup f2 = some ⟨oc2, od2, .func (PySem.W.fnOf "whole_of" "whole_of" (defArgs s_whole_of) (defBody s_whole_of) (defScope s_whole_of) .none kV2 dc2 pm2 an2 cd2 ct2), sl2⟩) (c2 : PySem.W.codeIn K cd2 "whole_of" = true) (k2 : PySem.W.keepIn K (.ref f2) = true)
    (a3 : PySem.W.nsIn K mainGlobals "played" = some (some (.ref f3))) (l3 : K.lookup f3 = some ⟨oc3, od3, .func (PySem.W.fnOf "played" "played" (defArgs s_played) (defBody s_played) (defScope s_played) .none kV3 dc3 pm3 an3 cd3 ct3), sl3⟩) (c3 : PySem.W.codeIn K cd3 "played" = true) (k3 : PySem.W.keepIn K (.ref f3) = true)
    (a4 : PySem.W.nsIn K mainGlobals "average" = some (some (.ref f4))) (l4 : K.lookup f4 = some ⟨oc4, od4, .func (PySem.W.fnOf "average" "average" (defArgs s_average) (defBody s_average) (defScope s_average) .none kV4 dc4 pm4 an4 cd4 ct4), sl4⟩) (c4 : PySem.W.codeIn K cd4 "average" = true) (k4 : PySem.W.keepIn K (.ref f4) = true)
    (a5 : PySem.W.nsIn K mainGlobals "is_road" = some (some (.ref f5))) (l5 : K.lookup f5 = some ⟨oc5, od5, .func (PySem.W.fnOf "is_road" "is_road" (defArgs s_is_road) (defBody s_is_road) (defScope s_is_road) .none kV5 dc5 pm5 an5 cd5 ct5), sl5⟩) (c5 : PySem.W.codeIn K cd5 "is_road" = true) (k5 : PySem.W.keepIn K (.ref f5) = true)
    (a6 : PySem.W.nsIn K mainGlobals "roads_from" = some (some (.ref f6))) (l6 : K.lookup f6 = some ⟨oc6, od6, .func (PySem.W.fnOf "roads_from" "roads_from" (defArgs s_roads_from) (defBody s_roads_from) (defScope s_roads_from) .none kV6 dc6 pm6 an6 cd6 ct6), sl6⟩) (c6 : PySem.W.codeIn K cd6 "roads_from" = true) (k6 : PySem.W.keepIn K (.ref f6) = true)
    (a7 : PySem.W.nsIn K mainGlobals "reached" = some (some (.ref f7))) (l7 : K.lookup f7 = some ⟨oc7, od7, .func (PySem.W.fnOf "reached" "reached" (defArgs s_reached) (defBody s_reached) (defScope s_reached) .none kV7 dc7 pm7 an7 cd7 ct7), sl7⟩) (c7 : PySem.W.codeIn K cd7 "reached" = true) (k7 : PySem.W.keepIn K (.ref f7) = true)
    (a8 : PySem.W.nsIn K mainGlobals "look_web" = some (some (.ref f8))) (l8 : K.lookup f8 = some ⟨oc8, od8, .func (PySem.W.fnOf "look_web" "look_web" (defArgs s_look_web) (defBody s_look_web) (defScope s_look_web) .none kV8 dc8 pm8 an8 cd8 ct8), sl8⟩) (c8 : PySem.W.codeIn K cd8 "look_web" = true) (k8 : PySem.W.keepIn K (.ref f8) = true)
    (a9 : PySem.W.nsIn K mainGlobals "must_be_kind" = some (some (.ref f9))) (l9 : K.lookup f9 = some ⟨oc9, od9, .func (PySem.W.fnOf "must_be_kind" "must_be_kind" (defArgs s_must_be_kind) (defBody s_must_be_kind) (defScope s_must_be_kind) .none kV9 dc9 pm9 an9 cd9 ct9), sl9⟩) (c9 : PySem.W.codeIn K cd9 "must_be_kind" = true) (k9 : PySem.W.keepIn K (.ref f9) = true)
    (a10 : PySem.W.nsIn K mainGlobals "length_of" = some (some (.ref f10))) (l10 : K.lookup f10 = some ⟨oc10, od10, .func (PySem.W.fnOf "length_of" "length_of" (defArgs s_length_of) (defBody s_length_of) (defScope s_length_of) .none kV10 dc10 pm10 an10 cd10 ct10), sl10⟩) (c10 : PySem.W.codeIn K cd10 "length_of" = true) (k10 : PySem.W.keepIn K (.ref f10) = true)
    (a11 : PySem.W.nsIn K mainGlobals "is_whole" = some (some (.ref f11))) (l11 : K.lookup f11 = some ⟨oc11, od11, .func (PySem.W.fnOf "is_whole" "is_whole" (defArgs s_is_whole) (defBody s_is_whole) (defScope s_is_whole) .none kV11 dc11 pm11 an11 cd11 ct11), sl11⟩) (c11 : PySem.W.codeIn K cd11 "is_whole" = true) (k11 : PySem.W.keepIn K (.ref f11) = true)
    (a12 : PySem.W.nsIn K mainGlobals "walk_goes_on" = some (some (.ref f12))) (l12 : K.lookup f12 = some ⟨oc12, od12, .func (PySem.W.fnOf "walk_goes_on" "walk_goes_on" (defArgs s_walk_goes_on) (defBody s_walk_goes_on) (defScope s_walk_goes_on) .none kV12 dc12 pm12 an12 cd12 ct12), sl12⟩) (c12 : PySem.W.codeIn K cd12 "walk_goes_on" = true) (k12 : PySem.W.keepIn K (.ref f12) = true)
    (a13 : PySem.W.nsIn K mainGlobals "spread_goes_on" = some (some (.ref f13))) (l13 : K.lookup f13 = some ⟨oc13, od13, .func (PySem.W.fnOf "spread_goes_on" "spread_goes_on" (defArgs s_spread_goes_on) (defBody s_spread_goes_on) (defScope s_spread_goes_on) .none kV13 dc13 pm13 an13 cd13 ct13), sl13⟩) (c13 : PySem.W.codeIn K cd13 "spread_goes_on" = true) (k13 : PySem.W.keepIn K (.ref f13) = true)
    (a14 : PySem.W.nsIn K mainGlobals "first_wrong" = some (some (.ref f14))) (l14 : K.lookup f14 = some ⟨oc14, od14, .func (PySem.W.fnOf "first_wrong" "first_wrong" (defArgs s_first_wrong) (defBody s_first_wrong) (defScope s_first_wrong) .none kV14 dc14 pm14 an14 cd14 ct14), sl14⟩) (c14 : PySem.W.codeIn K cd14 "first_wrong" = true) (k14 : PySem.W.keepIn K (.ref f14) = true)
    (a15 : PySem.W.nsIn K mainGlobals "costs_of" = some (some (.ref f15))) (l15 : K.lookup f15 = some ⟨oc15, od15, .func (PySem.W.fnOf "costs_of" "costs_of" (defArgs s_costs_of) (defBody s_costs_of) (defScope s_costs_of) .none kV15 dc15 pm15 an15 cd15 ct15), sl15⟩) (c15 : PySem.W.codeIn K cd15 "costs_of" = true) (k15 : PySem.W.keepIn K (.ref f15) = true)
    (a16 : PySem.W.nsIn K mainGlobals "_law_purse" = some (some (.ref f16))) (l16 : K.lookup f16 = some ⟨oc16, od16, .func (PySem.W.fnOf "_law_purse" "_law_purse" (defArgs s__law_purse) (defBody s__law_purse) (defScope s__law_purse) .none kV16 dc16 pm16 an16 cd16 ct16), sl16⟩) (c16 : PySem.W.codeIn K cd16 "_law_purse" = true) (k16 : PySem.W.keepIn K (.ref f16) = true)
    (a17 : PySem.W.nsIn K mainGlobals "_law_draw" = some (some (.ref f17))) (l17 : K.lookup f17 = some ⟨oc17, od17, .func (PySem.W.fnOf "_law_draw" "_law_draw" (defArgs s__law_draw) (defBody s__law_draw) (defScope s__law_draw) .none kV17 dc17 pm17 an17 cd17 ct17), sl17⟩) (c17 : PySem.W.codeIn K cd17 "_law_draw" = true) (k17 : PySem.W.keepIn K (.ref f17) = true)
    (a18 : PySem.W.nsIn K mainGlobals "_law_low" = some (some (.ref f18))) (l18 : K.lookup f18 = some ⟨oc18, od18, .func (PySem.W.fnOf "_law_low" "_law_low" (defArgs s__law_low) (defBody s__law_low) (defScope s__law_low) .none kV18 dc18 pm18 an18 cd18 ct18), sl18⟩) (c18 : PySem.W.codeIn K cd18 "_law_low" = true) (k18 : PySem.W.keepIn K (.ref f18) = true)
    (a19 : PySem.W.nsIn K mainGlobals "_law_web" = some (some (.ref f19))) (l19 : K.lookup f19 = some ⟨oc19, od19, .func (PySem.W.fnOf "_law_web" "_law_web" (defArgs s__law_web) (defBody s__law_web) (defScope s__law_web) .none kV19 dc19 pm19 an19 cd19 ct19), sl19⟩) (c19 : PySem.W.codeIn K cd19 "_law_web" = true) (k19 : PySem.W.keepIn K (.ref f19) = true)
    (a20 : PySem.W.nsIn K mainGlobals "_law_road" = some (some (.ref f20))) (l20 : K.lookup f20 = some ⟨oc20, od20, .func (PySem.W.fnOf "_law_road" "_law_road" (defArgs s__law_road) (defBody s__law_road) (defScope s__law_road) .none kV20 dc20 pm20 an20 cd20 ct20), sl20⟩) (c20 : PySem.W.codeIn K cd20 "_law_road" = true) (k20 : PySem.W.keepIn K (.ref f20) = true)
    (a21 : PySem.W.nsIn K mainGlobals "_law_walk" = some (some (.ref f21))) (l21 : K.lookup f21 = some ⟨oc21, od21, .func (PySem.W.fnOf "_law_walk" "_law_walk" (defArgs s__law_walk) (defBody s__law_walk) (defScope s__law_walk) .none kV21 dc21 pm21 an21 cd21 ct21), sl21⟩) (c21 : PySem.W.codeIn K cd21 "_law_walk" = true) (k21 : PySem.W.keepIn K (.ref f21) = true)
    (a22 : PySem.W.nsIn K mainGlobals "law" = some (some (.ref f22))) (l22 : K.lookup f22 = some ⟨oc22, od22, .func (PySem.W.fnOf "law" "law" (defArgs s_law) (defBody s_law) (defScope s_law) .none kV22 dc22 pm22 an22 cd22 ct22), sl22⟩) (c22 : PySem.W.codeIn K cd22 "law" = true) (k22 : PySem.W.keepIn K (.ref f22) = true)
    (z_abs : PySem.W.nsIn K mainGlobals "abs" = some none)
    (z_sum : PySem.W.nsIn K mainGlobals "sum" = some none)
    (z_list : PySem.W.nsIn K mainGlobals "list" = some none)
    (z_zip : PySem.W.nsIn K mainGlobals "zip" = some none)
    (z_min : PySem.W.nsIn K mainGlobals "min" = some none)
    (z_max : PySem.W.nsIn K mainGlobals "max" = some none)
    (z_sorted : PySem.W.nsIn K mainGlobals "sorted" = some none)
    (z_len : PySem.W.nsIn K mainGlobals "len" = some none)
    (z_enumerate : PySem.W.nsIn K mainGlobals "enumerate" = some none)
    (z_int : PySem.W.nsIn K mainGlobals "int" = some none)
    (z_isinstance : PySem.W.nsIn K mainGlobals "isinstance" = some none)
    (z_bool : PySem.W.nsIn K mainGlobals "bool" = some none)
    (z_tuple : PySem.W.nsIn K mainGlobals "tuple" = some none)
    (z_range : PySem.W.nsIn K mainGlobals "range" = some none)
    (c_LONGEST : PySem.W.nsIn K mainGlobals "LONGEST" = some (some (.int 1000000 t_LONGEST)))
    (c_MOST_PLACES : PySem.W.nsIn K mainGlobals "MOST_PLACES" = some (some (.int 60 t_MOST_PLACES)))
    (c_MOST_ROADS : PySem.W.nsIn K mainGlobals "MOST_ROADS" = some (some (.int 120 t_MOST_ROADS))) :
    ∃ fd : FuncData, (∀ (s : Shared) (v : Value), BindsTo s fd ⟨[v], []⟩ [("_law_script", v)]) ∧ ∀ base : Heap, K.In base → base.Ns mainGlobals mg → FnOk P w K mg base (L2.CX P w) 7 fa fd ["_law_script"] (spLaw K) := by
  have e := hfa.symm.trans (PySem.W.mg_of X G a22)
  cases e
  exact ⟨PySem.W.fnOf "law" "law" (defArgs s_law) (defBody s_law) (defScope s_law) .none kV22 dc22 pm22 an22 cd22 ct22, fun s v => .of_eq rfl, fun base _ _ => (ok_law (P := P) (w := w) (base := base) {
    a_divisor := f0, d_divisor := _, F_divisor := fun_mk l0 c0 k0, g_divisor := PySem.W.mg_of X G a0, b_divisor := (fun_mk (st := s_divisor) l0 c0 k0).binds (fun _ _ _ _ _ _ us hl => match us, hl with | [_, _], _ => rfl),
    a_ratio := f1, d_ratio := _, F_ratio := fun_mk l1 c1 k1, g_ratio := PySem.W.mg_of X G a1, b_ratio := (fun_mk (st := s_ratio) l1 c1 k1).binds (fun _ _ _ _ _ _ us hl => match us, hl with | [_, _], _ => rfl),
    a_whole_of := f2, d_whole_of := _, F_whole_of := fun_mk l2 c2 k2, g_whole_of := PySem.W.mg_of X G a2, b_whole_of := (fun_mk (st := s_whole_of) l2 c2 k2).binds (fun _ _ _ _ _ _ us hl => match us, hl with | [_], _ => rfl),
    a_played := f3, d_played := _, F_played := fun_mk l3 c3 k3, g_played := PySem.W.mg_of X G a3, b_played := (fun_mk (st := s_played) l3 c3 k3).binds (fun _ _ _ _ _ _ us hl => match us, hl with | [_, _], _ => rfl),
    a_average := f4, d_average := _, F_average := fun_mk l4 c4 k4, g_average := PySem.W.mg_of X G a4, b_average := (fun_mk (st := s_average) l4 c4 k4).binds (fun _ _ _ _ _ _ us hl => match us, hl with | [_, _], _ => rfl),
    a_is_road := f5, d_is_road := _, F_is_road := fun_mk l5 c5 k5, g_is_road := PySem.W.mg_of X G a5, b_is_road := (fun_mk (st := s_is_road) l5 c5 k5).binds (fun _ _ _ _ _ _ us hl => match us, hl with | [_, _], _ => rfl),
    a_roads_from := f6, d_roads_from := _, F_roads_from := fun_mk l6 c6 k6, g_roads_from := PySem.W.mg_of X G a6, b_roads_from := (fun_mk (st := s_roads_from) l6 c6 k6).binds (fun _ _ _ _ _ _ us hl => match us, hl with | [_, _], _ => rfl),
    a_reached := f7, d_reached := _, F_reached := fun_mk l7 c7 k7, g_reached := PySem.W.mg_of X G a7, b_reached := (fun_mk (st := s_reached) l7 c7 k7).binds (fun _ _ _ _ _ _ us hl => match us, hl with | [_], _ => rfl),
    a_look_web := f8, d_look_web := _, F_look_web := fun_mk l8 c8 k8, g_look_web := PySem.W.mg_of X G a8, b_look_web := (fun_mk (st := s_look_web) l8 c8 k8).binds (fun _ _ _ _ _ _ us hl => match us, hl with | [_], _ => rfl),
    a_must_be_kind := f9, d_must_be_kind := _, F_must_be_kind := fun_mk l9 c9 k9, g_must_be_kind := PySem.W.mg_of X G a9, b_must_be_kind := (fun_mk (st := s_must_be_kind) l9 c9 k9).binds (fun _ _ _ _ _ _ us hl => match us, hl with | [_], _ => rfl),
    a_length_of := f10, d_length_of := _, F_length_of := fun_mk l10 c10 k10, g_length_of := PySem.W.mg_of X G a10, b_length_of := (fun_mk (st := s_length_of) l10 c10 k10).binds (fun _ _ _ _ _ _ us hl => match us, hl with | [_, _, _], _ => rfl),
    a_is_whole := f11, d_is_whole := _, F_is_whole := fun_mk l11 c11 k11, g_is_whole := PySem.W.mg_of X G a11, b_is_whole := (fun_mk (st := s_is_whole) l11 c11 k11).binds (fun _ _ _ _ _ _ us hl => match us, hl with | [_], _ => rfl),
    a_walk_goes_on := f12, d_walk_goes_on := _, F_walk_goes_on := fun_mk l12 c12 k12, g_walk_goes_on := PySem.W.mg_of X G a12, b_walk_goes_on := (fun_mk (st := s_walk_goes_on) l12 c12 k12).binds (fun _ _ _ _ _ _ us hl => match us, hl with | [_, _, _, _], _ => rfl),
    a_spread_goes_on := f13, d_spread_goes_on := _, F_spread_goes_on := fun_mk l13 c13 k13, g_spread_goes_on := PySem.W.mg_of X G a13, b_spread_goes_on := (fun_mk (st := s_spread_goes_on) l13 c13 k13).binds (fun _ _ _ _ _ _ us hl => match us, hl with | [_, _, _], _ => rfl),
    a_first_wrong := f14, d_first_wrong := _, F_first_wrong := fun_mk l14 c14 k14, g_first_wrong := PySem.W.mg_of X G a14, b_first_wrong := (fun_mk (st := s_first_wrong) l14 c14 k14).binds (fun _ _ _ _ _ _ us hl => match us, hl with | [_, _, _], _ => rfl),
    a_costs_of := f15, d_costs_of := _, F_costs_of := fun_mk l15 c15 k15, g_costs_of := PySem.W.mg_of X G a15, b_costs_of := (fun_mk (st := s_costs_of) l15 c15 k15).binds (fun _ _ _ _ _ _ us hl => match us, hl with | [_, _, _], _ => rfl),
    a__law_purse := f16, d__law_purse := _, F__law_purse := fun_mk l16 c16 k16, g__law_purse := PySem.W.mg_of X G a16, b__law_purse := (fun_mk (st := s__law_purse) l16 c16 k16).binds (fun _ _ _ _ _ _ us hl => match us, hl with | [_], _ => rfl),
    a__law_draw := f17, d__law_draw := _, F__law_draw := fun_mk l17 c17 k17, g__law_draw := PySem.W.mg_of X G a17, b__law_draw := (fun_mk (st := s__law_draw) l17 c17 k17).binds (fun _ _ _ _ _ _ us hl => match us, hl with | [_, _], _ => rfl),
    a__law_low := f18, d__law_low := _, F__law_low := fun_mk l18 c18 k18, g__law_low := PySem.W.mg_of X G a18, b__law_low := (fun_mk (st := s__law_low) l18 c18 k18).binds (fun _ _ _ _ _ _ us hl => match us, hl with | [_, _], _ => rfl),
    a__law_web := f19, d__law_web := _, F__law_web := fun_mk l19 c19 k19, g__law_web := PySem.W.mg_of X G a19, b__law_web := (fun_mk (st := s__law_web) l19 c19 k19).binds (fun _ _ _ _ _ _ us hl => match us, hl with | [_, _], _ => rfl),
    a__law_road := f20, d__law_road := _, F__law_road := fun_mk l20 c20 k20, g__law_road := PySem.W.mg_of X G a20, b__law_road := (fun_mk (st := s__law_road) l20 c20 k20).binds (fun _ _ _ _ _ _ us hl => match us, hl with | [_, _, _], _ => rfl),
    a__law_walk := f21, d__law_walk := _, F__law_walk := fun_mk l21 c21 k21, g__law_walk := PySem.W.mg_of X G a21, b__law_walk := (fun_mk (st := s__law_walk) l21 c21 k21).binds (fun _ _ _ _ _ _ us hl => match us, hl with | [_, _], _ => rfl),
    a_law := fa, d_law := _, F_law := fun_mk l22 c22 k22, g_law := PySem.W.mg_of X G a22, b_law := (fun_mk (st := s_law) l22 c22 k22).binds (fun _ _ _ _ _ _ us hl => match us, hl with | [_], _ => rfl),
    z_abs := PySem.W.mg_none_of X G z_abs,
    z_sum := PySem.W.mg_none_of X G z_sum,
    z_list := PySem.W.mg_none_of X G z_list,
    z_zip := PySem.W.mg_none_of X G z_zip,
    z_min := PySem.W.mg_none_of X G z_min,
    z_max := PySem.W.mg_none_of X G z_max,
    z_sorted := PySem.W.mg_none_of X G z_sorted,
    z_len := PySem.W.mg_none_of X G z_len,
    z_enumerate := PySem.W.mg_none_of X G z_enumerate,
    z_int := PySem.W.mg_none_of X G z_int,
    z_isinstance := PySem.W.mg_none_of X G z_isinstance,
    z_bool := PySem.W.mg_none_of X G z_bool,
    z_tuple := PySem.W.mg_none_of X G z_tuple,
    z_range := PySem.W.mg_none_of X G z_range,
    t_LONGEST := t_LONGEST, c_LONGEST := PySem.W.mg_of X G c_LONGEST,
    t_MOST_PLACES := t_MOST_PLACES, c_MOST_PLACES := PySem.W.mg_of X G c_MOST_PLACES,
    t_MOST_ROADS := t_MOST_ROADS, c_MOST_ROADS := PySem.W.mg_of X G c_MOST_ROADS }).imp (law_imp ht)⟩
end
end Lw
open PySem PySem.W PyProof.Rows
set_option maxRecDepth 100000 in
set_option maxHeartbeats 0 in
theorem PySem.Challenge.cw_hideworth_k78_whole_picked_as_often_holds : PySem.Challenge.rw_hideworth_k78_whole_picked_as_often.Holds := by
  w_on; o_law; k_head; (case hw => w_witness2)
  k_fill
  refine L2.walk_ofB (l := PySem.Challenge.rw_hideworth_k78_whole_picked_as_often) (n := 63) (k := 7) (x := "_law_script") (CX := fun w => L2.CX (PySem.Challenge.rw_hideworth_k78_whole_picked_as_often).prog w) (sp := fun w => Dv.spLaw _) rfl (by decide) rfl ⟨rfl, by decide, by decide⟩ (fun w h Y => PySem.W.kIn_of Y) ?F (fun _ H a ns hl hb _ hS => Dv.law_sp _ H a ns hl hb hS) (fun _ _ _ _ _ h => Dv.cx_end h)
  case F =>
    intro w mg fa h KX G hmg
    refine' Lw.all_mk KX G hmg Lw.law_true ?a0 ?l0 ?c0 ?k0 ?a1 ?l1 ?c1 ?k1 ?a2 ?l2 ?c2 ?k2 ?a3 ?l3 ?c3 ?k3 ?a4 ?l4 ?c4 ?k4 ?a5 ?l5 ?c5 ?k5 ?a6 ?l6 ?c6 ?k6 ?a7 ?l7 ?c7 ?k7 ?a8 ?l8 ?c8 ?k8 ?a9 ?l9 ?c9 ?k9 ?a10 ?l10 ?c10 ?k10 ?a11 ?l11 ?c11 ?k11 ?a12 ?l12 ?c12 ?k12 ?a13 ?l13 ?c13 ?k13 ?a14 ?l14 ?c14 ?k14 ?a15 ?l15 ?c15 ?k15 ?a16 ?l16 ?c16 ?k16 ?a17 ?l17 ?c17 ?k17 ?a18 ?l18 ?c18 ?k18 ?a19 ?l19 ?c19 ?k19 ?a20 ?l20 ?c20 ?k20 ?a21 ?l21 ?c21 ?k21 ?a22 ?l22 ?c22 ?k22 ?z_abs ?z_sum ?z_list ?z_zip ?z_min ?z_max ?z_sorted ?z_len ?z_enumerate ?z_int ?z_isinstance ?z_bool ?z_tuple ?z_range ?c_LONGEST ?c_MOST_PLACES ?c_MOST_ROADS
    (case a0 => k_is); (case l0 => k_is); (case c0 => k_is); (case k0 => k_is); (case a1 => k_is); (case l1 => k_is); (case c1 => k_is); (case k1 => k_is); (case a2 => k_is); (case l2 => k_is); (case c2 => k_is); (case k2 => k_is); (case a3 => k_is); (case l3 => k_is); (case c3 => k_is); (case k3 => k_is); (case a4 => k_is); (case l4 => k_is); (case c4 => k_is); (case k4 => k_is); (case a5 => k_is); (case l5 => k_is); (case c5 => k_is); (case k5 => k_is); (case a6 => k_is); (case l6 => k_is); (case c6 => k_is); (case k6 => k_is); (case a7 => k_is); (case l7 => k_is); (case c7 => k_is); (case k7 => k_is); (case a8 => k_is); (case l8 => k_is); (case c8 => k_is); (case k8 => k_is); (case a9 => k_is); (case l9 => k_is); (case c9 => k_is); (case k9 => k_is); (case a10 => k_is); (case l10 => k_is); (case c10 => k_is); (case k10 => k_is); (case a11 => k_is); (case l11 => k_is); (case c11 => k_is); (case k11 => k_is); (case a12 => k_is); (case l12 => k_is); (case c12 => k_is); (case k12 => k_is); (case a13 => k_is); (case l13 => k_is); (case c13 => k_is); (case k13 => k_is); (case a14 => k_is); (case l14 => k_is); (case c14 => k_is); (case k14 => k_is); (case a15 => k_is); (case l15 => k_is); (case c15 => k_is); (case k15 => k_is); (case a16 => k_is); (case l16 => k_is); (case c16 => k_is); (case k16 => k_is); (case a17 => k_is); (case l17 => k_is); (case c17 => k_is); (case k17 => k_is); (case a18 => k_is); (case l18 => k_is); (case c18 => k_is); (case k18 => k_is); (case a19 => k_is); (case l19 => k_is); (case c19 => k_is); (case k19 => k_is); (case a20 => k_is); (case l20 => k_is); (case c20 => k_is); (case k20 => k_is); (case a21 => k_is); (case l21 => k_is); (case c21 => k_is); (case k21 => k_is); (case a22 => k_is); (case l22 => k_is); (case c22 => k_is); (case k22 => k_is); (case z_abs => k_is); (case z_sum => k_is); (case z_list => k_is); (case z_zip => k_is); (case z_min => k_is); (case z_max => k_is); (case z_sorted => k_is); (case z_len => k_is); (case z_enumerate => k_is); (case z_int => k_is); (case z_isinstance => k_is); (case z_bool => k_is); (case z_tuple => k_is); (case z_range => k_is); (case c_LONGEST => k_is); (case c_MOST_PLACES => k_is); (case c_MOST_ROADS => k_is)
