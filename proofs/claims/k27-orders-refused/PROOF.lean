import PyProof.Rows.All
import Wide.All
import OpenK.AllK
import Wide.FinOn
import HandS.ForMost
import HandS.Exc
import HandS.TryOnly
import HandS.ExcOwn
import HandS.WordsExc
import HandS.Wide
import HandS.IsInst
import HandS.EndBits
import HandS.NoneIn
import HandS.SetFor
import HandS.More
import KE.DataFind
import HandS.SortInts
import HandS.ExcIs
import HandS.ExcField
import HandS.ExcInit
import HandS.SetKeys
import PyProof.Rows.SetFrom
import PyProof.SetRoads
import KE.KExcIs
import HandS.Deep
import HandS.Dict
import HandS.Small
import HandS.More
import HandS.SortInts
import HandS.Conv
import HandS.Style
import PySem.Challenge.RW_hideworth_k27_orders_refused
set_option Elab.async false
set_option linter.all false
set_option maxRecDepth 100000
set_option maxHeartbeats 4000000
/-! # Dv: values and a store over the hand layer -/
namespace Dv
open PySem PySem.Spec PyProof.Rows L2

/-- plain data; a cell is an object that is still changed, by its number in the store -/
inductive D where
  | non | bl (b : Bool) | int (i : Int) | str (x : Str) | tup (l : List D) | lst (l : List D) | scr (l : List D) | cell (n : Nat) | raw (v : V)
  /-- a class of the program; a caught exception, with its one field -/
  | cls (c : Str) | exn (c : Str) (f : Option (Str × Int))

inductive Cn where
  | lst (l : List D)
  | dct (kvs : List (Key × D))
  | dead

abbrev Store := List Cn
abbrev Env := List (Option D)
structure Exn where
  cls : Str
  val : Option (Str × Int)

inductive Res (α : Type) where
  | ok (a : α) (S : Store)
  | exc (x : Exn) (S : Store)
  | bad

abbrev M (α : Type) := Store → Res α
def Res.bind {α β : Type} (x : Res α) (k : α → Store → Res β) : Res β := match x with
  | .ok a S => k a S
  | .exc e S => .exc e S
  | .bad => .bad
@[simp] theorem Res.bind_ok {α β : Type} (a : α) (S : Store) (k : α → Store → Res β) : (Res.ok a S).bind k = k a S := rfl
@[simp] theorem Res.bind_exc {α β : Type} (x : Exn) (S : Store) (k : α → Store → Res β) : (Res.exc x S : Res α).bind k = .exc x S := rfl
@[simp] theorem Res.bind_bad {α β : Type} (k : α → Store → Res β) : (Res.bad : Res α).bind k = .bad := rfl

/-! ### what stands for what -/
/-- a caught exception's object -/
def ExH (cls : Value) (d : Option Addr) (a : Addr) : HO := .ext fun h => ∃ (oe : Obj) (vs : Array Value), h.get? a = some oe ∧ Zc cls d oe ∧ oe.data = .fields vs
/-- the class of a name -/
def ClsAt (K : PySem.W.Frag) (c : Str) (C : Addr) : Prop := PySem.W.nsIn K mainGlobals c = some (some (.ref C))
theorem ClsAt.uniq {K : PySem.W.Frag} {c : Str} {C D : Addr} (h : ClsAt K c C) (g : ClsAt K c D) : C = D := by
  unfold ClsAt at h g
  rw [h] at g
  cases g
  rfl
/-- an exception's own dict -/
def FldOk (F : Hp) (d : Option Addr) : Option (Str × Int) → Prop
  | none => d = none
  | some (f, i) => ∃ b, d = some b ∧ F b = some (.xd [(f, .int i)])
theorem FldOk.mono {F F' : Hp} {d : Option Addr} (hF : Same F F') : ∀ {v : Option (Str × Int)}, FldOk F d v → FldOk F' d v
  | none, h => h
  | some (_, _), h => by
    obtain ⟨b, e, q⟩ := h
    exact ⟨b, e, hF _ _ q⟩
mutual
def Rp (K : PySem.W.Frag) (r : List Addr) (F : Hp) : D → V → Prop
  | .non, v => v = .non
  | .bl b, v => v = .bl b
  | .int i, v => v = .int i
  | .str x, v => v = .str x
  | .raw x, v => v = x
  | .cell n, v => ∃ a, r[n]? = some a ∧ v = .ref a
  | .tup l, v => ∃ a vs, v = .ref a ∧ Rd F a (.tup vs) ∧ Rps K r F l vs
  | .lst l, v => ∃ a vs, v = .ref a ∧ F a = some (.lst vs) ∧ Rps K r F l vs
  | .scr l, v => ∃ a vs, v = .ref a ∧ SqL K F a vs ∧ Rps K r F l vs
  | .cls c, v => ∃ C, ClsAt K c C ∧ v = .ref C
  | .exn c f, v => ∃ a C d, v = .ref a ∧ ClsAt K c C ∧ F a = some (ExH (.ref C) d a) ∧ FldOk F d f
def Rps (K : PySem.W.Frag) (r : List Addr) (F : Hp) : List D → List V → Prop
  | [], vs => vs = []
  | d :: l, vs => ∃ v t, vs = v :: t ∧ Rp K r F d v ∧ Rps K r F l t
end

theorem rd_same {H H' : Hp} {a : Addr} {u : HO} (e : Same H H') (h : Rd H a u) : Rd H' a u := by
  rcases h with h | ⟨o, h⟩
  · exact .inl (e _ _ h)
  · exact .inr ⟨o, e _ _ h⟩

section
variable {K : PySem.W.Frag} {r r' : List Addr} {F F' : Hp}
mutual
theorem Rp.mono (hr : ∃ t, r' = r ++ t) (hF : Same F F') : ∀ (d : D) (v : V), Rp K r F d v → Rp K r' F' d v
  | .non, _, h => by unfold Rp at h ⊢; exact h
  | .bl _, _, h => by unfold Rp at h ⊢; exact h
  | .int _, _, h => by unfold Rp at h ⊢; exact h
  | .str _, _, h => by unfold Rp at h ⊢; exact h
  | .raw _, _, h => by unfold Rp at h ⊢; exact h
  | .cell n, _, h => by
    unfold Rp at h ⊢
    obtain ⟨a, e, q⟩ := h
    obtain ⟨t, rfl⟩ := hr
    refine ⟨a, ?_, q⟩
    rw [List.getElem?_append_left (List.getElem?_eq_some_iff.mp e).1]
    exact e
  | .tup l, _, h => by
    unfold Rp at h ⊢
    obtain ⟨a, vs, e, q, p⟩ := h
    exact ⟨a, vs, e, rd_same hF q, Rps.mono hr hF l vs p⟩
  | .lst l, _, h => by
    unfold Rp at h ⊢
    obtain ⟨a, vs, e, q, p⟩ := h
    exact ⟨a, vs, e, hF _ _ q, Rps.mono hr hF l vs p⟩
  | .scr l, _, h => by
    unfold Rp at h ⊢
    obtain ⟨a, vs, e, q, p⟩ := h
    exact ⟨a, vs, e, hF.seq q, Rps.mono hr hF l vs p⟩
  | .cls _, _, h => by unfold Rp at h ⊢; exact h
  | .exn _ _, _, h => by
    unfold Rp at h ⊢
    obtain ⟨a, C, d, e, q, p, f⟩ := h
    exact ⟨a, C, d, e, q, hF _ _ p, f.mono hF⟩
theorem Rps.mono (hr : ∃ t, r' = r ++ t) (hF : Same F F') : ∀ (l : List D) (vs : List V), Rps K r F l vs → Rps K r' F' l vs
  | [], _, h => by unfold Rps at h ⊢; exact h
  | d :: l, vs, h => by
    unfold Rps at h ⊢
    obtain ⟨v, t, e, p, q⟩ := h
    exact ⟨v, t, e, Rp.mono hr hF d v p, Rps.mono hr hF l t q⟩
end
theorem rps_nil : Rps K r F [] [] := by unfold Rps; rfl
theorem rps_cons {d : D} {v : V} {l : List D} {vs : List V} (h : Rp K r F d v) (t : Rps K r F l vs) : Rps K r F (d :: l) (v :: vs) := by
  unfold Rps; exact ⟨v, vs, rfl, h, t⟩
theorem Rps.nil_inv {vs : List V} (h : Rps K r F [] vs) : vs = [] := by unfold Rps at h; exact h
theorem Rps.cons_inv {d : D} {l : List D} {vs : List V} (h : Rps K r F (d :: l) vs) : ∃ v t, vs = v :: t ∧ Rp K r F d v ∧ Rps K r F l t := by unfold Rps at h; exact h
theorem Rps.length : ∀ {l : List D} {vs : List V}, Rps K r F l vs → vs.length = l.length
  | [], vs, h => by rw [h.nil_inv]; rfl
  | d :: l, vs, h => by
    obtain ⟨v, t, e, _, q⟩ := h.cons_inv
    subst e
    simp [Rps.length q]
theorem Rps.get : ∀ {l : List D} {vs : List V} {i : Nat} {d : D}, Rps K r F l vs → l[i]? = some d → ∃ v, vs[i]? = some v ∧ Rp K r F d v
  | [], _, i, _, _, e => by simp at e
  | d :: l, vs, 0, d', h, e => by
    obtain ⟨v, t, e1, p, _⟩ := h.cons_inv
    subst e1
    simp at e
    subst e
    exact ⟨v, rfl, p⟩
  | d :: l, vs, i + 1, d', h, e => by
    obtain ⟨v, t, e1, _, q⟩ := h.cons_inv
    subst e1
    obtain ⟨v', e2, p⟩ := Rps.get (i := i) q (by simpa using e)
    exact ⟨v', by simpa using e2, p⟩
theorem Rps.append : ∀ {l m : List D} {vs ws : List V}, Rps K r F l vs → Rps K r F m ws → Rps K r F (l ++ m) (vs ++ ws)
  | [], m, vs, ws, h, q => by rw [h.nil_inv]; exact q
  | d :: l, m, vs, ws, h, q => by
    obtain ⟨v, t, e, p, q'⟩ := h.cons_inv
    subst e
    exact rps_cons p (Rps.append q' q)
theorem Rps.take : ∀ {l : List D} {vs : List V} (n : Nat), Rps K r F l vs → Rps K r F (l.take n) (vs.take n)
  | [], vs, n, h => by rw [h.nil_inv]; simp; exact rps_nil
  | d :: l, vs, 0, h => by simp; exact rps_nil
  | d :: l, vs, n + 1, h => by
    obtain ⟨v, t, e, p, q⟩ := h.cons_inv
    subst e
    exact rps_cons p (Rps.take n q)
theorem Rps.drop : ∀ {l : List D} {vs : List V} (n : Nat), Rps K r F l vs → Rps K r F (l.drop n) (vs.drop n)
  | l, vs, 0, h => by simpa using h
  | [], vs, n + 1, h => by rw [h.nil_inv]; simp; exact rps_nil
  | d :: l, vs, n + 1, h => by
    obtain ⟨v, t, e, p, q⟩ := h.cons_inv
    subst e
    exact Rps.drop n q
theorem Rps.set : ∀ {l : List D} {vs : List V} {d : D} {v : V} (n : Nat), Rps K r F l vs → Rp K r F d v → Rps K r F (l.set n d) (vs.set n v)
  | [], vs, d, v, n, h, p => by rw [h.nil_inv]; simp; exact rps_nil
  | d0 :: l, vs, d, v, 0, h, p => by
    obtain ⟨v', t, e, _, q⟩ := h.cons_inv
    subst e
    exact rps_cons p q
  | d0 :: l, vs, d, v, n + 1, h, p => by
    obtain ⟨v', t, e, p', q⟩ := h.cons_inv
    subst e
    exact rps_cons p' (Rps.set n q p)
theorem Rps.reverse {l : List D} {vs : List V} (h : Rps K r F l vs) : Rps K r F l.reverse vs.reverse := by
  induction l generalizing vs with
  | nil => rw [h.nil_inv]; exact rps_nil
  | cons d l ih =>
    obtain ⟨v, t, e, p, q⟩ := h.cons_inv
    subst e
    rw [List.reverse_cons, List.reverse_cons]
    exact (ih q).append (rps_cons p rps_nil)
theorem Rps.rep {l : List D} {vs : List V} (h : Rps K r F l vs) : ∀ k : Nat, Rps K r F (List.replicate k l).flatten (List.replicate k vs).flatten
  | 0 => rps_nil
  | k + 1 => by
    rw [List.replicate_succ, List.replicate_succ, List.flatten_cons, List.flatten_cons]
    exact h.append (Rps.rep h k)
theorem rps_ints : ∀ ns : List Int, Rps K r F (ns.map D.int) (ns.map V.int)
  | [] => rps_nil
  | n :: ns => rps_cons (by unfold Rp; rfl) (rps_ints ns)
theorem Rps.ints : ∀ {ns : List Int} {vs : List V}, Rps K r F (ns.map D.int) vs → vs = ns.map V.int
  | [], vs, h => h.nil_inv
  | n :: ns, vs, h => by
    obtain ⟨v, t, e, p, q⟩ := h.cons_inv
    subst e
    unfold Rp at p
    subst p
    rw [Rps.ints q]
    rfl
end

/-! ### worlds -/
structure Wl where
  r : List Addr
  F : Hp
  S : Store
  H : Hp

def alv (S : Store) (n : Nat) : Prop := ∃ c, S[n]? = some c ∧ c ≠ .dead
def RpK (K : PySem.W.Frag) (r : List Addr) (F : Hp) : List (Key × D) → List (Key × V) → Prop := Paired fun p q => p.1 = q.1 ∧ Rp K r F p.2 q.2
def CellOk (K : PySem.W.Frag) (r : List Addr) (F H : Hp) (a : Addr) : Cn → Prop
  | .dead => True
  | .lst l => F a = none ∧ ∃ vs, H a = some (.lst vs) ∧ Rps K r F l vs
  | .dct kvs => F a = none ∧ ∃ ws, H a = some (.dK ws) ∧ RpK K r F kvs ws

theorem RpK.mono {K : PySem.W.Frag} {r r' : List Addr} {F F' : Hp} (hr : ∃ t, r' = r ++ t) (hF : Same F F') {kvs : List (Key × D)} {ws : List (Key × V)} (h : RpK K r F kvs ws) : RpK K r' F' kvs ws :=
  Paired.mapP h fun p q z => ⟨z.1, Rp.mono hr hF _ _ z.2⟩

structure Wd (K : PySem.W.Frag) (w : Wl) : Prop where
  len : w.r.length = w.S.length
  same : Same w.F w.H
  cell : ∀ (n : Nat) a c, w.r[n]? = some a → w.S[n]? = some c → CellOk K w.r w.F w.H a c
  inj : ∀ (n m : Nat) a, w.r[n]? = some a → w.r[m]? = some a → alv w.S n → alv w.S m → n = m

structure Go (K : PySem.W.Frag) (w w' : Wl) : Prop where
  wd : Wd K w'
  pre : ∃ t, w'.r = w.r ++ t
  len : w.r.length = w.S.length
  live : ∀ (n : Nat), n < w.S.length → alv w'.S n → alv w.S n
  new : ∀ (n : Nat) a, w.S.length ≤ n → w'.r[n]? = some a → alv w'.S n → w.H a = none
  F : Same w.F w'.F
  fr : ∀ a o, w.H a = some o → (∀ (n : Nat), w.r[n]? = some a → ¬ alv w.S n) → w'.H a = some o
  trk : ∀ a, w'.H a = none → w.H a = none
  fnew : ∀ a, w.H a ≠ none → w.F a = none → (∀ (n : Nat), w.r[n]? = some a → ¬ alv w.S n) → w'.F a = none

section
variable {K : PySem.W.Frag} {w w1 w2 : Wl}
theorem Go.refl (h : Wd K w) : Go K w w where
  wd := h
  pre := ⟨[], by simp⟩
  len := h.len
  live := fun _ _ q => q
  new := fun n a hn e _ => by
    have := (List.getElem?_eq_some_iff.mp e).1
    have := h.len
    omega
  F := Same.refl _
  fr := fun _ _ e _ => e
  trk := fun _ e => e
  fnew := fun _ _ e _ => e
theorem Go.slen (g : Go K w w1) : w.S.length ≤ w1.S.length := by
  obtain ⟨t, e⟩ := g.pre
  have h1 := g.wd.len
  rw [e, List.length_append, g.len] at h1
  omega
theorem pre_get {r r' : List Addr} {n : Nat} {a : Addr} (h : ∃ t, r' = r ++ t) (e : r[n]? = some a) : r'[n]? = some a := by
  obtain ⟨t, rfl⟩ := h
  rw [List.getElem?_append_left (List.getElem?_eq_some_iff.mp e).1]
  exact e
theorem pre_back {r r' : List Addr} {n : Nat} {a : Addr} (h : ∃ t, r' = r ++ t) (hn : n < r.length) (e : r'[n]? = some a) : r[n]? = some a := by
  obtain ⟨t, rfl⟩ := h
  rw [List.getElem?_append_left hn] at e
  exact e
theorem Go.trans (g : Go K w w1) (h : Go K w1 w2) : Go K w w2 where
  wd := h.wd
  pre := by
    obtain ⟨t, e⟩ := g.pre
    obtain ⟨t', e'⟩ := h.pre
    exact ⟨t ++ t', by rw [e', e, List.append_assoc]⟩
  len := g.len
  live := fun n hn q => g.live n hn (h.live n (Nat.lt_of_lt_of_le hn g.slen) q)
  new := fun n a hn e q => by
    by_cases hl : n < w1.S.length
    · exact g.new n a hn (pre_back h.pre (by rw [g.wd.len]; exact hl) e) (h.live n hl q)
    · exact g.trk a (h.new n a (Nat.le_of_not_lt hl) e q)
  F := g.F.trans h.F
  fr := fun a o e q => by
    refine h.fr a o (g.fr a o e q) fun n hn hl => ?_
    by_cases hs : n < w.S.length
    · exact q n (pre_back g.pre (by rw [g.len]; exact hs) hn) (g.live n hs hl)
    · have := g.new n a (Nat.le_of_not_lt hs) hn hl
      rw [e] at this
      cases this
  trk := fun a e => g.trk a (h.trk a e)
  fnew := fun a e f q => h.fnew a (fun z => e (g.trk a z)) (g.fnew a e f q) fun n hn hl => by
    by_cases hs : n < w.S.length
    · exact q n (pre_back g.pre (by rw [g.len]; exact hs) hn) (g.live n hs hl)
    · exact e (g.new n a (Nat.le_of_not_lt hs) hn hl)
theorem Rp.go (g : Go K w w1) {d : D} {v : V} (h : Rp K w.r w.F d v) : Rp K w1.r w1.F d v := Rp.mono g.pre g.F d v h
theorem Rps.go (g : Go K w w1) {d : List D} {v : List V} (h : Rps K w.r w.F d v) : Rps K w1.r w1.F d v := Rps.mono g.pre g.F d v h

theorem Wd.fresh (h : Wd K w) {p : Addr} (n : w.H p = none) : w.F p = none := h.same.free n
theorem CellOk.mono {r r' : List Addr} {F F' H H' : Hp} {a : Addr} {c : Cn} (h : CellOk K r F H a c) (hr : ∃ t, r' = r ++ t) (hF : Same F F') (hn : c ≠ .dead → F a = none → F' a = none) (hH : c ≠ .dead → ∀ o, H a = some o → H' a = some o) : CellOk K r' F' H' a c := by
  cases c with
  | dead => exact trivial
  | lst l =>
    obtain ⟨n, vs, e, q⟩ := h
    exact ⟨hn (by simp) n, vs, hH (by simp) _ e, Rps.mono hr hF _ _ q⟩
  | dct kvs =>
    obtain ⟨n, vs, e, q⟩ := h
    exact ⟨hn (by simp) n, vs, hH (by simp) _ e, q.mono hr hF⟩
theorem CellOk.some {r : List Addr} {F H : Hp} {a : Addr} {c : Cn} (h : CellOk K r F H a c) (n : c ≠ .dead) : ∃ o, H a = some o := by
  cases c with
  | dead => exact (n rfl).elim
  | lst l => obtain ⟨_, vs, e, _⟩ := h; exact ⟨_, e⟩
  | dct l => obtain ⟨_, vs, e, _⟩ := h; exact ⟨_, e⟩
theorem CellOk.free {r : List Addr} {F H : Hp} {a : Addr} {c : Cn} (h : CellOk K r F H a c) (n : c ≠ .dead) : F a = none := by
  cases c with
  | dead => exact (n rfl).elim
  | lst l => exact h.1
  | dct l => exact h.1

/-- a new frozen object -/
theorem Go.alloc (h : Wd K w) {p : Addr} {o : HO} (n : w.H p = none) : Go K w ⟨w.r, upd w.F p o, w.S, upd w.H p o⟩ := by
  have sF : Same w.F (upd w.F p o) := fun b x e => by rw [upd_ne (ne_of_none e (h.fresh n))]; exact e
  have sH : Same w.H (upd w.H p o) := fun b x e => by rw [upd_ne (ne_of_none e n)]; exact e
  refine ⟨⟨h.len, fun b x e => ?_, fun k a c e1 e2 => ?_, h.inj⟩, ⟨[], by simp⟩, h.len, fun _ _ q => q, fun k a hk e _ => ?_, sF, fun a x e _ => sH a x e, fun a e => ?_, fun a e f _ => by
    show upd w.F p o a = none
    rw [upd_ne (fun z => e (by rw [z]; exact n))]
    exact f⟩
  · show upd w.H p o b = some x
    have e' : upd w.F p o b = some x := e
    by_cases hb : b = p
    · subst hb
      rw [upd_same] at e' ⊢
      exact e'
    · rw [upd_ne hb] at e' ⊢
      exact h.same _ _ e'
  · have q := h.cell k a c e1 e2
    refine q.mono ⟨[], by simp⟩ sF (fun hd z => ?_) (fun hd x z => sH _ _ z)
    obtain ⟨x, ex⟩ := q.some hd
    show upd w.F p o a = none
    rw [upd_ne (ne_of_none ex n)]
    exact z
  · have hk1 : k < w.r.length := (List.getElem?_eq_some_iff.mp e).1
    have hk2 : w.S.length ≤ k := hk
    have := h.len
    omega
  · show w.H a = none
    have e' : upd w.H p o a = none := e
    by_cases hb : a = p
    · subst hb
      rw [upd_same] at e'
      cases e'
    · rw [upd_ne hb] at e'
      exact e'
theorem alv_append_left {S : Store} {c : Cn} {n : Nat} (hn : n < S.length) (h : alv (S ++ [c]) n) : alv S n := by
  obtain ⟨x, e, q⟩ := h
  rw [List.getElem?_append_left hn] at e
  exact ⟨x, e, q⟩
/-- a new cell -/
theorem Go.newCell (h : Wd K w) {p : Addr} {o : HO} {c : Cn} (n : w.H p = none) (hc : CellOk K (w.r ++ [p]) w.F (upd w.H p o) p c) : Go K w ⟨w.r ++ [p], w.F, w.S ++ [c], upd w.H p o⟩ := by
  have sH : Same w.H (upd w.H p o) := fun b x e => by rw [upd_ne (ne_of_none e n)]; exact e
  have oldr : ∀ {k a}, (w.r ++ [p])[k]? = some a → k < w.S.length → w.r[k]? = some a := fun {k a} e hk => by
    rw [List.getElem?_append_left (by rw [h.len]; exact hk)] at e
    exact e
  have newr : ∀ {k a}, (w.r ++ [p])[k]? = some a → w.S.length ≤ k → k = w.S.length ∧ a = p := fun {k a} e hk => by
    have hl := (List.getElem?_eq_some_iff.mp e).1
    rw [List.length_append, List.length_singleton, h.len] at hl
    have ek : k = w.S.length := by omega
    subst ek
    rw [← h.len, List.getElem?_append_right (Nat.le_refl _), Nat.sub_self] at e
    exact ⟨rfl, (Option.some.inj e).symm⟩
  have addr_some : ∀ {k a}, w.r[k]? = some a → alv w.S k → ∃ x, w.H a = some x := fun {k a} e hl => by
    obtain ⟨c', e2, hd⟩ := hl
    exact (h.cell k a c' e e2).some hd
  refine ⟨⟨?_, h.same.trans sH, fun k a c' e1 e2 => ?_, fun k m a e1 e2 l1 l2 => ?_⟩, ⟨[p], rfl⟩, h.len, fun k hk q => alv_append_left hk q, fun k a hk e _ => ?_, Same.refl _, fun a x e _ => sH a x e, fun a e => ?_, fun _ _ f _ => f⟩
  · simp [h.len]
  · show CellOk K (w.r ++ [p]) w.F (upd w.H p o) a c'
    by_cases hk : k < w.S.length
    · have e2' : w.S[k]? = some c' := by
        have z : (w.S ++ [c])[k]? = some c' := e2
        rw [List.getElem?_append_left hk] at z
        exact z
      exact (h.cell k a c' (oldr e1 hk) e2').mono ⟨[p], rfl⟩ (Same.refl _) (fun _ z => z) (fun _ x z => sH _ _ z)
    · obtain ⟨ek, ea⟩ := newr e1 (Nat.le_of_not_lt hk)
      subst ea
      have z : (w.S ++ [c])[k]? = some c' := e2
      rw [ek, List.getElem?_append_right (Nat.le_refl _), Nat.sub_self] at z
      have : c = c' := Option.some.inj z
      subst this
      exact hc
  · have e1' : (w.r ++ [p])[k]? = some a := e1
    have e2' : (w.r ++ [p])[m]? = some a := e2
    by_cases hk : k < w.S.length
    · by_cases hm : m < w.S.length
      · exact h.inj k m a (oldr e1' hk) (oldr e2' hm) (alv_append_left hk l1) (alv_append_left hm l2)
      · obtain ⟨_, ea⟩ := newr e2' (Nat.le_of_not_lt hm)
        obtain ⟨x, ex⟩ := addr_some (oldr e1' hk) (alv_append_left hk l1)
        rw [ea, n] at ex
        cases ex
    · obtain ⟨ek, ea⟩ := newr e1' (Nat.le_of_not_lt hk)
      by_cases hm : m < w.S.length
      · obtain ⟨x, ex⟩ := addr_some (oldr e2' hm) (alv_append_left hm l2)
        rw [ea, n] at ex
        cases ex
      · obtain ⟨em, _⟩ := newr e2' (Nat.le_of_not_lt hm)
        omega
  · obtain ⟨_, ea⟩ := newr e hk
    rw [ea]
    exact n
  · show w.H a = none
    have e' : upd w.H p o a = none := e
    by_cases hb : a = p
    · subst hb
      rw [upd_same] at e'
      cases e'
    · rw [upd_ne hb] at e'
      exact e'
theorem get_set {S : Store} {n k : Nat} {c : Cn} : (S.set n c)[k]? = if k = n then (if n < S.length then some c else none) else S[k]? := by
  rw [List.getElem?_set]
  by_cases h : n = k
  · subst h; simp
  · rw [if_neg h, if_neg (Ne.symm h)]
theorem alv_set {S : Store} {n k : Nat} {c c0 : Cn} (e0 : S[n]? = some c0) (h0 : c0 ≠ .dead) (h : alv (S.set n c) k) : alv S k := by
  obtain ⟨x, e, q⟩ := h
  rw [get_set] at e
  by_cases hk : k = n
  · subst hk
    exact ⟨c0, e0, h0⟩
  · rw [if_neg hk] at e
    exact ⟨x, e, q⟩
/-- a cell is written -/
theorem Go.write (h : Wd K w) {n : Nat} {a : Addr} {c0 c : Cn} {o : HO} (e0 : w.S[n]? = some c0) (h0 : c0 ≠ .dead) (er : w.r[n]? = some a) (hc : CellOk K w.r w.F (upd w.H a o) a c) : Go K w ⟨w.r, w.F, w.S.set n c, upd w.H a o⟩ := by
  have fa : w.F a = none := (h.cell n a c0 er e0).free h0
  obtain ⟨x0, hx0⟩ := (h.cell n a c0 er e0).some h0
  have other : ∀ {k b}, w.r[k]? = some b → alv w.S k → k ≠ n → b ≠ a := fun {k b} e hl hk z => by
    subst z
    exact hk (h.inj k n b e er hl ⟨c0, e0, h0⟩)
  refine ⟨⟨by simp [h.len], fun b x e => ?_, fun k b c' e1 e2 => ?_, fun k m b e1 e2 l1 l2 => h.inj k m b e1 e2 (alv_set e0 h0 l1) (alv_set e0 h0 l2)⟩, ⟨[], by simp⟩, h.len, fun k hk q => alv_set e0 h0 q, fun k b hk e _ => ?_, Same.refl _, fun b x e q => ?_, fun b e => ?_, fun _ _ f _ => f⟩
  · show upd w.H a o b = some x
    rw [upd_ne (ne_of_none e fa)]
    exact h.same _ _ e
  · show CellOk K w.r w.F (upd w.H a o) b c'
    have e2' : (w.S.set n c)[k]? = some c' := e2
    rw [get_set] at e2'
    by_cases hk : k = n
    · subst hk
      rw [if_pos rfl, if_pos (List.getElem?_eq_some_iff.mp e0).1] at e2'
      have ec : c = c' := Option.some.inj e2'
      subst ec
      have eb : a = b := Option.some.inj (er.symm.trans e1)
      subst eb
      exact hc
    · rw [if_neg hk] at e2'
      refine (h.cell k b c' e1 e2').mono ⟨[], by simp⟩ (Same.refl _) (fun _ z => z) (fun hd x z => ?_)
      rw [upd_ne (other e1 ⟨c', e2', hd⟩ hk)]
      exact z
  · have hk1 : k < w.r.length := (List.getElem?_eq_some_iff.mp e).1
    have hk2 : w.S.length ≤ k := hk
    have := h.len
    omega
  · show upd w.H a o b = some x
    have : b ≠ a := fun z => by
      subst z
      exact q n er ⟨c0, e0, h0⟩
    rw [upd_ne this]
    exact e
  · show w.H b = none
    have e' : upd w.H a o b = none := e
    by_cases hb : b = a
    · subst hb
      rw [upd_same] at e'
      cases e'
    · rw [upd_ne hb] at e'
      exact e'
/-- a cell is frozen -/
theorem Go.freeze (h : Wd K w) {n : Nat} {a : Addr} {l : List D} {vs : List V} (e0 : w.S[n]? = some (.lst l)) (er : w.r[n]? = some a) (ha : w.H a = some (.lst vs)) : Go K w ⟨w.r, upd w.F a (.lst vs), w.S.set n .dead, w.H⟩ := by
  have h0 : Cn.lst l ≠ .dead := by simp
  have fa : w.F a = none := (h.cell n a _ er e0).free h0
  have sF : Same w.F (upd w.F a (.lst vs)) := fun b x e => by rw [upd_ne (ne_of_none e fa)]; exact e
  have other : ∀ {k b}, w.r[k]? = some b → alv w.S k → k ≠ n → b ≠ a := fun {k b} e hl hk z => by
    subst z
    exact hk (h.inj k n b e er hl ⟨_, e0, h0⟩)
  refine ⟨⟨by simp [h.len], fun b x e => ?_, fun k b c' e1 e2 => ?_, fun k m b e1 e2 l1 l2 => h.inj k m b e1 e2 (alv_set e0 h0 l1) (alv_set e0 h0 l2)⟩, ⟨[], by simp⟩, h.len, fun k hk q => alv_set e0 h0 q, fun k b hk e _ => ?_, sF, fun b x e q => e, fun b e => e, fun b e f q => by
    show upd w.F a (.lst vs) b = none
    rw [upd_ne (fun z => by
      subst z
      exact q n er ⟨_, e0, h0⟩)]
    exact f⟩
  · show w.H b = some x
    have e' : upd w.F a (.lst vs) b = some x := e
    by_cases hb : b = a
    · subst hb
      rw [upd_same] at e'
      rw [ha]
      exact e'
    · rw [upd_ne hb] at e'
      exact h.same _ _ e'
  · have e2' : (w.S.set n .dead)[k]? = some c' := e2
    rw [get_set] at e2'
    by_cases hk : k = n
    · subst hk
      rw [if_pos rfl, if_pos (List.getElem?_eq_some_iff.mp e0).1] at e2'
      have ec : Cn.dead = c' := Option.some.inj e2'
      subst ec
      exact trivial
    · rw [if_neg hk] at e2'
      refine (h.cell k b c' e1 e2').mono ⟨[], by simp⟩ sF (fun hd z => ?_) (fun hd x z => z)
      show upd w.F a (.lst vs) b = none
      rw [upd_ne (other e1 ⟨c', e2', hd⟩ hk)]
      exact z
  · have hk1 : k < w.r.length := (List.getElem?_eq_some_iff.mp e).1
    have hk2 : w.S.length ≤ k := hk
    have := h.len
    omega
end

section
variable {K : PySem.W.Frag} {w w1 w2 : Wl}
/-- an object that is not in the store yet: written, taken in -/
theorem Go.loose (g : Go K w w1) {p : Addr} {o : HO} (n : w.H p = none) (h1 : w1.H p ≠ none) (h2 : w1.F p = none) (h3 : ∀ (n : Nat), w1.r[n]? = some p → ¬ alv w1.S n) : Go K w ⟨w1.r, w1.F, w1.S, upd w1.H p o⟩ where
  wd := ⟨g.wd.len, fun b x e => by show upd w1.H p o b = some x; rw [upd_ne (ne_of_none e h2)]; exact g.wd.same _ _ e, fun k a c e1 e2 => (g.wd.cell k a c e1 e2).mono ⟨[], by simp⟩ (Same.refl _) (fun _ z => z) (fun hd x z => by
    show upd w1.H p o a = some x
    rw [upd_ne (fun q => h3 k (by rw [← q]; exact e1) ⟨c, e2, hd⟩)]
    exact z), g.wd.inj⟩
  pre := g.pre
  len := g.len
  live := g.live
  new := g.new
  F := g.F
  fr := fun a x e q => by
    show upd w1.H p o a = some x
    rw [upd_ne (ne_of_none e n)]
    exact g.fr a x e q
  trk := fun a e => by
    have e' : upd w1.H p o a = none := e
    by_cases hb : a = p
    · subst hb
      rw [upd_same] at e'
      cases e'
    · rw [upd_ne hb] at e'
      exact g.trk a e'
  fnew := g.fnew
theorem Go.adopt (g : Go K w w1) {p : Addr} {o : HO} (n : w.H p = none) (h1 : w1.H p = some o) (h2 : w1.F p = none) (h3 : ∀ (n : Nat), w1.r[n]? = some p → ¬ alv w1.S n) : Go K w ⟨w1.r, upd w1.F p o, w1.S, w1.H⟩ := by
  have sF : Same w1.F (upd w1.F p o) := fun b x e => by rw [upd_ne (ne_of_none e h2)]; exact e
  refine ⟨⟨g.wd.len, fun b x e => ?_, fun k a c e1 e2 => (g.wd.cell k a c e1 e2).mono ⟨[], by simp⟩ sF (fun hd z => ?_) (fun _ _ z => z), g.wd.inj⟩, g.pre, g.len, g.live, g.new, g.F.trans sF, g.fr, g.trk, fun a e f q => ?_⟩
  · show w1.H b = some x
    have e' : upd w1.F p o b = some x := e
    by_cases hb : b = p
    · subst hb
      rw [upd_same] at e'
      rw [h1]
      exact e'
    · rw [upd_ne hb] at e'
      exact g.wd.same _ _ e'
  · show upd w1.F p o a = none
    rw [upd_ne (fun q => h3 k (by rw [← q]; exact e1) ⟨c, e2, hd⟩)]
    exact z
  · show upd w1.F p o a = none
    rw [upd_ne (fun q => e (by rw [q]; exact n))]
    exact g.fnew a e f q
theorem Go.adoptCell (g : Go K w w1) {p : Addr} {o : HO} {c : Cn} (n : w.H p = none) (h1 : w1.H p = some o) (h2 : w1.F p = none) (h3 : ∀ (n : Nat), w1.r[n]? = some p → ¬ alv w1.S n) (hc : CellOk K (w1.r ++ [p]) w1.F w1.H p c) :
    Go K w ⟨w1.r ++ [p], w1.F, w1.S ++ [c], w1.H⟩ := by
  have oldr : ∀ {k a}, (w1.r ++ [p])[k]? = some a → k < w1.S.length → w1.r[k]? = some a := fun {k a} e hk => by
    rw [List.getElem?_append_left (by rw [g.wd.len]; exact hk)] at e
    exact e
  have newr : ∀ {k a}, (w1.r ++ [p])[k]? = some a → w1.S.length ≤ k → k = w1.S.length ∧ a = p := fun {k a} e hk => by
    have hl := (List.getElem?_eq_some_iff.mp e).1
    rw [List.length_append, List.length_singleton, g.wd.len] at hl
    have ek : k = w1.S.length := by omega
    subst ek
    rw [← g.wd.len, List.getElem?_append_right (Nat.le_refl _), Nat.sub_self] at e
    exact ⟨rfl, (Option.some.inj e).symm⟩
  have hlen := g.slen
  obtain ⟨t, et⟩ := g.pre
  refine ⟨⟨by simp [g.wd.len], g.wd.same, fun k a c' e1 e2 => ?_, fun k m a e1 e2 l1 l2 => ?_⟩, ⟨t ++ [p], by show w1.r ++ [p] = _; rw [et, List.append_assoc]⟩, g.len, fun k hk q => g.live k hk (alv_append_left (Nat.lt_of_lt_of_le hk hlen) q), fun k a hk e q => ?_, g.F, g.fr, g.trk, g.fnew⟩
  · show CellOk K (w1.r ++ [p]) w1.F w1.H a c'
    by_cases hk : k < w1.S.length
    · have e2' : w1.S[k]? = some c' := by
        have z : (w1.S ++ [c])[k]? = some c' := e2
        rw [List.getElem?_append_left hk] at z
        exact z
      exact (g.wd.cell k a c' (oldr e1 hk) e2').mono ⟨[p], rfl⟩ (Same.refl _) (fun _ z => z) (fun _ x z => z)
    · obtain ⟨ek, ea⟩ := newr e1 (Nat.le_of_not_lt hk)
      subst ea
      have z : (w1.S ++ [c])[k]? = some c' := e2
      rw [ek, List.getElem?_append_right (Nat.le_refl _), Nat.sub_self] at z
      have : c = c' := Option.some.inj z
      subst this
      exact hc
  · have e1' : (w1.r ++ [p])[k]? = some a := e1
    have e2' : (w1.r ++ [p])[m]? = some a := e2
    by_cases hk : k < w1.S.length
    · by_cases hm : m < w1.S.length
      · exact g.wd.inj k m a (oldr e1' hk) (oldr e2' hm) (alv_append_left hk l1) (alv_append_left hm l2)
      · obtain ⟨_, ea⟩ := newr e2' (Nat.le_of_not_lt hm)
        exact (h3 k (by rw [← ea]; exact oldr e1' hk) (alv_append_left hk l1)).elim
    · obtain ⟨ek, ea⟩ := newr e1' (Nat.le_of_not_lt hk)
      by_cases hm : m < w1.S.length
      · exact (h3 m (by rw [← ea]; exact oldr e2' hm) (alv_append_left hm l2)).elim
      · obtain ⟨em, _⟩ := newr e2' (Nat.le_of_not_lt hm)
        omega
  · by_cases hm : k < w1.S.length
    · exact g.new k a hk (oldr e hm) (alv_append_left hm q)
    · obtain ⟨_, ea⟩ := newr e (Nat.le_of_not_lt hm)
      rw [ea]
      exact n
/-- the cells that came behind n are forgotten -/
theorem take_get {α : Type} {l : List α} {n k : Nat} {x : α} (h : (l.take n)[k]? = some x) : l[k]? = some x ∧ k < n := by
  rw [List.getElem?_take] at h
  by_cases hk : k < n
  · rw [if_pos hk] at h
    exact ⟨h, hk⟩
  · rw [if_neg hk] at h
    cases h
theorem alv_take {S : Store} {n k : Nat} (h : alv (S.take n) k) : alv S k := by
  obtain ⟨c, e, q⟩ := h
  exact ⟨c, (take_get e).1, q⟩
end
/-! no cell from n on is told of -/
mutual
def D.under (n : Nat) : D → Bool
  | .cell k => decide (k < n)
  | .tup l => D.underL n l
  | .lst l => D.underL n l
  | .scr l => D.underL n l
  | _ => true
def D.underL (n : Nat) : List D → Bool
  | [] => true
  | d :: l => D.under n d && D.underL n l
end
section
variable {K : PySem.W.Frag} {r : List Addr} {F : Hp}
mutual
theorem Rp.cut {n : Nat} : ∀ (d : D) (v : V), D.under n d = true → Rp K r F d v → Rp K (r.take n) F d v
  | .non, _, _, h => by unfold Rp at h ⊢; exact h
  | .bl _, _, _, h => by unfold Rp at h ⊢; exact h
  | .int _, _, _, h => by unfold Rp at h ⊢; exact h
  | .str _, _, _, h => by unfold Rp at h ⊢; exact h
  | .raw _, _, _, h => by unfold Rp at h ⊢; exact h
  | .cell k, _, u, h => by
    unfold Rp at h ⊢
    unfold D.under at u
    obtain ⟨a, e, q⟩ := h
    refine ⟨a, ?_, q⟩
    rw [List.getElem?_take, if_pos (of_decide_eq_true u)]
    exact e
  | .tup l, _, u, h => by
    unfold Rp at h ⊢
    unfold D.under at u
    obtain ⟨a, vs, e, q, p⟩ := h
    exact ⟨a, vs, e, q, Rps.cut l vs u p⟩
  | .lst l, _, u, h => by
    unfold Rp at h ⊢
    unfold D.under at u
    obtain ⟨a, vs, e, q, p⟩ := h
    exact ⟨a, vs, e, q, Rps.cut l vs u p⟩
  | .scr l, _, u, h => by
    unfold Rp at h ⊢
    unfold D.under at u
    obtain ⟨a, vs, e, q, p⟩ := h
    exact ⟨a, vs, e, q, Rps.cut l vs u p⟩
  | .cls _, _, _, h => by unfold Rp at h ⊢; exact h
  | .exn _ _, _, _, h => by unfold Rp at h ⊢; exact h
theorem Rps.cut {n : Nat} : ∀ (l : List D) (vs : List V), D.underL n l = true → Rps K r F l vs → Rps K (r.take n) F l vs
  | [], _, _, h => by unfold Rps at h ⊢; exact h
  | d :: l, vs, u, h => by
    unfold Rps at h ⊢
    unfold D.underL at u
    rw [Bool.and_eq_true] at u
    obtain ⟨v, t, e, p, q⟩ := h
    exact ⟨v, t, e, Rp.cut d v u.1 p, Rps.cut l t u.2 q⟩
end
end
def Cn.under (n : Nat) : Cn → Bool
  | .dead => true
  | .lst l => D.underL n l
  | .dct kvs => kvs.all fun p => D.under n p.2
theorem RpK.cut {K : PySem.W.Frag} {r : List Addr} {F : Hp} {n : Nat} : ∀ {kvs : List (Key × D)} {ws : List (Key × V)}, (kvs.all fun p => D.under n p.2) = true → RpK K r F kvs ws → RpK K (r.take n) F kvs ws
  | [], _, _, .nil => .nil
  | p :: kvs, _, u, .cons h t => by
    rw [List.all_cons, Bool.and_eq_true] at u
    exact .cons ⟨h.1, Rp.cut _ _ u.1 h.2⟩ (RpK.cut u.2 t)
theorem CellOk.cut {K : PySem.W.Frag} {r : List Addr} {F H : Hp} {a : Addr} {n : Nat} {c : Cn} (u : c.under n = true) (h : CellOk K r F H a c) : CellOk K (r.take n) F H a c := by
  cases c with
  | dead => exact trivial
  | lst l =>
    obtain ⟨f, vs, e, q⟩ := h
    exact ⟨f, vs, e, Rps.cut _ _ u q⟩
  | dct kvs =>
    obtain ⟨f, vs, e, q⟩ := h
    exact ⟨f, vs, e, RpK.cut u q⟩
/-- a def's end: the cells that it made are forgotten -/
theorem Go.cut {K : PySem.W.Frag} {w w1 : Wl} (g : Go K w w1) (u : ((w1.S.take w.S.length).all fun c => c.under w.S.length) = true) : Go K w ⟨w1.r.take w.S.length, w1.F, w1.S.take w.S.length, w1.H⟩ := by
  have hl := g.slen
  have hr := g.wd.len
  obtain ⟨t, et⟩ := g.pre
  refine ⟨⟨by simp [hr], g.wd.same, fun k a c e1 e2 => ?_, fun k m a e1 e2 l1 l2 => g.wd.inj k m a (take_get e1).1 (take_get e2).1 (alv_take l1) (alv_take l2)⟩, ⟨[], ?_⟩, g.len, fun k hk q => g.live k hk (alv_take q), fun k a hk e q => ?_, g.F, g.fr, g.trk, g.fnew⟩
  · have hm : c ∈ w1.S.take w.S.length := List.mem_of_getElem? e2
    exact (g.wd.cell k a c (take_get e1).1 (take_get e2).1).cut (List.all_eq_true.mp u c hm)
  · show w1.r.take w.S.length = w.r ++ []
    rw [et, ← g.len, List.take_left, List.append_nil]
  · have := (take_get e).2
    have hk' : w.S.length ≤ k := hk
    omega

/-! ### what an end is to show -/
def ExcOk (K : PySem.W.Frag) (mg : Str → Option Value) (w : Wl) (x : Exn) (cls : Value) (dd : Option Addr) : Prop :=
  ∃ C, ClsAt K x.cls C ∧ cls = .ref C ∧ FldOk w.F dd x.val
/-- what the written part tells -/
structure Kt where
  K : PySem.W.Frag
  mg : Str → Option Value
abbrev kt (X : Cx) : Kt := ⟨X.K, X.mg⟩
def SatW {α β : Type} (T : Kt) (W : WX) (σ : L2.St) (R : Wl → α → β → Prop) (w : Wl) (res : Res α) (P : Wl → α → β → Prop) : Prop := match res with
  | .ok d S' => ∀ w' v, Go T.K w w' → w'.S = S' → R w' d v → P w' d v
  | .exc x S' => ∀ w' cls dd, Go T.K w w' → w'.S = S' → ExcOk T.K T.mg w' x cls dd → W cls dd σ w'.H
  | .bad => False
section
variable {α β γ δ : Type} {T : Kt} {W : WX} {σ : L2.St} {R : Wl → α → β → Prop} {R' : Wl → γ → δ → Prop} {w w1 : Wl}
theorem SatW.pre {res : Res α} {P : Wl → α → β → Prop} (h : SatW T W σ R w res P) (g : Go T.K w w1) : SatW T W σ R w1 res P := by
  cases res with
  | ok d S => exact fun w' v g' e q => h w' v (g.trans g') e q
  | exc x S => exact fun w' cls dd g' e q => h w' cls dd (g.trans g') e q
  | bad => exact h
theorem SatW.bind {x : Res α} {k : α → Store → Res γ} {P : Wl → γ → δ → Prop} (h : SatW T W σ R' w (x.bind k) P) : SatW T W σ R w x (fun w1 d _ => SatW T W σ R' w1 (k d w1.S) P) := by
  cases x with
  | ok d S => exact fun w' v g e q => by subst e; exact SatW.pre (res := k d w'.S) h g
  | exc x S => exact h
  | bad => exact h
theorem SatW.imp {res : Res α} {P P' : Wl → α → β → Prop} (h : SatW T W σ R w res P) (hP : ∀ w' d v, Go T.K w w' → R w' d v → P w' d v → P' w' d v) : SatW T W σ R w res P' := by
  cases res with
  | ok d S => exact fun w' v g e q => hP w' d v g q (h w' v g e q)
  | exc x S => exact h
  | bad => exact h
theorem SatW.here {d : α} {v : β} {P : Wl → α → β → Prop} (h : SatW T W σ R w (.ok d w.S) P) (hw : Wd T.K w) (q : R w d v) : P w d v := h w v (Go.refl hw) rfl q
end

def EnvOk (K : PySem.W.Frag) (w : Wl) (env : Env) (σ : L2.St) : Prop := env.length = σ.length ∧ ∀ (i : Nat) d, env[i]? = some (some d) → ∃ v, σ[i]? = some (some v) ∧ Rp K w.r w.F d v
theorem EnvOk.go {K : PySem.W.Frag} {w w1 : Wl} {env : Env} {σ : L2.St} (h : EnvOk K w env σ) (g : Go K w w1) : EnvOk K w1 env σ :=
  ⟨h.1, fun i d e => let ⟨v, e2, q⟩ := h.2 i d e; ⟨v, e2, q.go g⟩⟩
theorem EnvOk.set {K : PySem.W.Frag} {w : Wl} {env : Env} {σ : L2.St} (h : EnvOk K w env σ) {i : Nat} {d : D} {v : V} (q : Rp K w.r w.F d v) : EnvOk K w (env.set i (some d)) (σ.set i (some v)) := by
  refine ⟨by simp [h.1], fun j d' e => ?_⟩
  rw [List.getElem?_set] at e
  by_cases hj : i = j
  · subst hj
    rw [if_pos rfl] at e
    by_cases hl : i < env.length
    · rw [if_pos hl] at e
      have ed : d = d' := by injection (Option.some.inj e)
      subst ed
      exact ⟨v, by rw [List.getElem?_set_self (by rw [← h.1]; exact hl)], q⟩
    · rw [if_neg hl] at e
      cases e
  · rw [if_neg hj] at e
    obtain ⟨v', e2, q'⟩ := h.2 j d' e
    exact ⟨v', by rw [List.getElem?_set_ne hj]; exact e2, q'⟩
theorem EnvOk.unset {K : PySem.W.Frag} {w : Wl} {env : Env} {σ : L2.St} (h : EnvOk K w env σ) {i : Nat} : EnvOk K w (env.set i none) (σ.set i none) := by
  refine ⟨by simp [h.1], fun j d' e => ?_⟩
  rw [List.getElem?_set] at e
  by_cases hj : i = j
  · subst hj
    rw [if_pos rfl] at e
    by_cases hl : i < env.length
    · rw [if_pos hl] at e
      cases Option.some.inj e
    · rw [if_neg hl] at e
      cases e
  · rw [if_neg hj] at e
    obtain ⟨v', e2, q'⟩ := h.2 j d' e
    exact ⟨v', by rw [List.getElem?_set_ne hj]; exact e2, q'⟩

abbrev RD (K : PySem.W.Frag) : Wl → D → V → Prop := fun w d v => Rp K w.r w.F d v
abbrev RDs (K : PySem.W.Frag) : Wl → List D → List V → Prop := fun w d v => Rps K w.r w.F d v
abbrev RB : Wl → Bool → Bool → Prop := fun _ a b => a = b

/-- the readings -/
def tD (T : Kt) (W : WX) (f : Env → M D) : TE := fun σ H Q => ∃ (w : Wl) (env : Env), w.H = H ∧ Wd T.K w ∧ EnvOk T.K w env σ ∧ SatW T W σ (RD T.K) w (f env w.S) (fun w' _ v => Q v w'.H)
def tDB (T : Kt) (W : WX) (f : Env → M Bool) : TT := fun σ H Q => ∃ (w : Wl) (env : Env), w.H = H ∧ Wd T.K w ∧ EnvOk T.K w env σ ∧ SatW T W σ RB w (f env w.S) (fun w' _ v => Q v w'.H)
def tDA (T : Kt) (W : WX) (f : Env → M (List D)) : TA := fun σ H Q => ∃ (w : Wl) (env : Env), w.H = H ∧ Wd T.K w ∧ EnvOk T.K w env σ ∧ SatW T W σ (RDs T.K) w (f env w.S) (fun w' _ v => Q v w'.H)
def PD (X : Cx) (W : WX) (e : Expr) (f : Env → M D) : Prop := PE X e (tD (kt X) W f)
def PTD (X : Cx) (W : WX) (e : Expr) (f : Env → M Bool) : Prop := PT X e (tDB (kt X) W f)
def PWD (X : Cx) (W : WX) (e : Expr) (f : Env → M Bool) : Prop := PW X e (tDB (kt X) W f)
def PAD (X : Cx) (W : WX) (es : List Expr) (f : Env → M (List D)) : Prop := PA X es (tDA (kt X) W f)
theorem weakE {X : Cx} {e : Expr} {t t' : TE} (h : PE X e t) (q : ∀ σ H Q, t' σ H Q → t σ H Q) : PE X e t' := ⟨fun pins s σ H Q I z => h.run pins s σ H Q I (q _ _ _ z)⟩
theorem weakT {X : Cx} {e : Expr} {t t' : TT} (h : PT X e t) (q : ∀ σ H Q, t' σ H Q → t σ H Q) : PT X e t' := ⟨fun pins s σ H Q I z => h.run pins s σ H Q I (q _ _ _ z)⟩
theorem weakW {X : Cx} {e : Expr} {t t' : TT} (h : PW X e t) (q : ∀ σ H Q, t' σ H Q → t σ H Q) : PW X e t' := ⟨fun wh pins s σ H Q I z => h.run wh pins s σ H Q I (q _ _ _ z)⟩
theorem weakA {X : Cx} {e : List Expr} {t t' : TA} (h : PA X e t) (q : ∀ σ H Q, t' σ H Q → t σ H Q) : PA X e t' := ⟨fun pos pins s σ H Q I z => h.run pos pins s σ H Q I (q _ _ _ z)⟩
theorem weakS {X : Cx} {e : Stmt} {t t' : TS} (h : PS X e t) (q : ∀ D σ H, t' D σ H → t D σ H) : PS X e t' := ⟨fun pins s σ H D I z => h.run pins s σ H D I (q _ _ _ z)⟩
theorem weakSs {X : Cx} {e : List Stmt} {t t' : TS} (h : PSs X e t) (q : ∀ D σ H, t' D σ H → t D σ H) : PSs X e t' := ⟨fun pins s σ H D I z => h.run pins s σ H D I (q _ _ _ z)⟩
end Dv
/-! # Dv2: expressions -/
namespace Dv
open PySem PySem.Spec PyProof.Rows L2

/-! ### reading a list -/
def getL (d : D) (S : Store) : Option (List D) := match d with
  | .lst l => some l
  | .cell n => match S[n]? with
    | some (.lst l) => some l
    | _ => none
  | _ => none
def getT : D → Option (List D)
  | .tup l => some l
  | _ => none
section
variable {K : PySem.W.Frag} {w : Wl} {d : D} {v : V} {l : List D}
theorem getL_cell {n : Nat} (h : getL (.cell n) w.S = some l) : w.S[n]? = some (.lst l) := by
  simp only [getL] at h
  split at h
  · rename_i l' e
    rw [e, Option.some.inj h]
  · cases h
theorem getL_ok (hw : Wd K w) (hr : Rp K w.r w.F d v) (h : getL d w.S = some l) : ∃ a vs, v = .ref a ∧ w.H a = some (.lst vs) ∧ Rps K w.r w.F l vs := by
  cases d with
  | lst l' =>
    have e : l' = l := Option.some.inj h
    subst e
    unfold Rp at hr
    obtain ⟨a, vs, e, q, p⟩ := hr
    exact ⟨a, vs, e, hw.same _ _ q, p⟩
  | cell n =>
    have hs := getL_cell h
    unfold Rp at hr
    obtain ⟨a, e, q⟩ := hr
    obtain ⟨_, vs, e2, p⟩ := hw.cell n a _ e hs
    exact ⟨a, vs, q, e2, p⟩
  | non => cases h
  | bl _ => cases h
  | int _ => cases h
  | str _ => cases h
  | tup _ => cases h
  | scr _ => cases h
  | raw _ => cases h
  | cls _ => cases h
  | exn _ _ => cases h
/-- a list that is read alone -/
def getQ (d : D) (S : Store) : Option (List D) := match d with
  | .scr l => some l
  | d => getL d S
@[simp] theorem getQ_lst {l : List D} {S : Store} : getQ (.lst l) S = some l := rfl
@[simp] theorem getQ_scr {l : List D} {S : Store} : getQ (.scr l) S = some l := rfl
@[simp] theorem getQ_cell {n : Nat} {S : Store} : getQ (.cell n) S = getL (.cell n) S := rfl
@[simp] theorem getL_lst {l : List D} {S : Store} : getL (.lst l) S = some l := rfl
theorem getQ_ok (hw : Wd K w) (hr : Rp K w.r w.F d v) (h : getQ d w.S = some l) : ∃ a vs, v = .ref a ∧ SqL K w.H a vs ∧ Rps K w.r w.F l vs := by
  have gen : getL d w.S = some l → ∃ a vs, v = .ref a ∧ SqL K w.H a vs ∧ Rps K w.r w.F l vs := fun h => by
    obtain ⟨a, vs, e, q, p⟩ := getL_ok hw hr h
    exact ⟨a, vs, e, .inl (.inl q), p⟩
  cases d with
  | scr l' =>
    have e : l' = l := Option.some.inj h
    subst e
    unfold Rp at hr
    obtain ⟨a, vs, e, q, p⟩ := hr
    exact ⟨a, vs, e, hw.same.seq q, p⟩
  | _ => exact gen h
theorem getT_ok (hw : Wd K w) (hr : Rp K w.r w.F d v) (h : getT d = some l) : ∃ a vs, v = .ref a ∧ Rd w.H a (.tup vs) ∧ Rps K w.r w.F l vs := by
  cases d with
  | tup l' =>
    have e : l' = l := Option.some.inj h
    subst e
    unfold Rp at hr
    obtain ⟨a, vs, e, q, p⟩ := hr
    exact ⟨a, vs, e, rd_same hw.same q, p⟩
  | _ => cases h
end

/-! ### what makes a list: a frozen one, or a cell -/
def mkF : List D → M D := fun l S => .ok (.lst l) S
def mkC : List D → M D := fun l S => .ok (.cell S.length) (S ++ [.lst l])
structure Mk (mk : List D → M D) : Prop where
  adopt : ∀ {T : Kt} {W : WX} {σ : L2.St} {w w1 : Wl} {l : List D} {vs : List V} {p : Addr} {P : Wl → D → V → Prop}, Go T.K w w1 → w.H p = none → w1.H p = some (.lst vs) → w1.F p = none → (∀ (n : Nat), w1.r[n]? = some p → ¬ alv w1.S n) → Rps T.K w1.r w1.F l vs →
    SatW T W σ (RD T.K) w (mk l w1.S) P → ∃ w' d, w'.H = w1.H ∧ P w' d (.ref p)
  ok : ∀ {X : Kt} {W : WX} {σ : L2.St} {w : Wl} {l : List D} {vs : List V} {p : Addr} {P : Wl → D → V → Prop}, Wd X.K w → w.H p = none → Rps X.K w.r w.F l vs → SatW X W σ (RD X.K) w (mk l w.S) P →
    ∃ w' d, w'.H = upd w.H p (.lst vs) ∧ P w' d (.ref p)
theorem mk_F : Mk mkF where
  adopt := fun {T W σ w w1 l vs p P} g hn h1 h2 h3 hr h => ⟨⟨w1.r, upd w1.F p (.lst vs), w1.S, w1.H⟩, _, rfl, h ⟨w1.r, upd w1.F p (.lst vs), w1.S, w1.H⟩ (.ref p) (Go.adopt g hn h1 h2 h3) rfl (by
    unfold RD Rp
    exact ⟨p, vs, rfl, upd_same, Rps.mono ⟨[], by simp⟩ (fun b x e => by show upd w1.F p _ b = _; rw [upd_ne (ne_of_none e h2)]; exact e) _ _ hr⟩)⟩
  ok := fun {X W σ w l vs p P} hw hn hr h => ⟨_, _, rfl, h ⟨w.r, upd w.F p (.lst vs), w.S, upd w.H p (.lst vs)⟩ (.ref p) (Go.alloc hw hn) rfl (by
    unfold RD Rp
    exact ⟨p, vs, rfl, upd_same, Rps.mono ⟨[], by simp⟩ (fun b x e => by show upd w.F p _ b = _; rw [upd_ne (ne_of_none e (hw.fresh hn))]; exact e) _ _ hr⟩)⟩
theorem mk_C : Mk mkC where
  adopt := fun {T W σ w w1 l vs p P} g hn h1 h2 h3 hr h => ⟨⟨w1.r ++ [p], w1.F, w1.S ++ [.lst l], w1.H⟩, _, rfl, h ⟨w1.r ++ [p], w1.F, w1.S ++ [.lst l], w1.H⟩ (.ref p) (Go.adoptCell (c := .lst l) g hn h1 h2 h3 (by exact ⟨h2, vs, h1, Rps.mono ⟨[p], rfl⟩ (Same.refl _) _ _ hr⟩)) rfl (by
    unfold RD Rp
    refine ⟨p, ?_, rfl⟩
    show (w1.r ++ [p])[w1.S.length]? = some p
    rw [← g.wd.len, List.getElem?_append_right (Nat.le_refl _), Nat.sub_self]
    rfl)⟩
  ok := fun {X W σ w l vs p P} hw hn hr h => ⟨_, _, rfl, h ⟨w.r ++ [p], w.F, w.S ++ [.lst l], upd w.H p (.lst vs)⟩ (.ref p) (Go.newCell (c := .lst l) hw hn (by exact ⟨hw.fresh hn, vs, upd_same, Rps.mono ⟨[p], rfl⟩ (Same.refl _) _ _ hr⟩)) rfl (by
    unfold RD Rp
    refine ⟨p, ?_, rfl⟩
    show (w.r ++ [p])[w.S.length]? = some p
    rw [← hw.len, List.getElem?_append_right (Nat.le_refl _), Nat.sub_self]
    rfl)⟩
theorem Mk.go {mk : List D → M D} (m : Mk mk) {X : Kt} {W : WX} {σ : L2.St} {w : Wl} {l : List D} {vs : List V} {Q : VK} (hw : Wd X.K w) (hr : Rps X.K w.r w.F l vs) (h : SatW X W σ (RD X.K) w (mk l w.S) (fun w' _ v => Q v w'.H)) :
    ∀ p, w.H p = none → Q (.ref p) (upd w.H p (.lst vs)) := fun p hn => by
  obtain ⟨w', d, e, q⟩ := m.ok hw hn hr h
  rw [← e]
  exact q
/-- a new tuple -/
theorem tup_go {X : Kt} {W : WX} {σ : L2.St} {w : Wl} {l : List D} {vs : List V} {Q : VK} (hw : Wd X.K w) (hr : Rps X.K w.r w.F l vs) (h : SatW X W σ (RD X.K) w (.ok (.tup l) w.S) (fun w' _ v => Q v w'.H)) :
    ∀ p, w.H p = none → Q (.ref p) (upd w.H p (.tup vs)) := fun p hn =>
  h ⟨w.r, upd w.F p (.tup vs), w.S, upd w.H p (.tup vs)⟩ (.ref p) (Go.alloc hw hn) rfl (by
    unfold RD Rp
    exact ⟨p, vs, rfl, .inl upd_same, Rps.mono ⟨[], by simp⟩ (fun b x e => by show upd w.F p _ b = _; rw [upd_ne (ne_of_none e (hw.fresh hn))]; exact e) _ _ hr⟩)

/-! ### the small expressions -/
def xVar (i : Nat) : Env → M D := fun e S => match e[i]? with
  | some (some d) => .ok d S
  | _ => .bad
def xC (d : D) : Env → M D := fun _ S => .ok d S
def xOp (g : D → D → M D) (a b : Env → M D) : Env → M D := fun e S => (a e S).bind fun x S1 => (b e S1).bind fun y S2 => g x y S2
def xUn (g : D → M D) (a : Env → M D) : Env → M D := fun e S => (a e S).bind fun x S1 => g x S1
def xNil : Env → M (List D) := fun _ S => .ok [] S
def xCons (a : Env → M D) (b : Env → M (List D)) : Env → M (List D) := fun e S => (a e S).bind fun x S1 => (b e S1).bind fun y S2 => .ok (x :: y) S2
def xFn (g : List D → M D) (a : Env → M (List D)) : Env → M D := fun e S => (a e S).bind fun x S1 => g x S1
def xTup (a : Env → M (List D)) : Env → M D := xFn (fun l S => if l.length ≤ 1000 then .ok (.tup l) S else .bad) a
def xLst (mk : List D → M D) (a : Env → M (List D)) : Env → M D := xFn (fun l S => if l.length ≤ 1000 then mk l S else .bad) a
theorem line1000 {n : Nat} (h : n ≤ 1000) : n ≤ sizeLine := Nat.le_trans h (by rw [sizeLine_eq]; decide)
theorem line16 {n : Nat} (h : n ≤ 16000000) : n ≤ sizeLine := Nat.le_trans h (by rw [sizeLine_eq]; decide)
theorem satIf {α β : Type} {X : Kt} {W : WX} {σ : L2.St} {R : Wl → α → β → Prop} {w : Wl} {c : Prop} [Decidable c] {res : Res α} {P : Wl → α → β → Prop} (h : SatW X W σ R w (if c then res else .bad) P) : c ∧ SatW X W σ R w res P := by
  by_cases hc : c
  · rw [if_pos hc] at h
    exact ⟨hc, h⟩
  · rw [if_neg hc] at h
    exact h.elim

def OpD (X : Cx) (fn : Value → Value → Sem Value) (g : D → D → M D) : Prop :=
  ∃ rr : R2, OpR X fn rr ∧ ∀ (w : Wl) (x y : V) (d e : D) (W : WX) (σ : L2.St) (Q : VK), Wd X.K w → RD X.K w d x → RD X.K w e y → SatW (kt X) W σ (RD X.K) w (g d e w.S) (fun w' _ v => Q v w'.H) → rr x y w.H Q
def IxD (X : Cx) (g : D → D → M D) : Prop :=
  ∃ rr : R2, IxR X rr ∧ ∀ (w : Wl) (x y : V) (d e : D) (W : WX) (σ : L2.St) (Q : VK), Wd X.K w → RD X.K w d x → RD X.K w e y → SatW (kt X) W σ (RD X.K) w (g d e w.S) (fun w' _ v => Q v w'.H) → rr x y w.H Q
def UnD (X : Cx) (fn : Value → Sem Value) (g : D → M D) : Prop :=
  ∃ rr : V → Hp → VK → Prop, UnR X fn rr ∧ ∀ (w : Wl) (x : V) (d : D) (W : WX) (σ : L2.St) (Q : VK), Wd X.K w → RD X.K w d x → SatW (kt X) W σ (RD X.K) w (g d w.S) (fun w' _ v => Q v w'.H) → rr x w.H Q
def CallD (X : Cx) (f : Value) (g : List D → M D) : Prop :=
  ∃ rr : List V → Hp → VK → Prop, CallR X f rr ∧ ∀ (w : Wl) (xs : List V) (ds : List D) (W : WX) (σ : L2.St) (Q : VK), Wd X.K w → RDs X.K w ds xs → SatW (kt X) W σ (RD X.K) w (g ds w.S) (fun w' _ v => Q v w'.H) → rr xs w.H Q
section
variable {X : Cx} {W : WX} {a b e : Expr} {es : List Expr} {f g : Env → M D} {h : Env → M (List D)} {pos : Pos}
theorem pd_var {i : Nat} {x : Str} (hN : X.N[i]? = some x := by rfl) (hv : Vis X.env.scope x := by first | exact Or.inl rfl | exact Or.inr (Or.inl rfl) | exact Or.inr (Or.inr rfl)) (hd : (x == ("__debug__" : Str)) = false := by decide)
    (hcd : (x == ("__classdict__" : Str)) = false := by decide) : PD X W (.Name x pos) (xVar i) := by
  refine weakE (pe_var (i := i) hN hv hd hcd) fun σ H Q ⟨w, env, eH, hw, he, hs⟩ => ?_
  subst eH
  unfold xVar at hs
  cases q : env[i]? with
  | none => rw [q] at hs; exact hs.elim
  | some o =>
    cases o with
    | none => rw [q] at hs; exact hs.elim
    | some d =>
      rw [q] at hs
      obtain ⟨v, e1, r⟩ := he.2 i d q
      exact ⟨v, e1, SatW.here hs hw r⟩
theorem pd_c {t : TE} {d : D} {v : V} (h : PE X e t) (ht : ∀ σ H Q, Q v H → t σ H Q) (hr : ∀ K r F, Rp K r F d v) : PD X W e (xC d) := by
  refine weakE h fun σ H Q ⟨w, env, eH, hw, he, hs⟩ => ht _ _ _ ?_
  subst eH
  exact SatW.here (d := d) (v := v) hs hw (hr _ _ _)
theorem pd_int {i j} : PD X W (.Constant (.int i) j pos) (xC (.int i)) := pd_c pe_int (fun _ _ _ q => q) fun _ _ _ => by unfold Rp; rfl
theorem pd_bl {i j} : PD X W (.Constant (.bool i) j pos) (xC (.bl i)) := pd_c pe_bl (fun _ _ _ q => q) fun _ _ _ => by unfold Rp; rfl
theorem pd_non {j} : PD X W (.Constant .none j pos) (xC .non) := pd_c pe_non (fun _ _ _ q => q) fun _ _ _ => by unfold Rp; rfl
theorem pd_str {i j} : PD X W (.Constant (.str i) j pos) (xC (.str i)) := pd_c pe_str (fun _ _ _ q => q) fun _ _ _ => by unfold Rp; rfl
theorem two {rr : R2} {k : D → D → M D} (h1 : ∀ (w : Wl) (x y : V) (d e : D) (W : WX) (σ : L2.St) (Q : VK), Wd X.K w → RD X.K w d x → RD X.K w e y → SatW (kt X) W σ (RD X.K) w (k d e w.S) (fun w' _ v => Q v w'.H) → rr x y w.H Q)
    {σ : L2.St} {H : Hp} {Q : VK} (h : tD (kt X) W (xOp k f g) σ H Q) : tOp rr (tD (kt X) W f) (tD (kt X) W g) σ H Q := by
  obtain ⟨w, env, eH, hw, he, hs⟩ := h
  subst eH
  refine ⟨w, env, rfl, hw, he, SatW.imp (SatW.bind hs) fun w1 x v g1 r1 s1 => ?_⟩
  refine ⟨w1, env, rfl, g1.wd, he.go g1, SatW.imp (SatW.bind s1) fun w2 y u g2 r2 s2 => ?_⟩
  exact h1 w2 v u x y W σ Q g2.wd (Rp.go g2 r1) r2 s2
theorem pd_op {op : Operator} {k : D → D → M D} (ho : OpD X (binaryOp op) k) (ha : PD X W a f) (hb : PD X W b g) : PD X W (.BinOp a op b pos) (xOp k f g) := by
  obtain ⟨rr, ro, h1⟩ := ho
  exact weakE (pe_op ro ha hb) fun σ H Q => two h1
theorem pd_cmp {op : CmpOp} {k : D → D → M D} (ho : OpD X (compareOp op) k) (ha : PD X W a f) (hb : PD X W b g) (hm : behindInMarks op b = false := by first | exact nomark _ | rfl) : PD X W (.Compare a [op] [b] pos) (xOp k f g) := by
  obtain ⟨rr, ro, h1⟩ := ho
  exact weakE (pe_cmpR ro ha hb hm) fun σ H Q => two h1
theorem pd_ix {k : D → D → M D} (ho : IxD X k) (ha : PD X W a f) (hb : PD X W b g) (hs : PlainIx b := by exact fun _ _ => rfl) : PD X W (.Subscript a b pos) (xOp k f g) := by
  obtain ⟨rr, ro, h1⟩ := ho
  exact weakE (pe_ix ro ha hb hs) fun σ H Q => two h1
theorem pd_un {op : UnaryOp} {k : D → M D} (ho : UnD X (unaryOp op) k) (ha : PD X W a f) : PD X W (.UnaryOp op a pos) (xUn k f) := by
  obtain ⟨rr, ro, h1⟩ := ho
  refine weakE (pe_un ro ha) fun σ H Q ⟨w, env, eH, hw, he, hs⟩ => ?_
  subst eH
  refine ⟨w, env, rfl, hw, he, SatW.imp (SatW.bind hs) fun w1 x v g1 r1 s1 => ?_⟩
  exact h1 w1 v x W σ Q g1.wd r1 s1
theorem pad_nil : PAD X W [] xNil := by
  refine weakA pa_nil fun σ H Q ⟨w, env, eH, hw, he, hs⟩ => ?_
  subst eH
  exact SatW.here (d := []) (v := []) hs hw rps_nil
theorem pad_cons (ha : PD X W e f) (hr : PAD X W es h) (hs : starEach (e :: es) X.env = (false, eval e X.env) :: starEach es X.env := by rfl) : PAD X W (e :: es) (xCons f h) := by
  refine weakA (pa_cons ha hr hs) fun σ H Q ⟨w, env, eH, hw, he, hs⟩ => ?_
  subst eH
  refine ⟨w, env, rfl, hw, he, SatW.imp (SatW.bind hs) fun w1 x v g1 r1 s1 => ?_⟩
  refine ⟨w1, env, rfl, g1.wd, he.go g1, SatW.imp (SatW.bind s1) fun w2 y u g2 r2 s2 => ?_⟩
  exact SatW.here (d := x :: y) (v := v :: u) s2 g2.wd (rps_cons (Rp.go g2 r1) r2)
theorem pd_tup {k : Nat} (ha : PAD X W es h) : PD X W (.Tuple es k pos) (xTup h) := by
  refine weakE (pe_tup ha) fun σ H Q ⟨w, env, eH, hw, he, hs⟩ => ?_
  subst eH
  refine ⟨w, env, rfl, hw, he, SatW.imp (SatW.bind hs) fun w1 x v g1 r1 s1 => ?_⟩
  obtain ⟨hl, s1⟩ := satIf s1
  exact ⟨line1000 (by rw [Rps.length r1]; exact hl), tup_go g1.wd r1 s1⟩
theorem pd_lst {mk : List D → M D} (m : Mk mk) (ha : PAD X W es h) : PD X W (.List es pos) (xLst mk h) := by
  refine weakE (pe_lst ha) fun σ H Q ⟨w, env, eH, hw, he, hs⟩ => ?_
  subst eH
  refine ⟨w, env, rfl, hw, he, SatW.imp (SatW.bind hs) fun w1 x v g1 r1 s1 => ?_⟩
  obtain ⟨hl, s1⟩ := satIf s1
  exact ⟨line1000 (by rw [Rps.length r1]; exact hl), m.go g1.wd r1 s1⟩
theorem callB {rr : List V → Hp → VK → Prop} {k : List D → M D} (h1 : ∀ (w : Wl) (xs : List V) (ds : List D) (W : WX) (σ : L2.St) (Q : VK), Wd X.K w → RDs X.K w ds xs → SatW (kt X) W σ (RD X.K) w (k ds w.S) (fun w' _ v => Q v w'.H) → rr xs w.H Q)
    {σ : L2.St} {H : Hp} {Q : VK} (hh : tD (kt X) W (xFn k h) σ H Q) : tCB rr (tDA (kt X) W h) σ H Q := by
  obtain ⟨w, env, eH, hw, he, hs⟩ := hh
  subst eH
  refine ⟨w, env, rfl, hw, he, SatW.imp (SatW.bind hs) fun w1 x v g1 r1 s1 => ?_⟩
  exact h1 w1 v x W σ Q g1.wd r1 s1
/-- a built-in function, a built-in class called -/
theorem pd_callB {id : String} {x : Str} {p : Pos} {k : List D → M D} (hc : CallD X (.builtin id) k) (hg : Gl X x) (hm : X.mg x = none) (hv : bootBuiltins x = some (.builtin id)) (ha : PAD X W (e :: es) h) (hn : x ≠ "__name__" := by decide) (hdb : (x == ("__debug__" : Str)) = false := by decide)
    (he : starEach (e :: es) X.env = (false, eval e X.env) :: starEach es X.env := by rfl) (hpl : (backTo pos (starEach es X.env)).any (·.1) = false := by rfl) : PD X W (.Call (.Name x p) (e :: es) [] pos) (xFn k h) := by
  obtain ⟨rr, ro, h1⟩ := hc
  exact weakE (pe_callB ro hg hm hv ha hn hdb he hpl) fun σ H Q => callB h1
theorem pd_callTy {T : String} {x : Str} {p : Pos} {k : List D → M D} (hc : CallD X (.type T) k) (hg : Gl X x) (hm : X.mg x = none) (hv : bootBuiltins x = some (.type T)) (ha : PAD X W (e :: es) h) (hn : x ≠ "__name__" := by decide) (hdb : (x == ("__debug__" : Str)) = false := by decide)
    (he : starEach (e :: es) X.env = (false, eval e X.env) :: starEach es X.env := by rfl) (hpl : (backTo pos (starEach es X.env)).any (·.1) = false := by rfl) : PD X W (.Call (.Name x p) (e :: es) [] pos) (xFn k h) := by
  obtain ⟨rr, ro, h1⟩ := hc
  exact weakE (pe_callTy ro hg hm hv ha hn hdb he hpl) fun σ H Q => callB h1
end
end Dv
/-! # Dv3: tests, statements, loops, calls -/
namespace Dv
open PySem PySem.Spec PyProof.Rows L2

/-! ### tests -/
/-- a value's truth -/
def tru (d : D) (S : Store) : Res Bool := match d with
  | .non => .ok false S
  | .bl b => .ok b S
  | .int i => .ok (i != 0) S
  | .str x => if x.length ≤ 16000000 then .ok ((x.length : Int) != 0) S else .bad
  | .tup l => .ok (!l.isEmpty) S
  | .lst l => .ok (!l.isEmpty) S
  | .scr l => .ok (!l.isEmpty) S
  | .cell n => match S[n]? with
    | some (.lst l) => .ok (!l.isEmpty) S
    | some (.dct l) => .ok (!l.isEmpty) S
    | _ => .bad
  | .raw _ => .bad
  | .cls _ => .bad
  | .exn _ _ => .bad
def xTru (f : Env → M D) : Env → M Bool := fun e S => (f e S).bind tru
def xIsT (f : Env → M D) : Env → M Bool := fun e S => (f e S).bind fun d S1 => match d with
  | .bl b => .ok b S1
  | _ => .bad
def xNot (f : Env → M Bool) : Env → M Bool := fun e S => (f e S).bind fun b S1 => .ok (!b) S1
def xAnd (f g : Env → M Bool) : Env → M Bool := fun e S => (f e S).bind fun b S1 => if b then g e S1 else .ok false S1
def xOr (f g : Env → M Bool) : Env → M Bool := fun e S => (f e S).bind fun b S1 => if b then .ok true S1 else g e S1
def xAndV (f g : Env → M D) : Env → M D := fun e S => (f e S).bind fun d S1 => match d with
  | .bl true => g e S1
  | .bl false => .ok (.bl false) S1
  | _ => .bad
def xOrV (f g : Env → M D) : Env → M D := fun e S => (f e S).bind fun d S1 => match d with
  | .bl true => .ok (.bl true) S1
  | .bl false => g e S1
  | _ => .bad
def xNotV (f : Env → M D) : Env → M D := fun e S => (f e S).bind fun d S1 => match d with
  | .bl b => .ok (.bl (!b)) S1
  | _ => .bad
def xIf (c : Env → M Bool) (f g : Env → M D) : Env → M D := fun e S => (c e S).bind fun b S1 => if b then f e S1 else g e S1
section
variable {X : Cx} {W : WX} {a b c e : Expr} {es rest : List Expr} {f g : Env → M D} {k k' : Env → M Bool} {h : Env → M (List D)} {pos : Pos}
theorem ptd_cmp {op : CmpOp} {k : D → D → M D} (ho : OpD X (compareOp op) k) (ha : PD X W a f) (hb : PD X W b g) (hm : behindInMarks op b = false := by first | exact nomark _ | rfl) : PTD X W (.Compare a [op] [b] pos) (xIsT (xOp k f g)) := by
  obtain ⟨rr, ro, h1⟩ := ho
  refine weakT (pt_cmpR ro ha hb hm) fun σ H Q ⟨w, env, eH, hw, he, hs⟩ => ?_
  subst eH
  refine two h1 ⟨w, env, rfl, hw, he, SatW.imp (SatW.bind hs) fun w1 d v g1 r1 s1 => ?_⟩
  cases d with
  | bl b =>
    obtain rfl : v = V.bl b := by
      have r2 : Rp X.K w1.r w1.F (.bl b) v := r1
      unfold Rp at r2; exact r2
    exact ⟨b, rfl, SatW.here (d := b) (v := b) s1 g1.wd rfl⟩
  | _ => exact s1.elim
theorem rp_bl {K : PySem.W.Frag} {r : List Addr} {F : Hp} {b : Bool} {v : V} (h : Rp K r F (.bl b) v) : v = .bl b := by unfold Rp at h; exact h
theorem rp_int {K : PySem.W.Frag} {r : List Addr} {F : Hp} {b : Int} {v : V} (h : Rp K r F (.int b) v) : v = .int b := by unfold Rp at h; exact h
theorem rp_str {K : PySem.W.Frag} {r : List Addr} {F : Hp} {b : Str} {v : V} (h : Rp K r F (.str b) v) : v = .str b := by unfold Rp at h; exact h
theorem rp_non {K : PySem.W.Frag} {r : List Addr} {F : Hp} {v : V} (h : Rp K r F .non v) : v = .non := by unfold Rp at h; exact h
theorem rp_raw {K : PySem.W.Frag} {r : List Addr} {F : Hp} {b v : V} (h : Rp K r F (.raw b) v) : v = b := by unfold Rp at h; exact h
theorem rpb {K : PySem.W.Frag} {r : List Addr} {F : Hp} {b : Bool} : Rp K r F (.bl b) (.bl b) := by unfold Rp; rfl
theorem rpi {K : PySem.W.Frag} {r : List Addr} {F : Hp} {b : Int} : Rp K r F (.int b) (.int b) := by unfold Rp; rfl
theorem rps {K : PySem.W.Frag} {r : List Addr} {F : Hp} {b : Str} : Rp K r F (.str b) (.str b) := by unfold Rp; rfl
theorem rpn {K : PySem.W.Frag} {r : List Addr} {F : Hp} : Rp K r F .non .non := by unfold Rp; rfl
theorem isEmpty_rps {K : PySem.W.Frag} {r : List Addr} {F : Hp} {l : List D} {vs : List V} (h : Rps K r F l vs) : vs.isEmpty = l.isEmpty := by
  have e := h.length
  cases l <;> cases vs <;> first | rfl | simp at e
theorem isEmpty_rpk {K : PySem.W.Frag} {r : List Addr} {F : Hp} {l : List (Key × D)} {vs : List (Key × V)} (h : RpK K r F l vs) : vs.isEmpty = l.isEmpty := by
  cases h <;> rfl
theorem tru_sat {T : Kt} {σ : L2.St} {w : Wl} {d : D} {v : V} {Q : Bool → Hp → Prop} (hw : Wd T.K w) (r : RD T.K w d v) (hs : SatW T W σ RB w (tru d w.S) (fun w' _ v => Q v w'.H)) : ∃ k, TruV T.K v w.H k ∧ Q k w.H := by
  have r' : Rp T.K w.r w.F d v := r
  cases d with
  | non => cases rp_non r'; exact ⟨false, rfl, SatW.here (d := false) (v := false) hs hw rfl⟩
  | bl b => cases rp_bl r'; exact ⟨b, rfl, SatW.here (d := b) (v := b) hs hw rfl⟩
  | int i => cases rp_int r'; exact ⟨_, rfl, SatW.here (d := (i != 0)) (v := (i != 0)) hs hw rfl⟩
  | str x =>
    cases rp_str r'
    unfold tru at hs
    obtain ⟨hl, hs⟩ := satIf hs
    exact ⟨_, ⟨line16 hl, rfl⟩, SatW.here (d := ((x.length : Int) != 0)) (v := ((x.length : Int) != 0)) hs hw rfl⟩
  | tup l =>
    obtain ⟨a, vs, rfl, q, p⟩ := getT_ok hw r' rfl
    exact ⟨!l.isEmpty, .inr (.inl ⟨vs, .inl q, by rw [isEmpty_rps p]⟩), SatW.here (d := !l.isEmpty) (v := !l.isEmpty) hs hw rfl⟩
  | lst l =>
    obtain ⟨a, vs, rfl, q, p⟩ := getL_ok hw r' rfl
    exact ⟨!l.isEmpty, .inl ⟨vs, .inl (.inl q), by rw [isEmpty_rps p]⟩, SatW.here (d := !l.isEmpty) (v := !l.isEmpty) hs hw rfl⟩
  | scr l =>
    obtain ⟨a, vs, rfl, q, p⟩ := getQ_ok hw r' rfl
    exact ⟨!l.isEmpty, .inl ⟨vs, q, by rw [isEmpty_rps p]⟩, SatW.here (d := !l.isEmpty) (v := !l.isEmpty) hs hw rfl⟩
  | cell n =>
    unfold tru at hs
    cases e : w.S[n]? with
    | none => simp only [e] at hs; exact hs.elim
    | some c =>
      cases c with
      | lst l =>
        simp only [e] at hs
        obtain ⟨a, vs, rfl, q, p⟩ := getL_ok (l := l) hw r' (by simp only [getL, e])
        exact ⟨!l.isEmpty, .inl ⟨vs, .inl (.inl q), by rw [isEmpty_rps p]⟩, SatW.here (d := !l.isEmpty) (v := !l.isEmpty) hs hw rfl⟩
      | dct l =>
        simp only [e] at hs
        unfold Rp at r'
        obtain ⟨a, e1, rfl⟩ := r'
        obtain ⟨_, vs, e2, p⟩ := hw.cell n a _ e1 e
        exact ⟨!l.isEmpty, .inr (.inr ⟨vs, e2, by rw [isEmpty_rpk p]⟩), SatW.here (d := !l.isEmpty) (v := !l.isEmpty) hs hw rfl⟩
      | dead => simp only [e] at hs; exact hs.elim
  | raw _ => exact hs.elim
  | cls _ => exact hs.elim
  | exn _ _ => exact hs.elim
theorem ptd_truth (ha : PD X W a f) (he : ∀ whole, isTrue a X.env whole = (do let v ← whole; standAt a.pos; holding [v] (truthy v)) := by intro _; rfl) : PTD X W a (xTru f) := by
  refine weakT (pt_truth ha he) fun σ H Q ⟨w, env, eH, hw, he, hs⟩ => ?_
  subst eH
  exact ⟨w, env, rfl, hw, he, SatW.imp (SatW.bind hs) fun w1 d v g1 r1 s1 => tru_sat g1.wd r1 s1⟩
theorem ptd_not (ha : PTD X W a k) : PTD X W (.UnaryOp .Not a pos) (xNot k) := by
  refine weakT (pt_not ha) fun σ H Q ⟨w, env, eH, hw, he, hs⟩ => ?_
  subst eH
  refine ⟨w, env, rfl, hw, he, SatW.imp (SatW.bind hs) fun w1 d v g1 r1 s1 => ?_⟩
  have e : d = v := r1
  subst e
  exact SatW.here (d := !d) (v := !d) s1 g1.wd rfl
theorem PWD.pt (h : PWD X W a k) : PTD X W a k := PW.pt h
theorem pwd_and1 (ha : PTD X W a k) : PWD X W (.BoolOp .And [a] pos) k := pw_and1 ha
theorem pwd_or1 (ha : PTD X W a k) : PWD X W (.BoolOp .Or [a] pos) k := pw_or1 ha
theorem pwd_and (ha : PTD X W a k) (hb : PWD X W (.BoolOp .And (b :: rest) pos) k') : PWD X W (.BoolOp .And (a :: b :: rest) pos) (xAnd k k') := by
  refine weakW (pw_and ha hb) fun σ H Q ⟨w, env, eH, hw, he, hs⟩ => ?_
  subst eH
  refine ⟨w, env, rfl, hw, he, SatW.imp (SatW.bind hs) fun w1 d v g1 r1 s1 => ?_⟩
  have e : d = v := r1
  subst e
  cases d with
  | true => exact iteT ⟨w1, env, rfl, g1.wd, he.go g1, s1⟩
  | false => exact iteF (SatW.here (d := false) (v := false) s1 g1.wd rfl)
theorem pwd_or (ha : PTD X W a k) (hb : PWD X W (.BoolOp .Or (b :: rest) pos) k') : PWD X W (.BoolOp .Or (a :: b :: rest) pos) (xOr k k') := by
  refine weakW (pw_or ha hb) fun σ H Q ⟨w, env, eH, hw, he, hs⟩ => ?_
  subst eH
  refine ⟨w, env, rfl, hw, he, SatW.imp (SatW.bind hs) fun w1 d v g1 r1 s1 => ?_⟩
  have e : d = v := r1
  subst e
  cases d with
  | true => exact iteT (SatW.here (d := true) (v := true) s1 g1.wd rfl)
  | false => exact iteF ⟨w1, env, rfl, g1.wd, he.go g1, s1⟩
theorem pd_one {op} (ha : PD X W a f) : PD X W (.BoolOp op [a] pos) f := pe_one ha
theorem pd_and (ha : PD X W a f) (hb : PD X W (.BoolOp .And (b :: rest) pos) g) : PD X W (.BoolOp .And (a :: b :: rest) pos) (xAndV f g) := by
  refine weakE (pe_and ha hb) fun σ H Q ⟨w, env, eH, hw, he, hs⟩ => ?_
  subst eH
  refine ⟨w, env, rfl, hw, he, SatW.imp (SatW.bind hs) fun w1 d v g1 r1 s1 => ?_⟩
  cases d with
  | bl b =>
    cases rp_bl (show Rp X.K w1.r w1.F (.bl b) v from r1)
    refine ⟨b, rfl, ?_⟩
    cases b with
    | true => exact iteT ⟨w1, env, rfl, g1.wd, he.go g1, s1⟩
    | false => exact iteF (SatW.here (d := D.bl false) (v := V.bl false) s1 g1.wd r1)
  | _ => exact s1.elim
theorem pd_or (ha : PD X W a f) (hb : PD X W (.BoolOp .Or (b :: rest) pos) g) : PD X W (.BoolOp .Or (a :: b :: rest) pos) (xOrV f g) := by
  refine weakE (pe_or ha hb) fun σ H Q ⟨w, env, eH, hw, he, hs⟩ => ?_
  subst eH
  refine ⟨w, env, rfl, hw, he, SatW.imp (SatW.bind hs) fun w1 d v g1 r1 s1 => ?_⟩
  cases d with
  | bl b =>
    cases rp_bl (show Rp X.K w1.r w1.F (.bl b) v from r1)
    refine ⟨b, rfl, ?_⟩
    cases b with
    | true => exact iteT (SatW.here (d := D.bl true) (v := V.bl true) s1 g1.wd r1)
    | false => exact iteF ⟨w1, env, rfl, g1.wd, he.go g1, s1⟩
  | _ => exact s1.elim
theorem pd_not (ha : PD X W a f) : PD X W (.UnaryOp .Not a pos) (xNotV f) := by
  refine weakE (pe_not ha) fun σ H Q ⟨w, env, eH, hw, he, hs⟩ => ?_
  subst eH
  refine ⟨w, env, rfl, hw, he, SatW.imp (SatW.bind hs) fun w1 d v g1 r1 s1 => ?_⟩
  cases d with
  | bl b =>
    cases rp_bl (show Rp X.K w1.r w1.F (.bl b) v from r1)
    exact ⟨b, rfl, SatW.here (d := D.bl (!b)) (v := V.bl (!b)) s1 g1.wd rpb⟩
  | _ => exact s1.elim
theorem pd_if (hc : PTD X W c k) (ha : PD X W a f) (hb : PD X W b g) : PD X W (.IfExp c a b pos) (xIf k f g) := by
  refine weakE (pe_ifExp hc ha hb) fun σ H Q ⟨w, env, eH, hw, he, hs⟩ => ?_
  subst eH
  refine ⟨w, env, rfl, hw, he, SatW.imp (SatW.bind hs) fun w1 d v g1 r1 s1 => ?_⟩
  have e : d = v := r1
  subst e
  cases d with
  | true => exact iteT ⟨w1, env, rfl, g1.wd, he.go g1, s1⟩
  | false => exact iteF ⟨w1, env, rfl, g1.wd, he.go g1, s1⟩
end

/-! ### statements -/
inductive Out where
  | nx (e : Env) (S : Store)
  | rt (d : D) (S : Store)
  | bk (e : Env) (S : Store)
  | ct (e : Env) (S : Store)
  | exc (x : Exn) (e : Env) (S : Store)
  | bad
def SatS (T : Kt) (W : WX) (w : Wl) (o : Out) (D : Ends) : Prop := match o with
  | .nx e S => ∀ w' σ', Go T.K w w' → w'.S = S → EnvOk T.K w' e σ' → D.nx σ' w'.H
  | .rt d S => ∀ w' v, Go T.K w w' → w'.S = S → Rp T.K w'.r w'.F d v → D.rt v w'.H
  | .bk e S => ∀ w' σ', Go T.K w w' → w'.S = S → EnvOk T.K w' e σ' → D.bk σ' w'.H
  | .ct e S => ∀ w' σ', Go T.K w w' → w'.S = S → EnvOk T.K w' e σ' → D.ct σ' w'.H
  | .exc x e S => ∀ w' σ' cls dd, Go T.K w w' → w'.S = S → EnvOk T.K w' e σ' → ExcOk T.K T.mg w' x cls dd → W cls dd σ' w'.H
  | .bad => False
def Res.out {α : Type} (x : Res α) (env : Env) (k : α → Store → Out) : Out := match x with
  | .ok a S => k a S
  | .exc e S => .exc e env S
  | .bad => .bad
@[simp] theorem Res.out_ok {α : Type} (a : α) (S : Store) (env : Env) (k : α → Store → Out) : (Res.ok a S).out env k = k a S := rfl
@[simp] theorem Res.out_exc {α : Type} (x : Exn) (S : Store) (env : Env) (k : α → Store → Out) : (Res.exc x S : Res α).out env k = .exc x env S := rfl
@[simp] theorem Res.out_bad {α : Type} (env : Env) (k : α → Store → Out) : (Res.bad : Res α).out env k = .bad := rfl
def Out.seq (o : Out) (k : Env → Store → Out) : Out := match o with
  | .nx e S => k e S
  | o => o
@[simp] theorem Out.seq_nx (e : Env) (S : Store) (k : Env → Store → Out) : (Out.nx e S).seq k = k e S := rfl
@[simp] theorem Out.seq_rt (d : D) (S : Store) (k : Env → Store → Out) : (Out.rt d S).seq k = .rt d S := rfl
@[simp] theorem Out.seq_bk (e : Env) (S : Store) (k : Env → Store → Out) : (Out.bk e S).seq k = .bk e S := rfl
@[simp] theorem Out.seq_ct (e : Env) (S : Store) (k : Env → Store → Out) : (Out.ct e S).seq k = .ct e S := rfl
@[simp] theorem Out.seq_exc (x : Exn) (e : Env) (S : Store) (k : Env → Store → Out) : (Out.exc x e S).seq k = .exc x e S := rfl
@[simp] theorem Out.seq_bad (k : Env → Store → Out) : Out.bad.seq k = .bad := rfl
section
variable {T : Kt} {W : WX} {w w1 : Wl} {D : Ends}
theorem SatS.pre {o : Out} (h : SatS T W w o D) (g : Go T.K w w1) : SatS T W w1 o D := by
  cases o with
  | nx e S => exact fun w' v g' e q => h w' v (g.trans g') e q
  | rt e S => exact fun w' v g' e q => h w' v (g.trans g') e q
  | bk e S => exact fun w' v g' e q => h w' v (g.trans g') e q
  | ct e S => exact fun w' v g' e q => h w' v (g.trans g') e q
  | exc x e S => exact fun w' σ' cls dd g' e q => h w' σ' cls dd (g.trans g') e q
  | bad => exact h
theorem SatS.out {α β : Type} {R : Wl → α → β → Prop} {σ : L2.St} {x : Res α} {env : Env} {k : α → Store → Out} (h : SatS T W w (x.out env k) D) (he : EnvOk T.K w env σ) :
    SatW T W σ R w x (fun w1 d _ => SatS T W w1 (k d w1.S) D) := by
  cases x with
  | ok d S => exact fun w' v g e q => by subst e; exact SatS.pre (o := k d w'.S) h g
  | exc x S => exact fun w' cls dd g e q => h w' σ cls dd g e (he.go g) q
  | bad => exact h
end
/-- a statement's reading -/
def sD (T : Kt) (W : WX) (g : Env → Store → Out) : TS := fun D σ H => ∃ (w : Wl) (env : Env), w.H = H ∧ Wd T.K w ∧ EnvOk T.K w env σ ∧ SatS T W w (g env w.S) D
def PSD (X : Cx) (W : WX) (s : Stmt) (g : Env → Store → Out) : Prop := PS X s (sD (kt X) W g)
def PSsD (X : Cx) (W : WX) (s : List Stmt) (g : Env → Store → Out) : Prop := PSs X s (sD (kt X) W g)

def yNil : Env → Store → Out := fun e S => .nx e S
def ySeq (g h : Env → Store → Out) : Env → Store → Out := fun e S => (g e S).seq h
def yBreak : Env → Store → Out := fun e S => .bk e S
def yCont : Env → Store → Out := fun e S => .ct e S
def yExpr (f : Env → M D) : Env → Store → Out := fun e S => (f e S).out e fun _ S1 => .nx e S1
def yRet (f : Env → M D) : Env → Store → Out := fun e S => (f e S).out e fun d S1 => .rt d S1
def yRetN : Env → Store → Out := fun e S => .rt .non S
def yIf (c : Env → M Bool) (g h : Env → Store → Out) : Env → Store → Out := fun e S => (c e S).out e fun b S1 => if b then g e S1 else h e S1
def yNever : Env → Store → Out := fun _ _ => .bad
def ySet (i : Nat) (f : Env → M D) : Env → Store → Out := fun e S => (f e S).out e fun d S1 => .nx (e.set i (some d)) S1
def yAsg (f : Env → M D) (g : D → Env → Store → Out) : Env → Store → Out := fun e S => (f e S).out e fun d S1 => g d e S1
def yPar (i j : Nat) (f : Env → M (List D)) : Env → Store → Out := fun e S => (f e S).out e fun l S1 => match l with
  | [a, b] => .nx ((e.set i (some a)).set j (some b)) S1
  | _ => .bad
def yAug (i : Nat) (f : Env → M D) (g : D → D → M D) : Env → Store → Out := fun e S => match e[i]? with
  | some (some x) => (f e S).out e fun y S1 => (g x y S1).out e fun z S2 => .nx (e.set i (some z)) S2
  | _ => .bad

/-- a target -/
def SatG (T : Kt) (w : Wl) (o : Out) (Q : L2.St → Hp → Prop) : Prop := match o with
  | .nx e S => ∀ w' σ', Go T.K w w' → w'.S = S → EnvOk T.K w' e σ' → Q σ' w'.H
  | _ => False
def gD (T : Kt) (g : D → Env → Store → Out) : TG := fun v σ H Q => ∃ (w : Wl) (env : Env) (d : D), w.H = H ∧ Wd T.K w ∧ EnvOk T.K w env σ ∧ Rp T.K w.r w.F d v ∧ SatG T w (g d env w.S) Q
def gDs (T : Kt) (g : List D → Env → Store → Out) : TGs := fun v σ H Q => ∃ (w : Wl) (env : Env) (d : List D), w.H = H ∧ Wd T.K w ∧ EnvOk T.K w env σ ∧ Rps T.K w.r w.F d v ∧ SatG T w (g d env w.S) Q
def PGD (X : Cx) (e : Expr) (g : D → Env → Store → Out) : Prop := PG X e (gD (kt X) g)
def PGsD (X : Cx) (e : List Expr) (g : List D → Env → Store → Out) : Prop := PGs X e (gDs (kt X) g)
theorem SatG.pre {T : Kt} {w w1 : Wl} {o : Out} {Q : L2.St → Hp → Prop} (h : SatG T w o Q) (g : Go T.K w w1) : SatG T w1 o Q := by
  cases o with
  | nx e S => exact fun w' v g' e q => h w' v (g.trans g') e q
  | _ => exact h.elim
theorem SatG.seq {T : Kt} {w : Wl} {o : Out} {k : Env → Store → Out} {Q : L2.St → Hp → Prop} (h : SatG T w (o.seq k) Q) : SatG T w o (fun σ' H' => ∃ w' e', w'.H = H' ∧ Wd T.K w' ∧ EnvOk T.K w' e' σ' ∧ Go T.K w w' ∧ o = .nx e' w'.S ∧ SatG T w' (k e' w'.S) Q) := by
  cases o with
  | nx e S => exact fun w' σ' g' es he => by subst es; exact ⟨w', e, rfl, g'.wd, he, g', rfl, SatG.pre (o := k e w'.S) h g'⟩
  | _ => exact h
theorem weakG {X : Cx} {e : Expr} {t t' : TG} (h : PG X e t) (q : ∀ v σ H Q, t' v σ H Q → t v σ H Q) : PG X e t' := ⟨fun pins s σ H v u Q I r z => h.run pins s σ H v u Q I r (q _ _ _ _ z)⟩
theorem weakGs {X : Cx} {e : List Expr} {t t' : TGs} (h : PGs X e t) (q : ∀ v σ H Q, t' v σ H Q → t v σ H Q) : PGs X e t' := ⟨fun pins s σ H v u Q I r z => h.run pins s σ H v u Q I r (q _ _ _ _ z)⟩

def gN (i : Nat) : D → Env → Store → Out := fun d e S => .nx (e.set i (some d)) S
def gsNil : List D → Env → Store → Out := fun l e S => match l with
  | [] => .nx e S
  | _ => .bad
def gsCons (g : D → Env → Store → Out) (h : List D → Env → Store → Out) : List D → Env → Store → Out := fun l e S => match l with
  | d :: r => (g d e S).seq (h r)
  | [] => .bad
def gT (n : Nat) (h : List D → Env → Store → Out) : D → Env → Store → Out := fun d e S => match d with
  | .tup l => if l.length = n then h l e S else .bad
  | _ => .bad
section
variable {X : Cx} {W : WX} {a b c e : Expr} {es rest : List Expr} {f f' : Env → M D} {k : Env → M Bool} {h : Env → M (List D)} {g g' : Env → Store → Out} {s : Stmt} {ss : List Stmt} {pos : Pos}
theorem pgd_name {i : Nat} {x : Str} (hN : X.N.Nodup) (hi : X.N[i]? = some x := by rfl) (hx : Loc X.env.scope x := by first | exact .inl rfl | exact .inr rfl) (hf : X.fn x = true ∨ X.env.scope.names.lookup x = some .local := by first | exact .inl rfl | exact .inr rfl | assumption) : PGD X (.Name x pos) (gN i) := by
  refine weakG (pg_name (i := i) hN hi hx hf) fun v σ H Q ⟨w, env, d, eH, hw, he, hr, hs⟩ => ?_
  subst eH
  exact hs w _ (Go.refl hw) rfl (he.set hr)
theorem pgsd_nil : PGsD X [] gsNil := by
  refine weakGs pgs_nil fun v σ H Q ⟨w, env, d, eH, hw, he, hr, hs⟩ => ?_
  subst eH
  cases d with
  | nil => exact ⟨hr.nil_inv, hs w _ (Go.refl hw) rfl he⟩
  | cons x l => exact hs.elim
theorem pgsd_cons {gg : D → Env → Store → Out} {hh : List D → Env → Store → Out} (h1 : PGD X e gg) (h2 : PGsD X es hh) (hs : (assignEach (e :: es) X.env).map (·.2) = assign e X.env :: (assignEach es X.env).map (·.2) := by rfl) : PGsD X (e :: es) (gsCons gg hh) := by
  refine weakGs (pgs_cons h1 h2 hs) fun v σ H Q ⟨w, env, d, eH, hw, he, hr, hs⟩ => ?_
  subst eH
  cases d with
  | nil => exact hs.elim
  | cons x l =>
    obtain ⟨v0, t, e1, r1, r2⟩ := hr.cons_inv
    refine ⟨v0, t, e1, w, env, x, rfl, hw, he, r1, ?_⟩
    have hs' : SatG (kt X) w ((gg x env w.S).seq (hh l)) Q := hs
    have q := SatG.seq hs'
    cases o : gg x env w.S with
    | nx e' S' =>
      rw [o] at q
      intro w' σ' g' es' he'
      obtain ⟨w2, e2, eH, wd2, he2, g2, eo, s2⟩ := q w' σ' g' es' he'
      exact ⟨w2, e2, l, eH, wd2, he2, Rps.go g2 r2, s2⟩
    | _ => rw [o] at q; exact q.elim
theorem pgd_tup {n : Nat} {kk : Nat} {hh : List D → Env → Store → Out} (hc : X.calm = true) (h2 : PGsD X es hh) (hn : (assignEach es X.env).length = n := by rfl) (hst : (assignEach es X.env).findIdx? (·.1) = none := by rfl) : PGD X (.Tuple es kk pos) (gT n hh) := by
  refine weakG (pg_tup hc h2 hn hst) fun v σ H Q ⟨w, env, d, eH, hw, he, hr, hs⟩ => ?_
  subst eH
  cases d with
  | tup l =>
    have hs' : SatG (kt X) w (if l.length = n then hh l env w.S else .bad) Q := hs
    by_cases hl : l.length = n
    · rw [if_pos hl] at hs'
      obtain ⟨a, vs, rfl, q, p⟩ := getT_ok hw hr rfl
      exact ⟨a, vs, rfl, .inl q, by rw [p.length]; exact hl, w, env, l, rfl, hw, he, p, hs'⟩
    · rw [if_neg hl] at hs'
      exact hs'.elim
  | _ => exact hs.elim

theorem pssd_nil : PSsD X W [] yNil := by
  refine weakSs pss_nil fun D σ H ⟨w, env, eH, hw, he, hs⟩ => ?_
  subst eH
  exact hs w σ (Go.refl hw) rfl he
theorem sat_seq {T : Kt} {w : Wl} {o : Out} {gg : Env → Store → Out} {D : Ends} (hs : SatS T W w (o.seq gg) D) : SatS T W w o { D with nx := sD T W gg D } := by
  cases o with
  | nx e S => exact fun w' σ' g1 es he => by subst es; exact ⟨w', e, rfl, g1.wd, he, SatS.pre (o := gg e w'.S) hs g1⟩
  | rt d S => exact hs
  | bk e S => exact hs
  | ct e S => exact hs
  | exc x e S => exact hs
  | bad => exact hs
theorem pssd_cons (h1 : PSD X W s g) (h2 : PSsD X W ss g') : PSsD X W (s :: ss) (ySeq g g') := by
  refine weakSs (pss_cons h1 h2) fun D σ H ⟨w, env, eH, hw, he, hs⟩ => ?_
  exact ⟨w, env, eH, hw, he, sat_seq hs⟩
theorem pssd_one (h1 : PSD X W s g) : PSsD X W [s] g := pss_one h1
theorem psd_pass : PSD X W (.Pass pos) yNil := by
  refine weakS ps_pass fun D σ H ⟨w, env, eH, hw, he, hs⟩ => ?_
  subst eH
  exact hs w σ (Go.refl hw) rfl he
theorem psd_break : PSD X W (.Break pos) yBreak := by
  refine weakS ps_break fun D σ H ⟨w, env, eH, hw, he, hs⟩ => ?_
  subst eH
  exact hs w σ (Go.refl hw) rfl he
theorem psd_continue : PSD X W (.Continue pos) yCont := by
  refine weakS ps_continue fun D σ H ⟨w, env, eH, hw, he, hs⟩ => ?_
  subst eH
  exact hs w σ (Go.refl hw) rfl he
theorem psd_never : PSD X W s yNever := weakS ps_never fun D σ H ⟨w, env, eH, hw, he, hs⟩ => hs.elim
theorem psd_expr (he : PD X W e f) (hs : swapsWith e none pos.line X.env = pure false := by rfl) : PSD X W (.Expr e pos) (yExpr f) := by
  refine weakS (ps_expr he hs) fun D σ H ⟨w, env, eH, hw, he, hs⟩ => ?_
  subst eH
  exact ⟨w, env, rfl, hw, he, SatW.imp (SatS.out hs he) fun w1 d v g1 r1 s1 => s1 w1 σ (Go.refl g1.wd) rfl (he.go g1)⟩
theorem psd_ret (he : PD X W e f) : PSD X W (.Return (some e) pos) (yRet f) := by
  refine weakS (ps_ret he) fun D σ H ⟨w, env, eH, hw, he, hs⟩ => ?_
  subst eH
  exact ⟨w, env, rfl, hw, he, SatW.imp (SatS.out hs he) fun w1 d v g1 r1 s1 => s1 w1 v (Go.refl g1.wd) rfl r1⟩
theorem psd_retN : PSD X W (.Return none pos) yRetN := by
  refine weakS ps_retN fun D σ H ⟨w, env, eH, hw, he, hs⟩ => ?_
  subst eH
  exact hs w .non (Go.refl hw) rfl rpn
theorem psd_if {x y : List Stmt} (hc : PTD X W c k) (ha : PSsD X W x g) (hb : PSsD X W y g') : PSD X W (.If c x y pos) (yIf k g g') := by
  refine weakS (ps_if hc ha hb) fun D σ H ⟨w, env, eH, hw, he, hs⟩ => ?_
  subst eH
  refine ⟨w, env, rfl, hw, he, SatW.imp (SatS.out hs he) fun w1 d v g1 r1 s1 => ?_⟩
  have e : d = v := r1
  subst e
  cases d with
  | true => exact iteT ⟨w1, env, rfl, g1.wd, he.go g1, s1⟩
  | false => exact iteF ⟨w1, env, rfl, g1.wd, he.go g1, s1⟩
theorem psd_set {i : Nat} {x : Str} {pos' : Pos} (hN : X.N.Nodup) (he : PD X W e f) (hi : X.N[i]? = some x := by rfl) (hx : Loc X.env.scope x := by first | exact .inl rfl | exact .inr rfl) (hs : swapsWith e (some (.Name x pos')) pos.line X.env = pure false := by rfl) (hf : X.fn x = true ∨ X.env.scope.names.lookup x = some .local := by first | exact .inl rfl | exact .inr rfl | assumption) :
    PSD X W (.Assign [.Name x pos'] e pos) (ySet i f) := by
  refine weakS (ps_set (i := i) hN hi hx he hs hf) fun D σ H ⟨w, env, eH, hw, he, hs⟩ => ?_
  subst eH
  exact ⟨w, env, rfl, hw, he, SatW.imp (SatS.out hs he) fun w1 d v g1 r1 s1 => s1 w1 _ (Go.refl g1.wd) rfl ((he.go g1).set r1)⟩
theorem psd_asg {tg : Expr} {gg : D → Env → Store → Out} (he : PD X W e f) (hg : PGD X tg gg) (hs : swapsWithSole [tg] e pos.line X.env = pure false := by rfl) (hw : swappedStores [tg] e X.env = pure none := by rfl)
    (h1 : (assignEach [tg] X.env).map (·.2) = [assign tg X.env] := by rfl) : PSD X W (.Assign [tg] e pos) (yAsg f (fun d e S => match gg d e S with | .nx e' S' => .nx e' S' | _ => .bad)) := by
  refine weakS (ps_asg he hg hs hw h1) fun D σ H ⟨w, env, eH, hw, he, hs⟩ => ?_
  subst eH
  refine ⟨w, env, rfl, hw, he, SatW.imp (SatS.out hs he) fun w1 d v g1 r1 s1 => ?_⟩
  refine ⟨w1, env, d, rfl, g1.wd, he.go g1, r1, ?_⟩
  cases o : gg d env w1.S with
  | nx e' S' => simp only [o] at s1; exact s1
  | _ => simp only [o] at s1; exact s1.elim
theorem psd_par {i j : Nat} {x y : Str} {px py pt : Pos} {k1 k2 pt2} (hc : X.calm = true) (hN : X.N.Nodup) (hij : i ≠ j) (ha : PAD X W [a, b] h) (hw : swappedStores [.Tuple [.Name x px, .Name y py] k1 pt] (.Tuple [a, b] k2 pt2) X.env = pure (some [x, y]))
    (hi : X.N[i]? = some x := by rfl) (hj : X.N[j]? = some y := by rfl) (hx : X.env.scope.names.lookup x = some .local := by rfl) (hy : X.env.scope.names.lookup y = some .local := by rfl)
    (hs : swapsWithSole [.Tuple [.Name x px, .Name y py] k1 pt] (.Tuple [a, b] k2 pt2) pos.line X.env = pure false := by rfl) :
    PSD X W (.Assign [.Tuple [.Name x px, .Name y py] k1 pt] (.Tuple [a, b] k2 pt2) pos) (yPar i j h) := by
  refine weakS (ps_par hc hN hi hj hij hx hy ha hw hs) fun D σ H ⟨w, env, eH, hw, he, hs⟩ => ?_
  subst eH
  refine ⟨w, env, rfl, hw, he, SatW.imp (SatS.out hs he) fun w1 d v g1 r1 s1 => ?_⟩
  match d, r1, s1 with
  | [], _, s1 => exact s1.elim
  | [_], _, s1 => exact s1.elim
  | [p, q], r1, s1 =>
    obtain ⟨v1, t, e1, r2, r3⟩ := Rps.cons_inv r1
    obtain ⟨v2, t2, e2, r4, r5⟩ := r3.cons_inv
    have e3 := r5.nil_inv
    subst e3 e2 e1
    exact ⟨v1, v2, rfl, s1 w1 _ (Go.refl g1.wd) rfl (((he.go g1).set r2).set r4)⟩
  | _ :: _ :: _ :: _, _, s1 => exact s1.elim
/-- a op= b, by values -/
def IpD (X : Cx) (op : Operator) (g : D → D → M D) : Prop :=
  ∃ rr : TIp, PIp X op rr ∧ ∀ (w : Wl) (x y : V) (d e : D) (W : WX) (σ : L2.St) (Q : VK), Wd X.K w → RD X.K w d x → RD X.K w e y → SatW (kt X) W σ (RD X.K) w (g d e w.S) (fun w' _ v => Q v w'.H) → rr x y w.H Q
theorem psd_aug {i : Nat} {x : Str} {pos' : Pos} {op : Operator} {gg : D → D → M D} (hN : X.N.Nodup) (ho : IpD X op gg) (he : PD X W e f) (hi : X.N[i]? = some x := by rfl) (hx : Loc X.env.scope x := by first | exact .inl rfl | exact .inr rfl) (hf : X.fn x = true ∨ X.env.scope.names.lookup x = some .local := by first | exact .inl rfl | exact .inr rfl | assumption) :
    PSD X W (.AugAssign (.Name x pos') op e pos) (yAug i f gg) := by
  obtain ⟨rr, ro, h1⟩ := ho
  refine weakS (ps_aug (i := i) hN hi hx he ro hf) fun D σ H ⟨w, env, eH, hw, he, hs⟩ => ?_
  subst eH
  unfold yAug at hs
  cases q : env[i]? with
  | none => rw [q] at hs; exact hs.elim
  | some o =>
    cases o with
    | none => rw [q] at hs; exact hs.elim
    | some d =>
      rw [q] at hs
      obtain ⟨v, e1, r⟩ := he.2 i d q
      refine ⟨v, e1, w, env, rfl, hw, he, SatW.imp (SatS.out hs he) fun w1 d1 v1 g1 r1 s1 => ?_⟩
      refine h1 w1 v v1 d d1 W σ _ g1.wd (Rp.go g1 r) r1 (SatW.imp (SatS.out s1 (he.go g1)) fun w2 d2 v2 g2 r2 s2 => ?_)
      exact s2 w2 _ (Go.refl g2.wd) rfl (((he.go g1).go g2).set r2)
end
end Dv
/-! # Dv4: loops, comprehensions, calls, a def's contract -/
namespace Dv
open PySem PySem.Spec PyProof.Rows L2

/-! ### while -/
def whN (c : Env → M Bool) (b : Env → Store → Out) : Nat → Env → Store → Option Out
  | 0, _, _ => none
  | n + 1, e, S => match c e S with
    | .ok true S1 => match b e S1 with
      | .nx e' S' => whN c b n e' S'
      | .ct e' S' => whN c b n e' S'
      | .bk e' S' => some (.nx e' S')
      | o => some o
    | .ok false S1 => some (.nx e S1)
    | .exc x S1 => some (.exc x e S1)
    | .bad => some .bad
open Classical in
noncomputable def yWhile (c : Env → M Bool) (b : Env → Store → Out) : Env → Store → Out := fun e S =>
  if h : ∃ o, ∃ n, whN c b n e S = some o then Classical.choose h else .bad
theorem whN_succ {c : Env → M Bool} {b : Env → Store → Out} : ∀ {n : Nat} {e : Env} {S : Store} {o : Out}, whN c b n e S = some o → whN c b (n + 1) e S = some o
  | 0, _, _, _, h => by cases h
  | n + 1, e, S, o, h => by
    unfold whN at h ⊢
    cases q : c e S with
    | bad => rw [q] at h; exact h
    | exc x S1 => rw [q] at h; exact h
    | ok t S1 =>
      rw [q] at h
      cases t with
      | false => exact h
      | true =>
        cases r : b e S1 with
        | nx e' S' => simp only [r] at h ⊢; exact whN_succ h
        | ct e' S' => simp only [r] at h ⊢; exact whN_succ h
        | bk e' S' => simp only [r] at h ⊢; exact h
        | rt d S' => simp only [r] at h ⊢; exact h
        | exc x e' S' => simp only [r] at h ⊢; exact h
        | bad => simp only [r] at h ⊢; exact h
theorem whN_le {c : Env → M Bool} {b : Env → Store → Out} {n m : Nat} {e : Env} {S : Store} {o : Out} (h : whN c b n e S = some o) (hl : n ≤ m) : whN c b m e S = some o := by
  induction hl with
  | refl => exact h
  | step _ ih => exact whN_succ ih
theorem yWhile_of {c : Env → M Bool} {b : Env → Store → Out} {n : Nat} {e : Env} {S : Store} {o : Out} (h : whN c b n e S = some o) : yWhile c b e S = o := by
  have hx : ∃ o, ∃ n, whN c b n e S = some o := ⟨o, n, h⟩
  unfold yWhile
  rw [dif_pos hx]
  obtain ⟨m, hm⟩ := Classical.choose_spec hx
  have h1 := whN_le h (Nat.le_max_left n m)
  have h2 := whN_le hm (Nat.le_max_right n m)
  rw [h1] at h2
  exact (Option.some.inj h2).symm
theorem yWhile_ends {c : Env → M Bool} {b : Env → Store → Out} {e : Env} {S : Store} (h : yWhile c b e S ≠ .bad) : ∃ n, whN c b n e S = some (yWhile c b e S) := by
  unfold yWhile at h ⊢
  by_cases hx : ∃ o, ∃ n, whN c b n e S = some o
  · rw [dif_pos hx]
    exact Classical.choose_spec hx
  · rw [dif_neg hx] at h
    exact (h rfl).elim
theorem yWhile_stop {c : Env → M Bool} {b : Env → Store → Out} {e : Env} {S S1 : Store} (h : c e S = .ok false S1) : yWhile c b e S = .nx e S1 := yWhile_of (n := 1) (by unfold whN; rw [h])
theorem whN_none_bad {c : Env → M Bool} {b : Env → Store → Out} {e : Env} {S : Store} (h : ¬ ∃ o n, whN c b n e S = some o) : yWhile c b e S = .bad := by
  unfold yWhile
  rw [dif_neg h]
theorem yWhile_go {c : Env → M Bool} {b : Env → Store → Out} {e : Env} {S S1 : Store} (h : c e S = .ok true S1) : yWhile c b e S = (match b e S1 with
    | .nx e' S' => yWhile c b e' S'
    | .ct e' S' => yWhile c b e' S'
    | .bk e' S' => .nx e' S'
    | o => o) := by
  have step : ∀ {e' : Env} {S' : Store}, (∀ n, whN c b (n + 1) e S = whN c b n e' S') → yWhile c b e S = yWhile c b e' S' := fun {e' S'} hh => by
    by_cases hx : ∃ o n, whN c b n e' S' = some o
    · obtain ⟨o, n, hn⟩ := hx
      rw [yWhile_of hn, yWhile_of (n := n + 1) (by rw [hh]; exact hn)]
    · rw [whN_none_bad hx, whN_none_bad]
      rintro ⟨o, n, hn⟩
      cases n with
      | zero => cases hn
      | succ n => exact hx ⟨o, n, by rw [← hh]; exact hn⟩
  cases q : b e S1 with
  | nx e' S' => exact step fun n => by rw [whN]; simp only [h, q]
  | ct e' S' => exact step fun n => by rw [whN]; simp only [h, q]
  | bk e' S' => exact yWhile_of (n := 1) (by rw [whN]; simp only [h, q])
  | rt d S' => exact yWhile_of (n := 1) (by rw [whN]; simp only [h, q])
  | exc x e' S' => exact yWhile_of (n := 1) (by rw [whN]; simp only [h, q])
  | bad => exact yWhile_of (n := 1) (by rw [whN]; simp only [h, q])
section
variable {X : Cx} {W : WX} {c : Expr} {body : List Stmt} {k : Env → M Bool} {g : Env → Store → Out} {pos : Pos}
theorem psd_while (hp : PassesOwn (model X.prog X.w) X.A X.env X.xe) (hc : PTD X W c k) (hb : PSsD X W body g) : PSD X W (.While c body [] pos) (yWhile k g) := by
  refine weakS (ps_while hp hc hb) fun D σ H ⟨w, env, eH, hw, he, hs⟩ => ?_
  subst eH
  have nb : yWhile k g env w.S ≠ .bad := fun z => by rw [z] at hs; exact hs
  obtain ⟨n, hn⟩ := yWhile_ends nb
  refine ⟨fun m σ H => ∃ w env o, w.H = H ∧ Wd X.K w ∧ EnvOk X.K w env σ ∧ whN k g m env w.S = some o ∧ SatS (kt X) W w o D, ⟨n, w, env, _, rfl, hw, he, hn, hs⟩, ?_⟩
  rintro m σ1 H1 ⟨w1, env1, o, rfl, hw1, he1, hm, hs1⟩
  refine ⟨w1, env1, rfl, hw1, he1, ?_⟩
  cases m with
  | zero => cases hm
  | succ m =>
    rw [whN] at hm
    cases q : k env1 w1.S with
    | bad => simp only [q] at hm; cases hm; exact hs1.elim
    | exc x S1 =>
      simp only [q] at hm
      have e := Option.some.inj hm
      subst e
      exact fun w' cls dd g' e q => hs1 w' σ1 cls dd g' e (he1.go g') q
    | ok t S1 =>
      intro w2 v g2 eS ev
      have ev' : t = v := ev
      subst ev' eS
      cases t with
      | false =>
        simp only [q] at hm
        have e := Option.some.inj hm
        subst e
        exact iteF (hs1 w2 σ1 g2 rfl (he1.go g2))
      | true =>
        refine iteT ⟨fun σ' H' => ∃ w3 env3 o, w3.H = H' ∧ Wd X.K w3 ∧ EnvOk X.K w3 env3 σ' ∧ whN k g m env3 w3.S = some o ∧ SatS (kt X) W w3 o D, fun σ' H' z => ⟨m, Nat.lt_succ_self m, z⟩, w2, env1, rfl, g2.wd, he1.go g2, ?_⟩
        simp only [q] at hm
        cases r : g env1 w2.S with
        | nx e' S' => simp only [r] at hm; exact fun w3 σ3 g3 e3 he3 => ⟨w3, e', o, rfl, g3.wd, he3, by rw [e3]; exact hm, hs1.pre (g2.trans g3)⟩
        | ct e' S' => simp only [r] at hm; exact fun w3 σ3 g3 e3 he3 => ⟨w3, e', o, rfl, g3.wd, he3, by rw [e3]; exact hm, hs1.pre (g2.trans g3)⟩
        | bk e' S' => simp only [r] at hm; have e := Option.some.inj hm; subst e; exact fun w3 σ3 g3 e3 he3 => hs1 w3 σ3 (g2.trans g3) e3 he3
        | rt d S' => simp only [r] at hm; have e := Option.some.inj hm; subst e; exact fun w3 v3 g3 e3 r3 => hs1 w3 v3 (g2.trans g3) e3 r3
        | exc x e' S' => simp only [r] at hm; have e := Option.some.inj hm; subst e; exact fun w3 σ3 cls dd g3 e3 he3 q3 => hs1 w3 σ3 cls dd (g2.trans g3) e3 he3 q3
        | bad => simp only [r] at hm; have e := Option.some.inj hm; subst e; exact hs1.elim
end

/-! ### what is walked -/
structure Src where
  items : List D
  chk : Store → Prop
def ItOk (K : PySem.W.Frag) (w0 : Wl) (J : It) (s : Src) : Prop :=
  ∀ w1, Go K w0 w1 → s.chk w1.S → (∀ (i : Nat) d, s.items[i]? = some d → J.go i w1.H ∧ ∀ x H', J.yld i w1.H x H' → ∃ w2, Go K w1 w2 ∧ w2.S = w1.S ∧ w2.H = H' ∧ Rp K w2.r w2.F d x) ∧ J.stop s.items.length w1.H
def iD (T : Kt) (W : WX) (f : Env → M Src) : TI := fun σ H R => ∃ (w : Wl) (env : Env), w.H = H ∧ Wd T.K w ∧ EnvOk T.K w env σ ∧ SatW T W σ (fun w' s J => ItOk T.K w' J s) w (f env w.S) (fun w' _ J => R J w'.H)
def PID (X : Cx) (W : WX) (tg iter : Expr) (f : Env → M Src) : Prop := PI X tg iter (iD (kt X) W f)
theorem weakI {X : Cx} {tg iter : Expr} {t t' : TI} (h : PI X tg iter t) (q : ∀ σ H R, t' σ H R → t σ H R) : PI X tg iter t' := ⟨fun pins s σ H R I z => h.run pins s σ H R I (q _ _ _ z)⟩

/-- a list, frozen or a cell that stays -/
def srcL (d : D) (S : Store) : Res Src := match d with
  | .lst l => .ok ⟨l, fun _ => True⟩ S
  | .scr l => .ok ⟨l, fun _ => True⟩ S
  | .cell n => match S[n]? with
    | some (.lst l) => .ok ⟨l, fun S' => S'[n]? = some (.lst l)⟩ S
    | _ => .bad
  | _ => .bad
def srcT (d : D) (S : Store) : Res Src := match d with
  | .tup l => .ok ⟨l, fun _ => True⟩ S
  | _ => .bad
def irange (lo : Int) (n : Nat) : List D := (List.range n).map fun (i : Nat) => D.int (lo + (i : Int))
def rng62 (i : Int) : Prop := -(2 ^ 62) ≤ i ∧ i < 2 ^ 62
/- kept from the kernel: it would count down from 2 ^ 62 -/
noncomputable instance (i : Int) : Decidable (rng62 i) := Classical.propDecidable _
noncomputable def srcR1 (l : List D) (S : Store) : Res Src := match l with
  | [.int j] => if rng62 j then .ok ⟨irange 0 j.toNat, fun _ => True⟩ S else .bad
  | _ => .bad
noncomputable def srcR2 (l : List D) (S : Store) : Res Src := match l with
  | [.int i, .int j] => if rng62 i ∧ rng62 j then .ok ⟨irange i (j - i).toNat, fun _ => True⟩ S else .bad
  | _ => .bad
def iSrc (k : D → Store → Res Src) (f : Env → M D) : Env → M Src := fun e S => (f e S).bind k
def iSrcA (k : List D → Store → Res Src) (f : Env → M (List D)) : Env → M Src := fun e S => (f e S).bind k
theorem Rps.nth {K : PySem.W.Frag} {r : List Addr} {F : Hp} : ∀ {l : List D} {vs : List V} {i : Nat} {v : V}, Rps K r F l vs → vs[i]? = some v → ∃ d, l[i]? = some d ∧ Rp K r F d v := fun {l vs i v} h e => by
  have hl := h.length
  have hi : i < l.length := by
    have := (List.getElem?_eq_some_iff.mp e).1
    omega
  obtain ⟨v', e2, p⟩ := h.get (i := i) (d := l[i]) (List.getElem?_eq_getElem hi)
  rw [e] at e2
  cases e2
  exact ⟨_, List.getElem?_eq_getElem hi, p⟩
section
variable {X : Cx} {W : WX} {tg e : Expr} {f : Env → M D} {h : Env → M (List D)} {pos p : Pos}
theorem itl_ok {K : PySem.W.Frag} {w0 : Wl} {a : Addr} {l : List D} {chk : Store → Prop} (hh : ∀ w1, Go K w0 w1 → chk w1.S → ∃ vs, SqL K w1.H a vs ∧ Rps K w1.r w1.F l vs) : ItOk K w0 (Itl K a) ⟨l, chk⟩ := fun w1 g hc => by
  obtain ⟨vs, q, r⟩ := hh w1 g hc
  refine ⟨fun i d e => ?_, vs, q, Nat.le_of_eq r.length⟩
  obtain ⟨v, ev, rv⟩ := r.get e
  refine ⟨⟨vs, v, q, ev⟩, fun x H' y => ?_⟩
  obtain ⟨eH, fx⟩ := y
  have ex : x = v := Option.some.inj ((fx _ q).symm.trans ev)
  subst ex
  exact ⟨w1, Go.refl g.wd, rfl, eH.symm, rv⟩
theorem itt_ok {K : PySem.W.Frag} {w0 : Wl} {a : Addr} {l : List D} {chk : Store → Prop} (hh : ∀ w1, Go K w0 w1 → chk w1.S → ∃ vs, SqT K w1.H a vs ∧ Rps K w1.r w1.F l vs) : ItOk K w0 (Itt K a) ⟨l, chk⟩ := fun w1 g hc => by
  obtain ⟨vs, q, r⟩ := hh w1 g hc
  refine ⟨fun i d e => ?_, vs, q, Nat.le_of_eq r.length⟩
  obtain ⟨v, ev, rv⟩ := r.get e
  refine ⟨⟨vs, v, q, ev⟩, fun x H' y => ?_⟩
  obtain ⟨eH, fx⟩ := y
  have ex : x = v := Option.some.inj ((fx _ q).symm.trans ev)
  subst ex
  exact ⟨w1, Go.refl g.wd, rfl, eH.symm, rv⟩
theorem itr_ok {K : PySem.W.Frag} {w0 : Wl} {lo : Int} {n : Nat} {chk : Store → Prop} : ItOk K w0 (Itr lo n) ⟨irange lo n, chk⟩ := fun w1 g hc => by
  refine ⟨fun i d e => ?_, ?_⟩
  · unfold irange at e
    rw [List.getElem?_map] at e
    have hi : i < n := by
      have z := (List.getElem?_eq_some_iff.mp (show ((List.range n).map fun (i : Nat) => D.int (lo + (i : Int)))[i]? = some d by rw [List.getElem?_map]; exact e)).1
      simpa using z
    rw [List.getElem?_range hi] at e
    have ed := Option.some.inj e
    subst ed
    refine ⟨hi, fun x H' y => ?_⟩
    obtain ⟨eH, ex⟩ := y
    exact ⟨w1, Go.refl g.wd, rfl, by first | exact eH.symm | exact ex.symm, by first | (subst ex; exact rpi) | (subst eH; exact rpi)⟩
  · show n ≤ (irange lo n).length
    simp [irange]
theorem pid_list (ha : PD X W e f) : PID X W tg e (iSrc srcL f) := by
  refine weakI (pi_list ha) fun σ H R ⟨w, env, eH, hw, he, hs⟩ => ?_
  subst eH
  refine ⟨w, env, rfl, hw, he, SatW.imp (SatW.bind hs) fun w1 d v g1 r1 s1 => ?_⟩
  cases d with
  | lst l =>
    obtain ⟨a, vs, rfl, q, p⟩ := getL_ok g1.wd (show Rp X.K w1.r w1.F (.lst l) v from r1) rfl
    refine ⟨a, rfl, ⟨vs, .inl (.inl q)⟩, SatW.here (d := (⟨l, fun _ => True⟩ : Src)) s1 g1.wd (itl_ok fun w2 g2 _ => ?_)⟩
    have r2 : Rp X.K w2.r w2.F (.lst l) (.ref a) := Rp.go g2 r1
    obtain ⟨a', vs', e', q', p'⟩ := getL_ok g2.wd r2 rfl
    cases e'
    exact ⟨vs', .inl (.inl q'), p'⟩
  | scr l =>
    obtain ⟨a, vs, rfl, q, p⟩ := getQ_ok g1.wd (show Rp X.K w1.r w1.F (.scr l) v from r1) rfl
    refine ⟨a, rfl, ⟨vs, q⟩, SatW.here (d := (⟨l, fun _ => True⟩ : Src)) s1 g1.wd (itl_ok fun w2 g2 _ => ?_)⟩
    have r2 : Rp X.K w2.r w2.F (.scr l) (.ref a) := Rp.go g2 r1
    obtain ⟨a', vs', e', q', p'⟩ := getQ_ok g2.wd r2 rfl
    cases e'
    exact ⟨vs', q', p'⟩
  | cell n =>
    have s1' : SatW (kt X) W σ _ w1 (srcL (.cell n) w1.S) _ := s1
    unfold srcL at s1'
    cases en : w1.S[n]? with
    | none => simp only [en] at s1'; exact s1'.elim
    | some c =>
      cases c with
      | lst l =>
        simp only [en] at s1'
        obtain ⟨a, vs, rfl, q, p⟩ := getL_ok (l := l) g1.wd (show Rp X.K w1.r w1.F (.cell n) v from r1) (by simp only [getL, en])
        refine ⟨a, rfl, ⟨vs, .inl (.inl q)⟩, SatW.here (d := (⟨l, fun S' => S'[n]? = some (.lst l)⟩ : Src)) s1' g1.wd (itl_ok fun w2 g2 hc => ?_)⟩
        have hc' : w2.S[n]? = some (.lst l) := hc
        have r2 : Rp X.K w2.r w2.F (.cell n) (.ref a) := Rp.go g2 r1
        obtain ⟨a', vs', e', q', p'⟩ := getL_ok (l := l) g2.wd r2 (by simp only [getL, hc'])
        cases e'
        exact ⟨vs', .inl (.inl q'), p'⟩
      | dct l => simp only [en] at s1'; exact s1'.elim
      | dead => simp only [en] at s1'; exact s1'.elim
  | _ => exact s1.elim
theorem pid_tup (ha : PD X W e f) : PID X W tg e (iSrc srcT f) := by
  refine weakI (pi_tup ha) fun σ H R ⟨w, env, eH, hw, he, hs⟩ => ?_
  subst eH
  refine ⟨w, env, rfl, hw, he, SatW.imp (SatW.bind hs) fun w1 d v g1 r1 s1 => ?_⟩
  cases d with
  | tup l =>
    obtain ⟨a, vs, rfl, q, p⟩ := getT_ok g1.wd (show Rp X.K w1.r w1.F (.tup l) v from r1) rfl
    refine ⟨a, rfl, ⟨vs, .inl q⟩, SatW.here (d := (⟨l, fun _ => True⟩ : Src)) s1 g1.wd (itt_ok fun w2 g2 _ => ?_)⟩
    have r2 : Rp X.K w2.r w2.F (.tup l) (.ref a) := Rp.go g2 r1
    obtain ⟨a', vs', e', q', p'⟩ := getT_ok g2.wd r2 rfl
    cases e'
    exact ⟨vs', .inl q', p'⟩
  | _ => exact s1.elim
theorem pid_range1 {a : Expr} (hm : X.mg "range" = none) (ha : PAD X W [a] h) (hg : Gl X "range" := by rfl) (hs : starEach [a] X.env = [(false, eval a X.env)] := by rfl) : PID X W tg (.Call (.Name "range" p) [a] [] pos) (iSrcA srcR1 h) := by
  refine weakI (pi_range1 hg hm ha hs) fun σ H R ⟨w, env, eH, hw, he, hs⟩ => ?_
  subst eH
  refine ⟨w, env, rfl, hw, he, SatW.imp (SatW.bind hs) fun w1 d v g1 r1 s1 => ?_⟩
  have r2 : Rps X.K w1.r w1.F d v := r1
  match d, r2, s1 with
  | [], _, s1 => exact s1.elim
  | [.int j], r2, s1 =>
    obtain ⟨v1, t, e1, q1, q2⟩ := r2.cons_inv
    have e2 := q2.nil_inv
    cases rp_int q1
    subst e2 e1
    obtain ⟨hj, s2⟩ := satIf s1
    exact ⟨j, rfl, hj.1, hj.2, SatW.here s2 g1.wd itr_ok⟩
  | [.non], _, s1 => exact s1.elim
  | [.bl _], _, s1 => exact s1.elim
  | [.str _], _, s1 => exact s1.elim
  | [.tup _], _, s1 => exact s1.elim
  | [.lst _], _, s1 => exact s1.elim
  | [.scr _], _, s1 => exact s1.elim
  | [.cell _], _, s1 => exact s1.elim
  | [.raw _], _, s1 => exact s1.elim
  | [.cls _], _, s1 => exact s1.elim
  | [.exn _ _], _, s1 => exact s1.elim
  | x :: _ :: _, _, s1 => cases x <;> exact s1.elim
theorem pid_range2 {a b : Expr} (hm : X.mg "range" = none) (ha : PAD X W [a, b] h) (hg : Gl X "range" := by rfl) (hs : starEach [a, b] X.env = [(false, eval a X.env), (false, eval b X.env)] := by rfl) (hs2 : starEach [b] X.env = [(false, eval b X.env)] := by rfl) : PID X W tg (.Call (.Name "range" p) [a, b] [] pos) (iSrcA srcR2 h) := by
  refine weakI (pi_range2 hg hm ha hs hs2) fun σ H R ⟨w, env, eH, hw, he, hs⟩ => ?_
  subst eH
  refine ⟨w, env, rfl, hw, he, SatW.imp (SatW.bind hs) fun w1 d v g1 r1 s1 => ?_⟩
  have r2 : Rps X.K w1.r w1.F d v := r1
  have key : ∃ i j, d = [.int i, .int j] := by
    match d, s1 with
    | [.int i, .int j], _ => exact ⟨i, j, rfl⟩
    | [], s1 => exact s1.elim
    | [x], s1 => cases x <;> exact s1.elim
    | x :: y :: z :: t, s1 => cases x <;> cases y <;> exact s1.elim
    | [.non, y], s1 => cases y <;> exact s1.elim
    | [.bl _, y], s1 => cases y <;> exact s1.elim
    | [.str _, y], s1 => cases y <;> exact s1.elim
    | [.tup _, y], s1 => cases y <;> exact s1.elim
    | [.lst _, y], s1 => cases y <;> exact s1.elim
    | [.scr _, y], s1 => cases y <;> exact s1.elim
    | [.cell _, y], s1 => cases y <;> exact s1.elim
    | [.raw _, y], s1 => cases y <;> exact s1.elim
    | [.cls _, y], s1 => cases y <;> exact s1.elim
    | [.exn _ _, y], s1 => cases y <;> exact s1.elim
    | [.int _, .non], s1 => exact s1.elim
    | [.int _, .bl _], s1 => exact s1.elim
    | [.int _, .str _], s1 => exact s1.elim
    | [.int _, .tup _], s1 => exact s1.elim
    | [.int _, .lst _], s1 => exact s1.elim
    | [.int _, .scr _], s1 => exact s1.elim
    | [.int _, .cell _], s1 => exact s1.elim
    | [.int _, .raw _], s1 => exact s1.elim
    | [.int _, .cls _], s1 => exact s1.elim
    | [.int _, .exn _ _], s1 => exact s1.elim
  obtain ⟨i, j, rfl⟩ := key
  obtain ⟨v1, t, e1, q1, q2⟩ := r2.cons_inv
  obtain ⟨v2, t2, e2, q3, q4⟩ := q2.cons_inv
  have e3 := q4.nil_inv
  cases rp_int q1
  cases rp_int q3
  subst e3 e2 e1
  obtain ⟨hj, s2⟩ := satIf s1
  exact ⟨i, j, rfl, ⟨hj.1.1, hj.1.2, hj.2.1, hj.2.2⟩, SatW.here s2 g1.wd itr_ok⟩
end

/-! ### for -/
open Classical in
noncomputable def forL (chk : Store → Prop) (g : D → Env → Store → Out) (b : Env → Store → Out) : List D → Env → Store → Out
  | [], e, S => if chk S then .nx e S else .bad
  | d :: l, e, S => if chk S then match g d e S with
      | .nx e1 S1 => match b e1 S1 with
        | .nx e' S' => forL chk g b l e' S'
        | .ct e' S' => forL chk g b l e' S'
        | .bk e' S' => .nx e' S'
        | o => o
      | _ => .bad
    else .bad
noncomputable def yFor (src : Env → M Src) (g : D → Env → Store → Out) (b : Env → Store → Out) : Env → Store → Out := fun e S => (src e S).out e fun s S1 => forL s.chk g b s.items e S1
section
variable {X : Cx} {W : WX} {tg iter : Expr} {body : List Stmt} {src : Env → M Src} {gg : D → Env → Store → Out} {g : Env → Store → Out} {pos : Pos}
theorem drop_get {α : Type} {l : List α} {i : Nat} {d : α} {r : List α} (h : l.drop i = d :: r) : l[i]? = some d ∧ l.drop (i + 1) = r := by
  have h1 : (l.drop i)[0]? = some d := by rw [h]; rfl
  rw [List.getElem?_drop] at h1
  refine ⟨by simpa using h1, ?_⟩
  rw [← List.drop_drop, h]
  rfl
theorem drop_nil {α : Type} {l : List α} {i : Nat} (h : l.drop i = []) (hi : i ≤ l.length) : i = l.length := by
  have := congrArg List.length h
  simp at this
  omega
theorem psd_for (hp : PassesOwn (model X.prog X.w) X.A X.env X.xe) (hc : X.calm = true) (hi : PID X W tg iter src) (hg : PGD X tg gg) (hb : PSsD X W body g) (hfs : ∀ x, foldedSetIterable iter X.env x = pure x := by intro _; rfl) :
    PSD X W (.For tg iter body [] pos) (yFor src gg g) := by
  refine weakS (ps_for hp hc hi hg hb hfs) fun D σ H ⟨w, env, eH, hw, he, hs⟩ => ?_
  subst eH
  refine ⟨w, env, rfl, hw, he, SatW.imp (SatS.out hs he) fun w1 s J g1 it s1 => ?_⟩
  have it' : ItOk X.K w1 J s := it
  refine ⟨fun i m σ H => ∃ w env, w.H = H ∧ Go X.K w1 w ∧ EnvOk X.K w env σ ∧ i ≤ s.items.length ∧ m = s.items.length - i ∧ SatS (kt X) W w (forL s.chk gg g (s.items.drop i) env w.S) D, ⟨s.items.length, w1, env, rfl, Go.refl g1.wd, he.go g1, Nat.zero_le _, rfl, s1⟩, ?_⟩
  rintro i m σ2 H2 ⟨w2, env2, rfl, g2, he2, hil, rfl, s2⟩
  cases ed : s.items.drop i with
  | nil =>
    rw [ed, forL] at s2
    by_cases hk : s.chk w2.S
    · rw [if_pos hk] at s2
      refine .inl ⟨?_, s2 w2 σ2 (Go.refl g2.wd) rfl he2⟩
      rw [drop_nil ed hil]
      exact (it' w2 g2 hk).2
    · rw [if_neg hk] at s2
      exact s2.elim
  | cons d l =>
    obtain ⟨e1, e2⟩ := drop_get ed
    have hlt : i < s.items.length := (List.getElem?_eq_some_iff.mp e1).1
    rw [ed, forL] at s2
    by_cases hk : s.chk w2.S
    · rw [if_pos hk] at s2
      obtain ⟨go, yl⟩ := (it' w2 g2 hk).1 i d e1
      refine .inr ⟨go, fun σ' H' => ∃ w env, w.H = H' ∧ Go X.K w1 w ∧ EnvOk X.K w env σ' ∧ SatS (kt X) W w (forL s.chk gg g (s.items.drop (i + 1)) env w.S) D, fun σ' H' ⟨w', env', q1, q2, q3, q4⟩ => ⟨s.items.length - (i + 1), by omega, w', env', q1, q2, q3, hlt, rfl, q4⟩, fun x H' y => ?_⟩
      obtain ⟨w3, g3, eS3, eH3, r3⟩ := yl x H' y
      refine ⟨w3, env2, d, eH3, g3.wd, he2.go g3, r3, ?_⟩
      rw [eS3]
      cases og : gg d env2 w2.S with
      | nx e' S' =>
        simp only [og] at s2
        intro w4 σ4 g4 eS4 he4
        subst eS4
        refine ⟨w4, e', rfl, g4.wd, he4, ?_⟩
        cases ob : g e' w4.S with
        | nx e5 S5 => simp only [ob] at s2; exact fun w5 σ5 g5 eS5 he5 => ⟨w5, e5, rfl, (g2.trans g3).trans (g4.trans g5), he5, by rw [e2, eS5]; exact s2.pre (g3.trans (g4.trans g5))⟩
        | ct e5 S5 => simp only [ob] at s2; exact fun w5 σ5 g5 eS5 he5 => ⟨w5, e5, rfl, (g2.trans g3).trans (g4.trans g5), he5, by rw [e2, eS5]; exact s2.pre (g3.trans (g4.trans g5))⟩
        | bk e5 S5 => simp only [ob] at s2; exact fun w5 σ5 g5 eS5 he5 => s2 w5 σ5 (g3.trans (g4.trans g5)) eS5 he5
        | rt d5 S5 => simp only [ob] at s2; exact fun w5 v5 g5 eS5 r5 => s2 w5 v5 (g3.trans (g4.trans g5)) eS5 r5
        | exc x5 e5 S5 => simp only [ob] at s2; exact fun w5 σ5 cls dd g5 eS5 he5 q5 => s2 w5 σ5 cls dd (g3.trans (g4.trans g5)) eS5 he5 q5
        | bad => simp only [ob] at s2; exact s2.elim
      | _ => simp only [og] at s2; exact s2.elim
    · rw [if_neg hk] at s2
      exact s2.elim
end

/-! ### comprehensions -/
def wipeE (e : Env) : List Nat → Env
  | [] => e
  | v :: vs => (wipeE e vs).set v none
abbrev W0 : WX := fun _ _ _ _ => False
open Classical in
noncomputable def lcL (chk : Store → Prop) (g : D → Env → Option Env) (c : Env → M Bool) (f : Env → M D) (e0 : Env) : List D → List D → Store → Res (List D)
  | [], acc, S => if chk S then .ok acc S else .bad
  | d :: l, acc, S => if chk S then match g d e0 with
      | some e1 => match c e1 S with
        | .ok true S2 => match f e1 S2 with
          | .ok y S3 => if acc.length < 16000000 then lcL chk g c f e0 l (acc ++ [y]) S3 else .bad
          | _ => .bad
        | .ok false S2 => lcL chk g c f e0 l acc S2
        | _ => .bad
      | none => .bad
    else .bad
noncomputable def xLc (mk : List D → M D) (src : Env → M Src) (g : D → Env → Option Env) (c : Env → M Bool) (f : Env → M D) (vs : List Nat) : Env → M D := fun e S =>
  (src e S).bind fun s S1 => (lcL s.chk g c f (wipeE e vs) s.items [] S1).bind fun l S2 => mk l S2
theorem EnvOk.wipe {K : PySem.W.Frag} {w : Wl} {env : Env} {σ : L2.St} (h : EnvOk K w env σ) : ∀ vs : List Nat, EnvOk K w (wipeE env vs) (wipe σ vs)
  | [] => h
  | _ :: vs => (EnvOk.wipe h vs).unset
theorem wipe_get {σ : L2.St} {k : Nat} : ∀ {vs : List Nat}, (wipe σ vs)[k]? = if k ∈ vs then (if k < σ.length then some none else none) else σ[k]?
  | [] => by simp [wipe]
  | v :: vs => by
    unfold wipe
    rw [List.getElem?_set, wipe_length, wipe_get (vs := vs)]
    by_cases h : v = k
    · subst h; simp
    · rw [if_neg h]
      have hm : (k ∈ v :: vs) ↔ k ∈ vs := by simp [Ne.symm h]
      by_cases hk : k ∈ vs
      · rw [if_pos hk, if_pos (hm.mpr hk)]
      · rw [if_neg hk, if_neg (fun z => hk (hm.mp z))]
theorem wipe_eq {σ σ' : L2.St} {vs : List Nat} (hl : σ'.length = σ.length) (h : ∀ k, k ∉ vs → σ'[k]? = σ[k]?) : wipe σ' vs = wipe σ vs := by
  apply List.ext_getElem?
  intro k
  rw [wipe_get, wipe_get, hl]
  by_cases hk : k ∈ vs
  · rw [if_pos hk, if_pos hk]
  · rw [if_neg hk, if_neg hk, h k hk]
/-- a comprehension's target -/
def TgD (T : Kt) (vs : List Nat) (gV : TG) (gE : D → Env → Option Env) : Prop :=
  ∀ (w : Wl) (d : D) (v : V) (env env' : Env) (σ : L2.St) (Q : L2.St → Hp → Prop), Wd T.K w → Rp T.K w.r w.F d v → EnvOk T.K w env σ → gE d env = some env' →
    (∀ σ' : L2.St, EnvOk T.K w env' σ' → σ'.length = σ.length → (∀ k, k ∉ vs → σ'[k]? = σ[k]?) → Q σ' w.H) → gV v σ w.H Q
def eN (i : Nat) : D → Env → Option Env := fun d e => some (e.set i (some d))
def eT2 (i j : Nat) : D → Env → Option Env := fun d e => match d with
  | .tup [a, b] => some ((e.set i (some a)).set j (some b))
  | _ => none
def eT3 (i j k : Nat) : D → Env → Option Env := fun d e => match d with
  | .tup [a, b, c] => some (((e.set i (some a)).set j (some b)).set k (some c))
  | _ => none
theorem tg_N {T : Kt} {i : Nat} {vs : List Nat} (hi : i ∈ vs) : TgD T vs (gName i) (eN i) := fun w d v env env' σ Q hw hr he e q => by
  have e' := Option.some.inj e
  subst e'
  refine q _ (he.set hr) (by simp) fun k hk => ?_
  rw [List.getElem?_set_ne (fun z => hk (by rw [← z]; exact hi))]
theorem tg_T2 {T : Kt} {i j : Nat} {vs : List Nat} (hi : i ∈ vs) (hj : j ∈ vs) : TgD T vs (gTup T.K 2 (gCons (gName i) (gCons (gName j) gNil))) (eT2 i j) := fun w d v env env' σ Q hw hr he e q => by
  unfold eT2 at e
  split at e
  · rename_i a b
    have e' := Option.some.inj e
    subst e'
    obtain ⟨p, xs, rfl, hp, hx⟩ := getT_ok hw hr rfl
    obtain ⟨v1, t, e1, r1, r2⟩ := hx.cons_inv
    obtain ⟨v2, t2, e2, r3, r4⟩ := r2.cons_inv
    have e3 := r4.nil_inv
    subst e3 e2 e1
    refine ⟨p, _, rfl, .inl hp, rfl, v1, [v2], rfl, v2, [], rfl, rfl, q _ ((he.set r1).set r3) (by simp) fun k hk => ?_⟩
    rw [List.getElem?_set_ne (fun z => hk (by rw [← z]; exact hj)), List.getElem?_set_ne (fun z => hk (by rw [← z]; exact hi))]
  · cases e
theorem tg_T3 {T : Kt} {i j l : Nat} {vs : List Nat} (hi : i ∈ vs) (hj : j ∈ vs) (hl : l ∈ vs) : TgD T vs (gTup T.K 3 (gCons (gName i) (gCons (gName j) (gCons (gName l) gNil)))) (eT3 i j l) := fun w d v env env' σ Q hw hr he e q => by
  unfold eT3 at e
  split at e
  · rename_i a b c
    have e' := Option.some.inj e
    subst e'
    obtain ⟨p, xs, rfl, hp, hx⟩ := getT_ok hw hr rfl
    obtain ⟨v1, t, e1, r1, r2⟩ := hx.cons_inv
    obtain ⟨v2, t2, e2, r3, r4⟩ := r2.cons_inv
    obtain ⟨v3, t3, e3, r5, r6⟩ := r4.cons_inv
    have e4 := r6.nil_inv
    subst e4 e3 e2 e1
    refine ⟨p, _, rfl, .inl hp, rfl, v1, [v2, v3], rfl, v2, [v3], rfl, v3, [], rfl, rfl, q _ (((he.set r1).set r3).set r5) (by simp) fun k hk => ?_⟩
    rw [List.getElem?_set_ne (fun z => hk (by rw [← z]; exact hl)), List.getElem?_set_ne (fun z => hk (by rw [← z]; exact hj)), List.getElem?_set_ne (fun z => hk (by rw [← z]; exact hi))]
  · cases e
def cYes : Env → M Bool := fun _ S => .ok true S
/-- what isn't in the store stays so -/
theorem Go.loosely {K : PySem.W.Frag} {w w1 : Wl} (g : Go K w w1) {p : Addr} {o : HO} (h1 : w.H p = some o) (h2 : w.F p = none) (h3 : ∀ (n : Nat), w.r[n]? = some p → ¬ alv w.S n) :
    w1.H p = some o ∧ w1.F p = none ∧ ∀ (n : Nat), w1.r[n]? = some p → ¬ alv w1.S n := by
  refine ⟨g.fr p o h1 h3, g.fnew p (by rw [h1]; simp) h2 h3, fun n e q => ?_⟩
  by_cases hn : n < w.S.length
  · exact h3 n (pre_back g.pre (by rw [g.len]; exact hn) e) (g.live n hn q)
  · have := g.new n p (Nat.le_of_not_lt hn) e q
    rw [h1] at this
    cases this
section
variable {X : Cx} {W : WX} {elt tg iter : Expr} {ifs : List Expr} {scope : Scope} {own : List (Str × Nat)} {pos : Pos} {mk : List D → M D} {src : Env → M Src} {gV : TG} {gE : D → Env → Option Env} {c : Env → M Bool} {f : Env → M D}
/-- the reading of a comprehension -/
theorem lc_read (m : Mk mk) (tgd : TgD (kt X) (own.map (·.2)) gV gE) {tt : TT} (htt : ∀ σ H Q, tDB (kt X) W0 c σ H Q → tt σ H Q) {σ : L2.St} {H : Hp} {Q : VK} (hh : tD (kt X) W (xLc mk src gE c f (own.map (·.2))) σ H Q) :
    tLc (iD (kt X) W src) gV tt (tD (kt X) W0 f) (own.map (·.2)) σ H Q := by
  obtain ⟨w, env, eH, hw, he, hs⟩ := hh
  subst eH
  generalize own.map (·.2) = vs at tgd hs ⊢
  refine ⟨w, env, rfl, hw, he, SatW.imp (SatW.bind hs) fun w1 s J g1 it s1 => ?_⟩
  have it' : ItOk X.K w1 J s := it
  intro Dd hD
  -- the list under way at Dd
  refine ⟨fun i mm H => ∃ w2 acc accV, w2.H = H ∧ Go X.K w1 w2 ∧ (i ≤ s.items.length ∧ mm = s.items.length - i) ∧ w2.H Dd = some (.lst accV) ∧ w2.F Dd = none ∧ (∀ (n : Nat), w2.r[n]? = some Dd → ¬ alv w2.S n) ∧ Rps X.K w2.r w2.F acc accV ∧
      SatW (kt X) W σ (RD X.K) w1 ((lcL s.chk gE c f (wipeE env vs) (s.items.drop i) acc w2.S).bind fun l S2 => mk l S2) (fun w' _ v => Q v w'.H), ⟨s.items.length, ?_⟩, ?_⟩
  · refine ⟨⟨w1.r, w1.F, w1.S, upd w1.H Dd (.lst [])⟩, [], [], rfl, ?_, ⟨Nat.zero_le _, rfl⟩, upd_same, g1.wd.fresh hD, fun n e q => ?_, rps_nil, s1⟩
    · refine ⟨⟨g1.wd.len, fun b x e => ?_, fun k a cc e1 e2 => (g1.wd.cell k a cc e1 e2).mono ⟨[], by simp⟩ (Same.refl _) (fun _ z => z) (fun hd x z => ?_), g1.wd.inj⟩, ⟨[], by simp⟩, g1.wd.len, fun _ _ q => q, fun k a hk e _ => ?_, Same.refl _, fun a x e _ => ?_, fun a e => ?_, fun _ _ q _ => q⟩
      · show upd w1.H Dd (.lst []) b = some x
        have e' := g1.wd.same _ _ e
        rw [upd_ne (ne_of_none e' hD)]
        exact e'
      · show upd w1.H Dd (.lst []) a = some x
        rw [upd_ne (ne_of_none z hD)]
        exact z
      · have hk1 : k < w1.r.length := (List.getElem?_eq_some_iff.mp e).1
        have hk2 : w1.S.length ≤ k := hk
        have := g1.wd.len
        omega
      · show upd w1.H Dd (.lst []) a = some x
        rw [upd_ne (ne_of_none e hD)]
        exact e
      · have e' : upd w1.H Dd (.lst []) a = none := e
        by_cases hb : a = Dd
        · subst hb
          rw [upd_same] at e'
          cases e'
        · rw [upd_ne hb] at e'
          exact e'
    · obtain ⟨cc, e2, hd⟩ := q
      obtain ⟨o, eo⟩ := (g1.wd.cell n Dd cc e e2).some hd
      rw [hD] at eo
      cases eo
  · rintro i m' H2 ⟨w2, acc, accV, rfl, g2, ⟨hil, rfl⟩, hDd, hFd, hnc, hrs, s2⟩
    cases ed : s.items.drop i with
    | nil =>
      rw [ed, lcL] at s2
      by_cases hk : s.chk w2.S
      · rw [if_pos hk, Res.bind_ok] at s2
        obtain ⟨w', d', eH', q'⟩ := m.adopt (T := kt X) (W := W) (σ := σ) g2 hD hDd hFd hnc hrs s2
        refine .inl ⟨?_, ?_⟩
        · rw [drop_nil ed hil]
          exact (it' w2 g2 hk).2
        · rw [← eH']
          exact q'
      · rw [if_neg hk] at s2
        exact s2.elim
    | cons d l =>
      obtain ⟨e1, e2⟩ := drop_get ed
      have hlt : i < s.items.length := (List.getElem?_eq_some_iff.mp e1).1
      rw [ed, lcL] at s2
      by_cases hk : s.chk w2.S
      · rw [if_pos hk] at s2
        obtain ⟨go, yl⟩ := (it' w2 g2 hk).1 i d e1
        refine .inr ⟨go, fun H' => ∃ w2 acc accV, w2.H = H' ∧ Go X.K w1 w2 ∧ i + 1 ≤ s.items.length ∧ w2.H Dd = some (.lst accV) ∧ w2.F Dd = none ∧ (∀ (n : Nat), w2.r[n]? = some Dd → ¬ alv w2.S n) ∧ Rps X.K w2.r w2.F acc accV ∧
            SatW (kt X) W σ (RD X.K) w1 ((lcL s.chk gE c f (wipeE env vs) (s.items.drop (i + 1)) acc w2.S).bind fun l S2 => mk l S2) (fun w' _ v => Q v w'.H), fun H' z => ?_, fun x H' y => ?_⟩
        · obtain ⟨w', acc', accV', q1, q2, q3, q4⟩ := z
          exact ⟨s.items.length - (i + 1), by omega, w', acc', accV', q1, q2, ⟨q3, rfl⟩, q4⟩
        · obtain ⟨w3, g3, eS3, eH3, r3⟩ := yl x H' y
          subst eH3
          cases og : gE d (wipeE env vs) with
          | none => simp only [og] at s2; exact s2.elim
          | some e1 =>
            simp only [og] at s2
            refine tgd w3 d x (wipeE env vs) e1 (wipe σ vs) _ g3.wd r3 ((he.go (g1.trans (g2.trans g3))).wipe vs) og fun σ2 he2 hl2 hk2 => ?_
            refine ⟨(wipe_eq hl2 hk2).trans (wipe_eq (wipe_length _ _) fun k hk => by rw [wipe_get, if_neg hk]), ?_⟩
            refine htt _ _ _ ⟨w3, e1, rfl, g3.wd, he2, ?_⟩
            rw [eS3]
            cases oc : c e1 w2.S with
            | bad => simp only [oc] at s2; exact s2.elim
            | exc x S => simp only [oc] at s2; exact s2.elim
            | ok b S4 =>
              intro w4 v4 g4 eS4 ev
              have ev' : b = v4 := ev
              subst ev' eS4
              cases b with
              | false =>
                simp only [oc] at s2
                obtain ⟨k1, k2, k3⟩ := Go.loosely (g3.trans g4) hDd hFd hnc
                exact iteF ⟨w4, acc, accV, rfl, g2.trans (g3.trans g4), hlt, k1, k2, k3, Rps.go (g3.trans g4) hrs, by rw [e2]; exact s2⟩
              | true =>
                simp only [oc] at s2
                refine iteT ⟨w4, e1, rfl, g4.wd, he2.go g4, ?_⟩
                cases oy : f e1 w4.S with
                | bad => simp only [oy] at s2; exact s2.elim
                | exc x S => simp only [oy] at s2; exact s2.elim
                | ok yd S5 =>
                  simp only [oy] at s2
                  by_cases hal : acc.length < 16000000
                  · rw [if_pos hal] at s2
                    intro w5 v5 g5 eS5 r5
                    subst eS5
                    have r5' : Rp X.K w5.r w5.F yd v5 := r5
                    obtain ⟨k1, k2, k3⟩ := Go.loosely (g3.trans (g4.trans g5)) hDd hFd hnc
                    refine ⟨accV, k1, ?_, ⟨w5.r, w5.F, w5.S, upd w5.H Dd (.lst (accV ++ [v5]))⟩, acc ++ [yd], accV ++ [v5], rfl, ?_, hlt, upd_same, k2, k3, ?_, by rw [e2]; exact s2⟩
                    · rw [Rps.length hrs]
                      exact Nat.lt_of_lt_of_le hal (line16 (Nat.le_refl _))
                    · exact Go.loose (g2.trans (g3.trans (g4.trans g5))) hD (by rw [k1]; simp) k2 k3
                    · exact (Rps.go (g3.trans (g4.trans g5)) hrs).append (rps_cons r5' rps_nil)
                  · rw [if_neg hal] at s2
                    exact s2.elim
      · rw [if_neg hk] at s2
        exact s2.elim
theorem pd_lc (m : Mk mk) (tgd : TgD (kt X) (own.map (·.2)) gV gE) (hc : X.calm = true) (hN : X.N.Nodup) (hi : PID X W tg iter src) (ok : BlkOk X.N X.env.scope scope own)
    (hg : ∀ (s : Shared) (H : Hp) (C : Addr) (cl : List (Str × Addr)) (fp : List Addr), PG (X.blk s H scope (compEnvC scope cl C X.env) fp) tg gV)
    (he : ∀ (s : Shared) (H : Hp) (C : Addr) (cl : List (Str × Addr)) (fp : List Addr), PD (X.blk s H scope (compEnvC scope cl C X.env) fp) W0 elt f) (hs : ∀ x, foldedSetIterable iter X.env x = pure x := by intro _; rfl) :
    PD X W (.ListComp elt [⟨tg, iter, [], 0⟩] scope pos) (xLc mk src gE cYes f (own.map (·.2))) :=
  weakE (pe_lc (te := tD (kt X) W0 f) hc hN hi ok hg (fun _ _ _ _ _ => pts_nil) (fun s H C cl fp => show PE _ elt (tD (kt X) W0 f) from he s H C cl fp) hs) fun σ H Q => lc_read m tgd fun σ H Q ⟨w, env, eH, hw, he, hs⟩ => by
    subst eH
    exact SatW.here (d := true) (v := true) hs hw rfl
theorem pd_lcIf {t : Expr} (m : Mk mk) (tgd : TgD (kt X) (own.map (·.2)) gV gE) (hc : X.calm = true) (hN : X.N.Nodup) (hi : PID X W tg iter src) (ok : BlkOk X.N X.env.scope scope own)
    (hg : ∀ (s : Shared) (H : Hp) (C : Addr) (cl : List (Str × Addr)) (fp : List Addr), PG (X.blk s H scope (compEnvC scope cl C X.env) fp) tg gV)
    (ht : ∀ (s : Shared) (H : Hp) (C : Addr) (cl : List (Str × Addr)) (fp : List Addr), PTD (X.blk s H scope (compEnvC scope cl C X.env) fp) W0 t c)
    (he : ∀ (s : Shared) (H : Hp) (C : Addr) (cl : List (Str × Addr)) (fp : List Addr), PD (X.blk s H scope (compEnvC scope cl C X.env) fp) W0 elt f) (hs : ∀ x, foldedSetIterable iter X.env x = pure x := by intro _; rfl) :
    PD X W (.ListComp elt [⟨tg, iter, [t], 0⟩] scope pos) (xLc mk src gE c f (own.map (·.2))) :=
  weakE (pe_lc (te := tD (kt X) W0 f) (tt := tDB (kt X) W0 c) hc hN hi ok hg (fun s H C cl fp => pts_one (show PT _ t (tDB (kt X) W0 c) from ht s H C cl fp)) (fun s H C cl fp => show PE _ elt (tD (kt X) W0 f) from he s H C cl fp) hs) fun σ H Q => lc_read m tgd fun σ H Q h => h
end

/-! ### a def's contract, a call -/
def fin (keep : Bool) (n : Nat) (d : D) (S : Store) : Res D :=
  if keep = true ∨ S.length = n then .ok d S else if (d.under n && (S.take n).all (fun c => c.under n)) = true then .ok d (S.take n) else .bad
def finX (n : Nat) (x : Exn) (S : Store) : Res D := if S.length = n then .exc x S else if ((S.take n).all (fun c => c.under n)) = true then .exc x (S.take n) else .bad
def fnD (np ns : Nat) (keep : Bool) (body : Env → Store → Out) : List D → M D := fun ds S =>
  if ds.length = np then match body (ds.map some ++ List.replicate (ns - np) none) S with
    | .rt d S' => fin keep S.length d S'
    | .nx _ S' => fin keep S.length .non S'
    | .exc x _ S' => finX S.length x S'
    | _ => .bad
  else .bad
def spD (T : Kt) (f : List D → M D) : Sp := fun vs H Q E => ∃ (w : Wl) (ds : List D), w.H = H ∧ Wd T.K w ∧ Rps T.K w.r w.F ds vs ∧ SatW T (fun cls dd _ H' => E cls dd H') [] (RD T.K) w (f ds w.S) (fun w' _ v => Q v w'.H)
theorem fin_sat {T : Kt} {W : WX} {σ : L2.St} {w w1 : Wl} {keep : Bool} {d : D} {v : V} {Q : VK} (g : Go T.K w w1) (r : Rp T.K w1.r w1.F d v) (h : SatW T W σ (RD T.K) w (fin keep w.S.length d w1.S) (fun w' _ v => Q v w'.H)) : Q v w1.H := by
  unfold fin at h
  by_cases hk : keep = true ∨ w1.S.length = w.S.length
  · rw [if_pos hk] at h
    exact h w1 v g rfl r
  · rw [if_neg hk] at h
    obtain ⟨hu, h⟩ := satIf h
    rw [Bool.and_eq_true] at hu
    exact h ⟨w1.r.take w.S.length, w1.F, w1.S.take w.S.length, w1.H⟩ v (g.cut hu.2) rfl (Rp.cut d v hu.1 r)
section
variable {P : Program} {w : World} {K : PySem.W.Frag} {mg : Str → Option Value} {base : Heap}
theorem fn_ok {x qual : Str} {st : Stmt} {f : Addr} {fd : FuncData} {N ps : List Str} {k : Nat} {keep : Bool} {body : Env → Store → Out} (F : Fun K x qual st f fd) (S : FnScope N ps (defScope st))
    (hbody : ∀ (cdv : Value) (A : Around) (outer : List PySem.Env) (s : Shared) (H : Hp) (E : XK), Room k (A.deeper (envOfC qual (defScope st) s.heap.objs.size f cdv)) →
      PSsD (cxOf (L2.CX P w) P w K mg base N qual (defScope st) f cdv A outer s H E) (fun cls d _ H' => E cls d H') (defBody st) body) :
    FnOk P w K mg base (L2.CX P w) (k + 1) f fd ps (spD ⟨K, mg⟩ (fnD ps.length N.length keep body)) := by
  refine F.okX S (fun vs H Q E ⟨wl, ds, eH, hw, hr, hs⟩ => ?_) (fun cdv A outer s H vs Q E hr h => ⟨_, hbody cdv A outer s H E hr, ?_⟩)
  · unfold fnD at hs
    rw [hr.length]
    exact (satIf hs).1
  · obtain ⟨wl, ds, eH, hw, hrs, hs⟩ := h
    subst eH
    unfold fnD at hs
    obtain ⟨hl, hs⟩ := satIf hs
    have hvl : vs.length = ps.length := by rw [hrs.length]; exact hl
    have he : EnvOk K wl (ds.map some ++ List.replicate (N.length - ps.length) none) (L2.start N vs) := by
      unfold L2.start
      rw [hvl]
      refine ⟨by simp [hrs.length], fun i d e => ?_⟩
      by_cases hi : i < ds.length
      · rw [List.getElem?_append_left (by simpa using hi), List.getElem?_map] at e
        cases q : ds[i]? with
        | none => rw [q] at e; cases e
        | some d' =>
          rw [q] at e
          have ed : d' = d := by injection (Option.some.inj e)
          subst ed
          obtain ⟨v, ev, rv⟩ := hrs.get q
          refine ⟨v, ?_, rv⟩
          rw [List.getElem?_append_left (by rw [List.length_map]; exact (List.getElem?_eq_some_iff.mp ev).1), List.getElem?_map, ev]
          rfl
      · rw [List.getElem?_append_right (by simpa using hi)] at e
        have := (List.getElem?_eq_some_iff.mp e)
        obtain ⟨h1, h2⟩ := this
        rw [List.getElem_replicate] at h2
        cases h2
    refine ⟨wl, _, rfl, hw, he, ?_⟩
    cases o : body (ds.map some ++ List.replicate (N.length - ps.length) none) wl.S with
    | rt d S' => rw [o] at hs; exact fun w' v g e r => by subst e; exact fin_sat g r hs
    | nx e' S' => rw [o] at hs; exact fun w' σ' g e r => by subst e; exact fin_sat g rpn hs
    | bk e' S' => rw [o] at hs; exact hs.elim
    | ct e' S' => rw [o] at hs; exact hs.elim
    | exc x e' S' =>
      rw [o] at hs
      intro w' σ' cls dd g e he' q
      subst e
      replace hs : SatW ⟨K, mg⟩ (fun cls dd _ H' => E cls dd H') [] (RD K) wl (finX wl.S.length x w'.S) (fun w' _ v => Q v w'.H) := hs
      unfold finX at hs
      by_cases hk : w'.S.length = wl.S.length
      · rw [if_pos hk] at hs
        exact hs w' cls dd g rfl q
      rw [if_neg hk] at hs
      obtain ⟨hu, hs⟩ := satIf hs
      exact hs ⟨w'.r.take wl.S.length, w'.F, w'.S.take wl.S.length, w'.H⟩ cls dd (g.cut hu) rfl q
    | bad => rw [o] at hs; exact hs.elim
end
theorem fn_mk {P : Program} {w : World} {K : PySem.W.Frag} {mg : Str → Option Value} {base : Heap} {x qual : Str} {st : Stmt} {f : Addr} {fd : FuncData} {N ps : List Str} {k : Nat} {keep : Bool} {body : Env → Store → Out} {G : List D → M D} (F : Fun K x qual st f fd) (S : FnScope N ps (defScope st)) (hG : G = fnD ps.length N.length keep body)
    (hbody : ∀ (cdv : Value) (A : Around) (outer : List PySem.Env) (s : Shared) (H : Hp) (E : XK), Room k (A.deeper (envOfC qual (defScope st) s.heap.objs.size f cdv)) →
      PSsD (cxOf (L2.CX P w) P w K mg base N qual (defScope st) f cdv A outer s H E) (fun cls d _ H' => E cls d H') (defBody st) body) :
    FnOk P w K mg base (L2.CX P w) (k + 1) f fd ps (spD ⟨K, mg⟩ G) := by
  rw [hG]
  exact fn_ok F S hbody
section
variable {X : Cx} {W : WX} {e : Expr} {es : List Expr} {h : Env → M (List D)} {pos p : Pos} {x : Str} {k : Nat} {f : Addr} {fd : FuncData} {ps : List Str} {F : List D → M D}
theorem pd_call (G : FnOk X.prog X.w X.K X.mg X.base (L2.CX X.prog X.w) k f fd ps (spD (kt X) F)) (hr : Room k X.A) (hm : X.mg x = some (.ref f)) (hk : PySem.W.keepIn X.K (.ref f) = true) (hb : Binds X.K fd ps []) (tk : Takes X W) (ha : PAD X W (e :: es) h) (hg : Gl X x := by rfl)
    (hdb : (x == ("__debug__" : Str)) = false := by decide) (he : starEach (e :: es) X.env = (false, eval e X.env) :: starEach es X.env := by rfl) (hpl : (backTo pos (starEach es X.env)).any (·.1) = false := by rfl) :
    PD X W (.Call (.Name x p) (e :: es) [] pos) (xFn F h) := by
  refine weakE (pe_callS G hr hg hm hk hb (fun σ => passAt tk σ) ha hdb he hpl) fun σ H Q ⟨w, env, eH, hw, he, hs⟩ => ?_
  subst eH
  refine ⟨w, env, rfl, hw, he, SatW.imp (SatW.bind hs) fun w1 d v g1 r1 s1 => ?_⟩
  refine ⟨w1, d, rfl, g1.wd, r1, ?_⟩
  cases o : F d w1.S with
  | ok y S => rw [o] at s1; exact s1
  | exc y S => rw [o] at s1; exact s1
  | bad => rw [o] at s1; exact s1.elim
end
end Dv
/-! # Dv5: the operators -/
namespace Dv
noncomputable section
open PySem PySem.Spec PyProof.Rows L2

/-! ### ints -/
def divOk (i j : Int) : Prop := j ≠ 0 ∧ j.natAbs.log2 < 9000
instance (i j : Int) : Decidable (divOk i j) := inferInstanceAs (Decidable (_ ∧ _))
instance (i j : Int) : Decidable (IntMulOk i j) := inferInstanceAs (Decidable (¬ _))
def powOk (i j : Int) : Prop := 0 ≤ j ∧ j ≤ 1000000 ∧ i.natAbs < 2 ^ 64
instance (i j : Int) : Decidable (powOk i j) := inferInstanceAs (Decidable (_ ∧ _))
section
variable {X : Cx}
theorem op_fdivX : OpR X (binaryOp .FloorDiv) (rI divOk fun i j => .int (i.fdiv j)) := opI fun i j _ _ _ _ _ hc q => floordiv_int hc.1 q (.inl (PyProof.noPylong_of_log2 hc.2))
theorem op_mulX : OpR X (binaryOp .Mult) (rI IntMulOk fun i j => .int (i * j)) := opI fun _ _ _ _ _ _ _ hc q => mul_int q hc
end

/-! ### two numbers, by a table -/
def iOp (c : Int → Int → Prop) [∀ i j, Decidable (c i j)] (g : Int → Int → D) (x y : D) (S : Store) : Res D := match x, y with
  | .int i, .int j => if c i j then .ok (g i j) S else .bad
  | _, _ => .bad
def always : Int → Int → Prop := fun _ _ => True
instance (i j : Int) : Decidable (always i j) := inferInstanceAs (Decidable True)
@[simp] theorem iOp_ok {c : Int → Int → Prop} [∀ i j, Decidable (c i j)] {g : Int → Int → D} {i j : Int} {S : Store} : iOp c g (.int i) (.int j) S = if c i j then .ok (g i j) S else .bad := rfl
section
variable {X : Cx}
theorem iOp_sat {T : Kt} {W : WX} {σ : L2.St} {c : Int → Int → Prop} [∀ i j, Decidable (c i j)] {g : Int → Int → D} {gv : Int → Int → V} (hg : ∀ K r F i j, Rp K r F (g i j) (gv i j)) {w : Wl} {x y : V} {d e : D} {Q : VK} (hw : Wd T.K w) (r1 : RD T.K w d x) (r2 : RD T.K w e y)
    (hs : SatW T W σ (RD T.K) w (iOp c g d e w.S) (fun w' _ v => Q v w'.H)) : ∃ i j, x = .int i ∧ y = .int j ∧ c i j ∧ Q (gv i j) w.H := by
  unfold iOp at hs
  split at hs
  · rename_i i j
    obtain ⟨hc, hs⟩ := satIf hs
    exact ⟨i, j, rp_int r1, rp_int r2, hc, SatW.here hs hw (hg _ _ _ i j)⟩
  · exact hs.elim
theorem opI_d {fn : Value → Value → Sem Value} {c : Int → Int → Prop} [∀ i j, Decidable (c i j)] {g : Int → Int → D} {gv : Int → Int → V} (hg : ∀ K r F i j, Rp K r F (g i j) (gv i j)) (ho : OpR X fn (rI c gv)) : OpD X fn (iOp c g) :=
  ⟨_, ho, fun w x y d e W σ Q hw r1 r2 hs => iOp_sat hg hw r1 r2 hs⟩
theorem opI0_d {fn : Value → Value → Sem Value} {g : Int → Int → D} {gv : Int → Int → V} (hg : ∀ K r F i j, Rp K r F (g i j) (gv i j)) (ho : OpR X fn (rI0 gv)) : OpD X fn (iOp always g) :=
  ⟨_, ho, fun w x y d e W σ Q hw r1 r2 hs => by
    obtain ⟨i, j, h1, h2, _, q⟩ := iOp_sat hg hw r1 r2 hs
    exact ⟨i, j, h1, h2, q⟩⟩
def dSub := iOp always fun i j => .int (i - j)
def dFdiv := iOp divOk fun i j => .int (i.fdiv j)
def dMod := iOp (fun _ j => j ≠ 0) fun i j => .int (i.fmod j)
def dPow := iOp powOk fun i j => .int (i ^ j.toNat)
def dLt := iOp always fun i j => .bl (decide (i < j))
def dLe := iOp always fun i j => .bl (decide (i ≤ j))
def dGt := iOp always fun i j => .bl (decide (j < i))
def dGe := iOp always fun i j => .bl (decide (j ≤ i))
theorem od_sub : OpD X (binaryOp .Sub) dSub := opI0_d (fun _ _ _ _ _ => rpi) op_sub
theorem od_fdiv : OpD X (binaryOp .FloorDiv) dFdiv := opI_d (fun _ _ _ _ _ => rpi) op_fdivX
theorem od_mod : OpD X (binaryOp .Mod) dMod := opI_d (fun _ _ _ _ _ => rpi) op_modN
theorem od_pow : OpD X (binaryOp .Pow) dPow := opI_d (fun _ _ _ _ _ => rpi) op_pow
theorem od_lt : OpD X (compareOp .Lt) dLt := opI0_d (fun _ _ _ _ _ => rpb) op_lt
theorem od_le : OpD X (compareOp .LtE) dLe := opI0_d (fun _ _ _ _ _ => rpb) op_le
theorem od_gt : OpD X (compareOp .Gt) dGt := opI0_d (fun _ _ _ _ _ => rpb) op_gt
theorem od_ge : OpD X (compareOp .GtE) dGe := opI0_d (fun _ _ _ _ _ => rpb) op_ge
end
@[simp] theorem dSub_ok {i j : Int} {S : Store} : dSub (.int i) (.int j) S = .ok (.int (i - j)) S := rfl
@[simp] theorem dFdiv_ok {i j : Int} {S : Store} : dFdiv (.int i) (.int j) S = if divOk i j then .ok (.int (i.fdiv j)) S else .bad := rfl
@[simp] theorem dMod_ok {i j : Int} {S : Store} : dMod (.int i) (.int j) S = if j ≠ 0 then .ok (.int (i.fmod j)) S else .bad := rfl
@[simp] theorem dPow_ok {i j : Int} {S : Store} : dPow (.int i) (.int j) S = if powOk i j then .ok (.int (i ^ j.toNat)) S else .bad := rfl
@[simp] theorem dLt_ok {i j : Int} {S : Store} : dLt (.int i) (.int j) S = .ok (.bl (decide (i < j))) S := rfl
@[simp] theorem dLe_ok {i j : Int} {S : Store} : dLe (.int i) (.int j) S = .ok (.bl (decide (i ≤ j))) S := rfl
@[simp] theorem dGt_ok {i j : Int} {S : Store} : dGt (.int i) (.int j) S = .ok (.bl (decide (j < i))) S := rfl
@[simp] theorem dGe_ok {i j : Int} {S : Store} : dGe (.int i) (.int j) S = .ok (.bl (decide (j ≤ i))) S := rfl

/-! ### + and * : ints, lists, tuples, texts -/
def dAdd (mk : List D → M D) (x y : D) (S : Store) : Res D := match x, y with
  | .int i, .int j => .ok (.int (i + j)) S
  | .int i, .bl b => .ok (.int (i + b2i b)) S
  | .str a, .str b => if a.length + b.length ≤ 16000000 then .ok (.str (a ++ b)) S else .bad
  | .tup a, .tup b => if a ≠ [] ∧ b ≠ [] ∧ a.length + b.length ≤ 16000000 then .ok (.tup (a ++ b)) S else .bad
  | x, y => match getL x S, getL y S with
    | some a, some b => if a.length + b.length ≤ 16000000 then mk (a ++ b) S else .bad
    | _, _ => .bad
def dMul (mk : List D → M D) (x y : D) (S : Store) : Res D := match x, y with
  | .int i, .int j => if IntMulOk i j then .ok (.int (i * j)) S else .bad
  | .lst l, .int k => if rng62 k ∧ l.length * k.toNat ≤ 16000000 then mk (List.replicate k.toNat l).flatten S else .bad
  | _, _ => .bad
section
variable {X : Cx}
theorem Rps.ne_nil {K : PySem.W.Frag} {r : List Addr} {F : Hp} {l : List D} {vs : List V} (h : Rps K r F l vs) (hl : l ≠ []) : vs ≠ [] := fun z => by
  subst z
  have := h.length
  cases l with
  | nil => exact hl rfl
  | cons _ _ => cases this
theorem od_add {mk : List D → M D} (m : Mk mk) : OpD X (binaryOp .Add) (dAdd mk) := by
  refine ⟨_, (op_add.or (op_add_ib.or (op_add_str.or ((op_catT).or op_cat)))), fun w x y d e W σ Q hw r1 r2 hs => ?_⟩
  have lists : ∀ {a b : List D}, getL d w.S = some a → getL e w.S = some b → SatW (kt X) W σ (RD X.K) w (if a.length + b.length ≤ 16000000 then mk (a ++ b) w.S else .bad) (fun w' _ v => Q v w'.H) → rCat x y w.H Q := fun {a b} ha hb hs => by
    obtain ⟨hl, hs⟩ := satIf hs
    obtain ⟨p, vs, e1, q1, t1⟩ := getL_ok hw r1 ha
    obtain ⟨p', vs', e2, q2, t2⟩ := getL_ok hw r2 hb
    exact ⟨p, p', vs, vs', e1, e2, q1, q2, by rw [t1.length, t2.length]; exact line16 hl, m.go hw (t1.append t2) hs⟩
  have gen : ∀ {o1 o2 : Option (List D)}, getL d w.S = o1 → getL e w.S = o2 → SatW (kt X) W σ (RD X.K) w (match o1, o2 with | some a, some b => if a.length + b.length ≤ 16000000 then mk (a ++ b) w.S else .bad | _, _ => .bad) (fun w' _ v => Q v w'.H) → rCat x y w.H Q := fun {o1 o2} h1 h2 hs => by
    cases o1 with
    | none => exact hs.elim
    | some a =>
      cases o2 with
      | none => exact hs.elim
      | some b => exact lists h1 h2 hs
  unfold dAdd at hs
  split at hs
  · rename_i i j
    exact .inl ⟨i, j, rp_int r1, rp_int r2, SatW.here hs hw rpi⟩
  · rename_i i b
    exact .inr (.inl ⟨i, b, rp_int r1, rp_bl r2, SatW.here hs hw rpi⟩)
  · rename_i a b
    obtain ⟨hl, hs⟩ := satIf hs
    exact .inr (.inr (.inl ⟨a, b, rp_str r1, rp_str r2, line16 hl, SatW.here hs hw rps⟩))
  · rename_i a b
    obtain ⟨hl, hs⟩ := satIf hs
    obtain ⟨p, vs, e1, q1, t1⟩ := getT_ok hw r1 rfl
    obtain ⟨p', vs', e2, q2, t2⟩ := getT_ok hw r2 rfl
    exact .inr (.inr (.inr (.inl ⟨p, p', vs, vs', e1, e2, .inl q1, .inl q2, t1.ne_nil hl.1, by rw [t1.length, t2.length]; exact line16 hl.2.2, fun z => (t2.ne_nil hl.2.1 z).elim, fun _ => tup_go hw (t1.append t2) hs⟩)))
  · exact .inr (.inr (.inr (.inr (gen rfl rfl hs))))
theorem od_mul {mk : List D → M D} (m : Mk mk) : OpD X (binaryOp .Mult) (dMul mk) := by
  refine ⟨_, (op_mulX.or op_rep), fun w x y d e W σ Q hw r1 r2 hs => ?_⟩
  unfold dMul at hs
  split at hs
  · rename_i i j
    obtain ⟨hc, hs⟩ := satIf hs
    exact .inl ⟨i, j, rp_int r1, rp_int r2, hc, SatW.here hs hw rpi⟩
  · rename_i l k
    obtain ⟨hl, hs⟩ := satIf hs
    obtain ⟨p, vs, e1, q1, t1⟩ := getL_ok hw r1 rfl
    have b1 := hl.1.1
    have b2 := hl.1.2
    exact .inr ⟨p, k, vs, e1, rp_int r2, q1, by omega, by omega, by rw [t1.length]; exact line16 hl.2, m.go hw (t1.rep k.toNat) hs⟩
  · exact hs.elim
end
@[simp] theorem dAdd_int {mk : List D → M D} {i j : Int} {S : Store} : dAdd mk (.int i) (.int j) S = .ok (.int (i + j)) S := rfl
@[simp] theorem dAdd_ib {mk : List D → M D} {i : Int} {b : Bool} {S : Store} : dAdd mk (.int i) (.bl b) S = .ok (.int (i + b2i b)) S := rfl
@[simp] theorem dAdd_str {mk : List D → M D} {a b : Str} {S : Store} : dAdd mk (.str a) (.str b) S = if a.length + b.length ≤ 16000000 then .ok (.str (a ++ b)) S else .bad := rfl
@[simp] theorem dAdd_lst {mk : List D → M D} {a b : List D} {S : Store} : dAdd mk (.lst a) (.lst b) S = if a.length + b.length ≤ 16000000 then mk (a ++ b) S else .bad := rfl
@[simp] theorem dMul_int {mk : List D → M D} {i j : Int} {S : Store} : dMul mk (.int i) (.int j) S = if IntMulOk i j then .ok (.int (i * j)) S else .bad := rfl
@[simp] theorem dMul_lst {mk : List D → M D} {l : List D} {k : Int} {S : Store} : dMul mk (.lst l) (.int k) S = if rng62 k ∧ l.length * k.toNat ≤ 16000000 then mk (List.replicate k.toNat l).flatten S else .bad := rfl

/-! ### one number -/
def dNeg (d : D) (S : Store) : Res D := match d with
  | .int i => .ok (.int (-i)) S
  | _ => .bad
section
variable {X : Cx}
theorem ud_neg : UnD X (unaryOp .USub) dNeg := ⟨_, un_neg, fun w x d W σ Q hw r hs => by
  cases d with
  | int i => exact ⟨i, rp_int r, SatW.here hs hw rpi⟩
  | _ => exact hs.elim⟩
end
@[simp] theorem dNeg_ok {i : Int} {S : Store} : dNeg (.int i) S = .ok (.int (-i)) S := rfl

/-! ### == and != -/
mutual
def toP (S : Store) : Nat → D → Option PyData
  | _, .non => some .none
  | _, .bl b => some (.bool b)
  | _, .int i => some (.int i)
  | _, .str x => if PySem.PyData.canLay0 (.str x) then some (.str x) else none
  | 0, _ => none
  | n + 1, .tup l => (toPs S n l).map .tuple
  | n + 1, .lst l => (toPs S n l).map .list
  | n + 1, .scr l => (toPs S n l).map .list
  | n + 1, .cell c => match S[c]? with
    | some (.lst l) => (toPs S n l).map .list
    | _ => none
  | _ + 1, .raw _ => none
  | _ + 1, .cls _ => none
  | _ + 1, .exn _ _ => none
def toPs (S : Store) : Nat → List D → Option (List PyData)
  | _, [] => some []
  | n, d :: l => match toP S n d, toPs S n l with
    | some x, some y => some (x :: y)
    | _, _ => none
end
mutual
theorem toP_ok {S : Store} : ∀ (n : Nat) (d : D) (p : PyData), toP S n d = some p → p.canLay0 = true ∧ p.depth ≤ n
  | n, .non, p, h => by rw [toP] at h; cases h; exact ⟨rfl, Nat.zero_le _⟩
  | n, .bl b, p, h => by rw [toP] at h; cases h; exact ⟨rfl, Nat.zero_le _⟩
  | n, .int b, p, h => by rw [toP] at h; cases h; exact ⟨rfl, Nat.zero_le _⟩
  | n, .str x, p, h => by
    rw [toP] at h
    by_cases hc : PySem.PyData.canLay0 (.str x) = true
    · rw [if_pos hc] at h; cases h; exact ⟨hc, Nat.zero_le _⟩
    · rw [if_neg hc] at h; cases h
  | 0, .tup l, p, h => by rw [toP] at h <;> first | cases h | simp
  | 0, .lst l, p, h => by rw [toP] at h <;> first | cases h | simp
  | 0, .scr l, p, h => by rw [toP] at h <;> first | cases h | simp
  | 0, .cell l, p, h => by rw [toP] at h <;> first | cases h | simp
  | 0, .raw l, p, h => by rw [toP] at h <;> first | cases h | simp
  | n + 1, .raw l, p, h => by rw [toP] at h; cases h
  | 0, .cls l, p, h => by rw [toP] at h <;> first | cases h | simp
  | n + 1, .cls l, p, h => by rw [toP] at h; cases h
  | 0, .exn l _, p, h => by rw [toP] at h <;> first | cases h | simp
  | n + 1, .exn l _, p, h => by rw [toP] at h; cases h
  | n + 1, .tup l, p, h => by
    rw [toP] at h
    cases q : toPs S n l with
    | none => rw [q] at h; cases h
    | some ps =>
      rw [q] at h
      cases h
      obtain ⟨h1, h2⟩ := toPs_ok n l ps q
      exact ⟨h1, Nat.succ_le_succ h2⟩
  | n + 1, .lst l, p, h => by
    rw [toP] at h
    cases q : toPs S n l with
    | none => rw [q] at h; cases h
    | some ps =>
      rw [q] at h
      cases h
      obtain ⟨h1, h2⟩ := toPs_ok n l ps q
      exact ⟨h1, Nat.succ_le_succ h2⟩
  | n + 1, .scr l, p, h => by
    rw [toP] at h
    cases q : toPs S n l with
    | none => rw [q] at h; cases h
    | some ps =>
      rw [q] at h
      cases h
      obtain ⟨h1, h2⟩ := toPs_ok n l ps q
      exact ⟨h1, Nat.succ_le_succ h2⟩
  | n + 1, .cell c, p, h => by
    rw [toP] at h
    split at h
    · rename_i l e
      cases q : toPs S n l with
      | none => rw [q] at h; cases h
      | some ps =>
        rw [q] at h
        cases h
        obtain ⟨h1, h2⟩ := toPs_ok n l ps q
        exact ⟨h1, Nat.succ_le_succ h2⟩
    · cases h
theorem toPs_ok {S : Store} : ∀ (n : Nat) (l : List D) (p : List PyData), toPs S n l = some p → PyData.canLayAll0 p = true ∧ PyData.depthAll p ≤ n
  | n, [], p, h => by rw [toPs] at h; cases h; exact ⟨rfl, Nat.zero_le _⟩
  | n, d :: l, p, h => by
    rw [toPs] at h
    cases q1 : toP S n d with
    | none => rw [q1] at h; cases h
    | some x =>
      cases q2 : toPs S n l with
      | none => rw [q1, q2] at h; cases h
      | some y =>
        rw [q1, q2] at h
        cases h
        obtain ⟨h1, h2⟩ := toP_ok n d x q1
        obtain ⟨h3, h4⟩ := toPs_ok n l y q2
        refine ⟨?_, ?_⟩
        · rw [PyData.canLayAll0, h1, h3]; rfl
        · rw [PyData.depthAll]; omega
end
mutual
theorem toP_dp {K : PySem.W.Frag} {w : Wl} (hw : Wd K w) : ∀ (n : Nat) (d : D) (v : V) (p : PyData), toP w.S n d = some p → Rp K w.r w.F d v → Dp K w.H v p
  | n, .non, v, p, h, r => by rw [toP] at h; cases h; cases rp_non r; exact .non
  | n, .bl b, v, p, h, r => by rw [toP] at h; cases h; cases rp_bl r; exact .bl b
  | n, .int b, v, p, h, r => by rw [toP] at h; cases h; cases rp_int r; exact .int b
  | n, .str x, v, p, h, r => by
    rw [toP] at h
    by_cases hc : PySem.PyData.canLay0 (.str x) = true
    · rw [if_pos hc] at h; cases h; cases rp_str r; exact .str x
    · rw [if_neg hc] at h; cases h
  | 0, .tup l, v, p, h, r => by rw [toP] at h <;> first | cases h | simp
  | 0, .lst l, v, p, h, r => by rw [toP] at h <;> first | cases h | simp
  | 0, .scr l, v, p, h, r => by rw [toP] at h <;> first | cases h | simp
  | 0, .cell l, v, p, h, r => by rw [toP] at h <;> first | cases h | simp
  | 0, .raw l, v, p, h, r => by rw [toP] at h <;> first | cases h | simp
  | n + 1, .raw l, v, p, h, r => by rw [toP] at h; cases h
  | 0, .cls l, v, p, h, r => by rw [toP] at h <;> first | cases h | simp
  | n + 1, .cls l, v, p, h, r => by rw [toP] at h; cases h
  | 0, .exn l _, v, p, h, r => by rw [toP] at h <;> first | cases h | simp
  | n + 1, .exn l _, v, p, h, r => by rw [toP] at h; cases h
  | n + 1, .tup l, v, p, h, r => by
    rw [toP] at h
    cases q : toPs w.S n l with
    | none => rw [q] at h; cases h
    | some ps =>
      rw [q] at h
      cases h
      obtain ⟨a, vs, rfl, hr, t⟩ := getT_ok hw r rfl
      exact .tup (.inl hr) (toPs_dp hw n l vs ps q t)
  | n + 1, .lst l, v, p, h, r => by
    rw [toP] at h
    cases q : toPs w.S n l with
    | none => rw [q] at h; cases h
    | some ps =>
      rw [q] at h
      cases h
      obtain ⟨a, vs, rfl, hr, t⟩ := getL_ok hw r rfl
      exact .lst (.inl (.inl hr)) (toPs_dp hw n l vs ps q t)
  | n + 1, .scr l, v, p, h, r => by
    rw [toP] at h
    cases q : toPs w.S n l with
    | none => rw [q] at h; cases h
    | some ps =>
      rw [q] at h
      cases h
      obtain ⟨a, vs, rfl, hr, t⟩ := getQ_ok hw r rfl
      exact .lst hr (toPs_dp hw n l vs ps q t)
  | n + 1, .cell c, v, p, h, r => by
    rw [toP] at h
    split at h
    · rename_i l e
      cases q : toPs w.S n l with
      | none => rw [q] at h; cases h
      | some ps =>
        rw [q] at h
        cases h
        obtain ⟨a, vs, rfl, hr, t⟩ := getL_ok (l := l) hw r (by simp only [getL, e])
        exact .lst (.inl (.inl hr)) (toPs_dp hw n l vs ps q t)
    · cases h
theorem toPs_dp {K : PySem.W.Frag} {w : Wl} (hw : Wd K w) : ∀ (n : Nat) (l : List D) (vs : List V) (p : List PyData), toPs w.S n l = some p → Rps K w.r w.F l vs → DpAll K w.H vs p
  | n, [], vs, p, h, r => by rw [toPs] at h; cases h; rw [r.nil_inv]; exact .nil
  | n, d :: l, vs, p, h, r => by
    rw [toPs] at h
    cases q1 : toP w.S n d with
    | none => rw [q1] at h; cases h
    | some x =>
      cases q2 : toPs w.S n l with
      | none => rw [q1, q2] at h; cases h
      | some y =>
        rw [q1, q2] at h
        cases h
        obtain ⟨v, t, rfl, r1, r2⟩ := r.cons_inv
        exact .cons (toP_dp hw n d v x q1 r1) (toPs_dp hw n l t y q2 r2)
end
def dEq (a b : D) (S : Store) : Res D := match toP S 60 a, toP S 60 b with
  | some x, some y => .ok (.bl (PyData.eqv x y)) S
  | _, _ => .bad
def dNe (a b : D) (S : Store) : Res D := match toP S 60 a, toP S 60 b with
  | some x, some y => .ok (.bl (!PyData.eqv x y)) S
  | _, _ => .bad
theorem shaped_of {S : Store} {d : D} {p : PyData} (h : toP S 60 d = some p) : SeqAt.shaped p = true := by
  obtain ⟨h1, h2⟩ := toP_ok 60 d p h
  unfold SeqAt.shaped
  rw [h1, decide_eq_true (by omega)]
  rfl
section
variable {X : Cx}
theorem od_eq (hu : X.A.units + 64 < cLine) : OpD X (compareOp .Eq) dEq := ⟨_, op_eqD hu, fun w x y d e W σ Q hw r1 r2 hs => by
  unfold dEq at hs
  split at hs
  · rename_i p q h1 h2
    exact ⟨p, q, toP_dp hw 60 d x p h1 r1, toP_dp hw 60 e y q h2 r2, shaped_of h1, shaped_of h2, SatW.here hs hw rpb⟩
  · exact hs.elim⟩
theorem od_ne (hu : X.A.units + 64 < cLine) : OpD X (compareOp .NotEq) dNe := ⟨_, op_neD hu, fun w x y d e W σ Q hw r1 r2 hs => by
  unfold dNe at hs
  split at hs
  · rename_i p q h1 h2
    exact ⟨p, q, toP_dp hw 60 d x p h1 r1, toP_dp hw 60 e y q h2 r2, shaped_of h1, shaped_of h2, SatW.here hs hw rpb⟩
  · exact hs.elim⟩
end
@[simp] theorem dEq_int {i j : Int} {S : Store} : dEq (.int i) (.int j) S = .ok (.bl (decide (i = j))) S := by
  simp only [dEq, toP, PyData.eqv]
  rfl
@[simp] theorem dNe_int {i j : Int} {S : Store} : dNe (.int i) (.int j) S = .ok (.bl (!decide (i = j))) S := by
  simp only [dNe, toP, PyData.eqv]
  rfl
theorem dEq_of {a b : D} {S : Store} {p q : PyData} (h1 : toP S 60 a = some p) (h2 : toP S 60 b = some q) : dEq a b S = .ok (.bl (PyData.eqv p q)) S := by
  simp only [dEq, h1, h2]
theorem dNe_of {a b : D} {S : Store} {p q : PyData} (h1 : toP S 60 a = some p) (h2 : toP S 60 b = some q) : dNe a b S = .ok (.bl (!PyData.eqv p q)) S := by
  simp only [dNe, h1, h2]
theorem dEq_self {a : D} {S : Store} {p : PyData} (h1 : toP S 60 a = some p) : dEq a a S = .ok (.bl true) S := by
  rw [dEq_of h1 h1, SeqAt.eqv_refl p (toP_ok 60 a p h1).1]
theorem dNe_self {a : D} {S : Store} {p : PyData} (h1 : toP S 60 a = some p) : dNe a a S = .ok (.bl false) S := by
  rw [dNe_of h1 h1, SeqAt.eqv_refl p (toP_ok 60 a p h1).1]
  rfl

/-! ### is None -/
def dIsN (a b : D) (S : Store) : Res D := match b with
  | .non => match a with
    | .non => .ok (.bl true) S
    | .raw _ => .bad
    | _ => .ok (.bl false) S
  | _ => .bad
def dIsNotN (a b : D) (S : Store) : Res D := match b with
  | .non => match a with
    | .non => .ok (.bl false) S
    | .raw _ => .bad
    | _ => .ok (.bl true) S
  | _ => .bad
theorem rp_isnon {K : PySem.W.Frag} {r : List Addr} {F : Hp} {d : D} {v : V} (h : Rp K r F d v) (hd : ∀ x, d ≠ .raw x) : decide (v = .non) = (match d with | .non => true | _ => false) := by
  cases d with
  | non => cases rp_non h; rfl
  | bl b => cases rp_bl h; rfl
  | int b => cases rp_int h; rfl
  | str b => cases rp_str h; rfl
  | tup l => unfold Rp at h; obtain ⟨a, vs, rfl, _⟩ := h; rfl
  | lst l => unfold Rp at h; obtain ⟨a, vs, rfl, _⟩ := h; rfl
  | scr l => unfold Rp at h; obtain ⟨a, vs, rfl, _⟩ := h; rfl
  | cell n => unfold Rp at h; obtain ⟨a, _, rfl⟩ := h; rfl
  | cls n => unfold Rp at h; obtain ⟨a, _, rfl⟩ := h; rfl
  | exn n f => unfold Rp at h; obtain ⟨a, _, _, rfl, _⟩ := h; rfl
  | raw x => exact (hd x rfl).elim
section
variable {X : Cx}
theorem od_isN : OpD X (compareOp .Is) dIsN := ⟨_, op_isN, fun w x y d e W σ Q hw r1 r2 hs => by
  cases e with
  | non =>
    refine ⟨rp_non r2, ?_⟩
    have q := rp_isnon (show Rp X.K w.r w.F d x from r1)
    cases d with
    | raw z => exact hs.elim
    | non => rw [q (by simp)]; exact SatW.here hs hw rpb
    | bl z => rw [q (by simp)]; exact SatW.here hs hw rpb
    | int z => rw [q (by simp)]; exact SatW.here hs hw rpb
    | str z => rw [q (by simp)]; exact SatW.here hs hw rpb
    | tup z => rw [q (by simp)]; exact SatW.here hs hw rpb
    | lst z => rw [q (by simp)]; exact SatW.here hs hw rpb
    | scr z => rw [q (by simp)]; exact SatW.here hs hw rpb
    | cell z => rw [q (by simp)]; exact SatW.here hs hw rpb
    | cls z => rw [q (by simp)]; exact SatW.here hs hw rpb
    | exn z f => rw [q (by simp)]; exact SatW.here hs hw rpb
  | _ => exact hs.elim⟩
theorem od_isNotN : OpD X (compareOp .IsNot) dIsNotN := ⟨_, op_notN, fun w x y d e W σ Q hw r1 r2 hs => by
  cases e with
  | non =>
    refine ⟨rp_non r2, ?_⟩
    have q := rp_isnon (show Rp X.K w.r w.F d x from r1)
    cases d with
    | raw z => exact hs.elim
    | non => rw [q (by simp)]; exact SatW.here hs hw rpb
    | bl z => rw [q (by simp)]; exact SatW.here hs hw rpb
    | int z => rw [q (by simp)]; exact SatW.here hs hw rpb
    | str z => rw [q (by simp)]; exact SatW.here hs hw rpb
    | tup z => rw [q (by simp)]; exact SatW.here hs hw rpb
    | lst z => rw [q (by simp)]; exact SatW.here hs hw rpb
    | scr z => rw [q (by simp)]; exact SatW.here hs hw rpb
    | cell z => rw [q (by simp)]; exact SatW.here hs hw rpb
    | cls z => rw [q (by simp)]; exact SatW.here hs hw rpb
    | exn z f => rw [q (by simp)]; exact SatW.here hs hw rpb
  | _ => exact hs.elim⟩
end

/-! ### an item -/
def dIx (x y : D) (S : Store) : Res D := match y with
  | .int i => match x with
    | .tup l => match atI l i with
      | some d => .ok d S
      | none => .bad
    | .str z => if z.length ≤ 16000000 then match atI z.cps.toList i with
        | some c => .ok (.str ⟨#[c]⟩) S
        | none => .bad
      else .bad
    | x => match getQ x S with
      | some l => match atI l i with
        | some d => .ok d S
        | none => .bad
      | none => .bad
  | _ => .bad
theorem Rps.atI {K : PySem.W.Frag} {r : List Addr} {F : Hp} {l : List D} {vs : List V} {i : Int} {d : D} (h : Rps K r F l vs) (e : L2.atI l i = some d) : ∃ v, L2.atI vs i = some v ∧ Rp K r F d v := by
  unfold L2.atI at e ⊢
  rw [h.length]
  cases q : ixN l.length i with
  | none => rw [q] at e; cases e
  | some j =>
    rw [q] at e
    exact h.get (i := j) e
section
variable {X : Cx}
theorem ixd : IxD X dIx := ⟨_, ix_seq, fun w x y d e W σ Q hw r1 r2 hs => by
  have gen : ∀ {o : Option (List D)} {i : Int}, getQ d w.S = o → e = .int i → SatW (kt X) W σ (RD X.K) w (match o with | some l => (match L2.atI l i with | some d => (.ok d w.S : Res D) | none => .bad) | none => .bad) (fun w' _ v => Q v w'.H) → rIxL X.K x y w.H Q := fun {o i} h1 h2 hq => by
    cases o with
    | none => exact hq.elim
    | some l =>
      cases q : L2.atI l i with
      | none => simp only [q] at hq; exact hq.elim
      | some z =>
        simp only [q] at hq
        obtain ⟨p, vs, e1, q1, t1⟩ := getQ_ok hw r1 h1
        obtain ⟨v, ev, rv⟩ := t1.atI q
        subst h2
        exact ⟨p, vs, i, v, e1, rp_int r2, q1, ev, SatW.here hq hw rv⟩
  unfold dIx at hs
  split at hs
  · rename_i i
    split at hs
    · rename_i l
      cases q : L2.atI l i with
      | none => simp only [q] at hs; exact hs.elim
      | some z =>
        simp only [q] at hs
        obtain ⟨p, vs, e1, q1, t1⟩ := getT_ok hw r1 rfl
        obtain ⟨v, ev, rv⟩ := t1.atI q
        exact .inr (.inl ⟨p, vs, i, v, e1, rp_int r2, .inl q1, ev, SatW.here hs hw rv⟩)
    · rename_i z
      obtain ⟨hl, hs⟩ := satIf hs
      cases q : L2.atI z.cps.toList i with
      | none => simp only [q] at hs; exact hs.elim
      | some c =>
        simp only [q] at hs
        exact .inr (.inr ⟨z, i, c, rp_str r1, rp_int r2, line16 hl, q, SatW.here hs hw rps⟩)
    · exact .inl (gen rfl rfl hs)
  · exact hs.elim⟩
end
@[simp] theorem dIx_tup {l : List D} {i : Int} {S : Store} : dIx (.tup l) (.int i) S = match L2.atI l i with | some d => .ok d S | none => .bad := rfl
@[simp] theorem dIx_lst {l : List D} {i : Int} {S : Store} : dIx (.lst l) (.int i) S = match L2.atI l i with | some d => .ok d S | none => .bad := rfl

/-! ### built-in functions -/
def bAbs (l : List D) (S : Store) : Res D := match l with
  | [.int i] => .ok (.int (if i < 0 then -i else i)) S
  | _ => .bad
def bLen (l : List D) (S : Store) : Res D := match l with
  | [.str z] => if z.length ≤ 16000000 then .ok (.int z.length) S else .bad
  | [.tup l] => .ok (.int l.length) S
  | [x] => match getQ x S with
    | some l => .ok (.int l.length) S
    | none => .bad
  | _ => .bad
def intsOf : List D → Option (List Int)
  | [] => some []
  | .int i :: l => (intsOf l).map (i :: ·)
  | _ :: _ => none
def bSum (l : List D) (S : Store) : Res D := match l with
  | [x] => match (getQ x S).bind intsOf with
    | some ns => .ok (.int ns.sum) S
    | none => .bad
  | _ => .bad
def maxL : List Int → Int
  | [] => 0
  | [x] => x
  | x :: y :: l => max x (maxL (y :: l))
def minL : List Int → Int
  | [] => 0
  | [x] => x
  | x :: y :: l => min x (minL (y :: l))
def bMax (l : List D) (S : Store) : Res D := match l with
  | [.int i, .int j] => .ok (.int (if j > i then j else i)) S
  | [x] => match (getQ x S).bind intsOf with
    | some (n :: ns) => .ok (.int (maxL (n :: ns))) S
    | _ => .bad
  | _ => .bad
def bMin (l : List D) (S : Store) : Res D := match l with
  | [.int i, .int j] => .ok (.int (if j < i then j else i)) S
  | [x] => match (getQ x S).bind intsOf with
    | some (n :: ns) => .ok (.int (minL (n :: ns))) S
    | _ => .bad
  | _ => .bad
def bInt (l : List D) (S : Store) : Res D := match l with
  | [.int i] => .ok (.int i) S
  | [.bl b] => .ok (.int (if b then 1 else 0)) S
  | _ => .bad
def bList (mk : List D → M D) (l : List D) (S : Store) : Res D := match l with
  | [.tup l] => mk l S
  | [x] => match getQ x S with
    | some l => mk l S
    | none => .bad
  | _ => .bad
def bTuple (l : List D) (S : Store) : Res D := match l with
  | [.tup l] => .ok (.tup l) S
  | [x] => match getQ x S with
    | some l => .ok (.tup l) S
    | none => .bad
  | _ => .bad
theorem maxL_mem : ∀ {l : List Int}, l ≠ [] → maxL l ∈ l
  | [], h => (h rfl).elim
  | [x], _ => by simp [maxL]
  | x :: y :: l, _ => by
    have ih := maxL_mem (l := y :: l) (by simp)
    unfold maxL
    rcases Int.le_total x (maxL (y :: l)) with h | h
    · rw [Int.max_eq_right h]; exact List.mem_cons_of_mem _ ih
    · rw [Int.max_eq_left h]; exact List.mem_cons_self
theorem maxL_ge : ∀ {l : List Int} {y : Int}, y ∈ l → y ≤ maxL l
  | [], y, h => by simp at h
  | [x], y, h => by
    have : y = x := by simpa using h
    subst this; exact Int.le_refl _
  | x :: z :: l, y, h => by
    unfold maxL
    rcases List.mem_cons.mp h with e | h
    · subst e; exact Int.le_max_left _ _
    · exact Int.le_trans (maxL_ge h) (Int.le_max_right _ _)
theorem minL_mem : ∀ {l : List Int}, l ≠ [] → minL l ∈ l
  | [], h => (h rfl).elim
  | [x], _ => by simp [minL]
  | x :: y :: l, _ => by
    have ih := minL_mem (l := y :: l) (by simp)
    unfold minL
    rcases Int.le_total x (minL (y :: l)) with h | h
    · rw [Int.min_eq_left h]; exact List.mem_cons_self
    · rw [Int.min_eq_right h]; exact List.mem_cons_of_mem _ ih
theorem minL_le : ∀ {l : List Int} {y : Int}, y ∈ l → minL l ≤ y
  | [], y, h => by simp at h
  | [x], y, h => by
    have : y = x := by simpa using h
    subst this; exact Int.le_refl _
  | x :: z :: l, y, h => by
    unfold minL
    rcases List.mem_cons.mp h with e | h
    · subst e; exact Int.min_le_left _ _
    · exact Int.le_trans (Int.min_le_right _ _) (minL_le h)
theorem intsOf_eq : ∀ {l : List D} {ns : List Int}, intsOf l = some ns → l = ns.map D.int
  | [], ns, h => by cases h; rfl
  | .int i :: l, ns, h => by
    rw [intsOf] at h
    cases q : intsOf l with
    | none => rw [q] at h; cases h
    | some ms =>
      rw [q] at h
      cases h
      rw [intsOf_eq q]
      rfl
  | .non :: l, ns, h => by cases h
  | .bl _ :: l, ns, h => by cases h
  | .str _ :: l, ns, h => by cases h
  | .tup _ :: l, ns, h => by cases h
  | .lst _ :: l, ns, h => by cases h
  | .scr _ :: l, ns, h => by cases h
  | .cell _ :: l, ns, h => by cases h
  | .raw _ :: l, ns, h => by cases h
  | .cls _ :: l, ns, h => by cases h
  | .exn _ _ :: l, ns, h => by cases h
@[simp] theorem intsOf_map : ∀ ns : List Int, intsOf (ns.map D.int) = some ns
  | [] => rfl
  | n :: ns => by rw [List.map_cons, intsOf, intsOf_map ns]; rfl
section
variable {X : Cx} {K : PySem.W.Frag} {w : Wl}
theorem one_inv {d : D} {xs : List V} (h : Rps K w.r w.F [d] xs) : ∃ v, xs = [v] ∧ Rp K w.r w.F d v := by
  obtain ⟨v, t, e, r1, r2⟩ := h.cons_inv
  have := r2.nil_inv
  subst this
  exact ⟨v, e, r1⟩
theorem two_inv {d e : D} {xs : List V} (h : Rps K w.r w.F [d, e] xs) : ∃ v u, xs = [v, u] ∧ Rp K w.r w.F d v ∧ Rp K w.r w.F e u := by
  obtain ⟨v, t, e1, r1, r2⟩ := h.cons_inv
  obtain ⟨u, q, r3⟩ := one_inv r2
  subst q
  exact ⟨v, u, e1, r1, r3⟩
theorem ints_of {x : D} {v : V} {ns : List Int} (hw : Wd K w) (r : Rp K w.r w.F x v) (h : (getQ x w.S).bind intsOf = some ns) : ∃ a, v = .ref a ∧ SqL K w.H a (ns.map V.int) := by
  cases q : getQ x w.S with
  | none => rw [q] at h; cases h
  | some l =>
    rw [q] at h
    have e := intsOf_eq (show intsOf l = some ns from h)
    subst e
    obtain ⟨a, vs, e1, q1, t⟩ := getQ_ok hw r q
    rw [t.ints] at q1
    exact ⟨a, e1, q1⟩
theorem cd_abs : CallD X (.builtin "abs") bAbs := ⟨_, call_abs, fun w xs ds W σ Q hw r hs => by
  unfold bAbs at hs
  split at hs
  · rename_i i
    obtain ⟨v, rfl, rv⟩ := one_inv r
    cases rp_int rv
    exact ⟨i, rfl, SatW.here hs hw rpi⟩
  · exact hs.elim⟩
theorem cd_len : CallD X (.builtin "len") bLen := ⟨_, call_len, fun w xs ds W σ Q hw r hs => by
  unfold bLen at hs
  split at hs
  · rename_i z
    obtain ⟨v, rfl, rv⟩ := one_inv r
    cases rp_str rv
    obtain ⟨hl, hs⟩ := satIf hs
    exact ⟨_, z.length, rfl, ⟨line16 hl, rfl⟩, SatW.here hs hw rpi⟩
  · rename_i l
    obtain ⟨v, rfl, rv⟩ := one_inv r
    obtain ⟨a, vs, rfl, q, t⟩ := getT_ok hw rv rfl
    exact ⟨_, l.length, rfl, .inr ⟨vs, .inl q, t.length.symm⟩, SatW.here hs hw rpi⟩
  · rename_i x _ _
    obtain ⟨v, rfl, rv⟩ := one_inv r
    cases q : getQ x w.S with
    | none => rw [q] at hs; exact hs.elim
    | some l =>
      rw [q] at hs
      obtain ⟨a, vs, rfl, q, t⟩ := getQ_ok hw rv q
      exact ⟨_, l.length, rfl, .inl ⟨vs, q, t.length.symm⟩, SatW.here hs hw rpi⟩
  · exact hs.elim⟩
theorem cd_sum (hc : X.calm = true) : CallD X (.builtin "sum") bSum := ⟨_, cr_sum hc, fun w xs ds W σ Q hw r hs => by
  unfold bSum at hs
  split at hs
  · rename_i x
    obtain ⟨v, rfl, rv⟩ := one_inv r
    split at hs
    · rename_i ns h
      obtain ⟨a, rfl, q⟩ := ints_of hw rv h
      exact ⟨a, ns, rfl, q, SatW.here hs hw rpi⟩
    · exact hs.elim
  · exact hs.elim⟩
theorem cd_max (hc : X.calm = true) : CallD X (.builtin "max") bMax := ⟨_, (call_max2 hc).or (cr_max hc), fun w xs ds W σ Q hw r hs => by
  unfold bMax at hs
  split at hs
  · rename_i i j
    obtain ⟨v, u, rfl, rv, ru⟩ := two_inv r
    cases rp_int rv
    cases rp_int ru
    exact .inl ⟨i, j, rfl, SatW.here hs hw rpi⟩
  · rename_i x
    obtain ⟨v, rfl, rv⟩ := one_inv r
    split at hs
    · rename_i n ns h
      obtain ⟨a, rfl, q⟩ := ints_of hw rv h
      refine .inr ⟨a, n :: ns, rfl, q, by simp, fun m h1 h2 => ?_⟩
      have e : m = maxL (n :: ns) := Int.le_antisymm (maxL_ge h1) (h2 _ (maxL_mem (by simp)))
      rw [e]
      exact SatW.here hs hw rpi
    · exact hs.elim
  · exact hs.elim⟩
theorem cd_min (hc : X.calm = true) : CallD X (.builtin "min") bMin := ⟨_, (call_min2 hc).or (cr_min hc), fun w xs ds W σ Q hw r hs => by
  unfold bMin at hs
  split at hs
  · rename_i i j
    obtain ⟨v, u, rfl, rv, ru⟩ := two_inv r
    cases rp_int rv
    cases rp_int ru
    exact .inl ⟨i, j, rfl, SatW.here hs hw rpi⟩
  · rename_i x
    obtain ⟨v, rfl, rv⟩ := one_inv r
    split at hs
    · rename_i n ns h
      obtain ⟨a, rfl, q⟩ := ints_of hw rv h
      refine .inr ⟨a, n :: ns, rfl, q, by simp, fun m h1 h2 => ?_⟩
      have e : m = minL (n :: ns) := Int.le_antisymm (h2 _ (minL_mem (by simp))) (minL_le h1)
      rw [e]
      exact SatW.here hs hw rpi
    · exact hs.elim
  · exact hs.elim⟩
theorem cd_int : CallD X (.type "int") bInt := ⟨_, call_int1, fun w xs ds W σ Q hw r hs => by
  unfold bInt at hs
  split at hs
  · rename_i i
    obtain ⟨v, rfl, rv⟩ := one_inv r
    cases rp_int rv
    exact .inl ⟨i, rfl, SatW.here hs hw rpi⟩
  · rename_i b
    obtain ⟨v, rfl, rv⟩ := one_inv r
    cases rp_bl rv
    exact .inr ⟨b, rfl, SatW.here hs hw rpi⟩
  · exact hs.elim⟩
theorem cd_list {mk : List D → M D} (m : Mk mk) : CallD X (.type "list") (bList mk) := ⟨_, call_list_of, fun w xs ds W σ Q hw r hs => by
  unfold bList at hs
  split at hs
  · rename_i l
    obtain ⟨v, rfl, rv⟩ := one_inv r
    obtain ⟨a, vs, rfl, q, t⟩ := getT_ok hw rv rfl
    exact ⟨a, vs, rfl, .inr (.inl q), m.go hw t hs⟩
  · rename_i x _
    obtain ⟨v, rfl, rv⟩ := one_inv r
    cases q : getQ x w.S with
    | none => rw [q] at hs; exact hs.elim
    | some l =>
      rw [q] at hs
      obtain ⟨a, vs, rfl, q, t⟩ := getQ_ok hw rv q
      exact ⟨a, vs, rfl, .inl q, m.go hw t hs⟩
  · exact hs.elim⟩
theorem cd_tuple : CallD X (.type "tuple") bTuple := ⟨_, call_tuple_of, fun w xs ds W σ Q hw r hs => by
  unfold bTuple at hs
  split at hs
  · rename_i l
    obtain ⟨v, rfl, rv⟩ := one_inv r
    obtain ⟨a, vs, rfl, q, t⟩ := getT_ok hw rv rfl
    exact ⟨a, vs, rfl, .inr ⟨.inl q, SatW.here hs hw rv⟩⟩
  · rename_i x _
    obtain ⟨v, rfl, rv⟩ := one_inv r
    cases q : getQ x w.S with
    | none => rw [q] at hs; exact hs.elim
    | some l =>
      rw [q] at hs
      obtain ⟨a, vs, rfl, q, t⟩ := getQ_ok hw rv q
      exact ⟨a, vs, rfl, .inl ⟨q, tup_go hw t hs⟩⟩
  · exact hs.elim⟩

/-! ### isinstance, of built-in classes -/
inductive Ty where | int | bool | list | tuple | str | dict
  deriving DecidableEq
def Ty.name : Ty → String
  | .int => "int" | .bool => "bool" | .list => "list" | .tuple => "tuple" | .str => "str" | .dict => "dict"
def tyOf (d : D) (S : Store) : Option String := match d with
  | .non => some "NoneType"
  | .bl _ => some "bool"
  | .int _ => some "int"
  | .str _ => some "str"
  | .tup _ => some "tuple"
  | .lst _ => some "list"
  | .scr _ => some "list"
  | .cell n => match S[n]? with
    | some (.lst _) => some "list"
    | some (.dct _) => some "dict"
    | _ => none
  | .raw _ => none
  | .cls _ => none
  | .exn _ _ => none
def isTy (ty : Ty) (t : String) : Bool := t == ty.name || (ty == .int && t == "bool")
end
end
end Dv
/-! # Dv6: isinstance, slices, stores, methods of lists, freezing -/
namespace Dv
noncomputable section
open PySem PySem.Spec PyProof.Rows L2

/-! ### a built-in's name as a value -/
section
variable {X : Cx} {W : WX} {pos : Pos}
theorem pd_ty {x : Str} {n : String} (hm : X.mg x = none) (hv : bootBuiltins x = some (.type n)) (hg : Gl X x := by rfl) (hn : x ≠ "__name__" := by decide) (hd : (x == ("__debug__" : Str)) = false := by decide) : PD X W (.Name x pos) (xC (.raw (.ty n))) :=
  pd_c (v := V.ty n) (pe_bltn (v := V.ty n) hg hm hv rfl hn hd) (fun _ _ _ q => q) fun _ _ _ => by unfold Rp; rfl
/-- a module's number or text -/
theorem pd_gint {x : Str} {i : Int} {t : Tok} (hm : X.mg x = some (.int i t)) (hg : Gl X x := by rfl) (hd : (x == ("__debug__" : Str)) = false := by decide) : PD X W (.Name x pos) (xC (.int i)) :=
  pd_c (v := V.int i) (pe_glob (v := V.int i) hg hm ⟨_, rfl⟩ hd) (fun _ _ _ q => q) fun _ _ _ => rpi
theorem pd_gstr {x : Str} {i : Str} {t : Tok} (hm : X.mg x = some (.str i t)) (hg : Gl X x := by rfl) (hd : (x == ("__debug__" : Str)) = false := by decide) : PD X W (.Name x pos) (xC (.str i)) :=
  pd_c (v := V.str i) (pe_glob (v := V.str i) hg hm ⟨_, rfl⟩ hd) (fun _ _ _ q => q) fun _ _ _ => rps
theorem pd_gref {x : Str} {C : Addr} (hm : X.mg x = some (.ref C)) (hg : Gl X x := by rfl) (hd : (x == ("__debug__" : Str)) = false := by decide) : PD X W (.Name x pos) (xC (.raw (.ref C))) :=
  pd_c (v := V.ref C) (pe_glob (v := V.ref C) hg hm rfl hd) (fun _ _ _ q => q) fun _ _ _ => by unfold Rp; rfl
end
def bIsi (l : List D) (S : Store) : Res D := match l with
  | [d, .raw (.ty n)] => match tyOf d S with
    | some t => match kitB t n with
      | some b => .ok (.bl b) S
      | none => .bad
    | none => .bad
  | _ => .bad
theorem tyx {K : PySem.W.Frag} {w : Wl} {d : D} {v : V} {t : String} (hw : Wd K w) (r : Rp K w.r w.F d v) (h : tyOf d w.S = some t) : TyX K w.H v (.type t) := by
  have lst : ∀ {a : Addr} {vs : List V}, w.H a = some (.lst vs) → TyX K w.H (.ref a) (.type "list") := fun {a vs} q => .base (.lst q)
  cases d with
  | non => cases h; cases rp_non r; exact .base .non
  | bl b => cases h; cases rp_bl r; exact .base (.bl b)
  | int b => cases h; cases rp_int r; exact .base (.int b)
  | str b => cases h; cases rp_str r; exact .base (.str b)
  | tup l =>
    cases h
    obtain ⟨a, vs, rfl, q, p⟩ := getT_ok hw r rfl
    rcases q with q | ⟨o, q⟩
    · exact .base (.tup q)
    · exact .fTuple q
  | lst l =>
    cases h
    obtain ⟨a, vs, rfl, q, p⟩ := getL_ok hw r rfl
    exact lst q
  | scr l =>
    cases h
    obtain ⟨a, vs, rfl, q, p⟩ := getQ_ok hw r rfl
    rcases q with (q | ⟨o, q⟩) | ⟨o, its, n, h1, h2, _⟩
    · exact lst q
    · exact .base (.frz q)
    · exact .kList h1 h2
  | cell n =>
    unfold tyOf at h
    cases e : w.S[n]? with
    | none => simp only [e] at h; cases h
    | some c =>
      cases c with
      | lst l =>
        simp only [e] at h
        cases h
        obtain ⟨a, vs, rfl, q, p⟩ := getL_ok (l := l) hw r (by simp only [getL, e])
        exact lst q
      | dct l =>
        simp only [e] at h
        cases h
        unfold Rp at r
        obtain ⟨a, e1, rfl⟩ := r
        obtain ⟨_, vs, e2, p⟩ := hw.cell n a _ e1 e
        exact .base (.dK e2)
      | dead => simp only [e] at h; cases h
  | raw _ => cases h
  | cls _ => cases h
  | exn _ _ => cases h
section
variable {X : Cx}
theorem cd_isi : CallD X (.builtin "isinstance") bIsi := ⟨_, call_isi, fun w xs ds W σ Q hw r hs => by
  unfold bIsi at hs
  split at hs
  · rename_i d n
    obtain ⟨v, u, rfl, rv, ru⟩ := two_inv r
    cases rp_raw ru
    split at hs
    · rename_i t ht
      split at hs
      · rename_i b hb
        exact ⟨v, .ty n, .type t, .type n, b, rfl, .ty n, tyx hw rv ht, kit_ty hb, SatW.here hs hw rpb⟩
      · exact hs.elim
    · exact hs.elim
  · exact hs.elim⟩
end
@[simp] theorem kb_ii : kitB "int" "int" = some true := by decide +kernel
@[simp] theorem kb_bi : kitB "bool" "int" = some true := by decide +kernel
@[simp] theorem kb_si : kitB "str" "int" = some false := by decide +kernel
@[simp] theorem kb_ni : kitB "NoneType" "int" = some false := by decide +kernel
@[simp] theorem kb_li : kitB "list" "int" = some false := by decide +kernel
@[simp] theorem kb_ti : kitB "tuple" "int" = some false := by decide +kernel
@[simp] theorem kb_di : kitB "dict" "int" = some false := by decide +kernel
@[simp] theorem kb_ib : kitB "int" "bool" = some false := by decide +kernel
@[simp] theorem kb_bb : kitB "bool" "bool" = some true := by decide +kernel
@[simp] theorem kb_sb : kitB "str" "bool" = some false := by decide +kernel
@[simp] theorem kb_nb : kitB "NoneType" "bool" = some false := by decide +kernel
@[simp] theorem kb_lb : kitB "list" "bool" = some false := by decide +kernel
@[simp] theorem kb_tb : kitB "tuple" "bool" = some false := by decide +kernel
@[simp] theorem kb_db : kitB "dict" "bool" = some false := by decide +kernel
@[simp] theorem kb_il : kitB "int" "list" = some false := by decide +kernel
@[simp] theorem kb_bl : kitB "bool" "list" = some false := by decide +kernel
@[simp] theorem kb_sl : kitB "str" "list" = some false := by decide +kernel
@[simp] theorem kb_nl : kitB "NoneType" "list" = some false := by decide +kernel
@[simp] theorem kb_ll : kitB "list" "list" = some true := by decide +kernel
@[simp] theorem kb_tl : kitB "tuple" "list" = some false := by decide +kernel
@[simp] theorem kb_dl : kitB "dict" "list" = some false := by decide +kernel
@[simp] theorem kb_it : kitB "int" "tuple" = some false := by decide +kernel
@[simp] theorem kb_bt : kitB "bool" "tuple" = some false := by decide +kernel
@[simp] theorem kb_st : kitB "str" "tuple" = some false := by decide +kernel
@[simp] theorem kb_nt : kitB "NoneType" "tuple" = some false := by decide +kernel
@[simp] theorem kb_lt : kitB "list" "tuple" = some false := by decide +kernel
@[simp] theorem kb_tt : kitB "tuple" "tuple" = some true := by decide +kernel
@[simp] theorem kb_dt : kitB "dict" "tuple" = some false := by decide +kernel

/-! ### slices -/
abbrev RO : Wl → Option Int → Option Int → Prop := fun _ a b => a = b
def tDO (T : Kt) (W : WX) (f : Env → M (Option Int)) : TO := fun σ H Q => ∃ (w : Wl) (env : Env), w.H = H ∧ Wd T.K w ∧ EnvOk T.K w env σ ∧ SatW T W σ RO w (f env w.S) (fun w' _ v => Q v w'.H)
def POD (X : Cx) (W : WX) (e : Option Expr) (f : Env → M (Option Int)) : Prop := PO X e (tDO (kt X) W f)
def oNone : Env → M (Option Int) := fun _ S => .ok none S
def oSome (f : Env → M D) : Env → M (Option Int) := fun e S => (f e S).bind fun d S1 => match d with
  | .int i => .ok (some i) S1
  | _ => .bad
def slD (mk : List D → M D) (d : D) (lo hi : Option Int) (S : Store) : Res D := match d with
  | .str z => if z.length ≤ 16000000 then .ok (.str (cutS z lo hi)) S else .bad
  | .tup l => if ¬ (HT.sIx l.length 0 lo = 0 ∧ HT.sIx l.length l.length hi = l.length) then .ok (.tup ((l.drop (HT.sIx l.length 0 lo)).take (HT.sIx l.length l.length hi - HT.sIx l.length 0 lo))) S else .bad
  | d => match getQ d S with
    | some l => mk ((l.drop (HT.sIx l.length 0 lo)).take (HT.sIx l.length l.length hi - HT.sIx l.length 0 lo)) S
    | none => .bad
def xSl (mk : List D → M D) (f : Env → M D) (lo hi : Env → M (Option Int)) : Env → M D := fun e S => (f e S).bind fun d S1 => (lo e S1).bind fun a S2 => (hi e S2).bind fun b S3 => slD mk d a b S3
section
variable {X : Cx} {W : WX} {e : Expr} {lo hi : Option Expr} {f : Env → M D} {fl fh : Env → M (Option Int)} {pos p2 : Pos} {mk : List D → M D}
theorem weakO {e : Option Expr} {t t' : TO} (h : PO X e t) (q : ∀ σ H Q, t' σ H Q → t σ H Q) : PO X e t' := ⟨fun pins s σ H Q I z => h.run pins s σ H Q I (q _ _ _ z)⟩
theorem pod_none : POD X W none oNone := by
  refine weakO po_none fun σ H Q ⟨w, env, eH, hw, he, hs⟩ => ?_
  subst eH
  exact SatW.here (d := (none : Option Int)) (v := (none : Option Int)) hs hw rfl
theorem pod_some (h : PD X W e f) : POD X W (some e) (oSome f) := by
  refine weakO (po_some h) fun σ H Q ⟨w, env, eH, hw, he, hs⟩ => ?_
  subst eH
  refine ⟨w, env, rfl, hw, he, SatW.imp (SatW.bind hs) fun w1 d v g1 r1 s1 => ?_⟩
  cases d with
  | int i => exact ⟨i, rp_int r1, SatW.here (d := some i) (v := some i) s1 g1.wd rfl⟩
  | _ => exact s1.elim
theorem pd_slice (m : Mk mk) (he : PD X W e f) (hl : POD X W lo fl) (hu : POD X W hi fh) : PD X W (.Subscript e (.Slice lo hi none p2) pos) (xSl mk f fl fh) := by
  refine weakE (pe_slice (sl_list.or (sl_tup.or sl_str)) he hl hu) fun σ H Q ⟨w, env, eH, hw, he, hs⟩ => ?_
  subst eH
  refine ⟨w, env, rfl, hw, he, SatW.imp (SatW.bind hs) fun w1 d v g1 r1 s1 => ?_⟩
  refine ⟨w1, env, rfl, g1.wd, he.go g1, SatW.imp (SatW.bind s1) fun w2 a a' g2 ea s2 => ?_⟩
  have ea' : a = a' := ea
  subst ea'
  refine ⟨w2, env, rfl, g2.wd, (he.go g1).go g2, SatW.imp (SatW.bind s2) fun w3 b b' g3 eb s3 => ?_⟩
  have eb' : b = b' := eb
  subst eb'
  have r3 : Rp X.K w3.r w3.F d v := Rp.go (g2.trans g3) r1
  have s3' : SatW (kt X) W σ (RD X.K) w3 (slD mk d a b w3.S) (fun w' _ v => Q v w'.H) := s3
  unfold slD at s3'
  split at s3'
  · rename_i z
    obtain ⟨hl, s4⟩ := satIf s3'
    exact .inr (.inr ⟨z, rp_str r3, line16 hl, SatW.here s4 g3.wd rps⟩)
  · rename_i l
    obtain ⟨hl, s4⟩ := satIf s3'
    obtain ⟨p, vs, rfl, q, t⟩ := getT_ok g3.wd r3 rfl
    refine .inr (.inl ⟨p, vs, rfl, .inl q, by rw [t.length]; exact hl, tup_go g3.wd ?_ s4⟩)
    unfold cutV
    rw [t.length]
    exact (t.drop _).take _
  · split at s3'
    · rename_i l hl
      obtain ⟨p, vs, rfl, q, t⟩ := getQ_ok g3.wd r3 hl
      refine .inl ⟨p, vs, rfl, q, m.go g3.wd ?_ s3'⟩
      unfold cutV
      rw [t.length]
      exact (t.drop _).take _
    · exact s3'.elim
end

/-! ### freezing -/
def frz (d : D) (S : Store) : Res D := match d with
  | .cell n => match S[n]? with
    | some (.lst l) => .ok (.lst l) (S.set n .dead)
    | _ => .bad
  | d => .ok d S
def xFrz (f : Env → M D) : Env → M D := fun e S => (f e S).bind frz
def frzE (i : Nat) : Env → Store → Out := fun e S => match e[i]? with
  | some (some d) => (frz d S).out e fun d' S' => .nx (e.set i (some d')) S'
  | _ => .bad
theorem frz_sat {T : Kt} {W : WX} {σ : L2.St} {w : Wl} {d : D} {v : V} {P : Wl → D → V → Prop} (hw : Wd T.K w) (r : Rp T.K w.r w.F d v) (h : SatW T W σ (RD T.K) w (frz d w.S) P) : ∃ w' d', w'.H = w.H ∧ P w' d' v ∧ Go T.K w w' ∧ Rp T.K w'.r w'.F d' v ∧ frz d w.S = .ok d' w'.S := by
  cases d with
  | cell n =>
    unfold frz at h ⊢
    cases e : w.S[n]? with
    | none => simp only [e] at h; exact h.elim
    | some c =>
      cases c with
      | lst l =>
        simp only [e] at h ⊢
        unfold Rp at r
        obtain ⟨a, e1, rfl⟩ := r
        obtain ⟨hf, vs, e2, p⟩ := hw.cell n a _ e1 e
        have g := Go.freeze hw e e1 e2
        have r' : Rp T.K w.r (upd w.F a (.lst vs)) (.lst l) (.ref a) := by
          unfold Rp
          exact ⟨a, vs, rfl, upd_same, Rps.mono ⟨[], by simp⟩ g.F _ _ p⟩
        exact ⟨⟨w.r, upd w.F a (.lst vs), w.S.set n .dead, w.H⟩, .lst l, rfl, h _ _ g rfl r', g, r', rfl⟩
      | dct _ => simp only [e] at h; exact h.elim
      | dead => simp only [e] at h; exact h.elim
  | non => exact ⟨w, _, rfl, SatW.here h hw r, Go.refl hw, r, rfl⟩
  | bl _ => exact ⟨w, _, rfl, SatW.here h hw r, Go.refl hw, r, rfl⟩
  | int _ => exact ⟨w, _, rfl, SatW.here h hw r, Go.refl hw, r, rfl⟩
  | str _ => exact ⟨w, _, rfl, SatW.here h hw r, Go.refl hw, r, rfl⟩
  | tup _ => exact ⟨w, _, rfl, SatW.here h hw r, Go.refl hw, r, rfl⟩
  | lst _ => exact ⟨w, _, rfl, SatW.here h hw r, Go.refl hw, r, rfl⟩
  | scr _ => exact ⟨w, _, rfl, SatW.here h hw r, Go.refl hw, r, rfl⟩
  | raw _ => exact ⟨w, _, rfl, SatW.here h hw r, Go.refl hw, r, rfl⟩
  | cls _ => exact ⟨w, _, rfl, SatW.here h hw r, Go.refl hw, r, rfl⟩
  | exn _ _ => exact ⟨w, _, rfl, SatW.here h hw r, Go.refl hw, r, rfl⟩
section
variable {X : Cx} {W : WX} {e : Expr} {f : Env → M D} {s : Stmt} {g : Env → Store → Out}
theorem pd_frz (h : PD X W e f) : PD X W e (xFrz f) := by
  refine weakE h fun σ H Q ⟨w, env, eH, hw, he, hs⟩ => ?_
  refine ⟨w, env, eH, hw, he, SatW.imp (SatW.bind hs) fun w1 d v g1 r1 s1 => ?_⟩
  obtain ⟨w', d', e1, q, _⟩ := frz_sat g1.wd r1 s1
  rw [e1] at q
  exact q
theorem psd_frz {i : Nat} (h : PSD X W s g) : PSD X W s (ySeq g (frzE i)) := by
  refine weakS h fun D σ H ⟨w, env, eH, hw, he, hs⟩ => ⟨w, env, eH, hw, he, ?_⟩
  have hs' : SatS (kt X) W w ((g env w.S).seq (frzE i)) D := hs
  cases o : g env w.S with
  | nx e' S' =>
    rw [o] at hs'
    intro w1 σ1 g1 eS he1
    subst eS
    have hs1 := hs'.pre g1
    rw [Out.seq_nx] at hs1
    unfold frzE at hs1
    cases q : e'[i]? with
    | none => rw [q] at hs1; exact hs1.elim
    | some oo =>
      cases oo with
      | none => rw [q] at hs1; exact hs1.elim
      | some d =>
        rw [q] at hs1
        obtain ⟨v, ev, rv⟩ := he1.2 i d q
        have hs2 := SatS.out (R := RD X.K) (β := V) hs1 he1
        obtain ⟨w2, d2, e2, q2, g2, r2, f2⟩ := frz_sat (T := kt X) g1.wd rv hs2
        have hs3 : SatS (kt X) W w1 (.nx (e'.set i (some d2)) w2.S) D := by
          have hs1' : SatS (kt X) W w1 ((frz d w1.S).out e' fun d' S' => .nx (e'.set i (some d')) S') D := hs1
          rw [f2] at hs1'
          exact hs1'
        have fin := hs3 w2 (σ1.set i (some v)) g2 rfl ((he1.go g2).set r2)
        have es : σ1.set i (some v) = σ1 := by
          apply List.ext_getElem?
          intro k
          rw [List.getElem?_set]
          by_cases hk : i = k
          · subst hk
            rw [if_pos rfl, ev, if_pos (List.getElem?_eq_some_iff.mp ev).1]
          · rw [if_neg hk]
        rw [es, e2] at fin
        exact fin
  | rt d S => rw [o] at hs'; exact hs'
  | bk e S => rw [o] at hs'; exact hs'
  | ct e S => rw [o] at hs'; exact hs'
  | exc x e S => rw [o] at hs'; exact hs'
  | bad => rw [o] at hs'; exact hs'
end

/-! ### o[i] = v -/
def SetD (X : Cx) (g : D → D → D → M Unit) : Prop :=
  ∃ rr : TSet, PSet X rr ∧ ∀ (w : Wl) (x i v : V) (dx di dv : D) (W : WX) (σ : L2.St) (Q : Hp → Prop), Wd X.K w → RD X.K w dx x → RD X.K w di i → RD X.K w dv v → SatW (kt X) W σ (fun _ (_ : Unit) (_ : Unit) => True) w (g dx di dv w.S) (fun w' _ _ => Q w'.H) → rr x i v w.H Q
def setL (x i v : D) (S : Store) : Res Unit := match x, i with
  | .cell n, .int k => match S[n]? with
    | some (.lst l) => match ixN l.length k with
      | some j => .ok () (S.set n (.lst (l.set j v)))
      | none => .bad
    | _ => .bad
  | _, _ => .bad
/-- a list's cell is written -/
theorem cell_write {T : Kt} {w : Wl} {n : Nat} {l l' : List D} {v : V} (hw : Wd T.K w) (r : Rp T.K w.r w.F (.cell n) v) (e : w.S[n]? = some (.lst l)) : ∃ a vs, v = .ref a ∧ w.H a = some (.lst vs) ∧ Rps T.K w.r w.F l vs ∧
    ∀ vs', Rps T.K w.r w.F l' vs' → Go T.K w ⟨w.r, w.F, w.S.set n (.lst l'), upd w.H a (.lst vs')⟩ := by
  unfold Rp at r
  obtain ⟨a, e1, rfl⟩ := r
  obtain ⟨hf, vs, e2, p⟩ := hw.cell n a _ e1 e
  exact ⟨a, vs, rfl, e2, p, fun vs' h => Go.write (c := .lst l') hw e (by simp) e1 (by exact ⟨hf, vs', upd_same, h⟩)⟩
def ySub (f o i : Env → M D) (g : D → D → D → M Unit) : Env → Store → Out := fun e S => (f e S).out e fun v S1 => (o e S1).out e fun x S2 => (i e S2).out e fun k S3 => (g x k v S3).out e fun _ S4 => .nx e S4
section
variable {X : Cx} {W : WX} {e o i : Expr} {f fo fi : Env → M D} {g : D → D → D → M Unit} {pos tpos : Pos}
theorem sd_list : SetD X setL := ⟨_, set_list, fun w x i v dx di dv W σ Q hw r1 r2 r3 hs => by
  unfold setL at hs
  split at hs
  · rename_i n k
    cases en : w.S[n]? with
    | none => simp only [en] at hs; exact hs.elim
    | some c =>
      cases c with
      | lst l =>
        simp only [en] at hs
        cases ej : ixN l.length k with
        | none => simp only [ej] at hs; exact hs.elim
        | some j =>
          simp only [ej] at hs
          obtain ⟨a, vs, rfl, ha, p, go⟩ := cell_write (T := kt X) (l' := l.set j dv) hw r1 en
          exact ⟨a, vs, k, j, rfl, rp_int r2, ha, by rw [p.length]; exact ej, hs _ () (go _ (p.set j r3)) rfl trivial⟩
      | dct _ => simp only [en] at hs; exact hs.elim
      | dead => simp only [en] at hs; exact hs.elim
  · exact hs.elim⟩
theorem psd_sub (sd : SetD X g) (hv : PD X W e f) (ho : PD X W o fo) (hi : PD X W i fi) (hs : swapsWithSole [.Subscript o i tpos] e pos.line X.env = pure false := by rfl) (hw : swappedStores [.Subscript o i tpos] e X.env = pure none := by rfl)
    (h1 : (assignEach [.Subscript o i tpos] X.env).map (·.2) = [assign (.Subscript o i tpos) X.env] := by rfl)
    (ha : ∀ v, assign (.Subscript o i tpos) X.env v = (do
      let ov ← holding [v] (eval o X.env)
      let iv ← holding [v, ov] (eval i X.env)
      standAt tpos
      holding [v, ov, iv] (setItem ov iv v)
      release [v, ov, iv] []) := by intro _; rfl) : PSD X W (.Assign [.Subscript o i tpos] e pos) (ySub f fo fi g) := by
  obtain ⟨rr, ro, hr⟩ := sd
  refine weakS (ps_asg hv (pg_sub ho hi ro ha) hs hw h1) fun D σ H ⟨w, env, eH, hw, he, hs⟩ => ?_
  subst eH
  refine ⟨w, env, rfl, hw, he, SatW.imp (SatS.out hs he) fun w1 d v g1 r1 s1 => ?_⟩
  refine ⟨w1, env, rfl, g1.wd, he.go g1, SatW.imp (SatS.out s1 (he.go g1)) fun w2 d2 v2 g2 r2 s2 => ?_⟩
  refine ⟨w2, env, rfl, g2.wd, (he.go g1).go g2, SatW.imp (SatS.out s2 ((he.go g1).go g2)) fun w3 d3 v3 g3 r3 s3 => ?_⟩
  refine hr w3 v2 v3 v d2 d3 d W σ _ g3.wd (Rp.go g3 r2) r3 (Rp.go (g2.trans g3) r1) (SatW.imp (SatS.out s3 (((he.go g1).go g2).go g3)) fun w4 _ _ g4 _ s4 => ?_)
  exact s4 w4 σ (Go.refl g4.wd) rfl ((((he.go g1).go g2).go g3).go g4)
theorem pget_list : PGet X (fun x y H Q => ∃ p xs i v, x = .ref p ∧ y = .int i ∧ SqL X.K H p xs ∧ 0 ≤ i ∧ atI xs i = some v ∧ Q v H) := by
  intro pins s σ H x y v u Q I rx ry h
  obtain ⟨p, xs, i, z, rfl, rfl, hq, h0, he, q⟩ := h
  cases rx
  obtain ⟨t, rfl⟩ := ry
  obtain ⟨its, r, pl, hz⟩ := I.list hq
  obtain ⟨j, h1, h2, h3, h4, h5⟩ := atI_get he
  obtain ⟨w, ew, rw'⟩ := r.get h2
  have hl := r.length
  have hn := line63
  have hj : i.toNat = j := by
    rw [seqIndex_of h0 h5] at h1
    exact Option.some.inj h1
  exact wpAny_getItem_list pl.isList h0 (by omega) (by rw [hj]; simpa using ew) ⟨z, H, I, rw', q⟩
def yAugSub (o i f : Env → M D) (gi : D → D → M D) : Env → Store → Out := fun e S => (o e S).out e fun x S1 => (i e S1).out e fun k S2 => match k with
  | .int kk => match getL x S2 with
    | some l => if 0 ≤ kk then match atI l kk with
        | some old => (f e S2).out e fun y S4 => (gi old y S4).out e fun z S5 => (setL x (.int kk) z S5).out e fun _ S6 => .nx e S6
        | none => .bad
      else .bad
    | none => .bad
  | _ => .bad
theorem psd_augsub {op : Operator} {gi : D → D → M D} (io : IpD X op gi) (ho : PD X W o fo) (hi : PD X W i fi) (hv : PD X W e f)
    (ha : ∀ ov iv new, augStore i ov iv new = (do holding [new, ov, iv] (setItem ov iv new); release [new, ov, iv] []; pure .next) := by intros; rfl) : PSD X W (.AugAssign (.Subscript o i tpos) op e pos) (yAugSub fo fi f gi) := by
  obtain ⟨rr, ro, hr⟩ := io
  obtain ⟨rs, rso, hrs⟩ := (sd_list (X := X))
  refine weakS (ps_augS ho hi pget_list hv ro rso ha) fun D σ H ⟨w, env, eH, hw, he, hs⟩ => ?_
  subst eH
  refine ⟨w, env, rfl, hw, he, SatW.imp (SatS.out hs he) fun w1 d v g1 r1 s1 => ?_⟩
  refine ⟨w1, env, rfl, g1.wd, he.go g1, SatW.imp (SatS.out s1 (he.go g1)) fun w2 d2 v2 g2 r2 s2 => ?_⟩
  have he2 := (he.go g1).go g2
  cases d2 with
  | int kk =>
    cases hl : getL d w2.S with
    | none => simp only [hl] at s2; exact s2.elim
    | some l =>
      simp only [hl] at s2
      by_cases h0 : 0 ≤ kk
      · rw [if_pos h0] at s2
        cases q : L2.atI l kk with
        | none => simp only [q] at s2; exact s2.elim
        | some old =>
          simp only [q] at s2
          have rd : Rp X.K w2.r w2.F d v := Rp.go g2 r1
          obtain ⟨a, vs, rfl, hq, t⟩ := getL_ok g2.wd rd hl
          obtain ⟨vz, evz, rz⟩ := t.atI q
          refine ⟨a, vs, kk, vz, rfl, rp_int r2, .inl (.inl hq), h0, evz, ?_⟩
          refine ⟨w2, env, rfl, g2.wd, he2, SatW.imp (SatS.out s2 he2) fun w4 d4 v4 g4 r4 s4 => ?_⟩
          refine hr w4 vz v4 old d4 W σ _ g4.wd (Rp.go g4 rz) r4 (SatW.imp (SatS.out s4 (he2.go g4)) fun w5 d5 v5 g5 r5 s5 => ?_)
          refine hrs w5 (.ref a) v2 v5 d (.int kk) d5 W σ _ g5.wd (Rp.go (g4.trans g5) rd) (Rp.go (g4.trans g5) r2) r5 (SatW.imp (SatS.out s5 ((he2.go g4).go g5)) fun w6 _ _ g6 _ s6 => ?_)
          exact s6 w6 σ (Go.refl g6.wd) rfl (((he2.go g4).go g5).go g6)
      · rw [if_neg h0] at s2
        exact s2.elim
  | _ => exact s2.elim
def ipAdd : D → D → M D := iOp always fun i j => .int (i + j)
def ipSub : D → D → M D := iOp always fun i j => .int (i - j)
@[simp] theorem ipAdd_ok {i j : Int} {S : Store} : ipAdd (.int i) (.int j) S = .ok (.int (i + j)) S := rfl
@[simp] theorem ipSub_ok {i j : Int} {S : Store} : ipSub (.int i) (.int j) S = .ok (.int (i - j)) S := rfl
theorem id_add : IpD X .Add ipAdd := ⟨_, ip_add, fun w x y d e W σ Q hw r1 r2 hs => by
  obtain ⟨i, j, h1, h2, _, q⟩ := iOp_sat (gv := fun i j => V.int (i + j)) (fun _ _ _ _ _ => rpi) hw r1 r2 hs
  exact ⟨i, j, h1, h2, q⟩⟩
theorem id_sub : IpD X .Sub ipSub := ⟨_, ip_sub, fun w x y d e W σ Q hw r1 r2 hs => by
  obtain ⟨i, j, h1, h2, _, q⟩ := iOp_sat (gv := fun i j => V.int (i - j)) (fun _ _ _ _ _ => rpi) hw r1 r2 hs
  exact ⟨i, j, h1, h2, q⟩⟩
end

/-! ### methods -/
def isT (T : String) (d : D) (S : Store) : Bool := match d with
  | .str _ => T == "str"
  | .lst _ => T == "list"
  | .cell n => match S[n]? with
    | some (.lst _) => T == "list"
    | some (.dct _) => T == "dict"
    | _ => false
  | _ => false
theorem tyV_of {K : PySem.W.Frag} {w : Wl} {d : D} {v : V} {T : String} (hw : Wd K w) (r : Rp K w.r w.F d v) (h : isT T d w.S = true) : tyV K T v w.H := by
  cases d with
  | str x => cases rp_str r; exact eq_of_beq h
  | lst l =>
    obtain ⟨a, vs, rfl, q, t⟩ := getL_ok hw r rfl
    exact .inl ⟨eq_of_beq h, vs, .inl (.inl q)⟩
  | cell n =>
    unfold isT at h
    cases e : w.S[n]? with
    | none => simp only [e] at h; cases h
    | some c =>
      cases c with
      | lst l =>
        simp only [e] at h
        obtain ⟨a, vs, rfl, q, t⟩ := getL_ok (l := l) hw r (by simp only [getL, e])
        exact .inl ⟨eq_of_beq h, vs, .inl (.inl q)⟩
      | dct l =>
        simp only [e] at h
        unfold Rp at r
        obtain ⟨a, e1, rfl⟩ := r
        obtain ⟨_, vs, e2, p⟩ := hw.cell n a _ e1 e
        exact .inr (.inr (.inl ⟨eq_of_beq h, .inl ⟨vs, e2⟩⟩))
      | dead => simp only [e] at h; cases h
  | non => cases h
  | bl _ => cases h
  | int _ => cases h
  | tup _ => cases h
  | scr _ => cases h
  | raw _ => cases h
  | cls _ => cases h
  | exn _ _ => cases h
def MtD (X : Cx) (id : String) (g : D → List D → M D) : Prop :=
  ∃ rr : V → List V → Hp → VK → Prop, MtR X id rr ∧ ∀ (w : Wl) (x : V) (xs : List V) (d : D) (ds : List D) (W : WX) (σ : L2.St) (Q : VK), Wd X.K w → RD X.K w d x → RDs X.K w ds xs → SatW (kt X) W σ (RD X.K) w (g d ds w.S) (fun w' _ v => Q v w'.H) → rr x xs w.H Q
def xMt (T : String) (g : D → List D → M D) (o : Env → M D) (a : Env → M (List D)) : Env → M D := fun e S => (o e S).bind fun x S1 => if isT T x S1 = true then (a e S1).bind fun l S2 => g x l S2 else .bad
section
variable {X : Cx} {W : WX} {o e : Expr} {es : List Expr} {fo : Env → M D} {h : Env → M (List D)} {name : Str} {apos cpos : Pos} {T id : String} {g : D → List D → M D}
theorem pd_bm0 (pa : PlainAttrs T) (slot : Slot T name id) (hty : typeOf (.builtin id) = pure (.type "method_descriptor")) (hm : MtD X id g) (ho : PD X W o fo)
    (hbase : attributeBase o name X.env (eval o X.env) = eval o X.env := by rfl) (hline : (apos.endLine == cpos.line) = true := by rfl) : PD X W (.Call (.Attribute o name apos) [] [] cpos) (xMt T g fo xNil) := by
  obtain ⟨rr, ro, hr⟩ := hm
  refine weakE (pe_bm0 pa slot hty ro ho hbase hline) fun σ H Q ⟨w, env, eH, hw, he, hs⟩ => ?_
  subst eH
  refine ⟨w, env, rfl, hw, he, SatW.imp (SatW.bind hs) fun w1 d v g1 r1 s1 => ?_⟩
  obtain ⟨ht, s1⟩ := satIf s1
  exact ⟨tyV_of g1.wd r1 ht, hr w1 v [] d [] W σ Q g1.wd r1 rps_nil s1⟩
theorem pd_bm (pa : PlainAttrs T) (slot : Slot T name id) (hty : typeOf (.builtin id) = pure (.type "method_descriptor")) (hm : MtD X id g) (ho : PD X W o fo) (ha : PAD X W (e :: es) h)
    (hbase : attributeBase o name X.env (eval o X.env) = eval o X.env := by rfl)
    (hfew : ((backTo cpos (starEach (e :: es) X.env)).all (fun x => !x.1) && (backToKw cpos (keywordEach [] X.env)).all (fun x => x.1.isSome)
      && decide ((e :: es).length + ([] : List Keyword).length + (if ([] : List Keyword).isEmpty then 0 else 1) < 30)) = true := by rfl)
    (hline : (apos.endLine == cpos.line) = true := by rfl) (hs : starEach (e :: es) X.env = (false, eval e X.env) :: starEach es X.env := by rfl) (hplain : (backTo cpos (starEach es X.env)).any (·.1) = false := by rfl) :
    PD X W (.Call (.Attribute o name apos) (e :: es) [] cpos) (xMt T g fo h) := by
  obtain ⟨rr, ro, hr⟩ := hm
  refine weakE (pe_bm pa slot hty ro ho ha hbase hfew hline hs hplain) fun σ H Q ⟨w, env, eH, hw, he, hs⟩ => ?_
  subst eH
  refine ⟨w, env, rfl, hw, he, SatW.imp (SatW.bind hs) fun w1 d v g1 r1 s1 => ?_⟩
  obtain ⟨ht, s1⟩ := satIf s1
  refine ⟨tyV_of g1.wd r1 ht, w1, env, rfl, g1.wd, he.go g1, SatW.imp (SatW.bind s1) fun w2 d2 v2 g2 r2 s2 => ?_⟩
  exact hr w2 v v2 d d2 W σ Q g2.wd (Rp.go g2 r1) r2 s2
end
/-- the list in a cell -/
def cellL (d : D) (S : Store) : Option (Nat × List D) := match d with
  | .cell n => match S[n]? with
    | some (.lst l) => some (n, l)
    | _ => none
  | _ => none
def mAppend (x : D) (a : List D) (S : Store) : Res D := match a, cellL x S with
  | [y], some (n, l) => if l.length < 16000000 then .ok .non (S.set n (.lst (l ++ [y]))) else .bad
  | _, _ => .bad
def mClear (x : D) (a : List D) (S : Store) : Res D := match a, cellL x S with
  | [], some (n, _) => .ok .non (S.set n (.lst []))
  | _, _ => .bad
def mExtend (x : D) (a : List D) (S : Store) : Res D := match a, cellL x S with
  | [.lst z], some (n, l) => if l.length + z.length ≤ 16000000 then .ok .non (S.set n (.lst (l ++ z))) else .bad
  | _, _ => .bad
theorem cellL_eq {d : D} {S : Store} {n : Nat} {l : List D} (h : cellL d S = some (n, l)) : d = .cell n ∧ S[n]? = some (.lst l) := by
  unfold cellL at h
  split at h
  · split at h
    · rename_i k l' e
      cases h
      exact ⟨rfl, e⟩
    · cases h
  · cases h
section
variable {X : Cx}
theorem md_append : MtD X "list.append" mAppend := ⟨_, mt_append, fun w x xs d ds W σ Q hw r1 r2 hs => by
  unfold mAppend at hs
  split at hs
  · rename_i y n l hc
    obtain ⟨rfl, en⟩ := cellL_eq hc
    obtain ⟨hl, hs⟩ := satIf hs
    obtain ⟨v, rfl, rv⟩ := one_inv r2
    obtain ⟨a, vs, rfl, ha, p, go⟩ := cell_write (T := kt X) (l' := l ++ [y]) hw r1 en
    refine ⟨a, vs, v, rfl, rfl, ha, by rw [p.length]; exact Nat.lt_of_lt_of_le hl (line16 (Nat.le_refl _)), ?_⟩
    exact hs _ V.non (go _ (p.append (rps_cons rv rps_nil))) rfl rpn
  · exact hs.elim⟩
theorem md_clear : MtD X "list.clear" mClear := ⟨_, mt_clear, fun w x xs d ds W σ Q hw r1 r2 hs => by
  unfold mClear at hs
  split at hs
  · rename_i n l hc
    obtain ⟨rfl, en⟩ := cellL_eq hc
    obtain ⟨a, vs, rfl, ha, p, go⟩ := cell_write (T := kt X) (l' := []) hw r1 en
    have e0 := r2.nil_inv
    exact ⟨a, vs, rfl, e0, ha, hs _ V.non (go _ rps_nil) rfl rpn⟩
  · exact hs.elim⟩
end
end
end Dv
/-! # Dv7: a comprehension given to a name; the end of a law -/
namespace Dv
open PySem PySem.Spec PyProof.Rows L2
section
variable {X : Cx} {W : WX} {elt tg iter : Expr} {ifs : List Expr} {scope : Scope} {own : List (Str × Nat)} {pos spos py : Pos} {mk : List D → M D} {src : Env → M Src} {gV : TG} {gE : D → Env → Option Env} {c : Env → M Bool} {f : Env → M D} {i : Nat} {y : Str}
theorem set_read {t : TE} (ht : ∀ σ H Q, tD (kt X) W f σ H Q → t σ H Q) {D : Ends} {σ : L2.St} {H : Hp} (h : sD (kt X) W (ySet i f) D σ H) : tAsg t (gName i) D σ H := by
  obtain ⟨w, env, eH, hw, he, hs⟩ := h
  refine ht σ H (fun x H1 => gName i x σ H1 D.nx) ⟨w, env, eH, hw, he, SatW.imp (SatS.out hs he) fun w1 d v g1 r1 s1 => ?_⟩
  exact s1 w1 _ (Go.refl g1.wd) rfl ((he.go g1).set r1)
theorem psd_setLc (m : Mk mk) (tgd : TgD (kt X) (own.map (·.2)) gV gE) (hc : X.calm = true) (hN : X.N.Nodup) (hsw : swapsWith (.ListComp elt [⟨tg, iter, [], 0⟩] scope pos) (some (.Name y py)) spos.line X.env = pure true) (hi : PID X W tg iter src) (ok : BlkOk X.N X.env.scope scope own)
    (hg : ∀ (s : Shared) (H : Hp) (C : Addr) (cl : List (Str × Addr)) (fp : List Addr), PG (X.blk s H scope (compEnvC scope cl C X.env) fp) tg gV)
    (he : ∀ (s : Shared) (H : Hp) (C : Addr) (cl : List (Str × Addr)) (fp : List Addr), PD (X.blk s H scope (compEnvC scope cl C X.env) fp) W0 elt f) (hy : X.N[i]? = some y := by rfl) (hyl : X.env.scope.names.lookup y = some .local := by rfl) (hs : ∀ x, foldedSetIterable iter X.env x = pure x := by intro _; rfl) :
    PSD X W (.Assign [.Name y py] (.ListComp elt [⟨tg, iter, [], 0⟩] scope pos) spos) (ySet i (xLc mk src gE cYes f (own.map (·.2)))) :=
  weakS (ps_setLc (i := i) (te := tD (kt X) W0 f) hc hN hy hyl hsw hi ok hg (fun _ _ _ _ _ => pts_nil) (fun s H C cl fp => show PE _ elt (tD (kt X) W0 f) from he s H C cl fp) hs) fun D σ H => set_read fun σ H Q => lc_read m tgd fun σ H Q ⟨w, env, eH, hw, he, hs⟩ => by
    subst eH
    exact SatW.here (d := true) (v := true) hs hw rfl
theorem psd_setLcIf {t : Expr} (m : Mk mk) (tgd : TgD (kt X) (own.map (·.2)) gV gE) (hc : X.calm = true) (hN : X.N.Nodup) (hsw : swapsWith (.ListComp elt [⟨tg, iter, [t], 0⟩] scope pos) (some (.Name y py)) spos.line X.env = pure true) (hi : PID X W tg iter src) (ok : BlkOk X.N X.env.scope scope own)
    (hg : ∀ (s : Shared) (H : Hp) (C : Addr) (cl : List (Str × Addr)) (fp : List Addr), PG (X.blk s H scope (compEnvC scope cl C X.env) fp) tg gV)
    (ht : ∀ (s : Shared) (H : Hp) (C : Addr) (cl : List (Str × Addr)) (fp : List Addr), PTD (X.blk s H scope (compEnvC scope cl C X.env) fp) W0 t c)
    (he : ∀ (s : Shared) (H : Hp) (C : Addr) (cl : List (Str × Addr)) (fp : List Addr), PD (X.blk s H scope (compEnvC scope cl C X.env) fp) W0 elt f) (hy : X.N[i]? = some y := by rfl) (hyl : X.env.scope.names.lookup y = some .local := by rfl) (hs : ∀ x, foldedSetIterable iter X.env x = pure x := by intro _; rfl) :
    PSD X W (.Assign [.Name y py] (.ListComp elt [⟨tg, iter, [t], 0⟩] scope pos) spos) (ySet i (xLc mk src gE c f (own.map (·.2)))) :=
  weakS (ps_setLc (i := i) (te := tD (kt X) W0 f) (tt := tDB (kt X) W0 c) hc hN hy hyl hsw hi ok hg (fun s H C cl fp => pts_one (show PT _ t (tDB (kt X) W0 c) from ht s H C cl fp)) (fun s H C cl fp => show PE _ elt (tD (kt X) W0 f) from he s H C cl fp) hs) fun D σ H => set_read fun σ H Q => lc_read m tgd fun σ H Q h => h
end

/-! ### the law's end -/
theorem rps_scr {K : PySem.W.Frag} {r : List Addr} {F : Hp} : ∀ ns : List Int, Rps K r F (ns.map D.int) (ns.map V.int) := rps_ints
/-- the bits of the script's numbers -/
def Bits (ns : List Int) : Prop := ∀ z ∈ ns, Builtin.Int.intBits z ≤ 1048576
def spLaw (K : PySem.W.Frag) : Sp := fun vs H Q _ => ∃ (a : Addr) (ns : List Int), vs = [.ref a] ∧ SqL K H a (ns.map V.int) ∧ ns.length ≤ 63 ∧ Bits ns ∧ ∀ H', Q (.bl true) H'
def LawTrue (f : List D → M D) : Prop := ∀ ns : List Int, ns.length ≤ 63 → Bits ns → ∃ S', f [.scr (ns.map D.int)] [] = .ok (.bl true) S'
theorem law_imp {K : PySem.W.Frag} {mg : Str → Option Value} {f : List D → M D} (ht : LawTrue f) (vs : List V) (H : Hp) (Q : VK) (E : XK) (h : spLaw K vs H Q E) : spD ⟨K, mg⟩ f vs H Q E := by
  obtain ⟨a, ns, rfl, hS, hl, hb, q⟩ := h
  obtain ⟨S', hf⟩ := ht ns hl hb
  refine ⟨⟨[], H, [], H⟩, [.scr (ns.map D.int)], rfl, ⟨rfl, Same.refl _, fun n a c e _ => by simp at e, fun n m a e => by simp at e⟩, rps_cons ?_ rps_nil, ?_⟩
  · unfold Rp
    exact ⟨a, _, rfl, hS, rps_ints ns⟩
  · show SatW ⟨K, mg⟩ _ [] (RD K) _ (f [.scr (ns.map D.int)] []) _
    rw [hf]
    intro w' v g e r
    have ev := rp_bl r
    subst ev
    exact q _
theorem law_sp (K : PySem.W.Frag) (H : Hp) (a : Addr) (ns : List Int) (hl : ns.length ≤ 63) (hb : ∀ z ∈ ns, Builtin.Int.intBits z ≤ 1048576) (hS : SqL K H a (ns.map V.int)) : spLaw K [.ref a] H (fun v _ => v = .bl true) fun _ _ _ => False := ⟨a, ns, rfl, hS, hl, hb, fun _ => rfl⟩
theorem cx_end {P : Program} {w : World} {H : Hp} {s : Shared} {e : Value} {s' : Shared} (h : L2.CX P w [] H s (fun _ _ _ => False) e s') : False := by
  obtain ⟨_, _, _, _, _, _, _, _, _, _, _, _, z⟩ := h
  exact z.elim
end Dv
/-! # Dv8: reckoning with mirrors -/
namespace Dv
open PySem PySem.Spec PyProof.Rows L2

def En0 {α : Type} (x : Res α) (P : α → Store → Prop) : Prop := match x with
  | .ok a S => P a S
  | _ => False
structure Pst where
  nx : Env → Store → Prop := fun _ _ => False
  rt : D → Store → Prop := fun _ _ => False
  bk : Env → Store → Prop := fun _ _ => False
  ct : Env → Store → Prop := fun _ _ => False
def EnO0 (o : Out) (Q : Pst) : Prop := match o with
  | .nx e S => Q.nx e S
  | .rt d S => Q.rt d S
  | .bk e S => Q.bk e S
  | .ct e S => Q.ct e S
  | _ => False
section
variable {α β : Type} {x : Res α} {a : α} {S : Store} {P : α → Store → Prop} {Q : Pst} {e : Env} {d : D}
@[simp] theorem en0_ok : En0 (.ok a S) P = P a S := rfl
@[simp] theorem en0_bad : En0 (.bad : Res α) P = False := rfl
@[simp] theorem en0_exc {y : Exn} : En0 (.exc y S : Res α) P = False := rfl
@[simp] theorem en0_bind {k : α → Store → Res β} {P : β → Store → Prop} : En0 (x.bind k) P = En0 x (fun a S => En0 (k a S) P) := by cases x <;> rfl
theorem En0.imp {P' : α → Store → Prop} (h : En0 x P) (q : ∀ a S, P a S → P' a S) : En0 x P' := by
  cases x with
  | ok a S => exact q a S h
  | _ => exact h
theorem en0_eq {v : α} : En0 x (fun a S' => a = v ∧ S' = S) ↔ x = .ok v S := by
  cases x with
  | ok a S' => exact ⟨fun h => by rw [h.1, h.2], fun h => by cases h; exact ⟨rfl, rfl⟩⟩
  | exc y S' => exact ⟨fun h => h.elim, fun h => by cases h⟩
  | bad => exact ⟨fun h => h.elim, fun h => by cases h⟩
theorem En0.get (h : En0 x P) : ∃ a S, x = .ok a S ∧ P a S := by
  cases x with
  | ok a S => exact ⟨a, S, rfl, h⟩
  | exc y S' => exact h.elim
  | bad => exact h.elim
@[simp] theorem en0_if {c : Prop} [Decidable c] : En0 (if c then x else .bad) P = (c ∧ En0 x P) := by
  by_cases h : c
  · rw [if_pos h]; simp [h]
  · rw [if_neg h]; simp [h]
@[simp] theorem en0_if' {c : Prop} [Decidable c] : En0 (if c then .bad else x) P = (¬ c ∧ En0 x P) := by
  by_cases h : c
  · rw [if_pos h]; simp [h]
  · rw [if_neg h]; simp [h]
theorem en0_ite {c : Prop} [Decidable c] {y : Res α} (h1 : c → En0 x P) (h2 : ¬ c → En0 y P) : En0 (if c then x else y) P := by
  by_cases h : c
  · rw [if_pos h]; exact h1 h
  · rw [if_neg h]; exact h2 h
@[simp] theorem eno0_nx : EnO0 (.nx e S) Q = Q.nx e S := rfl
@[simp] theorem eno0_rt : EnO0 (.rt d S) Q = Q.rt d S := rfl
@[simp] theorem eno0_bk : EnO0 (.bk e S) Q = Q.bk e S := rfl
@[simp] theorem eno0_ct : EnO0 (.ct e S) Q = Q.ct e S := rfl
@[simp] theorem eno0_bad : EnO0 .bad Q = False := rfl
@[simp] theorem eno0_out {k : α → Store → Out} : EnO0 (x.out e k) Q = En0 x (fun a S => EnO0 (k a S) Q) := by cases x <;> rfl
@[simp] theorem eno0_seq {o : Out} {k : Env → Store → Out} : EnO0 (o.seq k) Q = EnO0 o { Q with nx := fun e S => EnO0 (k e S) Q } := by cases o <;> rfl
theorem EnO0.imp {o : Out} {Q' : Pst} (h : EnO0 o Q) (h1 : ∀ e S, Q.nx e S → Q'.nx e S) (h2 : ∀ e S, Q.rt e S → Q'.rt e S) (h3 : ∀ e S, Q.bk e S → Q'.bk e S) (h4 : ∀ e S, Q.ct e S → Q'.ct e S) : EnO0 o Q' := by
  cases o with
  | nx e S => exact h1 _ _ h
  | rt e S => exact h2 _ _ h
  | bk e S => exact h3 _ _ h
  | ct e S => exact h4 _ _ h
  | exc x e S => exact h
  | bad => exact h
theorem eno0_ite {c : Prop} [Decidable c] {o p : Out} (h1 : c → EnO0 o Q) (h2 : ¬ c → EnO0 p Q) : EnO0 (if c then o else p) Q := by
  by_cases h : c
  · rw [if_pos h]; exact h1 h
  · rw [if_neg h]; exact h2 h
end
/-! ### the combinators, laid open -/
section
variable {oo : Option D} {ll : Env} {S : Store} {d : D} {f g : Env → M D} {h : Env → M (List D)} {k k' : Env → M Bool} {y y' : Env → Store → Out}
@[simp] theorem xVar_app {i : Nat} : xVar i (oo :: ll) S = match (oo :: ll)[i]? with | some (some d) => .ok d S | _ => .bad := rfl
@[simp] theorem xC_app : xC d (oo :: ll) S = .ok d S := rfl
@[simp] theorem xOp_app {o : D → D → M D} : xOp o f g (oo :: ll) S = (f (oo :: ll) S).bind fun x S1 => (g (oo :: ll) S1).bind fun y S2 => o x y S2 := rfl
@[simp] theorem xUn_app {o : D → M D} : xUn o f (oo :: ll) S = (f (oo :: ll) S).bind fun x S1 => o x S1 := rfl
@[simp] theorem xNil_app : xNil (oo :: ll) S = .ok [] S := rfl
@[simp] theorem xCons_app : xCons f h (oo :: ll) S = (f (oo :: ll) S).bind fun x S1 => (h (oo :: ll) S1).bind fun y S2 => .ok (x :: y) S2 := rfl
@[simp] theorem xFn_app {o : List D → M D} : xFn o h (oo :: ll) S = (h (oo :: ll) S).bind fun x S1 => o x S1 := rfl
@[simp] theorem xTup_app : xTup h (oo :: ll) S = (h (oo :: ll) S).bind fun l S1 => if l.length ≤ 1000 then .ok (.tup l) S1 else .bad := rfl
@[simp] theorem xLst_app {mk : List D → M D} : xLst mk h (oo :: ll) S = (h (oo :: ll) S).bind fun l S1 => if l.length ≤ 1000 then mk l S1 else .bad := rfl
@[simp] theorem mkF_app {l : List D} : mkF l S = .ok (.lst l) S := rfl
@[simp] theorem mkC_app {l : List D} : mkC l S = .ok (.cell S.length) (S ++ [.lst l]) := rfl
@[simp] theorem xTru_app : xTru f (oo :: ll) S = (f (oo :: ll) S).bind tru := rfl
@[simp] theorem xIsT_app : xIsT f (oo :: ll) S = (f (oo :: ll) S).bind fun d S1 => match d with | .bl b => .ok b S1 | _ => .bad := rfl
@[simp] theorem xNot_app : xNot k (oo :: ll) S = (k (oo :: ll) S).bind fun b S1 => .ok (!b) S1 := rfl
@[simp] theorem xAnd_app : xAnd k k' (oo :: ll) S = (k (oo :: ll) S).bind fun b S1 => if b then k' (oo :: ll) S1 else .ok false S1 := rfl
@[simp] theorem xOr_app : xOr k k' (oo :: ll) S = (k (oo :: ll) S).bind fun b S1 => if b then .ok true S1 else k' (oo :: ll) S1 := rfl
@[simp] theorem xAndV_app : xAndV f g (oo :: ll) S = (f (oo :: ll) S).bind fun d S1 => match d with | .bl true => g (oo :: ll) S1 | .bl false => .ok (.bl false) S1 | _ => .bad := rfl
@[simp] theorem xOrV_app : xOrV f g (oo :: ll) S = (f (oo :: ll) S).bind fun d S1 => match d with | .bl true => .ok (.bl true) S1 | .bl false => g (oo :: ll) S1 | _ => .bad := rfl
@[simp] theorem xNotV_app : xNotV f (oo :: ll) S = (f (oo :: ll) S).bind fun d S1 => match d with | .bl b => .ok (.bl (!b)) S1 | _ => .bad := rfl
@[simp] theorem xIf_app : xIf k f g (oo :: ll) S = (k (oo :: ll) S).bind fun b S1 => if b then f (oo :: ll) S1 else g (oo :: ll) S1 := rfl
@[simp] theorem xFrz_app : xFrz f (oo :: ll) S = (f (oo :: ll) S).bind frz := rfl
@[simp] theorem yNil_app : yNil (oo :: ll) S = .nx (oo :: ll) S := rfl
@[simp] theorem ySeq_app : ySeq y y' (oo :: ll) S = (y (oo :: ll) S).seq y' := rfl
@[simp] theorem yBreak_app : yBreak (oo :: ll) S = .bk (oo :: ll) S := rfl
@[simp] theorem yCont_app : yCont (oo :: ll) S = .ct (oo :: ll) S := rfl
@[simp] theorem yExpr_app : yExpr f (oo :: ll) S = (f (oo :: ll) S).out (oo :: ll) fun _ S1 => .nx (oo :: ll) S1 := rfl
@[simp] theorem yRet_app : yRet f (oo :: ll) S = (f (oo :: ll) S).out (oo :: ll) fun d S1 => .rt d S1 := rfl
@[simp] theorem yRetN_app : yRetN (oo :: ll) S = .rt .non S := rfl
@[simp] theorem yIf_app : yIf k y y' (oo :: ll) S = (k (oo :: ll) S).out (oo :: ll) fun b S1 => if b then y (oo :: ll) S1 else y' (oo :: ll) S1 := rfl
@[simp] theorem ySet_app {i : Nat} : ySet i f (oo :: ll) S = (f (oo :: ll) S).out (oo :: ll) fun d S1 => .nx ((oo :: ll).set i (some d)) S1 := rfl
@[simp] theorem yAsg_app {q : D → Env → Store → Out} : yAsg f q (oo :: ll) S = (f (oo :: ll) S).out (oo :: ll) fun d S1 => q d (oo :: ll) S1 := rfl
@[simp] theorem yPar_app {i j : Nat} : yPar i j h (oo :: ll) S = (h (oo :: ll) S).out (oo :: ll) fun l S1 => match l with | [a, b] => .nx (((oo :: ll).set i (some a)).set j (some b)) S1 | _ => .bad := rfl
@[simp] theorem yFor_app {s : Env → M Src} {q : D → Env → Store → Out} : yFor s q y (oo :: ll) S = (s (oo :: ll) S).out (oo :: ll) fun s S1 => forL s.chk q y s.items (oo :: ll) S1 := rfl
@[simp] theorem iSrc_app {q : D → Store → Res Src} : iSrc q f (oo :: ll) S = (f (oo :: ll) S).bind q := rfl
@[simp] theorem iSrcA_app {q : List D → Store → Res Src} : iSrcA q h (oo :: ll) S = (h (oo :: ll) S).bind q := rfl
@[simp] theorem srcL_lst {l : List D} : srcL (.lst l) S = .ok ⟨l, fun _ => True⟩ S := rfl
@[simp] theorem srcL_scr {l : List D} : srcL (.scr l) S = .ok ⟨l, fun _ => True⟩ S := rfl
@[simp] theorem srcT_tup {l : List D} : srcT (.tup l) S = .ok ⟨l, fun _ => True⟩ S := rfl
theorem srcR1_app {j : Int} : srcR1 [.int j] S = if rng62 j then .ok ⟨irange 0 j.toNat, fun _ => True⟩ S else .bad := rfl
theorem srcR2_app {i j : Int} : srcR2 [.int i, .int j] S = if rng62 i ∧ rng62 j then .ok ⟨irange i (j - i).toNat, fun _ => True⟩ S else .bad := rfl
@[simp] theorem gN_app {i : Nat} : gN i d (oo :: ll) S = .nx ((oo :: ll).set i (some d)) S := rfl
@[simp] theorem gT_app {n : Nat} {l : List D} {q : List D → Env → Store → Out} : gT n q (.tup l) (oo :: ll) S = if l.length = n then q l (oo :: ll) S else .bad := rfl
@[simp] theorem gsNil_app : gsNil [] (oo :: ll) S = .nx (oo :: ll) S := rfl
@[simp] theorem gsCons_app {l : List D} {q : D → Env → Store → Out} {q' : List D → Env → Store → Out} : gsCons q q' (d :: l) (oo :: ll) S = (q d (oo :: ll) S).seq (q' l) := rfl
@[simp] theorem xLc_app {mk : List D → M D} {s : Env → M Src} {q : D → Env → Option Env} {vs : List Nat} : xLc mk s q k f vs (oo :: ll) S = (s (oo :: ll) S).bind fun s S1 => (lcL s.chk q k f (wipeE (oo :: ll) vs) s.items [] S1).bind fun l S2 => mk l S2 := rfl
@[simp] theorem eN_app {i : Nat} : eN i d (oo :: ll) = some ((oo :: ll).set i (some d)) := rfl
@[simp] theorem eT2_app {i j : Nat} {a b : D} : eT2 i j (.tup [a, b]) (oo :: ll) = some (((oo :: ll).set i (some a)).set j (some b)) := rfl
@[simp] theorem eT3_app {i j m : Nat} {a b c : D} : eT3 i j m (.tup [a, b, c]) (oo :: ll) = some ((((oo :: ll).set i (some a)).set j (some b)).set m (some c)) := rfl
@[simp] theorem cYes_app : cYes (oo :: ll) S = .ok true S := rfl
@[simp] theorem wipeE_nil : wipeE (oo :: ll) [] = (oo :: ll) := rfl
@[simp] theorem wipeE_cons {v : Nat} {vs : List Nat} : wipeE (oo :: ll) (v :: vs) = (wipeE (oo :: ll) vs).set v none := rfl
@[simp] theorem yAug_app {i : Nat} {q : D → D → M D} : yAug i f q (oo :: ll) S = match (oo :: ll)[i]? with | some (some x) => (f (oo :: ll) S).out (oo :: ll) fun y S1 => (q x y S1).out (oo :: ll) fun z S2 => .nx ((oo :: ll).set i (some z)) S2 | _ => .bad := rfl
@[simp] theorem ySub_app {o i : Env → M D} {q : D → D → D → M Unit} : ySub f o i q (oo :: ll) S = (f (oo :: ll) S).out (oo :: ll) fun v S1 => (o (oo :: ll) S1).out (oo :: ll) fun x S2 => (i (oo :: ll) S2).out (oo :: ll) fun k S3 => (q x k v S3).out (oo :: ll) fun _ S4 => .nx (oo :: ll) S4 := rfl
@[simp] theorem xMt_app {T : String} {q : D → List D → M D} : xMt T q f h (oo :: ll) S = (f (oo :: ll) S).bind fun x S1 => if isT T x S1 = true then (h (oo :: ll) S1).bind fun l S2 => q x l S2 else .bad := rfl
@[simp] theorem xSl_app {mk : List D → M D} {lo hi : Env → M (Option Int)} : xSl mk f lo hi (oo :: ll) S = (f (oo :: ll) S).bind fun d S1 => (lo (oo :: ll) S1).bind fun a S2 => (hi (oo :: ll) S2).bind fun b S3 => slD mk d a b S3 := rfl
@[simp] theorem oNone_app : oNone (oo :: ll) S = .ok none S := rfl
@[simp] theorem oSome_app : oSome f (oo :: ll) S = (f (oo :: ll) S).bind fun d S1 => match d with | .int i => .ok (some i) S1 | _ => .bad := rfl
@[simp] theorem bLen_lst {l : List D} : bLen [.lst l] S = .ok (.int l.length) S := rfl
@[simp] theorem bLen_scr {l : List D} : bLen [.scr l] S = .ok (.int l.length) S := rfl
@[simp] theorem bLen_tup {l : List D} : bLen [.tup l] S = .ok (.int l.length) S := rfl
@[simp] theorem bAbs_app {i : Int} : bAbs [.int i] S = .ok (.int (if i < 0 then -i else i)) S := rfl
@[simp] theorem bMin_two {i j : Int} : bMin [.int i, .int j] S = .ok (.int (if j < i then j else i)) S := rfl
@[simp] theorem bMax_two {i j : Int} : bMax [.int i, .int j] S = .ok (.int (if j > i then j else i)) S := rfl
@[simp] theorem bInt_int {i : Int} : bInt [.int i] S = .ok (.int i) S := rfl
@[simp] theorem bInt_bl {b : Bool} : bInt [.bl b] S = .ok (.int (if b then 1 else 0)) S := rfl
@[simp] theorem dIx_scr {l : List D} {i : Int} : dIx (.scr l) (.int i) S = match L2.atI l i with | some d => .ok d S | none => .bad := rfl
@[simp] theorem tru_bl {b : Bool} : tru (.bl b) S = .ok b S := rfl
@[simp] theorem bIsi_int {i : Int} : bIsi [.int i, .raw (.ty "int")] S = .ok (.bl true) S := by simp [bIsi, tyOf]
@[simp] theorem bIsi_intb {i : Int} : bIsi [.int i, .raw (.ty "bool")] S = .ok (.bl false) S := by simp [bIsi, tyOf]
@[simp] theorem bIsi_tup {l : List D} : bIsi [.tup l, .raw (.ty "tuple")] S = .ok (.bl true) S := by simp [bIsi, tyOf]
@[simp] theorem bIsi_lst {l : List D} : bIsi [.lst l, .raw (.ty "list")] S = .ok (.bl true) S := by simp [bIsi, tyOf]
end
theorem sat_of {c : Prop} (h : c) : c = True := eq_true h

/-! ### a def -/
theorem en0_fn {np ns : Nat} {keep : Bool} {body : Env → Store → Out} {ds : List D} {S : Store} {P : D → Store → Prop} (hl : ds.length = np)
    (h : EnO0 (body (ds.map some ++ List.replicate (ns - np) none) S) { nx := fun _ S' => En0 (fin keep S.length .non S') P, rt := fun d S' => En0 (fin keep S.length d S') P }) : En0 (fnD np ns keep body ds S) P := by
  unfold fnD
  rw [if_pos hl]
  cases o : body (ds.map some ++ List.replicate (ns - np) none) S with
  | nx e S' => rw [o] at h; exact h
  | rt e S' => rw [o] at h; exact h
  | bk e S' => rw [o] at h; exact h.elim
  | ct e S' => rw [o] at h; exact h.elim
  | exc x e S' => rw [o] at h; exact h.elim
  | bad => rw [o] at h; exact h.elim
@[simp] theorem fin_same {keep : Bool} {d : D} {S : Store} : fin keep S.length d S = .ok d S := by simp [fin]
@[simp] theorem fin_zero {keep : Bool} {d : D} : fin keep 0 d [] = .ok d [] := by simp [fin]
theorem fin_len {keep : Bool} {n : Nat} {d : D} {S : Store} (h : S.length = n) : fin keep n d S = .ok d S := by simp [fin, h]

/-! ### loops -/
theorem en0_for {g : D → Env → Store → Out} {b : Env → Store → Out} {items : List D} {e : Env} {S : Store} {Q : Pst} (I : Nat → Env → Store → Prop) (h0 : I 0 e S)
    (hs : ∀ (i : Nat) d e S, items[i]? = some d → I i e S → EnO0 (g d e S) { nx := fun e1 S1 => EnO0 (b e1 S1) { nx := I (i + 1), ct := I (i + 1), bk := Q.nx, rt := Q.rt } })
    (hd : ∀ e S, I items.length e S → Q.nx e S) : EnO0 (forL (fun _ => True) g b items e S) Q := by
  have go : ∀ (l : List D) (i : Nat) (e : Env) (S : Store), items.drop i = l → i ≤ items.length → I i e S → EnO0 (forL (fun _ => True) g b l e S) Q := by
    intro l
    induction l with
    | nil =>
      intro i e S hl hi h
      rw [forL, if_pos trivial]
      have e1 := drop_nil hl hi
      subst e1
      exact hd e S h
    | cons d l ih =>
      intro i e S hl hi h
      obtain ⟨h1, h2⟩ := drop_get hl
      have st := hs i d e S h1 h
      have hlt : i < items.length := (List.getElem?_eq_some_iff.mp h1).1
      rw [forL, if_pos trivial]
      cases o : g d e S with
      | nx e1 S1 =>
        rw [o] at st
        have st' : EnO0 (b e1 S1) { nx := I (i + 1), ct := I (i + 1), bk := Q.nx, rt := Q.rt } := st
        show EnO0 (match b e1 S1 with
          | .nx e' S' => forL (fun _ => True) g b l e' S'
          | .ct e' S' => forL (fun _ => True) g b l e' S'
          | .bk e' S' => .nx e' S'
          | o => o) Q
        cases ob : b e1 S1 with
        | nx e2 S2 => rw [ob] at st'; exact ih (i + 1) e2 S2 h2 hlt st'
        | ct e2 S2 => rw [ob] at st'; exact ih (i + 1) e2 S2 h2 hlt st'
        | bk e2 S2 => rw [ob] at st'; exact st'
        | rt d2 S2 => rw [ob] at st'; exact st'
        | exc x e2 S2 => rw [ob] at st'; exact st'.elim
        | bad => rw [ob] at st'; exact st'.elim
      | rt _ _ => rw [o] at st; exact st.elim
      | bk _ _ => rw [o] at st; exact st.elim
      | ct _ _ => rw [o] at st; exact st.elim
      | exc _ _ _ => rw [o] at st; exact st.elim
      | bad => rw [o] at st; exact st.elim
  exact go items 0 e S rfl (Nat.zero_le _) h0
theorem en0_while {c : Env → M Bool} {b : Env → Store → Out} {Q : Pst} (I : Env → Store → Prop) (m : Env → Store → Nat)
    (hs : ∀ e S, I e S → En0 (c e S) fun t S1 => (t = true → EnO0 (b e S1) { nx := fun e' S' => I e' S' ∧ m e' S' < m e S, ct := fun e' S' => I e' S' ∧ m e' S' < m e S, bk := Q.nx, rt := Q.rt }) ∧ (t = false → Q.nx e S1)) {e : Env} {S : Store} (h0 : I e S) : EnO0 (yWhile c b e S) Q := by
  have go : ∀ (n : Nat) (e : Env) (S : Store), m e S ≤ n → I e S → EnO0 (yWhile c b e S) Q := by
    intro n
    induction n with
    | zero =>
      intro e S hm h
      have st := hs e S h
      cases q : c e S with
      | ok t S1 =>
        rw [q] at st
        cases t with
        | false => rw [yWhile_stop q]; exact st.2 rfl
        | true =>
          rw [yWhile_go q]
          have s2 := st.1 rfl
          cases o : b e S1 with
          | nx e1 S2 => rw [o] at s2; have z : m e1 S2 < m e S := s2.2; omega
          | ct e1 S2 => rw [o] at s2; have z : m e1 S2 < m e S := s2.2; omega
          | bk e1 S2 => rw [o] at s2; exact s2
          | rt d S2 => rw [o] at s2; exact s2
          | exc x e1 S2 => rw [o] at s2; exact s2.elim
          | bad => rw [o] at s2; exact s2.elim
      | exc x S1 => rw [q] at st; exact st.elim
      | bad => rw [q] at st; exact st.elim
    | succ n ih =>
      intro e S hm h
      have st := hs e S h
      cases q : c e S with
      | ok t S1 =>
        rw [q] at st
        cases t with
        | false => rw [yWhile_stop q]; exact st.2 rfl
        | true =>
          rw [yWhile_go q]
          have s2 := st.1 rfl
          cases o : b e S1 with
          | nx e1 S2 => rw [o] at s2; exact ih e1 S2 (by have z : m e1 S2 < m e S := s2.2; omega) s2.1
          | ct e1 S2 => rw [o] at s2; exact ih e1 S2 (by have z : m e1 S2 < m e S := s2.2; omega) s2.1
          | bk e1 S2 => rw [o] at s2; exact s2
          | rt d S2 => rw [o] at s2; exact s2
          | exc x e1 S2 => rw [o] at s2; exact s2.elim
          | bad => rw [o] at s2; exact s2.elim
      | exc x S1 => rw [q] at st; exact st.elim
      | bad => rw [q] at st; exact st.elim
  exact go _ e S (Nat.le_refl _) h0
theorem en0_lc {g : D → Env → Option Env} {c : Env → M Bool} {f : Env → M D} {e0 : Env} {items : List D} {S : Store} {P : List D → Store → Prop} (I : Nat → List D → Store → Prop) (h0 : I 0 [] S)
    (hs : ∀ (i : Nat) d acc S, items[i]? = some d → I i acc S → ∃ e1, g d e0 = some e1 ∧ En0 (c e1 S) fun t S2 => (t = true → En0 (f e1 S2) fun y S3 => acc.length < 16000000 ∧ I (i + 1) (acc ++ [y]) S3) ∧ (t = false → I (i + 1) acc S2))
    (hd : ∀ l S, I items.length l S → P l S) : En0 (lcL (fun _ => True) g c f e0 items [] S) P := by
  have go : ∀ (l : List D) (i : Nat) (acc : List D) (S : Store), items.drop i = l → i ≤ items.length → I i acc S → En0 (lcL (fun _ => True) g c f e0 l acc S) P := by
    intro l
    induction l with
    | nil =>
      intro i acc S hl hi h
      rw [lcL, if_pos trivial]
      have e1 := drop_nil hl hi
      subst e1
      exact hd acc S h
    | cons d l ih =>
      intro i acc S hl hi h
      obtain ⟨h1, h2⟩ := drop_get hl
      have hlt : i < items.length := (List.getElem?_eq_some_iff.mp h1).1
      obtain ⟨e1, he1, st⟩ := hs i d acc S h1 h
      rw [lcL, if_pos trivial]
      simp only [he1]
      cases q : c e1 S with
      | ok t S2 =>
        rw [q] at st
        cases t with
        | false => exact ih (i + 1) acc S2 h2 hlt (st.2 rfl)
        | true =>
          have s2 := st.1 rfl
          simp only
          cases qf : f e1 S2 with
          | ok y S3 =>
            rw [qf] at s2
            have z : acc.length < 16000000 ∧ I (i + 1) (acc ++ [y]) S3 := s2
            simp only
            rw [if_pos z.1]
            exact ih (i + 1) _ S3 h2 hlt z.2
          | exc x S3 => rw [qf] at s2; exact s2.elim
          | bad => rw [qf] at s2; exact s2.elim
      | exc x S1 => rw [q] at st; exact st.elim
      | bad => rw [q] at st; exact st.elim
  exact go items 0 [] S rfl (Nat.zero_le _) h0

/-! ### sizes -/
theorem mulOk_bits {a b : Int} (h : Builtin.Int.intBits a + Builtin.Int.intBits b ≤ 134217728) : IntMulOk a b := by
  unfold IntMulOk
  intro z
  rw [Bool.and_eq_true] at z
  have z2 := z.2
  unfold Builtin.Int.intTooBig at z2
  have z3 := of_decide_eq_true z2
  have e : bitsLine = 134217728 := by decide
  rw [e] at z3
  omega
theorem bits_lt {a : Int} {n : Nat} (h : a.natAbs < 2 ^ n) : Builtin.Int.intBits a ≤ n := by
  unfold Builtin.Int.intBits
  split
  · exact Nat.zero_le _
  · rename_i hz
    have h0 : a.natAbs ≠ 0 := fun z => hz (by simpa using z)
    have := (Nat.log2_lt h0).mpr h
    omega
/-- below 2 ^ n in size -/
def Sz (n : Nat) (a : Int) : Prop := a.natAbs < 2 ^ n
theorem Sz.mulOk {a b : Int} {n m : Nat} (ha : Sz n a) (hb : Sz m b) (h : n + m ≤ 134217728) : IntMulOk a b := mulOk_bits (by have := bits_lt ha; have := bits_lt hb; omega)
theorem Sz.mul {a b : Int} {n m : Nat} (ha : Sz n a) (hb : Sz m b) : Sz (n + m) (a * b) := by
  unfold Sz at *
  rw [Int.natAbs_mul, Nat.pow_add]
  exact Nat.mul_lt_mul'' ha hb
theorem Sz.le {a : Int} {n m : Nat} (ha : Sz n a) (h : n ≤ m) : Sz m a := Nat.lt_of_lt_of_le ha (Nat.pow_le_pow_right (by decide) h)
theorem Sz.add {a b : Int} {n : Nat} (ha : Sz n a) (hb : Sz n b) : Sz (n + 1) (a + b) := by
  unfold Sz at *
  have : 2 ^ (n + 1) = 2 ^ n + 2 ^ n := by rw [Nat.pow_succ]; omega
  omega
theorem Sz.sub {a b : Int} {n : Nat} (ha : Sz n a) (hb : Sz n b) : Sz (n + 1) (a - b) := by
  unfold Sz at *
  have : 2 ^ (n + 1) = 2 ^ n + 2 ^ n := by rw [Nat.pow_succ]; omega
  omega
theorem Sz.neg {a : Int} {n : Nat} (ha : Sz n a) : Sz n (-a) := by
  unfold Sz at *
  omega
theorem Sz.of_le {a b : Int} {n : Nat} (hb : Sz n b) (h : a.natAbs ≤ b.natAbs) : Sz n a := Nat.lt_of_le_of_lt h hb
theorem Sz.log2 {a : Int} {n : Nat} (ha : Sz n a) (h0 : 0 < n) : a.natAbs.log2 < n := PySem.Flt.log2_lt_of h0 ha
theorem Sz.divOk {a b : Int} {n : Nat} (hb : Sz n b) (h : b ≠ 0) (hn : n ≤ 9000) : divOk a b := ⟨h, by
  have h1 : Sz (n + 1) b := hb.le (Nat.le_succ n)
  by_cases h0 : n = 0
  · subst h0
    have : b.natAbs < 1 := hb
    omega
  · have := hb.log2 (Nat.pos_of_ne_zero h0)
    omega⟩
theorem en0_seq {y y' : Env → Store → Out} {e : Env} {S : Store} {Q : Pst} (R : Env → Store → Prop) (h1 : EnO0 (y e S) { Q with nx := R }) (h2 : ∀ e S, R e S → EnO0 (y' e S) Q) : EnO0 (ySeq y y' e S) Q := by
  show EnO0 ((y e S).seq y') Q
  rw [eno0_seq]
  exact h1.imp (fun e S h => h2 e S h) (fun _ _ h => h) (fun _ _ h => h) (fun _ _ h => h)
theorem mulOkL {a b : Int} (h1 : -18446744073709551616 < a) (h2 : a < 18446744073709551616) : IntMulOk a b := .of_left (intBits_le_64 h1 h2)
theorem mulOkR {a b : Int} (h1 : -18446744073709551616 < b) (h2 : b < 18446744073709551616) : IntMulOk a b := .of_right (intBits_le_64 h1 h2)
theorem sz_of {a B : Int} {n : Nat} (h1 : -B < a) (h2 : a < B) (hB : B ≤ 2 ^ n) : Sz n a := by
  unfold Sz
  have : ((2 ^ n : Nat) : Int) = 2 ^ n := by simp
  omega
theorem divOk_lit {i j : Int} (h0 : 0 < j) (h1 : j < 1000000000000000000000000000000000000000000000000000000000000) : divOk i j := Sz.divOk (n := 200) (sz_of (B := 1000000000000000000000000000000000000000000000000000000000000) (by omega) h1 (by decide)) (by omega) (by decide)
theorem fdiv_pos {i j : Int} (h : 0 < j) : i.fdiv j = i / j := Int.fdiv_eq_ediv_of_nonneg i (Int.le_of_lt h)
theorem fmod_pos {i j : Int} (h : 0 < j) : i.fmod j = i % j := Int.fmod_eq_emod_of_nonneg i (Int.le_of_lt h)
theorem atI_map {α β : Type} (g : α → β) (l : List α) (i : Int) : L2.atI (l.map g) i = (L2.atI l i).map g := by
  unfold L2.atI
  rw [List.length_map]
  cases ixN l.length i with
  | none => rfl
  | some j => simp
theorem atI_in {α : Type} {l : List α} {i : Int} (h0 : 0 ≤ i) (h1 : i < l.length) : ∃ z, L2.atI l i = some z ∧ l[i.toNat]? = some z := by
  have hj : i.toNat < l.length := by omega
  refine ⟨l[i.toNat], ?_, List.getElem?_eq_getElem hj⟩
  have q := atI_nat (List.getElem?_eq_getElem hj)
  have e : ((i.toNat : Nat) : Int) = i := by omega
  rw [e] at q
  exact q
theorem atI_mem {α : Type} {l : List α} {i : Int} (h0 : 0 ≤ i) (h1 : i < l.length) : ∃ z ∈ l, L2.atI l i = some z := by
  obtain ⟨z, h, h2⟩ := atI_in h0 h1
  exact ⟨z, List.mem_of_getElem? h2, h⟩
@[simp] theorem atI_zero {α : Type} {a : α} {l : List α} : L2.atI (a :: l) 0 = some a := by
  have : (0 : Int) = ((0 : Nat) : Int) := rfl
  rw [this]
  exact atI_nat rfl
@[simp] theorem atI_one {α : Type} {a b : α} {l : List α} : L2.atI (a :: b :: l) 1 = some b := by
  have : (1 : Int) = ((1 : Nat) : Int) := rfl
  rw [this]
  exact atI_nat rfl
@[simp] theorem atI_two {α : Type} {a b c : α} {l : List α} : L2.atI (a :: b :: c :: l) 2 = some c := by
  have : (2 : Int) = ((2 : Nat) : Int) := rfl
  rw [this]
  exact atI_nat rfl
theorem irange_get {lo : Int} {n i : Nat} {d : D} (h : (irange lo n)[i]? = some d) : d = .int (lo + i) ∧ i < n := by
  unfold irange at h
  rw [List.getElem?_map] at h
  by_cases hi : i < n
  · rw [List.getElem?_range hi] at h
    exact ⟨(Option.some.inj h).symm, hi⟩
  · rw [List.getElem?_eq_none (by simpa using hi)] at h
    cases h
@[simp] theorem irange_length {lo : Int} {n : Nat} : (irange lo n).length = n := by simp [irange]
theorem rng62_of {i : Int} (h1 : -4611686018427387904 ≤ i) (h2 : i < 4611686018427387904) : rng62 i := ⟨by omega, by omega⟩
end Dv
/-! # Dv9: zip, enumerate, reversed; in; more methods; a list unpacked -/
namespace Dv
noncomputable section
open PySem PySem.Spec PyProof.Rows L2

/-! ### a list that stays while it is walked -/
def stL (d : D) (S : Store) : Option (List D × (Store → Prop)) := match d with
  | .lst l => some (l, fun _ => True)
  | .scr l => some (l, fun _ => True)
  | .cell n => match S[n]? with
    | some (.lst l) => some (l, fun S' => S'[n]? = some (.lst l))
    | _ => none
  | _ => none
theorem stL_ok {K : PySem.W.Frag} {w : Wl} {d : D} {v : V} {l : List D} {chk : Store → Prop} (hw : Wd K w) (hr : Rp K w.r w.F d v) (h : stL d w.S = some (l, chk)) :
    ∃ a, v = .ref a ∧ (∃ vs, SqL K w.H a vs ∧ Rps K w.r w.F l vs) ∧ ∀ w1, Go K w w1 → chk w1.S → ∃ vs, SqL K w1.H a vs ∧ Rps K w1.r w1.F l vs := by
  have gen : ∀ (d' : D), d' = d → (∀ w1, Go K w w1 → chk w1.S → getQ d' w1.S = some l) → getQ d' w.S = some l → ∃ a, v = .ref a ∧ (∃ vs, SqL K w.H a vs ∧ Rps K w.r w.F l vs) ∧ ∀ w1, Go K w w1 → chk w1.S → ∃ vs, SqL K w1.H a vs ∧ Rps K w1.r w1.F l vs := by
    intro d' e hq h0
    subst e
    obtain ⟨a, vs, rfl, q, p⟩ := getQ_ok hw hr h0
    refine ⟨a, rfl, ⟨vs, q, p⟩, fun w1 g hc => ?_⟩
    obtain ⟨a', vs', e', q', p'⟩ := getQ_ok g.wd (Rp.go g hr) (hq w1 g hc)
    cases e'
    exact ⟨vs', q', p'⟩
  cases d with
  | lst l' =>
    have e := Option.some.inj h
    cases e
    exact gen _ rfl (fun _ _ _ => rfl) rfl
  | scr l' =>
    have e := Option.some.inj h
    cases e
    exact gen _ rfl (fun _ _ _ => rfl) rfl
  | cell n =>
    unfold stL at h
    cases en : w.S[n]? with
    | none => simp only [en] at h; cases h
    | some c =>
      cases c with
      | lst l' =>
        simp only [en] at h
        have e := Option.some.inj h
        cases e
        refine gen _ rfl (fun w1 g hc => ?_) (by simp only [getQ, getL, en])
        have hc' : w1.S[n]? = some (.lst l) := hc
        simp only [getQ, getL, hc']
      | dct _ => simp only [en] at h; cases h
      | dead => simp only [en] at h; cases h
  | non => cases h
  | bl _ => cases h
  | int _ => cases h
  | str _ => cases h
  | tup _ => cases h
  | raw _ => cases h
  | cls _ => cases h
  | exn _ _ => cases h
def srcZip (l : List D) (S : Store) : Res Src := match l with
  | [a, b] => match stL a S, stL b S with
    | some (x, p), some (y, q) => .ok ⟨(x.zip y).map fun z => .tup [z.1, z.2], fun S' => p S' ∧ q S'⟩ S
    | _, _ => .bad
  | _ => .bad
def srcEnum (l : List D) (S : Store) : Res Src := match l with
  | [a] => match stL a S with
    | some (x, p) => .ok ⟨x.zipIdx.map fun z => .tup [.int z.2, z.1], p⟩ S
    | _ => .bad
  | _ => .bad
def srcRev (l : List D) (S : Store) : Res Src := match l with
  | [a] => match stL a S with
    | some (x, p) => .ok ⟨x.reverse, p⟩ S
    | _ => .bad
  | _ => .bad
section
variable {X : Cx} {W : WX} {e e2 : Expr} {elts : List Expr} {kk : Nat} {tpos pos p : Pos} {h : Env → M (List D)} {tg : Expr}
theorem pid_zip (hm : X.mg "zip" = none) (ha : PAD X W [e, e2] h) (hg : Gl X "zip" := by rfl) (hs : starEach [e, e2] X.env = (false, eval e X.env) :: starEach [e2] X.env := by rfl) (hpl : (backTo pos (starEach [e2] X.env)).any (·.1) = false := by rfl) :
    PID X W (.Tuple elts kk tpos) (.Call (.Name "zip" p) [e, e2] [] pos) (iSrcA srcZip h) := by
  refine weakI (pi_zip hg hm ha hs hpl) fun σ H R ⟨w, env, eH, hw, he, hs⟩ => ?_
  subst eH
  refine ⟨w, env, rfl, hw, he, SatW.imp (SatW.bind hs) fun w1 d v g1 r1 s1 => ?_⟩
  unfold srcZip at s1
  split at s1
  · rename_i a b
    split at s1
    · rename_i x p y q hx hy
      obtain ⟨va, vb, rfl, ra, rb⟩ := two_inv (show Rps X.K w1.r w1.F [a, b] v from r1)
      obtain ⟨pa, rfl, ⟨vs, q1, t1⟩, st1⟩ := stL_ok g1.wd ra hx
      obtain ⟨pb, rfl, ⟨us, q2, t2⟩, st2⟩ := stL_ok g1.wd rb hy
      refine ⟨pa, pb, vs, us, rfl, q1, q2, SatW.here s1 g1.wd (fun w2 g2 hc => ?_)⟩
      obtain ⟨vs', q1', t1'⟩ := st1 w2 g2 hc.1
      obtain ⟨us', q2', t2'⟩ := st2 w2 g2 hc.2
      refine ⟨fun i d e => ?_, vs', us', q1', q2', ?_⟩
      · rw [List.getElem?_map] at e
        cases ez : (x.zip y)[i]? with
        | none => rw [ez] at e; cases e
        | some z =>
          rw [ez] at e
          have ed := Option.some.inj e
          subst ed
          obtain ⟨e1, e2⟩ := List.getElem?_zip_eq_some.mp ez
          obtain ⟨v1, f1, rv1⟩ := t1'.get e1
          obtain ⟨v2, f2, rv2⟩ := t2'.get e2
          refine ⟨⟨vs', us', v1, v2, q1', q2', f1, f2⟩, fun xv H' yl => ?_⟩
          obtain ⟨Tp, x1, x2, rfl, nT, rfl, k1, k2⟩ := yl
          have ex1 : x1 = v1 := Option.some.inj ((k1 _ q1').symm.trans f1)
          have ex2 : x2 = v2 := Option.some.inj ((k2 _ q2').symm.trans f2)
          subst ex1 ex2
          refine ⟨⟨w2.r, upd w2.F Tp (.tup [x1, x2]), w2.S, upd w2.H Tp (.tup [x1, x2])⟩, Go.alloc g2.wd nT, rfl, rfl, ?_⟩
          unfold Rp
          refine ⟨Tp, [x1, x2], rfl, .inl upd_same, Rps.mono (r := w2.r) (F := w2.F) ⟨[], by simp⟩ (fun b z e => ?_) _ _ (rps_cons rv1 (rps_cons rv2 rps_nil))⟩
          show upd w2.F Tp _ b = _
          rw [upd_ne (ne_of_none e (g2.wd.fresh nT))]
          exact e
      · have l1 := t1'.length
        have l2 := t2'.length
        simp only [List.length_map, List.length_zip]
        omega
    · exact s1.elim
  · exact s1.elim
theorem pid_enum (hm : X.mg "enumerate" = none) (ha : PAD X W [e] h) (hg : Gl X "enumerate" := by rfl) (hs : starEach [e] X.env = [(false, eval e X.env)] := by rfl) :
    PID X W (.Tuple elts kk tpos) (.Call (.Name "enumerate" p) [e] [] pos) (iSrcA srcEnum h) := by
  refine weakI (pi_enum hg hm ha hs) fun σ H R ⟨w, env, eH, hw, he, hs⟩ => ?_
  subst eH
  refine ⟨w, env, rfl, hw, he, SatW.imp (SatW.bind hs) fun w1 d v g1 r1 s1 => ?_⟩
  unfold srcEnum at s1
  split at s1
  · rename_i a
    split at s1
    · rename_i x p hx
      obtain ⟨va, rfl, ra⟩ := one_inv (show Rps X.K w1.r w1.F [a] v from r1)
      obtain ⟨pa, rfl, ⟨vs, q1, t1⟩, st1⟩ := stL_ok g1.wd ra hx
      refine ⟨pa, vs, rfl, q1, SatW.here s1 g1.wd (fun w2 g2 hc => ?_)⟩
      obtain ⟨vs', q1', t1'⟩ := st1 w2 g2 hc
      refine ⟨fun i d e => ?_, vs', q1', ?_⟩
      · rw [List.getElem?_map, List.getElem?_zipIdx] at e
        cases ez : x[i]? with
        | none => rw [ez] at e; cases e
        | some z =>
          rw [ez] at e
          have ed := Option.some.inj e
          subst ed
          obtain ⟨v1, f1, rv1⟩ := t1'.get ez
          refine ⟨⟨vs', v1, q1', f1⟩, fun xv H' yl => ?_⟩
          obtain ⟨Tp, x1, rfl, nT, rfl, k1⟩ := yl
          have ex1 : x1 = v1 := Option.some.inj ((k1 _ q1').symm.trans f1)
          subst ex1
          refine ⟨⟨w2.r, upd w2.F Tp (.tup [.int (i : Nat), x1]), w2.S, upd w2.H Tp (.tup [.int (i : Nat), x1])⟩, Go.alloc g2.wd nT, rfl, rfl, ?_⟩
          unfold Rp
          refine ⟨Tp, [.int (i : Nat), x1], rfl, .inl upd_same, Rps.mono (r := w2.r) (F := w2.F) ⟨[], by simp⟩ (fun b z e => ?_) _ _ (rps_cons (by simp; exact rpi) (rps_cons rv1 rps_nil))⟩
          show upd w2.F Tp _ b = _
          rw [upd_ne (ne_of_none e (g2.wd.fresh nT))]
          exact e
      · simp only [List.length_map, List.length_zipIdx]
        exact Nat.le_of_eq t1'.length
    · exact s1.elim
  · exact s1.elim
theorem pid_rev (hm : X.mg "reversed" = none) (ha : PAD X W [e] h) (hg : Gl X "reversed" := by rfl) (hs : starEach [e] X.env = [(false, eval e X.env)] := by rfl) :
    PID X W tg (.Call (.Name "reversed" p) [e] [] pos) (iSrcA srcRev h) := by
  refine weakI (pi_reversed hg hm ha hs) fun σ H R ⟨w, env, eH, hw, he, hs⟩ => ?_
  subst eH
  refine ⟨w, env, rfl, hw, he, SatW.imp (SatW.bind hs) fun w1 d v g1 r1 s1 => ?_⟩
  unfold srcRev at s1
  split at s1
  · rename_i a
    split at s1
    · rename_i x p hx
      obtain ⟨va, rfl, ra⟩ := one_inv (show Rps X.K w1.r w1.F [a] v from r1)
      obtain ⟨pa, rfl, ⟨vs, q1, t1⟩, st1⟩ := stL_ok g1.wd ra hx
      refine ⟨pa, vs, rfl, q1, SatW.here s1 g1.wd (fun w2 g2 hc => ?_)⟩
      obtain ⟨vs', q1', t1'⟩ := st1 w2 g2 hc
      have hl : vs.length = vs'.length := t1.length.trans t1'.length.symm
      refine ⟨fun i d e => ?_, ?_⟩
      · have hi : i < x.length := by
          have := (List.getElem?_eq_some_iff.mp e).1
          simpa using this
        rw [List.getElem?_reverse hi] at e
        obtain ⟨v1, f1, rv1⟩ := t1'.get e
        rw [← t1'.length, ← hl] at f1
        refine ⟨⟨by rw [t1.length]; exact hi, vs', v1, q1', f1⟩, fun xv H' yl => ?_⟩
        obtain ⟨rfl, k1⟩ := yl
        have ex1 : xv = v1 := Option.some.inj ((k1 _ q1').symm.trans f1)
        subst ex1
        exact ⟨w2, Go.refl g2.wd, rfl, rfl, rv1⟩
      · show vs.length ≤ x.reverse.length
        rw [List.length_reverse, t1.length]
        exact Nat.le_refl _
    · exact s1.elim
  · exact s1.elim
end
@[simp] theorem srcZip_lst {a b : List D} {S : Store} : srcZip [.lst a, .lst b] S = .ok ⟨(a.zip b).map fun z => .tup [z.1, z.2], fun _ => True⟩ S := by simp [srcZip, stL]
@[simp] theorem srcEnum_lst {a : List D} {S : Store} : srcEnum [.lst a] S = .ok ⟨a.zipIdx.map fun z => .tup [.int z.2, z.1], fun _ => True⟩ S := rfl
@[simp] theorem srcRev_lst {a : List D} {S : Store} : srcRev [.lst a] S = .ok ⟨a.reverse, fun _ => True⟩ S := rfl

/-! ### in, not in: flat things -/
def flatD : D → Bool
  | .non => true
  | .bl _ => true
  | .int _ => true
  | .str _ => true
  | _ => false
def eqFl : D → D → Bool
  | .non, .non => true
  | .bl a, .bl b => a == b
  | .bl a, .int b => (if a then 1 else 0) == b
  | .int a, .bl b => a == (if b then 1 else 0)
  | .int a, .int b => a == b
  | .str a, .str b => a == b
  | _, _ => false
def inFl (x : D) (l : List D) : Bool := l.any fun y => eqFl y x
def getI (d : D) (S : Store) : Option (List D) := match d with
  | .tup l => some l
  | d => getQ d S
def dInX (neg : Bool) (x y : D) (S : Store) : Res D := match getI y S with
  | some l => if flatD x = true ∧ l.all flatD = true then .ok (.bl (if neg then !inFl x l else inFl x l)) S else .bad
  | none => .bad
def dIn := dInX false
def dNotIn := dInX true
section
variable {K : PySem.W.Frag} {r : List Addr} {F : Hp}
theorem flat_v {d : D} {v : V} (h : Rp K r F d v) (f : flatD d = true) : flatV v = true ∧ ∀ {e : D} {u : V}, Rp K r F e u → flatD e = true → eqV u v = eqFl e d := by
  cases d with
  | non =>
    cases rp_non h
    refine ⟨rfl, fun {e u} hu fe => ?_⟩
    cases e with
    | non => cases rp_non hu; rfl
    | bl _ => cases rp_bl hu; rfl
    | int _ => cases rp_int hu; rfl
    | str _ => cases rp_str hu; rfl
    | _ => cases fe
  | bl b =>
    cases rp_bl h
    refine ⟨rfl, fun {e u} hu fe => ?_⟩
    cases e with
    | non => cases rp_non hu; rfl
    | bl _ => cases rp_bl hu; rfl
    | int _ => cases rp_int hu; rfl
    | str _ => cases rp_str hu; rfl
    | _ => cases fe
  | int b =>
    cases rp_int h
    refine ⟨rfl, fun {e u} hu fe => ?_⟩
    cases e with
    | non => cases rp_non hu; rfl
    | bl _ => cases rp_bl hu; rfl
    | int _ => cases rp_int hu; rfl
    | str _ => cases rp_str hu; rfl
    | _ => cases fe
  | str b =>
    cases rp_str h
    refine ⟨rfl, fun {e u} hu fe => ?_⟩
    cases e with
    | non => cases rp_non hu; rfl
    | bl _ => cases rp_bl hu; rfl
    | int _ => cases rp_int hu; rfl
    | str _ => cases rp_str hu; rfl
    | _ => cases fe
  | _ => cases f
theorem flats_v {x : D} {v : V} (hx : Rp K r F x v) (fx : flatD x = true) : ∀ {l : List D} {vs : List V}, Rps K r F l vs → l.all flatD = true → vs.all flatV = true ∧ inV v vs = inFl x l
  | [], vs, h, _ => by rw [h.nil_inv]; exact ⟨rfl, rfl⟩
  | d :: l, vs, h, f => by
    obtain ⟨u, t, rfl, h1, h2⟩ := h.cons_inv
    rw [List.all_cons, Bool.and_eq_true] at f
    obtain ⟨f1, _⟩ := flat_v h1 f.1
    obtain ⟨f3, f4⟩ := flats_v hx fx h2 f.2
    refine ⟨by rw [List.all_cons, f1, f3]; rfl, ?_⟩
    have e1 : eqV u v = eqFl d x := (flat_v hx fx).2 h1 f.1
    unfold inV inFl at f4 ⊢
    rw [List.any_cons, List.any_cons, e1, f4]
theorem getI_ok {w : Wl} {d : D} {v : V} {l : List D} (hw : Wd K w) (hr : Rp K w.r w.F d v) (h : getI d w.S = some l) : ∃ a vs, v = .ref a ∧ (SqL K w.H a vs ∨ SqT K w.H a vs) ∧ Rps K w.r w.F l vs := by
  have gen : getQ d w.S = some l → ∃ a vs, v = .ref a ∧ (SqL K w.H a vs ∨ SqT K w.H a vs) ∧ Rps K w.r w.F l vs := fun h => by
    obtain ⟨a, vs, e, q, p⟩ := getQ_ok hw hr h
    exact ⟨a, vs, e, .inl q, p⟩
  cases d with
  | tup l' =>
    obtain ⟨a, vs, e, q, p⟩ := getT_ok hw hr h
    exact ⟨a, vs, e, .inr (.inl q), p⟩
  | _ => exact gen h
end
section
variable {X : Cx}
theorem od_in : OpD X (compareOp .In) dIn := ⟨_, op_in_seq, fun w x y d e W σ Q hw r1 r2 hs => by
  unfold dIn dInX at hs
  split at hs
  · rename_i l hl
    obtain ⟨hf, hs⟩ := satIf hs
    obtain ⟨a, vs, e1, q, t⟩ := getI_ok hw r2 hl
    obtain ⟨f1, f2⟩ := flats_v (show Rp X.K w.r w.F d x from r1) hf.1 t hf.2
    refine ⟨a, vs, e1, q, (flat_v (show Rp X.K w.r w.F d x from r1) hf.1).1, f1, ?_⟩
    rw [f2]
    exact SatW.here hs hw rpb
  · exact hs.elim⟩
theorem od_notIn : OpD X (compareOp .NotIn) dNotIn := ⟨_, op_notIn_seq, fun w x y d e W σ Q hw r1 r2 hs => by
  unfold dNotIn dInX at hs
  split at hs
  · rename_i l hl
    obtain ⟨hf, hs⟩ := satIf hs
    obtain ⟨a, vs, e1, q, t⟩ := getI_ok hw r2 hl
    obtain ⟨f1, f2⟩ := flats_v (show Rp X.K w.r w.F d x from r1) hf.1 t hf.2
    refine ⟨a, vs, e1, q, (flat_v (show Rp X.K w.r w.F d x from r1) hf.1).1, f1, ?_⟩
    rw [f2]
    exact SatW.here hs hw rpb
  · exact hs.elim⟩

/-! ### more methods -/
def mInsert (x : D) (a : List D) (S : Store) : Res D := match a, cellL x S with
  | [.int i, y], some (n, l) => if l.length < 16000000 ∧ 0 ≤ i ∧ i < 4611686018427387904 then .ok .non (S.set n (.lst (l.take i.toNat ++ [y] ++ l.drop i.toNat))) else .bad
  | _, _ => .bad
def mPop (x : D) (a : List D) (S : Store) : Res D := match a, cellL x S with
  | [], some (n, l) => match l[l.length - 1]? with
    | some y => .ok y (S.set n (.lst l.dropLast))
    | none => .bad
  | _, _ => .bad
def mPopAt (x : D) (a : List D) (S : Store) : Res D := match a, cellL x S with
  | [.int i], some (n, l) => if rng62 i then match seqIndex? i l.length with
      | some k => match l[k]? with
        | some y => .ok y (S.set n (.lst (l.eraseIdx k)))
        | none => .bad
      | none => .bad
    else .bad
  | _, _ => .bad
def mCount (x : D) (a : List D) (S : Store) : Res D := match a with
  | [.int k] => match (getQ x S).bind intsOf with
    | some ns => .ok (.int (ns.count k : Nat)) S
    | none => .bad
  | _ => .bad
theorem Rps.dropLast {K : PySem.W.Frag} {r : List Addr} {F : Hp} {l : List D} {vs : List V} (h : Rps K r F l vs) : Rps K r F l.dropLast vs.dropLast := by
  rw [List.dropLast_eq_take, List.dropLast_eq_take, h.length]
  exact h.take _
theorem Rps.eraseIdx {K : PySem.W.Frag} {r : List Addr} {F : Hp} {l : List D} {vs : List V} (h : Rps K r F l vs) (k : Nat) : Rps K r F (l.eraseIdx k) (vs.eraseIdx k) := by
  rw [List.eraseIdx_eq_take_drop_succ, List.eraseIdx_eq_take_drop_succ]
  exact (h.take _).append (h.drop _)
theorem md_insert : MtD X "list.insert" mInsert := ⟨_, mt_insert, fun w x xs d ds W σ Q hw r1 r2 hs => by
  unfold mInsert at hs
  split at hs
  · rename_i i y n l hc
    obtain ⟨rfl, en⟩ := cellL_eq hc
    obtain ⟨hl, hs⟩ := satIf hs
    obtain ⟨v, u, rfl, rv, ru⟩ := two_inv r2
    obtain ⟨a, vs, rfl, ha, p, go⟩ := cell_write (T := kt X) (l' := l.take i.toNat ++ [y] ++ l.drop i.toNat) hw r1 en
    refine ⟨a, vs, i, u, rfl, by rw [rp_int rv], ha, by rw [p.length]; exact Nat.lt_of_lt_of_le hl.1 (line16 (Nat.le_refl _)), hl.2.1, by omega, ?_⟩
    exact hs _ V.non (go _ (((p.take _).append (rps_cons ru rps_nil)).append (p.drop _))) rfl rpn
  · exact hs.elim⟩
theorem md_pop : MtD X "list.pop" mPop := ⟨_, mt_pop, fun w x xs d ds W σ Q hw r1 r2 hs => by
  unfold mPop at hs
  split at hs
  · rename_i n l hc
    obtain ⟨rfl, en⟩ := cellL_eq hc
    split at hs
    · rename_i y hy
      obtain ⟨a, vs, rfl, ha, p, go⟩ := cell_write (T := kt X) (l' := l.dropLast) hw r1 en
      obtain ⟨v, ev, rv⟩ := p.get hy
      refine ⟨a, vs, v, rfl, r2.nil_inv, ha, by rw [p.length]; exact ev, ?_⟩
      exact hs _ v (go _ p.dropLast) rfl (show Rp X.K w.r w.F y v from rv)
    · exact hs.elim
  · exact hs.elim⟩
theorem md_popAt : MtD X "list.pop" mPopAt := ⟨_, mt_popAt, fun w x xs d ds W σ Q hw r1 r2 hs => by
  unfold mPopAt at hs
  split at hs
  · rename_i i n l hc
    obtain ⟨rfl, en⟩ := cellL_eq hc
    obtain ⟨hi, hs⟩ := satIf hs
    split at hs
    · rename_i k hk
      split at hs
      · rename_i y hy
        obtain ⟨v0, rfl, rv0⟩ := one_inv r2
        obtain ⟨a, vs, rfl, ha, p, go⟩ := cell_write (T := kt X) (l' := l.eraseIdx k) hw r1 en
        obtain ⟨v, ev, rv⟩ := p.get hy
        have b1 := hi.1
        have b2 := hi.2
        refine ⟨a, vs, i, k, v, rfl, by rw [rp_int rv0], ha, by omega, by omega, by rw [p.length]; exact hk, ev, ?_⟩
        exact hs _ v (go _ (p.eraseIdx k)) rfl (show Rp X.K w.r w.F y v from rv)
      · exact hs.elim
    · exact hs.elim
  · exact hs.elim⟩
theorem md_count : MtD X "list.count" mCount := ⟨_, mt_lcount, fun w x xs d ds W σ Q hw r1 r2 hs => by
  unfold mCount at hs
  split at hs
  · rename_i k
    obtain ⟨v0, rfl, rv0⟩ := one_inv r2
    split at hs
    · rename_i ns h
      obtain ⟨a, e1, q⟩ := ints_of hw r1 h
      exact ⟨a, ns, k, e1, by rw [rp_int rv0], q, SatW.here hs hw rpi⟩
    · exact hs.elim
  · exact hs.elim⟩
theorem md_extend : MtD X "list.extend" mExtend := ⟨_, mt_extend, fun w x xs d ds W σ Q hw r1 r2 hs => by
  unfold mExtend at hs
  split at hs
  · rename_i z n l hc
    obtain ⟨rfl, en⟩ := cellL_eq hc
    obtain ⟨hl, hs⟩ := satIf hs
    obtain ⟨v0, rfl, rv0⟩ := one_inv r2
    obtain ⟨b, zs, rfl, hb, t⟩ := getL_ok hw rv0 rfl
    obtain ⟨a, vs, rfl, ha, p, go⟩ := cell_write (T := kt X) (l' := l ++ z) hw r1 en
    refine ⟨a, b, vs, zs, rfl, rfl, ha, hb, by rw [p.length, t.length]; exact line16 hl, ?_⟩
    exact hs _ V.non (go _ (p.append t)) rfl rpn
  · exact hs.elim⟩
end

/-! ### a list unpacked -/
def gL (n : Nat) (h : List D → Env → Store → Out) : D → Env → Store → Out := fun d e S => match getQ d S with
  | some l => if l.length = n then h l e S else .bad
  | none => .bad
section
variable {X : Cx} {es : List Expr} {pos : Pos}
theorem pgd_unl {n : Nat} {kk : Nat} {hh : List D → Env → Store → Out} (hc : X.calm = true) (h2 : PGsD X es hh) (hn : (assignEach es X.env).length = n := by rfl) (hst : (assignEach es X.env).findIdx? (·.1) = none := by rfl) : PGD X (.Tuple es kk pos) (gL n hh) := by
  refine weakG (pg_unl hc h2 hn hst) fun v σ H Q ⟨w, env, d, eH, hw, he, hr, hs⟩ => ?_
  subst eH
  have hs' : SatG (kt X) w (match getQ d w.S with | some l => if l.length = n then hh l env w.S else .bad | none => .bad) Q := hs
  cases q : getQ d w.S with
  | none => rw [q] at hs'; exact hs'.elim
  | some l =>
    rw [q] at hs'
    have hs2 : SatG (kt X) w (if l.length = n then hh l env w.S else .bad) Q := hs'
    by_cases hl : l.length = n
    · rw [if_pos hl] at hs2
      obtain ⟨a, vs, rfl, q, p⟩ := getQ_ok hw hr q
      exact ⟨a, vs, rfl, q, by rw [p.length]; exact hl, w, env, l, rfl, hw, he, p, hs2⟩
    · rw [if_neg hl] at hs2
      exact hs2.elim
end
end
end Dv
/-! # Dv10: counting over data -/
namespace Dv
noncomputable section
open PySem PySem.Spec PyProof.Rows L2

def rCntD (K : PySem.W.Frag) : V → List V → Hp → VK → Prop := fun x xs H Q => ∃ (p : Addr) (vs : List V) (ds : List PyData) (v : V) (d : PyData), x = .ref p ∧ xs = [v] ∧ SqL K H p vs ∧ DpAll K H vs ds ∧ Dp K H v d ∧ PyData.plainAll ds = true ∧ d.plain = true ∧ d.depth ≤ 60 ∧ Q (.int (ds.countP fun y => PyData.eqv y d : Nat)) H
theorem mt_countD {X : Cx} (hu : X.A.units + 64 < cLine) : MtR X "list.count" (rCntD X.K) := by
  intro pins s σ H x xs v us Q I rx rxs h
  obtain ⟨p, vs, ds, u, d, rfl, rfl, hs, ha, hd, h1, h2, h3, q⟩ := h
  cases rx
  obtain ⟨u', rfl, ru⟩ := rxs.one
  obtain ⟨its, rv, ⟨o, n, ho, hc, hdn, hd2⟩, hlen⟩ := I.list hs
  obtain ⟨as, r1⟩ := Dp.readsAll I ds vs its ha rv
  obtain ⟨bs, r2⟩ := Dp.reads I d u u' hd ru
  refine SeqAt.count_list_data (vs := its.toArray) ⟨o, ho, hc, n, hd2⟩ (by simpa using r1) r2 h1 h2 ?_ ?_
  · have : min (PyData.depthAll ds) d.depth ≤ d.depth := Nat.min_le_right _ _
    omega
  · exact ⟨.int (ds.countP fun y => PyData.eqv y d : Nat), H, I.tok _, ⟨s.toks, rfl⟩, q⟩
def mCountD (x : D) (a : List D) (S : Store) : Res D := match a with
  | [k] => match toP S 60 k, (getQ x S).bind (toPs S 60) with
    | some d, some ds => .ok (.int (ds.countP fun y => PyData.eqv y d : Nat)) S
    | _, _ => .bad
  | _ => .bad
theorem toPs_plain {S : Store} {n : Nat} {l : List D} {ps : List PyData} (h : toPs S n l = some ps) : PyData.plainAll ps = true := by
  have := (toP_ok (S := S) (n + 1) (.lst l) (.list ps) (by rw [toP, h]; rfl)).1
  have q := PyData.plain_of_canLay0 _ this
  simpa [PyData.plain] using q
theorem md_countD {X : Cx} (hu : X.A.units + 64 < cLine) : MtD X "list.count" mCountD := ⟨_, mt_countD hu, fun w x xs d ds W σ Q hw r1 r2 hs => by
  unfold mCountD at hs
  split at hs
  · rename_i k
    obtain ⟨v0, rfl, rv0⟩ := one_inv r2
    split at hs
    · rename_i p ps h1 h2
      cases q : getQ d w.S with
      | none => rw [q] at h2; cases h2
      | some l =>
        rw [q] at h2
        obtain ⟨a, vs, e1, hq, t⟩ := getQ_ok hw r1 q
        obtain ⟨h3, h4⟩ := toP_ok 60 k p h1
        exact ⟨a, vs, ps, v0, p, e1, rfl, hq, toPs_dp hw 60 l vs ps h2 t, toP_dp hw 60 k v0 p h1 rv0, toPs_plain h2, PyData.plain_of_canLay0 _ h3, h4, SatW.here hs hw rpi⟩
    · exact hs.elim
  · exact hs.elim⟩
theorem bt3 {a b c : Bool} : (mCountD (.lst [.bl a, .bl b, .bl c]) [.bl true] : M D) = fun S => .ok (.int ((if a then 1 else 0) + (if b then 1 else 0) + (if c then 1 else 0))) S := by
  funext S
  cases a <;> cases b <;> cases c <;> simp [mCountD, getQ, toP, toPs, PyData.eqv]
theorem toPs_ints {S : Store} {n : Nat} : ∀ cs : List Int, toPs S n (cs.map D.int) = some (cs.map PyData.int)
  | [] => by simp [toPs]
  | c :: cs => by
    have e : toP S n (D.int c) = some (.int c) := by cases n <;> simp [toP]
    simp [toPs, e, toPs_ints cs]
/-! ### stores: what stands ahead, and the cells behind -/
section
variable {P R : Store} {a b c x : Cn} {L : Nat}
theorem app_at0 (h : P.length = L) : (P ++ a :: R)[L]? = some a := by rw [List.getElem?_append_right (by omega)]; simp [h]
theorem app_at1 (h : P.length = L) : (P ++ a :: b :: R)[L + 1]? = some b := by rw [List.getElem?_append_right (by omega)]; simp [h]
theorem app_at2 (h : P.length = L) : (P ++ a :: b :: c :: R)[L + 2]? = some c := by rw [List.getElem?_append_right (by omega)]; simp [h]
theorem app_set0 (h : P.length = L) : (P ++ a :: R).set L x = P ++ x :: R := by rw [List.set_append_right _ _ (by omega)]; simp [h]
theorem app_set1 (h : P.length = L) : (P ++ a :: b :: R).set (L + 1) x = P ++ a :: x :: R := by rw [List.set_append_right _ _ (by omega)]; simp [h]
theorem app_set2 (h : P.length = L) : (P ++ a :: b :: c :: R).set (L + 2) x = P ++ a :: b :: x :: R := by rw [List.set_append_right _ _ (by omega)]; simp [h]
theorem fin_cut {d : D} (h : P.length = L) (hu : (P.all fun c => c.under L) = true) (hd : d.under L = true) : fin false L d (P ++ R) = .ok d P := by
  unfold fin
  have e : (P ++ R).take L = P := by rw [← h]; simp
  by_cases z : (false = true ∨ (P ++ R).length = L)
  · rw [if_pos z]
    rcases z with z | z
    · cases z
    · rw [List.length_append] at z
      have : R = [] := List.length_eq_zero_iff.mp (by omega)
      subst this
      simp
  · rw [if_neg z, e, hd, hu]
    rfl
end
theorem underL_ints {n : Nat} : ∀ cs : List Int, D.underL n (cs.map D.int) = true
  | [] => rfl
  | c :: cs => by rw [List.map_cons, D.underL, underL_ints cs]; rfl
theorem underL_of {n : Nat} : ∀ {l : List D}, (∀ d ∈ l, D.under n d = true) → D.underL n l = true
  | [], _ => rfl
  | d :: l, h => by rw [D.underL, h d (by simp), underL_of fun x hx => h x (by simp [hx])]; rfl
theorem all_set_under {n k : Nat} {x : Cn} {P : Store} (h : (P.all fun c => c.under n) = true) (hx : x.under n = true) : ((P.set k x).all fun c => c.under n) = true := by
  rw [List.all_eq_true] at *
  intro c hc
  rcases List.mem_or_eq_of_mem_set hc with z | z
  · exact h c z
  · rw [z]; exact hx
/-- a comprehension that only reckons -/
theorem lc_map {α : Type} {g : D → Env → Option Env} {f : Env → M D} {e0 : Env} {S : Store} (emb ψ : α → D) : ∀ (items : List α) (acc : List D), (∀ a ∈ items, ∃ e1, g (emb a) e0 = some e1 ∧ f e1 S = .ok (ψ a) S) → acc.length + items.length ≤ 16000000 → lcL (fun _ => True) g cYes f e0 (items.map emb) acc S = .ok (acc ++ items.map ψ) S
  | [], acc, _, _ => by rw [List.map_nil, lcL, if_pos trivial]; simp
  | a :: items, acc, h, hl => by
    obtain ⟨e1, h1, h2⟩ := h a (by simp)
    rw [List.length_cons] at hl
    rw [List.map_cons, lcL, if_pos trivial]
    simp only [h1, cYes, h2]
    rw [if_pos (by omega), lc_map emb ψ items _ (fun x hx => h x (by simp [hx])) (by rw [List.length_append, List.length_singleton]; omega)]
    simp
theorem irange_map {lo : Int} {n : Nat} : irange lo n = (List.range n).map fun (i : Nat) => D.int (lo + i) := rfl
end
end Dv
/-! # Dv11: Ens and EnsO as structures, so that nobody reckons through them -/
namespace Dv
open PySem PySem.Spec PyProof.Rows L2
structure Ens {α : Type} (x : Res α) (P : α → Store → Prop) : Prop where
  go : En0 x P
structure EnsO (o : Out) (Q : Pst) : Prop where
  go : EnO0 o Q
theorem ens_is {α : Type} {x : Res α} {P : α → Store → Prop} : Ens x P = En0 x P := propext ⟨fun h => h.go, fun h => ⟨h⟩⟩
theorem enso_is {o : Out} {Q : Pst} : EnsO o Q = EnO0 o Q := propext ⟨fun h => h.go, fun h => ⟨h⟩⟩
section
variable {α β : Type} {x : Res α} {a : α} {S : Store} {P : α → Store → Prop} {Q : Pst} {e : Env} {d : D}
@[simp] theorem ens_ok : Ens (.ok a S) P = P a S := ens_is
@[simp] theorem ens_bad : Ens (.bad : Res α) P = False := ens_is
@[simp] theorem ens_exc {y : Exn} : Ens (.exc y S : Res α) P = False := ens_is
@[simp] theorem ens_bind {k : α → Store → Res β} {P : β → Store → Prop} : Ens (x.bind k) P = Ens x (fun a S => Ens (k a S) P) := by
  rw [ens_is, ens_is, en0_bind]
  congr 1
  funext a S
  rw [ens_is]
theorem Ens.imp {P' : α → Store → Prop} (h : Ens x P) (q : ∀ a S, P a S → P' a S) : Ens x P' := ⟨h.go.imp q⟩
theorem ens_eq {v : α} : Ens x (fun a S' => a = v ∧ S' = S) ↔ x = .ok v S := by rw [ens_is]; exact en0_eq
theorem Ens.get (h : Ens x P) : ∃ a S, x = .ok a S ∧ P a S := En0.get h.go
@[simp] theorem ens_if {c : Prop} [Decidable c] : Ens (if c then x else .bad) P = (c ∧ Ens x P) := by rw [ens_is, ens_is, en0_if]
@[simp] theorem ens_if' {c : Prop} [Decidable c] : Ens (if c then .bad else x) P = (¬ c ∧ Ens x P) := by rw [ens_is, ens_is, en0_if']
theorem ens_ite {c : Prop} [Decidable c] {y : Res α} (h1 : c → Ens x P) (h2 : ¬ c → Ens y P) : Ens (if c then x else y) P := ⟨en0_ite (fun h => (h1 h).go) fun h => (h2 h).go⟩
@[simp] theorem enso_nx : EnsO (.nx e S) Q = Q.nx e S := enso_is
@[simp] theorem enso_rt : EnsO (.rt d S) Q = Q.rt d S := enso_is
@[simp] theorem enso_bk : EnsO (.bk e S) Q = Q.bk e S := enso_is
@[simp] theorem enso_ct : EnsO (.ct e S) Q = Q.ct e S := enso_is
@[simp] theorem enso_bad : EnsO .bad Q = False := enso_is
@[simp] theorem enso_out {k : α → Store → Out} : EnsO (x.out e k) Q = Ens x (fun a S => EnsO (k a S) Q) := by
  rw [enso_is, ens_is, eno0_out]
  congr 1
  funext a S
  rw [enso_is]
@[simp] theorem enso_seq {o : Out} {k : Env → Store → Out} : EnsO (o.seq k) Q = EnsO o { Q with nx := fun e S => EnsO (k e S) Q } := by
  rw [enso_is, enso_is, eno0_seq]
  congr 1
  congr 1
  funext e S
  rw [enso_is]
theorem EnsO.imp {o : Out} {Q' : Pst} (h : EnsO o Q) (h1 : ∀ e S, Q.nx e S → Q'.nx e S) (h2 : ∀ e S, Q.rt e S → Q'.rt e S) (h3 : ∀ e S, Q.bk e S → Q'.bk e S) (h4 : ∀ e S, Q.ct e S → Q'.ct e S) : EnsO o Q' := ⟨h.go.imp h1 h2 h3 h4⟩
theorem enso_ite {c : Prop} [Decidable c] {o p : Out} (h1 : c → EnsO o Q) (h2 : ¬ c → EnsO p Q) : EnsO (if c then o else p) Q := ⟨eno0_ite (fun h => (h1 h).go) fun h => (h2 h).go⟩
end
theorem ens_fn {np ns : Nat} {keep : Bool} {body : Env → Store → Out} {ds : List D} {S : Store} {P : D → Store → Prop} (hl : ds.length = np)
    (h : EnsO (body (ds.map some ++ List.replicate (ns - np) none) S) { nx := fun _ S' => Ens (fin keep S.length .non S') P, rt := fun d S' => Ens (fin keep S.length d S') P }) : Ens (fnD np ns keep body ds S) P :=
  ⟨en0_fn hl (h.go.imp (fun _ _ h => h.go) (fun _ _ h => h.go) (fun _ _ h => h.elim) (fun _ _ h => h.elim))⟩
theorem ens_for {g : D → Env → Store → Out} {b : Env → Store → Out} {items : List D} {e : Env} {S : Store} {Q : Pst} (I : Nat → Env → Store → Prop) (h0 : I 0 e S)
    (hs : ∀ (i : Nat) d e S, items[i]? = some d → I i e S → EnsO (g d e S) { nx := fun e1 S1 => EnsO (b e1 S1) { nx := I (i + 1), ct := I (i + 1), bk := Q.nx, rt := Q.rt } })
    (hd : ∀ e S, I items.length e S → Q.nx e S) : EnsO (forL (fun _ => True) g b items e S) Q :=
  ⟨en0_for I h0 (fun i d e S h1 h2 => (hs i d e S h1 h2).go.imp (fun _ _ h => h.go) (fun _ _ h => h.elim) (fun _ _ h => h.elim) (fun _ _ h => h.elim)) hd⟩
theorem ens_while {c : Env → M Bool} {b : Env → Store → Out} {Q : Pst} (I : Env → Store → Prop) (m : Env → Store → Nat)
    (hs : ∀ e S, I e S → Ens (c e S) fun t S1 => (t = true → EnsO (b e S1) { nx := fun e' S' => I e' S' ∧ m e' S' < m e S, ct := fun e' S' => I e' S' ∧ m e' S' < m e S, bk := Q.nx, rt := Q.rt }) ∧ (t = false → Q.nx e S1)) {e : Env} {S : Store} (h0 : I e S) : EnsO (yWhile c b e S) Q :=
  ⟨en0_while I m (fun e S h => (hs e S h).go.imp fun t S1 z => ⟨fun q => (z.1 q).go, z.2⟩) h0⟩
theorem ens_lc {g : D → Env → Option Env} {c : Env → M Bool} {f : Env → M D} {e0 : Env} {items : List D} {S : Store} {P : List D → Store → Prop} (I : Nat → List D → Store → Prop) (h0 : I 0 [] S)
    (hs : ∀ (i : Nat) d acc S, items[i]? = some d → I i acc S → ∃ e1, g d e0 = some e1 ∧ Ens (c e1 S) fun t S2 => (t = true → Ens (f e1 S2) fun y S3 => acc.length < 16000000 ∧ I (i + 1) (acc ++ [y]) S3) ∧ (t = false → I (i + 1) acc S2))
    (hd : ∀ l S, I items.length l S → P l S) : Ens (lcL (fun _ => True) g c f e0 items [] S) P :=
  ⟨en0_lc I h0 (fun i d acc S h1 h2 => by
    obtain ⟨e1, q1, q2⟩ := hs i d acc S h1 h2
    exact ⟨e1, q1, q2.go.imp fun t S2 z => ⟨fun q => (z.1 q).go, z.2⟩⟩) hd⟩
theorem ens_seq {y y' : Env → Store → Out} {e : Env} {S : Store} {Q : Pst} (R : Env → Store → Prop) (h1 : EnsO (y e S) { Q with nx := R }) (h2 : ∀ e S, R e S → EnsO (y' e S) Q) : EnsO (ySeq y y' e S) Q :=
  ⟨en0_seq R h1.go fun e S h => (h2 e S h).go⟩
@[simp] theorem ens_fin0 {k b : Bool} {S : Store} {p : D → Prop} : Ens (fin k 0 (.bl b) S) (fun d _ => p d) = p (.bl b) := by
  unfold fin
  by_cases h : k = true ∨ S.length = 0
  · rw [if_pos h, ens_ok]
  · rw [if_neg h, if_pos (by simp [D.under]), ens_ok]
/- no `if` over rng62 in the reckoning: the kernel would run through its decision -/
@[simp] theorem ens_srcR1 {j : Int} {S : Store} {P : Src → Store → Prop} : Ens (srcR1 [.int j] S) P = (rng62 j ∧ P ⟨irange 0 j.toNat, fun _ => True⟩ S) := by
  rw [srcR1_app, ens_if, ens_ok]
@[simp] theorem ens_srcR2 {i j : Int} {S : Store} {P : Src → Store → Prop} : Ens (srcR2 [.int i, .int j] S) P = ((rng62 i ∧ rng62 j) ∧ P ⟨irange i (j - i).toNat, fun _ => True⟩ S) := by
  rw [srcR2_app, ens_if, ens_ok]
/-- as ens_seq, the middle's form kept from simp -/
theorem ens_sq {y y' : Env → Store → Out} {e : Env} {S : Store} {Q : Pst} (R : Env → Store → Prop) (h1 : ∀ R' : Env → Store → Prop, (∀ e S, R e S → R' e S) → EnsO (y e S) { Q with nx := R' }) (h2 : ∀ e S, R e S → EnsO (y' e S) Q) : EnsO (ySeq y y' e S) Q := ens_seq R (h1 R fun _ _ h => h) h2
theorem ens_fr {g : D → Env → Store → Out} {b : Env → Store → Out} {items : List D} {e : Env} {S : Store} {Q : Pst} (I : Nat → Env → Store → Prop) (h0 : I 0 e S)
    (hs : ∀ (i : Nat) d e S (R' : Env → Store → Prop), items[i]? = some d → I i e S → (∀ e S, I (i + 1) e S → R' e S) → EnsO (g d e S) { nx := fun e1 S1 => EnsO (b e1 S1) { nx := R', ct := R', bk := Q.nx, rt := Q.rt } })
    (hd : ∀ e S, I items.length e S → Q.nx e S) : EnsO (forL (fun _ => True) g b items e S) Q := ens_for I h0 (fun i d e S h1 h2 => hs i d e S _ h1 h2 fun _ _ h => h) hd
theorem ens_lcq {g : D → Env → Option Env} {c : Env → M Bool} {f : Env → M D} {e0 : Env} {items : List D} {S : Store} {P : List D → Store → Prop} (I : Nat → List D → Store → Prop) (h0 : I 0 [] S)
    (hs : ∀ (i : Nat) d acc S (R' : List D → Store → Prop), items[i]? = some d → I i acc S → (∀ l S, I (i + 1) l S → R' l S) → ∃ e1, g d e0 = some e1 ∧ Ens (c e1 S) fun t S2 => (t = true → Ens (f e1 S2) fun y S3 => acc.length < 16000000 ∧ R' (acc ++ [y]) S3) ∧ (t = false → R' acc S2))
    (hd : ∀ l S, I items.length l S → P l S) : Ens (lcL (fun _ => True) g c f e0 items [] S) P := ens_lc I h0 (fun i d acc S h1 h2 => hs i d acc S _ h1 h2 fun _ _ h => h) hd
/-- over a list that is written there; the items are kept from the kernel's reckoning -/
theorem enso_forlst {h : Env → M (List D)} {g : D → Env → Store → Out} {b : Env → Store → Out} {oo : Option D} {ll : Env} {S : Store} {Q : Pst} (hh : Ens (h (oo :: ll) S) fun l S1 => l.length ≤ 1000 ∧ ∀ items, items = l → EnsO (forL (fun _ => True) g b items (oo :: ll) S1) Q) : EnsO (yFor (iSrc srcL (xLst mkF h)) g b (oo :: ll) S) Q := by
  rw [yFor_app, iSrc_app, xLst_app, enso_out, ens_bind, ens_bind]
  refine hh.imp fun l S1 ⟨h1, h2⟩ => ?_
  rw [if_pos h1, mkF_app, ens_ok, srcL_lst, ens_ok]
  exact h2 l rfl
end Dv
/-! # Dv12: any, all, sorted -/
namespace Dv
noncomputable section
open PySem PySem.Spec PyProof.Rows L2
def blsOf : List D → Option (List Bool)
  | [] => some []
  | .bl b :: l => (blsOf l).map (b :: ·)
  | _ :: _ => none
theorem blsOf_eq : ∀ {l : List D} {bs : List Bool}, blsOf l = some bs → l = bs.map D.bl
  | [], bs, h => by cases h; rfl
  | .bl b :: l, bs, h => by
    rw [blsOf] at h
    cases q : blsOf l with
    | none => rw [q] at h; cases h
    | some m => rw [q] at h; cases h; rw [blsOf_eq q]; rfl
  | .non :: _, _, h => by cases h
  | .int _ :: _, _, h => by cases h
  | .str _ :: _, _, h => by cases h
  | .tup _ :: _, _, h => by cases h
  | .lst _ :: _, _, h => by cases h
  | .scr _ :: _, _, h => by cases h
  | .cell _ :: _, _, h => by cases h
  | .raw _ :: _, _, h => by cases h
  | .cls _ :: _, _, h => by cases h
  | .exn _ _ :: _, _, h => by cases h
@[simp] theorem blsOf_map : ∀ bs : List Bool, blsOf (bs.map D.bl) = some bs
  | [] => rfl
  | b :: bs => by rw [List.map_cons, blsOf, blsOf_map bs]; rfl
theorem Rps.bls {K : PySem.W.Frag} {r : List Addr} {F : Hp} : ∀ {bs : List Bool} {vs : List V}, Rps K r F (bs.map D.bl) vs → vs = bs.map V.bl
  | [], vs, h => h.nil_inv
  | b :: bs, vs, h => by
    obtain ⟨v, t, rfl, h1, h2⟩ := h.cons_inv
    cases rp_bl h1
    rw [Rps.bls h2]
    rfl
theorem bls_of {K : PySem.W.Frag} {w : Wl} {x : D} {v : V} {bs : List Bool} (hw : Wd K w) (r : Rp K w.r w.F x v) (h : (getQ x w.S).bind blsOf = some bs) : ∃ a, v = .ref a ∧ SqL K w.H a (bs.map V.bl) := by
  cases q : getQ x w.S with
  | none => rw [q] at h; cases h
  | some l =>
    rw [q] at h
    have e := blsOf_eq (show blsOf l = some bs from h)
    subst e
    obtain ⟨a, vs, e1, q1, t⟩ := getQ_ok hw r q
    rw [t.bls] at q1
    exact ⟨a, e1, q1⟩
def bAll (l : List D) (S : Store) : Res D := match l with
  | [x] => match (getQ x S).bind blsOf with
    | some bs => .ok (.bl (bs.all id)) S
    | none => .bad
  | _ => .bad
def bAny (l : List D) (S : Store) : Res D := match l with
  | [x] => match (getQ x S).bind blsOf with
    | some bs => .ok (.bl (bs.any id)) S
    | none => .bad
  | _ => .bad
@[simp] theorem bAll_bls {bs : List Bool} {S : Store} : bAll [.lst (bs.map D.bl)] S = .ok (.bl (bs.all id)) S := by simp [bAll]
@[simp] theorem bAny_bls {bs : List Bool} {S : Store} : bAny [.lst (bs.map D.bl)] S = .ok (.bl (bs.any id)) S := by simp [bAny]
def bSorted (mk : List D → M D) (l : List D) (S : Store) : Res D := match l with
  | [x] => match (getQ x S).bind intsOf with
    | some ns => mk ((ns.mergeSort fun a b => decide (a ≤ b)).map D.int) S
    | none => .bad
  | _ => .bad
section
variable {X : Cx} {mk : List D → M D}
theorem cd_all (hc : X.calm = true) : CallD X (.builtin "all") bAll := ⟨_, cr_all hc, fun w xs ds W σ Q hw r hs => by
  unfold bAll at hs
  split at hs
  · rename_i x
    obtain ⟨v, rfl, rv⟩ := one_inv r
    split at hs
    · rename_i bs h
      obtain ⟨a, rfl, q⟩ := bls_of hw rv h
      exact ⟨a, bs, rfl, q, SatW.here hs hw rpb⟩
    · exact hs.elim
  · exact hs.elim⟩
theorem cd_any (hc : X.calm = true) : CallD X (.builtin "any") bAny := ⟨_, cr_any hc, fun w xs ds W σ Q hw r hs => by
  unfold bAny at hs
  split at hs
  · rename_i x
    obtain ⟨v, rfl, rv⟩ := one_inv r
    split at hs
    · rename_i bs h
      obtain ⟨a, rfl, q⟩ := bls_of hw rv h
      exact ⟨a, bs, rfl, q, SatW.here hs hw rpb⟩
    · exact hs.elim
  · exact hs.elim⟩
theorem rps_intsV {K : PySem.W.Frag} {r : List Addr} {F : Hp} : ∀ ns : List Int, Rps K r F (ns.map D.int) (ns.map V.int)
  | [] => rps_nil
  | n :: ns => rps_cons rpi (rps_intsV ns)
theorem sorted_uniq {ns ns' : List Int} (h1 : ns'.Perm ns) (h2 : ns'.Pairwise (· ≤ ·)) : ns' = ns.mergeSort fun a b => decide (a ≤ b) := by
  have p := List.mergeSort_perm ns fun a b => decide (a ≤ b)
  have s : (ns.mergeSort fun a b => decide (a ≤ b)).Pairwise (fun a b => decide (a ≤ b) = true) := List.pairwise_mergeSort (le := fun a b => decide (a ≤ b)) (fun a b c h1 h2 => by simp at *; omega) (fun a b => by simp; omega) ns
  exact List.Perm.eq_of_pairwise (le := (· ≤ ·)) (fun a b _ _ h1 h2 => Int.le_antisymm h1 h2) h2 (s.imp fun h => by simpa using h) (h1.trans p.symm)
theorem cd_sorted (m : Mk mk) : CallD X (.builtin "sorted") (bSorted mk) := ⟨_, cr_sortedI, fun w xs ds W σ Q hw r hs => by
  unfold bSorted at hs
  split at hs
  · rename_i x
    obtain ⟨v, rfl, rv⟩ := one_inv r
    split at hs
    · rename_i ns h
      obtain ⟨a, rfl, q⟩ := ints_of hw rv h
      refine ⟨a, ns, rfl, q, fun ns' p h1 h2 hp => ?_⟩
      rw [sorted_uniq h1 h2]
      exact m.go hw (rps_intsV _) hs p hp
    · exact hs.elim
  · exact hs.elim⟩
end
/-- as lc_map, over a list that stands in a cell -/
theorem lc_mapC {α : Type} {chk : Store → Prop} {g : D → Env → Option Env} {f : Env → M D} {e0 : Env} {S : Store} (hk : chk S) (emb ψ : α → D) : ∀ (items : List α) (acc : List D), (∀ a ∈ items, ∃ e1, g (emb a) e0 = some e1 ∧ f e1 S = .ok (ψ a) S) → acc.length + items.length ≤ 16000000 → lcL chk g cYes f e0 (items.map emb) acc S = .ok (acc ++ items.map ψ) S
  | [], acc, _, _ => by rw [List.map_nil, lcL, if_pos hk]; simp
  | a :: items, acc, h, hl => by
    obtain ⟨e1, h1, h2⟩ := h a (by simp)
    rw [List.length_cons] at hl
    rw [List.map_cons, lcL, if_pos hk]
    simp only [h1, cYes, h2]
    rw [if_pos (by omega), lc_mapC hk emb ψ items _ (fun x hx => h x (by simp [hx])) (by rw [List.length_append, List.length_singleton]; omega)]
    simp
theorem srcL_cell {n : Nat} {l : List D} {S : Store} (h : S[n]? = some (.lst l)) : srcL (.cell n) S = .ok ⟨l, fun S' => S'[n]? = some (.lst l)⟩ S := by
  unfold srcL
  simp only [h]
end
end Dv
/-! # Dv13: exceptions: raised, caught, kept as values -/
namespace Dv
open PySem PySem.Spec PyProof.Rows L2

/-! ### an object that wasn't tracked is tracked -/
section
variable {X : Cx} {pins : List (Addr × Obj)} {σ : L2.St} {H : Hp} {s : Shared}
theorem inv_adopt {a : Addr} {o : HO} (I : Inv X pins σ H s) (na : H a = none) (nL : a ≠ X.env.locals) (nC : ∀ x c, X.env.cells.lookup x = some c → c ≠ a) (nP : ∀ p ∈ X.pn ++ pins, p.1 ≠ a) (n0 : X.s_0.heap.get? a = none)
    (new : ObjOk X.prog X.w (upd H a o) s.heap a o) : Inv X pins σ (upd H a o) s := by
  have ne0 : ∀ b ob, X.s_0.heap.get? b = some ob → b ≠ a := fun b ob e z => by
    rw [z, n0] at e
    cases e
  refine ⟨I.ok, I.os, I.bare, ⟨I.base.keep, I.base.slot, fun b ob q n hx => ?_, I.base.there, fun b xs q => ?_, fun b ob u q => ?_, fun b ps q => ?_⟩, I.loc, I.cell, ?_, fun x c e => ?_, fun p hp => ?_, fun b u e => ?_, I.len⟩
  · rw [upd_ne (ne0 b ob q)]
    exact I.base.free b ob q n hx
  · have z := I.base.tups b xs q
    rw [upd_ne (ne_of_none z na)]
    exact z
  · have z := I.base.frzs b ob u q
    rw [upd_ne (ne_of_none z na)]
    exact z
  · obtain ⟨m, z⟩ := I.base.tbls b ps q
    exact ⟨m, by rw [upd_ne (ne_of_none z na)]; exact z⟩
  · rw [upd_ne (Ne.symm nL)]
    exact I.free
  · rw [upd_ne (nC x c e)]
    exact I.freeC x c e
  · obtain ⟨e, n, r⟩ := I.pin p hp
    exact ⟨e, by rw [upd_ne (nP p hp)]; exact n, r⟩
  · by_cases hb : b = a
    · subst hb
      rw [upd_same] at e
      cases e
      exact new
    · rw [upd_ne hb] at e
      exact (I.hok b u e).stay (fun c v _ q => q) (fun c q => by rw [upd_ne (ne_of_none q na)]; exact q) fun c xs q => by rw [upd_ne (ne_of_none q na)]; exact q
theorem exh_ok {P : Program} {w : World} {h : Heap} {a : Addr} {cls : Value} {d : Option Addr} {oe : Obj} {vs : Array Value} (e : h.get? a = some oe) (z : Zc cls d oe) (f : oe.data = .fields vs) : ObjOk P w H h a (ExH cls d a) :=
  ⟨⟨oe, vs, e, z, f⟩, ⟨oe, e⟩, fun _ _ ⟨o, v, q, r⟩ k => ⟨o, v, k o q, r⟩⟩
end
/-- as wAs; behind the suite the exception is tracked -/
def wKeep (K : PySem.W.Frag) (c : Value) (i : Nat) (ts : Addr → Value → Option Addr → TS) (Wout : WX) (D : Ends) : WX := fun cls d σ H =>
  ∃ b, PySem.W.exmOne K cls c = some b ∧ (b = true → ∀ a, H a = none → ts a cls d { nx := fun σ' H' => D.nx (σ'.set i none) (upd H' a (ExH cls d a)), rt := fun v H' => D.rt v (upd H' a (ExH cls d a)), bk := fun σ' H' => D.bk (σ'.set i none) (upd H' a (ExH cls d a)), ct := fun σ' H' => D.ct (σ'.set i none) (upd H' a (ExH cls d a)) } (σ.set i (some (.ref a))) H) ∧
    (b = false → Wout cls d σ H)
section
variable {X : Cx} {x n : Str} {c : Value} {i : Nat} {body suite : List Stmt} {b₀ : Stmt} {np pos pos' : Pos} {tb : WX → TS} {ts : Addr → Value → Option Addr → TS} {Wout : WX}
theorem ps_try_keep (hs : X.stack = X.env :: X.outer) (hf : X.env.frame = some X.env.locals) (hex : X.ex = []) (hN : X.N.Nodup) (hi : X.N[i]? = some n) (hln : X.env.kindOf n = some .local) (hc : Names X x c) (tk : Takes X Wout)
    (hb : ∀ (W : WX) (pn : List (Addr × Obj)) (xe : Value → Shared → Prop), Takes (X.tr pn xe) W → PassesOwn (model X.prog X.w) X.A X.env xe → PSs (X.tr pn xe) body (tb W))
    (hsu : ∀ (a : Addr) (oe : Obj) (cls : Value) (d : Option Addr) (pn : List (Addr × Obj)), Zc cls d oe → (∃ vs, oe.data = .fields vs) → PSs (X.suite a ((a, oe) :: pn)) (b₀ :: suite) (ts a cls d)) :
    PS X (.Try body [.ExceptHandler (some (.Name x np)) (some n) (b₀ :: suite) pos'] [] [] pos) (fun D σ H => tb (wKeep X.K c i ts Wout D) D σ H) := by
  refine ⟨fun pins s σ H D I h => ?_⟩
  have ok := I.ok
  have hfr : X.A.frames = some (X.env :: X.outer) := by rw [ok.frames, hs]
  have hloc : Loc X.env.scope n := .inl hln
  refine wpAny_Try_except ?_
  refine wpAny_mono ((hb (wKeep X.K c i ts Wout D) (X.pn ++ pins) (fun e s₁ => wpAny (model X.prog X.w) X.A (noteFrame e X.env) (fun _ s₂ => wpAny (model X.prog X.w) X.A (setFlight e none) (fun _ s₃ =>
    wpAny (model X.prog X.w) X.A (handleBy e X.env [.ExceptHandler (some (.Name x np)) (some n) (b₀ :: suite) pos']) (SP X pins D) X.xe s₃) X.xe s₂) X.xe s₁) (fun u s' xx => ?_) PassesOwn.looking).run [] s σ H D (I.toTry _) h) (fun f s1 hsp => ?_) (fun e s1 he => he)
  · -- the catch
    obtain ⟨a, B, sI, pins', σ', H', cls, d, rfl, J', nb, up, sky, na, os, ag, b, hb1, hyes, hno⟩ := xx
    have J : Inv X pins σ' H' sI := J'.ofTry ok
    have sky' : Sky B (X.env :: X.outer) a (Zc cls d) X.env.locals s'.heap := by rw [← hs]; exact sky
    show wpAny _ X.A (noteFrame (.ref a) X.env) _ _ _
    refine Sky.land Zc.steady hfr hf sky' fun h3 fl3 up3 => ?_
    have J3 : Inv X pins σ' H' { s' with heap := h3 } := J.landed nb fl3.1 (up.trans up3) os ag
    obtain ⟨oe3, vs3, he3, hz3, hd3⟩ := fl3.there
    have notFr : ∀ {h : Heap} {o : Obj} {vs : Array Value}, h.FunFrames B (X.env :: X.outer) → h.get? a = some o → o.data = .fields vs → a ∉ frs (X.env :: X.outer) := fun {h o vs} ff e dd hm => by
      obtain ⟨_, o', e', hnf⟩ := ff.mem hm
      rw [e] at e'; cases e'
      exact hnf _ dd
    have nfr := notFr fl3.2.2.1 he3 hd3
    have nL : a ≠ X.env.locals := fun z => nfr (List.mem_filterMap.mpr ⟨X.env, List.mem_cons_self, by rw [hf, z]⟩)
    have nF : a ∉ X.fs := fun hm => by
      obtain ⟨e, he, q⟩ := List.mem_filterMap.mp hm
      exact nfr (List.mem_filterMap.mpr ⟨e, List.mem_cons_of_mem _ he, q⟩)
    -- what was there is not the exception
    have old : ∀ b ob, sI.heap.get? b = some ob → b ≠ a := fun b ob e z => by
      have hbf : b ∉ frs X.stack := fun hm => by
        rw [hs] at hm
        exact nfr (by rw [← z]; exact hm)
      have q := nb b ob e hbf
      rw [z, fl3.2.1] at q
      cases q
    have n0 : X.s_0.heap.get? a = none := by
      cases e : X.s_0.heap.get? a with
      | none => rfl
      | some ob =>
        obtain ⟨o', q⟩ := J.base.there a ob e (by rw [hex]; exact fun z => nomatch z)
        exact (old a o' q rfl).elim
    have nC : ∀ x c, X.env.cells.lookup x = some c → c ≠ a := fun x c e => by
      obtain ⟨v, ob, q, _⟩ := J.cell x c e
      exact old c ob q
    have nP : ∀ p ∈ X.pn ++ pins, p.1 ≠ a := fun p hp => old p.1 p.2 (J.pin p hp).1
    have S3 := J3.suite he3 hd3 na nL nF
    refine wpAny_handleBy_cons (codeAny_handlers_test ?_) (by intro q; cases q)
    have LT : PySem.W.Looks (model X.prog X.w) h3 (typeOf (.ref a)) cls := fun A Q E s k q => wpAny_typeOf_ref (k _ _ he3) (by rw [hz3.1]; exact q)
    have LM := PySem.W.exm_one (M := model X.prog X.w) (J3.kIn) LT hb1
    have test : ∀ {Q : Value → Shared → Prop} {E : Value → Shared → Prop}, Q c { s' with heap := h3 } → wpAny (model X.prog X.w) (X.A.mark (some (.ref a))) (eval (.Name x np) X.env) Q E { s' with heap := h3 } := fun {Q E} q => by
      obtain ⟨hg, hdbg, hm | ⟨hm, hv, hnn⟩⟩ := hc
      · exact ld_glob (X := X.suite a ((a, oe3) :: (X.pn ++ pins))) S3 hg hm q hdbg
      · exact ld_blt (X := X.suite a ((a, oe3) :: (X.pn ++ pins))) S3 hg hm hv q hnn hdbg
    refine test (LM.here ?_)
    cases b with
    | true =>
      refine codeAny_handlers_suite_as ?_
      refine HandSPX.lands_againZ fl3 fun h4 fl4 up4 => ?_
      have J4 : Inv X pins σ' H' { s' with heap := h4 } := J.landed nb fl4.1 ((up.trans up3).trans up4) os ag
      obtain ⟨oe4, vs4, he4, hz4, hd4⟩ := fl4.there
      have S4 := J4.suite he4 hd4 na nL nF
      refine store_ok (X := X.suite a ((a, oe4) :: (X.pn ++ pins))) (v := .ref a) S4 hN hi hloc rfl (fun s5 S5 => ?_) (.inr hln)
      refine wpAny_mono ((hsu a oe4 cls d (X.pn ++ pins) hz4 ⟨_, hd4⟩).run [] s5 _ H' _ S5 (hyes rfl a na)) (fun f s6 hsp => ?_) (fun _ _ z => False.elim z)
      have end_ : ∀ {σ6 : L2.St} {H6 : Hp} {Q : Shared → Prop}, Inv (X.suite a ((a, oe4) :: (X.pn ++ pins))) [] σ6 H6 s6 → (∀ s7, Inv X pins (σ6.set i none) (upd H6 a (ExH cls d a)) s7 → Q s7) →
          wpAny (model X.prog X.w) X.A (do bindName X.env n .none; unbindBehindTheSuite X.env n pos') (fun _ s7 => Q s7) X.xe s6 := fun {σ6 H6 Q} S6 hq => by
        obtain ⟨e6, n6, _⟩ := S6.pin (a, oe4) (List.mem_append_left _ List.mem_cons_self)
        exact gone_ok (inv_adopt (S6.unsuite ok) n6 nL nC nP n0 (exh_ok e6 hz4 hd4)) hN hi hln hq
      cases f with
      | next =>
        obtain ⟨σ6, H6, S6, q6⟩ := hsp
        exact end_ S6 fun s7 J7 => ⟨_, _, J7, q6⟩
      | brk =>
        obtain ⟨σ6, H6, S6, q6⟩ := hsp
        exact end_ S6 fun s7 J7 => ⟨_, _, J7, q6⟩
      | cont =>
        obtain ⟨σ6, H6, S6, q6⟩ := hsp
        exact end_ S6 fun s7 J7 => ⟨_, _, J7, q6⟩
      | ret u =>
        obtain ⟨v6, σ6, H6, S6, r6, q6⟩ := hsp
        exact end_ S6 fun s7 J7 => ⟨_, _, _, J7, r6, q6⟩
    | false =>
      show wpAny _ X.A (handleBy (.ref a) X.env []) _ _ _
      refine wpAny_handleBy_nil ?_
      obtain ⟨k1, k2, k3, oe, vs, T, oT, ts', he, hz, hd, h1, hr⟩ := id fl3
      unfold PySem.passOn
      refine wpAny_bind (wpAny_field he hd h1 ?_)
      rw [if_neg (show ¬ ((Value.ref T == Value.none) = true) from by simp)]
      have fin : wpAny (model X.prog X.w) X.A (setFlight (.ref a) X.env.frame) (fun _ s4 => wpAny (model X.prog X.w) X.A (throw (.ref a) : Sem Flow) (SP X pins D) X.xe s4) X.xe { s' with heap := h3 } := by
        rw [hf]
        refine HandSPX.setFlight_upZ fl3 fun h4 hh4 up4 => wpAny_throw (tk _ _ ?_)
        exact ⟨a, B, sI, pins, σ', H', cls, d, rfl, J, nb, (up.trans up3).trans up4, .inr (.inr (by rw [hs]; exact hh4)), na, os, ag, hno rfl⟩
      first
        | exact wpAny_bind (wpAny_pure (wpAny_bind fin))
        | exact wpAny_bind fin
  · cases f with
    | next =>
      obtain ⟨σ', H', J', q⟩ := hsp
      exact wpAny_execs_nil ⟨σ', H', J'.ofTry ok, q⟩
    | brk =>
      obtain ⟨σ', H', J', q⟩ := hsp
      exact ⟨σ', H', J'.ofTry ok, q⟩
    | cont =>
      obtain ⟨σ', H', J', q⟩ := hsp
      exact ⟨σ', H', J'.ofTry ok, q⟩
    | ret u =>
      obtain ⟨v, σ', H', J', r, q⟩ := hsp
      exact ⟨v, σ', H', J'.ofTry ok, r, q⟩
end

/-! ### the classes -/
abbrev veMro : List Value := [.type "ValueError", .type "Exception", .type "BaseException", .type "object"]
/-- a class of the program, as a name of its own -/
structure Cl (K : PySem.W.Frag) (mg : Str → Option Value) (c : Str) (C : Addr) : Prop where
  n : PySem.W.nsIn K mainGlobals c = some (some (.ref C))
  g : mg c = some (.ref C)
  i : PySem.W.isClsIn K C = true
  t : PySem.W.typeIn K (.ref C) = some (.type "type")
/-- one that is raised -/
structure Rc (K : PySem.W.Frag) (mg : Str → Option Value) (c : Str) (C : Addr) : Prop extends Cl K mg c C where
  k : PySem.W.keepIn K (.ref C) = true
  b : PySem.W.subIn K (.ref C) (.type "BaseException") = some true
  s : PySem.W.subIn K (.ref C) (.ref C) = some true
  e : ExcC K C
/-- the answers about subclasses -/
def SubOk (K : PySem.W.Frag) (p : Str × Str × Bool) : Prop := ∀ C D, ClsAt K p.1 C → ClsAt K p.2.1 D → PySem.W.kitOne K (.ref C) (.ref D) = some p.2.2
def subT (L : List (Str × Str × Bool)) (c d : Str) : Option Bool := (L.find? fun p => p.1 == c && p.2.1 == d).map (·.2.2)
theorem subT_mem {L : List (Str × Str × Bool)} {c d : Str} {b : Bool} (h : subT L c d = some b) : (c, d, b) ∈ L := by
  unfold subT at h
  cases q : L.find? fun p => p.1 == c && p.2.1 == d with
  | none => rw [q] at h; cases h
  | some p =>
    rw [q] at h
    have e := Option.some.inj h
    have m := List.mem_of_find?_eq_some q
    have z := List.find?_some q
    rw [Bool.and_eq_true] at z
    obtain ⟨p1, p2, p3⟩ := p
    have e1 : p1 = c := eq_of_beq z.1
    have e2 : p2 = d := eq_of_beq z.2
    have e3 : p3 = b := e
    subst e1 e2 e3
    exact m
theorem cls_some {K : PySem.W.Frag} {C : Addr} (h : PySem.W.isClsIn K C = true) : (PySem.W.clsIn K C).isSome = true := h
theorem sub_ok {K : PySem.W.Frag} {mg : Str → Option Value} {c d : Str} {C D : Addr} {b : Bool} (h1 : Rc K mg c C) (h2 : Cl K mg d D) (h : PySem.W.subIn K (.ref C) (.ref D) = some b) : SubOk K (c, d, b) := fun C' D' e1 e2 => by
  have e3 : C = C' := ClsAt.uniq h1.n e1
  have e4 : D = D' := ClsAt.uniq h2.n e2
  subst e3 e4
  unfold PySem.W.kitOne
  by_cases q : (Value.ref C == Value.ref D) = true
  · rw [if_pos q]
    have e : C = D := Value.ref.inj (beq_iff_eq.mp q)
    subst e
    rw [h1.s] at h
    exact h
  · rw [if_neg q]
    have z : ((PySem.W.clsIn K D).isSome && PySem.W.typeIn K (.ref D) == some (.type "type")) = true := by rw [cls_some h2.i, h2.t] <;> rfl
    show (if ((PySem.W.clsIn K D).isSome && PySem.W.typeIn K (.ref D) == some (.type "type")) = true then PySem.W.subIn K (.ref C) (.ref D) else none) = some b
    rw [if_pos z]
    exact h
/-- except D -/
def CatchOk (K : PySem.W.Frag) (p : Str × Str × Bool) : Prop := ∀ C D, ClsAt K p.1 C → ClsAt K p.2.1 D → PySem.W.exmOne K (.ref C) (.ref D) = some p.2.2
theorem catch_ok {K : PySem.W.Frag} {mg : Str → Option Value} {c d : Str} {C D : Addr} {b : Bool} (h1 : Rc K mg c C) (h2 : Cl K mg d D) (h : PySem.W.subIn K (.ref C) (.ref D) = some b) (hb : PySem.W.subIn K (.ref D) (.type "BaseException") = some true) : CatchOk K (c, d, b) := fun C' D' e1 e2 => by
  have e3 : C = C' := ClsAt.uniq h1.n e1
  have e4 : D = D' := ClsAt.uniq h2.n e2
  subst e3 e4
  have z1 : (PySem.W.subIn K (.ref D) (.type "BaseException") == some true) = true := by rw [hb] <;> rfl
  have z : ((PySem.W.clsIn K D).isSome && PySem.W.typeIn K (.ref D) == some (.type "type")) = true := by rw [cls_some h2.i, h2.t] <;> rfl
  show (if (PySem.W.subIn K (.ref D) (.type "BaseException") == some true) = true then (if ((PySem.W.clsIn K D).isSome && PySem.W.typeIn K (.ref D) == some (.type "type")) = true then PySem.W.subIn K (.ref C) (.ref D) else none) else none) = some b
  rw [if_pos z1, if_pos z]
  exact h

theorem all_c {α : Type} {P : α → Prop} {a : α} {l : List α} (h : P a) (t : ∀ x ∈ l, P x) : ∀ x ∈ a :: l, P x := List.forall_mem_cons.mpr ⟨h, t⟩
theorem all_n {α : Type} {P : α → Prop} : ∀ x ∈ ([] : List α), P x := fun x h => nomatch h
theorem ec_of {K : PySem.W.Frag} {mg : Str → Option Value} {c : Str} {C : Addr} (h1 : Rc K mg c C) : ∀ C', ClsAt K c C' → ExcC K C' := fun C' e1 => by
  have e3 : C = C' := ClsAt.uniq h1.n e1
  subst e3
  exact h1.e
/-! ### raise -/
def yRaise (c : Str) : Env → Store → Out := fun e S => .exc ⟨c, none⟩ e S
section
variable {X : Cx} {W : WX} {x m : Str} {j : Nat} {p p2 pos pos2 : Pos} {C : Addr}
theorem psd_raise (hc : X.calm = true) (tk : Takes X W) (R : Rc X.K X.mg x C) (q : PySem.W.excIn X.K C veMro "ValueError.__new__" = true) (hg : Gl X x := by rfl) (hdb : (x == ("__debug__" : Str)) = false := by decide) :
    PSD X W (.Raise (some (.Call (.Name x p) [.Constant (.str m) j p2] [] pos)) none pos2) (yRaise x) := by
  refine weakS (ps_raise hc tk (pmk_own PySem.F.excBase_ValueError q R.g R.k (raises_own R.b R.t) hg hdb)) fun D σ H ⟨w, env, eH, hw, he, hs⟩ => ?_
  subst eH
  exact hs w σ (.ref C) none (Go.refl hw) rfl he ⟨C, R.n, rfl, rfl⟩
end

/-! ### try .. except D as e: y = e -/
def yTryKeep (L : List (Str × Str × Bool)) (d : Str) (i j : Nat) (g : Env → Store → Out) : Env → Store → Out := fun e S => match g e S with
  | .exc x e' S' => match subT L x.cls d with
    | some true => match e'[i]? with
      | some _ => .nx ((e'.set j (some (.exn x.cls x.val))).set i none) S'
      | none => .bad
    | some false => .exc x e' S'
    | none => .bad
  | o => o
section
variable {X : Cx} {W : WX} {x n y : Str} {i j : Nat} {body : List Stmt} {np pos pos' py pe ps : Pos} {g : Env → Store → Out} {L : List (Str × Str × Bool)} {Dc : Addr}
theorem psd_tryKeep (hs : X.stack = X.env :: X.outer) (hf : X.env.frame = some X.env.locals) (hex : X.ex = []) (hN : X.N.Nodup) (hi : X.N[i]? = some n) (hj : X.N[j]? = some y) (hij : i ≠ j) (hln : X.env.kindOf n = some .local) (hly : X.env.scope.names.lookup y = some .local) (tk : Takes X W)
    (hg : Gl X x) (hd : Cl X.K X.mg x Dc) (hL : ∀ p ∈ L, CatchOk X.K p)
    (hb : ∀ (W : WX) (pn : List (Addr × Obj)) (xe : Value → Shared → Prop), Takes (X.tr pn xe) W → PassesOwn (model X.prog X.w) X.A X.env xe → PSsD (X.tr pn xe) W body g)
    (hsw : swapsWith (.Name n pe) (some (.Name y py)) ps.line X.env = pure false := by rfl) (hdb : (x == ("__debug__" : Str)) = false := by decide) (hn1 : (n == ("__debug__" : Str)) = false := by decide) (hn2 : (n == ("__classdict__" : Str)) = false := by decide) :
    PSD X W (.Try body [.ExceptHandler (some (.Name x np)) (some n) [.Assign [.Name y py] (.Name n pe) ps] pos'] [] [] pos) (yTryKeep L x i j g) := by
  refine weakS (ps_try_keep (i := i) (c := .ref Dc) (tb := fun W => sD (kt X) W g) (ts := fun _ _ _ => tAsg (tVar i) (gName j)) hs hf hex hN hi hln ⟨hg, hdb, .inl hd.g⟩ tk (fun W pn xe tk' pas => hb W pn xe tk' pas)
    (fun a oe cls d pn hz hf' => pss_one (ps_set (i := j) hN hj (.inl hly) (pe_var (i := i) hi (.inl hln) hn1 hn2) hsw (.inr hly)))) fun D σ H ⟨w, env, eH, hw, he, hs⟩ => ⟨w, env, eH, hw, he, ?_⟩
  unfold yTryKeep at hs
  cases o : g env w.S with
  | nx e S => rw [o] at hs; exact hs
  | rt e S => rw [o] at hs; exact hs
  | bk e S => rw [o] at hs; exact hs
  | ct e S => rw [o] at hs; exact hs
  | bad => rw [o] at hs; exact hs
  | exc z e' S' =>
    rw [o] at hs
    intro w' σ' cls dd g' eS he' hx
    obtain ⟨C, c1, rfl, c3⟩ := hx
    cases q : subT L z.cls x with
    | none => simp only [q] at hs; exact hs.elim
    | some b =>
      refine ⟨b, hL _ (subT_mem q) C Dc c1 hd.n, fun hb a na => ?_, fun hb => ?_⟩
      · subst hb
        simp only [q] at hs
        cases qi : e'[i]? with
        | none => simp only [qi] at hs; exact hs.elim
        | some oo =>
          simp only [qi] at hs
          have hlt : i < σ'.length := by
            rw [← he'.1]
            exact (List.getElem?_eq_some_iff.mp qi).1
          refine ⟨.ref a, List.getElem?_set_self hlt, ?_⟩
          have ga := Go.alloc (o := ExH (.ref C) dd a) g'.wd na
          have r2 : Rp X.K w'.r (upd w'.F a (ExH (.ref C) dd a)) (.exn z.cls z.val) (.ref a) := by
            unfold Rp
            exact ⟨a, C, dd, rfl, c1, upd_same, c3.mono ga.F⟩
          have he2 := (((he'.go ga).set (i := j) r2).unset (i := i))
          have es : ((σ'.set i (some (V.ref a))).set j (some (V.ref a))).set i none = (σ'.set j (some (V.ref a))).set i none := by
            apply List.ext_getElem?
            intro k
            simp only [List.getElem?_set, List.length_set]
            by_cases hk : i = k
            · simp [hk]
            · simp [hk]
          show D.nx (((σ'.set i (some (V.ref a))).set j (some (V.ref a))).set i none) _
          rw [es]
          exact hs ⟨w'.r, upd w'.F a (ExH (.ref C) dd a), w'.S, upd w'.H a (ExH (.ref C) dd a)⟩ _ (g'.trans ga) eS he2
      · subst hb
        simp only [q] at hs
        exact hs w' σ' _ dd g' eS he' ⟨C, c1, rfl, c3⟩
end

/-! ### isinstance of what was caught; its field -/
def VeOk (K : PySem.W.Frag) (c : Str) : Prop := ∀ C, ClsAt K c C → PySem.W.kitOne K (.ref C) (.type "ValueError") = some true
theorem ve_ok {K : PySem.W.Frag} {mg : Str → Option Value} {c : Str} {C : Addr} (h1 : Rc K mg c C) (h : PySem.W.subIn K (.ref C) (.type "ValueError") = some true) : VeOk K c := fun C' e1 => by
  have e3 : C = C' := ClsAt.uniq h1.n e1
  subst e3
  have q : ¬ (Value.ref C == Value.type "ValueError") = true := by
    intro z
    have e := beq_iff_eq.mp z
    cases e
  unfold PySem.W.kitOne
  rw [if_neg q]
  show (if PySem.W.kitMeta "ValueError" = true then PySem.W.subIn K (.ref C) (.type "ValueError") else none) = some true
  rw [if_pos (by decide +kernel)]
  exact h
/-- what is asked of the classes that may be caught -/
structure XcOk (K : PySem.W.Frag) (L : List (Str × Str × Bool)) (R : List Str) : Prop where
  sub : ∀ p ∈ L, SubOk K p
  ve : ∀ c ∈ R, VeOk K c
  ec : ∀ c ∈ R, ∀ C, ClsAt K c C → ExcC K C
def anyE (L : List (Str × Str × Bool)) (c : Str) : List D → Option Bool
  | [] => some false
  | .cls d :: l => match subT L c d, anyE L c l with
    | some a, some b => some (a || b)
    | _, _ => none
  | _ => none
def bIsE (L : List (Str × Str × Bool)) (R : List Str) (l : List D) (S : Store) : Res D := match l with
  | [.exn c _, .tup l] => if c ∈ R then match anyE L c l with
      | some b => .ok (.bl b) S
      | none => .bad
    else .bad
  | [.exn c _, .cls d] => if c ∈ R then match subT L c d with
      | some b => .ok (.bl b) S
      | none => .bad
    else .bad
  | [.exn c _, .raw v] => if c ∈ R ∧ v = .ty "ValueError" then .ok (.bl true) S else .bad
  | _ => .bad
def rIsX (K : PySem.W.Frag) : List V → Hp → VK → Prop := fun xs H Q => ∃ (a C : Addr) (d : Option Addr) (c : V) (cv : Value) (b : Bool), xs = [.ref a, c] ∧ (∀ u, RelV c u → u = cv) ∧ H a = some (ExH (.ref C) d a) ∧ (∀ b, d = some b → ∃ o, H b = some o) ∧ ExcC K C ∧ PySem.W.kitOne K (.ref C) cv = some b ∧ Q (.bl b) H
theorem exh_at {P : Program} {w : World} {H : Hp} {h : Heap} {a C : Addr} {d : Option Addr} (hok : HOk P w H h) (e : H a = some (ExH (.ref C) d a)) (hd : ∀ b, d = some b → ∃ o, H b = some o) : ∃ oe od, PySem.W.InstAt h a oe C od ∧ ∀ b, d = some b → ∃ o, od = some o ∧ h.get? b = some o := by
  have z : ObjOk P w H h a (ExH (.ref C) d a) := hok a _ e
  obtain ⟨⟨oe, vs, h1, h2, h3⟩, _, _⟩ := z
  obtain ⟨oc, odd, oda, osl⟩ := oe
  obtain ⟨h4, h5⟩ := h2
  dsimp only at h3 h4 h5
  subst h3 h4 h5
  cases odd with
  | none => exact ⟨_, none, ⟨h1, rfl, rfl, trivial⟩, fun b q => by cases q⟩
  | some b =>
    obtain ⟨o, q⟩ := hd b rfl
    obtain ⟨ob, eb⟩ := objOk_get (hok b o q)
    exact ⟨_, some ob, ⟨h1, rfl, rfl, eb⟩, fun b' q' => by cases q'; exact ⟨ob, rfl, eb⟩⟩
section
variable {X : Cx} {W : WX}
theorem call_isX : CallR X (.builtin "isinstance") (rIsX X.K) := by
  intro pins s σ H xs us Q I r h
  obtain ⟨a, C, d, c, cv, b, rfl, hcv, ha, hd, E, e, q⟩ := h
  obtain ⟨u1, u2, rfl, r1, r2⟩ := vals2 r
  cases (show u1 = Value.ref a from r1)
  have ec := hcv _ r2
  subst ec
  obtain ⟨oe, od, J, _⟩ := exh_at I.hok ha hd
  have hcl : (PySem.W.clsIn X.K C).isSome = true := by obtain ⟨cd, hc, _⟩ := PySem.W.any_some E.hd; rw [hc]; rfl
  exact PySem.W.kia_one (PySem.W.kitx_exc hcl E.hg E.hk E.hs E.ha E.hn E.ht E.hm) I.kIn J e (fun z => nomatch z) fun tk => ⟨.bl b, H, I.tok tk, rfl, q⟩
def rIsXT (K : PySem.W.Frag) : List V → Hp → VK → Prop := fun xs H Q => ∃ (a C : Addr) (d : Option Addr) (tp : Addr) (vs : List V) (us : List Value) (b : Bool), xs = [.ref a, .ref tp] ∧ Rd H tp (.tup vs) ∧ (∀ ws, Vals vs ws → ws = us) ∧ H a = some (ExH (.ref C) d a) ∧ (∀ b, d = some b → ∃ o, H b = some o) ∧ ExcC K C ∧ PySem.W.kitAny K (.ref C) us = some b ∧ Q (.bl b) H
theorem call_isXT : CallR X (.builtin "isinstance") (rIsXT X.K) := by
  intro pins s σ H xs us Q I r h
  obtain ⟨a, C, d, tp, vs, ws, b, rfl, hT, hcv, ha, hd, E, e, q⟩ := h
  obtain ⟨u1, u2, rfl, r1, r2⟩ := vals2 r
  cases (show u1 = Value.ref a from r1)
  cases (show u2 = Value.ref tp from r2)
  obtain ⟨oe, od, J, _⟩ := exh_at I.hok ha hd
  have hcl : (PySem.W.clsIn X.K C).isSome = true := by obtain ⟨cd, hc, _⟩ := PySem.W.any_some E.hd; rw [hc]; rfl
  obtain ⟨_, its, rv, o, h1, h2, n, h3⟩ := (show ObjOk X.prog X.w H s.heap tp (.tup vs) from hT.ok I.hok)
  have e3 := hcv _ rv
  subst e3
  obtain ⟨oc, odd, dt, sl⟩ := o
  simp only at h2 h3
  subst h2 h3
  exact PySem.W.kia_tup (PySem.W.kitx_exc hcl E.hg E.hk E.hs E.ha E.hn E.ht E.hm) I.kIn J h1 e (fun z => nomatch z) fun tk => ⟨.bl b, H, I.tok tk, rfl, q⟩
theorem any_ok {K : PySem.W.Frag} {L : List (Str × Str × Bool)} {r : List Addr} {F : Hp} {c : Str} {C : Addr} (hx : ∀ p ∈ L, SubOk K p) (hC : ClsAt K c C) : ∀ {l : List D} {vs : List V} {b : Bool}, Rps K r F l vs → anyE L c l = some b → ∃ us : List Value, (∀ ws, Vals vs ws → ws = us) ∧ PySem.W.kitAny K (.ref C) us = some b
  | [], vs, b, h, e => by
    rw [h.nil_inv]
    cases e
    exact ⟨[], fun ws q => by cases q; rfl, rfl⟩
  | .cls d :: l, vs, b, h, e => by
    obtain ⟨v, t, rfl, h1, h2⟩ := h.cons_inv
    unfold Rp at h1
    obtain ⟨D, hD, rfl⟩ := h1
    have us_of : ∀ {us : List Value}, (∀ ws, Vals t ws → ws = us) → ∀ ws, Vals (V.ref D :: t) ws → ws = Value.ref D :: us := fun {us} hu ws q => by
      cases q with
      | cons q1 q2 =>
        rw [hu _ q2, show _ = Value.ref D from q1]
    unfold anyE at e
    cases q : subT L c d with
    | none => rw [q] at e; cases e
    | some k =>
      cases q2 : anyE L c l with
      | none => rw [q, q2] at e; cases e
      | some k2 =>
        rw [q, q2] at e
        cases e
        have hk := hx _ (subT_mem q) C D hC hD
        obtain ⟨us, h3, h4⟩ := any_ok hx hC h2 q2
        refine ⟨_, us_of h3, ?_⟩
        unfold PySem.W.kitAny
        rw [hk]
        cases k with
        | true => rfl
        | false => exact h4
  | .non :: _, _, _, _, e => by cases e
  | .bl _ :: _, _, _, _, e => by cases e
  | .int _ :: _, _, _, _, e => by cases e
  | .str _ :: _, _, _, _, e => by cases e
  | .tup _ :: _, _, _, _, e => by cases e
  | .lst _ :: _, _, _, _, e => by cases e
  | .scr _ :: _, _, _, _, e => by cases e
  | .cell _ :: _, _, _, _, e => by cases e
  | .raw _ :: _, _, _, _, e => by cases e
  | .exn _ _ :: _, _, _, _, e => by cases e
theorem fld_some {F H : Hp} (s : Same F H) {d : Option Addr} {f : Option (Str × Int)} (h : FldOk F d f) : ∀ b, d = some b → ∃ o, H b = some o := fun b e => by
  cases f with
  | none =>
    have z : d = none := h
    rw [z] at e
    cases e
  | some p =>
    obtain ⟨b', e', q⟩ := h
    rw [e'] at e
    cases e
    exact ⟨_, s _ _ q⟩
theorem cd_isE {L : List (Str × Str × Bool)} {R : List Str} (hx : XcOk X.K L R) : CallD X (.builtin "isinstance") (bIsE L R) := ⟨_, call_isX.or call_isXT, fun w xs ds W σ Q hw r hs => by
  unfold bIsE at hs
  split at hs
  · rename_i c f l
    obtain ⟨v, u, rfl, rv, ru⟩ := two_inv r
    unfold Rp at rv ru
    obtain ⟨a, C, dd, rfl, hC, hF, hf⟩ := rv
    obtain ⟨tp, vs, rfl, hT, hvs⟩ := ru
    obtain ⟨hR, hs⟩ := satIf hs
    cases q : anyE L c l with
    | none => simp only [q] at hs; exact hs.elim
    | some b =>
      simp only [q] at hs
      obtain ⟨us, h1, h2⟩ := any_ok hx.sub hC hvs q
      exact .inr ⟨a, C, dd, tp, vs, us, b, rfl, rd_same hw.same hT, h1, hw.same _ _ hF, fld_some hw.same hf, hx.ec c hR C hC, h2, SatW.here hs hw rpb⟩
  · rename_i c f d
    obtain ⟨v, u, rfl, rv, ru⟩ := two_inv r
    unfold Rp at rv ru
    obtain ⟨a, C, dd, rfl, hC, hF, hf⟩ := rv
    obtain ⟨D, hD, rfl⟩ := ru
    obtain ⟨hR, hs⟩ := satIf hs
    cases q : subT L c d with
    | none => simp only [q] at hs; exact hs.elim
    | some b =>
      simp only [q] at hs
      exact .inl ⟨a, C, dd, _, .ref D, b, rfl, fun u e => e, hw.same _ _ hF, fld_some hw.same hf, hx.ec c hR C hC, hx.sub _ (subT_mem q) C D hC hD, SatW.here hs hw rpb⟩
  · rename_i c f v0
    obtain ⟨v, u, rfl, rv, ru⟩ := two_inv r
    unfold Rp at rv
    obtain ⟨a, C, dd, rfl, hC, hF, hf⟩ := rv
    cases rp_raw ru
    obtain ⟨⟨hR, he⟩, hs2⟩ := satIf hs
    rw [he]
    exact .inl ⟨a, C, dd, _, .type "ValueError", true, rfl, fun u e => e, hw.same _ _ hF, fld_some hw.same hf, hx.ec c hR C hC, hx.ve c hR C hC, SatW.here hs2 hw rpb⟩
  · exact hs.elim⟩
theorem pd_cls {x : Str} {C : Addr} {pos : Pos} (R : Cl X.K X.mg x C) (hg : Gl X x := by rfl) (hd : (x == ("__debug__" : Str)) = false := by decide) : PD X W (.Name x pos) (xC (.cls x)) := by
  refine weakE (pe_glob (v := V.ref C) hg R.g rfl hd) fun σ H Q ⟨w, env, eH, hw, he, hs⟩ => ?_
  subst eH
  exact SatW.here (d := D.cls x) (v := V.ref C) hs hw (by unfold RD Rp; exact ⟨C, R.n, rfl⟩)
/-- e.f -/
def xFldX (f : Str) (g : Env → M D) : Env → M D := fun e S => (g e S).bind fun d S1 => match d with
  | .exn _ (some (f', i)) => if f' = f then .ok (.int i) S1 else .bad
  | _ => .bad
theorem units65 {k : Nat} {A : Around} (r : Room k A) : A.units + 65 < cLine := by have := r.un; omega
/-! ### list.index, in: data of any depth -/
def mIndexD (x : D) (a : List D) (S : Store) : Res D := match a with
  | [k] => match toP S 60 k, toP S 60 x with
    | some d, some (.list ds) => match ds.findIdx? fun y => PyData.eqv y d with
      | some j => .ok (.int (j : Nat)) S
      | none => .bad
    | _, _ => .bad
  | _ => .bad
theorem dp_ref {K : PySem.W.Frag} {H : Hp} {v : V} {ds : List PyData} (h : Dp K H v (.list ds)) : ∃ a, v = .ref a := by
  cases h with
  | lst _ _ => exact ⟨_, rfl⟩
theorem md_indexD (hu : X.A.units + 65 < cLine) : MtD X "list.index" mIndexD := ⟨_, mt_indexD hu, fun w x xs d ds W σ Q hw r1 r2 hs => by
  unfold mIndexD at hs
  split at hs
  · rename_i k
    obtain ⟨v0, rfl, rv0⟩ := one_inv r2
    split at hs
    · rename_i p ps h1 h2
      have dp := toP_dp hw 60 d x _ h2 r1
      obtain ⟨a, rfl⟩ := dp_ref dp
      cases q : ps.findIdx? fun y => PyData.eqv y p with
      | none => simp only [q] at hs; exact hs.elim
      | some j =>
        simp only [q] at hs
        obtain ⟨hj, hz, hno⟩ := List.findIdx?_eq_some_iff_getElem.mp q
        refine ⟨a, v0, p, ps, j, ps[j], rfl, rfl, dp, toP_dp hw 60 k v0 p h1 rv0, shaped_of h2, shaped_of h1, List.getElem?_eq_getElem hj, hz, fun m z' hm e => ?_, SatW.here hs hw rpi⟩
        have := hno m hm
        rw [List.getElem?_eq_some_iff] at e
        obtain ⟨_, rfl⟩ := e
        simpa using this
    · exact hs.elim
  · exact hs.elim⟩
def dInD (neg : Bool) (x y : D) (S : Store) : Res D := match toP S 60 x, toP S 60 y with
  | some d, some (.list ds) => .ok (.bl (if neg then !ds.any (fun z => PyData.eqv z d) else ds.any fun z => PyData.eqv z d)) S
  | _, _ => .bad
theorem od_inD (hu : X.A.units + 65 < cLine) : OpD X (compareOp .In) (dInD false) := ⟨_, op_inD hu, fun w x y d e W σ Q hw r1 r2 hs => by
  unfold dInD at hs
  split at hs
  · rename_i p ps h1 h2
    exact ⟨p, ps, toP_dp hw 60 d x p h1 r1, toP_dp hw 60 e y _ h2 r2, shaped_of h1, shaped_of h2, SatW.here hs hw rpb⟩
  · exact hs.elim⟩
theorem od_notInD (hu : X.A.units + 65 < cLine) : OpD X (compareOp .NotIn) (dInD true) := ⟨_, op_notInD hu, fun w x y d e W σ Q hw r1 r2 hs => by
  unfold dInD at hs
  split at hs
  · rename_i p ps h1 h2
    exact ⟨p, ps, toP_dp hw 60 d x p h1 r1, toP_dp hw 60 e y _ h2 r2, shaped_of h1, shaped_of h2, SatW.here hs hw rpb⟩
  · exact hs.elim⟩
def FldC (K : PySem.W.Frag) (f : Str) (c : Str) : Prop := ∀ C, ClsAt K c C → PySem.W.findIn K (.ref C) f = some none ∧ XfC K C
end
end Dv
/-! # Dv14: reckoning with exceptions -/
namespace Dv
open PySem PySem.Spec PyProof.Rows L2
section
variable {oo : Option D} {ll : Env} {S S' : Store} {e e' : Env} {x : Exn} {c d : Str} {i j : Nat} {g : Env → Store → Out} {L : List (Str × Str × Bool)} {R : List Str} {Q : Pst}
@[simp] theorem yRaise_app : yRaise c (oo :: ll) S = .exc ⟨c, none⟩ (oo :: ll) S := rfl
@[simp] theorem yTry_nx (h : g e S = .nx e' S') : yTryKeep L d i j g e S = .nx e' S' := by simp only [yTryKeep, h]
theorem yTry_exc {o : Option D} (h : g e S = .exc x e' S') (hs : subT L x.cls d = some true) (hi : e'[i]? = some o) : yTryKeep L d i j g e S = .nx ((e'.set j (some (.exn x.cls x.val))).set i none) S' := by simp only [yTryKeep, h, hs, hi]
theorem enso_try (h : EnsO (g e S) Q) : EnsO (yTryKeep L d i j g e S) Q := by
  unfold yTryKeep
  cases o : g e S with
  | exc y e2 S2 => rw [o] at h; exact (h.go).elim
  | _ => rw [o] at h; exact h
/-- a body that tells or is caught -/
theorem enso_try2 (x : Exn) (hs : subT L x.cls d = some true) (h : EnsO (g e S) Q ∨ ∃ o, e[i]? = some o ∧ g e S = .exc x e S ∧ Q.nx ((e.set j (some (.exn x.cls x.val))).set i none) S) : EnsO (yTryKeep L d i j g e S) Q := by
  rcases h with h | ⟨o, hi, hg, q⟩
  · exact enso_try h
  · rw [yTry_exc hg hs hi, enso_nx]
    exact q
@[simp] theorem isE_cls {f : Option (Str × Int)} : bIsE L R [.exn c f, .cls d] S = if c ∈ R then match subT L c d with | some b => .ok (.bl b) S | none => .bad else .bad := rfl
@[simp] theorem isE_ty {f : Option (Str × Int)} {v : V} : bIsE L R [.exn c f, .raw v] S = if c ∈ R ∧ v = .ty "ValueError" then .ok (.bl true) S else .bad := rfl
@[simp] theorem isN_exn {f : Option (Str × Int)} : dIsN (.exn c f) .non S = .ok (.bl false) S := rfl
@[simp] theorem isN_non : dIsN .non .non S = .ok (.bl true) S := rfl
@[simp] theorem isN_int {k : Int} : dIsN (.int k) .non S = .ok (.bl false) S := rfl
@[simp] theorem isN_tup {l : List D} : dIsN (.tup l) .non S = .ok (.bl false) S := rfl
@[simp] theorem isN_lst {l : List D} : dIsN (.lst l) .non S = .ok (.bl false) S := rfl
@[simp] theorem isE_tup {f : Option (Str × Int)} {l : List D} : bIsE L R [.exn c f, .tup l] S = if c ∈ R then match anyE L c l with | some b => .ok (.bl b) S | none => .bad else .bad := rfl
@[simp] theorem anyE_nil : anyE L c [] = some false := rfl
@[simp] theorem anyE_cons {l : List D} : anyE L c (.cls d :: l) = match subT L c d, anyE L c l with | some a, some b => some (a || b) | _, _ => none := rfl
theorem toPs_bls {S : Store} {n : Nat} : ∀ cs : List Bool, toPs S n (cs.map D.bl) = some (cs.map PyData.bool)
  | [] => by simp [toPs]
  | c :: cs => by
    have e : toP S n (D.bl c) = some (.bool c) := by cases n <;> simp [toP]
    simp [toPs, e, toPs_bls cs]
/-- a def that raises -/
theorem fn_exc {np ns : Nat} {keep : Bool} {body : Env → Store → Out} {ds : List D} {e : Env} (hl : ds.length = np) (h : body (ds.map some ++ List.replicate (ns - np) none) S = .exc x e S) : fnD np ns keep body ds S = .exc x S := by
  unfold fnD
  rw [if_pos hl, h]
  simp [finX]
theorem fn_exc' {np ns : Nat} {keep : Bool} {body : Env → Store → Out} {ds : List D} {e : Env} {R : Store} (hl : ds.length = np) (hu : (S.all fun c => c.under S.length) = true) (h : body (ds.map some ++ List.replicate (ns - np) none) S = .exc x e (S ++ R)) : fnD np ns keep body ds S = .exc x S := by
  unfold fnD
  rw [if_pos hl, h]
  simp only [finX]
  by_cases z : (S ++ R).length = S.length
  · rw [if_pos z]
    have : R = [] := List.length_eq_zero_iff.mp (by rw [List.length_append] at z; omega)
    subst this
    simp
  · rw [if_neg z, List.take_left, hu]
    rfl
end
end Dv
/-! # Dv15: fractions in lowest terms are rational numbers -/
namespace Dv
open PySem PySem.Spec PyProof.Rows L2
/-- a fraction as the program has it -/
def fr (x : Rat) : D := .tup [.int x.num, .int x.den]
/-- the divisor with the lower part's sign -/
def gsr (a b : Int) : Int := if b < 0 then 0 - (Int.gcd a b : Int) else Int.gcd a b
theorem gsr_ne {a b : Int} (h : b ≠ 0) : gsr a b ≠ 0 := by
  have e : Int.gcd a b ≠ 0 := fun z => h (Int.gcd_eq_zero_iff.mp z).2
  unfold gsr
  split <;> omega
theorem gsr_dr (a b : Int) : gsr a b ∣ b := by
  unfold gsr
  split
  · rw [Int.zero_sub, Int.neg_dvd]; exact Int.gcd_dvd_right ..
  · exact Int.gcd_dvd_right ..
theorem gsr_dl (a b : Int) : gsr a b ∣ a := by
  unfold gsr
  split
  · rw [Int.zero_sub, Int.neg_dvd]; exact Int.gcd_dvd_left ..
  · exact Int.gcd_dvd_left ..
theorem gsr_sz {a b : Int} {n : Nat} (h : b ≠ 0) (hb : Sz n b) : Sz n (gsr a b) := hb.of_le (by
  have := Int.natAbs_dvd_natAbs.mpr (gsr_dr a b)
  exact Nat.le_of_dvd (by omega) this)
theorem fdiv_exact {a g : Int} (hg : g ≠ 0) (h : g ∣ a) : a.fdiv g = a / g := by
  obtain ⟨c, rfl⟩ := h
  rw [Int.mul_fdiv_cancel_left _ hg, Int.mul_ediv_cancel_left _ hg]
theorem gsr_num {a b : Int} (h : b ≠ 0) : a.fdiv (gsr a b) = ((a : Rat) / (b : Rat)).num := by
  rw [← Rat.divInt_eq_div, Rat.num_divInt, fdiv_exact (gsr_ne h) (gsr_dl a b), Int.gcd_comm b a]
  unfold gsr
  by_cases hl : b < 0
  · rw [if_pos hl, Int.sign_eq_neg_one_of_neg hl, Int.zero_sub, Int.ediv_neg, Int.neg_mul, Int.one_mul]
    obtain ⟨c, hc⟩ : (Int.gcd a b : Int) ∣ a := Int.gcd_dvd_left ..
    have e : (Int.gcd a b : Int) ≠ 0 := fun z => h (Int.gcd_eq_zero_iff.mp (show Int.gcd a b = 0 by omega)).2
    generalize (Int.gcd a b : Int) = g at hc e
    subst hc
    rw [Int.mul_ediv_cancel_left _ e, show -(g * c) = g * (-c) by rw [Int.mul_neg], Int.mul_ediv_cancel_left _ e]
  · rw [if_neg hl, Int.sign_eq_one_of_pos (by omega), Int.one_mul]
theorem gsr_den {a b : Int} (h : b ≠ 0) : b.fdiv (gsr a b) = (((a : Rat) / (b : Rat)).den : Int) := by
  rw [← Rat.divInt_eq_div, Rat.den_divInt, if_neg h, fdiv_exact (gsr_ne h) (gsr_dr a b), Int.gcd_comm b a]
  unfold gsr
  obtain ⟨c, hc⟩ : (Int.gcd a b : Int) ∣ b := Int.gcd_dvd_right ..
  have e : (Int.gcd a b : Int) ≠ 0 := fun z => h (Int.gcd_eq_zero_iff.mp (show Int.gcd a b = 0 by omega)).2
  by_cases hl : b < 0
  · rw [if_pos hl, Int.natCast_ediv, Int.ofNat_natAbs_of_nonpos (by omega), Int.zero_sub]
    generalize (Int.gcd a b : Int) = g at hc e
    subst hc
    rw [Int.ediv_neg, Int.mul_ediv_cancel_left _ e, show -(g * c) = g * (-c) by rw [Int.mul_neg], Int.mul_ediv_cancel_left _ e]
  · rw [if_neg hl, Int.natCast_ediv, Int.natAbs_of_nonneg (by omega)]
theorem fr_div {a b : Int} (h : b ≠ 0) : D.tup [.int (a.fdiv (gsr a b)), .int (b.fdiv (gsr a b))] = fr ((a : Rat) / b) := by
  rw [gsr_num h, gsr_den h]; rfl
/-! ### sizes -/
structure Fs (n : Nat) (x : Rat) : Prop where
  num : Sz n x.num
  den : Sz n (x.den : Int)
theorem Fs.le {n m : Nat} {x : Rat} (h : Fs n x) (hl : n ≤ m) : Fs m x := ⟨h.num.le hl, h.den.le hl⟩
theorem den_ne (x : Rat) : (x.den : Int) ≠ 0 := by have := x.den_nz; omega
theorem den_pos (x : Rat) : (0 : Int) < (x.den : Int) := by have := x.den_nz; omega
theorem denq (x : Rat) : (x.den : Rat) ≠ 0 := fun z => x.den_nz (Rat.natCast_eq_zero_iff.mp z)
theorem num_eq (x : Rat) : (x.num : Rat) = x * (x.den : Rat) := by
  have e : x = (x.num : Rat) / (x.den : Rat) := by
    have := Rat.num_divInt_den x
    rw [Rat.divInt_eq_div] at this
    exact this.symm
  calc (x.num : Rat) = ((x.num : Rat) / (x.den : Rat)) * (x.den : Rat) := (Rat.div_mul_cancel (denq x)).symm
    _ = x * (x.den : Rat) := by rw [← e]
theorem plus_rat (x y : Rat) : ((x.num * y.den + y.num * x.den : Int) : Rat) / ((x.den * y.den : Int) : Rat) = x + y := by
  have h1 := denq x
  have h2 := denq y
  simp only [Rat.intCast_add, Rat.intCast_mul, num_eq, Rat.intCast_natCast]
  generalize (x.den : Rat) = d at *
  generalize (y.den : Rat) = e at *
  grind
theorem minus_rat (x y : Rat) : ((x.num * y.den - y.num * x.den : Int) : Rat) / ((x.den * y.den : Int) : Rat) = x - y := by
  have h1 := denq x
  have h2 := denq y
  simp only [Rat.intCast_sub, Rat.intCast_mul, num_eq, Rat.intCast_natCast]
  generalize (x.den : Rat) = d at *
  generalize (y.den : Rat) = e at *
  grind
theorem times_rat (x y : Rat) : ((x.num * y.num : Int) : Rat) / ((x.den * y.den : Int) : Rat) = x * y := by
  have h1 := denq x
  have h2 := denq y
  simp only [Rat.intCast_mul, num_eq, Rat.intCast_natCast]
  generalize (x.den : Rat) = d at *
  generalize (y.den : Rat) = e at *
  grind
theorem over_rat (x y : Rat) (hy : y ≠ 0) : ((x.num * y.den : Int) : Rat) / ((x.den * y.num : Int) : Rat) = x / y := by
  have h1 := denq x
  have h2 := denq y
  simp only [Rat.intCast_mul, num_eq, Rat.intCast_natCast]
  generalize (x.den : Rat) = d at *
  generalize (y.den : Rat) = e at *
  grind
theorem plus_rat' (x y : Rat) : ((x.num : Rat) * ((y.den : Int) : Rat) + (y.num : Rat) * ((x.den : Int) : Rat)) / (((x.den : Int) : Rat) * ((y.den : Int) : Rat)) = x + y := by
  have := plus_rat x y
  simpa using this
theorem minus_rat' (x y : Rat) : ((x.num : Rat) * ((y.den : Int) : Rat) - (y.num : Rat) * ((x.den : Int) : Rat)) / (((x.den : Int) : Rat) * ((y.den : Int) : Rat)) = x - y := by
  have := minus_rat x y
  simpa using this
theorem times_rat' (x y : Rat) : ((x.num : Rat) * (y.num : Rat)) / (((x.den : Int) : Rat) * ((y.den : Int) : Rat)) = x * y := by
  have := times_rat x y
  simpa using this
theorem over_rat' (x y : Rat) (hy : y ≠ 0) : ((x.num : Rat) * ((y.den : Int) : Rat)) / (((x.den : Int) : Rat) * (y.num : Rat)) = x / y := by
  have := over_rat x y hy
  simpa using this
theorem num_ne {x : Rat} (h : x ≠ 0) : x.num ≠ 0 := fun z => h (Rat.num_eq_zero.mp z)
theorem fr_inj {x y : Rat} (h : fr x = fr y) : x = y := by
  unfold fr at h
  injection h with h
  injection h with h1 h2
  injection h2 with h2 _
  injection h1 with h1
  injection h2 with h2
  exact Rat.ext h1 (by omega)
theorem fr_toP (x : Rat) (S : Store) (n : Nat) : toP S (n + 1) (fr x) = some (.tuple [.int x.num, .int x.den]) := by
  cases n <;> simp [fr, toP, toPs]
theorem fr_eqv (x y : Rat) : PyData.eqv (.tuple [.int x.num, .int x.den]) (.tuple [.int y.num, .int y.den]) = decide (x = y) := by
  simp only [PyData.eqv, PyData.eqvAll]
  by_cases h : x = y
  · subst h; simp
  · rw [decide_eq_false h]
    by_cases h1 : x.num = y.num
    · have h2 : ¬ x.den = y.den := fun z => h (Rat.ext h1 z)
      simp [h1]; omega
    · simp [h1]
@[simp] theorem dEq_fr (x y : Rat) (S : Store) : dEq (fr x) (fr y) S = .ok (.bl (decide (x = y))) S := by
  rw [dEq_of (fr_toP x S 59) (fr_toP y S 59), fr_eqv]
@[simp] theorem dNe_fr (x y : Rat) (S : Store) : dNe (fr x) (fr y) S = .ok (.bl (!decide (x = y))) S := by
  rw [dNe_of (fr_toP x S 59) (fr_toP y S 59), fr_eqv]
@[simp] theorem dIx_fr0 (x : Rat) (S : Store) : dIx (fr x) (.int 0) S = .ok (.int x.num) S := by
  unfold fr; rw [dIx_tup, atI_zero]
@[simp] theorem dIx_fr1 (x : Rat) (S : Store) : dIx (fr x) (.int 1) S = .ok (.int x.den) S := by
  unfold fr; rw [dIx_tup, atI_one]
@[simp] theorem fr_zero : D.tup [.int 0, .int 1] = fr 0 := rfl
@[simp] theorem fr_one : D.tup [.int 1, .int 1] = fr 1 := rfl
theorem fr_int (k : Int) : D.tup [.int k, .int 1] = fr (k : Rat) := rfl
theorem fr_under {n : Nat} (x : Rat) : (fr x).under n = true := rfl

@[simp] theorem atI_three {α : Type} {a b c d : α} {l : List α} : L2.atI (a :: b :: c :: d :: l) 3 = some d := by
  have : (3 : Int) = ((3 : Nat) : Int) := rfl
  rw [this]
  exact atI_nat rfl
@[simp] theorem atI_four {α : Type} {a b c d e : α} {l : List α} : L2.atI (a :: b :: c :: d :: e :: l) 4 = some e := by
  have : (4 : Int) = ((4 : Nat) : Int) := rfl
  rw [this]
  exact atI_nat rfl
mutual
theorem under_mono {n m : Nat} (h : n ≤ m) : ∀ d : D, d.under n = true → d.under m = true
  | .cell k, u => by
    unfold D.under at *
    exact decide_eq_true (Nat.lt_of_lt_of_le (of_decide_eq_true u) h)
  | .tup l, u => by unfold D.under at *; exact underL_mono h l u
  | .lst l, u => by unfold D.under at *; exact underL_mono h l u
  | .scr l, u => by unfold D.under at *; exact underL_mono h l u
  | .non, _ => rfl
  | .bl _, _ => rfl
  | .int _, _ => rfl
  | .str _, _ => rfl
  | .raw _, _ => rfl
  | .cls _, _ => rfl
  | .exn _ _, _ => rfl
theorem underL_mono {n m : Nat} (h : n ≤ m) : ∀ l : List D, D.underL n l = true → D.underL m l = true
  | [], _ => rfl
  | d :: l, u => by
    unfold D.underL at *
    rw [Bool.and_eq_true] at *
    exact ⟨under_mono h d u.1, underL_mono h l u.2⟩
end
theorem cn_under_mono {n m : Nat} (h : n ≤ m) {c : Cn} (u : c.under n = true) : c.under m = true := by
  cases c with
  | dead => rfl
  | lst l => exact underL_mono h l u
  | dct kvs =>
    unfold Cn.under at *
    rw [List.all_eq_true] at *
    exact fun p hp => under_mono h _ (u p hp)
/-! ### over a common lower part -/
/-- a whole number over N, of a size of B at most -/
structure On (N B : Nat) (x : Rat) : Prop where
  pos : 0 < N
  ex : ∃ a : Int, x * (N : Rat) = (a : Rat) ∧ a.natAbs ≤ B * N
theorem natq {N : Nat} (h : 0 < N) : (N : Rat) ≠ 0 := fun z => by
  have := Rat.natCast_eq_zero_iff.mp z
  omega
theorem On.den {N B : Nat} {x : Rat} (h : On N B x) : x.den ∣ N := by
  obtain ⟨h0, a, e, _⟩ := h
  have ex : x = Rat.divInt a N := by
    rw [Rat.divInt_eq_div, Rat.intCast_natCast, ← e, Rat.mul_div_cancel (natq h0)]
  rw [ex, Rat.den_divInt, if_neg (by omega)]
  exact ⟨Int.gcd N a, by
    have : Int.gcd N a ∣ N := by simpa using Int.natAbs_dvd_natAbs.mpr (Int.gcd_dvd_left (a := (N : Int)) (b := a))
    simpa using (Nat.div_mul_cancel this).symm⟩
theorem On.num {N B : Nat} {x : Rat} (h : On N B x) : x.num.natAbs ≤ B * N := by
  have hd := h.den
  obtain ⟨h0, a, e, hb⟩ := h
  obtain ⟨c, rfl⟩ := hd
  have hc : 0 < c := Nat.pos_of_ne_zero fun z => by subst z; simp at h0
  have h1 : (x.num : Rat) * (c : Rat) = (a : Rat) := by
    rw [num_eq, ← e, Rat.natCast_mul]
    grind
  have h2 : x.num * (c : Int) = a := by
    have : ((x.num * (c : Int) : Int) : Rat) = (a : Rat) := by rw [Rat.intCast_mul, Rat.intCast_natCast]; exact h1
    exact Rat.intCast_inj.mp this
  have h3 : x.num.natAbs * c = a.natAbs := by rw [← h2, Int.natAbs_mul]; simp
  calc x.num.natAbs ≤ x.num.natAbs * c := Nat.le_mul_of_pos_right _ hc
    _ = a.natAbs := h3
    _ ≤ _ := hb
theorem On.fs {N B n : Nat} {x : Rat} (h : On N B x) (h1 : N < 2 ^ n) (h2 : B * N < 2 ^ n) : Fs n x :=
  ⟨Nat.lt_of_le_of_lt h.num h2, by
    show ((x.den : Int)).natAbs < 2 ^ n
    have := Nat.le_of_dvd h.pos h.den
    simp
    omega⟩
theorem On.add {N B C : Nat} {x y : Rat} (h : On N B x) (g : On N C y) : On N (B + C) (x + y) := by
  obtain ⟨h0, a, e, hb⟩ := h
  obtain ⟨_, b, f, hc⟩ := g
  refine ⟨h0, a + b, ?_, ?_⟩
  · rw [Rat.intCast_add, ← e, ← f]; grind
  · rw [Nat.add_mul]
    have := Int.natAbs_add_le a b
    omega
theorem On.sub {N B C : Nat} {x y : Rat} (h : On N B x) (g : On N C y) : On N (B + C) (x - y) := by
  obtain ⟨h0, a, e, hb⟩ := h
  obtain ⟨_, b, f, hc⟩ := g
  refine ⟨h0, a - b, ?_, ?_⟩
  · rw [Rat.intCast_sub, ← e, ← f]; grind
  · rw [Nat.add_mul]
    have := Int.natAbs_sub_le a b
    omega
theorem On.mul {N M B C : Nat} {x y : Rat} (h : On N B x) (g : On M C y) : On (N * M) (B * C) (x * y) := by
  obtain ⟨h0, a, e, hb⟩ := h
  obtain ⟨g0, b, f, hc⟩ := g
  refine ⟨Nat.mul_pos h0 g0, a * b, ?_, ?_⟩
  · rw [Rat.intCast_mul, ← e, ← f, Rat.natCast_mul]; grind
  · rw [Int.natAbs_mul]
    calc a.natAbs * b.natAbs ≤ (B * N) * (C * M) := Nat.mul_le_mul hb hc
      _ = _ := by grind
theorem On.int (k : Int) : On 1 k.natAbs (k : Rat) := ⟨by decide, k, by simp, by simp⟩
theorem On.up {N M B : Nat} {x : Rat} (h : On N B x) (hd : N ∣ M) (h0 : 0 < M) : On M B x := by
  obtain ⟨_, a, e, hb⟩ := h
  obtain ⟨c, rfl⟩ := hd
  refine ⟨h0, a * c, ?_, ?_⟩
  · rw [Rat.intCast_mul, ← e, Rat.natCast_mul, Rat.intCast_natCast]; grind
  · rw [Int.natAbs_mul]
    calc a.natAbs * (c : Int).natAbs ≤ (B * N) * c := Nat.mul_le_mul hb (by simp)
      _ = _ := by grind
theorem On.mono {N B C : Nat} {x : Rat} (h : On N B x) (hl : B ≤ C) : On N C x := ⟨h.pos, by
  obtain ⟨a, e, hb⟩ := h.ex
  exact ⟨a, e, Nat.le_trans hb (Nat.mul_le_mul_right _ hl)⟩⟩
theorem On.bd {N B C : Nat} {x : Rat} (h : On N B x) (h1 : -(C : Rat) ≤ x) (h2 : x ≤ (C : Rat)) : On N C x := ⟨h.pos, by
  obtain ⟨a, e, hb⟩ := h.ex
  refine ⟨a, e, ?_⟩
  have hN : (0 : Rat) < (N : Rat) := Rat.natCast_pos.mpr h.pos
  have k1 : ((a : Int) : Rat) ≤ (((C * N : Nat) : Int) : Rat) := by
    rw [← e, Rat.intCast_natCast, Rat.natCast_mul]
    exact Rat.mul_le_mul_of_nonneg_right h2 (Rat.le_of_lt hN)
  have k2 : ((-(C * N : Nat) : Int) : Rat) ≤ ((a : Int) : Rat) := by
    rw [← e, Rat.intCast_neg, Rat.intCast_natCast, Rat.natCast_mul]
    have := Rat.mul_le_mul_of_nonneg_right h1 (Rat.le_of_lt hN)
    rw [Rat.neg_mul] at this
    exact this
  rw [Rat.intCast_le_intCast] at k1 k2
  omega⟩
theorem On.div {a b : Int} {N B : Nat} (hN : 0 < N) (hb : b = (N : Int)) (h : a.natAbs ≤ B * N) : On N B ((a : Rat) / (b : Rat)) := ⟨hN, a, by
  subst hb
  rw [Rat.intCast_natCast, Rat.div_mul_cancel (natq hN)], h⟩
theorem On.one {N : Nat} (h : 0 < N) : On N 1 1 := ⟨h, N, by rw [Rat.intCast_natCast]; grind, by simp⟩
theorem On.zero {N : Nat} (h : 0 < N) : On N 0 0 := ⟨h, 0, by simp, by simp⟩
theorem On.times {N B : Nat} {x : Rat} (h : On N B x) (c : Int) : On N (c.natAbs * B) ((c : Rat) * x) := by
  have := (On.int c).mul h
  rwa [Nat.one_mul] at this
theorem int_fs {k : Int} {n : Nat} (h : k.natAbs < 2 ^ n) (h0 : 0 < n) : Fs n (k : Rat) := ⟨h, by
  show ((k : Rat).den : Int).natAbs < 2 ^ n
  simp; omega⟩
end Dv
/-! # Dv16: xs[::-1]; is True -/
namespace Dv
open PySem PySem.Spec PyProof.Rows L2
def xRevL (mk : List D → M D) (f : Env → M D) : Env → M D := fun e S => (f e S).bind fun d S1 => match getQ d S1 with
  | some l => mk l.reverse S1
  | none => .bad
theorem pd_revL {X : Cx} {W : WX} {e : Expr} {f : Env → M D} {mk : List D → M D} {k : Nat} {p1 p2 p3 pos : Pos} (m : Mk mk) (he : PD X W e f) : PD X W (.Subscript e (.Slice none none (some (.UnaryOp .USub (.Constant (.int 1) k p1) p2)) p3) pos) (xRevL mk f) := by
  refine weakE (pe_revL he) fun σ H Q ⟨w, env, eH, hw, he, hs⟩ => ?_
  subst eH
  refine ⟨w, env, rfl, hw, he, SatW.imp (SatW.bind hs) fun w1 d v g1 r1 s1 => ?_⟩
  cases q : getQ d w1.S with
  | none => simp only [q] at s1; exact s1.elim
  | some l =>
    simp only [q] at s1
    obtain ⟨a, vs, rfl, hq, t⟩ := getQ_ok g1.wd r1 q
    exact ⟨a, vs, rfl, hq, m.go g1.wd t.reverse s1⟩
@[simp] theorem xRevL_app {oo : Option D} {ll : Env} {S : Store} {mk : List D → M D} {f : Env → M D} : xRevL mk f (oo :: ll) S = (f (oo :: ll) S).bind fun d S1 => match getQ d S1 with | some l => mk l.reverse S1 | none => .bad := rfl
def dIsB (a b : D) (S : Store) : Res D := match a, b with
  | .bl x, .bl y => .ok (.bl (decide (x = y))) S
  | _, _ => .bad
def dIsNotB (a b : D) (S : Store) : Res D := match a, b with
  | .bl x, .bl y => .ok (.bl (!decide (x = y))) S
  | _, _ => .bad
theorem od_isB {X : Cx} : OpD X (compareOp .Is) dIsB := ⟨_, op_isBl, fun w x y d e W σ Q hw r1 r2 hs => by
  unfold dIsB at hs
  split at hs
  · rename_i a b
    exact ⟨a, b, rp_bl r1, rp_bl r2, SatW.here hs hw rpb⟩
  · exact hs.elim⟩
theorem od_isNotB {X : Cx} : OpD X (compareOp .IsNot) dIsNotB := ⟨_, op_notBl, fun w x y d e W σ Q hw r1 r2 hs => by
  unfold dIsNotB at hs
  split at hs
  · rename_i a b
    exact ⟨a, b, rp_bl r1, rp_bl r2, SatW.here hs hw rpb⟩
  · exact hs.elim⟩
@[simp] theorem dIsB_bl {a b : Bool} {S : Store} : dIsB (.bl a) (.bl b) S = .ok (.bl (decide (a = b))) S := rfl
@[simp] theorem dIsNotB_bl {a b : Bool} {S : Store} : dIsNotB (.bl a) (.bl b) S = .ok (.bl (!decide (a = b))) S := rfl
end Dv
/-! # Dv17: loops over a list that may change; a list, frozen or not -/
namespace Dv
open PySem PySem.Spec PyProof.Rows L2
theorem en0_forC {chk : Store → Prop} {g : D → Env → Store → Out} {b : Env → Store → Out} {items : List D} {e : Env} {S : Store} {Q : Pst} (I : Nat → Env → Store → Prop) (h0 : I 0 e S) (hc : ∀ i e S, I i e S → chk S)
    (hs : ∀ (i : Nat) d e S, items[i]? = some d → I i e S → EnO0 (g d e S) { nx := fun e1 S1 => EnO0 (b e1 S1) { nx := I (i + 1), ct := I (i + 1), bk := Q.nx, rt := Q.rt } })
    (hd : ∀ e S, I items.length e S → Q.nx e S) : EnO0 (forL chk g b items e S) Q := by
  have go : ∀ (l : List D) (i : Nat) (e : Env) (S : Store), items.drop i = l → i ≤ items.length → I i e S → EnO0 (forL chk g b l e S) Q := by
    intro l
    induction l with
    | nil =>
      intro i e S hl hi h
      rw [forL, if_pos (hc i e S h)]
      have e1 := drop_nil hl hi
      subst e1
      exact hd e S h
    | cons d l ih =>
      intro i e S hl hi h
      obtain ⟨h1, h2⟩ := drop_get hl
      have st := hs i d e S h1 h
      have hlt : i < items.length := (List.getElem?_eq_some_iff.mp h1).1
      rw [forL, if_pos (hc i e S h)]
      cases o : g d e S with
      | nx e1 S1 =>
        rw [o] at st
        have st' : EnO0 (b e1 S1) { nx := I (i + 1), ct := I (i + 1), bk := Q.nx, rt := Q.rt } := st
        show EnO0 (match b e1 S1 with
          | .nx e' S' => forL chk g b l e' S'
          | .ct e' S' => forL chk g b l e' S'
          | .bk e' S' => .nx e' S'
          | o => o) Q
        cases ob : b e1 S1 with
        | nx e2 S2 => rw [ob] at st'; exact ih (i + 1) e2 S2 h2 hlt st'
        | ct e2 S2 => rw [ob] at st'; exact ih (i + 1) e2 S2 h2 hlt st'
        | bk e2 S2 => rw [ob] at st'; exact st'
        | rt d2 S2 => rw [ob] at st'; exact st'
        | exc x e2 S2 => rw [ob] at st'; exact st'.elim
        | bad => rw [ob] at st'; exact st'.elim
      | rt _ _ => rw [o] at st; exact st.elim
      | bk _ _ => rw [o] at st; exact st.elim
      | ct _ _ => rw [o] at st; exact st.elim
      | exc _ _ _ => rw [o] at st; exact st.elim
      | bad => rw [o] at st; exact st.elim
  exact go items 0 e S rfl (Nat.zero_le _) h0
theorem ens_frC {chk : Store → Prop} {g : D → Env → Store → Out} {b : Env → Store → Out} {items : List D} {e : Env} {S : Store} {Q : Pst} (I : Nat → Env → Store → Prop) (h0 : I 0 e S) (hc : ∀ i e S, I i e S → chk S)
    (hs : ∀ (i : Nat) d e S (R' : Env → Store → Prop), items[i]? = some d → I i e S → (∀ e S, I (i + 1) e S → R' e S) → EnsO (g d e S) { nx := fun e1 S1 => EnsO (b e1 S1) { nx := R', ct := R', bk := Q.nx, rt := Q.rt } })
    (hd : ∀ e S, I items.length e S → Q.nx e S) : EnsO (forL chk g b items e S) Q :=
  ⟨en0_forC I h0 hc (fun i d e S h1 h2 => (hs i d e S _ h1 h2 fun _ _ h => h).go.imp (fun _ _ h => h.go) (fun _ _ h => h.elim) (fun _ _ h => h.elim) (fun _ _ h => h.elim)) hd⟩
/-- S' is S and more behind it -/
def Ext (S S' : Store) : Prop := ∃ R, S' = S ++ R
theorem Ext.refl (S : Store) : Ext S S := ⟨[], by simp⟩
theorem Ext.app (S R : Store) : Ext S (S ++ R) := ⟨R, rfl⟩
theorem Ext.get {S S' : Store} (h : Ext S S') {n : Nat} {c : Cn} (e : S[n]? = some c) : S'[n]? = some c := by
  obtain ⟨R, rfl⟩ := h
  have := (List.getElem?_eq_some_iff.mp e).1
  rw [List.getElem?_append_left this]
  exact e
/-- a list that may be read: frozen, or a cell -/
structure LstAt (S : Store) (p : D) (l : List D) : Prop where
  src : ∀ S', Ext S S' → ∃ chk : Store → Prop, srcL p S' = .ok ⟨l, chk⟩ S' ∧ ∀ S2, Ext S S2 → chk S2
  zip : ∀ S' m, Ext S S' → ∃ chk : Store → Prop, srcZip [p, .lst m] S' = .ok ⟨(l.zip m).map fun z => .tup [z.1, z.2], chk⟩ S' ∧ ∀ S2, Ext S S2 → chk S2
  get : ∀ S', Ext S S' → getQ p S' = some l
  ix : ∀ S' k, Ext S S' → dIx p k S' = dIx (.lst l) k S'
  len : ∀ S', Ext S S' → bLen [p] S' = .ok (.int l.length) S'
theorem lst_lst (S : Store) (l : List D) : LstAt S (.lst l) l := ⟨fun _ _ => ⟨_, rfl, fun _ _ => trivial⟩, fun _ m _ => ⟨fun _ => True, by rw [srcZip_lst], fun _ _ => trivial⟩, fun _ _ => rfl, fun _ _ _ => rfl, fun _ _ => by simp⟩
theorem lst_cell {S : Store} {n : Nat} {l : List D} (h : S[n]? = some (.lst l)) : LstAt S (.cell n) l := by
  refine ⟨fun S' x => ⟨_, srcL_cell (x.get h), fun S2 y => y.get h⟩, fun S' m x => ⟨fun S2 => S2[n]? = some (.lst l) ∧ True, ?_, fun S2 y => ⟨y.get h, trivial⟩⟩, fun S' x => ?_, fun S' k x => ?_, fun S' x => ?_⟩
  · have := x.get h
    simp [srcZip, stL, this]
  · have := x.get h
    simp only [getQ, getL, this]
  · have := x.get h
    cases k <;> simp only [dIx, getQ, getL, this]
  · have := x.get h
    simp [bLen, getQ, getL, this]
end Dv
/-! # Dv18: dicts in cells; sorted; list.pop -/
namespace Dv
open PySem PySem.Spec PyProof.Rows L2
theorem units1 {k : Nat} {A : Around} (r : Room k A) : A.units + 1 < cLine := by have := r.un; omega
/-! ### keys and tables -/
def keyD : D → Option Key
  | .int i => some (.inl i)
  | .str x => some (.inr x)
  | _ => none
theorem keyD_v {K : PySem.W.Frag} {r : List Addr} {F : Hp} {d : D} {v : V} {k : Key} (h : Rp K r F d v) (e : keyD d = some k) : v = kV k := by
  cases d with
  | int i => cases e; rw [rp_int h]; rfl
  | str x => cases e; rw [rp_str h]; rfl
  | _ => cases e
def cellK (d : D) (S : Store) : Option (Nat × List (Key × D)) := match d with
  | .cell n => match S[n]? with
    | some (.dct l) => some (n, l)
    | _ => none
  | _ => none
theorem cellK_eq {d : D} {S : Store} {n : Nat} {l : List (Key × D)} (h : cellK d S = some (n, l)) : d = .cell n ∧ S[n]? = some (.dct l) := by
  unfold cellK at h
  split at h
  · split at h
    · rename_i k l' e
      cases h
      exact ⟨rfl, e⟩
    · cases h
  · cases h
def valD (kvs : List (Key × D)) (k : Key) : Option D := (kvs.find? fun kv => decide (kv.1 = k)).map (·.2)
def putD (kvs : List (Key × D)) (k : Key) (d : D) : List (Key × D) :=
  if (kvs.any fun kv => decide (kv.1 = k)) = true then kvs.map (fun kv => if kv.1 = k then (kv.1, d) else kv) else kvs ++ [(k, d)]
section
variable {K : PySem.W.Frag} {r : List Addr} {F : Hp} {kvs : List (Key × D)} {ws : List (Key × V)}
theorem RpK.some (h : RpK K r F kvs ws) {k : Key} {d : D} (e : valD kvs k = some d) : ∃ v, valV ws k = some v ∧ Rp K r F d v := by
  unfold RpK at h
  induction h with
  | nil => cases e
  | @cons p q ps qs z t ih =>
    obtain ⟨h1, h2⟩ := z
    by_cases c : p.1 = k
    · have b : valD (p :: ps) k = Option.some p.2 := by simp [valD, List.find?_cons, c]
      rw [b] at e
      cases e
      exact ⟨q.2, valV_pos (h1.symm.trans c), h2⟩
    · have b : valD (p :: ps) k = valD ps k := by simp [valD, List.find?_cons, c]
      rw [b] at e
      obtain ⟨v, e2, q2⟩ := ih e
      exact ⟨v, by rw [valV_neg (fun z => c (h1.trans z))]; exact e2, q2⟩
theorem RpK.none (h : RpK K r F kvs ws) {k : Key} (e : valD kvs k = Option.none) : valV ws k = Option.none := by
  unfold RpK at h
  induction h with
  | nil => rfl
  | @cons p q ps qs z t ih =>
    obtain ⟨h1, h2⟩ := z
    by_cases c : p.1 = k
    · have b : valD (p :: ps) k = Option.some p.2 := by simp [valD, List.find?_cons, c]
      rw [b] at e
      cases e
    · have b : valD (p :: ps) k = valD ps k := by simp [valD, List.find?_cons, c]
      rw [b] at e
      rw [valV_neg (fun z => c (h1.trans z))]
      exact ih e
theorem RpK.any (h : RpK K r F kvs ws) (k : Key) : (kvs.any fun kv => decide (kv.1 = k)) = ws.any fun kv => decide (kv.1 = k) := by
  unfold RpK at h
  induction h with
  | nil => rfl
  | cons h t ih => rw [List.any_cons, List.any_cons, ih, h.1]
theorem RpK.repl (h : RpK K r F kvs ws) (k : Key) {d : D} {v : V} (rv : Rp K r F d v) : RpK K r F (kvs.map fun kv => if kv.1 = k then (kv.1, d) else kv) (ws.map fun kv => if kv.1 = k then (kv.1, v) else kv) := by
  unfold RpK at h ⊢
  induction h with
  | nil => exact .nil
  | @cons p q ps qs h t ih =>
    rw [List.map_cons, List.map_cons]
    refine .cons ?_ ih
    obtain ⟨h1, h2⟩ := h
    by_cases e : p.1 = k
    · rw [if_pos e, if_pos (h1.symm.trans e)]; exact ⟨h1, rv⟩
    · rw [if_neg e, if_neg (fun z => e (h1.trans z))]; exact ⟨h1, h2⟩
theorem RpK.put (h : RpK K r F kvs ws) (k : Key) {d : D} {v : V} (rv : Rp K r F d v) : RpK K r F (putD kvs k d) (putK ws k v) := by
  unfold putD putK
  rw [h.any k]
  by_cases e : (ws.any fun kv => decide (kv.1 = k)) = true
  · rw [if_pos e, if_pos e]; exact h.repl k rv
  · rw [if_neg e, if_neg e]; exact Paired.snoc h ⟨rfl, rv⟩
theorem RpK.keys (h : RpK K r F kvs ws) : ws.map (·.1) = kvs.map (·.1) := by
  unfold RpK at h
  induction h with
  | nil => rfl
  | cons h t ih => rw [List.map_cons, List.map_cons, ih, h.1]
theorem RpK.length (h : RpK K r F kvs ws) : ws.length = kvs.length := by
  have := congrArg List.length h.keys
  simpa using this
end
/-- a dict's cell is read, written -/
theorem cellK_read {T : Kt} {w : Wl} {n : Nat} {l : List (Key × D)} {v : V} (hw : Wd T.K w) (r : Rp T.K w.r w.F (.cell n) v) (e : w.S[n]? = some (.dct l)) : ∃ a ws, v = .ref a ∧ w.H a = some (.dK ws) ∧ RpK T.K w.r w.F l ws := by
  unfold Rp at r
  obtain ⟨a, e1, rfl⟩ := r
  obtain ⟨hf, ws, e2, p⟩ := hw.cell n a _ e1 e
  exact ⟨a, ws, rfl, e2, p⟩
theorem cellK_write {T : Kt} {w : Wl} {n : Nat} {l l' : List (Key × D)} {v : V} (hw : Wd T.K w) (r : Rp T.K w.r w.F (.cell n) v) (e : w.S[n]? = some (.dct l)) : ∃ a ws, v = .ref a ∧ w.H a = some (.dK ws) ∧ RpK T.K w.r w.F l ws ∧
    ∀ ws', RpK T.K w.r w.F l' ws' → Go T.K w ⟨w.r, w.F, w.S.set n (.dct l'), upd w.H a (.dK ws')⟩ := by
  unfold Rp at r
  obtain ⟨a, e1, rfl⟩ := r
  obtain ⟨hf, ws, e2, p⟩ := hw.cell n a _ e1 e
  exact ⟨a, ws, rfl, e2, p, fun ws' h => Go.write (c := .dct l') hw e (by simp) e1 (by exact ⟨hf, ws', upd_same, h⟩)⟩
/-! ### {} -/
def xDct0 : Env → M D := fun _ S => .ok (.cell S.length) (S ++ [.dct []])
def dKx (x k : D) (S : Store) : Res D := match cellK x S, keyD k with
  | some (_, l), some kk => match valD l kk with
    | some d => .ok d S
    | none => .bad
  | _, _ => .bad
/-- o[i] of a dict -/
def setK (x i v : D) (S : Store) : Res Unit := match cellK x S, keyD i with
  | some (n, l), some kk => if l.length < 16000000 then .ok () (S.set n (.dct (putD l kk v))) else .bad
  | _, _ => .bad
/-- d.get(k, x) -/
def dGet (x k z : D) (S : Store) : Res D := match cellK x S, keyD k with
  | some (_, l), some kk => .ok ((valD l kk).getD z) S
  | _, _ => .bad
def isK (x : D) (S : Store) : Bool := (cellK x S).isSome
def xGet2 (o e f : Env → M D) : Env → M D := fun n S => (o n S).bind fun x S1 => if isK x S1 = true then (e n S1).bind fun k S2 => (f n S2).bind fun z S3 => dGet x k z S3 else .bad
def xGet1 (o e : Env → M D) : Env → M D := fun n S => (o n S).bind fun x S1 => if isK x S1 = true then (e n S1).bind fun k S2 => dGet x k .non S2 else .bad
def dInK (neg : Bool) (x y : D) (S : Store) : Res D := match cellK y S, keyD x with
  | some (_, l), some kk => .ok (.bl (xor neg (valD l kk).isSome)) S
  | _, _ => .bad
section
variable {X : Cx} {W : WX} {o i e f : Expr} {fo fi fe ff : Env → M D} {pos apos cpos : Pos}
theorem pd_dct0 : PD X W (.Dict [] [] pos) xDct0 := by
  refine weakE pe_dnewK fun σ H Q ⟨w, env, eH, hw, he, hs⟩ p hp => ?_
  subst eH
  refine hs ⟨w.r ++ [p], w.F, w.S ++ [.dct []], upd w.H p (.dK [])⟩ (.ref p) (Go.newCell (c := .dct []) hw hp (by exact ⟨hw.fresh hp, [], upd_same, .nil⟩)) rfl ?_
  unfold RD Rp
  refine ⟨p, ?_, rfl⟩
  show (w.r ++ [p])[w.S.length]? = some p
  rw [← hw.len, List.getElem?_append_right (Nat.le_refl _), Nat.sub_self]
  rfl
theorem pd_dkx (hu : X.A.units + 1 < cLine) (ho : PD X W o fo) (hi : PD X W i fi) (hs : NoSl i := by intro _ _; rfl) : PD X W (.Subscript o i pos) (xOp dKx fo fi) := by
  refine weakE (pe_dget hu ho hi hs) fun σ H Q ⟨w, env, eH, hw, he, hs⟩ => ?_
  subst eH
  refine ⟨w, env, rfl, hw, he, SatW.imp (SatW.bind hs) fun w1 d v g1 r1 s1 => ?_⟩
  refine ⟨w1, env, rfl, g1.wd, he.go g1, SatW.imp (SatW.bind s1) fun w2 d2 v2 g2 r2 s2 => ?_⟩
  have r1' := Rp.go g2 r1
  unfold dKx at s2
  split at s2
  · rename_i n l kk hc hk
    obtain ⟨rfl, en⟩ := cellK_eq hc
    obtain ⟨a, ws, rfl, ha, p⟩ := cellK_read (T := kt X) g2.wd r1' en
    cases q : valD l kk with
    | none => rw [q] at s2; exact s2.elim
    | some d =>
      rw [q] at s2
      obtain ⟨vz, ez, rz⟩ := p.some q
      rw [keyD_v r2 hk]
      exact ⟨a, vz, rfl, by rw [← ez]; exact DGet.k ha, SatW.here (v := vz) s2 g2.wd rz⟩
  · exact s2.elim
theorem sd_dict (hu : X.A.units + 1 < cLine) : SetD X setK := ⟨_, set_dict hu, fun w x i v dx di dv W σ Q hw r1 r2 r3 hs => by
  unfold setK at hs
  split at hs
  · rename_i n l kk hc hk
    obtain ⟨hl, hs⟩ := satIf hs
    obtain ⟨rfl, en⟩ := cellK_eq hc
    obtain ⟨a, ws, rfl, ha, p, go⟩ := cellK_write (T := kt X) (l' := putD l kk dv) hw r1 en
    rw [keyD_v r2 hk]
    exact ⟨a, _, rfl, DPut.k ha (by rw [p.length]; exact Nat.lt_of_lt_of_le hl (line16 (Nat.le_refl _))), hs _ () (go _ (p.put kk r3)) rfl trivial⟩
  · exact hs.elim⟩
theorem isK_isD {w : Wl} {d : D} {v : V} (hw : Wd X.K w) (r : Rp X.K w.r w.F d v) (h : isK d w.S = true) : ∃ a, v = .ref a ∧ IsD w.H a := by
  unfold isK at h
  cases hc : cellK d w.S with
  | none => rw [hc] at h; cases h
  | some p =>
    obtain ⟨n, l⟩ := p
    obtain ⟨rfl, en⟩ := cellK_eq hc
    obtain ⟨a, ws, rfl, ha, p⟩ := cellK_read (T := kt X) hw r en
    exact ⟨a, rfl, .inl ⟨ws, .inl ha⟩⟩
theorem pd_get2 (hu : X.A.units + 1 < cLine) (ho : PD X W o fo) (he : PD X W e fe) (hf : PD X W f ff) (m : M2 X o "get" apos e f cpos := by exact ⟨rfl, rfl, rfl, rfl⟩) : PD X W (.Call (.Attribute o "get" apos) [e, f] [] cpos) (xGet2 fo fe ff) := by
  refine weakE (pe_dget2 hu ho he hf m) fun σ H Q ⟨w, env, eH, hw, he, hs⟩ => ?_
  subst eH
  refine ⟨w, env, rfl, hw, he, SatW.imp (SatW.bind hs) fun w1 d v g1 r1 s1 => ?_⟩
  obtain ⟨hk, s1⟩ := satIf s1
  obtain ⟨a, rfl, hd⟩ := isK_isD g1.wd r1 hk
  refine ⟨a, rfl, hd, w1, env, rfl, g1.wd, he.go g1, SatW.imp (SatW.bind s1) fun w2 d2 v2 g2 r2 s2 => ?_⟩
  refine ⟨w2, env, rfl, g2.wd, (he.go g1).go g2, SatW.imp (SatW.bind s2) fun w3 d3 v3 g3 r3 s3 => ?_⟩
  have r1' := Rp.go (g2.trans g3) r1
  unfold dGet at s3
  split at s3
  · rename_i n l kk hc hk2
    obtain ⟨rfl, en⟩ := cellK_eq hc
    obtain ⟨a', ws, ea, ha, p⟩ := cellK_read (T := kt X) g3.wd r1' en
    cases ea
    rw [keyD_v r2 hk2]
    cases q : valD l kk with
    | none =>
      rw [q] at s3
      exact ⟨_, DGet.k ha, by rw [p.none q]; exact SatW.here (v := v3) s3 g3.wd r3⟩
    | some d =>
      rw [q] at s3
      obtain ⟨vz, ez, rz⟩ := p.some q
      exact ⟨_, DGet.k ha, by rw [ez]; exact SatW.here (v := vz) s3 g3.wd rz⟩
  · exact s3.elim
theorem pd_get1 (hu : X.A.units + 1 < cLine) (ho : PD X W o fo) (he : PD X W e fe) (m : M1 X o "get" apos e cpos := by exact ⟨rfl, rfl, rfl, rfl⟩) : PD X W (.Call (.Attribute o "get" apos) [e] [] cpos) (xGet1 fo fe) := by
  refine weakE (pe_dget1 hu ho he m) fun σ H Q ⟨w, env, eH, hw, he, hs⟩ => ?_
  subst eH
  refine ⟨w, env, rfl, hw, he, SatW.imp (SatW.bind hs) fun w1 d v g1 r1 s1 => ?_⟩
  obtain ⟨hk, s1⟩ := satIf s1
  obtain ⟨a, rfl, hd⟩ := isK_isD g1.wd r1 hk
  refine ⟨a, rfl, hd, w1, env, rfl, g1.wd, he.go g1, SatW.imp (SatW.bind s1) fun w2 d2 v2 g2 r2 s2 => ?_⟩
  have r1' := Rp.go g2 r1
  unfold dGet at s2
  split at s2
  · rename_i n l kk hc hk2
    obtain ⟨rfl, en⟩ := cellK_eq hc
    obtain ⟨a', ws, ea, ha, p⟩ := cellK_read (T := kt X) g2.wd r1' en
    cases ea
    rw [keyD_v r2 hk2]
    cases q : valD l kk with
    | none =>
      rw [q] at s2
      exact ⟨_, DGet.k ha, by rw [p.none q]; exact SatW.here (v := V.non) s2 g2.wd rpn⟩
    | some d =>
      rw [q] at s2
      obtain ⟨vz, ez, rz⟩ := p.some q
      exact ⟨_, DGet.k ha, by rw [ez]; exact SatW.here (v := vz) s2 g2.wd rz⟩
  · exact s2.elim
theorem op_inK (hu : X.A.units + 1 < cLine) : OpR X (compareOp .In) (fun y x H Q => ∃ a o, x = .ref a ∧ DGet H a y o ∧ Q (.bl o.isSome) H) := by
  intro pins s σ H y x v u Q I ry rx h
  obtain ⟨a, o, rfl, g, q⟩ := h
  cases rx
  exact d_in hu I g ry fun s' I' => ⟨V.bl o.isSome, H, I', rfl, q⟩
theorem op_notInK (hu : X.A.units + 1 < cLine) : OpR X (compareOp .NotIn) (fun y x H Q => ∃ a o, x = .ref a ∧ DGet H a y o ∧ Q (.bl (!o.isSome)) H) := by
  intro pins s σ H y x v u Q I ry rx h
  obtain ⟨a, o, rfl, g, q⟩ := h
  cases rx
  exact d_notIn hu I g ry fun s' I' => ⟨V.bl (!o.isSome), H, I', rfl, q⟩
theorem od_inK (hu : X.A.units + 1 < cLine) : OpD X (compareOp .In) (dInK false) := ⟨_, op_inK hu, fun w x y d e W σ Q hw r1 r2 hs => by
  unfold dInK at hs
  split at hs
  · rename_i n l kk hc hk
    obtain ⟨rfl, en⟩ := cellK_eq hc
    obtain ⟨a, ws, rfl, ha, p⟩ := cellK_read (T := kt X) hw r2 en
    refine ⟨a, _, rfl, by rw [keyD_v r1 hk]; exact DGet.k ha, ?_⟩
    have e : (valV ws kk).isSome = (valD l kk).isSome := by
      cases q : valD l kk with
      | none => rw [p.none q]; rfl
      | some d => obtain ⟨vz, ez, _⟩ := p.some q; rw [ez]; rfl
    rw [e]
    rw [Bool.false_xor] at hs
    exact SatW.here (v := V.bl (valD l kk).isSome) hs hw (by unfold RD Rp; rfl)
  · exact hs.elim⟩
theorem od_notInK (hu : X.A.units + 1 < cLine) : OpD X (compareOp .NotIn) (dInK true) := ⟨_, op_notInK hu, fun w x y d e W σ Q hw r1 r2 hs => by
  unfold dInK at hs
  split at hs
  · rename_i n l kk hc hk
    obtain ⟨rfl, en⟩ := cellK_eq hc
    obtain ⟨a, ws, rfl, ha, p⟩ := cellK_read (T := kt X) hw r2 en
    refine ⟨a, _, rfl, by rw [keyD_v r1 hk]; exact DGet.k ha, ?_⟩
    have e : (valV ws kk).isSome = (valD l kk).isSome := by
      cases q : valD l kk with
      | none => rw [p.none q]; rfl
      | some d => obtain ⟨vz, ez, _⟩ := p.some q; rw [ez]; rfl
    rw [e]
    rw [Bool.true_xor] at hs
    exact SatW.here (v := V.bl (!(valD l kk).isSome)) hs hw (by unfold RD Rp; rfl)
  · exact hs.elim⟩
end
/-! ### sorted, of ints -/
def isrt (l : List Int) : List Int := l.mergeSort fun a b => decide (a ≤ b)
theorem isrt_perm (l : List Int) : (isrt l).Perm l := List.mergeSort_perm l _
theorem isrt_sorted (l : List Int) : (isrt l).Pairwise (· ≤ ·) := by
  have := List.pairwise_mergeSort (le := fun a b : Int => decide (a ≤ b)) (fun a b c h1 h2 => by
    rw [decide_eq_true_iff] at *
    omega) (fun a b => by
    rw [Bool.or_eq_true, decide_eq_true_iff, decide_eq_true_iff]
    omega) l
  exact this.imp fun h => of_decide_eq_true h
theorem isrt_uniq {l m : List Int} (p : m.Perm l) (s : m.Pairwise (· ≤ ·)) : m = isrt l :=
  List.Perm.eq_of_pairwise (le := (· ≤ ·)) (fun _ _ _ _ h1 h2 => by omega) s (isrt_sorted l) (p.trans (isrt_perm l).symm)
def intK : List Key → Option (List Int)
  | [] => some []
  | .inl i :: l => (intK l).map (i :: ·)
  | .inr _ :: _ => none
theorem intK_eq : ∀ {l : List Key} {is : List Int}, intK l = some is → l = is.map Sum.inl
  | [], is, h => by cases h; rfl
  | .inl i :: l, is, h => by
    unfold intK at h
    cases q : intK l with
    | none => rw [q] at h; cases h
    | some js => rw [q] at h; cases h; rw [List.map_cons, ← intK_eq q]
  | .inr _ :: l, is, h => by cases h
def bSortK (mk : List D → M D) (l : List D) (S : Store) : Res D := match l with
  | [x] => match cellK x S with
    | some (_, kvs) => match intK (kvs.map (·.1)) with
      | some is => if is.length < 64 then mk ((isrt is).map D.int) S else .bad
      | none => .bad
    | none => .bad
  | _ => .bad
theorem rps_ofints {K : PySem.W.Frag} {r : List Addr} {F : Hp} : ∀ is : List Int, Rps K r F (is.map D.int) (is.map V.int)
  | [] => rps_nil
  | i :: is => by rw [List.map_cons, List.map_cons]; exact rps_cons rpi (rps_ofints is)
theorem cd_sortK {X : Cx} {mk : List D → M D} (m : Mk mk) (hc : X.calm = true) : CallD X (.builtin "sorted") (bSortK mk) := ⟨_, call_sortedDI hc, fun w xs ds W σ Q hw r hs => by
  unfold bSortK at hs
  split at hs
  · rename_i x
    obtain ⟨v, rfl, rv⟩ := one_inv r
    split at hs
    · rename_i n kvs hk
      split at hs
      · rename_i is hi
        obtain ⟨h64, hs⟩ := satIf hs
        obtain ⟨rfl, en⟩ := cellK_eq hk
        obtain ⟨a, ws, rfl, ha, p⟩ := cellK_read (T := kt X) hw rv en
        refine ⟨a, ws, is, rfl, .inl ha, by rw [p.keys]; exact intK_eq hi, h64, fun ys q hp hsr hn => ?_⟩
        rw [isrt_uniq hp hsr]
        exact m.go hw (rps_ofints _) hs q hn
      · exact hs.elim
    · exact hs.elim
  · exact hs.elim⟩
/-! ### list(range(..)) -/
def xLstRg2 (mk : List D → M D) (a b : Env → M D) : Env → M D := fun e S => (a e S).bind fun x S1 => (b e S1).bind fun y S2 => match x, y with
  | .int i, .int j => if 0 ≤ i ∧ j ≤ 16777216 ∧ i ≤ 16777216 ∧ 0 ≤ j then mk (irange i (j - i).toNat) S2 else .bad
  | _, _ => .bad
def xLstRg1 (mk : List D → M D) (b : Env → M D) : Env → M D := fun e S1 => (b e S1).bind fun y S2 => match y with
  | .int j => if j ≤ 16777216 ∧ 0 ≤ j then mk (irange 0 j.toNat) S2 else .bad
  | _ => .bad
theorem rps_irange {K : PySem.W.Frag} {r : List Addr} {F : Hp} (i : Int) : ∀ ns : List Nat, Rps K r F (ns.map fun n => D.int (i + (n : Nat))) (ns.map fun n => V.int (i + (n : Nat)))
  | [] => rps_nil
  | n :: ns => by rw [List.map_cons, List.map_cons]; exact rps_cons rpi (rps_irange i ns)
section
variable {X : Cx} {W : WX} {a b : Expr} {fa fb : Env → M D} {p p2 pos pos2 : Pos} {mk : List D → M D}
theorem pd_listRg2 (m : Mk mk) (hc : X.calm = true) (zr : X.mg "range" = none) (zl : X.mg "list" = none) (ha : PD X W a fa) (hb : PD X W b fb) (hgr : Gl X "range" := by rfl) (hgl : Gl X "list" := by rfl)
    (na : starEach [a, b] X.env = (false, eval a X.env) :: starEach [b] X.env := by rfl) (nb : starEach [b] X.env = (false, eval b X.env) :: starEach [] X.env := by rfl) (hp : (backTo pos2 (starEach [b] X.env)).any (·.1) = false := by rfl)
    (nl : starEach [.Call (.Name "range" p2) [a, b] [] pos2] X.env = (false, eval (.Call (.Name "range" p2) [a, b] [] pos2) X.env) :: starEach [] X.env := by rfl) : PD X W (.Call (.Name "list" p) [.Call (.Name "range" p2) [a, b] [] pos2] [] pos) (xLstRg2 mk fa fb) := by
  refine weakE (pe_listRg hc hgl zl (prg_2 hgr zr ha hb na nb hp) nl) fun σ H Q ⟨w, env, eH, hw, he, hs⟩ => ?_
  subst eH
  refine ⟨w, env, rfl, hw, he, SatW.imp (SatW.bind hs) fun w1 d v g1 r1 s1 => ?_⟩
  refine ⟨w1, env, rfl, g1.wd, he.go g1, SatW.imp (SatW.bind s1) fun w2 d2 v2 g2 r2 s2 => ?_⟩
  split at s2
  · rename_i i j
    obtain ⟨hk, s2⟩ := satIf s2
    refine ⟨i, j, rp_int r1, rp_int r2, RgOk.of_le hk.1 hk.2.1 hk.2.2.1 hk.2.2.2, fun q hn => ?_⟩
    exact m.go g2.wd (rps_irange i _) s2 q hn
  · exact s2.elim
theorem pd_listRg1 (m : Mk mk) (hc : X.calm = true) (zr : X.mg "range" = none) (zl : X.mg "list" = none) (hb : PD X W b fb) (hgr : Gl X "range" := by rfl) (hgl : Gl X "list" := by rfl)
    (nb : starEach [b] X.env = (false, eval b X.env) :: starEach [] X.env := by rfl)
    (nl : starEach [.Call (.Name "range" p2) [b] [] pos2] X.env = (false, eval (.Call (.Name "range" p2) [b] [] pos2) X.env) :: starEach [] X.env := by rfl) : PD X W (.Call (.Name "list" p) [.Call (.Name "range" p2) [b] [] pos2] [] pos) (xLstRg1 mk fb) := by
  refine weakE (pe_listRg hc hgl zl (prg_1 hgr zr hb nb) nl) fun σ H Q ⟨w, env, eH, hw, he, hs⟩ => ?_
  subst eH
  refine ⟨w, env, rfl, hw, he, SatW.imp (SatW.bind hs) fun w2 d2 v2 g2 r2 s2 => ?_⟩
  split at s2
  · rename_i j
    obtain ⟨hk, s2⟩ := satIf s2
    refine ⟨j, rp_int r2, RgOk.of_le (by omega) hk.1 (by omega) hk.2, fun q hn => ?_⟩
    have e : (j - 0).toNat = j.toNat := by rw [Int.sub_zero]
    unfold rgV
    rw [e]
    exact m.go g2.wd (rps_irange 0 _) s2 q hn
  · exact s2.elim
end
end Dv
/-! # Dv19: own exception classes with their own __init__ -/
namespace Dv
open PySem PySem.Spec PyProof.Rows L2
section
variable {X : Cx} {o e : Expr} {es : List Expr} {ta : TA} {B : Addr} {x : Str} {p p1 p2 pos : Pos}
/-- B.__init__(self, ..), B an own class without __init__ over ValueError -/
theorem pe_binit {pl : Sem Bool} {mc : Value} (hg : Gl X x) (hm : X.mg x = some (.ref B)) (sG : PySem.W.specialIn X.K (.ref B) "__getattribute__" = some (some (.builtin "type.__getattribute__"))) (rB : PySem.W.readsIn X.K B mc = true)
    (vV : PySem.W.findCls X.K (.ref B) mc "__init__" = some (.val (.builtin "ValueError.__init__"))) (ha : PA X (e :: es) ta) (hdb : (x == ("__debug__" : Str)) = false := by decide)
    (hc : eval (.Call (.Attribute (.Name x p1) "__init__" p2) (e :: es) [] pos) X.env = (do
      let ov ← eval (.Name x p1) X.env
      standAt p2.atName
      let (f, first) ← holding [ov] (getMethod ov "__init__" pl)
      callWith pos f first (backTo pos (starEach (e :: es) X.env)) (backToKw pos (keywordEach [] X.env))) := by rfl)
    (he : starEach (e :: es) X.env = (false, eval e X.env) :: starEach es X.env := by rfl) (hpl : (backTo pos (starEach es X.env)).any (·.1) = false := by rfl) :
    PE X (.Call (.Attribute (.Name x p1) "__init__" p2) (e :: es) [] pos) (tVeI X.K ta) := by
  refine ⟨fun pins s σ H Q I h => ?_⟩
  refine PySem.W.methodCall_KW (ld_glob I hg hm ?_ hdb) hc
  refine PySem.W.method_cls I.kIn sG ?_
  refine PySem.W.cls_value I.kIn rB vV (by decide +kernel) ?_
  show wpAny _ _ (callWith pos (Value.builtin "ValueError.__init__") [] (backTo pos (starEach (e :: es) X.env)) []) _ _ _
  refine PyProof.Rows.callWith_method1 (thn (ha.run pos pins _ σ H _ (I.tok _) h) fun us s1 ⟨vs, H1, I1, r1, a, C, ws, ev, hl, T, ea, q⟩ => ?_) he hpl
  subst ev
  cases r1 with
  | @cons _ u0 _ ur ra rw' =>
    obtain rfl : u0 = Value.ref a := ra
    have hlen : ur.length ≤ sizeLine := by
      rw [← Paired.length rw', sizeLine_eq]
      omega
    exact oinit_ok T I1 ea hlen fun s' J => ⟨.non, H1, J, rfl, q⟩
end
/-- what the __init__ of C does: the one field f is set -/
def spI (K : PySem.W.Frag) (C : Addr) (f : Str) : Sp := fun vs H Q _ => ∃ (a : Addr) (i : Int), vs = [.ref a, .int i] ∧ H a = some (exo a C none) ∧ ∀ dx, H dx = none → dx ≠ a → Q .non (upd (upd H dx (exd dx [(f, .int i)])) a (exo a C (some dx)))
def yRaiseI (c f : Str) (h : Env → M (List D)) : Env → Store → Out := fun e S => (h e S).out e fun l S1 => match l with
  | [.int i] => .exc ⟨c, some (f, i)⟩ e S1
  | _ => .bad
section
variable {X : Cx} {W : WX} {x f : Str} {e : Expr} {h : Env → M (List D)} {p pos pos2 : Pos} {C fI : Addr} {CX : CXT} {k : Nat} {fd : FuncData} {ps : List Str}
theorem upd_back {H : Hp} {a d : Addr} {o1 o2 o3 o4 : HO} (hn : H a = none) (hd : d ≠ a) : upd (del (upd (upd (upd H a o1) d o2) a o3) a) d o4 = upd H d o4 := by
  funext b
  by_cases q : b = d
  · subst q; rw [upd_same, upd_same]
  · rw [upd_ne q, upd_ne q]
    by_cases q2 : b = a
    · subst q2; rw [del_same, hn]
    · rw [del_ne q2, upd_ne q2, upd_ne q, upd_ne q2]
theorem psd_raiseI (hc : X.calm = true) (tk : Takes X W) (n : ClsAt X.K x C) (T : OexC X.K C) (iC : PySem.W.findIn X.K (.ref C) "__init__" = some (some (.ref fI))) (tI : PySem.W.typeIn X.K (.ref fI) = some (.type "function"))
    (F1 : FnOk X.prog X.w X.K X.mg X.base CX k fI fd ps (spI X.K C f)) (hr : Room (k + 1) X.A) (hb : Binds X.K fd ps []) (hx : Passes CX X (fun _ _ _ => False)) (hm : X.mg x = some (.ref C)) (ha : PAD X W [e] h) (hg : Gl X x := by rfl)
    (hdb : (x == ("__debug__" : Str)) = false := by decide) (he : starEach [e] X.env = (false, eval e X.env) :: starEach [] X.env := by rfl) (hpl : (backTo pos (starEach [] X.env)).any (·.1) = false := by rfl) :
    PSD X W (.Raise (some (.Call (.Name x p) [e] [] pos)) none pos2) (yRaiseI x f h) := by
  refine weakS (ps_raise hc tk (pmk_oex T iC tI F1 hr hb (ds := []) (dvs := []) .nil hx hg hm ha hdb he hpl)) fun D σ H ⟨w, env, eH, hw, hev, hs⟩ => ?_
  subst eH
  refine ⟨w, env, rfl, hw, hev, SatW.imp (SatS.out hs hev) fun w1 l vs g1 r1 s1 => ?_⟩
  split at s1
  · rename_i i
    obtain ⟨v, rfl, rv⟩ := one_inv r1
    rw [rp_int rv]
    refine ⟨by simp, fun a hn => ⟨a, i, rfl, upd_same, fun d hd hda => ⟨rfl, d, [(f, .int i)], upd_same, ?_, ?_, ?_⟩⟩⟩
    · rw [upd_ne hda, upd_same]
    · rwa [upd_ne hda] at hd
    · have hd1 : w1.H d = none := by rwa [upd_ne hda] at hd
      rw [upd_back hn hda]
      exact s1 ⟨w1.r, upd w1.F d (.xd [(f, .int i)]), w1.S, upd w1.H d (.xd [(f, .int i)])⟩ σ (.ref C) (some d) (Go.alloc g1.wd hd1) rfl ((hev.go g1).go (Go.alloc g1.wd hd1)) ⟨C, n, rfl, d, rfl, upd_same⟩
  · exact s1.elim
end
/-! ### e.f of a kept exception -/
def xFldL (L : List Str) (f : Str) (g : Env → M D) : Env → M D := fun e S => (g e S).bind fun d S1 => match d with
  | .exn c (some (f', i)) => if f' = f ∧ c ∈ L then .ok (.int i) S1 else .bad
  | _ => .bad
section
variable {X : Cx} {W : WX} {e : Expr} {g : Env → M D} {pos : Pos} {f : Str}
theorem pe_xfK {te : TE} (he : PE X e te) (hb : attributeBase e f X.env (eval e X.env) = eval e X.env := by rfl) :
    PE X (.Attribute e f pos) (fun σ H Q => te σ H fun x H1 => ∃ (a C dd : Addr) (fs : List (Str × V)) (v : V), x = .ref a ∧ H1 a = some (ExH (.ref C) (some dd) a) ∧ XfC X.K C ∧ PySem.W.findIn X.K (.ref C) f = some none ∧ H1 dd = some (.xd fs) ∧ fs.lookup f = some v ∧ Q v H1) := by
  refine ⟨fun pins s σ H Q I h => ?_⟩
  refine attr_of hb (thn (he.run pins s σ H _ I h) fun u s1 hh => ?_)
  obtain ⟨x, H1, I1, rx, a, C, dd, fs, v, ex, eh, T, hno, ea, l, q⟩ := hh
  subst ex
  obtain rfl : u = Value.ref a := rx
  obtain ⟨oe, vs, ha, hz, hd⟩ := (I1.hok a _ eh).1
  have hx : ObjOk X.prog X.w H1 s1.heap dd (.xd fs) := I1.hok dd _ ea
  obtain ⟨mA, hns, hr⟩ := hx
  obtain ⟨od, ho, hl⟩ := lookIn_ns hns
  obtain ⟨u, hu, ru⟩ := RelO.some_of (v := v) (o := mA f) (by rw [← l]; exact hr f)
  have J : PySem.W.InstAt s1.heap a oe C (some od) := ⟨ha, hz.1, by unfold PySem.W.notCls; rw [hd] <;> rfl, by rw [hz.2]; exact ho⟩
  exact HandSPX.exc_get I1.kIn J T.ga T.gg T.exC (PySem.W.findObj_own T.hdC hno rfl (by rw [hl, hu])) (handed_of ru) ⟨v, H1, I1.tok _, ru, q⟩
theorem pd_fldL {L : List Str} (fc : ∀ c ∈ L, FldC X.K f c) (he : PD X W e g) (hb : attributeBase e f X.env (eval e X.env) = eval e X.env := by rfl) : PD X W (.Attribute e f pos) (xFldL L f g) := by
  refine weakE (pe_xfK he hb) fun σ H Q ⟨w, env, eH, hw, hev, hs⟩ => ?_
  subst eH
  refine ⟨w, env, rfl, hw, hev, SatW.imp (SatW.bind hs) fun w1 d v g1 r1 s1 => ?_⟩
  split at s1
  · rename_i c f' i
    obtain ⟨hk, s2⟩ := satIf s1
    obtain ⟨hf, hc⟩ := hk
    subst hf
    unfold RD Rp at r1
    obtain ⟨a, C, d, rfl, hC, hF, dd, rfl, hdd⟩ := r1
    obtain ⟨hno, T⟩ := fc c hc C hC
    refine ⟨a, C, dd, _, .int i, rfl, g1.wd.same _ _ hF, T, hno, g1.wd.same _ _ hdd, by simp, s2 w1 (V.int i) (Go.refl g1.wd) rfl (by unfold RD; exact rpi)⟩
  · exact s1.elim
end
theorem fld_of {K : PySem.W.Frag} {mg : Str → Option Value} {c f : Str} {C : Addr} (h1 : Rc K mg c C) (hf : PySem.W.findIn K (.ref C) f = some none) : FldC K f c := fun C' e1 => by
  have e3 : C = C' := ClsAt.uniq h1.n e1
  subst e3
  exact ⟨hf, ⟨h1.e.hg, h1.e.hk, h1.b, h1.e.hd⟩⟩
end Dv
/-! # Dv20: reckoning where exceptions may be told -/
namespace Dv
open PySem PySem.Spec PyProof.Rows L2
structure Enx {α : Type} (x : Res α) (P : α → Store → Prop) (X : Exn → Store → Prop) : Prop where
  go : match x with
    | .ok a S => P a S
    | .exc y S => X y S
    | .bad => False
structure EnxO (o : Out) (Q : Pst) (X : Exn → Env → Store → Prop) : Prop where
  go : match o with
    | .exc y e S => X y e S
    | o => EnO0 o Q
section
variable {α β : Type} {x : Res α} {a : α} {S : Store} {P : α → Store → Prop} {X : Exn → Store → Prop} {Y : Exn → Env → Store → Prop} {Q : Pst} {e : Env} {d : D} {y : Exn}
@[simp] theorem enx_ok : Enx (.ok a S) P X = P a S := propext ⟨fun h => h.go, fun h => ⟨h⟩⟩
@[simp] theorem enx_exc : Enx (.exc y S : Res α) P X = X y S := propext ⟨fun h => h.go, fun h => ⟨h⟩⟩
@[simp] theorem enx_bad : Enx (.bad : Res α) P X = False := propext ⟨fun h => h.go, fun h => h.elim⟩
@[simp] theorem enx_bind {k : α → Store → Res β} {P : β → Store → Prop} : Enx (x.bind k) P X = Enx x (fun a S => Enx (k a S) P X) X := by cases x <;> simp
theorem Enx.imp {P' : α → Store → Prop} {X' : Exn → Store → Prop} (h : Enx x P X) (q : ∀ a S, P a S → P' a S) (r : ∀ y S, X y S → X' y S) : Enx x P' X' := by
  cases x with
  | ok a S => exact ⟨q _ _ h.go⟩
  | exc y S => exact ⟨r _ _ h.go⟩
  | bad => exact ⟨h.go⟩
theorem Ens.toX (h : Ens x P) : Enx x P X := by
  cases x with
  | ok a S => exact ⟨h.go⟩
  | exc y S => exact h.go.elim
  | bad => exact ⟨h.go⟩
theorem enx_ite {c : Prop} [Decidable c] {y : Res α} (h1 : c → Enx x P X) (h2 : ¬ c → Enx y P X) : Enx (if c then x else y) P X := by
  split
  · exact h1 (by assumption)
  · exact h2 (by assumption)
@[simp] theorem enxo_nx : EnxO (.nx e S) Q Y = Q.nx e S := propext ⟨fun h => h.go, fun h => ⟨h⟩⟩
@[simp] theorem enxo_rt : EnxO (.rt d S) Q Y = Q.rt d S := propext ⟨fun h => h.go, fun h => ⟨h⟩⟩
@[simp] theorem enxo_bk : EnxO (.bk e S) Q Y = Q.bk e S := propext ⟨fun h => h.go, fun h => ⟨h⟩⟩
@[simp] theorem enxo_ct : EnxO (.ct e S) Q Y = Q.ct e S := propext ⟨fun h => h.go, fun h => ⟨h⟩⟩
@[simp] theorem enxo_exc : EnxO (.exc y e S) Q Y = Y y e S := propext ⟨fun h => h.go, fun h => ⟨h⟩⟩
@[simp] theorem enxo_bad : EnxO .bad Q Y = False := propext ⟨fun h => h.go, fun h => h.elim⟩
@[simp] theorem enxo_out {k : α → Store → Out} : EnxO (x.out e k) Q Y = Enx x (fun a S => EnxO (k a S) Q Y) (fun y S => Y y e S) := by cases x <;> simp
@[simp] theorem enxo_seq {o : Out} {k : Env → Store → Out} : EnxO (o.seq k) Q Y = EnxO o { Q with nx := fun e S => EnxO (k e S) Q Y } Y := by cases o <;> simp
theorem EnsO.toX {o : Out} (h : EnsO o Q) : EnxO o Q Y := by
  cases o with
  | exc y e S => exact h.go.elim
  | _ => exact ⟨h.go⟩
theorem EnxO.imp {o : Out} {Q' : Pst} {Y' : Exn → Env → Store → Prop} (h : EnxO o Q Y) (h1 : ∀ e S, Q.nx e S → Q'.nx e S) (h2 : ∀ e S, Q.rt e S → Q'.rt e S) (h3 : ∀ e S, Q.bk e S → Q'.bk e S) (h4 : ∀ e S, Q.ct e S → Q'.ct e S) (h5 : ∀ y e S, Y y e S → Y' y e S) : EnxO o Q' Y' := by
  cases o with
  | nx e S => exact ⟨h1 _ _ h.go⟩
  | rt e S => exact ⟨h2 _ _ h.go⟩
  | bk e S => exact ⟨h3 _ _ h.go⟩
  | ct e S => exact ⟨h4 _ _ h.go⟩
  | exc y e S => exact ⟨h5 _ _ _ h.go⟩
  | bad => exact ⟨h.go⟩
theorem enxo_ite {c : Prop} [Decidable c] {o p : Out} (h1 : c → EnxO o Q Y) (h2 : ¬ c → EnxO p Q Y) : EnxO (if c then o else p) Q Y := by
  split
  · exact h1 (by assumption)
  · exact h2 (by assumption)
end
theorem enx_fn {np ns : Nat} {keep : Bool} {body : Env → Store → Out} {ds : List D} {S : Store} {P : D → Store → Prop} {X : Exn → Store → Prop} (hl : ds.length = np)
    (h : EnxO (body (ds.map some ++ List.replicate (ns - np) none) S) { nx := fun _ S' => Enx (fin keep S.length .non S') P X, rt := fun d S' => Enx (fin keep S.length d S') P X } fun y _ S' => Enx (finX S.length y S') P X) : Enx (fnD np ns keep body ds S) P X := by
  unfold fnD
  rw [if_pos hl]
  cases o : body (ds.map some ++ List.replicate (ns - np) none) S with
  | nx e S => rw [o] at h; exact h.go
  | rt e S => rw [o] at h; exact h.go
  | bk e S => rw [o] at h; exact h.go.elim
  | ct e S => rw [o] at h; exact h.go.elim
  | exc y e S => rw [o] at h; exact h.go
  | bad => rw [o] at h; exact h.go.elim
@[simp] theorem finX_same {S : Store} {y : Exn} : finX S.length y S = .exc y S := by simp [finX]
theorem finX_cut {S R : Store} {y : Exn} (hu : (S.all fun c => c.under S.length) = true) : finX S.length y (S ++ R) = .exc y S := by
  unfold finX
  by_cases z : (S ++ R).length = S.length
  · rw [if_pos z]
    have : R = [] := List.length_eq_zero_iff.mp (by rw [List.length_append] at z; omega)
    subst this
    simp
  · rw [if_neg z, List.take_left, hu]
    rfl
theorem enx_sq {y y' : Env → Store → Out} {e : Env} {S : Store} {Q : Pst} {Y : Exn → Env → Store → Prop} (R : Env → Store → Prop) (h1 : ∀ R' : Env → Store → Prop, (∀ e S, R e S → R' e S) → EnxO (y e S) { Q with nx := R' } Y) (h2 : ∀ e S, R e S → EnxO (y' e S) Q Y) : EnxO (ySeq y y' e S) Q Y := by
  have h := h1 R fun _ _ h => h
  unfold ySeq
  rw [enxo_seq]
  exact h.imp h2 (fun _ _ h => h) (fun _ _ h => h) (fun _ _ h => h) (fun _ _ _ h => h)
theorem enx_fr {g : D → Env → Store → Out} {b : Env → Store → Out} {Q : Pst} {Y : Exn → Env → Store → Prop} (I : Nat → Env → Store → Prop) : ∀ {items : List D} {e : Env} {S : Store}, I 0 e S →
    (∀ (i : Nat) d e S (R' : Env → Store → Prop), items[i]? = some d → I i e S → (∀ e S, I (i + 1) e S → R' e S) → EnxO (g d e S) { nx := fun e1 S1 => EnxO (b e1 S1) { nx := R', ct := R', bk := Q.nx, rt := Q.rt } Y } fun _ _ _ => False) →
    (∀ e S, I items.length e S → Q.nx e S) → EnxO (forL (fun _ => True) g b items e S) Q Y := by
  have go : ∀ (items : List D) (I : Nat → Env → Store → Prop) (e : Env) (S : Store), I 0 e S →
    (∀ (i : Nat) d e S (R' : Env → Store → Prop), items[i]? = some d → I i e S → (∀ e S, I (i + 1) e S → R' e S) → EnxO (g d e S) { nx := fun e1 S1 => EnxO (b e1 S1) { nx := R', ct := R', bk := Q.nx, rt := Q.rt } Y } fun _ _ _ => False) →
    (∀ e S, I items.length e S → Q.nx e S) → EnxO (forL (fun _ => True) g b items e S) Q Y := by
    intro items
    induction items with
    | nil =>
      intro I e S h0 _ hd
      unfold forL
      rw [if_pos trivial, enxo_nx]
      exact hd e S h0
    | cons d l ih =>
      intro I e S h0 hs hd
      unfold forL
      rw [if_pos trivial]
      have h1 := hs 0 d e S (I 1) rfl h0 fun _ _ h => h
      have next : ∀ e' S', I 1 e' S' → EnxO (forL (fun _ => True) g b l e' S') Q Y := fun e' S' q => ih (fun i => I (i + 1)) e' S' q (fun i d' e2 S2 R' hi hI hR => hs (i + 1) d' e2 S2 R' hi hI hR) fun e2 S2 q2 => hd e2 S2 q2
      cases o : g d e S with
      | nx e1 S1 =>
        rw [o, enxo_nx] at h1
        dsimp only at h1 ⊢
        cases o2 : b e1 S1 with
        | nx e2 S2 => rw [o2, enxo_nx] at h1; exact next _ _ h1
        | ct e2 S2 => rw [o2, enxo_ct] at h1; exact next _ _ h1
        | bk e2 S2 => rw [o2, enxo_bk] at h1; dsimp only; rw [enxo_nx]; exact h1
        | rt e2 S2 => rw [o2, enxo_rt] at h1; dsimp only; rw [enxo_rt]; exact h1
        | exc y e2 S2 => rw [o2, enxo_exc] at h1; dsimp only; rw [enxo_exc]; exact h1
        | bad => rw [o2, enxo_bad] at h1; exact h1.elim
      | rt e1 S1 => rw [o, enxo_rt] at h1; exact h1.elim
      | bk e1 S1 => rw [o, enxo_bk] at h1; exact h1.elim
      | ct e1 S1 => rw [o, enxo_ct] at h1; exact h1.elim
      | exc y e1 S1 => rw [o, enxo_exc] at h1; exact h1.elim
      | bad => rw [o, enxo_bad] at h1; exact h1.elim
  intro items e S h0 hs hd
  exact go items I e S h0 hs hd
section
variable {oo : Option D} {ll : Env} {S S' : Store} {e e' : Env} {x : Exn} {c d f : Str} {i j : Nat} {g : Env → Store → Out} {h : Env → M (List D)} {g' : Env → M D} {L : List (Str × Str × Bool)} {R : List Str} {Q : Pst} {Y : Exn → Env → Store → Prop}
@[simp] theorem yRaiseI_app : yRaiseI c f h (oo :: ll) S = (h (oo :: ll) S).out (oo :: ll) fun l S1 => match l with
  | [.int i] => .exc ⟨c, some (f, i)⟩ (oo :: ll) S1
  | _ => .bad := rfl
@[simp] theorem xFldL_app {R : List Str} : xFldL R f g' (oo :: ll) S = (g' (oo :: ll) S).bind fun d S1 => match d with
  | .exn c (some (f', i)) => if f' = f ∧ c ∈ R then .ok (.int i) S1 else .bad
  | _ => .bad := rfl
/-- a suite that tells, or raises what is caught and kept -/
theorem enx_try (h : EnxO (g e S) Q fun y e' S' => subT L y.cls d = some true ∧ ∃ o, e'[i]? = some o ∧ Q.nx ((e'.set j (some (.exn y.cls y.val))).set i none) S') : EnsO (yTryKeep L d i j g e S) Q := by
  cases o : g e S with
  | exc y e2 S2 =>
    rw [o, enxo_exc] at h
    obtain ⟨h1, o', h2, h3⟩ := h
    rw [yTry_exc o h1 h2, enso_nx]
    exact h3
  | nx e2 S2 => rw [o, enxo_nx] at h; unfold yTryKeep; rw [o]; exact ⟨h⟩
  | rt e2 S2 => rw [o, enxo_rt] at h; unfold yTryKeep; rw [o]; exact ⟨h⟩
  | bk e2 S2 => rw [o, enxo_bk] at h; unfold yTryKeep; rw [o]; exact ⟨h⟩
  | ct e2 S2 => rw [o, enxo_ct] at h; unfold yTryKeep; rw [o]; exact ⟨h⟩
  | bad => rw [o, enxo_bad] at h; exact h.elim
end
end Dv
/-! # Dv21: {k: v}, d.setdefault, len(set(..)); defs that call themselves -/
namespace Dv
open PySem PySem.Spec PyProof.Rows L2
theorem fn_bad {P : Program} {w : World} {K : PySem.W.Frag} {mg : Str → Option Value} {base : Heap} {CX : CXT} {k : Nat} {f : Addr} {fd : FuncData} {ps : List Str} : FnOk P w K mg base CX k f fd ps (spD ⟨K, mg⟩ fun _ _ => .bad) := by
  refine ⟨fun vs H Q E ⟨wl, ds, _, _, _, hs⟩ => hs.elim, fun A outer s H args us vs Q E _ _ _ _ ⟨wl, ds, _, _, _, hs⟩ => hs.elim⟩
/-! ### {k: v} -/
def xDct1 (f g : Env → M D) : Env → M D := fun e S => (f e (S ++ [.dct []])).bind fun k S1 => (g e S1).bind fun v S2 => match keyD k, S2[S.length]? with
  | some kk, some (.dct []) => .ok (.cell S.length) (S2.set S.length (.dct [(kk, v)]))
  | _, _ => .bad
section
variable {X : Cx} {W : WX} {o i e f k v : Expr} {fo fi fe ff fk fv : Env → M D} {pos apos cpos : Pos}
theorem pd_dct1 (hk : PD X W k fk) (hv : PD X W v fv) : PD X W (.Dict [some k] [v] pos) (xDct1 fk fv) := by
  refine weakE (pe_disp (pps_cons hk hv pps_nil) rfl rfl (by simp) (by simp)) fun σ H Q ⟨w, env, eH, hw, he, hs⟩ p hp => ?_
  subst eH
  have g0 : Go X.K w ⟨w.r ++ [p], w.F, w.S ++ [.dct []], upd w.H p (.dK [])⟩ := Go.newCell (c := .dct []) hw hp (by exact ⟨hw.fresh hp, [], upd_same, .nil⟩)
  have hat : (w.r ++ [p])[w.S.length]? = some p := by
    rw [← hw.len, List.getElem?_append_right (Nat.le_refl _), Nat.sub_self]
    rfl
  unfold xDct1 at hs
  refine ⟨⟨w.r ++ [p], w.F, w.S ++ [.dct []], upd w.H p (.dK [])⟩, env, rfl, g0.wd, he.go g0, SatW.imp (SatW.bind (hs.pre g0)) fun w1 d1 v1 g1 r1 s1 => ?_⟩
  refine ⟨w1, env, rfl, g1.wd, (he.go g0).go g1, SatW.imp (SatW.bind s1) fun w2 d2 v2 g2 r2 s2 => ?_⟩
  have cellAt : RD (kt X).K w2 (.cell w.S.length) (.ref p) := by
    have h0 : Rp X.K (w.r ++ [p]) w.F (.cell w.S.length) (.ref p) := by unfold Rp; exact ⟨p, hat, rfl⟩
    exact Rp.go (g1.trans g2) (w := ⟨w.r ++ [p], w.F, w.S ++ [.dct []], upd w.H p (.dK [])⟩) h0
  split at s2
  · rename_i kk hk2 hc
    obtain ⟨a, ws, ea, ha, pp, go⟩ := cellK_write (T := kt X) (l' := [(kk, d2)]) g2.wd cellAt hc
    cases ea
    cases pp.length ▸ (show ws.length = 0 from pp.length)
    have ew : ws = [] := List.length_eq_zero_iff.mp pp.length
    subst ew
    rw [keyD_v r1 hk2]
    refine ⟨ha, [(kk, v2)], rfl, by simp, ?_⟩
    have g3 := go [(kk, v2)] (.cons ⟨rfl, r2⟩ .nil)
    exact s2 _ (.ref p) g3 rfl (Rp.go g3 cellAt)
  · exact s2.elim
def dSetd (x k z : D) (S : Store) : Res D := match cellK x S, keyD k with
  | some (n, l), some kk => if l.length < 16000000 then match valD l kk with
    | some d => .ok d S
    | none => .ok z (S.set n (.dct (putD l kk z)))
    else .bad
  | _, _ => .bad
def xSetd (o e f : Env → M D) : Env → M D := fun n S => (o n S).bind fun x S1 => if isK x S1 = true then (e n S1).bind fun k S2 => (f n S2).bind fun z S3 => dSetd x k z S3 else .bad
theorem pd_setd (ho : PD X W o fo) (he : PD X W e fe) (hf : PD X W f ff) (m : M2 X o "setdefault" apos e f cpos := by exact ⟨rfl, rfl, rfl, rfl⟩) : PD X W (.Call (.Attribute o "setdefault" apos) [e, f] [] cpos) (xSetd fo fe ff) := by
  refine weakE (pe_dsetd ho he hf m) fun σ H Q ⟨w, env, eH, hw, he, hs⟩ => ?_
  subst eH
  refine ⟨w, env, rfl, hw, he, SatW.imp (SatW.bind hs) fun w1 d v g1 r1 s1 => ?_⟩
  obtain ⟨hk, s1⟩ := satIf s1
  obtain ⟨a, rfl, hd⟩ := isK_isD g1.wd r1 hk
  refine ⟨a, rfl, hd, w1, env, rfl, g1.wd, he.go g1, SatW.imp (SatW.bind s1) fun w2 d2 v2 g2 r2 s2 => ?_⟩
  refine ⟨w2, env, rfl, g2.wd, (he.go g1).go g2, SatW.imp (SatW.bind s2) fun w3 d3 v3 g3 r3 s3 => ?_⟩
  have r1' := Rp.go (g2.trans g3) r1
  have r2' := Rp.go g3 r2
  unfold dSetd at s3
  split at s3
  · rename_i n l kk hc hk2
    obtain ⟨hl, s3⟩ := satIf s3
    obtain ⟨rfl, en⟩ := cellK_eq hc
    obtain ⟨a', ws, ea, ha, p, go⟩ := cellK_write (T := kt X) (l' := putD l kk d3) g3.wd r1' en
    cases ea
    refine ⟨ws, kk, ha, keyD_v r2 hk2, by rw [p.length]; exact Nat.lt_of_lt_of_le hl (line16 (Nat.le_refl _)), fun vz ez => ?_, fun ez => ?_⟩
    · cases q : valD l kk with
      | none => rw [p.none q] at ez; cases ez
      | some d =>
        rw [q] at s3
        obtain ⟨vz', ez', rz⟩ := p.some q
        rw [ez'] at ez
        cases ez
        exact SatW.here (v := vz) s3 g3.wd rz
    · cases q : valD l kk with
      | some d =>
        obtain ⟨vz', ez', rz⟩ := p.some q
        rw [ez'] at ez
        cases ez
      | none =>
        rw [q] at s3
        have g4 := go _ (p.put kk r3)
        exact s3 _ v3 g4 rfl (Rp.go g4 r3)
  · exact s3.elim
end
/-! ### len(set(xs)) -/
def dedup (ns : List Int) : List Int := firstMet (fun i => ns.getD i 0) ns.length
def tLenSetX (K : PySem.W.Frag) (ta : TE) : TE := fun σ H Q => ta σ H fun x H1 => ∃ (l : Addr) (ns : List Int), x = V.ref l ∧ SqL K H1 l (ns.map V.int) ∧ ns.length ≤ 4000 ∧ Q (.int (dedup ns).length) H1
section
variable {X : Cx} {W : WX}
theorem pe_lenSetX {a : Expr} {ta : TE} {p p2 q pos : Pos} (hc : X.calm = true) (hg : Gl X "len") (hm : X.mg "len" = none) (hg2 : Gl X "set") (hm2 : X.mg "set" = none) (ha : PE X a ta)
    (na : starEach [a] X.env = (false, eval a X.env) :: starEach [] X.env := by rfl) : PE X (.Call (.Name "len" p) [.Call (.Name "set" p2) [a] [] q] [] pos) (tLenSetX X.K ta) := by
  refine ⟨fun pins s σ H Q I h => ?_⟩
  refine Call_ (ld_blt I hg hm PySem.boot_len ?_)
  refine PyProof.Rows.callWith_builtin1 (PyProof.Rows.args_cons ?_ rfl) rfl rfl
  refine Call_ (ld_blt I hg2 hm2 PyProof.Rows.boot_set ?_)
  refine PyProof.Rows.callWith_type1 (PyProof.Rows.args_cons (thn (ha.run pins s σ H _ I h) fun v s1 ⟨x, H1, I1, r1, q1⟩ => PyProof.Rows.args_nil ?_) na) na rfl
  obtain ⟨l, ns, rfl, hq, h1, q1⟩ := q1
  cases r1
  obtain ⟨its, r, pl, hz⟩ := I1.list hq
  have hl : its.toArray.size = ns.length := by rw [List.size_toArray, ← r.length, List.length_map]
  refine call_set_list (I1.ok.hd hc) pl.isList (ns := ns) (by simpa using r.ints) (by unfold scanBound; omega) fun h' tk hS hk => ?_
  rw [hl] at hS
  have hle := firstMet_length_le (fun i => ns.getD i 0) ns.length
  refine PyProof.Rows.args_nil ?_
  obtain ⟨o, es, ep, t, ho, hex, hd, _, _, _, hf, hn⟩ := hS
  have I2 : Inv X pins σ H1 { s1 with heap := h', toks := tk } := I1.kept fun b o e => hk b o (Heap.lt_size e) e
  refine call_len_set ho hex hd hf (by rw [hn] <;> omega) ⟨.int (dedup ns).length, H1, I2.tok _, ⟨_, by rw [hn]; rfl⟩, q1⟩
def dLenSet (d : D) (S : Store) : Res D := match (getQ d S).bind intsOf with
  | some ns => if ns.length ≤ 4000 then .ok (.int (dedup ns).length) S else .bad
  | none => .bad
def xLenSet (f : Env → M D) : Env → M D := fun e S => (f e S).bind dLenSet
theorem pd_lenSet {a : Expr} {f : Env → M D} {p p2 q pos : Pos} (hc : X.calm = true) (hm : X.mg "len" = none) (hm2 : X.mg "set" = none) (ha : PD X W a f) (hg : Gl X "len" := by rfl) (hg2 : Gl X "set" := by rfl)
    (na : starEach [a] X.env = (false, eval a X.env) :: starEach [] X.env := by rfl) : PD X W (.Call (.Name "len" p) [.Call (.Name "set" p2) [a] [] q] [] pos) (xLenSet f) := by
  refine weakE (pe_lenSetX hc hg hm hg2 hm2 ha na) fun σ H Q ⟨w, env, eH, hw, he, hs⟩ => ?_
  subst eH
  refine ⟨w, env, rfl, hw, he, SatW.imp (SatW.bind hs) fun w1 d v g1 r1 s1 => ?_⟩
  unfold dLenSet at s1
  cases hn : (getQ d w1.S).bind intsOf with
  | none => rw [hn] at s1; exact s1.elim
  | some ns =>
    rw [hn] at s1
    obtain ⟨hl, s1⟩ := satIf s1
    obtain ⟨a, rfl, hq⟩ := ints_of g1.wd r1 hn
    exact ⟨a, ns, rfl, hq, hl, SatW.here (v := V.int _) s1 g1.wd rpi⟩
end
theorem dedup_mem (ns : List Int) (k : Int) : k ∈ dedup ns ↔ k ∈ ns := by
  have e : (List.range ns.length).map (fun i => ns.getD i 0) = ns := by
    apply List.ext_getElem
    · simp
    · intro i h1 h2
      simp at h1 ⊢
      rw [List.getElem?_eq_getElem h2]
      rfl
  have h := firstMet_any (fun i => ns.getD i 0) ns.length k
  rw [e] at h
  have z : ∀ l : List Int, (l.any (· == k)) = true ↔ k ∈ l := fun l => by
    rw [List.any_eq_true]
    constructor
    · rintro ⟨x, hx, q⟩
      rw [← beq_iff_eq.mp q]; exact hx
    · exact fun hk => ⟨k, hk, beq_self_eq_true _⟩
  unfold dedup
  rw [← z, ← z, h]
theorem dedup_nodup (ns : List Int) : (dedup ns).Nodup := by
  have go : ∀ (val : Nat → Int) (i : Nat), (firstMet val i).Nodup := by
    intro val i
    induction i with
    | zero => rw [firstMet_zero]; exact List.nodup_nil
    | succ i ih =>
      rw [firstMet_succ]
      unfold step_dedup
      split
      · exact ih
      · rename_i h
        refine List.nodup_append.mpr ⟨ih, by simp, fun a ha b hb => ?_⟩
        rw [List.mem_singleton.mp hb]
        intro z
        exact h (List.any_eq_true.mpr ⟨a, ha, by rw [z]; exact beq_self_eq_true _⟩)
  exact go _ _
section
variable {oo : Option D} {ll : Env} {S : Store} {f g h : Env → M D}
@[simp] theorem xLenSet_app : xLenSet f (oo :: ll) S = (f (oo :: ll) S).bind dLenSet := rfl
@[simp] theorem xDct1_app : xDct1 f g (oo :: ll) S = (f (oo :: ll) (S ++ [.dct []])).bind fun k S1 => (g (oo :: ll) S1).bind fun v S2 => match keyD k, S2[S.length]? with
  | some kk, some (.dct []) => .ok (.cell S.length) (S2.set S.length (.dct [(kk, v)]))
  | _, _ => .bad := rfl
@[simp] theorem xSetd_app : xSetd f g h (oo :: ll) S = (f (oo :: ll) S).bind fun x S1 => if isK x S1 = true then (g (oo :: ll) S1).bind fun k S2 => (h (oo :: ll) S2).bind fun z S3 => dSetd x k z S3 else .bad := rfl
end
end Dv
/-! # Dv22: try with a suite of any statements -/
namespace Dv
open PySem PySem.Spec PyProof.Rows L2
section
variable {X : Cx} {pins : List (Addr × Obj)} {σ : L2.St} {H : Hp} {s : Shared}
theorem suite0 {a : Addr} (I : Inv X pins σ H s) : Inv (X.suite a (X.pn ++ pins)) [] σ H s :=
  ⟨I.ok.suite _ _, I.os, I.bare, I.base, I.loc, I.cell, I.free, I.freeC, fun p hp => I.pin p (by rw [List.append_nil] at hp; exact hp), I.hok, I.len⟩
theorem unsuite0 {a : Addr} {pn' : List (Addr × Obj)} (I : Inv (X.suite a (X.pn ++ pins)) pn' σ H s) (ok : X.Ok) : Inv X pins σ H s :=
  ⟨ok, I.os, I.bare, I.base, I.loc, I.cell, I.free, I.freeC, fun p hp => I.pin p (List.mem_append_left _ hp), I.hok, I.len⟩
end
/-- as wKeep; the exception is tracked ahead of the suite -/
def wAdopt (K : PySem.W.Frag) (c : Value) (i : Nat) (ts : Addr → Value → Option Addr → TS) (Wout : WX) (D : Ends) : WX := fun cls d σ H =>
  ∃ b, PySem.W.exmOne K cls c = some b ∧ (b = true → ∀ a, H a = none → ts a cls d { nx := fun σ' H' => D.nx (σ'.set i none) H', rt := D.rt, bk := fun σ' H' => D.bk (σ'.set i none) H', ct := fun σ' H' => D.ct (σ'.set i none) H' } (σ.set i (some (.ref a))) (upd H a (ExH cls d a))) ∧
    (b = false → Wout cls d σ H)
section
variable {X : Cx} {x n : Str} {c : Value} {i : Nat} {body suite : List Stmt} {b₀ : Stmt} {np pos pos' : Pos} {tb : WX → TS} {ts : Addr → Value → Option Addr → TS} {Wout : WX}
theorem ps_try_adopt (hs : X.stack = X.env :: X.outer) (hf : X.env.frame = some X.env.locals) (hex : X.ex = []) (hN : X.N.Nodup) (hi : X.N[i]? = some n) (hln : X.env.kindOf n = some .local) (hc : Names X x c) (tk : Takes X Wout)
    (hb : ∀ (W : WX) (pn : List (Addr × Obj)) (xe : Value → Shared → Prop), Takes (X.tr pn xe) W → PassesOwn (model X.prog X.w) X.A X.env xe → PSs (X.tr pn xe) body (tb W))
    (hsu : ∀ (a : Addr) (cls : Value) (d : Option Addr) (pn : List (Addr × Obj)), PSs (X.suite a pn) (b₀ :: suite) (ts a cls d)) :
    PS X (.Try body [.ExceptHandler (some (.Name x np)) (some n) (b₀ :: suite) pos'] [] [] pos) (fun D σ H => tb (wAdopt X.K c i ts Wout D) D σ H) := by
  refine ⟨fun pins s σ H D I h => ?_⟩
  have ok := I.ok
  have hfr : X.A.frames = some (X.env :: X.outer) := by rw [ok.frames, hs]
  have hloc : Loc X.env.scope n := .inl hln
  refine wpAny_Try_except ?_
  refine wpAny_mono ((hb (wAdopt X.K c i ts Wout D) (X.pn ++ pins) (fun e s₁ => wpAny (model X.prog X.w) X.A (noteFrame e X.env) (fun _ s₂ => wpAny (model X.prog X.w) X.A (setFlight e none) (fun _ s₃ =>
    wpAny (model X.prog X.w) X.A (handleBy e X.env [.ExceptHandler (some (.Name x np)) (some n) (b₀ :: suite) pos']) (SP X pins D) X.xe s₃) X.xe s₂) X.xe s₁) (fun u s' xx => ?_) PassesOwn.looking).run [] s σ H D (I.toTry _) h) (fun f s1 hsp => ?_) (fun e s1 he => he)
  · -- the catch
    obtain ⟨a, B, sI, pins', σ', H', cls, d, rfl, J', nb, up, sky, na, os, ag, b, hb1, hyes, hno⟩ := xx
    have J : Inv X pins σ' H' sI := J'.ofTry ok
    have sky' : Sky B (X.env :: X.outer) a (Zc cls d) X.env.locals s'.heap := by rw [← hs]; exact sky
    show wpAny _ X.A (noteFrame (.ref a) X.env) _ _ _
    refine Sky.land Zc.steady hfr hf sky' fun h3 fl3 up3 => ?_
    have J3 : Inv X pins σ' H' { s' with heap := h3 } := J.landed nb fl3.1 (up.trans up3) os ag
    obtain ⟨oe3, vs3, he3, hz3, hd3⟩ := fl3.there
    have notFr : ∀ {h : Heap} {o : Obj} {vs : Array Value}, h.FunFrames B (X.env :: X.outer) → h.get? a = some o → o.data = .fields vs → a ∉ frs (X.env :: X.outer) := fun {h o vs} ff e dd hm => by
      obtain ⟨_, o', e', hnf⟩ := ff.mem hm
      rw [e] at e'; cases e'
      exact hnf _ dd
    have nfr := notFr fl3.2.2.1 he3 hd3
    have nL : a ≠ X.env.locals := fun z => nfr (List.mem_filterMap.mpr ⟨X.env, List.mem_cons_self, by rw [hf, z]⟩)
    have nF : a ∉ X.fs := fun hm => by
      obtain ⟨e, he, q⟩ := List.mem_filterMap.mp hm
      exact nfr (List.mem_filterMap.mpr ⟨e, List.mem_cons_of_mem _ he, q⟩)
    -- what was there is not the exception
    have old : ∀ b ob, sI.heap.get? b = some ob → b ≠ a := fun b ob e z => by
      have hbf : b ∉ frs X.stack := fun hm => by
        rw [hs] at hm
        exact nfr (by rw [← z]; exact hm)
      have q := nb b ob e hbf
      rw [z, fl3.2.1] at q
      cases q
    have n0 : X.s_0.heap.get? a = none := by
      cases e : X.s_0.heap.get? a with
      | none => rfl
      | some ob =>
        obtain ⟨o', q⟩ := J.base.there a ob e (by rw [hex]; exact fun z => nomatch z)
        exact (old a o' q rfl).elim
    have nC : ∀ x c, X.env.cells.lookup x = some c → c ≠ a := fun x c e => by
      obtain ⟨v, ob, q, _⟩ := J.cell x c e
      exact old c ob q
    have nP : ∀ p ∈ X.pn ++ pins, p.1 ≠ a := fun p hp => old p.1 p.2 (J.pin p hp).1
    have S3 := J3.suite he3 hd3 na nL nF
    refine wpAny_handleBy_cons (codeAny_handlers_test ?_) (by intro q; cases q)
    have LT : PySem.W.Looks (model X.prog X.w) h3 (typeOf (.ref a)) cls := fun A Q E s k q => wpAny_typeOf_ref (k _ _ he3) (by rw [hz3.1]; exact q)
    have LM := PySem.W.exm_one (M := model X.prog X.w) (J3.kIn) LT hb1
    have test : ∀ {Q : Value → Shared → Prop} {E : Value → Shared → Prop}, Q c { s' with heap := h3 } → wpAny (model X.prog X.w) (X.A.mark (some (.ref a))) (eval (.Name x np) X.env) Q E { s' with heap := h3 } := fun {Q E} q => by
      obtain ⟨hg, hdbg, hm | ⟨hm, hv, hnn⟩⟩ := hc
      · exact ld_glob (X := X.suite a ((a, oe3) :: (X.pn ++ pins))) S3 hg hm q hdbg
      · exact ld_blt (X := X.suite a ((a, oe3) :: (X.pn ++ pins))) S3 hg hm hv q hnn hdbg
    refine test (LM.here ?_)
    cases b with
    | true =>
      refine codeAny_handlers_suite_as ?_
      refine HandSPX.lands_againZ fl3 fun h4 fl4 up4 => ?_
      have J4 : Inv X pins σ' H' { s' with heap := h4 } := J.landed nb fl4.1 ((up.trans up3).trans up4) os ag
      obtain ⟨oe4, vs4, he4, hz4, hd4⟩ := fl4.there
      have S4 := suite0 (a := a) (inv_adopt J4 na nL nC nP n0 (exh_ok he4 hz4 hd4))
      refine store_ok (X := X.suite a (X.pn ++ pins)) (v := .ref a) S4 hN hi hloc rfl (fun s5 S5 => ?_) (.inr hln)
      refine wpAny_mono ((hsu a cls d (X.pn ++ pins)).run [] s5 _ _ _ S5 (hyes rfl a na)) (fun f s6 hsp => ?_) (fun _ _ z => False.elim z)
      have end_ : ∀ {σ6 : L2.St} {H6 : Hp} {Q : Shared → Prop}, Inv (X.suite a (X.pn ++ pins)) [] σ6 H6 s6 → (∀ s7, Inv X pins (σ6.set i none) H6 s7 → Q s7) →
          wpAny (model X.prog X.w) X.A (do bindName X.env n .none; unbindBehindTheSuite X.env n pos') (fun _ s7 => Q s7) X.xe s6 := fun {σ6 H6 Q} S6 hq => gone_ok (unsuite0 S6 ok) hN hi hln hq
      cases f with
      | next =>
        obtain ⟨σ6, H6, S6, q6⟩ := hsp
        exact end_ S6 fun s7 J7 => ⟨_, _, J7, q6⟩
      | brk =>
        obtain ⟨σ6, H6, S6, q6⟩ := hsp
        exact end_ S6 fun s7 J7 => ⟨_, _, J7, q6⟩
      | cont =>
        obtain ⟨σ6, H6, S6, q6⟩ := hsp
        exact end_ S6 fun s7 J7 => ⟨_, _, J7, q6⟩
      | ret u =>
        obtain ⟨v6, σ6, H6, S6, r6, q6⟩ := hsp
        exact end_ S6 fun s7 J7 => ⟨_, _, _, J7, r6, q6⟩
    | false =>
      show wpAny _ X.A (handleBy (.ref a) X.env []) _ _ _
      refine wpAny_handleBy_nil ?_
      obtain ⟨k1, k2, k3, oe, vs, T, oT, ts', he, hz, hd, h1, hr⟩ := id fl3
      unfold PySem.passOn
      refine wpAny_bind (wpAny_field he hd h1 ?_)
      rw [if_neg (show ¬ ((Value.ref T == Value.none) = true) from by simp)]
      have fin : wpAny (model X.prog X.w) X.A (setFlight (.ref a) X.env.frame) (fun _ s4 => wpAny (model X.prog X.w) X.A (throw (.ref a) : Sem Flow) (SP X pins D) X.xe s4) X.xe { s' with heap := h3 } := by
        rw [hf]
        refine HandSPX.setFlight_upZ fl3 fun h4 hh4 up4 => wpAny_throw (tk _ _ ?_)
        exact ⟨a, B, sI, pins, σ', H', cls, d, rfl, J, nb, (up.trans up3).trans up4, .inr (.inr (by rw [hs]; exact hh4)), na, os, ag, hno rfl⟩
      first
        | exact wpAny_bind (wpAny_pure (wpAny_bind fin))
        | exact wpAny_bind fin
  · cases f with
    | next =>
      obtain ⟨σ', H', J', q⟩ := hsp
      exact wpAny_execs_nil ⟨σ', H', J'.ofTry ok, q⟩
    | brk =>
      obtain ⟨σ', H', J', q⟩ := hsp
      exact ⟨σ', H', J'.ofTry ok, q⟩
    | cont =>
      obtain ⟨σ', H', J', q⟩ := hsp
      exact ⟨σ', H', J'.ofTry ok, q⟩
    | ret u =>
      obtain ⟨v, σ', H', J', r, q⟩ := hsp
      exact ⟨v, σ', H', J'.ofTry ok, r, q⟩
end

/-! ### try .. except D as e: any suite -/
def yTryD (L : List (Str × Str × Bool)) (d : Str) (i : Nat) (g g2 : Env → Store → Out) : Env → Store → Out := fun e S => match g e S with
  | .exc x e' S' => match subT L x.cls d with
    | some true => match e'[i]? with
      | some _ => match g2 (e'.set i (some (.exn x.cls x.val))) S' with
        | .nx e2 S2 => .nx (e2.set i none) S2
        | .rt d S2 => .rt d S2
        | .bk e2 S2 => .bk (e2.set i none) S2
        | .ct e2 S2 => .ct (e2.set i none) S2
        | .exc _ _ _ => .bad
        | .bad => .bad
      | none => .bad
    | some false => .exc x e' S'
    | none => .bad
  | o => o
section
variable {X : Cx} {W : WX} {x n : Str} {i : Nat} {body suite : List Stmt} {b₀ : Stmt} {np pos pos' : Pos} {g g2 : Env → Store → Out} {L : List (Str × Str × Bool)} {Dc : Addr}
theorem psd_tryD (hs : X.stack = X.env :: X.outer) (hf : X.env.frame = some X.env.locals) (hex : X.ex = []) (hN : X.N.Nodup) (hi : X.N[i]? = some n) (hln : X.env.kindOf n = some .local) (tk : Takes X W)
    (hg : Gl X x) (hd : Cl X.K X.mg x Dc) (hL : ∀ p ∈ L, CatchOk X.K p)
    (hb : ∀ (W : WX) (pn : List (Addr × Obj)) (xe : Value → Shared → Prop), Takes (X.tr pn xe) W → PassesOwn (model X.prog X.w) X.A X.env xe → PSsD (X.tr pn xe) W body g)
    (h2 : ∀ (a : Addr) (pn : List (Addr × Obj)), PSsD (X.suite a pn) (fun _ _ _ _ => False) (b₀ :: suite) g2) (hdb : (x == ("__debug__" : Str)) = false := by decide) :
    PSD X W (.Try body [.ExceptHandler (some (.Name x np)) (some n) (b₀ :: suite) pos'] [] [] pos) (yTryD L x i g g2) := by
  refine weakS (ps_try_adopt (i := i) (c := .ref Dc) (tb := fun W => sD (kt X) W g) (ts := fun _ _ _ => sD (kt X) (fun _ _ _ _ => False) g2) hs hf hex hN hi hln ⟨hg, hdb, .inl hd.g⟩ tk (fun W pn xe tk' pas => hb W pn xe tk' pas)
    (fun a cls d pn => h2 a pn)) fun D σ H ⟨w, env, eH, hw, he, hs⟩ => ⟨w, env, eH, hw, he, ?_⟩
  unfold yTryD at hs
  cases o : g env w.S with
  | nx e S => rw [o] at hs; exact hs
  | rt e S => rw [o] at hs; exact hs
  | bk e S => rw [o] at hs; exact hs
  | ct e S => rw [o] at hs; exact hs
  | bad => rw [o] at hs; exact hs
  | exc z e' S' =>
    rw [o] at hs
    intro w' σ' cls dd g' eS he' hx
    obtain ⟨C, c1, rfl, c3⟩ := hx
    cases q : subT L z.cls x with
    | none => simp only [q] at hs; exact hs.elim
    | some b =>
      refine ⟨b, hL _ (subT_mem q) C Dc c1 hd.n, fun hb a na => ?_, fun hb => ?_⟩
      · subst hb
        simp only [q] at hs
        cases qi : e'[i]? with
        | none => simp only [qi] at hs; exact hs.elim
        | some oo =>
          simp only [qi] at hs
          have ga := Go.alloc (o := ExH (.ref C) dd a) g'.wd na
          have r2 : Rp X.K w'.r (upd w'.F a (ExH (.ref C) dd a)) (.exn z.cls z.val) (.ref a) := by
            unfold Rp
            exact ⟨a, C, dd, rfl, c1, upd_same, c3.mono ga.F⟩
          have he2 := (he'.go ga).set (i := i) r2
          refine ⟨⟨w'.r, upd w'.F a (ExH (.ref C) dd a), w'.S, upd w'.H a (ExH (.ref C) dd a)⟩, e'.set i (some (.exn z.cls z.val)), rfl, ga.wd, he2, ?_⟩
          subst eS
          show SatS _ _ _ (g2 (e'.set i (some (.exn z.cls z.val))) w'.S) _
          cases o2 : g2 (e'.set i (some (.exn z.cls z.val))) w'.S with
          | nx e2 S2 =>
            simp only [o2] at hs
            exact fun w2 σ2 g2' eS2 he3 => hs w2 (σ2.set i none) ((g'.trans ga).trans g2') eS2 (he3.unset (i := i))
          | rt d2 S2 =>
            simp only [o2] at hs
            exact fun w2 v2 g2' eS2 rv => hs w2 v2 ((g'.trans ga).trans g2') eS2 rv
          | bk e2 S2 =>
            simp only [o2] at hs
            exact fun w2 σ2 g2' eS2 he3 => hs w2 (σ2.set i none) ((g'.trans ga).trans g2') eS2 (he3.unset (i := i))
          | ct e2 S2 =>
            simp only [o2] at hs
            exact fun w2 σ2 g2' eS2 he3 => hs w2 (σ2.set i none) ((g'.trans ga).trans g2') eS2 (he3.unset (i := i))
          | exc y2 e2 S2 => simp only [o2] at hs; exact hs.elim
          | bad => simp only [o2] at hs; exact hs.elim
      · subst hb
        simp only [q] at hs
        exact hs w' σ' _ dd g' eS he' ⟨C, c1, rfl, c3⟩
end
section
variable {S : Store} {e : Env} {d : Str} {i : Nat} {g g2 : Env → Store → Out} {L : List (Str × Str × Bool)} {Q : Pst}
/-- a suite that tells, or raises what the suite behind it takes -/
theorem enx_tryD (h : EnxO (g e S) Q fun y e' S' => subT L y.cls d = some true ∧ (∃ o, e'[i]? = some o) ∧ EnsO (g2 (e'.set i (some (.exn y.cls y.val))) S') { nx := fun e2 S2 => Q.nx (e2.set i none) S2, rt := Q.rt, bk := fun e2 S2 => Q.bk (e2.set i none) S2, ct := fun e2 S2 => Q.ct (e2.set i none) S2 }) : EnsO (yTryD L d i g g2 e S) Q := by
  cases o : g e S with
  | exc y e2 S2 =>
    rw [o, enxo_exc] at h
    obtain ⟨h1, ⟨o', h2⟩, h3⟩ := h
    unfold yTryD
    simp only [o, h1, h2]
    cases o2 : g2 (e2.set i (some (.exn y.cls y.val))) S2 with
    | nx e3 S3 => rw [o2, enso_nx] at h3; simp only [enso_nx]; exact h3
    | rt e3 S3 => rw [o2, enso_rt] at h3; simp only [enso_rt]; exact h3
    | bk e3 S3 => rw [o2, enso_bk] at h3; simp only [enso_bk]; exact h3
    | ct e3 S3 => rw [o2, enso_ct] at h3; simp only [enso_ct]; exact h3
    | exc y3 e3 S3 => rw [o2] at h3; exact h3.go.elim
    | bad => rw [o2, enso_bad] at h3; exact h3.elim
  | nx e2 S2 => rw [o, enxo_nx] at h; unfold yTryD; rw [o]; exact ⟨h⟩
  | rt e2 S2 => rw [o, enxo_rt] at h; unfold yTryD; rw [o]; exact ⟨h⟩
  | bk e2 S2 => rw [o, enxo_bk] at h; unfold yTryD; rw [o]; exact ⟨h⟩
  | ct e2 S2 => rw [o, enxo_ct] at h; unfold yTryD; rw [o]; exact ⟨h⟩
  | bad => rw [o, enxo_bad] at h; exact h.elim
end
end Dv
namespace Lw
open PySem PySem.Spec PyProof.Rows L2 Dv
def topS (i : Nat) : Stmt := PySem.Challenge.pw_hideworth_k27_orders_refused.main.body.getD i (.Pass ⟨0, 0, 0, 0⟩)
/-! ### the text and its mirrors -/
def catchL : List (PySem.Str × PySem.Str × Bool) := [("NoNumber", "HideError", true), ("NoBoxes", "HideError", true), ("NoWeights", "HideError", true), ("NoPlan", "HideError", true), ("NoOrder", "HideError", true)]
def isL : List (PySem.Str × PySem.Str × Bool) := [(("NoNumber" : PySem.Str), ("NoBoxes" : PySem.Str), false), (("NoNumber" : PySem.Str), ("NoBudget" : PySem.Str), false), (("NoNumber" : PySem.Str), ("NoWeights" : PySem.Str), false), (("NoNumber" : PySem.Str), ("NoPlan" : PySem.Str), false), (("NoNumber" : PySem.Str), ("NoOrder" : PySem.Str), false), (("NoNumber" : PySem.Str), ("NoKind" : PySem.Str), false), (("NoNumber" : PySem.Str), ("NoName" : PySem.Str), false), (("NoNumber" : PySem.Str), ("NoNumber" : PySem.Str), true), (("NoNumber" : PySem.Str), ("NoPlay" : PySem.Str), false), (("NoNumber" : PySem.Str), ("NoRoad" : PySem.Str), false), (("NoNumber" : PySem.Str), ("NoRow" : PySem.Str), false), (("NoNumber" : PySem.Str), ("NoTable" : PySem.Str), false), (("NoNumber" : PySem.Str), ("NoPaper" : PySem.Str), false), (("NoNumber" : PySem.Str), ("NoText" : PySem.Str), false), (("NoNumber" : PySem.Str), ("NoTree" : PySem.Str), false), (("NoNumber" : PySem.Str), ("NoTurns" : PySem.Str), false), (("NoNumber" : PySem.Str), ("NoWeb" : PySem.Str), false), (("NoNumber" : PySem.Str), ("TooGreat" : PySem.Str), false), (("NoBoxes" : PySem.Str), ("NoBoxes" : PySem.Str), true), (("NoBoxes" : PySem.Str), ("NoBudget" : PySem.Str), false), (("NoBoxes" : PySem.Str), ("NoWeights" : PySem.Str), false), (("NoBoxes" : PySem.Str), ("NoPlan" : PySem.Str), false), (("NoBoxes" : PySem.Str), ("NoOrder" : PySem.Str), false), (("NoBoxes" : PySem.Str), ("NoKind" : PySem.Str), false), (("NoBoxes" : PySem.Str), ("NoName" : PySem.Str), false), (("NoBoxes" : PySem.Str), ("NoNumber" : PySem.Str), false), (("NoBoxes" : PySem.Str), ("NoPlay" : PySem.Str), false), (("NoBoxes" : PySem.Str), ("NoRoad" : PySem.Str), false), (("NoBoxes" : PySem.Str), ("NoRow" : PySem.Str), false), (("NoBoxes" : PySem.Str), ("NoTable" : PySem.Str), false), (("NoBoxes" : PySem.Str), ("NoPaper" : PySem.Str), false), (("NoBoxes" : PySem.Str), ("NoText" : PySem.Str), false), (("NoBoxes" : PySem.Str), ("NoTree" : PySem.Str), false), (("NoBoxes" : PySem.Str), ("NoTurns" : PySem.Str), false), (("NoBoxes" : PySem.Str), ("NoWeb" : PySem.Str), false), (("NoBoxes" : PySem.Str), ("TooGreat" : PySem.Str), false), (("NoWeights" : PySem.Str), ("NoBoxes" : PySem.Str), false), (("NoWeights" : PySem.Str), ("NoBudget" : PySem.Str), false), (("NoWeights" : PySem.Str), ("NoWeights" : PySem.Str), true), (("NoWeights" : PySem.Str), ("NoPlan" : PySem.Str), false), (("NoWeights" : PySem.Str), ("NoOrder" : PySem.Str), false), (("NoWeights" : PySem.Str), ("NoKind" : PySem.Str), false), (("NoWeights" : PySem.Str), ("NoName" : PySem.Str), false), (("NoWeights" : PySem.Str), ("NoNumber" : PySem.Str), false), (("NoWeights" : PySem.Str), ("NoPlay" : PySem.Str), false), (("NoWeights" : PySem.Str), ("NoRoad" : PySem.Str), false), (("NoWeights" : PySem.Str), ("NoRow" : PySem.Str), false), (("NoWeights" : PySem.Str), ("NoTable" : PySem.Str), false), (("NoWeights" : PySem.Str), ("NoPaper" : PySem.Str), false), (("NoWeights" : PySem.Str), ("NoText" : PySem.Str), false), (("NoWeights" : PySem.Str), ("NoTree" : PySem.Str), false), (("NoWeights" : PySem.Str), ("NoTurns" : PySem.Str), false), (("NoWeights" : PySem.Str), ("NoWeb" : PySem.Str), false), (("NoWeights" : PySem.Str), ("TooGreat" : PySem.Str), false), (("NoPlan" : PySem.Str), ("NoBoxes" : PySem.Str), false), (("NoPlan" : PySem.Str), ("NoBudget" : PySem.Str), false), (("NoPlan" : PySem.Str), ("NoWeights" : PySem.Str), false), (("NoPlan" : PySem.Str), ("NoPlan" : PySem.Str), true), (("NoPlan" : PySem.Str), ("NoOrder" : PySem.Str), false), (("NoPlan" : PySem.Str), ("NoKind" : PySem.Str), false), (("NoPlan" : PySem.Str), ("NoName" : PySem.Str), false), (("NoPlan" : PySem.Str), ("NoNumber" : PySem.Str), false), (("NoPlan" : PySem.Str), ("NoPlay" : PySem.Str), false), (("NoPlan" : PySem.Str), ("NoRoad" : PySem.Str), false), (("NoPlan" : PySem.Str), ("NoRow" : PySem.Str), false), (("NoPlan" : PySem.Str), ("NoTable" : PySem.Str), false), (("NoPlan" : PySem.Str), ("NoPaper" : PySem.Str), false), (("NoPlan" : PySem.Str), ("NoText" : PySem.Str), false), (("NoPlan" : PySem.Str), ("NoTree" : PySem.Str), false), (("NoPlan" : PySem.Str), ("NoTurns" : PySem.Str), false), (("NoPlan" : PySem.Str), ("NoWeb" : PySem.Str), false), (("NoPlan" : PySem.Str), ("TooGreat" : PySem.Str), false), (("NoOrder" : PySem.Str), ("NoBoxes" : PySem.Str), false), (("NoOrder" : PySem.Str), ("NoBudget" : PySem.Str), false), (("NoOrder" : PySem.Str), ("NoWeights" : PySem.Str), false), (("NoOrder" : PySem.Str), ("NoPlan" : PySem.Str), false), (("NoOrder" : PySem.Str), ("NoOrder" : PySem.Str), true), (("NoOrder" : PySem.Str), ("NoKind" : PySem.Str), false), (("NoOrder" : PySem.Str), ("NoName" : PySem.Str), false), (("NoOrder" : PySem.Str), ("NoNumber" : PySem.Str), false), (("NoOrder" : PySem.Str), ("NoPlay" : PySem.Str), false), (("NoOrder" : PySem.Str), ("NoRoad" : PySem.Str), false), (("NoOrder" : PySem.Str), ("NoRow" : PySem.Str), false), (("NoOrder" : PySem.Str), ("NoTable" : PySem.Str), false), (("NoOrder" : PySem.Str), ("NoPaper" : PySem.Str), false), (("NoOrder" : PySem.Str), ("NoText" : PySem.Str), false), (("NoOrder" : PySem.Str), ("NoTree" : PySem.Str), false), (("NoOrder" : PySem.Str), ("NoTurns" : PySem.Str), false), (("NoOrder" : PySem.Str), ("NoWeb" : PySem.Str), false), (("NoOrder" : PySem.Str), ("TooGreat" : PySem.Str), false)]
def raisedL : List PySem.Str := ["NoNumber", "NoBoxes", "NoWeights", "NoPlan", "NoOrder"]
@[simp] theorem catchL_NoNumber_HideError : subT catchL "NoNumber" "HideError" = some true := by decide +kernel
@[simp] theorem catchL_NoBoxes_HideError : subT catchL "NoBoxes" "HideError" = some true := by decide +kernel
@[simp] theorem catchL_NoWeights_HideError : subT catchL "NoWeights" "HideError" = some true := by decide +kernel
@[simp] theorem catchL_NoPlan_HideError : subT catchL "NoPlan" "HideError" = some true := by decide +kernel
@[simp] theorem catchL_NoOrder_HideError : subT catchL "NoOrder" "HideError" = some true := by decide +kernel
@[simp] theorem isL_NoNumber_NoBoxes : subT isL "NoNumber" "NoBoxes" = some false := by decide +kernel
@[simp] theorem isL_NoNumber_NoBudget : subT isL "NoNumber" "NoBudget" = some false := by decide +kernel
@[simp] theorem isL_NoNumber_NoWeights : subT isL "NoNumber" "NoWeights" = some false := by decide +kernel
@[simp] theorem isL_NoNumber_NoPlan : subT isL "NoNumber" "NoPlan" = some false := by decide +kernel
@[simp] theorem isL_NoNumber_NoOrder : subT isL "NoNumber" "NoOrder" = some false := by decide +kernel
@[simp] theorem isL_NoNumber_NoKind : subT isL "NoNumber" "NoKind" = some false := by decide +kernel
@[simp] theorem isL_NoNumber_NoName : subT isL "NoNumber" "NoName" = some false := by decide +kernel
@[simp] theorem isL_NoNumber_NoNumber : subT isL "NoNumber" "NoNumber" = some true := by decide +kernel
@[simp] theorem isL_NoNumber_NoPlay : subT isL "NoNumber" "NoPlay" = some false := by decide +kernel
@[simp] theorem isL_NoNumber_NoRoad : subT isL "NoNumber" "NoRoad" = some false := by decide +kernel
@[simp] theorem isL_NoNumber_NoRow : subT isL "NoNumber" "NoRow" = some false := by decide +kernel
@[simp] theorem isL_NoNumber_NoTable : subT isL "NoNumber" "NoTable" = some false := by decide +kernel
@[simp] theorem isL_NoNumber_NoPaper : subT isL "NoNumber" "NoPaper" = some false := by decide +kernel
@[simp] theorem isL_NoNumber_NoText : subT isL "NoNumber" "NoText" = some false := by decide +kernel
@[simp] theorem isL_NoNumber_NoTree : subT isL "NoNumber" "NoTree" = some false := by decide +kernel
@[simp] theorem isL_NoNumber_NoTurns : subT isL "NoNumber" "NoTurns" = some false := by decide +kernel
@[simp] theorem isL_NoNumber_NoWeb : subT isL "NoNumber" "NoWeb" = some false := by decide +kernel
@[simp] theorem isL_NoNumber_TooGreat : subT isL "NoNumber" "TooGreat" = some false := by decide +kernel
@[simp] theorem isL_NoBoxes_NoBoxes : subT isL "NoBoxes" "NoBoxes" = some true := by decide +kernel
@[simp] theorem isL_NoBoxes_NoBudget : subT isL "NoBoxes" "NoBudget" = some false := by decide +kernel
@[simp] theorem isL_NoBoxes_NoWeights : subT isL "NoBoxes" "NoWeights" = some false := by decide +kernel
@[simp] theorem isL_NoBoxes_NoPlan : subT isL "NoBoxes" "NoPlan" = some false := by decide +kernel
@[simp] theorem isL_NoBoxes_NoOrder : subT isL "NoBoxes" "NoOrder" = some false := by decide +kernel
@[simp] theorem isL_NoBoxes_NoKind : subT isL "NoBoxes" "NoKind" = some false := by decide +kernel
@[simp] theorem isL_NoBoxes_NoName : subT isL "NoBoxes" "NoName" = some false := by decide +kernel
@[simp] theorem isL_NoBoxes_NoNumber : subT isL "NoBoxes" "NoNumber" = some false := by decide +kernel
@[simp] theorem isL_NoBoxes_NoPlay : subT isL "NoBoxes" "NoPlay" = some false := by decide +kernel
@[simp] theorem isL_NoBoxes_NoRoad : subT isL "NoBoxes" "NoRoad" = some false := by decide +kernel
@[simp] theorem isL_NoBoxes_NoRow : subT isL "NoBoxes" "NoRow" = some false := by decide +kernel
@[simp] theorem isL_NoBoxes_NoTable : subT isL "NoBoxes" "NoTable" = some false := by decide +kernel
@[simp] theorem isL_NoBoxes_NoPaper : subT isL "NoBoxes" "NoPaper" = some false := by decide +kernel
@[simp] theorem isL_NoBoxes_NoText : subT isL "NoBoxes" "NoText" = some false := by decide +kernel
@[simp] theorem isL_NoBoxes_NoTree : subT isL "NoBoxes" "NoTree" = some false := by decide +kernel
@[simp] theorem isL_NoBoxes_NoTurns : subT isL "NoBoxes" "NoTurns" = some false := by decide +kernel
@[simp] theorem isL_NoBoxes_NoWeb : subT isL "NoBoxes" "NoWeb" = some false := by decide +kernel
@[simp] theorem isL_NoBoxes_TooGreat : subT isL "NoBoxes" "TooGreat" = some false := by decide +kernel
@[simp] theorem isL_NoWeights_NoBoxes : subT isL "NoWeights" "NoBoxes" = some false := by decide +kernel
@[simp] theorem isL_NoWeights_NoBudget : subT isL "NoWeights" "NoBudget" = some false := by decide +kernel
@[simp] theorem isL_NoWeights_NoWeights : subT isL "NoWeights" "NoWeights" = some true := by decide +kernel
@[simp] theorem isL_NoWeights_NoPlan : subT isL "NoWeights" "NoPlan" = some false := by decide +kernel
@[simp] theorem isL_NoWeights_NoOrder : subT isL "NoWeights" "NoOrder" = some false := by decide +kernel
@[simp] theorem isL_NoWeights_NoKind : subT isL "NoWeights" "NoKind" = some false := by decide +kernel
@[simp] theorem isL_NoWeights_NoName : subT isL "NoWeights" "NoName" = some false := by decide +kernel
@[simp] theorem isL_NoWeights_NoNumber : subT isL "NoWeights" "NoNumber" = some false := by decide +kernel
@[simp] theorem isL_NoWeights_NoPlay : subT isL "NoWeights" "NoPlay" = some false := by decide +kernel
@[simp] theorem isL_NoWeights_NoRoad : subT isL "NoWeights" "NoRoad" = some false := by decide +kernel
@[simp] theorem isL_NoWeights_NoRow : subT isL "NoWeights" "NoRow" = some false := by decide +kernel
@[simp] theorem isL_NoWeights_NoTable : subT isL "NoWeights" "NoTable" = some false := by decide +kernel
@[simp] theorem isL_NoWeights_NoPaper : subT isL "NoWeights" "NoPaper" = some false := by decide +kernel
@[simp] theorem isL_NoWeights_NoText : subT isL "NoWeights" "NoText" = some false := by decide +kernel
@[simp] theorem isL_NoWeights_NoTree : subT isL "NoWeights" "NoTree" = some false := by decide +kernel
@[simp] theorem isL_NoWeights_NoTurns : subT isL "NoWeights" "NoTurns" = some false := by decide +kernel
@[simp] theorem isL_NoWeights_NoWeb : subT isL "NoWeights" "NoWeb" = some false := by decide +kernel
@[simp] theorem isL_NoWeights_TooGreat : subT isL "NoWeights" "TooGreat" = some false := by decide +kernel
@[simp] theorem isL_NoPlan_NoBoxes : subT isL "NoPlan" "NoBoxes" = some false := by decide +kernel
@[simp] theorem isL_NoPlan_NoBudget : subT isL "NoPlan" "NoBudget" = some false := by decide +kernel
@[simp] theorem isL_NoPlan_NoWeights : subT isL "NoPlan" "NoWeights" = some false := by decide +kernel
@[simp] theorem isL_NoPlan_NoPlan : subT isL "NoPlan" "NoPlan" = some true := by decide +kernel
@[simp] theorem isL_NoPlan_NoOrder : subT isL "NoPlan" "NoOrder" = some false := by decide +kernel
@[simp] theorem isL_NoPlan_NoKind : subT isL "NoPlan" "NoKind" = some false := by decide +kernel
@[simp] theorem isL_NoPlan_NoName : subT isL "NoPlan" "NoName" = some false := by decide +kernel
@[simp] theorem isL_NoPlan_NoNumber : subT isL "NoPlan" "NoNumber" = some false := by decide +kernel
@[simp] theorem isL_NoPlan_NoPlay : subT isL "NoPlan" "NoPlay" = some false := by decide +kernel
@[simp] theorem isL_NoPlan_NoRoad : subT isL "NoPlan" "NoRoad" = some false := by decide +kernel
@[simp] theorem isL_NoPlan_NoRow : subT isL "NoPlan" "NoRow" = some false := by decide +kernel
@[simp] theorem isL_NoPlan_NoTable : subT isL "NoPlan" "NoTable" = some false := by decide +kernel
@[simp] theorem isL_NoPlan_NoPaper : subT isL "NoPlan" "NoPaper" = some false := by decide +kernel
@[simp] theorem isL_NoPlan_NoText : subT isL "NoPlan" "NoText" = some false := by decide +kernel
@[simp] theorem isL_NoPlan_NoTree : subT isL "NoPlan" "NoTree" = some false := by decide +kernel
@[simp] theorem isL_NoPlan_NoTurns : subT isL "NoPlan" "NoTurns" = some false := by decide +kernel
@[simp] theorem isL_NoPlan_NoWeb : subT isL "NoPlan" "NoWeb" = some false := by decide +kernel
@[simp] theorem isL_NoPlan_TooGreat : subT isL "NoPlan" "TooGreat" = some false := by decide +kernel
@[simp] theorem isL_NoOrder_NoBoxes : subT isL "NoOrder" "NoBoxes" = some false := by decide +kernel
@[simp] theorem isL_NoOrder_NoBudget : subT isL "NoOrder" "NoBudget" = some false := by decide +kernel
@[simp] theorem isL_NoOrder_NoWeights : subT isL "NoOrder" "NoWeights" = some false := by decide +kernel
@[simp] theorem isL_NoOrder_NoPlan : subT isL "NoOrder" "NoPlan" = some false := by decide +kernel
@[simp] theorem isL_NoOrder_NoOrder : subT isL "NoOrder" "NoOrder" = some true := by decide +kernel
@[simp] theorem isL_NoOrder_NoKind : subT isL "NoOrder" "NoKind" = some false := by decide +kernel
@[simp] theorem isL_NoOrder_NoName : subT isL "NoOrder" "NoName" = some false := by decide +kernel
@[simp] theorem isL_NoOrder_NoNumber : subT isL "NoOrder" "NoNumber" = some false := by decide +kernel
@[simp] theorem isL_NoOrder_NoPlay : subT isL "NoOrder" "NoPlay" = some false := by decide +kernel
@[simp] theorem isL_NoOrder_NoRoad : subT isL "NoOrder" "NoRoad" = some false := by decide +kernel
@[simp] theorem isL_NoOrder_NoRow : subT isL "NoOrder" "NoRow" = some false := by decide +kernel
@[simp] theorem isL_NoOrder_NoTable : subT isL "NoOrder" "NoTable" = some false := by decide +kernel
@[simp] theorem isL_NoOrder_NoPaper : subT isL "NoOrder" "NoPaper" = some false := by decide +kernel
@[simp] theorem isL_NoOrder_NoText : subT isL "NoOrder" "NoText" = some false := by decide +kernel
@[simp] theorem isL_NoOrder_NoTree : subT isL "NoOrder" "NoTree" = some false := by decide +kernel
@[simp] theorem isL_NoOrder_NoTurns : subT isL "NoOrder" "NoTurns" = some false := by decide +kernel
@[simp] theorem isL_NoOrder_NoWeb : subT isL "NoOrder" "NoWeb" = some false := by decide +kernel
@[simp] theorem isL_NoOrder_TooGreat : subT isL "NoOrder" "TooGreat" = some false := by decide +kernel
@[simp] theorem raised_NoNumber : ("NoNumber" : PySem.Str) ∈ raisedL := by decide +kernel
@[simp] theorem raised_NoBoxes : ("NoBoxes" : PySem.Str) ∈ raisedL := by decide +kernel
@[simp] theorem raised_NoWeights : ("NoWeights" : PySem.Str) ∈ raisedL := by decide +kernel
@[simp] theorem raised_NoPlan : ("NoPlan" : PySem.Str) ∈ raisedL := by decide +kernel
@[simp] theorem raised_NoOrder : ("NoOrder" : PySem.Str) ∈ raisedL := by decide +kernel
def clsBody : Stmt → List Stmt
  | .ClassDef _ _ _ b _ _ _ _ _ _ _ => b
  | _ => []
abbrev si_NoPlan : Stmt := (clsBody (topS 17)).getD 0 (.Pass ⟨0, 0, 0, 0⟩)
def fldL_at : List PySem.Str := ["NoPlan"]
@[simp] theorem fldL_at_NoPlan : ("NoPlan" : PySem.Str) ∈ fldL_at := by decide +kernel
abbrev s_divisor : Stmt := topS 21
theorem sc_divisor : FnScope ["one", "other"] ["one", "other"] (defScope s_divisor) := ⟨rfl, rfl, rfl, by decide +kernel, rfl, by decide +kernel, by decide +kernel⟩
noncomputable def b_divisor : Dv.Env → Store → Out :=
  (ySeq (ySet 0 (xFn bAbs (xCons (xVar 0) xNil)))
    (ySeq (ySet 1 (xFn bAbs (xCons (xVar 1) xNil)))
    (ySeq (yWhile (xIsT (xOp dNe (xVar 1) (xC (.int 0)))) (yPar 0 1 (xCons (xVar 1) (xCons (xOp dMod (xVar 0) (xVar 1)) xNil))))
    (yRet (xVar 0)))))
noncomputable def F_divisor : List D → M D := fnD 2 2 false b_divisor
abbrev s_ratio : Stmt := topS 22
theorem sc_ratio : FnScope ["top", "bottom", "by"] ["top", "bottom"] (defScope s_ratio) := ⟨rfl, rfl, rfl, by decide +kernel, rfl, by decide +kernel, by decide +kernel⟩
noncomputable def b_ratio : Dv.Env → Store → Out :=
  (ySeq (yIf (xIsT (xOp dEq (xVar 1) (xC (.int 0)))) (yRaise ("NoNumber" : PySem.Str)) yNil)
    (ySeq (ySet 2 (xFn F_divisor (xCons (xVar 0) (xCons (xVar 1) xNil))))
    (ySeq (yIf (xIsT (xOp dLt (xVar 1) (xC (.int 0)))) (ySet 2 (xOp dSub (xC (.int 0)) (xVar 2))) yNil)
    (yRet (xTup (xCons (xOp dFdiv (xVar 0) (xVar 2)) (xCons (xOp dFdiv (xVar 1) (xVar 2)) xNil)))))))
noncomputable def F_ratio : List D → M D := fnD 2 3 false b_ratio
abbrev s_plus : Stmt := topS 23
theorem sc_plus : FnScope ["one", "other"] ["one", "other"] (defScope s_plus) := ⟨rfl, rfl, rfl, by decide +kernel, rfl, by decide +kernel, by decide +kernel⟩
noncomputable def b_plus : Dv.Env → Store → Out :=
  (yRet (xFn F_ratio (xCons (xOp (dAdd mkF) (xOp (dMul mkF) (xOp dIx (xVar 0) (xC (.int 0))) (xOp dIx (xVar 1) (xC (.int 1)))) (xOp (dMul mkF) (xOp dIx (xVar 1) (xC (.int 0))) (xOp dIx (xVar 0) (xC (.int 1))))) (xCons (xOp (dMul mkF) (xOp dIx (xVar 0) (xC (.int 1))) (xOp dIx (xVar 1) (xC (.int 1)))) xNil))))
noncomputable def F_plus : List D → M D := fnD 2 2 false b_plus
abbrev s_minus : Stmt := topS 24
theorem sc_minus : FnScope ["one", "other"] ["one", "other"] (defScope s_minus) := ⟨rfl, rfl, rfl, by decide +kernel, rfl, by decide +kernel, by decide +kernel⟩
noncomputable def b_minus : Dv.Env → Store → Out :=
  (yRet (xFn F_ratio (xCons (xOp dSub (xOp (dMul mkF) (xOp dIx (xVar 0) (xC (.int 0))) (xOp dIx (xVar 1) (xC (.int 1)))) (xOp (dMul mkF) (xOp dIx (xVar 1) (xC (.int 0))) (xOp dIx (xVar 0) (xC (.int 1))))) (xCons (xOp (dMul mkF) (xOp dIx (xVar 0) (xC (.int 1))) (xOp dIx (xVar 1) (xC (.int 1)))) xNil))))
noncomputable def F_minus : List D → M D := fnD 2 2 false b_minus
abbrev s_times : Stmt := topS 25
theorem sc_times : FnScope ["one", "other"] ["one", "other"] (defScope s_times) := ⟨rfl, rfl, rfl, by decide +kernel, rfl, by decide +kernel, by decide +kernel⟩
noncomputable def b_times : Dv.Env → Store → Out :=
  (yRet (xFn F_ratio (xCons (xOp (dMul mkF) (xOp dIx (xVar 0) (xC (.int 0))) (xOp dIx (xVar 1) (xC (.int 0)))) (xCons (xOp (dMul mkF) (xOp dIx (xVar 0) (xC (.int 1))) (xOp dIx (xVar 1) (xC (.int 1)))) xNil))))
noncomputable def F_times : List D → M D := fnD 2 2 false b_times
abbrev s_below : Stmt := topS 26
theorem sc_below : FnScope ["one", "other"] ["one", "other"] (defScope s_below) := ⟨rfl, rfl, rfl, by decide +kernel, rfl, by decide +kernel, by decide +kernel⟩
noncomputable def b_below : Dv.Env → Store → Out :=
  (yRet (xOp dLt (xOp (dMul mkF) (xOp dIx (xVar 0) (xC (.int 0))) (xOp dIx (xVar 1) (xC (.int 1)))) (xOp (dMul mkF) (xOp dIx (xVar 1) (xC (.int 0))) (xOp dIx (xVar 0) (xC (.int 1))))))
noncomputable def F_below : List D → M D := fnD 2 2 false b_below
abbrev s_is_number : Stmt := topS 28
theorem sc_is_number : FnScope ["thing"] ["thing"] (defScope s_is_number) := ⟨rfl, rfl, rfl, by decide +kernel, rfl, by decide +kernel, by decide +kernel⟩
noncomputable def b_is_number : Dv.Env → Store → Out :=
  (yRet (xAndV (xFn bIsi (xCons (xVar 0) (xCons (xC (.raw (.ty "int"))) xNil))) (xNotV (xFn bIsi (xCons (xVar 0) (xCons (xC (.raw (.ty "bool"))) xNil))))))
noncomputable def F_is_number : List D → M D := fnD 1 1 false b_is_number
abbrev s_are_numbers : Stmt := topS 29
theorem sc_are_numbers : FnScope ["thing", "many", "number"] ["thing", "many"] (defScope s_are_numbers) := ⟨rfl, rfl, rfl, by decide +kernel, rfl, by decide +kernel, by decide +kernel⟩
noncomputable def b_are_numbers : Dv.Env → Store → Out :=
  (ySeq (yIf (xOr (xNot (xTru (xFn bIsi (xCons (xVar 0) (xCons (xC (.raw (.ty "list"))) xNil))))) (xIsT (xOp dNe (xFn bLen (xCons (xVar 0) xNil)) (xVar 1)))) (yRet (xC (.bl false))) yNil)
    (yRet (xOp dEq (xFn bLen (xCons (xLc mkF (iSrc srcL (xVar 0)) (eN 2) (xNot (xTru (xFn F_is_number (xCons (xVar 2) xNil)))) (xVar 2) [2]) xNil)) (xC (.int 0)))))
noncomputable def F_are_numbers : List D → M D := fnD 2 3 false b_are_numbers
abbrev s_are_weights : Stmt := topS 30
theorem sc_are_weights : FnScope ["thing", "many"] ["thing", "many"] (defScope s_are_weights) := ⟨rfl, rfl, rfl, by decide +kernel, rfl, by decide +kernel, by decide +kernel⟩
noncomputable def b_are_weights : Dv.Env → Store → Out :=
  (yRet (xAndV (xFn F_are_numbers (xCons (xVar 0) (xCons (xVar 1) xNil))) (xAndV (xOp dGe (xFn bMin (xCons (xVar 0) xNil)) (xC (.int 0))) (xOp dGt (xFn bMax (xCons (xVar 0) xNil)) (xC (.int 0))))))
noncomputable def F_are_weights : List D → M D := fnD 2 2 false b_are_weights
abbrev s_is_box : Stmt := topS 36
theorem sc_is_box : FnScope ["box", "cost", "hits", "of"] ["box"] (defScope s_is_box) := ⟨rfl, rfl, rfl, by decide +kernel, rfl, by decide +kernel, by decide +kernel⟩
noncomputable def b_is_box : Dv.Env → Store → Out :=
  (ySeq (yIf (xOr (xNot (xTru (xFn bIsi (xCons (xVar 0) (xCons (xC (.raw (.ty "tuple"))) xNil))))) (xNot (xTru (xFn F_are_numbers (xCons (xFn (bList mkF) (xCons (xVar 0) xNil)) (xCons (xC (.int 3)) xNil)))))) (yRet (xC (.bl false))) yNil)
    (ySeq (yAsg (xVar 0) (fun d e S => match (gT 3 (gsCons (gN 1) (gsCons (gN 2) (gsCons (gN 3) gsNil)))) d e S with | .nx e' S' => .nx e' S' | _ => .bad))
    (yRet (xAndV (xOp dGe (xVar 1) (xC (.int 1))) (xAndV (xOp dLe (xVar 1) (xC (.int 60))) (xAndV (xOp dGe (xVar 2) (xC (.int 1))) (xAndV (xOp dLe (xVar 2) (xVar 3)) (xOp dLe (xVar 3) (xC (.int 50))))))))))
noncomputable def F_is_box : List D → M D := fnD 1 4 false b_is_box
abbrev s_must_be_boxes : Stmt := topS 37
theorem sc_must_be_boxes : FnScope ["boxes", "box"] ["boxes"] (defScope s_must_be_boxes) := ⟨rfl, rfl, rfl, by decide +kernel, rfl, by decide +kernel, by decide +kernel⟩
noncomputable def b_must_be_boxes : Dv.Env → Store → Out :=
  (ySeq (yIf (xOr (xNot (xTru (xFn bIsi (xCons (xVar 0) (xCons (xC (.raw (.ty "list"))) xNil))))) (xOr (xIsT (xOp dLt (xFn bLen (xCons (xVar 0) xNil)) (xC (.int 1)))) (xIsT (xOp dGt (xFn bLen (xCons (xVar 0) xNil)) (xC (.int 6)))))) (yRaise ("NoBoxes" : PySem.Str)) yNil)
    (yIf (xIsT (xOp dGt (xFn bLen (xCons (xLc mkF (iSrc srcL (xVar 0)) (eN 1) (xNot (xTru (xFn F_is_box (xCons (xVar 1) xNil)))) (xVar 1) [1]) xNil)) (xC (.int 0)))) (yRaise ("NoBoxes" : PySem.Str)) yNil))
noncomputable def F_must_be_boxes : List D → M D := fnD 1 2 false b_must_be_boxes
abbrev s_is_plan : Stmt := topS 38
theorem sc_is_plan : FnScope ["boxes", "plan"] ["boxes", "plan"] (defScope s_is_plan) := ⟨rfl, rfl, rfl, by decide +kernel, rfl, by decide +kernel, by decide +kernel⟩
noncomputable def b_is_plan : Dv.Env → Store → Out :=
  (yRet (xAndV (xFn F_are_numbers (xCons (xVar 1) (xCons (xFn bLen (xCons (xVar 0) xNil)) xNil))) (xAndV (xOp dGe (xFn bMin (xCons (xVar 1) xNil)) (xC (.int 0))) (xOp dLe (xFn bMax (xCons (xVar 1) xNil)) (xC (.int 60))))))
noncomputable def F_is_plan : List D → M D := fnD 2 2 false b_is_plan
abbrev s_missed : Stmt := topS 39
theorem sc_missed : FnScope ["box", "many", "top", "bottom", "turn", "cost", "hits", "of"] ["box", "many"] (defScope s_missed) := ⟨rfl, rfl, rfl, by decide +kernel, rfl, by decide +kernel, by decide +kernel⟩
noncomputable def b_missed : Dv.Env → Store → Out :=
  (ySeq (yAsg (xVar 0) (fun d e S => match (gT 3 (gsCons (gN 5) (gsCons (gN 6) (gsCons (gN 7) gsNil)))) d e S with | .nx e' S' => .nx e' S' | _ => .bad))
    (ySeq (ySet 2 (xC (.int 1)))
    (ySeq (ySet 3 (xC (.int 1)))
    (ySeq (yFor (iSrcA srcR1 (xCons (xVar 1) xNil)) (gN 4) (ySeq (ySet 2 (xOp (dMul mkF) (xVar 2) (xOp dSub (xVar 7) (xVar 6))))
    (ySet 3 (xOp (dMul mkF) (xVar 3) (xVar 7)))))
    (yRet (xFn F_ratio (xCons (xVar 2) (xCons (xVar 3) xNil))))))))
noncomputable def F_missed : List D → M D := fnD 2 8 false b_missed
abbrev s_mark : Stmt := topS 40
theorem sc_mark : FnScope ["box", "many"] ["box", "many"] (defScope s_mark) := ⟨rfl, rfl, rfl, by decide +kernel, rfl, by decide +kernel, by decide +kernel⟩
noncomputable def b_mark : Dv.Env → Store → Out :=
  (yRet (xFn F_times (xCons (xFn F_ratio (xCons (xOp dIx (xVar 0) (xC (.int 1))) (xCons (xOp dIx (xVar 0) (xC (.int 2))) xNil))) (xCons (xFn F_missed (xCons (xVar 0) (xCons (xVar 1) xNil))) xNil))))
noncomputable def F_mark : List D → M D := fnD 2 2 false b_mark
abbrev s_must_be_asked : Stmt := topS 42
theorem sc_must_be_asked : FnScope ["boxes", "weights", "plan"] ["boxes", "weights", "plan"] (defScope s_must_be_asked) := ⟨rfl, rfl, rfl, by decide +kernel, rfl, by decide +kernel, by decide +kernel⟩
noncomputable def b_must_be_asked : Dv.Env → Store → Out :=
  (ySeq (yExpr (xFn F_must_be_boxes (xCons (xVar 0) xNil)))
    (ySeq (yIf (xNot (xTru (xFn F_are_weights (xCons (xVar 1) (xCons (xFn bLen (xCons (xVar 0) xNil)) xNil))))) (yRaise ("NoWeights" : PySem.Str)) yNil)
    (yIf (xNot (xTru (xFn F_is_plan (xCons (xVar 0) (xCons (xVar 2) xNil))))) (yRaiseI ("NoPlan" : PySem.Str) ("at" : PySem.Str) (xCons (xUn dNeg (xC (.int 1))) xNil)) yNil)))
noncomputable def F_must_be_asked : List D → M D := fnD 3 3 false b_must_be_asked
abbrev s_must_be_order : Stmt := topS 43
theorem sc_must_be_order : FnScope ["boxes", "plan", "order", "k"] ["boxes", "plan", "order"] (defScope s_must_be_order) := ⟨rfl, rfl, rfl, by decide +kernel, rfl, by decide +kernel, by decide +kernel⟩
noncomputable def b_must_be_order : Dv.Env → Store → Out :=
  (ySeq (yIf (xOr (xNot (xTru (xFn bIsi (xCons (xVar 2) (xCons (xC (.raw (.ty "list"))) xNil))))) (xNot (xTru (xFn F_are_numbers (xCons (xVar 2) (xCons (xFn bLen (xCons (xVar 2) xNil)) xNil)))))) (yRaise ("NoOrder" : PySem.Str)) yNil)
    (yIf (xOr (xIsT (xOp dNe (xLc mkF (iSrcA srcR1 (xCons (xFn bLen (xCons (xVar 0) xNil)) xNil)) (eN 3) cYes (xMt "list" mCountD (xVar 2) (xCons (xVar 3) xNil)) [3]) (xVar 1))) (xIsT (xOp dNe (xFn bLen (xCons (xVar 2) xNil)) (xFn bSum (xCons (xVar 1) xNil))))) (yRaise ("NoOrder" : PySem.Str)) yNil))
noncomputable def F_must_be_order : List D → M D := fnD 3 4 false b_must_be_order
abbrev s_chances : Stmt := topS 44
theorem sc_chances : FnScope ["boxes", "weights", "order", "found", "done", "k"] ["boxes", "weights", "order"] (defScope s_chances) := ⟨rfl, rfl, rfl, by decide +kernel, rfl, by decide +kernel, by decide +kernel⟩
noncomputable def b_chances : Dv.Env → Store → Out :=
  (ySeq (ySet 3 (xLst mkC xNil))
    (ySeq (ySet 4 (xOp (dMul mkC) (xLst mkF (xCons (xC (.int 0)) xNil)) (xFn bLen (xCons (xVar 0) xNil))))
    (ySeq (ySeq (yFor (iSrc srcL (xVar 2)) (gN 5) (ySeq (yExpr (xMt "list" mAppend (xVar 3) (xCons (xFn F_times (xCons (xFn F_ratio (xCons (xOp dIx (xVar 1) (xVar 5)) (xCons (xFn bSum (xCons (xVar 1) xNil)) xNil))) (xCons (xFn F_mark (xCons (xOp dIx (xVar 0) (xVar 5)) (xCons (xOp dIx (xVar 4) (xVar 5)) xNil))) xNil))) xNil)))
    (yAugSub (xVar 4) (xVar 5) (xC (.int 1)) ipAdd))) (frzE 3))
    (yRet (xVar 3)))))
noncomputable def F_chances : List D → M D := fnD 3 6 false b_chances
abbrev s_awaited : Stmt := topS 45
theorem sc_awaited : FnScope ["boxes", "weights", "plan", "order", "left", "total", "some", "at"] ["boxes", "weights", "plan", "order"] (defScope s_awaited) := ⟨rfl, rfl, rfl, by decide +kernel, rfl, by decide +kernel, by decide +kernel⟩
noncomputable def b_awaited : Dv.Env → Store → Out :=
  (ySeq (yExpr (xFn F_must_be_asked (xCons (xVar 0) (xCons (xVar 1) (xCons (xVar 2) xNil)))))
    (ySeq (yExpr (xFn F_must_be_order (xCons (xVar 0) (xCons (xVar 2) (xCons (xVar 3) xNil)))))
    (ySeq (ySet 4 (xTup (xCons (xC (.int 1)) (xCons (xC (.int 1)) xNil))))
    (ySeq (ySet 5 (xTup (xCons (xC (.int 0)) (xCons (xC (.int 1)) xNil))))
    (ySeq (ySet 6 (xFn F_chances (xCons (xVar 0) (xCons (xVar 1) (xCons (xVar 3) xNil)))))
    (ySeq (yFor (iSrcA srcR1 (xCons (xFn bLen (xCons (xVar 3) xNil)) xNil)) (gN 7) (ySeq (ySet 5 (xFn F_plus (xCons (xVar 5) (xCons (xFn F_times (xCons (xTup (xCons (xOp dIx (xOp dIx (xVar 0) (xOp dIx (xVar 3) (xVar 7))) (xC (.int 0))) (xCons (xC (.int 1)) xNil))) (xCons (xVar 4) xNil))) xNil))))
    (ySet 4 (xFn F_minus (xCons (xVar 4) (xCons (xOp dIx (xVar 6) (xVar 7)) xNil))))))
    (yRet (xVar 5))))))))
noncomputable def F_awaited : List D → M D := fnD 4 8 false b_awaited
abbrev s_ahead : Stmt := topS 46
theorem sc_ahead : FnScope ["boxes", "one", "other", "first", "second"] ["boxes", "one", "other"] (defScope s_ahead) := ⟨rfl, rfl, rfl, by decide +kernel, rfl, by decide +kernel, by decide +kernel⟩
noncomputable def b_ahead : Dv.Env → Store → Out :=
  (ySeq (ySet 3 (xFn F_times (xCons (xOp dIx (xVar 1) (xC (.int 0))) (xCons (xTup (xCons (xOp dIx (xOp dIx (xVar 0) (xOp dIx (xVar 2) (xC (.int 1)))) (xC (.int 0))) (xCons (xC (.int 1)) xNil))) xNil))))
    (ySeq (ySet 4 (xFn F_times (xCons (xOp dIx (xVar 2) (xC (.int 0))) (xCons (xTup (xCons (xOp dIx (xOp dIx (xVar 0) (xOp dIx (xVar 1) (xC (.int 1)))) (xC (.int 0))) (xCons (xC (.int 1)) xNil))) xNil))))
    (yRet (xNotV (xFn F_below (xCons (xVar 3) (xCons (xVar 4) xNil)))))))
noncomputable def F_ahead : List D → M D := fnD 3 5 false b_ahead
abbrev s_is_sorted : Stmt := topS 47
theorem sc_is_sorted : FnScope ["boxes", "weights", "plan", "order", "some", "looks", "at"] ["boxes", "weights", "plan", "order"] (defScope s_is_sorted) := ⟨rfl, rfl, rfl, by decide +kernel, rfl, by decide +kernel, by decide +kernel⟩
noncomputable def b_is_sorted : Dv.Env → Store → Out :=
  (ySeq (yExpr (xFn F_must_be_asked (xCons (xVar 0) (xCons (xVar 1) (xCons (xVar 2) xNil)))))
    (ySeq (yExpr (xFn F_must_be_order (xCons (xVar 0) (xCons (xVar 2) (xCons (xVar 3) xNil)))))
    (ySeq (ySet 4 (xFn F_chances (xCons (xVar 0) (xCons (xVar 1) (xCons (xVar 3) xNil)))))
    (ySeq (ySet 5 (xLc mkF (iSrcA srcR1 (xCons (xFn bLen (xCons (xVar 3) xNil)) xNil)) (eN 6) cYes (xTup (xCons (xOp dIx (xVar 4) (xVar 6)) (xCons (xOp dIx (xVar 3) (xVar 6)) xNil))) [6]))
    (yRet (xOp dEq (xFn bLen (xCons (xLc mkF (iSrcA srcR2 (xCons (xC (.int 1)) (xCons (xFn bLen (xCons (xVar 5) xNil)) xNil))) (eN 6) (xNot (xTru (xFn F_ahead (xCons (xVar 0) (xCons (xOp dIx (xVar 5) (xOp dSub (xVar 6) (xC (.int 1)))) (xCons (xOp dIx (xVar 5) (xVar 6)) xNil)))))) (xVar 6) [6]) xNil)) (xC (.int 0))))))))
noncomputable def F_is_sorted : List D → M D := fnD 4 7 false b_is_sorted
abbrev s_best_order : Stmt := topS 48
theorem sc_best_order : FnScope ["boxes", "weights", "plan", "left", "done", "found", "best", "k", "look"] ["boxes", "weights", "plan"] (defScope s_best_order) := ⟨rfl, rfl, rfl, by decide +kernel, rfl, by decide +kernel, by decide +kernel⟩
noncomputable def b_best_order : Dv.Env → Store → Out :=
  (ySeq (yExpr (xFn F_must_be_asked (xCons (xVar 0) (xCons (xVar 1) (xCons (xVar 2) xNil)))))
    (ySeq (ySet 3 (xFn (bList mkC) (xCons (xVar 2) xNil)))
    (ySeq (ySet 4 (xOp (dMul mkC) (xLst mkF (xCons (xC (.int 0)) xNil)) (xFn bLen (xCons (xVar 0) xNil))))
    (ySeq (ySet 5 (xLst mkC xNil))
    (ySeq (ySeq (yWhile (xIsT (xOp dGt (xFn bSum (xCons (xVar 3) xNil)) (xC (.int 0)))) (ySeq (ySet 6 (xC .non))
    (ySeq (yFor (iSrcA srcR1 (xCons (xFn bLen (xCons (xVar 0) xNil)) xNil)) (gN 7) (yIf (xIsT (xOp dGt (xOp dIx (xVar 3) (xVar 7)) (xC (.int 0)))) (ySeq (ySet 8 (xTup (xCons (xFn F_times (xCons (xFn F_ratio (xCons (xOp dIx (xVar 1) (xVar 7)) (xCons (xFn bSum (xCons (xVar 1) xNil)) xNil))) (xCons (xFn F_mark (xCons (xOp dIx (xVar 0) (xVar 7)) (xCons (xOp dIx (xVar 4) (xVar 7)) xNil))) xNil))) (xCons (xVar 7) xNil))))
    (yIf (xOr (xIsT (xOp dIsN (xVar 6) (xC .non))) (xNot (xTru (xFn F_ahead (xCons (xVar 0) (xCons (xVar 6) (xCons (xVar 8) xNil))))))) (ySet 6 (xVar 8)) yNil)) yNil))
    (ySeq (yExpr (xMt "list" mAppend (xVar 5) (xCons (xOp dIx (xVar 6) (xC (.int 1))) xNil)))
    (ySeq (yAugSub (xVar 3) (xOp dIx (xVar 6) (xC (.int 1))) (xC (.int 1)) ipSub)
    (yAugSub (xVar 4) (xOp dIx (xVar 6) (xC (.int 1))) (xC (.int 1)) ipAdd)))))) (frzE 5))
    (yRet (xVar 5)))))))
noncomputable def F_best_order : List D → M D := fnD 3 9 false b_best_order
abbrev s__law_purse : Stmt := topS 50
theorem sc__law_purse : FnScope ["_law_script", "_law_cells"] ["_law_script"] (defScope s__law_purse) := ⟨rfl, rfl, rfl, by decide +kernel, rfl, by decide +kernel, by decide +kernel⟩
noncomputable def b__law_purse : Dv.Env → Store → Out :=
  (ySeq (ySet 1 (xSl mkC (xVar 0) oNone (oSome (xC (.int 63)))))
    (ySeq (yIf (xIsT (xOp dEq (xVar 1) (xLst mkF xNil))) (ySet 1 (xLst mkC (xCons (xC (.int 0)) xNil))) yNil)
    (yRet (xLst mkC (xCons (xVar 1) (xCons (xC (.int 0)) xNil))))))
noncomputable def F__law_purse : List D → M D := fnD 1 2 true b__law_purse
abbrev s__law_draw : Stmt := topS 51
theorem sc__law_draw : FnScope ["_law_purse_here", "_law_out_of", "_law_at", "_law_cell", "_law_number", "_law_cells", "_law_turn"] ["_law_purse_here", "_law_out_of"] (defScope s__law_draw) := ⟨rfl, rfl, rfl, by decide +kernel, rfl, by decide +kernel, by decide +kernel⟩
noncomputable def b__law_draw : Dv.Env → Store → Out :=
  (ySeq (yAsg (xVar 0) (fun d e S => match (gL 2 (gsCons (gN 5) (gsCons (gN 6) gsNil))) d e S with | .nx e' S' => .nx e' S' | _ => .bad))
    (ySeq (ySet 2 (xOp dMod (xVar 6) (xFn bLen (xCons (xVar 5) xNil))))
    (ySeq (ySet 3 (xOp dIx (xVar 5) (xVar 2)))
    (ySeq (ySub (xOp (dAdd mkF) (xVar 6) (xC (.int 1))) (xVar 0) (xC (.int 1)) setL)
    (ySeq (yIf (xIsT (xOp dGe (xVar 3) (xOp dPow (xC (.int 10)) (xC (.int 18))))) (ySeq (ySub (xOp dFdiv (xVar 3) (xVar 1)) (xVar 5) (xVar 2) setL)
    (yRet (xOp dMod (xVar 3) (xVar 1)))) yNil)
    (ySeq (ySet 4 (xOp dMod (xOp (dAdd mkF) (xOp (dAdd mkF) (xOp (dMul mkF) (xVar 3) (xC (.int 48271))) (xOp (dMul mkF) (xOp (dMul mkF) (xVar 6) (xVar 6)) (xC (.int 69621)))) (xC (.int 7))) (xC (.int 2147483647))))
    (ySeq (ySet 4 (xOp dMod (xOp (dMul mkF) (xVar 4) (xVar 4)) (xC (.int 2147483629))))
    (yRet (xOp dMod (xOp dMod (xOp (dMul mkF) (xVar 4) (xVar 4)) (xC (.int 2147483587))) (xVar 1))))))))))
noncomputable def F__law_draw : List D → M D := fnD 2 7 false b__law_draw
abbrev s__law_boxes : Stmt := topS 52
theorem sc__law_boxes : FnScope ["_law_purse_here", "_law_most", "_law_found", "_law_k", "_law_cost", "_law_of", "_law_hits"] ["_law_purse_here", "_law_most"] (defScope s__law_boxes) := ⟨rfl, rfl, rfl, by decide +kernel, rfl, by decide +kernel, by decide +kernel⟩
noncomputable def b__law_boxes : Dv.Env → Store → Out :=
  (ySeq (ySet 2 (xLst mkC xNil))
    (ySeq (ySeq (yFor (iSrcA srcR1 (xCons (xOp (dAdd mkF) (xC (.int 1)) (xFn F__law_draw (xCons (xVar 0) (xCons (xVar 1) xNil)))) xNil)) (gN 3) (ySeq (ySet 4 (xOp (dAdd mkF) (xC (.int 1)) (xFn F__law_draw (xCons (xVar 0) (xCons (xOp dIx (xLst mkF (xCons (xC (.int 3)) (xCons (xC (.int 60)) xNil))) (xFn F__law_draw (xCons (xVar 0) (xCons (xC (.int 2)) xNil)))) xNil)))))
    (ySeq (ySet 5 (xOp (dAdd mkF) (xC (.int 1)) (xFn F__law_draw (xCons (xVar 0) (xCons (xOp dIx (xLst mkF (xCons (xC (.int 4)) (xCons (xC (.int 50)) xNil))) (xFn F__law_draw (xCons (xVar 0) (xCons (xC (.int 2)) xNil)))) xNil)))))
    (ySeq (ySet 6 (xOp dIx (xLst mkF (xCons (xOp (dAdd mkF) (xC (.int 1)) (xFn F__law_draw (xCons (xVar 0) (xCons (xVar 5) xNil)))) (xCons (xVar 5) xNil))) (xOp dFdiv (xFn F__law_draw (xCons (xVar 0) (xCons (xC (.int 4)) xNil))) (xC (.int 3)))))
    (yExpr (xMt "list" mAppend (xVar 2) (xCons (xTup (xCons (xVar 4) (xCons (xVar 6) (xCons (xVar 5) xNil)))) xNil))))))) (frzE 2))
    (yRet (xVar 2))))
noncomputable def F__law_boxes : List D → M D := fnD 2 7 false b__law_boxes
abbrev s__law_weights : Stmt := topS 53
theorem sc__law_weights : FnScope ["_law_purse_here", "_law_many", "_law_found", "_law_k"] ["_law_purse_here", "_law_many"] (defScope s__law_weights) := ⟨rfl, rfl, rfl, by decide +kernel, rfl, by decide +kernel, by decide +kernel⟩
noncomputable def b__law_weights : Dv.Env → Store → Out :=
  (ySeq (ySet 2 (xLst mkC xNil))
    (ySeq (yFor (iSrcA srcR1 (xCons (xVar 1) xNil)) (gN 3) (yExpr (xMt "list" mAppend (xVar 2) (xCons (xFn F__law_draw (xCons (xVar 0) (xCons (xOp dIx (xLst mkF (xCons (xC (.int 3)) (xCons (xC (.int 3)) (xCons (xOp dPow (xC (.int 10)) (xC (.int 30))) xNil)))) (xFn F__law_draw (xCons (xVar 0) (xCons (xC (.int 3)) xNil)))) xNil))) xNil))))
    (ySeq (ySeq (yIf (xIsT (xOp dEq (xFn bMax (xCons (xVar 2) xNil)) (xC (.int 0)))) (ySub (xC (.int 1)) (xVar 2) (xFn F__law_draw (xCons (xVar 0) (xCons (xVar 1) xNil))) setL) yNil) (frzE 2))
    (yRet (xVar 2)))))
noncomputable def F__law_weights : List D → M D := fnD 2 4 false b__law_weights
abbrev s__law_plan : Stmt := topS 54
theorem sc__law_plan : FnScope ["_law_purse_here", "_law_many", "_law_k"] ["_law_purse_here", "_law_many"] (defScope s__law_plan) := ⟨rfl, rfl, rfl, by decide +kernel, rfl, by decide +kernel, by decide +kernel⟩
noncomputable def b__law_plan : Dv.Env → Store → Out :=
  (ySeq (yIf (xIsT (xOp dEq (xVar 1) (xC (.int 1)))) (yRet (xLst mkF (xCons (xFn F__law_draw (xCons (xVar 0) (xCons (xOp dIx (xLst mkF (xCons (xC (.int 7)) (xCons (xC (.int 61)) xNil))) (xFn F__law_draw (xCons (xVar 0) (xCons (xC (.int 2)) xNil)))) xNil))) xNil))) yNil)
    (yRet (xLc mkF (iSrcA srcR1 (xCons (xVar 1) xNil)) (eN 2) cYes (xFn F__law_draw (xCons (xVar 0) (xCons (xC (.int 4)) xNil))) [2])))
noncomputable def F__law_plan : List D → M D := fnD 2 3 false b__law_plan
abbrev s__law_order : Stmt := topS 55
theorem sc__law_order : FnScope ["_law_purse_here", "_law_plan_here", "_law_found", "_law_k", "_law_turn"] ["_law_purse_here", "_law_plan_here"] (defScope s__law_order) := ⟨rfl, rfl, rfl, by decide +kernel, rfl, by decide +kernel, by decide +kernel⟩
noncomputable def b__law_order : Dv.Env → Store → Out :=
  (ySeq (ySet 2 (xLst mkC xNil))
    (ySeq (ySeq (yFor (iSrcA srcR1 (xCons (xFn bLen (xCons (xVar 1) xNil)) xNil)) (gN 3) (yFor (iSrcA srcR1 (xCons (xOp dIx (xVar 1) (xVar 3)) xNil)) (gN 4) (yExpr (xMt "list" mInsert (xVar 2) (xCons (xFn F__law_draw (xCons (xVar 0) (xCons (xOp (dAdd mkF) (xFn bLen (xCons (xVar 2) xNil)) (xC (.int 1))) xNil))) (xCons (xVar 3) xNil)))))) (frzE 2))
    (yRet (xVar 2))))
noncomputable def F__law_order : List D → M D := fnD 2 5 false b__law_order
abbrev s__law_no_boxes : Stmt := topS 56
theorem sc__law_no_boxes : FnScope ["_law_purse_here", "_law_boxes_here", "_law_far", "_law_at", "_law_bent", "_law_way", "_law_cost", "_law_hits", "_law_of"] ["_law_purse_here", "_law_boxes_here"] (defScope s__law_no_boxes) := ⟨rfl, rfl, rfl, by decide +kernel, rfl, by decide +kernel, by decide +kernel⟩
noncomputable def b__law_no_boxes : Dv.Env → Store → Out :=
  (ySeq (ySet 2 (xOp (dAdd mkF) (xC (.int 61)) (xFn F__law_draw (xCons (xVar 0) (xCons (xOp dPow (xC (.int 10)) (xC (.int 29))) xNil)))))
    (ySeq (ySet 3 (xFn F__law_draw (xCons (xVar 0) (xCons (xFn bLen (xCons (xVar 1) xNil)) xNil))))
    (ySeq (yAsg (xOp dIx (xVar 1) (xVar 3)) (fun d e S => match (gT 3 (gsCons (gN 6) (gsCons (gN 7) (gsCons (gN 8) gsNil)))) d e S with | .nx e' S' => .nx e' S' | _ => .bad))
    (ySeq (ySet 4 (xLst mkF (xCons (xTup (xCons (xC (.int 0)) (xCons (xVar 7) (xCons (xVar 8) xNil)))) (xCons (xTup (xCons (xVar 2) (xCons (xVar 7) (xCons (xVar 8) xNil)))) (xCons (xTup (xCons (xC (.int 61)) (xCons (xVar 7) (xCons (xVar 8) xNil)))) (xCons (xTup (xCons (xOp dSub (xUn dNeg (xC (.int 1))) (xVar 2)) (xCons (xVar 7) (xCons (xVar 8) xNil)))) (xCons (xTup (xCons (xVar 6) (xCons (xC (.int 0)) (xCons (xVar 8) xNil)))) (xCons (xTup (xCons (xVar 6) (xCons (xOp (dAdd mkF) (xVar 8) (xC (.int 1))) (xCons (xVar 8) xNil)))) xNil))))))))
    (ySeq (ySet 4 (xOp (dAdd mkC) (xVar 4) (xLst mkF (xCons (xTup (xCons (xVar 6) (xCons (xOp dSub (xC (.int 0)) (xVar 7)) (xCons (xVar 8) xNil)))) (xCons (xTup (xCons (xVar 6) (xCons (xC (.int 51)) (xCons (xC (.int 51)) xNil)))) (xCons (xTup (xCons (xVar 6) (xCons (xVar 7) (xCons (xVar 2) xNil)))) (xCons (xTup (xCons (xVar 6) (xCons (xC (.int 0)) (xCons (xC (.int 0)) xNil)))) (xCons (xTup (xCons (xVar 6) (xCons (xVar 7) xNil))) xNil))))))))
    (ySeq (yExpr (xMt "list" mAppend (xVar 4) (xCons (xTup (xCons (xVar 6) (xCons (xVar 7) (xCons (xVar 8) (xCons (xC (.int 1)) xNil))))) xNil)))
    (ySeq (ySet 4 (xOp (dAdd mkF) (xVar 4) (xLst mkF (xCons (xTup (xCons (xC (.bl true)) (xCons (xC (.int 1)) (xCons (xC (.int 1)) xNil)))) (xCons (xTup (xCons (xVar 6) (xCons (xC (.bl true)) (xCons (xVar 8) xNil)))) (xCons (xTup (xCons (xVar 6) (xCons (xC (.int 1)) (xCons (xC (.bl true)) xNil)))) (xCons (xTup (xCons (xC (.str ("1" : PySem.Str))) (xCons (xVar 7) (xCons (xVar 8) xNil)))) (xCons (xC .non) (xCons (xLst mkF (xCons (xVar 6) (xCons (xVar 7) (xCons (xVar 8) xNil)))) (xCons (xC (.int 5)) (xCons (xTup xNil) xNil)))))))))))
    (ySeq (ySet 5 (xFn F__law_draw (xCons (xVar 0) (xCons (xOp (dAdd mkF) (xFn bLen (xCons (xVar 4) xNil)) (xC (.int 4))) xNil))))
    (ySeq (yIf (xIsT (xOp dLt (xVar 5) (xFn bLen (xCons (xVar 4) xNil)))) (yRet (xOp (dAdd mkF) (xOp (dAdd mkF) (xSl mkF (xVar 1) oNone (oSome (xVar 3))) (xLst mkF (xCons (xOp dIx (xVar 4) (xVar 5)) xNil))) (xSl mkF (xVar 1) (oSome (xOp (dAdd mkF) (xVar 3) (xC (.int 1)))) oNone))) yNil)
    (yRet (xOp dIx (xLst mkF (xCons (xLst mkF xNil) (xCons (xOp (dMul mkF) (xVar 1) (xC (.int 7))) (xCons (xFn bTuple (xCons (xVar 1) xNil)) (xCons (xC .non) xNil))))) (xOp dSub (xVar 5) (xFn bLen (xCons (xVar 4) xNil))))))))))))))
noncomputable def F__law_no_boxes : List D → M D := fnD 2 9 false b__law_no_boxes
abbrev s__law_no_numbers : Stmt := topS 57
theorem sc__law_no_numbers : FnScope ["_law_purse_here", "_law_numbers", "_law_most", "_law_at", "_law_far", "_law_things", "_law_way"] ["_law_purse_here", "_law_numbers", "_law_most"] (defScope s__law_no_numbers) := ⟨rfl, rfl, rfl, by decide +kernel, rfl, by decide +kernel, by decide +kernel⟩
noncomputable def b__law_no_numbers : Dv.Env → Store → Out :=
  (ySeq (ySet 3 (xFn F__law_draw (xCons (xVar 0) (xCons (xFn bLen (xCons (xVar 1) xNil)) xNil))))
    (ySeq (ySet 4 (xOp (dAdd mkF) (xOp (dAdd mkF) (xVar 2) (xC (.int 1))) (xFn F__law_draw (xCons (xVar 0) (xCons (xOp dPow (xC (.int 10)) (xC (.int 28))) xNil)))))
    (ySeq (ySet 5 (xLst mkF (xCons (xUn dNeg (xC (.int 1))) (xCons (xOp dSub (xC (.int 0)) (xVar 4)) (xCons (xC (.bl true)) (xCons (xC (.bl false)) (xCons (xC .non) (xCons (xC (.str ("1" : PySem.Str))) (xCons (xTup (xCons (xC (.int 1)) xNil)) (xCons (xLst mkF (xCons (xC (.int 1)) xNil)) xNil))))))))))
    (ySeq (yIf (xIsT (xOp dGt (xVar 2) (xC (.int 0)))) (ySet 5 (xOp (dAdd mkF) (xVar 5) (xLst mkF (xCons (xOp (dAdd mkF) (xVar 2) (xC (.int 1))) (xCons (xVar 4) xNil))))) yNil)
    (ySeq (ySet 6 (xFn F__law_draw (xCons (xVar 0) (xCons (xOp (dAdd mkF) (xFn bLen (xCons (xVar 5) xNil)) (xC (.int 6))) xNil))))
    (ySeq (yIf (xIsT (xOp dLt (xVar 6) (xFn bLen (xCons (xVar 5) xNil)))) (yRet (xOp (dAdd mkF) (xOp (dAdd mkF) (xSl mkF (xVar 1) oNone (oSome (xVar 3))) (xLst mkF (xCons (xOp dIx (xVar 5) (xVar 6)) xNil))) (xSl mkF (xVar 1) (oSome (xOp (dAdd mkF) (xVar 3) (xC (.int 1)))) oNone))) yNil)
    (yRet (xOp dIx (xLst mkF (xCons (xSl mkF (xVar 1) (oSome (xC (.int 1))) oNone) (xCons (xOp (dAdd mkF) (xVar 1) (xLst mkF (xCons (xC (.int 1)) xNil))) (xCons (xLst mkF xNil) (xCons (xFn bTuple (xCons (xVar 1) xNil)) (xCons (xC .non) (xCons (xC (.int 7)) xNil))))))) (xOp dSub (xVar 6) (xFn bLen (xCons (xVar 5) xNil)))))))))))
noncomputable def F__law_no_numbers : List D → M D := fnD 3 7 false b__law_no_numbers
abbrev s__law_marks : Stmt := topS 58
theorem sc__law_marks : FnScope ["_law_caught", "_law_found"] ["_law_caught"] (defScope s__law_marks) := ⟨rfl, rfl, rfl, by decide +kernel, rfl, by decide +kernel, by decide +kernel⟩
noncomputable def b__law_marks : Dv.Env → Store → Out :=
  (ySeq (ySet 1 (xLst mkC xNil))
    (ySeq (yIf (xTru (xFn (bIsE isL raisedL) (xCons (xVar 0) (xCons (xC (.cls ("NoBoxes" : PySem.Str))) xNil)))) (yExpr (xMt "list" mAppend (xVar 1) (xCons (xC (.str ("boxes" : PySem.Str))) xNil))) yNil)
    (ySeq (yIf (xTru (xFn (bIsE isL raisedL) (xCons (xVar 0) (xCons (xC (.cls ("NoBudget" : PySem.Str))) xNil)))) (yExpr (xMt "list" mAppend (xVar 1) (xCons (xC (.str ("budget" : PySem.Str))) xNil))) yNil)
    (ySeq (yIf (xTru (xFn (bIsE isL raisedL) (xCons (xVar 0) (xCons (xC (.cls ("NoWeights" : PySem.Str))) xNil)))) (yExpr (xMt "list" mAppend (xVar 1) (xCons (xC (.str ("weights" : PySem.Str))) xNil))) yNil)
    (ySeq (yIf (xTru (xFn (bIsE isL raisedL) (xCons (xVar 0) (xCons (xC (.cls ("NoPlan" : PySem.Str))) xNil)))) (yExpr (xMt "list" mAppend (xVar 1) (xCons (xOp dIx (xLst mkF (xCons (xC (.str ("other" : PySem.Str))) (xCons (xC (.str ("plan" : PySem.Str))) xNil))) (xFn bInt (xCons (xAndV (xNotV (xFn bIsi (xCons (xFldL fldL_at ("at" : PySem.Str) (xVar 0)) (xCons (xC (.raw (.ty "bool"))) xNil)))) (xOp dEq (xFldL fldL_at ("at" : PySem.Str) (xVar 0)) (xUn dNeg (xC (.int 1))))) xNil))) xNil))) yNil)
    (ySeq (yIf (xTru (xFn (bIsE isL raisedL) (xCons (xVar 0) (xCons (xC (.cls ("NoOrder" : PySem.Str))) xNil)))) (yExpr (xMt "list" mAppend (xVar 1) (xCons (xC (.str ("order" : PySem.Str))) xNil))) yNil)
    (ySeq (yIf (xOr (xTru (xFn (bIsE isL raisedL) (xCons (xVar 0) (xCons (xTup (xCons (xC (.cls ("NoKind" : PySem.Str))) (xCons (xC (.cls ("NoName" : PySem.Str))) (xCons (xC (.cls ("NoNumber" : PySem.Str))) (xCons (xC (.cls ("NoPlay" : PySem.Str))) xNil))))) xNil)))) (xTru (xFn (bIsE isL raisedL) (xCons (xVar 0) (xCons (xTup (xCons (xC (.cls ("NoRoad" : PySem.Str))) (xCons (xC (.cls ("NoRow" : PySem.Str))) (xCons (xC (.cls ("NoTable" : PySem.Str))) xNil)))) xNil))))) (yExpr (xMt "list" mAppend (xVar 1) (xCons (xC (.str ("other" : PySem.Str))) xNil))) yNil)
    (ySeq (yIf (xOr (xTru (xFn (bIsE isL raisedL) (xCons (xVar 0) (xCons (xTup (xCons (xC (.cls ("NoPaper" : PySem.Str))) (xCons (xC (.cls ("NoText" : PySem.Str))) (xCons (xC (.cls ("NoTree" : PySem.Str))) xNil)))) xNil)))) (xTru (xFn (bIsE isL raisedL) (xCons (xVar 0) (xCons (xTup (xCons (xC (.cls ("NoTurns" : PySem.Str))) (xCons (xC (.cls ("NoWeb" : PySem.Str))) (xCons (xC (.cls ("TooGreat" : PySem.Str))) xNil)))) xNil))))) (yExpr (xMt "list" mAppend (xVar 1) (xCons (xC (.str ("other" : PySem.Str))) xNil))) yNil)
    (ySeq (yIf (xNot (xTru (xFn (bIsE isL raisedL) (xCons (xVar 0) (xCons (xC (.raw (.ty "ValueError"))) xNil))))) (yExpr (xMt "list" mAppend (xVar 1) (xCons (xC (.str ("none" : PySem.Str))) xNil))) yNil)
    (yRet (xFrz (xVar 1))))))))))))
noncomputable def F__law_marks : List D → M D := fnD 1 2 false b__law_marks
abbrev s__law_no_order : Stmt := topS 59
theorem sc__law_no_order : FnScope ["_law_purse_here", "_law_order_here", "_law_many", "_law_far", "_law_at", "_law_things", "_law_way", "_law_some", "_law_place", "_law_other"] ["_law_purse_here", "_law_order_here", "_law_many"] (defScope s__law_no_order) := ⟨rfl, rfl, rfl, by decide +kernel, rfl, by decide +kernel, by decide +kernel⟩
noncomputable def b__law_no_order : Dv.Env → Store → Out :=
  (ySeq (ySet 3 (xOp (dAdd mkF) (xVar 2) (xFn F__law_draw (xCons (xVar 0) (xCons (xOp dPow (xC (.int 10)) (xC (.int 29))) xNil)))))
    (ySeq (ySet 4 (xFn F__law_draw (xCons (xVar 0) (xCons (xOp (dAdd mkF) (xFn bLen (xCons (xVar 1) xNil)) (xC (.int 1))) xNil))))
    (ySeq (ySet 5 (xLst mkF (xCons (xVar 3) (xCons (xUn dNeg (xC (.int 1))) (xCons (xOp dSub (xOp dSub (xC (.int 0)) (xC (.int 1))) (xVar 3)) (xCons (xC (.bl true)) (xCons (xC (.str ("0" : PySem.Str))) (xCons (xC .non) (xCons (xVar 2) xNil)))))))))
    (ySeq (ySet 6 (xFn F__law_draw (xCons (xVar 0) (xCons (xOp (dAdd mkF) (xFn bLen (xCons (xVar 5) xNil)) (xC (.int 9))) xNil))))
    (ySeq (yIf (xIsT (xOp dLt (xVar 6) (xFn bLen (xCons (xVar 5) xNil)))) (yRet (xOp (dAdd mkF) (xOp (dAdd mkF) (xSl mkF (xVar 1) oNone (oSome (xVar 4))) (xLst mkF (xCons (xOp dIx (xVar 5) (xVar 6)) xNil))) (xSl mkF (xVar 1) (oSome (xOp (dAdd mkF) (xVar 4) (xC (.int 1)))) oNone))) yNil)
    (ySeq (ySet 7 (xLst mkF (xCons (xOp (dAdd mkF) (xVar 1) (xLst mkF (xCons (xFn F__law_draw (xCons (xVar 0) (xCons (xVar 2) xNil))) xNil))) (xCons (xOp (dAdd mkF) (xOp (dAdd mkF) (xSl mkF (xVar 1) oNone (oSome (xVar 4))) (xLst mkF (xCons (xFn F__law_draw (xCons (xVar 0) (xCons (xVar 2) xNil))) xNil))) (xSl mkF (xVar 1) (oSome (xVar 4)) oNone)) (xCons (xFn bTuple (xCons (xVar 1) xNil)) xNil)))))
    (ySeq (ySet 7 (xOp (dAdd mkF) (xVar 7) (xLst mkF (xCons (xC .non) (xCons (xC (.int 3)) (xCons (xOp (dAdd mkF) (xOp (dAdd mkF) (xVar 1) (xVar 1)) (xLst mkF (xCons (xC (.int 0)) xNil))) (xCons (xOp (dAdd mkF) (xVar 1) (xLst mkF (xCons (xVar 2) xNil))) xNil)))))))
    (ySeq (ySet 8 (xOp dMod (xVar 4) (xFn bMax (xCons (xC (.int 1)) (xCons (xFn bLen (xCons (xVar 1) xNil)) xNil)))))
    (ySeq (yIf (xAnd (xIsT (xOp dEq (xVar 6) (xOp (dAdd mkF) (xFn bLen (xCons (xVar 5) xNil)) (xC (.int 7))))) (xIsT (xOp dNe (xVar 1) (xLst mkF xNil)))) (yRet (xOp (dAdd mkF) (xSl mkF (xVar 1) oNone (oSome (xVar 8))) (xSl mkF (xVar 1) (oSome (xOp (dAdd mkF) (xVar 8) (xC (.int 1)))) oNone))) yNil)
    (ySeq (yIf (xAnd (xIsT (xOp dEq (xVar 6) (xOp (dAdd mkF) (xFn bLen (xCons (xVar 5) xNil)) (xC (.int 8))))) (xAnd (xIsT (xOp dNe (xVar 1) (xLst mkF xNil))) (xIsT (xOp dGt (xVar 2) (xC (.int 1)))))) (ySeq (ySet 9 (xOp dMod (xOp (dAdd mkF) (xOp (dAdd mkF) (xOp dIx (xVar 1) (xVar 8)) (xC (.int 1))) (xFn F__law_draw (xCons (xVar 0) (xCons (xOp dSub (xVar 2) (xC (.int 1))) xNil)))) (xVar 2)))
    (yRet (xOp (dAdd mkF) (xOp (dAdd mkF) (xSl mkF (xVar 1) oNone (oSome (xVar 8))) (xLst mkF (xCons (xVar 9) xNil))) (xSl mkF (xVar 1) (oSome (xOp (dAdd mkF) (xVar 8) (xC (.int 1)))) oNone)))) yNil)
    (yRet (xOp dIx (xVar 7) (xOp dMod (xOp dSub (xVar 6) (xFn bLen (xCons (xVar 5) xNil))) (xC (.int 7)))))))))))))))
noncomputable def F__law_no_order : List D → M D := fnD 3 10 false b__law_no_order
abbrev s__law_asked : Stmt := topS 60
theorem sc__law_asked : FnScope ["_law_k", "_law_boxes_here", "_law_weights_here", "_law_plan_here", "_law_order_here"] ["_law_k", "_law_boxes_here", "_law_weights_here", "_law_plan_here", "_law_order_here"] (defScope s__law_asked) := ⟨rfl, rfl, rfl, by decide +kernel, rfl, by decide +kernel, by decide +kernel⟩
noncomputable def b__law_asked : Dv.Env → Store → Out :=
  (ySeq (yIf (xIsT (xOp dEq (xVar 0) (xC (.int 0)))) (yExpr (xFn F_awaited (xCons (xVar 1) (xCons (xVar 2) (xCons (xVar 3) (xCons (xVar 4) xNil)))))) yNil)
    (ySeq (yIf (xIsT (xOp dEq (xVar 0) (xC (.int 1)))) (yExpr (xFn F_is_sorted (xCons (xVar 1) (xCons (xVar 2) (xCons (xVar 3) (xCons (xVar 4) xNil)))))) yNil)
    (yIf (xIsT (xOp dEq (xVar 0) (xC (.int 2)))) (yExpr (xFn F_best_order (xCons (xVar 1) (xCons (xVar 2) (xCons (xVar 3) xNil))))) yNil)))
noncomputable def F__law_asked : List D → M D := fnD 5 5 false b__law_asked
abbrev s__law_refused : Stmt := topS 61
theorem sc__law_refused : FnScope ["_law_k", "_law_boxes_here", "_law_weights_here", "_law_plan_here", "_law_order_here", "_law_caught", "e"] ["_law_k", "_law_boxes_here", "_law_weights_here", "_law_plan_here", "_law_order_here"] (defScope s__law_refused) := ⟨rfl, rfl, rfl, by decide +kernel, rfl, by decide +kernel, by decide +kernel⟩
noncomputable def b__law_refused : Dv.Env → Store → Out :=
  (ySeq (ySet 5 (xC .non))
    (ySeq (yTryKeep catchL ("HideError" : PySem.Str) 6 5 (yExpr (xFn F__law_asked (xCons (xVar 0) (xCons (xVar 1) (xCons (xVar 2) (xCons (xVar 3) (xCons (xVar 4) xNil))))))))
    (ySeq (yIf (xIsT (xOp dIsN (xVar 5) (xC .non))) (yRet (xLst mkF xNil)) yNil)
    (yRet (xFn F__law_marks (xCons (xVar 5) xNil))))))
noncomputable def F__law_refused : List D → M D := fnD 5 7 false b__law_refused
abbrev s__law_choices : Stmt := topS 62
theorem sc__law_choices : FnScope ["_law_purse_here", "_law_which", "_law_k"] ["_law_purse_here"] (defScope s__law_choices) := ⟨rfl, rfl, rfl, by decide +kernel, rfl, by decide +kernel, by decide +kernel⟩
noncomputable def b__law_choices : Dv.Env → Store → Out :=
  (ySeq (ySet 1 (xFn F__law_draw (xCons (xVar 0) (xCons (xC (.int 20)) xNil))))
    (ySeq (yIf (xIsT (xOp dLt (xVar 1) (xC (.int 16)))) (yRet (xLst mkF (xCons (xOp dMod (xVar 1) (xC (.int 2))) (xCons (xOp dMod (xOp dFdiv (xVar 1) (xC (.int 2))) (xC (.int 2))) (xCons (xOp dMod (xOp dFdiv (xVar 1) (xC (.int 4))) (xC (.int 2))) (xCons (xOp dMod (xOp dFdiv (xVar 1) (xC (.int 8))) (xC (.int 2))) xNil)))))) yNil)
    (yRet (xLc mkF (iSrcA srcR1 (xCons (xC (.int 4)) xNil)) (eN 2) cYes (xFn bInt (xCons (xOp dEq (xVar 2) (xOp dSub (xVar 1) (xC (.int 16)))) xNil)) [2]))))
noncomputable def F__law_choices : List D → M D := fnD 1 3 false b__law_choices
abbrev s_law : Stmt := topS 63
theorem sc_law : FnScope ["_law_script", "_law_purse_here", "_law_boxes_here", "_law_weights_here", "_law_plan_here", "_law_order_here", "_law_good", "_law_kept", "_law_bent", "_law_turn", "_law_choices_here", "_law_handed", "_law_due", "_law_k", "_law_wanted"] ["_law_script"] (defScope s_law) := ⟨rfl, rfl, rfl, by decide +kernel, rfl, by decide +kernel, by decide +kernel⟩
noncomputable def b_law : Dv.Env → Store → Out :=
  (ySeq (ySet 1 (xFn F__law_purse (xCons (xVar 0) xNil)))
    (ySeq (ySet 2 (xFn F__law_boxes (xCons (xVar 1) (xCons (xC (.int 6)) xNil))))
    (ySeq (ySet 3 (xFn F__law_weights (xCons (xVar 1) (xCons (xFn bLen (xCons (xVar 2) xNil)) xNil))))
    (ySeq (ySet 4 (xFn F__law_plan (xCons (xVar 1) (xCons (xFn bLen (xCons (xVar 2) xNil)) xNil))))
    (ySeq (ySet 5 (xFn F__law_order (xCons (xVar 1) (xCons (xVar 4) xNil))))
    (ySeq (ySet 6 (xLst mkF (xCons (xVar 2) (xCons (xVar 3) (xCons (xVar 4) (xCons (xVar 5) xNil))))))
    (ySeq (ySet 7 (xLst mkF (xCons (xFn (bList mkF) (xCons (xVar 2) xNil)) (xCons (xFn (bList mkF) (xCons (xVar 3) xNil)) (xCons (xFn (bList mkF) (xCons (xVar 4) xNil)) (xCons (xFn (bList mkF) (xCons (xVar 5) xNil)) xNil))))))
    (ySeq (ySet 8 (xLst mkC (xCons (xFn F__law_no_boxes (xCons (xVar 1) (xCons (xVar 2) xNil))) (xCons (xFn F__law_no_numbers (xCons (xVar 1) (xCons (xVar 3) (xCons (xC (.int 0)) xNil)))) (xCons (xFn F__law_no_numbers (xCons (xVar 1) (xCons (xVar 4) (xCons (xC (.int 60)) xNil)))) xNil)))))
    (ySeq (yExpr (xMt "list" mAppend (xVar 8) (xCons (xFn F__law_no_order (xCons (xVar 1) (xCons (xVar 5) (xCons (xFn bLen (xCons (xVar 2) xNil)) xNil)))) xNil)))
    (ySeq (ySeq (yIf (xIsT (xOp dEq (xFn F__law_draw (xCons (xVar 1) (xCons (xC (.int 8)) xNil))) (xC (.int 1)))) (ySub (xOp (dMul mkF) (xLst mkF (xCons (xC (.int 0)) xNil)) (xFn bLen (xCons (xVar 2) xNil))) (xVar 8) (xC (.int 1)) setL) yNil) (frzE 8))
    (ySeq (yFor (iSrcA srcR1 (xCons (xC (.int 4)) xNil)) (gN 9) (ySeq (ySet 10 (xFn F__law_choices (xCons (xVar 1) xNil)))
    (ySeq (ySet 11 (xLc mkF (iSrcA srcR1 (xCons (xC (.int 4)) xNil)) (eN 13) cYes (xOp dIx (xLst mkF (xCons (xOp dIx (xVar 6) (xVar 13)) (xCons (xOp dIx (xVar 8) (xVar 13)) xNil))) (xOp dIx (xVar 10) (xVar 13))) [13]))
    (ySeq (ySet 12 (xLc mkF (iSrcA srcR1 (xCons (xC (.int 4)) xNil)) (eN 13) (xIsT (xOp dEq (xOp dIx (xVar 10) (xVar 13)) (xC (.int 1)))) (xOp dIx (xLst mkF (xCons (xC (.str ("boxes" : PySem.Str))) (xCons (xC (.str ("weights" : PySem.Str))) (xCons (xC (.str ("plan" : PySem.Str))) (xCons (xC (.str ("order" : PySem.Str))) xNil))))) (xVar 13)) [13]))
    (yFor (iSrcA srcR1 (xCons (xC (.int 3)) xNil)) (gN 13) (ySeq (ySet 14 (xSl mkF (xVar 12) oNone (oSome (xC (.int 1)))))
    (ySeq (yIf (xAnd (xIsT (xOp dEq (xVar 13) (xC (.int 2)))) (xIsT (xOp dEq (xVar 14) (xLst mkF (xCons (xC (.str ("order" : PySem.Str))) xNil))))) (ySet 14 (xLst mkF xNil)) yNil)
    (yIf (xIsT (xOp dNe (xFn F__law_refused (xCons (xVar 13) (xCons (xOp dIx (xVar 11) (xC (.int 0))) (xCons (xOp dIx (xVar 11) (xC (.int 1))) (xCons (xOp dIx (xVar 11) (xC (.int 2))) (xCons (xOp dIx (xVar 11) (xC (.int 3))) xNil)))))) (xVar 14))) (yRet (xC (.bl false))) yNil))))))))
    (yRet (xOp dEq (xVar 6) (xVar 7))))))))))))))
noncomputable def F_law : List D → M D := fnD 1 15 false b_law
end Lw
namespace Lw
open PySem PySem.Spec PyProof.Rows L2 Dv
theorem gcd_step {x y : Int} (hx : 0 ≤ x) (hy : 0 < y) : 0 ≤ x.fmod y ∧ x.fmod y < y ∧ Int.gcd y (x.fmod y) = Int.gcd x y := by
  rw [fmod_pos hy]
  refine ⟨Int.emod_nonneg x (by omega), Int.emod_lt_of_pos x hy, ?_⟩
  rw [Int.gcd_comm]
  unfold Int.gcd
  rw [Int.natAbs_emod_of_nonneg hx, Nat.gcd_comm x.natAbs, Nat.gcd_rec y.natAbs]
theorem abs_gcd (a b : Int) : Int.gcd (if a < 0 then -a else a) (if b < 0 then -b else b) = Int.gcd a b := by
  unfold Int.gcd
  split <;> split <;> simp
theorem divisor_ok (a b : Int) (S : Store) : F_divisor [.int a, .int b] S = .ok (.int (Int.gcd a b)) S := by
  rw [← ens_eq]
  refine ens_fn rfl ?_
  unfold b_divisor
  simp
  rw [← abs_gcd a b]
  have ha : 0 ≤ (if a < 0 then -a else a) := by split <;> omega
  have hb : 0 ≤ (if b < 0 then -b else b) := by split <;> omega
  generalize (if a < 0 then -a else a) = x at ha ⊢
  generalize (if b < 0 then -b else b) = y at hb ⊢
  refine ens_while (fun e S' => ∃ x' y' : Int, e = [some (.int x'), some (.int y')] ∧ S' = S ∧ 0 ≤ x' ∧ 0 ≤ y' ∧ Int.gcd x' y' = Int.gcd x y) (fun e _ => match e with | [_, some (.int y')] => y'.toNat | _ => 0) ?_ ⟨x, y, rfl, rfl, ha, hb, rfl⟩
  rintro e S' ⟨x', y', rfl, rfl, hx, hy, hg⟩
  simp
  refine ⟨fun h => ?_, fun h => ?_⟩
  · have hp : 0 < y' := by omega
    obtain ⟨h1, h2, h3⟩ := gcd_step hx hp
    exact ⟨h, ⟨_, _, ⟨rfl, rfl⟩, hy, h1, h3.trans hg⟩, by omega⟩
  · subst h
    rw [← hg, Int.gcd_zero_right]
    omega
/-! ### the program's fractions -/
theorem ratio_r (a b : Int) (n : Nat) (S : Store) (h : b ≠ 0) (hb : Sz n b) (hn : n ≤ 9000) : F_ratio [.int a, .int b] S = .ok (fr ((a : Rat) / b)) S := by
  rw [← fr_div h, ← ens_eq]
  refine ens_fn rfl ?_
  unfold b_ratio
  have g1 := gsr_sz (a := a) h hb
  have g2 := g1.divOk (a := a) (gsr_ne h) hn
  have g3 := g1.divOk (a := b) (gsr_ne h) hn
  simp [divisor_ok, h]
  by_cases hl : b < 0
  · have e : gsr a b = 0 - (Int.gcd a b : Int) := if_pos hl
    rw [e] at g2 g3 ⊢
    simp [hl] at g2 g3 ⊢
    exact ⟨g2, g3⟩
  · have e : gsr a b = (Int.gcd a b : Int) := if_neg hl
    rw [e] at g2 g3 ⊢
    simp [hl]
    exact ⟨g2, g3⟩
theorem minus_r {x y : Rat} {n : Nat} (hx : Fs n x) (hy : Fs n y) (hn : n ≤ 4500) (S : Store) : F_minus [fr x, fr y] S = .ok (fr (x - y)) S := by
  rw [← ens_eq]
  refine ens_fn rfl ?_
  unfold b_minus
  simp [hx.num.mulOk hy.den (by omega), hy.num.mulOk hx.den (by omega), hx.den.mulOk hy.den (by omega), ratio_r _ _ (n + n) S (Int.mul_ne_zero (den_ne x) (den_ne y)) (hx.den.mul hy.den) (by omega), minus_rat']
theorem plus_r {x y : Rat} {n : Nat} (hx : Fs n x) (hy : Fs n y) (hn : n ≤ 4500) (S : Store) : F_plus [fr x, fr y] S = .ok (fr (x + y)) S := by
  rw [← ens_eq]
  refine ens_fn rfl ?_
  unfold b_plus
  simp [hx.num.mulOk hy.den (by omega), hy.num.mulOk hx.den (by omega), hx.den.mulOk hy.den (by omega), ratio_r _ _ (n + n) S (Int.mul_ne_zero (den_ne x) (den_ne y)) (hx.den.mul hy.den) (by omega), plus_rat']
theorem times_r {x y : Rat} {n : Nat} (hx : Fs n x) (hy : Fs n y) (hn : n ≤ 4500) (S : Store) : F_times [fr x, fr y] S = .ok (fr (x * y)) S := by
  rw [← ens_eq]
  refine ens_fn rfl ?_
  unfold b_times
  simp [hx.num.mulOk hy.num (by omega), hx.den.mulOk hy.den (by omega), ratio_r _ _ (n + n) S (Int.mul_ne_zero (den_ne x) (den_ne y)) (hx.den.mul hy.den) (by omega), times_rat']
theorem below_r {x y : Rat} {n : Nat} (hx : Fs n x) (hy : Fs n y) (hn : n ≤ 4500) (S : Store) : F_below [fr x, fr y] S = .ok (.bl (decide (x < y))) S := by
  rw [← ens_eq]
  refine ens_fn rfl ?_
  unfold b_below
  simp [hx.num.mulOk hy.den (by omega), hy.num.mulOk hx.den (by omega), Rat.lt_iff]
/-! ### boxes -/
theorem lc_none {α : Type} {g : D → Dv.Env → Option Dv.Env} {c : Dv.Env → M Bool} {f : Dv.Env → M D} {e0 : Dv.Env} {S : Store} (emb : α → D) : ∀ (items : List α) (acc : List D), (∀ a ∈ items, ∃ e1, g (emb a) e0 = some e1 ∧ c e1 S = .ok false S) → lcL (fun _ => True) g c f e0 (items.map emb) acc S = .ok acc S
  | [], acc, _ => by rw [List.map_nil, lcL, if_pos trivial]
  | a :: items, acc, h => by
    obtain ⟨e1, h1, h2⟩ := h a (by simp)
    rw [List.map_cons, lcL, if_pos trivial]
    simp only [h1, h2]
    exact lc_none emb items acc fun x hx => h x (by simp [hx])
abbrev Bx := Int × Int × Int
def bxD (z : Bx) : D := .tup [.int z.1, .int z.2.1, .int z.2.2]
structure BxOk (z : Bx) : Prop where
  c1 : 1 ≤ z.1
  c2 : z.1 ≤ 60
  h1 : 1 ≤ z.2.1
  h2 : z.2.1 ≤ z.2.2
  o : z.2.2 ≤ 50
theorem is_number_ok (a : Int) (S : Store) : F_is_number [.int a] S = .ok (.bl true) S := by
  rw [← ens_eq]
  refine ens_fn rfl ?_
  unfold b_is_number
  simp
theorem are_numbers_ok (l : List Int) (n : Int) (hn : n = l.length) (S : Store) : F_are_numbers [.lst (l.map D.int), .int n] S = .ok (.bl true) S := by
  rw [← ens_eq]
  refine ens_fn rfl ?_
  unfold b_are_numbers
  subst hn
  simp only [List.map_cons, List.map_nil, List.replicate, List.cons_append, List.nil_append]
  refine ens_seq (fun e S' => S' = S ∧ e = [some (.lst (l.map D.int)), some (.int l.length), none]) ?_ ?_
  · simp
  rintro e S' ⟨rfl, rfl⟩
  have hc : lcL (fun _ => True) (eN 2) (xNot (xTru (xFn F_is_number (xCons (xVar 2) xNil)))) (xVar 2) [some (.lst (l.map D.int)), some (.int l.length), none] (l.map D.int) [] S' = .ok [] S' := lc_none (emb := D.int) l [] fun a _ => ⟨_, rfl, by simp [is_number_ok]⟩
  simp only [yRet_app, xOp_app, xFn_app, xCons_app, xNil_app, xLc_app, iSrc_app, xVar_app, List.getElem?_cons_zero, Res.bind_ok, srcL_lst, wipeE_cons, wipeE_nil, List.set_cons_succ, List.set_cons_zero, hc, mkF_app]
  simp
theorem is_box_ok {z : Bx} (h : BxOk z) (S : Store) : F_is_box [bxD z] S = .ok (.bl true) S := by
  rw [← ens_eq]
  refine ens_fn rfl ?_
  unfold b_is_box bxD
  have q := are_numbers_ok [z.1, z.2.1, z.2.2] 3 rfl S
  simp at q
  simp [bList, q, gT, gsCons, gsNil, gN, Out.seq, h.c1, h.c2, h.h1, h.h2, h.o]
theorem must_be_ok {bs : List Bx} (h : ∀ z ∈ bs, BxOk z) (h1 : 1 ≤ bs.length) (h6 : bs.length ≤ 6) (S : Store) : F_must_be_boxes [.lst (bs.map bxD)] S = .ok .non S := by
  rw [← ens_eq]
  refine ens_fn rfl ?_
  unfold b_must_be_boxes
  simp only [List.map_cons, List.map_nil, List.replicate, List.cons_append, List.nil_append]
  refine ens_seq (fun e S' => S' = S ∧ e = [some (.lst (bs.map bxD)), none]) ?_ ?_
  · simp [show ¬ ((bs.length : Int) < 1) by omega, show ¬ (6 < (bs.length : Int)) by omega]
  rintro e S' ⟨rfl, rfl⟩
  have hc : lcL (fun _ => True) (eN 1) (xNot (xTru (xFn F_is_box (xCons (xVar 1) xNil)))) (xVar 1) [some (.lst (bs.map bxD)), none] (bs.map bxD) [] S' = .ok [] S' := lc_none (emb := bxD) bs [] fun a ha => ⟨_, rfl, by simp [is_box_ok (h a ha)]⟩
  simp only [yIf_app, xIsT_app, xOp_app, xFn_app, xCons_app, xNil_app, xLc_app, iSrc_app, xVar_app, List.getElem?_cons_zero, Res.bind_ok, srcL_lst, wipeE_cons, wipeE_nil, List.set_cons_succ, List.set_cons_zero, hc, mkF_app]
  simp
theorem pow_sz {b : Int} {n : Nat} (hb : Sz n b) : ∀ m : Nat, Sz (n * m + 1) (b ^ m)
  | 0 => by show Nat.lt _ _; simp
  | m + 1 => by
    rw [Int.pow_succ]
    exact ((pow_sz hb m).mul hb).le (by rw [Nat.mul_add]; omega)

theorem BxOk.so {z : Bx} (h : BxOk z) : Sz 6 z.2.2 ∧ 0 < z.2.2 := by
  have := h.h1; have := h.h2; have := h.o
  exact ⟨sz_of (B := 51) (by omega) (by omega) (by decide), by omega⟩
theorem BxOk.sm {z : Bx} (h : BxOk z) : Sz 6 (z.2.2 - z.2.1) := by
  have := h.h1; have := h.h2; have := h.o
  exact sz_of (B := 51) (by omega) (by omega) (by decide)
theorem irange_succ {k : Int} {n : Nat} : irange k (n + 1) = .int k :: irange (k + 1) n := by
  unfold irange
  rw [List.range_succ_eq_map, List.map_cons, List.map_map]
  congr 1
  · simp
  · apply List.map_congr_left
    intro i _
    simp
    omega
theorem lc_rng {α : Type} {g : D → Dv.Env → Option Dv.Env} {f : Dv.Env → M D} {e0 : Dv.Env} {S : Store} (ψ : α → D) : ∀ (L : List α) (k : Int) (acc : List D), (∀ (i : Nat) (hi : i < L.length), ∃ e1, g (.int (k + i)) e0 = some e1 ∧ f e1 S = .ok (ψ L[i]) S) → acc.length + L.length ≤ 16000000 → lcL (fun _ => True) g cYes f e0 (irange k L.length) acc S = .ok (acc ++ L.map ψ) S
  | [], k, acc, _, _ => by
    show lcL (fun _ => True) g cYes f e0 [] acc S = _
    rw [lcL, if_pos trivial]
    simp
  | a :: L, k, acc, h, hl => by
    obtain ⟨e1, h1, h2⟩ := h 0 (by simp)
    rw [List.length_cons] at hl
    rw [List.length_cons, irange_succ, lcL, if_pos trivial]
    simp at h1 h2
    simp only [h1, cYes, h2]
    rw [if_pos (by omega), lc_rng ψ L (k + 1) _ (fun i hi => by
      obtain ⟨e2, q1, q2⟩ := h (i + 1) (by simpa using hi)
      refine ⟨e2, ?_, by simpa using q2⟩
      rw [← q1]
      congr 2
      omega) (by rw [List.length_append, List.length_singleton]; omega)]
    simp
def plD (ps : List Nat) : D := .lst (ps.map fun (m : Nat) => D.int (m : Int))
def bxsD (bs : List Bx) : D := .lst (bs.map bxD)
structure BpOk (bs : List Bx) (ps : List Nat) : Prop where
  len : ps.length = bs.length
  one : 1 ≤ bs.length
  six : bs.length ≤ 6
  bx : ∀ z ∈ bs, BxOk z
  pl : ∀ m ∈ ps, m ≤ 60
theorem bx_ix {bs : List Bx} {i : Nat} (h : i < bs.length) (S : Store) : dIx (bxsD bs) (.int (0 + i)) S = .ok (bxD bs[i]) S := by
  unfold bxsD
  rw [Int.zero_add, dIx_lst, atI_nat (by rw [List.getElem?_map, List.getElem?_eq_getElem h]; rfl)]
theorem pl_ix {ps : List Nat} {i : Nat} (h : i < ps.length) (S : Store) : dIx (plD ps) (.int (0 + i)) S = .ok (.int ps[i]) S := by
  unfold plD
  rw [Int.zero_add, dIx_lst, atI_nat (by rw [List.getElem?_map, List.getElem?_eq_getElem h]; rfl)]
/-! ### chances to miss and to find, as rational numbers -/
def mu (z : Bx) : Rat := ((z.2.2 - z.2.1 : Int) : Rat) / (z.2.2 : Rat)
def eta (z : Bx) : Rat := (z.2.1 : Rat) / (z.2.2 : Rat)
theorem intq {b : Int} (h : b ≠ 0) : (b : Rat) ≠ 0 := fun z => h (Rat.intCast_eq_zero_iff.mp z)
theorem qpow_ne {b : Rat} (hb : b ≠ 0) : ∀ m : Nat, b ^ m ≠ 0
  | 0 => by rw [Rat.pow_zero]; decide
  | m + 1 => by
    rw [Rat.pow_succ]
    intro z
    rcases Rat.mul_eq_zero.mp z with z | z
    · exact qpow_ne hb m z
    · exact hb z
theorem div_pow_r {a b : Rat} (hb : b ≠ 0) : ∀ m : Nat, a ^ m / b ^ m = (a / b) ^ m
  | 0 => by simp only [Rat.pow_zero]; grind
  | m + 1 => by
    rw [Rat.pow_succ, Rat.pow_succ, Rat.pow_succ, ← div_pow_r hb m]
    have := qpow_ne hb m
    grind
theorem missed_r {z : Bx} (h : BxOk z) (m : Nat) (hm : m ≤ 100) (S : Store) : F_missed [bxD z, .int m] S = .ok (fr (mu z ^ m)) S := by
  obtain ⟨o1, o2⟩ := h.so
  have hh1 := h.h1
  have hh2 := h.h2
  have ho := h.o
  rw [← ens_eq]
  refine ens_fn rfl ?_
  unfold b_missed
  simp only [List.map_cons, List.map_nil, List.replicate, List.cons_append, List.nil_append]
  refine ens_seq (fun e S' => S' = S ∧ e = [some (bxD z), some (.int m), none, none, none, some (.int z.1), some (.int z.2.1), some (.int z.2.2)]) ?_ ?_
  · simp [bxD, gT, gsCons, gsNil, gN, Out.seq]
  rintro e S' ⟨rfl, rfl⟩
  refine ens_seq (fun e S2 => S2 = S' ∧ e = [some (bxD z), some (.int m), some (.int 1), none, none, some (.int z.1), some (.int z.2.1), some (.int z.2.2)]) ?_ ?_
  · simp
  rintro e S2 ⟨rfl, rfl⟩
  refine ens_seq (fun e S3 => S3 = S2 ∧ e = [some (bxD z), some (.int m), some (.int 1), some (.int 1), none, some (.int z.1), some (.int z.2.1), some (.int z.2.2)]) ?_ ?_
  · simp
  rintro e S3 ⟨rfl, rfl⟩
  refine ens_sq (fun e S4 => S4 = S3 ∧ ∃ v4, e = [some (bxD z), some (.int m), some (.int ((z.2.2 - z.2.1) ^ m)), some (.int (z.2.2 ^ m)), v4, some (.int z.1), some (.int z.2.1), some (.int z.2.2)]) (fun R' hR => ?_) ?_
  · simp
    refine ⟨rng62_of (by omega) (by omega), ?_⟩
    refine ens_fr (fun i e S4 => S4 = S3 ∧ ∃ v4, e = [some (bxD z), some (.int m), some (.int ((z.2.2 - z.2.1) ^ i)), some (.int (z.2.2 ^ i)), v4, some (.int z.1), some (.int z.2.1), some (.int z.2.2)]) ⟨rfl, none, by simp⟩ ?_ ?_
    · rintro i d e S4 R2 hd ⟨rfl, v4, rfl⟩ hR2
      simp
      refine ⟨mulOkR (by omega) (by omega), mulOkR (by omega) (by omega), hR2 _ _ ⟨rfl, some d, by simp only [Int.pow_succ]⟩⟩
    · rintro e S4 ⟨rfl, v4, rfl⟩
      refine hR _ _ ⟨rfl, v4, ?_⟩
      simp
  rintro e S4 ⟨rfl, v4, rfl⟩
  have p0 : 0 < z.2.2 ^ m := Int.pow_pos o2
  simp [ratio_r _ _ 1000 _ (show z.2.2 ^ m ≠ 0 by omega) ((pow_sz o1 m).le (by omega)) (by decide)]
  unfold mu
  rw [div_pow_r (intq (by omega)), Rat.intCast_sub]
theorem mu_on {z : Bx} (h : BxOk z) (m : Nat) : On (z.2.2.toNat ^ m) 1 (mu z ^ m) := by
  obtain ⟨o1, o2⟩ := h.so
  have h1 := h.h1
  have h2 := h.h2
  have p := Nat.pow_pos (n := m) (show 0 < z.2.2.toNat by omega)
  refine ⟨p, (z.2.2 - z.2.1) ^ m, ?_, ?_⟩
  · unfold mu
    rw [← div_pow_r (intq (by omega)), ← Rat.intCast_pow, ← Rat.intCast_pow, Rat.natCast_pow]
    have e : ((z.2.2.toNat : Nat) : Rat) = ((z.2.2 : Int) : Rat) := by
      rw [← Rat.intCast_natCast]; congr 1; omega
    rw [e, ← Rat.intCast_pow, Rat.div_mul_cancel]
    exact intq (by have p : 0 < z.2.2 ^ m := Int.pow_pos o2; omega)
  · rw [Int.natAbs_pow, Nat.one_mul]
    exact Nat.pow_le_pow_left (by omega) m
theorem eta_on {z : Bx} (h : BxOk z) : On z.2.2.toNat 1 (eta z) := by
  obtain ⟨o1, o2⟩ := h.so
  have h1 := h.h1
  have h2 := h.h2
  exact On.div (by omega) (by omega) (by omega)
theorem pow50 (m : Nat) (hm : m ≤ 61) : 50 ^ m < 2 ^ 400 := Nat.lt_of_le_of_lt (Nat.pow_le_pow_right (by decide) hm) (by decide)
theorem mu_fs {z : Bx} (h : BxOk z) (m : Nat) (hm : m ≤ 61) : Fs 400 (mu z ^ m) := by
  have := h.o
  have b : z.2.2.toNat ^ m ≤ 50 ^ m := Nat.pow_le_pow_left (by omega) m
  exact (mu_on h m).fs (Nat.lt_of_le_of_lt b (pow50 m hm)) (by rw [Nat.one_mul]; exact Nat.lt_of_le_of_lt b (pow50 m hm))
theorem eta_fs {z : Bx} (h : BxOk z) : Fs 400 (eta z) := by
  have := h.o
  exact (eta_on h).fs (Nat.lt_of_le_of_lt (m := 50) (by omega) (by decide)) (Nat.lt_of_le_of_lt (m := 50) (by omega) (by decide))
theorem mark_r {z : Bx} (h : BxOk z) (m : Nat) (hm : m ≤ 60) (S : Store) : F_mark [bxD z, .int m] S = .ok (fr (eta z * mu z ^ m)) S := by
  obtain ⟨o1, o2⟩ := h.so
  have e1 : ∀ S, F_ratio [.int z.2.1, .int z.2.2] S = .ok (fr (eta z)) S := fun S => ratio_r _ _ 6 S (by omega) o1 (by decide)
  have i1 : ∀ S, dIx (bxD z) (.int 1) S = .ok (.int z.2.1) S := fun S => by unfold bxD; simp
  have i2 : ∀ S, dIx (bxD z) (.int 2) S = .ok (.int z.2.2) S := fun S => by unfold bxD; simp
  rw [← ens_eq]
  refine ens_fn rfl ?_
  unfold b_mark
  simp [e1, i1, i2, missed_r h m (by omega), times_r (eta_fs h) (mu_fs h m (by omega)) (by decide)]
/-! ### weights, plans, orders -/
def wsD (ws : List Int) : D := .lst (ws.map D.int)
structure WsOk (ws : List Int) (n : Nat) : Prop where
  len : ws.length = n
  lo : ∀ w ∈ ws, 0 ≤ w
  hi : ∀ w ∈ ws, w ≤ 1000000000000000000000000000000
  some : ∃ w ∈ ws, 0 < w
theorem plD_ints (ps : List Nat) : plD ps = .lst ((ps.map fun (m : Nat) => (m : Int)).map D.int) := by
  unfold plD
  rw [List.map_map]
  rfl
theorem bMin_ok {l : List Int} (h : l ≠ []) (S : Store) : bMin [.lst (l.map D.int)] S = .ok (.int (minL l)) S := by
  cases l with
  | nil => exact absurd rfl h
  | cons a l => 
    unfold bMin
    simp only [getQ_lst, Option.bind_some, intsOf_map]
theorem bMax_ok {l : List Int} (h : l ≠ []) (S : Store) : bMax [.lst (l.map D.int)] S = .ok (.int (maxL l)) S := by
  cases l with
  | nil => exact absurd rfl h
  | cons a l => 
    unfold bMax
    simp only [getQ_lst, Option.bind_some, intsOf_map]
theorem bSum_ok (l : List Int) (S : Store) : bSum [.lst (l.map D.int)] S = .ok (.int l.sum) S := by
  unfold bSum
  simp only [getQ_lst, Option.bind_some, intsOf_map]
theorem are_weights_ok {ws : List Int} {n : Nat} (h : WsOk ws n) (S : Store) : F_are_weights [wsD ws, .int n] S = .ok (.bl true) S := by
  have hne : ws ≠ [] := by
    obtain ⟨w, hw, _⟩ := h.some
    intro z; subst z; simp at hw
  have h1 : 0 ≤ minL ws := h.lo _ (minL_mem hne)
  obtain ⟨w, hw, hw0⟩ := h.some
  have h2 : 0 < maxL ws := by have := maxL_ge hw; omega
  rw [← ens_eq]
  refine ens_fn rfl ?_
  unfold b_are_weights wsD
  simp [are_numbers_ok ws n (by rw [h.len]), bMin_ok hne, bMax_ok hne, h1, h2]
theorem is_plan_ok {bs : List Bx} {ps : List Nat} (h : BpOk bs ps) (S : Store) : F_is_plan [bxsD bs, plD ps] S = .ok (.bl true) S := by
  have hlen := h.len
  have one := h.one
  have hne : (ps.map fun (m : Nat) => (m : Int)) ≠ [] := by
    intro z
    have := congrArg List.length z
    simp at this
    subst this
    simp at hlen
    omega
  have h1 : 0 ≤ minL (ps.map fun (m : Nat) => (m : Int)) := by
    obtain ⟨m, _, e⟩ := List.mem_map.mp (minL_mem hne)
    omega
  have h2 : maxL (ps.map fun (m : Nat) => (m : Int)) ≤ 60 := by
    obtain ⟨m, hm, e⟩ := List.mem_map.mp (maxL_mem hne)
    have := h.pl m hm
    omega
  have hb : bLen [bxsD bs] S = .ok (.int bs.length) S := by unfold bxsD; simp
  rw [← ens_eq]
  refine ens_fn rfl ?_
  unfold b_is_plan
  rw [plD_ints]
  simp [hb]
  have e := are_numbers_ok (ps.map fun (m : Nat) => (m : Int)) bs.length (by simp [hlen]) S
  have e1 := bMin_ok hne S
  have e2 := bMax_ok hne S
  simp at e e1 e2
  simp [e, e1, e2, h1, h2]
theorem must_be_asked_ok {bs : List Bx} {ws : List Int} {ps : List Nat} (h : BpOk bs ps) (hw : WsOk ws bs.length) (S : Store) : F_must_be_asked [bxsD bs, wsD ws, plD ps] S = .ok .non S := by
  have hb : bLen [bxsD bs] S = .ok (.int bs.length) S := by unfold bxsD; simp
  have hm : ∀ S, F_must_be_boxes [bxsD bs] S = .ok .non S := fun S => must_be_ok h.bx h.one h.six S
  rw [← ens_eq]
  refine ens_fn rfl ?_
  unfold b_must_be_asked
  simp [hb, are_weights_ok hw, is_plan_ok h, hm]
theorem countP_ints (k : Int) : ∀ l : List Nat, (l.map fun (m : Nat) => PyData.int m).countP (fun y => PyData.eqv y (.int k)) = (l.map fun (m : Nat) => (m : Int)).count k
  | [] => rfl
  | m :: l => by
    rw [List.map_cons, List.map_cons, List.countP_cons, List.count_cons, countP_ints k l]
    simp [PyData.eqv]
theorem toPs_nats {S : Store} {n : Nat} (l : List Nat) : toPs S n (l.map fun (m : Nat) => D.int (m : Int)) = some (l.map fun (m : Nat) => PyData.int (m : Int)) := by
  have := toPs_ints (S := S) (n := n) (l.map fun (m : Nat) => (m : Int))
  rw [List.map_map, List.map_map] at this
  exact this
theorem count_nat (k : Nat) : ∀ l : List Nat, (l.map fun (m : Nat) => (m : Int)).count (k : Int) = l.count k
  | [] => rfl
  | m :: l => by
    rw [List.map_cons, List.count_cons, List.count_cons, count_nat k l]
    congr 1
    by_cases h : m = k
    · subst h; simp
    · simp [h]; omega
theorem count_ok (os : List Nat) (k : Nat) (S : Store) : mCountD (plD os) [.int (k : Int)] S = .ok (.int (os.count k : Nat)) S := by
  unfold mCountD plD
  have e1 : toP S 60 (.int (k : Int)) = some (.int k) := by simp [toP]
  simp only [e1, getQ_lst, Option.bind_some, toPs_nats]
  rw [countP_ints, count_nat]
structure OrdOk (n : Nat) (ps os : List Nat) : Prop where
  cnt : ∀ (i : Nat) (h : i < ps.length), os.count i = ps[i]
  tot : (os.length : Int) = (ps.map fun (m : Nat) => (m : Int)).sum
  lt : ∀ k ∈ os, k < n
theorem must_be_order_ok {bs : List Bx} {ps os : List Nat} (h : BpOk bs ps) (ho : OrdOk bs.length ps os) (S : Store) : F_must_be_order [bxsD bs, plD ps, plD os] S = .ok .non S := by
  have hlen := h.len
  have h6 := h.six
  have hb : bLen [bxsD bs] S = .ok (.int ps.length) S := by unfold bxsD; simp [hlen]
  have hb2 : bLen [plD os] S = .ok (.int os.length) S := by unfold plD; simp
  have hi : bIsi [plD os, .raw (.ty "list")] S = .ok (.bl true) S := by unfold plD; simp
  have hn : F_are_numbers [plD os, .int os.length] S = .ok (.bl true) S := by rw [plD_ints]; exact are_numbers_ok _ _ (by simp) S
  have hs : srcR1 [.int (ps.length : Int)] S = .ok ⟨irange 0 ps.length, fun _ => True⟩ S := by
    rw [srcR1_app, if_pos (rng62_of (by omega) (by omega)), Int.toNat_natCast]
  have hq : ∀ S, isT "list" (plD os) S = true := fun S => rfl
  have hc : lcL (fun _ => True) (eN 3) cYes (xMt "list" mCountD (xVar 2) (xCons (xVar 3) xNil)) [some (bxsD bs), some (plD ps), some (plD os), none] (irange 0 ps.length) [] S = .ok ([] ++ ps.map fun (m : Nat) => D.int (m : Int)) S := by
    refine lc_rng (fun (m : Nat) => D.int (m : Int)) ps 0 [] (fun i hi => ⟨_, rfl, ?_⟩) (by simp; omega)
    simp only [List.set_cons_succ, List.set_cons_zero, xMt_app, xVar_app, xCons_app, xNil_app, List.getElem?_cons_zero, List.getElem?_cons_succ, Res.bind_ok, hq, if_true, Int.zero_add, count_ok, ho.cnt i hi]
  rw [← ens_eq]
  refine ens_fn rfl ?_
  unfold b_must_be_order
  simp only [List.map_cons, List.map_nil, List.replicate, List.cons_append, List.nil_append]
  refine ens_seq (fun e S' => S' = S ∧ e = [some (bxsD bs), some (plD ps), some (plD os), none]) ?_ ?_
  · simp [hi, hb2, hn]
  rintro e S' ⟨rfl, rfl⟩
  have e1 : dNe (plD ps) (plD ps) S' = .ok (.bl false) S' := dNe_self (p := .list (ps.map fun (m : Nat) => PyData.int (m : Int))) (by unfold plD; rw [toP, toPs_nats]; rfl)
  have e2 : bSum [plD ps] S' = .ok (.int os.length) S' := by rw [plD_ints, bSum_ok, ho.tot]
  have e3 : D.lst (ps.map fun (m : Nat) => D.int (m : Int)) = plD ps := rfl
  simp only [yIf_app, xOr_app, xIsT_app, xOp_app, xLc_app, iSrcA_app, xFn_app, xCons_app, xNil_app, xVar_app, List.getElem?_cons_zero, List.getElem?_cons_succ, Res.bind_ok, hb, hs, wipeE_cons, wipeE_nil, List.set_cons_succ, List.set_cons_zero, hc, mkF_app, List.nil_append, e3, e1, hb2, e2]
  simp
/-! ### chances -/
def bxAt (bs : List Bx) (k : Nat) : Bx := bs.getD k (1, 1, 1)
theorem bxAt_get {bs : List Bx} {k : Nat} (h : k < bs.length) : bxAt bs k = bs[k] := by unfold bxAt; rw [List.getD_eq_getElem?_getD, List.getElem?_eq_getElem h]; rfl
def ch (bs : List Bx) (ws : List Int) (dn : List Nat) (k : Nat) : Rat := ((ws.getD k 0 : Int) : Rat) / ((ws.sum : Int) : Rat) * (eta (bxAt bs k) * mu (bxAt bs k) ^ dn.getD k 0)
def bump (dn : List Nat) (k : Nat) : List Nat := dn.set k (dn.getD k 0 + 1)
def chs (bs : List Bx) (ws : List Int) : List Nat → List Nat → List Rat
  | _, [] => []
  | dn, k :: o => ch bs ws dn k :: chs bs ws (bump dn k) o
theorem chs_length (bs : List Bx) (ws : List Int) : ∀ (o dn : List Nat), (chs bs ws dn o).length = o.length
  | [], _ => rfl
  | k :: o, dn => by rw [chs, List.length_cons, List.length_cons, chs_length bs ws o]
theorem sum_nonneg : ∀ {l : List Int}, (∀ x ∈ l, 0 ≤ x) → 0 ≤ l.sum
  | [], _ => by simp
  | x :: l, h => by
    rw [List.sum_cons]
    have := h x (by simp)
    have := sum_nonneg (l := l) fun y hy => h y (by simp [hy])
    omega
theorem mem_le_sum : ∀ {l : List Int} {y : Int}, (∀ x ∈ l, 0 ≤ x) → y ∈ l → y ≤ l.sum
  | [], _, _, h => by simp at h
  | x :: l, y, h, hy => by
    rw [List.sum_cons]
    have h0 := h x (by simp)
    have hl : ∀ z ∈ l, 0 ≤ z := fun z hz => h z (by simp [hz])
    rcases List.mem_cons.mp hy with e | e
    · have := sum_nonneg hl
      omega
    · have := mem_le_sum hl e
      omega
theorem sum_le_len : ∀ {l : List Int} {B : Int}, (∀ x ∈ l, x ≤ B) → l.sum ≤ l.length * B
  | [], _, _ => by simp
  | x :: l, B, h => by
    rw [List.sum_cons, List.length_cons]
    have h0 := h x (by simp)
    have := sum_le_len (l := l) (B := B) fun z hz => h z (by simp [hz])
    rw [Int.natCast_succ, Int.add_mul, Int.one_mul]
    omega
theorem WsOk.sum {ws : List Int} {n : Nat} (h : WsOk ws n) (hn : n ≤ 6) : 0 < ws.sum ∧ ws.sum ≤ 6000000000000000000000000000000 := by
  obtain ⟨w, hw, h0⟩ := h.some
  have h1 := mem_le_sum h.lo hw
  have h2 := sum_le_len h.hi
  have h3 := h.len
  refine ⟨by omega, ?_⟩
  have : (ws.length : Int) * 1000000000000000000000000000000 ≤ 6 * 1000000000000000000000000000000 := Int.mul_le_mul_of_nonneg_right (by omega) (by decide)
  omega
theorem WsOk.at {ws : List Int} {n : Nat} (h : WsOk ws n) {k : Nat} (hk : k < n) : 0 ≤ ws.getD k 0 ∧ ws.getD k 0 ≤ ws.sum := by
  have hl := h.len
  have hk' : k < ws.length := by omega
  have e : ws.getD k 0 = ws[k] := by rw [List.getD_eq_getElem?_getD, List.getElem?_eq_getElem hk']; rfl
  rw [e]
  exact ⟨h.lo _ (List.getElem_mem _), mem_le_sum h.lo (List.getElem_mem _)⟩
/-- the common lower part -/
def Dn (bs : List Bx) (ws : List Int) : Nat := ws.sum.toNat * (bs.map fun z => z.2.2.toNat ^ 61).prod
theorem prod_dvd : ∀ {bs : List Bx} {k : Nat} (h : k < bs.length), bs[k].2.2.toNat ^ 61 ∣ (bs.map fun z => z.2.2.toNat ^ 61).prod
  | z :: bs, 0, _ => by simp [List.prod_cons]; exact Nat.dvd_mul_right _ _
  | z :: bs, k + 1, h => by
    rw [List.map_cons, List.prod_cons]
    exact Nat.dvd_trans (prod_dvd (bs := bs) (k := k) (by simpa using h)) (Nat.dvd_mul_left _ _)
theorem prod_pos : ∀ {bs : List Bx}, (∀ z ∈ bs, BxOk z) → 0 < (bs.map fun z => z.2.2.toNat ^ 61).prod
  | [], _ => by simp
  | z :: bs, h => by
    rw [List.map_cons, List.prod_cons]
    have := (h z (by simp)).so.2
    exact Nat.mul_pos (Nat.pow_pos (by omega)) (prod_pos fun y hy => h y (by simp [hy]))
theorem prod_le : ∀ {bs : List Bx}, (∀ z ∈ bs, BxOk z) → (bs.map fun z => z.2.2.toNat ^ 61).prod ≤ (50 ^ 61) ^ bs.length
  | [], _ => by simp
  | z :: bs, h => by
    rw [List.map_cons, List.prod_cons, List.length_cons, Nat.pow_succ, Nat.mul_comm]
    have := (h z (by simp)).o
    exact Nat.mul_le_mul (prod_le fun y hy => h y (by simp [hy])) (Nat.pow_le_pow_left (by omega) 61)
theorem Dn_pos {bs : List Bx} {ws : List Int} (hb : ∀ z ∈ bs, BxOk z) (h6 : bs.length ≤ 6) (hw : WsOk ws bs.length) : 0 < Dn bs ws := by
  have := (hw.sum h6).1
  exact Nat.mul_pos (by omega) (prod_pos hb)
theorem Dn_lt {bs : List Bx} {ws : List Int} (hb : ∀ z ∈ bs, BxOk z) (h6 : bs.length ≤ 6) (hw : WsOk ws bs.length) : Dn bs ws < 2 ^ 2200 := by
  have h1 := (hw.sum h6).2
  have h2 := prod_le hb
  have h3 : (50 ^ 61) ^ bs.length ≤ (50 ^ 61) ^ 6 := Nat.pow_le_pow_right (by decide) h6
  have : Dn bs ws ≤ 6000000000000000000000000000000 * (50 ^ 61) ^ 6 := Nat.mul_le_mul (by omega) (Nat.le_trans h2 h3)
  exact Nat.lt_of_le_of_lt this (by decide)
theorem w_on {ws : List Int} {n k : Nat} (hw : WsOk ws n) (h6 : n ≤ 6) (hk : k < n) : On ws.sum.toNat 1 (((ws.getD k 0 : Int) : Rat) / ((ws.sum : Int) : Rat)) := by
  have h1 := (hw.sum h6).1
  have h2 := hw.at hk
  exact On.div (by omega) (by omega) (by omega)
theorem w_fs {ws : List Int} {n k : Nat} (hw : WsOk ws n) (h6 : n ≤ 6) (hk : k < n) : Fs 400 (((ws.getD k 0 : Int) : Rat) / ((ws.sum : Int) : Rat)) := by
  have h1 := hw.sum h6
  have h2 : (2 : Nat) ^ 110 < 2 ^ 400 := by decide
  have h3 : ws.sum.toNat < 2 ^ 110 := by
    have : (6000000000000000000000000000000 : Nat) < 2 ^ 110 := by decide
    omega
  exact (w_on hw h6 hk).fs (by omega) (by omega)
theorem em_fs {z : Bx} (h : BxOk z) {m : Nat} (hm : m ≤ 60) : Fs 400 (eta z * mu z ^ m) := by
  have ho := h.o
  have e := (eta_on h).mul (mu_on h m)
  have b : z.2.2.toNat * z.2.2.toNat ^ m ≤ 50 ^ (m + 1) := by
    rw [Nat.pow_succ, Nat.mul_comm]
    exact Nat.mul_le_mul (Nat.pow_le_pow_left (by omega) m) (by omega)
  have := pow50 (m + 1) (by omega)
  exact e.fs (by omega) (by omega)
theorem ch_on {bs : List Bx} {ws : List Int} {dn : List Nat} {k : Nat} (hb : ∀ z ∈ bs, BxOk z) (h6 : bs.length ≤ 6) (hw : WsOk ws bs.length) (hk : k < bs.length) (hd : dn.getD k 0 ≤ 60) : On (Dn bs ws) 1 (ch bs ws dn k) := by
  have hz := hb bs[k] (List.getElem_mem _)
  unfold ch
  rw [bxAt_get hk]
  refine (((w_on hw h6 hk).mul ((eta_on hz).mul (mu_on hz (dn.getD k 0)))).mono (C := 1) (by decide)).up ?_ (Dn_pos hb h6 hw)
  unfold Dn
  refine Nat.mul_dvd_mul_left _ (Nat.dvd_trans ?_ (prod_dvd hk))
  rw [Nat.mul_comm, ← Nat.pow_succ]
  exact Nat.pow_dvd_pow _ (by omega)
theorem ch_fs {bs : List Bx} {ws : List Int} {dn : List Nat} {k : Nat} (hb : ∀ z ∈ bs, BxOk z) (h6 : bs.length ≤ 6) (hw : WsOk ws bs.length) (hk : k < bs.length) (hd : dn.getD k 0 ≤ 60) : Fs 2300 (ch bs ws dn k) := by
  have := Dn_lt hb h6 hw
  have : (2 : Nat) ^ 2200 < 2 ^ 2300 := by decide
  exact (ch_on hb h6 hw hk hd).fs (by omega) (by omega)
theorem cell_nat {S : Store} {n : Nat} {dn : List Nat} (h : S[n]? = some (.lst (dn.map fun (m : Nat) => D.int (m : Int)))) {k : Nat} (hk : k < dn.length) : dIx (.cell n) (.int (k : Int)) S = .ok (.int (dn.getD k 0 : Nat)) S := by
  have e : L2.atI (dn.map fun (m : Nat) => D.int (m : Int)) (k : Int) = some (.int (dn.getD k 0 : Nat)) := by
    rw [atI_nat (by rw [List.getElem?_map, List.getElem?_eq_getElem hk]; rfl), List.getD_eq_getElem?_getD, List.getElem?_eq_getElem hk]
    rfl
  simp only [dIx, getQ, getL, h, e]
theorem bump_map {dn : List Nat} {k : Nat} : (bump dn k).map (fun (m : Nat) => D.int (m : Int)) = (dn.map fun (m : Nat) => D.int (m : Int)).set k (.int ((dn.getD k 0 : Nat) + 1)) := by
  unfold bump
  rw [List.map_set]
  simp
theorem bump_length {dn : List Nat} {k : Nat} : (bump dn k).length = dn.length := by unfold bump; simp
theorem bump_get {dn : List Nat} {k j : Nat} (hk : k < dn.length) : (bump dn k).getD j 0 = dn.getD j 0 + if j = k then 1 else 0 := by
  unfold bump
  rw [List.getD_eq_getElem?_getD, List.getElem?_set]
  by_cases h : k = j
  · subst h
    simp [hk]
  · rw [if_neg h, if_neg (fun z => h z.symm)]
    simp [List.getD_eq_getElem?_getD]
theorem rep_zero (n : Nat) : (List.replicate n [D.int 0]).flatten = (List.replicate n 0).map fun (m : Nat) => D.int (m : Int) := by
  induction n with
  | zero => rfl
  | succ n ih => rw [List.replicate_succ, List.flatten_cons, ih, List.replicate_succ, List.map_cons]; rfl
/-- what is left of the order, and what was done -/
def Room60 (n : Nat) (dn o : List Nat) : Prop := dn.length = n ∧ (∀ k, dn.getD k 0 + o.count k ≤ 60) ∧ ∀ k ∈ o, k < n
theorem Room60.step {n : Nat} {dn o : List Nat} {k : Nat} (h : Room60 n dn (k :: o)) : k < n ∧ dn.getD k 0 ≤ 59 ∧ Room60 n (bump dn k) o := by
  obtain ⟨h1, h2, h3⟩ := h
  have hk := h3 k (by simp)
  have e := h2 k
  rw [List.count_cons_self] at e
  refine ⟨hk, by omega, by rw [bump_length]; exact h1, fun j => ?_, fun j hj => h3 j (by simp [hj])⟩
  rw [bump_get (by omega)]
  have := h2 j
  by_cases q : j = k
  · subst q
    rw [if_pos rfl]
    omega
  · rw [if_neg q]
    rw [List.count_cons_of_ne (fun z => q z.symm)] at this
    exact this
theorem Room60.start {n : Nat} {ps os : List Nat} (hl : ps.length = n) (hp : ∀ m ∈ ps, m ≤ 60) (h : OrdOk n ps os) : Room60 n (List.replicate n 0) os := by
  refine ⟨by simp, fun k => ?_, h.lt⟩
  have e : (List.replicate n 0).getD k 0 = 0 := by simp [List.getD_eq_getElem?_getD, List.getElem?_replicate]; split <;> rfl
  rw [e]
  by_cases hk : k < ps.length
  · rw [h.cnt k hk]
    have := hp ps[k] (List.getElem_mem _)
    omega
  · have : os.count k = 0 := List.count_eq_zero.mpr fun hm => hk (by have := h.lt k hm; omega)
    omega
theorem chances_ok {bs : List Bx} {ws : List Int} {os : List Nat} (hb : ∀ z ∈ bs, BxOk z) (h6 : bs.length ≤ 6) (hw : WsOk ws bs.length) (hr : Room60 bs.length (List.replicate bs.length 0) os) (hl : os.length ≤ 1000) (S : Store) (hS : (S.all fun c => c.under S.length) = true) :
    F_chances [bxsD bs, wsD ws, plD os] S = .ok (.lst ((chs bs ws (List.replicate bs.length 0) os).map fr)) S := by
  have hW := hw.sum h6
  have lb : ∀ S, bLen [bxsD bs] S = .ok (.int bs.length) S := fun S => by unfold bxsD; simp
  rw [← ens_eq]
  refine ens_fn rfl ?_
  unfold b_chances
  simp only [List.map_cons, List.map_nil, List.replicate, List.cons_append, List.nil_append]
  refine ens_seq (fun e S' => S' = S ++ [.lst []] ∧ e = [some (bxsD bs), some (wsD ws), some (plD os), some (.cell S.length), none, none]) ?_ ?_
  · simp
  rintro e S' ⟨rfl, rfl⟩
  refine ens_sq (fun e S' => S' = S ++ [.lst [], .lst ((List.replicate bs.length 0).map fun (m : Nat) => D.int (m : Int))] ∧ e = [some (bxsD bs), some (wsD ws), some (plD os), some (.cell S.length), some (.cell (S.length + 1)), none]) (fun R hR => ?_) ?_
  · simp only [ySet_app, xOp_app, xLst_app, xCons_app, xC_app, xNil_app, xFn_app, xVar_app, List.getElem?_cons_zero, Res.bind_ok, lb, List.length_cons, List.length_nil, mkF_app]
    rw [if_pos (by decide)]
    simp only [Res.bind_ok, dMul_lst]
    rw [if_pos ⟨rng62_of (by omega) (by omega), by simp; omega⟩]
    simp only [Int.toNat_natCast, rep_zero, mkC_app, enso_out, ens_ok, enso_nx, List.set_cons_succ, List.set_cons_zero]
    exact hR _ _ ⟨by simp, by simp⟩
  rintro e S' ⟨rfl, rfl⟩
  refine ens_sq (fun e S' => ∃ (dn : List Nat) (v : Option D), S' = S ++ [.dead, .lst (dn.map fun (m : Nat) => D.int (m : Int))] ∧ e = [some (bxsD bs), some (wsD ws), some (plD os), some (.lst ((chs bs ws (List.replicate bs.length 0) os).map fr)), some (.cell (S.length + 1)), v]) (fun R hR => ?_) ?_
  · refine ens_sq (fun e S' => ∃ (dn : List Nat) (v : Option D), S' = S ++ [.lst ((chs bs ws (List.replicate bs.length 0) os).map fr), .lst (dn.map fun (m : Nat) => D.int (m : Int))] ∧ e = [some (bxsD bs), some (wsD ws), some (plD os), some (.cell S.length), some (.cell (S.length + 1)), v]) (fun R2 hR2 => ?_) ?_
    · simp only [yFor_app, iSrc_app, xVar_app, List.getElem?_cons_zero, List.getElem?_cons_succ, Res.bind_ok, plD, srcL_lst, enso_out, ens_ok]
      refine ens_fr (fun i e S' => ∃ (acc : List Rat) (dn : List Nat) (v : Option D), acc.length = i ∧ Room60 bs.length dn (os.drop i) ∧ acc ++ chs bs ws dn (os.drop i) = chs bs ws (List.replicate bs.length 0) os ∧ S' = S ++ [.lst (acc.map fr), .lst (dn.map fun (m : Nat) => D.int (m : Int))] ∧ e = [some (bxsD bs), some (wsD ws), some (plD os), some (.cell S.length), some (.cell (S.length + 1)), v]) ⟨[], List.replicate bs.length 0, none, rfl, hr, rfl, rfl, rfl⟩ ?_ ?_
      · rintro i d e S' R3 hd ⟨acc, dn, v, ha, hq, hc, rfl, rfl⟩ hR3
        rw [List.getElem?_map] at hd
        have hi : i < os.length := by
          by_cases q : i < os.length
          · exact q
          · rw [List.getElem?_eq_none (by omega)] at hd; cases hd
        rw [List.getElem?_eq_getElem hi] at hd
        cases hd
        rw [List.drop_eq_getElem_cons hi] at hq hc
        obtain ⟨hk, h59, hq2⟩ := hq.step
        have hz := hb bs[os[i]] (List.getElem_mem _)
        have dl := hq.1
        generalize os[i] = k at *
        have i1 : ∀ S', dIx (bxsD bs) (.int (k : Int)) S' = .ok (bxD bs[k]) S' := fun S' => by have := bx_ix hk S'; rwa [Int.zero_add] at this
        have i2 : ∀ S', dIx (wsD ws) (.int (k : Int)) S' = .ok (.int (ws.getD k 0)) S' := fun S' => by
          have hk' : k < ws.length := by rw [hw.len]; exact hk
          unfold wsD
          rw [dIx_lst, atI_nat (by rw [List.getElem?_map, List.getElem?_eq_getElem hk']; rfl), List.getD_eq_getElem?_getD, List.getElem?_eq_getElem hk']
          rfl
        have cn : (S ++ [.lst (acc.map fr), .lst (dn.map fun (m : Nat) => D.int (m : Int))])[S.length + 1]? = some (.lst (dn.map fun (m : Nat) => D.int (m : Int))) := app_at1 rfl
        have i3 := cell_nat cn (k := k) (by omega)
        have sm : ∀ S', bSum [wsD ws] S' = .ok (.int ws.sum) S' := fun S' => bSum_ok ws S'
        have rr : ∀ S', F_ratio [.int (ws.getD k 0), .int ws.sum] S' = .ok (fr (((ws.getD k 0 : Int) : Rat) / ((ws.sum : Int) : Rat))) S' := fun S' => ratio_r _ _ 110 S' (by omega) (sz_of (B := 6000000000000000000000000000001) (by omega) (by omega) (by decide)) (by decide)
        have tm : ∀ S', F_times [fr (((ws.getD k 0 : Int) : Rat) / ((ws.sum : Int) : Rat)), fr (eta bs[k] * mu bs[k] ^ dn.getD k 0)] S' = .ok (fr (ch bs ws dn k)) S' := fun S' => by
          rw [times_r (w_fs hw h6 hk) (em_fs hz (by omega)) (by decide)]
          unfold ch
          rw [bxAt_get hk]
        have c0 : (S ++ [.lst (acc.map fr), .lst (dn.map fun (m : Nat) => D.int (m : Int))])[S.length]? = some (.lst (acc.map fr)) := app_at0 rfl
        have al : acc.length < 16000000 := by omega
        have at1 : L2.atI (dn.map fun (m : Nat) => D.int (m : Int)) (k : Int) = some (.int (dn.getD k 0 : Nat)) := by
          rw [atI_nat (by rw [List.getElem?_map, List.getElem?_eq_getElem (show k < dn.length by omega)]; rfl), List.getD_eq_getElem?_getD, List.getElem?_eq_getElem (show k < dn.length by omega)]
          rfl
        have ixk : ixN dn.length (k : Int) = some k := by
          unfold ixN
          rw [if_pos (by omega)]
          simp; omega
        simp only [gN_app, enso_nx, List.set_cons_succ, List.set_cons_zero, ySeq_app, yExpr_app, xMt_app, xVar_app, xFn_app, xCons_app, xNil_app, xOp_app, List.getElem?_cons_zero, List.getElem?_cons_succ, Res.bind_ok, i1, i2, i3, sm, rr, tm, mark_r hz (dn.getD k 0) (by omega)]
        simp only [isT, c0, beq_self_eq_true, if_true, mAppend, cellL, List.length_map, if_pos al, Res.bind_ok, Res.out_ok, Out.seq_nx, app_set0]
        have cn2 : (S ++ [.lst (acc.map fr ++ [fr (ch bs ws dn k)]), .lst (dn.map fun (m : Nat) => D.int (m : Int))])[S.length + 1]? = some (.lst (dn.map fun (m : Nat) => D.int (m : Int))) := app_at1 rfl
        unfold yAugSub
        simp only [xVar_app, xC_app, List.getElem?_cons_zero, List.getElem?_cons_succ, Res.out_ok, getL, cn2, at1, if_pos (show (0 : Int) ≤ (k : Int) by omega), ipAdd_ok, setL, List.length_map, ixk, app_set1, enso_nx]
        refine hR3 _ _ ⟨acc ++ [ch bs ws dn k], bump dn k, _, by simp [ha], hq2, by rw [← hc, chs]; simp, ?_, rfl⟩
        rw [bump_map]
        simp
      · rintro e S' ⟨acc, dn, v, ha, hq, hc, rfl, rfl⟩
        rw [List.length_map, List.drop_length, chs, List.append_nil] at hc
        subst hc
        exact hR2 _ _ ⟨dn, v, rfl, rfl⟩
    rintro e S' ⟨dn, v, rfl, rfl⟩
    simp [frzE, frz, app_at0, app_set0]
    exact hR _ _ ⟨dn, v, rfl, rfl⟩
  rintro e S' ⟨dn, v, rfl, rfl⟩
  simp
  rw [fin_cut rfl hS (by
    rw [D.under]
    exact underL_of fun d hd => by
      obtain ⟨z, _, rfl⟩ := List.mem_map.mp hd
      rfl), ens_ok]
  exact ⟨rfl, rfl⟩
/-! ### what is awaited -/
def aw : List (Int × Rat) → Rat → Rat → Rat
  | [], _, t => t
  | (c, p) :: l, f, t => aw l (f - p) (t + c * f)
def awL (bs : List Bx) (ws : List Int) (os : List Nat) : List (Int × Rat) := (os.map fun k => (bxAt bs k).1).zip (chs bs ws (List.replicate bs.length 0) os)
def awd (bs : List Bx) (ws : List Int) (os : List Nat) : Rat := aw (awL bs ws os) 1 0
theorem awL_length (bs : List Bx) (ws : List Int) (os : List Nat) : (awL bs ws os).length = os.length := by
  unfold awL
  rw [List.length_zip, chs_length, List.length_map]
  omega
theorem awL_get {bs : List Bx} {ws : List Int} {os : List Nat} {i : Nat} (hi : i < os.length) : (awL bs ws os)[i]'(by rw [awL_length]; exact hi) = ((bxAt bs os[i]).1, (chs bs ws (List.replicate bs.length 0) os)[i]'(by rw [chs_length]; exact hi)) := by
  unfold awL
  simp
/-- each chance is over the common lower part -/
theorem chs_on {bs : List Bx} {ws : List Int} (hb : ∀ z ∈ bs, BxOk z) (h6 : bs.length ≤ 6) (hw : WsOk ws bs.length) : ∀ {os dn : List Nat}, Room60 bs.length dn os → ∀ x ∈ chs bs ws dn os, On (Dn bs ws) 1 x
  | [], _, _, x, hx => by simp [chs] at hx
  | k :: o, dn, hr, x, hx => by
    obtain ⟨hk, h59, hr2⟩ := hr.step
    rw [chs] at hx
    rcases List.mem_cons.mp hx with e | e
    · rw [e]; exact ch_on hb h6 hw hk (by omega)
    · exact chs_on hb h6 hw hr2 x e
structure Bw (bs : List Bx) (ws : List Int) : Prop where
  b : ∀ z ∈ bs, BxOk z
  one : 1 ≤ bs.length
  six : bs.length ≤ 6
  w : WsOk ws bs.length
theorem Bw.fs {bs : List Bx} {ws : List Int} (h : Bw bs ws) {B : Nat} {x : Rat} (hx : On (Dn bs ws) B x) (hB : B < 2 ^ 90) : Fs 2300 x := by
  have h1 := Dn_lt h.b h.six h.w
  have h2 : (2 : Nat) ^ 2200 < 2 ^ 2300 := by decide
  have h3 : B * Dn bs ws < 2 ^ 90 * 2 ^ 2200 := Nat.mul_lt_mul'' hB h1
  have h4 : (2 : Nat) ^ 90 * 2 ^ 2200 < 2 ^ 2300 := by decide
  exact hx.fs (by omega) (by omega)
theorem aw_drop {L : List (Int × Rat)} {i : Nat} (hi : i < L.length) (f t : Rat) : aw (L.drop i) f t = aw (L.drop (i + 1)) (f - L[i].2) (t + L[i].1 * f) := by
  rw [List.drop_eq_getElem_cons hi]
  rfl
structure AskOk (bs : List Bx) (ws : List Int) (ps os : List Nat) : Prop where
  bw : Bw bs ws
  bp : BpOk bs ps
  ord : OrdOk bs.length ps os
  few : os.length ≤ 1000
theorem AskOk.room {bs : List Bx} {ws : List Int} {ps os : List Nat} (h : AskOk bs ws ps os) : Room60 bs.length (List.replicate bs.length 0) os := Room60.start h.bp.len h.bp.pl h.ord
theorem awaited_ok {bs : List Bx} {ws : List Int} {ps os : List Nat} (h : AskOk bs ws ps os) (S : Store) (hS : (S.all fun c => c.under S.length) = true) : F_awaited [bxsD bs, wsD ws, plD ps, plD os] S = .ok (fr (awd bs ws os)) S := by
  have hw := h.bw
  have hr := h.room
  have hlt := h.ord.lt
  have few := h.few
  have hon := chs_on hw.b hw.six hw.w hr
  have hD := Dn_pos hw.b hw.six hw.w
  have e1 := must_be_asked_ok h.bp hw.w
  have e2 := must_be_order_ok h.bp h.ord
  have e3 := chances_ok hw.b hw.six hw.w hr few S hS
  have cl := chs_length bs ws os (List.replicate bs.length 0)
  have lo : bLen [plD os] S = .ok (.int os.length) S := by unfold plD; simp
  rw [← ens_eq]
  refine ens_fn rfl ?_
  unfold b_awaited
  simp only [List.map_cons, List.map_nil, List.replicate, List.cons_append, List.nil_append]
  refine ens_sq (fun e S' => S' = S ∧ e = [some (bxsD bs), some (wsD ws), some (plD ps), some (plD os), none, none, none, none]) (fun R hR => ?_) ?_
  · simp [e1]
    exact hR _ _ ⟨rfl, rfl⟩
  rintro e S' ⟨rfl, rfl⟩
  refine ens_sq (fun e S2 => S2 = S' ∧ e = [some (bxsD bs), some (wsD ws), some (plD ps), some (plD os), none, none, none, none]) (fun R hR => ?_) ?_
  · simp [e2]
    exact hR _ _ ⟨rfl, rfl⟩
  rintro e S ⟨rfl, rfl⟩
  refine ens_sq (fun e S2 => S2 = S ∧ e = [some (bxsD bs), some (wsD ws), some (plD ps), some (plD os), some (fr 1), none, none, none]) (fun R hR => ?_) ?_
  · simp
    exact hR _ _ ⟨rfl, rfl⟩
  rintro e S2 ⟨rfl, rfl⟩
  refine ens_sq (fun e S3 => S3 = S2 ∧ e = [some (bxsD bs), some (wsD ws), some (plD ps), some (plD os), some (fr 1), some (fr 0), none, none]) (fun R hR => ?_) ?_
  · simp
    exact hR _ _ ⟨rfl, rfl⟩
  rintro e S3 ⟨rfl, rfl⟩
  generalize hcs : chs bs ws (List.replicate bs.length 0) os = cs at *
  refine ens_sq (fun e S2 => S2 = S3 ∧ e = [some (bxsD bs), some (wsD ws), some (plD ps), some (plD os), some (fr 1), some (fr 0), some (.lst (cs.map fr)), none]) (fun R hR => ?_) ?_
  · simp [e3]
    exact hR _ _ ⟨rfl, rfl⟩
  rintro e S ⟨rfl, rfl⟩
  refine ens_sq (fun e S2 => S2 = S ∧ ∃ (f : Rat) (v : Option D), e = [some (bxsD bs), some (wsD ws), some (plD ps), some (plD os), some (fr f), some (fr (awd bs ws os)), some (.lst (cs.map fr)), v]) (fun R hR => ?_) ?_
  · simp only [yFor_app, iSrcA_app, xCons_app, xFn_app, xNil_app, xVar_app, List.getElem?_cons_zero, List.getElem?_cons_succ, Res.bind_ok, lo, enso_out, ens_srcR1]
    refine ⟨rng62_of (by omega) (by omega), ?_⟩
    rw [Int.toNat_natCast]
    refine ens_fr (fun i e S2 => S2 = S ∧ ∃ (f t : Rat) (v : Option D), On (Dn bs ws) (1 + i) f ∧ On (Dn bs ws) (i * 100000) t ∧ aw ((awL bs ws os).drop i) f t = awd bs ws os ∧ e = [some (bxsD bs), some (wsD ws), some (plD ps), some (plD os), some (fr f), some (fr t), some (.lst (cs.map fr)), v]) ⟨rfl, 1, 0, none, On.one hD, by rw [Nat.zero_mul]; exact On.zero hD, rfl, rfl⟩ ?_ ?_
    · rintro i d e S2 R2 hd ⟨rfl, f, t, v, hf, ht, ha, rfl⟩ hR2
      obtain ⟨rfl, hi⟩ := irange_get hd
      have hk := hlt os[i] (List.getElem_mem _)
      have hz := hw.b bs[os[i]] (List.getElem_mem _)
      have ic : i < cs.length := by omega
      have ag := awL_get (bs := bs) (ws := ws) hi
      simp only [hcs] at ag
      rw [aw_drop (by rw [awL_length]; exact hi), ag, bxAt_get hk] at ha
      dsimp only at ha
      have i1 : dIx (plD os) (.int (0 + (i : Int))) S2 = .ok (.int os[i]) S2 := pl_ix hi S2
      have i2 : dIx (bxsD bs) (.int (os[i] : Int)) S2 = .ok (bxD bs[os[i]]) S2 := by have := bx_ix hk S2; rwa [Int.zero_add] at this
      have i3 : dIx (bxD bs[os[i]]) (.int 0) S2 = .ok (.int bs[os[i]].1) S2 := by unfold bxD; simp
      have i4 : dIx (.lst (cs.map fr)) (.int (0 + (i : Int))) S2 = .ok (fr cs[i]) S2 := by
        rw [Int.zero_add, dIx_lst, atI_nat (by rw [List.getElem?_map, List.getElem?_eq_getElem ic]; rfl)]
      have hc1 := hz.c1
      have hc2 := hz.c2
      have ff := hw.fs hf (by omega)
      have fc : Fs 2300 ((bs[os[i]].1 : Int) : Rat) := int_fs (Nat.lt_of_lt_of_le (m := 2 ^ 6) (by omega) (Nat.pow_le_pow_right (by decide) (by decide))) (by decide)
      have hcf : On (Dn bs ws) 100000 ((bs[os[i]].1 : Rat) * f) := (hf.times bs[os[i]].1).mono (by
        have : bs[os[i]].1.natAbs * (1 + i) ≤ 60 * 1001 := Nat.mul_le_mul (by omega) (by omega)
        omega)
      have ht2 : On (Dn bs ws) ((i + 1) * 100000) (t + (bs[os[i]].1 : Rat) * f) := (ht.add hcf).mono (by omega)
      have o1 := hon cs[i] (List.getElem_mem _)
      have hf2 : On (Dn bs ws) (1 + (i + 1)) (f - cs[i]) := (hf.sub o1).mono (by omega)
      have p1 := times_r fc ff (by decide) S2
      have p2 := plus_r (hw.fs ht (by omega)) (hw.fs hcf (by decide)) (by decide) S2
      have p3 := minus_r ff (hw.fs o1 (by decide)) (by decide) S2
      simp only [gN_app, enso_nx, List.set_cons_succ, List.set_cons_zero, ySeq_app, ySet_app, xFn_app, xCons_app, xNil_app, xTup_app, xOp_app, xC_app, xVar_app, List.getElem?_cons_zero, List.getElem?_cons_succ, Res.bind_ok, i1, i2, i3, List.length_cons, List.length_nil]
      rw [if_pos (by decide)]
      simp only [Res.bind_ok, fr_int, p1, p2, Res.out_ok, Out.seq_nx, List.set_cons_succ, List.set_cons_zero, ySet_app, xFn_app, xCons_app, xNil_app, xOp_app, xVar_app, List.getElem?_cons_zero, List.getElem?_cons_succ, i4, p3, enso_nx]
      exact hR2 _ _ ⟨rfl, _, _, _, hf2, ht2, ha, rfl⟩
    · rintro e S2 ⟨rfl, f, t, v, hf, ht, ha, rfl⟩
      rw [irange_length, List.drop_eq_nil_of_le (by rw [awL_length]; exact Nat.le_refl _), aw] at ha
      subst ha
      exact hR _ _ ⟨rfl, f, v, rfl⟩
  rintro e S2 ⟨rfl, f, v, rfl⟩
  simp
/-! ### sorted or not -/
theorem lc_filt {α : Type} {g : D → Dv.Env → Option Dv.Env} {c : Dv.Env → M Bool} {f : Dv.Env → M D} {e0 : Dv.Env} {S : Store} (emb ψ : α → D) (p : α → Bool) : ∀ (items : List α) (acc : List D), (∀ a ∈ items, ∃ e1, g (emb a) e0 = some e1 ∧ c e1 S = .ok (p a) S ∧ f e1 S = .ok (ψ a) S) → acc.length + items.length ≤ 16000000 → lcL (fun _ => True) g c f e0 (items.map emb) acc S = .ok (acc ++ (items.filter p).map ψ) S
  | [], acc, _, _ => by rw [List.map_nil, lcL, if_pos trivial]; simp
  | a :: items, acc, h, hl => by
    obtain ⟨e1, h1, h2, h3⟩ := h a (by simp)
    rw [List.length_cons] at hl
    rw [List.map_cons, lcL, if_pos trivial]
    simp only [h1, h2]
    cases hp : p a with
    | true =>
      simp only [h3]
      rw [if_pos (by omega), lc_filt emb ψ p items _ (fun x hx => h x (by simp [hx])) (by rw [List.length_append, List.length_singleton]; omega), List.filter_cons_of_pos hp]
      simp
    | false =>
      simp only
      rw [lc_filt emb ψ p items _ (fun x hx => h x (by simp [hx])) (by omega), List.filter_cons_of_neg (by simp [hp])]
def lkAt (L : List (Int × Rat)) (i : Nat) : Int × Rat := L.getD i (0, 0)
def noLess (L : List (Int × Rat)) (i : Nat) : Bool := decide ((lkAt L (i + 1)).2 * ((lkAt L i).1 : Rat) ≤ (lkAt L i).2 * ((lkAt L (i + 1)).1 : Rat))
def iss (L : List (Int × Rat)) : Bool := (List.range (L.length - 1)).all (noLess L)
theorem lkAt_aw {bs : List Bx} {ws : List Int} {os : List Nat} {i : Nat} (hi : i < os.length) : lkAt (awL bs ws os) i = ((bxAt bs os[i]).1, (chs bs ws (List.replicate bs.length 0) os)[i]'(by rw [chs_length]; exact hi)) := by
  unfold lkAt
  rw [List.getD_eq_getElem?_getD, List.getElem?_eq_getElem (by rw [awL_length]; exact hi), awL_get hi]
  rfl
def lookD (p : Rat) (k : Nat) : D := .tup [fr p, .int (k : Int)]
theorem ahead_ok {bs : List Bx} {ws : List Int} (hw : Bw bs ws) {p q : Rat} {k j : Nat} (hk : k < bs.length) (hj : j < bs.length) (hp : On (Dn bs ws) 1 p) (hq : On (Dn bs ws) 1 q) (S : Store) : F_ahead [bxsD bs, lookD p k, lookD q j] S = .ok (.bl (decide (q * (bs[k].1 : Rat) ≤ p * (bs[j].1 : Rat)))) S := by
  have zk := hw.b bs[k] (List.getElem_mem _)
  have zj := hw.b bs[j] (List.getElem_mem _)
  have i1 : ∀ S, dIx (bxsD bs) (.int (k : Int)) S = .ok (bxD bs[k]) S := fun S => by have := bx_ix hk S; rwa [Int.zero_add] at this
  have i2 : ∀ S, dIx (bxsD bs) (.int (j : Int)) S = .ok (bxD bs[j]) S := fun S => by have := bx_ix hj S; rwa [Int.zero_add] at this
  have i3 : ∀ z S, dIx (bxD z) (.int 0) S = .ok (.int z.1) S := fun z S => by unfold bxD; simp
  have ck1 := zk.c1
  have ck2 := zk.c2
  have cj1 := zj.c1
  have cj2 := zj.c2
  have fk : Fs 2300 ((bs[k].1 : Int) : Rat) := int_fs (Nat.lt_of_lt_of_le (m := 2 ^ 6) (by omega) (Nat.pow_le_pow_right (by decide) (by decide))) (by decide)
  have fj : Fs 2300 ((bs[j].1 : Int) : Rat) := int_fs (Nat.lt_of_lt_of_le (m := 2 ^ 6) (by omega) (Nat.pow_le_pow_right (by decide) (by decide))) (by decide)
  have o1 : On (Dn bs ws) 60 (p * (bs[j].1 : Rat)) := by rw [Rat.mul_comm]; exact (hp.times _).mono (by omega)
  have o2 : On (Dn bs ws) 60 (q * (bs[k].1 : Rat)) := by rw [Rat.mul_comm]; exact (hq.times _).mono (by omega)
  have t1 := times_r (hw.fs hp (by decide)) fj (by decide)
  have t2 := times_r (hw.fs hq (by decide)) fk (by decide)
  have bl := below_r (hw.fs o1 (by decide)) (hw.fs o2 (by decide)) (by decide)
  rw [← ens_eq]
  refine ens_fn rfl ?_
  unfold b_ahead lookD
  simp only [List.map_cons, List.map_nil, List.replicate, List.cons_append, List.nil_append]
  simp only [ySeq_app, ySet_app, xFn_app, xCons_app, xNil_app, xOp_app, xTup_app, xC_app, xVar_app, List.getElem?_cons_zero, List.getElem?_cons_succ, Res.bind_ok, dIx_tup, atI_zero, atI_one, i1, i2, i3, List.length_cons, List.length_nil, if_pos (show 0 + 1 + 1 ≤ 1000 by decide), fr_int, t1, t2, Res.out_ok, Out.seq_nx, List.set_cons_succ, List.set_cons_zero, yRet_app, xNotV_app, bl]
  simp
  by_cases hh : q * (bs[k].1 : Rat) ≤ p * (bs[j].1 : Rat)
  · simp [hh, Rat.not_lt.mpr hh]
  · simp [hh, Rat.not_le.mp hh]
theorem is_sorted_ok {bs : List Bx} {ws : List Int} {ps os : List Nat} (h : AskOk bs ws ps os) (S : Store) (hS : (S.all fun c => c.under S.length) = true) : F_is_sorted [bxsD bs, wsD ws, plD ps, plD os] S = .ok (.bl (iss (awL bs ws os))) S := by
  have hw := h.bw
  have hr := h.room
  have hlt := h.ord.lt
  have few := h.few
  have hon := chs_on hw.b hw.six hw.w hr
  have e1 := must_be_asked_ok h.bp hw.w
  have e2 := must_be_order_ok h.bp h.ord
  have e3 := chances_ok hw.b hw.six hw.w hr few S hS
  have cl := chs_length bs ws os (List.replicate bs.length 0)
  have la := fun (i : Nat) (hi : i < os.length) => lkAt_aw (bs := bs) (ws := ws) hi
  have al := awL_length bs ws os
  have lo : ∀ S, bLen [plD os] S = .ok (.int os.length) S := fun S => by unfold plD; simp
  generalize hcs : chs bs ws (List.replicate bs.length 0) os = cs at hon e3
  have cl2 : cs.length = os.length := by rw [← hcs]; exact cl
  have la2 : ∀ (i : Nat) (hi : i < os.length), lkAt (awL bs ws os) i = ((bs[os[i]]'(hlt _ (List.getElem_mem _))).1, cs[i]'(by omega)) := fun i hi => by
    rw [la i hi, bxAt_get (hlt _ (List.getElem_mem _))]
    congr 1
    simp only [hcs]
  clear la
  rw [← ens_eq]
  refine ens_fn rfl ?_
  unfold b_is_sorted
  simp only [List.map_cons, List.map_nil, List.replicate, List.cons_append, List.nil_append]
  refine ens_sq (fun e S' => S' = S ∧ e = [some (bxsD bs), some (wsD ws), some (plD ps), some (plD os), none, none, none]) (fun R hR => ?_) ?_
  · simp [e1]
    exact hR _ _ ⟨rfl, rfl⟩
  rintro e S' ⟨rfl, rfl⟩
  refine ens_sq (fun e S2 => S2 = S' ∧ e = [some (bxsD bs), some (wsD ws), some (plD ps), some (plD os), none, none, none]) (fun R hR => ?_) ?_
  · simp [e2]
    exact hR _ _ ⟨rfl, rfl⟩
  rintro e S ⟨rfl, rfl⟩
  refine ens_sq (fun e S2 => S2 = S ∧ e = [some (bxsD bs), some (wsD ws), some (plD ps), some (plD os), some (.lst (cs.map fr)), none, none]) (fun R hR => ?_) ?_
  · simp [e3]
    exact hR _ _ ⟨rfl, rfl⟩
  rintro e S ⟨rfl, rfl⟩
  have ic : ∀ (i : Nat) (hi : i < os.length) S, dIx (.lst (cs.map fr)) (.int (i : Int)) S = .ok (fr (cs[i]'(by omega))) S := fun i hi S => by
    rw [dIx_lst, atI_nat (by rw [List.getElem?_map, List.getElem?_eq_getElem (by omega)]; rfl)]
  have io : ∀ (i : Nat) (hi : i < os.length) S, dIx (plD os) (.int (i : Int)) S = .ok (.int os[i]) S := fun i hi S => by have := pl_ix hi S; rwa [Int.zero_add] at this
  have zl : (cs.zip os).length = os.length := by rw [List.length_zip]; omega
  refine ens_sq (fun e S2 => S2 = S ∧ e = [some (bxsD bs), some (wsD ws), some (plD ps), some (plD os), some (.lst (cs.map fr)), some (.lst ((cs.zip os).map fun z => lookD z.1 z.2)), none]) (fun R hR => ?_) ?_
  · have hc : lcL (fun _ => True) (eN 6) cYes (xTup (xCons (xOp dIx (xVar 4) (xVar 6)) (xCons (xOp dIx (xVar 3) (xVar 6)) xNil))) [some (bxsD bs), some (wsD ws), some (plD ps), some (plD os), some (.lst (cs.map fr)), none, none] (irange 0 (cs.zip os).length) [] S = .ok ([] ++ (cs.zip os).map fun z => lookD z.1 z.2) S := by
      refine lc_rng (fun z : Rat × Nat => lookD z.1 z.2) (cs.zip os) 0 [] (fun i hi => ⟨_, rfl, ?_⟩) (by simp; omega)
      have hi2 : i < os.length := by omega
      simp only [Int.zero_add, List.set_cons_succ, List.set_cons_zero, xTup_app, xCons_app, xNil_app, xOp_app, xVar_app, List.getElem?_cons_zero, List.getElem?_cons_succ, Res.bind_ok, ic i hi2, io i hi2, List.length_cons, List.length_nil, if_pos (show 0 + 1 + 1 ≤ 1000 by decide), List.getElem_zip]
      rfl
    rw [zl, List.nil_append] at hc
    simp [lo, hc]
    exact ⟨rng62_of (by omega) (by omega), hR _ _ ⟨rfl, rfl⟩⟩
  rintro e S ⟨rfl, rfl⟩
  have il : ∀ (i : Nat) (hi : i < os.length) S, dIx (.lst ((cs.zip os).map fun z => lookD z.1 z.2)) (.int (i : Int)) S = .ok (lookD (cs[i]'(by omega)) os[i]) S := fun i hi S => by
    rw [dIx_lst, atI_nat (by rw [List.getElem?_map, List.getElem?_eq_getElem (by omega), List.getElem_zip]; rfl)]
  have ah : ∀ (i : Nat) (hi : i + 1 < os.length) S, F_ahead [bxsD bs, lookD (cs[i]'(by omega)) os[i], lookD (cs[i + 1]'(by omega)) os[i + 1]] S = .ok (.bl (noLess (awL bs ws os) i)) S := fun i hi S => by
    rw [ahead_ok hw (hlt _ (List.getElem_mem _)) (hlt _ (List.getElem_mem _)) (hon _ (List.getElem_mem _)) (hon _ (List.getElem_mem _))]
    unfold noLess
    rw [la2 i (by omega), la2 (i + 1) hi]
  have hc : lcL (fun _ => True) (eN 6) (xNot (xTru (xFn F_ahead (xCons (xVar 0) (xCons (xOp dIx (xVar 5) (xOp dSub (xVar 6) (xC (.int 1)))) (xCons (xOp dIx (xVar 5) (xVar 6)) xNil)))))) (xVar 6) [some (bxsD bs), some (wsD ws), some (plD ps), some (plD os), some (.lst (cs.map fr)), some (.lst ((cs.zip os).map fun z => lookD z.1 z.2)), none] ((List.range (os.length - 1)).map fun (i : Nat) => D.int (1 + (i : Int))) [] S = .ok ([] ++ ((List.range (os.length - 1)).filter fun i => !noLess (awL bs ws os) i).map fun (i : Nat) => D.int (1 + (i : Int))) S := by
    refine lc_filt (fun (i : Nat) => D.int (1 + (i : Int))) (fun (i : Nat) => D.int (1 + (i : Int))) _ _ [] (fun i hi => ⟨_, rfl, ?_⟩) (by simp; omega)
    have hi2 : i + 1 < os.length := by have := List.mem_range.mp hi; omega
    have e1 : (1 : Int) + (i : Int) = ((i + 1 : Nat) : Int) := by omega
    have e2 : (1 : Int) + (i : Int) - 1 = (i : Int) := by omega
    simp only [List.set_cons_succ, List.set_cons_zero, xNot_app, xTru_app, xFn_app, xCons_app, xNil_app, xOp_app, xC_app, xVar_app, List.getElem?_cons_zero, List.getElem?_cons_succ, Res.bind_ok, dSub_ok, e2, il i (by omega), ah i hi2, tru_bl]
    rw [e1]
    simp only [il (i + 1) hi2, Res.bind_ok, ah i hi2, tru_bl, true_and, and_self]
  have src : Ens (srcR2 [.int 1, .int (os.length : Int)] S) fun s S' => s = ⟨(List.range (os.length - 1)).map fun (i : Nat) => D.int (1 + (i : Int)), fun _ => True⟩ ∧ S' = S := by
    rw [ens_srcR2]
    refine ⟨⟨rng62_of (by decide) (by decide), rng62_of (by omega) (by omega)⟩, ?_, rfl⟩
    unfold irange
    rw [show ((os.length : Int) - 1).toNat = os.length - 1 by omega]
  obtain ⟨s, S2, es, rfl, rfl⟩ := src.get
  simp only [yRet_app, xOp_app, xFn_app, xCons_app, xNil_app, xLc_app, iSrcA_app, xC_app, xVar_app, List.getElem?_cons_zero, List.getElem?_cons_succ, Res.bind_ok, bLen_lst, List.length_map, zl, es, wipeE_cons, wipeE_nil, List.set_cons_succ, List.set_cons_zero, hc, mkF_app, List.nil_append, dEq_int, Res.out_ok, enso_rt, fin_same, ens_ok]
  refine ⟨?_, trivial⟩
  congr 1
  unfold iss
  rw [al, Bool.eq_iff_iff, decide_eq_true_iff, List.all_eq_true]
  constructor
  · intro z i hi
    by_cases q : noLess (awL bs ws os) i = true
    · exact q
    · have m : i ∈ (List.range (os.length - 1)).filter fun i => !noLess (awL bs ws os) i := List.mem_filter.mpr ⟨hi, by simpa using q⟩
      have l0 : ((List.range (os.length - 1)).filter fun i => !noLess (awL bs ws os) i).length = 0 := by omega
      rw [List.length_eq_zero_iff] at l0
      rw [l0] at m
      cases m
  · intro z
    have : (List.range (os.length - 1)).filter (fun i => !noLess (awL bs ws os) i) = [] := List.filter_eq_nil_iff.mpr fun i hi => by simp [z i hi]
    rw [this]
    rfl
/-! ### the law's own sorted order -/
/-- a look's chance over its cost -/
def rr (bs : List Bx) (ws : List Int) (dn : List Nat) (k : Nat) : Rat := ch bs ws dn k / ((bxAt bs k).1 : Rat)
/-- an order that takes a look that is worth most each time -/
def Gr (bs : List Bx) (ws : List Int) (ps : List Nat) : List Nat → List Nat → Prop
  | _, [] => True
  | dn, k :: o => k < bs.length ∧ dn.getD k 0 < ps.getD k 0 ∧ (∀ j < bs.length, dn.getD j 0 < ps.getD j 0 → rr bs ws dn j ≤ rr bs ws dn k) ∧ Gr bs ws ps (bump dn k) o
def lfI (ps dn : List Nat) : List Int := (ps.zip dn).map fun z => (z.1 : Int) - (z.2 : Int)
theorem lfI_length {ps dn : List Nat} (h : ps.length = dn.length) : (lfI ps dn).length = ps.length := by unfold lfI; rw [List.length_map, List.length_zip]; omega
theorem lfI_get {ps dn : List Nat} (h : ps.length = dn.length) {j : Nat} (hj : j < ps.length) : (lfI ps dn)[j]? = some ((ps.getD j 0 : Int) - (dn.getD j 0 : Int)) := by
  unfold lfI
  have hd : j < dn.length := by omega
  rw [List.getElem?_map, List.getElem?_eq_getElem (by rw [List.length_zip]; omega), List.getElem_zip, List.getD_eq_getElem?_getD, List.getD_eq_getElem?_getD, List.getElem?_eq_getElem hj, List.getElem?_eq_getElem hd]
  rfl
theorem lfI_bump {ps dn : List Nat} (h : ps.length = dn.length) {k : Nat} (hk : k < ps.length) : lfI ps (bump dn k) = (lfI ps dn).set k ((ps.getD k 0 : Int) - (dn.getD k 0 : Int) - 1) := by
  apply List.ext_getElem?
  intro j
  by_cases hj : j < ps.length
  · rw [lfI_get (by rw [bump_length]; exact h) hj, List.getElem?_set, bump_get (by omega)]
    by_cases q : k = j
    · subst q
      simp only [if_true, lfI_length h, if_pos hk]
      congr 1
      omega
    · rw [if_neg q, if_neg (fun z => q z.symm), lfI_get h hj, Nat.add_zero]
  · rw [List.getElem?_eq_none (by rw [lfI_length (by rw [bump_length]; exact h)]; omega), List.getElem?_eq_none (by rw [List.length_set, lfI_length h]; omega)]
theorem sum_set {l : List Int} {k : Nat} {x : Int} (hk : k < l.length) : (l.set k x).sum = l.sum - l[k] + x := by
  induction l generalizing k with
  | nil => simp at hk
  | cons a l ih =>
    cases k with
    | zero => simp; omega
    | succ k =>
      have := ih (k := k) (by simpa using hk)
      simp only [List.set_cons_succ, List.sum_cons, List.getElem_cons_succ]
      omega
theorem lfI_sum {ps dn : List Nat} (h : ps.length = dn.length) {k : Nat} (hk : k < ps.length) : (lfI ps (bump dn k)).sum = (lfI ps dn).sum - 1 := by
  have hk2 : k < (lfI ps dn).length := by rw [lfI_length h]; exact hk
  have e : (lfI ps dn)[k] = (ps.getD k 0 : Int) - (dn.getD k 0 : Int) := by
    have := lfI_get h hk
    rw [List.getElem?_eq_getElem hk2] at this
    exact Option.some.inj this
  rw [lfI_bump h hk, sum_set hk2, e]
  omega
/-- the best looks among those of the boxes below i -/
structure Bst (bs : List Bx) (ws : List Int) (ps dn : List Nat) (i : Nat) (ks : List Nat) : Prop where
  inn : ∀ k ∈ ks, k < i ∧ dn.getD k 0 < ps.getD k 0
  top : ∀ k ∈ ks, ∀ j < i, dn.getD j 0 < ps.getD j 0 → rr bs ws dn j ≤ rr bs ws dn k
  ne : (∃ j < i, dn.getD j 0 < ps.getD j 0) → ks ≠ []
  few : ks.length ≤ i
theorem Bst.skip {bs : List Bx} {ws : List Int} {ps dn : List Nat} {i : Nat} {ks : List Nat} (h : Bst bs ws ps dn i ks) (hn : ¬ dn.getD i 0 < ps.getD i 0) : Bst bs ws ps dn (i + 1) ks := by
  refine ⟨fun k hk => ⟨by have := (h.inn k hk).1; omega, (h.inn k hk).2⟩, fun k hk j hj hd => ?_, fun ⟨j, hj, hd⟩ => h.ne ⟨j, ?_, hd⟩, by have := h.few; omega⟩
  · rcases Nat.lt_or_ge j i with q | q
    · exact h.top k hk j q hd
    · have : j = i := by omega
      subst this
      exact absurd hd hn
  · rcases Nat.lt_or_ge j i with q | q
    · exact q
    · have : j = i := by omega
      subst this
      exact absurd hd hn
theorem Bst.new {bs : List Bx} {ws : List Int} {ps dn : List Nat} {i : Nat} {ks : List Nat} (h : Bst bs ws ps dn i ks) (hi : dn.getD i 0 < ps.getD i 0) (hg : ks = [] ∨ ∃ k ∈ ks, rr bs ws dn k ≤ rr bs ws dn i) : Bst bs ws ps dn (i + 1) [i] := by
  refine ⟨fun k hk => ?_, fun k hk j hj hd => ?_, fun _ => by simp, by simp⟩
  · rw [List.mem_singleton.mp hk]; exact ⟨by omega, hi⟩
  · rw [List.mem_singleton.mp hk]
    rcases Nat.lt_or_ge j i with q | q
    · rcases hg with g | ⟨k, hk2, g⟩
      · exact absurd g (h.ne ⟨j, q, hd⟩)
      · exact Rat.le_trans (h.top k hk2 j q hd) g
    · have : j = i := by omega
      subst this
      exact Rat.le_refl
theorem Bst.more {bs : List Bx} {ws : List Int} {ps dn : List Nat} {i : Nat} {ks : List Nat} (h : Bst bs ws ps dn i ks) (hi : dn.getD i 0 < ps.getD i 0) (hg : ∃ k ∈ ks, rr bs ws dn k = rr bs ws dn i) : Bst bs ws ps dn (i + 1) (ks ++ [i]) := by
  obtain ⟨k0, hk0, g⟩ := hg
  refine ⟨fun k hk => ?_, fun k hk j hj hd => ?_, fun _ => by simp, by have := h.few; simp; omega⟩
  · rcases List.mem_append.mp hk with q | q
    · exact ⟨by have := (h.inn k q).1; omega, (h.inn k q).2⟩
    · rw [List.mem_singleton.mp q]; exact ⟨by omega, hi⟩
  · have hk2 : rr bs ws dn k0 ≤ rr bs ws dn k := by
      rcases List.mem_append.mp hk with q | q
      · exact h.top k q k0 (h.inn k0 hk0).1 (h.inn k0 hk0).2
      · rw [List.mem_singleton.mp q, g]; exact Rat.le_refl
    refine Rat.le_trans ?_ hk2
    rcases Nat.lt_or_ge j i with q | q
    · exact h.top k0 hk0 j q hd
    · have : j = i := by omega
      subst this
      rw [g]; exact Rat.le_refl
theorem Bst.less {bs : List Bx} {ws : List Int} {ps dn : List Nat} {i : Nat} {ks : List Nat} (h : Bst bs ws ps dn i ks) (hg : ∃ k ∈ ks, rr bs ws dn i ≤ rr bs ws dn k) : Bst bs ws ps dn (i + 1) ks := by
  obtain ⟨k0, hk0, g⟩ := hg
  refine ⟨fun k hk => ⟨by have := (h.inn k hk).1; omega, (h.inn k hk).2⟩, fun k hk j hj hd => ?_, fun _ => by intro z; subst z; simp at hk0, by have := h.few; omega⟩
  rcases Nat.lt_or_ge j i with q | q
  · exact h.top k hk j q hd
  · have : j = i := by omega
    subst this
    exact Rat.le_trans g (h.top k hk k0 (h.inn k0 hk0).1 (h.inn k0 hk0).2)
def GrI (bs : List Bx) (ws : List Int) (ps dn fd : List Nat) : Prop :=
  dn.length = bs.length ∧ (∀ j < bs.length, dn.getD j 0 ≤ ps.getD j 0) ∧ (∀ k ∈ fd, k < bs.length) ∧ (∀ j < bs.length, fd.count j = dn.getD j 0) ∧ ((fd.length : Int) = (ps.map fun (m : Nat) => (m : Int)).sum - (lfI ps dn).sum) ∧ (∀ o, Gr bs ws ps dn o → Gr bs ws ps (List.replicate bs.length 0) (fd ++ o))
theorem rep0_get {n j : Nat} : (List.replicate n 0).getD j 0 = 0 := by
  rw [List.getD_eq_getElem?_getD, List.getElem?_replicate]
  split <;> rfl
theorem lfI_zero {ps : List Nat} {n : Nat} (h : ps.length = n) : lfI ps (List.replicate n 0) = ps.map fun (m : Nat) => (m : Int) := by
  apply List.ext_getElem?
  intro j
  by_cases hj : j < ps.length
  · rw [lfI_get (by simpa using h) hj, rep0_get, List.getElem?_map, List.getElem?_eq_getElem hj, List.getD_eq_getElem?_getD, List.getElem?_eq_getElem hj]
    simp
  · rw [List.getElem?_eq_none (by rw [lfI_length (by simpa using h)]; omega), List.getElem?_eq_none (by simp; omega)]
theorem lfI_nonneg {ps dn : List Nat} (h : ps.length = dn.length) (hd : ∀ j < ps.length, dn.getD j 0 ≤ ps.getD j 0) : ∀ x ∈ lfI ps dn, 0 ≤ x := fun x hx => by
  obtain ⟨j, hj, rfl⟩ := List.getElem_of_mem hx
  rw [lfI_length h] at hj
  have := lfI_get h hj
  rw [List.getElem?_eq_getElem (by rw [lfI_length h]; exact hj)] at this
  have e := Option.some.inj this
  have := hd j hj
  omega
theorem pos_of_sum {l : List Int} (h : ∀ x ∈ l, 0 ≤ x) (hs : 0 < l.sum) : ∃ j, ∃ hj : j < l.length, 0 < l[j] := by
  induction l with
  | nil => simp at hs
  | cons a l ih =>
    by_cases q : 0 < a
    · exact ⟨0, by simp, q⟩
    · have ha := h a (by simp)
      rw [List.sum_cons] at hs
      obtain ⟨j, hj, hp⟩ := ih (fun x hx => h x (by simp [hx])) (by omega)
      exact ⟨j + 1, by simpa using hj, by simpa using hp⟩
/-- the purse: a cell that holds the cells' cell and the turn -/
def Pu (L n m : Nat) (T : Int) (P : Store) : Prop := P.length = L ∧ (n ≠ m ∧ (P.all fun c => c.under L) = true) ∧ ∃ (t : Int) (cs : List Int), P[n]? = some (.lst [.cell m, .int t]) ∧ P[m]? = some (.lst (cs.map D.int)) ∧ cs ≠ [] ∧ 0 ≤ t ∧ t ≤ T
theorem Pu.mono {L n m : Nat} {T T' : Int} {P : Store} (h : Pu L n m T P) (hT : T ≤ T') : Pu L n m T' P := by
  obtain ⟨h1, h2, t, cs, h3, h4, h5, h6, h7⟩ := h
  exact ⟨h1, h2, t, cs, h3, h4, h5, h6, by omega⟩
theorem ixN_atI {α : Type} {l : List α} {i : Int} {z : α} (h : L2.atI l i = some z) : ∃ j, ixN l.length i = some j ∧ l[j]? = some z := by
  unfold L2.atI at h
  cases q : ixN l.length i with
  | none => rw [q] at h; cases h
  | some j => rw [q] at h; exact ⟨j, rfl, h⟩
theorem draw_ok {L n m : Nat} {T k : Int} {P R : Store} (h : Pu L n m T P) (hk : 0 < k) (hk2 : k < 1000000000000000000000000000000000000000000000000000000000000) (hT : T < 1000000000000) :
    Ens (F__law_draw [.cell n, .int k] (P ++ R)) fun d S' => ∃ (P' : Store) (r : Int), S' = P' ++ R ∧ Pu L n m (T + 1) P' ∧ d = .int r ∧ 0 ≤ r ∧ r < k := by
  obtain ⟨hL, ⟨hnm, hun⟩, t, cs, hn, hm, hcs, ht0, htT⟩ := h
  have nl : n < P.length := (List.getElem?_eq_some_iff.mp hn).1
  have ml : m < P.length := (List.getElem?_eq_some_iff.mp hm).1
  have gn : (P ++ R)[n]? = some (.lst [.cell m, .int t]) := by rw [List.getElem?_append_left nl, hn]
  have gm : (P ++ R)[m]? = some (.lst (cs.map D.int)) := by rw [List.getElem?_append_left ml, hm]
  have cl : 0 < cs.length := List.length_pos_iff.mpr hcs
  refine ens_fn rfl ?_
  unfold b__law_draw
  simp only [List.map_cons, List.map_nil, List.replicate, List.cons_append, List.nil_append]
  refine ens_seq (fun e S' => S' = P ++ R ∧ e = [some (.cell n), some (.int k), none, none, none, some (.cell m), some (.int t)]) ?_ ?_
  · simp [gL, getQ, getL, gn, gsCons, gN, gsNil, Out.seq]
  rintro e S' ⟨rfl, rfl⟩
  have hat := Int.emod_nonneg t (show (cs.length : Int) ≠ 0 by omega)
  have hat2 := Int.emod_lt_of_pos t (show (0 : Int) < cs.length by omega)
  refine ens_seq (fun e S' => S' = P ++ R ∧ e = [some (.cell n), some (.int k), some (.int (t % cs.length)), none, none, some (.cell m), some (.int t)]) ?_ ?_
  · simp [bLen, getQ, getL, gm, fmod_pos (show (0 : Int) < cs.length by omega)]
    omega
  rintro e S' ⟨rfl, rfl⟩
  obtain ⟨c, hc, _⟩ := atI_in (l := cs) hat (by omega)
  generalize t % cs.length = at' at *
  refine ens_seq (fun e S' => S' = P ++ R ∧ e = [some (.cell n), some (.int k), some (.int at'), some (.int c), none, some (.cell m), some (.int t)]) ?_ ?_
  · simp [dIx, ixd, getQ, getL, gm, atI_map, hc]
  rintro e S' ⟨rfl, rfl⟩
  refine ens_seq (fun e S' => S' = P.set n (.lst [.cell m, .int (t + 1)]) ++ R ∧ e = [some (.cell n), some (.int k), some (.int at'), some (.int c), none, some (.cell m), some (.int t)]) ?_ ?_
  · simp [setL, gn, ixN, List.set_append_left _ _ nl]
  rintro e S' ⟨rfl, rfl⟩
  have hu1 := all_set_under (k := n) (x := .lst [.cell m, .int (t + 1)]) hun (by simp [Cn.under, D.underL, D.under]; omega)
  have hp : Pu L n m (T + 1) (P.set n (.lst [.cell m, .int (t + 1)])) := ⟨by rw [List.length_set]; exact hL, ⟨hnm, hu1⟩, t + 1, cs, by rw [List.getElem?_set_self nl], by rw [List.getElem?_set_ne hnm]; exact hm, hcs, by omega, by omega⟩
  have gm2 : (P.set n (.lst [.cell m, .int (t + 1)]) ++ R)[m]? = some (.lst (cs.map D.int)) := by rw [List.getElem?_append_left (by rw [List.length_set]; exact ml), List.getElem?_set_ne hnm, hm]
  refine ens_seq (fun e S' => S' = P.set n (.lst [.cell m, .int (t + 1)]) ++ R ∧ e = [some (.cell n), some (.int k), some (.int at'), some (.int c), none, some (.cell m), some (.int t)]) ?_ ?_
  · simp [powOk]
    refine enso_ite (fun hc2 => ?_) (fun _ => ?_)
    · obtain ⟨j, hj, hj2⟩ := ixN_atI hc
      simp [divOk_lit hk hk2, fdiv_pos hk, fmod_pos hk, setL, gm2, hj]
      refine ⟨by omega, ?_⟩
      rw [fin_len (by simp)]
      refine ⟨(P.set n (.lst [.cell m, .int (t + 1)])).set m (.lst ((cs.set j (c / k)).map D.int)), ?_, ?_, _, rfl, Int.emod_nonneg _ (by omega), Int.emod_lt_of_pos _ hk⟩
      · rw [List.set_append_left _ _ (by rw [List.length_set]; exact ml), List.map_set]
      · refine ⟨by simp [hL], ⟨hnm, all_set_under hu1 (by rw [Cn.under]; exact underL_ints _)⟩, t + 1, cs.set j (c / k), ?_, ?_, ?_, by omega, by omega⟩
        · rw [List.getElem?_set_ne (fun z => hnm z.symm), List.getElem?_set_self nl]
        · rw [List.getElem?_set_self (by rw [List.length_set]; exact ml)]
        · intro z
          have := congrArg List.length z
          rw [List.length_set] at this
          exact hcs (List.length_eq_zero_iff.mp this)
    · simp
  rintro e S' ⟨rfl, rfl⟩
  simp [fmod_pos]
  refine ⟨mulOkR (by decide) (by decide), mulOkL (by omega) (by omega), mulOkR (by decide) (by decide), ?_⟩
  have a1 := Int.emod_nonneg (c * 48271 + t * t * 69621 + 7) (show (2147483647 : Int) ≠ 0 by decide)
  have a2 := Int.emod_lt_of_pos (c * 48271 + t * t * 69621 + 7) (show (0 : Int) < 2147483647 by decide)
  generalize (c * 48271 + t * t * 69621 + 7) % 2147483647 = q at *
  refine ⟨mulOkL (by omega) (by omega), ?_⟩
  have a3 := Int.emod_nonneg (q * q) (show (2147483629 : Int) ≠ 0 by decide)
  have a4 := Int.emod_lt_of_pos (q * q) (show (0 : Int) < 2147483629 by decide)
  generalize q * q % 2147483629 = q2 at *
  refine ⟨mulOkL (by omega) (by omega), by omega, ?_⟩
  rw [fmod_pos hk, fin_len (by simp)]
  exact ⟨_, rfl, hp, _, rfl, Int.emod_nonneg _ (by omega), Int.emod_lt_of_pos _ hk⟩
theorem cells_empty (cs : List Int) : dEq (.cell 0) (.lst []) [Cn.lst (cs.map D.int)] = .ok (.bl (decide (cs = []))) [Cn.lst (cs.map D.int)] := by
  rw [dEq_of (p := .list (cs.map PyData.int)) (q := .list []) (by rw [toP]; simp only [List.getElem?_cons_zero]; rw [toPs_ints]; rfl) (by simp [toP, toPs])]
  cases cs <;> simp [PyData.eqv, PyData.eqvAll]
theorem purse_ok (ns : List Int) : Ens (F__law_purse [.scr (ns.map D.int)] []) fun d S' => ∃ L n m, d = .cell n ∧ Pu L n m 0 S' := by
  refine ens_fn rfl ?_
  unfold b__law_purse
  refine ens_seq (fun e S' => ∃ cs : List Int, S' = [.lst (cs.map D.int)] ∧ e = [some (.scr (ns.map D.int)), some (.cell 0)]) ?_ ?_
  · simp [slD, getQ]
    exact ⟨_, by rw [← List.map_drop, ← List.map_take]⟩
  rintro e S' ⟨cs, rfl, rfl⟩
  refine ens_seq (fun e S' => ∃ (m : Nat) (cs : List Int), m < S'.length ∧ (∀ k, (S'.all fun c => c.under k) = true) ∧ S'[m]? = some (.lst (cs.map D.int)) ∧ cs ≠ [] ∧ e = [some (.scr (ns.map D.int)), some (.cell m)]) ?_ ?_
  · simp [cells_empty]
    refine enso_ite (fun h => ?_) (fun h => ?_)
    · simp
      refine ⟨1, by simp, fun k => by simp [Cn.under, D.underL, D.under]; exact underL_ints _, [0], by simp, by simp, rfl⟩
    · simp
      refine ⟨fun k => underL_ints cs, cs, by simp, h⟩
  rintro e S' ⟨m, cs, hm, hun, hm2, hcs, rfl⟩
  simp [fin]
  exact ⟨S'.length + 1, m, by simp, ⟨by omega, by rw [List.all_append, hun]; simp [Cn.under, D.underL, D.under]; omega⟩, 0, cs, by simp, by rw [List.getElem?_append_left hm, hm2], hcs, by decide, by decide⟩
theorem two_of {a b r : Int} (h0 : 0 ≤ r) (h1 : r < 2) : ∃ k, L2.atI [D.int a, D.int b] r = some (.int k) ∧ (k = a ∨ k = b) := by
  obtain ⟨d, hd, e⟩ := atI_mem (l := [D.int a, D.int b]) (i := r) h0 (by simpa using h1)
  simp at hd
  rcases hd with rfl | rfl <;> exact ⟨_, e, by simp⟩
def BxI (L n m : Nat) (T k : Int) (S' : Store) (i : Nat) (e : Dv.Env) : Prop := ∃ (P' : Store) (bs : List Bx) (v3 v4 v5 v6 : Option D), Pu L n m (T + 1 + 8 * i) P' ∧ S' = P' ++ [.lst (bs.map bxD)] ∧ bs.length = i ∧ (∀ z ∈ bs, BxOk z) ∧ e = [some (.cell n), some (.int k), some (.cell L), v3, v4, v5, v6]
theorem boxes_ok {L n m : Nat} {T k : Int} {P : Store} (h : Pu L n m T P) (hT : T ≤ 1000) (hk : 1 ≤ k) (hk6 : k ≤ 6) : Ens (F__law_boxes [.cell n, .int k] P) fun d S' => ∃ bs, d = bxsD bs ∧ (∀ z ∈ bs, BxOk z) ∧ 1 ≤ bs.length ∧ bs.length ≤ 6 ∧ Pu L n m (T + 60) S' := by
  refine ens_fn rfl ?_
  unfold b__law_boxes
  simp only [List.map_cons, List.map_nil, List.replicate, List.cons_append, List.nil_append]
  refine ens_seq (fun e S' => S' = P ++ [.lst []] ∧ e = [some (.cell n), some (.int k), some (.cell L), none, none, none, none]) ?_ ?_
  · simp [h.1]
  rintro e S' ⟨rfl, rfl⟩
  refine ens_sq (fun e S' => ∃ (P' : Store) (bs : List Bx) (v3 v4 v5 v6 : Option D), Pu L n m (T + 60) P' ∧ S' = P' ++ [.dead] ∧ (∀ z ∈ bs, BxOk z) ∧ 1 ≤ bs.length ∧ bs.length ≤ 6 ∧ e = [some (.cell n), some (.int k), some (bxsD bs), v3, v4, v5, v6]) (fun R' hR => ?_) ?_
  · refine ens_sq (fun e S' => ∃ j, 1 ≤ j ∧ j ≤ 6 ∧ BxI L n m T k S' j e) (fun R2 hR2 => ?_) ?_
    · simp
      refine (draw_ok (R := [.lst []]) h (by omega) (by omega) (by omega)).imp ?_
      rintro d S' ⟨P1, r, rfl, h1, rfl, hr0, hr1⟩
      simp
      refine ⟨rng62_of (by omega) (by omega), ?_⟩
      refine ens_fr (fun i e S' => BxI L n m T k S' i e) ⟨P1, [], none, none, none, none, by simpa using h1, rfl, rfl, by simp, rfl⟩ ?_ ?_
      · rintro i d e S' R3 hd ⟨P', bs, v3, v4, v5, v6, hp, rfl, hl, q1, rfl⟩ hR3
        obtain ⟨rfl, hi⟩ := irange_get hd
        simp only [gN_app, enso_nx, List.set_cons_succ, List.set_cons_zero, Int.zero_add]
        refine ens_sq (fun e S' => ∃ (P' : Store) (c : Int) (v3 : Option D), 1 ≤ c ∧ c ≤ 60 ∧ Pu L n m (T + 1 + 8 * i + 2) P' ∧ S' = P' ++ [.lst (bs.map bxD)] ∧ e = [some (.cell n), some (.int k), some (.cell L), v3, some (.int c), v5, v6]) (fun R4 hR4 => ?_) ?_
        · simp
          refine (draw_ok hp (by decide) (by decide) (by omega)).imp ?_
          rintro d S' ⟨P4, r4, rfl, h4, rfl, hr40, hr41⟩
          obtain ⟨w, hw, hw1⟩ := two_of (a := 3) (b := 60) hr40 hr41
          simp [hw]
          refine (draw_ok h4 (by omega) (by omega) (by omega)).imp ?_
          rintro d S' ⟨P5, r5, rfl, h5, rfl, hr50, hr51⟩
          try simp
          exact hR4 _ _ ⟨P5, 1 + r5, _, by omega, by omega, h5.mono (by omega), rfl, rfl⟩
        rintro e S' ⟨P4, c, v3, hc0, hc1, h4, rfl, rfl⟩
        refine ens_sq (fun e S' => ∃ (P' : Store) (o : Int), 1 ≤ o ∧ o ≤ 50 ∧ Pu L n m (T + 1 + 8 * i + 4) P' ∧ S' = P' ++ [.lst (bs.map bxD)] ∧ e = [some (.cell n), some (.int k), some (.cell L), v3, some (.int c), some (.int o), v6]) (fun R4 hR4 => ?_) ?_
        · simp
          refine (draw_ok h4 (by decide) (by decide) (by omega)).imp ?_
          rintro d S' ⟨P4, r4, rfl, h4, rfl, hr40, hr41⟩
          obtain ⟨w, hw, hw1⟩ := two_of (a := 4) (b := 50) hr40 hr41
          simp [hw]
          refine (draw_ok h4 (by omega) (by omega) (by omega)).imp ?_
          rintro d S' ⟨P5, r5, rfl, h5, rfl, hr50, hr51⟩
          try simp
          exact hR4 _ _ ⟨P5, 1 + r5, by omega, by omega, h5.mono (by omega), rfl, rfl⟩
        rintro e S' ⟨P5, o, ho0, ho1, h5, rfl, rfl⟩
        refine ens_sq (fun e S' => ∃ (P' : Store) (hh : Int), 1 ≤ hh ∧ hh ≤ o ∧ Pu L n m (T + 1 + 8 * i + 6) P' ∧ S' = P' ++ [.lst (bs.map bxD)] ∧ e = [some (.cell n), some (.int k), some (.cell L), v3, some (.int c), some (.int o), some (.int hh)]) (fun R4 hR4 => ?_) ?_
        · simp
          refine (draw_ok h5 (by omega) (by omega) (by omega)).imp ?_
          rintro d S' ⟨P6, r6, rfl, h6, rfl, hr60, hr61⟩
          simp
          refine (draw_ok h6 (by decide) (by decide) (by omega)).imp ?_
          rintro d S' ⟨P7, r7, rfl, h7, rfl, hr70, hr71⟩
          obtain ⟨w, hw, hw1⟩ := two_of (a := 1 + r6) (b := o) (r := r7 / 3) (by omega) (by omega)
          simp [divOk_lit, fdiv_pos, hw]
          exact hR4 _ _ ⟨P7, w, by omega, by omega, h7.mono (by omega), rfl, rfl⟩
        rintro e S' ⟨P6, hh, hh0, hh1, h6, rfl, rfl⟩
        simp [isT, app_at0 h6.1, mAppend, cellL, app_set0 h6.1]
        refine ⟨by omega, hR3 _ _ ⟨P6, bs ++ [(c, hh, o)], _, _, _, _, h6.mono (by omega), by simp [bxD], by simp [hl], ?_, rfl⟩⟩
        intro z hz
        rcases List.mem_append.mp hz with y | y
        · exact q1 z y
        · rw [List.mem_singleton.mp y]; exact ⟨hc0, hc1, hh0, hh1, ho1⟩
      · rintro e S' hI
        exact hR2 _ _ ⟨_, by simp; omega, by simp; omega, hI⟩
    rintro e S' ⟨j, hj1, hj2, P', bs, v3, v4, v5, v6, hp, rfl, hl, q1, rfl⟩
    simp [frzE, frz, app_at0 hp.1, app_set0 hp.1]
    exact hR _ _ ⟨P', bs, v3, v4, v5, v6, hp.mono (by omega), rfl, q1, by omega, by omega, rfl⟩
  rintro e S' ⟨P', bs, v3, v4, v5, v6, hp, rfl, q1, q2, q3, rfl⟩
  simp [h.1]
  rw [fin_cut hp.1 hp.2.1.2 (by
    unfold bxsD
    rw [D.under]
    exact underL_of fun d hd => by
      obtain ⟨z, _, rfl⟩ := List.mem_map.mp hd
      rfl), ens_ok]
  exact ⟨bs, rfl, fun a b c hz => q1 _ hz, q2, q3, hp⟩

theorem four_of {r : Int} (h0 : 0 ≤ r) (h1 : r < 4) : ∃ k, L2.atI [D.int 4, D.int 4, D.int 4, D.int 61] r = some (.int k) ∧ 0 < k ∧ k ≤ 61 := by
  obtain ⟨d, hd, e⟩ := atI_mem (l := [D.int 4, D.int 4, D.int 4, D.int 61]) (i := r) h0 (by simpa using h1)
  simp at hd
  rcases hd with rfl | rfl <;> exact ⟨_, e, by decide, by decide⟩
/-! ### weights and orders drawn -/
theorem three_of {c r : Int} (h0 : 0 ≤ r) (h1 : r < 3) : ∃ k, L2.atI [D.int 3, D.int 3, D.int c] r = some (.int k) ∧ (k = 3 ∨ k = c) := by
  obtain ⟨d, hd, e⟩ := atI_mem (l := [D.int 3, D.int 3, D.int c]) (i := r) h0 (by simpa using h1)
  simp at hd
  rcases hd with rfl | rfl <;> exact ⟨_, e, by simp⟩
theorem all_zero {ws : List Int} (h : ∀ w ∈ ws, 0 ≤ w) (hne : ws ≠ []) : maxL ws ≠ 0 → ∃ w ∈ ws, 0 < w := fun hm => ⟨maxL ws, maxL_mem hne, by have := h _ (maxL_mem hne); omega⟩
theorem bMaxC {S : Store} {L : Nat} {l : List Int} (h : S[L]? = some (.lst (l.map D.int))) (hne : l ≠ []) : bMax [.cell L] S = .ok (.int (maxL l)) S := by
  cases l with
  | nil => exact absurd rfl hne
  | cons a l =>
    unfold bMax
    simp only [getQ, getL, h, Option.bind_some, intsOf_map]
theorem weights_ok {L n m k : Nat} {T : Int} {P : Store} (h : Pu L n m T P) (hT : T ≤ 1000) (hk1 : 1 ≤ k) (hk6 : k ≤ 6) : Ens (F__law_weights [.cell n, .int k] P) fun d S' => ∃ ws, d = wsD ws ∧ WsOk ws k ∧ Pu L n m (T + 20) S' := by
  refine ens_fn rfl ?_
  unfold b__law_weights
  simp only [List.map_cons, List.map_nil, List.replicate, List.cons_append, List.nil_append]
  refine ens_seq (fun e S' => S' = P ++ [.lst []] ∧ e = [some (.cell n), some (.int k), some (.cell L), none]) ?_ ?_
  · simp [h.1]
  rintro e S' ⟨rfl, rfl⟩
  refine ens_sq (fun e S' => ∃ (P' : Store) (ws : List Int) (v : Option D), Pu L n m (T + 12) P' ∧ ws.length = k ∧ (∀ w ∈ ws, 0 ≤ w) ∧ (∀ w ∈ ws, w ≤ 1000000000000000000000000000000) ∧ S' = P' ++ [.lst (ws.map D.int)] ∧ e = [some (.cell n), some (.int k), some (.cell L), v]) (fun R hR => ?_) ?_
  · simp
    refine ⟨rng62_of (by omega) (by omega), ?_⟩
    refine ens_fr (fun i e S' => ∃ (P' : Store) (ws : List Int) (v : Option D), Pu L n m (T + 2 * i) P' ∧ ws.length = i ∧ (∀ w ∈ ws, 0 ≤ w) ∧ (∀ w ∈ ws, w ≤ 1000000000000000000000000000000) ∧ S' = P' ++ [.lst (ws.map D.int)] ∧ e = [some (.cell n), some (.int k), some (.cell L), v]) ⟨P, [], none, by simpa using h, rfl, by simp, by simp, rfl, rfl⟩ ?_ ?_
    · rintro i d e S' R2 hd ⟨P', ws, v, hp, hl, q1, q2, rfl, rfl⟩ hR2
      obtain ⟨rfl, hi⟩ := irange_get hd
      simp [isT, app_at0 hp.1, powOk]
      refine (draw_ok hp (by decide) (by decide) (by omega)).imp ?_
      rintro d S' ⟨P4, r4, rfl, h4, rfl, hr40, hr41⟩
      obtain ⟨w, hw, hw1⟩ := three_of (c := 1000000000000000000000000000000) hr40 hr41
      simp [hw]
      refine (draw_ok h4 (by omega) (by omega) (by omega)).imp ?_
      rintro d S' ⟨P5, r5, rfl, h5, rfl, hr50, hr51⟩
      simp [mAppend, cellL, app_at0 h5.1, app_set0 h5.1]
      refine ⟨by omega, hR2 _ _ ⟨P5, ws ++ [r5], _, h5.mono (by omega), by simp [hl], ?_, ?_, by simp, rfl⟩⟩
      · intro x hx
        rcases List.mem_append.mp hx with y | y
        · exact q1 x y
        · rw [List.mem_singleton.mp y]; exact hr50
      · intro x hx
        rcases List.mem_append.mp hx with y | y
        · exact q2 x y
        · rw [List.mem_singleton.mp y]; omega
    · rintro e S' ⟨P', ws, v, hp, hl, q1, q2, rfl, rfl⟩
      simp at hl hp
      exact hR _ _ ⟨P', ws, v, hp.mono (by omega), hl, q1, q2, rfl, rfl⟩
  rintro e S' ⟨P', ws, v, hp, hl, q1, q2, rfl, rfl⟩
  have hne : ws ≠ [] := by intro z; subst z; simp at hl; omega
  refine ens_sq (fun e S' => ∃ (P' : Store) (ws : List Int), Pu L n m (T + 14) P' ∧ WsOk ws k ∧ S' = P' ++ [.dead] ∧ e = [some (.cell n), some (.int k), some (wsD ws), v]) (fun R hR => ?_) ?_
  · refine ens_sq (fun e S' => ∃ (P' : Store) (ws : List Int), Pu L n m (T + 14) P' ∧ WsOk ws k ∧ S' = P' ++ [.lst (ws.map D.int)] ∧ e = [some (.cell n), some (.int k), some (.cell L), v]) (fun R2 hR2 => ?_) ?_
    · have bm : bMax [.cell L] (P' ++ [.lst (ws.map D.int)]) = .ok (.int (maxL ws)) (P' ++ [.lst (ws.map D.int)]) := bMaxC (app_at0 hp.1) hne
      simp [bm]
      refine enso_ite (fun h0 => ?_) (fun h0 => ?_)
      · simp
        refine (draw_ok hp (by omega) (by omega) (by omega)).imp ?_
        rintro d S' ⟨P5, r5, rfl, h5, rfl, hr50, hr51⟩
        have hj : ixN ws.length r5 = some r5.toNat := by
          unfold ixN
          rw [if_pos (by omega), if_pos (by omega)]
        simp [setL, app_at0 h5.1, hj, app_set0 h5.1]
        refine hR2 _ _ ⟨P5, ws.set r5.toNat 1, h5.mono (by omega), ⟨by simp [hl], ?_, ?_, ⟨1, ?_, by decide⟩⟩, by simp [List.map_set], rfl⟩
        · intro x hx
          rcases List.mem_or_eq_of_mem_set hx with y | y
          · exact q1 x y
          · rw [y]; decide
        · intro x hx
          rcases List.mem_or_eq_of_mem_set hx with y | y
          · exact q2 x y
          · rw [y]; decide
        · exact List.mem_of_getElem? (i := r5.toNat) (by rw [List.getElem?_set_self (by omega)])
      · simp
        exact hR2 _ _ ⟨P', ws, hp.mono (by omega), ⟨hl, q1, q2, all_zero q1 hne h0⟩, rfl, rfl⟩
    rintro e S' ⟨P', ws, hp, hws, rfl, rfl⟩
    simp [frzE, frz, app_at0 hp.1, app_set0 hp.1]
    exact hR _ _ ⟨P', ws, hp, hws, rfl, rfl⟩
  rintro e S' ⟨P', ws, hp, hws, rfl, rfl⟩
  simp [h.1]
  rw [fin_cut hp.1 hp.2.1.2 (by unfold wsD D.under; exact underL_ints _), ens_ok]
  exact ⟨ws, rfl, hws, hp.mono (by omega)⟩
theorem underL_nats {n : Nat} (l : List Nat) : D.underL n (l.map fun (m : Nat) => D.int (m : Int)) = true := underL_of fun d hd => by
  obtain ⟨z, _, rfl⟩ := List.mem_map.mp hd
  rfl
def psum (ps : List Nat) (i : Nat) : Int := ((ps.take i).map fun (m : Nat) => (m : Int)).sum
theorem psum_succ {ps : List Nat} {j : Nat} (h : j < ps.length) : psum ps (j + 1) = psum ps j + ps[j] := by
  unfold psum
  rw [List.take_succ_eq_append_getElem h, List.map_append, List.sum_append]
  simp
theorem psum_le {ps : List Nat} (hp : ∀ m ∈ ps, m ≤ 60) : ∀ i, i ≤ ps.length → psum ps i ≤ 60 * i ∧ 0 ≤ psum ps i
  | 0, _ => by simp [psum]
  | i + 1, h => by
    have := psum_le hp i (by omega)
    rw [psum_succ (by omega)]
    have := hp ps[i] (List.getElem_mem _)
    omega
def OrI (L n m : Nat) (T : Int) (ps : List Nat) (i t : Nat) (S' : Store) (os : List Nat) (P' : Store) : Prop :=
  Pu L n m (T + os.length) P' ∧ S' = P' ++ [.lst (os.map fun (m : Nat) => D.int (m : Int))] ∧ (os.length : Int) = psum ps i + t ∧ (∀ (j : Nat) (h : j < ps.length), os.count j = if j < i then ps[j] else if j = i then t else 0) ∧ ∀ k ∈ os, k ≤ i ∧ k < ps.length
theorem order_ok {L n m : Nat} {T : Int} {P : Store} {ps : List Nat} (h : Pu L n m T P) (hT : T ≤ 100000) (hps : ∀ m ∈ ps, m ≤ 60) (h6 : ps.length ≤ 6) : Ens (F__law_order [.cell n, plD ps] P) fun d S' => ∃ os, d = plD os ∧ OrdOk ps.length ps os ∧ os.length ≤ 360 ∧ Pu L n m (T + 360) S' := by
  refine ens_fn rfl ?_
  unfold b__law_order
  simp only [List.map_cons, List.map_nil, List.replicate, List.cons_append, List.nil_append]
  refine ens_seq (fun e S' => S' = P ++ [.lst []] ∧ e = [some (.cell n), some (plD ps), some (.cell L), none, none]) ?_ ?_
  · simp [h.1]
  rintro e S' ⟨rfl, rfl⟩
  have lb : ∀ S, bLen [plD ps] S = .ok (.int ps.length) S := fun S => by unfold plD; simp
  refine ens_sq (fun e S' => ∃ (os : List Nat) (P' : Store) (v w : Option D), OrdOk ps.length ps os ∧ os.length ≤ 360 ∧ Pu L n m (T + 360) P' ∧ S' = P' ++ [.dead] ∧ e = [some (.cell n), some (plD ps), some (plD os), v, w]) (fun R hR => ?_) ?_
  · refine ens_sq (fun e S' => ∃ (os : List Nat) (P' : Store) (v w : Option D), OrI L n m T ps ps.length 0 S' os P' ∧ e = [some (.cell n), some (plD ps), some (.cell L), v, w]) (fun R2 hR2 => ?_) ?_
    · simp only [yFor_app, iSrcA_app, xCons_app, xFn_app, xNil_app, xVar_app, List.getElem?_cons_zero, List.getElem?_cons_succ, Res.bind_ok, lb, enso_out, ens_srcR1]
      refine ⟨rng62_of (by omega) (by omega), ?_⟩
      rw [Int.toNat_natCast]
      refine ens_fr (fun i e S' => ∃ (os : List Nat) (P' : Store) (v w : Option D), OrI L n m T ps i 0 S' os P' ∧ e = [some (.cell n), some (plD ps), some (.cell L), v, w]) ⟨[], P, none, none, ⟨by simpa using h, rfl, by simp [psum], fun j hj => by simp, by simp⟩, rfl⟩ ?_ ?_
      · rintro i d e S' R3 hd ⟨os, P', v, w, hI, rfl⟩ hR3
        obtain ⟨rfl, hi⟩ := irange_get hd
        have i1 : ∀ S, dIx (plD ps) (.int (0 + (i : Int))) S = .ok (.int ps[i]) S := fun S => pl_ix hi S
        have h60 := hps ps[i] (List.getElem_mem _)
        simp only [gN_app, enso_nx, List.set_cons_succ, List.set_cons_zero, yFor_app, iSrcA_app, xCons_app, xOp_app, xNil_app, xVar_app, List.getElem?_cons_zero, List.getElem?_cons_succ, Res.bind_ok, i1, enso_out, ens_srcR1]
        refine ⟨rng62_of (by omega) (by omega), ?_⟩
        rw [Int.toNat_natCast]
        refine ens_fr (fun t e S' => ∃ (os : List Nat) (P' : Store) (w : Option D), OrI L n m T ps i t S' os P' ∧ e = [some (.cell n), some (plD ps), some (.cell L), some (.int (0 + (i : Int))), w]) ⟨os, P', w, hI, rfl⟩ ?_ ?_
        · rintro t d e S' R4 hd ⟨os, P', w, ⟨hp, rfl, hlen, hcnt, hle⟩, rfl⟩ hR4
          obtain ⟨rfl, ht⟩ := irange_get hd
          have pl := psum_le hps i (by omega)
          have lc : bLen [.cell L] (P' ++ [.lst (os.map fun (m : Nat) => D.int (m : Int))]) = .ok (.int os.length) (P' ++ [.lst (os.map fun (m : Nat) => D.int (m : Int))]) := by simp [bLen, getQ, getL, app_at0 hp.1]
          simp [isT, app_at0 hp.1, lc]
          refine (draw_ok hp (by omega) (by omega) (by omega)).imp ?_
          rintro d S' ⟨P5, r, rfl, h5, rfl, hr0, hr1⟩
          simp [mInsert, cellL, app_at0 h5.1, app_set0 h5.1]
          refine ⟨⟨by omega, hr0, by omega⟩, hR4 _ _ ⟨os.take r.toNat ++ [i] ++ os.drop r.toNat, P5, some (.int (t : Int)), ⟨?_, ?_, ?_, ?_, ?_⟩, by simp⟩⟩
          · refine h5.mono ?_
            simp
            omega
          · simp
          · simp
            omega
          · intro j hj
            rw [List.count_append, List.count_append, List.count_singleton]
            have e0 := hcnt j hj
            have e1 : (os.take r.toNat).count j + (os.drop r.toNat).count j = os.count j := by rw [← List.count_append, List.take_append_drop]
            by_cases q : j < i
            · rw [if_pos q] at e0 ⊢
              have : ¬ (i == j) = true := by simp; omega
              rw [if_neg this]
              omega
            · rw [if_neg q] at e0 ⊢
              by_cases q2 : j = i
              · rw [if_pos q2] at e0 ⊢
                subst q2
                simp
                omega
              · rw [if_neg q2] at e0 ⊢
                have : ¬ (i == j) = true := by simp; omega
                rw [if_neg this]
                omega
          · intro x hx
            simp at hx
            rcases hx with y | y | y
            · exact hle x (List.mem_of_mem_take y)
            · subst y; omega
            · exact hle x (List.mem_of_mem_drop y)
        · rintro e S' ⟨os, P', w, ⟨hp, rfl, hlen, hcnt, hle⟩, rfl⟩
          simp at hlen hcnt
          refine hR3 _ _ ⟨os, P', _, _, ⟨hp, rfl, ?_, ?_, ?_⟩, rfl⟩
          · rw [psum_succ hi]; omega
          · intro j hj
            rw [hcnt j hj]
            by_cases q : j < i
            · rw [if_pos q, if_pos (by omega)]
            · rw [if_neg q]
              by_cases q2 : j = i
              · subst q2
                rw [if_pos rfl, if_pos (by omega)]
              · rw [if_neg q2, if_neg (by omega)]
                split <;> rfl
          · intro x hx
            have := hle x hx
            omega
      · rintro e S' ⟨os, P', v, w, hI, rfl⟩
        rw [irange_length] at hI
        exact hR2 _ _ ⟨os, P', v, w, hI, rfl⟩
    rintro e S' ⟨os, P', v, w, ⟨hp, rfl, hlen, hcnt, hle⟩, rfl⟩
    have pl := psum_le hps ps.length (by omega)
    have pe : psum ps ps.length = (ps.map fun (m : Nat) => (m : Int)).sum := by unfold psum; rw [List.take_length]
    simp [frzE, frz, app_at0 hp.1, app_set0 hp.1]
    refine hR _ _ ⟨os, P', v, w, ⟨fun i hi => by rw [hcnt i hi, if_pos hi], by rw [hlen, pe]; omega, fun k hk => (hle k hk).2⟩, by omega, hp.mono (by omega), rfl, rfl⟩
  rintro e S' ⟨os, P', v, w, ho, hl, hp, rfl, rfl⟩
  simp [h.1]
  rw [fin_cut hp.1 hp.2.1.2 (by unfold plD D.under; exact underL_nats _), ens_ok]
  exact ⟨os, rfl, ho, hl, hp⟩
theorem plan_ok {L n m k : Nat} {T : Int} {P : Store} (h : Pu L n m T P) (hT : T ≤ 1000) (hk1 : 1 ≤ k) (hk6 : k ≤ 6) : Ens (F__law_plan [.cell n, .int k] P) fun d S' => ∃ ps : List Nat, d = plD ps ∧ ps.length = k ∧ (∀ m ∈ ps, m ≤ 60) ∧ Pu L n m (T + 20) S' := by
  refine ens_fn rfl ?_
  unfold b__law_plan
  simp only [List.map_cons, List.map_nil, List.replicate, List.cons_append, List.nil_append]
  refine ens_sq (fun e S' => S' = P ∧ e = [some (.cell n), some (.int k), none]) (fun R hR => ?_) ?_
  · simp
    refine enso_ite (fun h0 => ?_) (fun h0 => ?_)
    · simp
      have a1 := draw_ok (R := []) h (k := 2) (by decide) (by decide) (by omega)
      rw [List.append_nil] at a1
      refine a1.imp ?_
      rintro d S' ⟨P3, r, rfl, hp3, rfl, hr0, hr1⟩
      obtain ⟨w, hw, hw1⟩ := two_of (a := 7) (b := 61) hr0 hr1
      simp [hw]
      have a2 := draw_ok (R := []) hp3 (k := w) (by omega) (by omega) (by omega)
      rw [List.append_nil] at a2
      refine a2.imp ?_
      rintro d S' ⟨P4, r4, rfl, hp4, rfl, hr40, hr41⟩
      simp
      rw [fin_len (by rw [hp4.1, h.1]), ens_ok]
      refine ⟨[r4.toNat], ?_, by simp; omega, ?_, hp4.mono (by omega)⟩
      · unfold plD
        simp; omega
      · intro x hx
        rw [List.mem_singleton.mp hx]; omega
    · simp
      exact hR _ _ ⟨rfl, rfl⟩
  rintro e S' ⟨rfl, rfl⟩
  simp
  refine ⟨rng62_of (by omega) (by omega), ?_⟩
  refine ens_lcq (fun i l S' => ∃ ps : List Nat, l = ps.map (fun (m : Nat) => D.int (m : Int)) ∧ ps.length = i ∧ (∀ m ∈ ps, m ≤ 60) ∧ Pu L n m (T + 2 * i) S') ⟨[], rfl, rfl, by simp, by simpa using h⟩ ?_ ?_
  · rintro i d acc S2 R' hd ⟨ps, rfl, hi, hps, hp⟩ hR'
    obtain ⟨rfl, hi2⟩ := irange_get hd
    refine ⟨_, rfl, ?_⟩
    simp
    have a1 := draw_ok (R := []) hp (k := 4) (by decide) (by decide) (by omega)
    rw [List.append_nil] at a1
    refine a1.imp ?_
    rintro d S3 ⟨P3, r, rfl, hp3, rfl, hr0, hr1⟩
    refine ⟨by omega, hR' _ _ ⟨ps ++ [r.toNat], by simp; omega, by simp [hi], ?_, by rw [List.append_nil]; exact hp3.mono (by omega)⟩⟩
    intro y hy
    rcases List.mem_append.mp hy with z | z
    · exact hps y z
    · rw [List.mem_singleton.mp z]; omega
  · rintro l S2 ⟨ps, rfl, hi, hps, hp⟩
    simp at hi hp
    try simp
    rw [fin_len (by rw [hp.1, h.1]), ens_ok]
    exact ⟨ps, rfl, hi, hps, hp.mono (by omega)⟩
/-! ### the program's own best order -/
theorem rr_cross {a b : Rat} {c d : Int} (hc : 0 < c) (hd : 0 < d) : a * (d : Rat) ≤ b * (c : Rat) ↔ a / (c : Rat) ≤ b / (d : Rat) := by
  have qc : (0 : Rat) < (c : Rat) := Rat.intCast_pos.mpr hc
  have qd : (0 : Rat) < (d : Rat) := Rat.intCast_pos.mpr hd
  have nc := Rat.ne_of_gt qc
  have nd := Rat.ne_of_gt qd
  have e1 : a * (d : Rat) = a / (c : Rat) * ((c : Rat) * (d : Rat)) := by grind
  have e2 : b * (c : Rat) = b / (d : Rat) * ((c : Rat) * (d : Rat)) := by grind
  have pos := Rat.mul_pos qc qd
  rw [e1, e2]
  exact ⟨fun h => Rat.le_of_mul_le_mul_right h pos, fun h => Rat.mul_le_mul_of_nonneg_right h (Rat.le_of_lt pos)⟩
def bD (bs : List Bx) (ws : List Int) (dn : List Nat) : List Nat → D
  | [] => .non
  | k :: _ => lookD (ch bs ws dn k) k
abbrev St3 (S : Store) (ps dn fd : List Nat) : Store := S ++ [.lst ((lfI ps dn).map D.int), .lst (dn.map fun (m : Nat) => D.int (m : Int)), .lst (fd.map fun (m : Nat) => D.int (m : Int))]
theorem bo_step {S : Store} {bs : List Bx} {ws : List Int} {ps dn fd ks : List Nat} {i : Nat} {v8 : Option D} (h : Bw bs ws) (hps : ps.length = bs.length) (hdl : dn.length = bs.length) (h60 : ∀ m ∈ ps, m ≤ 60) (hi : i < bs.length) (hB : Bst bs ws ps dn i ks) (hl : ks.length ≤ 1)
    {Q : Pst} (hQ : ∀ (ks' : List Nat) (v8 : Option D), Bst bs ws ps dn (i + 1) ks' → ks'.length ≤ 1 → Q.nx [some (bxsD bs), some (wsD ws), some (plD ps), some (.cell S.length), some (.cell (S.length + 1)), some (.cell (S.length + 2)), some (bD bs ws dn ks'), some (.int (i : Int)), v8] (St3 S ps dn fd)) :
    EnsO ((yIf (xIsT (xOp dGt (xOp dIx (xVar 3) (xVar 7)) (xC (.int 0)))) (ySeq (ySet 8 (xTup (xCons (xFn F_times (xCons (xFn F_ratio (xCons (xOp dIx (xVar 1) (xVar 7)) (xCons (xFn bSum (xCons (xVar 1) xNil)) xNil))) (xCons (xFn F_mark (xCons (xOp dIx (xVar 0) (xVar 7)) (xCons (xOp dIx (xVar 4) (xVar 7)) xNil))) xNil))) (xCons (xVar 7) xNil))))
    (yIf (xOr (xIsT (xOp dIsN (xVar 6) (xC .non))) (xNot (xTru (xFn F_ahead (xCons (xVar 0) (xCons (xVar 6) (xCons (xVar 8) xNil))))))) (ySet 6 (xVar 8)) yNil)) yNil)
      [some (bxsD bs), some (wsD ws), some (plD ps), some (.cell S.length), some (.cell (S.length + 1)), some (.cell (S.length + 2)), some (bD bs ws dn ks), some (.int (i : Int)), v8] (St3 S ps dn fd)) Q := by
  have lpd : ps.length = dn.length := by omega
  have c0 : (St3 S ps dn fd)[S.length]? = some (.lst ((lfI ps dn).map D.int)) := app_at0 rfl
  have c1 : (St3 S ps dn fd)[S.length + 1]? = some (.lst (dn.map fun (m : Nat) => D.int (m : Int))) := app_at1 rfl
  generalize hS : St3 S ps dn fd = S2 at *
  have i4 : dIx (.cell S.length) (.int (i : Int)) S2 = .ok (.int ((ps.getD i 0 : Int) - (dn.getD i 0 : Int))) S2 := by
    have : L2.atI ((lfI ps dn).map D.int) (i : Int) = some (.int ((ps.getD i 0 : Int) - (dn.getD i 0 : Int))) := by
      rw [atI_nat (by rw [List.getElem?_map, lfI_get lpd (by omega)]; rfl)]
    simp only [dIx, getQ, getL, c0, this]
  have i5 := cell_nat c1 (k := i) (by omega)
  simp only [yIf_app, xIsT_app, xOp_app, xVar_app, xC_app, List.getElem?_cons_zero, List.getElem?_cons_succ, Res.bind_ok, i4, dGt_ok, enso_out, ens_ok]
  by_cases hlt : dn.getD i 0 < ps.getD i 0
  · rw [if_pos (decide_eq_true (by omega))]
    have hz := h.b bs[i] (List.getElem_mem _)
    have hW := h.w.sum h.six
    have p60 : ps.getD i 0 ≤ 60 := by
      rw [List.getD_eq_getElem?_getD, List.getElem?_eq_getElem (by omega)]
      exact h60 _ (List.getElem_mem _)
    have d60 : dn.getD i 0 ≤ 60 := by omega
    have i1 : ∀ S, dIx (bxsD bs) (.int (i : Int)) S = .ok (bxD bs[i]) S := fun S => by have := bx_ix hi S; rwa [Int.zero_add] at this
    have i2 : ∀ S', dIx (wsD ws) (.int (i : Int)) S' = .ok (.int (ws.getD i 0)) S' := fun S' => by
      have hk' : i < ws.length := by rw [h.w.len]; exact hi
      unfold wsD
      rw [dIx_lst, atI_nat (by rw [List.getElem?_map, List.getElem?_eq_getElem hk']; rfl), List.getD_eq_getElem?_getD, List.getElem?_eq_getElem hk']
      rfl
    have sm : ∀ S', bSum [wsD ws] S' = .ok (.int ws.sum) S' := fun S' => bSum_ok ws S'
    have rt : ∀ S', F_ratio [.int (ws.getD i 0), .int ws.sum] S' = .ok (fr (((ws.getD i 0 : Int) : Rat) / ((ws.sum : Int) : Rat))) S' := fun S' => ratio_r _ _ 110 S' (by omega) (sz_of (B := 6000000000000000000000000000001) (by omega) (by omega) (by decide)) (by decide)
    have tm : ∀ S', F_times [fr (((ws.getD i 0 : Int) : Rat) / ((ws.sum : Int) : Rat)), fr (eta bs[i] * mu bs[i] ^ dn.getD i 0)] S' = .ok (fr (ch bs ws dn i)) S' := fun S' => by
      rw [times_r (w_fs h.w h.six hi) (em_fs hz (by omega)) (by decide)]
      unfold ch
      rw [bxAt_get hi]
    refine ens_sq (fun e S3 => S3 = S2 ∧ e = [some (bxsD bs), some (wsD ws), some (plD ps), some (.cell S.length), some (.cell (S.length + 1)), some (.cell (S.length + 2)), some (bD bs ws dn ks), some (.int (i : Int)), some (lookD (ch bs ws dn i) i)]) (fun R2 hR2 => ?_) ?_
    · simp only [ySet_app, xTup_app, xCons_app, xNil_app, xFn_app, xC_app, xOp_app, xVar_app, List.getElem?_cons_zero, List.getElem?_cons_succ, Res.bind_ok, i1, i2, i5, sm, rt, tm, mark_r hz (dn.getD i 0) (by omega), List.length_cons, List.length_nil, if_pos (show 0 + 1 + 1 ≤ 1000 by decide), List.set_cons_succ, List.set_cons_zero, enso_out, ens_ok, enso_nx]
      exact hR2 _ _ ⟨rfl, rfl⟩
    rintro e S3 ⟨rfl, rfl⟩
    have fin_ : ∀ hb : Bst bs ws ps dn (i + 1) [i], EnsO (ySet 6 (xVar 8) [some (bxsD bs), some (wsD ws), some (plD ps), some (.cell S.length), some (.cell (S.length + 1)), some (.cell (S.length + 2)), some (bD bs ws dn ks), some (.int (i : Int)), some (lookD (ch bs ws dn i) i)] S3) Q := fun hb => by
      simp only [ySet_app, xVar_app, List.getElem?_cons_zero, List.getElem?_cons_succ, enso_out, ens_ok, enso_nx, List.set_cons_succ, List.set_cons_zero]
      exact hQ [i] _ hb (by simp)
    match ks, hB, hl with
    | [], hB, _ =>
      simp only [bD, yIf_app, xOr_app, xIsT_app, xOp_app, xVar_app, xC_app, List.getElem?_cons_zero, List.getElem?_cons_succ, Res.bind_ok, isN_non, if_true, enso_out, ens_ok]
      exact fin_ (hB.new hlt (.inl rfl))
    | [k], hB, _ =>
      obtain ⟨ki, kd⟩ := hB.inn k (by simp)
      have k60 : dn.getD k 0 ≤ 60 := by
        have : ps.getD k 0 ≤ 60 := by
          rw [List.getD_eq_getElem?_getD, List.getElem?_eq_getElem (show k < ps.length by omega)]
          exact h60 _ (List.getElem_mem _)
        omega
      have kb : k < bs.length := by omega
      have zk := h.b bs[k] (List.getElem_mem _)
      have ah := ahead_ok h kb hi (ch_on h.b h.six h.w kb k60) (ch_on h.b h.six h.w hi d60) S3
      have rc : ch bs ws dn i * (bs[k].1 : Rat) ≤ ch bs ws dn k * (bs[i].1 : Rat) ↔ rr bs ws dn i ≤ rr bs ws dn k := by
        unfold rr
        rw [bxAt_get kb, bxAt_get hi]
        exact rr_cross (by have := hz.c1; omega) (by have := zk.c1; omega)
      have isn : ∀ S, dIsN (lookD (ch bs ws dn k) k) .non S = .ok (.bl false) S := fun S => rfl
      simp only [bD, yIf_app, xOr_app, xIsT_app, xNot_app, xTru_app, xFn_app, xCons_app, xNil_app, xOp_app, xVar_app, xC_app, List.getElem?_cons_zero, List.getElem?_cons_succ, Res.bind_ok, isn, Bool.false_eq_true, if_false, ah, tru_bl, enso_out, ens_ok]
      by_cases g : ch bs ws dn i * (bs[k].1 : Rat) ≤ ch bs ws dn k * (bs[i].1 : Rat)
      · simp only [decide_eq_true g, Bool.not_true, Bool.false_eq_true, if_false, yNil_app, enso_nx]
        exact hQ [k] _ (hB.less ⟨k, by simp, rc.mp g⟩) (by simp)
      · simp only [decide_eq_false g, Bool.not_false, if_true]
        refine fin_ (hB.new hlt (.inr ⟨k, by simp, ?_⟩))
        rcases Rat.le_total (a := rr bs ws dn k) (b := rr bs ws dn i) with q | q
        · exact q
        · exact absurd (rc.mpr q) g
  · rw [if_neg (by rw [decide_eq_true_iff]; omega)]
    simp only [yNil_app, enso_nx]
    exact hQ ks _ (hB.skip hlt) hl
theorem best_order_ok {bs : List Bx} {ws : List Int} {ps : List Nat} (h : Bw bs ws) (hb : BpOk bs ps) (S : Store) (hS : (S.all fun c => c.under S.length) = true) : Ens (F_best_order [bxsD bs, wsD ws, plD ps] S) fun d S' => ∃ os, d = plD os ∧ OrdOk bs.length ps os ∧ os.length ≤ 360 ∧ Gr bs ws ps (List.replicate bs.length 0) os ∧ S' = S := by
  have h6 := h.six
  have hps := hb.len
  have h60 := hb.pl
  have e1 := must_be_asked_ok hb h.w
  have lb : ∀ S, bLen [bxsD bs] S = .ok (.int bs.length) S := fun S => by unfold bxsD; simp
  have sum0 := psum_le h60 ps.length (by omega)
  have psE : psum ps ps.length = (ps.map fun (m : Nat) => (m : Int)).sum := by unfold psum; rw [List.take_length]
  refine ens_fn rfl ?_
  unfold b_best_order
  simp only [List.map_cons, List.map_nil, List.replicate, List.cons_append, List.nil_append]
  refine ens_sq (fun e S' => S' = S ∧ e = [some (bxsD bs), some (wsD ws), some (plD ps), none, none, none, none, none, none]) (fun R hR => ?_) ?_
  · simp [e1]
    exact hR _ _ ⟨rfl, rfl⟩
  rintro e S ⟨rfl, rfl⟩
  refine ens_sq (fun e S' => S' = S ++ [.lst ((lfI ps (List.replicate bs.length 0)).map D.int)] ∧ e = [some (bxsD bs), some (wsD ws), some (plD ps), some (.cell S.length), none, none, none, none, none]) (fun R hR => ?_) ?_
  · rw [lfI_zero hps] at hR
    have e1 : bList mkC [plD ps] S = .ok (.cell S.length) (S ++ [.lst ((ps.map fun (m : Nat) => (m : Int)).map D.int)]) := by
      rw [plD_ints]
      unfold bList
      simp
    simp [e1]
    exact hR _ _ ⟨by simp, rfl⟩
  rintro e S' ⟨rfl, rfl⟩
  refine ens_sq (fun e S' => S' = S ++ [.lst ((lfI ps (List.replicate bs.length 0)).map D.int), .lst ((List.replicate bs.length 0).map fun (m : Nat) => D.int (m : Int))] ∧ e = [some (bxsD bs), some (wsD ws), some (plD ps), some (.cell S.length), some (.cell (S.length + 1)), none, none, none, none]) (fun R hR => ?_) ?_
  · simp only [ySet_app, xOp_app, xLst_app, xCons_app, xC_app, xNil_app, xFn_app, xVar_app, List.getElem?_cons_zero, Res.bind_ok, lb, List.length_cons, List.length_nil, mkF_app]
    rw [if_pos (by decide)]
    simp only [Res.bind_ok, dMul_lst]
    rw [if_pos ⟨rng62_of (by omega) (by omega), by simp; omega⟩]
    simp only [Int.toNat_natCast, rep_zero, mkC_app, enso_out, ens_ok, enso_nx, List.set_cons_succ, List.set_cons_zero]
    exact hR _ _ ⟨by simp, by simp⟩
  rintro e S' ⟨rfl, rfl⟩
  refine ens_sq (fun e S' => S' = St3 S ps (List.replicate bs.length 0) [] ∧ e = [some (bxsD bs), some (wsD ws), some (plD ps), some (.cell S.length), some (.cell (S.length + 1)), some (.cell (S.length + 2)), none, none, none]) (fun R hR => ?_) ?_
  · simp only [ySet_app, xLst_app, xNil_app, Res.bind_ok, List.length_nil, if_pos (show 0 ≤ 1000 by decide), mkC_app, enso_out, ens_ok, enso_nx, List.set_cons_succ, List.set_cons_zero]
    exact hR _ _ ⟨by simp, by simp⟩
  rintro e S' ⟨rfl, rfl⟩
  refine ens_sq (fun e S' => ∃ (os dn : List Nat) (v6 v7 v8 : Option D), OrdOk bs.length ps os ∧ os.length ≤ 360 ∧ Gr bs ws ps (List.replicate bs.length 0) os ∧ S' = S ++ [.lst ((lfI ps dn).map D.int), .lst (dn.map fun (m : Nat) => D.int (m : Int)), .dead] ∧ e = [some (bxsD bs), some (wsD ws), some (plD ps), some (.cell S.length), some (.cell (S.length + 1)), some (plD os), v6, v7, v8]) (fun R' hR => ?_) ?_
  · refine ens_sq (fun e S' => ∃ (fd dn : List Nat) (v6 v7 v8 : Option D), GrI bs ws ps dn fd ∧ (lfI ps dn).sum ≤ 0 ∧ S' = St3 S ps dn fd ∧ e = [some (bxsD bs), some (wsD ws), some (plD ps), some (.cell S.length), some (.cell (S.length + 1)), some (.cell (S.length + 2)), v6, v7, v8]) (fun R2 hR2 => ?_) ?_
    · refine ens_while (fun e S' => ∃ (fd dn : List Nat) (v6 v7 v8 : Option D), GrI bs ws ps dn fd ∧ S' = St3 S ps dn fd ∧ e = [some (bxsD bs), some (wsD ws), some (plD ps), some (.cell S.length), some (.cell (S.length + 1)), some (.cell (S.length + 2)), v6, v7, v8]) (fun e S' => match S'[S.length]? with | some (.lst l) => (match intsOf l with | some is => is.sum.toNat | none => 0) | _ => 0) ?_ ⟨[], List.replicate bs.length 0, none, none, none, ⟨by simp, fun j hj => by rw [rep0_get]; omega, by simp, fun j hj => by rw [rep0_get]; rfl, by rw [lfI_zero hps]; simp, fun o ho => ho⟩, rfl, rfl⟩
      rintro e S' ⟨fd, dn, v6, v7, v8, hG, rfl, rfl⟩
      obtain ⟨dl, dle, fin_, fcnt, flen, fgr⟩ := hG
      have lpd : ps.length = dn.length := by omega
      have nn := lfI_nonneg lpd (fun j hj => dle j (by omega))
      have sn := sum_nonneg nn
      have c0 : (St3 S ps dn fd)[S.length]? = some (.lst ((lfI ps dn).map D.int)) := app_at0 rfl
      have bs0 : bSum [.cell S.length] (St3 S ps dn fd) = .ok (.int (lfI ps dn).sum) (St3 S ps dn fd) := by
        unfold bSum
        simp only [getQ, getL, c0, Option.bind_some, intsOf_map]
      simp only [xIsT_app, xOp_app, xFn_app, xCons_app, xNil_app, xVar_app, xC_app, List.getElem?_cons_zero, List.getElem?_cons_succ, Res.bind_ok, bs0, dGt_ok, ens_ok, decide_eq_true_iff, decide_eq_false_iff_not, c0, intsOf_map]
      refine ⟨fun hs => ?_, fun hs => hR2 _ _ ⟨fd, dn, v6, v7, v8, ⟨dl, dle, fin_, fcnt, flen, fgr⟩, by omega, rfl, rfl⟩⟩
      obtain ⟨j0, hj0, hj1⟩ := pos_of_sum nn hs
      rw [lfI_length lpd] at hj0
      have ej0 : (lfI ps dn)[j0]'(by rw [lfI_length lpd]; exact hj0) = (ps.getD j0 0 : Int) - (dn.getD j0 0 : Int) := by
        have := lfI_get lpd hj0
        rw [List.getElem?_eq_getElem (by rw [lfI_length lpd]; exact hj0)] at this
        exact Option.some.inj this
      have hd0 : dn.getD j0 0 < ps.getD j0 0 := by omega
      refine ens_sq (fun e S2 => S2 = St3 S ps dn fd ∧ e = [some (bxsD bs), some (wsD ws), some (plD ps), some (.cell S.length), some (.cell (S.length + 1)), some (.cell (S.length + 2)), some .non, v7, v8]) (fun R3 hR3 => ?_) ?_
      · simp only [ySet_app, xC_app, enso_out, ens_ok, enso_nx, List.set_cons_succ, List.set_cons_zero]
        exact hR3 _ _ ⟨rfl, rfl⟩
      rintro e S2 ⟨rfl, rfl⟩
      refine ens_sq (fun e S2 => ∃ (ks : List Nat) (v7 v8 : Option D), Bst bs ws ps dn bs.length ks ∧ ks.length ≤ 1 ∧ S2 = St3 S ps dn fd ∧ e = [some (bxsD bs), some (wsD ws), some (plD ps), some (.cell S.length), some (.cell (S.length + 1)), some (.cell (S.length + 2)), some (bD bs ws dn ks), v7, v8]) (fun R3 hR3 => ?_) ?_
      · simp only [yFor_app, iSrcA_app, xCons_app, xFn_app, xNil_app, xVar_app, List.getElem?_cons_zero, List.getElem?_cons_succ, Res.bind_ok, lb, enso_out, ens_srcR1]
        refine ⟨rng62_of (by omega) (by omega), ?_⟩
        rw [Int.toNat_natCast]
        refine ens_fr (fun i e S2 => ∃ (ks : List Nat) (v7 v8 : Option D), Bst bs ws ps dn i ks ∧ ks.length ≤ 1 ∧ S2 = St3 S ps dn fd ∧ e = [some (bxsD bs), some (wsD ws), some (plD ps), some (.cell S.length), some (.cell (S.length + 1)), some (.cell (S.length + 2)), some (bD bs ws dn ks), v7, v8]) ⟨[], v7, v8, ⟨by simp, by simp, fun ⟨j, hj, _⟩ => by omega, by simp⟩, by simp, rfl, rfl⟩ ?_ ?_
        · rintro i d e S2 R4 hd ⟨ks, v7, v8, hB, hl, rfl, rfl⟩ hR4
          obtain ⟨rfl, hi⟩ := irange_get hd
          simp only [gN_app, enso_nx, List.set_cons_succ, List.set_cons_zero, Int.zero_add]
          exact bo_step h hps dl h60 (by omega) hB hl fun ks5 w8 q1 q2 => hR4 _ _ ⟨ks5, _, w8, q1, q2, rfl, rfl⟩
        · rintro e S2 ⟨ks, v7, v8, hB, hl, rfl, rfl⟩
          rw [irange_length] at hB
          exact hR3 _ _ ⟨ks, v7, v8, hB, hl, rfl, rfl⟩
      rintro e S2 ⟨ks, v7, v8, hB, hl, rfl, rfl⟩
      have kne := hB.ne ⟨j0, by omega, hd0⟩
      obtain ⟨k, rfl⟩ : ∃ k, ks = [k] := by
        match ks, kne, hl with
        | [k], _, _ => exact ⟨k, rfl⟩
      obtain ⟨ki, kd⟩ := hB.inn k (by simp)
      have ktop := hB.top k (by simp)
      have al : fd.length < 16000000 := by omega
      have l1 : ∀ S, dIx (lookD (ch bs ws dn k) k) (.int 1) S = .ok (.int (k : Int)) S := fun S => by unfold lookD; simp
      refine ens_sq (fun e S2 => S2 = St3 S ps dn (fd ++ [k]) ∧ e = [some (bxsD bs), some (wsD ws), some (plD ps), some (.cell S.length), some (.cell (S.length + 1)), some (.cell (S.length + 2)), some (lookD (ch bs ws dn k) k), v7, v8]) (fun R3 hR3 => ?_) ?_
      · have c2 : (St3 S ps dn fd)[S.length + 2]? = some (.lst (fd.map fun (m : Nat) => D.int (m : Int))) := by rw [List.getElem?_append_right (by omega)]; simp
        have s2 : ∀ x, (St3 S ps dn fd).set (S.length + 2) x = S ++ [.lst ((lfI ps dn).map D.int), .lst (dn.map fun (m : Nat) => D.int (m : Int)), x] := fun x => by
          rw [List.set_append_right _ _ (by omega)]; simp
        simp only [bD, yExpr_app, xMt_app, xCons_app, xNil_app, xOp_app, xC_app, xVar_app, List.getElem?_cons_zero, List.getElem?_cons_succ, Res.bind_ok, isT, c2, beq_self_eq_true, if_true, l1, mAppend, cellL, List.length_map, if_pos al, s2, enso_out, ens_ok, enso_nx]
        exact hR3 _ _ ⟨by simp, rfl⟩
      rintro e S2 ⟨rfl, rfl⟩
      have c02 : (St3 S ps dn (fd ++ [k]))[S.length]? = some (.lst ((lfI ps dn).map D.int)) := app_at0 rfl
      have at0 : L2.atI ((lfI ps dn).map D.int) (k : Int) = some (.int ((ps.getD k 0 : Int) - (dn.getD k 0 : Int))) := by
        rw [atI_nat (by rw [List.getElem?_map, lfI_get lpd (by omega)]; rfl)]
      have ixk : ixN (lfI ps dn).length (k : Int) = some k := by
        unfold ixN
        rw [if_pos (by omega)]
        simp [lfI_length lpd]; omega
      have eL : ((lfI ps dn).map D.int).set k (.int ((ps.getD k 0 : Int) - (dn.getD k 0 : Int) - 1)) = (lfI ps (bump dn k)).map D.int := by rw [lfI_bump lpd (by omega), List.map_set]
      refine ens_sq (fun e S2 => S2 = S ++ [.lst ((lfI ps (bump dn k)).map D.int), .lst (dn.map fun (m : Nat) => D.int (m : Int)), .lst ((fd ++ [k]).map fun (m : Nat) => D.int (m : Int))] ∧ e = [some (bxsD bs), some (wsD ws), some (plD ps), some (.cell S.length), some (.cell (S.length + 1)), some (.cell (S.length + 2)), some (lookD (ch bs ws dn k) k), v7, v8]) (fun R3 hR3 => ?_) ?_
      · unfold yAugSub
        simp only [xVar_app, xC_app, xOp_app, List.getElem?_cons_zero, List.getElem?_cons_succ, Res.bind_ok, l1, Res.out_ok, getL, c02, at0, if_pos (show (0 : Int) ≤ (k : Int) by omega), ipSub_ok, setL, List.length_map, ixk, eL, app_set0, enso_nx]
        exact hR3 _ _ ⟨rfl, rfl⟩
      rintro e S2 ⟨rfl, rfl⟩
      have cn2 : (S ++ [.lst ((lfI ps (bump dn k)).map D.int), .lst (dn.map fun (m : Nat) => D.int (m : Int)), .lst ((fd ++ [k]).map fun (m : Nat) => D.int (m : Int))])[S.length + 1]? = some (.lst (dn.map fun (m : Nat) => D.int (m : Int))) := app_at1 rfl
      have at1 : L2.atI (dn.map fun (m : Nat) => D.int (m : Int)) (k : Int) = some (.int (dn.getD k 0 : Nat)) := by
        rw [atI_nat (by rw [List.getElem?_map, List.getElem?_eq_getElem (show k < dn.length by omega)]; rfl), List.getD_eq_getElem?_getD, List.getElem?_eq_getElem (show k < dn.length by omega)]
        rfl
      have ixd : ixN dn.length (k : Int) = some k := by
        unfold ixN
        rw [if_pos (by omega)]
        simp; omega
      have sb := lfI_sum lpd (show k < ps.length by omega)
      unfold yAugSub
      simp only [xVar_app, xC_app, xOp_app, List.getElem?_cons_zero, List.getElem?_cons_succ, Res.bind_ok, l1, Res.out_ok, getL, cn2, at1, if_pos (show (0 : Int) ≤ (k : Int) by omega), ipAdd_ok, setL, List.length_map, ixd, app_set1, enso_nx]
      rw [← bump_map]
      refine ⟨⟨fd ++ [k], bump dn k, _, _, _, ⟨by rw [bump_length]; exact dl, fun j hj => ?_, fun x hx => ?_, fun j hj => ?_, by rw [sb]; simp; omega, fun o ho => ?_⟩, rfl, rfl⟩, ?_⟩
      · rw [bump_get (by omega)]
        have := dle j hj
        by_cases q : j = k
        · rw [if_pos q, q]; omega
        · rw [if_neg q]; omega
      · rcases List.mem_append.mp hx with y | y
        · exact fin_ x y
        · rw [List.mem_singleton.mp y]; omega
      · rw [bump_get (by omega), List.count_append, fcnt j hj, List.count_singleton]
        by_cases q : j = k
        · subst q; simp
        · have : ¬ (k == j) = true := by simpa using fun z => q z.symm
          rw [if_neg q, if_neg this]
      · rw [List.append_assoc]
        exact fgr _ ⟨by omega, kd, fun j hj hd => ktop j (by omega) hd, ho⟩
      · rw [app_at0 rfl]
        simp only [intsOf_map]
        omega
    rintro e S' ⟨fd, dn, v6, v7, v8, ⟨dl, dle, fin_, fcnt, flen, fgr⟩, hs, rfl, rfl⟩
    have lpd : ps.length = dn.length := by omega
    have nn := lfI_nonneg lpd (fun j hj => dle j (by omega))
    have s0 : (lfI ps dn).sum = 0 := by have := sum_nonneg nn; omega
    have deq : ∀ j < ps.length, dn.getD j 0 = ps.getD j 0 := fun j hj => by
      have hm : (lfI ps dn)[j]'(by rw [lfI_length lpd]; exact hj) ∈ lfI ps dn := List.getElem_mem _
      have h1 := mem_le_sum nn hm
      have e := lfI_get lpd hj
      rw [List.getElem?_eq_getElem (by rw [lfI_length lpd]; exact hj)] at e
      have e2 := Option.some.inj e
      have := dle j (by omega)
      omega
    have c2 : (St3 S ps dn fd)[S.length + 2]? = some (.lst (fd.map fun (m : Nat) => D.int (m : Int))) := by rw [List.getElem?_append_right (by omega)]; simp
    have s2 : ∀ x, (St3 S ps dn fd).set (S.length + 2) x = S ++ [.lst ((lfI ps dn).map D.int), .lst (dn.map fun (m : Nat) => D.int (m : Int)), x] := fun x => by
      rw [List.set_append_right _ _ (by omega)]; simp
    simp [frzE, frz, c2, s2]
    refine hR _ _ ⟨fd, dn, v6, v7, v8, ⟨fun i hi => ?_, by omega, fin_⟩, by omega, ?_, rfl, rfl⟩
    · rw [fcnt i (by omega), deq i hi, List.getD_eq_getElem?_getD, List.getElem?_eq_getElem hi]
      rfl
    · have := fgr [] trivial
      rwa [List.append_nil] at this
  rintro e S' ⟨os, dn, v6, v7, v8, ho, hl, hg, rfl, rfl⟩
  simp
  rw [fin_cut rfl hS (by unfold plD D.under; exact underL_nats _), ens_ok]
  exact ⟨os, rfl, ho, hl, hg, rfl⟩
/-! ### guards asked with things that are none -/
def Pln : D → Prop
  | .int _ | .bl _ | .non | .str _ | .tup _ | .lst _ => True
  | _ => False
def Pq (d : D) : Prop := Pln d ∧ (∀ l, d = .lst l → l.length ≤ 1000 ∧ ∀ x ∈ l, Pln x) ∧ ∀ l, d = .tup l → l.length ≤ 1000 ∧ ∀ x ∈ l, Pln x
def isNum : D → Bool
  | .int _ => true
  | _ => false
theorem num_g {d : D} (h : Pln d) (S : Store) : F_is_number [d] S = .ok (.bl (isNum d)) S := by
  rw [← ens_eq]
  refine ens_fn rfl ?_
  unfold b_is_number
  cases d with
  | int i => simp [isNum]
  | bl b => simp [isNum, bIsi, tyOf]
  | non => simp [isNum, bIsi, tyOf]
  | str s => simp [isNum, bIsi, tyOf]
  | tup l => simp [isNum, bIsi, tyOf]
  | lst l => simp [isNum, bIsi, tyOf]
  | _ => exact h.elim
def numsB (d : D) (n : Int) : Bool := match d with
  | .lst l => decide ((l.length : Int) = n) && l.all isNum
  | _ => false
theorem nums_g {d : D} (h : Pq d) (n : Int) (S : Store) : F_are_numbers [d, .int n] S = .ok (.bl (numsB d n)) S := by
  obtain ⟨hp, hl, _⟩ := h
  rw [← ens_eq]
  refine ens_fn rfl ?_
  unfold b_are_numbers
  simp only [List.map_cons, List.map_nil, List.replicate, List.cons_append, List.nil_append]
  have no : ∀ d : D, bIsi [d, .raw (.ty "list")] S = .ok (.bl false) S → numsB d n = false → EnsO (ySeq (yIf (xOr (xNot (xTru (xFn bIsi (xCons (xVar 0) (xCons (xC (.raw (.ty "list"))) xNil))))) (xIsT (xOp dNe (xFn bLen (xCons (xVar 0) xNil)) (xVar 1)))) (yRet (xC (.bl false))) yNil)
    (yRet (xOp dEq (xFn bLen (xCons (xLc mkF (iSrc srcL (xVar 0)) (eN 2) (xNot (xTru (xFn F_is_number (xCons (xVar 2) xNil)))) (xVar 2) [2]) xNil)) (xC (.int 0)))) [some d, some (.int n), none] S) { nx := fun _ S' => Ens (fin false S.length .non S') fun d' S'' => d' = D.bl (numsB d n) ∧ S'' = S, rt := fun d_1 S' => Ens (fin false S.length d_1 S') fun d' S'' => d' = D.bl (numsB d n) ∧ S'' = S } := fun d h1 h2 => by
    refine ens_sq (fun e S' => False) (fun R hR => ?_) (fun e S' h => h.elim)
    simp [h1, h2]
  cases d with
  | lst l =>
    obtain ⟨l1, l2⟩ := hl l rfl
    refine ens_sq (fun e S' => S' = S ∧ (l.length : Int) = n ∧ e = [some (.lst l), some (.int n), none]) (fun R hR => ?_) ?_
    · by_cases q : (l.length : Int) = n
      · simp [q]
        exact hR _ _ ⟨rfl, q, rfl⟩
      · simp [q, numsB]
    rintro e S' ⟨rfl, q, rfl⟩
    have hc : lcL (fun _ => True) (eN 2) (xNot (xTru (xFn F_is_number (xCons (xVar 2) xNil)))) (xVar 2) [some (.lst l), some (.int n), none] l [] S' = .ok (l.filter fun x => !isNum x) S' := by
      have := lc_filt (g := eN 2) (c := xNot (xTru (xFn F_is_number (xCons (xVar 2) xNil)))) (f := xVar 2) (e0 := [some (.lst l), some (.int n), none]) (S := S') (fun x : D => x) (fun x : D => x) (fun x => !isNum x) l [] (fun a ha => ⟨_, rfl, by simp [num_g (l2 a ha)]⟩) (by simp; omega)
      rw [List.map_id', List.map_id', List.nil_append] at this
      exact this
    simp only [yRet_app, xOp_app, xFn_app, xCons_app, xNil_app, xLc_app, iSrc_app, xC_app, xVar_app, List.getElem?_cons_zero, List.getElem?_cons_succ, Res.bind_ok, srcL_lst, wipeE_cons, wipeE_nil, List.set_cons_succ, List.set_cons_zero, hc, mkF_app, bLen_lst, dEq_int, enso_out, ens_ok, enso_rt, fin_same]
    refine ⟨?_, trivial⟩
    show _ = D.bl (decide ((l.length : Int) = n) && l.all isNum)
    rw [decide_eq_true q, Bool.true_and]
    congr 1
    rw [Bool.eq_iff_iff, decide_eq_true_iff, List.all_eq_true]
    constructor
    · intro z x hx
      have z2 : (l.filter fun x => !isNum x) = [] := List.length_eq_zero_iff.mp (by omega)
      have := List.filter_eq_nil_iff.mp z2 x hx
      simpa using this
    · intro z
      have z2 : (l.filter fun x => !isNum x) = [] := List.filter_eq_nil_iff.mpr fun x hx => by simp [z x hx]
      rw [z2]
      rfl
  | int i => exact no _ (by simp [bIsi, tyOf]) rfl
  | bl b => exact no _ (by simp [bIsi, tyOf]) rfl
  | non => exact no _ (by simp [bIsi, tyOf]) rfl
  | str s => exact no _ (by simp [bIsi, tyOf]) rfl
  | tup l => exact no _ (by simp [bIsi, tyOf]) rfl
  | _ => exact hp.elim
theorem ints_of : ∀ {l : List D}, l.all isNum = true → ∃ zs : List Int, l = zs.map D.int
  | [], _ => ⟨[], rfl⟩
  | d :: l, h => by
    rw [List.all_cons, Bool.and_eq_true] at h
    obtain ⟨zs, rfl⟩ := ints_of h.2
    cases d with
    | int i => exact ⟨i :: zs, rfl⟩
    | _ => exact absurd h.1 (by simp [isNum])
theorem nums_ints {d : D} {n : Int} (h : numsB d n = true) : ∃ zs : List Int, d = .lst (zs.map D.int) ∧ (zs.length : Int) = n := by
  unfold numsB at h
  split at h
  · rename_i l
    rw [Bool.and_eq_true, decide_eq_true_iff] at h
    obtain ⟨zs, rfl⟩ := ints_of h.2
    exact ⟨zs, rfl, by simpa using h.1⟩
  · cases h
def NoW (n : Nat) (d : D) : Prop := Pq d ∧ ¬ ∃ zs : List Int, d = .lst (zs.map D.int) ∧ zs.length = n ∧ (∀ z ∈ zs, 0 ≤ z) ∧ ∃ z ∈ zs, 0 < z
def NoP (n : Nat) (d : D) : Prop := Pq d ∧ ¬ ∃ zs : List Int, d = .lst (zs.map D.int) ∧ zs.length = n ∧ ∀ z ∈ zs, 0 ≤ z ∧ z ≤ 60
theorem weights_no {n : Nat} {d : D} (n1 : 1 ≤ n) (h : NoW n d) (S : Store) : F_are_weights [d, .int (n : Int)] S = .ok (.bl false) S := by
  rw [← ens_eq]
  refine ens_fn rfl ?_
  unfold b_are_weights
  simp only [List.map_cons, List.map_nil, List.replicate, List.cons_append, List.nil_append, yRet_app, xAndV_app, xFn_app, xCons_app, xNil_app, xVar_app, List.getElem?_cons_zero, List.getElem?_cons_succ, Res.bind_ok, nums_g h.1]
  cases q : numsB d n with
  | false => simp
  | true =>
    obtain ⟨zs, rfl, zl⟩ := nums_ints q
    have zne : zs ≠ [] := fun z => by subst z; simp at zl; omega
    simp [bMin_ok zne, bMax_ok zne]
    by_cases h1 : 0 ≤ minL zs
    · by_cases h2 : 0 < maxL zs
      · exact absurd ⟨zs, rfl, by omega, fun z hz => Int.le_trans h1 (minL_le hz), _, maxL_mem zne, h2⟩ h.2
      · simp [h1, h2]
    · simp [h1]
theorem plan_no {bs : List Bx} {d : D} (n1 : 1 ≤ bs.length) (h : NoP bs.length d) (S : Store) : F_is_plan [bxsD bs, d] S = .ok (.bl false) S := by
  have lb : ∀ S, bLen [bxsD bs] S = .ok (.int bs.length) S := fun S => by unfold bxsD; simp
  rw [← ens_eq]
  refine ens_fn rfl ?_
  unfold b_is_plan
  simp only [List.map_cons, List.map_nil, List.replicate, List.cons_append, List.nil_append, yRet_app, xAndV_app, xFn_app, xCons_app, xNil_app, xVar_app, List.getElem?_cons_zero, List.getElem?_cons_succ, Res.bind_ok, lb, nums_g h.1]
  cases q : numsB d bs.length with
  | false => simp
  | true =>
    obtain ⟨zs, rfl, zl⟩ := nums_ints q
    have zne : zs ≠ [] := fun z => by subst z; simp at zl; omega
    simp [bMin_ok zne, bMax_ok zne]
    by_cases h1 : 0 ≤ minL zs
    · by_cases h2 : maxL zs ≤ 60
      · exact absurd ⟨zs, rfl, by omega, fun z hz => ⟨Int.le_trans h1 (minL_le hz), Int.le_trans (maxL_ge hz) h2⟩⟩ h.2
      · simp [h1, h2]
    · simp [h1]
def isBox : D → Bool
  | .tup [.int a, .int b, .int c] => decide (1 ≤ a) && (decide (a ≤ 60) && (decide (1 ≤ b) && (decide (b ≤ c) && decide (c ≤ 50))))
  | _ => false
theorem box_g {d : D} (h : Pq d) (S : Store) : F_is_box [d] S = .ok (.bl (isBox d)) S := by
  obtain ⟨hp, _, ht⟩ := h
  rw [← ens_eq]
  refine ens_fn rfl ?_
  unfold b_is_box
  simp only [List.map_cons, List.map_nil, List.replicate, List.cons_append, List.nil_append]
  cases d with
  | tup l =>
    obtain ⟨l1, l2⟩ := ht l rfl
    have pq : Pq (.lst l) := ⟨trivial, fun l' e => by cases e; exact ⟨l1, l2⟩, fun l' e => by cases e⟩
    have bl : bList mkF [.tup l] S = .ok (.lst l) S := by simp [bList]
    cases q : numsB (.lst l) 3 with
    | false =>
      have : isBox (.tup l) = false := by
        unfold isBox
        split
        · rename_i e; cases e; simp [numsB, isNum] at q
        · rfl
      refine ens_sq (fun e S' => False) (fun R hR => ?_) (fun e S' h => h.elim)
      simp [bl, nums_g pq, q, this]
    | true =>
      obtain ⟨zs, e, zl⟩ := nums_ints q
      cases e
      match zs, zl with
      | [a, b, c], _ =>
        have q := nums_g pq 3 S
        have q2 : numsB (.lst (List.map D.int [a, b, c])) 3 = true := by assumption
        rw [q2] at q
        simp only [List.map_cons, List.map_nil] at q bl
        simp only [List.map_cons, List.map_nil]
        refine ens_sq (fun e S' => S' = S ∧ e = [some (.tup [.int a, .int b, .int c]), none, none, none]) (fun R hR => ?_) ?_
        · simp [bl, q]
          exact hR _ _ ⟨rfl, rfl⟩
        rintro e S' ⟨rfl, rfl⟩
        refine ens_sq (fun e S2 => S2 = S' ∧ e = [some (.tup [.int a, .int b, .int c]), some (.int a), some (.int b), some (.int c)]) (fun R hR => ?_) ?_
        · simp [gT, gsCons, gsNil, gN, Out.seq]
          exact hR _ _ ⟨rfl, rfl⟩
        rintro e S2 ⟨rfl, rfl⟩
        unfold isBox
        by_cases h1 : 1 ≤ a
        · by_cases h2 : a ≤ 60
          · by_cases h3 : 1 ≤ b
            · by_cases h4 : b ≤ c
              · by_cases h5 : c ≤ 50 <;> simp [h1, h2, h3, h4, h5]
              · simp [h1, h2, h3, h4]
            · simp [h1, h2, h3]
          · simp [h1, h2]
        · simp [h1]
      | [], z => simp at z
      | [_], z => simp at z
      | [_, _], z => simp at z
      | _ :: _ :: _ :: _ :: _, z => simp at z; omega
  | int i => 
    refine ens_sq (fun e S' => False) (fun R hR => ?_) (fun e S' h => h.elim)
    simp [bIsi, tyOf, isBox]
  | bl i => 
    refine ens_sq (fun e S' => False) (fun R hR => ?_) (fun e S' h => h.elim)
    simp [bIsi, tyOf, isBox]
  | non => 
    refine ens_sq (fun e S' => False) (fun R hR => ?_) (fun e S' h => h.elim)
    simp [bIsi, tyOf, isBox]
  | str i => 
    refine ens_sq (fun e S' => False) (fun R hR => ?_) (fun e S' h => h.elim)
    simp [bIsi, tyOf, isBox]
  | lst i => 
    refine ens_sq (fun e S' => False) (fun R hR => ?_) (fun e S' h => h.elim)
    simp [bIsi, tyOf, isBox]
  | _ => exact hp.elim
def NoB (d : D) : Prop := Pln d ∧ ∀ l, d = .lst l → l.length < 1 ∨ 6 < l.length ∨ (∀ x ∈ l, Pq x) ∧ ∃ x ∈ l, isBox x = false
theorem boxes_no {d : D} (h : NoB d) (S : Store) : F_must_be_boxes [d] S = .exc ⟨"NoBoxes", none⟩ S := by
  obtain ⟨hp, hl⟩ := h
  have no : bIsi [d, .raw (.ty "list")] S = .ok (.bl false) S → F_must_be_boxes [d] S = .exc ⟨"NoBoxes", none⟩ S := fun q => by
    refine fn_exc (e := [some d, none]) rfl ?_
    unfold b_must_be_boxes
    simp [q]
  cases d with
  | lst l =>
    refine fn_exc (e := [some (.lst l), none]) rfl ?_
    unfold b_must_be_boxes
    rcases hl l rfl with q | q | ⟨q1, x, hx, q2⟩
    · have q' : l.length = 0 := by omega
      simp [q']
    · have q' : (6 : Int) < l.length := by omega
      by_cases z : (l.length : Int) < 1
      · simp [z]
      · simp [z, q']
    · by_cases z : (l.length : Int) < 1
      · simp [z]
      · by_cases z2 : (6 : Int) < l.length
        · simp [z, z2]
        · have hc : lcL (fun _ => True) (eN 1) (xNot (xTru (xFn F_is_box (xCons (xVar 1) xNil)))) (xVar 1) [some (.lst l), none] l [] S = .ok (l.filter fun x => !isBox x) S := by
            have := lc_filt (g := eN 1) (c := xNot (xTru (xFn F_is_box (xCons (xVar 1) xNil)))) (f := xVar 1) (e0 := [some (.lst l), none]) (S := S) (fun x : D => x) (fun x : D => x) (fun x => !isBox x) l [] (fun a ha => ⟨_, rfl, by simp [box_g (q1 a ha)]⟩) (by simp; omega)
            rw [List.map_id', List.map_id', List.nil_append] at this
            exact this
          have hm : 0 < (l.filter fun x => !isBox x).length := List.length_pos_of_mem (List.mem_filter.mpr ⟨hx, by simp [q2]⟩)
          simp [z, z2, hc, hm]
  | int i => exact no (by simp [bIsi, tyOf])
  | bl b => exact no (by simp [bIsi, tyOf])
  | non => exact no (by simp [bIsi, tyOf])
  | str s => exact no (by simp [bIsi, tyOf])
  | tup l => exact no (by simp [bIsi, tyOf])
  | _ => exact hp.elim
def NoO (n : Nat) (ps : List Nat) (d : D) : Prop := Pq d ∧ ∀ zs : List Int, d = .lst (zs.map D.int) → ¬ (((List.range n).map fun (i : Nat) => ((zs.count (i : Int) : Nat) : Int)) = ps.map (fun (m : Nat) => (m : Int)) ∧ (zs.length : Int) = (ps.map fun (m : Nat) => (m : Int)).sum)
theorem order_no {bs : List Bx} {ps : List Nat} {d : D} (h6 : bs.length ≤ 6) (h : NoO bs.length ps d) (S : Store) : F_must_be_order [bxsD bs, plD ps, d] S = .exc ⟨"NoOrder", none⟩ S := by
  obtain ⟨⟨hp, hl, ht⟩, hn⟩ := h
  have lb : ∀ S, bLen [bxsD bs] S = .ok (.int bs.length) S := fun S => by unfold bxsD; simp
  refine fn_exc (e := [some (bxsD bs), some (plD ps), some d, none]) rfl ?_
  unfold b_must_be_order
  simp only [List.map_cons, List.map_nil, List.replicate, List.cons_append, List.nil_append]
  have no : bIsi [d, .raw (.ty "list")] S = .ok (.bl false) S → b_must_be_order [some (bxsD bs), some (plD ps), some d, none] S = .exc ⟨"NoOrder", none⟩ [some (bxsD bs), some (plD ps), some d, none] S := fun q => by
    unfold b_must_be_order
    simp [q]
  unfold b_must_be_order at no
  cases d with
  | lst l =>
    have nb : ∀ n, F_are_numbers [.lst l, .int n] S = .ok (.bl (numsB (.lst l) n)) S := fun n => nums_g ⟨hp, hl, ht⟩ n S
    cases q : numsB (.lst l) l.length with
    | false => simp [nb, q]
    | true =>
      obtain ⟨zs, e, zl⟩ := nums_ints q
      cases e
      have cz : ∀ (k : Nat) (S : Store), mCountD (.lst (zs.map D.int)) [.int (k : Int)] S = .ok (.int (zs.count (k : Int) : Nat)) S := fun k S => by
        unfold mCountD
        have e1 : toP S 60 (.int (k : Int)) = some (.int k) := by simp [toP]
        simp only [e1, getQ_lst, Option.bind_some, toPs_ints]
        have : ∀ l : List Int, (l.map PyData.int).countP (fun y => PyData.eqv y (.int (k : Int))) = l.count (k : Int) := fun l => by
          induction l with
          | nil => rfl
          | cons a l ih => rw [List.map_cons, List.countP_cons, List.count_cons, ih]; simp [PyData.eqv]
        rw [this]
      have hs : srcR1 [.int (bs.length : Int)] S = .ok ⟨irange 0 bs.length, fun _ => True⟩ S := by
        rw [srcR1_app, if_pos (rng62_of (by omega) (by omega)), Int.toNat_natCast]
      have it : ∀ S, isT "list" (.lst (zs.map D.int)) S = true := fun S => rfl
      have hc : lcL (fun _ => True) (eN 3) cYes (xMt "list" mCountD (xVar 2) (xCons (xVar 3) xNil)) [some (bxsD bs), some (plD ps), some (.lst (zs.map D.int)), none] (irange 0 bs.length) [] S = .ok ((List.range bs.length).map fun (i : Nat) => D.int ((zs.count (i : Int) : Nat) : Int)) S := by
        have := lc_rng (g := eN 3) (f := xMt "list" mCountD (xVar 2) (xCons (xVar 3) xNil)) (e0 := [some (bxsD bs), some (plD ps), some (.lst (zs.map D.int)), none]) (S := S) (fun (i : Nat) => D.int ((zs.count (i : Int) : Nat) : Int)) (List.range bs.length) 0 [] (fun i hi => ⟨_, rfl, by
          simp only [List.set_cons_succ, List.set_cons_zero, xMt_app, xVar_app, xCons_app, xNil_app, List.getElem?_cons_zero, List.getElem?_cons_succ, Res.bind_ok, it, if_true, Int.zero_add, cz, List.getElem_range]⟩) (by simp; omega)
        rw [List.length_range] at this
        exact this
      have bi : bIsi [.lst (zs.map D.int), .raw (.ty "list")] S = .ok (.bl true) S := by simp
      have ll : bLen [.lst (zs.map D.int)] S = .ok (.int zs.length) S := by simp
      have sp : bSum [plD ps] S = .ok (.int (ps.map fun (m : Nat) => (m : Int)).sum) S := by rw [plD_ints, bSum_ok]
      have nbt : F_are_numbers [.lst (zs.map D.int), .int zs.length] S = .ok (.bl true) S := by
        rw [List.length_map] at q
        rw [nb, q]
      have e1 : toP S 60 (.lst ((List.range bs.length).map fun (i : Nat) => D.int ((zs.count (i : Int) : Nat) : Int))) = some (.list (((List.range bs.length).map fun (i : Nat) => ((zs.count (i : Int) : Nat) : Int)).map PyData.int)) := by
        have : ((List.range bs.length).map fun (i : Nat) => D.int ((zs.count (i : Int) : Nat) : Int)) = ((List.range bs.length).map fun (i : Nat) => ((zs.count (i : Int) : Nat) : Int)).map D.int := by rw [List.map_map]; rfl
        rw [this, toP, toPs_ints]
        rfl
      have e2 : toP S 60 (plD ps) = some (.list ((ps.map fun (m : Nat) => (m : Int)).map PyData.int)) := by
        rw [plD_ints, toP, toPs_ints]
        rfl
      have ne := dNe_of e1 e2
      have ev : ∀ a b : List Int, PyData.eqv (.list (a.map PyData.int)) (.list (b.map PyData.int)) = decide (a = b) := fun a b => by
        have : ∀ a b : List Int, PyData.eqvAll (a.map PyData.int) (b.map PyData.int) = decide (a = b) := fun a => by
          induction a with
          | nil => intro b; cases b <;> simp [PyData.eqvAll]
          | cons x a ih => intro b; cases b with
            | nil => simp [PyData.eqvAll]
            | cons y b => simp [PyData.eqvAll, PyData.eqv, ih]; rfl
        simp [PyData.eqv, this]
      rw [ev] at ne
      have hz := hn zs rfl
      by_cases c1 : ((List.range bs.length).map fun (i : Nat) => ((zs.count (i : Int) : Nat) : Int)) = ps.map (fun (m : Nat) => (m : Int))
      · have c2 : ¬ (zs.length : Int) = (ps.map fun (m : Nat) => (m : Int)).sum := fun z => hz ⟨c1, z⟩
        rw [decide_eq_true c1] at ne
        simp only [ySeq_app, yIf_app, xOr_app, xNot_app, xTru_app, xIsT_app, xOp_app, xLc_app, iSrcA_app, xFn_app, xCons_app, xNil_app, xC_app, xVar_app, List.getElem?_cons_zero, List.getElem?_cons_succ, Res.bind_ok, bi, tru_bl, Bool.not_true, Bool.false_eq_true, if_false, ll, nbt, Res.out_ok, yNil_app, Out.seq_nx, lb, hs, wipeE_cons, wipeE_nil, List.set_cons_succ, List.set_cons_zero, hc, mkF_app, ne, sp, dNe_int]
        simp [c2]
      · rw [decide_eq_false c1] at ne
        simp only [ySeq_app, yIf_app, xOr_app, xNot_app, xTru_app, xIsT_app, xOp_app, xLc_app, iSrcA_app, xFn_app, xCons_app, xNil_app, xC_app, xVar_app, List.getElem?_cons_zero, List.getElem?_cons_succ, Res.bind_ok, bi, tru_bl, Bool.not_true, Bool.false_eq_true, if_false, ll, nbt, Res.out_ok, yNil_app, Out.seq_nx, lb, hs, wipeE_cons, wipeE_nil, List.set_cons_succ, List.set_cons_zero, hc, mkF_app, ne]
        simp
  | int i => exact no (by simp [bIsi, tyOf])
  | bl b => exact no (by simp [bIsi, tyOf])
  | non => exact no (by simp [bIsi, tyOf])
  | str s => exact no (by simp [bIsi, tyOf])
  | tup l => exact no (by simp [bIsi, tyOf])
  | _ => exact hp.elim
theorem sIx_n {n d k : Nat} : HT.sIx n d (some (k : Int)) = min k n := by rw [HT.sIx_nat]
theorem dl_ix {l : List D} {i : Nat} (h : i < l.length) (S : Store) : dIx (.lst l) (.int (i : Int)) S = .ok l[i] S := by
  simp only [dIx, getQ_lst, atI_nat (xs := l) (j := i) (v := l[i]) (List.getElem?_eq_getElem h)]
theorem dl_to (l : List D) (b : Nat) (S : Store) : slD mkF (.lst l) none (some (b : Int)) S = .ok (.lst (l.take (min b l.length))) S := by
  unfold slD
  have a1 : HT.sIx l.length 0 none = 0 := by simp [HT.sIx]
  simp only [getQ_lst, sIx_n, a1, List.drop_zero, Nat.sub_zero, mkF_app]
theorem dl_from (l : List D) (a : Nat) (S : Store) : slD mkF (.lst l) (some (a : Int)) none S = .ok (.lst (l.drop (min a l.length))) S := by
  unfold slD
  have a1 : HT.sIx l.length l.length none = l.length := by simp [HT.sIx]
  simp only [getQ_lst, sIx_n, a1, mkF_app]
  rw [List.take_of_length_le (by rw [List.length_drop]; exact Nat.le_refl _)]
theorem dl_add (a b : List D) (S : Store) (h : a.length + b.length ≤ 16000000) : dAdd mkF (.lst a) (.lst b) S = .ok (.lst (a ++ b)) S := by
  simp only [dAdd, getL, if_pos h, mkF_app]
theorem dl_pick (l : List Int) {r : Int} (h0 : 0 ≤ r) (h1 : r < l.length) (S : Store) : ∃ v ∈ l, dIx (.lst (l.map D.int)) (.int r) S = .ok (.int v) S := by
  have hi : r.toNat < l.length := by omega
  refine ⟨l[r.toNat], List.getElem_mem _, ?_⟩
  have := dl_ix (l := l.map D.int) (i := r.toNat) (by rw [List.length_map]; exact hi) S
  rw [Int.toNat_of_nonneg h0] at this
  rw [this, List.getElem_map]
theorem dt_add (a b : List D) (S : Store) (ha : a ≠ []) (hb : b ≠ []) (h : a.length + b.length ≤ 16000000) : dAdd mkF (.tup a) (.tup b) S = .ok (.tup (a ++ b)) S := by
  simp only [dAdd, if_pos (⟨ha, hb, h⟩ : a ≠ [] ∧ b ≠ [] ∧ a.length + b.length ≤ 16000000)]
theorem dt_two (a b c : D) (S : Store) : slD mkF (.tup [a, b, c]) none (some 2) S = .ok (.tup [a, b]) S := by
  have a1 : HT.sIx 3 0 none = 0 := by simp [HT.sIx]
  have a2 : HT.sIx 3 3 (some 2) = 2 := sIx_n (k := 2)
  simp [slD, a1, a2]
/-! ### things that are no boxes, no numbers, no orders: drawn -/
theorem pq_tup {l : List D} (h : l.length ≤ 1000) (p : ∀ x ∈ l, Pln x) : Pq (.tup l) := ⟨trivial, fun l' e => (by cases e), fun l' e => (by cases e; exact ⟨h, p⟩)⟩
theorem pq_lst {l : List D} (h : l.length ≤ 1000) (p : ∀ x ∈ l, Pln x) : Pq (.lst l) := ⟨trivial, fun l' e => (by cases e; exact ⟨h, p⟩), fun l' e => (by cases e)⟩
theorem pq_bx (z : Bx) : Pq (bxD z) := pq_tup (by simp) (by simp [Pln])
theorem bxD_under (z : Bx) (k : Nat) : (bxD z).under k = true := rfl
theorem draw' {L n m : Nat} {T k : Int} {P : Store} (h : Pu L n m T P) (hk : 0 < k) (hk2 : k < 1000000000000000000000000000000000000000000000000000000000000) (hT : T < 1000000000000) :
    Ens (F__law_draw [.cell n, .int k] P) fun d S' => ∃ r : Int, Pu L n m (T + 1) S' ∧ d = .int r ∧ 0 ≤ r ∧ r < k := by
  have := draw_ok (R := []) h hk hk2 hT
  rw [List.append_nil] at this
  refine this.imp ?_
  rintro d S' ⟨P', r, rfl, h1, h2, h3, h4⟩
  rw [List.append_nil]
  exact ⟨r, h1, h2, h3, h4⟩
theorem dt_ix {l : List D} {r : Int} (h0 : 0 ≤ r) (h1 : r < l.length) (S : Store) : ∃ x ∈ l, dIx (.lst l) (.int r) S = .ok x S := by
  obtain ⟨x, hx, e⟩ := atI_mem h0 h1
  exact ⟨x, hx, by simp only [dIx, getQ_lst, e]⟩
def b6 (far c h o : Int) : List D := [.tup [.int 0, .int h, .int o], .tup [.int far, .int h, .int o], .tup [.int 61, .int h, .int o], .tup [.int (-1 - far), .int h, .int o], .tup [.int c, .int 0, .int o], .tup [.int c, .int (o + 1), .int o]]
def b5 (far c h o : Int) : List D := [.tup [.int c, .int (0 - h), .int o], .tup [.int c, .int 51, .int 51], .tup [.int c, .int h, .int far], .tup [.int c, .int 0, .int 0], .tup [.int c, .int h]]
def b8 (c h o : Int) : List D := [.tup [.bl true, .int 1, .int 1], .tup [.int c, .bl true, .int o], .tup [.int c, .int 1, .bl true], .tup [.str "1", .int h, .int o], .non, .lst [.int c, .int h, .int o], .int 5, .tup []]
def bbL (far c h o : Int) : List D := b6 far c h o ++ b5 far c h o ++ [.tup [.int c, .int h, .int o, .int 1]] ++ b8 c h o
theorem bbL_no {far c h o : Int} (hf : 61 ≤ far) (hz : BxOk (c, h, o)) : ∀ x ∈ bbL far c h o, Pq x ∧ isBox x = false ∧ ∀ k, D.under k x = true := by
  have h1 := hz.c1
  have h2 := hz.c2
  have h3 := hz.h1
  have h4 := hz.h2
  have h5 := hz.o
  simp only at h1 h2 h3 h4 h5
  intro x hx
  simp only [bbL, b6, b5, b8, List.cons_append, List.nil_append, List.mem_cons, List.not_mem_nil, or_false] at hx
  rcases hx with rfl | rfl | rfl | rfl | rfl | rfl | rfl | rfl | rfl | rfl | rfl | rfl | rfl | rfl | rfl | rfl | rfl | rfl | rfl | rfl
  all_goals refine ⟨?_, ?_, ?_⟩
  all_goals first
    | exact pq_tup (by simp) (by simp [Pln])
    | exact pq_lst (by simp) (by simp [Pln])
    | exact ⟨trivial, fun _ e => (by cases e), fun _ e => (by cases e)⟩
    | (intro k; rfl)
    | rfl
    | (simp [isBox]; done)
    | (simp [isBox]; omega)
theorem no_boxes_ok {L n m : Nat} {T : Int} {P0 : Store} {bs : List Bx} (h0 : Pu L n m T P0) (hT : T ≤ 100000) (hb : ∀ z ∈ bs, BxOk z) (b1 : 1 ≤ bs.length) (b6' : bs.length ≤ 6) : Ens (F__law_no_boxes [.cell n, bxsD bs] P0) fun d S' => NoB d ∧ (∀ k, D.under k d = true) ∧ Pu L n m (T + 10) S' := by
  have lb : ∀ S, bLen [bxsD bs] S = .ok (.int bs.length) S := fun S => by unfold bxsD; simp
  have p29 : ∀ S, dPow (.int 10) (.int 29) S = .ok (.int 100000000000000000000000000000) S := fun S => by simp [powOk]
  refine ens_fn rfl ?_
  unfold b__law_no_boxes
  simp only [List.map_cons, List.map_nil, List.replicate, List.cons_append, List.nil_append]
  refine ens_sq (fun e S' => ∃ far : Int, 61 ≤ far ∧ Pu L n m (T + 1) S' ∧ e = [some (.cell n), some (bxsD bs), some (.int far), none, none, none, none, none, none]) (fun R hR => ?_) ?_
  · simp only [ySet_app, xOp_app, xFn_app, xCons_app, xNil_app, xC_app, xVar_app, List.getElem?_cons_zero, List.getElem?_cons_succ, Res.bind_ok, p29, enso_out, ens_bind]
    refine (draw' h0 (by decide) (by decide) (by omega)).imp ?_
    rintro d S' ⟨r, hp, rfl, r0, r1⟩
    simp only [dAdd_int, ens_ok, enso_nx, List.set_cons_succ, List.set_cons_zero]
    exact hR _ _ ⟨61 + r, by omega, hp, rfl⟩
  rintro e P ⟨far, hf, h, rfl⟩
  refine ens_sq (fun e S' => ∃ a : Nat, a < bs.length ∧ Pu L n m (T + 2) S' ∧ e = [some (.cell n), some (bxsD bs), some (.int far), some (.int (a : Int)), none, none, none, none, none]) (fun R hR => ?_) ?_
  · simp only [ySet_app, xOp_app, xFn_app, xCons_app, xNil_app, xC_app, xVar_app, List.getElem?_cons_zero, List.getElem?_cons_succ, Res.bind_ok, lb, enso_out, ens_bind]
    refine (draw' h (by omega) (by omega) (by omega)).imp ?_
    rintro d S' ⟨r, hp, rfl, r0, r1⟩
    obtain ⟨a, rfl⟩ : ∃ a : Nat, r = (a : Int) := ⟨r.toNat, (Int.toNat_of_nonneg r0).symm⟩
    simp only [enso_nx, List.set_cons_succ, List.set_cons_zero]
    exact hR _ _ ⟨a, by omega, hp.mono (by omega), rfl⟩
  rintro e P ⟨a, ha, h, rfl⟩
  have bi : ∀ S, dIx (bxsD bs) (.int (a : Int)) S = .ok (bxD bs[a]) S := fun S => by have := bx_ix ha S; rwa [Int.zero_add] at this
  have hz := hb bs[a] (List.getElem_mem _)
  generalize bs[a] = z at *
  obtain ⟨c, hh, o⟩ := z
  refine ens_sq (fun e S' => S' = P ∧ e = [some (.cell n), some (bxsD bs), some (.int far), some (.int (a : Int)), none, none, some (.int c), some (.int hh), some (.int o)]) (fun R hR => ?_) ?_
  · simp only [yAsg_app, xOp_app, xVar_app, List.getElem?_cons_zero, List.getElem?_cons_succ, Res.bind_ok, bi, bxD, gT_app, gsCons_app, gsNil_app, gN_app, List.length_cons, List.length_nil, if_true, Out.seq, List.set_cons_succ, List.set_cons_zero, enso_out, ens_ok, enso_nx]
    exact hR _ _ ⟨rfl, rfl⟩
  rintro e S' ⟨rfl, rfl⟩
  refine ens_sq (fun e S2 => S2 = S' ∧ e = [some (.cell n), some (bxsD bs), some (.int far), some (.int (a : Int)), some (.lst (b6 far c hh o)), none, some (.int c), some (.int hh), some (.int o)]) (fun R hR => ?_) ?_
  · simp only [ySet_app, xLst_app, xTup_app, xOp_app, xUn_app, dNeg_ok, dSub_ok, dAdd_int, xCons_app, xNil_app, xC_app, xVar_app, List.getElem?_cons_zero, List.getElem?_cons_succ, Res.bind_ok, List.length_cons, List.length_nil, if_pos (show 0 + 1 + 1 + 1 ≤ 1000 by decide), if_pos (show 0 + 1 + 1 + 1 + 1 + 1 + 1 ≤ 1000 by decide), mkF_app, enso_out, ens_ok, enso_nx, List.set_cons_succ, List.set_cons_zero]
    exact hR _ _ ⟨rfl, rfl⟩
  rintro e S2 ⟨rfl, rfl⟩
  refine ens_sq (fun e S3 => S3 = S2 ++ [.lst (b6 far c hh o ++ b5 far c hh o)] ∧ e = [some (.cell n), some (bxsD bs), some (.int far), some (.int (a : Int)), some (.cell L), none, some (.int c), some (.int hh), some (.int o)]) (fun R hR => ?_) ?_
  · have ad : dAdd mkC (.lst (b6 far c hh o)) (.lst (b5 far c hh o)) S2 = .ok (.cell L) (S2 ++ [.lst (b6 far c hh o ++ b5 far c hh o)]) := by
      rw [← h.1]; rfl
    simp only [b5] at ad
    simp only [ySet_app, xLst_app, xTup_app, xOp_app, xUn_app, dNeg_ok, dSub_ok, dAdd_int, xCons_app, xNil_app, xC_app, xVar_app, List.getElem?_cons_zero, List.getElem?_cons_succ, Res.bind_ok, List.length_cons, List.length_nil, if_pos (show 0 + 1 + 1 ≤ 1000 by decide), if_pos (show 0 + 1 + 1 + 1 ≤ 1000 by decide), if_pos (show 0 + 1 + 1 + 1 + 1 + 1 ≤ 1000 by decide), mkF_app, ad, enso_out, ens_ok, enso_nx, List.set_cons_succ, List.set_cons_zero]
    exact hR _ _ ⟨rfl, rfl⟩
  rintro e S3 ⟨rfl, rfl⟩
  refine ens_sq (fun e S3 => S3 = S2 ++ [.lst (b6 far c hh o ++ b5 far c hh o ++ [.tup [.int c, .int hh, .int o, .int 1]])] ∧ e = [some (.cell n), some (bxsD bs), some (.int far), some (.int (a : Int)), some (.cell L), none, some (.int c), some (.int hh), some (.int o)]) (fun R hR => ?_) ?_
  · have al : (b6 far c hh o ++ b5 far c hh o).length < 16000000 := by show 11 < 16000000; decide
    simp only [yExpr_app, xMt_app, xTup_app, xCons_app, xNil_app, xC_app, xVar_app, List.getElem?_cons_zero, List.getElem?_cons_succ, Res.bind_ok, isT, app_at0 h.1, beq_self_eq_true, if_true, List.length_cons, List.length_nil, if_pos (show 0 + 1 + 1 + 1 + 1 ≤ 1000 by decide), mAppend, cellL, if_pos al, app_set0 h.1, enso_out, ens_ok, enso_nx]
    exact hR _ _ ⟨rfl, rfl⟩
  rintro e S3 ⟨rfl, rfl⟩
  generalize hX : [Cn.lst (b6 far c hh o ++ b5 far c hh o ++ [.tup [.int c, .int hh, .int o, .int 1]])] = X at *
  have bn := bbL_no hf hz
  have blen : (bbL far c hh o).length = 20 := rfl
  refine ens_sq (fun e S3 => S3 = S2 ++ X ∧ e = [some (.cell n), some (bxsD bs), some (.int far), some (.int (a : Int)), some (.lst (bbL far c hh o)), none, some (.int c), some (.int hh), some (.int o)]) (fun R hR => ?_) ?_
  · have ad : dAdd mkF (.cell L) (.lst (b8 c hh o)) (S2 ++ X) = .ok (.lst (bbL far c hh o)) (S2 ++ X) := by
      rw [← hX]
      simp only [dAdd, getL, app_at0 h.1]
      rfl
    simp only [b8] at ad
    simp only [ySet_app, xLst_app, xTup_app, xOp_app, xCons_app, xNil_app, xC_app, xVar_app, List.getElem?_cons_zero, List.getElem?_cons_succ, Res.bind_ok, List.length_cons, List.length_nil, if_pos (show 0 ≤ 1000 by decide), if_pos (show 0 + 1 + 1 + 1 ≤ 1000 by decide), if_pos (show 0 + 1 + 1 + 1 + 1 + 1 + 1 + 1 + 1 ≤ 1000 by decide), mkF_app, ad, enso_out, ens_ok, enso_nx, List.set_cons_succ, List.set_cons_zero]
    exact hR _ _ ⟨rfl, rfl⟩
  rintro e S3 ⟨rfl, rfl⟩
  generalize bbL far c hh o = B at *
  refine ens_sq (fun e S3 => ∃ (P' : Store) (r : Int), 0 ≤ r ∧ r < 24 ∧ Pu L n m (T + 3) P' ∧ S3 = P' ++ X ∧ e = [some (.cell n), some (bxsD bs), some (.int far), some (.int (a : Int)), some (.lst B), some (.int r), some (.int c), some (.int hh), some (.int o)]) (fun R hR => ?_) ?_
  · simp only [ySet_app, xOp_app, xFn_app, xCons_app, xNil_app, xC_app, xVar_app, List.getElem?_cons_zero, List.getElem?_cons_succ, Res.bind_ok, bLen_lst, blen, dAdd_int, enso_out]
    refine (draw_ok h (by decide) (by decide) (by omega)).imp ?_
    rintro d S' ⟨P', r, rfl, hp, rfl, r0, r1⟩
    simp only [enso_nx, List.set_cons_succ, List.set_cons_zero]
    exact hR _ _ ⟨P', r, r0, by simpa using r1, hp.mono (by omega), rfl, rfl⟩
  rintro e S3 ⟨P, r, r0, r1, hp, rfl, rfl⟩
  have done : ∀ d : D, NoB d → (∀ k, D.under k d = true) → Ens (fin false P0.length d (P ++ X)) fun d S' => NoB d ∧ (∀ k, D.under k d = true) ∧ Pu L n m (T + 10) S' := fun d h1 h2 => by
    rw [h0.1, fin_cut hp.1 hp.2.1.2 (h2 L), ens_ok]
    exact ⟨h1, h2, hp.mono (by omega)⟩
  have bs_pq : ∀ x ∈ bs.map bxD, Pq x ∧ ∀ k, D.under k x = true := fun x hx => by
    obtain ⟨z, _, rfl⟩ := List.mem_map.mp hx
    exact ⟨pq_bx z, bxD_under z⟩
  have bxe : bxsD bs = .lst (bs.map bxD) := rfl
  refine ens_sq (fun e S3 => S3 = P ++ X ∧ 20 ≤ r ∧ e = [some (.cell n), some (bxsD bs), some (.int far), some (.int (a : Int)), some (.lst B), some (.int r), some (.int c), some (.int hh), some (.int o)]) (fun R hR => ?_) ?_
  · simp only [yIf_app, xIsT_app, xOp_app, xFn_app, xCons_app, xNil_app, xVar_app, List.getElem?_cons_zero, List.getElem?_cons_succ, Res.bind_ok, bLen_lst, blen, dLt_ok, enso_out, ens_ok]
    by_cases g : r < 20
    · rw [if_pos (by simpa using g)]
      obtain ⟨x, hx, ex⟩ := dt_ix (l := B) r0 (by rw [blen]; exact g) (P ++ X)
      obtain ⟨x1, x2, x3⟩ := bn x hx
      have st := dl_to (bs.map bxD) a (P ++ X)
      have sf := dl_from (bs.map bxD) (a + 1) (P ++ X)
      rw [Int.natCast_add, Int.natCast_one] at sf
      have a1 := dl_add ((bs.map bxD).take (min a (bs.map bxD).length)) [x] (P ++ X) (by simp; omega)
      have a2 := dl_add ((bs.map bxD).take (min a (bs.map bxD).length) ++ [x]) ((bs.map bxD).drop (min (a + 1) (bs.map bxD).length)) (P ++ X) (by simp; omega)
      simp only [bxe, yRet_app, xOp_app, xLst_app, xSl_app, oSome_app, oNone_app, xCons_app, xNil_app, xC_app, xVar_app, List.getElem?_cons_zero, List.getElem?_cons_succ, Res.bind_ok, st, dAdd_int, sf, ex, List.length_cons, List.length_nil, if_pos (show 0 + 1 ≤ 1000 by decide), mkF_app, a1, a2, enso_out, ens_ok, enso_rt]
      have mem : ∀ y ∈ (bs.map bxD).take (min a (bs.map bxD).length) ++ [x] ++ (bs.map bxD).drop (min (a + 1) (bs.map bxD).length), Pq y ∧ ∀ k, D.under k y = true := fun y hy => by
        simp only [List.mem_append, List.mem_singleton] at hy
        rcases hy with (hy | rfl) | hy
        · exact bs_pq y (List.mem_of_mem_take hy)
        · exact ⟨x1, x3⟩
        · exact bs_pq y (List.mem_of_mem_drop hy)
      refine done _ ⟨trivial, fun l e => ?_⟩ fun k => by rw [D.under]; exact underL_of fun d hd => (mem d hd).2 k
      cases e
      exact .inr (.inr ⟨fun y hy => (mem y hy).1, x, by simp, x2⟩)
    · rw [if_neg (by simpa using g)]
      simp only [yNil_app, enso_nx]
      exact hR _ _ ⟨rfl, by omega, rfl⟩
  rintro e S3 ⟨rfl, g, rfl⟩
  have rg : rng62 (7 : Int) ∧ (bs.map bxD).length * (7 : Int).toNat ≤ 16000000 := ⟨rng62_of (by decide) (by decide), by simp; omega⟩
  have mu : dMul mkF (bxsD bs) (.int 7) (P ++ X) = .ok (.lst (List.replicate 7 (bs.map bxD)).flatten) (P ++ X) := by
    rw [bxe, dMul_lst, if_pos rg]; rfl
  have bt : bTuple [bxsD bs] (P ++ X) = .ok (.tup (bs.map bxD)) (P ++ X) := by rw [bxe]; simp [bTuple]
  obtain ⟨x, hx, ex⟩ := dt_ix (l := [.lst [], .lst (List.replicate 7 (bs.map bxD)).flatten, .tup (bs.map bxD), .non]) (r := r - ((20 : Nat) : Int)) (by omega) (by simp; omega) (P ++ X)
  simp only [yRet_app, xOp_app, xLst_app, xFn_app, xCons_app, xNil_app, xC_app, xVar_app, List.getElem?_cons_zero, List.getElem?_cons_succ, Res.bind_ok, mu, bt, bLen_lst, blen, dSub_ok, List.length_cons, List.length_nil, if_pos (show 0 ≤ 1000 by decide), if_pos (show 0 + 1 + 1 + 1 + 1 ≤ 1000 by decide), mkF_app, ex, enso_out, ens_ok, enso_rt]
  have un : ∀ k, D.underL k (bs.map bxD) = true := fun k => underL_of fun d hd => (bs_pq d hd).2 k
  simp only [List.mem_cons, List.not_mem_nil, or_false] at hx
  rcases hx with rfl | rfl | rfl | rfl
  · exact done (.lst []) ⟨trivial, fun l e => by cases e; exact .inl (by simp)⟩ fun k => rfl
  · refine done (.lst (List.replicate 7 (bs.map bxD)).flatten) ⟨trivial, fun l e => by cases e; exact .inr (.inl (by simp; omega))⟩ fun k => ?_
    rw [D.under]
    refine underL_of fun d hd => ?_
    obtain ⟨l, hl, hd⟩ := List.mem_flatten.mp hd
    rw [List.eq_of_mem_replicate hl] at hd
    exact (bs_pq d hd).2 k
  · exact done (.tup (bs.map bxD)) ⟨trivial, fun l e => by cases e⟩ fun k => by rw [D.under]; exact un k
  · exact done .non ⟨trivial, fun l e => by cases e⟩ fun k => rfl
/-! numbers -/
def NoN (M : Int) (n : Nat) (d : D) : Prop := Pq d ∧ ¬ ∃ zs : List Int, d = .lst (zs.map D.int) ∧ zs.length = n ∧ (∀ z ∈ zs, 0 ≤ z) ∧ (0 < M → ∀ z ∈ zs, z ≤ M)
def BadN (M : Int) (x : D) : Prop := Pln x ∧ (∀ k, D.under k x = true) ∧ ∀ v, x = .int v → v < 0 ∨ 0 < M ∧ M < v
def things (far : Int) : List D := [.int (-1), .int (0 - far), .bl true, .bl false, .non, .str "1", .tup [.int 1], .lst [.int 1]]
theorem things_bad {M far : Int} (hf : 0 < far) : ∀ x ∈ things far, BadN M x := by
  intro x hx
  simp only [things, List.mem_cons, List.not_mem_nil, or_false] at hx
  rcases hx with rfl | rfl | rfl | rfl | rfl | rfl | rfl | rfl
  all_goals refine ⟨trivial, fun k => rfl, fun v e => ?_⟩
  all_goals first
    | (cases e; done)
    | (cases e; exact .inl (by omega))
theorem no_numbers_ok {L n m : Nat} {T M : Int} {P0 : Store} {zs : List Int} (h0 : Pu L n m T P0) (hT : T ≤ 100000) (hM : M = 0 ∨ M = 60) (b1 : 1 ≤ zs.length) (b6 : zs.length ≤ 6) : Ens (F__law_no_numbers [.cell n, .lst (zs.map D.int), .int M] P0) fun d S' => NoN M zs.length d ∧ (∀ k, D.under k d = true) ∧ Pu L n m (T + 10) S' := by
  have p28 : ∀ S, dPow (.int 10) (.int 28) S = .ok (.int 10000000000000000000000000000) S := fun S => by simp [powOk]
  refine ens_fn rfl ?_
  unfold b__law_no_numbers
  simp only [List.map_cons, List.map_nil, List.replicate, List.cons_append, List.nil_append]
  refine ens_sq (fun e S' => ∃ a : Nat, a < zs.length ∧ Pu L n m (T + 1) S' ∧ e = [some (.cell n), some (.lst (zs.map D.int)), some (.int M), some (.int (a : Int)), none, none, none]) (fun R hR => ?_) ?_
  · simp only [ySet_app, xOp_app, xFn_app, xCons_app, xNil_app, xC_app, xVar_app, List.getElem?_cons_zero, List.getElem?_cons_succ, Res.bind_ok, bLen_lst, List.length_map, enso_out, ens_bind]
    refine (draw' h0 (by omega) (by omega) (by omega)).imp ?_
    rintro d S' ⟨r, hp, rfl, r0, r1⟩
    obtain ⟨a, rfl⟩ : ∃ a : Nat, r = (a : Int) := ⟨r.toNat, (Int.toNat_of_nonneg r0).symm⟩
    simp only [enso_nx, List.set_cons_succ, List.set_cons_zero]
    exact hR _ _ ⟨a, by omega, hp, rfl⟩
  rintro e P ⟨a, ha, h, rfl⟩
  refine ens_sq (fun e S' => ∃ far : Int, M < far ∧ Pu L n m (T + 2) S' ∧ e = [some (.cell n), some (.lst (zs.map D.int)), some (.int M), some (.int (a : Int)), some (.int far), none, none]) (fun R hR => ?_) ?_
  · simp only [ySet_app, xOp_app, xFn_app, xCons_app, xNil_app, xC_app, xVar_app, List.getElem?_cons_zero, List.getElem?_cons_succ, Res.bind_ok, dAdd_int, p28, enso_out, ens_bind]
    refine (draw' h (by decide) (by decide) (by omega)).imp ?_
    rintro d S' ⟨r, hp, rfl, r0, r1⟩
    simp only [dAdd_int, ens_ok, enso_nx, List.set_cons_succ, List.set_cons_zero]
    exact hR _ _ ⟨M + 1 + r, by omega, hp.mono (by omega), rfl⟩
  rintro e P ⟨far, hf, h, rfl⟩
  refine ens_sq (fun e S' => S' = P ∧ e = [some (.cell n), some (.lst (zs.map D.int)), some (.int M), some (.int (a : Int)), some (.int far), some (.lst (things far)), none]) (fun R hR => ?_) ?_
  · simp only [ySet_app, xLst_app, xTup_app, xOp_app, xUn_app, dNeg_ok, dSub_ok, xCons_app, xNil_app, xC_app, xVar_app, List.getElem?_cons_zero, List.getElem?_cons_succ, Res.bind_ok, List.length_cons, List.length_nil, if_pos (show 0 + 1 ≤ 1000 by decide), if_pos (show 0 + 1 + 1 + 1 + 1 + 1 + 1 + 1 + 1 ≤ 1000 by decide), mkF_app, enso_out, ens_ok, enso_nx, List.set_cons_succ, List.set_cons_zero]
    exact hR _ _ ⟨rfl, rfl⟩
  rintro e S' ⟨rfl, rfl⟩
  refine ens_sq (fun e S2 => S2 = S' ∧ ∃ B : List D, B.length ≤ 10 ∧ (∀ x ∈ B, BadN M x) ∧ e = [some (.cell n), some (.lst (zs.map D.int)), some (.int M), some (.int (a : Int)), some (.int far), some (.lst B), none]) (fun R hR => ?_) ?_
  · have tb := things_bad (M := M) (far := far) (by omega)
    have tl : (things far).length = 8 := rfl
    simp only [yIf_app, xIsT_app, xOp_app, xVar_app, xC_app, List.getElem?_cons_zero, List.getElem?_cons_succ, Res.bind_ok, dGt_ok, enso_out, ens_ok]
    generalize things far = B at *
    by_cases g : 0 < M
    · rw [if_pos (by simpa using g)]
      simp only [ySet_app, xLst_app, xOp_app, xCons_app, xNil_app, xC_app, xVar_app, List.getElem?_cons_zero, List.getElem?_cons_succ, Res.bind_ok, dAdd_int, List.length_cons, List.length_nil, if_pos (show 0 + 1 + 1 ≤ 1000 by decide), mkF_app, dl_add B [.int (M + 1), .int far] S' (by simp; omega), enso_out, ens_ok, enso_nx, List.set_cons_succ, List.set_cons_zero]
      refine hR _ _ ⟨rfl, _, by simp; omega, fun x hx => ?_, rfl⟩
      rcases List.mem_append.mp hx with q | q
      · exact tb x q
      · simp only [List.mem_cons, List.not_mem_nil, or_false] at q
        rcases q with rfl | rfl
        · exact ⟨trivial, fun k => rfl, fun v e => by cases e; exact .inr ⟨g, by omega⟩⟩
        · exact ⟨trivial, fun k => rfl, fun v e => by cases e; exact .inr ⟨g, by omega⟩⟩
    · rw [if_neg (by simpa using g)]
      simp only [yNil_app, enso_nx]
      exact hR _ _ ⟨rfl, B, by omega, tb, rfl⟩
  rintro e P ⟨rfl, B, hB, bad, rfl⟩
  refine ens_sq (fun e S3 => ∃ r : Int, 0 ≤ r ∧ r < B.length + 6 ∧ Pu L n m (T + 3) S3 ∧ e = [some (.cell n), some (.lst (zs.map D.int)), some (.int M), some (.int (a : Int)), some (.int far), some (.lst B), some (.int r)]) (fun R hR => ?_) ?_
  · simp only [ySet_app, xOp_app, xFn_app, xCons_app, xNil_app, xC_app, xVar_app, List.getElem?_cons_zero, List.getElem?_cons_succ, Res.bind_ok, bLen_lst, dAdd_int, enso_out]
    refine (draw' h (by omega) (by omega) (by omega)).imp ?_
    rintro d S' ⟨r, hp, rfl, r0, r1⟩
    simp only [enso_nx, List.set_cons_succ, List.set_cons_zero]
    exact hR _ _ ⟨r, r0, r1, hp.mono (by omega), rfl⟩
  rintro e P ⟨r, r0, r1, hp, rfl⟩
  have done : ∀ d : D, NoN M zs.length d → (∀ k, D.under k d = true) → Ens (fin false P0.length d P) fun d S' => NoN M zs.length d ∧ (∀ k, D.under k d = true) ∧ Pu L n m (T + 10) S' := fun d h1 h2 => by
    rw [fin_len (by rw [hp.1, h0.1]), ens_ok]
    exact ⟨h1, h2, hp.mono (by omega)⟩
  have zp : ∀ x ∈ zs.map D.int, Pln x ∧ ∀ k, D.under k x = true := fun x hx => by
    obtain ⟨z, _, rfl⟩ := List.mem_map.mp hx
    exact ⟨trivial, fun k => rfl⟩
  refine ens_sq (fun e S3 => S3 = P ∧ (B.length : Int) ≤ r ∧ e = [some (.cell n), some (.lst (zs.map D.int)), some (.int M), some (.int (a : Int)), some (.int far), some (.lst B), some (.int r)]) (fun R hR => ?_) ?_
  · simp only [yIf_app, xIsT_app, xOp_app, xFn_app, xCons_app, xNil_app, xVar_app, List.getElem?_cons_zero, List.getElem?_cons_succ, Res.bind_ok, bLen_lst, dLt_ok, enso_out, ens_ok]
    by_cases g : r < B.length
    · rw [if_pos (by simpa using g)]
      obtain ⟨x, hx, ex⟩ := dt_ix (l := B) r0 g P
      obtain ⟨x1, x2, x3⟩ := bad x hx
      have st := dl_to (zs.map D.int) a P
      have sf := dl_from (zs.map D.int) (a + 1) P
      rw [Int.natCast_add, Int.natCast_one] at sf
      have a1 := dl_add ((zs.map D.int).take (min a (zs.map D.int).length)) [x] P (by simp; omega)
      have a2 := dl_add ((zs.map D.int).take (min a (zs.map D.int).length) ++ [x]) ((zs.map D.int).drop (min (a + 1) (zs.map D.int).length)) P (by simp; omega)
      simp only [yRet_app, xOp_app, xLst_app, xSl_app, oSome_app, oNone_app, xCons_app, xNil_app, xC_app, xVar_app, List.getElem?_cons_zero, List.getElem?_cons_succ, Res.bind_ok, st, dAdd_int, sf, ex, List.length_cons, List.length_nil, if_pos (show 0 + 1 ≤ 1000 by decide), mkF_app, a1, a2, enso_out, ens_ok, enso_rt]
      have mem : ∀ y ∈ (zs.map D.int).take (min a (zs.map D.int).length) ++ [x] ++ (zs.map D.int).drop (min (a + 1) (zs.map D.int).length), Pln y ∧ ∀ k, D.under k y = true := fun y hy => by
        simp only [List.mem_append, List.mem_singleton] at hy
        rcases hy with (hy | rfl) | hy
        · exact zp y (List.mem_of_mem_take hy)
        · exact ⟨x1, x2⟩
        · exact zp y (List.mem_of_mem_drop hy)
      refine done _ ⟨pq_lst (by simp; omega) fun y hy => (mem y hy).1, fun ⟨vs, e, _, v0, v1⟩ => ?_⟩ fun k => by rw [D.under]; exact underL_of fun d hd => (mem d hd).2 k
      have hm : x ∈ vs.map D.int := by
        have e2 := D.lst.inj e
        rw [← e2]; simp
      obtain ⟨v, hv, rfl⟩ := List.mem_map.mp hm
      have := v0 v hv
      rcases x3 v rfl with q | ⟨q1, q2⟩
      · omega
      · have := v1 q1 v hv
        omega
    · rw [if_neg (by simpa using g)]
      simp only [yNil_app, enso_nx]
      exact hR _ _ ⟨rfl, by omega, rfl⟩
  rintro e S3 ⟨rfl, g, rfl⟩
  have sf := dl_from (zs.map D.int) 1 S3
  rw [show ((1 : Nat) : Int) = 1 by rfl] at sf
  have a1 := dl_add (zs.map D.int) [.int 1] S3 (by simp; omega)
  have bt : bTuple [.lst (zs.map D.int)] S3 = .ok (.tup (zs.map D.int)) S3 := by simp [bTuple]
  obtain ⟨x, hx, ex⟩ := dt_ix (l := [.lst ((zs.map D.int).drop (min 1 (zs.map D.int).length)), .lst (zs.map D.int ++ [.int 1]), .lst [], .tup (zs.map D.int), .non, .int 7]) (r := r - B.length) (by omega) (by simp; omega) S3
  simp only [yRet_app, xOp_app, xLst_app, xSl_app, oSome_app, oNone_app, xFn_app, xCons_app, xNil_app, xC_app, xVar_app, List.getElem?_cons_zero, List.getElem?_cons_succ, Res.bind_ok, sf, bt, bLen_lst, dSub_ok, List.length_cons, List.length_nil, if_pos (show 0 ≤ 1000 by decide), if_pos (show 0 + 1 ≤ 1000 by decide), if_pos (show 0 + 1 + 1 + 1 + 1 + 1 + 1 ≤ 1000 by decide), mkF_app, a1, ex, enso_out, ens_ok, enso_rt]
  have un : ∀ k, D.underL k (zs.map D.int) = true := fun k => underL_of fun d hd => (zp d hd).2 k
  simp only [List.mem_cons, List.not_mem_nil, or_false] at hx
  have ln : ∀ (l : List D), l.length ≠ zs.length → l.length ≤ 1000 → (∀ y ∈ l, Pln y ∧ ∀ k, D.under k y = true) → Ens (fin false P0.length (.lst l) S3) fun d S' => NoN M zs.length d ∧ (∀ k, D.under k d = true) ∧ Pu L n m (T + 10) S' := fun l h1 h2 h3 =>
    done _ ⟨pq_lst h2 fun y hy => (h3 y hy).1, fun ⟨vs, e, q, _⟩ => h1 (by rw [D.lst.inj e, List.length_map, q])⟩ fun k => by rw [D.under]; exact underL_of fun d hd => (h3 d hd).2 k
  have no : ∀ d : D, Pq d → (∀ l, d ≠ .lst l) → (∀ k, D.under k d = true) → Ens (fin false P0.length d S3) fun d S' => NoN M zs.length d ∧ (∀ k, D.under k d = true) ∧ Pu L n m (T + 10) S' := fun d h1 h2 h3 =>
    done _ ⟨h1, fun ⟨vs, e, _⟩ => h2 _ e⟩ h3
  rcases hx with rfl | rfl | rfl | rfl | rfl | rfl
  · exact ln _ (by simp; omega) (by simp; omega) fun y hy => zp y (List.mem_of_mem_drop hy)
  · refine ln _ (by simp) (by simp; omega) fun y hy => ?_
    rcases List.mem_append.mp hy with q | q
    · exact zp y q
    · rw [List.mem_singleton.mp q]; exact ⟨trivial, fun k => rfl⟩
  · exact ln _ (by simp; omega) (by simp) (by simp)
  · exact no _ (pq_tup (by simp; omega) fun y hy => (zp y hy).1) (fun l e => by cases e) fun k => by rw [D.under]; exact un k
  · exact no _ ⟨trivial, fun _ e => (by cases e), fun _ e => (by cases e)⟩ (fun l e => by cases e) fun k => rfl
  · exact no _ ⟨trivial, fun _ e => (by cases e), fun _ e => (by cases e)⟩ (fun l e => by cases e) fun k => rfl
theorem dMod_pos {i j : Int} {S : Store} (h : 0 < j) : dMod (.int i) (.int j) S = .ok (.int (i % j)) S := by
  simp [fmod_pos h]
  omega
/-! what is no order -/
theorem ind_sum (z : Int) : ∀ N : Nat, ((List.range N).map fun (i : Nat) => if z = (i : Int) then (1 : Int) else 0).sum = if 0 ≤ z ∧ z < N then 1 else 0
  | 0 => by rw [if_neg (by omega)]; rfl
  | N + 1 => by
    rw [List.range_succ, List.map_append, List.sum_append, ind_sum z N]
    simp only [List.map_cons, List.map_nil, List.sum_cons, List.sum_nil]
    by_cases h1 : z = (N : Int)
    · rw [if_pos h1, if_neg (by omega), if_pos (by omega)]; rfl
    · rw [if_neg h1]
      by_cases h2 : 0 ≤ z ∧ z < N
      · rw [if_pos h2, if_pos (by omega)]; rfl
      · rw [if_neg h2, if_neg (by omega)]; rfl
theorem sum_map_add {α : Type} (f g : α → Int) : ∀ l : List α, (l.map fun i => f i + g i).sum = (l.map f).sum + (l.map g).sum
  | [] => rfl
  | a :: l => by simp only [List.map_cons, List.sum_cons, sum_map_add f g l]; omega
theorem cnt_sum (N : Nat) : ∀ zs : List Int, ((List.range N).map fun (i : Nat) => ((zs.count (i : Int) : Nat) : Int)).sum = ((zs.filter fun z : Int => decide (0 ≤ z ∧ z < N)).length : Int)
  | [] => by
    have : ((List.range N).map fun (i : Nat) => ((([] : List Int).count (i : Int) : Nat) : Int)) = (List.range N).map fun _ => (0 : Int) := rfl
    rw [this]
    have : ∀ l : List Nat, (l.map fun _ => (0 : Int)).sum = 0 := fun l => by induction l with
      | nil => rfl
      | cons a l ih => rw [List.map_cons, List.sum_cons, ih]; rfl
    rw [this]; rfl
  | z :: zs => by
    have e : ((List.range N).map fun (i : Nat) => (((z :: zs).count (i : Int) : Nat) : Int)) = (List.range N).map fun (i : Nat) => ((zs.count (i : Int) : Nat) : Int) + (if z = (i : Int) then (1 : Int) else 0) := by
      refine List.map_congr_left fun i _ => ?_
      rw [List.count_cons]
      by_cases h : z = (i : Int)
      · rw [if_pos h, if_pos (by simp [h])]; omega
      · rw [if_neg h, if_neg (by simp [h])]; omega
    rw [e, sum_map_add, cnt_sum N zs, ind_sum, List.filter_cons]
    by_cases h : 0 ≤ z ∧ z < N
    · rw [if_pos h, if_pos (by simpa using h), List.length_cons]; omega
    · rw [if_neg h, if_neg (by simpa using h)]; omega
theorem cnt_in {N : Nat} {ps : List Nat} {zs : List Int} (e1 : ((List.range N).map fun (i : Nat) => ((zs.count (i : Int) : Nat) : Int)) = ps.map fun (m : Nat) => (m : Int)) (e2 : (zs.length : Int) = (ps.map fun (m : Nat) => (m : Int)).sum) : ∀ z ∈ zs, 0 ≤ z ∧ z < N := by
  have h := cnt_sum N zs
  rw [e1, ← e2] at h
  have h2 : (zs.filter fun z : Int => decide (0 ≤ z ∧ z < N)).length = zs.length := by omega
  intro z hz
  have := List.length_filter_eq_length_iff.mp h2 z hz
  simpa using this
theorem noO_bad {N : Nat} {ps : List Nat} {l : List D} {x : D} (hp : ∀ y ∈ l, Pln y) (hl : l.length ≤ 1000) (hx : x ∈ l) (hb : ∀ v, x = .int v → v < 0 ∨ (N : Int) ≤ v) : NoO N ps (.lst l) := by
  refine ⟨pq_lst hl hp, fun zs e ⟨e1, e2⟩ => ?_⟩
  have e := D.lst.inj e
  rw [e] at hx
  obtain ⟨v, hv, rfl⟩ := List.mem_map.mp hx
  have := cnt_in e1 e2 v hv
  have := hb v rfl
  omega
theorem noO_len {N : Nat} {ps os : List Nat} {l : List D} (ho : OrdOk N ps os) (hp : ∀ y ∈ l, Pln y) (hl : l.length ≤ 1000) (h : l.length ≠ os.length) : NoO N ps (.lst l) := by
  refine ⟨pq_lst hl hp, fun zs e ⟨_, e2⟩ => ?_⟩
  have e := D.lst.inj e
  rw [e, List.length_map] at h
  rw [← ho.tot] at e2
  omega
theorem noO_no {N : Nat} {ps : List Nat} {d : D} (h : Pq d) (h2 : ∀ l, d ≠ .lst l) : NoO N ps d := ⟨h, fun zs e => absurd e (h2 _)⟩
theorem noO_turn {N : Nat} {ps os : List Nat} (ho : OrdOk N ps os) (hl : os.length ≤ 360) (hN : ps.length = N) {p : Nat} {w : Int} (hp : p < os.length) (hw : w ≠ (os[p] : Int)) : NoO N ps (.lst ((os.map fun (m : Nat) => D.int (m : Int)).take p ++ [.int w] ++ (os.map fun (m : Nat) => D.int (m : Int)).drop (p + 1))) := by
  refine ⟨pq_lst (by simp; omega) fun y hy => ?_, fun zs e ⟨e1, _⟩ => ?_⟩
  · simp only [List.mem_append, List.mem_singleton] at hy
    rcases hy with (hy | rfl) | hy
    · obtain ⟨m, _, rfl⟩ := List.mem_map.mp (List.mem_of_mem_take hy); trivial
    · trivial
    · obtain ⟨m, _, rfl⟩ := List.mem_map.mp (List.mem_of_mem_drop hy); trivial
  · have e := D.lst.inj e
    have e0 : (os.map fun (m : Nat) => D.int (m : Int)) = (os.map fun (m : Nat) => (m : Int)).map D.int := by rw [List.map_map]; rfl
    have e3 : (os.map fun (m : Nat) => (m : Int)).take p ++ [w] ++ (os.map fun (m : Nat) => (m : Int)).drop (p + 1) = zs := by
      rw [e0, ← List.map_take, ← List.map_drop, show [D.int w] = [w].map D.int by rfl, ← List.map_append, ← List.map_append] at e
      exact List.map_inj_right (fun _ _ h => D.int.inj h) |>.mp e
    have hu := ho.lt os[p] (List.getElem_mem _)
    have c1 := ho.cnt os[p] (by omega)
    have c2 : ((List.range N).map fun (i : Nat) => ((zs.count (i : Int) : Nat) : Int))[os[p]]? = (ps.map fun (m : Nat) => (m : Int))[os[p]]? := by rw [e1]
    rw [List.getElem?_map, List.getElem?_map, List.getElem?_range hu, List.getElem?_eq_getElem (show os[p] < ps.length by omega)] at c2
    simp only [Option.map_some, Option.some.injEq] at c2
    have c3 : (os.map fun (m : Nat) => (m : Int)).count (os[p] : Int) = os.count os[p] := count_nat _ os
    have c4 : (os.map fun (m : Nat) => (m : Int)) = (os.map fun (m : Nat) => (m : Int)).take p ++ [(os[p] : Int)] ++ (os.map fun (m : Nat) => (m : Int)).drop (p + 1) := by
      have hp2 : p < (os.map fun (m : Nat) => (m : Int)).length := by simpa using hp
      have := List.take_append_drop p (os.map fun (m : Nat) => (m : Int))
      rw [List.drop_eq_getElem_cons hp2, List.getElem_map] at this
      rw [List.append_assoc]
      exact this.symm
    rw [c4, List.count_append, List.count_append, List.count_singleton] at c3
    rw [← e3, List.count_append, List.count_append, List.count_singleton] at c2
    rw [if_neg (by simpa using hw)] at c2
    rw [if_pos (by simp)] at c3
    omega
theorem no_order_ok {L n m N : Nat} {T : Int} {P0 R : Store} {ps os : List Nat} (h0 : Pu L n m T P0) (hT : T ≤ 100000) (ho : OrdOk N ps os) (hl : os.length ≤ 360) (hps : ps.length = N) (n1 : 1 ≤ N) (n6 : N ≤ 6) : Ens (F__law_no_order [.cell n, plD os, .int N] (P0 ++ R)) fun d S' => ∃ P', S' = P' ++ R ∧ NoO N ps d ∧ (∀ k, D.under k d = true) ∧ Pu L n m (T + 10) P' := by
  have p29 : ∀ S, dPow (.int 10) (.int 29) S = .ok (.int 100000000000000000000000000000) S := fun S => by simp [powOk]
  have pe : plD os = .lst (os.map fun (m : Nat) => D.int (m : Int)) := rfl
  have ol : (os.map fun (m : Nat) => D.int (m : Int)).length = os.length := by simp
  have op : ∀ x ∈ os.map fun (m : Nat) => D.int (m : Int), Pln x ∧ ∀ k, D.under k x = true := fun x hx => by
    obtain ⟨z, _, rfl⟩ := List.mem_map.mp hx
    exact ⟨trivial, fun k => rfl⟩
  have lbO : ∀ S, bLen [.lst (os.map fun (m : Nat) => D.int (m : Int))] S = .ok (.int os.length) S := fun S => by simp
  have turn := @noO_turn N ps os ho hl hps
  have ne0 : ∀ S, dNe (plD os) (.lst []) S = .ok (.bl (decide (os ≠ []))) S := fun S => by
    rw [dNe_of (p := .list (os.map fun (m : Nat) => PyData.int (m : Int))) (q := .list []) (by unfold plD; rw [toP, toPs_nats]; rfl) (by simp [toP, toPs])]
    cases os <;> simp [PyData.eqv, PyData.eqvAll]
  have ix0 : ∀ (p : Nat) (hp : p < os.length) S, dIx (plD os) (.int (p : Int)) S = .ok (.int (os[p] : Int)) S := fun p hp S => by
    have := pl_ix hp S
    rwa [Int.zero_add] at this
  rw [pe] at ne0 ix0 ⊢
  generalize hOl : (os.map fun (m : Nat) => D.int (m : Int)) = O at *
  refine ens_fn rfl ?_
  unfold b__law_no_order
  simp only [List.map_cons, List.map_nil, List.replicate, List.cons_append, List.nil_append]
  refine ens_sq (fun e S' => ∃ (P : Store) (far : Int), (N : Int) ≤ far ∧ Pu L n m (T + 1) P ∧ S' = P ++ R ∧ e = [some (.cell n), some (.lst O), some (.int (N : Int)), some (.int far), none, none, none, none, none, none]) (fun R' hR => ?_) ?_
  · simp only [ySet_app, xOp_app, xFn_app, xCons_app, xNil_app, xC_app, xVar_app, List.getElem?_cons_zero, List.getElem?_cons_succ, Res.bind_ok, p29, enso_out, ens_bind]
    refine (draw_ok h0 (by decide) (by decide) (by omega)).imp ?_
    rintro d S' ⟨P, r, rfl, hp, rfl, r0, r1⟩
    simp only [dAdd_int, ens_ok, enso_nx, List.set_cons_succ, List.set_cons_zero]
    exact hR _ _ ⟨P, N + r, by omega, hp, rfl, rfl⟩
  rintro e S' ⟨P, far, hf, h, rfl, rfl⟩
  refine ens_sq (fun e S' => ∃ (P : Store) (a : Nat), a ≤ os.length ∧ Pu L n m (T + 2) P ∧ S' = P ++ R ∧ e = [some (.cell n), some (.lst O), some (.int (N : Int)), some (.int far), some (.int (a : Int)), none, none, none, none, none]) (fun R' hR => ?_) ?_
  · simp only [ySet_app, xOp_app, xFn_app, xCons_app, xNil_app, xC_app, xVar_app, List.getElem?_cons_zero, List.getElem?_cons_succ, Res.bind_ok, bLen_lst, ol, dAdd_int, enso_out, ens_bind]
    refine (draw_ok h (by omega) (by omega) (by omega)).imp ?_
    rintro d S' ⟨P, r, rfl, hp, rfl, r0, r1⟩
    obtain ⟨a, rfl⟩ : ∃ a : Nat, r = (a : Int) := ⟨r.toNat, (Int.toNat_of_nonneg r0).symm⟩
    simp only [enso_nx, List.set_cons_succ, List.set_cons_zero]
    exact hR _ _ ⟨P, a, by omega, hp.mono (by omega), rfl, rfl⟩
  rintro e S' ⟨P, a, ha, h, rfl, rfl⟩
  refine ens_sq (fun e S' => S' = P ++ R ∧ ∃ B : List D, B.length = 7 ∧ (∀ x ∈ B, Pln x ∧ (∀ k, D.under k x = true) ∧ ∀ v, x = .int v → v < 0 ∨ (N : Int) ≤ v) ∧ e = [some (.cell n), some (.lst O), some (.int (N : Int)), some (.int far), some (.int (a : Int)), some (.lst B), none, none, none, none]) (fun R' hR => ?_) ?_
  · simp only [ySet_app, xLst_app, xOp_app, xUn_app, dNeg_ok, dSub_ok, xCons_app, xNil_app, xC_app, xVar_app, List.getElem?_cons_zero, List.getElem?_cons_succ, Res.bind_ok, List.length_cons, List.length_nil, if_pos (show 0 + 1 + 1 + 1 + 1 + 1 + 1 + 1 ≤ 1000 by decide), mkF_app, enso_out, ens_ok, enso_nx, List.set_cons_succ, List.set_cons_zero]
    refine hR _ _ ⟨rfl, _, rfl, fun x hx => ?_, rfl⟩
    simp only [List.mem_cons, List.not_mem_nil, or_false] at hx
    rcases hx with rfl | rfl | rfl | rfl | rfl | rfl | rfl
    all_goals refine ⟨trivial, fun k => rfl, fun v e => ?_⟩
    all_goals cases e
    all_goals first
      | exact .inr (by omega)
      | exact .inl (by omega)
  rintro e S' ⟨rfl, B, hB, bad, rfl⟩
  refine ens_sq (fun e S' => ∃ (P : Store) (r : Int), 0 ≤ r ∧ r < 16 ∧ Pu L n m (T + 3) P ∧ S' = P ++ R ∧ e = [some (.cell n), some (.lst O), some (.int (N : Int)), some (.int far), some (.int (a : Int)), some (.lst B), some (.int r), none, none, none]) (fun R' hR => ?_) ?_
  · simp only [ySet_app, xOp_app, xFn_app, xCons_app, xNil_app, xC_app, xVar_app, List.getElem?_cons_zero, List.getElem?_cons_succ, Res.bind_ok, bLen_lst, hB, dAdd_int, enso_out]
    refine (draw_ok h (by decide) (by decide) (by omega)).imp ?_
    rintro d S' ⟨P, r, rfl, hp, rfl, r0, r1⟩
    simp only [enso_nx, List.set_cons_succ, List.set_cons_zero]
    exact hR _ _ ⟨P, r, r0, by simpa using r1, hp.mono (by omega), rfl, rfl⟩
  rintro e S' ⟨P, r, r0, r1, h, rfl, rfl⟩
  have done : ∀ (d : D) (P : Store) (T' : Int), T' ≤ T + 10 → Pu L n m T' P → NoO N ps d → (∀ k, D.under k d = true) → Ens (fin false (P0 ++ R).length d (P ++ R)) fun d S' => ∃ P', S' = P' ++ R ∧ NoO N ps d ∧ (∀ k, D.under k d = true) ∧ Pu L n m (T + 10) P' := fun d P T' ht hp h1 h2 => by
    rw [fin_len (by rw [List.length_append, List.length_append, hp.1, h0.1]), ens_ok]
    exact ⟨P, rfl, h1, h2, hp.mono ht⟩
  have un : ∀ l : List D, (∀ y ∈ l, Pln y ∧ ∀ k, D.under k y = true) → ∀ k, D.under k (.lst l) = true := fun l hl k => by rw [D.under]; exact underL_of fun d hd => (hl d hd).2 k
  have pl : ∀ l : List D, (∀ y ∈ l, Pln y ∧ ∀ k, D.under k y = true) → ∀ y ∈ l, Pln y := fun l hl y hy => (hl y hy).1
  have sto : ∀ (b : Nat) S, slD mkF (.lst O) none (some (b : Int)) S = .ok (.lst (O.take (min b O.length))) S := fun b S => dl_to O b S
  have sfr : ∀ (b : Nat) S, slD mkF (.lst O) (some (b : Int)) none S = .ok (.lst (O.drop (min b O.length))) S := fun b S => dl_from O b S
  have sfr1 : ∀ (b : Nat) S, slD mkF (.lst O) (some ((b : Int) + 1)) none S = .ok (.lst (O.drop (min (b + 1) O.length))) S := fun b S => by
    have := dl_from O (b + 1) S
    rwa [Int.natCast_add, Int.natCast_one] at this
  refine ens_sq (fun e S3 => S3 = P ++ R ∧ 7 ≤ r ∧ e = [some (.cell n), some (.lst O), some (.int (N : Int)), some (.int far), some (.int (a : Int)), some (.lst B), some (.int r), none, none, none]) (fun R' hR => ?_) ?_
  · simp only [yIf_app, xIsT_app, xOp_app, xFn_app, xCons_app, xNil_app, xVar_app, List.getElem?_cons_zero, List.getElem?_cons_succ, Res.bind_ok, bLen_lst, hB, dLt_ok, enso_out, ens_ok]
    by_cases g : r < 7
    · rw [if_pos (by simpa using g)]
      obtain ⟨x, hx, ex⟩ := dt_ix (l := B) r0 (by rw [hB]; exact g) (P ++ R)
      obtain ⟨x1, x2, x3⟩ := bad x hx
      have a1 := dl_add (O.take (min a O.length)) [x] (P ++ R) (by simp; omega)
      have a2 := dl_add (O.take (min a O.length) ++ [x]) (O.drop (min (a + 1) O.length)) (P ++ R) (by simp; omega)
      simp only [yRet_app, xOp_app, xLst_app, xSl_app, oSome_app, oNone_app, xCons_app, xNil_app, xC_app, xVar_app, List.getElem?_cons_zero, List.getElem?_cons_succ, Res.bind_ok, sto, dAdd_int, sfr1, ex, List.length_cons, List.length_nil, if_pos (show 0 + 1 ≤ 1000 by decide), mkF_app, a1, a2, enso_out, ens_ok, enso_rt]
      have mem : ∀ y ∈ O.take (min a O.length) ++ [x] ++ O.drop (min (a + 1) O.length), Pln y ∧ ∀ k, D.under k y = true := fun y hy => by
        simp only [List.mem_append, List.mem_singleton] at hy
        rcases hy with (hy | rfl) | hy
        · exact op y (List.mem_of_mem_take hy)
        · exact ⟨x1, x2⟩
        · exact op y (List.mem_of_mem_drop hy)
      exact done _ _ _ (by omega) h (noO_bad (pl _ mem) (by simp; omega) (x := x) (by simp) x3) (un _ mem)
    · rw [if_neg (by simpa using g)]
      simp only [yNil_app, enso_nx]
      exact hR _ _ ⟨rfl, by omega, rfl⟩
  rintro e S' ⟨rfl, g7, rfl⟩
  refine ens_sq (fun e S' => ∃ (P : Store) (u v : Int), Pu L n m (T + 5) P ∧ S' = P ++ R ∧ e = [some (.cell n), some (.lst O), some (.int (N : Int)), some (.int far), some (.int (a : Int)), some (.lst B), some (.int r), some (.lst [.lst (O ++ [.int u]), .lst (O.take (min a O.length) ++ [.int v] ++ O.drop (min a O.length)), .tup O]), none, none]) (fun R' hR => ?_) ?_
  · have bt : ∀ S, bTuple [.lst O] S = .ok (.tup O) S := fun S => by simp [bTuple]
    simp only [ySet_app, xLst_app, xOp_app, xSl_app, oSome_app, oNone_app, xFn_app, xCons_app, xNil_app, xC_app, xVar_app, List.getElem?_cons_zero, List.getElem?_cons_succ, Res.bind_ok, enso_out, ens_bind]
    refine (draw_ok h (by omega) (by omega) (by omega)).imp ?_
    rintro d S' ⟨P, u, rfl, hp, rfl, u0, u1⟩
    have a0 := dl_add O [.int u] (P ++ R) (by simp; omega)
    simp only [ens_ok, List.length_cons, List.length_nil, if_pos (show 0 + 1 ≤ 1000 by decide), mkF_app, a0, sto, ens_bind]
    refine (draw_ok hp (by omega) (by omega) (by omega)).imp ?_
    rintro d S' ⟨P, v, rfl, hp, rfl, v0, v1⟩
    have a1 := dl_add (O.take (min a O.length)) [.int v] (P ++ R) (by simp; omega)
    have a2 := dl_add (O.take (min a O.length) ++ [.int v]) (O.drop (min a O.length)) (P ++ R) (by simp; omega)
    simp only [ens_ok, List.length_cons, List.length_nil, if_pos (show 0 + 1 ≤ 1000 by decide), mkF_app, a1, sfr, a2, bt, Res.bind_ok, if_pos (show 0 + 1 + 1 + 1 ≤ 1000 by decide), enso_nx, List.set_cons_succ, List.set_cons_zero]
    exact hR _ _ ⟨P, u, v, hp.mono (by omega), rfl, rfl⟩
  rintro e S' ⟨P, u, v, h, rfl, rfl⟩
  refine ens_sq (fun e S' => S' = P ++ R ∧ e = [some (.cell n), some (.lst O), some (.int (N : Int)), some (.int far), some (.int (a : Int)), some (.lst B), some (.int r), some (.lst [.lst (O ++ [.int u]), .lst (O.take (min a O.length) ++ [.int v] ++ O.drop (min a O.length)), .tup O, .non, .int 3, .lst (O ++ O ++ [.int 0]), .lst (O ++ [.int (N : Int)])]), none, none]) (fun R' hR => ?_) ?_
  · have a0 := dl_add O O (P ++ R) (by omega)
    have a1 := dl_add (O ++ O) [.int 0] (P ++ R) (by simp; omega)
    have a2 := dl_add O [.int (N : Int)] (P ++ R) (by simp; omega)
    have a3 := dl_add [.lst (O ++ [.int u]), .lst (O.take (min a O.length) ++ [.int v] ++ O.drop (min a O.length)), .tup O] [.non, .int 3, .lst (O ++ O ++ [.int 0]), .lst (O ++ [.int (N : Int)])] (P ++ R) (by simp)
    simp only [ySet_app, xLst_app, xOp_app, xCons_app, xNil_app, xC_app, xVar_app, List.getElem?_cons_zero, List.getElem?_cons_succ, Res.bind_ok, List.length_cons, List.length_nil, if_pos (show 0 + 1 ≤ 1000 by decide), mkF_app, a0, a1, a2, if_pos (show 0 + 1 + 1 + 1 + 1 ≤ 1000 by decide), a3, enso_out, ens_ok, enso_nx, List.set_cons_succ, List.set_cons_zero]
    exact hR _ _ ⟨rfl, rfl⟩
  rintro e S' ⟨rfl, rfl⟩
  refine ens_sq (fun e S' => S' = P ++ R ∧ ∃ p : Nat, (os ≠ [] → p < os.length) ∧ e = [some (.cell n), some (.lst O), some (.int (N : Int)), some (.int far), some (.int (a : Int)), some (.lst B), some (.int r), some (.lst [.lst (O ++ [.int u]), .lst (O.take (min a O.length) ++ [.int v] ++ O.drop (min a O.length)), .tup O, .non, .int 3, .lst (O ++ O ++ [.int 0]), .lst (O ++ [.int (N : Int)])]), some (.int (p : Int)), none]) (fun R' hR => ?_) ?_
  · have mx : (0 : Int) < if (os.length : Int) > 1 then (os.length : Int) else 1 := by split <;> omega
    have m0 := Int.emod_nonneg (a : Int) (show (if (os.length : Int) > 1 then (os.length : Int) else 1) ≠ 0 by omega)
    have m1 := Int.emod_lt_of_pos (a : Int) mx
    simp only [ySet_app, xOp_app, xFn_app, xCons_app, xNil_app, xC_app, xVar_app, List.getElem?_cons_zero, List.getElem?_cons_succ, Res.bind_ok, lbO, bMax_two, dMod_pos mx, enso_out, ens_ok, enso_nx, List.set_cons_succ, List.set_cons_zero]
    obtain ⟨p, hp⟩ : ∃ p : Nat, (a : Int) % (if (os.length : Int) > 1 then (os.length : Int) else 1) = (p : Int) := ⟨_, (Int.toNat_of_nonneg m0).symm⟩
    rw [hp] at m1 ⊢
    refine hR _ _ ⟨rfl, p, fun hne => ?_, rfl⟩
    have := List.length_pos_iff.mpr hne
    split at m1 <;> omega
  rintro e S' ⟨rfl, p, hp, rfl⟩
  have some_in : ∀ x ∈ [D.lst (O ++ [.int u]), .lst (O.take (min a O.length) ++ [.int v] ++ O.drop (min a O.length)), .tup O, .non, .int 3, .lst (O ++ O ++ [.int 0]), .lst (O ++ [.int (N : Int)])], NoO N ps x ∧ ∀ k, D.under k x = true := by
    have lnn : ∀ l : List D, (∀ y ∈ l, Pln y ∧ ∀ k, D.under k y = true) → l.length ≤ 1000 → l.length ≠ os.length → NoO N ps (.lst l) ∧ ∀ k, D.under k (.lst l) = true := fun l h1 h2 h3 => ⟨noO_len ho (pl _ h1) h2 h3, un _ h1⟩
    have oi : ∀ i : Int, Pln (.int i) ∧ ∀ k, D.under k (.int i) = true := fun i => ⟨trivial, fun k => rfl⟩
    intro x hx
    simp only [List.mem_cons, List.not_mem_nil, or_false] at hx
    rcases hx with rfl | rfl | rfl | rfl | rfl | rfl | rfl
    · refine lnn _ (fun y hy => ?_) (by simp; omega) (by simp; omega)
      rcases List.mem_append.mp hy with q | q
      · exact op y q
      · rw [List.mem_singleton.mp q]; exact oi _
    · refine lnn _ (fun y hy => ?_) (by simp; omega) (by simp; omega)
      simp only [List.mem_append, List.mem_singleton] at hy
      rcases hy with (hy | rfl) | hy
      · exact op y (List.mem_of_mem_take hy)
      · exact oi _
      · exact op y (List.mem_of_mem_drop hy)
    · exact ⟨noO_no (pq_tup (by omega) fun y hy => (op y hy).1) fun l e => (by cases e), fun k => by rw [D.under]; exact underL_of fun d hd => (op d hd).2 k⟩
    · exact ⟨noO_no ⟨trivial, fun _ e => (by cases e), fun _ e => (by cases e)⟩ fun l e => (by cases e), fun k => rfl⟩
    · exact ⟨noO_no ⟨trivial, fun _ e => (by cases e), fun _ e => (by cases e)⟩ fun l e => (by cases e), fun k => rfl⟩
    · refine lnn _ (fun y hy => ?_) (by simp; omega) (by simp; omega)
      simp only [List.mem_append, List.mem_singleton] at hy
      rcases hy with (hy | hy) | rfl
      · exact op y hy
      · exact op y hy
      · exact oi _
    · refine lnn _ (fun y hy => ?_) (by simp; omega) (by simp; omega)
      rcases List.mem_append.mp hy with q | q
      · exact op y q
      · rw [List.mem_singleton.mp q]; exact oi _
  generalize hSm : [D.lst (O ++ [.int u]), .lst (O.take (min a O.length) ++ [.int v] ++ O.drop (min a O.length)), .tup O, .non, .int 3, .lst (O ++ O ++ [.int 0]), .lst (O ++ [.int (N : Int)])] = Sm at *
  have Sl : Sm.length = 7 := by rw [← hSm]; rfl
  refine ens_sq (fun e S3 => S3 = P ++ R ∧ e = [some (.cell n), some (.lst O), some (.int (N : Int)), some (.int far), some (.int (a : Int)), some (.lst B), some (.int r), some (.lst Sm), some (.int (p : Int)), none]) (fun R' hR => ?_) ?_
  · simp only [yIf_app, xAnd_app, xIsT_app, xOp_app, xLst_app, xFn_app, xCons_app, xNil_app, xC_app, xVar_app, List.getElem?_cons_zero, List.getElem?_cons_succ, Res.bind_ok, bLen_lst, hB, dAdd_int, dEq_int, enso_out]
    by_cases g : r = 7 + 7 ∧ os ≠ []
    · obtain ⟨g1, g2⟩ := g
      have hp := hp g2
      have a1 := dl_add (O.take (min p O.length)) (O.drop (min (p + 1) O.length)) (P ++ R) (by simp; omega)
      have mem : ∀ y ∈ O.take (min p O.length) ++ O.drop (min (p + 1) O.length), Pln y ∧ ∀ k, D.under k y = true := fun y hy => by
        rcases List.mem_append.mp hy with hy | hy
        · exact op y (List.mem_of_mem_take hy)
        · exact op y (List.mem_of_mem_drop hy)
      have q1 : decide (r = ((7 : Nat) : Int) + 7) = true := decide_eq_true (by omega)
      simp only [q1, if_true, Res.bind_ok, List.length_nil, if_pos (show 0 ≤ 1000 by decide), mkF_app, ne0, decide_eq_true g2, yRet_app, xOp_app, xSl_app, oSome_app, oNone_app, xC_app, xVar_app, List.getElem?_cons_zero, List.getElem?_cons_succ, sto, dAdd_int, sfr1, a1, enso_out, ens_ok, enso_rt]
      exact done _ _ _ (by omega) h (noO_len ho (pl _ mem) (by simp; omega) (by simp; omega)) (un _ mem)
    · by_cases g1 : r = 7 + 7
      · have q1 : decide (r = ((7 : Nat) : Int) + 7) = true := decide_eq_true (by omega)
        have g2 : ¬ os ≠ [] := fun z => g ⟨g1, z⟩
        simp only [q1, if_true, Res.bind_ok, List.length_nil, if_pos (show 0 ≤ 1000 by decide), mkF_app, ne0, decide_eq_false g2, Bool.false_eq_true, if_false, ens_ok, yNil_app, enso_nx]
        exact hR _ _ ⟨rfl, rfl⟩
      · have q1 : decide (r = ((7 : Nat) : Int) + 7) = false := decide_eq_false (by omega)
        simp only [q1, Bool.false_eq_true, if_false, ens_ok, yNil_app, enso_nx]
        exact hR _ _ ⟨rfl, rfl⟩
  rintro e S' ⟨rfl, rfl⟩
  refine ens_sq (fun e S3 => S3 = P ++ R ∧ e = [some (.cell n), some (.lst O), some (.int (N : Int)), some (.int far), some (.int (a : Int)), some (.lst B), some (.int r), some (.lst Sm), some (.int (p : Int)), none]) (fun R' hR => ?_) ?_
  · simp only [yIf_app, xAnd_app, xIsT_app, xOp_app, xLst_app, xFn_app, xCons_app, xNil_app, xC_app, xVar_app, List.getElem?_cons_zero, List.getElem?_cons_succ, Res.bind_ok, bLen_lst, hB, dAdd_int, dEq_int, enso_out]
    by_cases g1 : r = 7 + 8
    · have q1 : decide (r = ((7 : Nat) : Int) + 8) = true := decide_eq_true (by omega)
      by_cases g2 : os ≠ []
      · by_cases g3 : 1 < N
        · have hp := hp g2
          have q3 : decide ((1 : Int) < (N : Int)) = true := decide_eq_true (by omega)
          simp only [q1, if_true, Res.bind_ok, List.length_nil, if_pos (show 0 ≤ 1000 by decide), mkF_app, ne0, decide_eq_true g2, dGt_ok, q3, ens_ok]
          refine ens_sq (fun e S3 => ∃ (P : Store) (w : Int), w ≠ (os[p] : Int) ∧ Pu L n m (T + 6) P ∧ S3 = P ++ R ∧ e = [some (.cell n), some (.lst O), some (.int (N : Int)), some (.int far), some (.int (a : Int)), some (.lst B), some (.int r), some (.lst Sm), some (.int (p : Int)), some (.int w)]) (fun R2 hR2 => ?_) ?_
          · simp only [ySet_app, xOp_app, xFn_app, xCons_app, xNil_app, xC_app, xVar_app, List.getElem?_cons_zero, List.getElem?_cons_succ, Res.bind_ok, ix0 p hp, dAdd_int, dSub_ok, enso_out, ens_bind]
            refine (draw_ok h (by omega) (by omega) (by omega)).imp ?_
            rintro d S' ⟨P, s, rfl, hp2, rfl, s0, s1⟩
            simp only [dAdd_int, ens_ok, dMod_pos (show (0 : Int) < (N : Int) by omega), Res.bind_ok, enso_nx, List.set_cons_succ, List.set_cons_zero]
            refine hR2 _ _ ⟨P, _, ?_, hp2.mono (by omega), rfl, rfl⟩
            have lt := ho.lt os[p] (List.getElem_mem _)
            by_cases z : (os[p] : Int) + 1 + s < N
            · rw [Int.emod_eq_of_lt (by omega) z]; omega
            · have e : (os[p] : Int) + 1 + s = ((os[p] : Int) + 1 + s - N) + N * 1 := by omega
              rw [e, Int.add_mul_emod_self_left, Int.emod_eq_of_lt (by omega) (by omega)]; omega
          rintro e S3 ⟨P, w, hw, h, rfl, rfl⟩
          have mn : min p O.length = p := by omega
          have mn1 : min (p + 1) O.length = p + 1 := by omega
          have a1 := dl_add (O.take p) [.int w] (P ++ R) (by simp; omega)
          have a2 := dl_add (O.take p ++ [.int w]) (O.drop (p + 1)) (P ++ R) (by simp; omega)
          simp only [yRet_app, xOp_app, xLst_app, xSl_app, oSome_app, oNone_app, xCons_app, xNil_app, xC_app, xVar_app, List.getElem?_cons_zero, List.getElem?_cons_succ, Res.bind_ok, sto, dAdd_int, sfr1, mn, mn1, List.length_cons, List.length_nil, if_pos (show 0 + 1 ≤ 1000 by decide), mkF_app, a1, a2, enso_out, ens_ok, enso_rt]
          have mem : ∀ y ∈ O.take p ++ [.int w] ++ O.drop (p + 1), Pln y ∧ ∀ k, D.under k y = true := fun y hy => by
            simp only [List.mem_append, List.mem_singleton] at hy
            rcases hy with (hy | rfl) | hy
            · exact op y (List.mem_of_mem_take hy)
            · exact ⟨trivial, fun k => rfl⟩
            · exact op y (List.mem_of_mem_drop hy)
          have tn := turn hp hw
          exact done _ _ _ (by omega) h tn (un _ mem)
        · have q3 : decide ((1 : Int) < (N : Int)) = false := decide_eq_false (by omega)
          simp only [q1, if_true, Res.bind_ok, List.length_nil, if_pos (show 0 ≤ 1000 by decide), mkF_app, ne0, decide_eq_true g2, dGt_ok, q3, Bool.false_eq_true, if_false, ens_ok, yNil_app, enso_nx]
          exact hR _ _ ⟨rfl, rfl⟩
      · simp only [q1, if_true, Res.bind_ok, List.length_nil, if_pos (show 0 ≤ 1000 by decide), mkF_app, ne0, decide_eq_false g2, Bool.false_eq_true, if_false, ens_ok, yNil_app, enso_nx]
        exact hR _ _ ⟨rfl, rfl⟩
    · have q1 : decide (r = ((7 : Nat) : Int) + 8) = false := decide_eq_false (by omega)
      simp only [q1, Bool.false_eq_true, if_false, ens_ok, yNil_app, enso_nx]
      exact hR _ _ ⟨rfl, rfl⟩
  rintro e S' ⟨rfl, rfl⟩
  have m0 := Int.emod_nonneg (r - ((7 : Nat) : Int)) (show (7 : Int) ≠ 0 by decide)
  have m1 := Int.emod_lt_of_pos (r - ((7 : Nat) : Int)) (show (0 : Int) < 7 by decide)
  obtain ⟨x, hx, ex⟩ := dt_ix (l := Sm) m0 (by rw [Sl]; exact m1) (P ++ R)
  obtain ⟨x1, x2⟩ := some_in x hx
  simp only [yRet_app, xOp_app, xFn_app, xCons_app, xNil_app, xC_app, xVar_app, List.getElem?_cons_zero, List.getElem?_cons_succ, Res.bind_ok, bLen_lst, hB, dSub_ok, dMod_pos (show (0 : Int) < 7 by decide), ex, enso_out, ens_ok, enso_rt]
  exact done _ _ _ (by omega) h x1 x2
/-! what is told of a refusal -/
theorem w27_toP {s : PySem.Str} (hs : s = ("boxes" : PySem.Str) ∨ s = ("weights" : PySem.Str) ∨ s = ("plan" : PySem.Str) ∨ s = ("order" : PySem.Str)) (S : Store) (n : Nat) : toP S n (.str s) = some (.str s) := by
  have : PySem.PyData.canLay0 (.str s) = true := by
    rcases hs with rfl | rfl | rfl | rfl <;> decide +kernel
  cases n <;> simp [toP, this]
theorem marks_boxes (S : Store) (hS : (S.all fun c => c.under S.length) = true) : F__law_marks [.exn "NoBoxes" none] S = .ok (.lst [.str "boxes"]) S := by
  rw [← ens_eq]
  refine ens_fn rfl ?_
  unfold b__law_marks
  simp [isT, mAppend, cellL, app_at0, app_set0, frz, fin_cut rfl hS (d := .lst [.str "boxes"]) rfl]
theorem marks_weights (S : Store) (hS : (S.all fun c => c.under S.length) = true) : F__law_marks [.exn "NoWeights" none] S = .ok (.lst [.str "weights"]) S := by
  rw [← ens_eq]
  refine ens_fn rfl ?_
  unfold b__law_marks
  simp [isT, mAppend, cellL, app_at0, app_set0, frz, fin_cut rfl hS (d := .lst [.str "weights"]) rfl]
theorem marks_order (S : Store) (hS : (S.all fun c => c.under S.length) = true) : F__law_marks [.exn "NoOrder" none] S = .ok (.lst [.str "order"]) S := by
  rw [← ens_eq]
  refine ens_fn rfl ?_
  unfold b__law_marks
  simp [isT, mAppend, cellL, app_at0, app_set0, frz, fin_cut rfl hS (d := .lst [.str "order"]) rfl]
theorem marks_plan (S : Store) (hS : (S.all fun c => c.under S.length) = true) : F__law_marks [.exn "NoPlan" (some ("at", -1))] S = .ok (.lst [.str "plan"]) S := by
  rw [← ens_eq]
  refine ens_fn rfl ?_
  unfold b__law_marks
  simp [isT, mAppend, cellL, app_at0, app_set0, frz, fin_cut rfl hS (d := .lst [.str "plan"]) rfl]
/-! the three asked -/
structure K27 (bs : List Bx) (ws : List Int) (ps os : List Nat) (B W Pl O : D) : Prop where
  bb : ∀ z ∈ bs, BxOk z
  b1 : 1 ≤ bs.length
  b6 : bs.length ≤ 6
  w : WsOk ws bs.length
  pl : ps.length = bs.length
  p60 : ∀ m ∈ ps, m ≤ 60
  o : OrdOk bs.length ps os
  ol : os.length ≤ 360
  nb : NoB B
  nw : NoW bs.length W
  np : NoP bs.length Pl
  no : NoO bs.length ps O
theorem K27.ask {bs : List Bx} {ws : List Int} {ps os : List Nat} {B W Pl O : D} (h : K27 bs ws ps os B W Pl O) : AskOk bs ws ps os := ⟨⟨h.bb, h.b1, h.b6, h.w⟩, ⟨h.pl, h.b1, h.b6, h.bb, h.p60⟩, h.o, by have := h.ol; omega⟩
theorem asked_boxes {d0 d1 d2 : D} (h : NoB d0) (S : Store) : F_must_be_asked [d0, d1, d2] S = .exc ⟨"NoBoxes", none⟩ S := by
  refine fn_exc (e := [some d0, some d1, some d2]) rfl ?_
  unfold b_must_be_asked
  simp [boxes_no h]
theorem asked_weights {bs : List Bx} {d1 d2 : D} (hb : ∀ z ∈ bs, BxOk z) (b1 : 1 ≤ bs.length) (b6 : bs.length ≤ 6) (h : NoW bs.length d1) (S : Store) : F_must_be_asked [bxsD bs, d1, d2] S = .exc ⟨"NoWeights", none⟩ S := by
  have lb : ∀ S, bLen [bxsD bs] S = .ok (.int bs.length) S := fun S => by unfold bxsD; simp
  have mb : ∀ S, F_must_be_boxes [bxsD bs] S = .ok .non S := fun S => must_be_ok hb b1 b6 S
  refine fn_exc (e := [some (bxsD bs), some d1, some d2]) rfl ?_
  unfold b_must_be_asked
  simp [mb, lb, weights_no b1 h]
theorem asked_plan {bs : List Bx} {ws : List Int} {d2 : D} (hb : ∀ z ∈ bs, BxOk z) (b1 : 1 ≤ bs.length) (b6 : bs.length ≤ 6) (hw : WsOk ws bs.length) (h : NoP bs.length d2) (S : Store) : F_must_be_asked [bxsD bs, wsD ws, d2] S = .exc ⟨"NoPlan", some ("at", -1)⟩ S := by
  have lb : ∀ S, bLen [bxsD bs] S = .ok (.int bs.length) S := fun S => by unfold bxsD; simp
  have mb : ∀ S, F_must_be_boxes [bxsD bs] S = .ok .non S := fun S => must_be_ok hb b1 b6 S
  refine fn_exc (e := [some (bxsD bs), some (wsD ws), some d2]) rfl ?_
  unfold b_must_be_asked
  simp [mb, lb, are_weights_ok hw, plan_no b1 h]
/-- what is told of a try with some of the four bent -/
def due27 (c0 c1 c2 c3 : Bool) : List PySem.Str := if c0 then ["boxes"] else if c1 then ["weights"] else if c2 then ["plan"] else if c3 then ["order"] else []
def exc27 (c0 c1 c2 : Bool) : Exn := if c0 then ⟨"NoBoxes", none⟩ else if c1 then ⟨"NoWeights", none⟩ else if c2 then ⟨"NoPlan", some ("at", -1)⟩ else ⟨"NoOrder", none⟩
abbrev pk (c : Bool) (a b : D) : D := if c then b else a
theorem asked_any {bs : List Bx} {ws : List Int} {ps os : List Nat} {B W Pl O : D} (h : K27 bs ws ps os B W Pl O) (c0 c1 c2 : Bool) (hc : (c0 || c1 || c2) = true) (S : Store) : F_must_be_asked [pk c0 (bxsD bs) B, pk c1 (wsD ws) W, pk c2 (plD ps) Pl] S = .exc (exc27 c0 c1 c2) S := by
  cases c0 with
  | true => exact asked_boxes h.nb S
  | false =>
    cases c1 with
    | true => exact asked_weights h.bb h.b1 h.b6 h.nw S
    | false =>
      cases c2 with
      | true => exact asked_plan h.bb h.b1 h.b6 h.w h.np S
      | false => simp at hc
theorem law_asked_x {bs : List Bx} {ws : List Int} {ps os : List Nat} {B W Pl O : D} (h : K27 bs ws ps os B W Pl O) (c0 c1 c2 c3 : Bool) {k : Int} (k0 : 0 ≤ k) (k2 : k ≤ 2) (hc : (c0 || c1 || c2) = true ∨ c3 = true ∧ k ≠ 2) (S : Store) : F__law_asked [.int k, pk c0 (bxsD bs) B, pk c1 (wsD ws) W, pk c2 (plD ps) Pl, pk c3 (plD os) O] S = .exc (exc27 c0 c1 c2) S := by
  have x0 : k ≠ 2 → F_awaited [pk c0 (bxsD bs) B, pk c1 (wsD ws) W, pk c2 (plD ps) Pl, pk c3 (plD os) O] S = .exc (exc27 c0 c1 c2) S ∧ F_is_sorted [pk c0 (bxsD bs) B, pk c1 (wsD ws) W, pk c2 (plD ps) Pl, pk c3 (plD os) O] S = .exc (exc27 c0 c1 c2) S := fun hk => by
    by_cases q : (c0 || c1 || c2) = true
    · have ma := asked_any h c0 c1 c2 q S
      constructor
      · refine fn_exc (e := [some (pk c0 (bxsD bs) B), some (pk c1 (wsD ws) W), some (pk c2 (plD ps) Pl), some (pk c3 (plD os) O), none, none, none, none]) rfl ?_
        unfold b_awaited
        simp only [List.map_cons, List.map_nil, List.replicate, List.cons_append, List.nil_append, ySeq_app, yExpr_app, xFn_app, xCons_app, xNil_app, xVar_app, List.getElem?_cons_zero, List.getElem?_cons_succ, Res.bind_ok, ma]
        rfl
      · refine fn_exc (e := [some (pk c0 (bxsD bs) B), some (pk c1 (wsD ws) W), some (pk c2 (plD ps) Pl), some (pk c3 (plD os) O), none, none, none]) rfl ?_
        unfold b_is_sorted
        simp only [List.map_cons, List.map_nil, List.replicate, List.cons_append, List.nil_append, ySeq_app, yExpr_app, xFn_app, xCons_app, xNil_app, xVar_app, List.getElem?_cons_zero, List.getElem?_cons_succ, Res.bind_ok, ma]
        rfl
    · have c3t : c3 = true := by
        rcases hc with z | z
        · exact absurd z q
        · exact z.1
      cases c0 <;> cases c1 <;> cases c2 <;> simp at q
      subst c3t
      have ma := must_be_asked_ok (bs := bs) (ws := ws) (ps := ps) h.ask.bp h.w S
      have mo := order_no (bs := bs) (ps := ps) (d := O) h.b6 h.no S
      simp only [pk, Bool.false_eq_true, if_false, if_true]
      constructor
      · refine fn_exc (e := [some (bxsD bs), some (wsD ws), some (plD ps), some O, none, none, none, none]) rfl ?_
        unfold b_awaited
        simp only [List.map_cons, List.map_nil, List.replicate, List.cons_append, List.nil_append, ySeq_app, yExpr_app, xFn_app, xCons_app, xNil_app, xVar_app, List.getElem?_cons_zero, List.getElem?_cons_succ, Res.bind_ok, Res.out_ok, Out.seq_nx, ma, mo]
        rfl
      · refine fn_exc (e := [some (bxsD bs), some (wsD ws), some (plD ps), some O, none, none, none]) rfl ?_
        unfold b_is_sorted
        simp only [List.map_cons, List.map_nil, List.replicate, List.cons_append, List.nil_append, ySeq_app, yExpr_app, xFn_app, xCons_app, xNil_app, xVar_app, List.getElem?_cons_zero, List.getElem?_cons_succ, Res.bind_ok, Res.out_ok, Out.seq_nx, ma, mo]
        rfl
  have x2 : k = 2 → F_best_order [pk c0 (bxsD bs) B, pk c1 (wsD ws) W, pk c2 (plD ps) Pl] S = .exc (exc27 c0 c1 c2) S := fun hk => by
    have q : (c0 || c1 || c2) = true := by
      rcases hc with z | z
      · exact z
      · exact absurd hk z.2
    have ma := asked_any h c0 c1 c2 q S
    refine fn_exc (e := [some (pk c0 (bxsD bs) B), some (pk c1 (wsD ws) W), some (pk c2 (plD ps) Pl), none, none, none, none, none, none]) rfl ?_
    unfold b_best_order
    simp only [List.map_cons, List.map_nil, List.replicate, List.cons_append, List.nil_append, ySeq_app, yExpr_app, xFn_app, xCons_app, xNil_app, xVar_app, List.getElem?_cons_zero, List.getElem?_cons_succ, Res.bind_ok, ma]
    rfl
  generalize pk c0 (bxsD bs) B = d0 at *
  generalize pk c1 (wsD ws) W = d1 at *
  generalize pk c2 (plD ps) Pl = d2 at *
  generalize pk c3 (plD os) O = d3 at *
  refine fn_exc (e := [some (.int k), some d0, some d1, some d2, some d3]) rfl ?_
  unfold b__law_asked
  rcases (show k = 0 ∨ k = 1 ∨ k = 2 by omega) with rfl | rfl | rfl
  · simp [(x0 (by decide)).1]
  · simp [(x0 (by decide)).2]
  · simp [x2 rfl]
theorem law_asked_ok {bs : List Bx} {ws : List Int} {ps os : List Nat} {B W Pl O : D} (h : K27 bs ws ps os B W Pl O) (c3 : Bool) {k : Int} (k0 : 0 ≤ k) (k2 : k ≤ 2) (hc : c3 = true → k = 2) (S : Store) (hS : (S.all fun c => c.under S.length) = true) : F__law_asked [.int k, bxsD bs, wsD ws, plD ps, pk c3 (plD os) O] S = .ok .non S := by
  have ha := h.ask
  have bo := best_order_ok ⟨h.bb, h.b1, h.b6, h.w⟩ ha.bp S hS
  obtain ⟨d, S', e, os', rfl, _, _, _, rfl⟩ := bo.get
  have c0 : k ≠ 2 → c3 = false := fun z => by
    cases c3 with
    | false => rfl
    | true => exact absurd (hc rfl) z
  rw [← ens_eq]
  refine ens_fn rfl ?_
  unfold b__law_asked
  rcases (show k = 0 ∨ k = 1 ∨ k = 2 by omega) with rfl | rfl | rfl
  · rw [c0 (by decide)]
    simp [pk, awaited_ok ha S' hS]
  · rw [c0 (by decide)]
    simp [pk, is_sorted_ok ha S' hS]
  · simp [e]
theorem law_refused_ok {bs : List Bx} {ws : List Int} {ps os : List Nat} {B W Pl O : D} (h : K27 bs ws ps os B W Pl O) (c0 c1 c2 c3 : Bool) {k : Int} (k0 : 0 ≤ k) (k2 : k ≤ 2) (S : Store) (hS : (S.all fun c => c.under S.length) = true) :
    F__law_refused [.int k, pk c0 (bxsD bs) B, pk c1 (wsD ws) W, pk c2 (plD ps) Pl, pk c3 (plD os) O] S = .ok (.lst ((if k = 2 ∧ (c0 || c1 || c2) = false then [] else due27 c0 c1 c2 c3).map D.str)) S := by
  rw [← ens_eq]
  by_cases hc : (c0 || c1 || c2) = true ∨ c3 = true ∧ k ≠ 2
  · have ax := law_asked_x h c0 c1 c2 c3 k0 k2 hc S
    have hn : ¬ (k = 2 ∧ (c0 || c1 || c2) = false) := fun ⟨z1, z2⟩ => by
      rcases hc with z | z
      · rw [z] at z2; cases z2
      · exact z.2 z1
    rw [if_neg hn]
    generalize pk c0 (bxsD bs) B = d0 at *
    generalize pk c1 (wsD ws) W = d1 at *
    generalize pk c2 (plD ps) Pl = d2 at *
    generalize pk c3 (plD os) O = d3 at *
    refine ens_fn rfl ?_
    unfold b__law_refused
    simp only [List.map_cons, List.map_nil, List.replicate, List.cons_append, List.nil_append]
    refine ens_sq (fun e S' => S' = S ∧ e = [some (.int k), some d0, some d1, some d2, some d3, some .non, none]) (fun R hR => ?_) ?_
    · simp
      exact hR _ _ ⟨rfl, rfl⟩
    rintro e S' ⟨rfl, rfl⟩
    refine ens_sq (fun e S2 => S2 = S' ∧ e = [some (.int k), some d0, some d1, some d2, some d3, some (.exn (exc27 c0 c1 c2).cls (exc27 c0 c1 c2).val), none]) (fun R hR => ?_) ?_
    · have sb : subT catchL (exc27 c0 c1 c2).cls "HideError" = some true := by
        cases c0 <;> cases c1 <;> cases c2 <;> simp [exc27]
      refine enso_try2 (exc27 c0 c1 c2) sb (.inr ⟨none, rfl, ?_, hR _ _ ⟨rfl, rfl⟩⟩)
      simp only [yExpr_app, xFn_app, xCons_app, xNil_app, xVar_app, List.getElem?_cons_zero, List.getElem?_cons_succ, Res.bind_ok, ax]
      rfl
    rintro e S2 ⟨rfl, rfl⟩
    have mk : F__law_marks [.exn (exc27 c0 c1 c2).cls (exc27 c0 c1 c2).val] S2 = .ok (.lst ((due27 c0 c1 c2 c3).map D.str)) S2 := by
      cases c0 with
      | true => exact marks_boxes S2 hS
      | false =>
        cases c1 with
        | true => exact marks_weights S2 hS
        | false =>
          cases c2 with
          | true => exact marks_plan S2 hS
          | false =>
            have : c3 = true := by simpa using hc.resolve_left (by simp) |>.1
            subst this
            exact marks_order S2 hS
    simp [mk]
  · have hf : (c0 || c1 || c2) = false := by
      cases q : (c0 || c1 || c2) with
      | true => exact absurd (.inl q) hc
      | false => rfl
    have h3 : c3 = true → k = 2 := fun z => Classical.byContradiction fun y => hc (.inr ⟨z, y⟩)
    cases c0 <;> cases c1 <;> cases c2 <;> simp at hf
    have ax := law_asked_ok h c3 k0 k2 h3 S hS
    have e0 : (if k = 2 ∧ (false || false || false) = false then [] else due27 false false false c3) = [] := by
      by_cases z : k = 2
      · rw [if_pos ⟨z, rfl⟩]
      · have : c3 = false := by
          cases c3 with
          | false => rfl
          | true => exact absurd (h3 rfl) z
        subst this
        split <;> rfl
    rw [e0]
    simp only [pk, Bool.false_eq_true, if_false] at ax ⊢
    refine ens_fn rfl ?_
    unfold b__law_refused
    simp only [List.map_cons, List.map_nil, List.replicate, List.cons_append, List.nil_append]
    generalize (if c3 = true then O else plD os) = d3 at *
    refine ens_sq (fun e S' => S' = S ∧ e = [some (.int k), some (bxsD bs), some (wsD ws), some (plD ps), some d3, some .non, none]) (fun R hR => ?_) ?_
    · simp
      exact hR _ _ ⟨rfl, rfl⟩
    rintro e S' ⟨rfl, rfl⟩
    refine ens_sq (fun e S2 => S2 = S' ∧ e = [some (.int k), some (bxsD bs), some (wsD ws), some (plD ps), some d3, some .non, none]) (fun R hR => ?_) ?_
    · refine enso_try ?_
      simp only [yExpr_app, xFn_app, xCons_app, xNil_app, xVar_app, List.getElem?_cons_zero, List.getElem?_cons_succ, Res.bind_ok, ax, enso_out, ens_ok, enso_nx]
      exact hR _ _ ⟨rfl, rfl⟩
    rintro e S2 ⟨rfl, rfl⟩
    simp
abbrev bI (c : Bool) : Int := if c then 1 else 0
theorem mod2 (r : Int) : ∃ c : Bool, r % 2 = bI c := by
  rcases (show r % 2 = 0 ∨ r % 2 = 1 by omega) with h | h
  · exact ⟨false, h⟩
  · exact ⟨true, h⟩
theorem choices_ok {L n m : Nat} {T : Int} {P : Store} (h : Pu L n m T P) (hT : T ≤ 100000) : Ens (F__law_choices [.cell n] P) fun d S' => ∃ c0 c1 c2 c3 : Bool, d = .lst [.int (bI c0), .int (bI c1), .int (bI c2), .int (bI c3)] ∧ Pu L n m (T + 1) S' := by
  refine ens_fn rfl ?_
  unfold b__law_choices
  simp only [List.map_cons, List.map_nil, List.replicate, List.cons_append, List.nil_append]
  refine ens_sq (fun e S' => ∃ r : Int, 0 ≤ r ∧ r < 20 ∧ Pu L n m (T + 1) S' ∧ e = [some (.cell n), some (.int r), none]) (fun R hR => ?_) ?_
  · simp only [ySet_app, xFn_app, xCons_app, xNil_app, xC_app, xVar_app, List.getElem?_cons_zero, List.getElem?_cons_succ, Res.bind_ok, enso_out]
    refine (draw' h (by decide) (by decide) (by omega)).imp ?_
    rintro d S' ⟨r, hp, rfl, r0, r1⟩
    simp only [enso_nx, List.set_cons_succ, List.set_cons_zero]
    exact hR _ _ ⟨r, r0, r1, hp, rfl⟩
  rintro e S' ⟨r, r0, r1, hp, rfl⟩
  have done : ∀ d : D, (∃ c0 c1 c2 c3 : Bool, d = .lst [.int (bI c0), .int (bI c1), .int (bI c2), .int (bI c3)]) → Ens (fin false P.length d S') fun d S' => ∃ c0 c1 c2 c3 : Bool, d = .lst [.int (bI c0), .int (bI c1), .int (bI c2), .int (bI c3)] ∧ Pu L n m (T + 1) S' := fun d ⟨c0, c1, c2, c3, e⟩ => by
    rw [fin_len (by rw [hp.1, h.1]), ens_ok]
    exact ⟨c0, c1, c2, c3, e, hp⟩
  refine ens_sq (fun e S2 => S2 = S' ∧ 16 ≤ r ∧ e = [some (.cell n), some (.int r), none]) (fun R hR => ?_) ?_
  · simp only [yIf_app, xIsT_app, xOp_app, xC_app, xVar_app, List.getElem?_cons_zero, List.getElem?_cons_succ, Res.bind_ok, dLt_ok, enso_out, ens_ok]
    by_cases g : r < 16
    · rw [if_pos (by simpa using g)]
      have fd : ∀ (j : Int) (hj : 0 < j ∧ j < 100) S, dFdiv (.int r) (.int j) S = .ok (.int (r / j)) S := fun j hj S => by
        simp only [dFdiv_ok, if_pos (divOk_lit (i := r) hj.1 (by omega)), fdiv_pos hj.1]
      simp only [yRet_app, xLst_app, xOp_app, xCons_app, xNil_app, xC_app, xVar_app, List.getElem?_cons_zero, List.getElem?_cons_succ, Res.bind_ok, dMod_pos (show (0 : Int) < 2 by decide), fd 2 (by decide), fd 4 (by decide), fd 8 (by decide), List.length_cons, List.length_nil, if_pos (show 0 + 1 + 1 + 1 + 1 ≤ 1000 by decide), mkF_app, enso_out, ens_ok, enso_rt]
      obtain ⟨a, ha⟩ := mod2 r
      obtain ⟨b, hb⟩ := mod2 (r / 2)
      obtain ⟨c, hc⟩ := mod2 (r / 4)
      obtain ⟨d, hd⟩ := mod2 (r / 8)
      exact done _ ⟨a, b, c, d, by rw [ha, hb, hc, hd]⟩
    · rw [if_neg (by simpa using g)]
      simp only [yNil_app, enso_nx]
      exact hR _ _ ⟨rfl, by omega, rfl⟩
  rintro e S2 ⟨rfl, g, rfl⟩
  have hc : lcL (fun _ => True) (eN 2) cYes (xFn bInt (xCons (xOp dEq (xVar 2) (xOp dSub (xVar 1) (xC (.int 16)))) xNil)) [some (.cell n), some (.int r), none] (irange 0 4) [] S2 = .ok ([] ++ [decide ((0 : Int) = r - 16), decide ((1 : Int) = r - 16), decide ((2 : Int) = r - 16), decide ((3 : Int) = r - 16)].map fun b => D.int (bI b)) S2 := by
    refine lc_rng (fun b => D.int (bI b)) [decide ((0 : Int) = r - 16), decide ((1 : Int) = r - 16), decide ((2 : Int) = r - 16), decide ((3 : Int) = r - 16)] 0 [] (fun i hi => ⟨_, rfl, ?_⟩) (by simp)
    have hi : i < 4 := hi
    simp only [List.set_cons_succ, List.set_cons_zero, xFn_app, xOp_app, xCons_app, xNil_app, xC_app, xVar_app, List.getElem?_cons_zero, List.getElem?_cons_succ, Res.bind_ok, dSub_ok, dEq_int, bInt_bl]
    match i, hi with
    | 0, _ => rfl
    | 1, _ => rfl
    | 2, _ => rfl
    | 3, _ => rfl
  simp only [yRet_app, xLc_app, iSrcA_app, xCons_app, xNil_app, xC_app, Res.bind_ok, enso_out, ens_bind, ens_srcR1]
  refine ⟨rng62_of (by decide) (by decide), ?_⟩
  rw [show ((4 : Int)).toNat = 4 by rfl]
  simp only [wipeE_cons, wipeE_nil, List.set_cons_succ, List.set_cons_zero, hc, List.nil_append, List.map_cons, List.map_nil, ens_ok, mkF_app, enso_rt]
  exact done _ ⟨_, _, _, _, rfl⟩
theorem bx_toPs {S : Store} {n : Nat} : ∀ bs : List Bx, toPs S (n + 1) (bs.map bxD) = some (bs.map fun z => PyData.tuple [.int z.1, .int z.2.1, .int z.2.2])
  | [] => by simp [toPs]
  | z :: bs => by
    have e : toP S (n + 1) (bxD z) = some (.tuple [.int z.1, .int z.2.1, .int z.2.2]) := by cases n <;> simp [bxD, toP, toPs]
    rw [List.map_cons, toPs, e, bx_toPs bs]
    rfl
theorem four_toP (bs : List Bx) (ws : List Int) (ps os : List Nat) (S : Store) : ∃ p, toP S 60 (.lst [bxsD bs, wsD ws, plD ps, plD os]) = some p := by
  refine ⟨.list [.list (bs.map fun z => PyData.tuple [.int z.1, .int z.2.1, .int z.2.2]), .list (ws.map PyData.int), .list (ps.map fun (m : Nat) => PyData.int (m : Int)), .list (os.map fun (m : Nat) => PyData.int (m : Int))], ?_⟩
  unfold bxsD wsD plD
  simp [toP, toPs, bx_toPs, toPs_ints, toPs_nats]
/-! the law -/
theorem Pu.more {L n m : Nat} {T : Int} {P : Store} (h : Pu L n m T P) : Pu (L + 1) n m T (P ++ [.dead]) := by
  obtain ⟨h1, ⟨h2, h3⟩, t, cs, h4, h5, h6, h7, h8⟩ := h
  have nl : n < P.length := (List.getElem?_eq_some_iff.mp h4).1
  have ml : m < P.length := (List.getElem?_eq_some_iff.mp h5).1
  refine ⟨by rw [List.length_append, h1]; rfl, ⟨h2, ?_⟩, t, cs, by rw [List.getElem?_append_left nl]; exact h4, by rw [List.getElem?_append_left ml]; exact h5, h6, h7, h8⟩
  rw [List.all_append, Bool.and_eq_true]
  rw [List.all_eq_true] at h3
  exact ⟨List.all_eq_true.mpr fun x hx => cn_under_mono (Nat.le_succ L) (h3 x hx), rfl⟩
theorem w27_toPs (S : Store) (n : Nat) (l : List PySem.Str) (h : ∀ s ∈ l, s = ("boxes" : PySem.Str) ∨ s = ("weights" : PySem.Str) ∨ s = ("plan" : PySem.Str) ∨ s = ("order" : PySem.Str)) : toPs S n (l.map D.str) = some (l.map PyData.str) := by
  induction l with
  | nil => simp [toPs]
  | cons s l ih =>
    rw [List.map_cons, toPs, w27_toP (h s (by simp)) S n, ih fun x hx => h x (by simp [hx])]
    rfl
theorem due_words (c0 c1 c2 c3 : Bool) : ∀ s ∈ due27 c0 c1 c2 c3, s = ("boxes" : PySem.Str) ∨ s = ("weights" : PySem.Str) ∨ s = ("plan" : PySem.Str) ∨ s = ("order" : PySem.Str) := by
  cases c0 <;> cases c1 <;> cases c2 <;> cases c3 <;> simp [due27]
theorem due_toP (c0 c1 c2 c3 : Bool) (S : Store) : toP S 60 (.lst ((due27 c0 c1 c2 c3).map D.str)) = some (.list ((due27 c0 c1 c2 c3).map PyData.str)) := by
  rw [toP, w27_toPs S 59 _ (due_words c0 c1 c2 c3)]; rfl
theorem due_eq (c0 c1 c2 c3 : Bool) (S : Store) : dEq (.lst ((due27 c0 c1 c2 c3).map D.str)) (.lst [.str "order"]) S = .ok (.bl ((!(c0 || c1 || c2)) && c3)) S := by
  have e2 : toP S 60 (.lst [.str "order"]) = some (.list [.str "order"]) := by
    have := w27_toPs S 59 ["order"] (by simp)
    rw [toP, show ([D.str "order"] : List D) = (["order"] : List PySem.Str).map D.str by rfl, this]; rfl
  rw [dEq_of (due_toP c0 c1 c2 c3 S) e2]
  cases c0 <;> cases c1 <;> cases c2 <;> cases c3 <;> simp [due27, PyData.eqv, PyData.eqvAll] <;> decide +kernel
theorem noN_w {n : Nat} {d : D} (h : NoN 0 n d) : NoW n d := ⟨h.1, fun ⟨zs, e, l, z0, _⟩ => h.2 ⟨zs, e, l, z0, fun z => absurd z (by decide)⟩⟩
theorem noN_p {n : Nat} {d : D} (h : NoN 60 n d) : NoP n d := ⟨h.1, fun ⟨zs, e, l, z0⟩ => h.2 ⟨zs, e, l, fun z hz => (z0 z hz).1, fun _ z hz => (z0 z hz).2⟩⟩
theorem zeros_no (n : Nat) (hn : n ≤ 6) : NoW n (.lst ((List.replicate n (0 : Int)).map D.int)) := by
  refine ⟨pq_lst (by simp; omega) fun y hy => ?_, fun ⟨zs, e, _, _, z, hz, h⟩ => ?_⟩
  · obtain ⟨z, _, rfl⟩ := List.mem_map.mp hy; trivial
  · have e := List.map_inj_right (fun _ _ h => D.int.inj h) |>.mp (D.lst.inj e)
    rw [← e] at hz
    have := List.eq_of_mem_replicate hz
    omega
abbrev GL (bs : List Bx) (ws : List Int) (ps os : List Nat) : D := .lst [bxsD bs, wsD ws, plD ps, plD os]
abbrev E27 (ns : List Int) (n : Nat) (bs : List Bx) (ws : List Int) (ps os : List Nat) (r : List (Option D)) : Dv.Env := some (.scr (ns.map D.int)) :: some (.cell n) :: some (bxsD bs) :: some (wsD ws) :: some (plD ps) :: some (plD os) :: some (GL bs ws ps os) :: some (GL bs ws ps os) :: r
theorem law_true : LawTrue F_law := by
  intro ns hl hb
  have h : Ens (F_law [.scr (ns.map D.int)] []) fun d _ => d = .bl true := by
    refine ens_fn rfl ?_
    unfold b_law
    simp only [List.map_cons, List.map_nil, List.replicate, List.cons_append, List.nil_append]
    refine ens_sq (fun e S' => ∃ L n m, Pu L n m 0 S' ∧ e = some (.scr (ns.map D.int)) :: some (.cell n) :: List.replicate 13 none) (fun R' hR => ?_) ?_
    · simp
      refine (purse_ok ns).imp ?_
      rintro d S' ⟨L, n, m, rfl, hp⟩
      try simp
      exact hR _ _ ⟨L, n, m, hp, rfl⟩
    rintro e S' ⟨L, n, m, hp, rfl⟩
    refine ens_sq (fun e S' => ∃ bs, (∀ z ∈ bs, BxOk z) ∧ 1 ≤ bs.length ∧ bs.length ≤ 6 ∧ Pu L n m 60 S' ∧ e = some (.scr (ns.map D.int)) :: some (.cell n) :: some (bxsD bs) :: List.replicate 12 none) (fun R' hR => ?_) ?_
    · simp
      refine (boxes_ok hp (by decide) (by decide) (by decide)).imp ?_
      rintro d S' ⟨bs, rfl, q1, q2, q3, hp2⟩
      try simp
      exact hR _ _ ⟨bs, q1, q2, q3, hp2, rfl⟩
    rintro e S' ⟨bs, b1, b2, b3, hp, rfl⟩
    have lb : ∀ S, bLen [bxsD bs] S = .ok (.int bs.length) S := fun S => by unfold bxsD; simp
    refine ens_sq (fun e S' => ∃ ws, WsOk ws bs.length ∧ Pu L n m 80 S' ∧ e = some (.scr (ns.map D.int)) :: some (.cell n) :: some (bxsD bs) :: some (wsD ws) :: List.replicate 11 none) (fun R' hR => ?_) ?_
    · simp [lb]
      refine (weights_ok hp (by decide) b2 b3).imp ?_
      rintro d S' ⟨ws, rfl, q1, hp2⟩
      try simp
      exact hR _ _ ⟨ws, q1, hp2, rfl⟩
    rintro e S' ⟨ws, hws, hp, rfl⟩
    refine ens_sq (fun e S' => ∃ ps, ps.length = bs.length ∧ (∀ m ∈ ps, m ≤ 60) ∧ Pu L n m 100 S' ∧ e = some (.scr (ns.map D.int)) :: some (.cell n) :: some (bxsD bs) :: some (wsD ws) :: some (plD ps) :: List.replicate 10 none) (fun R' hR => ?_) ?_
    · simp [lb]
      refine (plan_ok hp (by decide) b2 b3).imp ?_
      rintro d S' ⟨ps, rfl, q1, q2, hp2⟩
      try simp
      exact hR _ _ ⟨ps, q1, q2, hp2, rfl⟩
    rintro e S' ⟨ps, pl1, pl2, hp, rfl⟩
    refine ens_sq (fun e S' => ∃ os, OrdOk bs.length ps os ∧ os.length ≤ 360 ∧ Pu L n m 500 S' ∧ e = some (.scr (ns.map D.int)) :: some (.cell n) :: some (bxsD bs) :: some (wsD ws) :: some (plD ps) :: some (plD os) :: List.replicate 9 none) (fun R' hR => ?_) ?_
    · simp
      refine (order_ok hp (by decide) pl2 (by omega)).imp ?_
      rintro d S' ⟨os, rfl, q1, q2, hp2⟩
      try simp
      exact hR _ _ ⟨os, pl1 ▸ q1, q2, hp2.mono (by decide), rfl⟩
    rintro e S' ⟨os, oo1, oo2, hp, rfl⟩
    refine ens_sq (fun e S2 => S2 = S' ∧ e = some (.scr (ns.map D.int)) :: some (.cell n) :: some (bxsD bs) :: some (wsD ws) :: some (plD ps) :: some (plD os) :: some (GL bs ws ps os) :: List.replicate 8 none) (fun R' hR => ?_) ?_
    · simp
      exact hR _ _ ⟨rfl, rfl⟩
    rintro e S2 ⟨rfl, rfl⟩
    have l1 : ∀ S, bList mkF [bxsD bs] S = .ok (bxsD bs) S := fun S => by unfold bxsD; simp [bList]
    have l2 : ∀ S, bList mkF [wsD ws] S = .ok (wsD ws) S := fun S => by unfold wsD; simp [bList]
    have l3 : ∀ (ps : List Nat) S, bList mkF [plD ps] S = .ok (plD ps) S := fun ps S => by unfold plD; simp [bList]
    refine ens_sq (fun e S3 => S3 = S2 ∧ e = E27 ns n bs ws ps os (List.replicate 7 none)) (fun R' hR => ?_) ?_
    · simp [l1, l2, l3]
      exact hR _ _ ⟨rfl, rfl⟩
    rintro e P0 ⟨rfl, rfl⟩
    have we : wsD ws = .lst (ws.map D.int) := rfl
    have wl := hws.len
    refine ens_sq (fun e S3 => ∃ (P : Store) (B W Pl : D), NoB B ∧ NoW bs.length W ∧ NoP bs.length Pl ∧ Pu L n m 600 P ∧ S3 = P ++ [.lst [B, W, Pl]] ∧ e = E27 ns n bs ws ps os (some (.cell L) :: List.replicate 6 none)) (fun R' hR => ?_) ?_
    · simp only [E27, List.replicate, ySet_app, xLst_app, xFn_app, xCons_app, xNil_app, xC_app, xVar_app, List.getElem?_cons_zero, List.getElem?_cons_succ, Res.bind_ok, enso_out, ens_bind]
      refine (no_boxes_ok hp (by decide) b1 b2 b3).imp ?_
      rintro B P1 ⟨nb, _, hp1⟩
      simp only [ens_ok, we]
      refine (no_numbers_ok (M := 0) (zs := ws) hp1 (by decide) (.inl rfl) (by omega) (by omega)).imp ?_
      rintro W P2 ⟨nw, _, hp2⟩
      simp only [ens_ok, plD_ints]
      refine (no_numbers_ok (M := 60) (zs := ps.map fun (m : Nat) => (m : Int)) hp2 (by decide) (.inr rfl) (by simp; omega) (by simp; omega)).imp ?_
      rintro Pl P3 ⟨np, _, hp3⟩
      rw [wl] at nw
      rw [List.length_map, pl1] at np
      simp only [ens_ok, List.length_cons, List.length_nil, if_pos (show 0 + 1 + 1 + 1 ≤ 1000 by decide), mkC_app, hp3.1, enso_nx, List.set_cons_succ, List.set_cons_zero]
      refine hR _ _ ⟨P3, B, W, Pl, nb, noN_w nw, noN_p np, hp3.mono (by decide), rfl, ?_⟩
      simp only [E27, List.replicate, we, plD_ints]
    rintro e S3 ⟨P, B, W, Pl, nb, nw, np, hp, rfl, rfl⟩
    refine ens_sq (fun e S3 => ∃ (P : Store) (O : D), NoO bs.length ps O ∧ Pu L n m 700 P ∧ S3 = P ++ [.lst [B, W, Pl, O]] ∧ e = E27 ns n bs ws ps os (some (.cell L) :: List.replicate 6 none)) (fun R' hR => ?_) ?_
    · simp only [E27, List.replicate, yExpr_app, xMt_app, xFn_app, xCons_app, xNil_app, xVar_app, List.getElem?_cons_zero, List.getElem?_cons_succ, Res.bind_ok, isT, app_at0 hp.1, beq_self_eq_true, if_true, lb, enso_out, ens_bind]
      refine (no_order_ok hp (by decide) oo1 oo2 pl1 b2 b3).imp ?_
      rintro O S' ⟨P', rfl, no, _, hp'⟩
      simp only [ens_ok, mAppend, cellL, app_at0 hp'.1, List.length_cons, List.length_nil, if_pos (show 0 + 1 + 1 + 1 < 16000000 by decide), app_set0 hp'.1, List.cons_append, List.nil_append, enso_nx]
      exact hR _ _ ⟨P', O, no, hp'.mono (by decide), rfl, rfl⟩
    rintro e S3 ⟨P, O, no, hp, rfl, rfl⟩
    refine ens_sq (fun e S3 => ∃ (W : D), NoW bs.length W ∧ Pu (L + 1) n m 701 S3 ∧ e = E27 ns n bs ws ps os (some (.lst [B, W, Pl, O]) :: List.replicate 6 none)) (fun R' hR => ?_) ?_
    · refine ens_sq (fun e S3 => ∃ (P : Store) (W : D), NoW bs.length W ∧ Pu L n m 701 P ∧ S3 = P ++ [.lst [B, W, Pl, O]] ∧ e = E27 ns n bs ws ps os (some (.cell L) :: List.replicate 6 none)) (fun R2 hR2 => ?_) ?_
      · simp only [E27, List.replicate, yIf_app, xIsT_app, xOp_app, xFn_app, xCons_app, xNil_app, xC_app, xVar_app, List.getElem?_cons_zero, List.getElem?_cons_succ, Res.bind_ok, enso_out, ens_bind]
        refine (draw_ok hp (by decide) (by decide) (by decide)).imp ?_
        rintro d S' ⟨P', r, rfl, hp', rfl, r0, r1⟩
        simp only [ens_ok, dEq_int]
        by_cases g : r = 1
        · rw [if_pos (by simpa using g)]
          have rg : rng62 (bs.length : Int) ∧ (0 + 1) * bs.length ≤ 16000000 := ⟨rng62_of (by omega) (by omega), by omega⟩
          have fr0 : (List.replicate bs.length [D.int 0]).flatten = (List.replicate bs.length (0 : Int)).map D.int := by
            rw [List.map_replicate]
            generalize bs.length = k
            induction k with
            | zero => rfl
            | succ k ih => rw [List.replicate_succ, List.flatten_cons, ih]; rfl
          have st : setL (.cell L) (.int 1) (.lst ((List.replicate bs.length (0 : Int)).map D.int)) (P' ++ [.lst [B, W, Pl, O]]) = .ok () (P' ++ [.lst [B, .lst ((List.replicate bs.length (0 : Int)).map D.int), Pl, O]]) := by
            simp [setL, app_at0 hp'.1, app_set0 hp'.1, ixN]
          simp only [ySub_app, xOp_app, xLst_app, xFn_app, xCons_app, xNil_app, xC_app, xVar_app, List.getElem?_cons_zero, List.getElem?_cons_succ, Res.bind_ok, List.length_cons, List.length_nil, if_pos (show 0 + 1 ≤ 1000 by decide), mkF_app, lb, dMul_lst, if_pos rg, Int.toNat_natCast, fr0, st, enso_out, ens_ok, enso_nx, List.set_cons_succ, List.set_cons_zero]
          exact hR2 _ _ ⟨P', _, zeros_no bs.length b3, hp', rfl, rfl⟩
        · rw [if_neg (by simpa using g)]
          simp only [yNil_app, enso_nx]
          exact hR2 _ _ ⟨P', W, nw, hp', rfl, rfl⟩
      rintro e S3 ⟨P, W, nw, hp, rfl, rfl⟩
      simp only [E27, List.replicate, frzE, List.getElem?_cons_zero, List.getElem?_cons_succ, frz, app_at0 hp.1, app_set0 hp.1, Res.out_ok, enso_nx, List.set_cons_succ, List.set_cons_zero]
      exact hR _ _ ⟨W, nw, hp.more, rfl⟩
    rintro e S3 ⟨W, nw, hp, rfl⟩
    have K : K27 bs ws ps os B W Pl O := ⟨b1, b2, b3, hws, pl1, pl2, oo1, oo2, nb, nw, np, no⟩
    refine ens_sq (fun e S' => ∃ r, e = E27 ns n bs ws ps os r) (fun R' hR => ?_) ?_
    · simp only [E27, List.replicate, yFor_app, iSrcA_app, xCons_app, xNil_app, xC_app, Res.bind_ok, enso_out, ens_bind, ens_srcR1]
      refine ⟨rng62_of (by decide) (by decide), ?_⟩
      refine ens_fr (fun i e S' => Pu (L + 1) n m (701 + i) S' ∧ ∃ v9 v10 v11 v12 v13 v14, e = E27 ns n bs ws ps os [some (.lst [B, W, Pl, O]), v9, v10, v11, v12, v13, v14]) ⟨hp.mono (by decide), _, _, _, _, _, _, rfl⟩ ?_ ?_
      · rintro i d e S' R2 hd ⟨hp, v9, v10, v11, v12, v13, v14, rfl⟩ hR2
        obtain ⟨rfl, hi⟩ := irange_get hd
        have hi : i < 4 := hi
        simp only [E27, gN_app, enso_nx, List.set_cons_succ, List.set_cons_zero]
        generalize D.int (0 + (i : Int)) = w9
        refine ens_sq (fun e S2 => ∃ c0 c1 c2 c3 : Bool, Pu (L + 1) n m (701 + (i + 1 : Nat)) S2 ∧ e = E27 ns n bs ws ps os [some (.lst [B, W, Pl, O]), some w9, some (.lst [.int (bI c0), .int (bI c1), .int (bI c2), .int (bI c3)]), v11, v12, v13, v14]) (fun R3 hR3 => ?_) ?_
        · simp only [ySet_app, xFn_app, xCons_app, xNil_app, xVar_app, List.getElem?_cons_zero, List.getElem?_cons_succ, Res.bind_ok, enso_out]
          refine (choices_ok hp (by omega)).imp ?_
          rintro d S2 ⟨c0, c1, c2, c3, rfl, hp2⟩
          simp only [enso_nx, List.set_cons_succ, List.set_cons_zero]
          exact hR3 _ _ ⟨c0, c1, c2, c3, hp2.mono (by omega), rfl⟩
        rintro e S2 ⟨c0, c1, c2, c3, hp2, rfl⟩
        have und : (S2.all fun c => c.under S2.length) = true := by rw [hp2.1]; exact hp2.2.1.2
        have pick : ∀ (c : Bool) (a b : D) S, dIx (.lst [a, b]) (.int (bI c)) S = .ok (pk c a b) S := fun c a b S => by cases c <;> simp [pk, bI]
        refine ens_sq (fun e S3 => S3 = S2 ∧ e = E27 ns n bs ws ps os [some (.lst [B, W, Pl, O]), some w9, some (.lst [.int (bI c0), .int (bI c1), .int (bI c2), .int (bI c3)]), some (.lst [pk c0 (bxsD bs) B, pk c1 (wsD ws) W, pk c2 (plD ps) Pl, pk c3 (plD os) O]), v12, v13, v14]) (fun R3 hR3 => ?_) ?_
        · have hc : lcL (fun _ => True) (eN 13) cYes (xOp dIx (xLst mkF (xCons (xOp dIx (xVar 6) (xVar 13)) (xCons (xOp dIx (xVar 8) (xVar 13)) xNil))) (xOp dIx (xVar 10) (xVar 13))) (E27 ns n bs ws ps os [some (.lst [B, W, Pl, O]), some w9, some (.lst [.int (bI c0), .int (bI c1), .int (bI c2), .int (bI c3)]), v11, v12, none, v14]) (irange 0 4) [] S2 = .ok ([] ++ [pk c0 (bxsD bs) B, pk c1 (wsD ws) W, pk c2 (plD ps) Pl, pk c3 (plD os) O].map id) S2 := by
            refine lc_rng id [pk c0 (bxsD bs) B, pk c1 (wsD ws) W, pk c2 (plD ps) Pl, pk c3 (plD os) O] 0 [] (fun i hi => ⟨_, rfl, ?_⟩) (by simp)
            have hi : i < 4 := hi
            simp only [E27, GL, List.set_cons_succ, List.set_cons_zero, xOp_app, xLst_app, xFn_app, xCons_app, xNil_app, xC_app, xVar_app, List.getElem?_cons_zero, List.getElem?_cons_succ, Res.bind_ok, Int.zero_add]
            match i, hi with
            | 0, _ => simp [pick]
            | 1, _ => simp [pick]
            | 2, _ => simp [pick]
            | 3, _ => simp [pick]
          rw [List.map_id, List.nil_append] at hc
          simp only [E27] at hc
          simp only [E27, ySet_app, xLc_app, iSrcA_app, xCons_app, xNil_app, xC_app, Res.bind_ok, enso_out, ens_bind, ens_srcR1]
          refine ⟨rng62_of (by decide) (by decide), ?_⟩
          rw [show ((4 : Int)).toNat = 4 by rfl]
          simp only [wipeE_cons, wipeE_nil, List.set_cons_succ, List.set_cons_zero, hc, ens_ok, mkF_app, enso_nx]
          exact hR3 _ _ ⟨rfl, rfl⟩
        rintro e S3 ⟨rfl, rfl⟩
        refine ens_sq (fun e S4 => S4 = S3 ∧ ∃ wd : List D, wd.take 1 = (due27 c0 c1 c2 c3).map D.str ∧ e = E27 ns n bs ws ps os [some (.lst [B, W, Pl, O]), some w9, some (.lst [.int (bI c0), .int (bI c1), .int (bI c2), .int (bI c3)]), some (.lst [pk c0 (bxsD bs) B, pk c1 (wsD ws) W, pk c2 (plD ps) Pl, pk c3 (plD os) O]), some (.lst wd), v13, v14]) (fun R3 hR3 => ?_) ?_
        · have hc := lc_filt (g := eN 13) (c := xIsT (xOp dEq (xOp dIx (xVar 10) (xVar 13)) (xC (.int 1)))) (f := xOp dIx (xLst mkF (xCons (xC (.str ("boxes" : PySem.Str))) (xCons (xC (.str ("weights" : PySem.Str))) (xCons (xC (.str ("plan" : PySem.Str))) (xCons (xC (.str ("order" : PySem.Str))) xNil))))) (xVar 13)) (e0 := E27 ns n bs ws ps os [some (.lst [B, W, Pl, O]), some w9, some (.lst [.int (bI c0), .int (bI c1), .int (bI c2), .int (bI c3)]), some (.lst [pk c0 (bxsD bs) B, pk c1 (wsD ws) W, pk c2 (plD ps) Pl, pk c3 (plD os) O]), v12, none, v14]) (S := S3) (fun k : Nat => D.int (k : Int)) (fun k : Nat => D.str ((["boxes", "weights", "plan", "order"] : List PySem.Str).getD k "")) (fun k : Nat => ([c0, c1, c2, c3]).getD k false) [0, 1, 2, 3] [] (fun i hi => ⟨_, rfl, by
              simp only [List.mem_cons, List.not_mem_nil, or_false] at hi
              rcases hi with rfl | rfl | rfl | rfl
              · cases c0 <;> simp
              · cases c1 <;> simp
              · cases c2 <;> simp
              · cases c3 <;> simp, by
              simp only [List.mem_cons, List.not_mem_nil, or_false] at hi
              rcases hi with rfl | rfl | rfl | rfl <;> simp⟩) (by simp)
          have ir : irange 0 4 = ([0, 1, 2, 3] : List Nat).map fun k : Nat => D.int (k : Int) := rfl
          rw [← ir] at hc
          simp only [E27] at hc
          simp only [E27, ySet_app, xLc_app, iSrcA_app, xCons_app, xNil_app, xC_app, Res.bind_ok, enso_out, ens_bind, ens_srcR1]
          refine ⟨rng62_of (by decide) (by decide), ?_⟩
          rw [show ((4 : Int)).toNat = 4 by rfl]
          simp only [wipeE_cons, wipeE_nil, List.set_cons_succ, List.set_cons_zero, hc, ens_ok, mkF_app, enso_nx]
          refine hR3 _ _ ⟨rfl, _, ?_, rfl⟩
          cases c0 <;> cases c1 <;> cases c2 <;> cases c3 <;> rfl
        rintro e S4 ⟨rfl, wd, hw, rfl⟩
        simp only [E27, yFor_app, iSrcA_app, xCons_app, xNil_app, xC_app, Res.bind_ok, enso_out, ens_bind, ens_srcR1]
        refine ⟨rng62_of (by decide) (by decide), ?_⟩
        refine ens_fr (fun j e S5 => S5 = S4 ∧ ∃ v13 v14, e = E27 ns n bs ws ps os [some (.lst [B, W, Pl, O]), some w9, some (.lst [.int (bI c0), .int (bI c1), .int (bI c2), .int (bI c3)]), some (.lst [pk c0 (bxsD bs) B, pk c1 (wsD ws) W, pk c2 (plD ps) Pl, pk c3 (plD os) O]), some (.lst wd), v13, v14]) ⟨rfl, _, _, rfl⟩ ?_ ?_
        · rintro j d e S5 R3 hd ⟨rfl, u13, u14, rfl⟩ hR3
          obtain ⟨rfl, hj⟩ := irange_get hd
          have hj : j < 3 := hj
          have st : slD mkF (.lst wd) none (some 1) S5 = .ok (.lst ((due27 c0 c1 c2 c3).map D.str)) S5 := by
            have := dl_to wd 1 S5
            rw [show ((1 : Nat) : Int) = 1 by rfl] at this
            rw [this, ← hw]
            congr 2
            cases wd <;> simp
          simp only [E27, gN_app, enso_nx, List.set_cons_succ, List.set_cons_zero, Int.zero_add]
          refine ens_sq (fun e S6 => S6 = S5 ∧ e = E27 ns n bs ws ps os [some (.lst [B, W, Pl, O]), some w9, some (.lst [.int (bI c0), .int (bI c1), .int (bI c2), .int (bI c3)]), some (.lst [pk c0 (bxsD bs) B, pk c1 (wsD ws) W, pk c2 (plD ps) Pl, pk c3 (plD os) O]), some (.lst wd), some (.int (j : Int)), some (.lst ((due27 c0 c1 c2 c3).map D.str))]) (fun R4 hR4 => ?_) ?_
          · simp only [ySet_app, xSl_app, oSome_app, oNone_app, xC_app, xVar_app, List.getElem?_cons_zero, List.getElem?_cons_succ, Res.bind_ok, st, enso_out, ens_ok, enso_nx, List.set_cons_succ, List.set_cons_zero]
            exact hR4 _ _ ⟨rfl, rfl⟩
          rintro e S6 ⟨rfl, rfl⟩
          have lr := law_refused_ok K c0 c1 c2 c3 (k := (j : Int)) (by omega) (by omega) S6 und
          have tq : ∃ p, toP S6 60 (.lst ((if (j : Int) = 2 ∧ (c0 || c1 || c2) = false then [] else due27 c0 c1 c2 c3).map D.str)) = some p := by
            split
            · exact ⟨.list [], by simp [toP, toPs]⟩
            · exact ⟨_, due_toP c0 c1 c2 c3 S6⟩
          obtain ⟨p, tq⟩ := tq
          refine ens_sq (fun e S7 => S7 = S6 ∧ e = E27 ns n bs ws ps os [some (.lst [B, W, Pl, O]), some w9, some (.lst [.int (bI c0), .int (bI c1), .int (bI c2), .int (bI c3)]), some (.lst [pk c0 (bxsD bs) B, pk c1 (wsD ws) W, pk c2 (plD ps) Pl, pk c3 (plD os) O]), some (.lst wd), some (.int (j : Int)), some (.lst ((if (j : Int) = 2 ∧ (c0 || c1 || c2) = false then [] else due27 c0 c1 c2 c3).map D.str))]) (fun R4 hR4 => ?_) ?_
          · simp only [E27, yIf_app, xAnd_app, xIsT_app, xOp_app, xLst_app, xFn_app, xCons_app, xNil_app, xC_app, xVar_app, List.getElem?_cons_zero, List.getElem?_cons_succ, Res.bind_ok, dEq_int, enso_out]
            by_cases g : (j : Int) = 2
            · simp only [decide_eq_true g, if_true, List.length_cons, List.length_nil, if_pos (show 0 + 1 ≤ 1000 by decide), mkF_app, Res.bind_ok, due_eq, ens_ok]
              by_cases g2 : ((!(c0 || c1 || c2)) && c3) = true
              · rw [if_pos g2]
                rw [Bool.and_eq_true, Bool.not_eq_true'] at g2
                simp only [ySet_app, xLst_app, xFn_app, xNil_app, Res.bind_ok, List.length_nil, if_pos (show 0 ≤ 1000 by decide), mkF_app, enso_out, ens_ok, enso_nx, List.set_cons_succ, List.set_cons_zero]
                refine hR4 _ _ ⟨rfl, ?_⟩
                rw [if_pos ⟨g, g2.1⟩]
                rfl
              · rw [if_neg g2]
                simp only [yNil_app, enso_nx]
                refine hR4 _ _ ⟨rfl, ?_⟩
                by_cases g3 : (c0 || c1 || c2) = false
                · have : c3 = false := by
                    cases c3 with
                    | false => rfl
                    | true => rw [g3] at g2; exact absurd rfl g2
                  rw [if_pos ⟨g, g3⟩]
                  subst this
                  cases c0 <;> cases c1 <;> cases c2 <;> simp at g3
                  rfl
                · rw [if_neg fun z => g3 z.2]
            · simp only [decide_eq_false g, Bool.false_eq_true, if_false, ens_ok, yNil_app, enso_nx]
              refine hR4 _ _ ⟨rfl, ?_⟩
              rw [if_neg fun z => g z.1]
          rintro e S7 ⟨rfl, rfl⟩
          generalize hX : ((if (j : Int) = 2 ∧ (c0 || c1 || c2) = false then [] else due27 c0 c1 c2 c3).map D.str) = X at *
          have i0 : ∀ (a b c d : D) S, dIx (.lst [a, b, c, d]) (.int 0) S = .ok a S ∧ dIx (.lst [a, b, c, d]) (.int 1) S = .ok b S ∧ dIx (.lst [a, b, c, d]) (.int 2) S = .ok c S ∧ dIx (.lst [a, b, c, d]) (.int 3) S = .ok d S := fun a b c d S => ⟨by simp, by simp, by simp, by simp⟩
          obtain ⟨j0, j1, j2, j3⟩ := i0 (pk c0 (bxsD bs) B) (pk c1 (wsD ws) W) (pk c2 (plD ps) Pl) (pk c3 (plD os) O) S7
          simp only [E27, yIf_app, xIsT_app, xOp_app, xFn_app, xCons_app, xNil_app, xC_app, xVar_app, List.getElem?_cons_zero, List.getElem?_cons_succ, Res.bind_ok, j0, j1, j2, j3, lr, dNe_self tq, Bool.false_eq_true, if_false, enso_out, ens_ok, yNil_app, enso_nx]
          exact hR3 _ _ ⟨rfl, _, _, rfl⟩
        · rintro e S5 ⟨rfl, u13, u14, rfl⟩
          exact hR2 _ _ ⟨hp2, _, _, _, _, _, _, rfl⟩
      · rintro e S' ⟨_, v9, v10, v11, v12, v13, v14, rfl⟩
        exact hR _ _ ⟨_, rfl⟩
    rintro e S' ⟨r, rfl⟩
    obtain ⟨p, hp4⟩ := four_toP bs ws ps os S'
    simp [dEq_self hp4]
  obtain ⟨d, S', e, rfl⟩ := h.get
  exact ⟨S', e⟩

end Lw
namespace Lw
open PySem PySem.Spec PyProof.Rows L2 Dv
structure Tx (K : PySem.W.Frag) (mg : Str → Option Value) where
  a_divisor : Addr
  d_divisor : FuncData
  F_divisor : Fun K "divisor" "divisor" s_divisor a_divisor d_divisor
  g_divisor : mg "divisor" = some (.ref a_divisor)
  b_divisor : Binds K d_divisor ["one", "other"] []
  a_ratio : Addr
  d_ratio : FuncData
  F_ratio : Fun K "ratio" "ratio" s_ratio a_ratio d_ratio
  g_ratio : mg "ratio" = some (.ref a_ratio)
  b_ratio : Binds K d_ratio ["top", "bottom"] []
  a_plus : Addr
  d_plus : FuncData
  F_plus : Fun K "plus" "plus" s_plus a_plus d_plus
  g_plus : mg "plus" = some (.ref a_plus)
  b_plus : Binds K d_plus ["one", "other"] []
  a_minus : Addr
  d_minus : FuncData
  F_minus : Fun K "minus" "minus" s_minus a_minus d_minus
  g_minus : mg "minus" = some (.ref a_minus)
  b_minus : Binds K d_minus ["one", "other"] []
  a_times : Addr
  d_times : FuncData
  F_times : Fun K "times" "times" s_times a_times d_times
  g_times : mg "times" = some (.ref a_times)
  b_times : Binds K d_times ["one", "other"] []
  a_below : Addr
  d_below : FuncData
  F_below : Fun K "below" "below" s_below a_below d_below
  g_below : mg "below" = some (.ref a_below)
  b_below : Binds K d_below ["one", "other"] []
  a_is_number : Addr
  d_is_number : FuncData
  F_is_number : Fun K "is_number" "is_number" s_is_number a_is_number d_is_number
  g_is_number : mg "is_number" = some (.ref a_is_number)
  b_is_number : Binds K d_is_number ["thing"] []
  a_are_numbers : Addr
  d_are_numbers : FuncData
  F_are_numbers : Fun K "are_numbers" "are_numbers" s_are_numbers a_are_numbers d_are_numbers
  g_are_numbers : mg "are_numbers" = some (.ref a_are_numbers)
  b_are_numbers : Binds K d_are_numbers ["thing", "many"] []
  a_are_weights : Addr
  d_are_weights : FuncData
  F_are_weights : Fun K "are_weights" "are_weights" s_are_weights a_are_weights d_are_weights
  g_are_weights : mg "are_weights" = some (.ref a_are_weights)
  b_are_weights : Binds K d_are_weights ["thing", "many"] []
  a_is_box : Addr
  d_is_box : FuncData
  F_is_box : Fun K "is_box" "is_box" s_is_box a_is_box d_is_box
  g_is_box : mg "is_box" = some (.ref a_is_box)
  b_is_box : Binds K d_is_box ["box"] []
  a_must_be_boxes : Addr
  d_must_be_boxes : FuncData
  F_must_be_boxes : Fun K "must_be_boxes" "must_be_boxes" s_must_be_boxes a_must_be_boxes d_must_be_boxes
  g_must_be_boxes : mg "must_be_boxes" = some (.ref a_must_be_boxes)
  b_must_be_boxes : Binds K d_must_be_boxes ["boxes"] []
  a_is_plan : Addr
  d_is_plan : FuncData
  F_is_plan : Fun K "is_plan" "is_plan" s_is_plan a_is_plan d_is_plan
  g_is_plan : mg "is_plan" = some (.ref a_is_plan)
  b_is_plan : Binds K d_is_plan ["boxes", "plan"] []
  a_missed : Addr
  d_missed : FuncData
  F_missed : Fun K "missed" "missed" s_missed a_missed d_missed
  g_missed : mg "missed" = some (.ref a_missed)
  b_missed : Binds K d_missed ["box", "many"] []
  a_mark : Addr
  d_mark : FuncData
  F_mark : Fun K "mark" "mark" s_mark a_mark d_mark
  g_mark : mg "mark" = some (.ref a_mark)
  b_mark : Binds K d_mark ["box", "many"] []
  a_must_be_asked : Addr
  d_must_be_asked : FuncData
  F_must_be_asked : Fun K "must_be_asked" "must_be_asked" s_must_be_asked a_must_be_asked d_must_be_asked
  g_must_be_asked : mg "must_be_asked" = some (.ref a_must_be_asked)
  b_must_be_asked : Binds K d_must_be_asked ["boxes", "weights", "plan"] []
  a_must_be_order : Addr
  d_must_be_order : FuncData
  F_must_be_order : Fun K "must_be_order" "must_be_order" s_must_be_order a_must_be_order d_must_be_order
  g_must_be_order : mg "must_be_order" = some (.ref a_must_be_order)
  b_must_be_order : Binds K d_must_be_order ["boxes", "plan", "order"] []
  a_chances : Addr
  d_chances : FuncData
  F_chances : Fun K "chances" "chances" s_chances a_chances d_chances
  g_chances : mg "chances" = some (.ref a_chances)
  b_chances : Binds K d_chances ["boxes", "weights", "order"] []
  a_awaited : Addr
  d_awaited : FuncData
  F_awaited : Fun K "awaited" "awaited" s_awaited a_awaited d_awaited
  g_awaited : mg "awaited" = some (.ref a_awaited)
  b_awaited : Binds K d_awaited ["boxes", "weights", "plan", "order"] []
  a_ahead : Addr
  d_ahead : FuncData
  F_ahead : Fun K "ahead" "ahead" s_ahead a_ahead d_ahead
  g_ahead : mg "ahead" = some (.ref a_ahead)
  b_ahead : Binds K d_ahead ["boxes", "one", "other"] []
  a_is_sorted : Addr
  d_is_sorted : FuncData
  F_is_sorted : Fun K "is_sorted" "is_sorted" s_is_sorted a_is_sorted d_is_sorted
  g_is_sorted : mg "is_sorted" = some (.ref a_is_sorted)
  b_is_sorted : Binds K d_is_sorted ["boxes", "weights", "plan", "order"] []
  a_best_order : Addr
  d_best_order : FuncData
  F_best_order : Fun K "best_order" "best_order" s_best_order a_best_order d_best_order
  g_best_order : mg "best_order" = some (.ref a_best_order)
  b_best_order : Binds K d_best_order ["boxes", "weights", "plan"] []
  a__law_purse : Addr
  d__law_purse : FuncData
  F__law_purse : Fun K "_law_purse" "_law_purse" s__law_purse a__law_purse d__law_purse
  g__law_purse : mg "_law_purse" = some (.ref a__law_purse)
  b__law_purse : Binds K d__law_purse ["_law_script"] []
  a__law_draw : Addr
  d__law_draw : FuncData
  F__law_draw : Fun K "_law_draw" "_law_draw" s__law_draw a__law_draw d__law_draw
  g__law_draw : mg "_law_draw" = some (.ref a__law_draw)
  b__law_draw : Binds K d__law_draw ["_law_purse_here", "_law_out_of"] []
  a__law_boxes : Addr
  d__law_boxes : FuncData
  F__law_boxes : Fun K "_law_boxes" "_law_boxes" s__law_boxes a__law_boxes d__law_boxes
  g__law_boxes : mg "_law_boxes" = some (.ref a__law_boxes)
  b__law_boxes : Binds K d__law_boxes ["_law_purse_here", "_law_most"] []
  a__law_weights : Addr
  d__law_weights : FuncData
  F__law_weights : Fun K "_law_weights" "_law_weights" s__law_weights a__law_weights d__law_weights
  g__law_weights : mg "_law_weights" = some (.ref a__law_weights)
  b__law_weights : Binds K d__law_weights ["_law_purse_here", "_law_many"] []
  a__law_plan : Addr
  d__law_plan : FuncData
  F__law_plan : Fun K "_law_plan" "_law_plan" s__law_plan a__law_plan d__law_plan
  g__law_plan : mg "_law_plan" = some (.ref a__law_plan)
  b__law_plan : Binds K d__law_plan ["_law_purse_here", "_law_many"] []
  a__law_order : Addr
  d__law_order : FuncData
  F__law_order : Fun K "_law_order" "_law_order" s__law_order a__law_order d__law_order
  g__law_order : mg "_law_order" = some (.ref a__law_order)
  b__law_order : Binds K d__law_order ["_law_purse_here", "_law_plan_here"] []
  a__law_no_boxes : Addr
  d__law_no_boxes : FuncData
  F__law_no_boxes : Fun K "_law_no_boxes" "_law_no_boxes" s__law_no_boxes a__law_no_boxes d__law_no_boxes
  g__law_no_boxes : mg "_law_no_boxes" = some (.ref a__law_no_boxes)
  b__law_no_boxes : Binds K d__law_no_boxes ["_law_purse_here", "_law_boxes_here"] []
  a__law_no_numbers : Addr
  d__law_no_numbers : FuncData
  F__law_no_numbers : Fun K "_law_no_numbers" "_law_no_numbers" s__law_no_numbers a__law_no_numbers d__law_no_numbers
  g__law_no_numbers : mg "_law_no_numbers" = some (.ref a__law_no_numbers)
  b__law_no_numbers : Binds K d__law_no_numbers ["_law_purse_here", "_law_numbers", "_law_most"] []
  a__law_marks : Addr
  d__law_marks : FuncData
  F__law_marks : Fun K "_law_marks" "_law_marks" s__law_marks a__law_marks d__law_marks
  g__law_marks : mg "_law_marks" = some (.ref a__law_marks)
  b__law_marks : Binds K d__law_marks ["_law_caught"] []
  a__law_no_order : Addr
  d__law_no_order : FuncData
  F__law_no_order : Fun K "_law_no_order" "_law_no_order" s__law_no_order a__law_no_order d__law_no_order
  g__law_no_order : mg "_law_no_order" = some (.ref a__law_no_order)
  b__law_no_order : Binds K d__law_no_order ["_law_purse_here", "_law_order_here", "_law_many"] []
  a__law_asked : Addr
  d__law_asked : FuncData
  F__law_asked : Fun K "_law_asked" "_law_asked" s__law_asked a__law_asked d__law_asked
  g__law_asked : mg "_law_asked" = some (.ref a__law_asked)
  b__law_asked : Binds K d__law_asked ["_law_k", "_law_boxes_here", "_law_weights_here", "_law_plan_here", "_law_order_here"] []
  a__law_refused : Addr
  d__law_refused : FuncData
  F__law_refused : Fun K "_law_refused" "_law_refused" s__law_refused a__law_refused d__law_refused
  g__law_refused : mg "_law_refused" = some (.ref a__law_refused)
  b__law_refused : Binds K d__law_refused ["_law_k", "_law_boxes_here", "_law_weights_here", "_law_plan_here", "_law_order_here"] []
  a__law_choices : Addr
  d__law_choices : FuncData
  F__law_choices : Fun K "_law_choices" "_law_choices" s__law_choices a__law_choices d__law_choices
  g__law_choices : mg "_law_choices" = some (.ref a__law_choices)
  b__law_choices : Binds K d__law_choices ["_law_purse_here"] []
  a_law : Addr
  d_law : FuncData
  F_law : Fun K "law" "law" s_law a_law d_law
  g_law : mg "law" = some (.ref a_law)
  b_law : Binds K d_law ["_law_script"] []
  z_abs : mg "abs" = none
  z_int : mg "int" = none
  z_isinstance : mg "isinstance" = none
  z_bool : mg "bool" = none
  z_list : mg "list" = none
  z_len : mg "len" = none
  z_min : mg "min" = none
  z_max : mg "max" = none
  z_tuple : mg "tuple" = none
  z_range : mg "range" = none
  z_sum : mg "sum" = none
  z_ValueError : mg "ValueError" = none
  t_MOST_COST : Tok
  c_MOST_COST : mg "MOST_COST" = some (.int 60 t_MOST_COST)
  t_MOST_OF : Tok
  c_MOST_OF : mg "MOST_OF" = some (.int 50 t_MOST_OF)
  t_MOST_BOXES : Tok
  c_MOST_BOXES : mg "MOST_BOXES" = some (.int 6 t_MOST_BOXES)
  t_MOST_BUDGET : Tok
  c_MOST_BUDGET : mg "MOST_BUDGET" = some (.int 60 t_MOST_BUDGET)
  C_NoNumber : Addr
  k_NoNumber : Cl K mg "NoNumber" C_NoNumber
  C_NoBoxes : Addr
  k_NoBoxes : Cl K mg "NoBoxes" C_NoBoxes
  C_NoWeights : Addr
  k_NoWeights : Cl K mg "NoWeights" C_NoWeights
  C_NoPlan : Addr
  k_NoPlan : Cl K mg "NoPlan" C_NoPlan
  C_HideError : Addr
  k_HideError : Cl K mg "HideError" C_HideError
  C_NoOrder : Addr
  k_NoOrder : Cl K mg "NoOrder" C_NoOrder
  C_NoBudget : Addr
  k_NoBudget : Cl K mg "NoBudget" C_NoBudget
  C_NoPlay : Addr
  k_NoPlay : Cl K mg "NoPlay" C_NoPlay
  C_NoName : Addr
  k_NoName : Cl K mg "NoName" C_NoName
  C_NoKind : Addr
  k_NoKind : Cl K mg "NoKind" C_NoKind
  C_NoTable : Addr
  k_NoTable : Cl K mg "NoTable" C_NoTable
  C_NoRow : Addr
  k_NoRow : Cl K mg "NoRow" C_NoRow
  C_NoRoad : Addr
  k_NoRoad : Cl K mg "NoRoad" C_NoRoad
  C_NoTree : Addr
  k_NoTree : Cl K mg "NoTree" C_NoTree
  C_NoText : Addr
  k_NoText : Cl K mg "NoText" C_NoText
  C_NoPaper : Addr
  k_NoPaper : Cl K mg "NoPaper" C_NoPaper
  C_TooGreat : Addr
  k_TooGreat : Cl K mg "TooGreat" C_TooGreat
  C_NoWeb : Addr
  k_NoWeb : Cl K mg "NoWeb" C_NoWeb
  C_NoTurns : Addr
  k_NoTurns : Cl K mg "NoTurns" C_NoTurns
  r_NoNumber : Rc K mg "NoNumber" C_NoNumber
  x_NoNumber : PySem.W.excIn K C_NoNumber veMro "ValueError.__new__" = true
  r_NoBoxes : Rc K mg "NoBoxes" C_NoBoxes
  x_NoBoxes : PySem.W.excIn K C_NoBoxes veMro "ValueError.__new__" = true
  r_NoWeights : Rc K mg "NoWeights" C_NoWeights
  x_NoWeights : PySem.W.excIn K C_NoWeights veMro "ValueError.__new__" = true
  r_NoPlan : Rc K mg "NoPlan" C_NoPlan
  fI_NoPlan : Addr
  fdI_NoPlan : FuncData
  FI_NoPlan : Fun K "__init__" "NoPlan.__init__" si_NoPlan fI_NoPlan fdI_NoPlan
  bI_NoPlan : Binds K fdI_NoPlan ["self", "at"] []
  T_NoPlan : OexC K C_NoPlan
  iC_NoPlan : PySem.W.findIn K (.ref C_NoPlan) "__init__" = some (some (.ref fI_NoPlan))
  tI_NoPlan : PySem.W.typeIn K (.ref fI_NoPlan) = some (.type "function")
  mc_NoPlan : Value
  sG_NoPlan : PySem.W.specialIn K (.ref C_HideError) "__getattribute__" = some (some (.builtin "type.__getattribute__"))
  rB_NoPlan : PySem.W.readsIn K C_HideError mc_NoPlan = true
  vV_NoPlan : PySem.W.findCls K (.ref C_HideError) mc_NoPlan "__init__" = some (.val (.builtin "ValueError.__init__"))
  nf_NoPlan : PySem.W.findIn K (.ref C_NoPlan) "at" = some none
  r_NoOrder : Rc K mg "NoOrder" C_NoOrder
  x_NoOrder : PySem.W.excIn K C_NoOrder veMro "ValueError.__new__" = true
  fc_at : ∀ c ∈ fldL_at, FldC K "at" c
  ct : ∀ p ∈ catchL, CatchOk K p
  xc : XcOk K isL raisedL
section
variable {P : Program} {w : World} {K : PySem.W.Frag} {mg : Str → Option Value} {base : Heap}
theorem sci_NoPlan : FnScope ["self", "at"] ["self", "at"] (defScope si_NoPlan) := ⟨rfl, rfl, rfl, by decide +kernel, rfl, by decide +kernel, by decide +kernel⟩
theorem okI_NoPlan (T : Tx K mg) : FnOk P w K mg base (L2.CX P w) 2 T.fI_NoPlan T.fdI_NoPlan ["self", "at"] (spI K T.C_NoPlan "at") :=
  T.FI_NoPlan.okX sci_NoPlan (fun vs H Q E ⟨a, i, e, _⟩ => by subst e; rfl) fun cdv A outer s H vs Q E hr ⟨a, i, e, ha, q⟩ => by
    have nd := sci_NoPlan.nd
    refine ⟨_, pss_cons (ps_expr (pe_binit (by rfl) T.k_HideError.g T.sG_NoPlan T.rB_NoPlan T.vV_NoPlan (pa_cons (pe_var (i := 0) rfl (Or.inl rfl)) (pa_cons pe_str pa_nil))) (by rfl)) (pss_one (ps_ost (pe_var (i := 0) rfl (Or.inl rfl)) (pe_var (i := 1) rfl (Or.inl rfl)))), ?_⟩
    subst e
    refine ⟨_, rfl, ⟨a, T.C_NoPlan, [.str _], rfl, by simp, T.T_NoPlan, ha, ⟨_, rfl, ⟨_, rfl, a, T.C_NoPlan, rfl, T.T_NoPlan, T.nf_NoPlan, .inl ⟨ha, fun dx hd hda => q dx hd hda⟩⟩⟩⟩⟩
theorem ok_divisor (T : Tx K mg) : FnOk P w K mg base (L2.CX P w) 2 T.a_divisor T.d_divisor ["one", "other"] (spD ⟨K, mg⟩ F_divisor) :=
  fn_mk (k := 1) (keep := false) (body := b_divisor) T.F_divisor sc_divisor rfl fun cdv A outer s H E hr => by
    have nd := sc_divisor.nd
    have tk : Takes (cxOf (L2.CX P w) P w K mg base ["one", "other"] "divisor" (defScope s_divisor) T.a_divisor cdv A outer s H E) (fun cls d _ H' => E cls d H') := takes_of rfl rfl rfl rfl
    exact (pssd_cons (psd_set (i := 0) nd (pd_callB cd_abs (by rfl) T.z_abs (by decide +kernel) (pad_cons (pd_var (i := 0)) pad_nil)))
      (pssd_cons (psd_set (i := 1) nd (pd_callB cd_abs (by rfl) T.z_abs (by decide +kernel) (pad_cons (pd_var (i := 1)) pad_nil)))
      (pssd_cons (psd_while (passes_of rfl) (ptd_cmp (od_ne hr.units) (pd_var (i := 1)) pd_int) (pssd_one (psd_par (i := 0) (j := 1) rfl nd (by decide) (pad_cons (pd_var (i := 1)) (pad_cons (pd_op od_mod (pd_var (i := 0)) (pd_var (i := 1))) pad_nil)) (by rfl))))
      (pssd_one (psd_ret (pd_var (i := 0)))))))
theorem ok_ratio (T : Tx K mg) : FnOk P w K mg base (L2.CX P w) 3 T.a_ratio T.d_ratio ["top", "bottom"] (spD ⟨K, mg⟩ F_ratio) :=
  fn_mk (k := 2) (keep := false) (body := b_ratio) T.F_ratio sc_ratio rfl fun cdv A outer s H E hr => by
    have nd := sc_ratio.nd
    have tk : Takes (cxOf (L2.CX P w) P w K mg base ["top", "bottom", "by"] "ratio" (defScope s_ratio) T.a_ratio cdv A outer s H E) (fun cls d _ H' => E cls d H') := takes_of rfl rfl rfl rfl
    exact (pssd_cons (psd_if (ptd_cmp (od_eq hr.units) (pd_var (i := 1)) pd_int) (pssd_one (psd_raise rfl tk T.r_NoNumber T.x_NoNumber)) pssd_nil)
      (pssd_cons (psd_set (i := 2) nd (pd_call (ok_divisor T) (hr.mono (by decide)) T.g_divisor T.F_divisor.kp T.b_divisor tk (pad_cons (pd_var (i := 0)) (pad_cons (pd_var (i := 1)) pad_nil))))
      (pssd_cons (psd_if (ptd_cmp od_lt (pd_var (i := 1)) pd_int) (pssd_one (psd_set (i := 2) nd (pd_op od_sub pd_int (pd_var (i := 2))))) pssd_nil)
      (pssd_one (psd_ret (pd_tup (pad_cons (pd_op od_fdiv (pd_var (i := 0)) (pd_var (i := 2))) (pad_cons (pd_op od_fdiv (pd_var (i := 1)) (pd_var (i := 2))) pad_nil))))))))
theorem ok_plus (T : Tx K mg) : FnOk P w K mg base (L2.CX P w) 4 T.a_plus T.d_plus ["one", "other"] (spD ⟨K, mg⟩ F_plus) :=
  fn_mk (k := 3) (keep := false) (body := b_plus) T.F_plus sc_plus rfl fun cdv A outer s H E hr => by
    have nd := sc_plus.nd
    have tk : Takes (cxOf (L2.CX P w) P w K mg base ["one", "other"] "plus" (defScope s_plus) T.a_plus cdv A outer s H E) (fun cls d _ H' => E cls d H') := takes_of rfl rfl rfl rfl
    exact (pssd_one (psd_ret (pd_call (ok_ratio T) (hr.mono (by decide)) T.g_ratio T.F_ratio.kp T.b_ratio tk (pad_cons (pd_op (od_add mk_F) (pd_op (od_mul mk_F) (pd_ix ixd (pd_var (i := 0)) pd_int) (pd_ix ixd (pd_var (i := 1)) pd_int)) (pd_op (od_mul mk_F) (pd_ix ixd (pd_var (i := 1)) pd_int) (pd_ix ixd (pd_var (i := 0)) pd_int))) (pad_cons (pd_op (od_mul mk_F) (pd_ix ixd (pd_var (i := 0)) pd_int) (pd_ix ixd (pd_var (i := 1)) pd_int)) pad_nil)))))
theorem ok_minus (T : Tx K mg) : FnOk P w K mg base (L2.CX P w) 4 T.a_minus T.d_minus ["one", "other"] (spD ⟨K, mg⟩ F_minus) :=
  fn_mk (k := 3) (keep := false) (body := b_minus) T.F_minus sc_minus rfl fun cdv A outer s H E hr => by
    have nd := sc_minus.nd
    have tk : Takes (cxOf (L2.CX P w) P w K mg base ["one", "other"] "minus" (defScope s_minus) T.a_minus cdv A outer s H E) (fun cls d _ H' => E cls d H') := takes_of rfl rfl rfl rfl
    exact (pssd_one (psd_ret (pd_call (ok_ratio T) (hr.mono (by decide)) T.g_ratio T.F_ratio.kp T.b_ratio tk (pad_cons (pd_op od_sub (pd_op (od_mul mk_F) (pd_ix ixd (pd_var (i := 0)) pd_int) (pd_ix ixd (pd_var (i := 1)) pd_int)) (pd_op (od_mul mk_F) (pd_ix ixd (pd_var (i := 1)) pd_int) (pd_ix ixd (pd_var (i := 0)) pd_int))) (pad_cons (pd_op (od_mul mk_F) (pd_ix ixd (pd_var (i := 0)) pd_int) (pd_ix ixd (pd_var (i := 1)) pd_int)) pad_nil)))))
theorem ok_times (T : Tx K mg) : FnOk P w K mg base (L2.CX P w) 4 T.a_times T.d_times ["one", "other"] (spD ⟨K, mg⟩ F_times) :=
  fn_mk (k := 3) (keep := false) (body := b_times) T.F_times sc_times rfl fun cdv A outer s H E hr => by
    have nd := sc_times.nd
    have tk : Takes (cxOf (L2.CX P w) P w K mg base ["one", "other"] "times" (defScope s_times) T.a_times cdv A outer s H E) (fun cls d _ H' => E cls d H') := takes_of rfl rfl rfl rfl
    exact (pssd_one (psd_ret (pd_call (ok_ratio T) (hr.mono (by decide)) T.g_ratio T.F_ratio.kp T.b_ratio tk (pad_cons (pd_op (od_mul mk_F) (pd_ix ixd (pd_var (i := 0)) pd_int) (pd_ix ixd (pd_var (i := 1)) pd_int)) (pad_cons (pd_op (od_mul mk_F) (pd_ix ixd (pd_var (i := 0)) pd_int) (pd_ix ixd (pd_var (i := 1)) pd_int)) pad_nil)))))
theorem ok_below (T : Tx K mg) : FnOk P w K mg base (L2.CX P w) 2 T.a_below T.d_below ["one", "other"] (spD ⟨K, mg⟩ F_below) :=
  fn_mk (k := 1) (keep := false) (body := b_below) T.F_below sc_below rfl fun cdv A outer s H E hr => by
    have nd := sc_below.nd
    have tk : Takes (cxOf (L2.CX P w) P w K mg base ["one", "other"] "below" (defScope s_below) T.a_below cdv A outer s H E) (fun cls d _ H' => E cls d H') := takes_of rfl rfl rfl rfl
    exact (pssd_one (psd_ret (pd_cmp od_lt (pd_op (od_mul mk_F) (pd_ix ixd (pd_var (i := 0)) pd_int) (pd_ix ixd (pd_var (i := 1)) pd_int)) (pd_op (od_mul mk_F) (pd_ix ixd (pd_var (i := 1)) pd_int) (pd_ix ixd (pd_var (i := 0)) pd_int)))))
theorem ok_is_number (T : Tx K mg) : FnOk P w K mg base (L2.CX P w) 2 T.a_is_number T.d_is_number ["thing"] (spD ⟨K, mg⟩ F_is_number) :=
  fn_mk (k := 1) (keep := false) (body := b_is_number) T.F_is_number sc_is_number rfl fun cdv A outer s H E hr => by
    have nd := sc_is_number.nd
    have tk : Takes (cxOf (L2.CX P w) P w K mg base ["thing"] "is_number" (defScope s_is_number) T.a_is_number cdv A outer s H E) (fun cls d _ H' => E cls d H') := takes_of rfl rfl rfl rfl
    exact (pssd_one (psd_ret (pd_and (pd_callB cd_isi (by rfl) T.z_isinstance (by decide +kernel) (pad_cons (pd_var (i := 0)) (pad_cons (pd_ty T.z_int (by decide +kernel)) pad_nil))) (pd_one (pd_not (pd_callB cd_isi (by rfl) T.z_isinstance (by decide +kernel) (pad_cons (pd_var (i := 0)) (pad_cons (pd_ty T.z_bool (by decide +kernel)) pad_nil))))))))
theorem ok_are_numbers (T : Tx K mg) : FnOk P w K mg base (L2.CX P w) 3 T.a_are_numbers T.d_are_numbers ["thing", "many"] (spD ⟨K, mg⟩ F_are_numbers) :=
  fn_mk (k := 2) (keep := false) (body := b_are_numbers) T.F_are_numbers sc_are_numbers rfl fun cdv A outer s H E hr => by
    have nd := sc_are_numbers.nd
    have tk : Takes (cxOf (L2.CX P w) P w K mg base ["thing", "many", "number"] "are_numbers" (defScope s_are_numbers) T.a_are_numbers cdv A outer s H E) (fun cls d _ H' => E cls d H') := takes_of rfl rfl rfl rfl
    exact (pssd_cons (psd_if (PWD.pt (pwd_or (ptd_not (ptd_truth (pd_callB cd_isi (by rfl) T.z_isinstance (by decide +kernel) (pad_cons (pd_var (i := 0)) (pad_cons (pd_ty T.z_list (by decide +kernel)) pad_nil))))) (pwd_or1 (ptd_cmp (od_ne hr.units) (pd_callB cd_len (by rfl) T.z_len (by decide +kernel) (pad_cons (pd_var (i := 0)) pad_nil)) (pd_var (i := 1)))))) (pssd_one (psd_ret pd_bl)) pssd_nil)
      (pssd_one (psd_ret (pd_cmp (od_eq hr.units) (pd_callB cd_len (by rfl) T.z_len (by decide +kernel) (pad_cons (pd_lcIf (own := [("number", 2)]) mk_F (tg_N (by decide)) rfl nd (pid_list (pd_var (i := 0))) (blkOk_by (N := ["thing", "many", "number"]) (sc := defScope s_are_numbers) (by decide +kernel)) (fun _ _ _ _ _ => pg_name (i := 2) nd rfl (Or.inl rfl)) (fun _ _ _ _ _ => (ptd_not (ptd_truth (pd_call (ok_is_number T) (hr.mono (by decide)) T.g_is_number T.F_is_number.kp T.b_is_number takes0 (pad_cons (pd_var (i := 2)) pad_nil))))) (fun _ _ _ _ _ => (pd_var (i := 2)))) pad_nil)) pd_int))))
theorem ok_are_weights (T : Tx K mg) : FnOk P w K mg base (L2.CX P w) 4 T.a_are_weights T.d_are_weights ["thing", "many"] (spD ⟨K, mg⟩ F_are_weights) :=
  fn_mk (k := 3) (keep := false) (body := b_are_weights) T.F_are_weights sc_are_weights rfl fun cdv A outer s H E hr => by
    have nd := sc_are_weights.nd
    have tk : Takes (cxOf (L2.CX P w) P w K mg base ["thing", "many"] "are_weights" (defScope s_are_weights) T.a_are_weights cdv A outer s H E) (fun cls d _ H' => E cls d H') := takes_of rfl rfl rfl rfl
    exact (pssd_one (psd_ret (pd_and (pd_call (ok_are_numbers T) (hr.mono (by decide)) T.g_are_numbers T.F_are_numbers.kp T.b_are_numbers tk (pad_cons (pd_var (i := 0)) (pad_cons (pd_var (i := 1)) pad_nil))) (pd_and (pd_cmp od_ge (pd_callB (cd_min rfl) (by rfl) T.z_min (by decide +kernel) (pad_cons (pd_var (i := 0)) pad_nil)) pd_int) (pd_one (pd_cmp od_gt (pd_callB (cd_max rfl) (by rfl) T.z_max (by decide +kernel) (pad_cons (pd_var (i := 0)) pad_nil)) pd_int))))))
theorem ok_is_box (T : Tx K mg) : FnOk P w K mg base (L2.CX P w) 4 T.a_is_box T.d_is_box ["box"] (spD ⟨K, mg⟩ F_is_box) :=
  fn_mk (k := 3) (keep := false) (body := b_is_box) T.F_is_box sc_is_box rfl fun cdv A outer s H E hr => by
    have nd := sc_is_box.nd
    have tk : Takes (cxOf (L2.CX P w) P w K mg base ["box", "cost", "hits", "of"] "is_box" (defScope s_is_box) T.a_is_box cdv A outer s H E) (fun cls d _ H' => E cls d H') := takes_of rfl rfl rfl rfl
    exact (pssd_cons (psd_if (PWD.pt (pwd_or (ptd_not (ptd_truth (pd_callB cd_isi (by rfl) T.z_isinstance (by decide +kernel) (pad_cons (pd_var (i := 0)) (pad_cons (pd_ty T.z_tuple (by decide +kernel)) pad_nil))))) (pwd_or1 (ptd_not (ptd_truth (pd_call (ok_are_numbers T) (hr.mono (by decide)) T.g_are_numbers T.F_are_numbers.kp T.b_are_numbers tk (pad_cons (pd_callTy (cd_list mk_F) (by rfl) T.z_list (by decide +kernel) (pad_cons (pd_var (i := 0)) pad_nil)) (pad_cons pd_int pad_nil)))))))) (pssd_one (psd_ret pd_bl)) pssd_nil)
      (pssd_cons (psd_asg (pd_var (i := 0)) (pgd_tup rfl (pgsd_cons (pgd_name (i := 1) nd) (pgsd_cons (pgd_name (i := 2) nd) (pgsd_cons (pgd_name (i := 3) nd) pgsd_nil)))))
      (pssd_one (psd_ret (pd_and (pd_cmp od_ge (pd_var (i := 1)) pd_int) (pd_and (pd_cmp od_le (pd_var (i := 1)) (pd_gint T.c_MOST_COST)) (pd_and (pd_cmp od_ge (pd_var (i := 2)) pd_int) (pd_and (pd_cmp od_le (pd_var (i := 2)) (pd_var (i := 3))) (pd_one (pd_cmp od_le (pd_var (i := 3)) (pd_gint T.c_MOST_OF)))))))))))
theorem ok_must_be_boxes (T : Tx K mg) : FnOk P w K mg base (L2.CX P w) 5 T.a_must_be_boxes T.d_must_be_boxes ["boxes"] (spD ⟨K, mg⟩ F_must_be_boxes) :=
  fn_mk (k := 4) (keep := false) (body := b_must_be_boxes) T.F_must_be_boxes sc_must_be_boxes rfl fun cdv A outer s H E hr => by
    have nd := sc_must_be_boxes.nd
    have tk : Takes (cxOf (L2.CX P w) P w K mg base ["boxes", "box"] "must_be_boxes" (defScope s_must_be_boxes) T.a_must_be_boxes cdv A outer s H E) (fun cls d _ H' => E cls d H') := takes_of rfl rfl rfl rfl
    exact (pssd_cons (psd_if (PWD.pt (pwd_or (ptd_not (ptd_truth (pd_callB cd_isi (by rfl) T.z_isinstance (by decide +kernel) (pad_cons (pd_var (i := 0)) (pad_cons (pd_ty T.z_list (by decide +kernel)) pad_nil))))) (pwd_or (ptd_cmp od_lt (pd_callB cd_len (by rfl) T.z_len (by decide +kernel) (pad_cons (pd_var (i := 0)) pad_nil)) pd_int) (pwd_or1 (ptd_cmp od_gt (pd_callB cd_len (by rfl) T.z_len (by decide +kernel) (pad_cons (pd_var (i := 0)) pad_nil)) (pd_gint T.c_MOST_BOXES)))))) (pssd_one (psd_raise rfl tk T.r_NoBoxes T.x_NoBoxes)) pssd_nil)
      (pssd_one (psd_if (ptd_cmp od_gt (pd_callB cd_len (by rfl) T.z_len (by decide +kernel) (pad_cons (pd_lcIf (own := [("box", 1)]) mk_F (tg_N (by decide)) rfl nd (pid_list (pd_var (i := 0))) (blkOk_by (N := ["boxes", "box"]) (sc := defScope s_must_be_boxes) (by decide +kernel)) (fun _ _ _ _ _ => pg_name (i := 1) nd rfl (Or.inl rfl)) (fun _ _ _ _ _ => (ptd_not (ptd_truth (pd_call (ok_is_box T) (hr.mono (by decide)) T.g_is_box T.F_is_box.kp T.b_is_box takes0 (pad_cons (pd_var (i := 1)) pad_nil))))) (fun _ _ _ _ _ => (pd_var (i := 1)))) pad_nil)) pd_int) (pssd_one (psd_raise rfl tk T.r_NoBoxes T.x_NoBoxes)) pssd_nil)))
theorem ok_is_plan (T : Tx K mg) : FnOk P w K mg base (L2.CX P w) 4 T.a_is_plan T.d_is_plan ["boxes", "plan"] (spD ⟨K, mg⟩ F_is_plan) :=
  fn_mk (k := 3) (keep := false) (body := b_is_plan) T.F_is_plan sc_is_plan rfl fun cdv A outer s H E hr => by
    have nd := sc_is_plan.nd
    have tk : Takes (cxOf (L2.CX P w) P w K mg base ["boxes", "plan"] "is_plan" (defScope s_is_plan) T.a_is_plan cdv A outer s H E) (fun cls d _ H' => E cls d H') := takes_of rfl rfl rfl rfl
    exact (pssd_one (psd_ret (pd_and (pd_call (ok_are_numbers T) (hr.mono (by decide)) T.g_are_numbers T.F_are_numbers.kp T.b_are_numbers tk (pad_cons (pd_var (i := 1)) (pad_cons (pd_callB cd_len (by rfl) T.z_len (by decide +kernel) (pad_cons (pd_var (i := 0)) pad_nil)) pad_nil))) (pd_and (pd_cmp od_ge (pd_callB (cd_min rfl) (by rfl) T.z_min (by decide +kernel) (pad_cons (pd_var (i := 1)) pad_nil)) pd_int) (pd_one (pd_cmp od_le (pd_callB (cd_max rfl) (by rfl) T.z_max (by decide +kernel) (pad_cons (pd_var (i := 1)) pad_nil)) (pd_gint T.c_MOST_BUDGET)))))))
theorem ok_missed (T : Tx K mg) : FnOk P w K mg base (L2.CX P w) 4 T.a_missed T.d_missed ["box", "many"] (spD ⟨K, mg⟩ F_missed) :=
  fn_mk (k := 3) (keep := false) (body := b_missed) T.F_missed sc_missed rfl fun cdv A outer s H E hr => by
    have nd := sc_missed.nd
    have tk : Takes (cxOf (L2.CX P w) P w K mg base ["box", "many", "top", "bottom", "turn", "cost", "hits", "of"] "missed" (defScope s_missed) T.a_missed cdv A outer s H E) (fun cls d _ H' => E cls d H') := takes_of rfl rfl rfl rfl
    exact (pssd_cons (psd_asg (pd_var (i := 0)) (pgd_tup rfl (pgsd_cons (pgd_name (i := 5) nd) (pgsd_cons (pgd_name (i := 6) nd) (pgsd_cons (pgd_name (i := 7) nd) pgsd_nil)))))
      (pssd_cons (psd_set (i := 2) nd pd_int)
      (pssd_cons (psd_set (i := 3) nd pd_int)
      (pssd_cons (psd_for (passes_of rfl) rfl (pid_range1 T.z_range (pad_cons (pd_var (i := 1)) pad_nil)) (pgd_name (i := 4) nd) (pssd_cons (psd_set (i := 2) nd (pd_op (od_mul mk_F) (pd_var (i := 2)) (pd_op od_sub (pd_var (i := 7)) (pd_var (i := 6)))))
      (pssd_one (psd_set (i := 3) nd (pd_op (od_mul mk_F) (pd_var (i := 3)) (pd_var (i := 7)))))))
      (pssd_one (psd_ret (pd_call (ok_ratio T) (hr.mono (by decide)) T.g_ratio T.F_ratio.kp T.b_ratio tk (pad_cons (pd_var (i := 2)) (pad_cons (pd_var (i := 3)) pad_nil)))))))))
theorem ok_mark (T : Tx K mg) : FnOk P w K mg base (L2.CX P w) 5 T.a_mark T.d_mark ["box", "many"] (spD ⟨K, mg⟩ F_mark) :=
  fn_mk (k := 4) (keep := false) (body := b_mark) T.F_mark sc_mark rfl fun cdv A outer s H E hr => by
    have nd := sc_mark.nd
    have tk : Takes (cxOf (L2.CX P w) P w K mg base ["box", "many"] "mark" (defScope s_mark) T.a_mark cdv A outer s H E) (fun cls d _ H' => E cls d H') := takes_of rfl rfl rfl rfl
    exact (pssd_one (psd_ret (pd_call (ok_times T) (hr.mono (by decide)) T.g_times T.F_times.kp T.b_times tk (pad_cons (pd_call (ok_ratio T) (hr.mono (by decide)) T.g_ratio T.F_ratio.kp T.b_ratio tk (pad_cons (pd_ix ixd (pd_var (i := 0)) pd_int) (pad_cons (pd_ix ixd (pd_var (i := 0)) pd_int) pad_nil))) (pad_cons (pd_call (ok_missed T) (hr.mono (by decide)) T.g_missed T.F_missed.kp T.b_missed tk (pad_cons (pd_var (i := 0)) (pad_cons (pd_var (i := 1)) pad_nil))) pad_nil)))))
theorem ok_must_be_asked (T : Tx K mg) : FnOk P w K mg base (L2.CX P w) 6 T.a_must_be_asked T.d_must_be_asked ["boxes", "weights", "plan"] (spD ⟨K, mg⟩ F_must_be_asked) :=
  fn_mk (k := 5) (keep := false) (body := b_must_be_asked) T.F_must_be_asked sc_must_be_asked rfl fun cdv A outer s H E hr => by
    have nd := sc_must_be_asked.nd
    have tk : Takes (cxOf (L2.CX P w) P w K mg base ["boxes", "weights", "plan"] "must_be_asked" (defScope s_must_be_asked) T.a_must_be_asked cdv A outer s H E) (fun cls d _ H' => E cls d H') := takes_of rfl rfl rfl rfl
    exact (pssd_cons (psd_expr (pd_call (ok_must_be_boxes T) (hr.mono (by decide)) T.g_must_be_boxes T.F_must_be_boxes.kp T.b_must_be_boxes tk (pad_cons (pd_var (i := 0)) pad_nil)))
      (pssd_cons (psd_if (ptd_not (ptd_truth (pd_call (ok_are_weights T) (hr.mono (by decide)) T.g_are_weights T.F_are_weights.kp T.b_are_weights tk (pad_cons (pd_var (i := 1)) (pad_cons (pd_callB cd_len (by rfl) T.z_len (by decide +kernel) (pad_cons (pd_var (i := 0)) pad_nil)) pad_nil))))) (pssd_one (psd_raise rfl tk T.r_NoWeights T.x_NoWeights)) pssd_nil)
      (pssd_one (psd_if (ptd_not (ptd_truth (pd_call (ok_is_plan T) (hr.mono (by decide)) T.g_is_plan T.F_is_plan.kp T.b_is_plan tk (pad_cons (pd_var (i := 0)) (pad_cons (pd_var (i := 2)) pad_nil))))) (pssd_one (psd_raiseI (CX := L2.CX P w) (k := 2) rfl tk T.k_NoPlan.n T.T_NoPlan T.iC_NoPlan T.tI_NoPlan (okI_NoPlan T) (hr.mono (by decide)) T.bI_NoPlan (passes_call tk (fun _ _ _ _ h => h.elim)) T.k_NoPlan.g (pad_cons (pd_un ud_neg pd_int) pad_nil))) pssd_nil))))
theorem ok_must_be_order (T : Tx K mg) : FnOk P w K mg base (L2.CX P w) 4 T.a_must_be_order T.d_must_be_order ["boxes", "plan", "order"] (spD ⟨K, mg⟩ F_must_be_order) :=
  fn_mk (k := 3) (keep := false) (body := b_must_be_order) T.F_must_be_order sc_must_be_order rfl fun cdv A outer s H E hr => by
    have nd := sc_must_be_order.nd
    have tk : Takes (cxOf (L2.CX P w) P w K mg base ["boxes", "plan", "order", "k"] "must_be_order" (defScope s_must_be_order) T.a_must_be_order cdv A outer s H E) (fun cls d _ H' => E cls d H') := takes_of rfl rfl rfl rfl
    exact (pssd_cons (psd_if (PWD.pt (pwd_or (ptd_not (ptd_truth (pd_callB cd_isi (by rfl) T.z_isinstance (by decide +kernel) (pad_cons (pd_var (i := 2)) (pad_cons (pd_ty T.z_list (by decide +kernel)) pad_nil))))) (pwd_or1 (ptd_not (ptd_truth (pd_call (ok_are_numbers T) (hr.mono (by decide)) T.g_are_numbers T.F_are_numbers.kp T.b_are_numbers tk (pad_cons (pd_var (i := 2)) (pad_cons (pd_callB cd_len (by rfl) T.z_len (by decide +kernel) (pad_cons (pd_var (i := 2)) pad_nil)) pad_nil)))))))) (pssd_one (psd_raise rfl tk T.r_NoOrder T.x_NoOrder)) pssd_nil)
      (pssd_one (psd_if (PWD.pt (pwd_or (ptd_cmp (od_ne hr.units) (pd_lc (own := [("k", 3)]) mk_F (tg_N (by decide)) rfl nd (pid_range1 T.z_range (pad_cons (pd_callB cd_len (by rfl) T.z_len (by decide +kernel) (pad_cons (pd_var (i := 0)) pad_nil)) pad_nil)) (blkOk_by (N := ["boxes", "plan", "order", "k"]) (sc := defScope s_must_be_order) (by decide +kernel)) (fun _ _ _ _ _ => pg_name (i := 3) nd rfl (Or.inl rfl)) (fun _ _ _ _ _ => (pd_bm PySem.F.plainAttrs_list PySem.F.slot_list_count PySem.F.type_list_count (md_countD hr.units) (pd_var (i := 2)) (pad_cons (pd_var (i := 3)) pad_nil)))) (pd_var (i := 1))) (pwd_or1 (ptd_cmp (od_ne hr.units) (pd_callB cd_len (by rfl) T.z_len (by decide +kernel) (pad_cons (pd_var (i := 2)) pad_nil)) (pd_callB (cd_sum rfl) (by rfl) T.z_sum (by decide +kernel) (pad_cons (pd_var (i := 1)) pad_nil)))))) (pssd_one (psd_raise rfl tk T.r_NoOrder T.x_NoOrder)) pssd_nil)))
theorem ok_chances (T : Tx K mg) : FnOk P w K mg base (L2.CX P w) 6 T.a_chances T.d_chances ["boxes", "weights", "order"] (spD ⟨K, mg⟩ F_chances) :=
  fn_mk (k := 5) (keep := false) (body := b_chances) T.F_chances sc_chances rfl fun cdv A outer s H E hr => by
    have nd := sc_chances.nd
    have tk : Takes (cxOf (L2.CX P w) P w K mg base ["boxes", "weights", "order", "found", "done", "k"] "chances" (defScope s_chances) T.a_chances cdv A outer s H E) (fun cls d _ H' => E cls d H') := takes_of rfl rfl rfl rfl
    exact (pssd_cons (psd_set (i := 3) nd (pd_lst mk_C pad_nil))
      (pssd_cons (psd_set (i := 4) nd (pd_op (od_mul mk_C) (pd_lst mk_F (pad_cons pd_int pad_nil)) (pd_callB cd_len (by rfl) T.z_len (by decide +kernel) (pad_cons (pd_var (i := 0)) pad_nil))))
      (pssd_cons (psd_frz (i := 3) (psd_for (passes_of rfl) rfl (pid_list (pd_var (i := 2))) (pgd_name (i := 5) nd) (pssd_cons (psd_expr (pd_bm PySem.F.plainAttrs_list PySem.F.slot_list_append PySem.F.type_list_append md_append (pd_var (i := 3)) (pad_cons (pd_call (ok_times T) (hr.mono (by decide)) T.g_times T.F_times.kp T.b_times tk (pad_cons (pd_call (ok_ratio T) (hr.mono (by decide)) T.g_ratio T.F_ratio.kp T.b_ratio tk (pad_cons (pd_ix ixd (pd_var (i := 1)) (pd_var (i := 5))) (pad_cons (pd_callB (cd_sum rfl) (by rfl) T.z_sum (by decide +kernel) (pad_cons (pd_var (i := 1)) pad_nil)) pad_nil))) (pad_cons (pd_call (ok_mark T) (hr.mono (by decide)) T.g_mark T.F_mark.kp T.b_mark tk (pad_cons (pd_ix ixd (pd_var (i := 0)) (pd_var (i := 5))) (pad_cons (pd_ix ixd (pd_var (i := 4)) (pd_var (i := 5))) pad_nil))) pad_nil))) pad_nil)))
      (pssd_one (psd_augsub id_add (pd_var (i := 4)) (pd_var (i := 5)) pd_int)))))
      (pssd_one (psd_ret (pd_var (i := 3)))))))
theorem ok_awaited (T : Tx K mg) : FnOk P w K mg base (L2.CX P w) 7 T.a_awaited T.d_awaited ["boxes", "weights", "plan", "order"] (spD ⟨K, mg⟩ F_awaited) :=
  fn_mk (k := 6) (keep := false) (body := b_awaited) T.F_awaited sc_awaited rfl fun cdv A outer s H E hr => by
    have nd := sc_awaited.nd
    have tk : Takes (cxOf (L2.CX P w) P w K mg base ["boxes", "weights", "plan", "order", "left", "total", "some", "at"] "awaited" (defScope s_awaited) T.a_awaited cdv A outer s H E) (fun cls d _ H' => E cls d H') := takes_of rfl rfl rfl rfl
    exact (pssd_cons (psd_expr (pd_call (ok_must_be_asked T) (hr.mono (by decide)) T.g_must_be_asked T.F_must_be_asked.kp T.b_must_be_asked tk (pad_cons (pd_var (i := 0)) (pad_cons (pd_var (i := 1)) (pad_cons (pd_var (i := 2)) pad_nil)))))
      (pssd_cons (psd_expr (pd_call (ok_must_be_order T) (hr.mono (by decide)) T.g_must_be_order T.F_must_be_order.kp T.b_must_be_order tk (pad_cons (pd_var (i := 0)) (pad_cons (pd_var (i := 2)) (pad_cons (pd_var (i := 3)) pad_nil)))))
      (pssd_cons (psd_set (i := 4) nd (pd_tup (pad_cons pd_int (pad_cons pd_int pad_nil))))
      (pssd_cons (psd_set (i := 5) nd (pd_tup (pad_cons pd_int (pad_cons pd_int pad_nil))))
      (pssd_cons (psd_set (i := 6) nd (pd_call (ok_chances T) (hr.mono (by decide)) T.g_chances T.F_chances.kp T.b_chances tk (pad_cons (pd_var (i := 0)) (pad_cons (pd_var (i := 1)) (pad_cons (pd_var (i := 3)) pad_nil)))))
      (pssd_cons (psd_for (passes_of rfl) rfl (pid_range1 T.z_range (pad_cons (pd_callB cd_len (by rfl) T.z_len (by decide +kernel) (pad_cons (pd_var (i := 3)) pad_nil)) pad_nil)) (pgd_name (i := 7) nd) (pssd_cons (psd_set (i := 5) nd (pd_call (ok_plus T) (hr.mono (by decide)) T.g_plus T.F_plus.kp T.b_plus tk (pad_cons (pd_var (i := 5)) (pad_cons (pd_call (ok_times T) (hr.mono (by decide)) T.g_times T.F_times.kp T.b_times tk (pad_cons (pd_tup (pad_cons (pd_ix ixd (pd_ix ixd (pd_var (i := 0)) (pd_ix ixd (pd_var (i := 3)) (pd_var (i := 7)))) pd_int) (pad_cons pd_int pad_nil))) (pad_cons (pd_var (i := 4)) pad_nil))) pad_nil))))
      (pssd_one (psd_set (i := 4) nd (pd_call (ok_minus T) (hr.mono (by decide)) T.g_minus T.F_minus.kp T.b_minus tk (pad_cons (pd_var (i := 4)) (pad_cons (pd_ix ixd (pd_var (i := 6)) (pd_var (i := 7))) pad_nil)))))))
      (pssd_one (psd_ret (pd_var (i := 5))))))))))
theorem ok_ahead (T : Tx K mg) : FnOk P w K mg base (L2.CX P w) 5 T.a_ahead T.d_ahead ["boxes", "one", "other"] (spD ⟨K, mg⟩ F_ahead) :=
  fn_mk (k := 4) (keep := false) (body := b_ahead) T.F_ahead sc_ahead rfl fun cdv A outer s H E hr => by
    have nd := sc_ahead.nd
    have tk : Takes (cxOf (L2.CX P w) P w K mg base ["boxes", "one", "other", "first", "second"] "ahead" (defScope s_ahead) T.a_ahead cdv A outer s H E) (fun cls d _ H' => E cls d H') := takes_of rfl rfl rfl rfl
    exact (pssd_cons (psd_set (i := 3) nd (pd_call (ok_times T) (hr.mono (by decide)) T.g_times T.F_times.kp T.b_times tk (pad_cons (pd_ix ixd (pd_var (i := 1)) pd_int) (pad_cons (pd_tup (pad_cons (pd_ix ixd (pd_ix ixd (pd_var (i := 0)) (pd_ix ixd (pd_var (i := 2)) pd_int)) pd_int) (pad_cons pd_int pad_nil))) pad_nil))))
      (pssd_cons (psd_set (i := 4) nd (pd_call (ok_times T) (hr.mono (by decide)) T.g_times T.F_times.kp T.b_times tk (pad_cons (pd_ix ixd (pd_var (i := 2)) pd_int) (pad_cons (pd_tup (pad_cons (pd_ix ixd (pd_ix ixd (pd_var (i := 0)) (pd_ix ixd (pd_var (i := 1)) pd_int)) pd_int) (pad_cons pd_int pad_nil))) pad_nil))))
      (pssd_one (psd_ret (pd_not (pd_call (ok_below T) (hr.mono (by decide)) T.g_below T.F_below.kp T.b_below tk (pad_cons (pd_var (i := 3)) (pad_cons (pd_var (i := 4)) pad_nil))))))))
theorem ok_is_sorted (T : Tx K mg) : FnOk P w K mg base (L2.CX P w) 7 T.a_is_sorted T.d_is_sorted ["boxes", "weights", "plan", "order"] (spD ⟨K, mg⟩ F_is_sorted) :=
  fn_mk (k := 6) (keep := false) (body := b_is_sorted) T.F_is_sorted sc_is_sorted rfl fun cdv A outer s H E hr => by
    have nd := sc_is_sorted.nd
    have tk : Takes (cxOf (L2.CX P w) P w K mg base ["boxes", "weights", "plan", "order", "some", "looks", "at"] "is_sorted" (defScope s_is_sorted) T.a_is_sorted cdv A outer s H E) (fun cls d _ H' => E cls d H') := takes_of rfl rfl rfl rfl
    exact (pssd_cons (psd_expr (pd_call (ok_must_be_asked T) (hr.mono (by decide)) T.g_must_be_asked T.F_must_be_asked.kp T.b_must_be_asked tk (pad_cons (pd_var (i := 0)) (pad_cons (pd_var (i := 1)) (pad_cons (pd_var (i := 2)) pad_nil)))))
      (pssd_cons (psd_expr (pd_call (ok_must_be_order T) (hr.mono (by decide)) T.g_must_be_order T.F_must_be_order.kp T.b_must_be_order tk (pad_cons (pd_var (i := 0)) (pad_cons (pd_var (i := 2)) (pad_cons (pd_var (i := 3)) pad_nil)))))
      (pssd_cons (psd_set (i := 4) nd (pd_call (ok_chances T) (hr.mono (by decide)) T.g_chances T.F_chances.kp T.b_chances tk (pad_cons (pd_var (i := 0)) (pad_cons (pd_var (i := 1)) (pad_cons (pd_var (i := 3)) pad_nil)))))
      (pssd_cons (psd_set (i := 5) nd (pd_lc (own := [("at", 6)]) mk_F (tg_N (by decide)) rfl nd (pid_range1 T.z_range (pad_cons (pd_callB cd_len (by rfl) T.z_len (by decide +kernel) (pad_cons (pd_var (i := 3)) pad_nil)) pad_nil)) (blkOk_by (N := ["boxes", "weights", "plan", "order", "some", "looks", "at"]) (sc := defScope s_is_sorted) (by decide +kernel)) (fun _ _ _ _ _ => pg_name (i := 6) nd rfl (Or.inl rfl)) (fun _ _ _ _ _ => (pd_tup (pad_cons (pd_ix ixd (pd_var (i := 4)) (pd_var (i := 6))) (pad_cons (pd_ix ixd (pd_var (i := 3)) (pd_var (i := 6))) pad_nil))))))
      (pssd_one (psd_ret (pd_cmp (od_eq hr.units) (pd_callB cd_len (by rfl) T.z_len (by decide +kernel) (pad_cons (pd_lcIf (own := [("at", 6)]) mk_F (tg_N (by decide)) rfl nd (pid_range2 T.z_range (pad_cons pd_int (pad_cons (pd_callB cd_len (by rfl) T.z_len (by decide +kernel) (pad_cons (pd_var (i := 5)) pad_nil)) pad_nil))) (blkOk_by (N := ["boxes", "weights", "plan", "order", "some", "looks", "at"]) (sc := defScope s_is_sorted) (by decide +kernel)) (fun _ _ _ _ _ => pg_name (i := 6) nd rfl (Or.inl rfl)) (fun _ _ _ _ _ => (ptd_not (ptd_truth (pd_call (ok_ahead T) (hr.mono (by decide)) T.g_ahead T.F_ahead.kp T.b_ahead takes0 (pad_cons (pd_var (i := 0)) (pad_cons (pd_ix ixd (pd_var (i := 5)) (pd_op od_sub (pd_var (i := 6)) pd_int)) (pad_cons (pd_ix ixd (pd_var (i := 5)) (pd_var (i := 6))) pad_nil))))))) (fun _ _ _ _ _ => (pd_var (i := 6)))) pad_nil)) pd_int)))))))
theorem ok_best_order (T : Tx K mg) : FnOk P w K mg base (L2.CX P w) 7 T.a_best_order T.d_best_order ["boxes", "weights", "plan"] (spD ⟨K, mg⟩ F_best_order) :=
  fn_mk (k := 6) (keep := false) (body := b_best_order) T.F_best_order sc_best_order rfl fun cdv A outer s H E hr => by
    have nd := sc_best_order.nd
    have tk : Takes (cxOf (L2.CX P w) P w K mg base ["boxes", "weights", "plan", "left", "done", "found", "best", "k", "look"] "best_order" (defScope s_best_order) T.a_best_order cdv A outer s H E) (fun cls d _ H' => E cls d H') := takes_of rfl rfl rfl rfl
    exact (pssd_cons (psd_expr (pd_call (ok_must_be_asked T) (hr.mono (by decide)) T.g_must_be_asked T.F_must_be_asked.kp T.b_must_be_asked tk (pad_cons (pd_var (i := 0)) (pad_cons (pd_var (i := 1)) (pad_cons (pd_var (i := 2)) pad_nil)))))
      (pssd_cons (psd_set (i := 3) nd (pd_callTy (cd_list mk_C) (by rfl) T.z_list (by decide +kernel) (pad_cons (pd_var (i := 2)) pad_nil)))
      (pssd_cons (psd_set (i := 4) nd (pd_op (od_mul mk_C) (pd_lst mk_F (pad_cons pd_int pad_nil)) (pd_callB cd_len (by rfl) T.z_len (by decide +kernel) (pad_cons (pd_var (i := 0)) pad_nil))))
      (pssd_cons (psd_set (i := 5) nd (pd_lst mk_C pad_nil))
      (pssd_cons (psd_frz (i := 5) (psd_while (passes_of rfl) (ptd_cmp od_gt (pd_callB (cd_sum rfl) (by rfl) T.z_sum (by decide +kernel) (pad_cons (pd_var (i := 3)) pad_nil)) pd_int) (pssd_cons (psd_set (i := 6) nd pd_non)
      (pssd_cons (psd_for (passes_of rfl) rfl (pid_range1 T.z_range (pad_cons (pd_callB cd_len (by rfl) T.z_len (by decide +kernel) (pad_cons (pd_var (i := 0)) pad_nil)) pad_nil)) (pgd_name (i := 7) nd) (pssd_one (psd_if (ptd_cmp od_gt (pd_ix ixd (pd_var (i := 3)) (pd_var (i := 7))) pd_int) (pssd_cons (psd_set (i := 8) nd (pd_tup (pad_cons (pd_call (ok_times T) (hr.mono (by decide)) T.g_times T.F_times.kp T.b_times tk (pad_cons (pd_call (ok_ratio T) (hr.mono (by decide)) T.g_ratio T.F_ratio.kp T.b_ratio tk (pad_cons (pd_ix ixd (pd_var (i := 1)) (pd_var (i := 7))) (pad_cons (pd_callB (cd_sum rfl) (by rfl) T.z_sum (by decide +kernel) (pad_cons (pd_var (i := 1)) pad_nil)) pad_nil))) (pad_cons (pd_call (ok_mark T) (hr.mono (by decide)) T.g_mark T.F_mark.kp T.b_mark tk (pad_cons (pd_ix ixd (pd_var (i := 0)) (pd_var (i := 7))) (pad_cons (pd_ix ixd (pd_var (i := 4)) (pd_var (i := 7))) pad_nil))) pad_nil))) (pad_cons (pd_var (i := 7)) pad_nil))))
      (pssd_one (psd_if (PWD.pt (pwd_or (ptd_cmp od_isN (pd_var (i := 6)) pd_non) (pwd_or1 (ptd_not (ptd_truth (pd_call (ok_ahead T) (hr.mono (by decide)) T.g_ahead T.F_ahead.kp T.b_ahead tk (pad_cons (pd_var (i := 0)) (pad_cons (pd_var (i := 6)) (pad_cons (pd_var (i := 8)) pad_nil))))))))) (pssd_one (psd_set (i := 6) nd (pd_var (i := 8)))) pssd_nil))) pssd_nil)))
      (pssd_cons (psd_expr (pd_bm PySem.F.plainAttrs_list PySem.F.slot_list_append PySem.F.type_list_append md_append (pd_var (i := 5)) (pad_cons (pd_ix ixd (pd_var (i := 6)) pd_int) pad_nil)))
      (pssd_cons (psd_augsub id_sub (pd_var (i := 3)) (pd_ix ixd (pd_var (i := 6)) pd_int) pd_int)
      (pssd_one (psd_augsub id_add (pd_var (i := 4)) (pd_ix ixd (pd_var (i := 6)) pd_int) pd_int))))))))
      (pssd_one (psd_ret (pd_var (i := 5)))))))))
theorem ok__law_purse (T : Tx K mg) : FnOk P w K mg base (L2.CX P w) 2 T.a__law_purse T.d__law_purse ["_law_script"] (spD ⟨K, mg⟩ F__law_purse) :=
  fn_mk (k := 1) (keep := true) (body := b__law_purse) T.F__law_purse sc__law_purse rfl fun cdv A outer s H E hr => by
    have nd := sc__law_purse.nd
    have tk : Takes (cxOf (L2.CX P w) P w K mg base ["_law_script", "_law_cells"] "_law_purse" (defScope s__law_purse) T.a__law_purse cdv A outer s H E) (fun cls d _ H' => E cls d H') := takes_of rfl rfl rfl rfl
    exact (pssd_cons (psd_set (i := 1) nd (pd_slice mk_C (pd_var (i := 0)) pod_none (pod_some pd_int)))
      (pssd_cons (psd_if (ptd_cmp (od_eq hr.units) (pd_var (i := 1)) (pd_lst mk_F pad_nil)) (pssd_one (psd_set (i := 1) nd (pd_lst mk_C (pad_cons pd_int pad_nil)))) pssd_nil)
      (pssd_one (psd_ret (pd_lst mk_C (pad_cons (pd_var (i := 1)) (pad_cons pd_int pad_nil)))))))
theorem ok__law_draw (T : Tx K mg) : FnOk P w K mg base (L2.CX P w) 2 T.a__law_draw T.d__law_draw ["_law_purse_here", "_law_out_of"] (spD ⟨K, mg⟩ F__law_draw) :=
  fn_mk (k := 1) (keep := false) (body := b__law_draw) T.F__law_draw sc__law_draw rfl fun cdv A outer s H E hr => by
    have nd := sc__law_draw.nd
    have tk : Takes (cxOf (L2.CX P w) P w K mg base ["_law_purse_here", "_law_out_of", "_law_at", "_law_cell", "_law_number", "_law_cells", "_law_turn"] "_law_draw" (defScope s__law_draw) T.a__law_draw cdv A outer s H E) (fun cls d _ H' => E cls d H') := takes_of rfl rfl rfl rfl
    exact (pssd_cons (psd_asg (pd_var (i := 0)) (pgd_unl rfl (pgsd_cons (pgd_name (i := 5) nd) (pgsd_cons (pgd_name (i := 6) nd) pgsd_nil))))
      (pssd_cons (psd_set (i := 2) nd (pd_op od_mod (pd_var (i := 6)) (pd_callB cd_len (by rfl) T.z_len (by decide +kernel) (pad_cons (pd_var (i := 5)) pad_nil))))
      (pssd_cons (psd_set (i := 3) nd (pd_ix ixd (pd_var (i := 5)) (pd_var (i := 2))))
      (pssd_cons (psd_sub sd_list (pd_op (od_add mk_F) (pd_var (i := 6)) pd_int) (pd_var (i := 0)) pd_int)
      (pssd_cons (psd_if (ptd_cmp od_ge (pd_var (i := 3)) (pd_op od_pow pd_int pd_int)) (pssd_cons (psd_sub sd_list (pd_op od_fdiv (pd_var (i := 3)) (pd_var (i := 1))) (pd_var (i := 5)) (pd_var (i := 2)))
      (pssd_one (psd_ret (pd_op od_mod (pd_var (i := 3)) (pd_var (i := 1)))))) pssd_nil)
      (pssd_cons (psd_set (i := 4) nd (pd_op od_mod (pd_op (od_add mk_F) (pd_op (od_add mk_F) (pd_op (od_mul mk_F) (pd_var (i := 3)) pd_int) (pd_op (od_mul mk_F) (pd_op (od_mul mk_F) (pd_var (i := 6)) (pd_var (i := 6))) pd_int)) pd_int) pd_int))
      (pssd_cons (psd_set (i := 4) nd (pd_op od_mod (pd_op (od_mul mk_F) (pd_var (i := 4)) (pd_var (i := 4))) pd_int))
      (pssd_one (psd_ret (pd_op od_mod (pd_op od_mod (pd_op (od_mul mk_F) (pd_var (i := 4)) (pd_var (i := 4))) pd_int) (pd_var (i := 1))))))))))))
theorem ok__law_boxes (T : Tx K mg) : FnOk P w K mg base (L2.CX P w) 3 T.a__law_boxes T.d__law_boxes ["_law_purse_here", "_law_most"] (spD ⟨K, mg⟩ F__law_boxes) :=
  fn_mk (k := 2) (keep := false) (body := b__law_boxes) T.F__law_boxes sc__law_boxes rfl fun cdv A outer s H E hr => by
    have nd := sc__law_boxes.nd
    have tk : Takes (cxOf (L2.CX P w) P w K mg base ["_law_purse_here", "_law_most", "_law_found", "_law_k", "_law_cost", "_law_of", "_law_hits"] "_law_boxes" (defScope s__law_boxes) T.a__law_boxes cdv A outer s H E) (fun cls d _ H' => E cls d H') := takes_of rfl rfl rfl rfl
    exact (pssd_cons (psd_set (i := 2) nd (pd_lst mk_C pad_nil))
      (pssd_cons (psd_frz (i := 2) (psd_for (passes_of rfl) rfl (pid_range1 T.z_range (pad_cons (pd_op (od_add mk_F) pd_int (pd_call (ok__law_draw T) (hr.mono (by decide)) T.g__law_draw T.F__law_draw.kp T.b__law_draw tk (pad_cons (pd_var (i := 0)) (pad_cons (pd_var (i := 1)) pad_nil)))) pad_nil)) (pgd_name (i := 3) nd) (pssd_cons (psd_set (i := 4) nd (pd_op (od_add mk_F) pd_int (pd_call (ok__law_draw T) (hr.mono (by decide)) T.g__law_draw T.F__law_draw.kp T.b__law_draw tk (pad_cons (pd_var (i := 0)) (pad_cons (pd_ix ixd (pd_lst mk_F (pad_cons pd_int (pad_cons pd_int pad_nil))) (pd_call (ok__law_draw T) (hr.mono (by decide)) T.g__law_draw T.F__law_draw.kp T.b__law_draw tk (pad_cons (pd_var (i := 0)) (pad_cons pd_int pad_nil)))) pad_nil)))))
      (pssd_cons (psd_set (i := 5) nd (pd_op (od_add mk_F) pd_int (pd_call (ok__law_draw T) (hr.mono (by decide)) T.g__law_draw T.F__law_draw.kp T.b__law_draw tk (pad_cons (pd_var (i := 0)) (pad_cons (pd_ix ixd (pd_lst mk_F (pad_cons pd_int (pad_cons pd_int pad_nil))) (pd_call (ok__law_draw T) (hr.mono (by decide)) T.g__law_draw T.F__law_draw.kp T.b__law_draw tk (pad_cons (pd_var (i := 0)) (pad_cons pd_int pad_nil)))) pad_nil)))))
      (pssd_cons (psd_set (i := 6) nd (pd_ix ixd (pd_lst mk_F (pad_cons (pd_op (od_add mk_F) pd_int (pd_call (ok__law_draw T) (hr.mono (by decide)) T.g__law_draw T.F__law_draw.kp T.b__law_draw tk (pad_cons (pd_var (i := 0)) (pad_cons (pd_var (i := 5)) pad_nil)))) (pad_cons (pd_var (i := 5)) pad_nil))) (pd_op od_fdiv (pd_call (ok__law_draw T) (hr.mono (by decide)) T.g__law_draw T.F__law_draw.kp T.b__law_draw tk (pad_cons (pd_var (i := 0)) (pad_cons pd_int pad_nil))) pd_int)))
      (pssd_one (psd_expr (pd_bm PySem.F.plainAttrs_list PySem.F.slot_list_append PySem.F.type_list_append md_append (pd_var (i := 2)) (pad_cons (pd_tup (pad_cons (pd_var (i := 4)) (pad_cons (pd_var (i := 6)) (pad_cons (pd_var (i := 5)) pad_nil)))) pad_nil)))))))))
      (pssd_one (psd_ret (pd_var (i := 2))))))
theorem ok__law_weights (T : Tx K mg) : FnOk P w K mg base (L2.CX P w) 3 T.a__law_weights T.d__law_weights ["_law_purse_here", "_law_many"] (spD ⟨K, mg⟩ F__law_weights) :=
  fn_mk (k := 2) (keep := false) (body := b__law_weights) T.F__law_weights sc__law_weights rfl fun cdv A outer s H E hr => by
    have nd := sc__law_weights.nd
    have tk : Takes (cxOf (L2.CX P w) P w K mg base ["_law_purse_here", "_law_many", "_law_found", "_law_k"] "_law_weights" (defScope s__law_weights) T.a__law_weights cdv A outer s H E) (fun cls d _ H' => E cls d H') := takes_of rfl rfl rfl rfl
    exact (pssd_cons (psd_set (i := 2) nd (pd_lst mk_C pad_nil))
      (pssd_cons (psd_for (passes_of rfl) rfl (pid_range1 T.z_range (pad_cons (pd_var (i := 1)) pad_nil)) (pgd_name (i := 3) nd) (pssd_one (psd_expr (pd_bm PySem.F.plainAttrs_list PySem.F.slot_list_append PySem.F.type_list_append md_append (pd_var (i := 2)) (pad_cons (pd_call (ok__law_draw T) (hr.mono (by decide)) T.g__law_draw T.F__law_draw.kp T.b__law_draw tk (pad_cons (pd_var (i := 0)) (pad_cons (pd_ix ixd (pd_lst mk_F (pad_cons pd_int (pad_cons pd_int (pad_cons (pd_op od_pow pd_int pd_int) pad_nil)))) (pd_call (ok__law_draw T) (hr.mono (by decide)) T.g__law_draw T.F__law_draw.kp T.b__law_draw tk (pad_cons (pd_var (i := 0)) (pad_cons pd_int pad_nil)))) pad_nil))) pad_nil)))))
      (pssd_cons (psd_frz (i := 2) (psd_if (ptd_cmp (od_eq hr.units) (pd_callB (cd_max rfl) (by rfl) T.z_max (by decide +kernel) (pad_cons (pd_var (i := 2)) pad_nil)) pd_int) (pssd_one (psd_sub sd_list pd_int (pd_var (i := 2)) (pd_call (ok__law_draw T) (hr.mono (by decide)) T.g__law_draw T.F__law_draw.kp T.b__law_draw tk (pad_cons (pd_var (i := 0)) (pad_cons (pd_var (i := 1)) pad_nil))))) pssd_nil))
      (pssd_one (psd_ret (pd_var (i := 2)))))))
theorem ok__law_plan (T : Tx K mg) : FnOk P w K mg base (L2.CX P w) 3 T.a__law_plan T.d__law_plan ["_law_purse_here", "_law_many"] (spD ⟨K, mg⟩ F__law_plan) :=
  fn_mk (k := 2) (keep := false) (body := b__law_plan) T.F__law_plan sc__law_plan rfl fun cdv A outer s H E hr => by
    have nd := sc__law_plan.nd
    have tk : Takes (cxOf (L2.CX P w) P w K mg base ["_law_purse_here", "_law_many", "_law_k"] "_law_plan" (defScope s__law_plan) T.a__law_plan cdv A outer s H E) (fun cls d _ H' => E cls d H') := takes_of rfl rfl rfl rfl
    exact (pssd_cons (psd_if (ptd_cmp (od_eq hr.units) (pd_var (i := 1)) pd_int) (pssd_one (psd_ret (pd_lst mk_F (pad_cons (pd_call (ok__law_draw T) (hr.mono (by decide)) T.g__law_draw T.F__law_draw.kp T.b__law_draw tk (pad_cons (pd_var (i := 0)) (pad_cons (pd_ix ixd (pd_lst mk_F (pad_cons pd_int (pad_cons pd_int pad_nil))) (pd_call (ok__law_draw T) (hr.mono (by decide)) T.g__law_draw T.F__law_draw.kp T.b__law_draw tk (pad_cons (pd_var (i := 0)) (pad_cons pd_int pad_nil)))) pad_nil))) pad_nil)))) pssd_nil)
      (pssd_one (psd_ret (pd_lc (own := [("_law_k", 2)]) mk_F (tg_N (by decide)) rfl nd (pid_range1 T.z_range (pad_cons (pd_var (i := 1)) pad_nil)) (blkOk_by (N := ["_law_purse_here", "_law_many", "_law_k"]) (sc := defScope s__law_plan) (by decide +kernel)) (fun _ _ _ _ _ => pg_name (i := 2) nd rfl (Or.inl rfl)) (fun _ _ _ _ _ => (pd_call (ok__law_draw T) (hr.mono (by decide)) T.g__law_draw T.F__law_draw.kp T.b__law_draw takes0 (pad_cons (pd_var (i := 0)) (pad_cons pd_int pad_nil))))))))
theorem ok__law_order (T : Tx K mg) : FnOk P w K mg base (L2.CX P w) 3 T.a__law_order T.d__law_order ["_law_purse_here", "_law_plan_here"] (spD ⟨K, mg⟩ F__law_order) :=
  fn_mk (k := 2) (keep := false) (body := b__law_order) T.F__law_order sc__law_order rfl fun cdv A outer s H E hr => by
    have nd := sc__law_order.nd
    have tk : Takes (cxOf (L2.CX P w) P w K mg base ["_law_purse_here", "_law_plan_here", "_law_found", "_law_k", "_law_turn"] "_law_order" (defScope s__law_order) T.a__law_order cdv A outer s H E) (fun cls d _ H' => E cls d H') := takes_of rfl rfl rfl rfl
    exact (pssd_cons (psd_set (i := 2) nd (pd_lst mk_C pad_nil))
      (pssd_cons (psd_frz (i := 2) (psd_for (passes_of rfl) rfl (pid_range1 T.z_range (pad_cons (pd_callB cd_len (by rfl) T.z_len (by decide +kernel) (pad_cons (pd_var (i := 1)) pad_nil)) pad_nil)) (pgd_name (i := 3) nd) (pssd_one (psd_for (passes_of rfl) rfl (pid_range1 T.z_range (pad_cons (pd_ix ixd (pd_var (i := 1)) (pd_var (i := 3))) pad_nil)) (pgd_name (i := 4) nd) (pssd_one (psd_expr (pd_bm PySem.F.plainAttrs_list PySem.F.slot_list_insert PySem.F.type_list_insert md_insert (pd_var (i := 2)) (pad_cons (pd_call (ok__law_draw T) (hr.mono (by decide)) T.g__law_draw T.F__law_draw.kp T.b__law_draw tk (pad_cons (pd_var (i := 0)) (pad_cons (pd_op (od_add mk_F) (pd_callB cd_len (by rfl) T.z_len (by decide +kernel) (pad_cons (pd_var (i := 2)) pad_nil)) pd_int) pad_nil))) (pad_cons (pd_var (i := 3)) pad_nil)))))))))
      (pssd_one (psd_ret (pd_var (i := 2))))))
theorem ok__law_no_boxes (T : Tx K mg) : FnOk P w K mg base (L2.CX P w) 3 T.a__law_no_boxes T.d__law_no_boxes ["_law_purse_here", "_law_boxes_here"] (spD ⟨K, mg⟩ F__law_no_boxes) :=
  fn_mk (k := 2) (keep := false) (body := b__law_no_boxes) T.F__law_no_boxes sc__law_no_boxes rfl fun cdv A outer s H E hr => by
    have nd := sc__law_no_boxes.nd
    have tk : Takes (cxOf (L2.CX P w) P w K mg base ["_law_purse_here", "_law_boxes_here", "_law_far", "_law_at", "_law_bent", "_law_way", "_law_cost", "_law_hits", "_law_of"] "_law_no_boxes" (defScope s__law_no_boxes) T.a__law_no_boxes cdv A outer s H E) (fun cls d _ H' => E cls d H') := takes_of rfl rfl rfl rfl
    exact (pssd_cons (psd_set (i := 2) nd (pd_op (od_add mk_F) pd_int (pd_call (ok__law_draw T) (hr.mono (by decide)) T.g__law_draw T.F__law_draw.kp T.b__law_draw tk (pad_cons (pd_var (i := 0)) (pad_cons (pd_op od_pow pd_int pd_int) pad_nil)))))
      (pssd_cons (psd_set (i := 3) nd (pd_call (ok__law_draw T) (hr.mono (by decide)) T.g__law_draw T.F__law_draw.kp T.b__law_draw tk (pad_cons (pd_var (i := 0)) (pad_cons (pd_callB cd_len (by rfl) T.z_len (by decide +kernel) (pad_cons (pd_var (i := 1)) pad_nil)) pad_nil))))
      (pssd_cons (psd_asg (pd_ix ixd (pd_var (i := 1)) (pd_var (i := 3))) (pgd_tup rfl (pgsd_cons (pgd_name (i := 6) nd) (pgsd_cons (pgd_name (i := 7) nd) (pgsd_cons (pgd_name (i := 8) nd) pgsd_nil)))))
      (pssd_cons (psd_set (i := 4) nd (pd_lst mk_F (pad_cons (pd_tup (pad_cons pd_int (pad_cons (pd_var (i := 7)) (pad_cons (pd_var (i := 8)) pad_nil)))) (pad_cons (pd_tup (pad_cons (pd_var (i := 2)) (pad_cons (pd_var (i := 7)) (pad_cons (pd_var (i := 8)) pad_nil)))) (pad_cons (pd_tup (pad_cons pd_int (pad_cons (pd_var (i := 7)) (pad_cons (pd_var (i := 8)) pad_nil)))) (pad_cons (pd_tup (pad_cons (pd_op od_sub (pd_un ud_neg pd_int) (pd_var (i := 2))) (pad_cons (pd_var (i := 7)) (pad_cons (pd_var (i := 8)) pad_nil)))) (pad_cons (pd_tup (pad_cons (pd_var (i := 6)) (pad_cons pd_int (pad_cons (pd_var (i := 8)) pad_nil)))) (pad_cons (pd_tup (pad_cons (pd_var (i := 6)) (pad_cons (pd_op (od_add mk_F) (pd_var (i := 8)) pd_int) (pad_cons (pd_var (i := 8)) pad_nil)))) pad_nil))))))))
      (pssd_cons (psd_set (i := 4) nd (pd_op (od_add mk_C) (pd_var (i := 4)) (pd_lst mk_F (pad_cons (pd_tup (pad_cons (pd_var (i := 6)) (pad_cons (pd_op od_sub pd_int (pd_var (i := 7))) (pad_cons (pd_var (i := 8)) pad_nil)))) (pad_cons (pd_tup (pad_cons (pd_var (i := 6)) (pad_cons pd_int (pad_cons pd_int pad_nil)))) (pad_cons (pd_tup (pad_cons (pd_var (i := 6)) (pad_cons (pd_var (i := 7)) (pad_cons (pd_var (i := 2)) pad_nil)))) (pad_cons (pd_tup (pad_cons (pd_var (i := 6)) (pad_cons pd_int (pad_cons pd_int pad_nil)))) (pad_cons (pd_tup (pad_cons (pd_var (i := 6)) (pad_cons (pd_var (i := 7)) pad_nil))) pad_nil))))))))
      (pssd_cons (psd_expr (pd_bm PySem.F.plainAttrs_list PySem.F.slot_list_append PySem.F.type_list_append md_append (pd_var (i := 4)) (pad_cons (pd_tup (pad_cons (pd_var (i := 6)) (pad_cons (pd_var (i := 7)) (pad_cons (pd_var (i := 8)) (pad_cons pd_int pad_nil))))) pad_nil)))
      (pssd_cons (psd_set (i := 4) nd (pd_op (od_add mk_F) (pd_var (i := 4)) (pd_lst mk_F (pad_cons (pd_tup (pad_cons pd_bl (pad_cons pd_int (pad_cons pd_int pad_nil)))) (pad_cons (pd_tup (pad_cons (pd_var (i := 6)) (pad_cons pd_bl (pad_cons (pd_var (i := 8)) pad_nil)))) (pad_cons (pd_tup (pad_cons (pd_var (i := 6)) (pad_cons pd_int (pad_cons pd_bl pad_nil)))) (pad_cons (pd_tup (pad_cons pd_str (pad_cons (pd_var (i := 7)) (pad_cons (pd_var (i := 8)) pad_nil)))) (pad_cons pd_non (pad_cons (pd_lst mk_F (pad_cons (pd_var (i := 6)) (pad_cons (pd_var (i := 7)) (pad_cons (pd_var (i := 8)) pad_nil)))) (pad_cons pd_int (pad_cons (pd_tup pad_nil) pad_nil)))))))))))
      (pssd_cons (psd_set (i := 5) nd (pd_call (ok__law_draw T) (hr.mono (by decide)) T.g__law_draw T.F__law_draw.kp T.b__law_draw tk (pad_cons (pd_var (i := 0)) (pad_cons (pd_op (od_add mk_F) (pd_callB cd_len (by rfl) T.z_len (by decide +kernel) (pad_cons (pd_var (i := 4)) pad_nil)) pd_int) pad_nil))))
      (pssd_cons (psd_if (ptd_cmp od_lt (pd_var (i := 5)) (pd_callB cd_len (by rfl) T.z_len (by decide +kernel) (pad_cons (pd_var (i := 4)) pad_nil))) (pssd_one (psd_ret (pd_op (od_add mk_F) (pd_op (od_add mk_F) (pd_slice mk_F (pd_var (i := 1)) pod_none (pod_some (pd_var (i := 3)))) (pd_lst mk_F (pad_cons (pd_ix ixd (pd_var (i := 4)) (pd_var (i := 5))) pad_nil))) (pd_slice mk_F (pd_var (i := 1)) (pod_some (pd_op (od_add mk_F) (pd_var (i := 3)) pd_int)) pod_none)))) pssd_nil)
      (pssd_one (psd_ret (pd_ix ixd (pd_lst mk_F (pad_cons (pd_lst mk_F pad_nil) (pad_cons (pd_op (od_mul mk_F) (pd_var (i := 1)) pd_int) (pad_cons (pd_callTy cd_tuple (by rfl) T.z_tuple (by decide +kernel) (pad_cons (pd_var (i := 1)) pad_nil)) (pad_cons pd_non pad_nil))))) (pd_op od_sub (pd_var (i := 5)) (pd_callB cd_len (by rfl) T.z_len (by decide +kernel) (pad_cons (pd_var (i := 4)) pad_nil)))))))))))))))
theorem ok__law_no_numbers (T : Tx K mg) : FnOk P w K mg base (L2.CX P w) 3 T.a__law_no_numbers T.d__law_no_numbers ["_law_purse_here", "_law_numbers", "_law_most"] (spD ⟨K, mg⟩ F__law_no_numbers) :=
  fn_mk (k := 2) (keep := false) (body := b__law_no_numbers) T.F__law_no_numbers sc__law_no_numbers rfl fun cdv A outer s H E hr => by
    have nd := sc__law_no_numbers.nd
    have tk : Takes (cxOf (L2.CX P w) P w K mg base ["_law_purse_here", "_law_numbers", "_law_most", "_law_at", "_law_far", "_law_things", "_law_way"] "_law_no_numbers" (defScope s__law_no_numbers) T.a__law_no_numbers cdv A outer s H E) (fun cls d _ H' => E cls d H') := takes_of rfl rfl rfl rfl
    exact (pssd_cons (psd_set (i := 3) nd (pd_call (ok__law_draw T) (hr.mono (by decide)) T.g__law_draw T.F__law_draw.kp T.b__law_draw tk (pad_cons (pd_var (i := 0)) (pad_cons (pd_callB cd_len (by rfl) T.z_len (by decide +kernel) (pad_cons (pd_var (i := 1)) pad_nil)) pad_nil))))
      (pssd_cons (psd_set (i := 4) nd (pd_op (od_add mk_F) (pd_op (od_add mk_F) (pd_var (i := 2)) pd_int) (pd_call (ok__law_draw T) (hr.mono (by decide)) T.g__law_draw T.F__law_draw.kp T.b__law_draw tk (pad_cons (pd_var (i := 0)) (pad_cons (pd_op od_pow pd_int pd_int) pad_nil)))))
      (pssd_cons (psd_set (i := 5) nd (pd_lst mk_F (pad_cons (pd_un ud_neg pd_int) (pad_cons (pd_op od_sub pd_int (pd_var (i := 4))) (pad_cons pd_bl (pad_cons pd_bl (pad_cons pd_non (pad_cons pd_str (pad_cons (pd_tup (pad_cons pd_int pad_nil)) (pad_cons (pd_lst mk_F (pad_cons pd_int pad_nil)) pad_nil))))))))))
      (pssd_cons (psd_if (ptd_cmp od_gt (pd_var (i := 2)) pd_int) (pssd_one (psd_set (i := 5) nd (pd_op (od_add mk_F) (pd_var (i := 5)) (pd_lst mk_F (pad_cons (pd_op (od_add mk_F) (pd_var (i := 2)) pd_int) (pad_cons (pd_var (i := 4)) pad_nil)))))) pssd_nil)
      (pssd_cons (psd_set (i := 6) nd (pd_call (ok__law_draw T) (hr.mono (by decide)) T.g__law_draw T.F__law_draw.kp T.b__law_draw tk (pad_cons (pd_var (i := 0)) (pad_cons (pd_op (od_add mk_F) (pd_callB cd_len (by rfl) T.z_len (by decide +kernel) (pad_cons (pd_var (i := 5)) pad_nil)) pd_int) pad_nil))))
      (pssd_cons (psd_if (ptd_cmp od_lt (pd_var (i := 6)) (pd_callB cd_len (by rfl) T.z_len (by decide +kernel) (pad_cons (pd_var (i := 5)) pad_nil))) (pssd_one (psd_ret (pd_op (od_add mk_F) (pd_op (od_add mk_F) (pd_slice mk_F (pd_var (i := 1)) pod_none (pod_some (pd_var (i := 3)))) (pd_lst mk_F (pad_cons (pd_ix ixd (pd_var (i := 5)) (pd_var (i := 6))) pad_nil))) (pd_slice mk_F (pd_var (i := 1)) (pod_some (pd_op (od_add mk_F) (pd_var (i := 3)) pd_int)) pod_none)))) pssd_nil)
      (pssd_one (psd_ret (pd_ix ixd (pd_lst mk_F (pad_cons (pd_slice mk_F (pd_var (i := 1)) (pod_some pd_int) pod_none) (pad_cons (pd_op (od_add mk_F) (pd_var (i := 1)) (pd_lst mk_F (pad_cons pd_int pad_nil))) (pad_cons (pd_lst mk_F pad_nil) (pad_cons (pd_callTy cd_tuple (by rfl) T.z_tuple (by decide +kernel) (pad_cons (pd_var (i := 1)) pad_nil)) (pad_cons pd_non (pad_cons pd_int pad_nil))))))) (pd_op od_sub (pd_var (i := 6)) (pd_callB cd_len (by rfl) T.z_len (by decide +kernel) (pad_cons (pd_var (i := 5)) pad_nil))))))))))))
theorem ok__law_marks (T : Tx K mg) : FnOk P w K mg base (L2.CX P w) 2 T.a__law_marks T.d__law_marks ["_law_caught"] (spD ⟨K, mg⟩ F__law_marks) :=
  fn_mk (k := 1) (keep := false) (body := b__law_marks) T.F__law_marks sc__law_marks rfl fun cdv A outer s H E hr => by
    have nd := sc__law_marks.nd
    have tk : Takes (cxOf (L2.CX P w) P w K mg base ["_law_caught", "_law_found"] "_law_marks" (defScope s__law_marks) T.a__law_marks cdv A outer s H E) (fun cls d _ H' => E cls d H') := takes_of rfl rfl rfl rfl
    exact (pssd_cons (psd_set (i := 1) nd (pd_lst mk_C pad_nil))
      (pssd_cons (psd_if (ptd_truth (pd_callB (cd_isE T.xc) (by rfl) T.z_isinstance (by decide +kernel) (pad_cons (pd_var (i := 0)) (pad_cons (pd_cls T.k_NoBoxes) pad_nil)))) (pssd_one (psd_expr (pd_bm PySem.F.plainAttrs_list PySem.F.slot_list_append PySem.F.type_list_append md_append (pd_var (i := 1)) (pad_cons pd_str pad_nil)))) pssd_nil)
      (pssd_cons (psd_if (ptd_truth (pd_callB (cd_isE T.xc) (by rfl) T.z_isinstance (by decide +kernel) (pad_cons (pd_var (i := 0)) (pad_cons (pd_cls T.k_NoBudget) pad_nil)))) (pssd_one (psd_expr (pd_bm PySem.F.plainAttrs_list PySem.F.slot_list_append PySem.F.type_list_append md_append (pd_var (i := 1)) (pad_cons pd_str pad_nil)))) pssd_nil)
      (pssd_cons (psd_if (ptd_truth (pd_callB (cd_isE T.xc) (by rfl) T.z_isinstance (by decide +kernel) (pad_cons (pd_var (i := 0)) (pad_cons (pd_cls T.k_NoWeights) pad_nil)))) (pssd_one (psd_expr (pd_bm PySem.F.plainAttrs_list PySem.F.slot_list_append PySem.F.type_list_append md_append (pd_var (i := 1)) (pad_cons pd_str pad_nil)))) pssd_nil)
      (pssd_cons (psd_if (ptd_truth (pd_callB (cd_isE T.xc) (by rfl) T.z_isinstance (by decide +kernel) (pad_cons (pd_var (i := 0)) (pad_cons (pd_cls T.k_NoPlan) pad_nil)))) (pssd_one (psd_expr (pd_bm PySem.F.plainAttrs_list PySem.F.slot_list_append PySem.F.type_list_append md_append (pd_var (i := 1)) (pad_cons (pd_ix ixd (pd_lst mk_F (pad_cons pd_str (pad_cons pd_str pad_nil))) (pd_callTy cd_int (by rfl) T.z_int (by decide +kernel) (pad_cons (pd_and (pd_not (pd_callB cd_isi (by rfl) T.z_isinstance (by decide +kernel) (pad_cons (pd_fldL T.fc_at (pd_var (i := 0))) (pad_cons (pd_ty T.z_bool (by decide +kernel)) pad_nil)))) (pd_one (pd_cmp (od_eq hr.units) (pd_fldL T.fc_at (pd_var (i := 0))) (pd_un ud_neg pd_int)))) pad_nil))) pad_nil)))) pssd_nil)
      (pssd_cons (psd_if (ptd_truth (pd_callB (cd_isE T.xc) (by rfl) T.z_isinstance (by decide +kernel) (pad_cons (pd_var (i := 0)) (pad_cons (pd_cls T.k_NoOrder) pad_nil)))) (pssd_one (psd_expr (pd_bm PySem.F.plainAttrs_list PySem.F.slot_list_append PySem.F.type_list_append md_append (pd_var (i := 1)) (pad_cons pd_str pad_nil)))) pssd_nil)
      (pssd_cons (psd_if (PWD.pt (pwd_or (ptd_truth (pd_callB (cd_isE T.xc) (by rfl) T.z_isinstance (by decide +kernel) (pad_cons (pd_var (i := 0)) (pad_cons (pd_tup (pad_cons (pd_cls T.k_NoKind) (pad_cons (pd_cls T.k_NoName) (pad_cons (pd_cls T.k_NoNumber) (pad_cons (pd_cls T.k_NoPlay) pad_nil))))) pad_nil)))) (pwd_or1 (ptd_truth (pd_callB (cd_isE T.xc) (by rfl) T.z_isinstance (by decide +kernel) (pad_cons (pd_var (i := 0)) (pad_cons (pd_tup (pad_cons (pd_cls T.k_NoRoad) (pad_cons (pd_cls T.k_NoRow) (pad_cons (pd_cls T.k_NoTable) pad_nil)))) pad_nil))))))) (pssd_one (psd_expr (pd_bm PySem.F.plainAttrs_list PySem.F.slot_list_append PySem.F.type_list_append md_append (pd_var (i := 1)) (pad_cons pd_str pad_nil)))) pssd_nil)
      (pssd_cons (psd_if (PWD.pt (pwd_or (ptd_truth (pd_callB (cd_isE T.xc) (by rfl) T.z_isinstance (by decide +kernel) (pad_cons (pd_var (i := 0)) (pad_cons (pd_tup (pad_cons (pd_cls T.k_NoPaper) (pad_cons (pd_cls T.k_NoText) (pad_cons (pd_cls T.k_NoTree) pad_nil)))) pad_nil)))) (pwd_or1 (ptd_truth (pd_callB (cd_isE T.xc) (by rfl) T.z_isinstance (by decide +kernel) (pad_cons (pd_var (i := 0)) (pad_cons (pd_tup (pad_cons (pd_cls T.k_NoTurns) (pad_cons (pd_cls T.k_NoWeb) (pad_cons (pd_cls T.k_TooGreat) pad_nil)))) pad_nil))))))) (pssd_one (psd_expr (pd_bm PySem.F.plainAttrs_list PySem.F.slot_list_append PySem.F.type_list_append md_append (pd_var (i := 1)) (pad_cons pd_str pad_nil)))) pssd_nil)
      (pssd_cons (psd_if (ptd_not (ptd_truth (pd_callB (cd_isE T.xc) (by rfl) T.z_isinstance (by decide +kernel) (pad_cons (pd_var (i := 0)) (pad_cons (pd_ty T.z_ValueError (by decide +kernel)) pad_nil))))) (pssd_one (psd_expr (pd_bm PySem.F.plainAttrs_list PySem.F.slot_list_append PySem.F.type_list_append md_append (pd_var (i := 1)) (pad_cons pd_str pad_nil)))) pssd_nil)
      (pssd_one (psd_ret (pd_frz (pd_var (i := 1))))))))))))))
theorem ok__law_no_order (T : Tx K mg) : FnOk P w K mg base (L2.CX P w) 3 T.a__law_no_order T.d__law_no_order ["_law_purse_here", "_law_order_here", "_law_many"] (spD ⟨K, mg⟩ F__law_no_order) :=
  fn_mk (k := 2) (keep := false) (body := b__law_no_order) T.F__law_no_order sc__law_no_order rfl fun cdv A outer s H E hr => by
    have nd := sc__law_no_order.nd
    have tk : Takes (cxOf (L2.CX P w) P w K mg base ["_law_purse_here", "_law_order_here", "_law_many", "_law_far", "_law_at", "_law_things", "_law_way", "_law_some", "_law_place", "_law_other"] "_law_no_order" (defScope s__law_no_order) T.a__law_no_order cdv A outer s H E) (fun cls d _ H' => E cls d H') := takes_of rfl rfl rfl rfl
    exact (pssd_cons (psd_set (i := 3) nd (pd_op (od_add mk_F) (pd_var (i := 2)) (pd_call (ok__law_draw T) (hr.mono (by decide)) T.g__law_draw T.F__law_draw.kp T.b__law_draw tk (pad_cons (pd_var (i := 0)) (pad_cons (pd_op od_pow pd_int pd_int) pad_nil)))))
      (pssd_cons (psd_set (i := 4) nd (pd_call (ok__law_draw T) (hr.mono (by decide)) T.g__law_draw T.F__law_draw.kp T.b__law_draw tk (pad_cons (pd_var (i := 0)) (pad_cons (pd_op (od_add mk_F) (pd_callB cd_len (by rfl) T.z_len (by decide +kernel) (pad_cons (pd_var (i := 1)) pad_nil)) pd_int) pad_nil))))
      (pssd_cons (psd_set (i := 5) nd (pd_lst mk_F (pad_cons (pd_var (i := 3)) (pad_cons (pd_un ud_neg pd_int) (pad_cons (pd_op od_sub (pd_op od_sub pd_int pd_int) (pd_var (i := 3))) (pad_cons pd_bl (pad_cons pd_str (pad_cons pd_non (pad_cons (pd_var (i := 2)) pad_nil)))))))))
      (pssd_cons (psd_set (i := 6) nd (pd_call (ok__law_draw T) (hr.mono (by decide)) T.g__law_draw T.F__law_draw.kp T.b__law_draw tk (pad_cons (pd_var (i := 0)) (pad_cons (pd_op (od_add mk_F) (pd_callB cd_len (by rfl) T.z_len (by decide +kernel) (pad_cons (pd_var (i := 5)) pad_nil)) pd_int) pad_nil))))
      (pssd_cons (psd_if (ptd_cmp od_lt (pd_var (i := 6)) (pd_callB cd_len (by rfl) T.z_len (by decide +kernel) (pad_cons (pd_var (i := 5)) pad_nil))) (pssd_one (psd_ret (pd_op (od_add mk_F) (pd_op (od_add mk_F) (pd_slice mk_F (pd_var (i := 1)) pod_none (pod_some (pd_var (i := 4)))) (pd_lst mk_F (pad_cons (pd_ix ixd (pd_var (i := 5)) (pd_var (i := 6))) pad_nil))) (pd_slice mk_F (pd_var (i := 1)) (pod_some (pd_op (od_add mk_F) (pd_var (i := 4)) pd_int)) pod_none)))) pssd_nil)
      (pssd_cons (psd_set (i := 7) nd (pd_lst mk_F (pad_cons (pd_op (od_add mk_F) (pd_var (i := 1)) (pd_lst mk_F (pad_cons (pd_call (ok__law_draw T) (hr.mono (by decide)) T.g__law_draw T.F__law_draw.kp T.b__law_draw tk (pad_cons (pd_var (i := 0)) (pad_cons (pd_var (i := 2)) pad_nil))) pad_nil))) (pad_cons (pd_op (od_add mk_F) (pd_op (od_add mk_F) (pd_slice mk_F (pd_var (i := 1)) pod_none (pod_some (pd_var (i := 4)))) (pd_lst mk_F (pad_cons (pd_call (ok__law_draw T) (hr.mono (by decide)) T.g__law_draw T.F__law_draw.kp T.b__law_draw tk (pad_cons (pd_var (i := 0)) (pad_cons (pd_var (i := 2)) pad_nil))) pad_nil))) (pd_slice mk_F (pd_var (i := 1)) (pod_some (pd_var (i := 4))) pod_none)) (pad_cons (pd_callTy cd_tuple (by rfl) T.z_tuple (by decide +kernel) (pad_cons (pd_var (i := 1)) pad_nil)) pad_nil)))))
      (pssd_cons (psd_set (i := 7) nd (pd_op (od_add mk_F) (pd_var (i := 7)) (pd_lst mk_F (pad_cons pd_non (pad_cons pd_int (pad_cons (pd_op (od_add mk_F) (pd_op (od_add mk_F) (pd_var (i := 1)) (pd_var (i := 1))) (pd_lst mk_F (pad_cons pd_int pad_nil))) (pad_cons (pd_op (od_add mk_F) (pd_var (i := 1)) (pd_lst mk_F (pad_cons (pd_var (i := 2)) pad_nil))) pad_nil)))))))
      (pssd_cons (psd_set (i := 8) nd (pd_op od_mod (pd_var (i := 4)) (pd_callB (cd_max rfl) (by rfl) T.z_max (by decide +kernel) (pad_cons pd_int (pad_cons (pd_callB cd_len (by rfl) T.z_len (by decide +kernel) (pad_cons (pd_var (i := 1)) pad_nil)) pad_nil)))))
      (pssd_cons (psd_if (PWD.pt (pwd_and (ptd_cmp (od_eq hr.units) (pd_var (i := 6)) (pd_op (od_add mk_F) (pd_callB cd_len (by rfl) T.z_len (by decide +kernel) (pad_cons (pd_var (i := 5)) pad_nil)) pd_int)) (pwd_and1 (ptd_cmp (od_ne hr.units) (pd_var (i := 1)) (pd_lst mk_F pad_nil))))) (pssd_one (psd_ret (pd_op (od_add mk_F) (pd_slice mk_F (pd_var (i := 1)) pod_none (pod_some (pd_var (i := 8)))) (pd_slice mk_F (pd_var (i := 1)) (pod_some (pd_op (od_add mk_F) (pd_var (i := 8)) pd_int)) pod_none)))) pssd_nil)
      (pssd_cons (psd_if (PWD.pt (pwd_and (ptd_cmp (od_eq hr.units) (pd_var (i := 6)) (pd_op (od_add mk_F) (pd_callB cd_len (by rfl) T.z_len (by decide +kernel) (pad_cons (pd_var (i := 5)) pad_nil)) pd_int)) (pwd_and (ptd_cmp (od_ne hr.units) (pd_var (i := 1)) (pd_lst mk_F pad_nil)) (pwd_and1 (ptd_cmp od_gt (pd_var (i := 2)) pd_int))))) (pssd_cons (psd_set (i := 9) nd (pd_op od_mod (pd_op (od_add mk_F) (pd_op (od_add mk_F) (pd_ix ixd (pd_var (i := 1)) (pd_var (i := 8))) pd_int) (pd_call (ok__law_draw T) (hr.mono (by decide)) T.g__law_draw T.F__law_draw.kp T.b__law_draw tk (pad_cons (pd_var (i := 0)) (pad_cons (pd_op od_sub (pd_var (i := 2)) pd_int) pad_nil)))) (pd_var (i := 2))))
      (pssd_one (psd_ret (pd_op (od_add mk_F) (pd_op (od_add mk_F) (pd_slice mk_F (pd_var (i := 1)) pod_none (pod_some (pd_var (i := 8)))) (pd_lst mk_F (pad_cons (pd_var (i := 9)) pad_nil))) (pd_slice mk_F (pd_var (i := 1)) (pod_some (pd_op (od_add mk_F) (pd_var (i := 8)) pd_int)) pod_none))))) pssd_nil)
      (pssd_one (psd_ret (pd_ix ixd (pd_var (i := 7)) (pd_op od_mod (pd_op od_sub (pd_var (i := 6)) (pd_callB cd_len (by rfl) T.z_len (by decide +kernel) (pad_cons (pd_var (i := 5)) pad_nil))) pd_int))))))))))))))
theorem ok__law_asked (T : Tx K mg) : FnOk P w K mg base (L2.CX P w) 8 T.a__law_asked T.d__law_asked ["_law_k", "_law_boxes_here", "_law_weights_here", "_law_plan_here", "_law_order_here"] (spD ⟨K, mg⟩ F__law_asked) :=
  fn_mk (k := 7) (keep := false) (body := b__law_asked) T.F__law_asked sc__law_asked rfl fun cdv A outer s H E hr => by
    have nd := sc__law_asked.nd
    have tk : Takes (cxOf (L2.CX P w) P w K mg base ["_law_k", "_law_boxes_here", "_law_weights_here", "_law_plan_here", "_law_order_here"] "_law_asked" (defScope s__law_asked) T.a__law_asked cdv A outer s H E) (fun cls d _ H' => E cls d H') := takes_of rfl rfl rfl rfl
    exact (pssd_cons (psd_if (ptd_cmp (od_eq hr.units) (pd_var (i := 0)) pd_int) (pssd_one (psd_expr (pd_call (ok_awaited T) (hr.mono (by decide)) T.g_awaited T.F_awaited.kp T.b_awaited tk (pad_cons (pd_var (i := 1)) (pad_cons (pd_var (i := 2)) (pad_cons (pd_var (i := 3)) (pad_cons (pd_var (i := 4)) pad_nil))))))) pssd_nil)
      (pssd_cons (psd_if (ptd_cmp (od_eq hr.units) (pd_var (i := 0)) pd_int) (pssd_one (psd_expr (pd_call (ok_is_sorted T) (hr.mono (by decide)) T.g_is_sorted T.F_is_sorted.kp T.b_is_sorted tk (pad_cons (pd_var (i := 1)) (pad_cons (pd_var (i := 2)) (pad_cons (pd_var (i := 3)) (pad_cons (pd_var (i := 4)) pad_nil))))))) pssd_nil)
      (pssd_one (psd_if (ptd_cmp (od_eq hr.units) (pd_var (i := 0)) pd_int) (pssd_one (psd_expr (pd_call (ok_best_order T) (hr.mono (by decide)) T.g_best_order T.F_best_order.kp T.b_best_order tk (pad_cons (pd_var (i := 1)) (pad_cons (pd_var (i := 2)) (pad_cons (pd_var (i := 3)) pad_nil)))))) pssd_nil))))
theorem ok__law_refused (T : Tx K mg) : FnOk P w K mg base (L2.CX P w) 9 T.a__law_refused T.d__law_refused ["_law_k", "_law_boxes_here", "_law_weights_here", "_law_plan_here", "_law_order_here"] (spD ⟨K, mg⟩ F__law_refused) :=
  fn_mk (k := 8) (keep := false) (body := b__law_refused) T.F__law_refused sc__law_refused rfl fun cdv A outer s H E hr => by
    have nd := sc__law_refused.nd
    have tk : Takes (cxOf (L2.CX P w) P w K mg base ["_law_k", "_law_boxes_here", "_law_weights_here", "_law_plan_here", "_law_order_here", "_law_caught", "e"] "_law_refused" (defScope s__law_refused) T.a__law_refused cdv A outer s H E) (fun cls d _ H' => E cls d H') := takes_of rfl rfl rfl rfl
    exact (pssd_cons (psd_set (i := 5) nd pd_non)
      (pssd_cons (psd_tryKeep (i := 6) (j := 5) (L := catchL) rfl rfl rfl nd rfl rfl (by decide) rfl rfl tk rfl T.k_HideError T.ct (fun _ pn1 xe1 tk1 pas1 => (pssd_one (psd_expr (pd_call (ok__law_asked T) (hr.mono (by decide)) T.g__law_asked T.F__law_asked.kp T.b__law_asked tk1 (pad_cons (pd_var (i := 0)) (pad_cons (pd_var (i := 1)) (pad_cons (pd_var (i := 2)) (pad_cons (pd_var (i := 3)) (pad_cons (pd_var (i := 4)) pad_nil))))))))))
      (pssd_cons (psd_if (ptd_cmp od_isN (pd_var (i := 5)) pd_non) (pssd_one (psd_ret (pd_lst mk_F pad_nil))) pssd_nil)
      (pssd_one (psd_ret (pd_call (ok__law_marks T) (hr.mono (by decide)) T.g__law_marks T.F__law_marks.kp T.b__law_marks tk (pad_cons (pd_var (i := 5)) pad_nil)))))))
theorem ok__law_choices (T : Tx K mg) : FnOk P w K mg base (L2.CX P w) 3 T.a__law_choices T.d__law_choices ["_law_purse_here"] (spD ⟨K, mg⟩ F__law_choices) :=
  fn_mk (k := 2) (keep := false) (body := b__law_choices) T.F__law_choices sc__law_choices rfl fun cdv A outer s H E hr => by
    have nd := sc__law_choices.nd
    have tk : Takes (cxOf (L2.CX P w) P w K mg base ["_law_purse_here", "_law_which", "_law_k"] "_law_choices" (defScope s__law_choices) T.a__law_choices cdv A outer s H E) (fun cls d _ H' => E cls d H') := takes_of rfl rfl rfl rfl
    exact (pssd_cons (psd_set (i := 1) nd (pd_call (ok__law_draw T) (hr.mono (by decide)) T.g__law_draw T.F__law_draw.kp T.b__law_draw tk (pad_cons (pd_var (i := 0)) (pad_cons pd_int pad_nil))))
      (pssd_cons (psd_if (ptd_cmp od_lt (pd_var (i := 1)) pd_int) (pssd_one (psd_ret (pd_lst mk_F (pad_cons (pd_op od_mod (pd_var (i := 1)) pd_int) (pad_cons (pd_op od_mod (pd_op od_fdiv (pd_var (i := 1)) pd_int) pd_int) (pad_cons (pd_op od_mod (pd_op od_fdiv (pd_var (i := 1)) pd_int) pd_int) (pad_cons (pd_op od_mod (pd_op od_fdiv (pd_var (i := 1)) pd_int) pd_int) pad_nil))))))) pssd_nil)
      (pssd_one (psd_ret (pd_lc (own := [("_law_k", 2)]) mk_F (tg_N (by decide)) rfl nd (pid_range1 T.z_range (pad_cons pd_int pad_nil)) (blkOk_by (N := ["_law_purse_here", "_law_which", "_law_k"]) (sc := defScope s__law_choices) (by decide +kernel)) (fun _ _ _ _ _ => pg_name (i := 2) nd rfl (Or.inl rfl)) (fun _ _ _ _ _ => (pd_callTy cd_int (by rfl) T.z_int (by decide +kernel) (pad_cons (pd_cmp (od_eq hr.units) (pd_var (i := 2)) (pd_op od_sub (pd_var (i := 1)) pd_int)) pad_nil))))))))
theorem ok_law (T : Tx K mg) : FnOk P w K mg base (L2.CX P w) 10 T.a_law T.d_law ["_law_script"] (spD ⟨K, mg⟩ F_law) :=
  fn_mk (k := 9) (keep := false) (body := b_law) T.F_law sc_law rfl fun cdv A outer s H E hr => by
    have nd := sc_law.nd
    have tk : Takes (cxOf (L2.CX P w) P w K mg base ["_law_script", "_law_purse_here", "_law_boxes_here", "_law_weights_here", "_law_plan_here", "_law_order_here", "_law_good", "_law_kept", "_law_bent", "_law_turn", "_law_choices_here", "_law_handed", "_law_due", "_law_k", "_law_wanted"] "law" (defScope s_law) T.a_law cdv A outer s H E) (fun cls d _ H' => E cls d H') := takes_of rfl rfl rfl rfl
    exact (pssd_cons (psd_set (i := 1) nd (pd_call (ok__law_purse T) (hr.mono (by decide)) T.g__law_purse T.F__law_purse.kp T.b__law_purse tk (pad_cons (pd_var (i := 0)) pad_nil)))
      (pssd_cons (psd_set (i := 2) nd (pd_call (ok__law_boxes T) (hr.mono (by decide)) T.g__law_boxes T.F__law_boxes.kp T.b__law_boxes tk (pad_cons (pd_var (i := 1)) (pad_cons pd_int pad_nil))))
      (pssd_cons (psd_set (i := 3) nd (pd_call (ok__law_weights T) (hr.mono (by decide)) T.g__law_weights T.F__law_weights.kp T.b__law_weights tk (pad_cons (pd_var (i := 1)) (pad_cons (pd_callB cd_len (by rfl) T.z_len (by decide +kernel) (pad_cons (pd_var (i := 2)) pad_nil)) pad_nil))))
      (pssd_cons (psd_set (i := 4) nd (pd_call (ok__law_plan T) (hr.mono (by decide)) T.g__law_plan T.F__law_plan.kp T.b__law_plan tk (pad_cons (pd_var (i := 1)) (pad_cons (pd_callB cd_len (by rfl) T.z_len (by decide +kernel) (pad_cons (pd_var (i := 2)) pad_nil)) pad_nil))))
      (pssd_cons (psd_set (i := 5) nd (pd_call (ok__law_order T) (hr.mono (by decide)) T.g__law_order T.F__law_order.kp T.b__law_order tk (pad_cons (pd_var (i := 1)) (pad_cons (pd_var (i := 4)) pad_nil))))
      (pssd_cons (psd_set (i := 6) nd (pd_lst mk_F (pad_cons (pd_var (i := 2)) (pad_cons (pd_var (i := 3)) (pad_cons (pd_var (i := 4)) (pad_cons (pd_var (i := 5)) pad_nil))))))
      (pssd_cons (psd_set (i := 7) nd (pd_lst mk_F (pad_cons (pd_callTy (cd_list mk_F) (by rfl) T.z_list (by decide +kernel) (pad_cons (pd_var (i := 2)) pad_nil)) (pad_cons (pd_callTy (cd_list mk_F) (by rfl) T.z_list (by decide +kernel) (pad_cons (pd_var (i := 3)) pad_nil)) (pad_cons (pd_callTy (cd_list mk_F) (by rfl) T.z_list (by decide +kernel) (pad_cons (pd_var (i := 4)) pad_nil)) (pad_cons (pd_callTy (cd_list mk_F) (by rfl) T.z_list (by decide +kernel) (pad_cons (pd_var (i := 5)) pad_nil)) pad_nil))))))
      (pssd_cons (psd_set (i := 8) nd (pd_lst mk_C (pad_cons (pd_call (ok__law_no_boxes T) (hr.mono (by decide)) T.g__law_no_boxes T.F__law_no_boxes.kp T.b__law_no_boxes tk (pad_cons (pd_var (i := 1)) (pad_cons (pd_var (i := 2)) pad_nil))) (pad_cons (pd_call (ok__law_no_numbers T) (hr.mono (by decide)) T.g__law_no_numbers T.F__law_no_numbers.kp T.b__law_no_numbers tk (pad_cons (pd_var (i := 1)) (pad_cons (pd_var (i := 3)) (pad_cons pd_int pad_nil)))) (pad_cons (pd_call (ok__law_no_numbers T) (hr.mono (by decide)) T.g__law_no_numbers T.F__law_no_numbers.kp T.b__law_no_numbers tk (pad_cons (pd_var (i := 1)) (pad_cons (pd_var (i := 4)) (pad_cons pd_int pad_nil)))) pad_nil)))))
      (pssd_cons (psd_expr (pd_bm PySem.F.plainAttrs_list PySem.F.slot_list_append PySem.F.type_list_append md_append (pd_var (i := 8)) (pad_cons (pd_call (ok__law_no_order T) (hr.mono (by decide)) T.g__law_no_order T.F__law_no_order.kp T.b__law_no_order tk (pad_cons (pd_var (i := 1)) (pad_cons (pd_var (i := 5)) (pad_cons (pd_callB cd_len (by rfl) T.z_len (by decide +kernel) (pad_cons (pd_var (i := 2)) pad_nil)) pad_nil)))) pad_nil)))
      (pssd_cons (psd_frz (i := 8) (psd_if (ptd_cmp (od_eq hr.units) (pd_call (ok__law_draw T) (hr.mono (by decide)) T.g__law_draw T.F__law_draw.kp T.b__law_draw tk (pad_cons (pd_var (i := 1)) (pad_cons pd_int pad_nil))) pd_int) (pssd_one (psd_sub sd_list (pd_op (od_mul mk_F) (pd_lst mk_F (pad_cons pd_int pad_nil)) (pd_callB cd_len (by rfl) T.z_len (by decide +kernel) (pad_cons (pd_var (i := 2)) pad_nil))) (pd_var (i := 8)) pd_int)) pssd_nil))
      (pssd_cons (psd_for (passes_of rfl) rfl (pid_range1 T.z_range (pad_cons pd_int pad_nil)) (pgd_name (i := 9) nd) (pssd_cons (psd_set (i := 10) nd (pd_call (ok__law_choices T) (hr.mono (by decide)) T.g__law_choices T.F__law_choices.kp T.b__law_choices tk (pad_cons (pd_var (i := 1)) pad_nil)))
      (pssd_cons (psd_setLc (i := 11) (own := [("_law_k", 13)]) mk_F (tg_N (by decide)) rfl nd (sw_true rfl rfl rfl (by decide +kernel)) (pid_range1 T.z_range (pad_cons pd_int pad_nil)) (blkOk_by (N := ["_law_script", "_law_purse_here", "_law_boxes_here", "_law_weights_here", "_law_plan_here", "_law_order_here", "_law_good", "_law_kept", "_law_bent", "_law_turn", "_law_choices_here", "_law_handed", "_law_due", "_law_k", "_law_wanted"]) (sc := defScope s_law) (by decide +kernel)) (fun _ _ _ _ _ => pg_name (i := 13) nd rfl (Or.inl rfl)) (fun _ _ _ _ _ => (pd_ix ixd (pd_lst mk_F (pad_cons (pd_ix ixd (pd_var (i := 6)) (pd_var (i := 13))) (pad_cons (pd_ix ixd (pd_var (i := 8)) (pd_var (i := 13))) pad_nil))) (pd_ix ixd (pd_var (i := 10)) (pd_var (i := 13))))))
      (pssd_cons (psd_setLcIf (i := 12) (own := [("_law_k", 13)]) mk_F (tg_N (by decide)) rfl nd (sw_true rfl rfl rfl (by decide +kernel)) (pid_range1 T.z_range (pad_cons pd_int pad_nil)) (blkOk_by (N := ["_law_script", "_law_purse_here", "_law_boxes_here", "_law_weights_here", "_law_plan_here", "_law_order_here", "_law_good", "_law_kept", "_law_bent", "_law_turn", "_law_choices_here", "_law_handed", "_law_due", "_law_k", "_law_wanted"]) (sc := defScope s_law) (by decide +kernel)) (fun _ _ _ _ _ => pg_name (i := 13) nd rfl (Or.inl rfl)) (fun _ _ _ _ _ => (ptd_cmp (od_eq hr.units) (pd_ix ixd (pd_var (i := 10)) (pd_var (i := 13))) pd_int)) (fun _ _ _ _ _ => (pd_ix ixd (pd_lst mk_F (pad_cons pd_str (pad_cons pd_str (pad_cons pd_str (pad_cons pd_str pad_nil))))) (pd_var (i := 13)))))
      (pssd_one (psd_for (passes_of rfl) rfl (pid_range1 T.z_range (pad_cons pd_int pad_nil)) (pgd_name (i := 13) nd) (pssd_cons (psd_set (i := 14) nd (pd_slice mk_F (pd_var (i := 12)) pod_none (pod_some pd_int)))
      (pssd_cons (psd_if (PWD.pt (pwd_and (ptd_cmp (od_eq hr.units) (pd_var (i := 13)) pd_int) (pwd_and1 (ptd_cmp (od_eq hr.units) (pd_var (i := 14)) (pd_lst mk_F (pad_cons pd_str pad_nil)))))) (pssd_one (psd_set (i := 14) nd (pd_lst mk_F pad_nil))) pssd_nil)
      (pssd_one (psd_if (ptd_cmp (od_ne hr.units) (pd_call (ok__law_refused T) (hr.mono (by decide)) T.g__law_refused T.F__law_refused.kp T.b__law_refused tk (pad_cons (pd_var (i := 13)) (pad_cons (pd_ix ixd (pd_var (i := 11)) pd_int) (pad_cons (pd_ix ixd (pd_var (i := 11)) pd_int) (pad_cons (pd_ix ixd (pd_var (i := 11)) pd_int) (pad_cons (pd_ix ixd (pd_var (i := 11)) pd_int) pad_nil)))))) (pd_var (i := 14))) (pssd_one (psd_ret pd_bl)) pssd_nil))))))))))
      (pssd_one (psd_ret (pd_cmp (od_eq hr.units) (pd_var (i := 6)) (pd_var (i := 7))))))))))))))))
end
section
theorem all_mk {P : Program} {w : World} {K : PySem.W.Frag} {h : Heap} {mg : Str → Option Value} {fa : Addr} (X : K.In h) (G : h.Ns mainGlobals mg) (hfa : mg "law" = some (.ref fa)) (ht : LawTrue F_law) {f0 f1 f2 f3 f4 f5 f6 f7 f8 f9 f10 f11 f12 f13 f14 f15 f16 f17 f18 f19 f20 f21 f22 f23 f24 f25 f26 f27 f28 f29 f30 f31 f32 f33 f34 : Addr} {od0 an0 od1 an1 od2 an2 od3 an3 od4 an4 od5 an5 od6 an6 od7 an7 od8 an8 od9 an9 od10 an10 od11 an11 od12 an12 od13 an13 od14 an14 od15 an15 od16 an16 od17 an17 od18 an18 od19 an19 od20 an20 od21 an21 od22 an22 od23 an23 od24 an24 od25 an25 od26 an26 od27 an27 od28 an28 od29 an29 od30 an30 od31 an31 od32 an32 od33 an33 od34 an34 : Option Addr} {sl0 sl1 sl2 sl3 sl4 sl5 sl6 sl7 sl8 sl9 sl10 sl11 sl12 sl13 sl14 sl15 sl16 sl17 sl18 sl19 sl20 sl21 sl22 sl23 sl24 sl25 sl26 sl27 sl28 sl29 sl30 sl31 sl32 sl33 sl34 : Array (Option Value)} {oc0 kV0 dc0 pm0 cd0 ct0 oc1 kV1 dc1 pm1 cd1 ct1 oc2 kV2 dc2 pm2 cd2 ct2 oc3 kV3 dc3 pm3 cd3 ct3 oc4 kV4 dc4 pm4 cd4 ct4 oc5 kV5 dc5 pm5 cd5 ct5 oc6 kV6 dc6 pm6 cd6 ct6 oc7 kV7 dc7 pm7 cd7 ct7 oc8 kV8 dc8 pm8 cd8 ct8 oc9 kV9 dc9 pm9 cd9 ct9 oc10 kV10 dc10 pm10 cd10 ct10 oc11 kV11 dc11 pm11 cd11 ct11 oc12 kV12 dc12 pm12 cd12 ct12 oc13 kV13 dc13 pm13 cd13 ct13 oc14 kV14 dc14 pm14 cd14 ct14 oc15 kV15 dc15 pm15 cd15 ct15 oc16 kV16 dc16 pm16 cd16 ct16 oc17 kV17 dc17 pm17 cd17 ct17 oc18 kV18 dc18 pm18 cd18 ct18 oc19 kV19 dc19 pm19 cd19 ct19 oc20 kV20 dc20 pm20 cd20 ct20 oc21 kV21 dc21 pm21 cd21 ct21 oc22 kV22 dc22 pm22 cd22 ct22 oc23 kV23 dc23 pm23 cd23 ct23 oc24 kV24 dc24 pm24 cd24 ct24 oc25 kV25 dc25 pm25 cd25 ct25 oc26 kV26 dc26 pm26 cd26 ct26 oc27 kV27 dc27 pm27 cd27 ct27 oc28 kV28 dc28 pm28 cd28 ct28 oc29 kV29 dc29 pm29 cd29 ct29 oc30 kV30 dc30 pm30 cd30 ct30 oc31 kV31 dc31 pm31 cd31 ct31 oc32 kV32 dc32 pm32 cd32 ct32 oc33 kV33 dc33 pm33 cd33 ct33 oc34 kV34 dc34 pm34 cd34 ct34 : Value} {Cc_NoNumber Cc_NoBoxes Cc_NoWeights Cc_NoPlan Cc_HideError Cc_NoOrder Cc_NoBudget Cc_NoPlay Cc_NoName Cc_NoKind Cc_NoTable Cc_NoRow Cc_NoRoad Cc_NoTree Cc_NoText Cc_NoPaper Cc_TooGreat Cc_NoWeb Cc_NoTurns : Addr} {fI_NoPlan : Addr} {nm_NoPlan q_NoPlan : Str} {N_NoPlan : Addr} {bs_NoPlan bm_NoPlan sub_NoPlan : List Value} {sn_NoPlan : List Str} {ab_NoPlan : Bool} {col_NoPlan : Option Bool} {dd_NoPlan odi_NoPlan ani_NoPlan : Option Addr} {k0_NoPlan k1_NoPlan k2_NoPlan k3_NoPlan k5_NoPlan : Option Value} {oci_NoPlan kVi_NoPlan dci_NoPlan pmi_NoPlan cdi_NoPlan cti_NoPlan mc_NoPlan : Value} {sli_NoPlan : Array (Option Value)} {t_MOST_COST t_MOST_OF t_MOST_BOXES t_MOST_BUDGET : Tok}
    (a0 : PySem.W.nsIn K mainGlobals "divisor" = some (some (.ref f0))) (l0 : K.lookup f0 = some ⟨oc0, od0, .func (PySem.W.fnOf "divisor" "divisor" (defArgs s_divisor) (defBody s_divisor) (defScope s_divisor) .none kV0 dc0 pm0 an0 cd0 ct0), sl0⟩) (c0 : PySem.W.codeIn K cd0 "divisor" = true) (k0 : PySem.W.keepIn K (.ref f0) = true)
    (a1 : PySem.W.nsIn K mainGlobals "ratio" = some (some (.ref f1))) (l1 : K.lookup f1 = some ⟨oc1, od1, .func (PySem.W.fnOf "ratio" "ratio" (defArgs s_ratio) (defBody s_ratio) (defScope s_ratio) .none kV1 dc1 pm1 an1 cd1 ct1), sl1⟩) (c1 : PySem.W.codeIn K cd1 "ratio" = true) (k1 : PySem.W.keepIn K (.ref f1) = true)
    (a2 : PySem.W.nsIn K mainGlobals "plus" = some (some (.ref f2))) (l2 : K.lookup f2 = some ⟨oc2, od2, .func (PySem.W.fnOf "plus" "plus" (defArgs s_plus) (defBody s_plus) (defScope s_plus) .none kV2 dc2 pm2 an2 cd2 ct2), sl2⟩) (c2 : PySem.W.codeIn K cd2 "plus" = true) (k2 : PySem.W.keepIn K (.ref f2) = true)
    (a3 : PySem.W.nsIn K mainGlobals "minus" = some (some (.ref f3))) (l3 : K.lookup f3 = some ⟨oc3, od3, .func (PySem.W.fnOf "minus" "minus" (defArgs s_minus) (defBody s_minus) (defScope s_minus) .none kV3 dc3 pm3 an3 cd3 ct3), sl3⟩) (c3 : PySem.W.codeIn K cd3 "minus" = true) (k3 : PySem.W.keepIn K (.ref f3) = true)
    (a4 : PySem.W.nsIn K mainGlobals "times" = some (some (.ref f4))) (l4 : K.lookup f4 = some ⟨oc4, od4, .func (PySem.W.fnOf "times" "times" (defArgs s_times) (defBody s_times) (defScope s_times) .none kV4 dc4 pm4 an4 cd4 ct4), sl4⟩) (c4 : PySem.W.codeIn K cd4 "times" = true) (k4 : PySem.W.keepIn K (.ref f4) = true)
    (a5 : PySem.W.nsIn K mainGlobals "below" = some (some (.ref f5))) (l5 : K.lookup f5 = some ⟨oc5, od5, .func (PySem.W.fnOf "below" "below" (defArgs s_below) (defBody s_below) (defScope s_below) .none kV5 dc5 pm5 an5 cd5 ct5), sl5⟩) (c5 : PySem.W.codeIn K cd5 "below" = true) (k5 : PySem.W.keepIn K (.ref f5) = true)
    (a6 : PySem.W.nsIn K mainGlobals "is_number" = some (some (.ref f6))) (l6 : K.lookup f6 = some ⟨oc6, od6, .func (PySem.W.fnOf "is_number" "is_number" (defArgs s_is_number) (defBody s_is_number) (defScope s_is_number) .none kV6 dc6 pm6 an6 cd6 ct6), sl6⟩) (c6 : PySem.W.codeIn K cd6 "is_number" = true) (k6 : PySem.W.keepIn K (.ref f6) = true)
    (a7 : PySem.W.nsIn K mainGlobals "are_numbers" = some (some (.ref f7))) (l7 : K.lookup f7 = some ⟨oc7, od7, .func (PySem.W.fnOf "are_numbers" "are_numbers" (defArgs s_are_numbers) (defBody s_are_numbers) (defScope s_are_numbers) .none kV7 dc7 pm7 an7 cd7 ct7), sl7⟩) (c7 : PySem.W.codeIn K cd7 "are_numbers" = true) (k7 : PySem.W.keepIn K (.ref f7) = true)
    (a8 : PySem.W.nsIn K mainGlobals "are_weights" = some (some (.ref f8))) (l8 : K.lookup f8 = some ⟨oc8, od8, .func (PySem.W.fnOf "are_weights" "are_weights" (defArgs s_are_weights) (defBody s_are_weights) (defScope s_are_weights) .none kV8 dc8 pm8 an8 cd8 ct8), sl8⟩) (c8 : PySem.W.codeIn K cd8 "are_weights" = true) (k8 : PySem.W.keepIn K (.ref f8) = true)
    (a9 : PySem.W.nsIn K mainGlobals "is_box" = some (some (.ref f9))) (l9 : K.lookup f9 = some ⟨oc9, od9, .func (PySem.W.fnOf "is_box" "is_box" (defArgs s_is_box) (defBody s_is_box) (defScope s_is_box) .none kV9 dc9 pm9 an9 cd9 ct9), sl9⟩) (c9 : PySem.W.codeIn K cd9 "is_box" = true) (k9 : PySem.W.keepIn K (.ref f9) = true)
    (a10 : PySem.W.nsIn K mainGlobals "must_be_boxes" = some (some (.ref f10))) (l10 : K.lookup f10 = some ⟨oc10, od10, .func (PySem.W.fnOf "must_be_boxes" "must_be_boxes" (defArgs s_must_be_boxes) (defBody s_must_be_boxes) (defScope s_must_be_boxes) .none kV10 dc10 pm10 an10 cd10 ct10), sl10⟩) (c10 : PySem.W.codeIn K cd10 "must_be_boxes" = true) (k10 : PySem.W.keepIn K (.ref f10) = true)
    (a11 : PySem.W.nsIn K mainGlobals "is_plan" = some (some (.ref f11))) (l11 : K.lookup f11 = some ⟨oc11, od11, .func (PySem.W.fnOf "is_plan" "is_plan" (defArgs s_is_plan) (defBody s_is_plan) (defScope s_is_plan) .none kV11 dc11 pm11 an11 cd11 ct11), sl11⟩) (c11 : PySem.W.codeIn K cd11 "is_plan" = true) (k11 : PySem.W.keepIn K (.ref f11) = true)
    (a12 : PySem.W.nsIn K mainGlobals "missed" = some (some (.ref f12))) (l12 : K.lookup f12 = some ⟨oc12, od12, .func (PySem.W.fnOf "missed" "missed" (defArgs s_missed) (defBody s_missed) (defScope s_missed) .none kV12 dc12 pm12 an12 cd12 ct12), sl12⟩) (c12 : PySem.W.codeIn K cd12 "missed" = true) (k12 : PySem.W.keepIn K (.ref f12) = true)
    (a13 : PySem.W.nsIn K mainGlobals "mark" = some (some (.ref f13))) (l13 : K.lookup f13 = some ⟨oc13, od13, .func (PySem.W.fnOf "mark" "mark" (defArgs s_mark) (defBody s_mark) (defScope s_mark) .none kV13 dc13 pm13 an13 cd13 ct13), sl13⟩) (c13 : PySem.W.codeIn K cd13 "mark" = true) (k13 : PySem.W.keepIn K (.ref f13) = true)
    (a14 : PySem.W.nsIn K mainGlobals "must_be_asked" = some (some (.ref f14))) (l14 : K.lookup f14 = some ⟨oc14, od14, .func (PySem.W.fnOf "must_be_asked" "must_be_asked" (defArgs s_must_be_asked) (defBody s_must_be_asked) (defScope s_must_be_asked) .none kV14 dc14 pm14 an14 cd14 ct14), sl14⟩) (c14 : PySem.W.codeIn K cd14 "must_be_asked" = true) (k14 : PySem.W.keepIn K (.ref f14) = true)
    (a15 : PySem.W.nsIn K mainGlobals "must_be_order" = some (some (.ref f15))) (l15 : K.lookup f15 = some ⟨oc15, od15, .func (PySem.W.fnOf "must_be_order" "must_be_order" (defArgs s_must_be_order) (defBody s_must_be_order) (defScope s_must_be_order) .none kV15 dc15 pm15 an15 cd15 ct15), sl15⟩) (c15 : PySem.W.codeIn K cd15 "must_be_order" = true) (k15 : PySem.W.keepIn K (.ref f15) = true)
    (a16 : PySem.W.nsIn K mainGlobals "chances" = some (some (.ref f16))) (l16 : K.lookup f16 = some ⟨oc16, od16, .func (PySem.W.fnOf "chances" "chances" (defArgs s_chances) (defBody s_chances) (defScope s_chances) .none kV16 dc16 pm16 an16 cd16 ct16), sl16⟩) (c16 : PySem.W.codeIn K cd16 "chances" = true) (k16 : PySem.W.keepIn K (.ref f16) = true)
    (a17 : PySem.W.nsIn K mainGlobals "awaited" = some (some (.ref f17))) (l17 : K.lookup f17 = some ⟨oc17, od17, .func (PySem.W.fnOf "awaited" "awaited" (defArgs s_awaited) (defBody s_awaited) (defScope s_awaited) .none kV17 dc17 pm17 an17 cd17 ct17), sl17⟩) (c17 : PySem.W.codeIn K cd17 "awaited" = true) (k17 : PySem.W.keepIn K (.ref f17) = true)
    (a18 : PySem.W.nsIn K mainGlobals "ahead" = some (some (.ref f18))) (l18 : K.lookup f18 = some ⟨oc18, od18, .func (PySem.W.fnOf "ahead" "ahead" (defArgs s_ahead) (defBody s_ahead) (defScope s_ahead) .none kV18 dc18 pm18 an18 cd18 ct18), sl18⟩) (c18 : PySem.W.codeIn K cd18 "ahead" = true) (k18 : PySem.W.keepIn K (.ref f18) = true)
    (a19 : PySem.W.nsIn K mainGlobals "is_sorted" = some (some (.ref f19))) (l19 : K.lookup f19 = some ⟨oc19, od19, .func (PySem.W.fnOf "is_sorted" "is_sorted" (defArgs s_is_sorted) (defBody s_is_sorted) (defScope s_is_sorted) .none kV19 dc19 pm19 an19 cd19 ct19), sl19⟩) (c19 : PySem.W.codeIn K cd19 "is_sorted" = true) (k19 : PySem.W.keepIn K (.ref f19) = true)
    (a20 : PySem.W.nsIn K mainGlobals "best_order" = some (some (.ref f20))) (l20 : K.lookup f20 = some ⟨oc20, od20, .func (PySem.W.fnOf "best_order" "best_order" (defArgs s_best_order) (defBody s_best_order) (defScope s_best_order) .none kV20 dc20 pm20 an20 cd20 ct20), sl20⟩) (c20 : PySem.W.codeIn K cd20 "best_order" = true) (k20 : PySem.W.keepIn K (.ref f20) = true)
    (a21 : PySem.W.nsIn K mainGlobals "_law_purse" = some (some (.ref f21))) (l21 : K.lookup f21 = some ⟨oc21, od21, .func (PySem.W.fnOf "_law_purse" "_law_purse" (defArgs s__law_purse) (defBody s__law_purse) (defScope s__law_purse) .none kV21 dc21 pm21 an21 cd21 ct21), sl21⟩) (c21 : PySem.W.codeIn K cd21 "_law_purse" = true) (k21 : PySem.W.keepIn K (.ref f21) = true)
    (a22 : PySem.W.nsIn K mainGlobals "_law_draw" = some (some (.ref f22))) (l22 : K.lookup f22 = some ⟨oc22, od22, .func (PySem.W.fnOf "_law_draw" "_law_draw" (defArgs s__law_draw) (defBody s__law_draw) (defScope s__law_draw) .none kV22 dc22 pm22 an22 cd22 ct22), sl22⟩) (c22 : PySem.W.codeIn K cd22 "_law_draw" = true) (k22 : PySem.W.keepIn K (.ref f22) = true)
    (a23 : PySem.W.nsIn K mainGlobals "_law_boxes" = some (some (.ref f23))) (l23 : K.lookup f23 = some ⟨oc23, od23, .func (PySem.W.fnOf "_law_boxes" "_law_boxes" (defArgs s__law_boxes) (defBody s__law_boxes) (defScope s__law_boxes) .none kV23 dc23 pm23 an23 cd23 ct23), sl23⟩) (c23 : PySem.W.codeIn K cd23 "_law_boxes" = true) (k23 : PySem.W.keepIn K (.ref f23) = true)
    (a24 : PySem.W.nsIn K mainGlobals "_law_weights" = some (some (.ref f24))) (l24 : K.lookup f24 = some ⟨oc24, od24, .func (PySem.W.fnOf "_law_weights" "_law_weights" (defArgs s__law_weights) (defBody s__law_weights) (defScope s__law_weights) .none kV24 dc24 pm24 an24 cd24 ct24), sl24⟩) (c24 : PySem.W.codeIn K cd24 "_law_weights" = true) (k24 : PySem.W.keepIn K (.ref f24) = true)
    (a25 : PySem.W.nsIn K mainGlobals "_law_plan" = some (some (.ref f25))) (l25 : K.lookup f25 = some ⟨oc25, od25, .func (PySem.W.fnOf "_law_plan" "_law_plan" (defArgs s__law_plan) (defBody s__law_plan) (defScope s__law_plan) .none kV25 dc25 pm25 an25 cd25 ct25), sl25⟩) (c25 : PySem.W.codeIn K cd25 "_law_plan" = true) (k25 : PySem.W.keepIn K (.ref f25) = true)
    (a26 : PySem.W.nsIn K mainGlobals "_law_order" = some (some (.ref f26))) (l26 : K.lookup f26 = some ⟨oc26, od26, .func (PySem.W.fnOf "_law_order" "_law_order" (defArgs s__law_order) (defBody s__law_order) (defScope s__law_order) .none kV26 dc26 pm26 an26 cd26 ct26), sl26⟩) (c26 : PySem.W.codeIn K cd26 "_law_order" = true) (k26 : PySem.W.keepIn K (.ref f26) = true)
    (a27 : PySem.W.nsIn K mainGlobals "_law_no_boxes" = some (some (.ref f27))) (l27 : K.lookup f27 = some ⟨oc27, od27, .func (PySem.W.fnOf "_law_no_boxes" "_law_no_boxes" (defArgs s__law_no_boxes) (defBody s__law_no_boxes) (defScope s__law_no_boxes) .none kV27 dc27 pm27 an27 cd27 ct27), sl27⟩) (c27 : PySem.W.codeIn K cd27 "_law_no_boxes" = true) (k27 : PySem.W.keepIn K (.ref f27) = true)
    (a28 : PySem.W.nsIn K mainGlobals "_law_no_numbers" = some (some (.ref f28))) (l28 : K.lookup f28 = some ⟨oc28, od28, .func (PySem.W.fnOf "_law_no_numbers" "_law_no_numbers" (defArgs s__law_no_numbers) (defBody s__law_no_numbers) (defScope s__law_no_numbers) .none kV28 dc28 pm28 an28 cd28 ct28), sl28⟩) (c28 : PySem.W.codeIn K cd28 "_law_no_numbers" = true) (k28 : PySem.W.keepIn K (.ref f28) = true)
    (a29 : PySem.W.nsIn K mainGlobals "_law_marks" = some (some (.ref f29))) (l29 : K.lookup f29 = some ⟨oc29, od29, .func (PySem.W.fnOf "_law_marks" "_law_marks" (defArgs s__law_marks) (defBody s__law_marks) (defScope s__law_marks) .none kV29 dc29 pm29 an29 cd29 ct29), sl29⟩) (c29 : PySem.W.codeIn K cd29 "_law_marks" = true) (k29 : PySem.W.keepIn K (.ref f29) = true)
    (a30 : PySem.W.nsIn K mainGlobals "_law_no_order" = some (some (.ref f30))) (l30 : K.lookup f30 = some ⟨oc30, od30, .func (PySem.W.fnOf "_law_no_order" "_law_no_order" (defArgs s__law_no_order) (defBody s__law_no_order) (defScope s__law_no_order) .none kV30 dc30 pm30 an30 cd30 ct30), sl30⟩) (c30 : PySem.W.codeIn K cd30 "_law_no_order" = true) (k30 : PySem.W.keepIn K (.ref f30) = true)
    (a31 : PySem.W.nsIn K mainGlobals "_law_asked" = some (some (.ref f31))) (l31 : K.lookup f31 = some ⟨oc31, od31, .func (PySem.W.fnOf "_law_asked" "_law_asked" (defArgs s__law_asked) (defBody s__law_asked) (defScope s__law_asked) .none kV31 dc31 pm31 an31 cd31 ct31), sl31⟩) (c31 : PySem.W.codeIn K cd31 "_law_asked" = true) (k31 : PySem.W.keepIn K (.ref f31) = true)
    (a32 : PySem.W.nsIn K mainGlobals "_law_refused" = some (some (.ref f32))) (l32 : K.lookup f32 = some ⟨oc32, od32, .func (PySem.W.fnOf "_law_refused" "_law_refused" (defArgs s__law_refused) (defBody s__law_refused) (defScope s__law_refused) .none kV32 dc32 pm32 an32 cd32 ct32), sl32⟩) (c32 : PySem.W.codeIn K cd32 "_law_refused" = true) (k32 : PySem.W.keepIn K (.ref f32) = true)
    (a33 : PySem.W.nsIn K mainGlobals "_law_choices" = some (some (.ref f33))) (l33 : K.lookup f33 = some ⟨oc33, od33, .func (PySem.W.fnOf "_law_choices" "_law_choices" (defArgs s__law_choices) (defBody s__law_choices) (defScope s__law_choices) .none kV33 dc33 pm33 an33 cd33 ct33), sl33⟩) (c33 : PySem.W.codeIn K cd33 "_law_choices" = true) (k33 : PySem.W.keepIn K (.ref f33) = true)
    (a34 : PySem.W.nsIn K mainGlobals "law" = some (some (.ref f34))) (l34 : K.lookup f34 = some ⟨oc34, od34, .func (PySem.W.fnOf "law" "law" (defArgs s_law) (defBody s_law) (defScope s_law) .none kV34 dc34 pm34 an34 cd34 ct34), sl34⟩) (c34 : PySem.W.codeIn K cd34 "law" = true) (k34 : PySem.W.keepIn K (.ref f34) = true)
    (z_abs : PySem.W.nsIn K mainGlobals "abs" = some none)
    (z_int : PySem.W.nsIn K mainGlobals "int" = some none)
    (z_isinstance : PySem.W.nsIn K mainGlobals "isinstance" = some none)
    (z_bool : PySem.W.nsIn K mainGlobals "bool" = some none)
    (z_list : PySem.W.nsIn K mainGlobals "list" = some none)
    (z_len : PySem.W.nsIn K mainGlobals "len" = some none)
    (z_min : PySem.W.nsIn K mainGlobals "min" = some none)
    (z_max : PySem.W.nsIn K mainGlobals "max" = some none)
    (z_tuple : PySem.W.nsIn K mainGlobals "tuple" = some none)
    (z_range : PySem.W.nsIn K mainGlobals "range" = some none)
    (z_sum : PySem.W.nsIn K mainGlobals "sum" = some none)
    (z_ValueError : PySem.W.nsIn K mainGlobals "ValueError" = some none)
    (c_MOST_COST : PySem.W.nsIn K mainGlobals "MOST_COST" = some (some (.int 60 t_MOST_COST)))
    (c_MOST_OF : PySem.W.nsIn K mainGlobals "MOST_OF" = some (some (.int 50 t_MOST_OF)))
    (c_MOST_BOXES : PySem.W.nsIn K mainGlobals "MOST_BOXES" = some (some (.int 6 t_MOST_BOXES)))
    (c_MOST_BUDGET : PySem.W.nsIn K mainGlobals "MOST_BUDGET" = some (some (.int 60 t_MOST_BUDGET)))
    (qn_NoNumber : PySem.W.nsIn K mainGlobals "NoNumber" = some (some (.ref Cc_NoNumber))) (qi_NoNumber : PySem.W.isClsIn K Cc_NoNumber = true) (qt_NoNumber : PySem.W.typeIn K (.ref Cc_NoNumber) = some (.type "type"))
    (qn_NoBoxes : PySem.W.nsIn K mainGlobals "NoBoxes" = some (some (.ref Cc_NoBoxes))) (qi_NoBoxes : PySem.W.isClsIn K Cc_NoBoxes = true) (qt_NoBoxes : PySem.W.typeIn K (.ref Cc_NoBoxes) = some (.type "type"))
    (qn_NoWeights : PySem.W.nsIn K mainGlobals "NoWeights" = some (some (.ref Cc_NoWeights))) (qi_NoWeights : PySem.W.isClsIn K Cc_NoWeights = true) (qt_NoWeights : PySem.W.typeIn K (.ref Cc_NoWeights) = some (.type "type"))
    (qn_NoPlan : PySem.W.nsIn K mainGlobals "NoPlan" = some (some (.ref Cc_NoPlan))) (qi_NoPlan : PySem.W.isClsIn K Cc_NoPlan = true) (qt_NoPlan : PySem.W.typeIn K (.ref Cc_NoPlan) = some (.type "type"))
    (qn_HideError : PySem.W.nsIn K mainGlobals "HideError" = some (some (.ref Cc_HideError))) (qi_HideError : PySem.W.isClsIn K Cc_HideError = true) (qt_HideError : PySem.W.typeIn K (.ref Cc_HideError) = some (.type "type"))
    (qn_NoOrder : PySem.W.nsIn K mainGlobals "NoOrder" = some (some (.ref Cc_NoOrder))) (qi_NoOrder : PySem.W.isClsIn K Cc_NoOrder = true) (qt_NoOrder : PySem.W.typeIn K (.ref Cc_NoOrder) = some (.type "type"))
    (qn_NoBudget : PySem.W.nsIn K mainGlobals "NoBudget" = some (some (.ref Cc_NoBudget))) (qi_NoBudget : PySem.W.isClsIn K Cc_NoBudget = true) (qt_NoBudget : PySem.W.typeIn K (.ref Cc_NoBudget) = some (.type "type"))
    (qn_NoPlay : PySem.W.nsIn K mainGlobals "NoPlay" = some (some (.ref Cc_NoPlay))) (qi_NoPlay : PySem.W.isClsIn K Cc_NoPlay = true) (qt_NoPlay : PySem.W.typeIn K (.ref Cc_NoPlay) = some (.type "type"))
    (qn_NoName : PySem.W.nsIn K mainGlobals "NoName" = some (some (.ref Cc_NoName))) (qi_NoName : PySem.W.isClsIn K Cc_NoName = true) (qt_NoName : PySem.W.typeIn K (.ref Cc_NoName) = some (.type "type"))
    (qn_NoKind : PySem.W.nsIn K mainGlobals "NoKind" = some (some (.ref Cc_NoKind))) (qi_NoKind : PySem.W.isClsIn K Cc_NoKind = true) (qt_NoKind : PySem.W.typeIn K (.ref Cc_NoKind) = some (.type "type"))
    (qn_NoTable : PySem.W.nsIn K mainGlobals "NoTable" = some (some (.ref Cc_NoTable))) (qi_NoTable : PySem.W.isClsIn K Cc_NoTable = true) (qt_NoTable : PySem.W.typeIn K (.ref Cc_NoTable) = some (.type "type"))
    (qn_NoRow : PySem.W.nsIn K mainGlobals "NoRow" = some (some (.ref Cc_NoRow))) (qi_NoRow : PySem.W.isClsIn K Cc_NoRow = true) (qt_NoRow : PySem.W.typeIn K (.ref Cc_NoRow) = some (.type "type"))
    (qn_NoRoad : PySem.W.nsIn K mainGlobals "NoRoad" = some (some (.ref Cc_NoRoad))) (qi_NoRoad : PySem.W.isClsIn K Cc_NoRoad = true) (qt_NoRoad : PySem.W.typeIn K (.ref Cc_NoRoad) = some (.type "type"))
    (qn_NoTree : PySem.W.nsIn K mainGlobals "NoTree" = some (some (.ref Cc_NoTree))) (qi_NoTree : PySem.W.isClsIn K Cc_NoTree = true) (qt_NoTree : PySem.W.typeIn K (.ref Cc_NoTree) = some (.type "type"))
    (qn_NoText : PySem.W.nsIn K mainGlobals "NoText" = some (some (.ref Cc_NoText))) (qi_NoText : PySem.W.isClsIn K Cc_NoText = true) (qt_NoText : PySem.W.typeIn K (.ref Cc_NoText) = some (.type "type"))
    (qn_NoPaper : PySem.W.nsIn K mainGlobals "NoPaper" = some (some (.ref Cc_NoPaper))) (qi_NoPaper : PySem.W.isClsIn K Cc_NoPaper = true) (qt_NoPaper : PySem.W.typeIn K (.ref Cc_NoPaper) = some (.type "type"))
    (qn_TooGreat : PySem.W.nsIn K mainGlobals "TooGreat" = some (some (.ref Cc_TooGreat))) (qi_TooGreat : PySem.W.isClsIn K Cc_TooGreat = true) (qt_TooGreat : PySem.W.typeIn K (.ref Cc_TooGreat) = some (.type "type"))
    (qn_NoWeb : PySem.W.nsIn K mainGlobals "NoWeb" = some (some (.ref Cc_NoWeb))) (qi_NoWeb : PySem.W.isClsIn K Cc_NoWeb = true) (qt_NoWeb : PySem.W.typeIn K (.ref Cc_NoWeb) = some (.type "type"))
    (qn_NoTurns : PySem.W.nsIn K mainGlobals "NoTurns" = some (some (.ref Cc_NoTurns))) (qi_NoTurns : PySem.W.isClsIn K Cc_NoTurns = true) (qt_NoTurns : PySem.W.typeIn K (.ref Cc_NoTurns) = some (.type "type"))
    (on1 : PySem.W.specialIn K (.builtin "object.__class__") "__get__" = some (some (.builtin "getset_descriptor.__get__"))) (ot1 : PySem.W.takesIn K (.builtin "object.__class__") = some true)
    (qk_NoNumber : PySem.W.keepIn K (.ref Cc_NoNumber) = true) (qb_NoNumber : PySem.W.subIn K (.ref Cc_NoNumber) (.type "BaseException") = some true) (qs_NoNumber : PySem.W.subIn K (.ref Cc_NoNumber) (.ref Cc_NoNumber) = some true) (qv_NoNumber : PySem.W.subIn K (.ref Cc_NoNumber) (.type "ValueError") = some true) (qg_NoNumber : PySem.W.findIn K (.ref Cc_NoNumber) "__getattribute__" = some (some (.builtin "BaseException.__getattribute__"))) (qh_NoNumber : PySem.W.findIn K (.ref Cc_NoNumber) "__getattr__" = some none) (qd_NoNumber : PySem.W.hasDictIn K Cc_NoNumber = true) (qa_NoNumber : PySem.W.findIn K (.ref Cc_NoNumber) "__class__" = some (some (.builtin "object.__class__"))) (qm_NoNumber : PySem.W.mroIn K Cc_NoNumber (.type "object") = some true)
    (qx_NoNumber : PySem.W.excIn K Cc_NoNumber veMro "ValueError.__new__" = true)
    (qk_NoBoxes : PySem.W.keepIn K (.ref Cc_NoBoxes) = true) (qb_NoBoxes : PySem.W.subIn K (.ref Cc_NoBoxes) (.type "BaseException") = some true) (qs_NoBoxes : PySem.W.subIn K (.ref Cc_NoBoxes) (.ref Cc_NoBoxes) = some true) (qv_NoBoxes : PySem.W.subIn K (.ref Cc_NoBoxes) (.type "ValueError") = some true) (qg_NoBoxes : PySem.W.findIn K (.ref Cc_NoBoxes) "__getattribute__" = some (some (.builtin "BaseException.__getattribute__"))) (qh_NoBoxes : PySem.W.findIn K (.ref Cc_NoBoxes) "__getattr__" = some none) (qd_NoBoxes : PySem.W.hasDictIn K Cc_NoBoxes = true) (qa_NoBoxes : PySem.W.findIn K (.ref Cc_NoBoxes) "__class__" = some (some (.builtin "object.__class__"))) (qm_NoBoxes : PySem.W.mroIn K Cc_NoBoxes (.type "object") = some true)
    (qx_NoBoxes : PySem.W.excIn K Cc_NoBoxes veMro "ValueError.__new__" = true)
    (qk_NoWeights : PySem.W.keepIn K (.ref Cc_NoWeights) = true) (qb_NoWeights : PySem.W.subIn K (.ref Cc_NoWeights) (.type "BaseException") = some true) (qs_NoWeights : PySem.W.subIn K (.ref Cc_NoWeights) (.ref Cc_NoWeights) = some true) (qv_NoWeights : PySem.W.subIn K (.ref Cc_NoWeights) (.type "ValueError") = some true) (qg_NoWeights : PySem.W.findIn K (.ref Cc_NoWeights) "__getattribute__" = some (some (.builtin "BaseException.__getattribute__"))) (qh_NoWeights : PySem.W.findIn K (.ref Cc_NoWeights) "__getattr__" = some none) (qd_NoWeights : PySem.W.hasDictIn K Cc_NoWeights = true) (qa_NoWeights : PySem.W.findIn K (.ref Cc_NoWeights) "__class__" = some (some (.builtin "object.__class__"))) (qm_NoWeights : PySem.W.mroIn K Cc_NoWeights (.type "object") = some true)
    (qx_NoWeights : PySem.W.excIn K Cc_NoWeights veMro "ValueError.__new__" = true)
    (qk_NoPlan : PySem.W.keepIn K (.ref Cc_NoPlan) = true) (qb_NoPlan : PySem.W.subIn K (.ref Cc_NoPlan) (.type "BaseException") = some true) (qs_NoPlan : PySem.W.subIn K (.ref Cc_NoPlan) (.ref Cc_NoPlan) = some true) (qv_NoPlan : PySem.W.subIn K (.ref Cc_NoPlan) (.type "ValueError") = some true) (qg_NoPlan : PySem.W.findIn K (.ref Cc_NoPlan) "__getattribute__" = some (some (.builtin "BaseException.__getattribute__"))) (qh_NoPlan : PySem.W.findIn K (.ref Cc_NoPlan) "__getattr__" = some none) (qd_NoPlan : PySem.W.hasDictIn K Cc_NoPlan = true) (qa_NoPlan : PySem.W.findIn K (.ref Cc_NoPlan) "__class__" = some (some (.builtin "object.__class__"))) (qm_NoPlan : PySem.W.mroIn K Cc_NoPlan (.type "object") = some true)
    (ox_NoPlan : K.lookup Cc_NoPlan = some (excClassObj nm_NoPlan q_NoPlan Cc_NoPlan N_NoPlan bs_NoPlan bm_NoPlan true sn_NoPlan sub_NoPlan ab_NoPlan col_NoPlan dd_NoPlan k0_NoPlan k1_NoPlan k2_NoPlan k3_NoPlan k5_NoPlan "ValueError.__new__")) (or_NoPlan : PySem.HandSPX.refsVE bm_NoPlan = true) (sa_NoPlan : PySem.W.findIn K (.ref Cc_NoPlan) "__setattr__" = some (some (.builtin "object.__setattr__")))
    (iC_NoPlan : PySem.W.findIn K (.ref Cc_NoPlan) "__init__" = some (some (.ref fI_NoPlan))) (li_NoPlan : K.lookup fI_NoPlan = some ⟨oci_NoPlan, odi_NoPlan, .func (PySem.W.fnOf "__init__" "NoPlan.__init__" (defArgs si_NoPlan) (defBody si_NoPlan) (defScope si_NoPlan) .none kVi_NoPlan dci_NoPlan pmi_NoPlan ani_NoPlan cdi_NoPlan cti_NoPlan), sli_NoPlan⟩) (ci_NoPlan : PySem.W.codeIn K cdi_NoPlan "NoPlan.__init__" = true) (ki_NoPlan : PySem.W.keepIn K (.ref fI_NoPlan) = true) (tI_NoPlan : PySem.W.typeIn K (.ref fI_NoPlan) = some (.type "function"))
    (tB_NoPlan : PySem.W.typeIn K (.ref Cc_HideError) = some mc_NoPlan) (sG_NoPlan : PySem.W.specialIn K (.ref Cc_HideError) "__getattribute__" = some (some (.builtin "type.__getattribute__"))) (rB_NoPlan : PySem.W.readsIn K Cc_HideError mc_NoPlan = true) (vV_NoPlan : PySem.W.findCls K (.ref Cc_HideError) mc_NoPlan "__init__" = some (.val (.builtin "ValueError.__init__"))) (nf_NoPlan : PySem.W.findIn K (.ref Cc_NoPlan) "at" = some none)
    (qk_NoOrder : PySem.W.keepIn K (.ref Cc_NoOrder) = true) (qb_NoOrder : PySem.W.subIn K (.ref Cc_NoOrder) (.type "BaseException") = some true) (qs_NoOrder : PySem.W.subIn K (.ref Cc_NoOrder) (.ref Cc_NoOrder) = some true) (qv_NoOrder : PySem.W.subIn K (.ref Cc_NoOrder) (.type "ValueError") = some true) (qg_NoOrder : PySem.W.findIn K (.ref Cc_NoOrder) "__getattribute__" = some (some (.builtin "BaseException.__getattribute__"))) (qh_NoOrder : PySem.W.findIn K (.ref Cc_NoOrder) "__getattr__" = some none) (qd_NoOrder : PySem.W.hasDictIn K Cc_NoOrder = true) (qa_NoOrder : PySem.W.findIn K (.ref Cc_NoOrder) "__class__" = some (some (.builtin "object.__class__"))) (qm_NoOrder : PySem.W.mroIn K Cc_NoOrder (.type "object") = some true)
    (qx_NoOrder : PySem.W.excIn K Cc_NoOrder veMro "ValueError.__new__" = true)
    (qp_NoNumber_HideError : PySem.W.subIn K (.ref Cc_NoNumber) (.ref Cc_HideError) = some true)
    (qp_NoBoxes_HideError : PySem.W.subIn K (.ref Cc_NoBoxes) (.ref Cc_HideError) = some true)
    (qp_NoWeights_HideError : PySem.W.subIn K (.ref Cc_NoWeights) (.ref Cc_HideError) = some true)
    (qp_NoPlan_HideError : PySem.W.subIn K (.ref Cc_NoPlan) (.ref Cc_HideError) = some true)
    (qp_NoOrder_HideError : PySem.W.subIn K (.ref Cc_NoOrder) (.ref Cc_HideError) = some true)
    (qp_NoNumber_NoBoxes : PySem.W.subIn K (.ref Cc_NoNumber) (.ref Cc_NoBoxes) = some false)
    (qp_NoNumber_NoBudget : PySem.W.subIn K (.ref Cc_NoNumber) (.ref Cc_NoBudget) = some false)
    (qp_NoNumber_NoWeights : PySem.W.subIn K (.ref Cc_NoNumber) (.ref Cc_NoWeights) = some false)
    (qp_NoNumber_NoPlan : PySem.W.subIn K (.ref Cc_NoNumber) (.ref Cc_NoPlan) = some false)
    (qp_NoNumber_NoOrder : PySem.W.subIn K (.ref Cc_NoNumber) (.ref Cc_NoOrder) = some false)
    (qp_NoNumber_NoKind : PySem.W.subIn K (.ref Cc_NoNumber) (.ref Cc_NoKind) = some false)
    (qp_NoNumber_NoName : PySem.W.subIn K (.ref Cc_NoNumber) (.ref Cc_NoName) = some false)
    (qp_NoNumber_NoPlay : PySem.W.subIn K (.ref Cc_NoNumber) (.ref Cc_NoPlay) = some false)
    (qp_NoNumber_NoRoad : PySem.W.subIn K (.ref Cc_NoNumber) (.ref Cc_NoRoad) = some false)
    (qp_NoNumber_NoRow : PySem.W.subIn K (.ref Cc_NoNumber) (.ref Cc_NoRow) = some false)
    (qp_NoNumber_NoTable : PySem.W.subIn K (.ref Cc_NoNumber) (.ref Cc_NoTable) = some false)
    (qp_NoNumber_NoPaper : PySem.W.subIn K (.ref Cc_NoNumber) (.ref Cc_NoPaper) = some false)
    (qp_NoNumber_NoText : PySem.W.subIn K (.ref Cc_NoNumber) (.ref Cc_NoText) = some false)
    (qp_NoNumber_NoTree : PySem.W.subIn K (.ref Cc_NoNumber) (.ref Cc_NoTree) = some false)
    (qp_NoNumber_NoTurns : PySem.W.subIn K (.ref Cc_NoNumber) (.ref Cc_NoTurns) = some false)
    (qp_NoNumber_NoWeb : PySem.W.subIn K (.ref Cc_NoNumber) (.ref Cc_NoWeb) = some false)
    (qp_NoNumber_TooGreat : PySem.W.subIn K (.ref Cc_NoNumber) (.ref Cc_TooGreat) = some false)
    (qp_NoBoxes_NoBudget : PySem.W.subIn K (.ref Cc_NoBoxes) (.ref Cc_NoBudget) = some false)
    (qp_NoBoxes_NoWeights : PySem.W.subIn K (.ref Cc_NoBoxes) (.ref Cc_NoWeights) = some false)
    (qp_NoBoxes_NoPlan : PySem.W.subIn K (.ref Cc_NoBoxes) (.ref Cc_NoPlan) = some false)
    (qp_NoBoxes_NoOrder : PySem.W.subIn K (.ref Cc_NoBoxes) (.ref Cc_NoOrder) = some false)
    (qp_NoBoxes_NoKind : PySem.W.subIn K (.ref Cc_NoBoxes) (.ref Cc_NoKind) = some false)
    (qp_NoBoxes_NoName : PySem.W.subIn K (.ref Cc_NoBoxes) (.ref Cc_NoName) = some false)
    (qp_NoBoxes_NoNumber : PySem.W.subIn K (.ref Cc_NoBoxes) (.ref Cc_NoNumber) = some false)
    (qp_NoBoxes_NoPlay : PySem.W.subIn K (.ref Cc_NoBoxes) (.ref Cc_NoPlay) = some false)
    (qp_NoBoxes_NoRoad : PySem.W.subIn K (.ref Cc_NoBoxes) (.ref Cc_NoRoad) = some false)
    (qp_NoBoxes_NoRow : PySem.W.subIn K (.ref Cc_NoBoxes) (.ref Cc_NoRow) = some false)
    (qp_NoBoxes_NoTable : PySem.W.subIn K (.ref Cc_NoBoxes) (.ref Cc_NoTable) = some false)
    (qp_NoBoxes_NoPaper : PySem.W.subIn K (.ref Cc_NoBoxes) (.ref Cc_NoPaper) = some false)
    (qp_NoBoxes_NoText : PySem.W.subIn K (.ref Cc_NoBoxes) (.ref Cc_NoText) = some false)
    (qp_NoBoxes_NoTree : PySem.W.subIn K (.ref Cc_NoBoxes) (.ref Cc_NoTree) = some false)
    (qp_NoBoxes_NoTurns : PySem.W.subIn K (.ref Cc_NoBoxes) (.ref Cc_NoTurns) = some false)
    (qp_NoBoxes_NoWeb : PySem.W.subIn K (.ref Cc_NoBoxes) (.ref Cc_NoWeb) = some false)
    (qp_NoBoxes_TooGreat : PySem.W.subIn K (.ref Cc_NoBoxes) (.ref Cc_TooGreat) = some false)
    (qp_NoWeights_NoBoxes : PySem.W.subIn K (.ref Cc_NoWeights) (.ref Cc_NoBoxes) = some false)
    (qp_NoWeights_NoBudget : PySem.W.subIn K (.ref Cc_NoWeights) (.ref Cc_NoBudget) = some false)
    (qp_NoWeights_NoPlan : PySem.W.subIn K (.ref Cc_NoWeights) (.ref Cc_NoPlan) = some false)
    (qp_NoWeights_NoOrder : PySem.W.subIn K (.ref Cc_NoWeights) (.ref Cc_NoOrder) = some false)
    (qp_NoWeights_NoKind : PySem.W.subIn K (.ref Cc_NoWeights) (.ref Cc_NoKind) = some false)
    (qp_NoWeights_NoName : PySem.W.subIn K (.ref Cc_NoWeights) (.ref Cc_NoName) = some false)
    (qp_NoWeights_NoNumber : PySem.W.subIn K (.ref Cc_NoWeights) (.ref Cc_NoNumber) = some false)
    (qp_NoWeights_NoPlay : PySem.W.subIn K (.ref Cc_NoWeights) (.ref Cc_NoPlay) = some false)
    (qp_NoWeights_NoRoad : PySem.W.subIn K (.ref Cc_NoWeights) (.ref Cc_NoRoad) = some false)
    (qp_NoWeights_NoRow : PySem.W.subIn K (.ref Cc_NoWeights) (.ref Cc_NoRow) = some false)
    (qp_NoWeights_NoTable : PySem.W.subIn K (.ref Cc_NoWeights) (.ref Cc_NoTable) = some false)
    (qp_NoWeights_NoPaper : PySem.W.subIn K (.ref Cc_NoWeights) (.ref Cc_NoPaper) = some false)
    (qp_NoWeights_NoText : PySem.W.subIn K (.ref Cc_NoWeights) (.ref Cc_NoText) = some false)
    (qp_NoWeights_NoTree : PySem.W.subIn K (.ref Cc_NoWeights) (.ref Cc_NoTree) = some false)
    (qp_NoWeights_NoTurns : PySem.W.subIn K (.ref Cc_NoWeights) (.ref Cc_NoTurns) = some false)
    (qp_NoWeights_NoWeb : PySem.W.subIn K (.ref Cc_NoWeights) (.ref Cc_NoWeb) = some false)
    (qp_NoWeights_TooGreat : PySem.W.subIn K (.ref Cc_NoWeights) (.ref Cc_TooGreat) = some false)
    (qp_NoPlan_NoBoxes : PySem.W.subIn K (.ref Cc_NoPlan) (.ref Cc_NoBoxes) = some false)
    (qp_NoPlan_NoBudget : PySem.W.subIn K (.ref Cc_NoPlan) (.ref Cc_NoBudget) = some false)
    (qp_NoPlan_NoWeights : PySem.W.subIn K (.ref Cc_NoPlan) (.ref Cc_NoWeights) = some false)
    (qp_NoPlan_NoOrder : PySem.W.subIn K (.ref Cc_NoPlan) (.ref Cc_NoOrder) = some false)
    (qp_NoPlan_NoKind : PySem.W.subIn K (.ref Cc_NoPlan) (.ref Cc_NoKind) = some false)
    (qp_NoPlan_NoName : PySem.W.subIn K (.ref Cc_NoPlan) (.ref Cc_NoName) = some false)
    (qp_NoPlan_NoNumber : PySem.W.subIn K (.ref Cc_NoPlan) (.ref Cc_NoNumber) = some false)
    (qp_NoPlan_NoPlay : PySem.W.subIn K (.ref Cc_NoPlan) (.ref Cc_NoPlay) = some false)
    (qp_NoPlan_NoRoad : PySem.W.subIn K (.ref Cc_NoPlan) (.ref Cc_NoRoad) = some false)
    (qp_NoPlan_NoRow : PySem.W.subIn K (.ref Cc_NoPlan) (.ref Cc_NoRow) = some false)
    (qp_NoPlan_NoTable : PySem.W.subIn K (.ref Cc_NoPlan) (.ref Cc_NoTable) = some false)
    (qp_NoPlan_NoPaper : PySem.W.subIn K (.ref Cc_NoPlan) (.ref Cc_NoPaper) = some false)
    (qp_NoPlan_NoText : PySem.W.subIn K (.ref Cc_NoPlan) (.ref Cc_NoText) = some false)
    (qp_NoPlan_NoTree : PySem.W.subIn K (.ref Cc_NoPlan) (.ref Cc_NoTree) = some false)
    (qp_NoPlan_NoTurns : PySem.W.subIn K (.ref Cc_NoPlan) (.ref Cc_NoTurns) = some false)
    (qp_NoPlan_NoWeb : PySem.W.subIn K (.ref Cc_NoPlan) (.ref Cc_NoWeb) = some false)
    (qp_NoPlan_TooGreat : PySem.W.subIn K (.ref Cc_NoPlan) (.ref Cc_TooGreat) = some false)
    (qp_NoOrder_NoBoxes : PySem.W.subIn K (.ref Cc_NoOrder) (.ref Cc_NoBoxes) = some false)
    (qp_NoOrder_NoBudget : PySem.W.subIn K (.ref Cc_NoOrder) (.ref Cc_NoBudget) = some false)
    (qp_NoOrder_NoWeights : PySem.W.subIn K (.ref Cc_NoOrder) (.ref Cc_NoWeights) = some false)
    (qp_NoOrder_NoPlan : PySem.W.subIn K (.ref Cc_NoOrder) (.ref Cc_NoPlan) = some false)
    (qp_NoOrder_NoKind : PySem.W.subIn K (.ref Cc_NoOrder) (.ref Cc_NoKind) = some false)
    (qp_NoOrder_NoName : PySem.W.subIn K (.ref Cc_NoOrder) (.ref Cc_NoName) = some false)
    (qp_NoOrder_NoNumber : PySem.W.subIn K (.ref Cc_NoOrder) (.ref Cc_NoNumber) = some false)
    (qp_NoOrder_NoPlay : PySem.W.subIn K (.ref Cc_NoOrder) (.ref Cc_NoPlay) = some false)
    (qp_NoOrder_NoRoad : PySem.W.subIn K (.ref Cc_NoOrder) (.ref Cc_NoRoad) = some false)
    (qp_NoOrder_NoRow : PySem.W.subIn K (.ref Cc_NoOrder) (.ref Cc_NoRow) = some false)
    (qp_NoOrder_NoTable : PySem.W.subIn K (.ref Cc_NoOrder) (.ref Cc_NoTable) = some false)
    (qp_NoOrder_NoPaper : PySem.W.subIn K (.ref Cc_NoOrder) (.ref Cc_NoPaper) = some false)
    (qp_NoOrder_NoText : PySem.W.subIn K (.ref Cc_NoOrder) (.ref Cc_NoText) = some false)
    (qp_NoOrder_NoTree : PySem.W.subIn K (.ref Cc_NoOrder) (.ref Cc_NoTree) = some false)
    (qp_NoOrder_NoTurns : PySem.W.subIn K (.ref Cc_NoOrder) (.ref Cc_NoTurns) = some false)
    (qp_NoOrder_NoWeb : PySem.W.subIn K (.ref Cc_NoOrder) (.ref Cc_NoWeb) = some false)
    (qp_NoOrder_TooGreat : PySem.W.subIn K (.ref Cc_NoOrder) (.ref Cc_TooGreat) = some false)
    (qu_HideError : PySem.W.subIn K (.ref Cc_HideError) (.type "BaseException") = some true) :
    ∃ fd : FuncData, (∀ (s : Shared) (v : Value), BindsTo s fd ⟨[v], []⟩ [("_law_script", v)]) ∧ ∀ base : Heap, K.In base → base.Ns mainGlobals mg → FnOk P w K mg base (L2.CX P w) 10 fa fd ["_law_script"] (spLaw K) := by
  have e := hfa.symm.trans (PySem.W.mg_of X G a34)
  cases e
  have k_NoNumber : Cl K mg "NoNumber" Cc_NoNumber := ⟨qn_NoNumber, PySem.W.mg_of X G qn_NoNumber, qi_NoNumber, qt_NoNumber⟩
  have k_NoBoxes : Cl K mg "NoBoxes" Cc_NoBoxes := ⟨qn_NoBoxes, PySem.W.mg_of X G qn_NoBoxes, qi_NoBoxes, qt_NoBoxes⟩
  have k_NoWeights : Cl K mg "NoWeights" Cc_NoWeights := ⟨qn_NoWeights, PySem.W.mg_of X G qn_NoWeights, qi_NoWeights, qt_NoWeights⟩
  have k_NoPlan : Cl K mg "NoPlan" Cc_NoPlan := ⟨qn_NoPlan, PySem.W.mg_of X G qn_NoPlan, qi_NoPlan, qt_NoPlan⟩
  have k_HideError : Cl K mg "HideError" Cc_HideError := ⟨qn_HideError, PySem.W.mg_of X G qn_HideError, qi_HideError, qt_HideError⟩
  have k_NoOrder : Cl K mg "NoOrder" Cc_NoOrder := ⟨qn_NoOrder, PySem.W.mg_of X G qn_NoOrder, qi_NoOrder, qt_NoOrder⟩
  have k_NoBudget : Cl K mg "NoBudget" Cc_NoBudget := ⟨qn_NoBudget, PySem.W.mg_of X G qn_NoBudget, qi_NoBudget, qt_NoBudget⟩
  have k_NoPlay : Cl K mg "NoPlay" Cc_NoPlay := ⟨qn_NoPlay, PySem.W.mg_of X G qn_NoPlay, qi_NoPlay, qt_NoPlay⟩
  have k_NoName : Cl K mg "NoName" Cc_NoName := ⟨qn_NoName, PySem.W.mg_of X G qn_NoName, qi_NoName, qt_NoName⟩
  have k_NoKind : Cl K mg "NoKind" Cc_NoKind := ⟨qn_NoKind, PySem.W.mg_of X G qn_NoKind, qi_NoKind, qt_NoKind⟩
  have k_NoTable : Cl K mg "NoTable" Cc_NoTable := ⟨qn_NoTable, PySem.W.mg_of X G qn_NoTable, qi_NoTable, qt_NoTable⟩
  have k_NoRow : Cl K mg "NoRow" Cc_NoRow := ⟨qn_NoRow, PySem.W.mg_of X G qn_NoRow, qi_NoRow, qt_NoRow⟩
  have k_NoRoad : Cl K mg "NoRoad" Cc_NoRoad := ⟨qn_NoRoad, PySem.W.mg_of X G qn_NoRoad, qi_NoRoad, qt_NoRoad⟩
  have k_NoTree : Cl K mg "NoTree" Cc_NoTree := ⟨qn_NoTree, PySem.W.mg_of X G qn_NoTree, qi_NoTree, qt_NoTree⟩
  have k_NoText : Cl K mg "NoText" Cc_NoText := ⟨qn_NoText, PySem.W.mg_of X G qn_NoText, qi_NoText, qt_NoText⟩
  have k_NoPaper : Cl K mg "NoPaper" Cc_NoPaper := ⟨qn_NoPaper, PySem.W.mg_of X G qn_NoPaper, qi_NoPaper, qt_NoPaper⟩
  have k_TooGreat : Cl K mg "TooGreat" Cc_TooGreat := ⟨qn_TooGreat, PySem.W.mg_of X G qn_TooGreat, qi_TooGreat, qt_TooGreat⟩
  have k_NoWeb : Cl K mg "NoWeb" Cc_NoWeb := ⟨qn_NoWeb, PySem.W.mg_of X G qn_NoWeb, qi_NoWeb, qt_NoWeb⟩
  have k_NoTurns : Cl K mg "NoTurns" Cc_NoTurns := ⟨qn_NoTurns, PySem.W.mg_of X G qn_NoTurns, qi_NoTurns, qt_NoTurns⟩
  have r_NoNumber : Rc K mg "NoNumber" Cc_NoNumber := ⟨k_NoNumber, qk_NoNumber, qb_NoNumber, qs_NoNumber, ⟨qg_NoNumber, qh_NoNumber, qb_NoNumber, qd_NoNumber, qa_NoNumber, on1, ot1, qm_NoNumber⟩⟩
  have r_NoBoxes : Rc K mg "NoBoxes" Cc_NoBoxes := ⟨k_NoBoxes, qk_NoBoxes, qb_NoBoxes, qs_NoBoxes, ⟨qg_NoBoxes, qh_NoBoxes, qb_NoBoxes, qd_NoBoxes, qa_NoBoxes, on1, ot1, qm_NoBoxes⟩⟩
  have r_NoWeights : Rc K mg "NoWeights" Cc_NoWeights := ⟨k_NoWeights, qk_NoWeights, qb_NoWeights, qs_NoWeights, ⟨qg_NoWeights, qh_NoWeights, qb_NoWeights, qd_NoWeights, qa_NoWeights, on1, ot1, qm_NoWeights⟩⟩
  have r_NoPlan : Rc K mg "NoPlan" Cc_NoPlan := ⟨k_NoPlan, qk_NoPlan, qb_NoPlan, qs_NoPlan, ⟨qg_NoPlan, qh_NoPlan, qb_NoPlan, qd_NoPlan, qa_NoPlan, on1, ot1, qm_NoPlan⟩⟩
  have r_NoOrder : Rc K mg "NoOrder" Cc_NoOrder := ⟨k_NoOrder, qk_NoOrder, qb_NoOrder, qs_NoOrder, ⟨qg_NoOrder, qh_NoOrder, qb_NoOrder, qd_NoOrder, qa_NoOrder, on1, ot1, qm_NoOrder⟩⟩
  have ec : ∀ c ∈ raisedL, ∀ C, ClsAt K c C → ExcC K C := (all_c (ec_of r_NoNumber) (all_c (ec_of r_NoBoxes) (all_c (ec_of r_NoWeights) (all_c (ec_of r_NoPlan) (all_c (ec_of r_NoOrder) all_n)))))
  exact ⟨PySem.W.fnOf "law" "law" (defArgs s_law) (defBody s_law) (defScope s_law) .none kV34 dc34 pm34 an34 cd34 ct34, fun s v => .of_eq rfl, fun base _ _ => (ok_law (P := P) (w := w) (base := base) {
    a_divisor := f0, d_divisor := _, F_divisor := fun_mk l0 c0 k0, g_divisor := PySem.W.mg_of X G a0, b_divisor := (fun_mk (st := s_divisor) l0 c0 k0).binds (fun _ _ _ _ _ _ us hl => match us, hl with | [_, _], _ => rfl),
    a_ratio := f1, d_ratio := _, F_ratio := fun_mk l1 c1 k1, g_ratio := PySem.W.mg_of X G a1, b_ratio := (fun_mk (st := s_ratio) l1 c1 k1).binds (fun _ _ _ _ _ _ us hl => match us, hl with | [_, _], _ => rfl),
    a_plus := f2, d_plus := _, F_plus := fun_mk l2 c2 k2, g_plus := PySem.W.mg_of X G a2, b_plus := (fun_mk (st := s_plus) l2 c2 k2).binds (fun _ _ _ _ _ _ us hl => match us, hl with | [_, _], _ => rfl),
    a_minus := f3, d_minus := _, F_minus := fun_mk l3 c3 k3, g_minus := PySem.W.mg_of X G a3, b_minus := (fun_mk (st := s_minus) l3 c3 k3).binds (fun _ _ _ _ _ _ us hl => match us, hl with | [_, _], _ => rfl),
    a_times := f4, d_times := _, F_times := fun_mk l4 c4 k4, g_times := PySem.W.mg_of X G a4, b_times := (fun_mk (st := s_times) l4 c4 k4).binds (fun _ _ _ _ _ _ us hl => match us, hl with | [_, _], _ => rfl),
    a_below := f5, d_below := _, F_below := fun_mk l5 c5 k5, g_below := PySem.W.mg_of X G a5, b_below := (fun_mk (st := s_below) l5 c5 k5).binds (fun _ _ _ _ _ _ us hl => match us, hl with | [_, _], _ => rfl),
    a_is_number := f6, d_is_number := _, F_is_number := fun_mk l6 c6 k6, g_is_number := PySem.W.mg_of X G a6, b_is_number := (fun_mk (st := s_is_number) l6 c6 k6).binds (fun _ _ _ _ _ _ us hl => match us, hl with | [_], _ => rfl),
    a_are_numbers := f7, d_are_numbers := _, F_are_numbers := fun_mk l7 c7 k7, g_are_numbers := PySem.W.mg_of X G a7, b_are_numbers := (fun_mk (st := s_are_numbers) l7 c7 k7).binds (fun _ _ _ _ _ _ us hl => match us, hl with | [_, _], _ => rfl),
    a_are_weights := f8, d_are_weights := _, F_are_weights := fun_mk l8 c8 k8, g_are_weights := PySem.W.mg_of X G a8, b_are_weights := (fun_mk (st := s_are_weights) l8 c8 k8).binds (fun _ _ _ _ _ _ us hl => match us, hl with | [_, _], _ => rfl),
    a_is_box := f9, d_is_box := _, F_is_box := fun_mk l9 c9 k9, g_is_box := PySem.W.mg_of X G a9, b_is_box := (fun_mk (st := s_is_box) l9 c9 k9).binds (fun _ _ _ _ _ _ us hl => match us, hl with | [_], _ => rfl),
    a_must_be_boxes := f10, d_must_be_boxes := _, F_must_be_boxes := fun_mk l10 c10 k10, g_must_be_boxes := PySem.W.mg_of X G a10, b_must_be_boxes := (fun_mk (st := s_must_be_boxes) l10 c10 k10).binds (fun _ _ _ _ _ _ us hl => match us, hl with | [_], _ => rfl),
    a_is_plan := f11, d_is_plan := _, F_is_plan := fun_mk l11 c11 k11, g_is_plan := PySem.W.mg_of X G a11, b_is_plan := (fun_mk (st := s_is_plan) l11 c11 k11).binds (fun _ _ _ _ _ _ us hl => match us, hl with | [_, _], _ => rfl),
    a_missed := f12, d_missed := _, F_missed := fun_mk l12 c12 k12, g_missed := PySem.W.mg_of X G a12, b_missed := (fun_mk (st := s_missed) l12 c12 k12).binds (fun _ _ _ _ _ _ us hl => match us, hl with | [_, _], _ => rfl),
    a_mark := f13, d_mark := _, F_mark := fun_mk l13 c13 k13, g_mark := PySem.W.mg_of X G a13, b_mark := (fun_mk (st := s_mark) l13 c13 k13).binds (fun _ _ _ _ _ _ us hl => match us, hl with | [_, _], _ => rfl),
    a_must_be_asked := f14, d_must_be_asked := _, F_must_be_asked := fun_mk l14 c14 k14, g_must_be_asked := PySem.W.mg_of X G a14, b_must_be_asked := (fun_mk (st := s_must_be_asked) l14 c14 k14).binds (fun _ _ _ _ _ _ us hl => match us, hl with | [_, _, _], _ => rfl),
    a_must_be_order := f15, d_must_be_order := _, F_must_be_order := fun_mk l15 c15 k15, g_must_be_order := PySem.W.mg_of X G a15, b_must_be_order := (fun_mk (st := s_must_be_order) l15 c15 k15).binds (fun _ _ _ _ _ _ us hl => match us, hl with | [_, _, _], _ => rfl),
    a_chances := f16, d_chances := _, F_chances := fun_mk l16 c16 k16, g_chances := PySem.W.mg_of X G a16, b_chances := (fun_mk (st := s_chances) l16 c16 k16).binds (fun _ _ _ _ _ _ us hl => match us, hl with | [_, _, _], _ => rfl),
    a_awaited := f17, d_awaited := _, F_awaited := fun_mk l17 c17 k17, g_awaited := PySem.W.mg_of X G a17, b_awaited := (fun_mk (st := s_awaited) l17 c17 k17).binds (fun _ _ _ _ _ _ us hl => match us, hl with | [_, _, _, _], _ => rfl),
    a_ahead := f18, d_ahead := _, F_ahead := fun_mk l18 c18 k18, g_ahead := PySem.W.mg_of X G a18, b_ahead := (fun_mk (st := s_ahead) l18 c18 k18).binds (fun _ _ _ _ _ _ us hl => match us, hl with | [_, _, _], _ => rfl),
    a_is_sorted := f19, d_is_sorted := _, F_is_sorted := fun_mk l19 c19 k19, g_is_sorted := PySem.W.mg_of X G a19, b_is_sorted := (fun_mk (st := s_is_sorted) l19 c19 k19).binds (fun _ _ _ _ _ _ us hl => match us, hl with | [_, _, _, _], _ => rfl),
    a_best_order := f20, d_best_order := _, F_best_order := fun_mk l20 c20 k20, g_best_order := PySem.W.mg_of X G a20, b_best_order := (fun_mk (st := s_best_order) l20 c20 k20).binds (fun _ _ _ _ _ _ us hl => match us, hl with | [_, _, _], _ => rfl),
    a__law_purse := f21, d__law_purse := _, F__law_purse := fun_mk l21 c21 k21, g__law_purse := PySem.W.mg_of X G a21, b__law_purse := (fun_mk (st := s__law_purse) l21 c21 k21).binds (fun _ _ _ _ _ _ us hl => match us, hl with | [_], _ => rfl),
    a__law_draw := f22, d__law_draw := _, F__law_draw := fun_mk l22 c22 k22, g__law_draw := PySem.W.mg_of X G a22, b__law_draw := (fun_mk (st := s__law_draw) l22 c22 k22).binds (fun _ _ _ _ _ _ us hl => match us, hl with | [_, _], _ => rfl),
    a__law_boxes := f23, d__law_boxes := _, F__law_boxes := fun_mk l23 c23 k23, g__law_boxes := PySem.W.mg_of X G a23, b__law_boxes := (fun_mk (st := s__law_boxes) l23 c23 k23).binds (fun _ _ _ _ _ _ us hl => match us, hl with | [_, _], _ => rfl),
    a__law_weights := f24, d__law_weights := _, F__law_weights := fun_mk l24 c24 k24, g__law_weights := PySem.W.mg_of X G a24, b__law_weights := (fun_mk (st := s__law_weights) l24 c24 k24).binds (fun _ _ _ _ _ _ us hl => match us, hl with | [_, _], _ => rfl),
    a__law_plan := f25, d__law_plan := _, F__law_plan := fun_mk l25 c25 k25, g__law_plan := PySem.W.mg_of X G a25, b__law_plan := (fun_mk (st := s__law_plan) l25 c25 k25).binds (fun _ _ _ _ _ _ us hl => match us, hl with | [_, _], _ => rfl),
    a__law_order := f26, d__law_order := _, F__law_order := fun_mk l26 c26 k26, g__law_order := PySem.W.mg_of X G a26, b__law_order := (fun_mk (st := s__law_order) l26 c26 k26).binds (fun _ _ _ _ _ _ us hl => match us, hl with | [_, _], _ => rfl),
    a__law_no_boxes := f27, d__law_no_boxes := _, F__law_no_boxes := fun_mk l27 c27 k27, g__law_no_boxes := PySem.W.mg_of X G a27, b__law_no_boxes := (fun_mk (st := s__law_no_boxes) l27 c27 k27).binds (fun _ _ _ _ _ _ us hl => match us, hl with | [_, _], _ => rfl),
    a__law_no_numbers := f28, d__law_no_numbers := _, F__law_no_numbers := fun_mk l28 c28 k28, g__law_no_numbers := PySem.W.mg_of X G a28, b__law_no_numbers := (fun_mk (st := s__law_no_numbers) l28 c28 k28).binds (fun _ _ _ _ _ _ us hl => match us, hl with | [_, _, _], _ => rfl),
    a__law_marks := f29, d__law_marks := _, F__law_marks := fun_mk l29 c29 k29, g__law_marks := PySem.W.mg_of X G a29, b__law_marks := (fun_mk (st := s__law_marks) l29 c29 k29).binds (fun _ _ _ _ _ _ us hl => match us, hl with | [_], _ => rfl),
    a__law_no_order := f30, d__law_no_order := _, F__law_no_order := fun_mk l30 c30 k30, g__law_no_order := PySem.W.mg_of X G a30, b__law_no_order := (fun_mk (st := s__law_no_order) l30 c30 k30).binds (fun _ _ _ _ _ _ us hl => match us, hl with | [_, _, _], _ => rfl),
    a__law_asked := f31, d__law_asked := _, F__law_asked := fun_mk l31 c31 k31, g__law_asked := PySem.W.mg_of X G a31, b__law_asked := (fun_mk (st := s__law_asked) l31 c31 k31).binds (fun _ _ _ _ _ _ us hl => match us, hl with | [_, _, _, _, _], _ => rfl),
    a__law_refused := f32, d__law_refused := _, F__law_refused := fun_mk l32 c32 k32, g__law_refused := PySem.W.mg_of X G a32, b__law_refused := (fun_mk (st := s__law_refused) l32 c32 k32).binds (fun _ _ _ _ _ _ us hl => match us, hl with | [_, _, _, _, _], _ => rfl),
    a__law_choices := f33, d__law_choices := _, F__law_choices := fun_mk l33 c33 k33, g__law_choices := PySem.W.mg_of X G a33, b__law_choices := (fun_mk (st := s__law_choices) l33 c33 k33).binds (fun _ _ _ _ _ _ us hl => match us, hl with | [_], _ => rfl),
    a_law := fa, d_law := _, F_law := fun_mk l34 c34 k34, g_law := PySem.W.mg_of X G a34, b_law := (fun_mk (st := s_law) l34 c34 k34).binds (fun _ _ _ _ _ _ us hl => match us, hl with | [_], _ => rfl),
    z_abs := PySem.W.mg_none_of X G z_abs,
    z_int := PySem.W.mg_none_of X G z_int,
    z_isinstance := PySem.W.mg_none_of X G z_isinstance,
    z_bool := PySem.W.mg_none_of X G z_bool,
    z_list := PySem.W.mg_none_of X G z_list,
    z_len := PySem.W.mg_none_of X G z_len,
    z_min := PySem.W.mg_none_of X G z_min,
    z_max := PySem.W.mg_none_of X G z_max,
    z_tuple := PySem.W.mg_none_of X G z_tuple,
    z_range := PySem.W.mg_none_of X G z_range,
    z_sum := PySem.W.mg_none_of X G z_sum,
    z_ValueError := PySem.W.mg_none_of X G z_ValueError,
    t_MOST_COST := t_MOST_COST, c_MOST_COST := PySem.W.mg_of X G c_MOST_COST,
    t_MOST_OF := t_MOST_OF, c_MOST_OF := PySem.W.mg_of X G c_MOST_OF,
    t_MOST_BOXES := t_MOST_BOXES, c_MOST_BOXES := PySem.W.mg_of X G c_MOST_BOXES,
    t_MOST_BUDGET := t_MOST_BUDGET, c_MOST_BUDGET := PySem.W.mg_of X G c_MOST_BUDGET,
    C_NoNumber := Cc_NoNumber, k_NoNumber := k_NoNumber,
    C_NoBoxes := Cc_NoBoxes, k_NoBoxes := k_NoBoxes,
    C_NoWeights := Cc_NoWeights, k_NoWeights := k_NoWeights,
    C_NoPlan := Cc_NoPlan, k_NoPlan := k_NoPlan,
    C_HideError := Cc_HideError, k_HideError := k_HideError,
    C_NoOrder := Cc_NoOrder, k_NoOrder := k_NoOrder,
    C_NoBudget := Cc_NoBudget, k_NoBudget := k_NoBudget,
    C_NoPlay := Cc_NoPlay, k_NoPlay := k_NoPlay,
    C_NoName := Cc_NoName, k_NoName := k_NoName,
    C_NoKind := Cc_NoKind, k_NoKind := k_NoKind,
    C_NoTable := Cc_NoTable, k_NoTable := k_NoTable,
    C_NoRow := Cc_NoRow, k_NoRow := k_NoRow,
    C_NoRoad := Cc_NoRoad, k_NoRoad := k_NoRoad,
    C_NoTree := Cc_NoTree, k_NoTree := k_NoTree,
    C_NoText := Cc_NoText, k_NoText := k_NoText,
    C_NoPaper := Cc_NoPaper, k_NoPaper := k_NoPaper,
    C_TooGreat := Cc_TooGreat, k_TooGreat := k_TooGreat,
    C_NoWeb := Cc_NoWeb, k_NoWeb := k_NoWeb,
    C_NoTurns := Cc_NoTurns, k_NoTurns := k_NoTurns,
    r_NoNumber := r_NoNumber,
    x_NoNumber := qx_NoNumber,
    r_NoBoxes := r_NoBoxes,
    x_NoBoxes := qx_NoBoxes,
    r_NoWeights := r_NoWeights,
    x_NoWeights := qx_NoWeights,
    r_NoPlan := r_NoPlan,
    fI_NoPlan := fI_NoPlan, fdI_NoPlan := _, FI_NoPlan := fun_mk li_NoPlan ci_NoPlan ki_NoPlan, bI_NoPlan := (fun_mk (st := si_NoPlan) li_NoPlan ci_NoPlan ki_NoPlan).binds (fun _ _ _ _ _ _ us hl => match us, hl with | [_, _], _ => rfl), T_NoPlan := ⟨⟨_, _, _, _, _, _, _, _, _, _, _, _, _, _, _, ox_NoPlan, or_NoPlan⟩, sa_NoPlan, qb_NoPlan, qt_NoPlan, qk_NoPlan⟩, iC_NoPlan := iC_NoPlan, tI_NoPlan := tI_NoPlan, mc_NoPlan := mc_NoPlan, sG_NoPlan := sG_NoPlan, rB_NoPlan := rB_NoPlan, vV_NoPlan := vV_NoPlan, nf_NoPlan := nf_NoPlan,
    r_NoOrder := r_NoOrder,
    x_NoOrder := qx_NoOrder,
    fc_at := (all_c (fld_of r_NoPlan nf_NoPlan) all_n),
    ct := (all_c (catch_ok r_NoNumber k_HideError qp_NoNumber_HideError qu_HideError) (all_c (catch_ok r_NoBoxes k_HideError qp_NoBoxes_HideError qu_HideError) (all_c (catch_ok r_NoWeights k_HideError qp_NoWeights_HideError qu_HideError) (all_c (catch_ok r_NoPlan k_HideError qp_NoPlan_HideError qu_HideError) (all_c (catch_ok r_NoOrder k_HideError qp_NoOrder_HideError qu_HideError) all_n))))),
    xc := ⟨(all_c (sub_ok r_NoNumber k_NoBoxes qp_NoNumber_NoBoxes) (all_c (sub_ok r_NoNumber k_NoBudget qp_NoNumber_NoBudget) (all_c (sub_ok r_NoNumber k_NoWeights qp_NoNumber_NoWeights) (all_c (sub_ok r_NoNumber k_NoPlan qp_NoNumber_NoPlan) (all_c (sub_ok r_NoNumber k_NoOrder qp_NoNumber_NoOrder) (all_c (sub_ok r_NoNumber k_NoKind qp_NoNumber_NoKind) (all_c (sub_ok r_NoNumber k_NoName qp_NoNumber_NoName) (all_c (sub_ok r_NoNumber k_NoNumber qs_NoNumber) (all_c (sub_ok r_NoNumber k_NoPlay qp_NoNumber_NoPlay) (all_c (sub_ok r_NoNumber k_NoRoad qp_NoNumber_NoRoad) (all_c (sub_ok r_NoNumber k_NoRow qp_NoNumber_NoRow) (all_c (sub_ok r_NoNumber k_NoTable qp_NoNumber_NoTable) (all_c (sub_ok r_NoNumber k_NoPaper qp_NoNumber_NoPaper) (all_c (sub_ok r_NoNumber k_NoText qp_NoNumber_NoText) (all_c (sub_ok r_NoNumber k_NoTree qp_NoNumber_NoTree) (all_c (sub_ok r_NoNumber k_NoTurns qp_NoNumber_NoTurns) (all_c (sub_ok r_NoNumber k_NoWeb qp_NoNumber_NoWeb) (all_c (sub_ok r_NoNumber k_TooGreat qp_NoNumber_TooGreat) (all_c (sub_ok r_NoBoxes k_NoBoxes qs_NoBoxes) (all_c (sub_ok r_NoBoxes k_NoBudget qp_NoBoxes_NoBudget) (all_c (sub_ok r_NoBoxes k_NoWeights qp_NoBoxes_NoWeights) (all_c (sub_ok r_NoBoxes k_NoPlan qp_NoBoxes_NoPlan) (all_c (sub_ok r_NoBoxes k_NoOrder qp_NoBoxes_NoOrder) (all_c (sub_ok r_NoBoxes k_NoKind qp_NoBoxes_NoKind) (all_c (sub_ok r_NoBoxes k_NoName qp_NoBoxes_NoName) (all_c (sub_ok r_NoBoxes k_NoNumber qp_NoBoxes_NoNumber) (all_c (sub_ok r_NoBoxes k_NoPlay qp_NoBoxes_NoPlay) (all_c (sub_ok r_NoBoxes k_NoRoad qp_NoBoxes_NoRoad) (all_c (sub_ok r_NoBoxes k_NoRow qp_NoBoxes_NoRow) (all_c (sub_ok r_NoBoxes k_NoTable qp_NoBoxes_NoTable) (all_c (sub_ok r_NoBoxes k_NoPaper qp_NoBoxes_NoPaper) (all_c (sub_ok r_NoBoxes k_NoText qp_NoBoxes_NoText) (all_c (sub_ok r_NoBoxes k_NoTree qp_NoBoxes_NoTree) (all_c (sub_ok r_NoBoxes k_NoTurns qp_NoBoxes_NoTurns) (all_c (sub_ok r_NoBoxes k_NoWeb qp_NoBoxes_NoWeb) (all_c (sub_ok r_NoBoxes k_TooGreat qp_NoBoxes_TooGreat) (all_c (sub_ok r_NoWeights k_NoBoxes qp_NoWeights_NoBoxes) (all_c (sub_ok r_NoWeights k_NoBudget qp_NoWeights_NoBudget) (all_c (sub_ok r_NoWeights k_NoWeights qs_NoWeights) (all_c (sub_ok r_NoWeights k_NoPlan qp_NoWeights_NoPlan) (all_c (sub_ok r_NoWeights k_NoOrder qp_NoWeights_NoOrder) (all_c (sub_ok r_NoWeights k_NoKind qp_NoWeights_NoKind) (all_c (sub_ok r_NoWeights k_NoName qp_NoWeights_NoName) (all_c (sub_ok r_NoWeights k_NoNumber qp_NoWeights_NoNumber) (all_c (sub_ok r_NoWeights k_NoPlay qp_NoWeights_NoPlay) (all_c (sub_ok r_NoWeights k_NoRoad qp_NoWeights_NoRoad) (all_c (sub_ok r_NoWeights k_NoRow qp_NoWeights_NoRow) (all_c (sub_ok r_NoWeights k_NoTable qp_NoWeights_NoTable) (all_c (sub_ok r_NoWeights k_NoPaper qp_NoWeights_NoPaper) (all_c (sub_ok r_NoWeights k_NoText qp_NoWeights_NoText) (all_c (sub_ok r_NoWeights k_NoTree qp_NoWeights_NoTree) (all_c (sub_ok r_NoWeights k_NoTurns qp_NoWeights_NoTurns) (all_c (sub_ok r_NoWeights k_NoWeb qp_NoWeights_NoWeb) (all_c (sub_ok r_NoWeights k_TooGreat qp_NoWeights_TooGreat) (all_c (sub_ok r_NoPlan k_NoBoxes qp_NoPlan_NoBoxes) (all_c (sub_ok r_NoPlan k_NoBudget qp_NoPlan_NoBudget) (all_c (sub_ok r_NoPlan k_NoWeights qp_NoPlan_NoWeights) (all_c (sub_ok r_NoPlan k_NoPlan qs_NoPlan) (all_c (sub_ok r_NoPlan k_NoOrder qp_NoPlan_NoOrder) (all_c (sub_ok r_NoPlan k_NoKind qp_NoPlan_NoKind) (all_c (sub_ok r_NoPlan k_NoName qp_NoPlan_NoName) (all_c (sub_ok r_NoPlan k_NoNumber qp_NoPlan_NoNumber) (all_c (sub_ok r_NoPlan k_NoPlay qp_NoPlan_NoPlay) (all_c (sub_ok r_NoPlan k_NoRoad qp_NoPlan_NoRoad) (all_c (sub_ok r_NoPlan k_NoRow qp_NoPlan_NoRow) (all_c (sub_ok r_NoPlan k_NoTable qp_NoPlan_NoTable) (all_c (sub_ok r_NoPlan k_NoPaper qp_NoPlan_NoPaper) (all_c (sub_ok r_NoPlan k_NoText qp_NoPlan_NoText) (all_c (sub_ok r_NoPlan k_NoTree qp_NoPlan_NoTree) (all_c (sub_ok r_NoPlan k_NoTurns qp_NoPlan_NoTurns) (all_c (sub_ok r_NoPlan k_NoWeb qp_NoPlan_NoWeb) (all_c (sub_ok r_NoPlan k_TooGreat qp_NoPlan_TooGreat) (all_c (sub_ok r_NoOrder k_NoBoxes qp_NoOrder_NoBoxes) (all_c (sub_ok r_NoOrder k_NoBudget qp_NoOrder_NoBudget) (all_c (sub_ok r_NoOrder k_NoWeights qp_NoOrder_NoWeights) (all_c (sub_ok r_NoOrder k_NoPlan qp_NoOrder_NoPlan) (all_c (sub_ok r_NoOrder k_NoOrder qs_NoOrder) (all_c (sub_ok r_NoOrder k_NoKind qp_NoOrder_NoKind) (all_c (sub_ok r_NoOrder k_NoName qp_NoOrder_NoName) (all_c (sub_ok r_NoOrder k_NoNumber qp_NoOrder_NoNumber) (all_c (sub_ok r_NoOrder k_NoPlay qp_NoOrder_NoPlay) (all_c (sub_ok r_NoOrder k_NoRoad qp_NoOrder_NoRoad) (all_c (sub_ok r_NoOrder k_NoRow qp_NoOrder_NoRow) (all_c (sub_ok r_NoOrder k_NoTable qp_NoOrder_NoTable) (all_c (sub_ok r_NoOrder k_NoPaper qp_NoOrder_NoPaper) (all_c (sub_ok r_NoOrder k_NoText qp_NoOrder_NoText) (all_c (sub_ok r_NoOrder k_NoTree qp_NoOrder_NoTree) (all_c (sub_ok r_NoOrder k_NoTurns qp_NoOrder_NoTurns) (all_c (sub_ok r_NoOrder k_NoWeb qp_NoOrder_NoWeb) (all_c (sub_ok r_NoOrder k_TooGreat qp_NoOrder_TooGreat) all_n)))))))))))))))))))))))))))))))))))))))))))))))))))))))))))))))))))))))))))))))))))))))))), (all_c (ve_ok r_NoNumber qv_NoNumber) (all_c (ve_ok r_NoBoxes qv_NoBoxes) (all_c (ve_ok r_NoWeights qv_NoWeights) (all_c (ve_ok r_NoPlan qv_NoPlan) (all_c (ve_ok r_NoOrder qv_NoOrder) all_n))))), ec⟩ }).imp (law_imp ht)⟩
end
end Lw
open PySem PySem.W PyProof.Rows
set_option maxRecDepth 100000 in
set_option maxHeartbeats 0 in
theorem PySem.Challenge.cw_hideworth_k27_orders_refused_holds : PySem.Challenge.rw_hideworth_k27_orders_refused.Holds := by
  w_on; o_law; k_head; (case hw => w_witness2)
  k_fill
  refine L2.walk_ofB (l := PySem.Challenge.rw_hideworth_k27_orders_refused) (n := 63) (k := 10) (x := "_law_script") (CX := fun w => L2.CX (PySem.Challenge.rw_hideworth_k27_orders_refused).prog w) (sp := fun w => Dv.spLaw _) rfl (by decide) rfl ⟨rfl, by decide, by decide⟩ (fun w h Y => PySem.W.kIn_of Y) ?F (fun _ H a ns hl hb _ hS => Dv.law_sp _ H a ns hl hb hS) (fun _ _ _ _ _ h => Dv.cx_end h)
  case F =>
    intro w mg fa h KX G hmg
    refine' Lw.all_mk KX G hmg Lw.law_true ?a0 ?l0 ?c0 ?k0 ?a1 ?l1 ?c1 ?k1 ?a2 ?l2 ?c2 ?k2 ?a3 ?l3 ?c3 ?k3 ?a4 ?l4 ?c4 ?k4 ?a5 ?l5 ?c5 ?k5 ?a6 ?l6 ?c6 ?k6 ?a7 ?l7 ?c7 ?k7 ?a8 ?l8 ?c8 ?k8 ?a9 ?l9 ?c9 ?k9 ?a10 ?l10 ?c10 ?k10 ?a11 ?l11 ?c11 ?k11 ?a12 ?l12 ?c12 ?k12 ?a13 ?l13 ?c13 ?k13 ?a14 ?l14 ?c14 ?k14 ?a15 ?l15 ?c15 ?k15 ?a16 ?l16 ?c16 ?k16 ?a17 ?l17 ?c17 ?k17 ?a18 ?l18 ?c18 ?k18 ?a19 ?l19 ?c19 ?k19 ?a20 ?l20 ?c20 ?k20 ?a21 ?l21 ?c21 ?k21 ?a22 ?l22 ?c22 ?k22 ?a23 ?l23 ?c23 ?k23 ?a24 ?l24 ?c24 ?k24 ?a25 ?l25 ?c25 ?k25 ?a26 ?l26 ?c26 ?k26 ?a27 ?l27 ?c27 ?k27 ?a28 ?l28 ?c28 ?k28 ?a29 ?l29 ?c29 ?k29 ?a30 ?l30 ?c30 ?k30 ?a31 ?l31 ?c31 ?k31 ?a32 ?l32 ?c32 ?k32 ?a33 ?l33 ?c33 ?k33 ?a34 ?l34 ?c34 ?k34 ?z_abs ?z_int ?z_isinstance ?z_bool ?z_list ?z_len ?z_min ?z_max ?z_tuple ?z_range ?z_sum ?z_ValueError ?c_MOST_COST ?c_MOST_OF ?c_MOST_BOXES ?c_MOST_BUDGET ?qn_NoNumber ?qi_NoNumber ?qt_NoNumber ?qn_NoBoxes ?qi_NoBoxes ?qt_NoBoxes ?qn_NoWeights ?qi_NoWeights ?qt_NoWeights ?qn_NoPlan ?qi_NoPlan ?qt_NoPlan ?qn_HideError ?qi_HideError ?qt_HideError ?qn_NoOrder ?qi_NoOrder ?qt_NoOrder ?qn_NoBudget ?qi_NoBudget ?qt_NoBudget ?qn_NoPlay ?qi_NoPlay ?qt_NoPlay ?qn_NoName ?qi_NoName ?qt_NoName ?qn_NoKind ?qi_NoKind ?qt_NoKind ?qn_NoTable ?qi_NoTable ?qt_NoTable ?qn_NoRow ?qi_NoRow ?qt_NoRow ?qn_NoRoad ?qi_NoRoad ?qt_NoRoad ?qn_NoTree ?qi_NoTree ?qt_NoTree ?qn_NoText ?qi_NoText ?qt_NoText ?qn_NoPaper ?qi_NoPaper ?qt_NoPaper ?qn_TooGreat ?qi_TooGreat ?qt_TooGreat ?qn_NoWeb ?qi_NoWeb ?qt_NoWeb ?qn_NoTurns ?qi_NoTurns ?qt_NoTurns ?on1 ?ot1 ?qk_NoNumber ?qb_NoNumber ?qs_NoNumber ?qv_NoNumber ?qg_NoNumber ?qh_NoNumber ?qd_NoNumber ?qa_NoNumber ?qm_NoNumber ?qx_NoNumber ?qk_NoBoxes ?qb_NoBoxes ?qs_NoBoxes ?qv_NoBoxes ?qg_NoBoxes ?qh_NoBoxes ?qd_NoBoxes ?qa_NoBoxes ?qm_NoBoxes ?qx_NoBoxes ?qk_NoWeights ?qb_NoWeights ?qs_NoWeights ?qv_NoWeights ?qg_NoWeights ?qh_NoWeights ?qd_NoWeights ?qa_NoWeights ?qm_NoWeights ?qx_NoWeights ?qk_NoPlan ?qb_NoPlan ?qs_NoPlan ?qv_NoPlan ?qg_NoPlan ?qh_NoPlan ?qd_NoPlan ?qa_NoPlan ?qm_NoPlan ?ox_NoPlan ?or_NoPlan ?sa_NoPlan ?iC_NoPlan ?li_NoPlan ?ci_NoPlan ?ki_NoPlan ?tI_NoPlan ?tB_NoPlan ?sG_NoPlan ?rB_NoPlan ?vV_NoPlan ?nf_NoPlan ?qk_NoOrder ?qb_NoOrder ?qs_NoOrder ?qv_NoOrder ?qg_NoOrder ?qh_NoOrder ?qd_NoOrder ?qa_NoOrder ?qm_NoOrder ?qx_NoOrder ?qp_NoNumber_HideError ?qp_NoBoxes_HideError ?qp_NoWeights_HideError ?qp_NoPlan_HideError ?qp_NoOrder_HideError ?qp_NoNumber_NoBoxes ?qp_NoNumber_NoBudget ?qp_NoNumber_NoWeights ?qp_NoNumber_NoPlan ?qp_NoNumber_NoOrder ?qp_NoNumber_NoKind ?qp_NoNumber_NoName ?qp_NoNumber_NoPlay ?qp_NoNumber_NoRoad ?qp_NoNumber_NoRow ?qp_NoNumber_NoTable ?qp_NoNumber_NoPaper ?qp_NoNumber_NoText ?qp_NoNumber_NoTree ?qp_NoNumber_NoTurns ?qp_NoNumber_NoWeb ?qp_NoNumber_TooGreat ?qp_NoBoxes_NoBudget ?qp_NoBoxes_NoWeights ?qp_NoBoxes_NoPlan ?qp_NoBoxes_NoOrder ?qp_NoBoxes_NoKind ?qp_NoBoxes_NoName ?qp_NoBoxes_NoNumber ?qp_NoBoxes_NoPlay ?qp_NoBoxes_NoRoad ?qp_NoBoxes_NoRow ?qp_NoBoxes_NoTable ?qp_NoBoxes_NoPaper ?qp_NoBoxes_NoText ?qp_NoBoxes_NoTree ?qp_NoBoxes_NoTurns ?qp_NoBoxes_NoWeb ?qp_NoBoxes_TooGreat ?qp_NoWeights_NoBoxes ?qp_NoWeights_NoBudget ?qp_NoWeights_NoPlan ?qp_NoWeights_NoOrder ?qp_NoWeights_NoKind ?qp_NoWeights_NoName ?qp_NoWeights_NoNumber ?qp_NoWeights_NoPlay ?qp_NoWeights_NoRoad ?qp_NoWeights_NoRow ?qp_NoWeights_NoTable ?qp_NoWeights_NoPaper ?qp_NoWeights_NoText ?qp_NoWeights_NoTree ?qp_NoWeights_NoTurns ?qp_NoWeights_NoWeb ?qp_NoWeights_TooGreat ?qp_NoPlan_NoBoxes ?qp_NoPlan_NoBudget ?qp_NoPlan_NoWeights ?qp_NoPlan_NoOrder ?qp_NoPlan_NoKind ?qp_NoPlan_NoName ?qp_NoPlan_NoNumber ?qp_NoPlan_NoPlay ?qp_NoPlan_NoRoad ?qp_NoPlan_NoRow ?qp_NoPlan_NoTable ?qp_NoPlan_NoPaper ?qp_NoPlan_NoText ?qp_NoPlan_NoTree ?qp_NoPlan_NoTurns ?qp_NoPlan_NoWeb ?qp_NoPlan_TooGreat ?qp_NoOrder_NoBoxes ?qp_NoOrder_NoBudget ?qp_NoOrder_NoWeights ?qp_NoOrder_NoPlan ?qp_NoOrder_NoKind ?qp_NoOrder_NoName ?qp_NoOrder_NoNumber ?qp_NoOrder_NoPlay ?qp_NoOrder_NoRoad ?qp_NoOrder_NoRow ?qp_NoOrder_NoTable ?qp_NoOrder_NoPaper ?qp_NoOrder_NoText ?qp_NoOrder_NoTree ?qp_NoOrder_NoTurns ?qp_NoOrder_NoWeb ?qp_NoOrder_TooGreat ?qu_HideError
    (case a0 => k_is); (case l0 => k_is); (case c0 => k_is); (case k0 => k_is); (case a1 => k_is); (case l1 => k_is); (case c1 => k_is); (case k1 => k_is); (case a2 => k_is); (case l2 => k_is); (case c2 => k_is); (case k2 => k_is); (case a3 => k_is); (case l3 => k_is); (case c3 => k_is); (case k3 => k_is); (case a4 => k_is); (case l4 => k_is); (case c4 => k_is); (case k4 => k_is); (case a5 => k_is); (case l5 => k_is); (case c5 => k_is); (case k5 => k_is); (case a6 => k_is); (case l6 => k_is); (case c6 => k_is); (case k6 => k_is); (case a7 => k_is); (case l7 => k_is); (case c7 => k_is); (case k7 => k_is); (case a8 => k_is); (case l8 => k_is); (case c8 => k_is); (case k8 => k_is); (case a9 => k_is); (case l9 => k_is); (case c9 => k_is); (case k9 => k_is); (case a10 => k_is); (case l10 => k_is); (case c10 => k_is); (case k10 => k_is); (case a11 => k_is); (case l11 => k_is); (case c11 => k_is); (case k11 => k_is); (case a12 => k_is); (case l12 => k_is); (case c12 => k_is); (case k12 => k_is); (case a13 => k_is); (case l13 => k_is); (case c13 => k_is); (case k13 => k_is); (case a14 => k_is); (case l14 => k_is); (case c14 => k_is); (case k14 => k_is); (case a15 => k_is); (case l15 => k_is); (case c15 => k_is); (case k15 => k_is); (case a16 => k_is); (case l16 => k_is); (case c16 => k_is); (case k16 => k_is); (case a17 => k_is); (case l17 => k_is); (case c17 => k_is); (case k17 => k_is); (case a18 => k_is); (case l18 => k_is); (case c18 => k_is); (case k18 => k_is); (case a19 => k_is); (case l19 => k_is); (case c19 => k_is); (case k19 => k_is); (case a20 => k_is); (case l20 => k_is); (case c20 => k_is); (case k20 => k_is); (case a21 => k_is); (case l21 => k_is); (case c21 => k_is); (case k21 => k_is); (case a22 => k_is); (case l22 => k_is); (case c22 => k_is); (case k22 => k_is); (case a23 => k_is); (case l23 => k_is); (case c23 => k_is); (case k23 => k_is); (case a24 => k_is); (case l24 => k_is); (case c24 => k_is); (case k24 => k_is); (case a25 => k_is); (case l25 => k_is); (case c25 => k_is); (case k25 => k_is); (case a26 => k_is); (case l26 => k_is); (case c26 => k_is); (case k26 => k_is); (case a27 => k_is); (case l27 => k_is); (case c27 => k_is); (case k27 => k_is); (case a28 => k_is); (case l28 => k_is); (case c28 => k_is); (case k28 => k_is); (case a29 => k_is); (case l29 => k_is); (case c29 => k_is); (case k29 => k_is); (case a30 => k_is); (case l30 => k_is); (case c30 => k_is); (case k30 => k_is); (case a31 => k_is); (case l31 => k_is); (case c31 => k_is); (case k31 => k_is); (case a32 => k_is); (case l32 => k_is); (case c32 => k_is); (case k32 => k_is); (case a33 => k_is); (case l33 => k_is); (case c33 => k_is); (case k33 => k_is); (case a34 => k_is); (case l34 => k_is); (case c34 => k_is); (case k34 => k_is); (case z_abs => k_is); (case z_int => k_is); (case z_isinstance => k_is); (case z_bool => k_is); (case z_list => k_is); (case z_len => k_is); (case z_min => k_is); (case z_max => k_is); (case z_tuple => k_is); (case z_range => k_is); (case z_sum => k_is); (case z_ValueError => k_is); (case c_MOST_COST => k_is); (case c_MOST_OF => k_is); (case c_MOST_BOXES => k_is); (case c_MOST_BUDGET => k_is); (case qn_NoNumber => k_is); (case qi_NoNumber => k_is); (case qt_NoNumber => k_is); (case qn_NoBoxes => k_is); (case qi_NoBoxes => k_is); (case qt_NoBoxes => k_is); (case qn_NoWeights => k_is); (case qi_NoWeights => k_is); (case qt_NoWeights => k_is); (case qn_NoPlan => k_is); (case qi_NoPlan => k_is); (case qt_NoPlan => k_is); (case qn_HideError => k_is); (case qi_HideError => k_is); (case qt_HideError => k_is); (case qn_NoOrder => k_is); (case qi_NoOrder => k_is); (case qt_NoOrder => k_is); (case qn_NoBudget => k_is); (case qi_NoBudget => k_is); (case qt_NoBudget => k_is); (case qn_NoPlay => k_is); (case qi_NoPlay => k_is); (case qt_NoPlay => k_is); (case qn_NoName => k_is); (case qi_NoName => k_is); (case qt_NoName => k_is); (case qn_NoKind => k_is); (case qi_NoKind => k_is); (case qt_NoKind => k_is); (case qn_NoTable => k_is); (case qi_NoTable => k_is); (case qt_NoTable => k_is); (case qn_NoRow => k_is); (case qi_NoRow => k_is); (case qt_NoRow => k_is); (case qn_NoRoad => k_is); (case qi_NoRoad => k_is); (case qt_NoRoad => k_is); (case qn_NoTree => k_is); (case qi_NoTree => k_is); (case qt_NoTree => k_is); (case qn_NoText => k_is); (case qi_NoText => k_is); (case qt_NoText => k_is); (case qn_NoPaper => k_is); (case qi_NoPaper => k_is); (case qt_NoPaper => k_is); (case qn_TooGreat => k_is); (case qi_TooGreat => k_is); (case qt_TooGreat => k_is); (case qn_NoWeb => k_is); (case qi_NoWeb => k_is); (case qt_NoWeb => k_is); (case qn_NoTurns => k_is); (case qi_NoTurns => k_is); (case qt_NoTurns => k_is); (case on1 => k_is); (case ot1 => k_is); (case qk_NoNumber => k_is); (case qb_NoNumber => k_is); (case qs_NoNumber => first | k_is | rfl); (case qv_NoNumber => k_is); (case qg_NoNumber => k_is); (case qh_NoNumber => k_is); (case qd_NoNumber => k_is); (case qa_NoNumber => k_is); (case qm_NoNumber => k_is); (case qx_NoNumber => k_exc); (case qk_NoBoxes => k_is); (case qb_NoBoxes => k_is); (case qs_NoBoxes => first | k_is | rfl); (case qv_NoBoxes => k_is); (case qg_NoBoxes => k_is); (case qh_NoBoxes => k_is); (case qd_NoBoxes => k_is); (case qa_NoBoxes => k_is); (case qm_NoBoxes => k_is); (case qx_NoBoxes => k_exc); (case qk_NoWeights => k_is); (case qb_NoWeights => k_is); (case qs_NoWeights => first | k_is | rfl); (case qv_NoWeights => k_is); (case qg_NoWeights => k_is); (case qh_NoWeights => k_is); (case qd_NoWeights => k_is); (case qa_NoWeights => k_is); (case qm_NoWeights => k_is); (case qx_NoWeights => k_exc); (case qk_NoPlan => k_is); (case qb_NoPlan => k_is); (case qs_NoPlan => first | k_is | rfl); (case qv_NoPlan => k_is); (case qg_NoPlan => k_is); (case qh_NoPlan => k_is); (case qd_NoPlan => k_is); (case qa_NoPlan => k_is); (case qm_NoPlan => k_is); (case ox_NoPlan => k_is); (case or_NoPlan => rfl); (case sa_NoPlan => k_is); (case iC_NoPlan => k_is); (case li_NoPlan => k_is); (case ci_NoPlan => k_is); (case ki_NoPlan => k_is); (case tI_NoPlan => k_is); (case tB_NoPlan => k_is); (case sG_NoPlan => k_is); (case rB_NoPlan => k_is); (case vV_NoPlan => k_is); (case nf_NoPlan => k_is); (case qk_NoOrder => k_is); (case qb_NoOrder => k_is); (case qs_NoOrder => first | k_is | rfl); (case qv_NoOrder => k_is); (case qg_NoOrder => k_is); (case qh_NoOrder => k_is); (case qd_NoOrder => k_is); (case qa_NoOrder => k_is); (case qm_NoOrder => k_is); (case qx_NoOrder => k_exc); (case qp_NoNumber_HideError => k_is); (case qp_NoBoxes_HideError => k_is); (case qp_NoWeights_HideError => k_is); (case qp_NoPlan_HideError => k_is); (case qp_NoOrder_HideError => k_is); (case qp_NoNumber_NoBoxes => k_is); (case qp_NoNumber_NoBudget => k_is); (case qp_NoNumber_NoWeights => k_is); (case qp_NoNumber_NoPlan => k_is); (case qp_NoNumber_NoOrder => k_is); (case qp_NoNumber_NoKind => k_is); (case qp_NoNumber_NoName => k_is); (case qp_NoNumber_NoPlay => k_is); (case qp_NoNumber_NoRoad => k_is); (case qp_NoNumber_NoRow => k_is); (case qp_NoNumber_NoTable => k_is); (case qp_NoNumber_NoPaper => k_is); (case qp_NoNumber_NoText => k_is); (case qp_NoNumber_NoTree => k_is); (case qp_NoNumber_NoTurns => k_is); (case qp_NoNumber_NoWeb => k_is); (case qp_NoNumber_TooGreat => k_is); (case qp_NoBoxes_NoBudget => k_is); (case qp_NoBoxes_NoWeights => k_is); (case qp_NoBoxes_NoPlan => k_is); (case qp_NoBoxes_NoOrder => k_is); (case qp_NoBoxes_NoKind => k_is); (case qp_NoBoxes_NoName => k_is); (case qp_NoBoxes_NoNumber => k_is); (case qp_NoBoxes_NoPlay => k_is); (case qp_NoBoxes_NoRoad => k_is); (case qp_NoBoxes_NoRow => k_is); (case qp_NoBoxes_NoTable => k_is); (case qp_NoBoxes_NoPaper => k_is); (case qp_NoBoxes_NoText => k_is); (case qp_NoBoxes_NoTree => k_is); (case qp_NoBoxes_NoTurns => k_is); (case qp_NoBoxes_NoWeb => k_is); (case qp_NoBoxes_TooGreat => k_is); (case qp_NoWeights_NoBoxes => k_is); (case qp_NoWeights_NoBudget => k_is); (case qp_NoWeights_NoPlan => k_is); (case qp_NoWeights_NoOrder => k_is); (case qp_NoWeights_NoKind => k_is); (case qp_NoWeights_NoName => k_is); (case qp_NoWeights_NoNumber => k_is); (case qp_NoWeights_NoPlay => k_is); (case qp_NoWeights_NoRoad => k_is); (case qp_NoWeights_NoRow => k_is); (case qp_NoWeights_NoTable => k_is); (case qp_NoWeights_NoPaper => k_is); (case qp_NoWeights_NoText => k_is); (case qp_NoWeights_NoTree => k_is); (case qp_NoWeights_NoTurns => k_is); (case qp_NoWeights_NoWeb => k_is); (case qp_NoWeights_TooGreat => k_is); (case qp_NoPlan_NoBoxes => k_is); (case qp_NoPlan_NoBudget => k_is); (case qp_NoPlan_NoWeights => k_is); (case qp_NoPlan_NoOrder => k_is); (case qp_NoPlan_NoKind => k_is); (case qp_NoPlan_NoName => k_is); (case qp_NoPlan_NoNumber => k_is); (case qp_NoPlan_NoPlay => k_is); (case qp_NoPlan_NoRoad => k_is); (case qp_NoPlan_NoRow => k_is); (case qp_NoPlan_NoTable => k_is); (case qp_NoPlan_NoPaper => k_is); (case qp_NoPlan_NoText => k_is); (case qp_NoPlan_NoTree => k_is); (case qp_NoPlan_NoTurns => k_is); (case qp_NoPlan_NoWeb => k_is); (case qp_NoPlan_TooGreat => k_is); (case qp_NoOrder_NoBoxes => k_is); (case qp_NoOrder_NoBudget => k_is); (case qp_NoOrder_NoWeights => k_is); (case qp_NoOrder_NoPlan => k_is); (case qp_NoOrder_NoKind => k_is); (case qp_NoOrder_NoName => k_is); (case qp_NoOrder_NoNumber => k_is); (case qp_NoOrder_NoPlay => k_is); (case qp_NoOrder_NoRoad => k_is); (case qp_NoOrder_NoRow => k_is); (case qp_NoOrder_NoTable => k_is); (case qp_NoOrder_NoPaper => k_is); (case qp_NoOrder_NoText => k_is); (case qp_NoOrder_NoTree => k_is); (case qp_NoOrder_NoTurns => k_is); (case qp_NoOrder_NoWeb => k_is); (case qp_NoOrder_TooGreat => k_is); (case qu_HideError => k_is)
