import PyProof.Rows.All
import Wide.All
import OpenK.AllK
import Wide.FinOn
import HandS.ForMost
import HandS.Exc
import HandS.TryOnly
import HandS.ExcOwn
import HandS.WordsExc
import HandS.Wide
import HandS.IsInst
import HandS.EndBits
import HandS.NoneIn
import HandS.SetFor
import HandS.More
import KE.DataFind
import HandS.SortInts
import HandS.ExcIs
import HandS.ExcField
import HandS.ExcInit
import HandS.SetKeys
import PyProof.Rows.SetFrom
import PyProof.SetRoads
import KE.KExcIs
import HandS.Deep
import HandS.Dict
import HandS.Small
import HandS.More
import HandS.SortInts
import HandS.Conv
import HandS.Style
import KE.KEqDict
import PySem.Challenge.RW_hideworth_k15_no_tables_refused
set_option Elab.async false
set_option linter.all false
set_option maxRecDepth 100000
set_option maxHeartbeats 4000000
/-! # Dv: values and a store over the hand layer -/
namespace Dv
open PySem PySem.Spec PyProof.Rows L2

/-- plain data; a cell is an object that is still changed, by its number in the store -/
inductive D where
  | non | bl (b : Bool) | int (i : Int) | str (x : Str) | tup (l : List D) | lst (l : List D) | scr (l : List D) | cell (n : Nat) | raw (v : V)
  /-- a class of the program; a caught exception, with its one field -/
  | cls (c : Str) | exn (c : Str) (f : Option (Str × Int))

inductive Cn where
  | lst (l : List D)
  | dct (kvs : List (Key × D))
  | dead

abbrev Store := List Cn
abbrev Env := List (Option D)
structure Exn where
  cls : Str
  val : Option (Str × Int)

inductive Res (α : Type) where
  | ok (a : α) (S : Store)
  | exc (x : Exn) (S : Store)
  | bad

abbrev M (α : Type) := Store → Res α
def Res.bind {α β : Type} (x : Res α) (k : α → Store → Res β) : Res β := match x with
  | .ok a S => k a S
  | .exc e S => .exc e S
  | .bad => .bad
@[simp] theorem Res.bind_ok {α β : Type} (a : α) (S : Store) (k : α → Store → Res β) : (Res.ok a S).bind k = k a S := rfl
@[simp] theorem Res.bind_exc {α β : Type} (x : Exn) (S : Store) (k : α → Store → Res β) : (Res.exc x S : Res α).bind k = .exc x S := rfl
@[simp] theorem Res.bind_bad {α β : Type} (k : α → Store → Res β) : (Res.bad : Res α).bind k = .bad := rfl

/-! ### what stands for what -/
/-- a caught exception's object -/
def ExH (cls : Value) (d : Option Addr) (a : Addr) : HO := .ext fun h => ∃ (oe : Obj) (vs : Array Value), h.get? a = some oe ∧ Zc cls d oe ∧ oe.data = .fields vs
/-- the class of a name -/
def ClsAt (K : PySem.W.Frag) (c : Str) (C : Addr) : Prop := PySem.W.nsIn K mainGlobals c = some (some (.ref C))
theorem ClsAt.uniq {K : PySem.W.Frag} {c : Str} {C D : Addr} (h : ClsAt K c C) (g : ClsAt K c D) : C = D := by
  unfold ClsAt at h g
  rw [h] at g
  cases g
  rfl
/-- an exception's own dict -/
def FldOk (F : Hp) (d : Option Addr) : Option (Str × Int) → Prop
  | none => d = none
  | some (f, i) => ∃ b, d = some b ∧ F b = some (.xd [(f, .int i)])
theorem FldOk.mono {F F' : Hp} {d : Option Addr} (hF : Same F F') : ∀ {v : Option (Str × Int)}, FldOk F d v → FldOk F' d v
  | none, h => h
  | some (_, _), h => by
    obtain ⟨b, e, q⟩ := h
    exact ⟨b, e, hF _ _ q⟩
mutual
def Rp (K : PySem.W.Frag) (r : List Addr) (F : Hp) : D → V → Prop
  | .non, v => v = .non
  | .bl b, v => v = .bl b
  | .int i, v => v = .int i
  | .str x, v => v = .str x
  | .raw x, v => v = x
  | .cell n, v => ∃ a, r[n]? = some a ∧ v = .ref a
  | .tup l, v => ∃ a vs, v = .ref a ∧ Rd F a (.tup vs) ∧ Rps K r F l vs
  | .lst l, v => ∃ a vs, v = .ref a ∧ F a = some (.lst vs) ∧ Rps K r F l vs
  | .scr l, v => ∃ a vs, v = .ref a ∧ SqL K F a vs ∧ Rps K r F l vs
  | .cls c, v => ∃ C, ClsAt K c C ∧ v = .ref C
  | .exn c f, v => ∃ a C d, v = .ref a ∧ ClsAt K c C ∧ F a = some (ExH (.ref C) d a) ∧ FldOk F d f
def Rps (K : PySem.W.Frag) (r : List Addr) (F : Hp) : List D → List V → Prop
  | [], vs => vs = []
  | d :: l, vs => ∃ v t, vs = v :: t ∧ Rp K r F d v ∧ Rps K r F l t
end

theorem rd_same {H H' : Hp} {a : Addr} {u : HO} (e : Same H H') (h : Rd H a u) : Rd H' a u := by
  rcases h with h | ⟨o, h⟩
  · exact .inl (e _ _ h)
  · exact .inr ⟨o, e _ _ h⟩

section
variable {K : PySem.W.Frag} {r r' : List Addr} {F F' : Hp}
mutual
theorem Rp.mono (hr : ∃ t, r' = r ++ t) (hF : Same F F') : ∀ (d : D) (v : V), Rp K r F d v → Rp K r' F' d v
  | .non, _, h => by unfold Rp at h ⊢; exact h
  | .bl _, _, h => by unfold Rp at h ⊢; exact h
  | .int _, _, h => by unfold Rp at h ⊢; exact h
  | .str _, _, h => by unfold Rp at h ⊢; exact h
  | .raw _, _, h => by unfold Rp at h ⊢; exact h
  | .cell n, _, h => by
    unfold Rp at h ⊢
    obtain ⟨a, e, q⟩ := h
    obtain ⟨t, rfl⟩ := hr
    refine ⟨a, ?_, q⟩
    rw [List.getElem?_append_left (List.getElem?_eq_some_iff.mp e).1]
    exact e
  | .tup l, _, h => by
    unfold Rp at h ⊢
    obtain ⟨a, vs, e, q, p⟩ := h
    exact ⟨a, vs, e, rd_same hF q, Rps.mono hr hF l vs p⟩
  | .lst l, _, h => by
    unfold Rp at h ⊢
    obtain ⟨a, vs, e, q, p⟩ := h
    exact ⟨a, vs, e, hF _ _ q, Rps.mono hr hF l vs p⟩
  | .scr l, _, h => by
    unfold Rp at h ⊢
    obtain ⟨a, vs, e, q, p⟩ := h
    exact ⟨a, vs, e, hF.seq q, Rps.mono hr hF l vs p⟩
  | .cls _, _, h => by unfold Rp at h ⊢; exact h
  | .exn _ _, _, h => by
    unfold Rp at h ⊢
    obtain ⟨a, C, d, e, q, p, f⟩ := h
    exact ⟨a, C, d, e, q, hF _ _ p, f.mono hF⟩
theorem Rps.mono (hr : ∃ t, r' = r ++ t) (hF : Same F F') : ∀ (l : List D) (vs : List V), Rps K r F l vs → Rps K r' F' l vs
  | [], _, h => by unfold Rps at h ⊢; exact h
  | d :: l, vs, h => by
    unfold Rps at h ⊢
    obtain ⟨v, t, e, p, q⟩ := h
    exact ⟨v, t, e, Rp.mono hr hF d v p, Rps.mono hr hF l t q⟩
end
theorem rps_nil : Rps K r F [] [] := by unfold Rps; rfl
theorem rps_cons {d : D} {v : V} {l : List D} {vs : List V} (h : Rp K r F d v) (t : Rps K r F l vs) : Rps K r F (d :: l) (v :: vs) := by
  unfold Rps; exact ⟨v, vs, rfl, h, t⟩
theorem Rps.nil_inv {vs : List V} (h : Rps K r F [] vs) : vs = [] := by unfold Rps at h; exact h
theorem Rps.cons_inv {d : D} {l : List D} {vs : List V} (h : Rps K r F (d :: l) vs) : ∃ v t, vs = v :: t ∧ Rp K r F d v ∧ Rps K r F l t := by unfold Rps at h; exact h
theorem Rps.length : ∀ {l : List D} {vs : List V}, Rps K r F l vs → vs.length = l.length
  | [], vs, h => by rw [h.nil_inv]; rfl
  | d :: l, vs, h => by
    obtain ⟨v, t, e, _, q⟩ := h.cons_inv
    subst e
    simp [Rps.length q]
theorem Rps.get : ∀ {l : List D} {vs : List V} {i : Nat} {d : D}, Rps K r F l vs → l[i]? = some d → ∃ v, vs[i]? = some v ∧ Rp K r F d v
  | [], _, i, _, _, e => by simp at e
  | d :: l, vs, 0, d', h, e => by
    obtain ⟨v, t, e1, p, _⟩ := h.cons_inv
    subst e1
    simp at e
    subst e
    exact ⟨v, rfl, p⟩
  | d :: l, vs, i + 1, d', h, e => by
    obtain ⟨v, t, e1, _, q⟩ := h.cons_inv
    subst e1
    obtain ⟨v', e2, p⟩ := Rps.get (i := i) q (by simpa using e)
    exact ⟨v', by simpa using e2, p⟩
theorem Rps.append : ∀ {l m : List D} {vs ws : List V}, Rps K r F l vs → Rps K r F m ws → Rps K r F (l ++ m) (vs ++ ws)
  | [], m, vs, ws, h, q => by rw [h.nil_inv]; exact q
  | d :: l, m, vs, ws, h, q => by
    obtain ⟨v, t, e, p, q'⟩ := h.cons_inv
    subst e
    exact rps_cons p (Rps.append q' q)
theorem Rps.take : ∀ {l : List D} {vs : List V} (n : Nat), Rps K r F l vs → Rps K r F (l.take n) (vs.take n)
  | [], vs, n, h => by rw [h.nil_inv]; simp; exact rps_nil
  | d :: l, vs, 0, h => by simp; exact rps_nil
  | d :: l, vs, n + 1, h => by
    obtain ⟨v, t, e, p, q⟩ := h.cons_inv
    subst e
    exact rps_cons p (Rps.take n q)
theorem Rps.drop : ∀ {l : List D} {vs : List V} (n : Nat), Rps K r F l vs → Rps K r F (l.drop n) (vs.drop n)
  | l, vs, 0, h => by simpa using h
  | [], vs, n + 1, h => by rw [h.nil_inv]; simp; exact rps_nil
  | d :: l, vs, n + 1, h => by
    obtain ⟨v, t, e, p, q⟩ := h.cons_inv
    subst e
    exact Rps.drop n q
theorem Rps.set : ∀ {l : List D} {vs : List V} {d : D} {v : V} (n : Nat), Rps K r F l vs → Rp K r F d v → Rps K r F (l.set n d) (vs.set n v)
  | [], vs, d, v, n, h, p => by rw [h.nil_inv]; simp; exact rps_nil
  | d0 :: l, vs, d, v, 0, h, p => by
    obtain ⟨v', t, e, _, q⟩ := h.cons_inv
    subst e
    exact rps_cons p q
  | d0 :: l, vs, d, v, n + 1, h, p => by
    obtain ⟨v', t, e, p', q⟩ := h.cons_inv
    subst e
    exact rps_cons p' (Rps.set n q p)
theorem Rps.reverse {l : List D} {vs : List V} (h : Rps K r F l vs) : Rps K r F l.reverse vs.reverse := by
  induction l generalizing vs with
  | nil => rw [h.nil_inv]; exact rps_nil
  | cons d l ih =>
    obtain ⟨v, t, e, p, q⟩ := h.cons_inv
    subst e
    rw [List.reverse_cons, List.reverse_cons]
    exact (ih q).append (rps_cons p rps_nil)
theorem Rps.rep {l : List D} {vs : List V} (h : Rps K r F l vs) : ∀ k : Nat, Rps K r F (List.replicate k l).flatten (List.replicate k vs).flatten
  | 0 => rps_nil
  | k + 1 => by
    rw [List.replicate_succ, List.replicate_succ, List.flatten_cons, List.flatten_cons]
    exact h.append (Rps.rep h k)
theorem rps_ints : ∀ ns : List Int, Rps K r F (ns.map D.int) (ns.map V.int)
  | [] => rps_nil
  | n :: ns => rps_cons (by unfold Rp; rfl) (rps_ints ns)
theorem Rps.ints : ∀ {ns : List Int} {vs : List V}, Rps K r F (ns.map D.int) vs → vs = ns.map V.int
  | [], vs, h => h.nil_inv
  | n :: ns, vs, h => by
    obtain ⟨v, t, e, p, q⟩ := h.cons_inv
    subst e
    unfold Rp at p
    subst p
    rw [Rps.ints q]
    rfl
end

/-! ### worlds -/
structure Wl where
  r : List Addr
  F : Hp
  S : Store
  H : Hp

def alv (S : Store) (n : Nat) : Prop := ∃ c, S[n]? = some c ∧ c ≠ .dead
def RpK (K : PySem.W.Frag) (r : List Addr) (F : Hp) : List (Key × D) → List (Key × V) → Prop := Paired fun p q => p.1 = q.1 ∧ Rp K r F p.2 q.2
def CellOk (K : PySem.W.Frag) (r : List Addr) (F H : Hp) (a : Addr) : Cn → Prop
  | .dead => True
  | .lst l => F a = none ∧ ∃ vs, H a = some (.lst vs) ∧ Rps K r F l vs
  | .dct kvs => F a = none ∧ ∃ ws, H a = some (.dK ws) ∧ RpK K r F kvs ws

theorem RpK.mono {K : PySem.W.Frag} {r r' : List Addr} {F F' : Hp} (hr : ∃ t, r' = r ++ t) (hF : Same F F') {kvs : List (Key × D)} {ws : List (Key × V)} (h : RpK K r F kvs ws) : RpK K r' F' kvs ws :=
  Paired.mapP h fun p q z => ⟨z.1, Rp.mono hr hF _ _ z.2⟩

structure Wd (K : PySem.W.Frag) (w : Wl) : Prop where
  len : w.r.length = w.S.length
  same : Same w.F w.H
  cell : ∀ (n : Nat) a c, w.r[n]? = some a → w.S[n]? = some c → CellOk K w.r w.F w.H a c
  inj : ∀ (n m : Nat) a, w.r[n]? = some a → w.r[m]? = some a → alv w.S n → alv w.S m → n = m

structure Go (K : PySem.W.Frag) (w w' : Wl) : Prop where
  wd : Wd K w'
  pre : ∃ t, w'.r = w.r ++ t
  len : w.r.length = w.S.length
  live : ∀ (n : Nat), n < w.S.length → alv w'.S n → alv w.S n
  new : ∀ (n : Nat) a, w.S.length ≤ n → w'.r[n]? = some a → alv w'.S n → w.H a = none
  F : Same w.F w'.F
  fr : ∀ a o, w.H a = some o → (∀ (n : Nat), w.r[n]? = some a → ¬ alv w.S n) → w'.H a = some o
  trk : ∀ a, w'.H a = none → w.H a = none
  fnew : ∀ a, w.H a ≠ none → w.F a = none → (∀ (n : Nat), w.r[n]? = some a → ¬ alv w.S n) → w'.F a = none

section
variable {K : PySem.W.Frag} {w w1 w2 : Wl}
theorem Go.refl (h : Wd K w) : Go K w w where
  wd := h
  pre := ⟨[], by simp⟩
  len := h.len
  live := fun _ _ q => q
  new := fun n a hn e _ => by
    have := (List.getElem?_eq_some_iff.mp e).1
    have := h.len
    omega
  F := Same.refl _
  fr := fun _ _ e _ => e
  trk := fun _ e => e
  fnew := fun _ _ e _ => e
theorem Go.slen (g : Go K w w1) : w.S.length ≤ w1.S.length := by
  obtain ⟨t, e⟩ := g.pre
  have h1 := g.wd.len
  rw [e, List.length_append, g.len] at h1
  omega
theorem pre_get {r r' : List Addr} {n : Nat} {a : Addr} (h : ∃ t, r' = r ++ t) (e : r[n]? = some a) : r'[n]? = some a := by
  obtain ⟨t, rfl⟩ := h
  rw [List.getElem?_append_left (List.getElem?_eq_some_iff.mp e).1]
  exact e
theorem pre_back {r r' : List Addr} {n : Nat} {a : Addr} (h : ∃ t, r' = r ++ t) (hn : n < r.length) (e : r'[n]? = some a) : r[n]? = some a := by
  obtain ⟨t, rfl⟩ := h
  rw [List.getElem?_append_left hn] at e
  exact e
theorem Go.trans (g : Go K w w1) (h : Go K w1 w2) : Go K w w2 where
  wd := h.wd
  pre := by
    obtain ⟨t, e⟩ := g.pre
    obtain ⟨t', e'⟩ := h.pre
    exact ⟨t ++ t', by rw [e', e, List.append_assoc]⟩
  len := g.len
  live := fun n hn q => g.live n hn (h.live n (Nat.lt_of_lt_of_le hn g.slen) q)
  new := fun n a hn e q => by
    by_cases hl : n < w1.S.length
    · exact g.new n a hn (pre_back h.pre (by rw [g.wd.len]; exact hl) e) (h.live n hl q)
    · exact g.trk a (h.new n a (Nat.le_of_not_lt hl) e q)
  F := g.F.trans h.F
  fr := fun a o e q => by
    refine h.fr a o (g.fr a o e q) fun n hn hl => ?_
    by_cases hs : n < w.S.length
    · exact q n (pre_back g.pre (by rw [g.len]; exact hs) hn) (g.live n hs hl)
    · have := g.new n a (Nat.le_of_not_lt hs) hn hl
      rw [e] at this
      cases this
  trk := fun a e => g.trk a (h.trk a e)
  fnew := fun a e f q => h.fnew a (fun z => e (g.trk a z)) (g.fnew a e f q) fun n hn hl => by
    by_cases hs : n < w.S.length
    · exact q n (pre_back g.pre (by rw [g.len]; exact hs) hn) (g.live n hs hl)
    · exact e (g.new n a (Nat.le_of_not_lt hs) hn hl)
theorem Rp.go (g : Go K w w1) {d : D} {v : V} (h : Rp K w.r w.F d v) : Rp K w1.r w1.F d v := Rp.mono g.pre g.F d v h
theorem Rps.go (g : Go K w w1) {d : List D} {v : List V} (h : Rps K w.r w.F d v) : Rps K w1.r w1.F d v := Rps.mono g.pre g.F d v h

theorem Wd.fresh (h : Wd K w) {p : Addr} (n : w.H p = none) : w.F p = none := h.same.free n
theorem CellOk.mono {r r' : List Addr} {F F' H H' : Hp} {a : Addr} {c : Cn} (h : CellOk K r F H a c) (hr : ∃ t, r' = r ++ t) (hF : Same F F') (hn : c ≠ .dead → F a = none → F' a = none) (hH : c ≠ .dead → ∀ o, H a = some o → H' a = some o) : CellOk K r' F' H' a c := by
  cases c with
  | dead => exact trivial
  | lst l =>
    obtain ⟨n, vs, e, q⟩ := h
    exact ⟨hn (by simp) n, vs, hH (by simp) _ e, Rps.mono hr hF _ _ q⟩
  | dct kvs =>
    obtain ⟨n, vs, e, q⟩ := h
    exact ⟨hn (by simp) n, vs, hH (by simp) _ e, q.mono hr hF⟩
theorem CellOk.some {r : List Addr} {F H : Hp} {a : Addr} {c : Cn} (h : CellOk K r F H a c) (n : c ≠ .dead) : ∃ o, H a = some o := by
  cases c with
  | dead => exact (n rfl).elim
  | lst l => obtain ⟨_, vs, e, _⟩ := h; exact ⟨_, e⟩
  | dct l => obtain ⟨_, vs, e, _⟩ := h; exact ⟨_, e⟩
theorem CellOk.free {r : List Addr} {F H : Hp} {a : Addr} {c : Cn} (h : CellOk K r F H a c) (n : c ≠ .dead) : F a = none := by
  cases c with
  | dead => exact (n rfl).elim
  | lst l => exact h.1
  | dct l => exact h.1

/-- a new frozen object -/
theorem Go.alloc (h : Wd K w) {p : Addr} {o : HO} (n : w.H p = none) : Go K w ⟨w.r, upd w.F p o, w.S, upd w.H p o⟩ := by
  have sF : Same w.F (upd w.F p o) := fun b x e => by rw [upd_ne (ne_of_none e (h.fresh n))]; exact e
  have sH : Same w.H (upd w.H p o) := fun b x e => by rw [upd_ne (ne_of_none e n)]; exact e
  refine ⟨⟨h.len, fun b x e => ?_, fun k a c e1 e2 => ?_, h.inj⟩, ⟨[], by simp⟩, h.len, fun _ _ q => q, fun k a hk e _ => ?_, sF, fun a x e _ => sH a x e, fun a e => ?_, fun a e f _ => by
    show upd w.F p o a = none
    rw [upd_ne (fun z => e (by rw [z]; exact n))]
    exact f⟩
  · show upd w.H p o b = some x
    have e' : upd w.F p o b = some x := e
    by_cases hb : b = p
    · subst hb
      rw [upd_same] at e' ⊢
      exact e'
    · rw [upd_ne hb] at e' ⊢
      exact h.same _ _ e'
  · have q := h.cell k a c e1 e2
    refine q.mono ⟨[], by simp⟩ sF (fun hd z => ?_) (fun hd x z => sH _ _ z)
    obtain ⟨x, ex⟩ := q.some hd
    show upd w.F p o a = none
    rw [upd_ne (ne_of_none ex n)]
    exact z
  · have hk1 : k < w.r.length := (List.getElem?_eq_some_iff.mp e).1
    have hk2 : w.S.length ≤ k := hk
    have := h.len
    omega
  · show w.H a = none
    have e' : upd w.H p o a = none := e
    by_cases hb : a = p
    · subst hb
      rw [upd_same] at e'
      cases e'
    · rw [upd_ne hb] at e'
      exact e'
theorem alv_append_left {S : Store} {c : Cn} {n : Nat} (hn : n < S.length) (h : alv (S ++ [c]) n) : alv S n := by
  obtain ⟨x, e, q⟩ := h
  rw [List.getElem?_append_left hn] at e
  exact ⟨x, e, q⟩
/-- a new cell -/
theorem Go.newCell (h : Wd K w) {p : Addr} {o : HO} {c : Cn} (n : w.H p = none) (hc : CellOk K (w.r ++ [p]) w.F (upd w.H p o) p c) : Go K w ⟨w.r ++ [p], w.F, w.S ++ [c], upd w.H p o⟩ := by
  have sH : Same w.H (upd w.H p o) := fun b x e => by rw [upd_ne (ne_of_none e n)]; exact e
  have oldr : ∀ {k a}, (w.r ++ [p])[k]? = some a → k < w.S.length → w.r[k]? = some a := fun {k a} e hk => by
    rw [List.getElem?_append_left (by rw [h.len]; exact hk)] at e
    exact e
  have newr : ∀ {k a}, (w.r ++ [p])[k]? = some a → w.S.length ≤ k → k = w.S.length ∧ a = p := fun {k a} e hk => by
    have hl := (List.getElem?_eq_some_iff.mp e).1
    rw [List.length_append, List.length_singleton, h.len] at hl
    have ek : k = w.S.length := by omega
    subst ek
    rw [← h.len, List.getElem?_append_right (Nat.le_refl _), Nat.sub_self] at e
    exact ⟨rfl, (Option.some.inj e).symm⟩
  have addr_some : ∀ {k a}, w.r[k]? = some a → alv w.S k → ∃ x, w.H a = some x := fun {k a} e hl => by
    obtain ⟨c', e2, hd⟩ := hl
    exact (h.cell k a c' e e2).some hd
  refine ⟨⟨?_, h.same.trans sH, fun k a c' e1 e2 => ?_, fun k m a e1 e2 l1 l2 => ?_⟩, ⟨[p], rfl⟩, h.len, fun k hk q => alv_append_left hk q, fun k a hk e _ => ?_, Same.refl _, fun a x e _ => sH a x e, fun a e => ?_, fun _ _ f _ => f⟩
  · simp [h.len]
  · show CellOk K (w.r ++ [p]) w.F (upd w.H p o) a c'
    by_cases hk : k < w.S.length
    · have e2' : w.S[k]? = some c' := by
        have z : (w.S ++ [c])[k]? = some c' := e2
        rw [List.getElem?_append_left hk] at z
        exact z
      exact (h.cell k a c' (oldr e1 hk) e2').mono ⟨[p], rfl⟩ (Same.refl _) (fun _ z => z) (fun _ x z => sH _ _ z)
    · obtain ⟨ek, ea⟩ := newr e1 (Nat.le_of_not_lt hk)
      subst ea
      have z : (w.S ++ [c])[k]? = some c' := e2
      rw [ek, List.getElem?_append_right (Nat.le_refl _), Nat.sub_self] at z
      have : c = c' := Option.some.inj z
      subst this
      exact hc
  · have e1' : (w.r ++ [p])[k]? = some a := e1
    have e2' : (w.r ++ [p])[m]? = some a := e2
    by_cases hk : k < w.S.length
    · by_cases hm : m < w.S.length
      · exact h.inj k m a (oldr e1' hk) (oldr e2' hm) (alv_append_left hk l1) (alv_append_left hm l2)
      · obtain ⟨_, ea⟩ := newr e2' (Nat.le_of_not_lt hm)
        obtain ⟨x, ex⟩ := addr_some (oldr e1' hk) (alv_append_left hk l1)
        rw [ea, n] at ex
        cases ex
    · obtain ⟨ek, ea⟩ := newr e1' (Nat.le_of_not_lt hk)
      by_cases hm : m < w.S.length
      · obtain ⟨x, ex⟩ := addr_some (oldr e2' hm) (alv_append_left hm l2)
        rw [ea, n] at ex
        cases ex
      · obtain ⟨em, _⟩ := newr e2' (Nat.le_of_not_lt hm)
        omega
  · obtain ⟨_, ea⟩ := newr e hk
    rw [ea]
    exact n
  · show w.H a = none
    have e' : upd w.H p o a = none := e
    by_cases hb : a = p
    · subst hb
      rw [upd_same] at e'
      cases e'
    · rw [upd_ne hb] at e'
      exact e'
theorem get_set {S : Store} {n k : Nat} {c : Cn} : (S.set n c)[k]? = if k = n then (if n < S.length then some c else none) else S[k]? := by
  rw [List.getElem?_set]
  by_cases h : n = k
  · subst h; simp
  · rw [if_neg h, if_neg (Ne.symm h)]
theorem alv_set {S : Store} {n k : Nat} {c c0 : Cn} (e0 : S[n]? = some c0) (h0 : c0 ≠ .dead) (h : alv (S.set n c) k) : alv S k := by
  obtain ⟨x, e, q⟩ := h
  rw [get_set] at e
  by_cases hk : k = n
  · subst hk
    exact ⟨c0, e0, h0⟩
  · rw [if_neg hk] at e
    exact ⟨x, e, q⟩
/-- a cell is written -/
theorem Go.write (h : Wd K w) {n : Nat} {a : Addr} {c0 c : Cn} {o : HO} (e0 : w.S[n]? = some c0) (h0 : c0 ≠ .dead) (er : w.r[n]? = some a) (hc : CellOk K w.r w.F (upd w.H a o) a c) : Go K w ⟨w.r, w.F, w.S.set n c, upd w.H a o⟩ := by
  have fa : w.F a = none := (h.cell n a c0 er e0).free h0
  obtain ⟨x0, hx0⟩ := (h.cell n a c0 er e0).some h0
  have other : ∀ {k b}, w.r[k]? = some b → alv w.S k → k ≠ n → b ≠ a := fun {k b} e hl hk z => by
    subst z
    exact hk (h.inj k n b e er hl ⟨c0, e0, h0⟩)
  refine ⟨⟨by simp [h.len], fun b x e => ?_, fun k b c' e1 e2 => ?_, fun k m b e1 e2 l1 l2 => h.inj k m b e1 e2 (alv_set e0 h0 l1) (alv_set e0 h0 l2)⟩, ⟨[], by simp⟩, h.len, fun k hk q => alv_set e0 h0 q, fun k b hk e _ => ?_, Same.refl _, fun b x e q => ?_, fun b e => ?_, fun _ _ f _ => f⟩
  · show upd w.H a o b = some x
    rw [upd_ne (ne_of_none e fa)]
    exact h.same _ _ e
  · show CellOk K w.r w.F (upd w.H a o) b c'
    have e2' : (w.S.set n c)[k]? = some c' := e2
    rw [get_set] at e2'
    by_cases hk : k = n
    · subst hk
      rw [if_pos rfl, if_pos (List.getElem?_eq_some_iff.mp e0).1] at e2'
      have ec : c = c' := Option.some.inj e2'
      subst ec
      have eb : a = b := Option.some.inj (er.symm.trans e1)
      subst eb
      exact hc
    · rw [if_neg hk] at e2'
      refine (h.cell k b c' e1 e2').mono ⟨[], by simp⟩ (Same.refl _) (fun _ z => z) (fun hd x z => ?_)
      rw [upd_ne (other e1 ⟨c', e2', hd⟩ hk)]
      exact z
  · have hk1 : k < w.r.length := (List.getElem?_eq_some_iff.mp e).1
    have hk2 : w.S.length ≤ k := hk
    have := h.len
    omega
  · show upd w.H a o b = some x
    have : b ≠ a := fun z => by
      subst z
      exact q n er ⟨c0, e0, h0⟩
    rw [upd_ne this]
    exact e
  · show w.H b = none
    have e' : upd w.H a o b = none := e
    by_cases hb : b = a
    · subst hb
      rw [upd_same] at e'
      cases e'
    · rw [upd_ne hb] at e'
      exact e'
/-- a cell is frozen -/
theorem Go.freeze (h : Wd K w) {n : Nat} {a : Addr} {l : List D} {vs : List V} (e0 : w.S[n]? = some (.lst l)) (er : w.r[n]? = some a) (ha : w.H a = some (.lst vs)) : Go K w ⟨w.r, upd w.F a (.lst vs), w.S.set n .dead, w.H⟩ := by
  have h0 : Cn.lst l ≠ .dead := by simp
  have fa : w.F a = none := (h.cell n a _ er e0).free h0
  have sF : Same w.F (upd w.F a (.lst vs)) := fun b x e => by rw [upd_ne (ne_of_none e fa)]; exact e
  have other : ∀ {k b}, w.r[k]? = some b → alv w.S k → k ≠ n → b ≠ a := fun {k b} e hl hk z => by
    subst z
    exact hk (h.inj k n b e er hl ⟨_, e0, h0⟩)
  refine ⟨⟨by simp [h.len], fun b x e => ?_, fun k b c' e1 e2 => ?_, fun k m b e1 e2 l1 l2 => h.inj k m b e1 e2 (alv_set e0 h0 l1) (alv_set e0 h0 l2)⟩, ⟨[], by simp⟩, h.len, fun k hk q => alv_set e0 h0 q, fun k b hk e _ => ?_, sF, fun b x e q => e, fun b e => e, fun b e f q => by
    show upd w.F a (.lst vs) b = none
    rw [upd_ne (fun z => by
      subst z
      exact q n er ⟨_, e0, h0⟩)]
    exact f⟩
  · show w.H b = some x
    have e' : upd w.F a (.lst vs) b = some x := e
    by_cases hb : b = a
    · subst hb
      rw [upd_same] at e'
      rw [ha]
      exact e'
    · rw [upd_ne hb] at e'
      exact h.same _ _ e'
  · have e2' : (w.S.set n .dead)[k]? = some c' := e2
    rw [get_set] at e2'
    by_cases hk : k = n
    · subst hk
      rw [if_pos rfl, if_pos (List.getElem?_eq_some_iff.mp e0).1] at e2'
      have ec : Cn.dead = c' := Option.some.inj e2'
      subst ec
      exact trivial
    · rw [if_neg hk] at e2'
      refine (h.cell k b c' e1 e2').mono ⟨[], by simp⟩ sF (fun hd z => ?_) (fun hd x z => z)
      show upd w.F a (.lst vs) b = none
      rw [upd_ne (other e1 ⟨c', e2', hd⟩ hk)]
      exact z
  · have hk1 : k < w.r.length := (List.getElem?_eq_some_iff.mp e).1
    have hk2 : w.S.length ≤ k := hk
    have := h.len
    omega
end

section
variable {K : PySem.W.Frag} {w w1 w2 : Wl}
/-- an object that is not in the store yet: written, taken in -/
theorem Go.loose (g : Go K w w1) {p : Addr} {o : HO} (n : w.H p = none) (h1 : w1.H p ≠ none) (h2 : w1.F p = none) (h3 : ∀ (n : Nat), w1.r[n]? = some p → ¬ alv w1.S n) : Go K w ⟨w1.r, w1.F, w1.S, upd w1.H p o⟩ where
  wd := ⟨g.wd.len, fun b x e => by show upd w1.H p o b = some x; rw [upd_ne (ne_of_none e h2)]; exact g.wd.same _ _ e, fun k a c e1 e2 => (g.wd.cell k a c e1 e2).mono ⟨[], by simp⟩ (Same.refl _) (fun _ z => z) (fun hd x z => by
    show upd w1.H p o a = some x
    rw [upd_ne (fun q => h3 k (by rw [← q]; exact e1) ⟨c, e2, hd⟩)]
    exact z), g.wd.inj⟩
  pre := g.pre
  len := g.len
  live := g.live
  new := g.new
  F := g.F
  fr := fun a x e q => by
    show upd w1.H p o a = some x
    rw [upd_ne (ne_of_none e n)]
    exact g.fr a x e q
  trk := fun a e => by
    have e' : upd w1.H p o a = none := e
    by_cases hb : a = p
    · subst hb
      rw [upd_same] at e'
      cases e'
    · rw [upd_ne hb] at e'
      exact g.trk a e'
  fnew := g.fnew
theorem Go.adopt (g : Go K w w1) {p : Addr} {o : HO} (n : w.H p = none) (h1 : w1.H p = some o) (h2 : w1.F p = none) (h3 : ∀ (n : Nat), w1.r[n]? = some p → ¬ alv w1.S n) : Go K w ⟨w1.r, upd w1.F p o, w1.S, w1.H⟩ := by
  have sF : Same w1.F (upd w1.F p o) := fun b x e => by rw [upd_ne (ne_of_none e h2)]; exact e
  refine ⟨⟨g.wd.len, fun b x e => ?_, fun k a c e1 e2 => (g.wd.cell k a c e1 e2).mono ⟨[], by simp⟩ sF (fun hd z => ?_) (fun _ _ z => z), g.wd.inj⟩, g.pre, g.len, g.live, g.new, g.F.trans sF, g.fr, g.trk, fun a e f q => ?_⟩
  · show w1.H b = some x
    have e' : upd w1.F p o b = some x := e
    by_cases hb : b = p
    · subst hb
      rw [upd_same] at e'
      rw [h1]
      exact e'
    · rw [upd_ne hb] at e'
      exact g.wd.same _ _ e'
  · show upd w1.F p o a = none
    rw [upd_ne (fun q => h3 k (by rw [← q]; exact e1) ⟨c, e2, hd⟩)]
    exact z
  · show upd w1.F p o a = none
    rw [upd_ne (fun q => e (by rw [q]; exact n))]
    exact g.fnew a e f q
theorem Go.adoptCell (g : Go K w w1) {p : Addr} {o : HO} {c : Cn} (n : w.H p = none) (h1 : w1.H p = some o) (h2 : w1.F p = none) (h3 : ∀ (n : Nat), w1.r[n]? = some p → ¬ alv w1.S n) (hc : CellOk K (w1.r ++ [p]) w1.F w1.H p c) :
    Go K w ⟨w1.r ++ [p], w1.F, w1.S ++ [c], w1.H⟩ := by
  have oldr : ∀ {k a}, (w1.r ++ [p])[k]? = some a → k < w1.S.length → w1.r[k]? = some a := fun {k a} e hk => by
    rw [List.getElem?_append_left (by rw [g.wd.len]; exact hk)] at e
    exact e
  have newr : ∀ {k a}, (w1.r ++ [p])[k]? = some a → w1.S.length ≤ k → k = w1.S.length ∧ a = p := fun {k a} e hk => by
    have hl := (List.getElem?_eq_some_iff.mp e).1
    rw [List.length_append, List.length_singleton, g.wd.len] at hl
    have ek : k = w1.S.length := by omega
    subst ek
    rw [← g.wd.len, List.getElem?_append_right (Nat.le_refl _), Nat.sub_self] at e
    exact ⟨rfl, (Option.some.inj e).symm⟩
  have hlen := g.slen
  obtain ⟨t, et⟩ := g.pre
  refine ⟨⟨by simp [g.wd.len], g.wd.same, fun k a c' e1 e2 => ?_, fun k m a e1 e2 l1 l2 => ?_⟩, ⟨t ++ [p], by show w1.r ++ [p] = _; rw [et, List.append_assoc]⟩, g.len, fun k hk q => g.live k hk (alv_append_left (Nat.lt_of_lt_of_le hk hlen) q), fun k a hk e q => ?_, g.F, g.fr, g.trk, g.fnew⟩
  · show CellOk K (w1.r ++ [p]) w1.F w1.H a c'
    by_cases hk : k < w1.S.length
    · have e2' : w1.S[k]? = some c' := by
        have z : (w1.S ++ [c])[k]? = some c' := e2
        rw [List.getElem?_append_left hk] at z
        exact z
      exact (g.wd.cell k a c' (oldr e1 hk) e2').mono ⟨[p], rfl⟩ (Same.refl _) (fun _ z => z) (fun _ x z => z)
    · obtain ⟨ek, ea⟩ := newr e1 (Nat.le_of_not_lt hk)
      subst ea
      have z : (w1.S ++ [c])[k]? = some c' := e2
      rw [ek, List.getElem?_append_right (Nat.le_refl _), Nat.sub_self] at z
      have : c = c' := Option.some.inj z
      subst this
      exact hc
  · have e1' : (w1.r ++ [p])[k]? = some a := e1
    have e2' : (w1.r ++ [p])[m]? = some a := e2
    by_cases hk : k < w1.S.length
    · by_cases hm : m < w1.S.length
      · exact g.wd.inj k m a (oldr e1' hk) (oldr e2' hm) (alv_append_left hk l1) (alv_append_left hm l2)
      · obtain ⟨_, ea⟩ := newr e2' (Nat.le_of_not_lt hm)
        exact (h3 k (by rw [← ea]; exact oldr e1' hk) (alv_append_left hk l1)).elim
    · obtain ⟨ek, ea⟩ := newr e1' (Nat.le_of_not_lt hk)
      by_cases hm : m < w1.S.length
      · exact (h3 m (by rw [← ea]; exact oldr e2' hm) (alv_append_left hm l2)).elim
      · obtain ⟨em, _⟩ := newr e2' (Nat.le_of_not_lt hm)
        omega
  · by_cases hm : k < w1.S.length
    · exact g.new k a hk (oldr e hm) (alv_append_left hm q)
    · obtain ⟨_, ea⟩ := newr e (Nat.le_of_not_lt hm)
      rw [ea]
      exact n
/-- the cells that came behind n are forgotten -/
theorem take_get {α : Type} {l : List α} {n k : Nat} {x : α} (h : (l.take n)[k]? = some x) : l[k]? = some x ∧ k < n := by
  rw [List.getElem?_take] at h
  by_cases hk : k < n
  · rw [if_pos hk] at h
    exact ⟨h, hk⟩
  · rw [if_neg hk] at h
    cases h
theorem alv_take {S : Store} {n k : Nat} (h : alv (S.take n) k) : alv S k := by
  obtain ⟨c, e, q⟩ := h
  exact ⟨c, (take_get e).1, q⟩
end
/-! no cell from n on is told of -/
mutual
def D.under (n : Nat) : D → Bool
  | .cell k => decide (k < n)
  | .tup l => D.underL n l
  | .lst l => D.underL n l
  | .scr l => D.underL n l
  | _ => true
def D.underL (n : Nat) : List D → Bool
  | [] => true
  | d :: l => D.under n d && D.underL n l
end
section
variable {K : PySem.W.Frag} {r : List Addr} {F : Hp}
mutual
theorem Rp.cut {n : Nat} : ∀ (d : D) (v : V), D.under n d = true → Rp K r F d v → Rp K (r.take n) F d v
  | .non, _, _, h => by unfold Rp at h ⊢; exact h
  | .bl _, _, _, h => by unfold Rp at h ⊢; exact h
  | .int _, _, _, h => by unfold Rp at h ⊢; exact h
  | .str _, _, _, h => by unfold Rp at h ⊢; exact h
  | .raw _, _, _, h => by unfold Rp at h ⊢; exact h
  | .cell k, _, u, h => by
    unfold Rp at h ⊢
    unfold D.under at u
    obtain ⟨a, e, q⟩ := h
    refine ⟨a, ?_, q⟩
    rw [List.getElem?_take, if_pos (of_decide_eq_true u)]
    exact e
  | .tup l, _, u, h => by
    unfold Rp at h ⊢
    unfold D.under at u
    obtain ⟨a, vs, e, q, p⟩ := h
    exact ⟨a, vs, e, q, Rps.cut l vs u p⟩
  | .lst l, _, u, h => by
    unfold Rp at h ⊢
    unfold D.under at u
    obtain ⟨a, vs, e, q, p⟩ := h
    exact ⟨a, vs, e, q, Rps.cut l vs u p⟩
  | .scr l, _, u, h => by
    unfold Rp at h ⊢
    unfold D.under at u
    obtain ⟨a, vs, e, q, p⟩ := h
    exact ⟨a, vs, e, q, Rps.cut l vs u p⟩
  | .cls _, _, _, h => by unfold Rp at h ⊢; exact h
  | .exn _ _, _, _, h => by unfold Rp at h ⊢; exact h
theorem Rps.cut {n : Nat} : ∀ (l : List D) (vs : List V), D.underL n l = true → Rps K r F l vs → Rps K (r.take n) F l vs
  | [], _, _, h => by unfold Rps at h ⊢; exact h
  | d :: l, vs, u, h => by
    unfold Rps at h ⊢
    unfold D.underL at u
    rw [Bool.and_eq_true] at u
    obtain ⟨v, t, e, p, q⟩ := h
    exact ⟨v, t, e, Rp.cut d v u.1 p, Rps.cut l t u.2 q⟩
end
end
def Cn.under (n : Nat) : Cn → Bool
  | .dead => true
  | .lst l => D.underL n l
  | .dct kvs => kvs.all fun p => D.under n p.2
theorem RpK.cut {K : PySem.W.Frag} {r : List Addr} {F : Hp} {n : Nat} : ∀ {kvs : List (Key × D)} {ws : List (Key × V)}, (kvs.all fun p => D.under n p.2) = true → RpK K r F kvs ws → RpK K (r.take n) F kvs ws
  | [], _, _, .nil => .nil
  | p :: kvs, _, u, .cons h t => by
    rw [List.all_cons, Bool.and_eq_true] at u
    exact .cons ⟨h.1, Rp.cut _ _ u.1 h.2⟩ (RpK.cut u.2 t)
theorem CellOk.cut {K : PySem.W.Frag} {r : List Addr} {F H : Hp} {a : Addr} {n : Nat} {c : Cn} (u : c.under n = true) (h : CellOk K r F H a c) : CellOk K (r.take n) F H a c := by
  cases c with
  | dead => exact trivial
  | lst l =>
    obtain ⟨f, vs, e, q⟩ := h
    exact ⟨f, vs, e, Rps.cut _ _ u q⟩
  | dct kvs =>
    obtain ⟨f, vs, e, q⟩ := h
    exact ⟨f, vs, e, RpK.cut u q⟩
/-- a def's end: the cells that it made are forgotten -/
theorem Go.cut {K : PySem.W.Frag} {w w1 : Wl} (g : Go K w w1) (u : ((w1.S.take w.S.length).all fun c => c.under w.S.length) = true) : Go K w ⟨w1.r.take w.S.length, w1.F, w1.S.take w.S.length, w1.H⟩ := by
  have hl := g.slen
  have hr := g.wd.len
  obtain ⟨t, et⟩ := g.pre
  refine ⟨⟨by simp [hr], g.wd.same, fun k a c e1 e2 => ?_, fun k m a e1 e2 l1 l2 => g.wd.inj k m a (take_get e1).1 (take_get e2).1 (alv_take l1) (alv_take l2)⟩, ⟨[], ?_⟩, g.len, fun k hk q => g.live k hk (alv_take q), fun k a hk e q => ?_, g.F, g.fr, g.trk, g.fnew⟩
  · have hm : c ∈ w1.S.take w.S.length := List.mem_of_getElem? e2
    exact (g.wd.cell k a c (take_get e1).1 (take_get e2).1).cut (List.all_eq_true.mp u c hm)
  · show w1.r.take w.S.length = w.r ++ []
    rw [et, ← g.len, List.take_left, List.append_nil]
  · have := (take_get e).2
    have hk' : w.S.length ≤ k := hk
    omega

/-! ### what an end is to show -/
def ExcOk (K : PySem.W.Frag) (mg : Str → Option Value) (w : Wl) (x : Exn) (cls : Value) (dd : Option Addr) : Prop :=
  ∃ C, ClsAt K x.cls C ∧ cls = .ref C ∧ FldOk w.F dd x.val
/-- what the written part tells -/
structure Kt where
  K : PySem.W.Frag
  mg : Str → Option Value
abbrev kt (X : Cx) : Kt := ⟨X.K, X.mg⟩
def SatW {α β : Type} (T : Kt) (W : WX) (σ : L2.St) (R : Wl → α → β → Prop) (w : Wl) (res : Res α) (P : Wl → α → β → Prop) : Prop := match res with
  | .ok d S' => ∀ w' v, Go T.K w w' → w'.S = S' → R w' d v → P w' d v
  | .exc x S' => ∀ w' cls dd, Go T.K w w' → w'.S = S' → ExcOk T.K T.mg w' x cls dd → W cls dd σ w'.H
  | .bad => False
section
variable {α β γ δ : Type} {T : Kt} {W : WX} {σ : L2.St} {R : Wl → α → β → Prop} {R' : Wl → γ → δ → Prop} {w w1 : Wl}
theorem SatW.pre {res : Res α} {P : Wl → α → β → Prop} (h : SatW T W σ R w res P) (g : Go T.K w w1) : SatW T W σ R w1 res P := by
  cases res with
  | ok d S => exact fun w' v g' e q => h w' v (g.trans g') e q
  | exc x S => exact fun w' cls dd g' e q => h w' cls dd (g.trans g') e q
  | bad => exact h
theorem SatW.bind {x : Res α} {k : α → Store → Res γ} {P : Wl → γ → δ → Prop} (h : SatW T W σ R' w (x.bind k) P) : SatW T W σ R w x (fun w1 d _ => SatW T W σ R' w1 (k d w1.S) P) := by
  cases x with
  | ok d S => exact fun w' v g e q => by subst e; exact SatW.pre (res := k d w'.S) h g
  | exc x S => exact h
  | bad => exact h
theorem SatW.imp {res : Res α} {P P' : Wl → α → β → Prop} (h : SatW T W σ R w res P) (hP : ∀ w' d v, Go T.K w w' → R w' d v → P w' d v → P' w' d v) : SatW T W σ R w res P' := by
  cases res with
  | ok d S => exact fun w' v g e q => hP w' d v g q (h w' v g e q)
  | exc x S => exact h
  | bad => exact h
theorem SatW.here {d : α} {v : β} {P : Wl → α → β → Prop} (h : SatW T W σ R w (.ok d w.S) P) (hw : Wd T.K w) (q : R w d v) : P w d v := h w v (Go.refl hw) rfl q
end

def EnvOk (K : PySem.W.Frag) (w : Wl) (env : Env) (σ : L2.St) : Prop := env.length = σ.length ∧ ∀ (i : Nat) d, env[i]? = some (some d) → ∃ v, σ[i]? = some (some v) ∧ Rp K w.r w.F d v
theorem EnvOk.go {K : PySem.W.Frag} {w w1 : Wl} {env : Env} {σ : L2.St} (h : EnvOk K w env σ) (g : Go K w w1) : EnvOk K w1 env σ :=
  ⟨h.1, fun i d e => let ⟨v, e2, q⟩ := h.2 i d e; ⟨v, e2, q.go g⟩⟩
theorem EnvOk.set {K : PySem.W.Frag} {w : Wl} {env : Env} {σ : L2.St} (h : EnvOk K w env σ) {i : Nat} {d : D} {v : V} (q : Rp K w.r w.F d v) : EnvOk K w (env.set i (some d)) (σ.set i (some v)) := by
  refine ⟨by simp [h.1], fun j d' e => ?_⟩
  rw [List.getElem?_set] at e
  by_cases hj : i = j
  · subst hj
    rw [if_pos rfl] at e
    by_cases hl : i < env.length
    · rw [if_pos hl] at e
      have ed : d = d' := by injection (Option.some.inj e)
      subst ed
      exact ⟨v, by rw [List.getElem?_set_self (by rw [← h.1]; exact hl)], q⟩
    · rw [if_neg hl] at e
      cases e
  · rw [if_neg hj] at e
    obtain ⟨v', e2, q'⟩ := h.2 j d' e
    exact ⟨v', by rw [List.getElem?_set_ne hj]; exact e2, q'⟩
theorem EnvOk.unset {K : PySem.W.Frag} {w : Wl} {env : Env} {σ : L2.St} (h : EnvOk K w env σ) {i : Nat} : EnvOk K w (env.set i none) (σ.set i none) := by
  refine ⟨by simp [h.1], fun j d' e => ?_⟩
  rw [List.getElem?_set] at e
  by_cases hj : i = j
  · subst hj
    rw [if_pos rfl] at e
    by_cases hl : i < env.length
    · rw [if_pos hl] at e
      cases Option.some.inj e
    · rw [if_neg hl] at e
      cases e
  · rw [if_neg hj] at e
    obtain ⟨v', e2, q'⟩ := h.2 j d' e
    exact ⟨v', by rw [List.getElem?_set_ne hj]; exact e2, q'⟩

abbrev RD (K : PySem.W.Frag) : Wl → D → V → Prop := fun w d v => Rp K w.r w.F d v
abbrev RDs (K : PySem.W.Frag) : Wl → List D → List V → Prop := fun w d v => Rps K w.r w.F d v
abbrev RB : Wl → Bool → Bool → Prop := fun _ a b => a = b

/-- the readings -/
def tD (T : Kt) (W : WX) (f : Env → M D) : TE := fun σ H Q => ∃ (w : Wl) (env : Env), w.H = H ∧ Wd T.K w ∧ EnvOk T.K w env σ ∧ SatW T W σ (RD T.K) w (f env w.S) (fun w' _ v => Q v w'.H)
def tDB (T : Kt) (W : WX) (f : Env → M Bool) : TT := fun σ H Q => ∃ (w : Wl) (env : Env), w.H = H ∧ Wd T.K w ∧ EnvOk T.K w env σ ∧ SatW T W σ RB w (f env w.S) (fun w' _ v => Q v w'.H)
def tDA (T : Kt) (W : WX) (f : Env → M (List D)) : TA := fun σ H Q => ∃ (w : Wl) (env : Env), w.H = H ∧ Wd T.K w ∧ EnvOk T.K w env σ ∧ SatW T W σ (RDs T.K) w (f env w.S) (fun w' _ v => Q v w'.H)
def PD (X : Cx) (W : WX) (e : Expr) (f : Env → M D) : Prop := PE X e (tD (kt X) W f)
def PTD (X : Cx) (W : WX) (e : Expr) (f : Env → M Bool) : Prop := PT X e (tDB (kt X) W f)
def PWD (X : Cx) (W : WX) (e : Expr) (f : Env → M Bool) : Prop := PW X e (tDB (kt X) W f)
def PAD (X : Cx) (W : WX) (es : List Expr) (f : Env → M (List D)) : Prop := PA X es (tDA (kt X) W f)
theorem weakE {X : Cx} {e : Expr} {t t' : TE} (h : PE X e t) (q : ∀ σ H Q, t' σ H Q → t σ H Q) : PE X e t' := ⟨fun pins s σ H Q I z => h.run pins s σ H Q I (q _ _ _ z)⟩
theorem weakT {X : Cx} {e : Expr} {t t' : TT} (h : PT X e t) (q : ∀ σ H Q, t' σ H Q → t σ H Q) : PT X e t' := ⟨fun pins s σ H Q I z => h.run pins s σ H Q I (q _ _ _ z)⟩
theorem weakW {X : Cx} {e : Expr} {t t' : TT} (h : PW X e t) (q : ∀ σ H Q, t' σ H Q → t σ H Q) : PW X e t' := ⟨fun wh pins s σ H Q I z => h.run wh pins s σ H Q I (q _ _ _ z)⟩
theorem weakA {X : Cx} {e : List Expr} {t t' : TA} (h : PA X e t) (q : ∀ σ H Q, t' σ H Q → t σ H Q) : PA X e t' := ⟨fun pos pins s σ H Q I z => h.run pos pins s σ H Q I (q _ _ _ z)⟩
theorem weakS {X : Cx} {e : Stmt} {t t' : TS} (h : PS X e t) (q : ∀ D σ H, t' D σ H → t D σ H) : PS X e t' := ⟨fun pins s σ H D I z => h.run pins s σ H D I (q _ _ _ z)⟩
theorem weakSs {X : Cx} {e : List Stmt} {t t' : TS} (h : PSs X e t) (q : ∀ D σ H, t' D σ H → t D σ H) : PSs X e t' := ⟨fun pins s σ H D I z => h.run pins s σ H D I (q _ _ _ z)⟩
end Dv
/-! # Dv2: expressions -/
namespace Dv
open PySem PySem.Spec PyProof.Rows L2

/-! ### reading a list -/
def getL (d : D) (S : Store) : Option (List D) := match d with
  | .lst l => some l
  | .cell n => match S[n]? with
    | some (.lst l) => some l
    | _ => none
  | _ => none
def getT : D → Option (List D)
  | .tup l => some l
  | _ => none
section
variable {K : PySem.W.Frag} {w : Wl} {d : D} {v : V} {l : List D}
theorem getL_cell {n : Nat} (h : getL (.cell n) w.S = some l) : w.S[n]? = some (.lst l) := by
  simp only [getL] at h
  split at h
  · rename_i l' e
    rw [e, Option.some.inj h]
  · cases h
theorem getL_ok (hw : Wd K w) (hr : Rp K w.r w.F d v) (h : getL d w.S = some l) : ∃ a vs, v = .ref a ∧ w.H a = some (.lst vs) ∧ Rps K w.r w.F l vs := by
  cases d with
  | lst l' =>
    have e : l' = l := Option.some.inj h
    subst e
    unfold Rp at hr
    obtain ⟨a, vs, e, q, p⟩ := hr
    exact ⟨a, vs, e, hw.same _ _ q, p⟩
  | cell n =>
    have hs := getL_cell h
    unfold Rp at hr
    obtain ⟨a, e, q⟩ := hr
    obtain ⟨_, vs, e2, p⟩ := hw.cell n a _ e hs
    exact ⟨a, vs, q, e2, p⟩
  | non => cases h
  | bl _ => cases h
  | int _ => cases h
  | str _ => cases h
  | tup _ => cases h
  | scr _ => cases h
  | raw _ => cases h
  | cls _ => cases h
  | exn _ _ => cases h
/-- a list that is read alone -/
def getQ (d : D) (S : Store) : Option (List D) := match d with
  | .scr l => some l
  | d => getL d S
@[simp] theorem getQ_lst {l : List D} {S : Store} : getQ (.lst l) S = some l := rfl
@[simp] theorem getQ_scr {l : List D} {S : Store} : getQ (.scr l) S = some l := rfl
@[simp] theorem getQ_cell {n : Nat} {S : Store} : getQ (.cell n) S = getL (.cell n) S := rfl
@[simp] theorem getL_lst {l : List D} {S : Store} : getL (.lst l) S = some l := rfl
theorem getQ_ok (hw : Wd K w) (hr : Rp K w.r w.F d v) (h : getQ d w.S = some l) : ∃ a vs, v = .ref a ∧ SqL K w.H a vs ∧ Rps K w.r w.F l vs := by
  have gen : getL d w.S = some l → ∃ a vs, v = .ref a ∧ SqL K w.H a vs ∧ Rps K w.r w.F l vs := fun h => by
    obtain ⟨a, vs, e, q, p⟩ := getL_ok hw hr h
    exact ⟨a, vs, e, .inl (.inl q), p⟩
  cases d with
  | scr l' =>
    have e : l' = l := Option.some.inj h
    subst e
    unfold Rp at hr
    obtain ⟨a, vs, e, q, p⟩ := hr
    exact ⟨a, vs, e, hw.same.seq q, p⟩
  | _ => exact gen h
theorem getT_ok (hw : Wd K w) (hr : Rp K w.r w.F d v) (h : getT d = some l) : ∃ a vs, v = .ref a ∧ Rd w.H a (.tup vs) ∧ Rps K w.r w.F l vs := by
  cases d with
  | tup l' =>
    have e : l' = l := Option.some.inj h
    subst e
    unfold Rp at hr
    obtain ⟨a, vs, e, q, p⟩ := hr
    exact ⟨a, vs, e, rd_same hw.same q, p⟩
  | _ => cases h
end

/-! ### what makes a list: a frozen one, or a cell -/
def mkF : List D → M D := fun l S => .ok (.lst l) S
def mkC : List D → M D := fun l S => .ok (.cell S.length) (S ++ [.lst l])
structure Mk (mk : List D → M D) : Prop where
  adopt : ∀ {T : Kt} {W : WX} {σ : L2.St} {w w1 : Wl} {l : List D} {vs : List V} {p : Addr} {P : Wl → D → V → Prop}, Go T.K w w1 → w.H p = none → w1.H p = some (.lst vs) → w1.F p = none → (∀ (n : Nat), w1.r[n]? = some p → ¬ alv w1.S n) → Rps T.K w1.r w1.F l vs →
    SatW T W σ (RD T.K) w (mk l w1.S) P → ∃ w' d, w'.H = w1.H ∧ P w' d (.ref p)
  ok : ∀ {X : Kt} {W : WX} {σ : L2.St} {w : Wl} {l : List D} {vs : List V} {p : Addr} {P : Wl → D → V → Prop}, Wd X.K w → w.H p = none → Rps X.K w.r w.F l vs → SatW X W σ (RD X.K) w (mk l w.S) P →
    ∃ w' d, w'.H = upd w.H p (.lst vs) ∧ P w' d (.ref p)
theorem mk_F : Mk mkF where
  adopt := fun {T W σ w w1 l vs p P} g hn h1 h2 h3 hr h => ⟨⟨w1.r, upd w1.F p (.lst vs), w1.S, w1.H⟩, _, rfl, h ⟨w1.r, upd w1.F p (.lst vs), w1.S, w1.H⟩ (.ref p) (Go.adopt g hn h1 h2 h3) rfl (by
    unfold RD Rp
    exact ⟨p, vs, rfl, upd_same, Rps.mono ⟨[], by simp⟩ (fun b x e => by show upd w1.F p _ b = _; rw [upd_ne (ne_of_none e h2)]; exact e) _ _ hr⟩)⟩
  ok := fun {X W σ w l vs p P} hw hn hr h => ⟨_, _, rfl, h ⟨w.r, upd w.F p (.lst vs), w.S, upd w.H p (.lst vs)⟩ (.ref p) (Go.alloc hw hn) rfl (by
    unfold RD Rp
    exact ⟨p, vs, rfl, upd_same, Rps.mono ⟨[], by simp⟩ (fun b x e => by show upd w.F p _ b = _; rw [upd_ne (ne_of_none e (hw.fresh hn))]; exact e) _ _ hr⟩)⟩
theorem mk_C : Mk mkC where
  adopt := fun {T W σ w w1 l vs p P} g hn h1 h2 h3 hr h => ⟨⟨w1.r ++ [p], w1.F, w1.S ++ [.lst l], w1.H⟩, _, rfl, h ⟨w1.r ++ [p], w1.F, w1.S ++ [.lst l], w1.H⟩ (.ref p) (Go.adoptCell (c := .lst l) g hn h1 h2 h3 (by exact ⟨h2, vs, h1, Rps.mono ⟨[p], rfl⟩ (Same.refl _) _ _ hr⟩)) rfl (by
    unfold RD Rp
    refine ⟨p, ?_, rfl⟩
    show (w1.r ++ [p])[w1.S.length]? = some p
    rw [← g.wd.len, List.getElem?_append_right (Nat.le_refl _), Nat.sub_self]
    rfl)⟩
  ok := fun {X W σ w l vs p P} hw hn hr h => ⟨_, _, rfl, h ⟨w.r ++ [p], w.F, w.S ++ [.lst l], upd w.H p (.lst vs)⟩ (.ref p) (Go.newCell (c := .lst l) hw hn (by exact ⟨hw.fresh hn, vs, upd_same, Rps.mono ⟨[p], rfl⟩ (Same.refl _) _ _ hr⟩)) rfl (by
    unfold RD Rp
    refine ⟨p, ?_, rfl⟩
    show (w.r ++ [p])[w.S.length]? = some p
    rw [← hw.len, List.getElem?_append_right (Nat.le_refl _), Nat.sub_self]
    rfl)⟩
theorem Mk.go {mk : List D → M D} (m : Mk mk) {X : Kt} {W : WX} {σ : L2.St} {w : Wl} {l : List D} {vs : List V} {Q : VK} (hw : Wd X.K w) (hr : Rps X.K w.r w.F l vs) (h : SatW X W σ (RD X.K) w (mk l w.S) (fun w' _ v => Q v w'.H)) :
    ∀ p, w.H p = none → Q (.ref p) (upd w.H p (.lst vs)) := fun p hn => by
  obtain ⟨w', d, e, q⟩ := m.ok hw hn hr h
  rw [← e]
  exact q
/-- a new tuple -/
theorem tup_go {X : Kt} {W : WX} {σ : L2.St} {w : Wl} {l : List D} {vs : List V} {Q : VK} (hw : Wd X.K w) (hr : Rps X.K w.r w.F l vs) (h : SatW X W σ (RD X.K) w (.ok (.tup l) w.S) (fun w' _ v => Q v w'.H)) :
    ∀ p, w.H p = none → Q (.ref p) (upd w.H p (.tup vs)) := fun p hn =>
  h ⟨w.r, upd w.F p (.tup vs), w.S, upd w.H p (.tup vs)⟩ (.ref p) (Go.alloc hw hn) rfl (by
    unfold RD Rp
    exact ⟨p, vs, rfl, .inl upd_same, Rps.mono ⟨[], by simp⟩ (fun b x e => by show upd w.F p _ b = _; rw [upd_ne (ne_of_none e (hw.fresh hn))]; exact e) _ _ hr⟩)

/-! ### the small expressions -/
def xVar (i : Nat) : Env → M D := fun e S => match e[i]? with
  | some (some d) => .ok d S
  | _ => .bad
def xC (d : D) : Env → M D := fun _ S => .ok d S
def xOp (g : D → D → M D) (a b : Env → M D) : Env → M D := fun e S => (a e S).bind fun x S1 => (b e S1).bind fun y S2 => g x y S2
def xUn (g : D → M D) (a : Env → M D) : Env → M D := fun e S => (a e S).bind fun x S1 => g x S1
def xNil : Env → M (List D) := fun _ S => .ok [] S
def xCons (a : Env → M D) (b : Env → M (List D)) : Env → M (List D) := fun e S => (a e S).bind fun x S1 => (b e S1).bind fun y S2 => .ok (x :: y) S2
def xFn (g : List D → M D) (a : Env → M (List D)) : Env → M D := fun e S => (a e S).bind fun x S1 => g x S1
def xTup (a : Env → M (List D)) : Env → M D := xFn (fun l S => if l.length ≤ 1000 then .ok (.tup l) S else .bad) a
def xLst (mk : List D → M D) (a : Env → M (List D)) : Env → M D := xFn (fun l S => if l.length ≤ 1000 then mk l S else .bad) a
theorem line1000 {n : Nat} (h : n ≤ 1000) : n ≤ sizeLine := Nat.le_trans h (by rw [sizeLine_eq]; decide)
theorem line16 {n : Nat} (h : n ≤ 16000000) : n ≤ sizeLine := Nat.le_trans h (by rw [sizeLine_eq]; decide)
theorem satIf {α β : Type} {X : Kt} {W : WX} {σ : L2.St} {R : Wl → α → β → Prop} {w : Wl} {c : Prop} [Decidable c] {res : Res α} {P : Wl → α → β → Prop} (h : SatW X W σ R w (if c then res else .bad) P) : c ∧ SatW X W σ R w res P := by
  by_cases hc : c
  · rw [if_pos hc] at h
    exact ⟨hc, h⟩
  · rw [if_neg hc] at h
    exact h.elim

def OpD (X : Cx) (fn : Value → Value → Sem Value) (g : D → D → M D) : Prop :=
  ∃ rr : R2, OpR X fn rr ∧ ∀ (w : Wl) (x y : V) (d e : D) (W : WX) (σ : L2.St) (Q : VK), Wd X.K w → RD X.K w d x → RD X.K w e y → SatW (kt X) W σ (RD X.K) w (g d e w.S) (fun w' _ v => Q v w'.H) → rr x y w.H Q
def IxD (X : Cx) (g : D → D → M D) : Prop :=
  ∃ rr : R2, IxR X rr ∧ ∀ (w : Wl) (x y : V) (d e : D) (W : WX) (σ : L2.St) (Q : VK), Wd X.K w → RD X.K w d x → RD X.K w e y → SatW (kt X) W σ (RD X.K) w (g d e w.S) (fun w' _ v => Q v w'.H) → rr x y w.H Q
def UnD (X : Cx) (fn : Value → Sem Value) (g : D → M D) : Prop :=
  ∃ rr : V → Hp → VK → Prop, UnR X fn rr ∧ ∀ (w : Wl) (x : V) (d : D) (W : WX) (σ : L2.St) (Q : VK), Wd X.K w → RD X.K w d x → SatW (kt X) W σ (RD X.K) w (g d w.S) (fun w' _ v => Q v w'.H) → rr x w.H Q
def CallD (X : Cx) (f : Value) (g : List D → M D) : Prop :=
  ∃ rr : List V → Hp → VK → Prop, CallR X f rr ∧ ∀ (w : Wl) (xs : List V) (ds : List D) (W : WX) (σ : L2.St) (Q : VK), Wd X.K w → RDs X.K w ds xs → SatW (kt X) W σ (RD X.K) w (g ds w.S) (fun w' _ v => Q v w'.H) → rr xs w.H Q
section
variable {X : Cx} {W : WX} {a b e : Expr} {es : List Expr} {f g : Env → M D} {h : Env → M (List D)} {pos : Pos}
theorem pd_var {i : Nat} {x : Str} (hN : X.N[i]? = some x := by rfl) (hv : Vis X.env.scope x := by first | exact Or.inl rfl | exact Or.inr (Or.inl rfl) | exact Or.inr (Or.inr rfl)) (hd : (x == ("__debug__" : Str)) = false := by decide)
    (hcd : (x == ("__classdict__" : Str)) = false := by decide) : PD X W (.Name x pos) (xVar i) := by
  refine weakE (pe_var (i := i) hN hv hd hcd) fun σ H Q ⟨w, env, eH, hw, he, hs⟩ => ?_
  subst eH
  unfold xVar at hs
  cases q : env[i]? with
  | none => rw [q] at hs; exact hs.elim
  | some o =>
    cases o with
    | none => rw [q] at hs; exact hs.elim
    | some d =>
      rw [q] at hs
      obtain ⟨v, e1, r⟩ := he.2 i d q
      exact ⟨v, e1, SatW.here hs hw r⟩
theorem pd_c {t : TE} {d : D} {v : V} (h : PE X e t) (ht : ∀ σ H Q, Q v H → t σ H Q) (hr : ∀ K r F, Rp K r F d v) : PD X W e (xC d) := by
  refine weakE h fun σ H Q ⟨w, env, eH, hw, he, hs⟩ => ht _ _ _ ?_
  subst eH
  exact SatW.here (d := d) (v := v) hs hw (hr _ _ _)
theorem pd_int {i j} : PD X W (.Constant (.int i) j pos) (xC (.int i)) := pd_c pe_int (fun _ _ _ q => q) fun _ _ _ => by unfold Rp; rfl
theorem pd_bl {i j} : PD X W (.Constant (.bool i) j pos) (xC (.bl i)) := pd_c pe_bl (fun _ _ _ q => q) fun _ _ _ => by unfold Rp; rfl
theorem pd_non {j} : PD X W (.Constant .none j pos) (xC .non) := pd_c pe_non (fun _ _ _ q => q) fun _ _ _ => by unfold Rp; rfl
theorem pd_str {i j} : PD X W (.Constant (.str i) j pos) (xC (.str i)) := pd_c pe_str (fun _ _ _ q => q) fun _ _ _ => by unfold Rp; rfl
theorem two {rr : R2} {k : D → D → M D} (h1 : ∀ (w : Wl) (x y : V) (d e : D) (W : WX) (σ : L2.St) (Q : VK), Wd X.K w → RD X.K w d x → RD X.K w e y → SatW (kt X) W σ (RD X.K) w (k d e w.S) (fun w' _ v => Q v w'.H) → rr x y w.H Q)
    {σ : L2.St} {H : Hp} {Q : VK} (h : tD (kt X) W (xOp k f g) σ H Q) : tOp rr (tD (kt X) W f) (tD (kt X) W g) σ H Q := by
  obtain ⟨w, env, eH, hw, he, hs⟩ := h
  subst eH
  refine ⟨w, env, rfl, hw, he, SatW.imp (SatW.bind hs) fun w1 x v g1 r1 s1 => ?_⟩
  refine ⟨w1, env, rfl, g1.wd, he.go g1, SatW.imp (SatW.bind s1) fun w2 y u g2 r2 s2 => ?_⟩
  exact h1 w2 v u x y W σ Q g2.wd (Rp.go g2 r1) r2 s2
theorem pd_op {op : Operator} {k : D → D → M D} (ho : OpD X (binaryOp op) k) (ha : PD X W a f) (hb : PD X W b g) : PD X W (.BinOp a op b pos) (xOp k f g) := by
  obtain ⟨rr, ro, h1⟩ := ho
  exact weakE (pe_op ro ha hb) fun σ H Q => two h1
theorem pd_cmp {op : CmpOp} {k : D → D → M D} (ho : OpD X (compareOp op) k) (ha : PD X W a f) (hb : PD X W b g) (hm : behindInMarks op b = false := by first | exact nomark _ | rfl) : PD X W (.Compare a [op] [b] pos) (xOp k f g) := by
  obtain ⟨rr, ro, h1⟩ := ho
  exact weakE (pe_cmpR ro ha hb hm) fun σ H Q => two h1
theorem pd_ix {k : D → D → M D} (ho : IxD X k) (ha : PD X W a f) (hb : PD X W b g) (hs : PlainIx b := by exact fun _ _ => rfl) : PD X W (.Subscript a b pos) (xOp k f g) := by
  obtain ⟨rr, ro, h1⟩ := ho
  exact weakE (pe_ix ro ha hb hs) fun σ H Q => two h1
theorem pd_un {op : UnaryOp} {k : D → M D} (ho : UnD X (unaryOp op) k) (ha : PD X W a f) : PD X W (.UnaryOp op a pos) (xUn k f) := by
  obtain ⟨rr, ro, h1⟩ := ho
  refine weakE (pe_un ro ha) fun σ H Q ⟨w, env, eH, hw, he, hs⟩ => ?_
  subst eH
  refine ⟨w, env, rfl, hw, he, SatW.imp (SatW.bind hs) fun w1 x v g1 r1 s1 => ?_⟩
  exact h1 w1 v x W σ Q g1.wd r1 s1
theorem pad_nil : PAD X W [] xNil := by
  refine weakA pa_nil fun σ H Q ⟨w, env, eH, hw, he, hs⟩ => ?_
  subst eH
  exact SatW.here (d := []) (v := []) hs hw rps_nil
theorem pad_cons (ha : PD X W e f) (hr : PAD X W es h) (hs : starEach (e :: es) X.env = (false, eval e X.env) :: starEach es X.env := by rfl) : PAD X W (e :: es) (xCons f h) := by
  refine weakA (pa_cons ha hr hs) fun σ H Q ⟨w, env, eH, hw, he, hs⟩ => ?_
  subst eH
  refine ⟨w, env, rfl, hw, he, SatW.imp (SatW.bind hs) fun w1 x v g1 r1 s1 => ?_⟩
  refine ⟨w1, env, rfl, g1.wd, he.go g1, SatW.imp (SatW.bind s1) fun w2 y u g2 r2 s2 => ?_⟩
  exact SatW.here (d := x :: y) (v := v :: u) s2 g2.wd (rps_cons (Rp.go g2 r1) r2)
theorem pd_tup {k : Nat} (ha : PAD X W es h) : PD X W (.Tuple es k pos) (xTup h) := by
  refine weakE (pe_tup ha) fun σ H Q ⟨w, env, eH, hw, he, hs⟩ => ?_
  subst eH
  refine ⟨w, env, rfl, hw, he, SatW.imp (SatW.bind hs) fun w1 x v g1 r1 s1 => ?_⟩
  obtain ⟨hl, s1⟩ := satIf s1
  exact ⟨line1000 (by rw [Rps.length r1]; exact hl), tup_go g1.wd r1 s1⟩
theorem pd_lst {mk : List D → M D} (m : Mk mk) (ha : PAD X W es h) : PD X W (.List es pos) (xLst mk h) := by
  refine weakE (pe_lst ha) fun σ H Q ⟨w, env, eH, hw, he, hs⟩ => ?_
  subst eH
  refine ⟨w, env, rfl, hw, he, SatW.imp (SatW.bind hs) fun w1 x v g1 r1 s1 => ?_⟩
  obtain ⟨hl, s1⟩ := satIf s1
  exact ⟨line1000 (by rw [Rps.length r1]; exact hl), m.go g1.wd r1 s1⟩
theorem callB {rr : List V → Hp → VK → Prop} {k : List D → M D} (h1 : ∀ (w : Wl) (xs : List V) (ds : List D) (W : WX) (σ : L2.St) (Q : VK), Wd X.K w → RDs X.K w ds xs → SatW (kt X) W σ (RD X.K) w (k ds w.S) (fun w' _ v => Q v w'.H) → rr xs w.H Q)
    {σ : L2.St} {H : Hp} {Q : VK} (hh : tD (kt X) W (xFn k h) σ H Q) : tCB rr (tDA (kt X) W h) σ H Q := by
  obtain ⟨w, env, eH, hw, he, hs⟩ := hh
  subst eH
  refine ⟨w, env, rfl, hw, he, SatW.imp (SatW.bind hs) fun w1 x v g1 r1 s1 => ?_⟩
  exact h1 w1 v x W σ Q g1.wd r1 s1
/-- a built-in function, a built-in class called -/
theorem pd_callB {id : String} {x : Str} {p : Pos} {k : List D → M D} (hc : CallD X (.builtin id) k) (hg : Gl X x) (hm : X.mg x = none) (hv : bootBuiltins x = some (.builtin id)) (ha : PAD X W (e :: es) h) (hn : x ≠ "__name__" := by decide) (hdb : (x == ("__debug__" : Str)) = false := by decide)
    (he : starEach (e :: es) X.env = (false, eval e X.env) :: starEach es X.env := by rfl) (hpl : (backTo pos (starEach es X.env)).any (·.1) = false := by rfl) : PD X W (.Call (.Name x p) (e :: es) [] pos) (xFn k h) := by
  obtain ⟨rr, ro, h1⟩ := hc
  exact weakE (pe_callB ro hg hm hv ha hn hdb he hpl) fun σ H Q => callB h1
theorem pd_callTy {T : String} {x : Str} {p : Pos} {k : List D → M D} (hc : CallD X (.type T) k) (hg : Gl X x) (hm : X.mg x = none) (hv : bootBuiltins x = some (.type T)) (ha : PAD X W (e :: es) h) (hn : x ≠ "__name__" := by decide) (hdb : (x == ("__debug__" : Str)) = false := by decide)
    (he : starEach (e :: es) X.env = (false, eval e X.env) :: starEach es X.env := by rfl) (hpl : (backTo pos (starEach es X.env)).any (·.1) = false := by rfl) : PD X W (.Call (.Name x p) (e :: es) [] pos) (xFn k h) := by
  obtain ⟨rr, ro, h1⟩ := hc
  exact weakE (pe_callTy ro hg hm hv ha hn hdb he hpl) fun σ H Q => callB h1
end
end Dv
/-! # Dv3: tests, statements, loops, calls -/
namespace Dv
open PySem PySem.Spec PyProof.Rows L2

/-! ### tests -/
/-- a value's truth -/
def tru (d : D) (S : Store) : Res Bool := match d with
  | .non => .ok false S
  | .bl b => .ok b S
  | .int i => .ok (i != 0) S
  | .str x => if x.length ≤ 16000000 then .ok ((x.length : Int) != 0) S else .bad
  | .tup l => .ok (!l.isEmpty) S
  | .lst l => .ok (!l.isEmpty) S
  | .scr l => .ok (!l.isEmpty) S
  | .cell n => match S[n]? with
    | some (.lst l) => .ok (!l.isEmpty) S
    | some (.dct l) => .ok (!l.isEmpty) S
    | _ => .bad
  | .raw _ => .bad
  | .cls _ => .bad
  | .exn _ _ => .bad
def xTru (f : Env → M D) : Env → M Bool := fun e S => (f e S).bind tru
def xIsT (f : Env → M D) : Env → M Bool := fun e S => (f e S).bind fun d S1 => match d with
  | .bl b => .ok b S1
  | _ => .bad
def xNot (f : Env → M Bool) : Env → M Bool := fun e S => (f e S).bind fun b S1 => .ok (!b) S1
def xAnd (f g : Env → M Bool) : Env → M Bool := fun e S => (f e S).bind fun b S1 => if b then g e S1 else .ok false S1
def xOr (f g : Env → M Bool) : Env → M Bool := fun e S => (f e S).bind fun b S1 => if b then .ok true S1 else g e S1
def xAndV (f g : Env → M D) : Env → M D := fun e S => (f e S).bind fun d S1 => match d with
  | .bl true => g e S1
  | .bl false => .ok (.bl false) S1
  | _ => .bad
def xOrV (f g : Env → M D) : Env → M D := fun e S => (f e S).bind fun d S1 => match d with
  | .bl true => .ok (.bl true) S1
  | .bl false => g e S1
  | _ => .bad
def xNotV (f : Env → M D) : Env → M D := fun e S => (f e S).bind fun d S1 => match d with
  | .bl b => .ok (.bl (!b)) S1
  | _ => .bad
def xIf (c : Env → M Bool) (f g : Env → M D) : Env → M D := fun e S => (c e S).bind fun b S1 => if b then f e S1 else g e S1
section
variable {X : Cx} {W : WX} {a b c e : Expr} {es rest : List Expr} {f g : Env → M D} {k k' : Env → M Bool} {h : Env → M (List D)} {pos : Pos}
theorem ptd_cmp {op : CmpOp} {k : D → D → M D} (ho : OpD X (compareOp op) k) (ha : PD X W a f) (hb : PD X W b g) (hm : behindInMarks op b = false := by first | exact nomark _ | rfl) : PTD X W (.Compare a [op] [b] pos) (xIsT (xOp k f g)) := by
  obtain ⟨rr, ro, h1⟩ := ho
  refine weakT (pt_cmpR ro ha hb hm) fun σ H Q ⟨w, env, eH, hw, he, hs⟩ => ?_
  subst eH
  refine two h1 ⟨w, env, rfl, hw, he, SatW.imp (SatW.bind hs) fun w1 d v g1 r1 s1 => ?_⟩
  cases d with
  | bl b =>
    obtain rfl : v = V.bl b := by
      have r2 : Rp X.K w1.r w1.F (.bl b) v := r1
      unfold Rp at r2; exact r2
    exact ⟨b, rfl, SatW.here (d := b) (v := b) s1 g1.wd rfl⟩
  | _ => exact s1.elim
theorem rp_bl {K : PySem.W.Frag} {r : List Addr} {F : Hp} {b : Bool} {v : V} (h : Rp K r F (.bl b) v) : v = .bl b := by unfold Rp at h; exact h
theorem rp_int {K : PySem.W.Frag} {r : List Addr} {F : Hp} {b : Int} {v : V} (h : Rp K r F (.int b) v) : v = .int b := by unfold Rp at h; exact h
theorem rp_str {K : PySem.W.Frag} {r : List Addr} {F : Hp} {b : Str} {v : V} (h : Rp K r F (.str b) v) : v = .str b := by unfold Rp at h; exact h
theorem rp_non {K : PySem.W.Frag} {r : List Addr} {F : Hp} {v : V} (h : Rp K r F .non v) : v = .non := by unfold Rp at h; exact h
theorem rp_raw {K : PySem.W.Frag} {r : List Addr} {F : Hp} {b v : V} (h : Rp K r F (.raw b) v) : v = b := by unfold Rp at h; exact h
theorem rpb {K : PySem.W.Frag} {r : List Addr} {F : Hp} {b : Bool} : Rp K r F (.bl b) (.bl b) := by unfold Rp; rfl
theorem rpi {K : PySem.W.Frag} {r : List Addr} {F : Hp} {b : Int} : Rp K r F (.int b) (.int b) := by unfold Rp; rfl
theorem rps {K : PySem.W.Frag} {r : List Addr} {F : Hp} {b : Str} : Rp K r F (.str b) (.str b) := by unfold Rp; rfl
theorem rpn {K : PySem.W.Frag} {r : List Addr} {F : Hp} : Rp K r F .non .non := by unfold Rp; rfl
theorem isEmpty_rps {K : PySem.W.Frag} {r : List Addr} {F : Hp} {l : List D} {vs : List V} (h : Rps K r F l vs) : vs.isEmpty = l.isEmpty := by
  have e := h.length
  cases l <;> cases vs <;> first | rfl | simp at e
theorem isEmpty_rpk {K : PySem.W.Frag} {r : List Addr} {F : Hp} {l : List (Key × D)} {vs : List (Key × V)} (h : RpK K r F l vs) : vs.isEmpty = l.isEmpty := by
  cases h <;> rfl
theorem tru_sat {T : Kt} {σ : L2.St} {w : Wl} {d : D} {v : V} {Q : Bool → Hp → Prop} (hw : Wd T.K w) (r : RD T.K w d v) (hs : SatW T W σ RB w (tru d w.S) (fun w' _ v => Q v w'.H)) : ∃ k, TruV T.K v w.H k ∧ Q k w.H := by
  have r' : Rp T.K w.r w.F d v := r
  cases d with
  | non => cases rp_non r'; exact ⟨false, rfl, SatW.here (d := false) (v := false) hs hw rfl⟩
  | bl b => cases rp_bl r'; exact ⟨b, rfl, SatW.here (d := b) (v := b) hs hw rfl⟩
  | int i => cases rp_int r'; exact ⟨_, rfl, SatW.here (d := (i != 0)) (v := (i != 0)) hs hw rfl⟩
  | str x =>
    cases rp_str r'
    unfold tru at hs
    obtain ⟨hl, hs⟩ := satIf hs
    exact ⟨_, ⟨line16 hl, rfl⟩, SatW.here (d := ((x.length : Int) != 0)) (v := ((x.length : Int) != 0)) hs hw rfl⟩
  | tup l =>
    obtain ⟨a, vs, rfl, q, p⟩ := getT_ok hw r' rfl
    exact ⟨!l.isEmpty, .inr (.inl ⟨vs, .inl q, by rw [isEmpty_rps p]⟩), SatW.here (d := !l.isEmpty) (v := !l.isEmpty) hs hw rfl⟩
  | lst l =>
    obtain ⟨a, vs, rfl, q, p⟩ := getL_ok hw r' rfl
    exact ⟨!l.isEmpty, .inl ⟨vs, .inl (.inl q), by rw [isEmpty_rps p]⟩, SatW.here (d := !l.isEmpty) (v := !l.isEmpty) hs hw rfl⟩
  | scr l =>
    obtain ⟨a, vs, rfl, q, p⟩ := getQ_ok hw r' rfl
    exact ⟨!l.isEmpty, .inl ⟨vs, q, by rw [isEmpty_rps p]⟩, SatW.here (d := !l.isEmpty) (v := !l.isEmpty) hs hw rfl⟩
  | cell n =>
    unfold tru at hs
    cases e : w.S[n]? with
    | none => simp only [e] at hs; exact hs.elim
    | some c =>
      cases c with
      | lst l =>
        simp only [e] at hs
        obtain ⟨a, vs, rfl, q, p⟩ := getL_ok (l := l) hw r' (by simp only [getL, e])
        exact ⟨!l.isEmpty, .inl ⟨vs, .inl (.inl q), by rw [isEmpty_rps p]⟩, SatW.here (d := !l.isEmpty) (v := !l.isEmpty) hs hw rfl⟩
      | dct l =>
        simp only [e] at hs
        unfold Rp at r'
        obtain ⟨a, e1, rfl⟩ := r'
        obtain ⟨_, vs, e2, p⟩ := hw.cell n a _ e1 e
        exact ⟨!l.isEmpty, .inr (.inr ⟨vs, e2, by rw [isEmpty_rpk p]⟩), SatW.here (d := !l.isEmpty) (v := !l.isEmpty) hs hw rfl⟩
      | dead => simp only [e] at hs; exact hs.elim
  | raw _ => exact hs.elim
  | cls _ => exact hs.elim
  | exn _ _ => exact hs.elim
theorem ptd_truth (ha : PD X W a f) (he : ∀ whole, isTrue a X.env whole = (do let v ← whole; standAt a.pos; holding [v] (truthy v)) := by intro _; rfl) : PTD X W a (xTru f) := by
  refine weakT (pt_truth ha he) fun σ H Q ⟨w, env, eH, hw, he, hs⟩ => ?_
  subst eH
  exact ⟨w, env, rfl, hw, he, SatW.imp (SatW.bind hs) fun w1 d v g1 r1 s1 => tru_sat g1.wd r1 s1⟩
theorem ptd_not (ha : PTD X W a k) : PTD X W (.UnaryOp .Not a pos) (xNot k) := by
  refine weakT (pt_not ha) fun σ H Q ⟨w, env, eH, hw, he, hs⟩ => ?_
  subst eH
  refine ⟨w, env, rfl, hw, he, SatW.imp (SatW.bind hs) fun w1 d v g1 r1 s1 => ?_⟩
  have e : d = v := r1
  subst e
  exact SatW.here (d := !d) (v := !d) s1 g1.wd rfl
theorem PWD.pt (h : PWD X W a k) : PTD X W a k := PW.pt h
theorem pwd_and1 (ha : PTD X W a k) : PWD X W (.BoolOp .And [a] pos) k := pw_and1 ha
theorem pwd_or1 (ha : PTD X W a k) : PWD X W (.BoolOp .Or [a] pos) k := pw_or1 ha
theorem pwd_and (ha : PTD X W a k) (hb : PWD X W (.BoolOp .And (b :: rest) pos) k') : PWD X W (.BoolOp .And (a :: b :: rest) pos) (xAnd k k') := by
  refine weakW (pw_and ha hb) fun σ H Q ⟨w, env, eH, hw, he, hs⟩ => ?_
  subst eH
  refine ⟨w, env, rfl, hw, he, SatW.imp (SatW.bind hs) fun w1 d v g1 r1 s1 => ?_⟩
  have e : d = v := r1
  subst e
  cases d with
  | true => exact iteT ⟨w1, env, rfl, g1.wd, he.go g1, s1⟩
  | false => exact iteF (SatW.here (d := false) (v := false) s1 g1.wd rfl)
theorem pwd_or (ha : PTD X W a k) (hb : PWD X W (.BoolOp .Or (b :: rest) pos) k') : PWD X W (.BoolOp .Or (a :: b :: rest) pos) (xOr k k') := by
  refine weakW (pw_or ha hb) fun σ H Q ⟨w, env, eH, hw, he, hs⟩ => ?_
  subst eH
  refine ⟨w, env, rfl, hw, he, SatW.imp (SatW.bind hs) fun w1 d v g1 r1 s1 => ?_⟩
  have e : d = v := r1
  subst e
  cases d with
  | true => exact iteT (SatW.here (d := true) (v := true) s1 g1.wd rfl)
  | false => exact iteF ⟨w1, env, rfl, g1.wd, he.go g1, s1⟩
theorem pd_one {op} (ha : PD X W a f) : PD X W (.BoolOp op [a] pos) f := pe_one ha
theorem pd_and (ha : PD X W a f) (hb : PD X W (.BoolOp .And (b :: rest) pos) g) : PD X W (.BoolOp .And (a :: b :: rest) pos) (xAndV f g) := by
  refine weakE (pe_and ha hb) fun σ H Q ⟨w, env, eH, hw, he, hs⟩ => ?_
  subst eH
  refine ⟨w, env, rfl, hw, he, SatW.imp (SatW.bind hs) fun w1 d v g1 r1 s1 => ?_⟩
  cases d with
  | bl b =>
    cases rp_bl (show Rp X.K w1.r w1.F (.bl b) v from r1)
    refine ⟨b, rfl, ?_⟩
    cases b with
    | true => exact iteT ⟨w1, env, rfl, g1.wd, he.go g1, s1⟩
    | false => exact iteF (SatW.here (d := D.bl false) (v := V.bl false) s1 g1.wd r1)
  | _ => exact s1.elim
theorem pd_or (ha : PD X W a f) (hb : PD X W (.BoolOp .Or (b :: rest) pos) g) : PD X W (.BoolOp .Or (a :: b :: rest) pos) (xOrV f g) := by
  refine weakE (pe_or ha hb) fun σ H Q ⟨w, env, eH, hw, he, hs⟩ => ?_
  subst eH
  refine ⟨w, env, rfl, hw, he, SatW.imp (SatW.bind hs) fun w1 d v g1 r1 s1 => ?_⟩
  cases d with
  | bl b =>
    cases rp_bl (show Rp X.K w1.r w1.F (.bl b) v from r1)
    refine ⟨b, rfl, ?_⟩
    cases b with
    | true => exact iteT (SatW.here (d := D.bl true) (v := V.bl true) s1 g1.wd r1)
    | false => exact iteF ⟨w1, env, rfl, g1.wd, he.go g1, s1⟩
  | _ => exact s1.elim
theorem pd_not (ha : PD X W a f) : PD X W (.UnaryOp .Not a pos) (xNotV f) := by
  refine weakE (pe_not ha) fun σ H Q ⟨w, env, eH, hw, he, hs⟩ => ?_
  subst eH
  refine ⟨w, env, rfl, hw, he, SatW.imp (SatW.bind hs) fun w1 d v g1 r1 s1 => ?_⟩
  cases d with
  | bl b =>
    cases rp_bl (show Rp X.K w1.r w1.F (.bl b) v from r1)
    exact ⟨b, rfl, SatW.here (d := D.bl (!b)) (v := V.bl (!b)) s1 g1.wd rpb⟩
  | _ => exact s1.elim
theorem pd_if (hc : PTD X W c k) (ha : PD X W a f) (hb : PD X W b g) : PD X W (.IfExp c a b pos) (xIf k f g) := by
  refine weakE (pe_ifExp hc ha hb) fun σ H Q ⟨w, env, eH, hw, he, hs⟩ => ?_
  subst eH
  refine ⟨w, env, rfl, hw, he, SatW.imp (SatW.bind hs) fun w1 d v g1 r1 s1 => ?_⟩
  have e : d = v := r1
  subst e
  cases d with
  | true => exact iteT ⟨w1, env, rfl, g1.wd, he.go g1, s1⟩
  | false => exact iteF ⟨w1, env, rfl, g1.wd, he.go g1, s1⟩
end

/-! ### statements -/
inductive Out where
  | nx (e : Env) (S : Store)
  | rt (d : D) (S : Store)
  | bk (e : Env) (S : Store)
  | ct (e : Env) (S : Store)
  | exc (x : Exn) (e : Env) (S : Store)
  | bad
def SatS (T : Kt) (W : WX) (w : Wl) (o : Out) (D : Ends) : Prop := match o with
  | .nx e S => ∀ w' σ', Go T.K w w' → w'.S = S → EnvOk T.K w' e σ' → D.nx σ' w'.H
  | .rt d S => ∀ w' v, Go T.K w w' → w'.S = S → Rp T.K w'.r w'.F d v → D.rt v w'.H
  | .bk e S => ∀ w' σ', Go T.K w w' → w'.S = S → EnvOk T.K w' e σ' → D.bk σ' w'.H
  | .ct e S => ∀ w' σ', Go T.K w w' → w'.S = S → EnvOk T.K w' e σ' → D.ct σ' w'.H
  | .exc x e S => ∀ w' σ' cls dd, Go T.K w w' → w'.S = S → EnvOk T.K w' e σ' → ExcOk T.K T.mg w' x cls dd → W cls dd σ' w'.H
  | .bad => False
def Res.out {α : Type} (x : Res α) (env : Env) (k : α → Store → Out) : Out := match x with
  | .ok a S => k a S
  | .exc e S => .exc e env S
  | .bad => .bad
@[simp] theorem Res.out_ok {α : Type} (a : α) (S : Store) (env : Env) (k : α → Store → Out) : (Res.ok a S).out env k = k a S := rfl
@[simp] theorem Res.out_exc {α : Type} (x : Exn) (S : Store) (env : Env) (k : α → Store → Out) : (Res.exc x S : Res α).out env k = .exc x env S := rfl
@[simp] theorem Res.out_bad {α : Type} (env : Env) (k : α → Store → Out) : (Res.bad : Res α).out env k = .bad := rfl
def Out.seq (o : Out) (k : Env → Store → Out) : Out := match o with
  | .nx e S => k e S
  | o => o
@[simp] theorem Out.seq_nx (e : Env) (S : Store) (k : Env → Store → Out) : (Out.nx e S).seq k = k e S := rfl
@[simp] theorem Out.seq_rt (d : D) (S : Store) (k : Env → Store → Out) : (Out.rt d S).seq k = .rt d S := rfl
@[simp] theorem Out.seq_bk (e : Env) (S : Store) (k : Env → Store → Out) : (Out.bk e S).seq k = .bk e S := rfl
@[simp] theorem Out.seq_ct (e : Env) (S : Store) (k : Env → Store → Out) : (Out.ct e S).seq k = .ct e S := rfl
@[simp] theorem Out.seq_exc (x : Exn) (e : Env) (S : Store) (k : Env → Store → Out) : (Out.exc x e S).seq k = .exc x e S := rfl
@[simp] theorem Out.seq_bad (k : Env → Store → Out) : Out.bad.seq k = .bad := rfl
section
variable {T : Kt} {W : WX} {w w1 : Wl} {D : Ends}
theorem SatS.pre {o : Out} (h : SatS T W w o D) (g : Go T.K w w1) : SatS T W w1 o D := by
  cases o with
  | nx e S => exact fun w' v g' e q => h w' v (g.trans g') e q
  | rt e S => exact fun w' v g' e q => h w' v (g.trans g') e q
  | bk e S => exact fun w' v g' e q => h w' v (g.trans g') e q
  | ct e S => exact fun w' v g' e q => h w' v (g.trans g') e q
  | exc x e S => exact fun w' σ' cls dd g' e q => h w' σ' cls dd (g.trans g') e q
  | bad => exact h
theorem SatS.out {α β : Type} {R : Wl → α → β → Prop} {σ : L2.St} {x : Res α} {env : Env} {k : α → Store → Out} (h : SatS T W w (x.out env k) D) (he : EnvOk T.K w env σ) :
    SatW T W σ R w x (fun w1 d _ => SatS T W w1 (k d w1.S) D) := by
  cases x with
  | ok d S => exact fun w' v g e q => by subst e; exact SatS.pre (o := k d w'.S) h g
  | exc x S => exact fun w' cls dd g e q => h w' σ cls dd g e (he.go g) q
  | bad => exact h
end
/-- a statement's reading -/
def sD (T : Kt) (W : WX) (g : Env → Store → Out) : TS := fun D σ H => ∃ (w : Wl) (env : Env), w.H = H ∧ Wd T.K w ∧ EnvOk T.K w env σ ∧ SatS T W w (g env w.S) D
def PSD (X : Cx) (W : WX) (s : Stmt) (g : Env → Store → Out) : Prop := PS X s (sD (kt X) W g)
def PSsD (X : Cx) (W : WX) (s : List Stmt) (g : Env → Store → Out) : Prop := PSs X s (sD (kt X) W g)

def yNil : Env → Store → Out := fun e S => .nx e S
def ySeq (g h : Env → Store → Out) : Env → Store → Out := fun e S => (g e S).seq h
def yBreak : Env → Store → Out := fun e S => .bk e S
def yCont : Env → Store → Out := fun e S => .ct e S
def yExpr (f : Env → M D) : Env → Store → Out := fun e S => (f e S).out e fun _ S1 => .nx e S1
def yRet (f : Env → M D) : Env → Store → Out := fun e S => (f e S).out e fun d S1 => .rt d S1
def yRetN : Env → Store → Out := fun e S => .rt .non S
def yIf (c : Env → M Bool) (g h : Env → Store → Out) : Env → Store → Out := fun e S => (c e S).out e fun b S1 => if b then g e S1 else h e S1
def yNever : Env → Store → Out := fun _ _ => .bad
def ySet (i : Nat) (f : Env → M D) : Env → Store → Out := fun e S => (f e S).out e fun d S1 => .nx (e.set i (some d)) S1
def yAsg (f : Env → M D) (g : D → Env → Store → Out) : Env → Store → Out := fun e S => (f e S).out e fun d S1 => g d e S1
def yPar (i j : Nat) (f : Env → M (List D)) : Env → Store → Out := fun e S => (f e S).out e fun l S1 => match l with
  | [a, b] => .nx ((e.set i (some a)).set j (some b)) S1
  | _ => .bad
def yAug (i : Nat) (f : Env → M D) (g : D → D → M D) : Env → Store → Out := fun e S => match e[i]? with
  | some (some x) => (f e S).out e fun y S1 => (g x y S1).out e fun z S2 => .nx (e.set i (some z)) S2
  | _ => .bad

/-- a target -/
def SatG (T : Kt) (w : Wl) (o : Out) (Q : L2.St → Hp → Prop) : Prop := match o with
  | .nx e S => ∀ w' σ', Go T.K w w' → w'.S = S → EnvOk T.K w' e σ' → Q σ' w'.H
  | _ => False
def gD (T : Kt) (g : D → Env → Store → Out) : TG := fun v σ H Q => ∃ (w : Wl) (env : Env) (d : D), w.H = H ∧ Wd T.K w ∧ EnvOk T.K w env σ ∧ Rp T.K w.r w.F d v ∧ SatG T w (g d env w.S) Q
def gDs (T : Kt) (g : List D → Env → Store → Out) : TGs := fun v σ H Q => ∃ (w : Wl) (env : Env) (d : List D), w.H = H ∧ Wd T.K w ∧ EnvOk T.K w env σ ∧ Rps T.K w.r w.F d v ∧ SatG T w (g d env w.S) Q
def PGD (X : Cx) (e : Expr) (g : D → Env → Store → Out) : Prop := PG X e (gD (kt X) g)
def PGsD (X : Cx) (e : List Expr) (g : List D → Env → Store → Out) : Prop := PGs X e (gDs (kt X) g)
theorem SatG.pre {T : Kt} {w w1 : Wl} {o : Out} {Q : L2.St → Hp → Prop} (h : SatG T w o Q) (g : Go T.K w w1) : SatG T w1 o Q := by
  cases o with
  | nx e S => exact fun w' v g' e q => h w' v (g.trans g') e q
  | _ => exact h.elim
theorem SatG.seq {T : Kt} {w : Wl} {o : Out} {k : Env → Store → Out} {Q : L2.St → Hp → Prop} (h : SatG T w (o.seq k) Q) : SatG T w o (fun σ' H' => ∃ w' e', w'.H = H' ∧ Wd T.K w' ∧ EnvOk T.K w' e' σ' ∧ Go T.K w w' ∧ o = .nx e' w'.S ∧ SatG T w' (k e' w'.S) Q) := by
  cases o with
  | nx e S => exact fun w' σ' g' es he => by subst es; exact ⟨w', e, rfl, g'.wd, he, g', rfl, SatG.pre (o := k e w'.S) h g'⟩
  | _ => exact h
theorem weakG {X : Cx} {e : Expr} {t t' : TG} (h : PG X e t) (q : ∀ v σ H Q, t' v σ H Q → t v σ H Q) : PG X e t' := ⟨fun pins s σ H v u Q I r z => h.run pins s σ H v u Q I r (q _ _ _ _ z)⟩
theorem weakGs {X : Cx} {e : List Expr} {t t' : TGs} (h : PGs X e t) (q : ∀ v σ H Q, t' v σ H Q → t v σ H Q) : PGs X e t' := ⟨fun pins s σ H v u Q I r z => h.run pins s σ H v u Q I r (q _ _ _ _ z)⟩

def gN (i : Nat) : D → Env → Store → Out := fun d e S => .nx (e.set i (some d)) S
def gsNil : List D → Env → Store → Out := fun l e S => match l with
  | [] => .nx e S
  | _ => .bad
def gsCons (g : D → Env → Store → Out) (h : List D → Env → Store → Out) : List D → Env → Store → Out := fun l e S => match l with
  | d :: r => (g d e S).seq (h r)
  | [] => .bad
def gT (n : Nat) (h : List D → Env → Store → Out) : D → Env → Store → Out := fun d e S => match d with
  | .tup l => if l.length = n then h l e S else .bad
  | _ => .bad
section
variable {X : Cx} {W : WX} {a b c e : Expr} {es rest : List Expr} {f f' : Env → M D} {k : Env → M Bool} {h : Env → M (List D)} {g g' : Env → Store → Out} {s : Stmt} {ss : List Stmt} {pos : Pos}
theorem pgd_name {i : Nat} {x : Str} (hN : X.N.Nodup) (hi : X.N[i]? = some x := by rfl) (hx : Loc X.env.scope x := by first | exact .inl rfl | exact .inr rfl) (hf : X.fn x = true ∨ X.env.scope.names.lookup x = some .local := by first | exact .inl rfl | exact .inr rfl | assumption) : PGD X (.Name x pos) (gN i) := by
  refine weakG (pg_name (i := i) hN hi hx hf) fun v σ H Q ⟨w, env, d, eH, hw, he, hr, hs⟩ => ?_
  subst eH
  exact hs w _ (Go.refl hw) rfl (he.set hr)
theorem pgsd_nil : PGsD X [] gsNil := by
  refine weakGs pgs_nil fun v σ H Q ⟨w, env, d, eH, hw, he, hr, hs⟩ => ?_
  subst eH
  cases d with
  | nil => exact ⟨hr.nil_inv, hs w _ (Go.refl hw) rfl he⟩
  | cons x l => exact hs.elim
theorem pgsd_cons {gg : D → Env → Store → Out} {hh : List D → Env → Store → Out} (h1 : PGD X e gg) (h2 : PGsD X es hh) (hs : (assignEach (e :: es) X.env).map (·.2) = assign e X.env :: (assignEach es X.env).map (·.2) := by rfl) : PGsD X (e :: es) (gsCons gg hh) := by
  refine weakGs (pgs_cons h1 h2 hs) fun v σ H Q ⟨w, env, d, eH, hw, he, hr, hs⟩ => ?_
  subst eH
  cases d with
  | nil => exact hs.elim
  | cons x l =>
    obtain ⟨v0, t, e1, r1, r2⟩ := hr.cons_inv
    refine ⟨v0, t, e1, w, env, x, rfl, hw, he, r1, ?_⟩
    have hs' : SatG (kt X) w ((gg x env w.S).seq (hh l)) Q := hs
    have q := SatG.seq hs'
    cases o : gg x env w.S with
    | nx e' S' =>
      rw [o] at q
      intro w' σ' g' es' he'
      obtain ⟨w2, e2, eH, wd2, he2, g2, eo, s2⟩ := q w' σ' g' es' he'
      exact ⟨w2, e2, l, eH, wd2, he2, Rps.go g2 r2, s2⟩
    | _ => rw [o] at q; exact q.elim
theorem pgd_tup {n : Nat} {kk : Nat} {hh : List D → Env → Store → Out} (hc : X.calm = true) (h2 : PGsD X es hh) (hn : (assignEach es X.env).length = n := by rfl) (hst : (assignEach es X.env).findIdx? (·.1) = none := by rfl) : PGD X (.Tuple es kk pos) (gT n hh) := by
  refine weakG (pg_tup hc h2 hn hst) fun v σ H Q ⟨w, env, d, eH, hw, he, hr, hs⟩ => ?_
  subst eH
  cases d with
  | tup l =>
    have hs' : SatG (kt X) w (if l.length = n then hh l env w.S else .bad) Q := hs
    by_cases hl : l.length = n
    · rw [if_pos hl] at hs'
      obtain ⟨a, vs, rfl, q, p⟩ := getT_ok hw hr rfl
      exact ⟨a, vs, rfl, .inl q, by rw [p.length]; exact hl, w, env, l, rfl, hw, he, p, hs'⟩
    · rw [if_neg hl] at hs'
      exact hs'.elim
  | _ => exact hs.elim

theorem pssd_nil : PSsD X W [] yNil := by
  refine weakSs pss_nil fun D σ H ⟨w, env, eH, hw, he, hs⟩ => ?_
  subst eH
  exact hs w σ (Go.refl hw) rfl he
theorem sat_seq {T : Kt} {w : Wl} {o : Out} {gg : Env → Store → Out} {D : Ends} (hs : SatS T W w (o.seq gg) D) : SatS T W w o { D with nx := sD T W gg D } := by
  cases o with
  | nx e S => exact fun w' σ' g1 es he => by subst es; exact ⟨w', e, rfl, g1.wd, he, SatS.pre (o := gg e w'.S) hs g1⟩
  | rt d S => exact hs
  | bk e S => exact hs
  | ct e S => exact hs
  | exc x e S => exact hs
  | bad => exact hs
theorem pssd_cons (h1 : PSD X W s g) (h2 : PSsD X W ss g') : PSsD X W (s :: ss) (ySeq g g') := by
  refine weakSs (pss_cons h1 h2) fun D σ H ⟨w, env, eH, hw, he, hs⟩ => ?_
  exact ⟨w, env, eH, hw, he, sat_seq hs⟩
theorem pssd_one (h1 : PSD X W s g) : PSsD X W [s] g := pss_one h1
theorem psd_pass : PSD X W (.Pass pos) yNil := by
  refine weakS ps_pass fun D σ H ⟨w, env, eH, hw, he, hs⟩ => ?_
  subst eH
  exact hs w σ (Go.refl hw) rfl he
theorem psd_break : PSD X W (.Break pos) yBreak := by
  refine weakS ps_break fun D σ H ⟨w, env, eH, hw, he, hs⟩ => ?_
  subst eH
  exact hs w σ (Go.refl hw) rfl he
theorem psd_continue : PSD X W (.Continue pos) yCont := by
  refine weakS ps_continue fun D σ H ⟨w, env, eH, hw, he, hs⟩ => ?_
  subst eH
  exact hs w σ (Go.refl hw) rfl he
theorem psd_never : PSD X W s yNever := weakS ps_never fun D σ H ⟨w, env, eH, hw, he, hs⟩ => hs.elim
theorem psd_expr (he : PD X W e f) (hs : swapsWith e none pos.line X.env = pure false := by rfl) : PSD X W (.Expr e pos) (yExpr f) := by
  refine weakS (ps_expr he hs) fun D σ H ⟨w, env, eH, hw, he, hs⟩ => ?_
  subst eH
  exact ⟨w, env, rfl, hw, he, SatW.imp (SatS.out hs he) fun w1 d v g1 r1 s1 => s1 w1 σ (Go.refl g1.wd) rfl (he.go g1)⟩
theorem psd_ret (he : PD X W e f) : PSD X W (.Return (some e) pos) (yRet f) := by
  refine weakS (ps_ret he) fun D σ H ⟨w, env, eH, hw, he, hs⟩ => ?_
  subst eH
  exact ⟨w, env, rfl, hw, he, SatW.imp (SatS.out hs he) fun w1 d v g1 r1 s1 => s1 w1 v (Go.refl g1.wd) rfl r1⟩
theorem psd_retN : PSD X W (.Return none pos) yRetN := by
  refine weakS ps_retN fun D σ H ⟨w, env, eH, hw, he, hs⟩ => ?_
  subst eH
  exact hs w .non (Go.refl hw) rfl rpn
theorem psd_if {x y : List Stmt} (hc : PTD X W c k) (ha : PSsD X W x g) (hb : PSsD X W y g') : PSD X W (.If c x y pos) (yIf k g g') := by
  refine weakS (ps_if hc ha hb) fun D σ H ⟨w, env, eH, hw, he, hs⟩ => ?_
  subst eH
  refine ⟨w, env, rfl, hw, he, SatW.imp (SatS.out hs he) fun w1 d v g1 r1 s1 => ?_⟩
  have e : d = v := r1
  subst e
  cases d with
  | true => exact iteT ⟨w1, env, rfl, g1.wd, he.go g1, s1⟩
  | false => exact iteF ⟨w1, env, rfl, g1.wd, he.go g1, s1⟩
theorem psd_set {i : Nat} {x : Str} {pos' : Pos} (hN : X.N.Nodup) (he : PD X W e f) (hi : X.N[i]? = some x := by rfl) (hx : Loc X.env.scope x := by first | exact .inl rfl | exact .inr rfl) (hs : swapsWith e (some (.Name x pos')) pos.line X.env = pure false := by rfl) (hf : X.fn x = true ∨ X.env.scope.names.lookup x = some .local := by first | exact .inl rfl | exact .inr rfl | assumption) :
    PSD X W (.Assign [.Name x pos'] e pos) (ySet i f) := by
  refine weakS (ps_set (i := i) hN hi hx he hs hf) fun D σ H ⟨w, env, eH, hw, he, hs⟩ => ?_
  subst eH
  exact ⟨w, env, rfl, hw, he, SatW.imp (SatS.out hs he) fun w1 d v g1 r1 s1 => s1 w1 _ (Go.refl g1.wd) rfl ((he.go g1).set r1)⟩
theorem psd_asg {tg : Expr} {gg : D → Env → Store → Out} (he : PD X W e f) (hg : PGD X tg gg) (hs : swapsWithSole [tg] e pos.line X.env = pure false := by rfl) (hw : swappedStores [tg] e X.env = pure none := by rfl)
    (h1 : (assignEach [tg] X.env).map (·.2) = [assign tg X.env] := by rfl) : PSD X W (.Assign [tg] e pos) (yAsg f (fun d e S => match gg d e S with | .nx e' S' => .nx e' S' | _ => .bad)) := by
  refine weakS (ps_asg he hg hs hw h1) fun D σ H ⟨w, env, eH, hw, he, hs⟩ => ?_
  subst eH
  refine ⟨w, env, rfl, hw, he, SatW.imp (SatS.out hs he) fun w1 d v g1 r1 s1 => ?_⟩
  refine ⟨w1, env, d, rfl, g1.wd, he.go g1, r1, ?_⟩
  cases o : gg d env w1.S with
  | nx e' S' => simp only [o] at s1; exact s1
  | _ => simp only [o] at s1; exact s1.elim
theorem psd_par {i j : Nat} {x y : Str} {px py pt : Pos} {k1 k2 pt2} (hc : X.calm = true) (hN : X.N.Nodup) (hij : i ≠ j) (ha : PAD X W [a, b] h) (hw : swappedStores [.Tuple [.Name x px, .Name y py] k1 pt] (.Tuple [a, b] k2 pt2) X.env = pure (some [x, y]))
    (hi : X.N[i]? = some x := by rfl) (hj : X.N[j]? = some y := by rfl) (hx : X.env.scope.names.lookup x = some .local := by rfl) (hy : X.env.scope.names.lookup y = some .local := by rfl)
    (hs : swapsWithSole [.Tuple [.Name x px, .Name y py] k1 pt] (.Tuple [a, b] k2 pt2) pos.line X.env = pure false := by rfl) :
    PSD X W (.Assign [.Tuple [.Name x px, .Name y py] k1 pt] (.Tuple [a, b] k2 pt2) pos) (yPar i j h) := by
  refine weakS (ps_par hc hN hi hj hij hx hy ha hw hs) fun D σ H ⟨w, env, eH, hw, he, hs⟩ => ?_
  subst eH
  refine ⟨w, env, rfl, hw, he, SatW.imp (SatS.out hs he) fun w1 d v g1 r1 s1 => ?_⟩
  match d, r1, s1 with
  | [], _, s1 => exact s1.elim
  | [_], _, s1 => exact s1.elim
  | [p, q], r1, s1 =>
    obtain ⟨v1, t, e1, r2, r3⟩ := Rps.cons_inv r1
    obtain ⟨v2, t2, e2, r4, r5⟩ := r3.cons_inv
    have e3 := r5.nil_inv
    subst e3 e2 e1
    exact ⟨v1, v2, rfl, s1 w1 _ (Go.refl g1.wd) rfl (((he.go g1).set r2).set r4)⟩
  | _ :: _ :: _ :: _, _, s1 => exact s1.elim
/-- a op= b, by values -/
def IpD (X : Cx) (op : Operator) (g : D → D → M D) : Prop :=
  ∃ rr : TIp, PIp X op rr ∧ ∀ (w : Wl) (x y : V) (d e : D) (W : WX) (σ : L2.St) (Q : VK), Wd X.K w → RD X.K w d x → RD X.K w e y → SatW (kt X) W σ (RD X.K) w (g d e w.S) (fun w' _ v => Q v w'.H) → rr x y w.H Q
theorem psd_aug {i : Nat} {x : Str} {pos' : Pos} {op : Operator} {gg : D → D → M D} (hN : X.N.Nodup) (ho : IpD X op gg) (he : PD X W e f) (hi : X.N[i]? = some x := by rfl) (hx : Loc X.env.scope x := by first | exact .inl rfl | exact .inr rfl) (hf : X.fn x = true ∨ X.env.scope.names.lookup x = some .local := by first | exact .inl rfl | exact .inr rfl | assumption) :
    PSD X W (.AugAssign (.Name x pos') op e pos) (yAug i f gg) := by
  obtain ⟨rr, ro, h1⟩ := ho
  refine weakS (ps_aug (i := i) hN hi hx he ro hf) fun D σ H ⟨w, env, eH, hw, he, hs⟩ => ?_
  subst eH
  unfold yAug at hs
  cases q : env[i]? with
  | none => rw [q] at hs; exact hs.elim
  | some o =>
    cases o with
    | none => rw [q] at hs; exact hs.elim
    | some d =>
      rw [q] at hs
      obtain ⟨v, e1, r⟩ := he.2 i d q
      refine ⟨v, e1, w, env, rfl, hw, he, SatW.imp (SatS.out hs he) fun w1 d1 v1 g1 r1 s1 => ?_⟩
      refine h1 w1 v v1 d d1 W σ _ g1.wd (Rp.go g1 r) r1 (SatW.imp (SatS.out s1 (he.go g1)) fun w2 d2 v2 g2 r2 s2 => ?_)
      exact s2 w2 _ (Go.refl g2.wd) rfl (((he.go g1).go g2).set r2)
end
end Dv
/-! # Dv4: loops, comprehensions, calls, a def's contract -/
namespace Dv
open PySem PySem.Spec PyProof.Rows L2

/-! ### while -/
def whN (c : Env → M Bool) (b : Env → Store → Out) : Nat → Env → Store → Option Out
  | 0, _, _ => none
  | n + 1, e, S => match c e S with
    | .ok true S1 => match b e S1 with
      | .nx e' S' => whN c b n e' S'
      | .ct e' S' => whN c b n e' S'
      | .bk e' S' => some (.nx e' S')
      | o => some o
    | .ok false S1 => some (.nx e S1)
    | .exc x S1 => some (.exc x e S1)
    | .bad => some .bad
open Classical in
noncomputable def yWhile (c : Env → M Bool) (b : Env → Store → Out) : Env → Store → Out := fun e S =>
  if h : ∃ o, ∃ n, whN c b n e S = some o then Classical.choose h else .bad
theorem whN_succ {c : Env → M Bool} {b : Env → Store → Out} : ∀ {n : Nat} {e : Env} {S : Store} {o : Out}, whN c b n e S = some o → whN c b (n + 1) e S = some o
  | 0, _, _, _, h => by cases h
  | n + 1, e, S, o, h => by
    unfold whN at h ⊢
    cases q : c e S with
    | bad => rw [q] at h; exact h
    | exc x S1 => rw [q] at h; exact h
    | ok t S1 =>
      rw [q] at h
      cases t with
      | false => exact h
      | true =>
        cases r : b e S1 with
        | nx e' S' => simp only [r] at h ⊢; exact whN_succ h
        | ct e' S' => simp only [r] at h ⊢; exact whN_succ h
        | bk e' S' => simp only [r] at h ⊢; exact h
        | rt d S' => simp only [r] at h ⊢; exact h
        | exc x e' S' => simp only [r] at h ⊢; exact h
        | bad => simp only [r] at h ⊢; exact h
theorem whN_le {c : Env → M Bool} {b : Env → Store → Out} {n m : Nat} {e : Env} {S : Store} {o : Out} (h : whN c b n e S = some o) (hl : n ≤ m) : whN c b m e S = some o := by
  induction hl with
  | refl => exact h
  | step _ ih => exact whN_succ ih
theorem yWhile_of {c : Env → M Bool} {b : Env → Store → Out} {n : Nat} {e : Env} {S : Store} {o : Out} (h : whN c b n e S = some o) : yWhile c b e S = o := by
  have hx : ∃ o, ∃ n, whN c b n e S = some o := ⟨o, n, h⟩
  unfold yWhile
  rw [dif_pos hx]
  obtain ⟨m, hm⟩ := Classical.choose_spec hx
  have h1 := whN_le h (Nat.le_max_left n m)
  have h2 := whN_le hm (Nat.le_max_right n m)
  rw [h1] at h2
  exact (Option.some.inj h2).symm
theorem yWhile_ends {c : Env → M Bool} {b : Env → Store → Out} {e : Env} {S : Store} (h : yWhile c b e S ≠ .bad) : ∃ n, whN c b n e S = some (yWhile c b e S) := by
  unfold yWhile at h ⊢
  by_cases hx : ∃ o, ∃ n, whN c b n e S = some o
  · rw [dif_pos hx]
    exact Classical.choose_spec hx
  · rw [dif_neg hx] at h
    exact (h rfl).elim
theorem yWhile_stop {c : Env → M Bool} {b : Env → Store → Out} {e : Env} {S S1 : Store} (h : c e S = .ok false S1) : yWhile c b e S = .nx e S1 := yWhile_of (n := 1) (by unfold whN; rw [h])
theorem whN_none_bad {c : Env → M Bool} {b : Env → Store → Out} {e : Env} {S : Store} (h : ¬ ∃ o n, whN c b n e S = some o) : yWhile c b e S = .bad := by
  unfold yWhile
  rw [dif_neg h]
theorem yWhile_go {c : Env → M Bool} {b : Env → Store → Out} {e : Env} {S S1 : Store} (h : c e S = .ok true S1) : yWhile c b e S = (match b e S1 with
    | .nx e' S' => yWhile c b e' S'
    | .ct e' S' => yWhile c b e' S'
    | .bk e' S' => .nx e' S'
    | o => o) := by
  have step : ∀ {e' : Env} {S' : Store}, (∀ n, whN c b (n + 1) e S = whN c b n e' S') → yWhile c b e S = yWhile c b e' S' := fun {e' S'} hh => by
    by_cases hx : ∃ o n, whN c b n e' S' = some o
    · obtain ⟨o, n, hn⟩ := hx
      rw [yWhile_of hn, yWhile_of (n := n + 1) (by rw [hh]; exact hn)]
    · rw [whN_none_bad hx, whN_none_bad]
      rintro ⟨o, n, hn⟩
      cases n with
      | zero => cases hn
      | succ n => exact hx ⟨o, n, by rw [← hh]; exact hn⟩
  cases q : b e S1 with
  | nx e' S' => exact step fun n => by rw [whN]; simp only [h, q]
  | ct e' S' => exact step fun n => by rw [whN]; simp only [h, q]
  | bk e' S' => exact yWhile_of (n := 1) (by rw [whN]; simp only [h, q])
  | rt d S' => exact yWhile_of (n := 1) (by rw [whN]; simp only [h, q])
  | exc x e' S' => exact yWhile_of (n := 1) (by rw [whN]; simp only [h, q])
  | bad => exact yWhile_of (n := 1) (by rw [whN]; simp only [h, q])
section
variable {X : Cx} {W : WX} {c : Expr} {body : List Stmt} {k : Env → M Bool} {g : Env → Store → Out} {pos : Pos}
theorem psd_while (hp : PassesOwn (model X.prog X.w) X.A X.env X.xe) (hc : PTD X W c k) (hb : PSsD X W body g) : PSD X W (.While c body [] pos) (yWhile k g) := by
  refine weakS (ps_while hp hc hb) fun D σ H ⟨w, env, eH, hw, he, hs⟩ => ?_
  subst eH
  have nb : yWhile k g env w.S ≠ .bad := fun z => by rw [z] at hs; exact hs
  obtain ⟨n, hn⟩ := yWhile_ends nb
  refine ⟨fun m σ H => ∃ w env o, w.H = H ∧ Wd X.K w ∧ EnvOk X.K w env σ ∧ whN k g m env w.S = some o ∧ SatS (kt X) W w o D, ⟨n, w, env, _, rfl, hw, he, hn, hs⟩, ?_⟩
  rintro m σ1 H1 ⟨w1, env1, o, rfl, hw1, he1, hm, hs1⟩
  refine ⟨w1, env1, rfl, hw1, he1, ?_⟩
  cases m with
  | zero => cases hm
  | succ m =>
    rw [whN] at hm
    cases q : k env1 w1.S with
    | bad => simp only [q] at hm; cases hm; exact hs1.elim
    | exc x S1 =>
      simp only [q] at hm
      have e := Option.some.inj hm
      subst e
      exact fun w' cls dd g' e q => hs1 w' σ1 cls dd g' e (he1.go g') q
    | ok t S1 =>
      intro w2 v g2 eS ev
      have ev' : t = v := ev
      subst ev' eS
      cases t with
      | false =>
        simp only [q] at hm
        have e := Option.some.inj hm
        subst e
        exact iteF (hs1 w2 σ1 g2 rfl (he1.go g2))
      | true =>
        refine iteT ⟨fun σ' H' => ∃ w3 env3 o, w3.H = H' ∧ Wd X.K w3 ∧ EnvOk X.K w3 env3 σ' ∧ whN k g m env3 w3.S = some o ∧ SatS (kt X) W w3 o D, fun σ' H' z => ⟨m, Nat.lt_succ_self m, z⟩, w2, env1, rfl, g2.wd, he1.go g2, ?_⟩
        simp only [q] at hm
        cases r : g env1 w2.S with
        | nx e' S' => simp only [r] at hm; exact fun w3 σ3 g3 e3 he3 => ⟨w3, e', o, rfl, g3.wd, he3, by rw [e3]; exact hm, hs1.pre (g2.trans g3)⟩
        | ct e' S' => simp only [r] at hm; exact fun w3 σ3 g3 e3 he3 => ⟨w3, e', o, rfl, g3.wd, he3, by rw [e3]; exact hm, hs1.pre (g2.trans g3)⟩
        | bk e' S' => simp only [r] at hm; have e := Option.some.inj hm; subst e; exact fun w3 σ3 g3 e3 he3 => hs1 w3 σ3 (g2.trans g3) e3 he3
        | rt d S' => simp only [r] at hm; have e := Option.some.inj hm; subst e; exact fun w3 v3 g3 e3 r3 => hs1 w3 v3 (g2.trans g3) e3 r3
        | exc x e' S' => simp only [r] at hm; have e := Option.some.inj hm; subst e; exact fun w3 σ3 cls dd g3 e3 he3 q3 => hs1 w3 σ3 cls dd (g2.trans g3) e3 he3 q3
        | bad => simp only [r] at hm; have e := Option.some.inj hm; subst e; exact hs1.elim
end

/-! ### what is walked -/
structure Src where
  items : List D
  chk : Store → Prop
def ItOk (K : PySem.W.Frag) (w0 : Wl) (J : It) (s : Src) : Prop :=
  ∀ w1, Go K w0 w1 → s.chk w1.S → (∀ (i : Nat) d, s.items[i]? = some d → J.go i w1.H ∧ ∀ x H', J.yld i w1.H x H' → ∃ w2, Go K w1 w2 ∧ w2.S = w1.S ∧ w2.H = H' ∧ Rp K w2.r w2.F d x) ∧ J.stop s.items.length w1.H
def iD (T : Kt) (W : WX) (f : Env → M Src) : TI := fun σ H R => ∃ (w : Wl) (env : Env), w.H = H ∧ Wd T.K w ∧ EnvOk T.K w env σ ∧ SatW T W σ (fun w' s J => ItOk T.K w' J s) w (f env w.S) (fun w' _ J => R J w'.H)
def PID (X : Cx) (W : WX) (tg iter : Expr) (f : Env → M Src) : Prop := PI X tg iter (iD (kt X) W f)
theorem weakI {X : Cx} {tg iter : Expr} {t t' : TI} (h : PI X tg iter t) (q : ∀ σ H R, t' σ H R → t σ H R) : PI X tg iter t' := ⟨fun pins s σ H R I z => h.run pins s σ H R I (q _ _ _ z)⟩

/-- a list, frozen or a cell that stays -/
def srcL (d : D) (S : Store) : Res Src := match d with
  | .lst l => .ok ⟨l, fun _ => True⟩ S
  | .scr l => .ok ⟨l, fun _ => True⟩ S
  | .cell n => match S[n]? with
    | some (.lst l) => .ok ⟨l, fun S' => S'[n]? = some (.lst l)⟩ S
    | _ => .bad
  | _ => .bad
def srcT (d : D) (S : Store) : Res Src := match d with
  | .tup l => .ok ⟨l, fun _ => True⟩ S
  | _ => .bad
def irange (lo : Int) (n : Nat) : List D := (List.range n).map fun (i : Nat) => D.int (lo + (i : Int))
def rng62 (i : Int) : Prop := -(2 ^ 62) ≤ i ∧ i < 2 ^ 62
/- kept from the kernel: it would count down from 2 ^ 62 -/
noncomputable instance (i : Int) : Decidable (rng62 i) := Classical.propDecidable _
noncomputable def srcR1 (l : List D) (S : Store) : Res Src := match l with
  | [.int j] => if rng62 j then .ok ⟨irange 0 j.toNat, fun _ => True⟩ S else .bad
  | _ => .bad
noncomputable def srcR2 (l : List D) (S : Store) : Res Src := match l with
  | [.int i, .int j] => if rng62 i ∧ rng62 j then .ok ⟨irange i (j - i).toNat, fun _ => True⟩ S else .bad
  | _ => .bad
def iSrc (k : D → Store → Res Src) (f : Env → M D) : Env → M Src := fun e S => (f e S).bind k
def iSrcA (k : List D → Store → Res Src) (f : Env → M (List D)) : Env → M Src := fun e S => (f e S).bind k
theorem Rps.nth {K : PySem.W.Frag} {r : List Addr} {F : Hp} : ∀ {l : List D} {vs : List V} {i : Nat} {v : V}, Rps K r F l vs → vs[i]? = some v → ∃ d, l[i]? = some d ∧ Rp K r F d v := fun {l vs i v} h e => by
  have hl := h.length
  have hi : i < l.length := by
    have := (List.getElem?_eq_some_iff.mp e).1
    omega
  obtain ⟨v', e2, p⟩ := h.get (i := i) (d := l[i]) (List.getElem?_eq_getElem hi)
  rw [e] at e2
  cases e2
  exact ⟨_, List.getElem?_eq_getElem hi, p⟩
section
variable {X : Cx} {W : WX} {tg e : Expr} {f : Env → M D} {h : Env → M (List D)} {pos p : Pos}
theorem itl_ok {K : PySem.W.Frag} {w0 : Wl} {a : Addr} {l : List D} {chk : Store → Prop} (hh : ∀ w1, Go K w0 w1 → chk w1.S → ∃ vs, SqL K w1.H a vs ∧ Rps K w1.r w1.F l vs) : ItOk K w0 (Itl K a) ⟨l, chk⟩ := fun w1 g hc => by
  obtain ⟨vs, q, r⟩ := hh w1 g hc
  refine ⟨fun i d e => ?_, vs, q, Nat.le_of_eq r.length⟩
  obtain ⟨v, ev, rv⟩ := r.get e
  refine ⟨⟨vs, v, q, ev⟩, fun x H' y => ?_⟩
  obtain ⟨eH, fx⟩ := y
  have ex : x = v := Option.some.inj ((fx _ q).symm.trans ev)
  subst ex
  exact ⟨w1, Go.refl g.wd, rfl, eH.symm, rv⟩
theorem itt_ok {K : PySem.W.Frag} {w0 : Wl} {a : Addr} {l : List D} {chk : Store → Prop} (hh : ∀ w1, Go K w0 w1 → chk w1.S → ∃ vs, SqT K w1.H a vs ∧ Rps K w1.r w1.F l vs) : ItOk K w0 (Itt K a) ⟨l, chk⟩ := fun w1 g hc => by
  obtain ⟨vs, q, r⟩ := hh w1 g hc
  refine ⟨fun i d e => ?_, vs, q, Nat.le_of_eq r.length⟩
  obtain ⟨v, ev, rv⟩ := r.get e
  refine ⟨⟨vs, v, q, ev⟩, fun x H' y => ?_⟩
  obtain ⟨eH, fx⟩ := y
  have ex : x = v := Option.some.inj ((fx _ q).symm.trans ev)
  subst ex
  exact ⟨w1, Go.refl g.wd, rfl, eH.symm, rv⟩
theorem itr_ok {K : PySem.W.Frag} {w0 : Wl} {lo : Int} {n : Nat} {chk : Store → Prop} : ItOk K w0 (Itr lo n) ⟨irange lo n, chk⟩ := fun w1 g hc => by
  refine ⟨fun i d e => ?_, ?_⟩
  · unfold irange at e
    rw [List.getElem?_map] at e
    have hi : i < n := by
      have z := (List.getElem?_eq_some_iff.mp (show ((List.range n).map fun (i : Nat) => D.int (lo + (i : Int)))[i]? = some d by rw [List.getElem?_map]; exact e)).1
      simpa using z
    rw [List.getElem?_range hi] at e
    have ed := Option.some.inj e
    subst ed
    refine ⟨hi, fun x H' y => ?_⟩
    obtain ⟨eH, ex⟩ := y
    exact ⟨w1, Go.refl g.wd, rfl, by first | exact eH.symm | exact ex.symm, by first | (subst ex; exact rpi) | (subst eH; exact rpi)⟩
  · show n ≤ (irange lo n).length
    simp [irange]
theorem pid_list (ha : PD X W e f) : PID X W tg e (iSrc srcL f) := by
  refine weakI (pi_list ha) fun σ H R ⟨w, env, eH, hw, he, hs⟩ => ?_
  subst eH
  refine ⟨w, env, rfl, hw, he, SatW.imp (SatW.bind hs) fun w1 d v g1 r1 s1 => ?_⟩
  cases d with
  | lst l =>
    obtain ⟨a, vs, rfl, q, p⟩ := getL_ok g1.wd (show Rp X.K w1.r w1.F (.lst l) v from r1) rfl
    refine ⟨a, rfl, ⟨vs, .inl (.inl q)⟩, SatW.here (d := (⟨l, fun _ => True⟩ : Src)) s1 g1.wd (itl_ok fun w2 g2 _ => ?_)⟩
    have r2 : Rp X.K w2.r w2.F (.lst l) (.ref a) := Rp.go g2 r1
    obtain ⟨a', vs', e', q', p'⟩ := getL_ok g2.wd r2 rfl
    cases e'
    exact ⟨vs', .inl (.inl q'), p'⟩
  | scr l =>
    obtain ⟨a, vs, rfl, q, p⟩ := getQ_ok g1.wd (show Rp X.K w1.r w1.F (.scr l) v from r1) rfl
    refine ⟨a, rfl, ⟨vs, q⟩, SatW.here (d := (⟨l, fun _ => True⟩ : Src)) s1 g1.wd (itl_ok fun w2 g2 _ => ?_)⟩
    have r2 : Rp X.K w2.r w2.F (.scr l) (.ref a) := Rp.go g2 r1
    obtain ⟨a', vs', e', q', p'⟩ := getQ_ok g2.wd r2 rfl
    cases e'
    exact ⟨vs', q', p'⟩
  | cell n =>
    have s1' : SatW (kt X) W σ _ w1 (srcL (.cell n) w1.S) _ := s1
    unfold srcL at s1'
    cases en : w1.S[n]? with
    | none => simp only [en] at s1'; exact s1'.elim
    | some c =>
      cases c with
      | lst l =>
        simp only [en] at s1'
        obtain ⟨a, vs, rfl, q, p⟩ := getL_ok (l := l) g1.wd (show Rp X.K w1.r w1.F (.cell n) v from r1) (by simp only [getL, en])
        refine ⟨a, rfl, ⟨vs, .inl (.inl q)⟩, SatW.here (d := (⟨l, fun S' => S'[n]? = some (.lst l)⟩ : Src)) s1' g1.wd (itl_ok fun w2 g2 hc => ?_)⟩
        have hc' : w2.S[n]? = some (.lst l) := hc
        have r2 : Rp X.K w2.r w2.F (.cell n) (.ref a) := Rp.go g2 r1
        obtain ⟨a', vs', e', q', p'⟩ := getL_ok (l := l) g2.wd r2 (by simp only [getL, hc'])
        cases e'
        exact ⟨vs', .inl (.inl q'), p'⟩
      | dct l => simp only [en] at s1'; exact s1'.elim
      | dead => simp only [en] at s1'; exact s1'.elim
  | _ => exact s1.elim
theorem pid_tup (ha : PD X W e f) : PID X W tg e (iSrc srcT f) := by
  refine weakI (pi_tup ha) fun σ H R ⟨w, env, eH, hw, he, hs⟩ => ?_
  subst eH
  refine ⟨w, env, rfl, hw, he, SatW.imp (SatW.bind hs) fun w1 d v g1 r1 s1 => ?_⟩
  cases d with
  | tup l =>
    obtain ⟨a, vs, rfl, q, p⟩ := getT_ok g1.wd (show Rp X.K w1.r w1.F (.tup l) v from r1) rfl
    refine ⟨a, rfl, ⟨vs, .inl q⟩, SatW.here (d := (⟨l, fun _ => True⟩ : Src)) s1 g1.wd (itt_ok fun w2 g2 _ => ?_)⟩
    have r2 : Rp X.K w2.r w2.F (.tup l) (.ref a) := Rp.go g2 r1
    obtain ⟨a', vs', e', q', p'⟩ := getT_ok g2.wd r2 rfl
    cases e'
    exact ⟨vs', .inl q', p'⟩
  | _ => exact s1.elim
theorem pid_range1 {a : Expr} (hm : X.mg "range" = none) (ha : PAD X W [a] h) (hg : Gl X "range" := by rfl) (hs : starEach [a] X.env = [(false, eval a X.env)] := by rfl) : PID X W tg (.Call (.Name "range" p) [a] [] pos) (iSrcA srcR1 h) := by
  refine weakI (pi_range1 hg hm ha hs) fun σ H R ⟨w, env, eH, hw, he, hs⟩ => ?_
  subst eH
  refine ⟨w, env, rfl, hw, he, SatW.imp (SatW.bind hs) fun w1 d v g1 r1 s1 => ?_⟩
  have r2 : Rps X.K w1.r w1.F d v := r1
  match d, r2, s1 with
  | [], _, s1 => exact s1.elim
  | [.int j], r2, s1 =>
    obtain ⟨v1, t, e1, q1, q2⟩ := r2.cons_inv
    have e2 := q2.nil_inv
    cases rp_int q1
    subst e2 e1
    obtain ⟨hj, s2⟩ := satIf s1
    exact ⟨j, rfl, hj.1, hj.2, SatW.here s2 g1.wd itr_ok⟩
  | [.non], _, s1 => exact s1.elim
  | [.bl _], _, s1 => exact s1.elim
  | [.str _], _, s1 => exact s1.elim
  | [.tup _], _, s1 => exact s1.elim
  | [.lst _], _, s1 => exact s1.elim
  | [.scr _], _, s1 => exact s1.elim
  | [.cell _], _, s1 => exact s1.elim
  | [.raw _], _, s1 => exact s1.elim
  | [.cls _], _, s1 => exact s1.elim
  | [.exn _ _], _, s1 => exact s1.elim
  | x :: _ :: _, _, s1 => cases x <;> exact s1.elim
theorem pid_range2 {a b : Expr} (hm : X.mg "range" = none) (ha : PAD X W [a, b] h) (hg : Gl X "range" := by rfl) (hs : starEach [a, b] X.env = [(false, eval a X.env), (false, eval b X.env)] := by rfl) (hs2 : starEach [b] X.env = [(false, eval b X.env)] := by rfl) : PID X W tg (.Call (.Name "range" p) [a, b] [] pos) (iSrcA srcR2 h) := by
  refine weakI (pi_range2 hg hm ha hs hs2) fun σ H R ⟨w, env, eH, hw, he, hs⟩ => ?_
  subst eH
  refine ⟨w, env, rfl, hw, he, SatW.imp (SatW.bind hs) fun w1 d v g1 r1 s1 => ?_⟩
  have r2 : Rps X.K w1.r w1.F d v := r1
  have key : ∃ i j, d = [.int i, .int j] := by
    match d, s1 with
    | [.int i, .int j], _ => exact ⟨i, j, rfl⟩
    | [], s1 => exact s1.elim
    | [x], s1 => cases x <;> exact s1.elim
    | x :: y :: z :: t, s1 => cases x <;> cases y <;> exact s1.elim
    | [.non, y], s1 => cases y <;> exact s1.elim
    | [.bl _, y], s1 => cases y <;> exact s1.elim
    | [.str _, y], s1 => cases y <;> exact s1.elim
    | [.tup _, y], s1 => cases y <;> exact s1.elim
    | [.lst _, y], s1 => cases y <;> exact s1.elim
    | [.scr _, y], s1 => cases y <;> exact s1.elim
    | [.cell _, y], s1 => cases y <;> exact s1.elim
    | [.raw _, y], s1 => cases y <;> exact s1.elim
    | [.cls _, y], s1 => cases y <;> exact s1.elim
    | [.exn _ _, y], s1 => cases y <;> exact s1.elim
    | [.int _, .non], s1 => exact s1.elim
    | [.int _, .bl _], s1 => exact s1.elim
    | [.int _, .str _], s1 => exact s1.elim
    | [.int _, .tup _], s1 => exact s1.elim
    | [.int _, .lst _], s1 => exact s1.elim
    | [.int _, .scr _], s1 => exact s1.elim
    | [.int _, .cell _], s1 => exact s1.elim
    | [.int _, .raw _], s1 => exact s1.elim
    | [.int _, .cls _], s1 => exact s1.elim
    | [.int _, .exn _ _], s1 => exact s1.elim
  obtain ⟨i, j, rfl⟩ := key
  obtain ⟨v1, t, e1, q1, q2⟩ := r2.cons_inv
  obtain ⟨v2, t2, e2, q3, q4⟩ := q2.cons_inv
  have e3 := q4.nil_inv
  cases rp_int q1
  cases rp_int q3
  subst e3 e2 e1
  obtain ⟨hj, s2⟩ := satIf s1
  exact ⟨i, j, rfl, ⟨hj.1.1, hj.1.2, hj.2.1, hj.2.2⟩, SatW.here s2 g1.wd itr_ok⟩
end

/-! ### for -/
open Classical in
noncomputable def forL (chk : Store → Prop) (g : D → Env → Store → Out) (b : Env → Store → Out) : List D → Env → Store → Out
  | [], e, S => if chk S then .nx e S else .bad
  | d :: l, e, S => if chk S then match g d e S with
      | .nx e1 S1 => match b e1 S1 with
        | .nx e' S' => forL chk g b l e' S'
        | .ct e' S' => forL chk g b l e' S'
        | .bk e' S' => .nx e' S'
        | o => o
      | _ => .bad
    else .bad
noncomputable def yFor (src : Env → M Src) (g : D → Env → Store → Out) (b : Env → Store → Out) : Env → Store → Out := fun e S => (src e S).out e fun s S1 => forL s.chk g b s.items e S1
section
variable {X : Cx} {W : WX} {tg iter : Expr} {body : List Stmt} {src : Env → M Src} {gg : D → Env → Store → Out} {g : Env → Store → Out} {pos : Pos}
theorem drop_get {α : Type} {l : List α} {i : Nat} {d : α} {r : List α} (h : l.drop i = d :: r) : l[i]? = some d ∧ l.drop (i + 1) = r := by
  have h1 : (l.drop i)[0]? = some d := by rw [h]; rfl
  rw [List.getElem?_drop] at h1
  refine ⟨by simpa using h1, ?_⟩
  rw [← List.drop_drop, h]
  rfl
theorem drop_nil {α : Type} {l : List α} {i : Nat} (h : l.drop i = []) (hi : i ≤ l.length) : i = l.length := by
  have := congrArg List.length h
  simp at this
  omega
theorem psd_for (hp : PassesOwn (model X.prog X.w) X.A X.env X.xe) (hc : X.calm = true) (hi : PID X W tg iter src) (hg : PGD X tg gg) (hb : PSsD X W body g) (hfs : ∀ x, foldedSetIterable iter X.env x = pure x := by intro _; rfl) :
    PSD X W (.For tg iter body [] pos) (yFor src gg g) := by
  refine weakS (ps_for hp hc hi hg hb hfs) fun D σ H ⟨w, env, eH, hw, he, hs⟩ => ?_
  subst eH
  refine ⟨w, env, rfl, hw, he, SatW.imp (SatS.out hs he) fun w1 s J g1 it s1 => ?_⟩
  have it' : ItOk X.K w1 J s := it
  refine ⟨fun i m σ H => ∃ w env, w.H = H ∧ Go X.K w1 w ∧ EnvOk X.K w env σ ∧ i ≤ s.items.length ∧ m = s.items.length - i ∧ SatS (kt X) W w (forL s.chk gg g (s.items.drop i) env w.S) D, ⟨s.items.length, w1, env, rfl, Go.refl g1.wd, he.go g1, Nat.zero_le _, rfl, s1⟩, ?_⟩
  rintro i m σ2 H2 ⟨w2, env2, rfl, g2, he2, hil, rfl, s2⟩
  cases ed : s.items.drop i with
  | nil =>
    rw [ed, forL] at s2
    by_cases hk : s.chk w2.S
    · rw [if_pos hk] at s2
      refine .inl ⟨?_, s2 w2 σ2 (Go.refl g2.wd) rfl he2⟩
      rw [drop_nil ed hil]
      exact (it' w2 g2 hk).2
    · rw [if_neg hk] at s2
      exact s2.elim
  | cons d l =>
    obtain ⟨e1, e2⟩ := drop_get ed
    have hlt : i < s.items.length := (List.getElem?_eq_some_iff.mp e1).1
    rw [ed, forL] at s2
    by_cases hk : s.chk w2.S
    · rw [if_pos hk] at s2
      obtain ⟨go, yl⟩ := (it' w2 g2 hk).1 i d e1
      refine .inr ⟨go, fun σ' H' => ∃ w env, w.H = H' ∧ Go X.K w1 w ∧ EnvOk X.K w env σ' ∧ SatS (kt X) W w (forL s.chk gg g (s.items.drop (i + 1)) env w.S) D, fun σ' H' ⟨w', env', q1, q2, q3, q4⟩ => ⟨s.items.length - (i + 1), by omega, w', env', q1, q2, q3, hlt, rfl, q4⟩, fun x H' y => ?_⟩
      obtain ⟨w3, g3, eS3, eH3, r3⟩ := yl x H' y
      refine ⟨w3, env2, d, eH3, g3.wd, he2.go g3, r3, ?_⟩
      rw [eS3]
      cases og : gg d env2 w2.S with
      | nx e' S' =>
        simp only [og] at s2
        intro w4 σ4 g4 eS4 he4
        subst eS4
        refine ⟨w4, e', rfl, g4.wd, he4, ?_⟩
        cases ob : g e' w4.S with
        | nx e5 S5 => simp only [ob] at s2; exact fun w5 σ5 g5 eS5 he5 => ⟨w5, e5, rfl, (g2.trans g3).trans (g4.trans g5), he5, by rw [e2, eS5]; exact s2.pre (g3.trans (g4.trans g5))⟩
        | ct e5 S5 => simp only [ob] at s2; exact fun w5 σ5 g5 eS5 he5 => ⟨w5, e5, rfl, (g2.trans g3).trans (g4.trans g5), he5, by rw [e2, eS5]; exact s2.pre (g3.trans (g4.trans g5))⟩
        | bk e5 S5 => simp only [ob] at s2; exact fun w5 σ5 g5 eS5 he5 => s2 w5 σ5 (g3.trans (g4.trans g5)) eS5 he5
        | rt d5 S5 => simp only [ob] at s2; exact fun w5 v5 g5 eS5 r5 => s2 w5 v5 (g3.trans (g4.trans g5)) eS5 r5
        | exc x5 e5 S5 => simp only [ob] at s2; exact fun w5 σ5 cls dd g5 eS5 he5 q5 => s2 w5 σ5 cls dd (g3.trans (g4.trans g5)) eS5 he5 q5
        | bad => simp only [ob] at s2; exact s2.elim
      | _ => simp only [og] at s2; exact s2.elim
    · rw [if_neg hk] at s2
      exact s2.elim
end

/-! ### comprehensions -/
def wipeE (e : Env) : List Nat → Env
  | [] => e
  | v :: vs => (wipeE e vs).set v none
abbrev W0 : WX := fun _ _ _ _ => False
open Classical in
noncomputable def lcL (chk : Store → Prop) (g : D → Env → Option Env) (c : Env → M Bool) (f : Env → M D) (e0 : Env) : List D → List D → Store → Res (List D)
  | [], acc, S => if chk S then .ok acc S else .bad
  | d :: l, acc, S => if chk S then match g d e0 with
      | some e1 => match c e1 S with
        | .ok true S2 => match f e1 S2 with
          | .ok y S3 => if acc.length < 16000000 then lcL chk g c f e0 l (acc ++ [y]) S3 else .bad
          | _ => .bad
        | .ok false S2 => lcL chk g c f e0 l acc S2
        | _ => .bad
      | none => .bad
    else .bad
noncomputable def xLc (mk : List D → M D) (src : Env → M Src) (g : D → Env → Option Env) (c : Env → M Bool) (f : Env → M D) (vs : List Nat) : Env → M D := fun e S =>
  (src e S).bind fun s S1 => (lcL s.chk g c f (wipeE e vs) s.items [] S1).bind fun l S2 => mk l S2
theorem EnvOk.wipe {K : PySem.W.Frag} {w : Wl} {env : Env} {σ : L2.St} (h : EnvOk K w env σ) : ∀ vs : List Nat, EnvOk K w (wipeE env vs) (wipe σ vs)
  | [] => h
  | _ :: vs => (EnvOk.wipe h vs).unset
theorem wipe_get {σ : L2.St} {k : Nat} : ∀ {vs : List Nat}, (wipe σ vs)[k]? = if k ∈ vs then (if k < σ.length then some none else none) else σ[k]?
  | [] => by simp [wipe]
  | v :: vs => by
    unfold wipe
    rw [List.getElem?_set, wipe_length, wipe_get (vs := vs)]
    by_cases h : v = k
    · subst h; simp
    · rw [if_neg h]
      have hm : (k ∈ v :: vs) ↔ k ∈ vs := by simp [Ne.symm h]
      by_cases hk : k ∈ vs
      · rw [if_pos hk, if_pos (hm.mpr hk)]
      · rw [if_neg hk, if_neg (fun z => hk (hm.mp z))]
theorem wipe_eq {σ σ' : L2.St} {vs : List Nat} (hl : σ'.length = σ.length) (h : ∀ k, k ∉ vs → σ'[k]? = σ[k]?) : wipe σ' vs = wipe σ vs := by
  apply List.ext_getElem?
  intro k
  rw [wipe_get, wipe_get, hl]
  by_cases hk : k ∈ vs
  · rw [if_pos hk, if_pos hk]
  · rw [if_neg hk, if_neg hk, h k hk]
/-- a comprehension's target -/
def TgD (T : Kt) (vs : List Nat) (gV : TG) (gE : D → Env → Option Env) : Prop :=
  ∀ (w : Wl) (d : D) (v : V) (env env' : Env) (σ : L2.St) (Q : L2.St → Hp → Prop), Wd T.K w → Rp T.K w.r w.F d v → EnvOk T.K w env σ → gE d env = some env' →
    (∀ σ' : L2.St, EnvOk T.K w env' σ' → σ'.length = σ.length → (∀ k, k ∉ vs → σ'[k]? = σ[k]?) → Q σ' w.H) → gV v σ w.H Q
def eN (i : Nat) : D → Env → Option Env := fun d e => some (e.set i (some d))
def eT2 (i j : Nat) : D → Env → Option Env := fun d e => match d with
  | .tup [a, b] => some ((e.set i (some a)).set j (some b))
  | _ => none
def eT3 (i j k : Nat) : D → Env → Option Env := fun d e => match d with
  | .tup [a, b, c] => some (((e.set i (some a)).set j (some b)).set k (some c))
  | _ => none
theorem tg_N {T : Kt} {i : Nat} {vs : List Nat} (hi : i ∈ vs) : TgD T vs (gName i) (eN i) := fun w d v env env' σ Q hw hr he e q => by
  have e' := Option.some.inj e
  subst e'
  refine q _ (he.set hr) (by simp) fun k hk => ?_
  rw [List.getElem?_set_ne (fun z => hk (by rw [← z]; exact hi))]
theorem tg_T2 {T : Kt} {i j : Nat} {vs : List Nat} (hi : i ∈ vs) (hj : j ∈ vs) : TgD T vs (gTup T.K 2 (gCons (gName i) (gCons (gName j) gNil))) (eT2 i j) := fun w d v env env' σ Q hw hr he e q => by
  unfold eT2 at e
  split at e
  · rename_i a b
    have e' := Option.some.inj e
    subst e'
    obtain ⟨p, xs, rfl, hp, hx⟩ := getT_ok hw hr rfl
    obtain ⟨v1, t, e1, r1, r2⟩ := hx.cons_inv
    obtain ⟨v2, t2, e2, r3, r4⟩ := r2.cons_inv
    have e3 := r4.nil_inv
    subst e3 e2 e1
    refine ⟨p, _, rfl, .inl hp, rfl, v1, [v2], rfl, v2, [], rfl, rfl, q _ ((he.set r1).set r3) (by simp) fun k hk => ?_⟩
    rw [List.getElem?_set_ne (fun z => hk (by rw [← z]; exact hj)), List.getElem?_set_ne (fun z => hk (by rw [← z]; exact hi))]
  · cases e
theorem tg_T3 {T : Kt} {i j l : Nat} {vs : List Nat} (hi : i ∈ vs) (hj : j ∈ vs) (hl : l ∈ vs) : TgD T vs (gTup T.K 3 (gCons (gName i) (gCons (gName j) (gCons (gName l) gNil)))) (eT3 i j l) := fun w d v env env' σ Q hw hr he e q => by
  unfold eT3 at e
  split at e
  · rename_i a b c
    have e' := Option.some.inj e
    subst e'
    obtain ⟨p, xs, rfl, hp, hx⟩ := getT_ok hw hr rfl
    obtain ⟨v1, t, e1, r1, r2⟩ := hx.cons_inv
    obtain ⟨v2, t2, e2, r3, r4⟩ := r2.cons_inv
    obtain ⟨v3, t3, e3, r5, r6⟩ := r4.cons_inv
    have e4 := r6.nil_inv
    subst e4 e3 e2 e1
    refine ⟨p, _, rfl, .inl hp, rfl, v1, [v2, v3], rfl, v2, [v3], rfl, v3, [], rfl, rfl, q _ (((he.set r1).set r3).set r5) (by simp) fun k hk => ?_⟩
    rw [List.getElem?_set_ne (fun z => hk (by rw [← z]; exact hl)), List.getElem?_set_ne (fun z => hk (by rw [← z]; exact hj)), List.getElem?_set_ne (fun z => hk (by rw [← z]; exact hi))]
  · cases e
def cYes : Env → M Bool := fun _ S => .ok true S
/-- what isn't in the store stays so -/
theorem Go.loosely {K : PySem.W.Frag} {w w1 : Wl} (g : Go K w w1) {p : Addr} {o : HO} (h1 : w.H p = some o) (h2 : w.F p = none) (h3 : ∀ (n : Nat), w.r[n]? = some p → ¬ alv w.S n) :
    w1.H p = some o ∧ w1.F p = none ∧ ∀ (n : Nat), w1.r[n]? = some p → ¬ alv w1.S n := by
  refine ⟨g.fr p o h1 h3, g.fnew p (by rw [h1]; simp) h2 h3, fun n e q => ?_⟩
  by_cases hn : n < w.S.length
  · exact h3 n (pre_back g.pre (by rw [g.len]; exact hn) e) (g.live n hn q)
  · have := g.new n p (Nat.le_of_not_lt hn) e q
    rw [h1] at this
    cases this
section
variable {X : Cx} {W : WX} {elt tg iter : Expr} {ifs : List Expr} {scope : Scope} {own : List (Str × Nat)} {pos : Pos} {mk : List D → M D} {src : Env → M Src} {gV : TG} {gE : D → Env → Option Env} {c : Env → M Bool} {f : Env → M D}
/-- the reading of a comprehension -/
theorem lc_read (m : Mk mk) (tgd : TgD (kt X) (own.map (·.2)) gV gE) {tt : TT} (htt : ∀ σ H Q, tDB (kt X) W0 c σ H Q → tt σ H Q) {σ : L2.St} {H : Hp} {Q : VK} (hh : tD (kt X) W (xLc mk src gE c f (own.map (·.2))) σ H Q) :
    tLc (iD (kt X) W src) gV tt (tD (kt X) W0 f) (own.map (·.2)) σ H Q := by
  obtain ⟨w, env, eH, hw, he, hs⟩ := hh
  subst eH
  generalize own.map (·.2) = vs at tgd hs ⊢
  refine ⟨w, env, rfl, hw, he, SatW.imp (SatW.bind hs) fun w1 s J g1 it s1 => ?_⟩
  have it' : ItOk X.K w1 J s := it
  intro Dd hD
  -- the list under way at Dd
  refine ⟨fun i mm H => ∃ w2 acc accV, w2.H = H ∧ Go X.K w1 w2 ∧ (i ≤ s.items.length ∧ mm = s.items.length - i) ∧ w2.H Dd = some (.lst accV) ∧ w2.F Dd = none ∧ (∀ (n : Nat), w2.r[n]? = some Dd → ¬ alv w2.S n) ∧ Rps X.K w2.r w2.F acc accV ∧
      SatW (kt X) W σ (RD X.K) w1 ((lcL s.chk gE c f (wipeE env vs) (s.items.drop i) acc w2.S).bind fun l S2 => mk l S2) (fun w' _ v => Q v w'.H), ⟨s.items.length, ?_⟩, ?_⟩
  · refine ⟨⟨w1.r, w1.F, w1.S, upd w1.H Dd (.lst [])⟩, [], [], rfl, ?_, ⟨Nat.zero_le _, rfl⟩, upd_same, g1.wd.fresh hD, fun n e q => ?_, rps_nil, s1⟩
    · refine ⟨⟨g1.wd.len, fun b x e => ?_, fun k a cc e1 e2 => (g1.wd.cell k a cc e1 e2).mono ⟨[], by simp⟩ (Same.refl _) (fun _ z => z) (fun hd x z => ?_), g1.wd.inj⟩, ⟨[], by simp⟩, g1.wd.len, fun _ _ q => q, fun k a hk e _ => ?_, Same.refl _, fun a x e _ => ?_, fun a e => ?_, fun _ _ q _ => q⟩
      · show upd w1.H Dd (.lst []) b = some x
        have e' := g1.wd.same _ _ e
        rw [upd_ne (ne_of_none e' hD)]
        exact e'
      · show upd w1.H Dd (.lst []) a = some x
        rw [upd_ne (ne_of_none z hD)]
        exact z
      · have hk1 : k < w1.r.length := (List.getElem?_eq_some_iff.mp e).1
        have hk2 : w1.S.length ≤ k := hk
        have := g1.wd.len
        omega
      · show upd w1.H Dd (.lst []) a = some x
        rw [upd_ne (ne_of_none e hD)]
        exact e
      · have e' : upd w1.H Dd (.lst []) a = none := e
        by_cases hb : a = Dd
        · subst hb
          rw [upd_same] at e'
          cases e'
        · rw [upd_ne hb] at e'
          exact e'
    · obtain ⟨cc, e2, hd⟩ := q
      obtain ⟨o, eo⟩ := (g1.wd.cell n Dd cc e e2).some hd
      rw [hD] at eo
      cases eo
  · rintro i m' H2 ⟨w2, acc, accV, rfl, g2, ⟨hil, rfl⟩, hDd, hFd, hnc, hrs, s2⟩
    cases ed : s.items.drop i with
    | nil =>
      rw [ed, lcL] at s2
      by_cases hk : s.chk w2.S
      · rw [if_pos hk, Res.bind_ok] at s2
        obtain ⟨w', d', eH', q'⟩ := m.adopt (T := kt X) (W := W) (σ := σ) g2 hD hDd hFd hnc hrs s2
        refine .inl ⟨?_, ?_⟩
        · rw [drop_nil ed hil]
          exact (it' w2 g2 hk).2
        · rw [← eH']
          exact q'
      · rw [if_neg hk] at s2
        exact s2.elim
    | cons d l =>
      obtain ⟨e1, e2⟩ := drop_get ed
      have hlt : i < s.items.length := (List.getElem?_eq_some_iff.mp e1).1
      rw [ed, lcL] at s2
      by_cases hk : s.chk w2.S
      · rw [if_pos hk] at s2
        obtain ⟨go, yl⟩ := (it' w2 g2 hk).1 i d e1
        refine .inr ⟨go, fun H' => ∃ w2 acc accV, w2.H = H' ∧ Go X.K w1 w2 ∧ i + 1 ≤ s.items.length ∧ w2.H Dd = some (.lst accV) ∧ w2.F Dd = none ∧ (∀ (n : Nat), w2.r[n]? = some Dd → ¬ alv w2.S n) ∧ Rps X.K w2.r w2.F acc accV ∧
            SatW (kt X) W σ (RD X.K) w1 ((lcL s.chk gE c f (wipeE env vs) (s.items.drop (i + 1)) acc w2.S).bind fun l S2 => mk l S2) (fun w' _ v => Q v w'.H), fun H' z => ?_, fun x H' y => ?_⟩
        · obtain ⟨w', acc', accV', q1, q2, q3, q4⟩ := z
          exact ⟨s.items.length - (i + 1), by omega, w', acc', accV', q1, q2, ⟨q3, rfl⟩, q4⟩
        · obtain ⟨w3, g3, eS3, eH3, r3⟩ := yl x H' y
          subst eH3
          cases og : gE d (wipeE env vs) with
          | none => simp only [og] at s2; exact s2.elim
          | some e1 =>
            simp only [og] at s2
            refine tgd w3 d x (wipeE env vs) e1 (wipe σ vs) _ g3.wd r3 ((he.go (g1.trans (g2.trans g3))).wipe vs) og fun σ2 he2 hl2 hk2 => ?_
            refine ⟨(wipe_eq hl2 hk2).trans (wipe_eq (wipe_length _ _) fun k hk => by rw [wipe_get, if_neg hk]), ?_⟩
            refine htt _ _ _ ⟨w3, e1, rfl, g3.wd, he2, ?_⟩
            rw [eS3]
            cases oc : c e1 w2.S with
            | bad => simp only [oc] at s2; exact s2.elim
            | exc x S => simp only [oc] at s2; exact s2.elim
            | ok b S4 =>
              intro w4 v4 g4 eS4 ev
              have ev' : b = v4 := ev
              subst ev' eS4
              cases b with
              | false =>
                simp only [oc] at s2
                obtain ⟨k1, k2, k3⟩ := Go.loosely (g3.trans g4) hDd hFd hnc
                exact iteF ⟨w4, acc, accV, rfl, g2.trans (g3.trans g4), hlt, k1, k2, k3, Rps.go (g3.trans g4) hrs, by rw [e2]; exact s2⟩
              | true =>
                simp only [oc] at s2
                refine iteT ⟨w4, e1, rfl, g4.wd, he2.go g4, ?_⟩
                cases oy : f e1 w4.S with
                | bad => simp only [oy] at s2; exact s2.elim
                | exc x S => simp only [oy] at s2; exact s2.elim
                | ok yd S5 =>
                  simp only [oy] at s2
                  by_cases hal : acc.length < 16000000
                  · rw [if_pos hal] at s2
                    intro w5 v5 g5 eS5 r5
                    subst eS5
                    have r5' : Rp X.K w5.r w5.F yd v5 := r5
                    obtain ⟨k1, k2, k3⟩ := Go.loosely (g3.trans (g4.trans g5)) hDd hFd hnc
                    refine ⟨accV, k1, ?_, ⟨w5.r, w5.F, w5.S, upd w5.H Dd (.lst (accV ++ [v5]))⟩, acc ++ [yd], accV ++ [v5], rfl, ?_, hlt, upd_same, k2, k3, ?_, by rw [e2]; exact s2⟩
                    · rw [Rps.length hrs]
                      exact Nat.lt_of_lt_of_le hal (line16 (Nat.le_refl _))
                    · exact Go.loose (g2.trans (g3.trans (g4.trans g5))) hD (by rw [k1]; simp) k2 k3
                    · exact (Rps.go (g3.trans (g4.trans g5)) hrs).append (rps_cons r5' rps_nil)
                  · rw [if_neg hal] at s2
                    exact s2.elim
      · rw [if_neg hk] at s2
        exact s2.elim
theorem pd_lc (m : Mk mk) (tgd : TgD (kt X) (own.map (·.2)) gV gE) (hc : X.calm = true) (hN : X.N.Nodup) (hi : PID X W tg iter src) (ok : BlkOk X.N X.env.scope scope own)
    (hg : ∀ (s : Shared) (H : Hp) (C : Addr) (cl : List (Str × Addr)) (fp : List Addr), PG (X.blk s H scope (compEnvC scope cl C X.env) fp) tg gV)
    (he : ∀ (s : Shared) (H : Hp) (C : Addr) (cl : List (Str × Addr)) (fp : List Addr), PD (X.blk s H scope (compEnvC scope cl C X.env) fp) W0 elt f) (hs : ∀ x, foldedSetIterable iter X.env x = pure x := by intro _; rfl) :
    PD X W (.ListComp elt [⟨tg, iter, [], 0⟩] scope pos) (xLc mk src gE cYes f (own.map (·.2))) :=
  weakE (pe_lc (te := tD (kt X) W0 f) hc hN hi ok hg (fun _ _ _ _ _ => pts_nil) (fun s H C cl fp => show PE _ elt (tD (kt X) W0 f) from he s H C cl fp) hs) fun σ H Q => lc_read m tgd fun σ H Q ⟨w, env, eH, hw, he, hs⟩ => by
    subst eH
    exact SatW.here (d := true) (v := true) hs hw rfl
theorem pd_lcIf {t : Expr} (m : Mk mk) (tgd : TgD (kt X) (own.map (·.2)) gV gE) (hc : X.calm = true) (hN : X.N.Nodup) (hi : PID X W tg iter src) (ok : BlkOk X.N X.env.scope scope own)
    (hg : ∀ (s : Shared) (H : Hp) (C : Addr) (cl : List (Str × Addr)) (fp : List Addr), PG (X.blk s H scope (compEnvC scope cl C X.env) fp) tg gV)
    (ht : ∀ (s : Shared) (H : Hp) (C : Addr) (cl : List (Str × Addr)) (fp : List Addr), PTD (X.blk s H scope (compEnvC scope cl C X.env) fp) W0 t c)
    (he : ∀ (s : Shared) (H : Hp) (C : Addr) (cl : List (Str × Addr)) (fp : List Addr), PD (X.blk s H scope (compEnvC scope cl C X.env) fp) W0 elt f) (hs : ∀ x, foldedSetIterable iter X.env x = pure x := by intro _; rfl) :
    PD X W (.ListComp elt [⟨tg, iter, [t], 0⟩] scope pos) (xLc mk src gE c f (own.map (·.2))) :=
  weakE (pe_lc (te := tD (kt X) W0 f) (tt := tDB (kt X) W0 c) hc hN hi ok hg (fun s H C cl fp => pts_one (show PT _ t (tDB (kt X) W0 c) from ht s H C cl fp)) (fun s H C cl fp => show PE _ elt (tD (kt X) W0 f) from he s H C cl fp) hs) fun σ H Q => lc_read m tgd fun σ H Q h => h
end

/-! ### a def's contract, a call -/
def fin (keep : Bool) (n : Nat) (d : D) (S : Store) : Res D :=
  if keep = true ∨ S.length = n then .ok d S else if (d.under n && (S.take n).all (fun c => c.under n)) = true then .ok d (S.take n) else .bad
def finX (n : Nat) (x : Exn) (S : Store) : Res D := if S.length = n then .exc x S else if ((S.take n).all (fun c => c.under n)) = true then .exc x (S.take n) else .bad
def fnD (np ns : Nat) (keep : Bool) (body : Env → Store → Out) : List D → M D := fun ds S =>
  if ds.length = np then match body (ds.map some ++ List.replicate (ns - np) none) S with
    | .rt d S' => fin keep S.length d S'
    | .nx _ S' => fin keep S.length .non S'
    | .exc x _ S' => finX S.length x S'
    | _ => .bad
  else .bad
def spD (T : Kt) (f : List D → M D) : Sp := fun vs H Q E => ∃ (w : Wl) (ds : List D), w.H = H ∧ Wd T.K w ∧ Rps T.K w.r w.F ds vs ∧ SatW T (fun cls dd _ H' => E cls dd H') [] (RD T.K) w (f ds w.S) (fun w' _ v => Q v w'.H)
theorem fin_sat {T : Kt} {W : WX} {σ : L2.St} {w w1 : Wl} {keep : Bool} {d : D} {v : V} {Q : VK} (g : Go T.K w w1) (r : Rp T.K w1.r w1.F d v) (h : SatW T W σ (RD T.K) w (fin keep w.S.length d w1.S) (fun w' _ v => Q v w'.H)) : Q v w1.H := by
  unfold fin at h
  by_cases hk : keep = true ∨ w1.S.length = w.S.length
  · rw [if_pos hk] at h
    exact h w1 v g rfl r
  · rw [if_neg hk] at h
    obtain ⟨hu, h⟩ := satIf h
    rw [Bool.and_eq_true] at hu
    exact h ⟨w1.r.take w.S.length, w1.F, w1.S.take w.S.length, w1.H⟩ v (g.cut hu.2) rfl (Rp.cut d v hu.1 r)
section
variable {P : Program} {w : World} {K : PySem.W.Frag} {mg : Str → Option Value} {base : Heap}
theorem fn_ok {x qual : Str} {st : Stmt} {f : Addr} {fd : FuncData} {N ps : List Str} {k : Nat} {keep : Bool} {body : Env → Store → Out} (F : Fun K x qual st f fd) (S : FnScope N ps (defScope st))
    (hbody : ∀ (cdv : Value) (A : Around) (outer : List PySem.Env) (s : Shared) (H : Hp) (E : XK), Room k (A.deeper (envOfC qual (defScope st) s.heap.objs.size f cdv)) →
      PSsD (cxOf (L2.CX P w) P w K mg base N qual (defScope st) f cdv A outer s H E) (fun cls d _ H' => E cls d H') (defBody st) body) :
    FnOk P w K mg base (L2.CX P w) (k + 1) f fd ps (spD ⟨K, mg⟩ (fnD ps.length N.length keep body)) := by
  refine F.okX S (fun vs H Q E ⟨wl, ds, eH, hw, hr, hs⟩ => ?_) (fun cdv A outer s H vs Q E hr h => ⟨_, hbody cdv A outer s H E hr, ?_⟩)
  · unfold fnD at hs
    rw [hr.length]
    exact (satIf hs).1
  · obtain ⟨wl, ds, eH, hw, hrs, hs⟩ := h
    subst eH
    unfold fnD at hs
    obtain ⟨hl, hs⟩ := satIf hs
    have hvl : vs.length = ps.length := by rw [hrs.length]; exact hl
    have he : EnvOk K wl (ds.map some ++ List.replicate (N.length - ps.length) none) (L2.start N vs) := by
      unfold L2.start
      rw [hvl]
      refine ⟨by simp [hrs.length], fun i d e => ?_⟩
      by_cases hi : i < ds.length
      · rw [List.getElem?_append_left (by simpa using hi), List.getElem?_map] at e
        cases q : ds[i]? with
        | none => rw [q] at e; cases e
        | some d' =>
          rw [q] at e
          have ed : d' = d := by injection (Option.some.inj e)
          subst ed
          obtain ⟨v, ev, rv⟩ := hrs.get q
          refine ⟨v, ?_, rv⟩
          rw [List.getElem?_append_left (by rw [List.length_map]; exact (List.getElem?_eq_some_iff.mp ev).1), List.getElem?_map, ev]
          rfl
      · rw [List.getElem?_append_right (by simpa using hi)] at e
        have := (List.getElem?_eq_some_iff.mp e)
        obtain ⟨h1, h2⟩ := this
        rw [List.getElem_replicate] at h2
        cases h2
    refine ⟨wl, _, rfl, hw, he, ?_⟩
    cases o : body (ds.map some ++ List.replicate (N.length - ps.length) none) wl.S with
    | rt d S' => rw [o] at hs; exact fun w' v g e r => by subst e; exact fin_sat g r hs
    | nx e' S' => rw [o] at hs; exact fun w' σ' g e r => by subst e; exact fin_sat g rpn hs
    | bk e' S' => rw [o] at hs; exact hs.elim
    | ct e' S' => rw [o] at hs; exact hs.elim
    | exc x e' S' =>
      rw [o] at hs
      intro w' σ' cls dd g e he' q
      subst e
      replace hs : SatW ⟨K, mg⟩ (fun cls dd _ H' => E cls dd H') [] (RD K) wl (finX wl.S.length x w'.S) (fun w' _ v => Q v w'.H) := hs
      unfold finX at hs
      by_cases hk : w'.S.length = wl.S.length
      · rw [if_pos hk] at hs
        exact hs w' cls dd g rfl q
      rw [if_neg hk] at hs
      obtain ⟨hu, hs⟩ := satIf hs
      exact hs ⟨w'.r.take wl.S.length, w'.F, w'.S.take wl.S.length, w'.H⟩ cls dd (g.cut hu) rfl q
    | bad => rw [o] at hs; exact hs.elim
end
theorem fn_mk {P : Program} {w : World} {K : PySem.W.Frag} {mg : Str → Option Value} {base : Heap} {x qual : Str} {st : Stmt} {f : Addr} {fd : FuncData} {N ps : List Str} {k : Nat} {keep : Bool} {body : Env → Store → Out} {G : List D → M D} (F : Fun K x qual st f fd) (S : FnScope N ps (defScope st)) (hG : G = fnD ps.length N.length keep body)
    (hbody : ∀ (cdv : Value) (A : Around) (outer : List PySem.Env) (s : Shared) (H : Hp) (E : XK), Room k (A.deeper (envOfC qual (defScope st) s.heap.objs.size f cdv)) →
      PSsD (cxOf (L2.CX P w) P w K mg base N qual (defScope st) f cdv A outer s H E) (fun cls d _ H' => E cls d H') (defBody st) body) :
    FnOk P w K mg base (L2.CX P w) (k + 1) f fd ps (spD ⟨K, mg⟩ G) := by
  rw [hG]
  exact fn_ok F S hbody
section
variable {X : Cx} {W : WX} {e : Expr} {es : List Expr} {h : Env → M (List D)} {pos p : Pos} {x : Str} {k : Nat} {f : Addr} {fd : FuncData} {ps : List Str} {F : List D → M D}
theorem pd_call (G : FnOk X.prog X.w X.K X.mg X.base (L2.CX X.prog X.w) k f fd ps (spD (kt X) F)) (hr : Room k X.A) (hm : X.mg x = some (.ref f)) (hk : PySem.W.keepIn X.K (.ref f) = true) (hb : Binds X.K fd ps []) (tk : Takes X W) (ha : PAD X W (e :: es) h) (hg : Gl X x := by rfl)
    (hdb : (x == ("__debug__" : Str)) = false := by decide) (he : starEach (e :: es) X.env = (false, eval e X.env) :: starEach es X.env := by rfl) (hpl : (backTo pos (starEach es X.env)).any (·.1) = false := by rfl) :
    PD X W (.Call (.Name x p) (e :: es) [] pos) (xFn F h) := by
  refine weakE (pe_callS G hr hg hm hk hb (fun σ => passAt tk σ) ha hdb he hpl) fun σ H Q ⟨w, env, eH, hw, he, hs⟩ => ?_
  subst eH
  refine ⟨w, env, rfl, hw, he, SatW.imp (SatW.bind hs) fun w1 d v g1 r1 s1 => ?_⟩
  refine ⟨w1, d, rfl, g1.wd, r1, ?_⟩
  cases o : F d w1.S with
  | ok y S => rw [o] at s1; exact s1
  | exc y S => rw [o] at s1; exact s1
  | bad => rw [o] at s1; exact s1.elim
end
end Dv
/-! # Dv5: the operators -/
namespace Dv
noncomputable section
open PySem PySem.Spec PyProof.Rows L2

/-! ### ints -/
def divOk (i j : Int) : Prop := j ≠ 0 ∧ j.natAbs.log2 < 9000
instance (i j : Int) : Decidable (divOk i j) := inferInstanceAs (Decidable (_ ∧ _))
instance (i j : Int) : Decidable (IntMulOk i j) := inferInstanceAs (Decidable (¬ _))
def powOk (i j : Int) : Prop := 0 ≤ j ∧ j ≤ 1000000 ∧ i.natAbs < 2 ^ 64
instance (i j : Int) : Decidable (powOk i j) := inferInstanceAs (Decidable (_ ∧ _))
section
variable {X : Cx}
theorem op_fdivX : OpR X (binaryOp .FloorDiv) (rI divOk fun i j => .int (i.fdiv j)) := opI fun i j _ _ _ _ _ hc q => floordiv_int hc.1 q (.inl (PyProof.noPylong_of_log2 hc.2))
theorem op_mulX : OpR X (binaryOp .Mult) (rI IntMulOk fun i j => .int (i * j)) := opI fun _ _ _ _ _ _ _ hc q => mul_int q hc
end

/-! ### two numbers, by a table -/
def iOp (c : Int → Int → Prop) [∀ i j, Decidable (c i j)] (g : Int → Int → D) (x y : D) (S : Store) : Res D := match x, y with
  | .int i, .int j => if c i j then .ok (g i j) S else .bad
  | _, _ => .bad
def always : Int → Int → Prop := fun _ _ => True
instance (i j : Int) : Decidable (always i j) := inferInstanceAs (Decidable True)
@[simp] theorem iOp_ok {c : Int → Int → Prop} [∀ i j, Decidable (c i j)] {g : Int → Int → D} {i j : Int} {S : Store} : iOp c g (.int i) (.int j) S = if c i j then .ok (g i j) S else .bad := rfl
section
variable {X : Cx}
theorem iOp_sat {T : Kt} {W : WX} {σ : L2.St} {c : Int → Int → Prop} [∀ i j, Decidable (c i j)] {g : Int → Int → D} {gv : Int → Int → V} (hg : ∀ K r F i j, Rp K r F (g i j) (gv i j)) {w : Wl} {x y : V} {d e : D} {Q : VK} (hw : Wd T.K w) (r1 : RD T.K w d x) (r2 : RD T.K w e y)
    (hs : SatW T W σ (RD T.K) w (iOp c g d e w.S) (fun w' _ v => Q v w'.H)) : ∃ i j, x = .int i ∧ y = .int j ∧ c i j ∧ Q (gv i j) w.H := by
  unfold iOp at hs
  split at hs
  · rename_i i j
    obtain ⟨hc, hs⟩ := satIf hs
    exact ⟨i, j, rp_int r1, rp_int r2, hc, SatW.here hs hw (hg _ _ _ i j)⟩
  · exact hs.elim
theorem opI_d {fn : Value → Value → Sem Value} {c : Int → Int → Prop} [∀ i j, Decidable (c i j)] {g : Int → Int → D} {gv : Int → Int → V} (hg : ∀ K r F i j, Rp K r F (g i j) (gv i j)) (ho : OpR X fn (rI c gv)) : OpD X fn (iOp c g) :=
  ⟨_, ho, fun w x y d e W σ Q hw r1 r2 hs => iOp_sat hg hw r1 r2 hs⟩
theorem opI0_d {fn : Value → Value → Sem Value} {g : Int → Int → D} {gv : Int → Int → V} (hg : ∀ K r F i j, Rp K r F (g i j) (gv i j)) (ho : OpR X fn (rI0 gv)) : OpD X fn (iOp always g) :=
  ⟨_, ho, fun w x y d e W σ Q hw r1 r2 hs => by
    obtain ⟨i, j, h1, h2, _, q⟩ := iOp_sat hg hw r1 r2 hs
    exact ⟨i, j, h1, h2, q⟩⟩
def dSub := iOp always fun i j => .int (i - j)
def dFdiv := iOp divOk fun i j => .int (i.fdiv j)
def dMod := iOp (fun _ j => j ≠ 0) fun i j => .int (i.fmod j)
def dPow := iOp powOk fun i j => .int (i ^ j.toNat)
def dLt := iOp always fun i j => .bl (decide (i < j))
def dLe := iOp always fun i j => .bl (decide (i ≤ j))
def dGt := iOp always fun i j => .bl (decide (j < i))
def dGe := iOp always fun i j => .bl (decide (j ≤ i))
theorem od_sub : OpD X (binaryOp .Sub) dSub := opI0_d (fun _ _ _ _ _ => rpi) op_sub
theorem od_fdiv : OpD X (binaryOp .FloorDiv) dFdiv := opI_d (fun _ _ _ _ _ => rpi) op_fdivX
theorem od_mod : OpD X (binaryOp .Mod) dMod := opI_d (fun _ _ _ _ _ => rpi) op_modN
theorem od_pow : OpD X (binaryOp .Pow) dPow := opI_d (fun _ _ _ _ _ => rpi) op_pow
theorem od_lt : OpD X (compareOp .Lt) dLt := opI0_d (fun _ _ _ _ _ => rpb) op_lt
theorem od_le : OpD X (compareOp .LtE) dLe := opI0_d (fun _ _ _ _ _ => rpb) op_le
theorem od_gt : OpD X (compareOp .Gt) dGt := opI0_d (fun _ _ _ _ _ => rpb) op_gt
theorem od_ge : OpD X (compareOp .GtE) dGe := opI0_d (fun _ _ _ _ _ => rpb) op_ge
end
@[simp] theorem dSub_ok {i j : Int} {S : Store} : dSub (.int i) (.int j) S = .ok (.int (i - j)) S := rfl
@[simp] theorem dFdiv_ok {i j : Int} {S : Store} : dFdiv (.int i) (.int j) S = if divOk i j then .ok (.int (i.fdiv j)) S else .bad := rfl
@[simp] theorem dMod_ok {i j : Int} {S : Store} : dMod (.int i) (.int j) S = if j ≠ 0 then .ok (.int (i.fmod j)) S else .bad := rfl
@[simp] theorem dPow_ok {i j : Int} {S : Store} : dPow (.int i) (.int j) S = if powOk i j then .ok (.int (i ^ j.toNat)) S else .bad := rfl
@[simp] theorem dLt_ok {i j : Int} {S : Store} : dLt (.int i) (.int j) S = .ok (.bl (decide (i < j))) S := rfl
@[simp] theorem dLe_ok {i j : Int} {S : Store} : dLe (.int i) (.int j) S = .ok (.bl (decide (i ≤ j))) S := rfl
@[simp] theorem dGt_ok {i j : Int} {S : Store} : dGt (.int i) (.int j) S = .ok (.bl (decide (j < i))) S := rfl
@[simp] theorem dGe_ok {i j : Int} {S : Store} : dGe (.int i) (.int j) S = .ok (.bl (decide (j ≤ i))) S := rfl

/-! ### + and * : ints, lists, tuples, texts -/
def dAdd (mk : List D → M D) (x y : D) (S : Store) : Res D := match x, y with
  | .int i, .int j => .ok (.int (i + j)) S
  | .int i, .bl b => .ok (.int (i + b2i b)) S
  | .str a, .str b => if a.length + b.length ≤ 16000000 then .ok (.str (a ++ b)) S else .bad
  | .tup a, .tup b => if a ≠ [] ∧ b ≠ [] ∧ a.length + b.length ≤ 16000000 then .ok (.tup (a ++ b)) S else .bad
  | x, y => match getL x S, getL y S with
    | some a, some b => if a.length + b.length ≤ 16000000 then mk (a ++ b) S else .bad
    | _, _ => .bad
def dMul (mk : List D → M D) (x y : D) (S : Store) : Res D := match x, y with
  | .int i, .int j => if IntMulOk i j then .ok (.int (i * j)) S else .bad
  | .lst l, .int k => if rng62 k ∧ l.length * k.toNat ≤ 16000000 then mk (List.replicate k.toNat l).flatten S else .bad
  | _, _ => .bad
section
variable {X : Cx}
theorem Rps.ne_nil {K : PySem.W.Frag} {r : List Addr} {F : Hp} {l : List D} {vs : List V} (h : Rps K r F l vs) (hl : l ≠ []) : vs ≠ [] := fun z => by
  subst z
  have := h.length
  cases l with
  | nil => exact hl rfl
  | cons _ _ => cases this
theorem od_add {mk : List D → M D} (m : Mk mk) : OpD X (binaryOp .Add) (dAdd mk) := by
  refine ⟨_, (op_add.or (op_add_ib.or (op_add_str.or ((op_catT).or op_cat)))), fun w x y d e W σ Q hw r1 r2 hs => ?_⟩
  have lists : ∀ {a b : List D}, getL d w.S = some a → getL e w.S = some b → SatW (kt X) W σ (RD X.K) w (if a.length + b.length ≤ 16000000 then mk (a ++ b) w.S else .bad) (fun w' _ v => Q v w'.H) → rCat x y w.H Q := fun {a b} ha hb hs => by
    obtain ⟨hl, hs⟩ := satIf hs
    obtain ⟨p, vs, e1, q1, t1⟩ := getL_ok hw r1 ha
    obtain ⟨p', vs', e2, q2, t2⟩ := getL_ok hw r2 hb
    exact ⟨p, p', vs, vs', e1, e2, q1, q2, by rw [t1.length, t2.length]; exact line16 hl, m.go hw (t1.append t2) hs⟩
  have gen : ∀ {o1 o2 : Option (List D)}, getL d w.S = o1 → getL e w.S = o2 → SatW (kt X) W σ (RD X.K) w (match o1, o2 with | some a, some b => if a.length + b.length ≤ 16000000 then mk (a ++ b) w.S else .bad | _, _ => .bad) (fun w' _ v => Q v w'.H) → rCat x y w.H Q := fun {o1 o2} h1 h2 hs => by
    cases o1 with
    | none => exact hs.elim
    | some a =>
      cases o2 with
      | none => exact hs.elim
      | some b => exact lists h1 h2 hs
  unfold dAdd at hs
  split at hs
  · rename_i i j
    exact .inl ⟨i, j, rp_int r1, rp_int r2, SatW.here hs hw rpi⟩
  · rename_i i b
    exact .inr (.inl ⟨i, b, rp_int r1, rp_bl r2, SatW.here hs hw rpi⟩)
  · rename_i a b
    obtain ⟨hl, hs⟩ := satIf hs
    exact .inr (.inr (.inl ⟨a, b, rp_str r1, rp_str r2, line16 hl, SatW.here hs hw rps⟩))
  · rename_i a b
    obtain ⟨hl, hs⟩ := satIf hs
    obtain ⟨p, vs, e1, q1, t1⟩ := getT_ok hw r1 rfl
    obtain ⟨p', vs', e2, q2, t2⟩ := getT_ok hw r2 rfl
    exact .inr (.inr (.inr (.inl ⟨p, p', vs, vs', e1, e2, .inl q1, .inl q2, t1.ne_nil hl.1, by rw [t1.length, t2.length]; exact line16 hl.2.2, fun z => (t2.ne_nil hl.2.1 z).elim, fun _ => tup_go hw (t1.append t2) hs⟩)))
  · exact .inr (.inr (.inr (.inr (gen rfl rfl hs))))
theorem od_mul {mk : List D → M D} (m : Mk mk) : OpD X (binaryOp .Mult) (dMul mk) := by
  refine ⟨_, (op_mulX.or op_rep), fun w x y d e W σ Q hw r1 r2 hs => ?_⟩
  unfold dMul at hs
  split at hs
  · rename_i i j
    obtain ⟨hc, hs⟩ := satIf hs
    exact .inl ⟨i, j, rp_int r1, rp_int r2, hc, SatW.here hs hw rpi⟩
  · rename_i l k
    obtain ⟨hl, hs⟩ := satIf hs
    obtain ⟨p, vs, e1, q1, t1⟩ := getL_ok hw r1 rfl
    have b1 := hl.1.1
    have b2 := hl.1.2
    exact .inr ⟨p, k, vs, e1, rp_int r2, q1, by omega, by omega, by rw [t1.length]; exact line16 hl.2, m.go hw (t1.rep k.toNat) hs⟩
  · exact hs.elim
end
@[simp] theorem dAdd_int {mk : List D → M D} {i j : Int} {S : Store} : dAdd mk (.int i) (.int j) S = .ok (.int (i + j)) S := rfl
@[simp] theorem dAdd_ib {mk : List D → M D} {i : Int} {b : Bool} {S : Store} : dAdd mk (.int i) (.bl b) S = .ok (.int (i + b2i b)) S := rfl
@[simp] theorem dAdd_str {mk : List D → M D} {a b : Str} {S : Store} : dAdd mk (.str a) (.str b) S = if a.length + b.length ≤ 16000000 then .ok (.str (a ++ b)) S else .bad := rfl
@[simp] theorem dAdd_lst {mk : List D → M D} {a b : List D} {S : Store} : dAdd mk (.lst a) (.lst b) S = if a.length + b.length ≤ 16000000 then mk (a ++ b) S else .bad := rfl
@[simp] theorem dMul_int {mk : List D → M D} {i j : Int} {S : Store} : dMul mk (.int i) (.int j) S = if IntMulOk i j then .ok (.int (i * j)) S else .bad := rfl
@[simp] theorem dMul_lst {mk : List D → M D} {l : List D} {k : Int} {S : Store} : dMul mk (.lst l) (.int k) S = if rng62 k ∧ l.length * k.toNat ≤ 16000000 then mk (List.replicate k.toNat l).flatten S else .bad := rfl

/-! ### one number -/
def dNeg (d : D) (S : Store) : Res D := match d with
  | .int i => .ok (.int (-i)) S
  | _ => .bad
section
variable {X : Cx}
theorem ud_neg : UnD X (unaryOp .USub) dNeg := ⟨_, un_neg, fun w x d W σ Q hw r hs => by
  cases d with
  | int i => exact ⟨i, rp_int r, SatW.here hs hw rpi⟩
  | _ => exact hs.elim⟩
end
@[simp] theorem dNeg_ok {i : Int} {S : Store} : dNeg (.int i) S = .ok (.int (-i)) S := rfl

/-! ### == and != -/
mutual
def toP (S : Store) : Nat → D → Option PyData
  | _, .non => some .none
  | _, .bl b => some (.bool b)
  | _, .int i => some (.int i)
  | _, .str x => if PySem.PyData.canLay0 (.str x) then some (.str x) else none
  | 0, _ => none
  | n + 1, .tup l => (toPs S n l).map .tuple
  | n + 1, .lst l => (toPs S n l).map .list
  | n + 1, .scr l => (toPs S n l).map .list
  | n + 1, .cell c => match S[c]? with
    | some (.lst l) => (toPs S n l).map .list
    | _ => none
  | _ + 1, .raw _ => none
  | _ + 1, .cls _ => none
  | _ + 1, .exn _ _ => none
def toPs (S : Store) : Nat → List D → Option (List PyData)
  | _, [] => some []
  | n, d :: l => match toP S n d, toPs S n l with
    | some x, some y => some (x :: y)
    | _, _ => none
end
mutual
theorem toP_ok {S : Store} : ∀ (n : Nat) (d : D) (p : PyData), toP S n d = some p → p.canLay0 = true ∧ p.depth ≤ n
  | n, .non, p, h => by rw [toP] at h; cases h; exact ⟨rfl, Nat.zero_le _⟩
  | n, .bl b, p, h => by rw [toP] at h; cases h; exact ⟨rfl, Nat.zero_le _⟩
  | n, .int b, p, h => by rw [toP] at h; cases h; exact ⟨rfl, Nat.zero_le _⟩
  | n, .str x, p, h => by
    rw [toP] at h
    by_cases hc : PySem.PyData.canLay0 (.str x) = true
    · rw [if_pos hc] at h; cases h; exact ⟨hc, Nat.zero_le _⟩
    · rw [if_neg hc] at h; cases h
  | 0, .tup l, p, h => by rw [toP] at h <;> first | cases h | simp
  | 0, .lst l, p, h => by rw [toP] at h <;> first | cases h | simp
  | 0, .scr l, p, h => by rw [toP] at h <;> first | cases h | simp
  | 0, .cell l, p, h => by rw [toP] at h <;> first | cases h | simp
  | 0, .raw l, p, h => by rw [toP] at h <;> first | cases h | simp
  | n + 1, .raw l, p, h => by rw [toP] at h; cases h
  | 0, .cls l, p, h => by rw [toP] at h <;> first | cases h | simp
  | n + 1, .cls l, p, h => by rw [toP] at h; cases h
  | 0, .exn l _, p, h => by rw [toP] at h <;> first | cases h | simp
  | n + 1, .exn l _, p, h => by rw [toP] at h; cases h
  | n + 1, .tup l, p, h => by
    rw [toP] at h
    cases q : toPs S n l with
    | none => rw [q] at h; cases h
    | some ps =>
      rw [q] at h
      cases h
      obtain ⟨h1, h2⟩ := toPs_ok n l ps q
      exact ⟨h1, Nat.succ_le_succ h2⟩
  | n + 1, .lst l, p, h => by
    rw [toP] at h
    cases q : toPs S n l with
    | none => rw [q] at h; cases h
    | some ps =>
      rw [q] at h
      cases h
      obtain ⟨h1, h2⟩ := toPs_ok n l ps q
      exact ⟨h1, Nat.succ_le_succ h2⟩
  | n + 1, .scr l, p, h => by
    rw [toP] at h
    cases q : toPs S n l with
    | none => rw [q] at h; cases h
    | some ps =>
      rw [q] at h
      cases h
      obtain ⟨h1, h2⟩ := toPs_ok n l ps q
      exact ⟨h1, Nat.succ_le_succ h2⟩
  | n + 1, .cell c, p, h => by
    rw [toP] at h
    split at h
    · rename_i l e
      cases q : toPs S n l with
      | none => rw [q] at h; cases h
      | some ps =>
        rw [q] at h
        cases h
        obtain ⟨h1, h2⟩ := toPs_ok n l ps q
        exact ⟨h1, Nat.succ_le_succ h2⟩
    · cases h
theorem toPs_ok {S : Store} : ∀ (n : Nat) (l : List D) (p : List PyData), toPs S n l = some p → PyData.canLayAll0 p = true ∧ PyData.depthAll p ≤ n
  | n, [], p, h => by rw [toPs] at h; cases h; exact ⟨rfl, Nat.zero_le _⟩
  | n, d :: l, p, h => by
    rw [toPs] at h
    cases q1 : toP S n d with
    | none => rw [q1] at h; cases h
    | some x =>
      cases q2 : toPs S n l with
      | none => rw [q1, q2] at h; cases h
      | some y =>
        rw [q1, q2] at h
        cases h
        obtain ⟨h1, h2⟩ := toP_ok n d x q1
        obtain ⟨h3, h4⟩ := toPs_ok n l y q2
        refine ⟨?_, ?_⟩
        · rw [PyData.canLayAll0, h1, h3]; rfl
        · rw [PyData.depthAll]; omega
end
mutual
theorem toP_dp {K : PySem.W.Frag} {w : Wl} (hw : Wd K w) : ∀ (n : Nat) (d : D) (v : V) (p : PyData), toP w.S n d = some p → Rp K w.r w.F d v → Dp K w.H v p
  | n, .non, v, p, h, r => by rw [toP] at h; cases h; cases rp_non r; exact .non
  | n, .bl b, v, p, h, r => by rw [toP] at h; cases h; cases rp_bl r; exact .bl b
  | n, .int b, v, p, h, r => by rw [toP] at h; cases h; cases rp_int r; exact .int b
  | n, .str x, v, p, h, r => by
    rw [toP] at h
    by_cases hc : PySem.PyData.canLay0 (.str x) = true
    · rw [if_pos hc] at h; cases h; cases rp_str r; exact .str x
    · rw [if_neg hc] at h; cases h
  | 0, .tup l, v, p, h, r => by rw [toP] at h <;> first | cases h | simp
  | 0, .lst l, v, p, h, r => by rw [toP] at h <;> first | cases h | simp
  | 0, .scr l, v, p, h, r => by rw [toP] at h <;> first | cases h | simp
  | 0, .cell l, v, p, h, r => by rw [toP] at h <;> first | cases h | simp
  | 0, .raw l, v, p, h, r => by rw [toP] at h <;> first | cases h | simp
  | n + 1, .raw l, v, p, h, r => by rw [toP] at h; cases h
  | 0, .cls l, v, p, h, r => by rw [toP] at h <;> first | cases h | simp
  | n + 1, .cls l, v, p, h, r => by rw [toP] at h; cases h
  | 0, .exn l _, v, p, h, r => by rw [toP] at h <;> first | cases h | simp
  | n + 1, .exn l _, v, p, h, r => by rw [toP] at h; cases h
  | n + 1, .tup l, v, p, h, r => by
    rw [toP] at h
    cases q : toPs w.S n l with
    | none => rw [q] at h; cases h
    | some ps =>
      rw [q] at h
      cases h
      obtain ⟨a, vs, rfl, hr, t⟩ := getT_ok hw r rfl
      exact .tup (.inl hr) (toPs_dp hw n l vs ps q t)
  | n + 1, .lst l, v, p, h, r => by
    rw [toP] at h
    cases q : toPs w.S n l with
    | none => rw [q] at h; cases h
    | some ps =>
      rw [q] at h
      cases h
      obtain ⟨a, vs, rfl, hr, t⟩ := getL_ok hw r rfl
      exact .lst (.inl (.inl hr)) (toPs_dp hw n l vs ps q t)
  | n + 1, .scr l, v, p, h, r => by
    rw [toP] at h
    cases q : toPs w.S n l with
    | none => rw [q] at h; cases h
    | some ps =>
      rw [q] at h
      cases h
      obtain ⟨a, vs, rfl, hr, t⟩ := getQ_ok hw r rfl
      exact .lst hr (toPs_dp hw n l vs ps q t)
  | n + 1, .cell c, v, p, h, r => by
    rw [toP] at h
    split at h
    · rename_i l e
      cases q : toPs w.S n l with
      | none => rw [q] at h; cases h
      | some ps =>
        rw [q] at h
        cases h
        obtain ⟨a, vs, rfl, hr, t⟩ := getL_ok (l := l) hw r (by simp only [getL, e])
        exact .lst (.inl (.inl hr)) (toPs_dp hw n l vs ps q t)
    · cases h
theorem toPs_dp {K : PySem.W.Frag} {w : Wl} (hw : Wd K w) : ∀ (n : Nat) (l : List D) (vs : List V) (p : List PyData), toPs w.S n l = some p → Rps K w.r w.F l vs → DpAll K w.H vs p
  | n, [], vs, p, h, r => by rw [toPs] at h; cases h; rw [r.nil_inv]; exact .nil
  | n, d :: l, vs, p, h, r => by
    rw [toPs] at h
    cases q1 : toP w.S n d with
    | none => rw [q1] at h; cases h
    | some x =>
      cases q2 : toPs w.S n l with
      | none => rw [q1, q2] at h; cases h
      | some y =>
        rw [q1, q2] at h
        cases h
        obtain ⟨v, t, rfl, r1, r2⟩ := r.cons_inv
        exact .cons (toP_dp hw n d v x q1 r1) (toPs_dp hw n l t y q2 r2)
end
def dEq (a b : D) (S : Store) : Res D := match toP S 60 a, toP S 60 b with
  | some x, some y => .ok (.bl (PyData.eqv x y)) S
  | _, _ => .bad
def dNe (a b : D) (S : Store) : Res D := match toP S 60 a, toP S 60 b with
  | some x, some y => .ok (.bl (!PyData.eqv x y)) S
  | _, _ => .bad
theorem shaped_of {S : Store} {d : D} {p : PyData} (h : toP S 60 d = some p) : SeqAt.shaped p = true := by
  obtain ⟨h1, h2⟩ := toP_ok 60 d p h
  unfold SeqAt.shaped
  rw [h1, decide_eq_true (by omega)]
  rfl
section
variable {X : Cx}
theorem od_eq (hu : X.A.units + 64 < cLine) : OpD X (compareOp .Eq) dEq := ⟨_, op_eqD hu, fun w x y d e W σ Q hw r1 r2 hs => by
  unfold dEq at hs
  split at hs
  · rename_i p q h1 h2
    exact ⟨p, q, toP_dp hw 60 d x p h1 r1, toP_dp hw 60 e y q h2 r2, shaped_of h1, shaped_of h2, SatW.here hs hw rpb⟩
  · exact hs.elim⟩
theorem od_ne (hu : X.A.units + 64 < cLine) : OpD X (compareOp .NotEq) dNe := ⟨_, op_neD hu, fun w x y d e W σ Q hw r1 r2 hs => by
  unfold dNe at hs
  split at hs
  · rename_i p q h1 h2
    exact ⟨p, q, toP_dp hw 60 d x p h1 r1, toP_dp hw 60 e y q h2 r2, shaped_of h1, shaped_of h2, SatW.here hs hw rpb⟩
  · exact hs.elim⟩
end
@[simp] theorem dEq_int {i j : Int} {S : Store} : dEq (.int i) (.int j) S = .ok (.bl (decide (i = j))) S := by
  simp only [dEq, toP, PyData.eqv]
  rfl
@[simp] theorem dNe_int {i j : Int} {S : Store} : dNe (.int i) (.int j) S = .ok (.bl (!decide (i = j))) S := by
  simp only [dNe, toP, PyData.eqv]
  rfl
theorem dEq_of {a b : D} {S : Store} {p q : PyData} (h1 : toP S 60 a = some p) (h2 : toP S 60 b = some q) : dEq a b S = .ok (.bl (PyData.eqv p q)) S := by
  simp only [dEq, h1, h2]
theorem dNe_of {a b : D} {S : Store} {p q : PyData} (h1 : toP S 60 a = some p) (h2 : toP S 60 b = some q) : dNe a b S = .ok (.bl (!PyData.eqv p q)) S := by
  simp only [dNe, h1, h2]
theorem dEq_self {a : D} {S : Store} {p : PyData} (h1 : toP S 60 a = some p) : dEq a a S = .ok (.bl true) S := by
  rw [dEq_of h1 h1, SeqAt.eqv_refl p (toP_ok 60 a p h1).1]
theorem dNe_self {a : D} {S : Store} {p : PyData} (h1 : toP S 60 a = some p) : dNe a a S = .ok (.bl false) S := by
  rw [dNe_of h1 h1, SeqAt.eqv_refl p (toP_ok 60 a p h1).1]
  rfl

/-! ### is None -/
def dIsN (a b : D) (S : Store) : Res D := match b with
  | .non => match a with
    | .non => .ok (.bl true) S
    | .raw _ => .bad
    | _ => .ok (.bl false) S
  | _ => .bad
def dIsNotN (a b : D) (S : Store) : Res D := match b with
  | .non => match a with
    | .non => .ok (.bl false) S
    | .raw _ => .bad
    | _ => .ok (.bl true) S
  | _ => .bad
theorem rp_isnon {K : PySem.W.Frag} {r : List Addr} {F : Hp} {d : D} {v : V} (h : Rp K r F d v) (hd : ∀ x, d ≠ .raw x) : decide (v = .non) = (match d with | .non => true | _ => false) := by
  cases d with
  | non => cases rp_non h; rfl
  | bl b => cases rp_bl h; rfl
  | int b => cases rp_int h; rfl
  | str b => cases rp_str h; rfl
  | tup l => unfold Rp at h; obtain ⟨a, vs, rfl, _⟩ := h; rfl
  | lst l => unfold Rp at h; obtain ⟨a, vs, rfl, _⟩ := h; rfl
  | scr l => unfold Rp at h; obtain ⟨a, vs, rfl, _⟩ := h; rfl
  | cell n => unfold Rp at h; obtain ⟨a, _, rfl⟩ := h; rfl
  | cls n => unfold Rp at h; obtain ⟨a, _, rfl⟩ := h; rfl
  | exn n f => unfold Rp at h; obtain ⟨a, _, _, rfl, _⟩ := h; rfl
  | raw x => exact (hd x rfl).elim
section
variable {X : Cx}
theorem od_isN : OpD X (compareOp .Is) dIsN := ⟨_, op_isN, fun w x y d e W σ Q hw r1 r2 hs => by
  cases e with
  | non =>
    refine ⟨rp_non r2, ?_⟩
    have q := rp_isnon (show Rp X.K w.r w.F d x from r1)
    cases d with
    | raw z => exact hs.elim
    | non => rw [q (by simp)]; exact SatW.here hs hw rpb
    | bl z => rw [q (by simp)]; exact SatW.here hs hw rpb
    | int z => rw [q (by simp)]; exact SatW.here hs hw rpb
    | str z => rw [q (by simp)]; exact SatW.here hs hw rpb
    | tup z => rw [q (by simp)]; exact SatW.here hs hw rpb
    | lst z => rw [q (by simp)]; exact SatW.here hs hw rpb
    | scr z => rw [q (by simp)]; exact SatW.here hs hw rpb
    | cell z => rw [q (by simp)]; exact SatW.here hs hw rpb
    | cls z => rw [q (by simp)]; exact SatW.here hs hw rpb
    | exn z f => rw [q (by simp)]; exact SatW.here hs hw rpb
  | _ => exact hs.elim⟩
theorem od_isNotN : OpD X (compareOp .IsNot) dIsNotN := ⟨_, op_notN, fun w x y d e W σ Q hw r1 r2 hs => by
  cases e with
  | non =>
    refine ⟨rp_non r2, ?_⟩
    have q := rp_isnon (show Rp X.K w.r w.F d x from r1)
    cases d with
    | raw z => exact hs.elim
    | non => rw [q (by simp)]; exact SatW.here hs hw rpb
    | bl z => rw [q (by simp)]; exact SatW.here hs hw rpb
    | int z => rw [q (by simp)]; exact SatW.here hs hw rpb
    | str z => rw [q (by simp)]; exact SatW.here hs hw rpb
    | tup z => rw [q (by simp)]; exact SatW.here hs hw rpb
    | lst z => rw [q (by simp)]; exact SatW.here hs hw rpb
    | scr z => rw [q (by simp)]; exact SatW.here hs hw rpb
    | cell z => rw [q (by simp)]; exact SatW.here hs hw rpb
    | cls z => rw [q (by simp)]; exact SatW.here hs hw rpb
    | exn z f => rw [q (by simp)]; exact SatW.here hs hw rpb
  | _ => exact hs.elim⟩
end

/-! ### an item -/
def dIx (x y : D) (S : Store) : Res D := match y with
  | .int i => match x with
    | .tup l => match atI l i with
      | some d => .ok d S
      | none => .bad
    | .str z => if z.length ≤ 16000000 then match atI z.cps.toList i with
        | some c => .ok (.str ⟨#[c]⟩) S
        | none => .bad
      else .bad
    | x => match getQ x S with
      | some l => match atI l i with
        | some d => .ok d S
        | none => .bad
      | none => .bad
  | _ => .bad
theorem Rps.atI {K : PySem.W.Frag} {r : List Addr} {F : Hp} {l : List D} {vs : List V} {i : Int} {d : D} (h : Rps K r F l vs) (e : L2.atI l i = some d) : ∃ v, L2.atI vs i = some v ∧ Rp K r F d v := by
  unfold L2.atI at e ⊢
  rw [h.length]
  cases q : ixN l.length i with
  | none => rw [q] at e; cases e
  | some j =>
    rw [q] at e
    exact h.get (i := j) e
section
variable {X : Cx}
theorem ixd : IxD X dIx := ⟨_, ix_seq, fun w x y d e W σ Q hw r1 r2 hs => by
  have gen : ∀ {o : Option (List D)} {i : Int}, getQ d w.S = o → e = .int i → SatW (kt X) W σ (RD X.K) w (match o with | some l => (match L2.atI l i with | some d => (.ok d w.S : Res D) | none => .bad) | none => .bad) (fun w' _ v => Q v w'.H) → rIxL X.K x y w.H Q := fun {o i} h1 h2 hq => by
    cases o with
    | none => exact hq.elim
    | some l =>
      cases q : L2.atI l i with
      | none => simp only [q] at hq; exact hq.elim
      | some z =>
        simp only [q] at hq
        obtain ⟨p, vs, e1, q1, t1⟩ := getQ_ok hw r1 h1
        obtain ⟨v, ev, rv⟩ := t1.atI q
        subst h2
        exact ⟨p, vs, i, v, e1, rp_int r2, q1, ev, SatW.here hq hw rv⟩
  unfold dIx at hs
  split at hs
  · rename_i i
    split at hs
    · rename_i l
      cases q : L2.atI l i with
      | none => simp only [q] at hs; exact hs.elim
      | some z =>
        simp only [q] at hs
        obtain ⟨p, vs, e1, q1, t1⟩ := getT_ok hw r1 rfl
        obtain ⟨v, ev, rv⟩ := t1.atI q
        exact .inr (.inl ⟨p, vs, i, v, e1, rp_int r2, .inl q1, ev, SatW.here hs hw rv⟩)
    · rename_i z
      obtain ⟨hl, hs⟩ := satIf hs
      cases q : L2.atI z.cps.toList i with
      | none => simp only [q] at hs; exact hs.elim
      | some c =>
        simp only [q] at hs
        exact .inr (.inr ⟨z, i, c, rp_str r1, rp_int r2, line16 hl, q, SatW.here hs hw rps⟩)
    · exact .inl (gen rfl rfl hs)
  · exact hs.elim⟩
end
@[simp] theorem dIx_tup {l : List D} {i : Int} {S : Store} : dIx (.tup l) (.int i) S = match L2.atI l i with | some d => .ok d S | none => .bad := rfl
@[simp] theorem dIx_lst {l : List D} {i : Int} {S : Store} : dIx (.lst l) (.int i) S = match L2.atI l i with | some d => .ok d S | none => .bad := rfl

/-! ### built-in functions -/
def bAbs (l : List D) (S : Store) : Res D := match l with
  | [.int i] => .ok (.int (if i < 0 then -i else i)) S
  | _ => .bad
def bLen (l : List D) (S : Store) : Res D := match l with
  | [.str z] => if z.length ≤ 16000000 then .ok (.int z.length) S else .bad
  | [.tup l] => .ok (.int l.length) S
  | [x] => match getQ x S with
    | some l => .ok (.int l.length) S
    | none => .bad
  | _ => .bad
def intsOf : List D → Option (List Int)
  | [] => some []
  | .int i :: l => (intsOf l).map (i :: ·)
  | _ :: _ => none
def bSum (l : List D) (S : Store) : Res D := match l with
  | [x] => match (getQ x S).bind intsOf with
    | some ns => .ok (.int ns.sum) S
    | none => .bad
  | _ => .bad
def maxL : List Int → Int
  | [] => 0
  | [x] => x
  | x :: y :: l => max x (maxL (y :: l))
def minL : List Int → Int
  | [] => 0
  | [x] => x
  | x :: y :: l => min x (minL (y :: l))
def bMax (l : List D) (S : Store) : Res D := match l with
  | [.int i, .int j] => .ok (.int (if j > i then j else i)) S
  | [x] => match (getQ x S).bind intsOf with
    | some (n :: ns) => .ok (.int (maxL (n :: ns))) S
    | _ => .bad
  | _ => .bad
def bMin (l : List D) (S : Store) : Res D := match l with
  | [.int i, .int j] => .ok (.int (if j < i then j else i)) S
  | [x] => match (getQ x S).bind intsOf with
    | some (n :: ns) => .ok (.int (minL (n :: ns))) S
    | _ => .bad
  | _ => .bad
def bInt (l : List D) (S : Store) : Res D := match l with
  | [.int i] => .ok (.int i) S
  | [.bl b] => .ok (.int (if b then 1 else 0)) S
  | _ => .bad
def bList (mk : List D → M D) (l : List D) (S : Store) : Res D := match l with
  | [.tup l] => mk l S
  | [x] => match getQ x S with
    | some l => mk l S
    | none => .bad
  | _ => .bad
def bTuple (l : List D) (S : Store) : Res D := match l with
  | [.tup l] => .ok (.tup l) S
  | [x] => match getQ x S with
    | some l => .ok (.tup l) S
    | none => .bad
  | _ => .bad
theorem maxL_mem : ∀ {l : List Int}, l ≠ [] → maxL l ∈ l
  | [], h => (h rfl).elim
  | [x], _ => by simp [maxL]
  | x :: y :: l, _ => by
    have ih := maxL_mem (l := y :: l) (by simp)
    unfold maxL
    rcases Int.le_total x (maxL (y :: l)) with h | h
    · rw [Int.max_eq_right h]; exact List.mem_cons_of_mem _ ih
    · rw [Int.max_eq_left h]; exact List.mem_cons_self
theorem maxL_ge : ∀ {l : List Int} {y : Int}, y ∈ l → y ≤ maxL l
  | [], y, h => by simp at h
  | [x], y, h => by
    have : y = x := by simpa using h
    subst this; exact Int.le_refl _
  | x :: z :: l, y, h => by
    unfold maxL
    rcases List.mem_cons.mp h with e | h
    · subst e; exact Int.le_max_left _ _
    · exact Int.le_trans (maxL_ge h) (Int.le_max_right _ _)
theorem minL_mem : ∀ {l : List Int}, l ≠ [] → minL l ∈ l
  | [], h => (h rfl).elim
  | [x], _ => by simp [minL]
  | x :: y :: l, _ => by
    have ih := minL_mem (l := y :: l) (by simp)
    unfold minL
    rcases Int.le_total x (minL (y :: l)) with h | h
    · rw [Int.min_eq_left h]; exact List.mem_cons_self
    · rw [Int.min_eq_right h]; exact List.mem_cons_of_mem _ ih
theorem minL_le : ∀ {l : List Int} {y : Int}, y ∈ l → minL l ≤ y
  | [], y, h => by simp at h
  | [x], y, h => by
    have : y = x := by simpa using h
    subst this; exact Int.le_refl _
  | x :: z :: l, y, h => by
    unfold minL
    rcases List.mem_cons.mp h with e | h
    · subst e; exact Int.min_le_left _ _
    · exact Int.le_trans (Int.min_le_right _ _) (minL_le h)
theorem intsOf_eq : ∀ {l : List D} {ns : List Int}, intsOf l = some ns → l = ns.map D.int
  | [], ns, h => by cases h; rfl
  | .int i :: l, ns, h => by
    rw [intsOf] at h
    cases q : intsOf l with
    | none => rw [q] at h; cases h
    | some ms =>
      rw [q] at h
      cases h
      rw [intsOf_eq q]
      rfl
  | .non :: l, ns, h => by cases h
  | .bl _ :: l, ns, h => by cases h
  | .str _ :: l, ns, h => by cases h
  | .tup _ :: l, ns, h => by cases h
  | .lst _ :: l, ns, h => by cases h
  | .scr _ :: l, ns, h => by cases h
  | .cell _ :: l, ns, h => by cases h
  | .raw _ :: l, ns, h => by cases h
  | .cls _ :: l, ns, h => by cases h
  | .exn _ _ :: l, ns, h => by cases h
@[simp] theorem intsOf_map : ∀ ns : List Int, intsOf (ns.map D.int) = some ns
  | [] => rfl
  | n :: ns => by rw [List.map_cons, intsOf, intsOf_map ns]; rfl
section
variable {X : Cx} {K : PySem.W.Frag} {w : Wl}
theorem one_inv {d : D} {xs : List V} (h : Rps K w.r w.F [d] xs) : ∃ v, xs = [v] ∧ Rp K w.r w.F d v := by
  obtain ⟨v, t, e, r1, r2⟩ := h.cons_inv
  have := r2.nil_inv
  subst this
  exact ⟨v, e, r1⟩
theorem two_inv {d e : D} {xs : List V} (h : Rps K w.r w.F [d, e] xs) : ∃ v u, xs = [v, u] ∧ Rp K w.r w.F d v ∧ Rp K w.r w.F e u := by
  obtain ⟨v, t, e1, r1, r2⟩ := h.cons_inv
  obtain ⟨u, q, r3⟩ := one_inv r2
  subst q
  exact ⟨v, u, e1, r1, r3⟩
theorem ints_of {x : D} {v : V} {ns : List Int} (hw : Wd K w) (r : Rp K w.r w.F x v) (h : (getQ x w.S).bind intsOf = some ns) : ∃ a, v = .ref a ∧ SqL K w.H a (ns.map V.int) := by
  cases q : getQ x w.S with
  | none => rw [q] at h; cases h
  | some l =>
    rw [q] at h
    have e := intsOf_eq (show intsOf l = some ns from h)
    subst e
    obtain ⟨a, vs, e1, q1, t⟩ := getQ_ok hw r q
    rw [t.ints] at q1
    exact ⟨a, e1, q1⟩
theorem cd_abs : CallD X (.builtin "abs") bAbs := ⟨_, call_abs, fun w xs ds W σ Q hw r hs => by
  unfold bAbs at hs
  split at hs
  · rename_i i
    obtain ⟨v, rfl, rv⟩ := one_inv r
    cases rp_int rv
    exact ⟨i, rfl, SatW.here hs hw rpi⟩
  · exact hs.elim⟩
theorem cd_len : CallD X (.builtin "len") bLen := ⟨_, call_len, fun w xs ds W σ Q hw r hs => by
  unfold bLen at hs
  split at hs
  · rename_i z
    obtain ⟨v, rfl, rv⟩ := one_inv r
    cases rp_str rv
    obtain ⟨hl, hs⟩ := satIf hs
    exact ⟨_, z.length, rfl, ⟨line16 hl, rfl⟩, SatW.here hs hw rpi⟩
  · rename_i l
    obtain ⟨v, rfl, rv⟩ := one_inv r
    obtain ⟨a, vs, rfl, q, t⟩ := getT_ok hw rv rfl
    exact ⟨_, l.length, rfl, .inr ⟨vs, .inl q, t.length.symm⟩, SatW.here hs hw rpi⟩
  · rename_i x _ _
    obtain ⟨v, rfl, rv⟩ := one_inv r
    cases q : getQ x w.S with
    | none => rw [q] at hs; exact hs.elim
    | some l =>
      rw [q] at hs
      obtain ⟨a, vs, rfl, q, t⟩ := getQ_ok hw rv q
      exact ⟨_, l.length, rfl, .inl ⟨vs, q, t.length.symm⟩, SatW.here hs hw rpi⟩
  · exact hs.elim⟩
theorem cd_sum (hc : X.calm = true) : CallD X (.builtin "sum") bSum := ⟨_, cr_sum hc, fun w xs ds W σ Q hw r hs => by
  unfold bSum at hs
  split at hs
  · rename_i x
    obtain ⟨v, rfl, rv⟩ := one_inv r
    split at hs
    · rename_i ns h
      obtain ⟨a, rfl, q⟩ := ints_of hw rv h
      exact ⟨a, ns, rfl, q, SatW.here hs hw rpi⟩
    · exact hs.elim
  · exact hs.elim⟩
theorem cd_max (hc : X.calm = true) : CallD X (.builtin "max") bMax := ⟨_, (call_max2 hc).or (cr_max hc), fun w xs ds W σ Q hw r hs => by
  unfold bMax at hs
  split at hs
  · rename_i i j
    obtain ⟨v, u, rfl, rv, ru⟩ := two_inv r
    cases rp_int rv
    cases rp_int ru
    exact .inl ⟨i, j, rfl, SatW.here hs hw rpi⟩
  · rename_i x
    obtain ⟨v, rfl, rv⟩ := one_inv r
    split at hs
    · rename_i n ns h
      obtain ⟨a, rfl, q⟩ := ints_of hw rv h
      refine .inr ⟨a, n :: ns, rfl, q, by simp, fun m h1 h2 => ?_⟩
      have e : m = maxL (n :: ns) := Int.le_antisymm (maxL_ge h1) (h2 _ (maxL_mem (by simp)))
      rw [e]
      exact SatW.here hs hw rpi
    · exact hs.elim
  · exact hs.elim⟩
theorem cd_min (hc : X.calm = true) : CallD X (.builtin "min") bMin := ⟨_, (call_min2 hc).or (cr_min hc), fun w xs ds W σ Q hw r hs => by
  unfold bMin at hs
  split at hs
  · rename_i i j
    obtain ⟨v, u, rfl, rv, ru⟩ := two_inv r
    cases rp_int rv
    cases rp_int ru
    exact .inl ⟨i, j, rfl, SatW.here hs hw rpi⟩
  · rename_i x
    obtain ⟨v, rfl, rv⟩ := one_inv r
    split at hs
    · rename_i n ns h
      obtain ⟨a, rfl, q⟩ := ints_of hw rv h
      refine .inr ⟨a, n :: ns, rfl, q, by simp, fun m h1 h2 => ?_⟩
      have e : m = minL (n :: ns) := Int.le_antisymm (h2 _ (minL_mem (by simp))) (minL_le h1)
      rw [e]
      exact SatW.here hs hw rpi
    · exact hs.elim
  · exact hs.elim⟩
theorem cd_int : CallD X (.type "int") bInt := ⟨_, call_int1, fun w xs ds W σ Q hw r hs => by
  unfold bInt at hs
  split at hs
  · rename_i i
    obtain ⟨v, rfl, rv⟩ := one_inv r
    cases rp_int rv
    exact .inl ⟨i, rfl, SatW.here hs hw rpi⟩
  · rename_i b
    obtain ⟨v, rfl, rv⟩ := one_inv r
    cases rp_bl rv
    exact .inr ⟨b, rfl, SatW.here hs hw rpi⟩
  · exact hs.elim⟩
theorem cd_list {mk : List D → M D} (m : Mk mk) : CallD X (.type "list") (bList mk) := ⟨_, call_list_of, fun w xs ds W σ Q hw r hs => by
  unfold bList at hs
  split at hs
  · rename_i l
    obtain ⟨v, rfl, rv⟩ := one_inv r
    obtain ⟨a, vs, rfl, q, t⟩ := getT_ok hw rv rfl
    exact ⟨a, vs, rfl, .inr (.inl q), m.go hw t hs⟩
  · rename_i x _
    obtain ⟨v, rfl, rv⟩ := one_inv r
    cases q : getQ x w.S with
    | none => rw [q] at hs; exact hs.elim
    | some l =>
      rw [q] at hs
      obtain ⟨a, vs, rfl, q, t⟩ := getQ_ok hw rv q
      exact ⟨a, vs, rfl, .inl q, m.go hw t hs⟩
  · exact hs.elim⟩
theorem cd_tuple : CallD X (.type "tuple") bTuple := ⟨_, call_tuple_of, fun w xs ds W σ Q hw r hs => by
  unfold bTuple at hs
  split at hs
  · rename_i l
    obtain ⟨v, rfl, rv⟩ := one_inv r
    obtain ⟨a, vs, rfl, q, t⟩ := getT_ok hw rv rfl
    exact ⟨a, vs, rfl, .inr ⟨.inl q, SatW.here hs hw rv⟩⟩
  · rename_i x _
    obtain ⟨v, rfl, rv⟩ := one_inv r
    cases q : getQ x w.S with
    | none => rw [q] at hs; exact hs.elim
    | some l =>
      rw [q] at hs
      obtain ⟨a, vs, rfl, q, t⟩ := getQ_ok hw rv q
      exact ⟨a, vs, rfl, .inl ⟨q, tup_go hw t hs⟩⟩
  · exact hs.elim⟩

/-! ### isinstance, of built-in classes -/
inductive Ty where | int | bool | list | tuple | str | dict
  deriving DecidableEq
def Ty.name : Ty → String
  | .int => "int" | .bool => "bool" | .list => "list" | .tuple => "tuple" | .str => "str" | .dict => "dict"
def tyOf (d : D) (S : Store) : Option String := match d with
  | .non => some "NoneType"
  | .bl _ => some "bool"
  | .int _ => some "int"
  | .str _ => some "str"
  | .tup _ => some "tuple"
  | .lst _ => some "list"
  | .scr _ => some "list"
  | .cell n => match S[n]? with
    | some (.lst _) => some "list"
    | some (.dct _) => some "dict"
    | _ => none
  | .raw _ => none
  | .cls _ => none
  | .exn _ _ => none
def isTy (ty : Ty) (t : String) : Bool := t == ty.name || (ty == .int && t == "bool")
end
end
end Dv
/-! # Dv6: isinstance, slices, stores, methods of lists, freezing -/
namespace Dv
noncomputable section
open PySem PySem.Spec PyProof.Rows L2

/-! ### a built-in's name as a value -/
section
variable {X : Cx} {W : WX} {pos : Pos}
theorem pd_ty {x : Str} {n : String} (hm : X.mg x = none) (hv : bootBuiltins x = some (.type n)) (hg : Gl X x := by rfl) (hn : x ≠ "__name__" := by decide) (hd : (x == ("__debug__" : Str)) = false := by decide) : PD X W (.Name x pos) (xC (.raw (.ty n))) :=
  pd_c (v := V.ty n) (pe_bltn (v := V.ty n) hg hm hv rfl hn hd) (fun _ _ _ q => q) fun _ _ _ => by unfold Rp; rfl
/-- a module's number or text -/
theorem pd_gint {x : Str} {i : Int} {t : Tok} (hm : X.mg x = some (.int i t)) (hg : Gl X x := by rfl) (hd : (x == ("__debug__" : Str)) = false := by decide) : PD X W (.Name x pos) (xC (.int i)) :=
  pd_c (v := V.int i) (pe_glob (v := V.int i) hg hm ⟨_, rfl⟩ hd) (fun _ _ _ q => q) fun _ _ _ => rpi
theorem pd_gstr {x : Str} {i : Str} {t : Tok} (hm : X.mg x = some (.str i t)) (hg : Gl X x := by rfl) (hd : (x == ("__debug__" : Str)) = false := by decide) : PD X W (.Name x pos) (xC (.str i)) :=
  pd_c (v := V.str i) (pe_glob (v := V.str i) hg hm ⟨_, rfl⟩ hd) (fun _ _ _ q => q) fun _ _ _ => rps
theorem pd_gref {x : Str} {C : Addr} (hm : X.mg x = some (.ref C)) (hg : Gl X x := by rfl) (hd : (x == ("__debug__" : Str)) = false := by decide) : PD X W (.Name x pos) (xC (.raw (.ref C))) :=
  pd_c (v := V.ref C) (pe_glob (v := V.ref C) hg hm rfl hd) (fun _ _ _ q => q) fun _ _ _ => by unfold Rp; rfl
end
def bIsi (l : List D) (S : Store) : Res D := match l with
  | [d, .raw (.ty n)] => match tyOf d S with
    | some t => match kitB t n with
      | some b => .ok (.bl b) S
      | none => .bad
    | none => .bad
  | _ => .bad
theorem tyx {K : PySem.W.Frag} {w : Wl} {d : D} {v : V} {t : String} (hw : Wd K w) (r : Rp K w.r w.F d v) (h : tyOf d w.S = some t) : TyX K w.H v (.type t) := by
  have lst : ∀ {a : Addr} {vs : List V}, w.H a = some (.lst vs) → TyX K w.H (.ref a) (.type "list") := fun {a vs} q => .base (.lst q)
  cases d with
  | non => cases h; cases rp_non r; exact .base .non
  | bl b => cases h; cases rp_bl r; exact .base (.bl b)
  | int b => cases h; cases rp_int r; exact .base (.int b)
  | str b => cases h; cases rp_str r; exact .base (.str b)
  | tup l =>
    cases h
    obtain ⟨a, vs, rfl, q, p⟩ := getT_ok hw r rfl
    rcases q with q | ⟨o, q⟩
    · exact .base (.tup q)
    · exact .fTuple q
  | lst l =>
    cases h
    obtain ⟨a, vs, rfl, q, p⟩ := getL_ok hw r rfl
    exact lst q
  | scr l =>
    cases h
    obtain ⟨a, vs, rfl, q, p⟩ := getQ_ok hw r rfl
    rcases q with (q | ⟨o, q⟩) | ⟨o, its, n, h1, h2, _⟩
    · exact lst q
    · exact .base (.frz q)
    · exact .kList h1 h2
  | cell n =>
    unfold tyOf at h
    cases e : w.S[n]? with
    | none => simp only [e] at h; cases h
    | some c =>
      cases c with
      | lst l =>
        simp only [e] at h
        cases h
        obtain ⟨a, vs, rfl, q, p⟩ := getL_ok (l := l) hw r (by simp only [getL, e])
        exact lst q
      | dct l =>
        simp only [e] at h
        cases h
        unfold Rp at r
        obtain ⟨a, e1, rfl⟩ := r
        obtain ⟨_, vs, e2, p⟩ := hw.cell n a _ e1 e
        exact .base (.dK e2)
      | dead => simp only [e] at h; cases h
  | raw _ => cases h
  | cls _ => cases h
  | exn _ _ => cases h
section
variable {X : Cx}
theorem cd_isi : CallD X (.builtin "isinstance") bIsi := ⟨_, call_isi, fun w xs ds W σ Q hw r hs => by
  unfold bIsi at hs
  split at hs
  · rename_i d n
    obtain ⟨v, u, rfl, rv, ru⟩ := two_inv r
    cases rp_raw ru
    split at hs
    · rename_i t ht
      split at hs
      · rename_i b hb
        exact ⟨v, .ty n, .type t, .type n, b, rfl, .ty n, tyx hw rv ht, kit_ty hb, SatW.here hs hw rpb⟩
      · exact hs.elim
    · exact hs.elim
  · exact hs.elim⟩
end
@[simp] theorem kb_ii : kitB "int" "int" = some true := by decide +kernel
@[simp] theorem kb_bi : kitB "bool" "int" = some true := by decide +kernel
@[simp] theorem kb_si : kitB "str" "int" = some false := by decide +kernel
@[simp] theorem kb_ni : kitB "NoneType" "int" = some false := by decide +kernel
@[simp] theorem kb_li : kitB "list" "int" = some false := by decide +kernel
@[simp] theorem kb_ti : kitB "tuple" "int" = some false := by decide +kernel
@[simp] theorem kb_di : kitB "dict" "int" = some false := by decide +kernel
@[simp] theorem kb_ib : kitB "int" "bool" = some false := by decide +kernel
@[simp] theorem kb_bb : kitB "bool" "bool" = some true := by decide +kernel
@[simp] theorem kb_sb : kitB "str" "bool" = some false := by decide +kernel
@[simp] theorem kb_nb : kitB "NoneType" "bool" = some false := by decide +kernel
@[simp] theorem kb_lb : kitB "list" "bool" = some false := by decide +kernel
@[simp] theorem kb_tb : kitB "tuple" "bool" = some false := by decide +kernel
@[simp] theorem kb_db : kitB "dict" "bool" = some false := by decide +kernel
@[simp] theorem kb_il : kitB "int" "list" = some false := by decide +kernel
@[simp] theorem kb_bl : kitB "bool" "list" = some false := by decide +kernel
@[simp] theorem kb_sl : kitB "str" "list" = some false := by decide +kernel
@[simp] theorem kb_nl : kitB "NoneType" "list" = some false := by decide +kernel
@[simp] theorem kb_ll : kitB "list" "list" = some true := by decide +kernel
@[simp] theorem kb_tl : kitB "tuple" "list" = some false := by decide +kernel
@[simp] theorem kb_dl : kitB "dict" "list" = some false := by decide +kernel
@[simp] theorem kb_it : kitB "int" "tuple" = some false := by decide +kernel
@[simp] theorem kb_bt : kitB "bool" "tuple" = some false := by decide +kernel
@[simp] theorem kb_st : kitB "str" "tuple" = some false := by decide +kernel
@[simp] theorem kb_nt : kitB "NoneType" "tuple" = some false := by decide +kernel
@[simp] theorem kb_lt : kitB "list" "tuple" = some false := by decide +kernel
@[simp] theorem kb_tt : kitB "tuple" "tuple" = some true := by decide +kernel
@[simp] theorem kb_dt : kitB "dict" "tuple" = some false := by decide +kernel

/-! ### slices -/
abbrev RO : Wl → Option Int → Option Int → Prop := fun _ a b => a = b
def tDO (T : Kt) (W : WX) (f : Env → M (Option Int)) : TO := fun σ H Q => ∃ (w : Wl) (env : Env), w.H = H ∧ Wd T.K w ∧ EnvOk T.K w env σ ∧ SatW T W σ RO w (f env w.S) (fun w' _ v => Q v w'.H)
def POD (X : Cx) (W : WX) (e : Option Expr) (f : Env → M (Option Int)) : Prop := PO X e (tDO (kt X) W f)
def oNone : Env → M (Option Int) := fun _ S => .ok none S
def oSome (f : Env → M D) : Env → M (Option Int) := fun e S => (f e S).bind fun d S1 => match d with
  | .int i => .ok (some i) S1
  | _ => .bad
def slD (mk : List D → M D) (d : D) (lo hi : Option Int) (S : Store) : Res D := match d with
  | .str z => if z.length ≤ 16000000 then .ok (.str (cutS z lo hi)) S else .bad
  | .tup l => if ¬ (HT.sIx l.length 0 lo = 0 ∧ HT.sIx l.length l.length hi = l.length) then .ok (.tup ((l.drop (HT.sIx l.length 0 lo)).take (HT.sIx l.length l.length hi - HT.sIx l.length 0 lo))) S else .bad
  | d => match getQ d S with
    | some l => mk ((l.drop (HT.sIx l.length 0 lo)).take (HT.sIx l.length l.length hi - HT.sIx l.length 0 lo)) S
    | none => .bad
def xSl (mk : List D → M D) (f : Env → M D) (lo hi : Env → M (Option Int)) : Env → M D := fun e S => (f e S).bind fun d S1 => (lo e S1).bind fun a S2 => (hi e S2).bind fun b S3 => slD mk d a b S3
section
variable {X : Cx} {W : WX} {e : Expr} {lo hi : Option Expr} {f : Env → M D} {fl fh : Env → M (Option Int)} {pos p2 : Pos} {mk : List D → M D}
theorem weakO {e : Option Expr} {t t' : TO} (h : PO X e t) (q : ∀ σ H Q, t' σ H Q → t σ H Q) : PO X e t' := ⟨fun pins s σ H Q I z => h.run pins s σ H Q I (q _ _ _ z)⟩
theorem pod_none : POD X W none oNone := by
  refine weakO po_none fun σ H Q ⟨w, env, eH, hw, he, hs⟩ => ?_
  subst eH
  exact SatW.here (d := (none : Option Int)) (v := (none : Option Int)) hs hw rfl
theorem pod_some (h : PD X W e f) : POD X W (some e) (oSome f) := by
  refine weakO (po_some h) fun σ H Q ⟨w, env, eH, hw, he, hs⟩ => ?_
  subst eH
  refine ⟨w, env, rfl, hw, he, SatW.imp (SatW.bind hs) fun w1 d v g1 r1 s1 => ?_⟩
  cases d with
  | int i => exact ⟨i, rp_int r1, SatW.here (d := some i) (v := some i) s1 g1.wd rfl⟩
  | _ => exact s1.elim
theorem pd_slice (m : Mk mk) (he : PD X W e f) (hl : POD X W lo fl) (hu : POD X W hi fh) : PD X W (.Subscript e (.Slice lo hi none p2) pos) (xSl mk f fl fh) := by
  refine weakE (pe_slice (sl_list.or (sl_tup.or sl_str)) he hl hu) fun σ H Q ⟨w, env, eH, hw, he, hs⟩ => ?_
  subst eH
  refine ⟨w, env, rfl, hw, he, SatW.imp (SatW.bind hs) fun w1 d v g1 r1 s1 => ?_⟩
  refine ⟨w1, env, rfl, g1.wd, he.go g1, SatW.imp (SatW.bind s1) fun w2 a a' g2 ea s2 => ?_⟩
  have ea' : a = a' := ea
  subst ea'
  refine ⟨w2, env, rfl, g2.wd, (he.go g1).go g2, SatW.imp (SatW.bind s2) fun w3 b b' g3 eb s3 => ?_⟩
  have eb' : b = b' := eb
  subst eb'
  have r3 : Rp X.K w3.r w3.F d v := Rp.go (g2.trans g3) r1
  have s3' : SatW (kt X) W σ (RD X.K) w3 (slD mk d a b w3.S) (fun w' _ v => Q v w'.H) := s3
  unfold slD at s3'
  split at s3'
  · rename_i z
    obtain ⟨hl, s4⟩ := satIf s3'
    exact .inr (.inr ⟨z, rp_str r3, line16 hl, SatW.here s4 g3.wd rps⟩)
  · rename_i l
    obtain ⟨hl, s4⟩ := satIf s3'
    obtain ⟨p, vs, rfl, q, t⟩ := getT_ok g3.wd r3 rfl
    refine .inr (.inl ⟨p, vs, rfl, .inl q, by rw [t.length]; exact hl, tup_go g3.wd ?_ s4⟩)
    unfold cutV
    rw [t.length]
    exact (t.drop _).take _
  · split at s3'
    · rename_i l hl
      obtain ⟨p, vs, rfl, q, t⟩ := getQ_ok g3.wd r3 hl
      refine .inl ⟨p, vs, rfl, q, m.go g3.wd ?_ s3'⟩
      unfold cutV
      rw [t.length]
      exact (t.drop _).take _
    · exact s3'.elim
end

/-! ### freezing -/
def frz (d : D) (S : Store) : Res D := match d with
  | .cell n => match S[n]? with
    | some (.lst l) => .ok (.lst l) (S.set n .dead)
    | _ => .bad
  | d => .ok d S
def xFrz (f : Env → M D) : Env → M D := fun e S => (f e S).bind frz
def frzE (i : Nat) : Env → Store → Out := fun e S => match e[i]? with
  | some (some d) => (frz d S).out e fun d' S' => .nx (e.set i (some d')) S'
  | _ => .bad
theorem frz_sat {T : Kt} {W : WX} {σ : L2.St} {w : Wl} {d : D} {v : V} {P : Wl → D → V → Prop} (hw : Wd T.K w) (r : Rp T.K w.r w.F d v) (h : SatW T W σ (RD T.K) w (frz d w.S) P) : ∃ w' d', w'.H = w.H ∧ P w' d' v ∧ Go T.K w w' ∧ Rp T.K w'.r w'.F d' v ∧ frz d w.S = .ok d' w'.S := by
  cases d with
  | cell n =>
    unfold frz at h ⊢
    cases e : w.S[n]? with
    | none => simp only [e] at h; exact h.elim
    | some c =>
      cases c with
      | lst l =>
        simp only [e] at h ⊢
        unfold Rp at r
        obtain ⟨a, e1, rfl⟩ := r
        obtain ⟨hf, vs, e2, p⟩ := hw.cell n a _ e1 e
        have g := Go.freeze hw e e1 e2
        have r' : Rp T.K w.r (upd w.F a (.lst vs)) (.lst l) (.ref a) := by
          unfold Rp
          exact ⟨a, vs, rfl, upd_same, Rps.mono ⟨[], by simp⟩ g.F _ _ p⟩
        exact ⟨⟨w.r, upd w.F a (.lst vs), w.S.set n .dead, w.H⟩, .lst l, rfl, h _ _ g rfl r', g, r', rfl⟩
      | dct _ => simp only [e] at h; exact h.elim
      | dead => simp only [e] at h; exact h.elim
  | non => exact ⟨w, _, rfl, SatW.here h hw r, Go.refl hw, r, rfl⟩
  | bl _ => exact ⟨w, _, rfl, SatW.here h hw r, Go.refl hw, r, rfl⟩
  | int _ => exact ⟨w, _, rfl, SatW.here h hw r, Go.refl hw, r, rfl⟩
  | str _ => exact ⟨w, _, rfl, SatW.here h hw r, Go.refl hw, r, rfl⟩
  | tup _ => exact ⟨w, _, rfl, SatW.here h hw r, Go.refl hw, r, rfl⟩
  | lst _ => exact ⟨w, _, rfl, SatW.here h hw r, Go.refl hw, r, rfl⟩
  | scr _ => exact ⟨w, _, rfl, SatW.here h hw r, Go.refl hw, r, rfl⟩
  | raw _ => exact ⟨w, _, rfl, SatW.here h hw r, Go.refl hw, r, rfl⟩
  | cls _ => exact ⟨w, _, rfl, SatW.here h hw r, Go.refl hw, r, rfl⟩
  | exn _ _ => exact ⟨w, _, rfl, SatW.here h hw r, Go.refl hw, r, rfl⟩
section
variable {X : Cx} {W : WX} {e : Expr} {f : Env → M D} {s : Stmt} {g : Env → Store → Out}
theorem pd_frz (h : PD X W e f) : PD X W e (xFrz f) := by
  refine weakE h fun σ H Q ⟨w, env, eH, hw, he, hs⟩ => ?_
  refine ⟨w, env, eH, hw, he, SatW.imp (SatW.bind hs) fun w1 d v g1 r1 s1 => ?_⟩
  obtain ⟨w', d', e1, q, _⟩ := frz_sat g1.wd r1 s1
  rw [e1] at q
  exact q
theorem psd_frz {i : Nat} (h : PSD X W s g) : PSD X W s (ySeq g (frzE i)) := by
  refine weakS h fun D σ H ⟨w, env, eH, hw, he, hs⟩ => ⟨w, env, eH, hw, he, ?_⟩
  have hs' : SatS (kt X) W w ((g env w.S).seq (frzE i)) D := hs
  cases o : g env w.S with
  | nx e' S' =>
    rw [o] at hs'
    intro w1 σ1 g1 eS he1
    subst eS
    have hs1 := hs'.pre g1
    rw [Out.seq_nx] at hs1
    unfold frzE at hs1
    cases q : e'[i]? with
    | none => rw [q] at hs1; exact hs1.elim
    | some oo =>
      cases oo with
      | none => rw [q] at hs1; exact hs1.elim
      | some d =>
        rw [q] at hs1
        obtain ⟨v, ev, rv⟩ := he1.2 i d q
        have hs2 := SatS.out (R := RD X.K) (β := V) hs1 he1
        obtain ⟨w2, d2, e2, q2, g2, r2, f2⟩ := frz_sat (T := kt X) g1.wd rv hs2
        have hs3 : SatS (kt X) W w1 (.nx (e'.set i (some d2)) w2.S) D := by
          have hs1' : SatS (kt X) W w1 ((frz d w1.S).out e' fun d' S' => .nx (e'.set i (some d')) S') D := hs1
          rw [f2] at hs1'
          exact hs1'
        have fin := hs3 w2 (σ1.set i (some v)) g2 rfl ((he1.go g2).set r2)
        have es : σ1.set i (some v) = σ1 := by
          apply List.ext_getElem?
          intro k
          rw [List.getElem?_set]
          by_cases hk : i = k
          · subst hk
            rw [if_pos rfl, ev, if_pos (List.getElem?_eq_some_iff.mp ev).1]
          · rw [if_neg hk]
        rw [es, e2] at fin
        exact fin
  | rt d S => rw [o] at hs'; exact hs'
  | bk e S => rw [o] at hs'; exact hs'
  | ct e S => rw [o] at hs'; exact hs'
  | exc x e S => rw [o] at hs'; exact hs'
  | bad => rw [o] at hs'; exact hs'
end

/-! ### o[i] = v -/
def SetD (X : Cx) (g : D → D → D → M Unit) : Prop :=
  ∃ rr : TSet, PSet X rr ∧ ∀ (w : Wl) (x i v : V) (dx di dv : D) (W : WX) (σ : L2.St) (Q : Hp → Prop), Wd X.K w → RD X.K w dx x → RD X.K w di i → RD X.K w dv v → SatW (kt X) W σ (fun _ (_ : Unit) (_ : Unit) => True) w (g dx di dv w.S) (fun w' _ _ => Q w'.H) → rr x i v w.H Q
def setL (x i v : D) (S : Store) : Res Unit := match x, i with
  | .cell n, .int k => match S[n]? with
    | some (.lst l) => match ixN l.length k with
      | some j => .ok () (S.set n (.lst (l.set j v)))
      | none => .bad
    | _ => .bad
  | _, _ => .bad
/-- a list's cell is written -/
theorem cell_write {T : Kt} {w : Wl} {n : Nat} {l l' : List D} {v : V} (hw : Wd T.K w) (r : Rp T.K w.r w.F (.cell n) v) (e : w.S[n]? = some (.lst l)) : ∃ a vs, v = .ref a ∧ w.H a = some (.lst vs) ∧ Rps T.K w.r w.F l vs ∧
    ∀ vs', Rps T.K w.r w.F l' vs' → Go T.K w ⟨w.r, w.F, w.S.set n (.lst l'), upd w.H a (.lst vs')⟩ := by
  unfold Rp at r
  obtain ⟨a, e1, rfl⟩ := r
  obtain ⟨hf, vs, e2, p⟩ := hw.cell n a _ e1 e
  exact ⟨a, vs, rfl, e2, p, fun vs' h => Go.write (c := .lst l') hw e (by simp) e1 (by exact ⟨hf, vs', upd_same, h⟩)⟩
def ySub (f o i : Env → M D) (g : D → D → D → M Unit) : Env → Store → Out := fun e S => (f e S).out e fun v S1 => (o e S1).out e fun x S2 => (i e S2).out e fun k S3 => (g x k v S3).out e fun _ S4 => .nx e S4
section
variable {X : Cx} {W : WX} {e o i : Expr} {f fo fi : Env → M D} {g : D → D → D → M Unit} {pos tpos : Pos}
theorem sd_list : SetD X setL := ⟨_, set_list, fun w x i v dx di dv W σ Q hw r1 r2 r3 hs => by
  unfold setL at hs
  split at hs
  · rename_i n k
    cases en : w.S[n]? with
    | none => simp only [en] at hs; exact hs.elim
    | some c =>
      cases c with
      | lst l =>
        simp only [en] at hs
        cases ej : ixN l.length k with
        | none => simp only [ej] at hs; exact hs.elim
        | some j =>
          simp only [ej] at hs
          obtain ⟨a, vs, rfl, ha, p, go⟩ := cell_write (T := kt X) (l' := l.set j dv) hw r1 en
          exact ⟨a, vs, k, j, rfl, rp_int r2, ha, by rw [p.length]; exact ej, hs _ () (go _ (p.set j r3)) rfl trivial⟩
      | dct _ => simp only [en] at hs; exact hs.elim
      | dead => simp only [en] at hs; exact hs.elim
  · exact hs.elim⟩
theorem psd_sub (sd : SetD X g) (hv : PD X W e f) (ho : PD X W o fo) (hi : PD X W i fi) (hs : swapsWithSole [.Subscript o i tpos] e pos.line X.env = pure false := by rfl) (hw : swappedStores [.Subscript o i tpos] e X.env = pure none := by rfl)
    (h1 : (assignEach [.Subscript o i tpos] X.env).map (·.2) = [assign (.Subscript o i tpos) X.env] := by rfl)
    (ha : ∀ v, assign (.Subscript o i tpos) X.env v = (do
      let ov ← holding [v] (eval o X.env)
      let iv ← holding [v, ov] (eval i X.env)
      standAt tpos
      holding [v, ov, iv] (setItem ov iv v)
      release [v, ov, iv] []) := by intro _; rfl) : PSD X W (.Assign [.Subscript o i tpos] e pos) (ySub f fo fi g) := by
  obtain ⟨rr, ro, hr⟩ := sd
  refine weakS (ps_asg hv (pg_sub ho hi ro ha) hs hw h1) fun D σ H ⟨w, env, eH, hw, he, hs⟩ => ?_
  subst eH
  refine ⟨w, env, rfl, hw, he, SatW.imp (SatS.out hs he) fun w1 d v g1 r1 s1 => ?_⟩
  refine ⟨w1, env, rfl, g1.wd, he.go g1, SatW.imp (SatS.out s1 (he.go g1)) fun w2 d2 v2 g2 r2 s2 => ?_⟩
  refine ⟨w2, env, rfl, g2.wd, (he.go g1).go g2, SatW.imp (SatS.out s2 ((he.go g1).go g2)) fun w3 d3 v3 g3 r3 s3 => ?_⟩
  refine hr w3 v2 v3 v d2 d3 d W σ _ g3.wd (Rp.go g3 r2) r3 (Rp.go (g2.trans g3) r1) (SatW.imp (SatS.out s3 (((he.go g1).go g2).go g3)) fun w4 _ _ g4 _ s4 => ?_)
  exact s4 w4 σ (Go.refl g4.wd) rfl ((((he.go g1).go g2).go g3).go g4)
theorem pget_list : PGet X (fun x y H Q => ∃ p xs i v, x = .ref p ∧ y = .int i ∧ SqL X.K H p xs ∧ 0 ≤ i ∧ atI xs i = some v ∧ Q v H) := by
  intro pins s σ H x y v u Q I rx ry h
  obtain ⟨p, xs, i, z, rfl, rfl, hq, h0, he, q⟩ := h
  cases rx
  obtain ⟨t, rfl⟩ := ry
  obtain ⟨its, r, pl, hz⟩ := I.list hq
  obtain ⟨j, h1, h2, h3, h4, h5⟩ := atI_get he
  obtain ⟨w, ew, rw'⟩ := r.get h2
  have hl := r.length
  have hn := line63
  have hj : i.toNat = j := by
    rw [seqIndex_of h0 h5] at h1
    exact Option.some.inj h1
  exact wpAny_getItem_list pl.isList h0 (by omega) (by rw [hj]; simpa using ew) ⟨z, H, I, rw', q⟩
def yAugSub (o i f : Env → M D) (gi : D → D → M D) : Env → Store → Out := fun e S => (o e S).out e fun x S1 => (i e S1).out e fun k S2 => match k with
  | .int kk => match getL x S2 with
    | some l => if 0 ≤ kk then match atI l kk with
        | some old => (f e S2).out e fun y S4 => (gi old y S4).out e fun z S5 => (setL x (.int kk) z S5).out e fun _ S6 => .nx e S6
        | none => .bad
      else .bad
    | none => .bad
  | _ => .bad
theorem psd_augsub {op : Operator} {gi : D → D → M D} (io : IpD X op gi) (ho : PD X W o fo) (hi : PD X W i fi) (hv : PD X W e f)
    (ha : ∀ ov iv new, augStore i ov iv new = (do holding [new, ov, iv] (setItem ov iv new); release [new, ov, iv] []; pure .next) := by intros; rfl) : PSD X W (.AugAssign (.Subscript o i tpos) op e pos) (yAugSub fo fi f gi) := by
  obtain ⟨rr, ro, hr⟩ := io
  obtain ⟨rs, rso, hrs⟩ := (sd_list (X := X))
  refine weakS (ps_augS ho hi pget_list hv ro rso ha) fun D σ H ⟨w, env, eH, hw, he, hs⟩ => ?_
  subst eH
  refine ⟨w, env, rfl, hw, he, SatW.imp (SatS.out hs he) fun w1 d v g1 r1 s1 => ?_⟩
  refine ⟨w1, env, rfl, g1.wd, he.go g1, SatW.imp (SatS.out s1 (he.go g1)) fun w2 d2 v2 g2 r2 s2 => ?_⟩
  have he2 := (he.go g1).go g2
  cases d2 with
  | int kk =>
    cases hl : getL d w2.S with
    | none => simp only [hl] at s2; exact s2.elim
    | some l =>
      simp only [hl] at s2
      by_cases h0 : 0 ≤ kk
      · rw [if_pos h0] at s2
        cases q : L2.atI l kk with
        | none => simp only [q] at s2; exact s2.elim
        | some old =>
          simp only [q] at s2
          have rd : Rp X.K w2.r w2.F d v := Rp.go g2 r1
          obtain ⟨a, vs, rfl, hq, t⟩ := getL_ok g2.wd rd hl
          obtain ⟨vz, evz, rz⟩ := t.atI q
          refine ⟨a, vs, kk, vz, rfl, rp_int r2, .inl (.inl hq), h0, evz, ?_⟩
          refine ⟨w2, env, rfl, g2.wd, he2, SatW.imp (SatS.out s2 he2) fun w4 d4 v4 g4 r4 s4 => ?_⟩
          refine hr w4 vz v4 old d4 W σ _ g4.wd (Rp.go g4 rz) r4 (SatW.imp (SatS.out s4 (he2.go g4)) fun w5 d5 v5 g5 r5 s5 => ?_)
          refine hrs w5 (.ref a) v2 v5 d (.int kk) d5 W σ _ g5.wd (Rp.go (g4.trans g5) rd) (Rp.go (g4.trans g5) r2) r5 (SatW.imp (SatS.out s5 ((he2.go g4).go g5)) fun w6 _ _ g6 _ s6 => ?_)
          exact s6 w6 σ (Go.refl g6.wd) rfl (((he2.go g4).go g5).go g6)
      · rw [if_neg h0] at s2
        exact s2.elim
  | _ => exact s2.elim
def ipAdd : D → D → M D := iOp always fun i j => .int (i + j)
def ipSub : D → D → M D := iOp always fun i j => .int (i - j)
@[simp] theorem ipAdd_ok {i j : Int} {S : Store} : ipAdd (.int i) (.int j) S = .ok (.int (i + j)) S := rfl
@[simp] theorem ipSub_ok {i j : Int} {S : Store} : ipSub (.int i) (.int j) S = .ok (.int (i - j)) S := rfl
theorem id_add : IpD X .Add ipAdd := ⟨_, ip_add, fun w x y d e W σ Q hw r1 r2 hs => by
  obtain ⟨i, j, h1, h2, _, q⟩ := iOp_sat (gv := fun i j => V.int (i + j)) (fun _ _ _ _ _ => rpi) hw r1 r2 hs
  exact ⟨i, j, h1, h2, q⟩⟩
theorem id_sub : IpD X .Sub ipSub := ⟨_, ip_sub, fun w x y d e W σ Q hw r1 r2 hs => by
  obtain ⟨i, j, h1, h2, _, q⟩ := iOp_sat (gv := fun i j => V.int (i - j)) (fun _ _ _ _ _ => rpi) hw r1 r2 hs
  exact ⟨i, j, h1, h2, q⟩⟩
end

/-! ### methods -/
def isT (T : String) (d : D) (S : Store) : Bool := match d with
  | .str _ => T == "str"
  | .lst _ => T == "list"
  | .cell n => match S[n]? with
    | some (.lst _) => T == "list"
    | some (.dct _) => T == "dict"
    | _ => false
  | _ => false
theorem tyV_of {K : PySem.W.Frag} {w : Wl} {d : D} {v : V} {T : String} (hw : Wd K w) (r : Rp K w.r w.F d v) (h : isT T d w.S = true) : tyV K T v w.H := by
  cases d with
  | str x => cases rp_str r; exact eq_of_beq h
  | lst l =>
    obtain ⟨a, vs, rfl, q, t⟩ := getL_ok hw r rfl
    exact .inl ⟨eq_of_beq h, vs, .inl (.inl q)⟩
  | cell n =>
    unfold isT at h
    cases e : w.S[n]? with
    | none => simp only [e] at h; cases h
    | some c =>
      cases c with
      | lst l =>
        simp only [e] at h
        obtain ⟨a, vs, rfl, q, t⟩ := getL_ok (l := l) hw r (by simp only [getL, e])
        exact .inl ⟨eq_of_beq h, vs, .inl (.inl q)⟩
      | dct l =>
        simp only [e] at h
        unfold Rp at r
        obtain ⟨a, e1, rfl⟩ := r
        obtain ⟨_, vs, e2, p⟩ := hw.cell n a _ e1 e
        exact .inr (.inr (.inl ⟨eq_of_beq h, .inl ⟨vs, e2⟩⟩))
      | dead => simp only [e] at h; cases h
  | non => cases h
  | bl _ => cases h
  | int _ => cases h
  | tup _ => cases h
  | scr _ => cases h
  | raw _ => cases h
  | cls _ => cases h
  | exn _ _ => cases h
def MtD (X : Cx) (id : String) (g : D → List D → M D) : Prop :=
  ∃ rr : V → List V → Hp → VK → Prop, MtR X id rr ∧ ∀ (w : Wl) (x : V) (xs : List V) (d : D) (ds : List D) (W : WX) (σ : L2.St) (Q : VK), Wd X.K w → RD X.K w d x → RDs X.K w ds xs → SatW (kt X) W σ (RD X.K) w (g d ds w.S) (fun w' _ v => Q v w'.H) → rr x xs w.H Q
def xMt (T : String) (g : D → List D → M D) (o : Env → M D) (a : Env → M (List D)) : Env → M D := fun e S => (o e S).bind fun x S1 => if isT T x S1 = true then (a e S1).bind fun l S2 => g x l S2 else .bad
section
variable {X : Cx} {W : WX} {o e : Expr} {es : List Expr} {fo : Env → M D} {h : Env → M (List D)} {name : Str} {apos cpos : Pos} {T id : String} {g : D → List D → M D}
theorem pd_bm0 (pa : PlainAttrs T) (slot : Slot T name id) (hty : typeOf (.builtin id) = pure (.type "method_descriptor")) (hm : MtD X id g) (ho : PD X W o fo)
    (hbase : attributeBase o name X.env (eval o X.env) = eval o X.env := by rfl) (hline : (apos.endLine == cpos.line) = true := by rfl) : PD X W (.Call (.Attribute o name apos) [] [] cpos) (xMt T g fo xNil) := by
  obtain ⟨rr, ro, hr⟩ := hm
  refine weakE (pe_bm0 pa slot hty ro ho hbase hline) fun σ H Q ⟨w, env, eH, hw, he, hs⟩ => ?_
  subst eH
  refine ⟨w, env, rfl, hw, he, SatW.imp (SatW.bind hs) fun w1 d v g1 r1 s1 => ?_⟩
  obtain ⟨ht, s1⟩ := satIf s1
  exact ⟨tyV_of g1.wd r1 ht, hr w1 v [] d [] W σ Q g1.wd r1 rps_nil s1⟩
theorem pd_bm (pa : PlainAttrs T) (slot : Slot T name id) (hty : typeOf (.builtin id) = pure (.type "method_descriptor")) (hm : MtD X id g) (ho : PD X W o fo) (ha : PAD X W (e :: es) h)
    (hbase : attributeBase o name X.env (eval o X.env) = eval o X.env := by rfl)
    (hfew : ((backTo cpos (starEach (e :: es) X.env)).all (fun x => !x.1) && (backToKw cpos (keywordEach [] X.env)).all (fun x => x.1.isSome)
      && decide ((e :: es).length + ([] : List Keyword).length + (if ([] : List Keyword).isEmpty then 0 else 1) < 30)) = true := by rfl)
    (hline : (apos.endLine == cpos.line) = true := by rfl) (hs : starEach (e :: es) X.env = (false, eval e X.env) :: starEach es X.env := by rfl) (hplain : (backTo cpos (starEach es X.env)).any (·.1) = false := by rfl) :
    PD X W (.Call (.Attribute o name apos) (e :: es) [] cpos) (xMt T g fo h) := by
  obtain ⟨rr, ro, hr⟩ := hm
  refine weakE (pe_bm pa slot hty ro ho ha hbase hfew hline hs hplain) fun σ H Q ⟨w, env, eH, hw, he, hs⟩ => ?_
  subst eH
  refine ⟨w, env, rfl, hw, he, SatW.imp (SatW.bind hs) fun w1 d v g1 r1 s1 => ?_⟩
  obtain ⟨ht, s1⟩ := satIf s1
  refine ⟨tyV_of g1.wd r1 ht, w1, env, rfl, g1.wd, he.go g1, SatW.imp (SatW.bind s1) fun w2 d2 v2 g2 r2 s2 => ?_⟩
  exact hr w2 v v2 d d2 W σ Q g2.wd (Rp.go g2 r1) r2 s2
end
/-- the list in a cell -/
def cellL (d : D) (S : Store) : Option (Nat × List D) := match d with
  | .cell n => match S[n]? with
    | some (.lst l) => some (n, l)
    | _ => none
  | _ => none
def mAppend (x : D) (a : List D) (S : Store) : Res D := match a, cellL x S with
  | [y], some (n, l) => if l.length < 16000000 then .ok .non (S.set n (.lst (l ++ [y]))) else .bad
  | _, _ => .bad
def mClear (x : D) (a : List D) (S : Store) : Res D := match a, cellL x S with
  | [], some (n, _) => .ok .non (S.set n (.lst []))
  | _, _ => .bad
def mExtend (x : D) (a : List D) (S : Store) : Res D := match a, cellL x S with
  | [.lst z], some (n, l) => if l.length + z.length ≤ 16000000 then .ok .non (S.set n (.lst (l ++ z))) else .bad
  | _, _ => .bad
theorem cellL_eq {d : D} {S : Store} {n : Nat} {l : List D} (h : cellL d S = some (n, l)) : d = .cell n ∧ S[n]? = some (.lst l) := by
  unfold cellL at h
  split at h
  · split at h
    · rename_i k l' e
      cases h
      exact ⟨rfl, e⟩
    · cases h
  · cases h
section
variable {X : Cx}
theorem md_append : MtD X "list.append" mAppend := ⟨_, mt_append, fun w x xs d ds W σ Q hw r1 r2 hs => by
  unfold mAppend at hs
  split at hs
  · rename_i y n l hc
    obtain ⟨rfl, en⟩ := cellL_eq hc
    obtain ⟨hl, hs⟩ := satIf hs
    obtain ⟨v, rfl, rv⟩ := one_inv r2
    obtain ⟨a, vs, rfl, ha, p, go⟩ := cell_write (T := kt X) (l' := l ++ [y]) hw r1 en
    refine ⟨a, vs, v, rfl, rfl, ha, by rw [p.length]; exact Nat.lt_of_lt_of_le hl (line16 (Nat.le_refl _)), ?_⟩
    exact hs _ V.non (go _ (p.append (rps_cons rv rps_nil))) rfl rpn
  · exact hs.elim⟩
theorem md_clear : MtD X "list.clear" mClear := ⟨_, mt_clear, fun w x xs d ds W σ Q hw r1 r2 hs => by
  unfold mClear at hs
  split at hs
  · rename_i n l hc
    obtain ⟨rfl, en⟩ := cellL_eq hc
    obtain ⟨a, vs, rfl, ha, p, go⟩ := cell_write (T := kt X) (l' := []) hw r1 en
    have e0 := r2.nil_inv
    exact ⟨a, vs, rfl, e0, ha, hs _ V.non (go _ rps_nil) rfl rpn⟩
  · exact hs.elim⟩
end
end
end Dv
/-! # Dv7: a comprehension given to a name; the end of a law -/
namespace Dv
open PySem PySem.Spec PyProof.Rows L2
section
variable {X : Cx} {W : WX} {elt tg iter : Expr} {ifs : List Expr} {scope : Scope} {own : List (Str × Nat)} {pos spos py : Pos} {mk : List D → M D} {src : Env → M Src} {gV : TG} {gE : D → Env → Option Env} {c : Env → M Bool} {f : Env → M D} {i : Nat} {y : Str}
theorem set_read {t : TE} (ht : ∀ σ H Q, tD (kt X) W f σ H Q → t σ H Q) {D : Ends} {σ : L2.St} {H : Hp} (h : sD (kt X) W (ySet i f) D σ H) : tAsg t (gName i) D σ H := by
  obtain ⟨w, env, eH, hw, he, hs⟩ := h
  refine ht σ H (fun x H1 => gName i x σ H1 D.nx) ⟨w, env, eH, hw, he, SatW.imp (SatS.out hs he) fun w1 d v g1 r1 s1 => ?_⟩
  exact s1 w1 _ (Go.refl g1.wd) rfl ((he.go g1).set r1)
theorem psd_setLc (m : Mk mk) (tgd : TgD (kt X) (own.map (·.2)) gV gE) (hc : X.calm = true) (hN : X.N.Nodup) (hsw : swapsWith (.ListComp elt [⟨tg, iter, [], 0⟩] scope pos) (some (.Name y py)) spos.line X.env = pure true) (hi : PID X W tg iter src) (ok : BlkOk X.N X.env.scope scope own)
    (hg : ∀ (s : Shared) (H : Hp) (C : Addr) (cl : List (Str × Addr)) (fp : List Addr), PG (X.blk s H scope (compEnvC scope cl C X.env) fp) tg gV)
    (he : ∀ (s : Shared) (H : Hp) (C : Addr) (cl : List (Str × Addr)) (fp : List Addr), PD (X.blk s H scope (compEnvC scope cl C X.env) fp) W0 elt f) (hy : X.N[i]? = some y := by rfl) (hyl : X.env.scope.names.lookup y = some .local := by rfl) (hs : ∀ x, foldedSetIterable iter X.env x = pure x := by intro _; rfl) :
    PSD X W (.Assign [.Name y py] (.ListComp elt [⟨tg, iter, [], 0⟩] scope pos) spos) (ySet i (xLc mk src gE cYes f (own.map (·.2)))) :=
  weakS (ps_setLc (i := i) (te := tD (kt X) W0 f) hc hN hy hyl hsw hi ok hg (fun _ _ _ _ _ => pts_nil) (fun s H C cl fp => show PE _ elt (tD (kt X) W0 f) from he s H C cl fp) hs) fun D σ H => set_read fun σ H Q => lc_read m tgd fun σ H Q ⟨w, env, eH, hw, he, hs⟩ => by
    subst eH
    exact SatW.here (d := true) (v := true) hs hw rfl
theorem psd_setLcIf {t : Expr} (m : Mk mk) (tgd : TgD (kt X) (own.map (·.2)) gV gE) (hc : X.calm = true) (hN : X.N.Nodup) (hsw : swapsWith (.ListComp elt [⟨tg, iter, [t], 0⟩] scope pos) (some (.Name y py)) spos.line X.env = pure true) (hi : PID X W tg iter src) (ok : BlkOk X.N X.env.scope scope own)
    (hg : ∀ (s : Shared) (H : Hp) (C : Addr) (cl : List (Str × Addr)) (fp : List Addr), PG (X.blk s H scope (compEnvC scope cl C X.env) fp) tg gV)
    (ht : ∀ (s : Shared) (H : Hp) (C : Addr) (cl : List (Str × Addr)) (fp : List Addr), PTD (X.blk s H scope (compEnvC scope cl C X.env) fp) W0 t c)
    (he : ∀ (s : Shared) (H : Hp) (C : Addr) (cl : List (Str × Addr)) (fp : List Addr), PD (X.blk s H scope (compEnvC scope cl C X.env) fp) W0 elt f) (hy : X.N[i]? = some y := by rfl) (hyl : X.env.scope.names.lookup y = some .local := by rfl) (hs : ∀ x, foldedSetIterable iter X.env x = pure x := by intro _; rfl) :
    PSD X W (.Assign [.Name y py] (.ListComp elt [⟨tg, iter, [t], 0⟩] scope pos) spos) (ySet i (xLc mk src gE c f (own.map (·.2)))) :=
  weakS (ps_setLc (i := i) (te := tD (kt X) W0 f) (tt := tDB (kt X) W0 c) hc hN hy hyl hsw hi ok hg (fun s H C cl fp => pts_one (show PT _ t (tDB (kt X) W0 c) from ht s H C cl fp)) (fun s H C cl fp => show PE _ elt (tD (kt X) W0 f) from he s H C cl fp) hs) fun D σ H => set_read fun σ H Q => lc_read m tgd fun σ H Q h => h
end

/-! ### the law's end -/
theorem rps_scr {K : PySem.W.Frag} {r : List Addr} {F : Hp} : ∀ ns : List Int, Rps K r F (ns.map D.int) (ns.map V.int) := rps_ints
/-- the bits of the script's numbers -/
def Bits (ns : List Int) : Prop := ∀ z ∈ ns, Builtin.Int.intBits z ≤ 1048576
def spLaw (K : PySem.W.Frag) : Sp := fun vs H Q _ => ∃ (a : Addr) (ns : List Int), vs = [.ref a] ∧ SqL K H a (ns.map V.int) ∧ ns.length ≤ 63 ∧ Bits ns ∧ ∀ H', Q (.bl true) H'
def LawTrue (f : List D → M D) : Prop := ∀ ns : List Int, ns.length ≤ 63 → Bits ns → ∃ S', f [.scr (ns.map D.int)] [] = .ok (.bl true) S'
theorem law_imp {K : PySem.W.Frag} {mg : Str → Option Value} {f : List D → M D} (ht : LawTrue f) (vs : List V) (H : Hp) (Q : VK) (E : XK) (h : spLaw K vs H Q E) : spD ⟨K, mg⟩ f vs H Q E := by
  obtain ⟨a, ns, rfl, hS, hl, hb, q⟩ := h
  obtain ⟨S', hf⟩ := ht ns hl hb
  refine ⟨⟨[], H, [], H⟩, [.scr (ns.map D.int)], rfl, ⟨rfl, Same.refl _, fun n a c e _ => by simp at e, fun n m a e => by simp at e⟩, rps_cons ?_ rps_nil, ?_⟩
  · unfold Rp
    exact ⟨a, _, rfl, hS, rps_ints ns⟩
  · show SatW ⟨K, mg⟩ _ [] (RD K) _ (f [.scr (ns.map D.int)] []) _
    rw [hf]
    intro w' v g e r
    have ev := rp_bl r
    subst ev
    exact q _
theorem law_sp (K : PySem.W.Frag) (H : Hp) (a : Addr) (ns : List Int) (hl : ns.length ≤ 63) (hb : ∀ z ∈ ns, Builtin.Int.intBits z ≤ 1048576) (hS : SqL K H a (ns.map V.int)) : spLaw K [.ref a] H (fun v _ => v = .bl true) fun _ _ _ => False := ⟨a, ns, rfl, hS, hl, hb, fun _ => rfl⟩
theorem cx_end {P : Program} {w : World} {H : Hp} {s : Shared} {e : Value} {s' : Shared} (h : L2.CX P w [] H s (fun _ _ _ => False) e s') : False := by
  obtain ⟨_, _, _, _, _, _, _, _, _, _, _, _, z⟩ := h
  exact z.elim
end Dv
/-! # Dv8: reckoning with mirrors -/
namespace Dv
open PySem PySem.Spec PyProof.Rows L2

def En0 {α : Type} (x : Res α) (P : α → Store → Prop) : Prop := match x with
  | .ok a S => P a S
  | _ => False
structure Pst where
  nx : Env → Store → Prop := fun _ _ => False
  rt : D → Store → Prop := fun _ _ => False
  bk : Env → Store → Prop := fun _ _ => False
  ct : Env → Store → Prop := fun _ _ => False
def EnO0 (o : Out) (Q : Pst) : Prop := match o with
  | .nx e S => Q.nx e S
  | .rt d S => Q.rt d S
  | .bk e S => Q.bk e S
  | .ct e S => Q.ct e S
  | _ => False
section
variable {α β : Type} {x : Res α} {a : α} {S : Store} {P : α → Store → Prop} {Q : Pst} {e : Env} {d : D}
@[simp] theorem en0_ok : En0 (.ok a S) P = P a S := rfl
@[simp] theorem en0_bad : En0 (.bad : Res α) P = False := rfl
@[simp] theorem en0_exc {y : Exn} : En0 (.exc y S : Res α) P = False := rfl
@[simp] theorem en0_bind {k : α → Store → Res β} {P : β → Store → Prop} : En0 (x.bind k) P = En0 x (fun a S => En0 (k a S) P) := by cases x <;> rfl
theorem En0.imp {P' : α → Store → Prop} (h : En0 x P) (q : ∀ a S, P a S → P' a S) : En0 x P' := by
  cases x with
  | ok a S => exact q a S h
  | _ => exact h
theorem en0_eq {v : α} : En0 x (fun a S' => a = v ∧ S' = S) ↔ x = .ok v S := by
  cases x with
  | ok a S' => exact ⟨fun h => by rw [h.1, h.2], fun h => by cases h; exact ⟨rfl, rfl⟩⟩
  | exc y S' => exact ⟨fun h => h.elim, fun h => by cases h⟩
  | bad => exact ⟨fun h => h.elim, fun h => by cases h⟩
theorem En0.get (h : En0 x P) : ∃ a S, x = .ok a S ∧ P a S := by
  cases x with
  | ok a S => exact ⟨a, S, rfl, h⟩
  | exc y S' => exact h.elim
  | bad => exact h.elim
@[simp] theorem en0_if {c : Prop} [Decidable c] : En0 (if c then x else .bad) P = (c ∧ En0 x P) := by
  by_cases h : c
  · rw [if_pos h]; simp [h]
  · rw [if_neg h]; simp [h]
@[simp] theorem en0_if' {c : Prop} [Decidable c] : En0 (if c then .bad else x) P = (¬ c ∧ En0 x P) := by
  by_cases h : c
  · rw [if_pos h]; simp [h]
  · rw [if_neg h]; simp [h]
theorem en0_ite {c : Prop} [Decidable c] {y : Res α} (h1 : c → En0 x P) (h2 : ¬ c → En0 y P) : En0 (if c then x else y) P := by
  by_cases h : c
  · rw [if_pos h]; exact h1 h
  · rw [if_neg h]; exact h2 h
@[simp] theorem eno0_nx : EnO0 (.nx e S) Q = Q.nx e S := rfl
@[simp] theorem eno0_rt : EnO0 (.rt d S) Q = Q.rt d S := rfl
@[simp] theorem eno0_bk : EnO0 (.bk e S) Q = Q.bk e S := rfl
@[simp] theorem eno0_ct : EnO0 (.ct e S) Q = Q.ct e S := rfl
@[simp] theorem eno0_bad : EnO0 .bad Q = False := rfl
@[simp] theorem eno0_out {k : α → Store → Out} : EnO0 (x.out e k) Q = En0 x (fun a S => EnO0 (k a S) Q) := by cases x <;> rfl
@[simp] theorem eno0_seq {o : Out} {k : Env → Store → Out} : EnO0 (o.seq k) Q = EnO0 o { Q with nx := fun e S => EnO0 (k e S) Q } := by cases o <;> rfl
theorem EnO0.imp {o : Out} {Q' : Pst} (h : EnO0 o Q) (h1 : ∀ e S, Q.nx e S → Q'.nx e S) (h2 : ∀ e S, Q.rt e S → Q'.rt e S) (h3 : ∀ e S, Q.bk e S → Q'.bk e S) (h4 : ∀ e S, Q.ct e S → Q'.ct e S) : EnO0 o Q' := by
  cases o with
  | nx e S => exact h1 _ _ h
  | rt e S => exact h2 _ _ h
  | bk e S => exact h3 _ _ h
  | ct e S => exact h4 _ _ h
  | exc x e S => exact h
  | bad => exact h
theorem eno0_ite {c : Prop} [Decidable c] {o p : Out} (h1 : c → EnO0 o Q) (h2 : ¬ c → EnO0 p Q) : EnO0 (if c then o else p) Q := by
  by_cases h : c
  · rw [if_pos h]; exact h1 h
  · rw [if_neg h]; exact h2 h
end
/-! ### the combinators, laid open -/
section
variable {oo : Option D} {ll : Env} {S : Store} {d : D} {f g : Env → M D} {h : Env → M (List D)} {k k' : Env → M Bool} {y y' : Env → Store → Out}
@[simp] theorem xVar_app {i : Nat} : xVar i (oo :: ll) S = match (oo :: ll)[i]? with | some (some d) => .ok d S | _ => .bad := rfl
@[simp] theorem xC_app : xC d (oo :: ll) S = .ok d S := rfl
@[simp] theorem xOp_app {o : D → D → M D} : xOp o f g (oo :: ll) S = (f (oo :: ll) S).bind fun x S1 => (g (oo :: ll) S1).bind fun y S2 => o x y S2 := rfl
@[simp] theorem xUn_app {o : D → M D} : xUn o f (oo :: ll) S = (f (oo :: ll) S).bind fun x S1 => o x S1 := rfl
@[simp] theorem xNil_app : xNil (oo :: ll) S = .ok [] S := rfl
@[simp] theorem xCons_app : xCons f h (oo :: ll) S = (f (oo :: ll) S).bind fun x S1 => (h (oo :: ll) S1).bind fun y S2 => .ok (x :: y) S2 := rfl
@[simp] theorem xFn_app {o : List D → M D} : xFn o h (oo :: ll) S = (h (oo :: ll) S).bind fun x S1 => o x S1 := rfl
@[simp] theorem xTup_app : xTup h (oo :: ll) S = (h (oo :: ll) S).bind fun l S1 => if l.length ≤ 1000 then .ok (.tup l) S1 else .bad := rfl
@[simp] theorem xLst_app {mk : List D → M D} : xLst mk h (oo :: ll) S = (h (oo :: ll) S).bind fun l S1 => if l.length ≤ 1000 then mk l S1 else .bad := rfl
@[simp] theorem mkF_app {l : List D} : mkF l S = .ok (.lst l) S := rfl
@[simp] theorem mkC_app {l : List D} : mkC l S = .ok (.cell S.length) (S ++ [.lst l]) := rfl
@[simp] theorem xTru_app : xTru f (oo :: ll) S = (f (oo :: ll) S).bind tru := rfl
@[simp] theorem xIsT_app : xIsT f (oo :: ll) S = (f (oo :: ll) S).bind fun d S1 => match d with | .bl b => .ok b S1 | _ => .bad := rfl
@[simp] theorem xNot_app : xNot k (oo :: ll) S = (k (oo :: ll) S).bind fun b S1 => .ok (!b) S1 := rfl
@[simp] theorem xAnd_app : xAnd k k' (oo :: ll) S = (k (oo :: ll) S).bind fun b S1 => if b then k' (oo :: ll) S1 else .ok false S1 := rfl
@[simp] theorem xOr_app : xOr k k' (oo :: ll) S = (k (oo :: ll) S).bind fun b S1 => if b then .ok true S1 else k' (oo :: ll) S1 := rfl
@[simp] theorem xAndV_app : xAndV f g (oo :: ll) S = (f (oo :: ll) S).bind fun d S1 => match d with | .bl true => g (oo :: ll) S1 | .bl false => .ok (.bl false) S1 | _ => .bad := rfl
@[simp] theorem xOrV_app : xOrV f g (oo :: ll) S = (f (oo :: ll) S).bind fun d S1 => match d with | .bl true => .ok (.bl true) S1 | .bl false => g (oo :: ll) S1 | _ => .bad := rfl
@[simp] theorem xNotV_app : xNotV f (oo :: ll) S = (f (oo :: ll) S).bind fun d S1 => match d with | .bl b => .ok (.bl (!b)) S1 | _ => .bad := rfl
@[simp] theorem xIf_app : xIf k f g (oo :: ll) S = (k (oo :: ll) S).bind fun b S1 => if b then f (oo :: ll) S1 else g (oo :: ll) S1 := rfl
@[simp] theorem xFrz_app : xFrz f (oo :: ll) S = (f (oo :: ll) S).bind frz := rfl
@[simp] theorem yNil_app : yNil (oo :: ll) S = .nx (oo :: ll) S := rfl
@[simp] theorem ySeq_app : ySeq y y' (oo :: ll) S = (y (oo :: ll) S).seq y' := rfl
@[simp] theorem yBreak_app : yBreak (oo :: ll) S = .bk (oo :: ll) S := rfl
@[simp] theorem yCont_app : yCont (oo :: ll) S = .ct (oo :: ll) S := rfl
@[simp] theorem yExpr_app : yExpr f (oo :: ll) S = (f (oo :: ll) S).out (oo :: ll) fun _ S1 => .nx (oo :: ll) S1 := rfl
@[simp] theorem yRet_app : yRet f (oo :: ll) S = (f (oo :: ll) S).out (oo :: ll) fun d S1 => .rt d S1 := rfl
@[simp] theorem yRetN_app : yRetN (oo :: ll) S = .rt .non S := rfl
@[simp] theorem yIf_app : yIf k y y' (oo :: ll) S = (k (oo :: ll) S).out (oo :: ll) fun b S1 => if b then y (oo :: ll) S1 else y' (oo :: ll) S1 := rfl
@[simp] theorem ySet_app {i : Nat} : ySet i f (oo :: ll) S = (f (oo :: ll) S).out (oo :: ll) fun d S1 => .nx ((oo :: ll).set i (some d)) S1 := rfl
@[simp] theorem yAsg_app {q : D → Env → Store → Out} : yAsg f q (oo :: ll) S = (f (oo :: ll) S).out (oo :: ll) fun d S1 => q d (oo :: ll) S1 := rfl
@[simp] theorem yPar_app {i j : Nat} : yPar i j h (oo :: ll) S = (h (oo :: ll) S).out (oo :: ll) fun l S1 => match l with | [a, b] => .nx (((oo :: ll).set i (some a)).set j (some b)) S1 | _ => .bad := rfl
@[simp] theorem yFor_app {s : Env → M Src} {q : D → Env → Store → Out} : yFor s q y (oo :: ll) S = (s (oo :: ll) S).out (oo :: ll) fun s S1 => forL s.chk q y s.items (oo :: ll) S1 := rfl
@[simp] theorem iSrc_app {q : D → Store → Res Src} : iSrc q f (oo :: ll) S = (f (oo :: ll) S).bind q := rfl
@[simp] theorem iSrcA_app {q : List D → Store → Res Src} : iSrcA q h (oo :: ll) S = (h (oo :: ll) S).bind q := rfl
@[simp] theorem srcL_lst {l : List D} : srcL (.lst l) S = .ok ⟨l, fun _ => True⟩ S := rfl
@[simp] theorem srcL_scr {l : List D} : srcL (.scr l) S = .ok ⟨l, fun _ => True⟩ S := rfl
@[simp] theorem srcT_tup {l : List D} : srcT (.tup l) S = .ok ⟨l, fun _ => True⟩ S := rfl
theorem srcR1_app {j : Int} : srcR1 [.int j] S = if rng62 j then .ok ⟨irange 0 j.toNat, fun _ => True⟩ S else .bad := rfl
theorem srcR2_app {i j : Int} : srcR2 [.int i, .int j] S = if rng62 i ∧ rng62 j then .ok ⟨irange i (j - i).toNat, fun _ => True⟩ S else .bad := rfl
@[simp] theorem gN_app {i : Nat} : gN i d (oo :: ll) S = .nx ((oo :: ll).set i (some d)) S := rfl
@[simp] theorem gT_app {n : Nat} {l : List D} {q : List D → Env → Store → Out} : gT n q (.tup l) (oo :: ll) S = if l.length = n then q l (oo :: ll) S else .bad := rfl
@[simp] theorem gsNil_app : gsNil [] (oo :: ll) S = .nx (oo :: ll) S := rfl
@[simp] theorem gsCons_app {l : List D} {q : D → Env → Store → Out} {q' : List D → Env → Store → Out} : gsCons q q' (d :: l) (oo :: ll) S = (q d (oo :: ll) S).seq (q' l) := rfl
@[simp] theorem xLc_app {mk : List D → M D} {s : Env → M Src} {q : D → Env → Option Env} {vs : List Nat} : xLc mk s q k f vs (oo :: ll) S = (s (oo :: ll) S).bind fun s S1 => (lcL s.chk q k f (wipeE (oo :: ll) vs) s.items [] S1).bind fun l S2 => mk l S2 := rfl
@[simp] theorem eN_app {i : Nat} : eN i d (oo :: ll) = some ((oo :: ll).set i (some d)) := rfl
@[simp] theorem eT2_app {i j : Nat} {a b : D} : eT2 i j (.tup [a, b]) (oo :: ll) = some (((oo :: ll).set i (some a)).set j (some b)) := rfl
@[simp] theorem eT3_app {i j m : Nat} {a b c : D} : eT3 i j m (.tup [a, b, c]) (oo :: ll) = some ((((oo :: ll).set i (some a)).set j (some b)).set m (some c)) := rfl
@[simp] theorem cYes_app : cYes (oo :: ll) S = .ok true S := rfl
@[simp] theorem wipeE_nil : wipeE (oo :: ll) [] = (oo :: ll) := rfl
@[simp] theorem wipeE_cons {v : Nat} {vs : List Nat} : wipeE (oo :: ll) (v :: vs) = (wipeE (oo :: ll) vs).set v none := rfl
@[simp] theorem yAug_app {i : Nat} {q : D → D → M D} : yAug i f q (oo :: ll) S = match (oo :: ll)[i]? with | some (some x) => (f (oo :: ll) S).out (oo :: ll) fun y S1 => (q x y S1).out (oo :: ll) fun z S2 => .nx ((oo :: ll).set i (some z)) S2 | _ => .bad := rfl
@[simp] theorem ySub_app {o i : Env → M D} {q : D → D → D → M Unit} : ySub f o i q (oo :: ll) S = (f (oo :: ll) S).out (oo :: ll) fun v S1 => (o (oo :: ll) S1).out (oo :: ll) fun x S2 => (i (oo :: ll) S2).out (oo :: ll) fun k S3 => (q x k v S3).out (oo :: ll) fun _ S4 => .nx (oo :: ll) S4 := rfl
@[simp] theorem xMt_app {T : String} {q : D → List D → M D} : xMt T q f h (oo :: ll) S = (f (oo :: ll) S).bind fun x S1 => if isT T x S1 = true then (h (oo :: ll) S1).bind fun l S2 => q x l S2 else .bad := rfl
@[simp] theorem xSl_app {mk : List D → M D} {lo hi : Env → M (Option Int)} : xSl mk f lo hi (oo :: ll) S = (f (oo :: ll) S).bind fun d S1 => (lo (oo :: ll) S1).bind fun a S2 => (hi (oo :: ll) S2).bind fun b S3 => slD mk d a b S3 := rfl
@[simp] theorem oNone_app : oNone (oo :: ll) S = .ok none S := rfl
@[simp] theorem oSome_app : oSome f (oo :: ll) S = (f (oo :: ll) S).bind fun d S1 => match d with | .int i => .ok (some i) S1 | _ => .bad := rfl
@[simp] theorem bLen_lst {l : List D} : bLen [.lst l] S = .ok (.int l.length) S := rfl
@[simp] theorem bLen_scr {l : List D} : bLen [.scr l] S = .ok (.int l.length) S := rfl
@[simp] theorem bLen_tup {l : List D} : bLen [.tup l] S = .ok (.int l.length) S := rfl
@[simp] theorem bAbs_app {i : Int} : bAbs [.int i] S = .ok (.int (if i < 0 then -i else i)) S := rfl
@[simp] theorem bMin_two {i j : Int} : bMin [.int i, .int j] S = .ok (.int (if j < i then j else i)) S := rfl
@[simp] theorem bMax_two {i j : Int} : bMax [.int i, .int j] S = .ok (.int (if j > i then j else i)) S := rfl
@[simp] theorem bInt_int {i : Int} : bInt [.int i] S = .ok (.int i) S := rfl
@[simp] theorem bInt_bl {b : Bool} : bInt [.bl b] S = .ok (.int (if b then 1 else 0)) S := rfl
@[simp] theorem dIx_scr {l : List D} {i : Int} : dIx (.scr l) (.int i) S = match L2.atI l i with | some d => .ok d S | none => .bad := rfl
@[simp] theorem tru_bl {b : Bool} : tru (.bl b) S = .ok b S := rfl
@[simp] theorem bIsi_int {i : Int} : bIsi [.int i, .raw (.ty "int")] S = .ok (.bl true) S := by simp [bIsi, tyOf]
@[simp] theorem bIsi_intb {i : Int} : bIsi [.int i, .raw (.ty "bool")] S = .ok (.bl false) S := by simp [bIsi, tyOf]
@[simp] theorem bIsi_tup {l : List D} : bIsi [.tup l, .raw (.ty "tuple")] S = .ok (.bl true) S := by simp [bIsi, tyOf]
@[simp] theorem bIsi_lst {l : List D} : bIsi [.lst l, .raw (.ty "list")] S = .ok (.bl true) S := by simp [bIsi, tyOf]
end
theorem sat_of {c : Prop} (h : c) : c = True := eq_true h

/-! ### a def -/
theorem en0_fn {np ns : Nat} {keep : Bool} {body : Env → Store → Out} {ds : List D} {S : Store} {P : D → Store → Prop} (hl : ds.length = np)
    (h : EnO0 (body (ds.map some ++ List.replicate (ns - np) none) S) { nx := fun _ S' => En0 (fin keep S.length .non S') P, rt := fun d S' => En0 (fin keep S.length d S') P }) : En0 (fnD np ns keep body ds S) P := by
  unfold fnD
  rw [if_pos hl]
  cases o : body (ds.map some ++ List.replicate (ns - np) none) S with
  | nx e S' => rw [o] at h; exact h
  | rt e S' => rw [o] at h; exact h
  | bk e S' => rw [o] at h; exact h.elim
  | ct e S' => rw [o] at h; exact h.elim
  | exc x e S' => rw [o] at h; exact h.elim
  | bad => rw [o] at h; exact h.elim
@[simp] theorem fin_same {keep : Bool} {d : D} {S : Store} : fin keep S.length d S = .ok d S := by simp [fin]
@[simp] theorem fin_zero {keep : Bool} {d : D} : fin keep 0 d [] = .ok d [] := by simp [fin]
theorem fin_len {keep : Bool} {n : Nat} {d : D} {S : Store} (h : S.length = n) : fin keep n d S = .ok d S := by simp [fin, h]

/-! ### loops -/
theorem en0_for {g : D → Env → Store → Out} {b : Env → Store → Out} {items : List D} {e : Env} {S : Store} {Q : Pst} (I : Nat → Env → Store → Prop) (h0 : I 0 e S)
    (hs : ∀ (i : Nat) d e S, items[i]? = some d → I i e S → EnO0 (g d e S) { nx := fun e1 S1 => EnO0 (b e1 S1) { nx := I (i + 1), ct := I (i + 1), bk := Q.nx, rt := Q.rt } })
    (hd : ∀ e S, I items.length e S → Q.nx e S) : EnO0 (forL (fun _ => True) g b items e S) Q := by
  have go : ∀ (l : List D) (i : Nat) (e : Env) (S : Store), items.drop i = l → i ≤ items.length → I i e S → EnO0 (forL (fun _ => True) g b l e S) Q := by
    intro l
    induction l with
    | nil =>
      intro i e S hl hi h
      rw [forL, if_pos trivial]
      have e1 := drop_nil hl hi
      subst e1
      exact hd e S h
    | cons d l ih =>
      intro i e S hl hi h
      obtain ⟨h1, h2⟩ := drop_get hl
      have st := hs i d e S h1 h
      have hlt : i < items.length := (List.getElem?_eq_some_iff.mp h1).1
      rw [forL, if_pos trivial]
      cases o : g d e S with
      | nx e1 S1 =>
        rw [o] at st
        have st' : EnO0 (b e1 S1) { nx := I (i + 1), ct := I (i + 1), bk := Q.nx, rt := Q.rt } := st
        show EnO0 (match b e1 S1 with
          | .nx e' S' => forL (fun _ => True) g b l e' S'
          | .ct e' S' => forL (fun _ => True) g b l e' S'
          | .bk e' S' => .nx e' S'
          | o => o) Q
        cases ob : b e1 S1 with
        | nx e2 S2 => rw [ob] at st'; exact ih (i + 1) e2 S2 h2 hlt st'
        | ct e2 S2 => rw [ob] at st'; exact ih (i + 1) e2 S2 h2 hlt st'
        | bk e2 S2 => rw [ob] at st'; exact st'
        | rt d2 S2 => rw [ob] at st'; exact st'
        | exc x e2 S2 => rw [ob] at st'; exact st'.elim
        | bad => rw [ob] at st'; exact st'.elim
      | rt _ _ => rw [o] at st; exact st.elim
      | bk _ _ => rw [o] at st; exact st.elim
      | ct _ _ => rw [o] at st; exact st.elim
      | exc _ _ _ => rw [o] at st; exact st.elim
      | bad => rw [o] at st; exact st.elim
  exact go items 0 e S rfl (Nat.zero_le _) h0
theorem en0_while {c : Env → M Bool} {b : Env → Store → Out} {Q : Pst} (I : Env → Store → Prop) (m : Env → Store → Nat)
    (hs : ∀ e S, I e S → En0 (c e S) fun t S1 => (t = true → EnO0 (b e S1) { nx := fun e' S' => I e' S' ∧ m e' S' < m e S, ct := fun e' S' => I e' S' ∧ m e' S' < m e S, bk := Q.nx, rt := Q.rt }) ∧ (t = false → Q.nx e S1)) {e : Env} {S : Store} (h0 : I e S) : EnO0 (yWhile c b e S) Q := by
  have go : ∀ (n : Nat) (e : Env) (S : Store), m e S ≤ n → I e S → EnO0 (yWhile c b e S) Q := by
    intro n
    induction n with
    | zero =>
      intro e S hm h
      have st := hs e S h
      cases q : c e S with
      | ok t S1 =>
        rw [q] at st
        cases t with
        | false => rw [yWhile_stop q]; exact st.2 rfl
        | true =>
          rw [yWhile_go q]
          have s2 := st.1 rfl
          cases o : b e S1 with
          | nx e1 S2 => rw [o] at s2; have z : m e1 S2 < m e S := s2.2; omega
          | ct e1 S2 => rw [o] at s2; have z : m e1 S2 < m e S := s2.2; omega
          | bk e1 S2 => rw [o] at s2; exact s2
          | rt d S2 => rw [o] at s2; exact s2
          | exc x e1 S2 => rw [o] at s2; exact s2.elim
          | bad => rw [o] at s2; exact s2.elim
      | exc x S1 => rw [q] at st; exact st.elim
      | bad => rw [q] at st; exact st.elim
    | succ n ih =>
      intro e S hm h
      have st := hs e S h
      cases q : c e S with
      | ok t S1 =>
        rw [q] at st
        cases t with
        | false => rw [yWhile_stop q]; exact st.2 rfl
        | true =>
          rw [yWhile_go q]
          have s2 := st.1 rfl
          cases o : b e S1 with
          | nx e1 S2 => rw [o] at s2; exact ih e1 S2 (by have z : m e1 S2 < m e S := s2.2; omega) s2.1
          | ct e1 S2 => rw [o] at s2; exact ih e1 S2 (by have z : m e1 S2 < m e S := s2.2; omega) s2.1
          | bk e1 S2 => rw [o] at s2; exact s2
          | rt d S2 => rw [o] at s2; exact s2
          | exc x e1 S2 => rw [o] at s2; exact s2.elim
          | bad => rw [o] at s2; exact s2.elim
      | exc x S1 => rw [q] at st; exact st.elim
      | bad => rw [q] at st; exact st.elim
  exact go _ e S (Nat.le_refl _) h0
theorem en0_lc {g : D → Env → Option Env} {c : Env → M Bool} {f : Env → M D} {e0 : Env} {items : List D} {S : Store} {P : List D → Store → Prop} (I : Nat → List D → Store → Prop) (h0 : I 0 [] S)
    (hs : ∀ (i : Nat) d acc S, items[i]? = some d → I i acc S → ∃ e1, g d e0 = some e1 ∧ En0 (c e1 S) fun t S2 => (t = true → En0 (f e1 S2) fun y S3 => acc.length < 16000000 ∧ I (i + 1) (acc ++ [y]) S3) ∧ (t = false → I (i + 1) acc S2))
    (hd : ∀ l S, I items.length l S → P l S) : En0 (lcL (fun _ => True) g c f e0 items [] S) P := by
  have go : ∀ (l : List D) (i : Nat) (acc : List D) (S : Store), items.drop i = l → i ≤ items.length → I i acc S → En0 (lcL (fun _ => True) g c f e0 l acc S) P := by
    intro l
    induction l with
    | nil =>
      intro i acc S hl hi h
      rw [lcL, if_pos trivial]
      have e1 := drop_nil hl hi
      subst e1
      exact hd acc S h
    | cons d l ih =>
      intro i acc S hl hi h
      obtain ⟨h1, h2⟩ := drop_get hl
      have hlt : i < items.length := (List.getElem?_eq_some_iff.mp h1).1
      obtain ⟨e1, he1, st⟩ := hs i d acc S h1 h
      rw [lcL, if_pos trivial]
      simp only [he1]
      cases q : c e1 S with
      | ok t S2 =>
        rw [q] at st
        cases t with
        | false => exact ih (i + 1) acc S2 h2 hlt (st.2 rfl)
        | true =>
          have s2 := st.1 rfl
          simp only
          cases qf : f e1 S2 with
          | ok y S3 =>
            rw [qf] at s2
            have z : acc.length < 16000000 ∧ I (i + 1) (acc ++ [y]) S3 := s2
            simp only
            rw [if_pos z.1]
            exact ih (i + 1) _ S3 h2 hlt z.2
          | exc x S3 => rw [qf] at s2; exact s2.elim
          | bad => rw [qf] at s2; exact s2.elim
      | exc x S1 => rw [q] at st; exact st.elim
      | bad => rw [q] at st; exact st.elim
  exact go items 0 [] S rfl (Nat.zero_le _) h0

/-! ### sizes -/
theorem mulOk_bits {a b : Int} (h : Builtin.Int.intBits a + Builtin.Int.intBits b ≤ 134217728) : IntMulOk a b := by
  unfold IntMulOk
  intro z
  rw [Bool.and_eq_true] at z
  have z2 := z.2
  unfold Builtin.Int.intTooBig at z2
  have z3 := of_decide_eq_true z2
  have e : bitsLine = 134217728 := by decide
  rw [e] at z3
  omega
theorem bits_lt {a : Int} {n : Nat} (h : a.natAbs < 2 ^ n) : Builtin.Int.intBits a ≤ n := by
  unfold Builtin.Int.intBits
  split
  · exact Nat.zero_le _
  · rename_i hz
    have h0 : a.natAbs ≠ 0 := fun z => hz (by simpa using z)
    have := (Nat.log2_lt h0).mpr h
    omega
/-- below 2 ^ n in size -/
def Sz (n : Nat) (a : Int) : Prop := a.natAbs < 2 ^ n
theorem Sz.mulOk {a b : Int} {n m : Nat} (ha : Sz n a) (hb : Sz m b) (h : n + m ≤ 134217728) : IntMulOk a b := mulOk_bits (by have := bits_lt ha; have := bits_lt hb; omega)
theorem Sz.mul {a b : Int} {n m : Nat} (ha : Sz n a) (hb : Sz m b) : Sz (n + m) (a * b) := by
  unfold Sz at *
  rw [Int.natAbs_mul, Nat.pow_add]
  exact Nat.mul_lt_mul'' ha hb
theorem Sz.le {a : Int} {n m : Nat} (ha : Sz n a) (h : n ≤ m) : Sz m a := Nat.lt_of_lt_of_le ha (Nat.pow_le_pow_right (by decide) h)
theorem Sz.add {a b : Int} {n : Nat} (ha : Sz n a) (hb : Sz n b) : Sz (n + 1) (a + b) := by
  unfold Sz at *
  have : 2 ^ (n + 1) = 2 ^ n + 2 ^ n := by rw [Nat.pow_succ]; omega
  omega
theorem Sz.sub {a b : Int} {n : Nat} (ha : Sz n a) (hb : Sz n b) : Sz (n + 1) (a - b) := by
  unfold Sz at *
  have : 2 ^ (n + 1) = 2 ^ n + 2 ^ n := by rw [Nat.pow_succ]; omega
  omega
theorem Sz.neg {a : Int} {n : Nat} (ha : Sz n a) : Sz n (-a) := by
  unfold Sz at *
  omega
theorem Sz.of_le {a b : Int} {n : Nat} (hb : Sz n b) (h : a.natAbs ≤ b.natAbs) : Sz n a := Nat.lt_of_le_of_lt h hb
theorem Sz.log2 {a : Int} {n : Nat} (ha : Sz n a) (h0 : 0 < n) : a.natAbs.log2 < n := PySem.Flt.log2_lt_of h0 ha
theorem Sz.divOk {a b : Int} {n : Nat} (hb : Sz n b) (h : b ≠ 0) (hn : n ≤ 9000) : divOk a b := ⟨h, by
  have h1 : Sz (n + 1) b := hb.le (Nat.le_succ n)
  by_cases h0 : n = 0
  · subst h0
    have : b.natAbs < 1 := hb
    omega
  · have := hb.log2 (Nat.pos_of_ne_zero h0)
    omega⟩
theorem en0_seq {y y' : Env → Store → Out} {e : Env} {S : Store} {Q : Pst} (R : Env → Store → Prop) (h1 : EnO0 (y e S) { Q with nx := R }) (h2 : ∀ e S, R e S → EnO0 (y' e S) Q) : EnO0 (ySeq y y' e S) Q := by
  show EnO0 ((y e S).seq y') Q
  rw [eno0_seq]
  exact h1.imp (fun e S h => h2 e S h) (fun _ _ h => h) (fun _ _ h => h) (fun _ _ h => h)
theorem mulOkL {a b : Int} (h1 : -18446744073709551616 < a) (h2 : a < 18446744073709551616) : IntMulOk a b := .of_left (intBits_le_64 h1 h2)
theorem mulOkR {a b : Int} (h1 : -18446744073709551616 < b) (h2 : b < 18446744073709551616) : IntMulOk a b := .of_right (intBits_le_64 h1 h2)
theorem sz_of {a B : Int} {n : Nat} (h1 : -B < a) (h2 : a < B) (hB : B ≤ 2 ^ n) : Sz n a := by
  unfold Sz
  have : ((2 ^ n : Nat) : Int) = 2 ^ n := by simp
  omega
theorem divOk_lit {i j : Int} (h0 : 0 < j) (h1 : j < 1000000000000000000000000000000000000000000000000000000000000) : divOk i j := Sz.divOk (n := 200) (sz_of (B := 1000000000000000000000000000000000000000000000000000000000000) (by omega) h1 (by decide)) (by omega) (by decide)
theorem fdiv_pos {i j : Int} (h : 0 < j) : i.fdiv j = i / j := Int.fdiv_eq_ediv_of_nonneg i (Int.le_of_lt h)
theorem fmod_pos {i j : Int} (h : 0 < j) : i.fmod j = i % j := Int.fmod_eq_emod_of_nonneg i (Int.le_of_lt h)
theorem atI_map {α β : Type} (g : α → β) (l : List α) (i : Int) : L2.atI (l.map g) i = (L2.atI l i).map g := by
  unfold L2.atI
  rw [List.length_map]
  cases ixN l.length i with
  | none => rfl
  | some j => simp
theorem atI_in {α : Type} {l : List α} {i : Int} (h0 : 0 ≤ i) (h1 : i < l.length) : ∃ z, L2.atI l i = some z ∧ l[i.toNat]? = some z := by
  have hj : i.toNat < l.length := by omega
  refine ⟨l[i.toNat], ?_, List.getElem?_eq_getElem hj⟩
  have q := atI_nat (List.getElem?_eq_getElem hj)
  have e : ((i.toNat : Nat) : Int) = i := by omega
  rw [e] at q
  exact q
theorem atI_mem {α : Type} {l : List α} {i : Int} (h0 : 0 ≤ i) (h1 : i < l.length) : ∃ z ∈ l, L2.atI l i = some z := by
  obtain ⟨z, h, h2⟩ := atI_in h0 h1
  exact ⟨z, List.mem_of_getElem? h2, h⟩
@[simp] theorem atI_zero {α : Type} {a : α} {l : List α} : L2.atI (a :: l) 0 = some a := by
  have : (0 : Int) = ((0 : Nat) : Int) := rfl
  rw [this]
  exact atI_nat rfl
@[simp] theorem atI_one {α : Type} {a b : α} {l : List α} : L2.atI (a :: b :: l) 1 = some b := by
  have : (1 : Int) = ((1 : Nat) : Int) := rfl
  rw [this]
  exact atI_nat rfl
@[simp] theorem atI_two {α : Type} {a b c : α} {l : List α} : L2.atI (a :: b :: c :: l) 2 = some c := by
  have : (2 : Int) = ((2 : Nat) : Int) := rfl
  rw [this]
  exact atI_nat rfl
theorem irange_get {lo : Int} {n i : Nat} {d : D} (h : (irange lo n)[i]? = some d) : d = .int (lo + i) ∧ i < n := by
  unfold irange at h
  rw [List.getElem?_map] at h
  by_cases hi : i < n
  · rw [List.getElem?_range hi] at h
    exact ⟨(Option.some.inj h).symm, hi⟩
  · rw [List.getElem?_eq_none (by simpa using hi)] at h
    cases h
@[simp] theorem irange_length {lo : Int} {n : Nat} : (irange lo n).length = n := by simp [irange]
theorem rng62_of {i : Int} (h1 : -4611686018427387904 ≤ i) (h2 : i < 4611686018427387904) : rng62 i := ⟨by omega, by omega⟩
end Dv
/-! # Dv9: zip, enumerate, reversed; in; more methods; a list unpacked -/
namespace Dv
noncomputable section
open PySem PySem.Spec PyProof.Rows L2

/-! ### a list that stays while it is walked -/
def stL (d : D) (S : Store) : Option (List D × (Store → Prop)) := match d with
  | .lst l => some (l, fun _ => True)
  | .scr l => some (l, fun _ => True)
  | .cell n => match S[n]? with
    | some (.lst l) => some (l, fun S' => S'[n]? = some (.lst l))
    | _ => none
  | _ => none
theorem stL_ok {K : PySem.W.Frag} {w : Wl} {d : D} {v : V} {l : List D} {chk : Store → Prop} (hw : Wd K w) (hr : Rp K w.r w.F d v) (h : stL d w.S = some (l, chk)) :
    ∃ a, v = .ref a ∧ (∃ vs, SqL K w.H a vs ∧ Rps K w.r w.F l vs) ∧ ∀ w1, Go K w w1 → chk w1.S → ∃ vs, SqL K w1.H a vs ∧ Rps K w1.r w1.F l vs := by
  have gen : ∀ (d' : D), d' = d → (∀ w1, Go K w w1 → chk w1.S → getQ d' w1.S = some l) → getQ d' w.S = some l → ∃ a, v = .ref a ∧ (∃ vs, SqL K w.H a vs ∧ Rps K w.r w.F l vs) ∧ ∀ w1, Go K w w1 → chk w1.S → ∃ vs, SqL K w1.H a vs ∧ Rps K w1.r w1.F l vs := by
    intro d' e hq h0
    subst e
    obtain ⟨a, vs, rfl, q, p⟩ := getQ_ok hw hr h0
    refine ⟨a, rfl, ⟨vs, q, p⟩, fun w1 g hc => ?_⟩
    obtain ⟨a', vs', e', q', p'⟩ := getQ_ok g.wd (Rp.go g hr) (hq w1 g hc)
    cases e'
    exact ⟨vs', q', p'⟩
  cases d with
  | lst l' =>
    have e := Option.some.inj h
    cases e
    exact gen _ rfl (fun _ _ _ => rfl) rfl
  | scr l' =>
    have e := Option.some.inj h
    cases e
    exact gen _ rfl (fun _ _ _ => rfl) rfl
  | cell n =>
    unfold stL at h
    cases en : w.S[n]? with
    | none => simp only [en] at h; cases h
    | some c =>
      cases c with
      | lst l' =>
        simp only [en] at h
        have e := Option.some.inj h
        cases e
        refine gen _ rfl (fun w1 g hc => ?_) (by simp only [getQ, getL, en])
        have hc' : w1.S[n]? = some (.lst l) := hc
        simp only [getQ, getL, hc']
      | dct _ => simp only [en] at h; cases h
      | dead => simp only [en] at h; cases h
  | non => cases h
  | bl _ => cases h
  | int _ => cases h
  | str _ => cases h
  | tup _ => cases h
  | raw _ => cases h
  | cls _ => cases h
  | exn _ _ => cases h
def srcZip (l : List D) (S : Store) : Res Src := match l with
  | [a, b] => match stL a S, stL b S with
    | some (x, p), some (y, q) => .ok ⟨(x.zip y).map fun z => .tup [z.1, z.2], fun S' => p S' ∧ q S'⟩ S
    | _, _ => .bad
  | _ => .bad
def srcEnum (l : List D) (S : Store) : Res Src := match l with
  | [a] => match stL a S with
    | some (x, p) => .ok ⟨x.zipIdx.map fun z => .tup [.int z.2, z.1], p⟩ S
    | _ => .bad
  | _ => .bad
def srcRev (l : List D) (S : Store) : Res Src := match l with
  | [a] => match stL a S with
    | some (x, p) => .ok ⟨x.reverse, p⟩ S
    | _ => .bad
  | _ => .bad
section
variable {X : Cx} {W : WX} {e e2 : Expr} {elts : List Expr} {kk : Nat} {tpos pos p : Pos} {h : Env → M (List D)} {tg : Expr}
theorem pid_zip (hm : X.mg "zip" = none) (ha : PAD X W [e, e2] h) (hg : Gl X "zip" := by rfl) (hs : starEach [e, e2] X.env = (false, eval e X.env) :: starEach [e2] X.env := by rfl) (hpl : (backTo pos (starEach [e2] X.env)).any (·.1) = false := by rfl) :
    PID X W (.Tuple elts kk tpos) (.Call (.Name "zip" p) [e, e2] [] pos) (iSrcA srcZip h) := by
  refine weakI (pi_zip hg hm ha hs hpl) fun σ H R ⟨w, env, eH, hw, he, hs⟩ => ?_
  subst eH
  refine ⟨w, env, rfl, hw, he, SatW.imp (SatW.bind hs) fun w1 d v g1 r1 s1 => ?_⟩
  unfold srcZip at s1
  split at s1
  · rename_i a b
    split at s1
    · rename_i x p y q hx hy
      obtain ⟨va, vb, rfl, ra, rb⟩ := two_inv (show Rps X.K w1.r w1.F [a, b] v from r1)
      obtain ⟨pa, rfl, ⟨vs, q1, t1⟩, st1⟩ := stL_ok g1.wd ra hx
      obtain ⟨pb, rfl, ⟨us, q2, t2⟩, st2⟩ := stL_ok g1.wd rb hy
      refine ⟨pa, pb, vs, us, rfl, q1, q2, SatW.here s1 g1.wd (fun w2 g2 hc => ?_)⟩
      obtain ⟨vs', q1', t1'⟩ := st1 w2 g2 hc.1
      obtain ⟨us', q2', t2'⟩ := st2 w2 g2 hc.2
      refine ⟨fun i d e => ?_, vs', us', q1', q2', ?_⟩
      · rw [List.getElem?_map] at e
        cases ez : (x.zip y)[i]? with
        | none => rw [ez] at e; cases e
        | some z =>
          rw [ez] at e
          have ed := Option.some.inj e
          subst ed
          obtain ⟨e1, e2⟩ := List.getElem?_zip_eq_some.mp ez
          obtain ⟨v1, f1, rv1⟩ := t1'.get e1
          obtain ⟨v2, f2, rv2⟩ := t2'.get e2
          refine ⟨⟨vs', us', v1, v2, q1', q2', f1, f2⟩, fun xv H' yl => ?_⟩
          obtain ⟨Tp, x1, x2, rfl, nT, rfl, k1, k2⟩ := yl
          have ex1 : x1 = v1 := Option.some.inj ((k1 _ q1').symm.trans f1)
          have ex2 : x2 = v2 := Option.some.inj ((k2 _ q2').symm.trans f2)
          subst ex1 ex2
          refine ⟨⟨w2.r, upd w2.F Tp (.tup [x1, x2]), w2.S, upd w2.H Tp (.tup [x1, x2])⟩, Go.alloc g2.wd nT, rfl, rfl, ?_⟩
          unfold Rp
          refine ⟨Tp, [x1, x2], rfl, .inl upd_same, Rps.mono (r := w2.r) (F := w2.F) ⟨[], by simp⟩ (fun b z e => ?_) _ _ (rps_cons rv1 (rps_cons rv2 rps_nil))⟩
          show upd w2.F Tp _ b = _
          rw [upd_ne (ne_of_none e (g2.wd.fresh nT))]
          exact e
      · have l1 := t1'.length
        have l2 := t2'.length
        simp only [List.length_map, List.length_zip]
        omega
    · exact s1.elim
  · exact s1.elim
theorem pid_enum (hm : X.mg "enumerate" = none) (ha : PAD X W [e] h) (hg : Gl X "enumerate" := by rfl) (hs : starEach [e] X.env = [(false, eval e X.env)] := by rfl) :
    PID X W (.Tuple elts kk tpos) (.Call (.Name "enumerate" p) [e] [] pos) (iSrcA srcEnum h) := by
  refine weakI (pi_enum hg hm ha hs) fun σ H R ⟨w, env, eH, hw, he, hs⟩ => ?_
  subst eH
  refine ⟨w, env, rfl, hw, he, SatW.imp (SatW.bind hs) fun w1 d v g1 r1 s1 => ?_⟩
  unfold srcEnum at s1
  split at s1
  · rename_i a
    split at s1
    · rename_i x p hx
      obtain ⟨va, rfl, ra⟩ := one_inv (show Rps X.K w1.r w1.F [a] v from r1)
      obtain ⟨pa, rfl, ⟨vs, q1, t1⟩, st1⟩ := stL_ok g1.wd ra hx
      refine ⟨pa, vs, rfl, q1, SatW.here s1 g1.wd (fun w2 g2 hc => ?_)⟩
      obtain ⟨vs', q1', t1'⟩ := st1 w2 g2 hc
      refine ⟨fun i d e => ?_, vs', q1', ?_⟩
      · rw [List.getElem?_map, List.getElem?_zipIdx] at e
        cases ez : x[i]? with
        | none => rw [ez] at e; cases e
        | some z =>
          rw [ez] at e
          have ed := Option.some.inj e
          subst ed
          obtain ⟨v1, f1, rv1⟩ := t1'.get ez
          refine ⟨⟨vs', v1, q1', f1⟩, fun xv H' yl => ?_⟩
          obtain ⟨Tp, x1, rfl, nT, rfl, k1⟩ := yl
          have ex1 : x1 = v1 := Option.some.inj ((k1 _ q1').symm.trans f1)
          subst ex1
          refine ⟨⟨w2.r, upd w2.F Tp (.tup [.int (i : Nat), x1]), w2.S, upd w2.H Tp (.tup [.int (i : Nat), x1])⟩, Go.alloc g2.wd nT, rfl, rfl, ?_⟩
          unfold Rp
          refine ⟨Tp, [.int (i : Nat), x1], rfl, .inl upd_same, Rps.mono (r := w2.r) (F := w2.F) ⟨[], by simp⟩ (fun b z e => ?_) _ _ (rps_cons (by simp; exact rpi) (rps_cons rv1 rps_nil))⟩
          show upd w2.F Tp _ b = _
          rw [upd_ne (ne_of_none e (g2.wd.fresh nT))]
          exact e
      · simp only [List.length_map, List.length_zipIdx]
        exact Nat.le_of_eq t1'.length
    · exact s1.elim
  · exact s1.elim
theorem pid_rev (hm : X.mg "reversed" = none) (ha : PAD X W [e] h) (hg : Gl X "reversed" := by rfl) (hs : starEach [e] X.env = [(false, eval e X.env)] := by rfl) :
    PID X W tg (.Call (.Name "reversed" p) [e] [] pos) (iSrcA srcRev h) := by
  refine weakI (pi_reversed hg hm ha hs) fun σ H R ⟨w, env, eH, hw, he, hs⟩ => ?_
  subst eH
  refine ⟨w, env, rfl, hw, he, SatW.imp (SatW.bind hs) fun w1 d v g1 r1 s1 => ?_⟩
  unfold srcRev at s1
  split at s1
  · rename_i a
    split at s1
    · rename_i x p hx
      obtain ⟨va, rfl, ra⟩ := one_inv (show Rps X.K w1.r w1.F [a] v from r1)
      obtain ⟨pa, rfl, ⟨vs, q1, t1⟩, st1⟩ := stL_ok g1.wd ra hx
      refine ⟨pa, vs, rfl, q1, SatW.here s1 g1.wd (fun w2 g2 hc => ?_)⟩
      obtain ⟨vs', q1', t1'⟩ := st1 w2 g2 hc
      have hl : vs.length = vs'.length := t1.length.trans t1'.length.symm
      refine ⟨fun i d e => ?_, ?_⟩
      · have hi : i < x.length := by
          have := (List.getElem?_eq_some_iff.mp e).1
          simpa using this
        rw [List.getElem?_reverse hi] at e
        obtain ⟨v1, f1, rv1⟩ := t1'.get e
        rw [← t1'.length, ← hl] at f1
        refine ⟨⟨by rw [t1.length]; exact hi, vs', v1, q1', f1⟩, fun xv H' yl => ?_⟩
        obtain ⟨rfl, k1⟩ := yl
        have ex1 : xv = v1 := Option.some.inj ((k1 _ q1').symm.trans f1)
        subst ex1
        exact ⟨w2, Go.refl g2.wd, rfl, rfl, rv1⟩
      · show vs.length ≤ x.reverse.length
        rw [List.length_reverse, t1.length]
        exact Nat.le_refl _
    · exact s1.elim
  · exact s1.elim
end
@[simp] theorem srcZip_lst {a b : List D} {S : Store} : srcZip [.lst a, .lst b] S = .ok ⟨(a.zip b).map fun z => .tup [z.1, z.2], fun _ => True⟩ S := by simp [srcZip, stL]
@[simp] theorem srcEnum_lst {a : List D} {S : Store} : srcEnum [.lst a] S = .ok ⟨a.zipIdx.map fun z => .tup [.int z.2, z.1], fun _ => True⟩ S := rfl
@[simp] theorem srcRev_lst {a : List D} {S : Store} : srcRev [.lst a] S = .ok ⟨a.reverse, fun _ => True⟩ S := rfl

/-! ### in, not in: flat things -/
def flatD : D → Bool
  | .non => true
  | .bl _ => true
  | .int _ => true
  | .str _ => true
  | _ => false
def eqFl : D → D → Bool
  | .non, .non => true
  | .bl a, .bl b => a == b
  | .bl a, .int b => (if a then 1 else 0) == b
  | .int a, .bl b => a == (if b then 1 else 0)
  | .int a, .int b => a == b
  | .str a, .str b => a == b
  | _, _ => false
def inFl (x : D) (l : List D) : Bool := l.any fun y => eqFl y x
def getI (d : D) (S : Store) : Option (List D) := match d with
  | .tup l => some l
  | d => getQ d S
def dInX (neg : Bool) (x y : D) (S : Store) : Res D := match getI y S with
  | some l => if flatD x = true ∧ l.all flatD = true then .ok (.bl (if neg then !inFl x l else inFl x l)) S else .bad
  | none => .bad
def dIn := dInX false
def dNotIn := dInX true
section
variable {K : PySem.W.Frag} {r : List Addr} {F : Hp}
theorem flat_v {d : D} {v : V} (h : Rp K r F d v) (f : flatD d = true) : flatV v = true ∧ ∀ {e : D} {u : V}, Rp K r F e u → flatD e = true → eqV u v = eqFl e d := by
  cases d with
  | non =>
    cases rp_non h
    refine ⟨rfl, fun {e u} hu fe => ?_⟩
    cases e with
    | non => cases rp_non hu; rfl
    | bl _ => cases rp_bl hu; rfl
    | int _ => cases rp_int hu; rfl
    | str _ => cases rp_str hu; rfl
    | _ => cases fe
  | bl b =>
    cases rp_bl h
    refine ⟨rfl, fun {e u} hu fe => ?_⟩
    cases e with
    | non => cases rp_non hu; rfl
    | bl _ => cases rp_bl hu; rfl
    | int _ => cases rp_int hu; rfl
    | str _ => cases rp_str hu; rfl
    | _ => cases fe
  | int b =>
    cases rp_int h
    refine ⟨rfl, fun {e u} hu fe => ?_⟩
    cases e with
    | non => cases rp_non hu; rfl
    | bl _ => cases rp_bl hu; rfl
    | int _ => cases rp_int hu; rfl
    | str _ => cases rp_str hu; rfl
    | _ => cases fe
  | str b =>
    cases rp_str h
    refine ⟨rfl, fun {e u} hu fe => ?_⟩
    cases e with
    | non => cases rp_non hu; rfl
    | bl _ => cases rp_bl hu; rfl
    | int _ => cases rp_int hu; rfl
    | str _ => cases rp_str hu; rfl
    | _ => cases fe
  | _ => cases f
theorem flats_v {x : D} {v : V} (hx : Rp K r F x v) (fx : flatD x = true) : ∀ {l : List D} {vs : List V}, Rps K r F l vs → l.all flatD = true → vs.all flatV = true ∧ inV v vs = inFl x l
  | [], vs, h, _ => by rw [h.nil_inv]; exact ⟨rfl, rfl⟩
  | d :: l, vs, h, f => by
    obtain ⟨u, t, rfl, h1, h2⟩ := h.cons_inv
    rw [List.all_cons, Bool.and_eq_true] at f
    obtain ⟨f1, _⟩ := flat_v h1 f.1
    obtain ⟨f3, f4⟩ := flats_v hx fx h2 f.2
    refine ⟨by rw [List.all_cons, f1, f3]; rfl, ?_⟩
    have e1 : eqV u v = eqFl d x := (flat_v hx fx).2 h1 f.1
    unfold inV inFl at f4 ⊢
    rw [List.any_cons, List.any_cons, e1, f4]
theorem getI_ok {w : Wl} {d : D} {v : V} {l : List D} (hw : Wd K w) (hr : Rp K w.r w.F d v) (h : getI d w.S = some l) : ∃ a vs, v = .ref a ∧ (SqL K w.H a vs ∨ SqT K w.H a vs) ∧ Rps K w.r w.F l vs := by
  have gen : getQ d w.S = some l → ∃ a vs, v = .ref a ∧ (SqL K w.H a vs ∨ SqT K w.H a vs) ∧ Rps K w.r w.F l vs := fun h => by
    obtain ⟨a, vs, e, q, p⟩ := getQ_ok hw hr h
    exact ⟨a, vs, e, .inl q, p⟩
  cases d with
  | tup l' =>
    obtain ⟨a, vs, e, q, p⟩ := getT_ok hw hr h
    exact ⟨a, vs, e, .inr (.inl q), p⟩
  | _ => exact gen h
end
section
variable {X : Cx}
theorem od_in : OpD X (compareOp .In) dIn := ⟨_, op_in_seq, fun w x y d e W σ Q hw r1 r2 hs => by
  unfold dIn dInX at hs
  split at hs
  · rename_i l hl
    obtain ⟨hf, hs⟩ := satIf hs
    obtain ⟨a, vs, e1, q, t⟩ := getI_ok hw r2 hl
    obtain ⟨f1, f2⟩ := flats_v (show Rp X.K w.r w.F d x from r1) hf.1 t hf.2
    refine ⟨a, vs, e1, q, (flat_v (show Rp X.K w.r w.F d x from r1) hf.1).1, f1, ?_⟩
    rw [f2]
    exact SatW.here hs hw rpb
  · exact hs.elim⟩
theorem od_notIn : OpD X (compareOp .NotIn) dNotIn := ⟨_, op_notIn_seq, fun w x y d e W σ Q hw r1 r2 hs => by
  unfold dNotIn dInX at hs
  split at hs
  · rename_i l hl
    obtain ⟨hf, hs⟩ := satIf hs
    obtain ⟨a, vs, e1, q, t⟩ := getI_ok hw r2 hl
    obtain ⟨f1, f2⟩ := flats_v (show Rp X.K w.r w.F d x from r1) hf.1 t hf.2
    refine ⟨a, vs, e1, q, (flat_v (show Rp X.K w.r w.F d x from r1) hf.1).1, f1, ?_⟩
    rw [f2]
    exact SatW.here hs hw rpb
  · exact hs.elim⟩

/-! ### more methods -/
def mInsert (x : D) (a : List D) (S : Store) : Res D := match a, cellL x S with
  | [.int i, y], some (n, l) => if l.length < 16000000 ∧ 0 ≤ i ∧ i < 4611686018427387904 then .ok .non (S.set n (.lst (l.take i.toNat ++ [y] ++ l.drop i.toNat))) else .bad
  | _, _ => .bad
def mPop (x : D) (a : List D) (S : Store) : Res D := match a, cellL x S with
  | [], some (n, l) => match l[l.length - 1]? with
    | some y => .ok y (S.set n (.lst l.dropLast))
    | none => .bad
  | _, _ => .bad
def mPopAt (x : D) (a : List D) (S : Store) : Res D := match a, cellL x S with
  | [.int i], some (n, l) => if rng62 i then match seqIndex? i l.length with
      | some k => match l[k]? with
        | some y => .ok y (S.set n (.lst (l.eraseIdx k)))
        | none => .bad
      | none => .bad
    else .bad
  | _, _ => .bad
def mCount (x : D) (a : List D) (S : Store) : Res D := match a with
  | [.int k] => match (getQ x S).bind intsOf with
    | some ns => .ok (.int (ns.count k : Nat)) S
    | none => .bad
  | _ => .bad
theorem Rps.dropLast {K : PySem.W.Frag} {r : List Addr} {F : Hp} {l : List D} {vs : List V} (h : Rps K r F l vs) : Rps K r F l.dropLast vs.dropLast := by
  rw [List.dropLast_eq_take, List.dropLast_eq_take, h.length]
  exact h.take _
theorem Rps.eraseIdx {K : PySem.W.Frag} {r : List Addr} {F : Hp} {l : List D} {vs : List V} (h : Rps K r F l vs) (k : Nat) : Rps K r F (l.eraseIdx k) (vs.eraseIdx k) := by
  rw [List.eraseIdx_eq_take_drop_succ, List.eraseIdx_eq_take_drop_succ]
  exact (h.take _).append (h.drop _)
theorem md_insert : MtD X "list.insert" mInsert := ⟨_, mt_insert, fun w x xs d ds W σ Q hw r1 r2 hs => by
  unfold mInsert at hs
  split at hs
  · rename_i i y n l hc
    obtain ⟨rfl, en⟩ := cellL_eq hc
    obtain ⟨hl, hs⟩ := satIf hs
    obtain ⟨v, u, rfl, rv, ru⟩ := two_inv r2
    obtain ⟨a, vs, rfl, ha, p, go⟩ := cell_write (T := kt X) (l' := l.take i.toNat ++ [y] ++ l.drop i.toNat) hw r1 en
    refine ⟨a, vs, i, u, rfl, by rw [rp_int rv], ha, by rw [p.length]; exact Nat.lt_of_lt_of_le hl.1 (line16 (Nat.le_refl _)), hl.2.1, by omega, ?_⟩
    exact hs _ V.non (go _ (((p.take _).append (rps_cons ru rps_nil)).append (p.drop _))) rfl rpn
  · exact hs.elim⟩
theorem md_pop : MtD X "list.pop" mPop := ⟨_, mt_pop, fun w x xs d ds W σ Q hw r1 r2 hs => by
  unfold mPop at hs
  split at hs
  · rename_i n l hc
    obtain ⟨rfl, en⟩ := cellL_eq hc
    split at hs
    · rename_i y hy
      obtain ⟨a, vs, rfl, ha, p, go⟩ := cell_write (T := kt X) (l' := l.dropLast) hw r1 en
      obtain ⟨v, ev, rv⟩ := p.get hy
      refine ⟨a, vs, v, rfl, r2.nil_inv, ha, by rw [p.length]; exact ev, ?_⟩
      exact hs _ v (go _ p.dropLast) rfl (show Rp X.K w.r w.F y v from rv)
    · exact hs.elim
  · exact hs.elim⟩
theorem md_popAt : MtD X "list.pop" mPopAt := ⟨_, mt_popAt, fun w x xs d ds W σ Q hw r1 r2 hs => by
  unfold mPopAt at hs
  split at hs
  · rename_i i n l hc
    obtain ⟨rfl, en⟩ := cellL_eq hc
    obtain ⟨hi, hs⟩ := satIf hs
    split at hs
    · rename_i k hk
      split at hs
      · rename_i y hy
        obtain ⟨v0, rfl, rv0⟩ := one_inv r2
        obtain ⟨a, vs, rfl, ha, p, go⟩ := cell_write (T := kt X) (l' := l.eraseIdx k) hw r1 en
        obtain ⟨v, ev, rv⟩ := p.get hy
        have b1 := hi.1
        have b2 := hi.2
        refine ⟨a, vs, i, k, v, rfl, by rw [rp_int rv0], ha, by omega, by omega, by rw [p.length]; exact hk, ev, ?_⟩
        exact hs _ v (go _ (p.eraseIdx k)) rfl (show Rp X.K w.r w.F y v from rv)
      · exact hs.elim
    · exact hs.elim
  · exact hs.elim⟩
theorem md_count : MtD X "list.count" mCount := ⟨_, mt_lcount, fun w x xs d ds W σ Q hw r1 r2 hs => by
  unfold mCount at hs
  split at hs
  · rename_i k
    obtain ⟨v0, rfl, rv0⟩ := one_inv r2
    split at hs
    · rename_i ns h
      obtain ⟨a, e1, q⟩ := ints_of hw r1 h
      exact ⟨a, ns, k, e1, by rw [rp_int rv0], q, SatW.here hs hw rpi⟩
    · exact hs.elim
  · exact hs.elim⟩
theorem md_extend : MtD X "list.extend" mExtend := ⟨_, mt_extend, fun w x xs d ds W σ Q hw r1 r2 hs => by
  unfold mExtend at hs
  split at hs
  · rename_i z n l hc
    obtain ⟨rfl, en⟩ := cellL_eq hc
    obtain ⟨hl, hs⟩ := satIf hs
    obtain ⟨v0, rfl, rv0⟩ := one_inv r2
    obtain ⟨b, zs, rfl, hb, t⟩ := getL_ok hw rv0 rfl
    obtain ⟨a, vs, rfl, ha, p, go⟩ := cell_write (T := kt X) (l' := l ++ z) hw r1 en
    refine ⟨a, b, vs, zs, rfl, rfl, ha, hb, by rw [p.length, t.length]; exact line16 hl, ?_⟩
    exact hs _ V.non (go _ (p.append t)) rfl rpn
  · exact hs.elim⟩
end

/-! ### a list unpacked -/
def gL (n : Nat) (h : List D → Env → Store → Out) : D → Env → Store → Out := fun d e S => match getQ d S with
  | some l => if l.length = n then h l e S else .bad
  | none => .bad
section
variable {X : Cx} {es : List Expr} {pos : Pos}
theorem pgd_unl {n : Nat} {kk : Nat} {hh : List D → Env → Store → Out} (hc : X.calm = true) (h2 : PGsD X es hh) (hn : (assignEach es X.env).length = n := by rfl) (hst : (assignEach es X.env).findIdx? (·.1) = none := by rfl) : PGD X (.Tuple es kk pos) (gL n hh) := by
  refine weakG (pg_unl hc h2 hn hst) fun v σ H Q ⟨w, env, d, eH, hw, he, hr, hs⟩ => ?_
  subst eH
  have hs' : SatG (kt X) w (match getQ d w.S with | some l => if l.length = n then hh l env w.S else .bad | none => .bad) Q := hs
  cases q : getQ d w.S with
  | none => rw [q] at hs'; exact hs'.elim
  | some l =>
    rw [q] at hs'
    have hs2 : SatG (kt X) w (if l.length = n then hh l env w.S else .bad) Q := hs'
    by_cases hl : l.length = n
    · rw [if_pos hl] at hs2
      obtain ⟨a, vs, rfl, q, p⟩ := getQ_ok hw hr q
      exact ⟨a, vs, rfl, q, by rw [p.length]; exact hl, w, env, l, rfl, hw, he, p, hs2⟩
    · rw [if_neg hl] at hs2
      exact hs2.elim
end
end
end Dv
/-! # Dv10: counting over data -/
namespace Dv
noncomputable section
open PySem PySem.Spec PyProof.Rows L2

def rCntD (K : PySem.W.Frag) : V → List V → Hp → VK → Prop := fun x xs H Q => ∃ (p : Addr) (vs : List V) (ds : List PyData) (v : V) (d : PyData), x = .ref p ∧ xs = [v] ∧ SqL K H p vs ∧ DpAll K H vs ds ∧ Dp K H v d ∧ PyData.plainAll ds = true ∧ d.plain = true ∧ d.depth ≤ 60 ∧ Q (.int (ds.countP fun y => PyData.eqv y d : Nat)) H
theorem mt_countD {X : Cx} (hu : X.A.units + 64 < cLine) : MtR X "list.count" (rCntD X.K) := by
  intro pins s σ H x xs v us Q I rx rxs h
  obtain ⟨p, vs, ds, u, d, rfl, rfl, hs, ha, hd, h1, h2, h3, q⟩ := h
  cases rx
  obtain ⟨u', rfl, ru⟩ := rxs.one
  obtain ⟨its, rv, ⟨o, n, ho, hc, hdn, hd2⟩, hlen⟩ := I.list hs
  obtain ⟨as, r1⟩ := Dp.readsAll I ds vs its ha rv
  obtain ⟨bs, r2⟩ := Dp.reads I d u u' hd ru
  refine SeqAt.count_list_data (vs := its.toArray) ⟨o, ho, hc, n, hd2⟩ (by simpa using r1) r2 h1 h2 ?_ ?_
  · have : min (PyData.depthAll ds) d.depth ≤ d.depth := Nat.min_le_right _ _
    omega
  · exact ⟨.int (ds.countP fun y => PyData.eqv y d : Nat), H, I.tok _, ⟨s.toks, rfl⟩, q⟩
def mCountD (x : D) (a : List D) (S : Store) : Res D := match a with
  | [k] => match toP S 60 k, (getQ x S).bind (toPs S 60) with
    | some d, some ds => .ok (.int (ds.countP fun y => PyData.eqv y d : Nat)) S
    | _, _ => .bad
  | _ => .bad
theorem toPs_plain {S : Store} {n : Nat} {l : List D} {ps : List PyData} (h : toPs S n l = some ps) : PyData.plainAll ps = true := by
  have := (toP_ok (S := S) (n + 1) (.lst l) (.list ps) (by rw [toP, h]; rfl)).1
  have q := PyData.plain_of_canLay0 _ this
  simpa [PyData.plain] using q
theorem md_countD {X : Cx} (hu : X.A.units + 64 < cLine) : MtD X "list.count" mCountD := ⟨_, mt_countD hu, fun w x xs d ds W σ Q hw r1 r2 hs => by
  unfold mCountD at hs
  split at hs
  · rename_i k
    obtain ⟨v0, rfl, rv0⟩ := one_inv r2
    split at hs
    · rename_i p ps h1 h2
      cases q : getQ d w.S with
      | none => rw [q] at h2; cases h2
      | some l =>
        rw [q] at h2
        obtain ⟨a, vs, e1, hq, t⟩ := getQ_ok hw r1 q
        obtain ⟨h3, h4⟩ := toP_ok 60 k p h1
        exact ⟨a, vs, ps, v0, p, e1, rfl, hq, toPs_dp hw 60 l vs ps h2 t, toP_dp hw 60 k v0 p h1 rv0, toPs_plain h2, PyData.plain_of_canLay0 _ h3, h4, SatW.here hs hw rpi⟩
    · exact hs.elim
  · exact hs.elim⟩
theorem bt3 {a b c : Bool} : (mCountD (.lst [.bl a, .bl b, .bl c]) [.bl true] : M D) = fun S => .ok (.int ((if a then 1 else 0) + (if b then 1 else 0) + (if c then 1 else 0))) S := by
  funext S
  cases a <;> cases b <;> cases c <;> simp [mCountD, getQ, toP, toPs, PyData.eqv]
theorem toPs_ints {S : Store} {n : Nat} : ∀ cs : List Int, toPs S n (cs.map D.int) = some (cs.map PyData.int)
  | [] => by simp [toPs]
  | c :: cs => by
    have e : toP S n (D.int c) = some (.int c) := by cases n <;> simp [toP]
    simp [toPs, e, toPs_ints cs]
/-! ### stores: what stands ahead, and the cells behind -/
section
variable {P R : Store} {a b c x : Cn} {L : Nat}
theorem app_at0 (h : P.length = L) : (P ++ a :: R)[L]? = some a := by rw [List.getElem?_append_right (by omega)]; simp [h]
theorem app_at1 (h : P.length = L) : (P ++ a :: b :: R)[L + 1]? = some b := by rw [List.getElem?_append_right (by omega)]; simp [h]
theorem app_at2 (h : P.length = L) : (P ++ a :: b :: c :: R)[L + 2]? = some c := by rw [List.getElem?_append_right (by omega)]; simp [h]
theorem app_set0 (h : P.length = L) : (P ++ a :: R).set L x = P ++ x :: R := by rw [List.set_append_right _ _ (by omega)]; simp [h]
theorem app_set1 (h : P.length = L) : (P ++ a :: b :: R).set (L + 1) x = P ++ a :: x :: R := by rw [List.set_append_right _ _ (by omega)]; simp [h]
theorem app_set2 (h : P.length = L) : (P ++ a :: b :: c :: R).set (L + 2) x = P ++ a :: b :: x :: R := by rw [List.set_append_right _ _ (by omega)]; simp [h]
theorem fin_cut {d : D} (h : P.length = L) (hu : (P.all fun c => c.under L) = true) (hd : d.under L = true) : fin false L d (P ++ R) = .ok d P := by
  unfold fin
  have e : (P ++ R).take L = P := by rw [← h]; simp
  by_cases z : (false = true ∨ (P ++ R).length = L)
  · rw [if_pos z]
    rcases z with z | z
    · cases z
    · rw [List.length_append] at z
      have : R = [] := List.length_eq_zero_iff.mp (by omega)
      subst this
      simp
  · rw [if_neg z, e, hd, hu]
    rfl
end
theorem underL_ints {n : Nat} : ∀ cs : List Int, D.underL n (cs.map D.int) = true
  | [] => rfl
  | c :: cs => by rw [List.map_cons, D.underL, underL_ints cs]; rfl
theorem underL_of {n : Nat} : ∀ {l : List D}, (∀ d ∈ l, D.under n d = true) → D.underL n l = true
  | [], _ => rfl
  | d :: l, h => by rw [D.underL, h d (by simp), underL_of fun x hx => h x (by simp [hx])]; rfl
theorem all_set_under {n k : Nat} {x : Cn} {P : Store} (h : (P.all fun c => c.under n) = true) (hx : x.under n = true) : ((P.set k x).all fun c => c.under n) = true := by
  rw [List.all_eq_true] at *
  intro c hc
  rcases List.mem_or_eq_of_mem_set hc with z | z
  · exact h c z
  · rw [z]; exact hx
/-- a comprehension that only reckons -/
theorem lc_map {α : Type} {g : D → Env → Option Env} {f : Env → M D} {e0 : Env} {S : Store} (emb ψ : α → D) : ∀ (items : List α) (acc : List D), (∀ a ∈ items, ∃ e1, g (emb a) e0 = some e1 ∧ f e1 S = .ok (ψ a) S) → acc.length + items.length ≤ 16000000 → lcL (fun _ => True) g cYes f e0 (items.map emb) acc S = .ok (acc ++ items.map ψ) S
  | [], acc, _, _ => by rw [List.map_nil, lcL, if_pos trivial]; simp
  | a :: items, acc, h, hl => by
    obtain ⟨e1, h1, h2⟩ := h a (by simp)
    rw [List.length_cons] at hl
    rw [List.map_cons, lcL, if_pos trivial]
    simp only [h1, cYes, h2]
    rw [if_pos (by omega), lc_map emb ψ items _ (fun x hx => h x (by simp [hx])) (by rw [List.length_append, List.length_singleton]; omega)]
    simp
theorem irange_map {lo : Int} {n : Nat} : irange lo n = (List.range n).map fun (i : Nat) => D.int (lo + i) := rfl
end
end Dv
/-! # Dv11: Ens and EnsO as structures, so that nobody reckons through them -/
namespace Dv
open PySem PySem.Spec PyProof.Rows L2
structure Ens {α : Type} (x : Res α) (P : α → Store → Prop) : Prop where
  go : En0 x P
structure EnsO (o : Out) (Q : Pst) : Prop where
  go : EnO0 o Q
theorem ens_is {α : Type} {x : Res α} {P : α → Store → Prop} : Ens x P = En0 x P := propext ⟨fun h => h.go, fun h => ⟨h⟩⟩
theorem enso_is {o : Out} {Q : Pst} : EnsO o Q = EnO0 o Q := propext ⟨fun h => h.go, fun h => ⟨h⟩⟩
section
variable {α β : Type} {x : Res α} {a : α} {S : Store} {P : α → Store → Prop} {Q : Pst} {e : Env} {d : D}
@[simp] theorem ens_ok : Ens (.ok a S) P = P a S := ens_is
@[simp] theorem ens_bad : Ens (.bad : Res α) P = False := ens_is
@[simp] theorem ens_exc {y : Exn} : Ens (.exc y S : Res α) P = False := ens_is
@[simp] theorem ens_bind {k : α → Store → Res β} {P : β → Store → Prop} : Ens (x.bind k) P = Ens x (fun a S => Ens (k a S) P) := by
  rw [ens_is, ens_is, en0_bind]
  congr 1
  funext a S
  rw [ens_is]
theorem Ens.imp {P' : α → Store → Prop} (h : Ens x P) (q : ∀ a S, P a S → P' a S) : Ens x P' := ⟨h.go.imp q⟩
theorem ens_eq {v : α} : Ens x (fun a S' => a = v ∧ S' = S) ↔ x = .ok v S := by rw [ens_is]; exact en0_eq
theorem Ens.get (h : Ens x P) : ∃ a S, x = .ok a S ∧ P a S := En0.get h.go
@[simp] theorem ens_if {c : Prop} [Decidable c] : Ens (if c then x else .bad) P = (c ∧ Ens x P) := by rw [ens_is, ens_is, en0_if]
@[simp] theorem ens_if' {c : Prop} [Decidable c] : Ens (if c then .bad else x) P = (¬ c ∧ Ens x P) := by rw [ens_is, ens_is, en0_if']
theorem ens_ite {c : Prop} [Decidable c] {y : Res α} (h1 : c → Ens x P) (h2 : ¬ c → Ens y P) : Ens (if c then x else y) P := ⟨en0_ite (fun h => (h1 h).go) fun h => (h2 h).go⟩
@[simp] theorem enso_nx : EnsO (.nx e S) Q = Q.nx e S := enso_is
@[simp] theorem enso_rt : EnsO (.rt d S) Q = Q.rt d S := enso_is
@[simp] theorem enso_bk : EnsO (.bk e S) Q = Q.bk e S := enso_is
@[simp] theorem enso_ct : EnsO (.ct e S) Q = Q.ct e S := enso_is
@[simp] theorem enso_bad : EnsO .bad Q = False := enso_is
@[simp] theorem enso_out {k : α → Store → Out} : EnsO (x.out e k) Q = Ens x (fun a S => EnsO (k a S) Q) := by
  rw [enso_is, ens_is, eno0_out]
  congr 1
  funext a S
  rw [enso_is]
@[simp] theorem enso_seq {o : Out} {k : Env → Store → Out} : EnsO (o.seq k) Q = EnsO o { Q with nx := fun e S => EnsO (k e S) Q } := by
  rw [enso_is, enso_is, eno0_seq]
  congr 1
  congr 1
  funext e S
  rw [enso_is]
theorem EnsO.imp {o : Out} {Q' : Pst} (h : EnsO o Q) (h1 : ∀ e S, Q.nx e S → Q'.nx e S) (h2 : ∀ e S, Q.rt e S → Q'.rt e S) (h3 : ∀ e S, Q.bk e S → Q'.bk e S) (h4 : ∀ e S, Q.ct e S → Q'.ct e S) : EnsO o Q' := ⟨h.go.imp h1 h2 h3 h4⟩
theorem enso_ite {c : Prop} [Decidable c] {o p : Out} (h1 : c → EnsO o Q) (h2 : ¬ c → EnsO p Q) : EnsO (if c then o else p) Q := ⟨eno0_ite (fun h => (h1 h).go) fun h => (h2 h).go⟩
end
theorem ens_fn {np ns : Nat} {keep : Bool} {body : Env → Store → Out} {ds : List D} {S : Store} {P : D → Store → Prop} (hl : ds.length = np)
    (h : EnsO (body (ds.map some ++ List.replicate (ns - np) none) S) { nx := fun _ S' => Ens (fin keep S.length .non S') P, rt := fun d S' => Ens (fin keep S.length d S') P }) : Ens (fnD np ns keep body ds S) P :=
  ⟨en0_fn hl (h.go.imp (fun _ _ h => h.go) (fun _ _ h => h.go) (fun _ _ h => h.elim) (fun _ _ h => h.elim))⟩
theorem ens_for {g : D → Env → Store → Out} {b : Env → Store → Out} {items : List D} {e : Env} {S : Store} {Q : Pst} (I : Nat → Env → Store → Prop) (h0 : I 0 e S)
    (hs : ∀ (i : Nat) d e S, items[i]? = some d → I i e S → EnsO (g d e S) { nx := fun e1 S1 => EnsO (b e1 S1) { nx := I (i + 1), ct := I (i + 1), bk := Q.nx, rt := Q.rt } })
    (hd : ∀ e S, I items.length e S → Q.nx e S) : EnsO (forL (fun _ => True) g b items e S) Q :=
  ⟨en0_for I h0 (fun i d e S h1 h2 => (hs i d e S h1 h2).go.imp (fun _ _ h => h.go) (fun _ _ h => h.elim) (fun _ _ h => h.elim) (fun _ _ h => h.elim)) hd⟩
theorem ens_while {c : Env → M Bool} {b : Env → Store → Out} {Q : Pst} (I : Env → Store → Prop) (m : Env → Store → Nat)
    (hs : ∀ e S, I e S → Ens (c e S) fun t S1 => (t = true → EnsO (b e S1) { nx := fun e' S' => I e' S' ∧ m e' S' < m e S, ct := fun e' S' => I e' S' ∧ m e' S' < m e S, bk := Q.nx, rt := Q.rt }) ∧ (t = false → Q.nx e S1)) {e : Env} {S : Store} (h0 : I e S) : EnsO (yWhile c b e S) Q :=
  ⟨en0_while I m (fun e S h => (hs e S h).go.imp fun t S1 z => ⟨fun q => (z.1 q).go, z.2⟩) h0⟩
theorem ens_lc {g : D → Env → Option Env} {c : Env → M Bool} {f : Env → M D} {e0 : Env} {items : List D} {S : Store} {P : List D → Store → Prop} (I : Nat → List D → Store → Prop) (h0 : I 0 [] S)
    (hs : ∀ (i : Nat) d acc S, items[i]? = some d → I i acc S → ∃ e1, g d e0 = some e1 ∧ Ens (c e1 S) fun t S2 => (t = true → Ens (f e1 S2) fun y S3 => acc.length < 16000000 ∧ I (i + 1) (acc ++ [y]) S3) ∧ (t = false → I (i + 1) acc S2))
    (hd : ∀ l S, I items.length l S → P l S) : Ens (lcL (fun _ => True) g c f e0 items [] S) P :=
  ⟨en0_lc I h0 (fun i d acc S h1 h2 => by
    obtain ⟨e1, q1, q2⟩ := hs i d acc S h1 h2
    exact ⟨e1, q1, q2.go.imp fun t S2 z => ⟨fun q => (z.1 q).go, z.2⟩⟩) hd⟩
theorem ens_seq {y y' : Env → Store → Out} {e : Env} {S : Store} {Q : Pst} (R : Env → Store → Prop) (h1 : EnsO (y e S) { Q with nx := R }) (h2 : ∀ e S, R e S → EnsO (y' e S) Q) : EnsO (ySeq y y' e S) Q :=
  ⟨en0_seq R h1.go fun e S h => (h2 e S h).go⟩
@[simp] theorem ens_fin0 {k b : Bool} {S : Store} {p : D → Prop} : Ens (fin k 0 (.bl b) S) (fun d _ => p d) = p (.bl b) := by
  unfold fin
  by_cases h : k = true ∨ S.length = 0
  · rw [if_pos h, ens_ok]
  · rw [if_neg h, if_pos (by simp [D.under]), ens_ok]
/- no `if` over rng62 in the reckoning: the kernel would run through its decision -/
@[simp] theorem ens_srcR1 {j : Int} {S : Store} {P : Src → Store → Prop} : Ens (srcR1 [.int j] S) P = (rng62 j ∧ P ⟨irange 0 j.toNat, fun _ => True⟩ S) := by
  rw [srcR1_app, ens_if, ens_ok]
@[simp] theorem ens_srcR2 {i j : Int} {S : Store} {P : Src → Store → Prop} : Ens (srcR2 [.int i, .int j] S) P = ((rng62 i ∧ rng62 j) ∧ P ⟨irange i (j - i).toNat, fun _ => True⟩ S) := by
  rw [srcR2_app, ens_if, ens_ok]
/-- as ens_seq, the middle's form kept from simp -/
theorem ens_sq {y y' : Env → Store → Out} {e : Env} {S : Store} {Q : Pst} (R : Env → Store → Prop) (h1 : ∀ R' : Env → Store → Prop, (∀ e S, R e S → R' e S) → EnsO (y e S) { Q with nx := R' }) (h2 : ∀ e S, R e S → EnsO (y' e S) Q) : EnsO (ySeq y y' e S) Q := ens_seq R (h1 R fun _ _ h => h) h2
theorem ens_fr {g : D → Env → Store → Out} {b : Env → Store → Out} {items : List D} {e : Env} {S : Store} {Q : Pst} (I : Nat → Env → Store → Prop) (h0 : I 0 e S)
    (hs : ∀ (i : Nat) d e S (R' : Env → Store → Prop), items[i]? = some d → I i e S → (∀ e S, I (i + 1) e S → R' e S) → EnsO (g d e S) { nx := fun e1 S1 => EnsO (b e1 S1) { nx := R', ct := R', bk := Q.nx, rt := Q.rt } })
    (hd : ∀ e S, I items.length e S → Q.nx e S) : EnsO (forL (fun _ => True) g b items e S) Q := ens_for I h0 (fun i d e S h1 h2 => hs i d e S _ h1 h2 fun _ _ h => h) hd
theorem ens_lcq {g : D → Env → Option Env} {c : Env → M Bool} {f : Env → M D} {e0 : Env} {items : List D} {S : Store} {P : List D → Store → Prop} (I : Nat → List D → Store → Prop) (h0 : I 0 [] S)
    (hs : ∀ (i : Nat) d acc S (R' : List D → Store → Prop), items[i]? = some d → I i acc S → (∀ l S, I (i + 1) l S → R' l S) → ∃ e1, g d e0 = some e1 ∧ Ens (c e1 S) fun t S2 => (t = true → Ens (f e1 S2) fun y S3 => acc.length < 16000000 ∧ R' (acc ++ [y]) S3) ∧ (t = false → R' acc S2))
    (hd : ∀ l S, I items.length l S → P l S) : Ens (lcL (fun _ => True) g c f e0 items [] S) P := ens_lc I h0 (fun i d acc S h1 h2 => hs i d acc S _ h1 h2 fun _ _ h => h) hd
/-- over a list that is written there; the items are kept from the kernel's reckoning -/
theorem enso_forlst {h : Env → M (List D)} {g : D → Env → Store → Out} {b : Env → Store → Out} {oo : Option D} {ll : Env} {S : Store} {Q : Pst} (hh : Ens (h (oo :: ll) S) fun l S1 => l.length ≤ 1000 ∧ ∀ items, items = l → EnsO (forL (fun _ => True) g b items (oo :: ll) S1) Q) : EnsO (yFor (iSrc srcL (xLst mkF h)) g b (oo :: ll) S) Q := by
  rw [yFor_app, iSrc_app, xLst_app, enso_out, ens_bind, ens_bind]
  refine hh.imp fun l S1 ⟨h1, h2⟩ => ?_
  rw [if_pos h1, mkF_app, ens_ok, srcL_lst, ens_ok]
  exact h2 l rfl
end Dv
/-! # Dv12: any, all, sorted -/
namespace Dv
noncomputable section
open PySem PySem.Spec PyProof.Rows L2
def blsOf : List D → Option (List Bool)
  | [] => some []
  | .bl b :: l => (blsOf l).map (b :: ·)
  | _ :: _ => none
theorem blsOf_eq : ∀ {l : List D} {bs : List Bool}, blsOf l = some bs → l = bs.map D.bl
  | [], bs, h => by cases h; rfl
  | .bl b :: l, bs, h => by
    rw [blsOf] at h
    cases q : blsOf l with
    | none => rw [q] at h; cases h
    | some m => rw [q] at h; cases h; rw [blsOf_eq q]; rfl
  | .non :: _, _, h => by cases h
  | .int _ :: _, _, h => by cases h
  | .str _ :: _, _, h => by cases h
  | .tup _ :: _, _, h => by cases h
  | .lst _ :: _, _, h => by cases h
  | .scr _ :: _, _, h => by cases h
  | .cell _ :: _, _, h => by cases h
  | .raw _ :: _, _, h => by cases h
  | .cls _ :: _, _, h => by cases h
  | .exn _ _ :: _, _, h => by cases h
@[simp] theorem blsOf_map : ∀ bs : List Bool, blsOf (bs.map D.bl) = some bs
  | [] => rfl
  | b :: bs => by rw [List.map_cons, blsOf, blsOf_map bs]; rfl
theorem Rps.bls {K : PySem.W.Frag} {r : List Addr} {F : Hp} : ∀ {bs : List Bool} {vs : List V}, Rps K r F (bs.map D.bl) vs → vs = bs.map V.bl
  | [], vs, h => h.nil_inv
  | b :: bs, vs, h => by
    obtain ⟨v, t, rfl, h1, h2⟩ := h.cons_inv
    cases rp_bl h1
    rw [Rps.bls h2]
    rfl
theorem bls_of {K : PySem.W.Frag} {w : Wl} {x : D} {v : V} {bs : List Bool} (hw : Wd K w) (r : Rp K w.r w.F x v) (h : (getQ x w.S).bind blsOf = some bs) : ∃ a, v = .ref a ∧ SqL K w.H a (bs.map V.bl) := by
  cases q : getQ x w.S with
  | none => rw [q] at h; cases h
  | some l =>
    rw [q] at h
    have e := blsOf_eq (show blsOf l = some bs from h)
    subst e
    obtain ⟨a, vs, e1, q1, t⟩ := getQ_ok hw r q
    rw [t.bls] at q1
    exact ⟨a, e1, q1⟩
def bAll (l : List D) (S : Store) : Res D := match l with
  | [x] => match (getQ x S).bind blsOf with
    | some bs => .ok (.bl (bs.all id)) S
    | none => .bad
  | _ => .bad
def bAny (l : List D) (S : Store) : Res D := match l with
  | [x] => match (getQ x S).bind blsOf with
    | some bs => .ok (.bl (bs.any id)) S
    | none => .bad
  | _ => .bad
@[simp] theorem bAll_bls {bs : List Bool} {S : Store} : bAll [.lst (bs.map D.bl)] S = .ok (.bl (bs.all id)) S := by simp [bAll]
@[simp] theorem bAny_bls {bs : List Bool} {S : Store} : bAny [.lst (bs.map D.bl)] S = .ok (.bl (bs.any id)) S := by simp [bAny]
def bSorted (mk : List D → M D) (l : List D) (S : Store) : Res D := match l with
  | [x] => match (getQ x S).bind intsOf with
    | some ns => mk ((ns.mergeSort fun a b => decide (a ≤ b)).map D.int) S
    | none => .bad
  | _ => .bad
section
variable {X : Cx} {mk : List D → M D}
theorem cd_all (hc : X.calm = true) : CallD X (.builtin "all") bAll := ⟨_, cr_all hc, fun w xs ds W σ Q hw r hs => by
  unfold bAll at hs
  split at hs
  · rename_i x
    obtain ⟨v, rfl, rv⟩ := one_inv r
    split at hs
    · rename_i bs h
      obtain ⟨a, rfl, q⟩ := bls_of hw rv h
      exact ⟨a, bs, rfl, q, SatW.here hs hw rpb⟩
    · exact hs.elim
  · exact hs.elim⟩
theorem cd_any (hc : X.calm = true) : CallD X (.builtin "any") bAny := ⟨_, cr_any hc, fun w xs ds W σ Q hw r hs => by
  unfold bAny at hs
  split at hs
  · rename_i x
    obtain ⟨v, rfl, rv⟩ := one_inv r
    split at hs
    · rename_i bs h
      obtain ⟨a, rfl, q⟩ := bls_of hw rv h
      exact ⟨a, bs, rfl, q, SatW.here hs hw rpb⟩
    · exact hs.elim
  · exact hs.elim⟩
theorem rps_intsV {K : PySem.W.Frag} {r : List Addr} {F : Hp} : ∀ ns : List Int, Rps K r F (ns.map D.int) (ns.map V.int)
  | [] => rps_nil
  | n :: ns => rps_cons rpi (rps_intsV ns)
theorem sorted_uniq {ns ns' : List Int} (h1 : ns'.Perm ns) (h2 : ns'.Pairwise (· ≤ ·)) : ns' = ns.mergeSort fun a b => decide (a ≤ b) := by
  have p := List.mergeSort_perm ns fun a b => decide (a ≤ b)
  have s : (ns.mergeSort fun a b => decide (a ≤ b)).Pairwise (fun a b => decide (a ≤ b) = true) := List.pairwise_mergeSort (le := fun a b => decide (a ≤ b)) (fun a b c h1 h2 => by simp at *; omega) (fun a b => by simp; omega) ns
  exact List.Perm.eq_of_pairwise (le := (· ≤ ·)) (fun a b _ _ h1 h2 => Int.le_antisymm h1 h2) h2 (s.imp fun h => by simpa using h) (h1.trans p.symm)
theorem cd_sorted (m : Mk mk) : CallD X (.builtin "sorted") (bSorted mk) := ⟨_, cr_sortedI, fun w xs ds W σ Q hw r hs => by
  unfold bSorted at hs
  split at hs
  · rename_i x
    obtain ⟨v, rfl, rv⟩ := one_inv r
    split at hs
    · rename_i ns h
      obtain ⟨a, rfl, q⟩ := ints_of hw rv h
      refine ⟨a, ns, rfl, q, fun ns' p h1 h2 hp => ?_⟩
      rw [sorted_uniq h1 h2]
      exact m.go hw (rps_intsV _) hs p hp
    · exact hs.elim
  · exact hs.elim⟩
end
/-- as lc_map, over a list that stands in a cell -/
theorem lc_mapC {α : Type} {chk : Store → Prop} {g : D → Env → Option Env} {f : Env → M D} {e0 : Env} {S : Store} (hk : chk S) (emb ψ : α → D) : ∀ (items : List α) (acc : List D), (∀ a ∈ items, ∃ e1, g (emb a) e0 = some e1 ∧ f e1 S = .ok (ψ a) S) → acc.length + items.length ≤ 16000000 → lcL chk g cYes f e0 (items.map emb) acc S = .ok (acc ++ items.map ψ) S
  | [], acc, _, _ => by rw [List.map_nil, lcL, if_pos hk]; simp
  | a :: items, acc, h, hl => by
    obtain ⟨e1, h1, h2⟩ := h a (by simp)
    rw [List.length_cons] at hl
    rw [List.map_cons, lcL, if_pos hk]
    simp only [h1, cYes, h2]
    rw [if_pos (by omega), lc_mapC hk emb ψ items _ (fun x hx => h x (by simp [hx])) (by rw [List.length_append, List.length_singleton]; omega)]
    simp
theorem srcL_cell {n : Nat} {l : List D} {S : Store} (h : S[n]? = some (.lst l)) : srcL (.cell n) S = .ok ⟨l, fun S' => S'[n]? = some (.lst l)⟩ S := by
  unfold srcL
  simp only [h]
end
end Dv
/-! # Dv13: exceptions: raised, caught, kept as values -/
namespace Dv
open PySem PySem.Spec PyProof.Rows L2

/-! ### an object that wasn't tracked is tracked -/
section
variable {X : Cx} {pins : List (Addr × Obj)} {σ : L2.St} {H : Hp} {s : Shared}
theorem inv_adopt {a : Addr} {o : HO} (I : Inv X pins σ H s) (na : H a = none) (nL : a ≠ X.env.locals) (nC : ∀ x c, X.env.cells.lookup x = some c → c ≠ a) (nP : ∀ p ∈ X.pn ++ pins, p.1 ≠ a) (n0 : X.s_0.heap.get? a = none)
    (new : ObjOk X.prog X.w (upd H a o) s.heap a o) : Inv X pins σ (upd H a o) s := by
  have ne0 : ∀ b ob, X.s_0.heap.get? b = some ob → b ≠ a := fun b ob e z => by
    rw [z, n0] at e
    cases e
  refine ⟨I.ok, I.os, I.bare, ⟨I.base.keep, I.base.slot, fun b ob q n hx => ?_, I.base.there, fun b xs q => ?_, fun b ob u q => ?_, fun b ps q => ?_⟩, I.loc, I.cell, ?_, fun x c e => ?_, fun p hp => ?_, fun b u e => ?_, I.len⟩
  · rw [upd_ne (ne0 b ob q)]
    exact I.base.free b ob q n hx
  · have z := I.base.tups b xs q
    rw [upd_ne (ne_of_none z na)]
    exact z
  · have z := I.base.frzs b ob u q
    rw [upd_ne (ne_of_none z na)]
    exact z
  · obtain ⟨m, z⟩ := I.base.tbls b ps q
    exact ⟨m, by rw [upd_ne (ne_of_none z na)]; exact z⟩
  · rw [upd_ne (Ne.symm nL)]
    exact I.free
  · rw [upd_ne (nC x c e)]
    exact I.freeC x c e
  · obtain ⟨e, n, r⟩ := I.pin p hp
    exact ⟨e, by rw [upd_ne (nP p hp)]; exact n, r⟩
  · by_cases hb : b = a
    · subst hb
      rw [upd_same] at e
      cases e
      exact new
    · rw [upd_ne hb] at e
      exact (I.hok b u e).stay (fun c v _ q => q) (fun c q => by rw [upd_ne (ne_of_none q na)]; exact q) fun c xs q => by rw [upd_ne (ne_of_none q na)]; exact q
theorem exh_ok {P : Program} {w : World} {h : Heap} {a : Addr} {cls : Value} {d : Option Addr} {oe : Obj} {vs : Array Value} (e : h.get? a = some oe) (z : Zc cls d oe) (f : oe.data = .fields vs) : ObjOk P w H h a (ExH cls d a) :=
  ⟨⟨oe, vs, e, z, f⟩, ⟨oe, e⟩, fun _ _ ⟨o, v, q, r⟩ k => ⟨o, v, k o q, r⟩⟩
end
/-- as wAs; behind the suite the exception is tracked -/
def wKeep (K : PySem.W.Frag) (c : Value) (i : Nat) (ts : Addr → Value → Option Addr → TS) (Wout : WX) (D : Ends) : WX := fun cls d σ H =>
  ∃ b, PySem.W.exmOne K cls c = some b ∧ (b = true → ∀ a, H a = none → ts a cls d { nx := fun σ' H' => D.nx (σ'.set i none) (upd H' a (ExH cls d a)), rt := fun v H' => D.rt v (upd H' a (ExH cls d a)), bk := fun σ' H' => D.bk (σ'.set i none) (upd H' a (ExH cls d a)), ct := fun σ' H' => D.ct (σ'.set i none) (upd H' a (ExH cls d a)) } (σ.set i (some (.ref a))) H) ∧
    (b = false → Wout cls d σ H)
section
variable {X : Cx} {x n : Str} {c : Value} {i : Nat} {body suite : List Stmt} {b₀ : Stmt} {np pos pos' : Pos} {tb : WX → TS} {ts : Addr → Value → Option Addr → TS} {Wout : WX}
theorem ps_try_keep (hs : X.stack = X.env :: X.outer) (hf : X.env.frame = some X.env.locals) (hex : X.ex = []) (hN : X.N.Nodup) (hi : X.N[i]? = some n) (hln : X.env.kindOf n = some .local) (hc : Names X x c) (tk : Takes X Wout)
    (hb : ∀ (W : WX) (pn : List (Addr × Obj)) (xe : Value → Shared → Prop), Takes (X.tr pn xe) W → PassesOwn (model X.prog X.w) X.A X.env xe → PSs (X.tr pn xe) body (tb W))
    (hsu : ∀ (a : Addr) (oe : Obj) (cls : Value) (d : Option Addr) (pn : List (Addr × Obj)), Zc cls d oe → (∃ vs, oe.data = .fields vs) → PSs (X.suite a ((a, oe) :: pn)) (b₀ :: suite) (ts a cls d)) :
    PS X (.Try body [.ExceptHandler (some (.Name x np)) (some n) (b₀ :: suite) pos'] [] [] pos) (fun D σ H => tb (wKeep X.K c i ts Wout D) D σ H) := by
  refine ⟨fun pins s σ H D I h => ?_⟩
  have ok := I.ok
  have hfr : X.A.frames = some (X.env :: X.outer) := by rw [ok.frames, hs]
  have hloc : Loc X.env.scope n := .inl hln
  refine wpAny_Try_except ?_
  refine wpAny_mono ((hb (wKeep X.K c i ts Wout D) (X.pn ++ pins) (fun e s₁ => wpAny (model X.prog X.w) X.A (noteFrame e X.env) (fun _ s₂ => wpAny (model X.prog X.w) X.A (setFlight e none) (fun _ s₃ =>
    wpAny (model X.prog X.w) X.A (handleBy e X.env [.ExceptHandler (some (.Name x np)) (some n) (b₀ :: suite) pos']) (SP X pins D) X.xe s₃) X.xe s₂) X.xe s₁) (fun u s' xx => ?_) PassesOwn.looking).run [] s σ H D (I.toTry _) h) (fun f s1 hsp => ?_) (fun e s1 he => he)
  · -- the catch
    obtain ⟨a, B, sI, pins', σ', H', cls, d, rfl, J', nb, up, sky, na, os, ag, b, hb1, hyes, hno⟩ := xx
    have J : Inv X pins σ' H' sI := J'.ofTry ok
    have sky' : Sky B (X.env :: X.outer) a (Zc cls d) X.env.locals s'.heap := by rw [← hs]; exact sky
    show wpAny _ X.A (noteFrame (.ref a) X.env) _ _ _
    refine Sky.land Zc.steady hfr hf sky' fun h3 fl3 up3 => ?_
    have J3 : Inv X pins σ' H' { s' with heap := h3 } := J.landed nb fl3.1 (up.trans up3) os ag
    obtain ⟨oe3, vs3, he3, hz3, hd3⟩ := fl3.there
    have notFr : ∀ {h : Heap} {o : Obj} {vs : Array Value}, h.FunFrames B (X.env :: X.outer) → h.get? a = some o → o.data = .fields vs → a ∉ frs (X.env :: X.outer) := fun {h o vs} ff e dd hm => by
      obtain ⟨_, o', e', hnf⟩ := ff.mem hm
      rw [e] at e'; cases e'
      exact hnf _ dd
    have nfr := notFr fl3.2.2.1 he3 hd3
    have nL : a ≠ X.env.locals := fun z => nfr (List.mem_filterMap.mpr ⟨X.env, List.mem_cons_self, by rw [hf, z]⟩)
    have nF : a ∉ X.fs := fun hm => by
      obtain ⟨e, he, q⟩ := List.mem_filterMap.mp hm
      exact nfr (List.mem_filterMap.mpr ⟨e, List.mem_cons_of_mem _ he, q⟩)
    -- what was there is not the exception
    have old : ∀ b ob, sI.heap.get? b = some ob → b ≠ a := fun b ob e z => by
      have hbf : b ∉ frs X.stack := fun hm => by
        rw [hs] at hm
        exact nfr (by rw [← z]; exact hm)
      have q := nb b ob e hbf
      rw [z, fl3.2.1] at q
      cases q
    have n0 : X.s_0.heap.get? a = none := by
      cases e : X.s_0.heap.get? a with
      | none => rfl
      | some ob =>
        obtain ⟨o', q⟩ := J.base.there a ob e (by rw [hex]; exact fun z => nomatch z)
        exact (old a o' q rfl).elim
    have nC : ∀ x c, X.env.cells.lookup x = some c → c ≠ a := fun x c e => by
      obtain ⟨v, ob, q, _⟩ := J.cell x c e
      exact old c ob q
    have nP : ∀ p ∈ X.pn ++ pins, p.1 ≠ a := fun p hp => old p.1 p.2 (J.pin p hp).1
    have S3 := J3.suite he3 hd3 na nL nF
    refine wpAny_handleBy_cons (codeAny_handlers_test ?_) (by intro q; cases q)
    have LT : PySem.W.Looks (model X.prog X.w) h3 (typeOf (.ref a)) cls := fun A Q E s k q => wpAny_typeOf_ref (k _ _ he3) (by rw [hz3.1]; exact q)
    have LM := PySem.W.exm_one (M := model X.prog X.w) (J3.kIn) LT hb1
    have test : ∀ {Q : Value → Shared → Prop} {E : Value → Shared → Prop}, Q c { s' with heap := h3 } → wpAny (model X.prog X.w) (X.A.mark (some (.ref a))) (eval (.Name x np) X.env) Q E { s' with heap := h3 } := fun {Q E} q => by
      obtain ⟨hg, hdbg, hm | ⟨hm, hv, hnn⟩⟩ := hc
      · exact ld_glob (X := X.suite a ((a, oe3) :: (X.pn ++ pins))) S3 hg hm q hdbg
      · exact ld_blt (X := X.suite a ((a, oe3) :: (X.pn ++ pins))) S3 hg hm hv q hnn hdbg
    refine test (LM.here ?_)
    cases b with
    | true =>
      refine codeAny_handlers_suite_as ?_
      refine HandSPX.lands_againZ fl3 fun h4 fl4 up4 => ?_
      have J4 : Inv X pins σ' H' { s' with heap := h4 } := J.landed nb fl4.1 ((up.trans up3).trans up4) os ag
      obtain ⟨oe4, vs4, he4, hz4, hd4⟩ := fl4.there
      have S4 := J4.suite he4 hd4 na nL nF
      refine store_ok (X := X.suite a ((a, oe4) :: (X.pn ++ pins))) (v := .ref a) S4 hN hi hloc rfl (fun s5 S5 => ?_) (.inr hln)
      refine wpAny_mono ((hsu a oe4 cls d (X.pn ++ pins) hz4 ⟨_, hd4⟩).run [] s5 _ H' _ S5 (hyes rfl a na)) (fun f s6 hsp => ?_) (fun _ _ z => False.elim z)
      have end_ : ∀ {σ6 : L2.St} {H6 : Hp} {Q : Shared → Prop}, Inv (X.suite a ((a, oe4) :: (X.pn ++ pins))) [] σ6 H6 s6 → (∀ s7, Inv X pins (σ6.set i none) (upd H6 a (ExH cls d a)) s7 → Q s7) →
          wpAny (model X.prog X.w) X.A (do bindName X.env n .none; unbindBehindTheSuite X.env n pos') (fun _ s7 => Q s7) X.xe s6 := fun {σ6 H6 Q} S6 hq => by
        obtain ⟨e6, n6, _⟩ := S6.pin (a, oe4) (List.mem_append_left _ List.mem_cons_self)
        exact gone_ok (inv_adopt (S6.unsuite ok) n6 nL nC nP n0 (exh_ok e6 hz4 hd4)) hN hi hln hq
      cases f with
      | next =>
        obtain ⟨σ6, H6, S6, q6⟩ := hsp
        exact end_ S6 fun s7 J7 => ⟨_, _, J7, q6⟩
      | brk =>
        obtain ⟨σ6, H6, S6, q6⟩ := hsp
        exact end_ S6 fun s7 J7 => ⟨_, _, J7, q6⟩
      | cont =>
        obtain ⟨σ6, H6, S6, q6⟩ := hsp
        exact end_ S6 fun s7 J7 => ⟨_, _, J7, q6⟩
      | ret u =>
        obtain ⟨v6, σ6, H6, S6, r6, q6⟩ := hsp
        exact end_ S6 fun s7 J7 => ⟨_, _, _, J7, r6, q6⟩
    | false =>
      show wpAny _ X.A (handleBy (.ref a) X.env []) _ _ _
      refine wpAny_handleBy_nil ?_
      obtain ⟨k1, k2, k3, oe, vs, T, oT, ts', he, hz, hd, h1, hr⟩ := id fl3
      unfold PySem.passOn
      refine wpAny_bind (wpAny_field he hd h1 ?_)
      rw [if_neg (show ¬ ((Value.ref T == Value.none) = true) from by simp)]
      have fin : wpAny (model X.prog X.w) X.A (setFlight (.ref a) X.env.frame) (fun _ s4 => wpAny (model X.prog X.w) X.A (throw (.ref a) : Sem Flow) (SP X pins D) X.xe s4) X.xe { s' with heap := h3 } := by
        rw [hf]
        refine HandSPX.setFlight_upZ fl3 fun h4 hh4 up4 => wpAny_throw (tk _ _ ?_)
        exact ⟨a, B, sI, pins, σ', H', cls, d, rfl, J, nb, (up.trans up3).trans up4, .inr (.inr (by rw [hs]; exact hh4)), na, os, ag, hno rfl⟩
      first
        | exact wpAny_bind (wpAny_pure (wpAny_bind fin))
        | exact wpAny_bind fin
  · cases f with
    | next =>
      obtain ⟨σ', H', J', q⟩ := hsp
      exact wpAny_execs_nil ⟨σ', H', J'.ofTry ok, q⟩
    | brk =>
      obtain ⟨σ', H', J', q⟩ := hsp
      exact ⟨σ', H', J'.ofTry ok, q⟩
    | cont =>
      obtain ⟨σ', H', J', q⟩ := hsp
      exact ⟨σ', H', J'.ofTry ok, q⟩
    | ret u =>
      obtain ⟨v, σ', H', J', r, q⟩ := hsp
      exact ⟨v, σ', H', J'.ofTry ok, r, q⟩
end

/-! ### the classes -/
abbrev veMro : List Value := [.type "ValueError", .type "Exception", .type "BaseException", .type "object"]
/-- a class of the program, as a name of its own -/
structure Cl (K : PySem.W.Frag) (mg : Str → Option Value) (c : Str) (C : Addr) : Prop where
  n : PySem.W.nsIn K mainGlobals c = some (some (.ref C))
  g : mg c = some (.ref C)
  i : PySem.W.isClsIn K C = true
  t : PySem.W.typeIn K (.ref C) = some (.type "type")
/-- one that is raised -/
structure Rc (K : PySem.W.Frag) (mg : Str → Option Value) (c : Str) (C : Addr) : Prop extends Cl K mg c C where
  k : PySem.W.keepIn K (.ref C) = true
  b : PySem.W.subIn K (.ref C) (.type "BaseException") = some true
  s : PySem.W.subIn K (.ref C) (.ref C) = some true
  e : ExcC K C
/-- the answers about subclasses -/
def SubOk (K : PySem.W.Frag) (p : Str × Str × Bool) : Prop := ∀ C D, ClsAt K p.1 C → ClsAt K p.2.1 D → PySem.W.kitOne K (.ref C) (.ref D) = some p.2.2
def subT (L : List (Str × Str × Bool)) (c d : Str) : Option Bool := (L.find? fun p => p.1 == c && p.2.1 == d).map (·.2.2)
theorem subT_mem {L : List (Str × Str × Bool)} {c d : Str} {b : Bool} (h : subT L c d = some b) : (c, d, b) ∈ L := by
  unfold subT at h
  cases q : L.find? fun p => p.1 == c && p.2.1 == d with
  | none => rw [q] at h; cases h
  | some p =>
    rw [q] at h
    have e := Option.some.inj h
    have m := List.mem_of_find?_eq_some q
    have z := List.find?_some q
    rw [Bool.and_eq_true] at z
    obtain ⟨p1, p2, p3⟩ := p
    have e1 : p1 = c := eq_of_beq z.1
    have e2 : p2 = d := eq_of_beq z.2
    have e3 : p3 = b := e
    subst e1 e2 e3
    exact m
theorem cls_some {K : PySem.W.Frag} {C : Addr} (h : PySem.W.isClsIn K C = true) : (PySem.W.clsIn K C).isSome = true := h
theorem sub_ok {K : PySem.W.Frag} {mg : Str → Option Value} {c d : Str} {C D : Addr} {b : Bool} (h1 : Rc K mg c C) (h2 : Cl K mg d D) (h : PySem.W.subIn K (.ref C) (.ref D) = some b) : SubOk K (c, d, b) := fun C' D' e1 e2 => by
  have e3 : C = C' := ClsAt.uniq h1.n e1
  have e4 : D = D' := ClsAt.uniq h2.n e2
  subst e3 e4
  unfold PySem.W.kitOne
  by_cases q : (Value.ref C == Value.ref D) = true
  · rw [if_pos q]
    have e : C = D := Value.ref.inj (beq_iff_eq.mp q)
    subst e
    rw [h1.s] at h
    exact h
  · rw [if_neg q]
    have z : ((PySem.W.clsIn K D).isSome && PySem.W.typeIn K (.ref D) == some (.type "type")) = true := by rw [cls_some h2.i, h2.t] <;> rfl
    show (if ((PySem.W.clsIn K D).isSome && PySem.W.typeIn K (.ref D) == some (.type "type")) = true then PySem.W.subIn K (.ref C) (.ref D) else none) = some b
    rw [if_pos z]
    exact h
/-- except D -/
def CatchOk (K : PySem.W.Frag) (p : Str × Str × Bool) : Prop := ∀ C D, ClsAt K p.1 C → ClsAt K p.2.1 D → PySem.W.exmOne K (.ref C) (.ref D) = some p.2.2
theorem catch_ok {K : PySem.W.Frag} {mg : Str → Option Value} {c d : Str} {C D : Addr} {b : Bool} (h1 : Rc K mg c C) (h2 : Cl K mg d D) (h : PySem.W.subIn K (.ref C) (.ref D) = some b) (hb : PySem.W.subIn K (.ref D) (.type "BaseException") = some true) : CatchOk K (c, d, b) := fun C' D' e1 e2 => by
  have e3 : C = C' := ClsAt.uniq h1.n e1
  have e4 : D = D' := ClsAt.uniq h2.n e2
  subst e3 e4
  have z1 : (PySem.W.subIn K (.ref D) (.type "BaseException") == some true) = true := by rw [hb] <;> rfl
  have z : ((PySem.W.clsIn K D).isSome && PySem.W.typeIn K (.ref D) == some (.type "type")) = true := by rw [cls_some h2.i, h2.t] <;> rfl
  show (if (PySem.W.subIn K (.ref D) (.type "BaseException") == some true) = true then (if ((PySem.W.clsIn K D).isSome && PySem.W.typeIn K (.ref D) == some (.type "type")) = true then PySem.W.subIn K (.ref C) (.ref D) else none) else none) = some b
  rw [if_pos z1, if_pos z]
  exact h

theorem all_c {α : Type} {P : α → Prop} {a : α} {l : List α} (h : P a) (t : ∀ x ∈ l, P x) : ∀ x ∈ a :: l, P x := List.forall_mem_cons.mpr ⟨h, t⟩
theorem all_n {α : Type} {P : α → Prop} : ∀ x ∈ ([] : List α), P x := fun x h => nomatch h
theorem ec_of {K : PySem.W.Frag} {mg : Str → Option Value} {c : Str} {C : Addr} (h1 : Rc K mg c C) : ∀ C', ClsAt K c C' → ExcC K C' := fun C' e1 => by
  have e3 : C = C' := ClsAt.uniq h1.n e1
  subst e3
  exact h1.e
/-! ### raise -/
def yRaise (c : Str) : Env → Store → Out := fun e S => .exc ⟨c, none⟩ e S
section
variable {X : Cx} {W : WX} {x m : Str} {j : Nat} {p p2 pos pos2 : Pos} {C : Addr}
theorem psd_raise (hc : X.calm = true) (tk : Takes X W) (R : Rc X.K X.mg x C) (q : PySem.W.excIn X.K C veMro "ValueError.__new__" = true) (hg : Gl X x := by rfl) (hdb : (x == ("__debug__" : Str)) = false := by decide) :
    PSD X W (.Raise (some (.Call (.Name x p) [.Constant (.str m) j p2] [] pos)) none pos2) (yRaise x) := by
  refine weakS (ps_raise hc tk (pmk_own PySem.F.excBase_ValueError q R.g R.k (raises_own R.b R.t) hg hdb)) fun D σ H ⟨w, env, eH, hw, he, hs⟩ => ?_
  subst eH
  exact hs w σ (.ref C) none (Go.refl hw) rfl he ⟨C, R.n, rfl, rfl⟩
end

/-! ### try .. except D as e: y = e -/
def yTryKeep (L : List (Str × Str × Bool)) (d : Str) (i j : Nat) (g : Env → Store → Out) : Env → Store → Out := fun e S => match g e S with
  | .exc x e' S' => match subT L x.cls d with
    | some true => match e'[i]? with
      | some _ => .nx ((e'.set j (some (.exn x.cls x.val))).set i none) S'
      | none => .bad
    | some false => .exc x e' S'
    | none => .bad
  | o => o
section
variable {X : Cx} {W : WX} {x n y : Str} {i j : Nat} {body : List Stmt} {np pos pos' py pe ps : Pos} {g : Env → Store → Out} {L : List (Str × Str × Bool)} {Dc : Addr}
theorem psd_tryKeep (hs : X.stack = X.env :: X.outer) (hf : X.env.frame = some X.env.locals) (hex : X.ex = []) (hN : X.N.Nodup) (hi : X.N[i]? = some n) (hj : X.N[j]? = some y) (hij : i ≠ j) (hln : X.env.kindOf n = some .local) (hly : X.env.scope.names.lookup y = some .local) (tk : Takes X W)
    (hg : Gl X x) (hd : Cl X.K X.mg x Dc) (hL : ∀ p ∈ L, CatchOk X.K p)
    (hb : ∀ (W : WX) (pn : List (Addr × Obj)) (xe : Value → Shared → Prop), Takes (X.tr pn xe) W → PassesOwn (model X.prog X.w) X.A X.env xe → PSsD (X.tr pn xe) W body g)
    (hsw : swapsWith (.Name n pe) (some (.Name y py)) ps.line X.env = pure false := by rfl) (hdb : (x == ("__debug__" : Str)) = false := by decide) (hn1 : (n == ("__debug__" : Str)) = false := by decide) (hn2 : (n == ("__classdict__" : Str)) = false := by decide) :
    PSD X W (.Try body [.ExceptHandler (some (.Name x np)) (some n) [.Assign [.Name y py] (.Name n pe) ps] pos'] [] [] pos) (yTryKeep L x i j g) := by
  refine weakS (ps_try_keep (i := i) (c := .ref Dc) (tb := fun W => sD (kt X) W g) (ts := fun _ _ _ => tAsg (tVar i) (gName j)) hs hf hex hN hi hln ⟨hg, hdb, .inl hd.g⟩ tk (fun W pn xe tk' pas => hb W pn xe tk' pas)
    (fun a oe cls d pn hz hf' => pss_one (ps_set (i := j) hN hj (.inl hly) (pe_var (i := i) hi (.inl hln) hn1 hn2) hsw (.inr hly)))) fun D σ H ⟨w, env, eH, hw, he, hs⟩ => ⟨w, env, eH, hw, he, ?_⟩
  unfold yTryKeep at hs
  cases o : g env w.S with
  | nx e S => rw [o] at hs; exact hs
  | rt e S => rw [o] at hs; exact hs
  | bk e S => rw [o] at hs; exact hs
  | ct e S => rw [o] at hs; exact hs
  | bad => rw [o] at hs; exact hs
  | exc z e' S' =>
    rw [o] at hs
    intro w' σ' cls dd g' eS he' hx
    obtain ⟨C, c1, rfl, c3⟩ := hx
    cases q : subT L z.cls x with
    | none => simp only [q] at hs; exact hs.elim
    | some b =>
      refine ⟨b, hL _ (subT_mem q) C Dc c1 hd.n, fun hb a na => ?_, fun hb => ?_⟩
      · subst hb
        simp only [q] at hs
        cases qi : e'[i]? with
        | none => simp only [qi] at hs; exact hs.elim
        | some oo =>
          simp only [qi] at hs
          have hlt : i < σ'.length := by
            rw [← he'.1]
            exact (List.getElem?_eq_some_iff.mp qi).1
          refine ⟨.ref a, List.getElem?_set_self hlt, ?_⟩
          have ga := Go.alloc (o := ExH (.ref C) dd a) g'.wd na
          have r2 : Rp X.K w'.r (upd w'.F a (ExH (.ref C) dd a)) (.exn z.cls z.val) (.ref a) := by
            unfold Rp
            exact ⟨a, C, dd, rfl, c1, upd_same, c3.mono ga.F⟩
          have he2 := (((he'.go ga).set (i := j) r2).unset (i := i))
          have es : ((σ'.set i (some (V.ref a))).set j (some (V.ref a))).set i none = (σ'.set j (some (V.ref a))).set i none := by
            apply List.ext_getElem?
            intro k
            simp only [List.getElem?_set, List.length_set]
            by_cases hk : i = k
            · simp [hk]
            · simp [hk]
          show D.nx (((σ'.set i (some (V.ref a))).set j (some (V.ref a))).set i none) _
          rw [es]
          exact hs ⟨w'.r, upd w'.F a (ExH (.ref C) dd a), w'.S, upd w'.H a (ExH (.ref C) dd a)⟩ _ (g'.trans ga) eS he2
      · subst hb
        simp only [q] at hs
        exact hs w' σ' _ dd g' eS he' ⟨C, c1, rfl, c3⟩
end

/-! ### isinstance of what was caught; its field -/
def VeOk (K : PySem.W.Frag) (c : Str) : Prop := ∀ C, ClsAt K c C → PySem.W.kitOne K (.ref C) (.type "ValueError") = some true
theorem ve_ok {K : PySem.W.Frag} {mg : Str → Option Value} {c : Str} {C : Addr} (h1 : Rc K mg c C) (h : PySem.W.subIn K (.ref C) (.type "ValueError") = some true) : VeOk K c := fun C' e1 => by
  have e3 : C = C' := ClsAt.uniq h1.n e1
  subst e3
  have q : ¬ (Value.ref C == Value.type "ValueError") = true := by
    intro z
    have e := beq_iff_eq.mp z
    cases e
  unfold PySem.W.kitOne
  rw [if_neg q]
  show (if PySem.W.kitMeta "ValueError" = true then PySem.W.subIn K (.ref C) (.type "ValueError") else none) = some true
  rw [if_pos (by decide +kernel)]
  exact h
/-- what is asked of the classes that may be caught -/
structure XcOk (K : PySem.W.Frag) (L : List (Str × Str × Bool)) (R : List Str) : Prop where
  sub : ∀ p ∈ L, SubOk K p
  ve : ∀ c ∈ R, VeOk K c
  ec : ∀ c ∈ R, ∀ C, ClsAt K c C → ExcC K C
def anyE (L : List (Str × Str × Bool)) (c : Str) : List D → Option Bool
  | [] => some false
  | .cls d :: l => match subT L c d, anyE L c l with
    | some a, some b => some (a || b)
    | _, _ => none
  | _ => none
def bIsE (L : List (Str × Str × Bool)) (R : List Str) (l : List D) (S : Store) : Res D := match l with
  | [.exn c _, .tup l] => if c ∈ R then match anyE L c l with
      | some b => .ok (.bl b) S
      | none => .bad
    else .bad
  | [.exn c _, .cls d] => if c ∈ R then match subT L c d with
      | some b => .ok (.bl b) S
      | none => .bad
    else .bad
  | [.exn c _, .raw v] => if c ∈ R ∧ v = .ty "ValueError" then .ok (.bl true) S else .bad
  | _ => .bad
def rIsX (K : PySem.W.Frag) : List V → Hp → VK → Prop := fun xs H Q => ∃ (a C : Addr) (d : Option Addr) (c : V) (cv : Value) (b : Bool), xs = [.ref a, c] ∧ (∀ u, RelV c u → u = cv) ∧ H a = some (ExH (.ref C) d a) ∧ (∀ b, d = some b → ∃ o, H b = some o) ∧ ExcC K C ∧ PySem.W.kitOne K (.ref C) cv = some b ∧ Q (.bl b) H
theorem exh_at {P : Program} {w : World} {H : Hp} {h : Heap} {a C : Addr} {d : Option Addr} (hok : HOk P w H h) (e : H a = some (ExH (.ref C) d a)) (hd : ∀ b, d = some b → ∃ o, H b = some o) : ∃ oe od, PySem.W.InstAt h a oe C od ∧ ∀ b, d = some b → ∃ o, od = some o ∧ h.get? b = some o := by
  have z : ObjOk P w H h a (ExH (.ref C) d a) := hok a _ e
  obtain ⟨⟨oe, vs, h1, h2, h3⟩, _, _⟩ := z
  obtain ⟨oc, odd, oda, osl⟩ := oe
  obtain ⟨h4, h5⟩ := h2
  dsimp only at h3 h4 h5
  subst h3 h4 h5
  cases odd with
  | none => exact ⟨_, none, ⟨h1, rfl, rfl, trivial⟩, fun b q => by cases q⟩
  | some b =>
    obtain ⟨o, q⟩ := hd b rfl
    obtain ⟨ob, eb⟩ := objOk_get (hok b o q)
    exact ⟨_, some ob, ⟨h1, rfl, rfl, eb⟩, fun b' q' => by cases q'; exact ⟨ob, rfl, eb⟩⟩
section
variable {X : Cx} {W : WX}
theorem call_isX : CallR X (.builtin "isinstance") (rIsX X.K) := by
  intro pins s σ H xs us Q I r h
  obtain ⟨a, C, d, c, cv, b, rfl, hcv, ha, hd, E, e, q⟩ := h
  obtain ⟨u1, u2, rfl, r1, r2⟩ := vals2 r
  cases (show u1 = Value.ref a from r1)
  have ec := hcv _ r2
  subst ec
  obtain ⟨oe, od, J, _⟩ := exh_at I.hok ha hd
  have hcl : (PySem.W.clsIn X.K C).isSome = true := by obtain ⟨cd, hc, _⟩ := PySem.W.any_some E.hd; rw [hc]; rfl
  exact PySem.W.kia_one (PySem.W.kitx_exc hcl E.hg E.hk E.hs E.ha E.hn E.ht E.hm) I.kIn J e (fun z => nomatch z) fun tk => ⟨.bl b, H, I.tok tk, rfl, q⟩
def rIsXT (K : PySem.W.Frag) : List V → Hp → VK → Prop := fun xs H Q => ∃ (a C : Addr) (d : Option Addr) (tp : Addr) (vs : List V) (us : List Value) (b : Bool), xs = [.ref a, .ref tp] ∧ Rd H tp (.tup vs) ∧ (∀ ws, Vals vs ws → ws = us) ∧ H a = some (ExH (.ref C) d a) ∧ (∀ b, d = some b → ∃ o, H b = some o) ∧ ExcC K C ∧ PySem.W.kitAny K (.ref C) us = some b ∧ Q (.bl b) H
theorem call_isXT : CallR X (.builtin "isinstance") (rIsXT X.K) := by
  intro pins s σ H xs us Q I r h
  obtain ⟨a, C, d, tp, vs, ws, b, rfl, hT, hcv, ha, hd, E, e, q⟩ := h
  obtain ⟨u1, u2, rfl, r1, r2⟩ := vals2 r
  cases (show u1 = Value.ref a from r1)
  cases (show u2 = Value.ref tp from r2)
  obtain ⟨oe, od, J, _⟩ := exh_at I.hok ha hd
  have hcl : (PySem.W.clsIn X.K C).isSome = true := by obtain ⟨cd, hc, _⟩ := PySem.W.any_some E.hd; rw [hc]; rfl
  obtain ⟨_, its, rv, o, h1, h2, n, h3⟩ := (show ObjOk X.prog X.w H s.heap tp (.tup vs) from hT.ok I.hok)
  have e3 := hcv _ rv
  subst e3
  obtain ⟨oc, odd, dt, sl⟩ := o
  simp only at h2 h3
  subst h2 h3
  exact PySem.W.kia_tup (PySem.W.kitx_exc hcl E.hg E.hk E.hs E.ha E.hn E.ht E.hm) I.kIn J h1 e (fun z => nomatch z) fun tk => ⟨.bl b, H, I.tok tk, rfl, q⟩
theorem any_ok {K : PySem.W.Frag} {L : List (Str × Str × Bool)} {r : List Addr} {F : Hp} {c : Str} {C : Addr} (hx : ∀ p ∈ L, SubOk K p) (hC : ClsAt K c C) : ∀ {l : List D} {vs : List V} {b : Bool}, Rps K r F l vs → anyE L c l = some b → ∃ us : List Value, (∀ ws, Vals vs ws → ws = us) ∧ PySem.W.kitAny K (.ref C) us = some b
  | [], vs, b, h, e => by
    rw [h.nil_inv]
    cases e
    exact ⟨[], fun ws q => by cases q; rfl, rfl⟩
  | .cls d :: l, vs, b, h, e => by
    obtain ⟨v, t, rfl, h1, h2⟩ := h.cons_inv
    unfold Rp at h1
    obtain ⟨D, hD, rfl⟩ := h1
    have us_of : ∀ {us : List Value}, (∀ ws, Vals t ws → ws = us) → ∀ ws, Vals (V.ref D :: t) ws → ws = Value.ref D :: us := fun {us} hu ws q => by
      cases q with
      | cons q1 q2 =>
        rw [hu _ q2, show _ = Value.ref D from q1]
    unfold anyE at e
    cases q : subT L c d with
    | none => rw [q] at e; cases e
    | some k =>
      cases q2 : anyE L c l with
      | none => rw [q, q2] at e; cases e
      | some k2 =>
        rw [q, q2] at e
        cases e
        have hk := hx _ (subT_mem q) C D hC hD
        obtain ⟨us, h3, h4⟩ := any_ok hx hC h2 q2
        refine ⟨_, us_of h3, ?_⟩
        unfold PySem.W.kitAny
        rw [hk]
        cases k with
        | true => rfl
        | false => exact h4
  | .non :: _, _, _, _, e => by cases e
  | .bl _ :: _, _, _, _, e => by cases e
  | .int _ :: _, _, _, _, e => by cases e
  | .str _ :: _, _, _, _, e => by cases e
  | .tup _ :: _, _, _, _, e => by cases e
  | .lst _ :: _, _, _, _, e => by cases e
  | .scr _ :: _, _, _, _, e => by cases e
  | .cell _ :: _, _, _, _, e => by cases e
  | .raw _ :: _, _, _, _, e => by cases e
  | .exn _ _ :: _, _, _, _, e => by cases e
theorem fld_some {F H : Hp} (s : Same F H) {d : Option Addr} {f : Option (Str × Int)} (h : FldOk F d f) : ∀ b, d = some b → ∃ o, H b = some o := fun b e => by
  cases f with
  | none =>
    have z : d = none := h
    rw [z] at e
    cases e
  | some p =>
    obtain ⟨b', e', q⟩ := h
    rw [e'] at e
    cases e
    exact ⟨_, s _ _ q⟩
theorem cd_isE {L : List (Str × Str × Bool)} {R : List Str} (hx : XcOk X.K L R) : CallD X (.builtin "isinstance") (bIsE L R) := ⟨_, call_isX.or call_isXT, fun w xs ds W σ Q hw r hs => by
  unfold bIsE at hs
  split at hs
  · rename_i c f l
    obtain ⟨v, u, rfl, rv, ru⟩ := two_inv r
    unfold Rp at rv ru
    obtain ⟨a, C, dd, rfl, hC, hF, hf⟩ := rv
    obtain ⟨tp, vs, rfl, hT, hvs⟩ := ru
    obtain ⟨hR, hs⟩ := satIf hs
    cases q : anyE L c l with
    | none => simp only [q] at hs; exact hs.elim
    | some b =>
      simp only [q] at hs
      obtain ⟨us, h1, h2⟩ := any_ok hx.sub hC hvs q
      exact .inr ⟨a, C, dd, tp, vs, us, b, rfl, rd_same hw.same hT, h1, hw.same _ _ hF, fld_some hw.same hf, hx.ec c hR C hC, h2, SatW.here hs hw rpb⟩
  · rename_i c f d
    obtain ⟨v, u, rfl, rv, ru⟩ := two_inv r
    unfold Rp at rv ru
    obtain ⟨a, C, dd, rfl, hC, hF, hf⟩ := rv
    obtain ⟨D, hD, rfl⟩ := ru
    obtain ⟨hR, hs⟩ := satIf hs
    cases q : subT L c d with
    | none => simp only [q] at hs; exact hs.elim
    | some b =>
      simp only [q] at hs
      exact .inl ⟨a, C, dd, _, .ref D, b, rfl, fun u e => e, hw.same _ _ hF, fld_some hw.same hf, hx.ec c hR C hC, hx.sub _ (subT_mem q) C D hC hD, SatW.here hs hw rpb⟩
  · rename_i c f v0
    obtain ⟨v, u, rfl, rv, ru⟩ := two_inv r
    unfold Rp at rv
    obtain ⟨a, C, dd, rfl, hC, hF, hf⟩ := rv
    cases rp_raw ru
    obtain ⟨⟨hR, he⟩, hs2⟩ := satIf hs
    rw [he]
    exact .inl ⟨a, C, dd, _, .type "ValueError", true, rfl, fun u e => e, hw.same _ _ hF, fld_some hw.same hf, hx.ec c hR C hC, hx.ve c hR C hC, SatW.here hs2 hw rpb⟩
  · exact hs.elim⟩
theorem pd_cls {x : Str} {C : Addr} {pos : Pos} (R : Cl X.K X.mg x C) (hg : Gl X x := by rfl) (hd : (x == ("__debug__" : Str)) = false := by decide) : PD X W (.Name x pos) (xC (.cls x)) := by
  refine weakE (pe_glob (v := V.ref C) hg R.g rfl hd) fun σ H Q ⟨w, env, eH, hw, he, hs⟩ => ?_
  subst eH
  exact SatW.here (d := D.cls x) (v := V.ref C) hs hw (by unfold RD Rp; exact ⟨C, R.n, rfl⟩)
/-- e.f -/
def xFldX (f : Str) (g : Env → M D) : Env → M D := fun e S => (g e S).bind fun d S1 => match d with
  | .exn _ (some (f', i)) => if f' = f then .ok (.int i) S1 else .bad
  | _ => .bad
theorem units65 {k : Nat} {A : Around} (r : Room k A) : A.units + 65 < cLine := by have := r.un; omega
/-! ### list.index, in: data of any depth -/
def mIndexD (x : D) (a : List D) (S : Store) : Res D := match a with
  | [k] => match toP S 60 k, toP S 60 x with
    | some d, some (.list ds) => match ds.findIdx? fun y => PyData.eqv y d with
      | some j => .ok (.int (j : Nat)) S
      | none => .bad
    | _, _ => .bad
  | _ => .bad
theorem dp_ref {K : PySem.W.Frag} {H : Hp} {v : V} {ds : List PyData} (h : Dp K H v (.list ds)) : ∃ a, v = .ref a := by
  cases h with
  | lst _ _ => exact ⟨_, rfl⟩
theorem md_indexD (hu : X.A.units + 65 < cLine) : MtD X "list.index" mIndexD := ⟨_, mt_indexD hu, fun w x xs d ds W σ Q hw r1 r2 hs => by
  unfold mIndexD at hs
  split at hs
  · rename_i k
    obtain ⟨v0, rfl, rv0⟩ := one_inv r2
    split at hs
    · rename_i p ps h1 h2
      have dp := toP_dp hw 60 d x _ h2 r1
      obtain ⟨a, rfl⟩ := dp_ref dp
      cases q : ps.findIdx? fun y => PyData.eqv y p with
      | none => simp only [q] at hs; exact hs.elim
      | some j =>
        simp only [q] at hs
        obtain ⟨hj, hz, hno⟩ := List.findIdx?_eq_some_iff_getElem.mp q
        refine ⟨a, v0, p, ps, j, ps[j], rfl, rfl, dp, toP_dp hw 60 k v0 p h1 rv0, shaped_of h2, shaped_of h1, List.getElem?_eq_getElem hj, hz, fun m z' hm e => ?_, SatW.here hs hw rpi⟩
        have := hno m hm
        rw [List.getElem?_eq_some_iff] at e
        obtain ⟨_, rfl⟩ := e
        simpa using this
    · exact hs.elim
  · exact hs.elim⟩
def dInD (neg : Bool) (x y : D) (S : Store) : Res D := match toP S 60 x, toP S 60 y with
  | some d, some (.list ds) => .ok (.bl (if neg then !ds.any (fun z => PyData.eqv z d) else ds.any fun z => PyData.eqv z d)) S
  | _, _ => .bad
theorem od_inD (hu : X.A.units + 65 < cLine) : OpD X (compareOp .In) (dInD false) := ⟨_, op_inD hu, fun w x y d e W σ Q hw r1 r2 hs => by
  unfold dInD at hs
  split at hs
  · rename_i p ps h1 h2
    exact ⟨p, ps, toP_dp hw 60 d x p h1 r1, toP_dp hw 60 e y _ h2 r2, shaped_of h1, shaped_of h2, SatW.here hs hw rpb⟩
  · exact hs.elim⟩
theorem od_notInD (hu : X.A.units + 65 < cLine) : OpD X (compareOp .NotIn) (dInD true) := ⟨_, op_notInD hu, fun w x y d e W σ Q hw r1 r2 hs => by
  unfold dInD at hs
  split at hs
  · rename_i p ps h1 h2
    exact ⟨p, ps, toP_dp hw 60 d x p h1 r1, toP_dp hw 60 e y _ h2 r2, shaped_of h1, shaped_of h2, SatW.here hs hw rpb⟩
  · exact hs.elim⟩
def FldC (K : PySem.W.Frag) (f : Str) (c : Str) : Prop := ∀ C, ClsAt K c C → PySem.W.findIn K (.ref C) f = some none ∧ XfC K C
end
end Dv
/-! # Dv14: reckoning with exceptions -/
namespace Dv
open PySem PySem.Spec PyProof.Rows L2
section
variable {oo : Option D} {ll : Env} {S S' : Store} {e e' : Env} {x : Exn} {c d : Str} {i j : Nat} {g : Env → Store → Out} {L : List (Str × Str × Bool)} {R : List Str} {Q : Pst}
@[simp] theorem yRaise_app : yRaise c (oo :: ll) S = .exc ⟨c, none⟩ (oo :: ll) S := rfl
@[simp] theorem yTry_nx (h : g e S = .nx e' S') : yTryKeep L d i j g e S = .nx e' S' := by simp only [yTryKeep, h]
theorem yTry_exc {o : Option D} (h : g e S = .exc x e' S') (hs : subT L x.cls d = some true) (hi : e'[i]? = some o) : yTryKeep L d i j g e S = .nx ((e'.set j (some (.exn x.cls x.val))).set i none) S' := by simp only [yTryKeep, h, hs, hi]
theorem enso_try (h : EnsO (g e S) Q) : EnsO (yTryKeep L d i j g e S) Q := by
  unfold yTryKeep
  cases o : g e S with
  | exc y e2 S2 => rw [o] at h; exact (h.go).elim
  | _ => rw [o] at h; exact h
/-- a body that tells or is caught -/
theorem enso_try2 (x : Exn) (hs : subT L x.cls d = some true) (h : EnsO (g e S) Q ∨ ∃ o, e[i]? = some o ∧ g e S = .exc x e S ∧ Q.nx ((e.set j (some (.exn x.cls x.val))).set i none) S) : EnsO (yTryKeep L d i j g e S) Q := by
  rcases h with h | ⟨o, hi, hg, q⟩
  · exact enso_try h
  · rw [yTry_exc hg hs hi, enso_nx]
    exact q
@[simp] theorem isE_cls {f : Option (Str × Int)} : bIsE L R [.exn c f, .cls d] S = if c ∈ R then match subT L c d with | some b => .ok (.bl b) S | none => .bad else .bad := rfl
@[simp] theorem isE_ty {f : Option (Str × Int)} {v : V} : bIsE L R [.exn c f, .raw v] S = if c ∈ R ∧ v = .ty "ValueError" then .ok (.bl true) S else .bad := rfl
@[simp] theorem isN_exn {f : Option (Str × Int)} : dIsN (.exn c f) .non S = .ok (.bl false) S := rfl
@[simp] theorem isN_non : dIsN .non .non S = .ok (.bl true) S := rfl
@[simp] theorem isN_int {k : Int} : dIsN (.int k) .non S = .ok (.bl false) S := rfl
@[simp] theorem isN_tup {l : List D} : dIsN (.tup l) .non S = .ok (.bl false) S := rfl
@[simp] theorem isN_lst {l : List D} : dIsN (.lst l) .non S = .ok (.bl false) S := rfl
@[simp] theorem isE_tup {f : Option (Str × Int)} {l : List D} : bIsE L R [.exn c f, .tup l] S = if c ∈ R then match anyE L c l with | some b => .ok (.bl b) S | none => .bad else .bad := rfl
@[simp] theorem anyE_nil : anyE L c [] = some false := rfl
@[simp] theorem anyE_cons {l : List D} : anyE L c (.cls d :: l) = match subT L c d, anyE L c l with | some a, some b => some (a || b) | _, _ => none := rfl
theorem toPs_bls {S : Store} {n : Nat} : ∀ cs : List Bool, toPs S n (cs.map D.bl) = some (cs.map PyData.bool)
  | [] => by simp [toPs]
  | c :: cs => by
    have e : toP S n (D.bl c) = some (.bool c) := by cases n <;> simp [toP]
    simp [toPs, e, toPs_bls cs]
/-- a def that raises -/
theorem fn_exc {np ns : Nat} {keep : Bool} {body : Env → Store → Out} {ds : List D} {e : Env} (hl : ds.length = np) (h : body (ds.map some ++ List.replicate (ns - np) none) S = .exc x e S) : fnD np ns keep body ds S = .exc x S := by
  unfold fnD
  rw [if_pos hl, h]
  simp [finX]
theorem fn_exc' {np ns : Nat} {keep : Bool} {body : Env → Store → Out} {ds : List D} {e : Env} {R : Store} (hl : ds.length = np) (hu : (S.all fun c => c.under S.length) = true) (h : body (ds.map some ++ List.replicate (ns - np) none) S = .exc x e (S ++ R)) : fnD np ns keep body ds S = .exc x S := by
  unfold fnD
  rw [if_pos hl, h]
  simp only [finX]
  by_cases z : (S ++ R).length = S.length
  · rw [if_pos z]
    have : R = [] := List.length_eq_zero_iff.mp (by rw [List.length_append] at z; omega)
    subst this
    simp
  · rw [if_neg z, List.take_left, hu]
    rfl
end
end Dv
/-! # Dv15: fractions in lowest terms are rational numbers -/
namespace Dv
open PySem PySem.Spec PyProof.Rows L2
/-- a fraction as the program has it -/
def fr (x : Rat) : D := .tup [.int x.num, .int x.den]
/-- the divisor with the lower part's sign -/
def gsr (a b : Int) : Int := if b < 0 then 0 - (Int.gcd a b : Int) else Int.gcd a b
theorem gsr_ne {a b : Int} (h : b ≠ 0) : gsr a b ≠ 0 := by
  have e : Int.gcd a b ≠ 0 := fun z => h (Int.gcd_eq_zero_iff.mp z).2
  unfold gsr
  split <;> omega
theorem gsr_dr (a b : Int) : gsr a b ∣ b := by
  unfold gsr
  split
  · rw [Int.zero_sub, Int.neg_dvd]; exact Int.gcd_dvd_right ..
  · exact Int.gcd_dvd_right ..
theorem gsr_dl (a b : Int) : gsr a b ∣ a := by
  unfold gsr
  split
  · rw [Int.zero_sub, Int.neg_dvd]; exact Int.gcd_dvd_left ..
  · exact Int.gcd_dvd_left ..
theorem gsr_sz {a b : Int} {n : Nat} (h : b ≠ 0) (hb : Sz n b) : Sz n (gsr a b) := hb.of_le (by
  have := Int.natAbs_dvd_natAbs.mpr (gsr_dr a b)
  exact Nat.le_of_dvd (by omega) this)
theorem fdiv_exact {a g : Int} (hg : g ≠ 0) (h : g ∣ a) : a.fdiv g = a / g := by
  obtain ⟨c, rfl⟩ := h
  rw [Int.mul_fdiv_cancel_left _ hg, Int.mul_ediv_cancel_left _ hg]
theorem gsr_num {a b : Int} (h : b ≠ 0) : a.fdiv (gsr a b) = ((a : Rat) / (b : Rat)).num := by
  rw [← Rat.divInt_eq_div, Rat.num_divInt, fdiv_exact (gsr_ne h) (gsr_dl a b), Int.gcd_comm b a]
  unfold gsr
  by_cases hl : b < 0
  · rw [if_pos hl, Int.sign_eq_neg_one_of_neg hl, Int.zero_sub, Int.ediv_neg, Int.neg_mul, Int.one_mul]
    obtain ⟨c, hc⟩ : (Int.gcd a b : Int) ∣ a := Int.gcd_dvd_left ..
    have e : (Int.gcd a b : Int) ≠ 0 := fun z => h (Int.gcd_eq_zero_iff.mp (show Int.gcd a b = 0 by omega)).2
    generalize (Int.gcd a b : Int) = g at hc e
    subst hc
    rw [Int.mul_ediv_cancel_left _ e, show -(g * c) = g * (-c) by rw [Int.mul_neg], Int.mul_ediv_cancel_left _ e]
  · rw [if_neg hl, Int.sign_eq_one_of_pos (by omega), Int.one_mul]
theorem gsr_den {a b : Int} (h : b ≠ 0) : b.fdiv (gsr a b) = (((a : Rat) / (b : Rat)).den : Int) := by
  rw [← Rat.divInt_eq_div, Rat.den_divInt, if_neg h, fdiv_exact (gsr_ne h) (gsr_dr a b), Int.gcd_comm b a]
  unfold gsr
  obtain ⟨c, hc⟩ : (Int.gcd a b : Int) ∣ b := Int.gcd_dvd_right ..
  have e : (Int.gcd a b : Int) ≠ 0 := fun z => h (Int.gcd_eq_zero_iff.mp (show Int.gcd a b = 0 by omega)).2
  by_cases hl : b < 0
  · rw [if_pos hl, Int.natCast_ediv, Int.ofNat_natAbs_of_nonpos (by omega), Int.zero_sub]
    generalize (Int.gcd a b : Int) = g at hc e
    subst hc
    rw [Int.ediv_neg, Int.mul_ediv_cancel_left _ e, show -(g * c) = g * (-c) by rw [Int.mul_neg], Int.mul_ediv_cancel_left _ e]
  · rw [if_neg hl, Int.natCast_ediv, Int.natAbs_of_nonneg (by omega)]
theorem fr_div {a b : Int} (h : b ≠ 0) : D.tup [.int (a.fdiv (gsr a b)), .int (b.fdiv (gsr a b))] = fr ((a : Rat) / b) := by
  rw [gsr_num h, gsr_den h]; rfl
/-! ### sizes -/
structure Fs (n : Nat) (x : Rat) : Prop where
  num : Sz n x.num
  den : Sz n (x.den : Int)
theorem Fs.le {n m : Nat} {x : Rat} (h : Fs n x) (hl : n ≤ m) : Fs m x := ⟨h.num.le hl, h.den.le hl⟩
theorem den_ne (x : Rat) : (x.den : Int) ≠ 0 := by have := x.den_nz; omega
theorem den_pos (x : Rat) : (0 : Int) < (x.den : Int) := by have := x.den_nz; omega
theorem denq (x : Rat) : (x.den : Rat) ≠ 0 := fun z => x.den_nz (Rat.natCast_eq_zero_iff.mp z)
theorem num_eq (x : Rat) : (x.num : Rat) = x * (x.den : Rat) := by
  have e : x = (x.num : Rat) / (x.den : Rat) := by
    have := Rat.num_divInt_den x
    rw [Rat.divInt_eq_div] at this
    exact this.symm
  calc (x.num : Rat) = ((x.num : Rat) / (x.den : Rat)) * (x.den : Rat) := (Rat.div_mul_cancel (denq x)).symm
    _ = x * (x.den : Rat) := by rw [← e]
theorem plus_rat (x y : Rat) : ((x.num * y.den + y.num * x.den : Int) : Rat) / ((x.den * y.den : Int) : Rat) = x + y := by
  have h1 := denq x
  have h2 := denq y
  simp only [Rat.intCast_add, Rat.intCast_mul, num_eq, Rat.intCast_natCast]
  generalize (x.den : Rat) = d at *
  generalize (y.den : Rat) = e at *
  grind
theorem minus_rat (x y : Rat) : ((x.num * y.den - y.num * x.den : Int) : Rat) / ((x.den * y.den : Int) : Rat) = x - y := by
  have h1 := denq x
  have h2 := denq y
  simp only [Rat.intCast_sub, Rat.intCast_mul, num_eq, Rat.intCast_natCast]
  generalize (x.den : Rat) = d at *
  generalize (y.den : Rat) = e at *
  grind
theorem times_rat (x y : Rat) : ((x.num * y.num : Int) : Rat) / ((x.den * y.den : Int) : Rat) = x * y := by
  have h1 := denq x
  have h2 := denq y
  simp only [Rat.intCast_mul, num_eq, Rat.intCast_natCast]
  generalize (x.den : Rat) = d at *
  generalize (y.den : Rat) = e at *
  grind
theorem over_rat (x y : Rat) (hy : y ≠ 0) : ((x.num * y.den : Int) : Rat) / ((x.den * y.num : Int) : Rat) = x / y := by
  have h1 := denq x
  have h2 := denq y
  simp only [Rat.intCast_mul, num_eq, Rat.intCast_natCast]
  generalize (x.den : Rat) = d at *
  generalize (y.den : Rat) = e at *
  grind
theorem plus_rat' (x y : Rat) : ((x.num : Rat) * ((y.den : Int) : Rat) + (y.num : Rat) * ((x.den : Int) : Rat)) / (((x.den : Int) : Rat) * ((y.den : Int) : Rat)) = x + y := by
  have := plus_rat x y
  simpa using this
theorem minus_rat' (x y : Rat) : ((x.num : Rat) * ((y.den : Int) : Rat) - (y.num : Rat) * ((x.den : Int) : Rat)) / (((x.den : Int) : Rat) * ((y.den : Int) : Rat)) = x - y := by
  have := minus_rat x y
  simpa using this
theorem times_rat' (x y : Rat) : ((x.num : Rat) * (y.num : Rat)) / (((x.den : Int) : Rat) * ((y.den : Int) : Rat)) = x * y := by
  have := times_rat x y
  simpa using this
theorem over_rat' (x y : Rat) (hy : y ≠ 0) : ((x.num : Rat) * ((y.den : Int) : Rat)) / (((x.den : Int) : Rat) * (y.num : Rat)) = x / y := by
  have := over_rat x y hy
  simpa using this
theorem num_ne {x : Rat} (h : x ≠ 0) : x.num ≠ 0 := fun z => h (Rat.num_eq_zero.mp z)
theorem fr_inj {x y : Rat} (h : fr x = fr y) : x = y := by
  unfold fr at h
  injection h with h
  injection h with h1 h2
  injection h2 with h2 _
  injection h1 with h1
  injection h2 with h2
  exact Rat.ext h1 (by omega)
theorem fr_toP (x : Rat) (S : Store) (n : Nat) : toP S (n + 1) (fr x) = some (.tuple [.int x.num, .int x.den]) := by
  cases n <;> simp [fr, toP, toPs]
theorem fr_eqv (x y : Rat) : PyData.eqv (.tuple [.int x.num, .int x.den]) (.tuple [.int y.num, .int y.den]) = decide (x = y) := by
  simp only [PyData.eqv, PyData.eqvAll]
  by_cases h : x = y
  · subst h; simp
  · rw [decide_eq_false h]
    by_cases h1 : x.num = y.num
    · have h2 : ¬ x.den = y.den := fun z => h (Rat.ext h1 z)
      simp [h1]; omega
    · simp [h1]
@[simp] theorem dEq_fr (x y : Rat) (S : Store) : dEq (fr x) (fr y) S = .ok (.bl (decide (x = y))) S := by
  rw [dEq_of (fr_toP x S 59) (fr_toP y S 59), fr_eqv]
@[simp] theorem dNe_fr (x y : Rat) (S : Store) : dNe (fr x) (fr y) S = .ok (.bl (!decide (x = y))) S := by
  rw [dNe_of (fr_toP x S 59) (fr_toP y S 59), fr_eqv]
@[simp] theorem dIx_fr0 (x : Rat) (S : Store) : dIx (fr x) (.int 0) S = .ok (.int x.num) S := by
  unfold fr; rw [dIx_tup, atI_zero]
@[simp] theorem dIx_fr1 (x : Rat) (S : Store) : dIx (fr x) (.int 1) S = .ok (.int x.den) S := by
  unfold fr; rw [dIx_tup, atI_one]
@[simp] theorem fr_zero : D.tup [.int 0, .int 1] = fr 0 := rfl
@[simp] theorem fr_one : D.tup [.int 1, .int 1] = fr 1 := rfl
theorem fr_int (k : Int) : D.tup [.int k, .int 1] = fr (k : Rat) := rfl
theorem fr_under {n : Nat} (x : Rat) : (fr x).under n = true := rfl

@[simp] theorem atI_three {α : Type} {a b c d : α} {l : List α} : L2.atI (a :: b :: c :: d :: l) 3 = some d := by
  have : (3 : Int) = ((3 : Nat) : Int) := rfl
  rw [this]
  exact atI_nat rfl
@[simp] theorem atI_four {α : Type} {a b c d e : α} {l : List α} : L2.atI (a :: b :: c :: d :: e :: l) 4 = some e := by
  have : (4 : Int) = ((4 : Nat) : Int) := rfl
  rw [this]
  exact atI_nat rfl
mutual
theorem under_mono {n m : Nat} (h : n ≤ m) : ∀ d : D, d.under n = true → d.under m = true
  | .cell k, u => by
    unfold D.under at *
    exact decide_eq_true (Nat.lt_of_lt_of_le (of_decide_eq_true u) h)
  | .tup l, u => by unfold D.under at *; exact underL_mono h l u
  | .lst l, u => by unfold D.under at *; exact underL_mono h l u
  | .scr l, u => by unfold D.under at *; exact underL_mono h l u
  | .non, _ => rfl
  | .bl _, _ => rfl
  | .int _, _ => rfl
  | .str _, _ => rfl
  | .raw _, _ => rfl
  | .cls _, _ => rfl
  | .exn _ _, _ => rfl
theorem underL_mono {n m : Nat} (h : n ≤ m) : ∀ l : List D, D.underL n l = true → D.underL m l = true
  | [], _ => rfl
  | d :: l, u => by
    unfold D.underL at *
    rw [Bool.and_eq_true] at *
    exact ⟨under_mono h d u.1, underL_mono h l u.2⟩
end
theorem cn_under_mono {n m : Nat} (h : n ≤ m) {c : Cn} (u : c.under n = true) : c.under m = true := by
  cases c with
  | dead => rfl
  | lst l => exact underL_mono h l u
  | dct kvs =>
    unfold Cn.under at *
    rw [List.all_eq_true] at *
    exact fun p hp => under_mono h _ (u p hp)
/-! ### over a common lower part -/
/-- a whole number over N, of a size of B at most -/
structure On (N B : Nat) (x : Rat) : Prop where
  pos : 0 < N
  ex : ∃ a : Int, x * (N : Rat) = (a : Rat) ∧ a.natAbs ≤ B * N
theorem natq {N : Nat} (h : 0 < N) : (N : Rat) ≠ 0 := fun z => by
  have := Rat.natCast_eq_zero_iff.mp z
  omega
theorem On.den {N B : Nat} {x : Rat} (h : On N B x) : x.den ∣ N := by
  obtain ⟨h0, a, e, _⟩ := h
  have ex : x = Rat.divInt a N := by
    rw [Rat.divInt_eq_div, Rat.intCast_natCast, ← e, Rat.mul_div_cancel (natq h0)]
  rw [ex, Rat.den_divInt, if_neg (by omega)]
  exact ⟨Int.gcd N a, by
    have : Int.gcd N a ∣ N := by simpa using Int.natAbs_dvd_natAbs.mpr (Int.gcd_dvd_left (a := (N : Int)) (b := a))
    simpa using (Nat.div_mul_cancel this).symm⟩
theorem On.num {N B : Nat} {x : Rat} (h : On N B x) : x.num.natAbs ≤ B * N := by
  have hd := h.den
  obtain ⟨h0, a, e, hb⟩ := h
  obtain ⟨c, rfl⟩ := hd
  have hc : 0 < c := Nat.pos_of_ne_zero fun z => by subst z; simp at h0
  have h1 : (x.num : Rat) * (c : Rat) = (a : Rat) := by
    rw [num_eq, ← e, Rat.natCast_mul]
    grind
  have h2 : x.num * (c : Int) = a := by
    have : ((x.num * (c : Int) : Int) : Rat) = (a : Rat) := by rw [Rat.intCast_mul, Rat.intCast_natCast]; exact h1
    exact Rat.intCast_inj.mp this
  have h3 : x.num.natAbs * c = a.natAbs := by rw [← h2, Int.natAbs_mul]; simp
  calc x.num.natAbs ≤ x.num.natAbs * c := Nat.le_mul_of_pos_right _ hc
    _ = a.natAbs := h3
    _ ≤ _ := hb
theorem On.fs {N B n : Nat} {x : Rat} (h : On N B x) (h1 : N < 2 ^ n) (h2 : B * N < 2 ^ n) : Fs n x :=
  ⟨Nat.lt_of_le_of_lt h.num h2, by
    show ((x.den : Int)).natAbs < 2 ^ n
    have := Nat.le_of_dvd h.pos h.den
    simp
    omega⟩
theorem On.add {N B C : Nat} {x y : Rat} (h : On N B x) (g : On N C y) : On N (B + C) (x + y) := by
  obtain ⟨h0, a, e, hb⟩ := h
  obtain ⟨_, b, f, hc⟩ := g
  refine ⟨h0, a + b, ?_, ?_⟩
  · rw [Rat.intCast_add, ← e, ← f]; grind
  · rw [Nat.add_mul]
    have := Int.natAbs_add_le a b
    omega
theorem On.sub {N B C : Nat} {x y : Rat} (h : On N B x) (g : On N C y) : On N (B + C) (x - y) := by
  obtain ⟨h0, a, e, hb⟩ := h
  obtain ⟨_, b, f, hc⟩ := g
  refine ⟨h0, a - b, ?_, ?_⟩
  · rw [Rat.intCast_sub, ← e, ← f]; grind
  · rw [Nat.add_mul]
    have := Int.natAbs_sub_le a b
    omega
theorem On.mul {N M B C : Nat} {x y : Rat} (h : On N B x) (g : On M C y) : On (N * M) (B * C) (x * y) := by
  obtain ⟨h0, a, e, hb⟩ := h
  obtain ⟨g0, b, f, hc⟩ := g
  refine ⟨Nat.mul_pos h0 g0, a * b, ?_, ?_⟩
  · rw [Rat.intCast_mul, ← e, ← f, Rat.natCast_mul]; grind
  · rw [Int.natAbs_mul]
    calc a.natAbs * b.natAbs ≤ (B * N) * (C * M) := Nat.mul_le_mul hb hc
      _ = _ := by grind
theorem On.int (k : Int) : On 1 k.natAbs (k : Rat) := ⟨by decide, k, by simp, by simp⟩
theorem On.up {N M B : Nat} {x : Rat} (h : On N B x) (hd : N ∣ M) (h0 : 0 < M) : On M B x := by
  obtain ⟨_, a, e, hb⟩ := h
  obtain ⟨c, rfl⟩ := hd
  refine ⟨h0, a * c, ?_, ?_⟩
  · rw [Rat.intCast_mul, ← e, Rat.natCast_mul, Rat.intCast_natCast]; grind
  · rw [Int.natAbs_mul]
    calc a.natAbs * (c : Int).natAbs ≤ (B * N) * c := Nat.mul_le_mul hb (by simp)
      _ = _ := by grind
theorem On.mono {N B C : Nat} {x : Rat} (h : On N B x) (hl : B ≤ C) : On N C x := ⟨h.pos, by
  obtain ⟨a, e, hb⟩ := h.ex
  exact ⟨a, e, Nat.le_trans hb (Nat.mul_le_mul_right _ hl)⟩⟩
theorem On.bd {N B C : Nat} {x : Rat} (h : On N B x) (h1 : -(C : Rat) ≤ x) (h2 : x ≤ (C : Rat)) : On N C x := ⟨h.pos, by
  obtain ⟨a, e, hb⟩ := h.ex
  refine ⟨a, e, ?_⟩
  have hN : (0 : Rat) < (N : Rat) := Rat.natCast_pos.mpr h.pos
  have k1 : ((a : Int) : Rat) ≤ (((C * N : Nat) : Int) : Rat) := by
    rw [← e, Rat.intCast_natCast, Rat.natCast_mul]
    exact Rat.mul_le_mul_of_nonneg_right h2 (Rat.le_of_lt hN)
  have k2 : ((-(C * N : Nat) : Int) : Rat) ≤ ((a : Int) : Rat) := by
    rw [← e, Rat.intCast_neg, Rat.intCast_natCast, Rat.natCast_mul]
    have := Rat.mul_le_mul_of_nonneg_right h1 (Rat.le_of_lt hN)
    rw [Rat.neg_mul] at this
    exact this
  rw [Rat.intCast_le_intCast] at k1 k2
  omega⟩
theorem On.div {a b : Int} {N B : Nat} (hN : 0 < N) (hb : b = (N : Int)) (h : a.natAbs ≤ B * N) : On N B ((a : Rat) / (b : Rat)) := ⟨hN, a, by
  subst hb
  rw [Rat.intCast_natCast, Rat.div_mul_cancel (natq hN)], h⟩
theorem On.one {N : Nat} (h : 0 < N) : On N 1 1 := ⟨h, N, by rw [Rat.intCast_natCast]; grind, by simp⟩
theorem On.zero {N : Nat} (h : 0 < N) : On N 0 0 := ⟨h, 0, by simp, by simp⟩
theorem On.times {N B : Nat} {x : Rat} (h : On N B x) (c : Int) : On N (c.natAbs * B) ((c : Rat) * x) := by
  have := (On.int c).mul h
  rwa [Nat.one_mul] at this
theorem int_fs {k : Int} {n : Nat} (h : k.natAbs < 2 ^ n) (h0 : 0 < n) : Fs n (k : Rat) := ⟨h, by
  show ((k : Rat).den : Int).natAbs < 2 ^ n
  simp; omega⟩
end Dv
/-! # Dv16: xs[::-1]; is True -/
namespace Dv
open PySem PySem.Spec PyProof.Rows L2
def xRevL (mk : List D → M D) (f : Env → M D) : Env → M D := fun e S => (f e S).bind fun d S1 => match getQ d S1 with
  | some l => mk l.reverse S1
  | none => .bad
theorem pd_revL {X : Cx} {W : WX} {e : Expr} {f : Env → M D} {mk : List D → M D} {k : Nat} {p1 p2 p3 pos : Pos} (m : Mk mk) (he : PD X W e f) : PD X W (.Subscript e (.Slice none none (some (.UnaryOp .USub (.Constant (.int 1) k p1) p2)) p3) pos) (xRevL mk f) := by
  refine weakE (pe_revL he) fun σ H Q ⟨w, env, eH, hw, he, hs⟩ => ?_
  subst eH
  refine ⟨w, env, rfl, hw, he, SatW.imp (SatW.bind hs) fun w1 d v g1 r1 s1 => ?_⟩
  cases q : getQ d w1.S with
  | none => simp only [q] at s1; exact s1.elim
  | some l =>
    simp only [q] at s1
    obtain ⟨a, vs, rfl, hq, t⟩ := getQ_ok g1.wd r1 q
    exact ⟨a, vs, rfl, hq, m.go g1.wd t.reverse s1⟩
@[simp] theorem xRevL_app {oo : Option D} {ll : Env} {S : Store} {mk : List D → M D} {f : Env → M D} : xRevL mk f (oo :: ll) S = (f (oo :: ll) S).bind fun d S1 => match getQ d S1 with | some l => mk l.reverse S1 | none => .bad := rfl
def dIsB (a b : D) (S : Store) : Res D := match a, b with
  | .bl x, .bl y => .ok (.bl (decide (x = y))) S
  | _, _ => .bad
def dIsNotB (a b : D) (S : Store) : Res D := match a, b with
  | .bl x, .bl y => .ok (.bl (!decide (x = y))) S
  | _, _ => .bad
theorem od_isB {X : Cx} : OpD X (compareOp .Is) dIsB := ⟨_, op_isBl, fun w x y d e W σ Q hw r1 r2 hs => by
  unfold dIsB at hs
  split at hs
  · rename_i a b
    exact ⟨a, b, rp_bl r1, rp_bl r2, SatW.here hs hw rpb⟩
  · exact hs.elim⟩
theorem od_isNotB {X : Cx} : OpD X (compareOp .IsNot) dIsNotB := ⟨_, op_notBl, fun w x y d e W σ Q hw r1 r2 hs => by
  unfold dIsNotB at hs
  split at hs
  · rename_i a b
    exact ⟨a, b, rp_bl r1, rp_bl r2, SatW.here hs hw rpb⟩
  · exact hs.elim⟩
@[simp] theorem dIsB_bl {a b : Bool} {S : Store} : dIsB (.bl a) (.bl b) S = .ok (.bl (decide (a = b))) S := rfl
@[simp] theorem dIsNotB_bl {a b : Bool} {S : Store} : dIsNotB (.bl a) (.bl b) S = .ok (.bl (!decide (a = b))) S := rfl
end Dv
/-! # Dv17: loops over a list that may change; a list, frozen or not -/
namespace Dv
open PySem PySem.Spec PyProof.Rows L2
theorem en0_forC {chk : Store → Prop} {g : D → Env → Store → Out} {b : Env → Store → Out} {items : List D} {e : Env} {S : Store} {Q : Pst} (I : Nat → Env → Store → Prop) (h0 : I 0 e S) (hc : ∀ i e S, I i e S → chk S)
    (hs : ∀ (i : Nat) d e S, items[i]? = some d → I i e S → EnO0 (g d e S) { nx := fun e1 S1 => EnO0 (b e1 S1) { nx := I (i + 1), ct := I (i + 1), bk := Q.nx, rt := Q.rt } })
    (hd : ∀ e S, I items.length e S → Q.nx e S) : EnO0 (forL chk g b items e S) Q := by
  have go : ∀ (l : List D) (i : Nat) (e : Env) (S : Store), items.drop i = l → i ≤ items.length → I i e S → EnO0 (forL chk g b l e S) Q := by
    intro l
    induction l with
    | nil =>
      intro i e S hl hi h
      rw [forL, if_pos (hc i e S h)]
      have e1 := drop_nil hl hi
      subst e1
      exact hd e S h
    | cons d l ih =>
      intro i e S hl hi h
      obtain ⟨h1, h2⟩ := drop_get hl
      have st := hs i d e S h1 h
      have hlt : i < items.length := (List.getElem?_eq_some_iff.mp h1).1
      rw [forL, if_pos (hc i e S h)]
      cases o : g d e S with
      | nx e1 S1 =>
        rw [o] at st
        have st' : EnO0 (b e1 S1) { nx := I (i + 1), ct := I (i + 1), bk := Q.nx, rt := Q.rt } := st
        show EnO0 (match b e1 S1 with
          | .nx e' S' => forL chk g b l e' S'
          | .ct e' S' => forL chk g b l e' S'
          | .bk e' S' => .nx e' S'
          | o => o) Q
        cases ob : b e1 S1 with
        | nx e2 S2 => rw [ob] at st'; exact ih (i + 1) e2 S2 h2 hlt st'
        | ct e2 S2 => rw [ob] at st'; exact ih (i + 1) e2 S2 h2 hlt st'
        | bk e2 S2 => rw [ob] at st'; exact st'
        | rt d2 S2 => rw [ob] at st'; exact st'
        | exc x e2 S2 => rw [ob] at st'; exact st'.elim
        | bad => rw [ob] at st'; exact st'.elim
      | rt _ _ => rw [o] at st; exact st.elim
      | bk _ _ => rw [o] at st; exact st.elim
      | ct _ _ => rw [o] at st; exact st.elim
      | exc _ _ _ => rw [o] at st; exact st.elim
      | bad => rw [o] at st; exact st.elim
  exact go items 0 e S rfl (Nat.zero_le _) h0
theorem ens_frC {chk : Store → Prop} {g : D → Env → Store → Out} {b : Env → Store → Out} {items : List D} {e : Env} {S : Store} {Q : Pst} (I : Nat → Env → Store → Prop) (h0 : I 0 e S) (hc : ∀ i e S, I i e S → chk S)
    (hs : ∀ (i : Nat) d e S (R' : Env → Store → Prop), items[i]? = some d → I i e S → (∀ e S, I (i + 1) e S → R' e S) → EnsO (g d e S) { nx := fun e1 S1 => EnsO (b e1 S1) { nx := R', ct := R', bk := Q.nx, rt := Q.rt } })
    (hd : ∀ e S, I items.length e S → Q.nx e S) : EnsO (forL chk g b items e S) Q :=
  ⟨en0_forC I h0 hc (fun i d e S h1 h2 => (hs i d e S _ h1 h2 fun _ _ h => h).go.imp (fun _ _ h => h.go) (fun _ _ h => h.elim) (fun _ _ h => h.elim) (fun _ _ h => h.elim)) hd⟩
/-- S' is S and more behind it -/
def Ext (S S' : Store) : Prop := ∃ R, S' = S ++ R
theorem Ext.refl (S : Store) : Ext S S := ⟨[], by simp⟩
theorem Ext.app (S R : Store) : Ext S (S ++ R) := ⟨R, rfl⟩
theorem Ext.get {S S' : Store} (h : Ext S S') {n : Nat} {c : Cn} (e : S[n]? = some c) : S'[n]? = some c := by
  obtain ⟨R, rfl⟩ := h
  have := (List.getElem?_eq_some_iff.mp e).1
  rw [List.getElem?_append_left this]
  exact e
/-- a list that may be read: frozen, or a cell -/
structure LstAt (S : Store) (p : D) (l : List D) : Prop where
  src : ∀ S', Ext S S' → ∃ chk : Store → Prop, srcL p S' = .ok ⟨l, chk⟩ S' ∧ ∀ S2, Ext S S2 → chk S2
  zip : ∀ S' m, Ext S S' → ∃ chk : Store → Prop, srcZip [p, .lst m] S' = .ok ⟨(l.zip m).map fun z => .tup [z.1, z.2], chk⟩ S' ∧ ∀ S2, Ext S S2 → chk S2
  get : ∀ S', Ext S S' → getQ p S' = some l
  ix : ∀ S' k, Ext S S' → dIx p k S' = dIx (.lst l) k S'
  len : ∀ S', Ext S S' → bLen [p] S' = .ok (.int l.length) S'
theorem lst_lst (S : Store) (l : List D) : LstAt S (.lst l) l := ⟨fun _ _ => ⟨_, rfl, fun _ _ => trivial⟩, fun _ m _ => ⟨fun _ => True, by rw [srcZip_lst], fun _ _ => trivial⟩, fun _ _ => rfl, fun _ _ _ => rfl, fun _ _ => by simp⟩
theorem lst_cell {S : Store} {n : Nat} {l : List D} (h : S[n]? = some (.lst l)) : LstAt S (.cell n) l := by
  refine ⟨fun S' x => ⟨_, srcL_cell (x.get h), fun S2 y => y.get h⟩, fun S' m x => ⟨fun S2 => S2[n]? = some (.lst l) ∧ True, ?_, fun S2 y => ⟨y.get h, trivial⟩⟩, fun S' x => ?_, fun S' k x => ?_, fun S' x => ?_⟩
  · have := x.get h
    simp [srcZip, stL, this]
  · have := x.get h
    simp only [getQ, getL, this]
  · have := x.get h
    cases k <;> simp only [dIx, getQ, getL, this]
  · have := x.get h
    simp [bLen, getQ, getL, this]
end Dv
/-! # Dv18: dicts in cells; sorted; list.pop -/
namespace Dv
open PySem PySem.Spec PyProof.Rows L2
theorem units1 {k : Nat} {A : Around} (r : Room k A) : A.units + 1 < cLine := by have := r.un; omega
/-! ### keys and tables -/
def keyD : D → Option Key
  | .int i => some (.inl i)
  | .str x => some (.inr x)
  | _ => none
theorem keyD_v {K : PySem.W.Frag} {r : List Addr} {F : Hp} {d : D} {v : V} {k : Key} (h : Rp K r F d v) (e : keyD d = some k) : v = kV k := by
  cases d with
  | int i => cases e; rw [rp_int h]; rfl
  | str x => cases e; rw [rp_str h]; rfl
  | _ => cases e
def cellK (d : D) (S : Store) : Option (Nat × List (Key × D)) := match d with
  | .cell n => match S[n]? with
    | some (.dct l) => some (n, l)
    | _ => none
  | _ => none
theorem cellK_eq {d : D} {S : Store} {n : Nat} {l : List (Key × D)} (h : cellK d S = some (n, l)) : d = .cell n ∧ S[n]? = some (.dct l) := by
  unfold cellK at h
  split at h
  · split at h
    · rename_i k l' e
      cases h
      exact ⟨rfl, e⟩
    · cases h
  · cases h
def valD (kvs : List (Key × D)) (k : Key) : Option D := (kvs.find? fun kv => decide (kv.1 = k)).map (·.2)
def putD (kvs : List (Key × D)) (k : Key) (d : D) : List (Key × D) :=
  if (kvs.any fun kv => decide (kv.1 = k)) = true then kvs.map (fun kv => if kv.1 = k then (kv.1, d) else kv) else kvs ++ [(k, d)]
section
variable {K : PySem.W.Frag} {r : List Addr} {F : Hp} {kvs : List (Key × D)} {ws : List (Key × V)}
theorem RpK.some (h : RpK K r F kvs ws) {k : Key} {d : D} (e : valD kvs k = some d) : ∃ v, valV ws k = some v ∧ Rp K r F d v := by
  unfold RpK at h
  induction h with
  | nil => cases e
  | @cons p q ps qs z t ih =>
    obtain ⟨h1, h2⟩ := z
    by_cases c : p.1 = k
    · have b : valD (p :: ps) k = Option.some p.2 := by simp [valD, List.find?_cons, c]
      rw [b] at e
      cases e
      exact ⟨q.2, valV_pos (h1.symm.trans c), h2⟩
    · have b : valD (p :: ps) k = valD ps k := by simp [valD, List.find?_cons, c]
      rw [b] at e
      obtain ⟨v, e2, q2⟩ := ih e
      exact ⟨v, by rw [valV_neg (fun z => c (h1.trans z))]; exact e2, q2⟩
theorem RpK.none (h : RpK K r F kvs ws) {k : Key} (e : valD kvs k = Option.none) : valV ws k = Option.none := by
  unfold RpK at h
  induction h with
  | nil => rfl
  | @cons p q ps qs z t ih =>
    obtain ⟨h1, h2⟩ := z
    by_cases c : p.1 = k
    · have b : valD (p :: ps) k = Option.some p.2 := by simp [valD, List.find?_cons, c]
      rw [b] at e
      cases e
    · have b : valD (p :: ps) k = valD ps k := by simp [valD, List.find?_cons, c]
      rw [b] at e
      rw [valV_neg (fun z => c (h1.trans z))]
      exact ih e
theorem RpK.any (h : RpK K r F kvs ws) (k : Key) : (kvs.any fun kv => decide (kv.1 = k)) = ws.any fun kv => decide (kv.1 = k) := by
  unfold RpK at h
  induction h with
  | nil => rfl
  | cons h t ih => rw [List.any_cons, List.any_cons, ih, h.1]
theorem RpK.repl (h : RpK K r F kvs ws) (k : Key) {d : D} {v : V} (rv : Rp K r F d v) : RpK K r F (kvs.map fun kv => if kv.1 = k then (kv.1, d) else kv) (ws.map fun kv => if kv.1 = k then (kv.1, v) else kv) := by
  unfold RpK at h ⊢
  induction h with
  | nil => exact .nil
  | @cons p q ps qs h t ih =>
    rw [List.map_cons, List.map_cons]
    refine .cons ?_ ih
    obtain ⟨h1, h2⟩ := h
    by_cases e : p.1 = k
    · rw [if_pos e, if_pos (h1.symm.trans e)]; exact ⟨h1, rv⟩
    · rw [if_neg e, if_neg (fun z => e (h1.trans z))]; exact ⟨h1, h2⟩
theorem RpK.put (h : RpK K r F kvs ws) (k : Key) {d : D} {v : V} (rv : Rp K r F d v) : RpK K r F (putD kvs k d) (putK ws k v) := by
  unfold putD putK
  rw [h.any k]
  by_cases e : (ws.any fun kv => decide (kv.1 = k)) = true
  · rw [if_pos e, if_pos e]; exact h.repl k rv
  · rw [if_neg e, if_neg e]; exact Paired.snoc h ⟨rfl, rv⟩
theorem RpK.keys (h : RpK K r F kvs ws) : ws.map (·.1) = kvs.map (·.1) := by
  unfold RpK at h
  induction h with
  | nil => rfl
  | cons h t ih => rw [List.map_cons, List.map_cons, ih, h.1]
theorem RpK.length (h : RpK K r F kvs ws) : ws.length = kvs.length := by
  have := congrArg List.length h.keys
  simpa using this
end
/-- a dict's cell is read, written -/
theorem cellK_read {T : Kt} {w : Wl} {n : Nat} {l : List (Key × D)} {v : V} (hw : Wd T.K w) (r : Rp T.K w.r w.F (.cell n) v) (e : w.S[n]? = some (.dct l)) : ∃ a ws, v = .ref a ∧ w.H a = some (.dK ws) ∧ RpK T.K w.r w.F l ws := by
  unfold Rp at r
  obtain ⟨a, e1, rfl⟩ := r
  obtain ⟨hf, ws, e2, p⟩ := hw.cell n a _ e1 e
  exact ⟨a, ws, rfl, e2, p⟩
theorem cellK_write {T : Kt} {w : Wl} {n : Nat} {l l' : List (Key × D)} {v : V} (hw : Wd T.K w) (r : Rp T.K w.r w.F (.cell n) v) (e : w.S[n]? = some (.dct l)) : ∃ a ws, v = .ref a ∧ w.H a = some (.dK ws) ∧ RpK T.K w.r w.F l ws ∧
    ∀ ws', RpK T.K w.r w.F l' ws' → Go T.K w ⟨w.r, w.F, w.S.set n (.dct l'), upd w.H a (.dK ws')⟩ := by
  unfold Rp at r
  obtain ⟨a, e1, rfl⟩ := r
  obtain ⟨hf, ws, e2, p⟩ := hw.cell n a _ e1 e
  exact ⟨a, ws, rfl, e2, p, fun ws' h => Go.write (c := .dct l') hw e (by simp) e1 (by exact ⟨hf, ws', upd_same, h⟩)⟩
/-! ### {} -/
def xDct0 : Env → M D := fun _ S => .ok (.cell S.length) (S ++ [.dct []])
def dKx (x k : D) (S : Store) : Res D := match cellK x S, keyD k with
  | some (_, l), some kk => match valD l kk with
    | some d => .ok d S
    | none => .bad
  | _, _ => .bad
/-- o[i] of a dict -/
def setK (x i v : D) (S : Store) : Res Unit := match cellK x S, keyD i with
  | some (n, l), some kk => if l.length < 16000000 then .ok () (S.set n (.dct (putD l kk v))) else .bad
  | _, _ => .bad
/-- d.get(k, x) -/
def dGet (x k z : D) (S : Store) : Res D := match cellK x S, keyD k with
  | some (_, l), some kk => .ok ((valD l kk).getD z) S
  | _, _ => .bad
def isK (x : D) (S : Store) : Bool := (cellK x S).isSome
def xGet2 (o e f : Env → M D) : Env → M D := fun n S => (o n S).bind fun x S1 => if isK x S1 = true then (e n S1).bind fun k S2 => (f n S2).bind fun z S3 => dGet x k z S3 else .bad
def xGet1 (o e : Env → M D) : Env → M D := fun n S => (o n S).bind fun x S1 => if isK x S1 = true then (e n S1).bind fun k S2 => dGet x k .non S2 else .bad
def dInK (neg : Bool) (x y : D) (S : Store) : Res D := match cellK y S, keyD x with
  | some (_, l), some kk => .ok (.bl (xor neg (valD l kk).isSome)) S
  | _, _ => .bad
section
variable {X : Cx} {W : WX} {o i e f : Expr} {fo fi fe ff : Env → M D} {pos apos cpos : Pos}
theorem pd_dct0 : PD X W (.Dict [] [] pos) xDct0 := by
  refine weakE pe_dnewK fun σ H Q ⟨w, env, eH, hw, he, hs⟩ p hp => ?_
  subst eH
  refine hs ⟨w.r ++ [p], w.F, w.S ++ [.dct []], upd w.H p (.dK [])⟩ (.ref p) (Go.newCell (c := .dct []) hw hp (by exact ⟨hw.fresh hp, [], upd_same, .nil⟩)) rfl ?_
  unfold RD Rp
  refine ⟨p, ?_, rfl⟩
  show (w.r ++ [p])[w.S.length]? = some p
  rw [← hw.len, List.getElem?_append_right (Nat.le_refl _), Nat.sub_self]
  rfl
theorem pd_dkx (hu : X.A.units + 1 < cLine) (ho : PD X W o fo) (hi : PD X W i fi) (hs : NoSl i := by intro _ _; rfl) : PD X W (.Subscript o i pos) (xOp dKx fo fi) := by
  refine weakE (pe_dget hu ho hi hs) fun σ H Q ⟨w, env, eH, hw, he, hs⟩ => ?_
  subst eH
  refine ⟨w, env, rfl, hw, he, SatW.imp (SatW.bind hs) fun w1 d v g1 r1 s1 => ?_⟩
  refine ⟨w1, env, rfl, g1.wd, he.go g1, SatW.imp (SatW.bind s1) fun w2 d2 v2 g2 r2 s2 => ?_⟩
  have r1' := Rp.go g2 r1
  unfold dKx at s2
  split at s2
  · rename_i n l kk hc hk
    obtain ⟨rfl, en⟩ := cellK_eq hc
    obtain ⟨a, ws, rfl, ha, p⟩ := cellK_read (T := kt X) g2.wd r1' en
    cases q : valD l kk with
    | none => rw [q] at s2; exact s2.elim
    | some d =>
      rw [q] at s2
      obtain ⟨vz, ez, rz⟩ := p.some q
      rw [keyD_v r2 hk]
      exact ⟨a, vz, rfl, by rw [← ez]; exact DGet.k ha, SatW.here (v := vz) s2 g2.wd rz⟩
  · exact s2.elim
theorem sd_dict (hu : X.A.units + 1 < cLine) : SetD X setK := ⟨_, set_dict hu, fun w x i v dx di dv W σ Q hw r1 r2 r3 hs => by
  unfold setK at hs
  split at hs
  · rename_i n l kk hc hk
    obtain ⟨hl, hs⟩ := satIf hs
    obtain ⟨rfl, en⟩ := cellK_eq hc
    obtain ⟨a, ws, rfl, ha, p, go⟩ := cellK_write (T := kt X) (l' := putD l kk dv) hw r1 en
    rw [keyD_v r2 hk]
    exact ⟨a, _, rfl, DPut.k ha (by rw [p.length]; exact Nat.lt_of_lt_of_le hl (line16 (Nat.le_refl _))), hs _ () (go _ (p.put kk r3)) rfl trivial⟩
  · exact hs.elim⟩
theorem isK_isD {w : Wl} {d : D} {v : V} (hw : Wd X.K w) (r : Rp X.K w.r w.F d v) (h : isK d w.S = true) : ∃ a, v = .ref a ∧ IsD w.H a := by
  unfold isK at h
  cases hc : cellK d w.S with
  | none => rw [hc] at h; cases h
  | some p =>
    obtain ⟨n, l⟩ := p
    obtain ⟨rfl, en⟩ := cellK_eq hc
    obtain ⟨a, ws, rfl, ha, p⟩ := cellK_read (T := kt X) hw r en
    exact ⟨a, rfl, .inl ⟨ws, .inl ha⟩⟩
theorem pd_get2 (hu : X.A.units + 1 < cLine) (ho : PD X W o fo) (he : PD X W e fe) (hf : PD X W f ff) (m : M2 X o "get" apos e f cpos := by exact ⟨rfl, rfl, rfl, rfl⟩) : PD X W (.Call (.Attribute o "get" apos) [e, f] [] cpos) (xGet2 fo fe ff) := by
  refine weakE (pe_dget2 hu ho he hf m) fun σ H Q ⟨w, env, eH, hw, he, hs⟩ => ?_
  subst eH
  refine ⟨w, env, rfl, hw, he, SatW.imp (SatW.bind hs) fun w1 d v g1 r1 s1 => ?_⟩
  obtain ⟨hk, s1⟩ := satIf s1
  obtain ⟨a, rfl, hd⟩ := isK_isD g1.wd r1 hk
  refine ⟨a, rfl, hd, w1, env, rfl, g1.wd, he.go g1, SatW.imp (SatW.bind s1) fun w2 d2 v2 g2 r2 s2 => ?_⟩
  refine ⟨w2, env, rfl, g2.wd, (he.go g1).go g2, SatW.imp (SatW.bind s2) fun w3 d3 v3 g3 r3 s3 => ?_⟩
  have r1' := Rp.go (g2.trans g3) r1
  unfold dGet at s3
  split at s3
  · rename_i n l kk hc hk2
    obtain ⟨rfl, en⟩ := cellK_eq hc
    obtain ⟨a', ws, ea, ha, p⟩ := cellK_read (T := kt X) g3.wd r1' en
    cases ea
    rw [keyD_v r2 hk2]
    cases q : valD l kk with
    | none =>
      rw [q] at s3
      exact ⟨_, DGet.k ha, by rw [p.none q]; exact SatW.here (v := v3) s3 g3.wd r3⟩
    | some d =>
      rw [q] at s3
      obtain ⟨vz, ez, rz⟩ := p.some q
      exact ⟨_, DGet.k ha, by rw [ez]; exact SatW.here (v := vz) s3 g3.wd rz⟩
  · exact s3.elim
theorem pd_get1 (hu : X.A.units + 1 < cLine) (ho : PD X W o fo) (he : PD X W e fe) (m : M1 X o "get" apos e cpos := by exact ⟨rfl, rfl, rfl, rfl⟩) : PD X W (.Call (.Attribute o "get" apos) [e] [] cpos) (xGet1 fo fe) := by
  refine weakE (pe_dget1 hu ho he m) fun σ H Q ⟨w, env, eH, hw, he, hs⟩ => ?_
  subst eH
  refine ⟨w, env, rfl, hw, he, SatW.imp (SatW.bind hs) fun w1 d v g1 r1 s1 => ?_⟩
  obtain ⟨hk, s1⟩ := satIf s1
  obtain ⟨a, rfl, hd⟩ := isK_isD g1.wd r1 hk
  refine ⟨a, rfl, hd, w1, env, rfl, g1.wd, he.go g1, SatW.imp (SatW.bind s1) fun w2 d2 v2 g2 r2 s2 => ?_⟩
  have r1' := Rp.go g2 r1
  unfold dGet at s2
  split at s2
  · rename_i n l kk hc hk2
    obtain ⟨rfl, en⟩ := cellK_eq hc
    obtain ⟨a', ws, ea, ha, p⟩ := cellK_read (T := kt X) g2.wd r1' en
    cases ea
    rw [keyD_v r2 hk2]
    cases q : valD l kk with
    | none =>
      rw [q] at s2
      exact ⟨_, DGet.k ha, by rw [p.none q]; exact SatW.here (v := V.non) s2 g2.wd rpn⟩
    | some d =>
      rw [q] at s2
      obtain ⟨vz, ez, rz⟩ := p.some q
      exact ⟨_, DGet.k ha, by rw [ez]; exact SatW.here (v := vz) s2 g2.wd rz⟩
  · exact s2.elim
theorem op_inK (hu : X.A.units + 1 < cLine) : OpR X (compareOp .In) (fun y x H Q => ∃ a o, x = .ref a ∧ DGet H a y o ∧ Q (.bl o.isSome) H) := by
  intro pins s σ H y x v u Q I ry rx h
  obtain ⟨a, o, rfl, g, q⟩ := h
  cases rx
  exact d_in hu I g ry fun s' I' => ⟨V.bl o.isSome, H, I', rfl, q⟩
theorem op_notInK (hu : X.A.units + 1 < cLine) : OpR X (compareOp .NotIn) (fun y x H Q => ∃ a o, x = .ref a ∧ DGet H a y o ∧ Q (.bl (!o.isSome)) H) := by
  intro pins s σ H y x v u Q I ry rx h
  obtain ⟨a, o, rfl, g, q⟩ := h
  cases rx
  exact d_notIn hu I g ry fun s' I' => ⟨V.bl (!o.isSome), H, I', rfl, q⟩
theorem od_inK (hu : X.A.units + 1 < cLine) : OpD X (compareOp .In) (dInK false) := ⟨_, op_inK hu, fun w x y d e W σ Q hw r1 r2 hs => by
  unfold dInK at hs
  split at hs
  · rename_i n l kk hc hk
    obtain ⟨rfl, en⟩ := cellK_eq hc
    obtain ⟨a, ws, rfl, ha, p⟩ := cellK_read (T := kt X) hw r2 en
    refine ⟨a, _, rfl, by rw [keyD_v r1 hk]; exact DGet.k ha, ?_⟩
    have e : (valV ws kk).isSome = (valD l kk).isSome := by
      cases q : valD l kk with
      | none => rw [p.none q]; rfl
      | some d => obtain ⟨vz, ez, _⟩ := p.some q; rw [ez]; rfl
    rw [e]
    rw [Bool.false_xor] at hs
    exact SatW.here (v := V.bl (valD l kk).isSome) hs hw (by unfold RD Rp; rfl)
  · exact hs.elim⟩
theorem od_notInK (hu : X.A.units + 1 < cLine) : OpD X (compareOp .NotIn) (dInK true) := ⟨_, op_notInK hu, fun w x y d e W σ Q hw r1 r2 hs => by
  unfold dInK at hs
  split at hs
  · rename_i n l kk hc hk
    obtain ⟨rfl, en⟩ := cellK_eq hc
    obtain ⟨a, ws, rfl, ha, p⟩ := cellK_read (T := kt X) hw r2 en
    refine ⟨a, _, rfl, by rw [keyD_v r1 hk]; exact DGet.k ha, ?_⟩
    have e : (valV ws kk).isSome = (valD l kk).isSome := by
      cases q : valD l kk with
      | none => rw [p.none q]; rfl
      | some d => obtain ⟨vz, ez, _⟩ := p.some q; rw [ez]; rfl
    rw [e]
    rw [Bool.true_xor] at hs
    exact SatW.here (v := V.bl (!(valD l kk).isSome)) hs hw (by unfold RD Rp; rfl)
  · exact hs.elim⟩
end
/-! ### sorted, of ints -/
def isrt (l : List Int) : List Int := l.mergeSort fun a b => decide (a ≤ b)
theorem isrt_perm (l : List Int) : (isrt l).Perm l := List.mergeSort_perm l _
theorem isrt_sorted (l : List Int) : (isrt l).Pairwise (· ≤ ·) := by
  have := List.pairwise_mergeSort (le := fun a b : Int => decide (a ≤ b)) (fun a b c h1 h2 => by
    rw [decide_eq_true_iff] at *
    omega) (fun a b => by
    rw [Bool.or_eq_true, decide_eq_true_iff, decide_eq_true_iff]
    omega) l
  exact this.imp fun h => of_decide_eq_true h
theorem isrt_uniq {l m : List Int} (p : m.Perm l) (s : m.Pairwise (· ≤ ·)) : m = isrt l :=
  List.Perm.eq_of_pairwise (le := (· ≤ ·)) (fun _ _ _ _ h1 h2 => by omega) s (isrt_sorted l) (p.trans (isrt_perm l).symm)
def intK : List Key → Option (List Int)
  | [] => some []
  | .inl i :: l => (intK l).map (i :: ·)
  | .inr _ :: _ => none
theorem intK_eq : ∀ {l : List Key} {is : List Int}, intK l = some is → l = is.map Sum.inl
  | [], is, h => by cases h; rfl
  | .inl i :: l, is, h => by
    unfold intK at h
    cases q : intK l with
    | none => rw [q] at h; cases h
    | some js => rw [q] at h; cases h; rw [List.map_cons, ← intK_eq q]
  | .inr _ :: l, is, h => by cases h
def bSortK (mk : List D → M D) (l : List D) (S : Store) : Res D := match l with
  | [x] => match cellK x S with
    | some (_, kvs) => match intK (kvs.map (·.1)) with
      | some is => if is.length < 64 then mk ((isrt is).map D.int) S else .bad
      | none => .bad
    | none => .bad
  | _ => .bad
theorem rps_ofints {K : PySem.W.Frag} {r : List Addr} {F : Hp} : ∀ is : List Int, Rps K r F (is.map D.int) (is.map V.int)
  | [] => rps_nil
  | i :: is => by rw [List.map_cons, List.map_cons]; exact rps_cons rpi (rps_ofints is)
theorem cd_sortK {X : Cx} {mk : List D → M D} (m : Mk mk) (hc : X.calm = true) : CallD X (.builtin "sorted") (bSortK mk) := ⟨_, call_sortedDI hc, fun w xs ds W σ Q hw r hs => by
  unfold bSortK at hs
  split at hs
  · rename_i x
    obtain ⟨v, rfl, rv⟩ := one_inv r
    split at hs
    · rename_i n kvs hk
      split at hs
      · rename_i is hi
        obtain ⟨h64, hs⟩ := satIf hs
        obtain ⟨rfl, en⟩ := cellK_eq hk
        obtain ⟨a, ws, rfl, ha, p⟩ := cellK_read (T := kt X) hw rv en
        refine ⟨a, ws, is, rfl, .inl ha, by rw [p.keys]; exact intK_eq hi, h64, fun ys q hp hsr hn => ?_⟩
        rw [isrt_uniq hp hsr]
        exact m.go hw (rps_ofints _) hs q hn
      · exact hs.elim
    · exact hs.elim
  · exact hs.elim⟩
/-! ### list(range(..)) -/
def xLstRg2 (mk : List D → M D) (a b : Env → M D) : Env → M D := fun e S => (a e S).bind fun x S1 => (b e S1).bind fun y S2 => match x, y with
  | .int i, .int j => if 0 ≤ i ∧ j ≤ 16777216 ∧ i ≤ 16777216 ∧ 0 ≤ j then mk (irange i (j - i).toNat) S2 else .bad
  | _, _ => .bad
def xLstRg1 (mk : List D → M D) (b : Env → M D) : Env → M D := fun e S1 => (b e S1).bind fun y S2 => match y with
  | .int j => if j ≤ 16777216 ∧ 0 ≤ j then mk (irange 0 j.toNat) S2 else .bad
  | _ => .bad
theorem rps_irange {K : PySem.W.Frag} {r : List Addr} {F : Hp} (i : Int) : ∀ ns : List Nat, Rps K r F (ns.map fun n => D.int (i + (n : Nat))) (ns.map fun n => V.int (i + (n : Nat)))
  | [] => rps_nil
  | n :: ns => by rw [List.map_cons, List.map_cons]; exact rps_cons rpi (rps_irange i ns)
section
variable {X : Cx} {W : WX} {a b : Expr} {fa fb : Env → M D} {p p2 pos pos2 : Pos} {mk : List D → M D}
theorem pd_listRg2 (m : Mk mk) (hc : X.calm = true) (zr : X.mg "range" = none) (zl : X.mg "list" = none) (ha : PD X W a fa) (hb : PD X W b fb) (hgr : Gl X "range" := by rfl) (hgl : Gl X "list" := by rfl)
    (na : starEach [a, b] X.env = (false, eval a X.env) :: starEach [b] X.env := by rfl) (nb : starEach [b] X.env = (false, eval b X.env) :: starEach [] X.env := by rfl) (hp : (backTo pos2 (starEach [b] X.env)).any (·.1) = false := by rfl)
    (nl : starEach [.Call (.Name "range" p2) [a, b] [] pos2] X.env = (false, eval (.Call (.Name "range" p2) [a, b] [] pos2) X.env) :: starEach [] X.env := by rfl) : PD X W (.Call (.Name "list" p) [.Call (.Name "range" p2) [a, b] [] pos2] [] pos) (xLstRg2 mk fa fb) := by
  refine weakE (pe_listRg hc hgl zl (prg_2 hgr zr ha hb na nb hp) nl) fun σ H Q ⟨w, env, eH, hw, he, hs⟩ => ?_
  subst eH
  refine ⟨w, env, rfl, hw, he, SatW.imp (SatW.bind hs) fun w1 d v g1 r1 s1 => ?_⟩
  refine ⟨w1, env, rfl, g1.wd, he.go g1, SatW.imp (SatW.bind s1) fun w2 d2 v2 g2 r2 s2 => ?_⟩
  split at s2
  · rename_i i j
    obtain ⟨hk, s2⟩ := satIf s2
    refine ⟨i, j, rp_int r1, rp_int r2, RgOk.of_le hk.1 hk.2.1 hk.2.2.1 hk.2.2.2, fun q hn => ?_⟩
    exact m.go g2.wd (rps_irange i _) s2 q hn
  · exact s2.elim
theorem pd_listRg1 (m : Mk mk) (hc : X.calm = true) (zr : X.mg "range" = none) (zl : X.mg "list" = none) (hb : PD X W b fb) (hgr : Gl X "range" := by rfl) (hgl : Gl X "list" := by rfl)
    (nb : starEach [b] X.env = (false, eval b X.env) :: starEach [] X.env := by rfl)
    (nl : starEach [.Call (.Name "range" p2) [b] [] pos2] X.env = (false, eval (.Call (.Name "range" p2) [b] [] pos2) X.env) :: starEach [] X.env := by rfl) : PD X W (.Call (.Name "list" p) [.Call (.Name "range" p2) [b] [] pos2] [] pos) (xLstRg1 mk fb) := by
  refine weakE (pe_listRg hc hgl zl (prg_1 hgr zr hb nb) nl) fun σ H Q ⟨w, env, eH, hw, he, hs⟩ => ?_
  subst eH
  refine ⟨w, env, rfl, hw, he, SatW.imp (SatW.bind hs) fun w2 d2 v2 g2 r2 s2 => ?_⟩
  split at s2
  · rename_i j
    obtain ⟨hk, s2⟩ := satIf s2
    refine ⟨j, rp_int r2, RgOk.of_le (by omega) hk.1 (by omega) hk.2, fun q hn => ?_⟩
    have e : (j - 0).toNat = j.toNat := by rw [Int.sub_zero]
    unfold rgV
    rw [e]
    exact m.go g2.wd (rps_irange 0 _) s2 q hn
  · exact s2.elim
end
end Dv
/-! # Dv19: own exception classes with their own __init__ -/
namespace Dv
open PySem PySem.Spec PyProof.Rows L2
section
variable {X : Cx} {o e : Expr} {es : List Expr} {ta : TA} {B : Addr} {x : Str} {p p1 p2 pos : Pos}
/-- B.__init__(self, ..), B an own class without __init__ over ValueError -/
theorem pe_binit {pl : Sem Bool} {mc : Value} (hg : Gl X x) (hm : X.mg x = some (.ref B)) (sG : PySem.W.specialIn X.K (.ref B) "__getattribute__" = some (some (.builtin "type.__getattribute__"))) (rB : PySem.W.readsIn X.K B mc = true)
    (vV : PySem.W.findCls X.K (.ref B) mc "__init__" = some (.val (.builtin "ValueError.__init__"))) (ha : PA X (e :: es) ta) (hdb : (x == ("__debug__" : Str)) = false := by decide)
    (hc : eval (.Call (.Attribute (.Name x p1) "__init__" p2) (e :: es) [] pos) X.env = (do
      let ov ← eval (.Name x p1) X.env
      standAt p2.atName
      let (f, first) ← holding [ov] (getMethod ov "__init__" pl)
      callWith pos f first (backTo pos (starEach (e :: es) X.env)) (backToKw pos (keywordEach [] X.env))) := by rfl)
    (he : starEach (e :: es) X.env = (false, eval e X.env) :: starEach es X.env := by rfl) (hpl : (backTo pos (starEach es X.env)).any (·.1) = false := by rfl) :
    PE X (.Call (.Attribute (.Name x p1) "__init__" p2) (e :: es) [] pos) (tVeI X.K ta) := by
  refine ⟨fun pins s σ H Q I h => ?_⟩
  refine PySem.W.methodCall_KW (ld_glob I hg hm ?_ hdb) hc
  refine PySem.W.method_cls I.kIn sG ?_
  refine PySem.W.cls_value I.kIn rB vV (by decide +kernel) ?_
  show wpAny _ _ (callWith pos (Value.builtin "ValueError.__init__") [] (backTo pos (starEach (e :: es) X.env)) []) _ _ _
  refine PyProof.Rows.callWith_method1 (thn (ha.run pos pins _ σ H _ (I.tok _) h) fun us s1 ⟨vs, H1, I1, r1, a, C, ws, ev, hl, T, ea, q⟩ => ?_) he hpl
  subst ev
  cases r1 with
  | @cons _ u0 _ ur ra rw' =>
    obtain rfl : u0 = Value.ref a := ra
    have hlen : ur.length ≤ sizeLine := by
      rw [← Paired.length rw', sizeLine_eq]
      omega
    exact oinit_ok T I1 ea hlen fun s' J => ⟨.non, H1, J, rfl, q⟩
end
/-- what the __init__ of C does: the one field f is set -/
def spI (K : PySem.W.Frag) (C : Addr) (f : Str) : Sp := fun vs H Q _ => ∃ (a : Addr) (i : Int), vs = [.ref a, .int i] ∧ H a = some (exo a C none) ∧ ∀ dx, H dx = none → dx ≠ a → Q .non (upd (upd H dx (exd dx [(f, .int i)])) a (exo a C (some dx)))
def yRaiseI (c f : Str) (h : Env → M (List D)) : Env → Store → Out := fun e S => (h e S).out e fun l S1 => match l with
  | [.int i] => .exc ⟨c, some (f, i)⟩ e S1
  | _ => .bad
section
variable {X : Cx} {W : WX} {x f : Str} {e : Expr} {h : Env → M (List D)} {p pos pos2 : Pos} {C fI : Addr} {CX : CXT} {k : Nat} {fd : FuncData} {ps : List Str}
theorem upd_back {H : Hp} {a d : Addr} {o1 o2 o3 o4 : HO} (hn : H a = none) (hd : d ≠ a) : upd (del (upd (upd (upd H a o1) d o2) a o3) a) d o4 = upd H d o4 := by
  funext b
  by_cases q : b = d
  · subst q; rw [upd_same, upd_same]
  · rw [upd_ne q, upd_ne q]
    by_cases q2 : b = a
    · subst q2; rw [del_same, hn]
    · rw [del_ne q2, upd_ne q2, upd_ne q, upd_ne q2]
theorem psd_raiseI (hc : X.calm = true) (tk : Takes X W) (n : ClsAt X.K x C) (T : OexC X.K C) (iC : PySem.W.findIn X.K (.ref C) "__init__" = some (some (.ref fI))) (tI : PySem.W.typeIn X.K (.ref fI) = some (.type "function"))
    (F1 : FnOk X.prog X.w X.K X.mg X.base CX k fI fd ps (spI X.K C f)) (hr : Room (k + 1) X.A) (hb : Binds X.K fd ps []) (hx : Passes CX X (fun _ _ _ => False)) (hm : X.mg x = some (.ref C)) (ha : PAD X W [e] h) (hg : Gl X x := by rfl)
    (hdb : (x == ("__debug__" : Str)) = false := by decide) (he : starEach [e] X.env = (false, eval e X.env) :: starEach [] X.env := by rfl) (hpl : (backTo pos (starEach [] X.env)).any (·.1) = false := by rfl) :
    PSD X W (.Raise (some (.Call (.Name x p) [e] [] pos)) none pos2) (yRaiseI x f h) := by
  refine weakS (ps_raise hc tk (pmk_oex T iC tI F1 hr hb (ds := []) (dvs := []) .nil hx hg hm ha hdb he hpl)) fun D σ H ⟨w, env, eH, hw, hev, hs⟩ => ?_
  subst eH
  refine ⟨w, env, rfl, hw, hev, SatW.imp (SatS.out hs hev) fun w1 l vs g1 r1 s1 => ?_⟩
  split at s1
  · rename_i i
    obtain ⟨v, rfl, rv⟩ := one_inv r1
    rw [rp_int rv]
    refine ⟨by simp, fun a hn => ⟨a, i, rfl, upd_same, fun d hd hda => ⟨rfl, d, [(f, .int i)], upd_same, ?_, ?_, ?_⟩⟩⟩
    · rw [upd_ne hda, upd_same]
    · rwa [upd_ne hda] at hd
    · have hd1 : w1.H d = none := by rwa [upd_ne hda] at hd
      rw [upd_back hn hda]
      exact s1 ⟨w1.r, upd w1.F d (.xd [(f, .int i)]), w1.S, upd w1.H d (.xd [(f, .int i)])⟩ σ (.ref C) (some d) (Go.alloc g1.wd hd1) rfl ((hev.go g1).go (Go.alloc g1.wd hd1)) ⟨C, n, rfl, d, rfl, upd_same⟩
  · exact s1.elim
end
/-! ### e.f of a kept exception -/
def xFldL (L : List Str) (f : Str) (g : Env → M D) : Env → M D := fun e S => (g e S).bind fun d S1 => match d with
  | .exn c (some (f', i)) => if f' = f ∧ c ∈ L then .ok (.int i) S1 else .bad
  | _ => .bad
section
variable {X : Cx} {W : WX} {e : Expr} {g : Env → M D} {pos : Pos} {f : Str}
theorem pe_xfK {te : TE} (he : PE X e te) (hb : attributeBase e f X.env (eval e X.env) = eval e X.env := by rfl) :
    PE X (.Attribute e f pos) (fun σ H Q => te σ H fun x H1 => ∃ (a C dd : Addr) (fs : List (Str × V)) (v : V), x = .ref a ∧ H1 a = some (ExH (.ref C) (some dd) a) ∧ XfC X.K C ∧ PySem.W.findIn X.K (.ref C) f = some none ∧ H1 dd = some (.xd fs) ∧ fs.lookup f = some v ∧ Q v H1) := by
  refine ⟨fun pins s σ H Q I h => ?_⟩
  refine attr_of hb (thn (he.run pins s σ H _ I h) fun u s1 hh => ?_)
  obtain ⟨x, H1, I1, rx, a, C, dd, fs, v, ex, eh, T, hno, ea, l, q⟩ := hh
  subst ex
  obtain rfl : u = Value.ref a := rx
  obtain ⟨oe, vs, ha, hz, hd⟩ := (I1.hok a _ eh).1
  have hx : ObjOk X.prog X.w H1 s1.heap dd (.xd fs) := I1.hok dd _ ea
  obtain ⟨mA, hns, hr⟩ := hx
  obtain ⟨od, ho, hl⟩ := lookIn_ns hns
  obtain ⟨u, hu, ru⟩ := RelO.some_of (v := v) (o := mA f) (by rw [← l]; exact hr f)
  have J : PySem.W.InstAt s1.heap a oe C (some od) := ⟨ha, hz.1, by unfold PySem.W.notCls; rw [hd] <;> rfl, by rw [hz.2]; exact ho⟩
  exact HandSPX.exc_get I1.kIn J T.ga T.gg T.exC (PySem.W.findObj_own T.hdC hno rfl (by rw [hl, hu])) (handed_of ru) ⟨v, H1, I1.tok _, ru, q⟩
theorem pd_fldL {L : List Str} (fc : ∀ c ∈ L, FldC X.K f c) (he : PD X W e g) (hb : attributeBase e f X.env (eval e X.env) = eval e X.env := by rfl) : PD X W (.Attribute e f pos) (xFldL L f g) := by
  refine weakE (pe_xfK he hb) fun σ H Q ⟨w, env, eH, hw, hev, hs⟩ => ?_
  subst eH
  refine ⟨w, env, rfl, hw, hev, SatW.imp (SatW.bind hs) fun w1 d v g1 r1 s1 => ?_⟩
  split at s1
  · rename_i c f' i
    obtain ⟨hk, s2⟩ := satIf s1
    obtain ⟨hf, hc⟩ := hk
    subst hf
    unfold RD Rp at r1
    obtain ⟨a, C, d, rfl, hC, hF, dd, rfl, hdd⟩ := r1
    obtain ⟨hno, T⟩ := fc c hc C hC
    refine ⟨a, C, dd, _, .int i, rfl, g1.wd.same _ _ hF, T, hno, g1.wd.same _ _ hdd, by simp, s2 w1 (V.int i) (Go.refl g1.wd) rfl (by unfold RD; exact rpi)⟩
  · exact s1.elim
end
theorem fld_of {K : PySem.W.Frag} {mg : Str → Option Value} {c f : Str} {C : Addr} (h1 : Rc K mg c C) (hf : PySem.W.findIn K (.ref C) f = some none) : FldC K f c := fun C' e1 => by
  have e3 : C = C' := ClsAt.uniq h1.n e1
  subst e3
  exact ⟨hf, ⟨h1.e.hg, h1.e.hk, h1.b, h1.e.hd⟩⟩
end Dv
/-! # Dv20: reckoning where exceptions may be told -/
namespace Dv
open PySem PySem.Spec PyProof.Rows L2
structure Enx {α : Type} (x : Res α) (P : α → Store → Prop) (X : Exn → Store → Prop) : Prop where
  go : match x with
    | .ok a S => P a S
    | .exc y S => X y S
    | .bad => False
structure EnxO (o : Out) (Q : Pst) (X : Exn → Env → Store → Prop) : Prop where
  go : match o with
    | .exc y e S => X y e S
    | o => EnO0 o Q
section
variable {α β : Type} {x : Res α} {a : α} {S : Store} {P : α → Store → Prop} {X : Exn → Store → Prop} {Y : Exn → Env → Store → Prop} {Q : Pst} {e : Env} {d : D} {y : Exn}
@[simp] theorem enx_ok : Enx (.ok a S) P X = P a S := propext ⟨fun h => h.go, fun h => ⟨h⟩⟩
@[simp] theorem enx_exc : Enx (.exc y S : Res α) P X = X y S := propext ⟨fun h => h.go, fun h => ⟨h⟩⟩
@[simp] theorem enx_bad : Enx (.bad : Res α) P X = False := propext ⟨fun h => h.go, fun h => h.elim⟩
@[simp] theorem enx_bind {k : α → Store → Res β} {P : β → Store → Prop} : Enx (x.bind k) P X = Enx x (fun a S => Enx (k a S) P X) X := by cases x <;> simp
theorem Enx.imp {P' : α → Store → Prop} {X' : Exn → Store → Prop} (h : Enx x P X) (q : ∀ a S, P a S → P' a S) (r : ∀ y S, X y S → X' y S) : Enx x P' X' := by
  cases x with
  | ok a S => exact ⟨q _ _ h.go⟩
  | exc y S => exact ⟨r _ _ h.go⟩
  | bad => exact ⟨h.go⟩
theorem Ens.toX (h : Ens x P) : Enx x P X := by
  cases x with
  | ok a S => exact ⟨h.go⟩
  | exc y S => exact h.go.elim
  | bad => exact ⟨h.go⟩
theorem enx_ite {c : Prop} [Decidable c] {y : Res α} (h1 : c → Enx x P X) (h2 : ¬ c → Enx y P X) : Enx (if c then x else y) P X := by
  split
  · exact h1 (by assumption)
  · exact h2 (by assumption)
@[simp] theorem enxo_nx : EnxO (.nx e S) Q Y = Q.nx e S := propext ⟨fun h => h.go, fun h => ⟨h⟩⟩
@[simp] theorem enxo_rt : EnxO (.rt d S) Q Y = Q.rt d S := propext ⟨fun h => h.go, fun h => ⟨h⟩⟩
@[simp] theorem enxo_bk : EnxO (.bk e S) Q Y = Q.bk e S := propext ⟨fun h => h.go, fun h => ⟨h⟩⟩
@[simp] theorem enxo_ct : EnxO (.ct e S) Q Y = Q.ct e S := propext ⟨fun h => h.go, fun h => ⟨h⟩⟩
@[simp] theorem enxo_exc : EnxO (.exc y e S) Q Y = Y y e S := propext ⟨fun h => h.go, fun h => ⟨h⟩⟩
@[simp] theorem enxo_bad : EnxO .bad Q Y = False := propext ⟨fun h => h.go, fun h => h.elim⟩
@[simp] theorem enxo_out {k : α → Store → Out} : EnxO (x.out e k) Q Y = Enx x (fun a S => EnxO (k a S) Q Y) (fun y S => Y y e S) := by cases x <;> simp
@[simp] theorem enxo_seq {o : Out} {k : Env → Store → Out} : EnxO (o.seq k) Q Y = EnxO o { Q with nx := fun e S => EnxO (k e S) Q Y } Y := by cases o <;> simp
theorem EnsO.toX {o : Out} (h : EnsO o Q) : EnxO o Q Y := by
  cases o with
  | exc y e S => exact h.go.elim
  | _ => exact ⟨h.go⟩
theorem EnxO.imp {o : Out} {Q' : Pst} {Y' : Exn → Env → Store → Prop} (h : EnxO o Q Y) (h1 : ∀ e S, Q.nx e S → Q'.nx e S) (h2 : ∀ e S, Q.rt e S → Q'.rt e S) (h3 : ∀ e S, Q.bk e S → Q'.bk e S) (h4 : ∀ e S, Q.ct e S → Q'.ct e S) (h5 : ∀ y e S, Y y e S → Y' y e S) : EnxO o Q' Y' := by
  cases o with
  | nx e S => exact ⟨h1 _ _ h.go⟩
  | rt e S => exact ⟨h2 _ _ h.go⟩
  | bk e S => exact ⟨h3 _ _ h.go⟩
  | ct e S => exact ⟨h4 _ _ h.go⟩
  | exc y e S => exact ⟨h5 _ _ _ h.go⟩
  | bad => exact ⟨h.go⟩
theorem enxo_ite {c : Prop} [Decidable c] {o p : Out} (h1 : c → EnxO o Q Y) (h2 : ¬ c → EnxO p Q Y) : EnxO (if c then o else p) Q Y := by
  split
  · exact h1 (by assumption)
  · exact h2 (by assumption)
end
theorem enx_fn {np ns : Nat} {keep : Bool} {body : Env → Store → Out} {ds : List D} {S : Store} {P : D → Store → Prop} {X : Exn → Store → Prop} (hl : ds.length = np)
    (h : EnxO (body (ds.map some ++ List.replicate (ns - np) none) S) { nx := fun _ S' => Enx (fin keep S.length .non S') P X, rt := fun d S' => Enx (fin keep S.length d S') P X } fun y _ S' => Enx (finX S.length y S') P X) : Enx (fnD np ns keep body ds S) P X := by
  unfold fnD
  rw [if_pos hl]
  cases o : body (ds.map some ++ List.replicate (ns - np) none) S with
  | nx e S => rw [o] at h; exact h.go
  | rt e S => rw [o] at h; exact h.go
  | bk e S => rw [o] at h; exact h.go.elim
  | ct e S => rw [o] at h; exact h.go.elim
  | exc y e S => rw [o] at h; exact h.go
  | bad => rw [o] at h; exact h.go.elim
@[simp] theorem finX_same {S : Store} {y : Exn} : finX S.length y S = .exc y S := by simp [finX]
theorem finX_cut {S R : Store} {y : Exn} (hu : (S.all fun c => c.under S.length) = true) : finX S.length y (S ++ R) = .exc y S := by
  unfold finX
  by_cases z : (S ++ R).length = S.length
  · rw [if_pos z]
    have : R = [] := List.length_eq_zero_iff.mp (by rw [List.length_append] at z; omega)
    subst this
    simp
  · rw [if_neg z, List.take_left, hu]
    rfl
theorem enx_sq {y y' : Env → Store → Out} {e : Env} {S : Store} {Q : Pst} {Y : Exn → Env → Store → Prop} (R : Env → Store → Prop) (h1 : ∀ R' : Env → Store → Prop, (∀ e S, R e S → R' e S) → EnxO (y e S) { Q with nx := R' } Y) (h2 : ∀ e S, R e S → EnxO (y' e S) Q Y) : EnxO (ySeq y y' e S) Q Y := by
  have h := h1 R fun _ _ h => h
  unfold ySeq
  rw [enxo_seq]
  exact h.imp h2 (fun _ _ h => h) (fun _ _ h => h) (fun _ _ h => h) (fun _ _ _ h => h)
theorem enx_fr {g : D → Env → Store → Out} {b : Env → Store → Out} {Q : Pst} {Y : Exn → Env → Store → Prop} (I : Nat → Env → Store → Prop) : ∀ {items : List D} {e : Env} {S : Store}, I 0 e S →
    (∀ (i : Nat) d e S (R' : Env → Store → Prop), items[i]? = some d → I i e S → (∀ e S, I (i + 1) e S → R' e S) → EnxO (g d e S) { nx := fun e1 S1 => EnxO (b e1 S1) { nx := R', ct := R', bk := Q.nx, rt := Q.rt } Y } fun _ _ _ => False) →
    (∀ e S, I items.length e S → Q.nx e S) → EnxO (forL (fun _ => True) g b items e S) Q Y := by
  have go : ∀ (items : List D) (I : Nat → Env → Store → Prop) (e : Env) (S : Store), I 0 e S →
    (∀ (i : Nat) d e S (R' : Env → Store → Prop), items[i]? = some d → I i e S → (∀ e S, I (i + 1) e S → R' e S) → EnxO (g d e S) { nx := fun e1 S1 => EnxO (b e1 S1) { nx := R', ct := R', bk := Q.nx, rt := Q.rt } Y } fun _ _ _ => False) →
    (∀ e S, I items.length e S → Q.nx e S) → EnxO (forL (fun _ => True) g b items e S) Q Y := by
    intro items
    induction items with
    | nil =>
      intro I e S h0 _ hd
      unfold forL
      rw [if_pos trivial, enxo_nx]
      exact hd e S h0
    | cons d l ih =>
      intro I e S h0 hs hd
      unfold forL
      rw [if_pos trivial]
      have h1 := hs 0 d e S (I 1) rfl h0 fun _ _ h => h
      have next : ∀ e' S', I 1 e' S' → EnxO (forL (fun _ => True) g b l e' S') Q Y := fun e' S' q => ih (fun i => I (i + 1)) e' S' q (fun i d' e2 S2 R' hi hI hR => hs (i + 1) d' e2 S2 R' hi hI hR) fun e2 S2 q2 => hd e2 S2 q2
      cases o : g d e S with
      | nx e1 S1 =>
        rw [o, enxo_nx] at h1
        dsimp only at h1 ⊢
        cases o2 : b e1 S1 with
        | nx e2 S2 => rw [o2, enxo_nx] at h1; exact next _ _ h1
        | ct e2 S2 => rw [o2, enxo_ct] at h1; exact next _ _ h1
        | bk e2 S2 => rw [o2, enxo_bk] at h1; dsimp only; rw [enxo_nx]; exact h1
        | rt e2 S2 => rw [o2, enxo_rt] at h1; dsimp only; rw [enxo_rt]; exact h1
        | exc y e2 S2 => rw [o2, enxo_exc] at h1; dsimp only; rw [enxo_exc]; exact h1
        | bad => rw [o2, enxo_bad] at h1; exact h1.elim
      | rt e1 S1 => rw [o, enxo_rt] at h1; exact h1.elim
      | bk e1 S1 => rw [o, enxo_bk] at h1; exact h1.elim
      | ct e1 S1 => rw [o, enxo_ct] at h1; exact h1.elim
      | exc y e1 S1 => rw [o, enxo_exc] at h1; exact h1.elim
      | bad => rw [o, enxo_bad] at h1; exact h1.elim
  intro items e S h0 hs hd
  exact go items I e S h0 hs hd
section
variable {oo : Option D} {ll : Env} {S S' : Store} {e e' : Env} {x : Exn} {c d f : Str} {i j : Nat} {g : Env → Store → Out} {h : Env → M (List D)} {g' : Env → M D} {L : List (Str × Str × Bool)} {R : List Str} {Q : Pst} {Y : Exn → Env → Store → Prop}
@[simp] theorem yRaiseI_app : yRaiseI c f h (oo :: ll) S = (h (oo :: ll) S).out (oo :: ll) fun l S1 => match l with
  | [.int i] => .exc ⟨c, some (f, i)⟩ (oo :: ll) S1
  | _ => .bad := rfl
@[simp] theorem xFldL_app {R : List Str} : xFldL R f g' (oo :: ll) S = (g' (oo :: ll) S).bind fun d S1 => match d with
  | .exn c (some (f', i)) => if f' = f ∧ c ∈ R then .ok (.int i) S1 else .bad
  | _ => .bad := rfl
/-- a suite that tells, or raises what is caught and kept -/
theorem enx_try (h : EnxO (g e S) Q fun y e' S' => subT L y.cls d = some true ∧ ∃ o, e'[i]? = some o ∧ Q.nx ((e'.set j (some (.exn y.cls y.val))).set i none) S') : EnsO (yTryKeep L d i j g e S) Q := by
  cases o : g e S with
  | exc y e2 S2 =>
    rw [o, enxo_exc] at h
    obtain ⟨h1, o', h2, h3⟩ := h
    rw [yTry_exc o h1 h2, enso_nx]
    exact h3
  | nx e2 S2 => rw [o, enxo_nx] at h; unfold yTryKeep; rw [o]; exact ⟨h⟩
  | rt e2 S2 => rw [o, enxo_rt] at h; unfold yTryKeep; rw [o]; exact ⟨h⟩
  | bk e2 S2 => rw [o, enxo_bk] at h; unfold yTryKeep; rw [o]; exact ⟨h⟩
  | ct e2 S2 => rw [o, enxo_ct] at h; unfold yTryKeep; rw [o]; exact ⟨h⟩
  | bad => rw [o, enxo_bad] at h; exact h.elim
end
end Dv
/-! # Dv21: {k: v}, d.setdefault, len(set(..)); defs that call themselves -/
namespace Dv
open PySem PySem.Spec PyProof.Rows L2
theorem fn_bad {P : Program} {w : World} {K : PySem.W.Frag} {mg : Str → Option Value} {base : Heap} {CX : CXT} {k : Nat} {f : Addr} {fd : FuncData} {ps : List Str} : FnOk P w K mg base CX k f fd ps (spD ⟨K, mg⟩ fun _ _ => .bad) := by
  refine ⟨fun vs H Q E ⟨wl, ds, _, _, _, hs⟩ => hs.elim, fun A outer s H args us vs Q E _ _ _ _ ⟨wl, ds, _, _, _, hs⟩ => hs.elim⟩
/-! ### {k: v} -/
def xDct1 (f g : Env → M D) : Env → M D := fun e S => (f e (S ++ [.dct []])).bind fun k S1 => (g e S1).bind fun v S2 => match keyD k, S2[S.length]? with
  | some kk, some (.dct []) => .ok (.cell S.length) (S2.set S.length (.dct [(kk, v)]))
  | _, _ => .bad
section
variable {X : Cx} {W : WX} {o i e f k v : Expr} {fo fi fe ff fk fv : Env → M D} {pos apos cpos : Pos}
theorem pd_dct1 (hk : PD X W k fk) (hv : PD X W v fv) : PD X W (.Dict [some k] [v] pos) (xDct1 fk fv) := by
  refine weakE (pe_disp (pps_cons hk hv pps_nil) rfl rfl (by simp) (by simp)) fun σ H Q ⟨w, env, eH, hw, he, hs⟩ p hp => ?_
  subst eH
  have g0 : Go X.K w ⟨w.r ++ [p], w.F, w.S ++ [.dct []], upd w.H p (.dK [])⟩ := Go.newCell (c := .dct []) hw hp (by exact ⟨hw.fresh hp, [], upd_same, .nil⟩)
  have hat : (w.r ++ [p])[w.S.length]? = some p := by
    rw [← hw.len, List.getElem?_append_right (Nat.le_refl _), Nat.sub_self]
    rfl
  unfold xDct1 at hs
  refine ⟨⟨w.r ++ [p], w.F, w.S ++ [.dct []], upd w.H p (.dK [])⟩, env, rfl, g0.wd, he.go g0, SatW.imp (SatW.bind (hs.pre g0)) fun w1 d1 v1 g1 r1 s1 => ?_⟩
  refine ⟨w1, env, rfl, g1.wd, (he.go g0).go g1, SatW.imp (SatW.bind s1) fun w2 d2 v2 g2 r2 s2 => ?_⟩
  have cellAt : RD (kt X).K w2 (.cell w.S.length) (.ref p) := by
    have h0 : Rp X.K (w.r ++ [p]) w.F (.cell w.S.length) (.ref p) := by unfold Rp; exact ⟨p, hat, rfl⟩
    exact Rp.go (g1.trans g2) (w := ⟨w.r ++ [p], w.F, w.S ++ [.dct []], upd w.H p (.dK [])⟩) h0
  split at s2
  · rename_i kk hk2 hc
    obtain ⟨a, ws, ea, ha, pp, go⟩ := cellK_write (T := kt X) (l' := [(kk, d2)]) g2.wd cellAt hc
    cases ea
    cases pp.length ▸ (show ws.length = 0 from pp.length)
    have ew : ws = [] := List.length_eq_zero_iff.mp pp.length
    subst ew
    rw [keyD_v r1 hk2]
    refine ⟨ha, [(kk, v2)], rfl, by simp, ?_⟩
    have g3 := go [(kk, v2)] (.cons ⟨rfl, r2⟩ .nil)
    exact s2 _ (.ref p) g3 rfl (Rp.go g3 cellAt)
  · exact s2.elim
def dSetd (x k z : D) (S : Store) : Res D := match cellK x S, keyD k with
  | some (n, l), some kk => if l.length < 16000000 then match valD l kk with
    | some d => .ok d S
    | none => .ok z (S.set n (.dct (putD l kk z)))
    else .bad
  | _, _ => .bad
def xSetd (o e f : Env → M D) : Env → M D := fun n S => (o n S).bind fun x S1 => if isK x S1 = true then (e n S1).bind fun k S2 => (f n S2).bind fun z S3 => dSetd x k z S3 else .bad
theorem pd_setd (ho : PD X W o fo) (he : PD X W e fe) (hf : PD X W f ff) (m : M2 X o "setdefault" apos e f cpos := by exact ⟨rfl, rfl, rfl, rfl⟩) : PD X W (.Call (.Attribute o "setdefault" apos) [e, f] [] cpos) (xSetd fo fe ff) := by
  refine weakE (pe_dsetd ho he hf m) fun σ H Q ⟨w, env, eH, hw, he, hs⟩ => ?_
  subst eH
  refine ⟨w, env, rfl, hw, he, SatW.imp (SatW.bind hs) fun w1 d v g1 r1 s1 => ?_⟩
  obtain ⟨hk, s1⟩ := satIf s1
  obtain ⟨a, rfl, hd⟩ := isK_isD g1.wd r1 hk
  refine ⟨a, rfl, hd, w1, env, rfl, g1.wd, he.go g1, SatW.imp (SatW.bind s1) fun w2 d2 v2 g2 r2 s2 => ?_⟩
  refine ⟨w2, env, rfl, g2.wd, (he.go g1).go g2, SatW.imp (SatW.bind s2) fun w3 d3 v3 g3 r3 s3 => ?_⟩
  have r1' := Rp.go (g2.trans g3) r1
  have r2' := Rp.go g3 r2
  unfold dSetd at s3
  split at s3
  · rename_i n l kk hc hk2
    obtain ⟨hl, s3⟩ := satIf s3
    obtain ⟨rfl, en⟩ := cellK_eq hc
    obtain ⟨a', ws, ea, ha, p, go⟩ := cellK_write (T := kt X) (l' := putD l kk d3) g3.wd r1' en
    cases ea
    refine ⟨ws, kk, ha, keyD_v r2 hk2, by rw [p.length]; exact Nat.lt_of_lt_of_le hl (line16 (Nat.le_refl _)), fun vz ez => ?_, fun ez => ?_⟩
    · cases q : valD l kk with
      | none => rw [p.none q] at ez; cases ez
      | some d =>
        rw [q] at s3
        obtain ⟨vz', ez', rz⟩ := p.some q
        rw [ez'] at ez
        cases ez
        exact SatW.here (v := vz) s3 g3.wd rz
    · cases q : valD l kk with
      | some d =>
        obtain ⟨vz', ez', rz⟩ := p.some q
        rw [ez'] at ez
        cases ez
      | none =>
        rw [q] at s3
        have g4 := go _ (p.put kk r3)
        exact s3 _ v3 g4 rfl (Rp.go g4 r3)
  · exact s3.elim
end
/-! ### len(set(xs)) -/
def dedup (ns : List Int) : List Int := firstMet (fun i => ns.getD i 0) ns.length
def tLenSetX (K : PySem.W.Frag) (ta : TE) : TE := fun σ H Q => ta σ H fun x H1 => ∃ (l : Addr) (ns : List Int), x = V.ref l ∧ SqL K H1 l (ns.map V.int) ∧ ns.length ≤ 4000 ∧ Q (.int (dedup ns).length) H1
section
variable {X : Cx} {W : WX}
theorem pe_lenSetX {a : Expr} {ta : TE} {p p2 q pos : Pos} (hc : X.calm = true) (hg : Gl X "len") (hm : X.mg "len" = none) (hg2 : Gl X "set") (hm2 : X.mg "set" = none) (ha : PE X a ta)
    (na : starEach [a] X.env = (false, eval a X.env) :: starEach [] X.env := by rfl) : PE X (.Call (.Name "len" p) [.Call (.Name "set" p2) [a] [] q] [] pos) (tLenSetX X.K ta) := by
  refine ⟨fun pins s σ H Q I h => ?_⟩
  refine Call_ (ld_blt I hg hm PySem.boot_len ?_)
  refine PyProof.Rows.callWith_builtin1 (PyProof.Rows.args_cons ?_ rfl) rfl rfl
  refine Call_ (ld_blt I hg2 hm2 PyProof.Rows.boot_set ?_)
  refine PyProof.Rows.callWith_type1 (PyProof.Rows.args_cons (thn (ha.run pins s σ H _ I h) fun v s1 ⟨x, H1, I1, r1, q1⟩ => PyProof.Rows.args_nil ?_) na) na rfl
  obtain ⟨l, ns, rfl, hq, h1, q1⟩ := q1
  cases r1
  obtain ⟨its, r, pl, hz⟩ := I1.list hq
  have hl : its.toArray.size = ns.length := by rw [List.size_toArray, ← r.length, List.length_map]
  refine call_set_list (I1.ok.hd hc) pl.isList (ns := ns) (by simpa using r.ints) (by unfold scanBound; omega) fun h' tk hS hk => ?_
  rw [hl] at hS
  have hle := firstMet_length_le (fun i => ns.getD i 0) ns.length
  refine PyProof.Rows.args_nil ?_
  obtain ⟨o, es, ep, t, ho, hex, hd, _, _, _, hf, hn⟩ := hS
  have I2 : Inv X pins σ H1 { s1 with heap := h', toks := tk } := I1.kept fun b o e => hk b o (Heap.lt_size e) e
  refine call_len_set ho hex hd hf (by rw [hn] <;> omega) ⟨.int (dedup ns).length, H1, I2.tok _, ⟨_, by rw [hn]; rfl⟩, q1⟩
def dLenSet (d : D) (S : Store) : Res D := match (getQ d S).bind intsOf with
  | some ns => if ns.length ≤ 4000 then .ok (.int (dedup ns).length) S else .bad
  | none => .bad
def xLenSet (f : Env → M D) : Env → M D := fun e S => (f e S).bind dLenSet
theorem pd_lenSet {a : Expr} {f : Env → M D} {p p2 q pos : Pos} (hc : X.calm = true) (hm : X.mg "len" = none) (hm2 : X.mg "set" = none) (ha : PD X W a f) (hg : Gl X "len" := by rfl) (hg2 : Gl X "set" := by rfl)
    (na : starEach [a] X.env = (false, eval a X.env) :: starEach [] X.env := by rfl) : PD X W (.Call (.Name "len" p) [.Call (.Name "set" p2) [a] [] q] [] pos) (xLenSet f) := by
  refine weakE (pe_lenSetX hc hg hm hg2 hm2 ha na) fun σ H Q ⟨w, env, eH, hw, he, hs⟩ => ?_
  subst eH
  refine ⟨w, env, rfl, hw, he, SatW.imp (SatW.bind hs) fun w1 d v g1 r1 s1 => ?_⟩
  unfold dLenSet at s1
  cases hn : (getQ d w1.S).bind intsOf with
  | none => rw [hn] at s1; exact s1.elim
  | some ns =>
    rw [hn] at s1
    obtain ⟨hl, s1⟩ := satIf s1
    obtain ⟨a, rfl, hq⟩ := ints_of g1.wd r1 hn
    exact ⟨a, ns, rfl, hq, hl, SatW.here (v := V.int _) s1 g1.wd rpi⟩
end
theorem dedup_mem (ns : List Int) (k : Int) : k ∈ dedup ns ↔ k ∈ ns := by
  have e : (List.range ns.length).map (fun i => ns.getD i 0) = ns := by
    apply List.ext_getElem
    · simp
    · intro i h1 h2
      simp at h1 ⊢
      rw [List.getElem?_eq_getElem h2]
      rfl
  have h := firstMet_any (fun i => ns.getD i 0) ns.length k
  rw [e] at h
  have z : ∀ l : List Int, (l.any (· == k)) = true ↔ k ∈ l := fun l => by
    rw [List.any_eq_true]
    constructor
    · rintro ⟨x, hx, q⟩
      rw [← beq_iff_eq.mp q]; exact hx
    · exact fun hk => ⟨k, hk, beq_self_eq_true _⟩
  unfold dedup
  rw [← z, ← z, h]
theorem dedup_nodup (ns : List Int) : (dedup ns).Nodup := by
  have go : ∀ (val : Nat → Int) (i : Nat), (firstMet val i).Nodup := by
    intro val i
    induction i with
    | zero => rw [firstMet_zero]; exact List.nodup_nil
    | succ i ih =>
      rw [firstMet_succ]
      unfold step_dedup
      split
      · exact ih
      · rename_i h
        refine List.nodup_append.mpr ⟨ih, by simp, fun a ha b hb => ?_⟩
        rw [List.mem_singleton.mp hb]
        intro z
        exact h (List.any_eq_true.mpr ⟨a, ha, by rw [z]; exact beq_self_eq_true _⟩)
  exact go _ _
section
variable {oo : Option D} {ll : Env} {S : Store} {f g h : Env → M D}
@[simp] theorem xLenSet_app : xLenSet f (oo :: ll) S = (f (oo :: ll) S).bind dLenSet := rfl
@[simp] theorem xDct1_app : xDct1 f g (oo :: ll) S = (f (oo :: ll) (S ++ [.dct []])).bind fun k S1 => (g (oo :: ll) S1).bind fun v S2 => match keyD k, S2[S.length]? with
  | some kk, some (.dct []) => .ok (.cell S.length) (S2.set S.length (.dct [(kk, v)]))
  | _, _ => .bad := rfl
@[simp] theorem xSetd_app : xSetd f g h (oo :: ll) S = (f (oo :: ll) S).bind fun x S1 => if isK x S1 = true then (g (oo :: ll) S1).bind fun k S2 => (h (oo :: ll) S2).bind fun z S3 => dSetd x k z S3 else .bad := rfl
end
end Dv
/-! # Dv22: try with a suite of any statements -/
namespace Dv
open PySem PySem.Spec PyProof.Rows L2
section
variable {X : Cx} {pins : List (Addr × Obj)} {σ : L2.St} {H : Hp} {s : Shared}
theorem suite0 {a : Addr} (I : Inv X pins σ H s) : Inv (X.suite a (X.pn ++ pins)) [] σ H s :=
  ⟨I.ok.suite _ _, I.os, I.bare, I.base, I.loc, I.cell, I.free, I.freeC, fun p hp => I.pin p (by rw [List.append_nil] at hp; exact hp), I.hok, I.len⟩
theorem unsuite0 {a : Addr} {pn' : List (Addr × Obj)} (I : Inv (X.suite a (X.pn ++ pins)) pn' σ H s) (ok : X.Ok) : Inv X pins σ H s :=
  ⟨ok, I.os, I.bare, I.base, I.loc, I.cell, I.free, I.freeC, fun p hp => I.pin p (List.mem_append_left _ hp), I.hok, I.len⟩
end
/-- as wKeep; the exception is tracked ahead of the suite -/
def wAdopt (K : PySem.W.Frag) (c : Value) (i : Nat) (ts : Addr → Value → Option Addr → TS) (Wout : WX) (D : Ends) : WX := fun cls d σ H =>
  ∃ b, PySem.W.exmOne K cls c = some b ∧ (b = true → ∀ a, H a = none → ts a cls d { nx := fun σ' H' => D.nx (σ'.set i none) H', rt := D.rt, bk := fun σ' H' => D.bk (σ'.set i none) H', ct := fun σ' H' => D.ct (σ'.set i none) H' } (σ.set i (some (.ref a))) (upd H a (ExH cls d a))) ∧
    (b = false → Wout cls d σ H)
section
variable {X : Cx} {x n : Str} {c : Value} {i : Nat} {body suite : List Stmt} {b₀ : Stmt} {np pos pos' : Pos} {tb : WX → TS} {ts : Addr → Value → Option Addr → TS} {Wout : WX}
theorem ps_try_adopt (hs : X.stack = X.env :: X.outer) (hf : X.env.frame = some X.env.locals) (hex : X.ex = []) (hN : X.N.Nodup) (hi : X.N[i]? = some n) (hln : X.env.kindOf n = some .local) (hc : Names X x c) (tk : Takes X Wout)
    (hb : ∀ (W : WX) (pn : List (Addr × Obj)) (xe : Value → Shared → Prop), Takes (X.tr pn xe) W → PassesOwn (model X.prog X.w) X.A X.env xe → PSs (X.tr pn xe) body (tb W))
    (hsu : ∀ (a : Addr) (cls : Value) (d : Option Addr) (pn : List (Addr × Obj)), PSs (X.suite a pn) (b₀ :: suite) (ts a cls d)) :
    PS X (.Try body [.ExceptHandler (some (.Name x np)) (some n) (b₀ :: suite) pos'] [] [] pos) (fun D σ H => tb (wAdopt X.K c i ts Wout D) D σ H) := by
  refine ⟨fun pins s σ H D I h => ?_⟩
  have ok := I.ok
  have hfr : X.A.frames = some (X.env :: X.outer) := by rw [ok.frames, hs]
  have hloc : Loc X.env.scope n := .inl hln
  refine wpAny_Try_except ?_
  refine wpAny_mono ((hb (wAdopt X.K c i ts Wout D) (X.pn ++ pins) (fun e s₁ => wpAny (model X.prog X.w) X.A (noteFrame e X.env) (fun _ s₂ => wpAny (model X.prog X.w) X.A (setFlight e none) (fun _ s₃ =>
    wpAny (model X.prog X.w) X.A (handleBy e X.env [.ExceptHandler (some (.Name x np)) (some n) (b₀ :: suite) pos']) (SP X pins D) X.xe s₃) X.xe s₂) X.xe s₁) (fun u s' xx => ?_) PassesOwn.looking).run [] s σ H D (I.toTry _) h) (fun f s1 hsp => ?_) (fun e s1 he => he)
  · -- the catch
    obtain ⟨a, B, sI, pins', σ', H', cls, d, rfl, J', nb, up, sky, na, os, ag, b, hb1, hyes, hno⟩ := xx
    have J : Inv X pins σ' H' sI := J'.ofTry ok
    have sky' : Sky B (X.env :: X.outer) a (Zc cls d) X.env.locals s'.heap := by rw [← hs]; exact sky
    show wpAny _ X.A (noteFrame (.ref a) X.env) _ _ _
    refine Sky.land Zc.steady hfr hf sky' fun h3 fl3 up3 => ?_
    have J3 : Inv X pins σ' H' { s' with heap := h3 } := J.landed nb fl3.1 (up.trans up3) os ag
    obtain ⟨oe3, vs3, he3, hz3, hd3⟩ := fl3.there
    have notFr : ∀ {h : Heap} {o : Obj} {vs : Array Value}, h.FunFrames B (X.env :: X.outer) → h.get? a = some o → o.data = .fields vs → a ∉ frs (X.env :: X.outer) := fun {h o vs} ff e dd hm => by
      obtain ⟨_, o', e', hnf⟩ := ff.mem hm
      rw [e] at e'; cases e'
      exact hnf _ dd
    have nfr := notFr fl3.2.2.1 he3 hd3
    have nL : a ≠ X.env.locals := fun z => nfr (List.mem_filterMap.mpr ⟨X.env, List.mem_cons_self, by rw [hf, z]⟩)
    have nF : a ∉ X.fs := fun hm => by
      obtain ⟨e, he, q⟩ := List.mem_filterMap.mp hm
      exact nfr (List.mem_filterMap.mpr ⟨e, List.mem_cons_of_mem _ he, q⟩)
    -- what was there is not the exception
    have old : ∀ b ob, sI.heap.get? b = some ob → b ≠ a := fun b ob e z => by
      have hbf : b ∉ frs X.stack := fun hm => by
        rw [hs] at hm
        exact nfr (by rw [← z]; exact hm)
      have q := nb b ob e hbf
      rw [z, fl3.2.1] at q
      cases q
    have n0 : X.s_0.heap.get? a = none := by
      cases e : X.s_0.heap.get? a with
      | none => rfl
      | some ob =>
        obtain ⟨o', q⟩ := J.base.there a ob e (by rw [hex]; exact fun z => nomatch z)
        exact (old a o' q rfl).elim
    have nC : ∀ x c, X.env.cells.lookup x = some c → c ≠ a := fun x c e => by
      obtain ⟨v, ob, q, _⟩ := J.cell x c e
      exact old c ob q
    have nP : ∀ p ∈ X.pn ++ pins, p.1 ≠ a := fun p hp => old p.1 p.2 (J.pin p hp).1
    have S3 := J3.suite he3 hd3 na nL nF
    refine wpAny_handleBy_cons (codeAny_handlers_test ?_) (by intro q; cases q)
    have LT : PySem.W.Looks (model X.prog X.w) h3 (typeOf (.ref a)) cls := fun A Q E s k q => wpAny_typeOf_ref (k _ _ he3) (by rw [hz3.1]; exact q)
    have LM := PySem.W.exm_one (M := model X.prog X.w) (J3.kIn) LT hb1
    have test : ∀ {Q : Value → Shared → Prop} {E : Value → Shared → Prop}, Q c { s' with heap := h3 } → wpAny (model X.prog X.w) (X.A.mark (some (.ref a))) (eval (.Name x np) X.env) Q E { s' with heap := h3 } := fun {Q E} q => by
      obtain ⟨hg, hdbg, hm | ⟨hm, hv, hnn⟩⟩ := hc
      · exact ld_glob (X := X.suite a ((a, oe3) :: (X.pn ++ pins))) S3 hg hm q hdbg
      · exact ld_blt (X := X.suite a ((a, oe3) :: (X.pn ++ pins))) S3 hg hm hv q hnn hdbg
    refine test (LM.here ?_)
    cases b with
    | true =>
      refine codeAny_handlers_suite_as ?_
      refine HandSPX.lands_againZ fl3 fun h4 fl4 up4 => ?_
      have J4 : Inv X pins σ' H' { s' with heap := h4 } := J.landed nb fl4.1 ((up.trans up3).trans up4) os ag
      obtain ⟨oe4, vs4, he4, hz4, hd4⟩ := fl4.there
      have S4 := suite0 (a := a) (inv_adopt J4 na nL nC nP n0 (exh_ok he4 hz4 hd4))
      refine store_ok (X := X.suite a (X.pn ++ pins)) (v := .ref a) S4 hN hi hloc rfl (fun s5 S5 => ?_) (.inr hln)
      refine wpAny_mono ((hsu a cls d (X.pn ++ pins)).run [] s5 _ _ _ S5 (hyes rfl a na)) (fun f s6 hsp => ?_) (fun _ _ z => False.elim z)
      have end_ : ∀ {σ6 : L2.St} {H6 : Hp} {Q : Shared → Prop}, Inv (X.suite a (X.pn ++ pins)) [] σ6 H6 s6 → (∀ s7, Inv X pins (σ6.set i none) H6 s7 → Q s7) →
          wpAny (model X.prog X.w) X.A (do bindName X.env n .none; unbindBehindTheSuite X.env n pos') (fun _ s7 => Q s7) X.xe s6 := fun {σ6 H6 Q} S6 hq => gone_ok (unsuite0 S6 ok) hN hi hln hq
      cases f with
      | next =>
        obtain ⟨σ6, H6, S6, q6⟩ := hsp
        exact end_ S6 fun s7 J7 => ⟨_, _, J7, q6⟩
      | brk =>
        obtain ⟨σ6, H6, S6, q6⟩ := hsp
        exact end_ S6 fun s7 J7 => ⟨_, _, J7, q6⟩
      | cont =>
        obtain ⟨σ6, H6, S6, q6⟩ := hsp
        exact end_ S6 fun s7 J7 => ⟨_, _, J7, q6⟩
      | ret u =>
        obtain ⟨v6, σ6, H6, S6, r6, q6⟩ := hsp
        exact end_ S6 fun s7 J7 => ⟨_, _, _, J7, r6, q6⟩
    | false =>
      show wpAny _ X.A (handleBy (.ref a) X.env []) _ _ _
      refine wpAny_handleBy_nil ?_
      obtain ⟨k1, k2, k3, oe, vs, T, oT, ts', he, hz, hd, h1, hr⟩ := id fl3
      unfold PySem.passOn
      refine wpAny_bind (wpAny_field he hd h1 ?_)
      rw [if_neg (show ¬ ((Value.ref T == Value.none) = true) from by simp)]
      have fin : wpAny (model X.prog X.w) X.A (setFlight (.ref a) X.env.frame) (fun _ s4 => wpAny (model X.prog X.w) X.A (throw (.ref a) : Sem Flow) (SP X pins D) X.xe s4) X.xe { s' with heap := h3 } := by
        rw [hf]
        refine HandSPX.setFlight_upZ fl3 fun h4 hh4 up4 => wpAny_throw (tk _ _ ?_)
        exact ⟨a, B, sI, pins, σ', H', cls, d, rfl, J, nb, (up.trans up3).trans up4, .inr (.inr (by rw [hs]; exact hh4)), na, os, ag, hno rfl⟩
      first
        | exact wpAny_bind (wpAny_pure (wpAny_bind fin))
        | exact wpAny_bind fin
  · cases f with
    | next =>
      obtain ⟨σ', H', J', q⟩ := hsp
      exact wpAny_execs_nil ⟨σ', H', J'.ofTry ok, q⟩
    | brk =>
      obtain ⟨σ', H', J', q⟩ := hsp
      exact ⟨σ', H', J'.ofTry ok, q⟩
    | cont =>
      obtain ⟨σ', H', J', q⟩ := hsp
      exact ⟨σ', H', J'.ofTry ok, q⟩
    | ret u =>
      obtain ⟨v, σ', H', J', r, q⟩ := hsp
      exact ⟨v, σ', H', J'.ofTry ok, r, q⟩
end

/-! ### try .. except D as e: any suite -/
def yTryD (L : List (Str × Str × Bool)) (d : Str) (i : Nat) (g g2 : Env → Store → Out) : Env → Store → Out := fun e S => match g e S with
  | .exc x e' S' => match subT L x.cls d with
    | some true => match e'[i]? with
      | some _ => match g2 (e'.set i (some (.exn x.cls x.val))) S' with
        | .nx e2 S2 => .nx (e2.set i none) S2
        | .rt d S2 => .rt d S2
        | .bk e2 S2 => .bk (e2.set i none) S2
        | .ct e2 S2 => .ct (e2.set i none) S2
        | .exc _ _ _ => .bad
        | .bad => .bad
      | none => .bad
    | some false => .exc x e' S'
    | none => .bad
  | o => o
section
variable {X : Cx} {W : WX} {x n : Str} {i : Nat} {body suite : List Stmt} {b₀ : Stmt} {np pos pos' : Pos} {g g2 : Env → Store → Out} {L : List (Str × Str × Bool)} {Dc : Addr}
theorem psd_tryD (hs : X.stack = X.env :: X.outer) (hf : X.env.frame = some X.env.locals) (hex : X.ex = []) (hN : X.N.Nodup) (hi : X.N[i]? = some n) (hln : X.env.kindOf n = some .local) (tk : Takes X W)
    (hg : Gl X x) (hd : Cl X.K X.mg x Dc) (hL : ∀ p ∈ L, CatchOk X.K p)
    (hb : ∀ (W : WX) (pn : List (Addr × Obj)) (xe : Value → Shared → Prop), Takes (X.tr pn xe) W → PassesOwn (model X.prog X.w) X.A X.env xe → PSsD (X.tr pn xe) W body g)
    (h2 : ∀ (a : Addr) (pn : List (Addr × Obj)), PSsD (X.suite a pn) (fun _ _ _ _ => False) (b₀ :: suite) g2) (hdb : (x == ("__debug__" : Str)) = false := by decide) :
    PSD X W (.Try body [.ExceptHandler (some (.Name x np)) (some n) (b₀ :: suite) pos'] [] [] pos) (yTryD L x i g g2) := by
  refine weakS (ps_try_adopt (i := i) (c := .ref Dc) (tb := fun W => sD (kt X) W g) (ts := fun _ _ _ => sD (kt X) (fun _ _ _ _ => False) g2) hs hf hex hN hi hln ⟨hg, hdb, .inl hd.g⟩ tk (fun W pn xe tk' pas => hb W pn xe tk' pas)
    (fun a cls d pn => h2 a pn)) fun D σ H ⟨w, env, eH, hw, he, hs⟩ => ⟨w, env, eH, hw, he, ?_⟩
  unfold yTryD at hs
  cases o : g env w.S with
  | nx e S => rw [o] at hs; exact hs
  | rt e S => rw [o] at hs; exact hs
  | bk e S => rw [o] at hs; exact hs
  | ct e S => rw [o] at hs; exact hs
  | bad => rw [o] at hs; exact hs
  | exc z e' S' =>
    rw [o] at hs
    intro w' σ' cls dd g' eS he' hx
    obtain ⟨C, c1, rfl, c3⟩ := hx
    cases q : subT L z.cls x with
    | none => simp only [q] at hs; exact hs.elim
    | some b =>
      refine ⟨b, hL _ (subT_mem q) C Dc c1 hd.n, fun hb a na => ?_, fun hb => ?_⟩
      · subst hb
        simp only [q] at hs
        cases qi : e'[i]? with
        | none => simp only [qi] at hs; exact hs.elim
        | some oo =>
          simp only [qi] at hs
          have ga := Go.alloc (o := ExH (.ref C) dd a) g'.wd na
          have r2 : Rp X.K w'.r (upd w'.F a (ExH (.ref C) dd a)) (.exn z.cls z.val) (.ref a) := by
            unfold Rp
            exact ⟨a, C, dd, rfl, c1, upd_same, c3.mono ga.F⟩
          have he2 := (he'.go ga).set (i := i) r2
          refine ⟨⟨w'.r, upd w'.F a (ExH (.ref C) dd a), w'.S, upd w'.H a (ExH (.ref C) dd a)⟩, e'.set i (some (.exn z.cls z.val)), rfl, ga.wd, he2, ?_⟩
          subst eS
          show SatS _ _ _ (g2 (e'.set i (some (.exn z.cls z.val))) w'.S) _
          cases o2 : g2 (e'.set i (some (.exn z.cls z.val))) w'.S with
          | nx e2 S2 =>
            simp only [o2] at hs
            exact fun w2 σ2 g2' eS2 he3 => hs w2 (σ2.set i none) ((g'.trans ga).trans g2') eS2 (he3.unset (i := i))
          | rt d2 S2 =>
            simp only [o2] at hs
            exact fun w2 v2 g2' eS2 rv => hs w2 v2 ((g'.trans ga).trans g2') eS2 rv
          | bk e2 S2 =>
            simp only [o2] at hs
            exact fun w2 σ2 g2' eS2 he3 => hs w2 (σ2.set i none) ((g'.trans ga).trans g2') eS2 (he3.unset (i := i))
          | ct e2 S2 =>
            simp only [o2] at hs
            exact fun w2 σ2 g2' eS2 he3 => hs w2 (σ2.set i none) ((g'.trans ga).trans g2') eS2 (he3.unset (i := i))
          | exc y2 e2 S2 => simp only [o2] at hs; exact hs.elim
          | bad => simp only [o2] at hs; exact hs.elim
      · subst hb
        simp only [q] at hs
        exact hs w' σ' _ dd g' eS he' ⟨C, c1, rfl, c3⟩
end
section
variable {S : Store} {e : Env} {d : Str} {i : Nat} {g g2 : Env → Store → Out} {L : List (Str × Str × Bool)} {Q : Pst}
/-- a suite that tells, or raises what the suite behind it takes -/
theorem enx_tryD (h : EnxO (g e S) Q fun y e' S' => subT L y.cls d = some true ∧ (∃ o, e'[i]? = some o) ∧ EnsO (g2 (e'.set i (some (.exn y.cls y.val))) S') { nx := fun e2 S2 => Q.nx (e2.set i none) S2, rt := Q.rt, bk := fun e2 S2 => Q.bk (e2.set i none) S2, ct := fun e2 S2 => Q.ct (e2.set i none) S2 }) : EnsO (yTryD L d i g g2 e S) Q := by
  cases o : g e S with
  | exc y e2 S2 =>
    rw [o, enxo_exc] at h
    obtain ⟨h1, ⟨o', h2⟩, h3⟩ := h
    unfold yTryD
    simp only [o, h1, h2]
    cases o2 : g2 (e2.set i (some (.exn y.cls y.val))) S2 with
    | nx e3 S3 => rw [o2, enso_nx] at h3; simp only [enso_nx]; exact h3
    | rt e3 S3 => rw [o2, enso_rt] at h3; simp only [enso_rt]; exact h3
    | bk e3 S3 => rw [o2, enso_bk] at h3; simp only [enso_bk]; exact h3
    | ct e3 S3 => rw [o2, enso_ct] at h3; simp only [enso_ct]; exact h3
    | exc y3 e3 S3 => rw [o2] at h3; exact h3.go.elim
    | bad => rw [o2, enso_bad] at h3; exact h3.elim
  | nx e2 S2 => rw [o, enxo_nx] at h; unfold yTryD; rw [o]; exact ⟨h⟩
  | rt e2 S2 => rw [o, enxo_rt] at h; unfold yTryD; rw [o]; exact ⟨h⟩
  | bk e2 S2 => rw [o, enxo_bk] at h; unfold yTryD; rw [o]; exact ⟨h⟩
  | ct e2 S2 => rw [o, enxo_ct] at h; unfold yTryD; rw [o]; exact ⟨h⟩
  | bad => rw [o, enxo_bad] at h; exact h.elim
end
end Dv
/-! # Dv23: things frozen all the way down; a def that gets cells for a while as frozen things -/
namespace Dv
open PySem PySem.Spec PyProof.Rows L2
def mapS (f : D → Store → Res D) : List D → Store → Res (List D)
  | [], S => .ok [] S
  | d :: l, S => (f d S).bind fun d' S1 => (mapS f l S1).bind fun l' S2 => .ok (d' :: l') S2
def dfz : Nat → D → Store → Res D
  | 0, _, _ => .bad
  | n + 1, d, S => match d with
    | .cell k => match S[k]? with
      | some (.lst l) => (mapS (dfz n) l (S.set k .dead)).bind fun l' S' => .ok (.lst l') S'
      | some (.dct _) => .ok d S
      | _ => .bad
    | .lst l => (mapS (dfz n) l S).bind fun l' S' => .ok (.lst l') S'
    | .tup l => (mapS (dfz n) l S).bind fun l' S' => .ok (.tup l') S'
    | d => .ok d S
/-- some cells of w are frozen in w1 -/
structure Fz (K : PySem.W.Frag) (w w1 : Wl) : Prop where
  go : Go K w w1
  r : w1.r = w.r
  H : w1.H = w.H
  len : w1.S.length = w.S.length
  cell : ∀ n : Nat, w1.S[n]? = w.S[n]? ∨ ∃ l, w.S[n]? = some (.lst l) ∧ w1.S[n]? = some .dead ∧ ∀ a, w.r[n]? = some a → w1.F a ≠ none
section
variable {K : PySem.W.Frag} {w w1 w2 : Wl}
theorem Fz.refl (h : Wd K w) : Fz K w w := ⟨Go.refl h, rfl, rfl, rfl, fun _ => .inl rfl⟩
theorem Fz.trans (g : Fz K w w1) (h : Fz K w1 w2) : Fz K w w2 := by
  refine ⟨g.go.trans h.go, h.r.trans g.r, h.H.trans g.H, h.len.trans g.len, fun n => ?_⟩
  rcases g.cell n with e | ⟨l, e1, e2, e3⟩
  · rcases h.cell n with e' | ⟨l', e1', e2', e3'⟩
    · exact .inl (e'.trans e)
    · exact .inr ⟨l', e.symm.trans e1', e2', fun a ha => e3' a (by rw [g.r]; exact ha)⟩
  · rcases h.cell n with e' | ⟨l', e1', e2', e3'⟩
    · refine .inr ⟨l, e1, e'.trans e2, fun a ha => ?_⟩
      have := e3 a ha
      cases q : w1.F a with
      | none => exact absurd q this
      | some o => rw [h.go.F a o q]; simp
    · rw [e2] at e1'
      cases e1'
theorem Fz.one (h : Wd K w) {n : Nat} {a : Addr} {l : List D} {vs : List V} (e0 : w.S[n]? = some (.lst l)) (er : w.r[n]? = some a) (ha : w.H a = some (.lst vs)) : Fz K w ⟨w.r, upd w.F a (.lst vs), w.S.set n .dead, w.H⟩ := by
  refine ⟨Go.freeze h e0 er ha, rfl, rfl, by simp, fun k => ?_⟩
  have hn : n < w.S.length := (List.getElem?_eq_some_iff.mp e0).1
  by_cases hk : k = n
  · subst hk
    refine .inr ⟨l, e0, by rw [List.getElem?_set_self hn], fun b hb => ?_⟩
    have : a = b := Option.some.inj (er.symm.trans hb)
    subst this
    show upd w.F a (.lst vs) a ≠ none
    rw [upd_same]
    simp
  · exact .inl (by rw [List.getElem?_set_ne (Ne.symm hk)])
theorem mapS_sat {f : D → Store → Res D} (hf : ∀ {w : Wl} {d d' : D} {v : V} {S' : Store}, Wd K w → Rp K w.r w.F d v → f d w.S = .ok d' S' → ∃ w1, Fz K w w1 ∧ w1.S = S' ∧ Rp K w1.r w1.F d' v) :
    ∀ {l l' : List D} {w : Wl} {vs : List V} {S' : Store}, Wd K w → Rps K w.r w.F l vs → mapS f l w.S = .ok l' S' → ∃ w1, Fz K w w1 ∧ w1.S = S' ∧ Rps K w1.r w1.F l' vs
  | [], l', w, vs, S', hw, hr, h => by
    unfold mapS at h
    cases h
    exact ⟨w, Fz.refl hw, rfl, hr⟩
  | d :: l, l', w, vs, S', hw, hr, h => by
    unfold mapS at h
    unfold Rps at hr
    obtain ⟨v, t, rfl, r1, r2⟩ := hr
    cases o : f d w.S with
    | bad => rw [o] at h; cases h
    | exc x S => rw [o] at h; cases h
    | ok d1 S1 =>
      rw [o, Res.bind_ok] at h
      obtain ⟨w1, z1, e1, q1⟩ := hf hw r1 o
      subst e1
      cases o2 : mapS f l w1.S with
      | bad => rw [o2] at h; cases h
      | exc x S => rw [o2] at h; cases h
      | ok l2 S2 =>
        rw [o2, Res.bind_ok] at h
        cases h
        obtain ⟨w2, z2, e2, q2⟩ := mapS_sat hf z1.go.wd (r2.go z1.go) o2
        refine ⟨w2, z1.trans z2, e2, ?_⟩
        unfold Rps
        exact ⟨v, t, rfl, q1.go z2.go, q2⟩
theorem dfz_sat : ∀ (n : Nat) {w : Wl} {d d' : D} {v : V} {S' : Store}, Wd K w → Rp K w.r w.F d v → dfz n d w.S = .ok d' S' → ∃ w1, Fz K w w1 ∧ w1.S = S' ∧ Rp K w1.r w1.F d' v
  | 0, w, d, d', v, S', hw, hr, h => by unfold dfz at h; cases h
  | n + 1, w, d, d', v, S', hw, hr, h => by
    have ih := fun {w : Wl} {d d' : D} {v : V} {S' : Store} => dfz_sat n (w := w) (d := d) (d' := d') (v := v) (S' := S')
    unfold dfz at h
    cases d with
    | cell k =>
      cases e : w.S[k]? with
      | none => simp only [e] at h; cases h
      | some c =>
        cases c with
        | dead => simp only [e] at h; cases h
        | dct _ =>
          simp only [e] at h
          cases h
          exact ⟨w, Fz.refl hw, rfl, hr⟩
        | lst l =>
          simp only [e] at h
          have hr0 := hr
          unfold Rp at hr
          obtain ⟨a, e1, rfl⟩ := hr
          obtain ⟨hf, vs, e2, p⟩ := hw.cell k a _ e1 e
          have z := Fz.one hw e e1 e2
          cases o : mapS (dfz n) l (w.S.set k .dead) with
          | bad => rw [o] at h; cases h
          | exc x S => rw [o] at h; cases h
          | ok l1 S1 =>
            rw [o, Res.bind_ok] at h
            cases h
            obtain ⟨w2, z2, e3, q2⟩ := mapS_sat ih z.go.wd (p.go z.go) o
            refine ⟨w2, z.trans z2, e3, ?_⟩
            unfold Rp
            exact ⟨a, vs, rfl, z2.go.F _ _ upd_same, q2⟩
    | lst l =>
      simp only at h
      unfold Rp at hr
      obtain ⟨a, vs, rfl, e1, p⟩ := hr
      cases o : mapS (dfz n) l w.S with
      | bad => rw [o] at h; cases h
      | exc x S => rw [o] at h; cases h
      | ok l1 S1 =>
        rw [o, Res.bind_ok] at h
        cases h
        obtain ⟨w2, z2, e3, q2⟩ := mapS_sat ih hw p o
        refine ⟨w2, z2, e3, ?_⟩
        unfold Rp
        exact ⟨a, vs, rfl, z2.go.F _ _ e1, q2⟩
    | tup l =>
      simp only at h
      unfold Rp at hr
      obtain ⟨a, vs, rfl, e1, p⟩ := hr
      cases o : mapS (dfz n) l w.S with
      | bad => rw [o] at h; cases h
      | exc x S => rw [o] at h; cases h
      | ok l1 S1 =>
        rw [o, Res.bind_ok] at h
        cases h
        obtain ⟨w2, z2, e3, q2⟩ := mapS_sat ih hw p o
        refine ⟨w2, z2, e3, ?_⟩
        unfold Rp
        exact ⟨a, vs, rfl, rd_same z2.go.F e1, q2⟩
    | non => cases h; exact ⟨w, Fz.refl hw, rfl, hr⟩
    | bl _ => cases h; exact ⟨w, Fz.refl hw, rfl, hr⟩
    | int _ => cases h; exact ⟨w, Fz.refl hw, rfl, hr⟩
    | str _ => cases h; exact ⟨w, Fz.refl hw, rfl, hr⟩
    | scr _ => cases h; exact ⟨w, Fz.refl hw, rfl, hr⟩
    | raw _ => cases h; exact ⟨w, Fz.refl hw, rfl, hr⟩
    | cls _ => cases h; exact ⟨w, Fz.refl hw, rfl, hr⟩
    | exn _ _ => cases h; exact ⟨w, Fz.refl hw, rfl, hr⟩
end
/-! ### borrowed -/
mutual
def D.sol : D → Bool
  | .lst _ => false
  | .scr _ => false
  | .tup l => D.solL l
  | _ => true
def D.solL : List D → Bool
  | [] => true
  | d :: l => D.sol d && D.solL l
end
def Cn.sol : Cn → Bool
  | .dead => true
  | .lst l => D.solL l
  | .dct kvs => kvs.all fun z => D.sol z.2
def rst : Store → Store → Store → Store
  | c :: S, c1 :: S1, c2 :: S2 => (match c1 with | .dead => c | _ => c2) :: rst S S1 S2
  | _, _, S2 => S2
theorem rst_length : ∀ (S S1 S2 : Store), (rst S S1 S2).length = S2.length
  | c :: S, c1 :: S1, c2 :: S2 => by simp [rst, rst_length S S1 S2]
  | [], _, _ => by simp [rst]
  | _ :: _, [], _ => by simp [rst]
  | _ :: _, _ :: _, [] => by simp [rst]
theorem rst_get : ∀ (S S1 S2 : Store) (n : Nat) (c : Cn), (rst S S1 S2)[n]? = some c → (S1[n]? = some .dead ∧ S[n]? = some c) ∨ ((S[n]? = none ∨ S1[n]? ≠ some .dead) ∧ S2[n]? = some c)
  | c :: S, c1 :: S1, c2 :: S2, 0, x, h => by
    unfold rst at h
    cases c1 with
    | dead => simp only [List.getElem?_cons_zero] at h ⊢; exact .inl ⟨trivial, h⟩
    | lst _ => simp only [List.getElem?_cons_zero] at h ⊢; exact .inr ⟨.inr (by simp), h⟩
    | dct _ => simp only [List.getElem?_cons_zero] at h ⊢; exact .inr ⟨.inr (by simp), h⟩
  | c :: S, c1 :: S1, c2 :: S2, n + 1, x, h => by
    unfold rst at h
    rw [List.getElem?_cons_succ] at h
    simpa only [List.getElem?_cons_succ] using rst_get S S1 S2 n x h
  | [], _, _, n, x, h => by
    simp only [rst] at h
    exact .inr ⟨.inl (by simp), h⟩
  | _ :: _, [], _, n, x, h => by
    simp only [rst] at h
    exact .inr ⟨.inr (by simp), h⟩
  | _ :: _, _ :: _, [], n, x, h => by simp [rst] at h
/-- what comes behind a store that stays -/
theorem rst_app : ∀ (S S1 R : Store), S1.length = S.length → (∀ n : Nat, S1[n]? = S[n]? ∨ S1[n]? = some .dead) → rst S S1 (S1 ++ R) = S ++ R
  | [], [], R, _, _ => by simp [rst]
  | c :: S, c1 :: S1, R, hl, h => by
    have ih := rst_app S S1 R (by simpa using hl) fun n => by simpa using h (n + 1)
    have h0 := h 0
    simp only [List.getElem?_cons_zero] at h0
    rw [List.cons_append]
    unfold rst
    rw [ih]
    cases c1 with
    | dead => rfl
    | lst _ => rcases h0 with e | e <;> cases e <;> rfl
    | dct _ => rcases h0 with e | e <;> cases e <;> rfl
  | [], c1 :: S1, R, hl, _ => by simp at hl
  | c :: S, [], R, hl, _ => by simp at hl
def bor (f : List D → M D) : List D → M D := fun ds S => match mapS (dfz 60) ds S with
  | .ok ds1 S1 => match f ds1 S1 with
    | .ok d S2 => if D.sol d = true ∧ S2.all Cn.sol = true then .ok d (rst S S1 S2) else .bad
    | .exc x S2 => if S2.all Cn.sol = true then .exc x (rst S S1 S2) else .bad
    | .bad => .bad
  | _ => .bad
section
variable {K : PySem.W.Frag} {w w1 w2 : Wl}
open Classical in
/-- what stays frozen when the borrowed cells are given back -/
noncomputable def offF (w w1 : Wl) (F : Hp) : Hp := fun a => if ∃ n : Nat, w.r[n]? = some a ∧ alv w.S n ∧ w1.S[n]? = some .dead then none else F a
theorem offF_some {F : Hp} {a : Addr} {o : HO} (h : offF w w1 F a = some o) : F a = some o := by
  unfold offF at h
  split at h
  · cases h
  · exact h
theorem offF_none {F : Hp} {a : Addr} (h : F a = none) : offF w w1 F a = none := by
  unfold offF
  split
  · rfl
  · exact h
/-- a borrowed cell's object is a list -/
theorem Fz.lent (z : Fz K w w1) (hw : Wd K w) (g : Go K w1 w2) {a : Addr} (h : ∃ n : Nat, w.r[n]? = some a ∧ alv w.S n ∧ w1.S[n]? = some .dead) : ∃ vs, w2.F a = some (.lst vs) ∧ w.H a = some (.lst vs) := by
  obtain ⟨n, e, ⟨c, ec, hc⟩, hd⟩ := h
  rcases z.cell n with q | ⟨l, e1, e2, e3⟩
  · rw [hd, ec] at q
    cases q
    exact absurd rfl hc
  · obtain ⟨_, vs, eH, _⟩ := hw.cell n a _ e e1
    have hF := e3 a e
    cases q : w1.F a with
    | none => exact absurd q hF
    | some o =>
      have := z.go.wd.same a o q
      rw [z.H, eH] at this
      cases this
      exact ⟨vs, g.F _ _ q, eH⟩
theorem Fz.keep (z : Fz K w w1) (hw : Wd K w) (g : Go K w1 w2) {a : Addr} {o : HO} (h : w2.F a = some o) (no : ∀ vs, o ≠ .lst vs) : offF w w1 w2.F a = some o := by
  unfold offF
  split
  · rename_i q
    obtain ⟨vs, e, _⟩ := z.lent hw g q
    rw [h] at e
    cases e
    exact absurd rfl (no vs)
  · exact h
mutual
theorem Rp.off (z : Fz K w w1) (hw : Wd K w) (g : Go K w1 w2) {r : List Addr} : ∀ (d : D) (v : V), D.sol d = true → Rp K r w2.F d v → Rp K r (offF w w1 w2.F) d v
  | .non, _, _, h => by unfold Rp at h ⊢; exact h
  | .bl _, _, _, h => by unfold Rp at h ⊢; exact h
  | .int _, _, _, h => by unfold Rp at h ⊢; exact h
  | .str _, _, _, h => by unfold Rp at h ⊢; exact h
  | .raw _, _, _, h => by unfold Rp at h ⊢; exact h
  | .cell _, _, _, h => by unfold Rp at h ⊢; exact h
  | .cls _, _, _, h => by unfold Rp at h ⊢; exact h
  | .lst _, _, s, _ => by simp [D.sol] at s
  | .scr _, _, s, _ => by simp [D.sol] at s
  | .tup l, v, s, h => by
    unfold D.sol at s
    unfold Rp at h ⊢
    obtain ⟨a, vs, e, q, p⟩ := h
    refine ⟨a, vs, e, ?_, Rps.off z hw g l vs s p⟩
    rcases q with q | ⟨o, q⟩
    · exact .inl (z.keep hw g q fun vs e => by cases e)
    · exact .inr ⟨o, z.keep hw g q fun vs e => by cases e⟩
  | .exn c f, v, _, h => by
    unfold Rp at h ⊢
    obtain ⟨a, C, d, e, hc, q, p⟩ := h
    refine ⟨a, C, d, e, hc, z.keep hw g q fun vs e => (by cases e), ?_⟩
    cases f with
    | none => exact p
    | some y =>
      obtain ⟨f, i⟩ := y
      obtain ⟨b, e1, e2⟩ := p
      exact ⟨b, e1, z.keep hw g e2 fun vs e => by cases e⟩
theorem Rps.off (z : Fz K w w1) (hw : Wd K w) (g : Go K w1 w2) {r : List Addr} : ∀ (d : List D) (v : List V), D.solL d = true → Rps K r w2.F d v → Rps K r (offF w w1 w2.F) d v
  | [], _, _, h => by unfold Rps at h ⊢; exact h
  | d :: l, v, s, h => by
    unfold D.solL at s
    rw [Bool.and_eq_true] at s
    unfold Rps at h ⊢
    obtain ⟨v, t, e, p, q⟩ := h
    exact ⟨v, t, e, Rp.off z hw g d v s.1 p, Rps.off z hw g l t s.2 q⟩
end
theorem RpK.off (z : Fz K w w1) (hw : Wd K w) (g : Go K w1 w2) {r : List Addr} {kvs : List (Key × D)} {ws : List (Key × V)} (s : (kvs.all fun z => D.sol z.2) = true) (h : RpK K r w2.F kvs ws) : RpK K r (offF w w1 w2.F) kvs ws := by
  induction h with
  | nil => exact .nil
  | cons h1 h2 ih =>
    rw [List.all_cons, Bool.and_eq_true] at s
    exact .cons ⟨h1.1, Rp.off z hw g _ _ s.1 h1.2⟩ (ih s.2)
/-- the borrowed cells are given back -/
theorem Fz.back (z : Fz K w w1) (hw : Wd K w) (g : Go K w1 w2) (hs : w2.S.all Cn.sol = true) : Go K w ⟨w2.r, offF w w1 w2.F, rst w.S w1.S w2.S, w2.H⟩ := by
  have hl := g.slen
  have pre : ∃ t, w2.r = w.r ++ t := by
    obtain ⟨t, e⟩ := g.pre
    exact ⟨t, by rw [e, z.r]⟩
  have sF : Same w.F (offF w w1 w2.F) := fun a o e => by
    unfold offF
    split
    · rename_i q
      obtain ⟨n, e1, ⟨c, ec, hc⟩, _⟩ := q
      have := (hw.cell n a c e1 ec).free hc
      rw [this] at e
      cases e
    · exact g.F _ _ (z.go.F _ _ e)
  have rlen : w2.r.length = w2.S.length := g.wd.len
  have alv3 : ∀ {n : Nat}, alv (rst w.S w1.S w2.S) n → (w1.S[n]? = some .dead ∧ alv w.S n) ∨ ((w.S[n]? = none ∨ w1.S[n]? ≠ some .dead) ∧ alv w2.S n) := fun {n} ⟨c, e, hc⟩ => by
    rcases rst_get _ _ _ _ _ e with ⟨e1, e2⟩ | ⟨e1, e2⟩
    · exact .inl ⟨e1, c, e2, hc⟩
    · exact .inr ⟨e1, c, e2, hc⟩
  have alv_old : ∀ {n : Nat}, n < w.S.length → alv (rst w.S w1.S w2.S) n → alv w.S n := fun {n} hn h => by
    rcases alv3 h with ⟨_, q⟩ | ⟨_, q⟩
    · exact q
    · exact z.go.live n hn (g.live n (by rw [z.len]; exact hn) q)
  have alv_new : ∀ {n : Nat}, w.S.length ≤ n → alv (rst w.S w1.S w2.S) n → alv w2.S n := fun {n} hn h => by
    rcases alv3 h with ⟨_, c, e, _⟩ | ⟨_, q⟩
    · have := (List.getElem?_eq_some_iff.mp e).1
      omega
    · exact q
  refine ⟨⟨by rw [rst_length]; exact rlen, fun a o e => g.wd.same a o (offF_some e), fun n a c e1 e2 => ?_, fun n m a e1 e2 l1 l2 => ?_⟩, pre, hw.len, fun n hn q => alv_old hn q, fun n a hn e q => ?_, sF, fun a o e q => ?_, fun a e => ?_, fun a e f q => ?_⟩
  · show CellOk K w2.r (offF w w1 w2.F) w2.H a c
    rcases rst_get _ _ _ _ _ e2 with ⟨d1, d2⟩ | ⟨d1, d2⟩
    · by_cases hc : c = .dead
      · subst hc; exact trivial
      · have hn : n < w.S.length := (List.getElem?_eq_some_iff.mp d2).1
        have er : w.r[n]? = some a := pre_back pre (by rw [hw.len]; exact hn) e1
        have hx := hw.cell n a c er d2
        have lent : ∃ n : Nat, w.r[n]? = some a ∧ alv w.S n ∧ w1.S[n]? = some .dead := ⟨n, er, ⟨c, d2, hc⟩, d1⟩
        obtain ⟨vs, f2, h2⟩ := z.lent hw g lent
        have hn3 : offF w w1 w2.F a = none := by unfold offF; rw [if_pos lent]
        have hH : w2.H a = some (.lst vs) := g.wd.same _ _ f2
        refine hx.mono pre sF (fun _ _ => hn3) fun _ o e => ?_
        rw [h2] at e
        cases e
        exact hH
    · have hx := g.wd.cell n a c e1 d2
      have sc : Cn.sol c = true := List.all_eq_true.mp hs c (List.mem_of_getElem? d2)
      cases c with
      | dead => exact trivial
      | lst l =>
        obtain ⟨f, vs, h, p⟩ := hx
        exact ⟨offF_none f, vs, h, Rps.off z hw g l vs sc p⟩
      | dct kvs =>
        obtain ⟨f, vs, h, p⟩ := hx
        exact ⟨offF_none f, vs, h, RpK.off z hw g sc p⟩
  · have key : ∀ {n m : Nat}, w2.r[n]? = some a → w2.r[m]? = some a → alv (rst w.S w1.S w2.S) n → alv (rst w.S w1.S w2.S) m → n < w.S.length → w.S.length ≤ m → False := fun {n m} e1 e2 l1 l2 hn hm => by
      have er : w.r[n]? = some a := pre_back pre (by rw [hw.len]; exact hn) e1
      obtain ⟨c, ec, hc⟩ := alv_old hn l1
      obtain ⟨o, ho⟩ := (hw.cell n a c er ec).some hc
      have := g.new m a (by rw [z.len]; exact hm) e2 (alv_new hm l2)
      rw [z.H, ho] at this
      cases this
    by_cases hn : n < w.S.length
    · by_cases hm : m < w.S.length
      · exact hw.inj n m a (pre_back pre (by rw [hw.len]; exact hn) e1) (pre_back pre (by rw [hw.len]; exact hm) e2) (alv_old hn l1) (alv_old hm l2)
      · exact (key e1 e2 l1 l2 hn (Nat.le_of_not_lt hm)).elim
    · by_cases hm : m < w.S.length
      · exact (key e2 e1 l2 l1 hm (Nat.le_of_not_lt hn)).elim
      · exact g.wd.inj n m a e1 e2 (alv_new (Nat.le_of_not_lt hn) l1) (alv_new (Nat.le_of_not_lt hm) l2)
  · have := g.new n a (by rw [z.len]; exact hn) e (alv_new hn q)
    rwa [z.H] at this
  · refine g.fr a o (by rw [z.H]; exact e) fun n hn hl => ?_
    rw [z.r] at hn
    have hn2 : n < w.S.length := by rw [← hw.len]; exact (List.getElem?_eq_some_iff.mp hn).1
    exact q n hn (z.go.live n hn2 hl)
  · have := g.trk a e
    rwa [z.H] at this
  · refine offF_none (g.fnew a (by rw [z.H]; exact e) (z.go.fnew a e f q) fun n hn hl => ?_)
    rw [z.r] at hn
    have hn2 : n < w.S.length := by rw [← hw.len]; exact (List.getElem?_eq_some_iff.mp hn).1
    exact q n hn (z.go.live n hn2 hl)
theorem bor_sp {mg : Str → Option Value} {f : List D → M D} (vs : List V) (H : Hp) (Q : VK) (E : XK) (h : spD ⟨K, mg⟩ (bor f) vs H Q E) : spD ⟨K, mg⟩ f vs H Q E := by
  obtain ⟨w, ds, eH, hw, hr, hs⟩ := h
  unfold bor at hs
  cases o : mapS (dfz 60) ds w.S with
  | bad => simp only [o] at hs; exact hs.elim
  | exc x S => simp only [o] at hs; exact hs.elim
  | ok ds1 S1 =>
    simp only [o] at hs
    obtain ⟨w1, z, e1, r1⟩ := mapS_sat (fun hw hr h => dfz_sat 60 hw hr h) hw hr o
    subst e1
    refine ⟨w1, ds1, z.H.trans eH, z.go.wd, r1, ?_⟩
    cases o2 : f ds1 w1.S with
    | bad => simp only [o2] at hs; exact hs.elim
    | ok d S2 =>
      simp only [o2] at hs
      intro w2 v g e r
      subst e
      split at hs
      · rename_i c
        exact hs ⟨w2.r, offF w w1 w2.F, rst w.S w1.S w2.S, w2.H⟩ v (z.back hw g c.2) rfl (Rp.off z hw g d v c.1 r)
      · exact hs.elim
    | exc x S2 =>
      simp only [o2] at hs
      intro w2 cls dd g e q
      subst e
      split at hs
      · rename_i c
        refine hs ⟨w2.r, offF w w1 w2.F, rst w.S w1.S w2.S, w2.H⟩ cls dd (z.back hw g c) rfl ?_
        obtain ⟨C, c1, c2, c3⟩ := q
        refine ⟨C, c1, c2, ?_⟩
        show FldOk (offF w w1 w2.F) dd x.val
        cases q : x.val with
        | none => rw [q] at c3; exact c3
        | some y =>
          rw [q] at c3
          obtain ⟨f, i⟩ := y
          obtain ⟨b, b1, b2⟩ := c3
          exact ⟨b, b1, z.keep hw g b2 fun vs e => by cases e⟩
      · exact hs.elim
end
/-! ### things frozen all the way down -/
def xDfz (f : Env → M D) : Env → M D := fun e S => (f e S).bind (dfz 60)
theorem pd_dfz {X : Cx} {W : WX} {e : Expr} {f : Env → M D} (h : PD X W e f) : PD X W e (xDfz f) := by
  refine weakE h fun σ H Q ⟨w, env, eH, hw, he, hs⟩ => ?_
  refine ⟨w, env, eH, hw, he, SatW.imp (SatW.bind hs) fun w1 d v g1 r1 s1 => ?_⟩
  cases o : dfz 60 d w1.S with
  | bad => simp only [o] at s1; exact s1.elim
  | exc x S => 
    exfalso
    have : ∀ (n : Nat) (d : D) (S : Store) (x : Exn) (S' : Store), dfz n d S ≠ .exc x S' := by
      intro n
      induction n with
      | zero => intro d S x S' h; unfold dfz at h; cases h
      | succ n ih =>
        have ml : ∀ (l : List D) (S : Store) (x : Exn) (S' : Store), mapS (dfz n) l S ≠ .exc x S' := by
          intro l
          induction l with
          | nil => intro S x S' h; unfold mapS at h; cases h
          | cons d l il =>
            intro S x S' h
            unfold mapS at h
            cases o : dfz n d S with
            | bad => rw [o] at h; cases h
            | exc y S2 => exact ih _ _ _ _ o
            | ok d' S2 =>
              rw [o, Res.bind_ok] at h
              cases o2 : mapS (dfz n) l S2 with
              | bad => rw [o2] at h; cases h
              | exc y S3 => exact il _ _ _ o2
              | ok l' S3 => rw [o2, Res.bind_ok] at h; cases h
        have fin : ∀ (l : List D) (S : Store) (k : List D → Store → Res D) (hk : ∀ l S, ∃ d, k l S = .ok d S) (x : Exn) (S' : Store), (mapS (dfz n) l S).bind k ≠ .exc x S' := fun l S k hk x S' h => by
          cases o : mapS (dfz n) l S with
          | bad => rw [o] at h; cases h
          | exc y S2 => exact ml _ _ _ _ o
          | ok l' S2 =>
            obtain ⟨d, e⟩ := hk l' S2
            rw [o, Res.bind_ok, e] at h
            cases h
        intro d S x S' h
        unfold dfz at h
        cases d with
        | cell k =>
          cases e : S[k]? with
          | none => simp only [e] at h; cases h
          | some c =>
            cases c with
            | dead => simp only [e] at h; cases h
            | dct _ => simp only [e] at h; cases h
            | lst l => simp only [e] at h; exact fin _ _ _ (fun l S => ⟨_, rfl⟩) _ _ h
        | lst l => exact fin _ _ _ (fun l S => ⟨_, rfl⟩) _ _ h
        | tup l => exact fin _ _ _ (fun l S => ⟨_, rfl⟩) _ _ h
        | _ => cases h
    exact this _ _ _ _ _ o
  | ok d' S' =>
    obtain ⟨w2, z, e2, r2⟩ := dfz_sat 60 g1.wd r1 o
    simp only [o] at s1
    have := s1 w2 v z.go e2 r2
    show Q v w1.H
    rw [← z.H]
    exact this
/-! ### reckoning -/
section
variable {oo : Option D} {ll : Env} {S : Store} {f : Env → M D}
@[simp] theorem xDfz_app : xDfz f (oo :: ll) S = (f (oo :: ll) S).bind (dfz 60) := rfl
@[simp] theorem mapS_nil {g : D → Store → Res D} : mapS g [] S = .ok [] S := rfl
@[simp] theorem mapS_cons {g : D → Store → Res D} {d : D} {l : List D} : mapS g (d :: l) S = (g d S).bind fun d' S1 => (mapS g l S1).bind fun l' S2 => .ok (d' :: l') S2 := rfl
/-- things without cells stay as they are -/
def D.clr : Nat → D → Bool
  | 0, _ => false
  | n + 1, d => match d with
    | .cell _ => false
    | .lst l => l.all (D.clr n)
    | .tup l => l.all (D.clr n)
    | _ => true
theorem mapS_id {g : D → Store → Res D} : ∀ {l : List D}, (∀ d ∈ l, g d S = .ok d S) → mapS g l S = .ok l S
  | [], _ => rfl
  | d :: l, h => by
    rw [mapS_cons, h d (by simp), Res.bind_ok, mapS_id fun x hx => h x (by simp [hx])]
    rfl
theorem dfz_clr : ∀ (n : Nat) (d : D) (S : Store), D.clr n d = true → dfz n d S = .ok d S
  | 0, _, _, h => by simp [D.clr] at h
  | n + 1, d, S, h => by
    cases d with
    | cell k => simp [D.clr] at h
    | lst l =>
      have h' : l.all (D.clr n) = true := h
      show (mapS (dfz n) l S).bind _ = _
      rw [mapS_id fun x hx => dfz_clr n x S (List.all_eq_true.mp h' x hx)]
      rfl
    | tup l =>
      have h' : l.all (D.clr n) = true := h
      show (mapS (dfz n) l S).bind _ = _
      rw [mapS_id fun x hx => dfz_clr n x S (List.all_eq_true.mp h' x hx)]
      rfl
    | _ => rfl
theorem clr_ints (n : Nat) (l : List Int) : D.clr (n + 2) (.lst (l.map D.int)) = true := by
  show (l.map D.int).all (D.clr (n + 1)) = true
  rw [List.all_eq_true]
  intro x hx
  obtain ⟨i, _, rfl⟩ := List.mem_map.mp hx
  rfl
theorem bor_ok {g : List D → M D} {ds ds1 : List D} {S1 S2 : Store} {d : D} (h1 : mapS (dfz 60) ds S = .ok ds1 S1) (h2 : g ds1 S1 = .ok d S2) (h3 : D.sol d = true) (h4 : S2.all Cn.sol = true) : bor g ds S = .ok d (rst S S1 S2) := by
  unfold bor
  simp only [h1, h2, if_pos (⟨h3, h4⟩ : D.sol d = true ∧ S2.all Cn.sol = true)]
end
end Dv
/-! # Dv24: != of two empty dicts -/
namespace Dv
open PySem PySem.Spec PyProof.Rows L2
theorem op_ne0 {X : Cx} (hu : X.A.units + 64 < cLine) : OpR X (compareOp .NotEq) (fun x y H Q => ∃ a b, x = .ref a ∧ y = .ref b ∧ H a = some (.dK []) ∧ H b = some (.dK []) ∧ Q (.bl false) H) := by
  intro pins s σ H x y v u Q I rx ry h
  obtain ⟨a, b, rfl, rfl, ha, hb, q⟩ := h
  cases (show v = Value.ref a from rx)
  cases (show u = Value.ref b from ry)
  obtain ⟨_, ya, va, ra, da⟩ := (show ObjOk X.prog X.w H s.heap a (.dK []) from I.hok a _ ha)
  obtain ⟨_, yb, vb, rb, db⟩ := (show ObjOk X.prog X.w H s.heap b (.dK []) from I.hok b _ hb)
  cases ra
  cases rb
  refine PySem.W.keq_ne (knd := mixKind X.prog X.w) (r := true) ya yb da db (by omega) (fun _ => .nil) ⟨.bl false, H, I, rfl, q⟩
def dNeX (a b : D) (S : Store) : Res D := match cellK a S, cellK b S with
  | some (_, []), some (_, []) => .ok (.bl false) S
  | _, _ => dNe a b S
theorem od_neX {X : Cx} (hu : X.A.units + 64 < cLine) : OpD X (compareOp .NotEq) dNeX := by
  refine ⟨fun x y H Q => rNeD X.K x y H Q ∨ ∃ a b, x = .ref a ∧ y = .ref b ∧ H a = some (.dK []) ∧ H b = some (.dK []) ∧ Q (.bl false) H, ?_, ?_⟩
  · intro pins s σ H x y v u Q I rx ry h
    rcases h with h | h
    · exact op_neD hu pins s σ H x y v u Q I rx ry h
    · exact op_ne0 hu pins s σ H x y v u Q I rx ry h
  · intro w x y d e W σ Q hw r1 r2 hs
    have other : SatW (kt X) W σ (RD X.K) w (dNe d e w.S) (fun w' _ v => Q v w'.H) → rNeD X.K x y w.H Q := fun hs => by
      unfold dNe at hs
      split at hs
      · rename_i p q h1 h2
        exact ⟨p, q, toP_dp hw 60 d x p h1 r1, toP_dp hw 60 e y q h2 r2, shaped_of h1, shaped_of h2, SatW.here hs hw rpb⟩
      · exact hs.elim
    unfold dNeX at hs
    split at hs
    · rename_i n m e1 e2
      obtain ⟨rfl, f1⟩ := cellK_eq e1
      obtain ⟨rfl, f2⟩ := cellK_eq e2
      obtain ⟨a, wa, ea, ha, pa⟩ := cellK_read (T := kt X) hw r1 f1
      obtain ⟨b, wb, eb, hb, pb⟩ := cellK_read (T := kt X) hw r2 f2
      cases pa
      cases pb
      exact .inr ⟨a, b, ea, eb, ha, hb, SatW.here hs hw rpb⟩
    · exact .inl (other hs)
theorem dNeX_p {a b : D} {S : Store} (h : cellK a S = none) : dNeX a b S = dNe a b S := by unfold dNeX; simp only [h]
end Dv
namespace Lw
open PySem PySem.Spec PyProof.Rows L2 Dv
def topS (i : Nat) : Stmt := PySem.Challenge.pw_hideworth_k15_no_tables_refused.main.body.getD i (.Pass ⟨0, 0, 0, 0⟩)
/-! ### the text and its mirrors -/
def catchL : List (PySem.Str × PySem.Str × Bool) := [("NoNumber", "HideError", true), ("NoTable", "HideError", true), ("NoWeights", "HideError", true)]
def isL : List (PySem.Str × PySem.Str × Bool) := [(("NoNumber" : PySem.Str), ("NoBoxes" : PySem.Str), false), (("NoNumber" : PySem.Str), ("NoBudget" : PySem.Str), false), (("NoNumber" : PySem.Str), ("NoKind" : PySem.Str), false), (("NoNumber" : PySem.Str), ("NoName" : PySem.Str), false), (("NoNumber" : PySem.Str), ("NoNumber" : PySem.Str), true), (("NoNumber" : PySem.Str), ("NoOrder" : PySem.Str), false), (("NoNumber" : PySem.Str), ("NoPaper" : PySem.Str), false), (("NoNumber" : PySem.Str), ("NoPlan" : PySem.Str), false), (("NoNumber" : PySem.Str), ("NoPlay" : PySem.Str), false), (("NoNumber" : PySem.Str), ("NoRoad" : PySem.Str), false), (("NoNumber" : PySem.Str), ("NoRow" : PySem.Str), false), (("NoNumber" : PySem.Str), ("NoText" : PySem.Str), false), (("NoNumber" : PySem.Str), ("NoTree" : PySem.Str), false), (("NoNumber" : PySem.Str), ("NoTurns" : PySem.Str), false), (("NoNumber" : PySem.Str), ("NoWeb" : PySem.Str), false), (("NoNumber" : PySem.Str), ("NoWeights" : PySem.Str), false), (("NoNumber" : PySem.Str), ("TooGreat" : PySem.Str), false), (("NoNumber" : PySem.Str), ("NoTable" : PySem.Str), false), (("NoTable" : PySem.Str), ("NoBoxes" : PySem.Str), false), (("NoTable" : PySem.Str), ("NoBudget" : PySem.Str), false), (("NoTable" : PySem.Str), ("NoKind" : PySem.Str), false), (("NoTable" : PySem.Str), ("NoName" : PySem.Str), false), (("NoTable" : PySem.Str), ("NoNumber" : PySem.Str), false), (("NoTable" : PySem.Str), ("NoOrder" : PySem.Str), false), (("NoTable" : PySem.Str), ("NoPaper" : PySem.Str), false), (("NoTable" : PySem.Str), ("NoPlan" : PySem.Str), false), (("NoTable" : PySem.Str), ("NoPlay" : PySem.Str), false), (("NoTable" : PySem.Str), ("NoRoad" : PySem.Str), false), (("NoTable" : PySem.Str), ("NoRow" : PySem.Str), false), (("NoTable" : PySem.Str), ("NoText" : PySem.Str), false), (("NoTable" : PySem.Str), ("NoTree" : PySem.Str), false), (("NoTable" : PySem.Str), ("NoTurns" : PySem.Str), false), (("NoTable" : PySem.Str), ("NoWeb" : PySem.Str), false), (("NoTable" : PySem.Str), ("NoWeights" : PySem.Str), false), (("NoTable" : PySem.Str), ("TooGreat" : PySem.Str), false), (("NoTable" : PySem.Str), ("NoTable" : PySem.Str), true), (("NoWeights" : PySem.Str), ("NoBoxes" : PySem.Str), false), (("NoWeights" : PySem.Str), ("NoBudget" : PySem.Str), false), (("NoWeights" : PySem.Str), ("NoKind" : PySem.Str), false), (("NoWeights" : PySem.Str), ("NoName" : PySem.Str), false), (("NoWeights" : PySem.Str), ("NoNumber" : PySem.Str), false), (("NoWeights" : PySem.Str), ("NoOrder" : PySem.Str), false), (("NoWeights" : PySem.Str), ("NoPaper" : PySem.Str), false), (("NoWeights" : PySem.Str), ("NoPlan" : PySem.Str), false), (("NoWeights" : PySem.Str), ("NoPlay" : PySem.Str), false), (("NoWeights" : PySem.Str), ("NoRoad" : PySem.Str), false), (("NoWeights" : PySem.Str), ("NoRow" : PySem.Str), false), (("NoWeights" : PySem.Str), ("NoText" : PySem.Str), false), (("NoWeights" : PySem.Str), ("NoTree" : PySem.Str), false), (("NoWeights" : PySem.Str), ("NoTurns" : PySem.Str), false), (("NoWeights" : PySem.Str), ("NoWeb" : PySem.Str), false), (("NoWeights" : PySem.Str), ("NoWeights" : PySem.Str), true), (("NoWeights" : PySem.Str), ("TooGreat" : PySem.Str), false), (("NoWeights" : PySem.Str), ("NoTable" : PySem.Str), false)]
def raisedL : List PySem.Str := ["NoNumber", "NoTable", "NoWeights"]
@[simp] theorem catchL_NoNumber_HideError : subT catchL "NoNumber" "HideError" = some true := by decide +kernel
@[simp] theorem catchL_NoTable_HideError : subT catchL "NoTable" "HideError" = some true := by decide +kernel
@[simp] theorem catchL_NoWeights_HideError : subT catchL "NoWeights" "HideError" = some true := by decide +kernel
@[simp] theorem isL_NoNumber_NoBoxes : subT isL "NoNumber" "NoBoxes" = some false := by decide +kernel
@[simp] theorem isL_NoNumber_NoBudget : subT isL "NoNumber" "NoBudget" = some false := by decide +kernel
@[simp] theorem isL_NoNumber_NoKind : subT isL "NoNumber" "NoKind" = some false := by decide +kernel
@[simp] theorem isL_NoNumber_NoName : subT isL "NoNumber" "NoName" = some false := by decide +kernel
@[simp] theorem isL_NoNumber_NoNumber : subT isL "NoNumber" "NoNumber" = some true := by decide +kernel
@[simp] theorem isL_NoNumber_NoOrder : subT isL "NoNumber" "NoOrder" = some false := by decide +kernel
@[simp] theorem isL_NoNumber_NoPaper : subT isL "NoNumber" "NoPaper" = some false := by decide +kernel
@[simp] theorem isL_NoNumber_NoPlan : subT isL "NoNumber" "NoPlan" = some false := by decide +kernel
@[simp] theorem isL_NoNumber_NoPlay : subT isL "NoNumber" "NoPlay" = some false := by decide +kernel
@[simp] theorem isL_NoNumber_NoRoad : subT isL "NoNumber" "NoRoad" = some false := by decide +kernel
@[simp] theorem isL_NoNumber_NoRow : subT isL "NoNumber" "NoRow" = some false := by decide +kernel
@[simp] theorem isL_NoNumber_NoText : subT isL "NoNumber" "NoText" = some false := by decide +kernel
@[simp] theorem isL_NoNumber_NoTree : subT isL "NoNumber" "NoTree" = some false := by decide +kernel
@[simp] theorem isL_NoNumber_NoTurns : subT isL "NoNumber" "NoTurns" = some false := by decide +kernel
@[simp] theorem isL_NoNumber_NoWeb : subT isL "NoNumber" "NoWeb" = some false := by decide +kernel
@[simp] theorem isL_NoNumber_NoWeights : subT isL "NoNumber" "NoWeights" = some false := by decide +kernel
@[simp] theorem isL_NoNumber_TooGreat : subT isL "NoNumber" "TooGreat" = some false := by decide +kernel
@[simp] theorem isL_NoNumber_NoTable : subT isL "NoNumber" "NoTable" = some false := by decide +kernel
@[simp] theorem isL_NoTable_NoBoxes : subT isL "NoTable" "NoBoxes" = some false := by decide +kernel
@[simp] theorem isL_NoTable_NoBudget : subT isL "NoTable" "NoBudget" = some false := by decide +kernel
@[simp] theorem isL_NoTable_NoKind : subT isL "NoTable" "NoKind" = some false := by decide +kernel
@[simp] theorem isL_NoTable_NoName : subT isL "NoTable" "NoName" = some false := by decide +kernel
@[simp] theorem isL_NoTable_NoNumber : subT isL "NoTable" "NoNumber" = some false := by decide +kernel
@[simp] theorem isL_NoTable_NoOrder : subT isL "NoTable" "NoOrder" = some false := by decide +kernel
@[simp] theorem isL_NoTable_NoPaper : subT isL "NoTable" "NoPaper" = some false := by decide +kernel
@[simp] theorem isL_NoTable_NoPlan : subT isL "NoTable" "NoPlan" = some false := by decide +kernel
@[simp] theorem isL_NoTable_NoPlay : subT isL "NoTable" "NoPlay" = some false := by decide +kernel
@[simp] theorem isL_NoTable_NoRoad : subT isL "NoTable" "NoRoad" = some false := by decide +kernel
@[simp] theorem isL_NoTable_NoRow : subT isL "NoTable" "NoRow" = some false := by decide +kernel
@[simp] theorem isL_NoTable_NoText : subT isL "NoTable" "NoText" = some false := by decide +kernel
@[simp] theorem isL_NoTable_NoTree : subT isL "NoTable" "NoTree" = some false := by decide +kernel
@[simp] theorem isL_NoTable_NoTurns : subT isL "NoTable" "NoTurns" = some false := by decide +kernel
@[simp] theorem isL_NoTable_NoWeb : subT isL "NoTable" "NoWeb" = some false := by decide +kernel
@[simp] theorem isL_NoTable_NoWeights : subT isL "NoTable" "NoWeights" = some false := by decide +kernel
@[simp] theorem isL_NoTable_TooGreat : subT isL "NoTable" "TooGreat" = some false := by decide +kernel
@[simp] theorem isL_NoTable_NoTable : subT isL "NoTable" "NoTable" = some true := by decide +kernel
@[simp] theorem isL_NoWeights_NoBoxes : subT isL "NoWeights" "NoBoxes" = some false := by decide +kernel
@[simp] theorem isL_NoWeights_NoBudget : subT isL "NoWeights" "NoBudget" = some false := by decide +kernel
@[simp] theorem isL_NoWeights_NoKind : subT isL "NoWeights" "NoKind" = some false := by decide +kernel
@[simp] theorem isL_NoWeights_NoName : subT isL "NoWeights" "NoName" = some false := by decide +kernel
@[simp] theorem isL_NoWeights_NoNumber : subT isL "NoWeights" "NoNumber" = some false := by decide +kernel
@[simp] theorem isL_NoWeights_NoOrder : subT isL "NoWeights" "NoOrder" = some false := by decide +kernel
@[simp] theorem isL_NoWeights_NoPaper : subT isL "NoWeights" "NoPaper" = some false := by decide +kernel
@[simp] theorem isL_NoWeights_NoPlan : subT isL "NoWeights" "NoPlan" = some false := by decide +kernel
@[simp] theorem isL_NoWeights_NoPlay : subT isL "NoWeights" "NoPlay" = some false := by decide +kernel
@[simp] theorem isL_NoWeights_NoRoad : subT isL "NoWeights" "NoRoad" = some false := by decide +kernel
@[simp] theorem isL_NoWeights_NoRow : subT isL "NoWeights" "NoRow" = some false := by decide +kernel
@[simp] theorem isL_NoWeights_NoText : subT isL "NoWeights" "NoText" = some false := by decide +kernel
@[simp] theorem isL_NoWeights_NoTree : subT isL "NoWeights" "NoTree" = some false := by decide +kernel
@[simp] theorem isL_NoWeights_NoTurns : subT isL "NoWeights" "NoTurns" = some false := by decide +kernel
@[simp] theorem isL_NoWeights_NoWeb : subT isL "NoWeights" "NoWeb" = some false := by decide +kernel
@[simp] theorem isL_NoWeights_NoWeights : subT isL "NoWeights" "NoWeights" = some true := by decide +kernel
@[simp] theorem isL_NoWeights_TooGreat : subT isL "NoWeights" "TooGreat" = some false := by decide +kernel
@[simp] theorem isL_NoWeights_NoTable : subT isL "NoWeights" "NoTable" = some false := by decide +kernel
@[simp] theorem raised_NoNumber : ("NoNumber" : PySem.Str) ∈ raisedL := by decide +kernel
@[simp] theorem raised_NoTable : ("NoTable" : PySem.Str) ∈ raisedL := by decide +kernel
@[simp] theorem raised_NoWeights : ("NoWeights" : PySem.Str) ∈ raisedL := by decide +kernel
abbrev s_divisor : Stmt := topS 21
theorem sc_divisor : FnScope ["one", "other"] ["one", "other"] (defScope s_divisor) := ⟨rfl, rfl, rfl, by decide +kernel, rfl, by decide +kernel, by decide +kernel⟩
noncomputable def b_divisor : Dv.Env → Store → Out :=
  (ySeq (ySet 0 (xFn bAbs (xCons (xVar 0) xNil)))
    (ySeq (ySet 1 (xFn bAbs (xCons (xVar 1) xNil)))
    (ySeq (yWhile (xIsT (xOp dNe (xVar 1) (xC (.int 0)))) (yPar 0 1 (xCons (xVar 1) (xCons (xOp dMod (xVar 0) (xVar 1)) xNil))))
    (yRet (xVar 0)))))
noncomputable def F_divisor : List D → M D := fnD 2 2 false b_divisor
abbrev s_ratio : Stmt := topS 22
theorem sc_ratio : FnScope ["top", "bottom", "by"] ["top", "bottom"] (defScope s_ratio) := ⟨rfl, rfl, rfl, by decide +kernel, rfl, by decide +kernel, by decide +kernel⟩
noncomputable def b_ratio : Dv.Env → Store → Out :=
  (ySeq (yIf (xIsT (xOp dEq (xVar 1) (xC (.int 0)))) (yRaise ("NoNumber" : PySem.Str)) yNil)
    (ySeq (ySet 2 (xFn F_divisor (xCons (xVar 0) (xCons (xVar 1) xNil))))
    (ySeq (yIf (xIsT (xOp dLt (xVar 1) (xC (.int 0)))) (ySet 2 (xOp dSub (xC (.int 0)) (xVar 2))) yNil)
    (yRet (xTup (xCons (xOp dFdiv (xVar 0) (xVar 2)) (xCons (xOp dFdiv (xVar 1) (xVar 2)) xNil)))))))
noncomputable def F_ratio : List D → M D := fnD 2 3 false b_ratio
abbrev s_is_number : Stmt := topS 25
theorem sc_is_number : FnScope ["thing"] ["thing"] (defScope s_is_number) := ⟨rfl, rfl, rfl, by decide +kernel, rfl, by decide +kernel, by decide +kernel⟩
noncomputable def b_is_number : Dv.Env → Store → Out :=
  (yRet (xAndV (xFn bIsi (xCons (xVar 0) (xCons (xC (.raw (.ty "int"))) xNil))) (xNotV (xFn bIsi (xCons (xVar 0) (xCons (xC (.raw (.ty "bool"))) xNil))))))
noncomputable def F_is_number : List D → M D := fnD 1 1 false b_is_number
abbrev s_are_numbers : Stmt := topS 26
theorem sc_are_numbers : FnScope ["thing", "many", "number"] ["thing", "many"] (defScope s_are_numbers) := ⟨rfl, rfl, rfl, by decide +kernel, rfl, by decide +kernel, by decide +kernel⟩
noncomputable def b_are_numbers : Dv.Env → Store → Out :=
  (ySeq (yIf (xOr (xNot (xTru (xFn bIsi (xCons (xVar 0) (xCons (xC (.raw (.ty "list"))) xNil))))) (xIsT (xOp dNe (xFn bLen (xCons (xVar 0) xNil)) (xVar 1)))) (yRet (xC (.bl false))) yNil)
    (yRet (xOp dEq (xFn bLen (xCons (xLc mkF (iSrc srcL (xVar 0)) (eN 2) (xNot (xTru (xFn F_is_number (xCons (xVar 2) xNil)))) (xVar 2) [2]) xNil)) (xC (.int 0)))))
noncomputable def F_are_numbers : List D → M D := fnD 2 3 false b_are_numbers
abbrev s_are_weights : Stmt := topS 27
theorem sc_are_weights : FnScope ["thing", "many"] ["thing", "many"] (defScope s_are_weights) := ⟨rfl, rfl, rfl, by decide +kernel, rfl, by decide +kernel, by decide +kernel⟩
noncomputable def b_are_weights : Dv.Env → Store → Out :=
  (yRet (xAndV (xFn F_are_numbers (xCons (xVar 0) (xCons (xVar 1) xNil))) (xAndV (xOp dGe (xFn bMin (xCons (xVar 0) xNil)) (xC (.int 0))) (xOp dGt (xFn bMax (xCons (xVar 0) xNil)) (xC (.int 0))))))
noncomputable def F_are_weights : List D → M D := fnD 2 2 false b_are_weights
abbrev s_must_be_table : Stmt := topS 28
theorem sc_must_be_table : FnScope ["table", "many", "row"] ["table"] (defScope s_must_be_table) := ⟨rfl, rfl, rfl, by decide +kernel, rfl, by decide +kernel, by decide +kernel⟩
noncomputable def b_must_be_table : Dv.Env → Store → Out :=
  (ySeq (yIf (xOr (xNot (xTru (xFn bIsi (xCons (xVar 0) (xCons (xC (.raw (.ty "list"))) xNil))))) (xOr (xIsT (xOp dLt (xFn bLen (xCons (xVar 0) xNil)) (xC (.int 1)))) (xOr (xIsT (xOp dGt (xFn bLen (xCons (xVar 0) xNil)) (xC (.int 12)))) (xNot (xTru (xFn bIsi (xCons (xOp dIx (xVar 0) (xC (.int 0))) (xCons (xC (.raw (.ty "list"))) xNil)))))))) (yRaise ("NoTable" : PySem.Str)) yNil)
    (ySeq (ySet 1 (xFn bLen (xCons (xOp dIx (xVar 0) (xC (.int 0))) xNil)))
    (yIf (xOr (xIsT (xOp dLt (xVar 1) (xC (.int 1)))) (xOr (xIsT (xOp dGt (xVar 1) (xC (.int 12)))) (xIsT (xOp dGt (xFn bLen (xCons (xLc mkF (iSrc srcL (xVar 0)) (eN 2) (xNot (xTru (xFn F_are_numbers (xCons (xVar 2) (xCons (xVar 1) xNil))))) (xVar 2) [2]) xNil)) (xC (.int 0)))))) (yRaise ("NoTable" : PySem.Str)) yNil)))
noncomputable def F_must_be_table : List D → M D := fnD 1 3 false b_must_be_table
abbrev s_least_share : Stmt := topS 29
theorem sc_least_share : FnScope ["lines", "enter", "kept", "best", "r", "one", "other"] ["lines", "enter", "kept"] (defScope s_least_share) := ⟨rfl, rfl, rfl, by decide +kernel, rfl, by decide +kernel, by decide +kernel⟩
noncomputable def b_least_share : Dv.Env → Store → Out :=
  (ySeq (ySet 3 (xC .non))
    (ySeq (yFor (iSrcA srcR1 (xCons (xFn bLen (xCons (xVar 0) xNil)) xNil)) (gN 4) (yIf (xIsT (xOp dGt (xOp dIx (xOp dIx (xVar 0) (xVar 4)) (xVar 1)) (xC (.int 0)))) (ySeq (yIf (xIsT (xOp dIsN (xVar 3) (xC .non))) (ySet 3 (xVar 4)) yNil)
    (ySeq (ySet 5 (xOp (dMul mkF) (xOp dIx (xOp dIx (xVar 0) (xVar 4)) (xUn dNeg (xC (.int 1)))) (xOp dIx (xOp dIx (xVar 0) (xVar 3)) (xVar 1))))
    (ySeq (ySet 6 (xOp (dMul mkF) (xOp dIx (xOp dIx (xVar 0) (xVar 3)) (xUn dNeg (xC (.int 1)))) (xOp dIx (xOp dIx (xVar 0) (xVar 4)) (xVar 1))))
    (yIf (xOr (xIsT (xOp dLt (xVar 5) (xVar 6))) (xAnd (xIsT (xOp dEq (xVar 5) (xVar 6))) (xIsT (xOp dLt (xOp dIx (xVar 2) (xVar 4)) (xOp dIx (xVar 2) (xVar 3)))))) (ySet 3 (xVar 4)) yNil)))) yNil))
    (yRet (xVar 3))))
noncomputable def F_least_share : List D → M D := fnD 3 7 false b_least_share
abbrev s_pivoted : Stmt := topS 30
theorem sc_pivoted : FnScope ["line", "other", "enter", "last", "a", "b", "k"] ["line", "other", "enter", "last"] (defScope s_pivoted) := ⟨rfl, rfl, rfl, by decide +kernel, rfl, by decide +kernel, by decide +kernel⟩
noncomputable def b_pivoted : Dv.Env → Store → Out :=
  (ySeq (ySet 4 (xOp dIx (xVar 1) (xVar 2)))
    (ySeq (ySet 5 (xOp dIx (xVar 0) (xVar 2)))
    (yRet (xLc mkF (iSrcA srcR1 (xCons (xFn bLen (xCons (xVar 0) xNil)) xNil)) (eN 6) cYes (xOp dFdiv (xOp dSub (xOp (dMul mkF) (xOp dIx (xVar 0) (xVar 6)) (xVar 4)) (xOp (dMul mkF) (xOp dIx (xVar 1) (xVar 6)) (xVar 5))) (xVar 3)) [6]))))
noncomputable def F_pivoted : List D → M D := fnD 4 7 false b_pivoted
abbrev s_gone_through : Stmt := topS 31
theorem sc_gone_through : FnScope ["lines", "gain", "many", "kept", "last", "enter", "at", "pivot", "r", "k"] ["lines", "gain"] (defScope s_gone_through) := ⟨rfl, rfl, rfl, by decide +kernel, rfl, by decide +kernel, by decide +kernel⟩
noncomputable def b_gone_through : Dv.Env → Store → Out :=
  (ySeq (ySet 2 (xOp dSub (xOp dSub (xFn bLen (xCons (xVar 1) xNil)) (xC (.int 1))) (xFn bLen (xCons (xVar 0) xNil))))
    (ySeq (ySet 3 (xLc mkC (iSrcA srcR1 (xCons (xFn bLen (xCons (xVar 0) xNil)) xNil)) (eN 8) cYes (xOp (dAdd mkF) (xVar 2) (xVar 8)) [8]))
    (ySeq (ySet 4 (xC (.int 1)))
    (ySeq (yWhile (xIsT (xOp dLt (xFn bMin (xCons (xSl mkF (xVar 1) oNone (oSome (xUn dNeg (xC (.int 1))))) xNil)) (xC (.int 0)))) (ySeq (ySet 5 (xOp dIx (xLc mkF (iSrcA srcR1 (xCons (xOp dSub (xFn bLen (xCons (xVar 1) xNil)) (xC (.int 1))) xNil)) (eN 9) (xIsT (xOp dLt (xOp dIx (xVar 1) (xVar 9)) (xC (.int 0)))) (xVar 9) [9]) (xC (.int 0))))
    (ySeq (ySet 6 (xFn F_least_share (xCons (xVar 0) (xCons (xVar 5) (xCons (xVar 3) xNil)))))
    (ySeq (ySet 7 (xOp dIx (xVar 0) (xVar 6)))
    (ySeq (yFor (iSrcA srcR1 (xCons (xFn bLen (xCons (xVar 0) xNil)) xNil)) (gN 8) (yIf (xIsT (xOp dNe (xVar 8) (xVar 6))) (ySub (xFn F_pivoted (xCons (xOp dIx (xVar 0) (xVar 8)) (xCons (xVar 7) (xCons (xVar 5) (xCons (xVar 4) xNil))))) (xVar 0) (xVar 8) setL) yNil))
    (ySeq (ySet 1 (xFn F_pivoted (xCons (xVar 1) (xCons (xVar 7) (xCons (xVar 5) (xCons (xVar 4) xNil))))))
    (ySeq (ySet 4 (xOp dIx (xVar 7) (xVar 5)))
    (ySub (xVar 5) (xVar 3) (xVar 6) setL))))))))
    (yRet (xTup (xCons (xVar 0) (xCons (xVar 3) (xCons (xVar 1) (xCons (xVar 4) xNil))))))))))
noncomputable def F_gone_through : List D → M D := fnD 2 10 true b_gone_through
abbrev s_lessened : Stmt := topS 32
theorem sc_lessened : FnScope ["weights", "part", "weight"] ["weights"] (defScope s_lessened) := ⟨rfl, rfl, rfl, by decide +kernel, rfl, by decide +kernel, by decide +kernel⟩
noncomputable def b_lessened : Dv.Env → Store → Out :=
  (ySeq (ySet 1 (xC (.int 0)))
    (ySeq (yFor (iSrc srcL (xVar 0)) (gN 2) (ySet 1 (xFn F_divisor (xCons (xVar 1) (xCons (xVar 2) xNil)))))
    (yRet (xLc mkF (iSrc srcL (xVar 0)) (eN 2) cYes (xOp dFdiv (xVar 2) (xVar 1)) [2]))))
noncomputable def F_lessened : List D → M D := fnD 1 3 false b_lessened
abbrev s_solved : Stmt := topS 33
theorem sc_solved : FnScope ["table", "wide", "more", "lines", "j", "rows", "r", "columns", "kept", "gain", "last", "row", "k"] ["table"] (defScope s_solved) := ⟨rfl, rfl, rfl, by decide +kernel, rfl, by decide +kernel, by decide +kernel⟩
noncomputable def b_solved : Dv.Env → Store → Out :=
  (ySeq (ySet 1 (xFn bLen (xCons (xOp dIx (xVar 0) (xC (.int 0))) xNil)))
    (ySeq (ySet 2 (xOp dSub (xC (.int 1)) (xFn bMin (xCons (xLc mkF (iSrc srcL (xVar 0)) (eN 11) cYes (xFn bMin (xCons (xVar 11) xNil)) [11]) xNil))))
    (ySeq (ySet 3 (xLst mkC xNil))
    (ySeq (yFor (iSrcA srcR1 (xCons (xVar 1) xNil)) (gN 4) (yExpr (xMt "list" mAppend (xVar 3) (xCons (xOp (dAdd mkF) (xOp (dAdd mkF) (xLc mkF (iSrc srcL (xVar 0)) (eN 11) cYes (xOp (dAdd mkF) (xOp dIx (xVar 11) (xVar 4)) (xVar 2)) [11]) (xLc mkF (iSrcA srcR1 (xCons (xVar 1) xNil)) (eN 12) cYes (xFn bInt (xCons (xOp dEq (xVar 12) (xVar 4)) xNil)) [12])) (xLst mkF (xCons (xC (.int 1)) xNil))) xNil))))
    (ySeq (yAsg (xFn F_gone_through (xCons (xVar 3) (xCons (xOp (dAdd mkF) (xOp (dMul mkF) (xLst mkF (xCons (xUn dNeg (xC (.int 1))) xNil)) (xFn bLen (xCons (xVar 0) xNil))) (xOp (dMul mkF) (xLst mkF (xCons (xC (.int 0)) xNil)) (xOp (dAdd mkF) (xVar 1) (xC (.int 1))))) xNil))) (fun d e S => match (gT 4 (gsCons (gN 3) (gsCons (gN 8) (gsCons (gN 9) (gsCons (gN 10) gsNil))))) d e S with | .nx e' S' => .nx e' S' | _ => .bad))
    (ySeq (ySet 5 (xOp (dMul mkC) (xLst mkF (xCons (xC (.int 0)) xNil)) (xFn bLen (xCons (xVar 0) xNil))))
    (ySeq (ySeq (yFor (iSrcA srcR1 (xCons (xVar 1) xNil)) (gN 6) (yIf (xIsT (xOp dLt (xOp dIx (xVar 8) (xVar 6)) (xFn bLen (xCons (xVar 0) xNil)))) (ySub (xOp dIx (xOp dIx (xVar 3) (xVar 6)) (xUn dNeg (xC (.int 1)))) (xVar 5) (xOp dIx (xVar 8) (xVar 6)) setL) yNil)) (frzE 5))
    (ySeq (ySet 7 (xSl mkF (xVar 9) (oSome (xFn bLen (xCons (xVar 0) xNil))) (oSome (xOp (dAdd mkF) (xFn bLen (xCons (xVar 0) xNil)) (xVar 1)))))
    (yRet (xTup (xCons (xFn F_ratio (xCons (xOp dSub (xVar 10) (xOp (dMul mkF) (xVar 2) (xOp dIx (xVar 9) (xUn dNeg (xC (.int 1)))))) (xCons (xOp dIx (xVar 9) (xUn dNeg (xC (.int 1)))) xNil))) (xCons (xFn F_lessened (xCons (xVar 5) xNil)) (xCons (xFn F_lessened (xCons (xVar 7) xNil)) xNil)))))))))))))
noncomputable def F_solved : List D → M D := fnD 1 13 false b_solved
abbrev s_table_worth : Stmt := topS 34
theorem sc_table_worth : FnScope ["table"] ["table"] (defScope s_table_worth) := ⟨rfl, rfl, rfl, by decide +kernel, rfl, by decide +kernel, by decide +kernel⟩
noncomputable def b_table_worth : Dv.Env → Store → Out :=
  (ySeq (yExpr (xFn F_must_be_table (xCons (xVar 0) xNil)))
    (yRet (xFn F_solved (xCons (xVar 0) xNil))))
noncomputable def F_table_worth : List D → M D := fnD 1 1 false b_table_worth
abbrev s_column_sum : Stmt := topS 35
theorem sc_column_sum : FnScope ["table", "rows", "j", "i"] ["table", "rows", "j"] (defScope s_column_sum) := ⟨rfl, rfl, rfl, by decide +kernel, rfl, by decide +kernel, by decide +kernel⟩
noncomputable def b_column_sum : Dv.Env → Store → Out :=
  (yRet (xFn bSum (xCons (xLc mkF (iSrcA srcR1 (xCons (xFn bLen (xCons (xVar 0) xNil)) xNil)) (eN 3) cYes (xOp (dMul mkF) (xOp dIx (xVar 1) (xVar 3)) (xOp dIx (xOp dIx (xVar 0) (xVar 3)) (xVar 2))) [3]) xNil)))
noncomputable def F_column_sum : List D → M D := fnD 3 4 false b_column_sum
abbrev s_row_sum : Stmt := topS 36
theorem sc_row_sum : FnScope ["table", "columns", "i", "j"] ["table", "columns", "i"] (defScope s_row_sum) := ⟨rfl, rfl, rfl, by decide +kernel, rfl, by decide +kernel, by decide +kernel⟩
noncomputable def b_row_sum : Dv.Env → Store → Out :=
  (yRet (xFn bSum (xCons (xLc mkF (iSrcA srcR1 (xCons (xFn bLen (xCons (xVar 1) xNil)) xNil)) (eN 3) cYes (xOp (dMul mkF) (xOp dIx (xVar 1) (xVar 3)) (xOp dIx (xOp dIx (xVar 0) (xVar 2)) (xVar 3))) [3]) xNil)))
noncomputable def F_row_sum : List D → M D := fnD 3 4 false b_row_sum
abbrev s_table_judged : Stmt := topS 37
theorem sc_table_judged : FnScope ["table", "worth", "rows", "columns", "j", "i", "top", "bottom"] ["table", "worth", "rows", "columns"] (defScope s_table_judged) := ⟨rfl, rfl, rfl, by decide +kernel, rfl, by decide +kernel, by decide +kernel⟩
noncomputable def b_table_judged : Dv.Env → Store → Out :=
  (ySeq (yExpr (xFn F_must_be_table (xCons (xVar 0) xNil)))
    (ySeq (yAsg (xVar 1) (fun d e S => match (gT 2 (gsCons (gN 6) (gsCons (gN 7) gsNil))) d e S with | .nx e' S' => .nx e' S' | _ => .bad))
    (ySeq (yIf (xNot (xTru (xFn F_are_weights (xCons (xVar 2) (xCons (xFn bLen (xCons (xVar 0) xNil)) xNil))))) (yRet (xTup (xCons (xC (.str ("rows" : PySem.Str))) xNil))) yNil)
    (ySeq (yIf (xNot (xTru (xFn F_are_weights (xCons (xVar 3) (xCons (xFn bLen (xCons (xOp dIx (xVar 0) (xC (.int 0))) xNil)) xNil))))) (yRet (xTup (xCons (xC (.str ("columns" : PySem.Str))) xNil))) yNil)
    (ySeq (yFor (iSrcA srcR1 (xCons (xFn bLen (xCons (xVar 3) xNil)) xNil)) (gN 4) (yIf (xIsT (xOp dGt (xOp (dMul mkF) (xFn F_column_sum (xCons (xVar 0) (xCons (xVar 2) (xCons (xVar 4) xNil)))) (xVar 7)) (xOp (dMul mkF) (xVar 6) (xFn bSum (xCons (xVar 2) xNil))))) (yRet (xTup (xCons (xC (.str ("column" : PySem.Str))) (xCons (xVar 4) xNil)))) yNil))
    (ySeq (yFor (iSrcA srcR1 (xCons (xFn bLen (xCons (xVar 2) xNil)) xNil)) (gN 5) (yIf (xIsT (xOp dLt (xOp (dMul mkF) (xFn F_row_sum (xCons (xVar 0) (xCons (xVar 3) (xCons (xVar 5) xNil)))) (xVar 7)) (xOp (dMul mkF) (xVar 6) (xFn bSum (xCons (xVar 3) xNil))))) (yRet (xTup (xCons (xC (.str ("row" : PySem.Str))) (xCons (xVar 5) xNil)))) yNil))
    (yRet (xC .non))))))))
noncomputable def F_table_judged : List D → M D := fnD 4 8 false b_table_judged
abbrev s_best_rows : Stmt := topS 38
theorem sc_best_rows : FnScope ["table", "columns", "sums", "i"] ["table", "columns"] (defScope s_best_rows) := ⟨rfl, rfl, rfl, by decide +kernel, rfl, by decide +kernel, by decide +kernel⟩
noncomputable def b_best_rows : Dv.Env → Store → Out :=
  (ySeq (yExpr (xFn F_must_be_table (xCons (xVar 0) xNil)))
    (ySeq (yIf (xNot (xTru (xFn F_are_weights (xCons (xVar 1) (xCons (xFn bLen (xCons (xOp dIx (xVar 0) (xC (.int 0))) xNil)) xNil))))) (yRaise ("NoWeights" : PySem.Str)) yNil)
    (ySeq (ySet 2 (xLc mkF (iSrcA srcR1 (xCons (xFn bLen (xCons (xVar 0) xNil)) xNil)) (eN 3) cYes (xFn F_row_sum (xCons (xVar 0) (xCons (xVar 1) (xCons (xVar 3) xNil)))) [3]))
    (yRet (xLc mkF (iSrcA srcR1 (xCons (xFn bLen (xCons (xVar 2) xNil)) xNil)) (eN 3) (xIsT (xOp dEq (xOp dIx (xVar 2) (xVar 3)) (xFn bMin (xCons (xVar 2) xNil)))) (xVar 3) [3])))))
noncomputable def F_best_rows : List D → M D := fnD 2 4 false b_best_rows
abbrev s_best_columns : Stmt := topS 39
theorem sc_best_columns : FnScope ["table", "rows", "sums", "j"] ["table", "rows"] (defScope s_best_columns) := ⟨rfl, rfl, rfl, by decide +kernel, rfl, by decide +kernel, by decide +kernel⟩
noncomputable def b_best_columns : Dv.Env → Store → Out :=
  (ySeq (yExpr (xFn F_must_be_table (xCons (xVar 0) xNil)))
    (ySeq (yIf (xNot (xTru (xFn F_are_weights (xCons (xVar 1) (xCons (xFn bLen (xCons (xVar 0) xNil)) xNil))))) (yRaise ("NoWeights" : PySem.Str)) yNil)
    (ySeq (ySet 2 (xLc mkF (iSrcA srcR1 (xCons (xFn bLen (xCons (xOp dIx (xVar 0) (xC (.int 0))) xNil)) xNil)) (eN 3) cYes (xFn F_column_sum (xCons (xVar 0) (xCons (xVar 1) (xCons (xVar 3) xNil)))) [3]))
    (yRet (xLc mkF (iSrcA srcR1 (xCons (xFn bLen (xCons (xVar 2) xNil)) xNil)) (eN 3) (xIsT (xOp dEq (xOp dIx (xVar 2) (xVar 3)) (xFn bMax (xCons (xVar 2) xNil)))) (xVar 3) [3])))))
noncomputable def F_best_columns : List D → M D := fnD 2 4 false b_best_columns
abbrev s__law_mix : Stmt := topS 41
theorem sc__law_mix : FnScope ["_law_number", "_law_k", "_law_mixed"] ["_law_number", "_law_k"] (defScope s__law_mix) := ⟨rfl, rfl, rfl, by decide +kernel, rfl, by decide +kernel, by decide +kernel⟩
noncomputable def b__law_mix : Dv.Env → Store → Out :=
  (ySeq (ySet 2 (xOp dMod (xOp (dMul mkF) (xOp (dAdd mkF) (xOp (dAdd mkF) (xOp (dMul mkF) (xVar 0) (xVar 0)) (xOp (dMul mkF) (xVar 1) (xVar 0))) (xOp (dMul mkF) (xOp (dMul mkF) (xC (.int 7)) (xVar 1)) (xVar 1))) (xC (.int 1103515245))) (xC (.int 2147483629))))
    (yRet (xOp dMod (xOp (dMul mkF) (xVar 2) (xVar 2)) (xC (.int 2147483587)))))
noncomputable def F__law_mix : List D → M D := fnD 2 3 false b__law_mix
abbrev s__law_cell_at : Stmt := topS 42
theorem sc__law_cell_at : FnScope ["_law_script", "_law_k"] ["_law_script", "_law_k"] (defScope s__law_cell_at) := ⟨rfl, rfl, rfl, by decide +kernel, rfl, by decide +kernel, by decide +kernel⟩
noncomputable def b__law_cell_at : Dv.Env → Store → Out :=
  (ySeq (yIf (xIsT (xOp dLt (xVar 1) (xFn bLen (xCons (xVar 0) xNil)))) (yRet (xOp dIx (xVar 0) (xVar 1))) yNil)
    (yRet (xC (.int 0))))
noncomputable def F__law_cell_at : List D → M D := fnD 2 2 false b__law_cell_at
abbrev s__law_left : Stmt := topS 43
theorem sc__law_left : FnScope ["_law_script", "_law_k", "_law_cell"] ["_law_script", "_law_k"] (defScope s__law_left) := ⟨rfl, rfl, rfl, by decide +kernel, rfl, by decide +kernel, by decide +kernel⟩
noncomputable def b__law_left : Dv.Env → Store → Out :=
  (ySeq (ySet 2 (xFn F__law_cell_at (xCons (xVar 0) (xCons (xVar 1) xNil))))
    (ySeq (yIf (xIsT (xOp dLt (xVar 2) (xOp dPow (xC (.int 10)) (xC (.int 18))))) (yRet (xLst mkC (xCons (xVar 2) (xCons (xC (.int 0)) (xCons (xC (.int 0)) xNil))))) yNil)
    (yRet (xLst mkC (xCons (xOp dSub (xVar 2) (xOp dPow (xC (.int 10)) (xC (.int 18)))) (xCons (xC (.int 1)) (xCons (xC (.int 0)) xNil)))))))
noncomputable def F__law_left : List D → M D := fnD 2 3 true b__law_left
abbrev s__law_draw : Stmt := topS 44
theorem sc__law_draw : FnScope ["_law_left_here", "_law_base", "_law_digit", "_law_mixed"] ["_law_left_here", "_law_base"] (defScope s__law_draw) := ⟨rfl, rfl, rfl, by decide +kernel, rfl, by decide +kernel, by decide +kernel⟩
noncomputable def b__law_draw : Dv.Env → Store → Out :=
  (ySeq (ySub (xOp (dAdd mkF) (xOp dIx (xVar 0) (xC (.int 2))) (xC (.int 1))) (xVar 0) (xC (.int 2)) setL)
    (ySeq (yIf (xIsT (xOp dEq (xOp dIx (xVar 0) (xC (.int 1))) (xC (.int 0)))) (ySeq (ySet 3 (xFn F__law_mix (xCons (xOp dIx (xVar 0) (xC (.int 0))) (xCons (xOp dIx (xVar 0) (xC (.int 2))) xNil))))
    (yRet (xOp dMod (xOp dMod (xOp (dMul mkF) (xVar 3) (xOp (dAdd mkF) (xVar 3) (xC (.int 2)))) (xC (.int 2147483579))) (xVar 1)))) yNil)
    (ySeq (ySet 2 (xOp dMod (xOp dIx (xVar 0) (xC (.int 0))) (xVar 1)))
    (ySeq (ySub (xOp dFdiv (xOp dIx (xVar 0) (xC (.int 0))) (xVar 1)) (xVar 0) (xC (.int 0)) setL)
    (yRet (xVar 2))))))
noncomputable def F__law_draw : List D → M D := fnD 2 4 false b__law_draw
abbrev s__law_thing : Stmt := topS 45
theorem sc__law_thing : FnScope ["_law_left_here", "_law_table", "_law_wide", "_law_i", "_law_choice", "_law_bent", "_law_j"] ["_law_left_here"] (defScope s__law_thing) := ⟨rfl, rfl, rfl, by decide +kernel, rfl, by decide +kernel, by decide +kernel⟩
noncomputable def b__law_thing : Dv.Env → Store → Out :=
  (ySeq (ySet 1 (xLst mkC xNil))
    (ySeq (ySet 2 (xOp (dAdd mkF) (xC (.int 1)) (xFn F__law_draw (xCons (xVar 0) (xCons (xC (.int 3)) xNil)))))
    (ySeq (yFor (iSrcA srcR1 (xCons (xOp (dAdd mkF) (xC (.int 1)) (xFn F__law_draw (xCons (xVar 0) (xCons (xC (.int 3)) xNil)))) xNil)) (gN 3) (yExpr (xMt "list" mAppend (xVar 1) (xCons (xLc mkC (iSrcA srcR1 (xCons (xVar 2) xNil)) (eN 6) cYes (xOp dSub (xFn F__law_draw (xCons (xVar 0) (xCons (xC (.int 5)) xNil))) (xC (.int 2))) [6]) xNil))))
    (ySeq (ySet 3 (xFn F__law_draw (xCons (xVar 0) (xCons (xFn bLen (xCons (xVar 1) xNil)) xNil))))
    (ySeq (ySet 4 (xFn F__law_draw (xCons (xVar 0) (xCons (xC (.int 18)) xNil))))
    (ySeq (ySet 5 (xLst mkF (xCons (xLst mkF xNil) (xCons (xLst mkF (xCons (xLst mkF xNil) xNil)) (xCons (xOp (dAdd mkF) (xVar 1) (xLst mkF (xCons (xOp (dMul mkF) (xLst mkF (xCons (xC (.int 1)) xNil)) (xOp (dAdd mkF) (xVar 2) (xC (.int 1)))) xNil))) (xCons (xOp (dAdd mkF) (xOp (dAdd mkF) (xSl mkF (xVar 1) oNone (oSome (xVar 3))) (xLst mkF (xCons (xSl mkF (xOp dIx (xVar 1) (xVar 3)) (oSome (xC (.int 1))) oNone) xNil))) (xSl mkF (xVar 1) (oSome (xOp (dAdd mkF) (xVar 3) (xC (.int 1)))) oNone)) (xCons (xOp (dAdd mkF) (xVar 1) (xOp (dMul mkF) (xLst mkF (xCons (xLst mkF xNil) xNil)) (xC (.int 13)))) xNil)))))))
    (ySeq (ySet 5 (xOp (dAdd mkF) (xVar 5) (xLst mkF (xCons (xOp (dMul mkF) (xLst mkF (xCons (xOp (dMul mkF) (xLst mkF (xCons (xC (.int 0)) xNil)) (xVar 2)) xNil)) (xC (.int 12))) (xCons (xOp (dMul mkF) (xLst mkF (xCons (xOp (dMul mkF) (xLst mkF (xCons (xC (.int 0)) xNil)) (xVar 2)) xNil)) (xC (.int 13))) (xCons (xLst mkF (xCons (xOp (dMul mkF) (xLst mkF (xCons (xC (.int 1)) xNil)) (xC (.int 12))) xNil)) (xCons (xLst mkF (xCons (xOp (dMul mkF) (xLst mkF (xCons (xC (.int 1)) xNil)) (xC (.int 13))) xNil)) (xCons (xOp (dMul mkF) (xLst mkF (xCons (xLst mkF xNil) xNil)) (xC (.int 3))) (xCons (xFn bTuple (xCons (xVar 1) xNil)) xNil)))))))))
    (ySeq (yIf (xIsT (xOp dLt (xVar 4) (xC (.int 11)))) (yRet (xDfz (xOp dIx (xVar 5) (xVar 4)))) yNil)
    (ySeq (yIf (xIsT (xOp dLt (xVar 4) (xC (.int 15)))) (ySub (xOp dIx (xLst mkF (xCons (xC (.bl true)) (xCons (xC (.str ("1" : PySem.Str))) (xCons (xC .non) (xCons (xTup (xCons (xC (.int 1)) xNil)) xNil))))) (xOp dSub (xVar 4) (xC (.int 11)))) (xOp dIx (xVar 1) (xVar 3)) (xFn F__law_draw (xCons (xVar 0) (xCons (xVar 2) xNil))) setL) yNil)
    (ySeq (yIf (xIsT (xOp dEq (xVar 4) (xC (.int 15)))) (ySub (xOp dIx (xLst mkF (xCons (xFn bTuple (xCons (xOp dIx (xVar 1) (xVar 3)) xNil)) (xCons (xC .non) (xCons (xC (.int 7)) (xCons (xC (.str ("12" : PySem.Str))) xNil))))) (xFn F__law_draw (xCons (xVar 0) (xCons (xC (.int 4)) xNil)))) (xVar 1) (xVar 3) setL) yNil)
    (ySeq (yIf (xIsT (xOp dEq (xVar 4) (xC (.int 16)))) (yRet (xOp dIx (xLst mkF (xCons (xC .non) (xCons (xC (.int 5)) (xCons (xC (.str ("" : PySem.Str))) (xCons xDct0 xNil))))) (xFn F__law_draw (xCons (xVar 0) (xCons (xC (.int 4)) xNil))))) yNil)
    (yRet (xDfz (xVar 1))))))))))))))
noncomputable def F__law_thing : List D → M D := fnD 1 7 true b__law_thing
abbrev s__law_is_table : Stmt := topS 46
theorem sc__law_is_table : FnScope ["_law_thing_here", "_law_row", "_law_number"] ["_law_thing_here"] (defScope s__law_is_table) := ⟨rfl, rfl, rfl, by decide +kernel, rfl, by decide +kernel, by decide +kernel⟩
noncomputable def b__law_is_table : Dv.Env → Store → Out :=
  (ySeq (yIf (xOr (xNot (xTru (xFn bIsi (xCons (xVar 0) (xCons (xC (.raw (.ty "list"))) xNil))))) (xOr (xIsT (xOp dLt (xFn bLen (xCons (xVar 0) xNil)) (xC (.int 1)))) (xIsT (xOp dGt (xFn bLen (xCons (xVar 0) xNil)) (xC (.int 12)))))) (yRet (xC (.bl false))) yNil)
    (ySeq (yFor (iSrc srcL (xVar 0)) (gN 1) (ySeq (yIf (xOr (xNot (xTru (xFn bIsi (xCons (xVar 1) (xCons (xC (.raw (.ty "list"))) xNil))))) (xOr (xIsT (xOp dLt (xFn bLen (xCons (xVar 1) xNil)) (xC (.int 1)))) (xOr (xIsT (xOp dGt (xFn bLen (xCons (xVar 1) xNil)) (xC (.int 12)))) (xIsT (xOp dNe (xFn bLen (xCons (xVar 1) xNil)) (xFn bLen (xCons (xOp dIx (xVar 0) (xC (.int 0))) xNil))))))) (yRet (xC (.bl false))) yNil)
    (yFor (iSrc srcL (xVar 1)) (gN 2) (yIf (xOr (xTru (xFn bIsi (xCons (xVar 2) (xCons (xC (.raw (.ty "bool"))) xNil)))) (xNot (xTru (xFn bIsi (xCons (xVar 2) (xCons (xC (.raw (.ty "int"))) xNil)))))) (yRet (xC (.bl false))) yNil))))
    (yRet (xC (.bl true)))))
noncomputable def F__law_is_table : List D → M D := fnD 1 3 false b__law_is_table
abbrev s__law_refused : Stmt := topS 47
theorem sc__law_refused : FnScope ["_law_thing_here", "_law_which", "_law_caught", "e"] ["_law_thing_here", "_law_which"] (defScope s__law_refused) := ⟨rfl, rfl, rfl, by decide +kernel, rfl, by decide +kernel, by decide +kernel⟩
noncomputable def b__law_refused : Dv.Env → Store → Out :=
  (ySeq (ySet 2 (xC .non))
    (ySeq (yTryKeep catchL ("HideError" : PySem.Str) 3 2 (ySeq (yIf (xIsT (xOp dEq (xVar 1) (xC (.int 0)))) (yExpr (xFn F_table_worth (xCons (xVar 0) xNil))) yNil)
    (ySeq (yIf (xIsT (xOp dEq (xVar 1) (xC (.int 1)))) (yExpr (xFn F_table_judged (xCons (xVar 0) (xCons (xTup (xCons (xC (.int 0)) (xCons (xC (.int 1)) xNil))) (xCons (xLst mkF xNil) (xCons (xC .non) xNil)))))) yNil)
    (ySeq (yIf (xIsT (xOp dEq (xVar 1) (xC (.int 2)))) (yExpr (xFn F_best_rows (xCons (xVar 0) (xCons (xLst mkF xNil) xNil)))) yNil)
    (yIf (xIsT (xOp dEq (xVar 1) (xC (.int 3)))) (yExpr (xFn F_best_columns (xCons (xVar 0) (xCons (xLst mkF (xCons (xUn dNeg (xC (.int 1))) xNil)) xNil)))) yNil)))))
    (ySeq (yIf (xTru (xFn (bIsE isL raisedL) (xCons (xVar 2) (xCons (xTup (xCons (xC (.cls ("NoBoxes" : PySem.Str))) (xCons (xC (.cls ("NoBudget" : PySem.Str))) (xCons (xC (.cls ("NoKind" : PySem.Str))) (xCons (xC (.cls ("NoName" : PySem.Str))) (xCons (xC (.cls ("NoNumber" : PySem.Str))) (xCons (xC (.cls ("NoOrder" : PySem.Str))) (xCons (xC (.cls ("NoPaper" : PySem.Str))) (xCons (xC (.cls ("NoPlan" : PySem.Str))) (xCons (xC (.cls ("NoPlay" : PySem.Str))) xNil)))))))))) xNil)))) (yRet (xC (.bl false))) yNil)
    (ySeq (yIf (xTru (xFn (bIsE isL raisedL) (xCons (xVar 2) (xCons (xTup (xCons (xC (.cls ("NoRoad" : PySem.Str))) (xCons (xC (.cls ("NoRow" : PySem.Str))) (xCons (xC (.cls ("NoText" : PySem.Str))) (xCons (xC (.cls ("NoTree" : PySem.Str))) (xCons (xC (.cls ("NoTurns" : PySem.Str))) (xCons (xC (.cls ("NoWeb" : PySem.Str))) (xCons (xC (.cls ("NoWeights" : PySem.Str))) (xCons (xC (.cls ("TooGreat" : PySem.Str))) xNil))))))))) xNil)))) (yRet (xC (.bl false))) yNil)
    (yRet (xAndV (xFn (bIsE isL raisedL) (xCons (xVar 2) (xCons (xC (.cls ("NoTable" : PySem.Str))) xNil))) (xFn (bIsE isL raisedL) (xCons (xVar 2) (xCons (xC (.raw (.ty "ValueError"))) xNil)))))))))
noncomputable def F__law_refused : List D → M D := fnD 2 4 false b__law_refused
abbrev s_law : Stmt := topS 48
theorem sc_law : FnScope ["_law_script", "_law_cell", "_law_thing_here", "_law_kept", "_law_which"] ["_law_script"] (defScope s_law) := ⟨rfl, rfl, rfl, by decide +kernel, rfl, by decide +kernel, by decide +kernel⟩
noncomputable def b_law : Dv.Env → Store → Out :=
  (ySeq (yFor (iSrc srcL (xOp (dAdd mkF) (xLstRg1 mkF (xC (.int 18))) (xSl mkF (xVar 0) oNone (oSome (xC (.int 63)))))) (gN 1) (ySeq (ySet 2 (xFn F__law_thing (xCons (xFn F__law_left (xCons (xLst mkF (xCons (xVar 1) xNil)) (xCons (xC (.int 0)) xNil))) xNil)))
    (ySeq (ySet 3 (xFn F__law_thing (xCons (xFn F__law_left (xCons (xLst mkF (xCons (xVar 1) xNil)) (xCons (xC (.int 0)) xNil))) xNil)))
    (ySeq (yIf (xTru (xFn F__law_is_table (xCons (xVar 2) xNil))) (yIf (xIsT (xOp dNe (xFn bLen (xCons (xFn F_table_worth (xCons (xVar 2) xNil)) xNil)) (xC (.int 3)))) (yRet (xC (.bl false))) yNil) (yIf (xIsT (xOp dIn (xC (.bl false)) (xLc mkF (iSrcA srcR1 (xCons (xC (.int 4)) xNil)) (eN 4) cYes (xFn F__law_refused (xCons (xVar 2) (xCons (xVar 4) xNil))) [4]))) (yRet (xC (.bl false))) yNil))
    (yIf (xIsT (xOp dNeX (xVar 2) (xVar 3))) (yRet (xC (.bl false))) yNil)))))
    (yRet (xC (.bl true))))
noncomputable def F_law : List D → M D := fnD 1 5 false b_law
end Lw
namespace Sx
/-! sums -/
def sm : Nat → (Nat → Int) → Int
  | 0, _ => 0
  | n + 1, f => sm n f + f n
theorem sm_congr : ∀ {n : Nat} {f g : Nat → Int}, (∀ i, i < n → f i = g i) → sm n f = sm n g
  | 0, _, _, _ => rfl
  | n + 1, f, g, h => by
    unfold sm
    rw [sm_congr (n := n) fun i hi => h i (by omega), h n (by omega)]
theorem sm_add (f g : Nat → Int) : ∀ n, sm n (fun i => f i + g i) = sm n f + sm n g
  | 0 => rfl
  | n + 1 => by
    show sm n (fun i => f i + g i) + (f n + g n) = sm n f + f n + (sm n g + g n)
    rw [sm_add f g n]
    omega
theorem sm_mul (c : Int) (f : Nat → Int) : ∀ n, sm n (fun i => c * f i) = c * sm n f
  | 0 => by simp [sm]
  | n + 1 => by
    unfold sm
    rw [sm_mul c f n, Int.mul_add]
theorem sm_zero {f : Nat → Int} : ∀ {n : Nat}, (∀ i, i < n → f i = 0) → sm n f = 0
  | 0, _ => rfl
  | n + 1, h => by
    unfold sm
    rw [sm_zero (n := n) fun i hi => h i (by omega), h n (by omega)]
    rfl
theorem sm_one {f : Nat → Int} {k : Nat} : ∀ {n : Nat}, k < n → (∀ i, i < n → i ≠ k → f i = 0) → sm n f = f k
  | 0, h, _ => by omega
  | n + 1, h, h2 => by
    unfold sm
    by_cases q : k = n
    · subst q
      rw [sm_zero fun i hi => h2 i (by omega) (by omega)]
      omega
    · rw [sm_one (n := n) (by omega) fun i hi => h2 i (by omega), h2 n (by omega) (by omega)]
      omega
theorem sm_two {f : Nat → Int} {a b n : Nat} (ha : a < n) (hb : b < n) (hab : a ≠ b) (h : ∀ i, i < n → i ≠ a → i ≠ b → f i = 0) : sm n f = f a + f b := by
  have e : sm n f = sm n (fun i => (if i = a then f a else 0) + (if i = b then f b else 0)) := by
    refine sm_congr fun i hi => ?_
    by_cases q : i = a
    · subst q; rw [if_pos rfl, if_neg hab]; omega
    · by_cases q2 : i = b
      · subst q2; rw [if_neg q, if_pos rfl]; omega
      · rw [if_neg q, if_neg q2, h i hi q q2]; rfl
  rw [e, sm_add, sm_one ha fun i _ q => if_neg q, sm_one hb fun i _ q => if_neg q, if_pos rfl, if_pos rfl]
theorem sm_comm (f : Nat → Nat → Int) (m : Nat) : ∀ n, sm n (fun i => sm m (fun j => f i j)) = sm m (fun j => sm n (fun i => f i j))
  | 0 => (sm_zero (n := m) (f := fun j => sm 0 fun i => f i j) fun i _ => rfl).symm
  | n + 1 => by
    have := sm_add (fun j => sm n (fun i => f i j)) (fun j => f n j) m
    show sm n (fun i => sm m (fun j => f i j)) + sm m (fun j => f n j) = sm m (fun j => sm n (fun i => f i j) + f n j)
    rw [sm_comm f m n, ← this]
theorem sm_nonneg {f : Nat → Int} : ∀ {n : Nat}, (∀ i, i < n → 0 ≤ f i) → 0 ≤ sm n f
  | 0, _ => by simp [sm]
  | n + 1, h => by
    unfold sm
    have := sm_nonneg (n := n) fun i hi => h i (by omega)
    have := h n (by omega)
    omega
theorem sm_le {f g : Nat → Int} : ∀ {n : Nat}, (∀ i, i < n → f i ≤ g i) → sm n f ≤ sm n g
  | 0, _ => by simp [sm]
  | n + 1, h => by
    unfold sm
    have := sm_le (n := n) fun i hi => h i (by omega)
    have := h n (by omega)
    omega
/-- a sum of numbers from 0 on is no less than each -/
theorem sm_ge {f : Nat → Int} {n k : Nat} (hk : k < n) (h : ∀ i, i < n → 0 ≤ f i) : f k ≤ sm n f := by
  have e : sm n (fun i => if i = k then f k else 0) = f k := by rw [sm_one hk fun i _ q => if_neg q, if_pos rfl]
  rw [← e]
  refine sm_le fun i hi => ?_
  by_cases q : i = k
  · rw [if_pos q, q]; exact Int.le_refl _
  · rw [if_neg q]; exact h i hi
theorem sm_abs {f : Nat → Int} {K : Nat} : ∀ {n : Nat}, (∀ i, i < n → (f i).natAbs ≤ K) → (sm n f).natAbs ≤ n * K
  | 0, _ => by simp [sm]
  | n + 1, h => by
    unfold sm
    have h1 := sm_abs (n := n) fun i hi => h i (by omega)
    have h2 := h n (by omega)
    have h3 := Int.natAbs_add_le (sm n f) (f n)
    rw [Nat.succ_mul]
    omega

/-! determinants, by columns -/
abbrev Col := Nat → Int
def sgn (j : Nat) : Int := if j % 2 = 0 then 1 else -1
theorem sgn_succ (j : Nat) : sgn (j + 1) = - sgn j := by
  unfold sgn
  by_cases h : j % 2 = 0
  · rw [if_pos h, if_neg (by omega)]
  · rw [if_neg h, if_pos (by omega)]; rfl
theorem sgn_abs (j : Nat) : (sgn j).natAbs = 1 := by
  unfold sgn
  by_cases h : j % 2 = 0
  · rw [if_pos h]; rfl
  · rw [if_neg h]; rfl
def minr (j : Nat) (B : Nat → Col) : Nat → Col := fun c x => B (if c < j then c else c + 1) (x + 1)
def D : Nat → (Nat → Col) → Int
  | 0, _ => 1
  | W + 1, B => sm (W + 1) fun j => sgn j * B j 0 * D W (minr j B)
def upd (B : Nat → Col) (c : Nat) (u : Col) : Nat → Col := fun k => if k = c then u else B k
theorem upd_same (B : Nat → Col) (c : Nat) (u : Col) : upd B c u c = u := if_pos rfl
theorem upd_ne (B : Nat → Col) {c k : Nat} (u : Col) (h : k ≠ c) : upd B c u k = B k := if_neg h
theorem upd_self (B : Nat → Col) (c : Nat) : upd B c (B c) = B := by
  funext k
  unfold upd
  by_cases q : k = c
  · rw [if_pos q, q]
  · rw [if_neg q]
theorem upd_comm (B : Nat → Col) {a b : Nat} (u v : Col) (h : a ≠ b) : upd (upd B a u) b v = upd (upd B b v) a u := by
  funext k
  unfold upd
  by_cases q : k = a
  · subst q; rw [if_neg h, if_pos rfl, if_pos rfl]
  · by_cases q2 : k = b
    · subst q2; rw [if_pos rfl, if_neg q, if_pos rfl]
    · rw [if_neg q2, if_neg q, if_neg q, if_neg q2]
theorem upd_upd (B : Nat → Col) (a : Nat) (u v : Col) : upd (upd B a u) a v = upd B a v := by
  funext k
  unfold upd
  by_cases q : k = a
  · rw [if_pos q, if_pos q]
  · rw [if_neg q, if_neg q, if_neg q]
theorem D_congr : ∀ {W : Nat} {A B : Nat → Col}, (∀ c, c < W → ∀ x, x < W → A c x = B c x) → D W A = D W B
  | 0, _, _, _ => rfl
  | W + 1, A, B, h => by
    unfold D
    refine sm_congr fun j hj => ?_
    rw [h j hj 0 (by omega), D_congr (A := minr j A) (B := minr j B) fun c hc x hx => by
      unfold minr
      exact h _ (by split <;> omega) _ (by omega)]
theorem minr_upd_same (B : Nat → Col) (j : Nat) (u : Col) : minr j (upd B j u) = minr j B := by
  funext c x
  unfold minr
  rw [upd_ne]
  split <;> omega
theorem minr_upd_ne (B : Nat → Col) {j c : Nat} (u : Col) (h : c ≠ j) : minr j (upd B c u) = upd (minr j B) (if c < j then c else c - 1) (fun x => u (x + 1)) := by
  funext k x
  unfold minr upd
  by_cases q : k = (if c < j then c else c - 1)
  · rw [if_pos q]
    have : (if k < j then k else k + 1) = c := by
      by_cases q2 : c < j
      · rw [if_pos q2] at q; rw [if_pos (by omega)]; exact q
      · rw [if_neg q2] at q; rw [if_neg (by omega)]; omega
    rw [if_pos this]
  · rw [if_neg q]
    have : (if k < j then k else k + 1) ≠ c := by
      by_cases q2 : c < j
      · rw [if_pos q2] at q; split <;> omega
      · rw [if_neg q2] at q; split <;> omega
    rw [if_neg this]
theorem D_lin : ∀ {W : Nat} (B : Nat → Col) {c : Nat} (_ : c < W) (a b : Int) (u v : Col), D W (upd B c (fun x => a * u x + b * v x)) = a * D W (upd B c u) + b * D W (upd B c v)
  | 0, _, _, h, _, _, _, _ => by omega
  | W + 1, B, c, h, a, b, u, v => by
    unfold D
    rw [← sm_mul, ← sm_mul, ← sm_add]
    refine sm_congr fun j hj => ?_
    by_cases q : c = j
    · subst q
      rw [minr_upd_same, minr_upd_same, minr_upd_same, upd_same, upd_same, upd_same]
      grind
    · rw [minr_upd_ne B _ q, minr_upd_ne B _ q, minr_upd_ne B _ q, upd_ne B _ (Ne.symm q), upd_ne B _ (Ne.symm q), upd_ne B _ (Ne.symm q)]
      have := D_lin (W := W) (minr j B) (c := if c < j then c else c - 1) (by split <;> omega) a b (fun x => u (x + 1)) (fun x => v (x + 1))
      rw [this]
      grind
theorem D_zero {W : Nat} (B : Nat → Col) {c : Nat} (h : c < W) : D W (upd B c (fun _ => 0)) = 0 := by
  have := D_lin B h 0 0 (fun _ => 0) (fun _ => 0)
  simpa using this
theorem D_sum {W : Nat} (B : Nat → Col) {c : Nat} (h : c < W) (t : Nat → Int) (V : Nat → Col) : ∀ n, D W (upd B c (fun x => sm n (fun r => t r * V r x))) = sm n (fun r => t r * D W (upd B c (V r)))
  | 0 => D_zero B h
  | n + 1 => by
    have := D_lin B h 1 (t n) (fun x => sm n (fun r => t r * V r x)) (V n)
    rw [D_sum B h t V n, Int.one_mul] at this
    unfold sm
    rw [← this]
    congr 2
    funext x
    rw [Int.one_mul]
theorem D_adj : ∀ {W : Nat} (B : Nat → Col) {c : Nat}, c + 1 < W → B c = B (c + 1) → D W B = 0
  | 0, _, _, h, _ => by omega
  | W + 1, B, c, h, e => by
    unfold D
    rw [sm_two (a := c) (b := c + 1) (by omega) (by omega) (by omega) fun j hj q1 q2 => ?_]
    · have : minr c B = minr (c + 1) B := by
        funext k x
        unfold minr
        by_cases q : k = c
        · subst q; rw [if_neg (by omega), if_pos (by omega), e]
        · by_cases q2 : k < c
          · rw [if_pos q2, if_pos (by omega)]
          · rw [if_neg q2, if_neg (by omega)]
      rw [this, sgn_succ, e]
      grind
    · have : D W (minr j B) = 0 := by
        refine D_adj (minr j B) (c := if j < c then c - 1 else c) (by split <;> omega) ?_
        funext x
        unfold minr
        by_cases q : j < c
        · rw [if_pos q, if_neg (by omega), if_neg (by omega), show c - 1 + 1 = c by omega, e]
        · rw [if_neg q, if_pos (by omega), if_pos (by omega), e]
      rw [this, Int.mul_zero]
theorem D_swap {W : Nat} (B : Nat → Col) {c : Nat} (h : c + 1 < W) (u v : Col) : D W (upd (upd B c u) (c + 1) v) = - D W (upd (upd B c v) (c + 1) u) := by
  have z : ∀ a : Col, D W (upd (upd B c a) (c + 1) a) = 0 := fun a => D_adj _ h (by rw [upd_ne _ _ (by omega), upd_same, upd_same])
  have l2 : ∀ p a b : Col, D W (upd (upd B c p) (c + 1) (fun x => 1 * a x + 1 * b x)) = 1 * D W (upd (upd B c p) (c + 1) a) + 1 * D W (upd (upd B c p) (c + 1) b) := fun p a b => D_lin _ h 1 1 a b
  have l1 : ∀ p a b : Col, D W (upd (upd B c (fun x => 1 * a x + 1 * b x)) (c + 1) p) = 1 * D W (upd (upd B c a) (c + 1) p) + 1 * D W (upd (upd B c b) (c + 1) p) := fun p a b => by
    rw [upd_comm _ _ _ (by omega), upd_comm _ a _ (by omega), upd_comm _ b _ (by omega)]
    exact D_lin _ (by omega) 1 1 a b
  have e := z (fun x => 1 * u x + 1 * v x)
  rw [l2, l1, l1, z, z] at e
  omega
theorem D_alt {W : Nat} : ∀ (k : Nat) (B : Nat → Col) {c : Nat}, c + 1 + k < W → B c = B (c + 1 + k) → D W B = 0
  | 0, B, c, h, e => D_adj B h e
  | k + 1, B, c, h, e => by
    have e1 : B = upd (upd B (c + 1 + k) (B (c + 1 + k))) (c + 1 + k + 1) (B (c + 1 + k + 1)) := by
      rw [upd_self, upd_self]
    rw [e1, D_swap B (by omega), D_alt k _ (c := c) (by omega)]
    · rfl
    · rw [upd_ne _ _ (by omega), upd_ne _ _ (by omega), upd_ne _ _ (by omega), upd_same]
      exact e
theorem D_alt' {W : Nat} (B : Nat → Col) {a b : Nat} (ha : a < W) (hb : b < W) (hab : a ≠ b) (e : B a = B b) : D W B = 0 := by
  by_cases q : a < b
  · obtain ⟨k, rfl⟩ : ∃ k, b = a + 1 + k := ⟨b - a - 1, by omega⟩
    exact D_alt k B hb e
  · obtain ⟨k, rfl⟩ : ∃ k, a = b + 1 + k := ⟨a - b - 1, by omega⟩
    exact D_alt k B ha e.symm
theorem D_id : ∀ W, D W (fun c x => if c = x then 1 else 0) = 1
  | 0 => rfl
  | W + 1 => by
    unfold D
    rw [sm_one (k := 0) (by omega) fun i _ q => by
      show sgn i * (if i = 0 then 1 else 0) * D W (minr i fun c x => if c = x then 1 else 0) = 0
      rw [if_neg q, Int.mul_zero, Int.zero_mul]]
    have : minr 0 (fun c x => if c = x then (1 : Int) else 0) = fun c x => if c = x then 1 else 0 := by
      funext c x
      unfold minr
      rw [if_neg (by omega)]
      show (if c + 1 = x + 1 then (1 : Int) else 0) = if c = x then 1 else 0
      by_cases q : c = x
      · rw [if_pos q, if_pos (by omega)]
      · rw [if_neg q, if_neg (by omega)]
    rw [this, D_id W]
    rfl
theorem D_bound {K : Nat} : ∀ {W : Nat} (B : Nat → Col), (∀ c, c < W → ∀ x, x < W → (B c x).natAbs ≤ K) → (D W B).natAbs ≤ (W * K) ^ W
  | 0, _, _ => by simp [D]
  | W + 1, B, h => by
    unfold D
    have h1 : ∀ j, j < W + 1 → (sgn j * B j 0 * D W (minr j B)).natAbs ≤ K * (W * K) ^ W := fun j hj => by
      rw [Int.natAbs_mul, Int.natAbs_mul, sgn_abs, Nat.one_mul]
      refine Nat.mul_le_mul (h j hj 0 (by omega)) (D_bound _ fun c hc x hx => ?_)
      unfold minr
      exact h _ (by split <;> omega) _ (by omega)
    refine Nat.le_trans (sm_abs h1) ?_
    rw [← Nat.mul_assoc, Nat.pow_succ, Nat.mul_comm]
    exact Nat.mul_le_mul (Nat.pow_le_pow_left (Nat.mul_le_mul_right K (by omega)) W) (Nat.le_refl _)
theorem cramer {W : Nat} (B : Nat → Col) {c : Nat} (hc : c < W) (q : Int) (v : Col) (t : Nat → Int) (h : ∀ x, x < W → q * v x = sm W (fun r => t r * B r x)) : q * D W (upd B c v) = t c * D W B := by
  have e1 : D W (upd B c (fun x => q * v x + 0 * v x)) = q * D W (upd B c v) + 0 * D W (upd B c v) := D_lin B hc q 0 v v
  have e2 : D W (upd B c (fun x => q * v x + 0 * v x)) = D W (upd B c (fun x => sm W (fun r => t r * B r x))) := D_congr fun k _ x hx => by
    unfold upd
    split
    · show q * v x + 0 * v x = sm W fun r => t r * B r x
      rw [← h x hx]; omega
    · rfl
  rw [D_sum B hc t B W, sm_one hc fun r hr q => ?_, upd_self] at e2
  · rw [e2] at e1
    omega
  · rw [D_alt' _ hc hr (Ne.symm q) (by rw [upd_same, upd_ne _ _ q]), Int.mul_zero]
end Sx
namespace Sx
/-- a table that is gone through: the lines and, behind them, the gain; the base; the last pivot -/
structure Tab where
  T : Nat → Nat → Int
  kept : Nat → Nat
  last : Int
def unitv (w : Nat) : Col := fun x => if x = w then 1 else 0
section
variable (M : Nat → Col) (w n : Nat)
def Bc (s : Tab) : Nat → Col := fun r => if r < w then M (s.kept r) else unitv w
structure Ok (s : Tab) : Prop where
  kn : ∀ r, r < w → s.kept r < n
  sol : ∀ k, k ≤ n → ∀ x, x < w + 1 → s.last * M k x = sm (w + 1) (fun r => s.T r k * Bc M w s r x)
  det : D (w + 1) (Bc M w s) = s.last
  pos : 0 < s.last
  fea : ∀ r, r < w → 0 ≤ s.T r n
def piv (s : Tab) (i e : Nat) : Tab where
  T r k := if r = i then s.T i k else (s.T r k * s.T i e - s.T i k * s.T r e) / s.last
  kept r := if r = i then e else s.kept r
  last := s.T i e
variable {M w n}
theorem Ok.val {s : Tab} (h : Ok M w n s) {k r : Nat} (hk : k ≤ n) (hr : r < w + 1) : s.T r k = D (w + 1) (upd (Bc M w s) r (M k)) := by
  have c := cramer (Bc M w s) hr s.last (M k) (fun r => s.T r k) (h.sol k hk)
  rw [h.det, Int.mul_comm (s.T r k)] at c
  exact (Int.eq_of_mul_eq_mul_left (by have := h.pos; omega) c).symm
theorem Ok.base {s : Tab} (h : Ok M w n s) {q r : Nat} (hq : q < w + 1) (hr : r < w) : s.T q (s.kept r) = if q = r then s.last else 0 := by
  rw [h.val (by have := h.kn r hr; omega) hq]
  have e : M (s.kept r) = Bc M w s r := by unfold Bc; rw [if_pos hr]
  rw [e]
  by_cases g : q = r
  · subst g
    rw [if_pos rfl, upd_self, h.det]
  · rw [if_neg g, D_alt' _ hq (show r < w + 1 by omega) g (by rw [upd_same, upd_ne _ _ (Ne.symm g)])]
theorem Ok.inj {s : Tab} (h : Ok M w n s) {q r : Nat} (hq : q < w) (hr : r < w) (e : s.kept q = s.kept r) : q = r := by
  by_cases g : q = r
  · exact g
  · have := h.base (q := q) (r := r) (by omega) hr
    rw [if_neg g, ← e, h.base (by omega) hq, if_pos rfl] at this
    have := h.pos
    omega
theorem Bc_lt (s : Tab) {r : Nat} (h : r < w) : Bc M w s r = M (s.kept r) := if_pos h
theorem Bc_ge (s : Tab) {r : Nat} (h : ¬ r < w) : Bc M w s r = unitv w := if_neg h
theorem piv_kept_i (s : Tab) (i e : Nat) : (piv s i e).kept i = e := if_pos rfl
theorem piv_kept (s : Tab) {i e r : Nat} (h : r ≠ i) : (piv s i e).kept r = s.kept r := if_neg h
theorem Bc_piv (s : Tab) {i e : Nat} (hi : i < w) : Bc M w (piv s i e) = upd (Bc M w s) i (M e) := by
  funext r
  by_cases q : r = i
  · rw [q, upd_same, Bc_lt _ hi, piv_kept_i]
  · rw [upd_ne _ _ q]
    by_cases g : r < w
    · rw [Bc_lt _ g, Bc_lt _ g, piv_kept _ q]
    · rw [Bc_ge _ g, Bc_ge _ g]
/-- the pivot's division leaves nothing, and what comes of it is solved -/
theorem piv_sol {s : Tab} (h : Ok M w n s) {i e : Nat} (hi : i < w) (he : e < n) (hp : 0 < s.T i e) :
    D (w + 1) (Bc M w (piv s i e)) = s.T i e ∧ (∀ k, k ≤ n → ∀ r, r < w + 1 → r ≠ i → s.last * (piv s i e).T r k = s.T r k * s.T i e - s.T i k * s.T r e) ∧
    ∀ k, k ≤ n → ∀ x, x < w + 1 → (piv s i e).last * M k x = sm (w + 1) (fun r => (piv s i e).T r k * Bc M w (piv s i e) r x) := by
  have dB : D (w + 1) (Bc M w (piv s i e)) = s.T i e := by
    rw [Bc_piv s hi, ← h.val (by omega) (by omega)]
  have lp := h.pos
  let Y : Nat → Nat → Int := fun k r => if r = i then s.last * s.T i k else s.T r k * s.T i e - s.T i k * s.T r e
  have hY : ∀ k, k ≤ n → ∀ x, x < w + 1 → (s.T i e * s.last) * M k x = sm (w + 1) (fun r => Y k r * Bc M w (piv s i e) r x) := fun k hk x hx => by
    have e1 : sm (w + 1) (fun r => Y k r * Bc M w (piv s i e) r x) = sm (w + 1) (fun r => (s.T i e * (s.T r k * Bc M w s r x) + -(s.T i k) * (s.T r e * Bc M w s r x)) + (if r = i then s.last * s.T i k * M e x else 0)) := by
      refine sm_congr fun r hr => ?_
      rw [Bc_piv s hi]
      show (if r = i then s.last * s.T i k else s.T r k * s.T i e - s.T i k * s.T r e) * upd (Bc M w s) i (M e) r x = _
      by_cases q : r = i
      · subst q
        rw [if_pos rfl, upd_same, if_pos rfl]
        grind
      · rw [if_neg q, upd_ne _ _ q, if_neg q]
        grind
    rw [e1, sm_add, sm_add, sm_mul, sm_mul, ← h.sol k hk x hx, ← h.sol e (by omega) x hx, sm_one (k := i) (by omega) fun r _ q => if_neg q, if_pos rfl]
    grind
  have hd : ∀ k, k ≤ n → ∀ r, r < w + 1 → Y k r = s.last * D (w + 1) (upd (Bc M w (piv s i e)) r (M k)) := fun k hk r hr => by
    have c := cramer (Bc M w (piv s i e)) hr _ (M k) (Y k) (hY k hk)
    rw [dB] at c
    have c2 : s.T i e * (s.last * D (w + 1) (upd (Bc M w (piv s i e)) r (M k))) = s.T i e * Y k r := by
      rw [← Int.mul_assoc, c, Int.mul_comm]
    exact (Int.eq_of_mul_eq_mul_left (by omega) c2).symm
  have hT : ∀ k, k ≤ n → ∀ r, r < w + 1 → Y k r = s.last * (piv s i e).T r k := fun k hk r hr => by
    show _ = s.last * (if r = i then s.T i k else (s.T r k * s.T i e - s.T i k * s.T r e) / s.last)
    by_cases q : r = i
    · rw [if_pos q]
      show (if r = i then _ else _) = _
      rw [if_pos q]
    · rw [if_neg q]
      have : Y k r = s.T r k * s.T i e - s.T i k * s.T r e := if_neg q
      rw [← this, hd k hk r hr, Int.mul_ediv_cancel_left _ (by omega)]
  refine ⟨dB, fun k hk r hr q => ?_, fun k hk x hx => ?_⟩
  · rw [← hT k hk r hr]
    exact if_neg q
  · have e1 := hY k hk x hx
    have e2 : sm (w + 1) (fun r => Y k r * Bc M w (piv s i e) r x) = s.last * sm (w + 1) (fun r => (piv s i e).T r k * Bc M w (piv s i e) r x) := by
      rw [← sm_mul]
      exact sm_congr fun r hr => by rw [hT k hk r hr, Int.mul_assoc]
    rw [e2, Int.mul_comm (s.T i e), Int.mul_assoc] at e1
    exact Int.eq_of_mul_eq_mul_left (by omega) e1
/-- Bland's choice -/
structure BS (w n : Nat) (s : Tab) (i e : Nat) : Prop where
  hi : i < w
  he : e < n
  neg : s.T w e < 0
  first : ∀ k, k < e → 0 ≤ s.T w k
  pos : 0 < s.T i e
  least : ∀ r, r < w → 0 < s.T r e → s.T i n * s.T r e ≤ s.T r n * s.T i e ∧ (s.T i n * s.T r e = s.T r n * s.T i e → s.kept i ≤ s.kept r)
theorem Ok.step {s : Tab} (h : Ok M w n s) {i e : Nat} (b : BS w n s i e) : Ok M w n (piv s i e) := by
  obtain ⟨h1, h2, h3⟩ := piv_sol h b.hi b.he b.pos
  have lp := h.pos
  refine ⟨fun r hr => ?_, h3, h1, b.pos, fun r hr => ?_⟩
  · show (if r = i then e else s.kept r) < n
    split
    · exact b.he
    · exact h.kn r hr
  · by_cases q : r = i
    · show 0 ≤ (if r = i then s.T i n else _)
      rw [if_pos q]
      exact h.fea i b.hi
    · have e1 := h2 n (Nat.le_refl n) r (by omega) q
      have e2 : 0 ≤ s.T r n * s.T i e - s.T i n * s.T r e := by
        by_cases g : 0 < s.T r e
        · have := (b.least r hr g).1
          omega
        · have a1 : 0 ≤ s.T r n * s.T i e := Int.mul_nonneg (h.fea r hr) (by have := b.pos; omega)
          have a2 : 0 ≤ s.T i n * -s.T r e := Int.mul_nonneg (h.fea i b.hi) (by omega)
          rw [Int.mul_neg] at a2
          omega
      rw [← e1] at e2
      exact Int.nonneg_of_mul_nonneg_right e2 lp
theorem BS.uniq {s : Tab} (h : Ok M w n s) {i e i' e' : Nat} (a : BS w n s i e) (b : BS w n s i' e') : i = i' ∧ e = e' := by
  have ee : e = e' := by
    by_cases q : e < e'
    · have := b.first e q
      have := a.neg
      omega
    · by_cases g : e' < e
      · have := a.first e' g
        have := b.neg
        omega
      · omega
  subst ee
  refine ⟨?_, rfl⟩
  obtain ⟨x1, x2⟩ := a.least i' b.hi b.pos
  obtain ⟨y1, y2⟩ := b.least i a.hi a.pos
  have eq : s.T i n * s.T i' e = s.T i' n * s.T i e := by omega
  have := x2 eq
  have := y2 eq.symm
  exact h.inj a.hi b.hi (by omega)

/-! Bland: no turning in a ring -/
def zer (w n : Nat) (s : Tab) (q : Nat) : Prop := ∀ r, r < w → s.kept r = q → s.T r n = 0
def bas (w : Nat) (s : Tab) (q : Nat) : Prop := ∃ r, r < w ∧ s.kept r = q
structure Lnk (w n t : Nat) (a b : Tab) : Prop where
  zr : ∀ q, zer w n a q ↔ zer w n b q
  bs : ∀ q, t ≤ q → (bas w a q ↔ bas w b q)
theorem Lnk.refl (w n t : Nat) (a : Tab) : Lnk w n t a a := ⟨fun _ => Iff.rfl, fun _ _ => Iff.rfl⟩
theorem Lnk.symm {t : Nat} {a b : Tab} (h : Lnk w n t a b) : Lnk w n t b a := ⟨fun q => (h.zr q).symm, fun q x => (h.bs q x).symm⟩
theorem Lnk.trans {t : Nat} {a b c : Tab} (h : Lnk w n t a b) (k : Lnk w n t b c) : Lnk w n t a c := ⟨fun q => (h.zr q).trans (k.zr q), fun q x => (h.bs q x).trans (k.bs q x)⟩
theorem Lnk.step {t : Nat} {s : Tab} (h : Ok M w n s) {i e : Nat} (b : BS w n s i e) (z : s.T i n = 0) (et : e < t) (kt : s.kept i < t) : Lnk w n t s (piv s i e) := by
  obtain ⟨_, h2, _⟩ := piv_sol h b.hi b.he b.pos
  have lp := h.pos
  have bp := b.pos
  have hz : ∀ r, r < w → r ≠ i → ((piv s i e).T r n = 0 ↔ s.T r n = 0) := fun r hr q => by
    have e1 := h2 n (Nat.le_refl n) r (by omega) q
    rw [z, Int.zero_mul, Int.sub_zero] at e1
    constructor
    · intro x
      rw [x, Int.mul_zero] at e1
      rcases Int.mul_eq_zero.mp e1.symm with y | y
      · exact y
      · omega
    · intro x
      rw [x, Int.zero_mul] at e1
      rcases Int.mul_eq_zero.mp e1 with y | y
      · omega
      · exact y
  have hi : (piv s i e).T i n = 0 := by
    show (if i = i then s.T i n else _) = 0
    rw [if_pos rfl, z]
  have kp : ∀ r, r ≠ i → (piv s i e).kept r = s.kept r := fun r q => if_neg q
  have ki : (piv s i e).kept i = e := if_pos rfl
  refine ⟨fun q => ⟨fun x r hr k => ?_, fun x r hr k => ?_⟩, fun q tq => ⟨?_, ?_⟩⟩
  · by_cases g : r = i
    · rw [g]; exact hi
    · rw [kp r g] at k
      exact (hz r hr g).mpr (x r hr k)
  · by_cases g : r = i
    · rw [g]; exact z
    · exact (hz r hr g).mp (x r hr (by rw [kp r g]; exact k))
  · rintro ⟨r, hr, k⟩
    exact ⟨r, hr, by rw [kp r (fun g => by subst g; omega)]; exact k⟩
  · rintro ⟨r, hr, k⟩
    by_cases g : r = i
    · rw [g, ki] at k
      omega
    · rw [kp r g] at k
      exact ⟨r, hr, k⟩
/-- what would be gained is told alike by every base -/
theorem gain_eq {a s : Tab} (ha : Ok M w n a) (hs : Ok M w n s) {e : Nat} (he : e ≤ n) : s.last * a.T w e = sm w (fun r => s.T r e * a.T w (s.kept r)) + s.T w e * a.last := by
  have e1 : D (w + 1) (upd (Bc M w a) w (fun x => s.last * M e x + 0 * M e x)) = s.last * D (w + 1) (upd (Bc M w a) w (M e)) + 0 * D (w + 1) (upd (Bc M w a) w (M e)) := D_lin _ (by omega) _ _ _ _
  have e2 : D (w + 1) (upd (Bc M w a) w (fun x => s.last * M e x + 0 * M e x)) = D (w + 1) (upd (Bc M w a) w (fun x => sm (w + 1) (fun r => s.T r e * Bc M w s r x))) := D_congr fun k _ x hx => by
    unfold upd
    split
    · show s.last * M e x + 0 * M e x = sm (w + 1) (fun r => s.T r e * Bc M w s r x)
      rw [← hs.sol e he x hx]
      omega
    · rfl
  rw [D_sum _ (by omega)] at e2
  have e3 : sm (w + 1) (fun r => s.T r e * D (w + 1) (upd (Bc M w a) w (Bc M w s r))) = sm w (fun r => s.T r e * a.T w (s.kept r)) + s.T w e * a.last := by
    show sm w (fun r => s.T r e * D (w + 1) (upd (Bc M w a) w (Bc M w s r))) + s.T w e * D (w + 1) (upd (Bc M w a) w (Bc M w s w)) = _
    have x1 : Bc M w s w = Bc M w a w := by
      unfold Bc
      rw [if_neg (by omega), if_neg (by omega)]
    rw [x1, upd_self, ha.det]
    congr 1
    refine sm_congr fun r hr => ?_
    rw [ha.val (by have := hs.kn r hr; omega) (by omega)]
    unfold Bc
    rw [if_pos hr]
  rw [e2, e3, ← ha.val he (by omega)] at e1
  omega
theorem bland {t : Nat} {a s : Tab} (ha : Ok M w n a) (hs : Ok M w n s) (hl : Lnk w n (t + 1) a s) (neg : a.T w t < 0) (first : ∀ k, k < t → 0 ≤ a.T w k) {i e : Nat} (b : BS w n s i e) (z : s.T i n = 0) (et : e < t + 1) (kt : s.kept i = t) : False := by
  have bi := b.hi
  have bp := b.pos
  have bn := b.neg
  have lp := hs.pos
  have ap := ha.pos
  have ne : e ≠ t := fun q => by
    have := hs.base (q := w) (r := i) (by omega) bi
    rw [if_neg (by omega), kt, ← q] at this
    omega
  have g := gain_eq ha hs (e := e) (by have := b.he; omega)
  have l1 : 0 ≤ s.last * a.T w e := Int.mul_nonneg (by omega) (first e (by omega))
  have l2 : s.T w e * a.last < 0 := Int.mul_neg_of_neg_of_pos bn ap
  have l3 : sm w (fun r => s.T r e * a.T w (s.kept r)) ≤ sm w (fun _ => 0) := sm_le fun r hr => by
    by_cases q : r = i
    · rw [q, kt]
      exact Int.le_of_lt (Int.mul_neg_of_pos_of_neg bp neg)
    · by_cases g : bas w a (s.kept r)
      · obtain ⟨r', hr', k⟩ := g
        have := ha.base (q := w) (r := r') (by omega) hr'
        rw [if_neg (by omega), k] at this
        rw [this, Int.mul_zero]
        exact Int.le_refl _
      · have k1 : s.kept r < t + 1 := by
          by_cases x : t + 1 ≤ s.kept r
          · exact absurd ((hl.bs _ x).mpr ⟨r, hr, rfl⟩) g
          · omega
        have k2 : s.kept r ≠ t := fun x => q (hs.inj hr bi (by rw [x, kt]))
        have k3 := first (s.kept r) (by omega)
        by_cases x : 0 < s.T r e
        · have zr : zer w n s (s.kept r) := (hl.zr _).mp fun r' hr' k => absurd ⟨r', hr', k⟩ g
          have z0 := zr r hr rfl
          have := (b.least r hr x).2 (by rw [z, z0, Int.zero_mul, Int.zero_mul])
          omega
        · have := Int.mul_nonneg (show 0 ≤ - s.T r e by omega) k3
          rw [Int.neg_mul] at this
          omega
  rw [sm_zero fun _ _ => rfl] at l3
  omega
/-- steps that gain nothing, by places below t alone -/
def Rt (w n t : Nat) (s' s : Tab) : Prop := ∃ i e, BS w n s i e ∧ s.T i n = 0 ∧ e < t ∧ s.kept i < t ∧ s' = piv s i e
theorem acc_rt (M : Nat → Col) : ∀ t s, Ok M w n s → Acc (Rt w n t) s
  | 0, s, _ => ⟨s, fun s' ⟨i, e, _, _, h, _⟩ => by omega⟩
  | t + 1, s, hs => by
    have en : ∀ s, Acc (Rt w n t) s → Ok M w n s → ∀ a, Ok M w n a → Lnk w n (t + 1) a s → a.T w t < 0 → (∀ k, k < t → 0 ≤ a.T w k) → bas w s t → Acc (Rt w n (t + 1)) s := fun s hacc => by
      induction hacc with
      | intro s _ ih =>
        intro hs a ha hl neg first hb
        refine ⟨s, fun s' ⟨i, e, b, z, et, kt, es⟩ => ?_⟩
        have k1 : s.kept i ≠ t := fun q => bland ha hs hl neg first b z et q
        have k2 : e ≠ t := fun q => by
          obtain ⟨r, hr, k⟩ := hb
          have := hs.base (q := w) (r := r) (by omega) hr
          rw [if_neg (by omega), k, ← q] at this
          have := b.neg
          omega
        subst es
        refine ih _ ⟨i, e, b, z, by omega, by omega, rfl⟩ (hs.step b) a ha (hl.trans (Lnk.step hs b z et kt)) neg first ?_
        obtain ⟨r, hr, k⟩ := hb
        refine ⟨r, hr, ?_⟩
        show (if r = i then e else s.kept r) = t
        rw [if_neg (fun q => k1 (by rw [← q]; exact k))]
        exact k
    have le : ∀ s, Acc (Rt w n t) s → Ok M w n s → ∀ a i e, Ok M w n a → Lnk w n (t + 1) a s → BS w n a i e → a.T i n = 0 → e < t + 1 → a.kept i = t → ¬ bas w s t → Acc (Rt w n (t + 1)) s := fun s hacc => by
      induction hacc with
      | intro s _ ih =>
        intro hs a i0 e0 ha hl b0 z0 et0 kt0 hb
        refine ⟨s, fun s' ⟨i, e, b, z, et, kt, es⟩ => ?_⟩
        have k1 : s.kept i ≠ t := fun q => hb ⟨i, b.hi, q⟩
        have k2 : e ≠ t := fun q => by
          subst q
          exact bland hs ha hl.symm b.neg b.first b0 z0 et0 kt0
        subst es
        refine ih _ ⟨i, e, b, z, by omega, by omega, rfl⟩ (hs.step b) a i0 e0 ha (hl.trans (Lnk.step hs b z et kt)) b0 z0 et0 kt0 ?_
        rintro ⟨r, hr, k⟩
        have k : (if r = i then e else s.kept r) = t := k
        by_cases q : r = i
        · rw [if_pos q] at k; exact k2 k
        · rw [if_neg q] at k; exact hb ⟨r, hr, k⟩
    have key : ∀ s, Acc (Rt w n t) s → Ok M w n s → Acc (Rt w n (t + 1)) s := fun s hacc => by
      induction hacc with
      | intro s _ ih =>
        intro hs
        refine ⟨s, fun s' ⟨i, e, b, z, et, kt, es⟩ => ?_⟩
        subst es
        have ln : Lnk w n (t + 1) s (piv s i e) := Lnk.step hs b z et kt
        have ok' := hs.step b
        by_cases q : e = t
        · subst q
          exact en _ (acc_rt M _ _ ok') ok' s hs ln b.neg b.first ⟨i, b.hi, if_pos rfl⟩
        · by_cases g : s.kept i = t
          · refine le _ (acc_rt M _ _ ok') ok' s i e hs ln b z et g ?_
            rintro ⟨r, hr, k⟩
            have k : (if r = i then e else s.kept r) = t := k
            by_cases x : r = i
            · rw [if_pos x] at k; exact q k
            · rw [if_neg x] at k
              exact x (hs.inj hr b.hi (by rw [k, g]))
          · exact ih _ ⟨i, e, b, z, by omega, by omega, rfl⟩ ok'
    exact key s (acc_rt M t s hs) hs
end
end Sx
namespace Sx
section
variable {M : Nat → Col} {w n : Nat}
theorem Ok.bound {s : Tab} (h : Ok M w n s) {K : Nat} (hK : ∀ k, k ≤ n → ∀ x, x < w + 1 → (M k x).natAbs ≤ K) (k1 : 1 ≤ K) : (∀ k, k ≤ n → ∀ r, r < w + 1 → (s.T r k).natAbs ≤ ((w + 1) * K) ^ (w + 1)) ∧ s.last.natAbs ≤ ((w + 1) * K) ^ (w + 1) := by
  have hb : ∀ c, c < w + 1 → ∀ x, x < w + 1 → (Bc M w s c x).natAbs ≤ K := fun c _ x hx => by
    by_cases g : c < w
    · rw [Bc_lt _ g]
      exact hK _ (by have := h.kn c g; omega) x hx
    · rw [Bc_ge _ g]
      unfold unitv
      split
      · simpa using k1
      · simp
  refine ⟨fun k hk r hr => ?_, ?_⟩
  · rw [h.val hk hr]
    refine D_bound _ fun c hc x hx => ?_
    by_cases g : c = r
    · rw [g, upd_same]
      exact hK k hk x hx
    · rw [upd_ne _ _ g]
      exact hb c hc x hx
  · rw [← h.det]
    exact D_bound _ hb
def R (w n : Nat) (s' s : Tab) : Prop := ∃ i e, BS w n s i e ∧ s' = piv s i e
def mu (w n : Nat) (G : Int) (s : Tab) : Nat := ((G * s.last - s.T w n) * (G * G) / s.last).toNat
theorem mu_step {s : Tab} (h : Ok M w n s) {G : Int} (hG : ∀ s, Ok M w n s → s.T w n ≤ G ∧ s.last ≤ G) {i e : Nat} (b : BS w n s i e) : mu w n G (piv s i e) ≤ mu w n G s ∧ (s.T i n ≠ 0 → mu w n G (piv s i e) < mu w n G s) := by
  obtain ⟨_, h2, _⟩ := piv_sol h b.hi b.he b.pos
  have bi := b.hi
  have e1 := h2 n (Nat.le_refl n) w (by omega) (by omega)
  have ok' := h.step b
  obtain ⟨g1, g2⟩ := hG s h
  obtain ⟨g3, g4⟩ := hG _ ok'
  have lp := h.pos
  have pp := b.pos
  have l' : (piv s i e).last = s.T i e := rfl
  rw [l'] at g4
  have u0 : 0 ≤ G * s.last - s.T w n := by
    have := Int.mul_le_mul_of_nonneg_left (show 1 ≤ s.last by omega) (show 0 ≤ G by omega)
    omega
  have v0 : 0 ≤ G * s.T i e - (piv s i e).T w n := by
    have := Int.mul_le_mul_of_nonneg_left (show 1 ≤ s.T i e by omega) (show 0 ≤ G by omega)
    omega
  have gg : 0 ≤ G * G := Int.mul_nonneg (by omega) (by omega)
  unfold mu
  rw [l']
  generalize hu : G * s.last - s.T w n = u at *
  generalize hv : G * s.T i e - (piv s i e).T w n = v at *
  have up : u * s.T i e - v * s.last = - (s.T i n * s.T w e) := by
    rw [← hu, ← hv]
    grind
  have t0 : 0 ≤ s.T i n := h.fea i bi
  have dd : 0 ≤ - (s.T i n * s.T w e) := by
    have := Int.mul_nonneg t0 (show 0 ≤ - s.T w e by have := b.neg; omega)
    rw [Int.mul_neg] at this
    exact this
  generalize hq' : v * (G * G) / s.T i e = q'
  have a1 : q' * s.T i e ≤ v * (G * G) := by rw [← hq']; exact Int.ediv_mul_le _ (by omega)
  have q0 : 0 ≤ q' := by rw [← hq']; exact Int.ediv_nonneg (Int.mul_nonneg v0 gg) (by omega)
  have a2 : q' * s.T i e * s.last ≤ v * (G * G) * s.last := Int.mul_le_mul_of_nonneg_right a1 (by omega)
  constructor
  · refine Int.toNat_le_toNat ?_
    rw [Int.le_ediv_iff_mul_le lp]
    have : (q' * s.last) * s.T i e ≤ (u * (G * G)) * s.T i e := by
      have x : v * s.last * (G * G) ≤ u * s.T i e * (G * G) := Int.mul_le_mul_of_nonneg_right (by omega) gg
      have y1 : (q' * s.last) * s.T i e = q' * s.T i e * s.last := by grind
      have y2 : v * (G * G) * s.last = v * s.last * (G * G) := by grind
      have y3 : u * s.T i e * (G * G) = (u * (G * G)) * s.T i e := by grind
      omega
    exact Int.le_of_mul_le_mul_right this pp
  · intro nz
    have d1 : 1 ≤ - (s.T i n * s.T w e) := by
      have := Int.mul_pos (show 0 < s.T i n by omega) (show 0 < - s.T w e by have := b.neg; omega)
      rw [Int.mul_neg] at this
      omega
    have : q' + 1 ≤ u * (G * G) / s.last := by
      rw [Int.le_ediv_iff_mul_le lp]
      have : ((q' + 1) * s.last) * s.T i e ≤ (u * (G * G)) * s.T i e := by
        have x : (v * s.last + 1) * (G * G) ≤ u * s.T i e * (G * G) := Int.mul_le_mul_of_nonneg_right (by omega) gg
        have z : s.last * s.T i e ≤ G * G := Int.mul_le_mul g2 g4 (by omega) (by omega)
        have y1 : ((q' + 1) * s.last) * s.T i e = q' * s.T i e * s.last + s.last * s.T i e := by grind
        have y2 : v * (G * G) * s.last + G * G = (v * s.last + 1) * (G * G) := by grind
        have y3 : u * s.T i e * (G * G) = (u * (G * G)) * s.T i e := by grind
        omega
      exact Int.le_of_mul_le_mul_right this pp
    omega
theorem acc_all (G : Int) (hG : ∀ s, Ok M w n s → s.T w n ≤ G ∧ s.last ≤ G) : ∀ (N : Nat) (s : Tab), Ok M w n s → mu w n G s ≤ N → Acc (R w n) s := by
  have main : ∀ (N : Nat), (∀ s, Ok M w n s → mu w n G s < N → Acc (R w n) s) → ∀ s, Acc (Rt w n n) s → Ok M w n s → mu w n G s ≤ N → Acc (R w n) s := fun N low s hacc => by
    induction hacc with
    | intro s _ ih =>
      intro hs hm
      refine ⟨s, fun s' ⟨i, e, b, es⟩ => ?_⟩
      subst es
      obtain ⟨m1, m2⟩ := mu_step hs hG b
      by_cases z : s.T i n = 0
      · exact ih _ ⟨i, e, b, z, b.he, hs.kn i b.hi, rfl⟩ (hs.step b) (by omega)
      · exact low _ (hs.step b) (by have := m2 z; omega)
  intro N
  induction N with
  | zero => exact fun s hs hm => main 0 (fun s _ h => by omega) s (acc_rt M n s hs) hs hm
  | succ N ih => exact fun s hs hm => main (N + 1) (fun s h1 h2 => ih s h1 (by omega)) s (acc_rt M n s hs) hs hm

/-! which line leaves -/
def lsh (n : Nat) (s : Tab) (e : Nat) : Nat → Option Nat
  | 0 => none
  | r + 1 => if 0 < s.T r e then (match lsh n s e r with
      | none => some r
      | some b => if s.T r n * s.T b e < s.T b n * s.T r e ∨ (s.T r n * s.T b e = s.T b n * s.T r e ∧ s.kept r < s.kept b) then some r else some b) else lsh n s e r
def LeastOf (n : Nat) (s : Tab) (e b r : Nat) : Prop := s.T b n * s.T r e ≤ s.T r n * s.T b e ∧ (s.T b n * s.T r e = s.T r n * s.T b e → s.kept b ≤ s.kept r)
theorem LeastOf.trans {s : Tab} {e a b c : Nat} (pa : 0 < s.T a e) (pb : 0 < s.T b e) (pc : 0 < s.T c e) (h : LeastOf n s e a b) (k : LeastOf n s e b c) : LeastOf n s e a c := by
  obtain ⟨h1, h2⟩ := h
  obtain ⟨k1, k2⟩ := k
  have x1 : s.T a n * s.T b e * s.T c e ≤ s.T b n * s.T a e * s.T c e := Int.mul_le_mul_of_nonneg_right h1 (by omega)
  have x2 : s.T b n * s.T c e * s.T a e ≤ s.T c n * s.T b e * s.T a e := Int.mul_le_mul_of_nonneg_right k1 (by omega)
  have y1 : s.T a n * s.T b e * s.T c e = (s.T a n * s.T c e) * s.T b e := by grind
  have y2 : s.T b n * s.T c e * s.T a e = s.T b n * s.T a e * s.T c e := by grind
  have y3 : s.T c n * s.T b e * s.T a e = (s.T c n * s.T a e) * s.T b e := by grind
  refine ⟨Int.le_of_mul_le_mul_right (show (s.T a n * s.T c e) * s.T b e ≤ (s.T c n * s.T a e) * s.T b e by omega) pb, fun eq => ?_⟩
  have z : (s.T a n * s.T c e) * s.T b e = (s.T c n * s.T a e) * s.T b e := by rw [eq]
  have e1 : s.T a n * s.T b e * s.T c e = s.T b n * s.T a e * s.T c e := by omega
  have e2 : s.T b n * s.T c e * s.T a e = s.T c n * s.T b e * s.T a e := by omega
  have f1 := h2 (Int.eq_of_mul_eq_mul_right (by omega) e1)
  have f2 := k2 (Int.eq_of_mul_eq_mul_right (by omega) e2)
  omega
theorem lsh_ok (s : Tab) (e : Nat) : ∀ m, match lsh n s e m with
    | none => ∀ r, r < m → s.T r e ≤ 0
    | some b => b < m ∧ 0 < s.T b e ∧ ∀ r, r < m → 0 < s.T r e → LeastOf n s e b r
  | 0 => by simp [lsh]
  | m + 1 => by
    have ih := lsh_ok s e m
    unfold lsh
    by_cases p : 0 < s.T m e
    · rw [if_pos p]
      cases q : lsh n s e m with
      | none =>
        rw [q] at ih
        refine ⟨by omega, p, fun r hr pr => ?_⟩
        by_cases g : r = m
        · rw [g]; exact ⟨Int.le_refl _, fun _ => Nat.le_refl _⟩
        · have := ih r (by omega); omega
      | some b =>
        rw [q] at ih
        obtain ⟨i1, i2, i3⟩ := ih
        show match (if s.T m n * s.T b e < s.T b n * s.T m e ∨ (s.T m n * s.T b e = s.T b n * s.T m e ∧ s.kept m < s.kept b) then some m else some b) with
          | none => _
          | some b => _
        by_cases g : s.T m n * s.T b e < s.T b n * s.T m e ∨ (s.T m n * s.T b e = s.T b n * s.T m e ∧ s.kept m < s.kept b)
        · rw [if_pos g]
          refine ⟨by omega, p, fun r hr pr => ?_⟩
          by_cases x : r = m
          · rw [x]; exact ⟨Int.le_refl _, fun _ => Nat.le_refl _⟩
          · have mb : LeastOf n s e m b := by
              rcases g with g | ⟨g1, g2⟩
              · exact ⟨by omega, fun z => by omega⟩
              · exact ⟨by omega, fun _ => by omega⟩
            exact mb.trans p i2 pr (i3 r (by omega) pr)
        · rw [if_neg g]
          refine ⟨by omega, i2, fun r hr pr => ?_⟩
          by_cases x : r = m
          · rw [x]
            refine ⟨?_, fun z => ?_⟩
            · by_cases y : s.T b n * s.T m e ≤ s.T m n * s.T b e
              · exact y
              · exact absurd (.inl (by omega)) g
            · by_cases y : s.kept b ≤ s.kept m
              · exact y
              · exact absurd (.inr ⟨z.symm, by omega⟩) g
          · exact i3 r (by omega) pr
    · rw [if_neg p]
      cases q : lsh n s e m with
      | none =>
        rw [q] at ih
        intro r hr
        by_cases g : r = m
        · rw [g]; omega
        · exact ih r (by omega)
      | some b =>
        rw [q] at ih
        obtain ⟨i1, i2, i3⟩ := ih
        refine ⟨by omega, i2, fun r hr pr => ?_⟩
        by_cases g : r = m
        · rw [g] at pr; omega
        · exact i3 r (by omega) pr
/-- some line bounds each place -/
def Bnd (M : Nat → Col) (w n : Nat) : Prop := ∀ k, k < n → (∀ x, x < w → 0 ≤ M k x) ∧ ∃ x, x < w ∧ 0 < M k x
theorem Ok.bnd {s : Tab} (h : Ok M w n s) (hb : Bnd M w n) {e : Nat} (he : e < n) : ∃ r, r < w ∧ 0 < s.T r e := by
  refine Classical.byContradiction fun g => ?_
  obtain ⟨_, x, hx, p⟩ := hb e he
  have e1 := h.sol e (by omega) x (by omega)
  have e2 : sm (w + 1) (fun r => s.T r e * Bc M w s r x) = sm w (fun r => s.T r e * Bc M w s r x) + s.T w e * Bc M w s w x := rfl
  rw [e2, Bc_ge _ (by omega)] at e1
  unfold unitv at e1
  rw [if_neg (by omega), Int.mul_zero, Int.add_zero] at e1
  have e3 : sm w (fun r => s.T r e * Bc M w s r x) ≤ sm w (fun _ => 0) := sm_le fun r hr => by
    rw [Bc_lt _ hr]
    have a1 : s.T r e ≤ 0 := by
      by_cases q : 0 < s.T r e
      · exact absurd ⟨r, hr, q⟩ g
      · omega
    have := Int.mul_nonneg (show 0 ≤ - s.T r e by omega) ((hb _ (h.kn r hr)).1 x hx)
    rw [Int.neg_mul] at this
    omega
  rw [sm_zero fun _ _ => rfl] at e3
  have := Int.mul_pos h.pos p
  omega
theorem Ok.bs {s : Tab} (h : Ok M w n s) (hb : Bnd M w n) {e : Nat} (he : e < n) (neg : s.T w e < 0) (first : ∀ k, k < e → 0 ≤ s.T w k) : ∃ i, lsh n s e w = some i ∧ BS w n s i e := by
  have l := lsh_ok (n := n) s e w
  obtain ⟨r, hr, p⟩ := h.bnd hb he
  cases q : lsh n s e w with
  | none =>
    rw [q] at l
    have := l r hr
    omega
  | some i =>
    rw [q] at l
    exact ⟨i, rfl, l.1, he, neg, first, l.2.1, l.2.2⟩
theorem first_neg {f : Nat → Int} : ∀ {n : Nat}, (∃ k, k < n ∧ f k < 0) → ∃ e, e < n ∧ f e < 0 ∧ ∀ k, k < e → 0 ≤ f k
  | 0, ⟨k, h, _⟩ => by omega
  | n + 1, ⟨k, h, hk⟩ => by
    by_cases q : ∃ k, k < n ∧ f k < 0
    · obtain ⟨e, e1, e2, e3⟩ := first_neg q
      exact ⟨e, by omega, e2, e3⟩
    · refine ⟨k, h, hk, fun j hj => ?_⟩
      by_cases g : 0 ≤ f j
      · exact g
      · exact absurd ⟨j, by omega, by omega⟩ q
inductive Runs (w n : Nat) : Nat → Tab → Tab → Prop
  | done {s : Tab} : (∀ k, k < n → 0 ≤ s.T w k) → Runs w n 0 s s
  | step {m : Nat} {s f : Tab} {i e : Nat} : BS w n s i e → Runs w n m (piv s i e) f → Runs w n (m + 1) s f
theorem runs_some (hb : Bnd M w n) {K : Nat} (hK : ∀ k, k ≤ n → ∀ x, x < w + 1 → (M k x).natAbs ≤ K) (k1 : 1 ≤ K) {s : Tab} (h : Ok M w n s) : ∃ m f, Runs w n m s f := by
  have acc := acc_all (M := M) (w := w) (n := n) ((((w + 1) * K) ^ (w + 1) : Nat) : Int) (fun s hs => by
    obtain ⟨b1, b2⟩ := hs.bound hK k1
    have := b1 n (Nat.le_refl n) w (by omega)
    exact ⟨by omega, by omega⟩) _ s h (Nat.le_refl _)
  induction acc with
  | intro s _ ih =>
    by_cases q : ∃ k, k < n ∧ s.T w k < 0
    · obtain ⟨e, he, neg, first⟩ := first_neg q
      obtain ⟨i, _, b⟩ := h.bs hb he neg first
      obtain ⟨m, f, r⟩ := ih _ ⟨i, e, b, rfl⟩ (h.step b)
      exact ⟨m + 1, f, .step b r⟩
    · refine ⟨0, s, .done fun k hk => ?_⟩
      by_cases g : 0 ≤ s.T w k
      · exact g
      · exact absurd ⟨k, hk, by omega⟩ q
theorem Runs.ok {m : Nat} {s f : Tab} (r : Runs w n m s f) (h : Ok M w n s) : Ok M w n f ∧ ∀ k, k < n → 0 ≤ f.T w k := by
  induction r with
  | done d => exact ⟨h, d⟩
  | step b _ ih => exact ih (h.step b)
theorem Runs.uniq {m m' : Nat} {s f f' : Tab} (r : Runs w n m s f) (r' : Runs w n m' s f') (h : Ok M w n s) : f = f' := by
  induction r generalizing m' f' with
  | done d =>
    cases r' with
    | done _ => rfl
    | step b _ =>
      have := d _ b.he
      have := b.neg
      omega
  | step b q ih =>
    cases r' with
    | done d =>
      have := d _ b.he
      have := b.neg
      omega
    | step b' q' =>
      obtain ⟨rfl, rfl⟩ := b.uniq h b'
      exact ih q' (h.step b)
end
/-! the beginning -/
def ini (M : Nat → Col) (m : Nat) : Tab := ⟨fun r k => M k r, fun r => m + r, 1⟩
theorem ini_ok {M : Nat → Col} {m w : Nat} (hu : ∀ j, j < w → ∀ x, x < w + 1 → M (m + j) x = if x = j then 1 else 0) (hr : ∀ r, r < w → 0 ≤ M (m + w) r) : Ok M w (m + w) (ini M m) := by
  have hB : ∀ c, c < w + 1 → ∀ x, x < w + 1 → Bc M w (ini M m) c x = if c = x then 1 else 0 := fun c hc x hx => by
    by_cases g : c < w
    · rw [Bc_lt _ g]
      show M (m + c) x = _
      rw [hu c g x hx]
      by_cases q : x = c
      · rw [if_pos q, if_pos q.symm]
      · rw [if_neg q, if_neg (Ne.symm q)]
    · rw [Bc_ge _ g]
      unfold unitv
      have : c = w := by omega
      subst this
      by_cases q : x = c
      · rw [if_pos q, if_pos q.symm]
      · rw [if_neg q, if_neg (Ne.symm q)]
  refine ⟨fun r hr => ?_, fun k hk x hx => ?_, ?_, Int.one_pos, fun r hr' => hr r hr'⟩
  · show m + r < m + w
    omega
  · show 1 * M k x = _
    rw [sm_one (k := x) hx fun r hr q => by rw [hB r hr x hx, if_neg q, Int.mul_zero], hB x hx x hx, if_pos rfl, Int.one_mul, Int.mul_one]
    rfl
  · show _ = (1 : Int)
    rw [← D_id (w + 1)]
    exact D_congr hB
end Sx
namespace Sx
/-- the table's columns as the simplex takes them: rows, rests, what is due -/
def acol (a : Nat → Nat → Int) (m w : Nat) : Nat → Col := fun k x => if k < m then (if x < w then a k x else -1) else if k < m + w then (if x = k - m then 1 else 0) else (if x < w then 1 else 0)
section
variable {a : Nat → Nat → Int} {m w : Nat}
theorem acol_row {k : Nat} (h : k < m) (x : Nat) : acol a m w k x = if x < w then a k x else -1 := if_pos h
theorem acol_rest {j : Nat} (h : j < w) (x : Nat) : acol a m w (m + j) x = if x = j then 1 else 0 := by
  unfold acol
  rw [if_neg (by omega), if_pos (by omega), show m + j - m = j by omega]
theorem acol_due (x : Nat) : acol a m w (m + w) x = if x < w then 1 else 0 := by
  unfold acol
  rw [if_neg (by omega), if_neg (by omega)]
theorem acol_ok : Ok (acol a m w) w (m + w) (ini (acol a m w) m) := ini_ok (fun j hj x _ => acol_rest hj x) fun r hr => by rw [acol_due, if_pos hr]; decide
theorem acol_bnd (w1 : 1 ≤ w) (ha : ∀ i, i < m → ∀ j, j < w → 1 ≤ a i j) : Bnd (acol a m w) w (m + w) := fun k hk => by
  by_cases g : k < m
  · refine ⟨fun x hx => ?_, 0, by omega, ?_⟩
    · rw [acol_row g, if_pos hx]
      have := ha k g x hx
      omega
    · rw [acol_row g, if_pos (by omega)]
      have := ha k g 0 (by omega)
      omega
  · obtain ⟨j, rfl⟩ : ∃ j, k = m + j := ⟨k - m, by omega⟩
    refine ⟨fun x _ => ?_, j, by omega, ?_⟩
    · rw [acol_rest (by omega)]
      split <;> decide
    · rw [acol_rest (by omega), if_pos rfl]
      decide
theorem acol_abs {K : Nat} (k1 : 1 ≤ K) (ha : ∀ i, i < m → ∀ j, j < w → (a i j).natAbs ≤ K) : ∀ k, k ≤ m + w → ∀ x, x < w + 1 → (acol a m w k x).natAbs ≤ K := fun k hk x hx => by
  unfold acol
  split
  · split
    · exact ha k (by assumption) x (by assumption)
    · simpa using k1
  · split
    · split
      · simpa using k1
      · simp
    · split
      · simpa using k1
      · simp
/-! what the end shows -/
def xw (m w : Nat) (f : Tab) (i : Nat) : Int := sm w (fun r => if f.kept r = i then f.T r (m + w) else 0)
def yw (m w : Nat) (f : Tab) (j : Nat) : Int := f.T w (m + j)
structure Sol (a : Nat → Nat → Int) (m w : Nat) (f : Tab) : Prop where
  x0 : ∀ i, 0 ≤ xw m w f i
  xs : sm m (xw m w f) = f.T w (m + w)
  xc : ∀ j, j < w → sm m (fun i => xw m w f i * a i j) ≤ f.last
  y0 : ∀ j, j < w → 0 ≤ yw m w f j
  ys : sm w (yw m w f) = f.T w (m + w)
  yr : ∀ i, i < m → f.last ≤ sm w (fun j => yw m w f j * a i j)
  g : 0 < f.T w (m + w)
  d : 0 < f.last
theorem sm_pick {q : Nat → Int} (c : Nat → Int) (kept : Nat → Nat) : sm m (fun i => sm w (fun r => if kept r = i then q r else 0) * c i) = sm w (fun r => if kept r < m then q r * c (kept r) else 0) := by
  have e1 : sm m (fun i => sm w (fun r => if kept r = i then q r else 0) * c i) = sm m (fun i => sm w (fun r => if kept r = i then q r * c i else 0)) := sm_congr fun i _ => by
    rw [Int.mul_comm, ← sm_mul]
    refine sm_congr fun r _ => ?_
    split
    · rw [Int.mul_comm]
    · rw [Int.mul_zero]
  rw [e1, sm_comm]
  refine sm_congr fun r _ => ?_
  by_cases g : kept r < m
  · rw [if_pos g, sm_one g fun i _ h => if_neg (Ne.symm h), if_pos rfl]
  · rw [if_neg g, sm_zero fun i hi => if_neg (by omega)]
theorem sol (m1 : 1 ≤ m) (w1 : 1 ≤ w) (ha : ∀ i, i < m → ∀ j, j < w → 1 ≤ a i j) {f : Tab} (hf : Ok (acol a m w) w (m + w) f) (ht : ∀ k, k < m + w → 0 ≤ f.T w k) : Sol a m w f := by
  have fea := hf.fea
  have fp := hf.pos
  have x0 : ∀ i, 0 ≤ xw m w f i := fun i => sm_nonneg fun r hr => by
    split
    · exact fea r hr
    · exact Int.le_refl _
  have bw : Bc (acol a m w) w f w = unitv w := Bc_ge f (by omega)
  have sp : ∀ k x, sm (w + 1) (fun r => f.T r k * Bc (acol a m w) w f r x) = sm w (fun r => f.T r k * acol a m w (f.kept r) x) + f.T w k * unitv w x := fun k x => by
    show sm w (fun r => f.T r k * Bc (acol a m w) w f r x) + f.T w k * Bc (acol a m w) w f w x = _
    rw [bw]
    congr 1
    exact sm_congr fun r hr => by rw [Bc_lt _ hr]
  have ge := fun e (he : e ≤ m + w) => gain_eq hf (acol_ok (a := a) (m := m) (w := w)) he
  have ge2 : ∀ e, e ≤ m + w → f.T w e = sm w (fun r => acol a m w e r * yw m w f r) + acol a m w e w * f.last := fun e he => by
    have := ge e he
    rw [show (ini (acol a m w) m).last = 1 by rfl, Int.one_mul] at this
    exact this
  have xs : sm m (xw m w f) = f.T w (m + w) := by
    have e1 := hf.sol (m + w) (Nat.le_refl _) w (by omega)
    rw [sp, acol_due, if_neg (by omega), Int.mul_zero] at e1
    have e2 : sm w (fun r => f.T r (m + w) * acol a m w (f.kept r) w) = sm w (fun r => -1 * (if f.kept r < m then f.T r (m + w) * 1 else 0)) := sm_congr fun r hr => by
      by_cases g : f.kept r < m
      · rw [acol_row g, if_neg (by omega), if_pos g]
        omega
      · obtain ⟨j, hj⟩ : ∃ j, f.kept r = m + j := ⟨f.kept r - m, by omega⟩
        have := hf.kn r hr
        rw [if_neg g, hj, acol_rest (by omega), if_neg (by omega)]
        omega
    rw [e2, sm_mul, ← sm_pick (fun _ => 1)] at e1
    have e3 : unitv w w = 1 := if_pos rfl
    rw [e3] at e1
    have e4 : sm m (fun i => sm w (fun r => if f.kept r = i then f.T r (m + w) else 0) * 1) = sm m (xw m w f) := sm_congr fun i _ => Int.mul_one _
    rw [e4] at e1
    omega
  have ys : sm w (yw m w f) = f.T w (m + w) := by
    rw [ge2 (m + w) (Nat.le_refl _), acol_due, if_neg (by omega), Int.zero_mul, Int.add_zero]
    exact sm_congr fun r hr => by rw [acol_due, if_pos hr, Int.one_mul]
  have y0 : ∀ j, j < w → 0 ≤ yw m w f j := fun j hj => ht (m + j) (by omega)
  have yr : ∀ i, i < m → f.last ≤ sm w (fun j => yw m w f j * a i j) := fun i hi => by
    have e1 := ge2 i (by omega)
    have e2 := ht i (by omega)
    rw [e1, acol_row hi w, if_neg (by omega)] at e2
    have e3 : sm w (fun r => acol a m w i r * yw m w f r) = sm w (fun j => yw m w f j * a i j) := sm_congr fun r hr => by rw [acol_row hi, if_pos hr, Int.mul_comm]
    rw [e3] at e2
    omega
  refine ⟨x0, xs, fun j hj => ?_, y0, ys, yr, ?_, fp⟩
  · have e1 := hf.sol (m + w) (Nat.le_refl _) j (by omega)
    rw [sp, acol_due, if_pos hj, Int.mul_one] at e1
    have e3 : unitv w j = 0 := if_neg (by omega)
    rw [e3, Int.mul_zero, Int.add_zero] at e1
    rw [e1]
    show sm m (fun i => sm w (fun r => if f.kept r = i then f.T r (m + w) else 0) * a i j) ≤ _
    rw [sm_pick (fun i => a i j)]
    refine sm_le fun r hr => ?_
    by_cases g : f.kept r < m
    · rw [if_pos g, acol_row g, if_pos hj]
      exact Int.le_refl _
    · obtain ⟨i, hi⟩ : ∃ i, f.kept r = m + i := ⟨f.kept r - m, by omega⟩
      have := hf.kn r hr
      rw [if_neg g, hi, acol_rest (by omega)]
      refine Int.mul_nonneg (fea r hr) ?_
      split <;> decide
  · by_cases g : 0 < f.T w (m + w)
    · exact g
    · have z : ∀ j, j < w → yw m w f j = 0 := fun j hj => by
        have := sm_ge hj y0
        have := y0 j hj
        omega
      have := yr 0 (by omega)
      rw [sm_zero fun j hj => by rw [z j hj, Int.zero_mul]] at this
      omega
end
/-! the worth of a table -/
/-- weights by which the worth p / q is shown -/
structure IsVal (t : Nat → Nat → Int) (m w : Nat) (p q : Int) : Prop where
  q0 : 0 < q
  lo : ∃ x : Nat → Int, (∀ i, 0 ≤ x i) ∧ 0 < sm m x ∧ ∀ j, j < w → q * sm m (fun i => x i * t i j) ≤ p * sm m x
  hi : ∃ y : Nat → Int, (∀ j, 0 ≤ y j) ∧ 0 < sm w y ∧ ∀ i, i < m → p * sm w y ≤ q * sm w (fun j => y j * t i j)
theorem weak {t : Nat → Nat → Int} {m w : Nat} {p q p' q' : Int} {x y : Nat → Int} (hq : 0 < q) (hq' : 0 < q') (x0 : ∀ i, 0 ≤ x i) (y0 : ∀ j, 0 ≤ y j) (xs : 0 < sm m x) (ys : 0 < sm w y) (hx : ∀ j, j < w → q * sm m (fun i => x i * t i j) ≤ p * sm m x) (hy : ∀ i, i < m → p' * sm w y ≤ q' * sm w (fun j => y j * t i j)) : p' * q ≤ p * q' := by
  have b1 : sm w (fun j => y j * (q * sm m (fun i => x i * t i j))) ≤ sm w (fun j => y j * (p * sm m x)) := sm_le fun j hj => Int.mul_le_mul_of_nonneg_left (hx j hj) (y0 j)
  have b2 : sm m (fun i => x i * (p' * sm w y)) ≤ sm m (fun i => x i * (q' * sm w (fun j => y j * t i j))) := sm_le fun i hi => Int.mul_le_mul_of_nonneg_left (hy i hi) (x0 i)
  have c1 : sm w (fun j => y j * (p * sm m x)) = p * sm m x * sm w y := by
    rw [← sm_mul (p * sm m x)]
    exact sm_congr fun j _ => Int.mul_comm _ _
  have c2 : sm m (fun i => x i * (p' * sm w y)) = p' * sm w y * sm m x := by
    rw [← sm_mul (p' * sm w y)]
    exact sm_congr fun j _ => Int.mul_comm _ _
  have d1 : sm w (fun j => y j * (q * sm m (fun i => x i * t i j))) = q * sm w (fun j => sm m (fun i => x i * (y j * t i j))) := by
    rw [← sm_mul]
    refine sm_congr fun j _ => ?_
    rw [Int.mul_left_comm, ← sm_mul]
    congr 1
    exact sm_congr fun i _ => Int.mul_left_comm _ _ _
  have d2 : sm m (fun i => x i * (q' * sm w (fun j => y j * t i j))) = q' * sm w (fun j => sm m (fun i => x i * (y j * t i j))) := by
    rw [sm_comm (fun j i => x i * (y j * t i j)), ← sm_mul]
    refine sm_congr fun i _ => ?_
    rw [Int.mul_left_comm, ← sm_mul]
  rw [c1, d1] at b1
  rw [c2, d2] at b2
  generalize sm w (fun j => sm m (fun i => x i * (y j * t i j))) = B at *
  have gg : 0 < sm m x * sm w y := Int.mul_pos xs ys
  have e1 : q' * (q * B) ≤ q' * (p * sm m x * sm w y) := Int.mul_le_mul_of_nonneg_left b1 (by omega)
  have e2 : q * (p' * sm w y * sm m x) ≤ q * (q' * B) := Int.mul_le_mul_of_nonneg_left b2 (by omega)
  have f1 : q' * (q * B) = q * (q' * B) := by grind
  have f2 : q' * (p * sm m x * sm w y) = (p * q') * (sm m x * sm w y) := by grind
  have f3 : q * (p' * sm w y * sm m x) = (p' * q) * (sm m x * sm w y) := by grind
  exact Int.le_of_mul_le_mul_right (show (p' * q) * (sm m x * sm w y) ≤ (p * q') * (sm m x * sm w y) by omega) gg
theorem IsVal.uniq {t : Nat → Nat → Int} {m w : Nat} {p q p' q' : Int} (h : IsVal t m w p q) (k : IsVal t m w p' q') : p * q' = p' * q := by
  obtain ⟨x, x0, xs, hx⟩ := h.lo
  obtain ⟨y, y0, ys, hy⟩ := h.hi
  obtain ⟨x', x0', xs', hx'⟩ := k.lo
  obtain ⟨y', y0', ys', hy'⟩ := k.hi
  have h1 := weak h.q0 k.q0 x0 y0' xs ys' hx hy'
  have h2 := weak k.q0 h.q0 x0' y0 xs' ys hx' hy
  omega
theorem IsVal.scale {t : Nat → Nat → Int} {m w : Nat} {p q p' q' : Int} (h : IsVal t m w p q) (hq : 0 < q') (e : p * q' = p' * q) : IsVal t m w p' q' := by
  have q0 := h.q0
  refine ⟨hq, ?_, ?_⟩
  · obtain ⟨x, x0, xs, hx⟩ := h.lo
    refine ⟨x, x0, xs, fun j hj => ?_⟩
    have e1 := Int.mul_le_mul_of_nonneg_left (hx j hj) (show 0 ≤ q' by omega)
    have e2 : q' * (q * sm m (fun i => x i * t i j)) = (q' * sm m (fun i => x i * t i j)) * q := by grind
    have e3 : q' * (p * sm m x) = (p * q') * sm m x := by grind
    have e4 : (p' * q) * sm m x = (p' * sm m x) * q := by grind
    rw [e2, e3, e, e4] at e1
    exact Int.le_of_mul_le_mul_right e1 q0
  · obtain ⟨y, y0, ys, hy⟩ := h.hi
    refine ⟨y, y0, ys, fun i hi => ?_⟩
    have e1 := Int.mul_le_mul_of_nonneg_left (hy i hi) (show 0 ≤ q' by omega)
    have e2 : q' * (q * sm w (fun j => y j * t i j)) = (q' * sm w (fun j => y j * t i j)) * q := by grind
    have e3 : q' * (p * sm w y) = (p * q') * sm w y := by grind
    have e4 : (p' * q) * sm w y = (p' * sm w y) * q := by grind
    rw [e2, e3, e, e4] at e1
    exact Int.le_of_mul_le_mul_right e1 q0
/-- the end's weights show the worth of the table that was made greater by more -/
theorem Sol.val {t : Nat → Nat → Int} {m w : Nat} {more : Int} {f : Tab} (h : Sol (fun i j => t i j + more) m w f) : IsVal t m w (f.last - more * f.T w (m + w)) (f.T w (m + w)) := by
  have spl : ∀ (n : Nat) (x c : Nat → Int), sm n (fun i => x i * (c i + more)) = sm n (fun i => x i * c i) + more * sm n x := fun n x c => by
    rw [← sm_mul, ← sm_add]
    exact sm_congr fun i _ => by rw [Int.mul_add, Int.mul_comm (x i) more]
  have g := h.g
  refine ⟨h.g, ⟨xw m w f, h.x0, by rw [h.xs]; exact h.g, fun j hj => ?_⟩, ⟨fun j => if j < w then yw m w f j else 0, fun j => ?_, ?_, fun i hi => ?_⟩⟩
  · have := h.xc j hj
    rw [spl, h.xs] at this
    rw [h.xs, Int.mul_comm]
    exact Int.mul_le_mul_of_nonneg_right (by omega) (by omega)
  · show 0 ≤ if j < w then yw m w f j else 0
    split
    · exact h.y0 j (by assumption)
    · exact Int.le_refl _
  · have : sm w (fun j => if j < w then yw m w f j else 0) = sm w (yw m w f) := sm_congr fun j hj => if_pos hj
    rw [this, h.ys]
    exact h.g
  · have e1 : sm w (fun j => if j < w then yw m w f j else 0) = sm w (yw m w f) := sm_congr fun j hj => if_pos hj
    have e2 : sm w (fun j => (if j < w then yw m w f j else 0) * t i j) = sm w (fun j => yw m w f j * t i j) := sm_congr fun j hj => by rw [if_pos hj]
    have := h.yr i hi
    rw [spl, h.ys] at this
    rw [e1, e2, h.ys, Int.mul_comm]
    exact Int.mul_le_mul_of_nonneg_left (by omega) (by omega)
end Sx
namespace Sx
/-! tables told otherwise -/
theorem sm_list (g : Nat → Int) : ∀ n, sm n g = ((List.range n).map g).sum
  | 0 => rfl
  | n + 1 => by
    rw [List.range_succ, List.map_append, List.sum_append, ← sm_list g n]
    simp [sm]
theorem perm_sum {l l' : List Int} (h : l.Perm l') : l.sum = l'.sum := by
  induction h with
  | nil => rfl
  | cons a _ ih => rw [List.sum_cons, List.sum_cons, ih]
  | swap a b l => rw [List.sum_cons, List.sum_cons, List.sum_cons, List.sum_cons]; omega
  | trans _ _ h1 h2 => rw [h1, h2]
theorem sm_perm (g : Nat → Int) {n : Nat} {l : List Nat} (h : l.Perm (List.range n)) : sm n (fun i => g (l.getD i 0)) = sm n g := by
  have ll : l.length = n := by rw [h.length_eq, List.length_range]
  have e : (List.range n).map (fun i => g (l.getD i 0)) = l.map g := by
    apply List.ext_getElem
    · simp [ll]
    · intro i a b
      simp at b
      rw [List.getElem_map, List.getElem_map, List.getElem_range, List.getD_eq_getElem?_getD, List.getElem?_eq_getElem b]
      rfl
  rw [sm_list, sm_list, e]
  exact perm_sum (h.map g)
theorem perm_lt {n : Nat} {l : List Nat} (h : l.Perm (List.range n)) {i : Nat} (hi : i < n) : l.getD i 0 < n := by
  have ll : l.length = n := by rw [h.length_eq, List.length_range]
  rw [List.getD_eq_getElem?_getD, List.getElem?_eq_getElem (by omega)]
  exact List.mem_range.mp (h.mem_iff.mp (List.getElem_mem _))
variable {t t' : Nat → Nat → Int} {m w : Nat} {p q : Int}
theorem IsVal.congr (h : IsVal t m w p q) (e : ∀ i, i < m → ∀ j, j < w → t i j = t' i j) : IsVal t' m w p q := by
  refine ⟨h.q0, ?_, ?_⟩
  · obtain ⟨x, x0, xs, hx⟩ := h.lo
    refine ⟨x, x0, xs, fun j hj => ?_⟩
    rw [← sm_congr (f := fun i => x i * t i j) (g := fun i => x i * t' i j) fun i hi => by rw [e i hi j hj]]
    exact hx j hj
  · obtain ⟨y, y0, ys, hy⟩ := h.hi
    refine ⟨y, y0, ys, fun i hi => ?_⟩
    rw [← sm_congr (f := fun j => y j * t i j) (g := fun j => y j * t' i j) fun j hj => by rw [e i hi j hj]]
    exact hy i hi
theorem IsVal.perm (h : IsVal t m w p q) {ρ σ : List Nat} (hr : ρ.Perm (List.range m)) (hs : σ.Perm (List.range w)) : IsVal (fun i j => t (ρ.getD i 0) (σ.getD j 0)) m w p q := by
  refine ⟨h.q0, ?_, ?_⟩
  · obtain ⟨x, x0, xs, hx⟩ := h.lo
    refine ⟨fun i => x (ρ.getD i 0), fun i => x0 _, by rw [sm_perm x hr]; exact xs, fun j hj => ?_⟩
    rw [sm_perm x hr, sm_perm (fun i => x i * t i (σ.getD j 0)) hr]
    exact hx _ (perm_lt hs hj)
  · obtain ⟨y, y0, ys, hy⟩ := h.hi
    refine ⟨fun j => y (σ.getD j 0), fun j => y0 _, by rw [sm_perm y hs]; exact ys, fun i hi => ?_⟩
    rw [sm_perm y hs, sm_perm (fun j => y j * t (ρ.getD i 0) j) hs]
    exact hy _ (perm_lt hr hi)
theorem sm_negl (x c : Nat → Int) (n : Nat) : sm n (fun i => x i * (0 - c i)) = - sm n (fun i => x i * c i) := by
  have := sm_mul (-1) (fun i => x i * c i) n
  rw [show sm n (fun i => x i * (0 - c i)) = sm n (fun i => -1 * (x i * c i)) from sm_congr fun i _ => by rw [Int.zero_sub, Int.mul_neg]; omega]
  omega
theorem IsVal.turn (h : IsVal t m w p q) : IsVal (fun j i => 0 - t i j) w m (0 - p) q := by
  refine ⟨h.q0, ?_, ?_⟩
  · obtain ⟨y, y0, ys, hy⟩ := h.hi
    refine ⟨y, y0, ys, fun i hi => ?_⟩
    rw [sm_negl]
    have := hy i hi
    rw [Int.mul_neg, Int.sub_mul, Int.zero_mul]
    omega
  · obtain ⟨x, x0, xs, hx⟩ := h.lo
    refine ⟨x, x0, xs, fun j hj => ?_⟩
    rw [sm_negl]
    have := hx j hj
    rw [Int.mul_neg, Int.sub_mul, Int.zero_mul]
    omega
theorem sm_aff (x c : Nat → Int) (a b : Int) (n : Nat) : sm n (fun i => x i * (a * c i + b)) = a * sm n (fun i => x i * c i) + b * sm n x := by
  rw [← sm_mul, ← sm_mul, ← sm_add]
  exact sm_congr fun i _ => by grind
theorem IsVal.aff (h : IsVal t m w p q) {a : Int} (b : Int) (ha : 0 < a) : IsVal (fun i j => a * t i j + b) m w (a * p + b * q) q := by
  refine ⟨h.q0, ?_, ?_⟩
  · obtain ⟨x, x0, xs, hx⟩ := h.lo
    refine ⟨x, x0, xs, fun j hj => ?_⟩
    rw [sm_aff]
    have := Int.mul_le_mul_of_nonneg_left (hx j hj) (show 0 ≤ a by omega)
    have e1 : q * (a * sm m (fun i => x i * t i j) + b * sm m x) = a * (q * sm m (fun i => x i * t i j)) + b * q * sm m x := by grind
    have e2 : (a * p + b * q) * sm m x = a * (p * sm m x) + b * q * sm m x := by grind
    omega
  · obtain ⟨y, y0, ys, hy⟩ := h.hi
    refine ⟨y, y0, ys, fun i hi => ?_⟩
    rw [sm_aff]
    have := Int.mul_le_mul_of_nonneg_left (hy i hi) (show 0 ≤ a by omega)
    have e1 : q * (a * sm w (fun j => y j * t i j) + b * sm w y) = a * (q * sm w (fun j => y j * t i j)) + b * q * sm w y := by grind
    have e2 : (a * p + b * q) * sm w y = a * (p * sm w y) + b * q * sm w y := by grind
    omega
theorem sm_ext (x c c' : Nat → Int) {m m' : Nat} (hm : m ≤ m') (e : ∀ i, i < m → c i = c' i) : sm m' (fun i => (if i < m then x i else 0) * c' i) = sm m (fun i => x i * c i) := by
  obtain ⟨k, rfl⟩ : ∃ k, m' = m + k := ⟨m' - m, by omega⟩
  induction k with
  | zero => exact sm_congr fun i hi => by rw [if_pos (show i < m from hi), e i hi]
  | succ k ih =>
    show sm (m + k) (fun i => (if i < m then x i else 0) * c' i) + (if m + k < m then x (m + k) else 0) * c' (m + k) = _
    rw [ih (by omega), if_neg (by omega), Int.zero_mul, Int.add_zero]
theorem sm_ext1 (x : Nat → Int) {m m' : Nat} (hm : m ≤ m') : sm m' (fun i => if i < m then x i else 0) = sm m x := by
  have := sm_ext x (fun _ => 1) (fun _ => 1) hm fun _ _ => rfl
  rw [show sm m' (fun i => if i < m then x i else 0) = sm m' (fun i => (if i < m then x i else 0) * 1) from sm_congr fun i _ => (Int.mul_one _).symm, this]
  exact sm_congr fun i _ => Int.mul_one _
theorem IsVal.rows (h : IsVal t m w p q) {m' : Nat} (hm : m ≤ m') (e : ∀ i, i < m → ∀ j, j < w → t i j = t' i j) (more : ∀ i, m ≤ i → i < m' → ∃ k, k < m ∧ ∀ j, j < w → t k j ≤ t' i j) : IsVal t' m' w p q := by
  refine ⟨h.q0, ?_, ?_⟩
  · obtain ⟨x, x0, xs, hx⟩ := h.lo
    refine ⟨fun i => if i < m then x i else 0, fun i => ?_, by rw [sm_ext1 x hm]; exact xs, fun j hj => ?_⟩
    · show 0 ≤ if i < m then x i else 0
      split
      · exact x0 i
      · exact Int.le_refl _
    · rw [sm_ext1 x hm, sm_ext x (fun i => t i j) (fun i => t' i j) hm fun i hi => e i hi j hj]
      exact hx j hj
  · obtain ⟨y, y0, ys, hy⟩ := h.hi
    refine ⟨y, y0, ys, fun i hi => ?_⟩
    by_cases g : i < m
    · rw [← sm_congr (f := fun j => y j * t i j) (g := fun j => y j * t' i j) fun j hj => by rw [e i g j hj]]
      exact hy i g
    · obtain ⟨k, hk, le⟩ := more i (by omega) hi
      refine Int.le_trans (hy k hk) (Int.mul_le_mul_of_nonneg_left (sm_le fun j hj => ?_) (by have := h.q0; omega))
      exact Int.mul_le_mul_of_nonneg_left (le j hj) (y0 j)
theorem IsVal.cols (h : IsVal t m w p q) {w' : Nat} (hw : w ≤ w') (e : ∀ i, i < m → ∀ j, j < w → t i j = t' i j) (less : ∀ j, w ≤ j → j < w' → ∃ k, k < w ∧ ∀ i, i < m → t' i j ≤ t i k) : IsVal t' m w' p q := by
  refine ⟨h.q0, ?_, ?_⟩
  · obtain ⟨x, x0, xs, hx⟩ := h.lo
    refine ⟨x, x0, xs, fun j hj => ?_⟩
    by_cases g : j < w
    · rw [← sm_congr (f := fun i => x i * t i j) (g := fun i => x i * t' i j) fun i hi => by rw [e i hi j g]]
      exact hx j g
    · obtain ⟨k, hk, le⟩ := less j (by omega) hj
      refine Int.le_trans (Int.mul_le_mul_of_nonneg_left (sm_le fun i hi => ?_) (by have := h.q0; omega)) (hx k hk)
      exact Int.mul_le_mul_of_nonneg_left (le i hi) (x0 i)
  · obtain ⟨y, y0, ys, hy⟩ := h.hi
    refine ⟨fun j => if j < w then y j else 0, fun j => ?_, by rw [sm_ext1 y hw]; exact ys, fun i hi => ?_⟩
    · show 0 ≤ if j < w then y j else 0
      split
      · exact y0 j
      · exact Int.le_refl _
    · rw [sm_ext1 y hw, sm_ext y (fun j => t i j) (fun j => t' i j) hw fun j hj => e i hi j hj]
      exact hy i hi
end Sx
namespace Lw
open PySem PySem.Spec PyProof.Rows L2 Dv
--! sx
theorem gcd_step {x y : Int} (hx : 0 ≤ x) (hy : 0 < y) : 0 ≤ x.fmod y ∧ x.fmod y < y ∧ Int.gcd y (x.fmod y) = Int.gcd x y := by
  rw [fmod_pos hy]
  refine ⟨Int.emod_nonneg x (by omega), Int.emod_lt_of_pos x hy, ?_⟩
  rw [Int.gcd_comm]
  unfold Int.gcd
  rw [Int.natAbs_emod_of_nonneg hx, Nat.gcd_comm x.natAbs, Nat.gcd_rec y.natAbs]
theorem abs_gcd (a b : Int) : Int.gcd (if a < 0 then -a else a) (if b < 0 then -b else b) = Int.gcd a b := by
  unfold Int.gcd
  split <;> split <;> simp
theorem divisor_ok (a b : Int) (S : Store) : F_divisor [.int a, .int b] S = .ok (.int (Int.gcd a b)) S := by
  rw [← ens_eq]
  refine ens_fn rfl ?_
  unfold b_divisor
  simp
  rw [← abs_gcd a b]
  have ha : 0 ≤ (if a < 0 then -a else a) := by split <;> omega
  have hb : 0 ≤ (if b < 0 then -b else b) := by split <;> omega
  generalize (if a < 0 then -a else a) = x at ha ⊢
  generalize (if b < 0 then -b else b) = y at hb ⊢
  refine ens_while (fun e S' => ∃ x' y' : Int, e = [some (.int x'), some (.int y')] ∧ S' = S ∧ 0 ≤ x' ∧ 0 ≤ y' ∧ Int.gcd x' y' = Int.gcd x y) (fun e _ => match e with | [_, some (.int y')] => y'.toNat | _ => 0) ?_ ⟨x, y, rfl, rfl, ha, hb, rfl⟩
  rintro e S' ⟨x', y', rfl, rfl, hx, hy, hg⟩
  simp
  refine ⟨fun h => ?_, fun h => ?_⟩
  · have hp : 0 < y' := by omega
    obtain ⟨h1, h2, h3⟩ := gcd_step hx hp
    exact ⟨h, ⟨_, _, ⟨rfl, rfl⟩, hy, h1, h3.trans hg⟩, by omega⟩
  · subst h
    rw [← hg, Int.gcd_zero_right]
    omega
theorem dMod_pos {i j : Int} {S : Store} (h : 0 < j) : dMod (.int i) (.int j) S = .ok (.int (i % j)) S := by
  simp [fmod_pos h]
  omega
theorem sIx_n {n d k : Nat} : HT.sIx n d (some (k : Int)) = min k n := by rw [HT.sIx_nat]
theorem dl_ix {l : List D} {i : Nat} (h : i < l.length) (S : Store) : dIx (.lst l) (.int (i : Int)) S = .ok l[i] S := by
  simp only [dIx, getQ_lst, atI_nat (xs := l) (j := i) (v := l[i]) (List.getElem?_eq_getElem h)]
theorem dl_to (l : List D) (b : Nat) (S : Store) : slD mkF (.lst l) none (some (b : Int)) S = .ok (.lst (l.take (min b l.length))) S := by
  unfold slD
  have a1 : HT.sIx l.length 0 none = 0 := by simp [HT.sIx]
  simp only [getQ_lst, sIx_n, a1, List.drop_zero, Nat.sub_zero, mkF_app]
theorem dl_from (l : List D) (a : Nat) (S : Store) : slD mkF (.lst l) (some (a : Int)) none S = .ok (.lst (l.drop (min a l.length))) S := by
  unfold slD
  have a1 : HT.sIx l.length l.length none = l.length := by simp [HT.sIx]
  simp only [getQ_lst, sIx_n, a1, mkF_app]
  rw [List.take_of_length_le (by rw [List.length_drop]; exact Nat.le_refl _)]
theorem dl_add (a b : List D) (S : Store) (h : a.length + b.length ≤ 16000000) : dAdd mkF (.lst a) (.lst b) S = .ok (.lst (a ++ b)) S := by
  simp only [dAdd, getL, if_pos h, mkF_app]
theorem dl_pick (l : List Int) {r : Int} (h0 : 0 ≤ r) (h1 : r < l.length) (S : Store) : ∃ v ∈ l, dIx (.lst (l.map D.int)) (.int r) S = .ok (.int v) S := by
  have hi : r.toNat < l.length := by omega
  refine ⟨l[r.toNat], List.getElem_mem _, ?_⟩
  have := dl_ix (l := l.map D.int) (i := r.toNat) (by rw [List.length_map]; exact hi) S
  rw [Int.toNat_of_nonneg h0] at this
  rw [this, List.getElem_map]
theorem dt_add (a b : List D) (S : Store) (ha : a ≠ []) (hb : b ≠ []) (h : a.length + b.length ≤ 16000000) : dAdd mkF (.tup a) (.tup b) S = .ok (.tup (a ++ b)) S := by
  simp only [dAdd, if_pos (⟨ha, hb, h⟩ : a ≠ [] ∧ b ≠ [] ∧ a.length + b.length ≤ 16000000)]
theorem dt_two (a b c : D) (S : Store) : slD mkF (.tup [a, b, c]) none (some 2) S = .ok (.tup [a, b]) S := by
  have a1 : HT.sIx 3 0 none = 0 := by simp [HT.sIx]
  have a2 : HT.sIx 3 3 (some 2) = 2 := sIx_n (k := 2)
  simp [slD, a1, a2]
/-! draws, told by values -/
def lfD (n f k : Int) : List D := [.int n, .int f, .int k]
abbrev Sg := Int × Int × Int
def mixP (n k : Int) : Int := ((n * n + k * n + 7 * k * k) * 1103515245 % 2147483629) * ((n * n + k * n + 7 * k * k) * 1103515245 % 2147483629) % 2147483587
def drw (σ : Sg) (b : Int) : Int := if σ.2.1 = 0 then mixP σ.1 (σ.2.2 + 1) * (mixP σ.1 (σ.2.2 + 1) + 2) % 2147483579 % b else σ.1 % b
def nxt (σ : Sg) (b : Int) : Sg := (if σ.2.1 = 0 then σ.1 else σ.1 / b, σ.2.1, σ.2.2 + 1)
def lfs (σ : Sg) : Cn := .lst (lfD σ.1 σ.2.1 σ.2.2)
structure SgOk (T : Int) (σ : Sg) : Prop where
  k0 : 0 ≤ σ.2.2
  kT : σ.2.2 ≤ T
  b : σ.2.1 = 0 → Builtin.Int.intBits σ.1 ≤ 1048576
theorem SgOk.mono {T T' : Int} {σ : Sg} (h : SgOk T σ) (hT : T ≤ T') : SgOk T' σ := ⟨h.k0, by have := h.kT; omega, h.b⟩
theorem SgOk.nxt {T : Int} {σ : Sg} (h : SgOk T σ) (b : Int) : SgOk (T + 1) (nxt σ b) := ⟨by have := h.k0; show 0 ≤ σ.2.2 + 1; omega, by have := h.kT; show σ.2.2 + 1 ≤ T + 1; omega, fun z => by
  have z : σ.2.1 = 0 := z
  show Builtin.Int.intBits (if σ.2.1 = 0 then σ.1 else σ.1 / b) ≤ _
  rw [if_pos z]; exact h.b z⟩
theorem drw_in (σ : Sg) {b : Int} (hb : 0 < b) : 0 ≤ drw σ b ∧ drw σ b < b := by
  unfold drw
  split
  · exact ⟨Int.emod_nonneg _ (by omega), Int.emod_lt_of_pos _ hb⟩
  · exact ⟨Int.emod_nonneg _ (by omega), Int.emod_lt_of_pos _ hb⟩
theorem mixP_in (n k : Int) : 0 ≤ mixP n k ∧ mixP n k < 2147483587 := ⟨Int.emod_nonneg _ (by decide), Int.emod_lt_of_pos _ (by decide)⟩
theorem mix_eq (n k : Int) (S : Store) (hn : Builtin.Int.intBits n ≤ 1048576) (k0 : 0 ≤ k) (k1 : k ≤ 1000000) : F__law_mix [.int n, .int k] S = .ok (.int (mixP n k)) S := by
  rw [← ens_eq]
  refine ens_fn rfl ?_
  unfold b__law_mix
  simp only [List.map_cons, List.map_nil, List.replicate, List.cons_append, List.nil_append]
  have m1 : IntMulOk n n := mulOk_bits (by omega)
  have m2 : IntMulOk k n := mulOkL (by omega) (by omega)
  have m3 : IntMulOk 7 k := mulOkL (by decide) (by decide)
  have m4 : IntMulOk (7 * k) k := mulOkL (by omega) (by omega)
  have m5 : ∀ x : Int, IntMulOk x 1103515245 := fun x => mulOkR (by decide) (by decide)
  refine ens_sq (fun e S' => S' = S ∧ e = [some (.int n), some (.int k), some (.int ((n * n + k * n + 7 * k * k) * 1103515245 % 2147483629))]) (fun R hR => ?_) ?_
  · simp only [ySet_app, xOp_app, xC_app, xVar_app, List.getElem?_cons_zero, List.getElem?_cons_succ, Res.bind_ok, dMul_int, if_pos m1, if_pos m2, if_pos m3, if_pos m4, if_pos (m5 _), dAdd_int, dMod_pos (show (0 : Int) < 2147483629 by decide), enso_out, ens_ok, enso_nx, List.set_cons_succ, List.set_cons_zero]
    exact hR _ _ ⟨rfl, rfl⟩
  rintro e S' ⟨rfl, rfl⟩
  have q0 := Int.emod_nonneg ((n * n + k * n + 7 * k * k) * 1103515245) (show (2147483629 : Int) ≠ 0 by decide)
  have q1 := Int.emod_lt_of_pos ((n * n + k * n + 7 * k * k) * 1103515245) (show (0 : Int) < 2147483629 by decide)
  unfold mixP
  generalize (n * n + k * n + 7 * k * k) * 1103515245 % 2147483629 = q at *
  have m6 : IntMulOk q q := mulOkL (by omega) (by omega)
  simp only [yRet_app, xOp_app, xC_app, xVar_app, List.getElem?_cons_zero, List.getElem?_cons_succ, Res.bind_ok, dMul_int, if_pos m6, dMod_pos (show (0 : Int) < 2147483587 by decide), enso_out, ens_ok, enso_rt, fin_same]
  exact ⟨trivial, trivial⟩
theorem draw_eq {σ : Sg} {T b : Int} {P R : Store} (h : SgOk T σ) (hb : 0 < b) (hb2 : b < 1000000000000000000000000000000000000000000000000000000000000) (hT : T < 1000000) :
    Ens (F__law_draw [.cell P.length, .int b] (P ++ lfs σ :: R)) fun d S' => d = .int (drw σ b) ∧ S' = P ++ lfs (nxt σ b) :: R := by
  obtain ⟨k0, kT, hf⟩ := h
  obtain ⟨n, f, k⟩ := σ
  simp only at k0 kT hf
  refine ens_fn rfl ?_
  unfold b__law_draw
  simp only [List.map_cons, List.map_nil, List.replicate, List.cons_append, List.nil_append]
  have at_ : ∀ (l : List D), (P ++ Cn.lst l :: R)[P.length]? = some (.lst l) := fun l => app_at0 rfl
  have set_ : ∀ (x y : Cn), (P ++ x :: R).set P.length y = P ++ y :: R := fun x y => app_set0 rfl
  have j : ∀ (n f k : Int) (S : Store), S[P.length]? = some (.lst (lfD n f k)) → dIx (.cell P.length) (.int 0) S = .ok (.int n) S ∧ dIx (.cell P.length) (.int 1) S = .ok (.int f) S ∧ dIx (.cell P.length) (.int 2) S = .ok (.int k) S := fun n f k S hS => by
    refine ⟨?_, ?_, ?_⟩ <;> simp [dIx, getQ, getL, hS, lfD]
  have c0 : (P ++ lfs (n, f, k) :: R)[P.length]? = some (.lst (lfD n f k)) := at_ _
  refine ens_sq (fun e S' => S' = P ++ .lst (lfD n f (k + 1)) :: R ∧ e = [some (.cell P.length), some (.int b), none, none]) (fun R' hR => ?_) ?_
  · have st : setL (.cell P.length) (.int 2) (.int (k + 1)) (P ++ lfs (n, f, k) :: R) = .ok () (P ++ .lst (lfD n f (k + 1)) :: R) := by
      unfold setL
      simp only [c0]
      simp [lfD, ixN, set_]
    simp only [ySub_app, xOp_app, xC_app, xVar_app, List.getElem?_cons_zero, List.getElem?_cons_succ, Res.bind_ok, (j n f k _ c0).2.2, dAdd_int, st, enso_out, ens_ok, enso_nx]
    exact hR _ _ ⟨rfl, rfl⟩
  rintro e S' ⟨rfl, rfl⟩
  have c1 := at_ (lfD n f (k + 1))
  obtain ⟨x0, x1, x2⟩ := j n f (k + 1) _ c1
  have fl : ∀ (d : D) (x y : Cn), fin false (P ++ x :: R).length d (P ++ y :: R) = .ok d (P ++ y :: R) := fun d x y => fin_len (by simp)
  by_cases hf0 : f = 0
  · refine ens_sq (fun e S' => False) (fun R' hR => ?_) (fun e S' h => h.elim)
    simp only [yIf_app, xIsT_app, xOp_app, xC_app, xVar_app, List.getElem?_cons_zero, List.getElem?_cons_succ, Res.bind_ok, x1, dEq_int, decide_eq_true hf0, if_true, enso_out, ens_ok]
    have mx := mix_eq n (k + 1) (P ++ .lst (lfD n f (k + 1)) :: R) (hf hf0) (by omega) (by omega)
    have mi := mixP_in n (k + 1)
    refine ens_sq (fun e S' => S' = P ++ .lst (lfD n f (k + 1)) :: R ∧ e = [some (.cell P.length), some (.int b), none, some (.int (mixP n (k + 1)))]) (fun R2 hR2 => ?_) ?_
    · simp only [ySet_app, xFn_app, xCons_app, xNil_app, xOp_app, xC_app, xVar_app, List.getElem?_cons_zero, List.getElem?_cons_succ, Res.bind_ok, x0, x2, mx, enso_out, ens_ok, enso_nx, List.set_cons_succ, List.set_cons_zero]
      exact hR2 _ _ ⟨rfl, rfl⟩
    rintro e S2 ⟨rfl, rfl⟩
    have m6 : IntMulOk (mixP n (k + 1)) (mixP n (k + 1) + 2) := mulOkL (by omega) (by omega)
    simp only [yRet_app, xOp_app, xC_app, xVar_app, List.getElem?_cons_zero, List.getElem?_cons_succ, Res.bind_ok, dAdd_int, dMul_int, if_pos m6, dMod_pos (show (0 : Int) < 2147483579 by decide), dMod_pos hb, enso_out, ens_ok, enso_rt, fl]
    refine ⟨?_, ?_⟩
    · unfold drw; rw [if_pos hf0]
    · unfold nxt lfs; rw [if_pos hf0]
  · refine ens_sq (fun e S' => S' = P ++ .lst (lfD n f (k + 1)) :: R ∧ e = [some (.cell P.length), some (.int b), none, none]) (fun R' hR => ?_) ?_
    · simp only [yIf_app, xIsT_app, xOp_app, xC_app, xVar_app, List.getElem?_cons_zero, List.getElem?_cons_succ, Res.bind_ok, x1, dEq_int, decide_eq_false hf0, Bool.false_eq_true, if_false, enso_out, ens_ok, yNil_app, enso_nx]
      exact hR _ _ ⟨rfl, rfl⟩
    rintro e S' ⟨rfl, rfl⟩
    refine ens_sq (fun e S' => S' = P ++ .lst (lfD n f (k + 1)) :: R ∧ e = [some (.cell P.length), some (.int b), some (.int (n % b)), none]) (fun R' hR => ?_) ?_
    · simp only [ySet_app, xOp_app, xC_app, xVar_app, List.getElem?_cons_zero, List.getElem?_cons_succ, Res.bind_ok, x0, dMod_pos hb, enso_out, ens_ok, enso_nx, List.set_cons_succ, List.set_cons_zero]
      exact hR _ _ ⟨rfl, rfl⟩
    rintro e S' ⟨rfl, rfl⟩
    have fd : dFdiv (.int n) (.int b) (P ++ .lst (lfD n f (k + 1)) :: R) = .ok (.int (n / b)) (P ++ .lst (lfD n f (k + 1)) :: R) := by
      have := fdiv_pos (i := n) hb
      simp only [dFdiv_ok, if_pos (divOk_lit (i := n) hb hb2), this]
    refine ens_sq (fun e S' => S' = P ++ .lst (lfD (n / b) f (k + 1)) :: R ∧ e = [some (.cell P.length), some (.int b), some (.int (n % b)), none]) (fun R' hR => ?_) ?_
    · have st : setL (.cell P.length) (.int 0) (.int (n / b)) (P ++ .lst (lfD n f (k + 1)) :: R) = .ok () (P ++ .lst (lfD (n / b) f (k + 1)) :: R) := by
        unfold setL
        simp only [c1]
        simp [lfD, ixN, set_]
      simp only [ySub_app, xOp_app, xC_app, xVar_app, List.getElem?_cons_zero, List.getElem?_cons_succ, Res.bind_ok, x0, fd, st, enso_out, ens_ok, enso_nx]
      exact hR _ _ ⟨rfl, rfl⟩
    rintro e S' ⟨rfl, rfl⟩
    simp only [yRet_app, xVar_app, List.getElem?_cons_zero, List.getElem?_cons_succ, enso_out, ens_ok, enso_rt, lfs, fl]
    refine ⟨?_, ?_⟩
    · unfold drw; rw [if_neg hf0]
    · unfold nxt; simp only [if_neg hf0]
def lft (c : Int) : Sg := if c < 1000000000000000000 then (c, 0, 0) else (c - 1000000000000000000, 1, 0)
theorem lft_ok {c : Int} (hc : Builtin.Int.intBits c ≤ 1048576) : SgOk 0 (lft c) := by
  unfold lft
  split
  · exact ⟨by simp, by simp, fun _ => hc⟩
  · exact ⟨by simp, by simp, fun z => by simp at z⟩
theorem left_eq (c : Int) (S : Store) : F__law_left [.lst [.int c], .int 0] S = .ok (.cell S.length) (S ++ [lfs (lft c)]) := by
  suffices h : Ens (F__law_left [.lst [.int c], .int 0] S) fun d S' => d = .cell S.length ∧ S' = S ++ [lfs (lft c)] by
    obtain ⟨d, S', e, rfl, rfl⟩ := h.get
    exact e
  refine ens_fn rfl ?_
  unfold b__law_left
  simp only [List.map_cons, List.map_nil, List.replicate, List.cons_append, List.nil_append]
  have ca : F__law_cell_at [.lst [.int c], .int 0] S = .ok (.int c) S := by
    rw [← ens_eq]
    refine ens_fn rfl ?_
    unfold b__law_cell_at
    simp
  have p18 : ∀ S, dPow (.int 10) (.int 18) S = .ok (.int 1000000000000000000) S := fun S => by simp [powOk]
  have fk : ∀ d S', fin true S.length d S' = .ok d S' := fun d S' => by simp [fin]
  refine ens_sq (fun e S' => S' = S ∧ e = [some (.lst [.int c]), some (.int 0), some (.int c)]) (fun R hR => ?_) ?_
  · simp only [ySet_app, xFn_app, xCons_app, xNil_app, xVar_app, List.getElem?_cons_zero, List.getElem?_cons_succ, Res.bind_ok, ca, enso_out, ens_ok, enso_nx, List.set_cons_succ, List.set_cons_zero]
    exact hR _ _ ⟨rfl, rfl⟩
  rintro e S' ⟨rfl, rfl⟩
  refine ens_sq (fun e S2 => S2 = S' ∧ ¬ c < 1000000000000000000 ∧ e = [some (.lst [.int c]), some (.int 0), some (.int c)]) (fun R hR => ?_) ?_
  · simp only [yIf_app, xIsT_app, xOp_app, xC_app, xVar_app, List.getElem?_cons_zero, List.getElem?_cons_succ, Res.bind_ok, p18, dLt_ok, enso_out, ens_ok]
    by_cases g : c < 1000000000000000000
    · rw [if_pos (by simpa using g)]
      simp only [yRet_app, xLst_app, xCons_app, xNil_app, xC_app, xVar_app, List.getElem?_cons_zero, List.getElem?_cons_succ, Res.bind_ok, List.length_cons, List.length_nil, if_pos (show 0 + 1 + 1 + 1 ≤ 1000 by decide), mkC_app, enso_out, ens_ok, enso_rt, fk]
      refine ⟨trivial, ?_⟩
      unfold lft; rw [if_pos g]; rfl
    · rw [if_neg (by simpa using g)]
      simp only [yNil_app, enso_nx]
      exact hR _ _ ⟨rfl, g, rfl⟩
  rintro e S2 ⟨rfl, g, rfl⟩
  simp only [yRet_app, xLst_app, xOp_app, xCons_app, xNil_app, xC_app, xVar_app, List.getElem?_cons_zero, List.getElem?_cons_succ, Res.bind_ok, p18, dSub_ok, List.length_cons, List.length_nil, if_pos (show 0 + 1 + 1 + 1 ≤ 1000 by decide), mkC_app, enso_out, ens_ok, enso_rt, fk]
  refine ⟨trivial, ?_⟩
  unfold lft; rw [if_neg g]; rfl
/-! tables of whole numbers -/
abbrev Tb := List (List Int)
def tbD (t : Tb) : D := .lst (t.map fun r => D.lst (r.map D.int))
structure TbG (h w K : Nat) (t : Tb) : Prop where
  len : t.length = h
  row : ∀ r ∈ t, r.length = w
  sz : ∀ r ∈ t, ∀ x ∈ r, x.natAbs ≤ K
  h1 : 1 ≤ h
  h12 : h ≤ 12
  w1 : 1 ≤ w
  w12 : w ≤ 12
theorem row_under (t : Tb) (L : Nat) : (Cn.lst (t.map fun r => D.lst (r.map D.int))).under L = true := by
  rw [Cn.under]
  exact underL_of fun d hd => by
    obtain ⟨r, _, rfl⟩ := List.mem_map.mp hd
    rw [D.under]
    exact underL_ints r
def K30 : Nat := 1000000000000000000000000000000
/-! lists of numbers -/
theorem ix_getD {l : List Int} {j : Nat} (h : j < l.length) (S : Store) : dIx (.lst (l.map D.int)) (.int (j : Int)) S = .ok (.int (l.getD j 0)) S := by
  have := dl_ix (l := l.map D.int) (i := j) (by rw [List.length_map]; exact h) S
  rw [List.getElem_map] at this
  rw [this, List.getD_eq_getElem?_getD, List.getElem?_eq_getElem h]
  rfl
theorem ix_row {t : Tb} {i : Nat} (h : i < t.length) (S : Store) : dIx (tbD t) (.int (i : Int)) S = .ok (.lst ((t.getD i []).map D.int)) S := by
  have := dl_ix (l := t.map fun r => D.lst (r.map D.int)) (i := i) (by rw [List.length_map]; exact h) S
  rw [List.getElem_map] at this
  unfold tbD
  rw [this, List.getD_eq_getElem?_getD, List.getElem?_eq_getElem h]
  rfl
theorem irange_nat (n : Nat) : irange 0 n = (List.range n).map fun (k : Nat) => D.int (k : Int) := by
  unfold irange
  apply List.map_congr_left
  intro i _
  simp
theorem bSum_ints (ns : List Int) (S : Store) : bSum [.lst (ns.map D.int)] S = .ok (.int ns.sum) S := by
  unfold bSum
  simp only [getQ_lst, Option.bind_some, intsOf_map]
theorem min_ints {ns : List Int} (h : ns ≠ []) (S : Store) : bMin [.lst (ns.map D.int)] S = .ok (.int (minL ns)) S := by
  unfold bMin
  simp only [getQ_lst, Option.bind_some, intsOf_map]
  cases ns with
  | nil => exact absurd rfl h
  | cons a t => rfl
theorem max_ints {ns : List Int} (h : ns ≠ []) (S : Store) : bMax [.lst (ns.map D.int)] S = .ok (.int (maxL ns)) S := by
  unfold bMax
  simp only [getQ_lst, Option.bind_some, intsOf_map]
  cases ns with
  | nil => exact absurd rfl h
  | cons a t => rfl
abbrev Wt := List (Option Int)
def oI : Option Int → D
  | none => .bl true
  | some i => .int i
def wtD (l : Wt) : D := .lst (l.map oI)
theorem is_number_oI (x : Option Int) (S : Store) : F_is_number [oI x] S = .ok (.bl x.isSome) S := by
  rw [← ens_eq]
  refine ens_fn rfl ?_
  unfold b_is_number
  cases x with
  | none =>
    have b1 : bIsi [.bl true, .raw (.ty "int")] S = .ok (.bl true) S := by simp [bIsi, tyOf]
    have b2 : bIsi [.bl true, .raw (.ty "bool")] S = .ok (.bl true) S := by simp [bIsi, tyOf]
    simp [oI, b1, b2]
  | some i => simp [oI]
theorem are_numbers_ok (l : Wt) (hl : l.length ≤ 1000) (n : Nat) (S : Store) : Ens (F_are_numbers [wtD l, .int (n : Int)] S) fun d S' => S' = S ∧ d = .bl (decide (l.length = n ∧ ∀ x ∈ l, x ≠ none)) := by
  refine ens_fn rfl ?_
  unfold b_are_numbers wtD
  simp only [List.map_cons, List.map_nil, List.replicate, List.cons_append, List.nil_append]
  refine ens_sq (fun e S' => S' = S ∧ l.length = n ∧ e = [some (.lst (l.map oI)), some (.int (n : Int)), none]) (fun R hR => ?_) ?_
  · simp only [yIf_app, xOr_app, xNot_app, xTru_app, xIsT_app, xOp_app, xFn_app, xCons_app, xNil_app, xC_app, xVar_app, List.getElem?_cons_zero, List.getElem?_cons_succ, Res.bind_ok, bIsi_lst, tru_bl, Bool.not_true, Bool.false_eq_true, if_false, bLen_lst, List.length_map, dNe_int, enso_out, ens_ok]
    by_cases q : l.length = n
    · rw [if_neg (by simp [q])]
      simp only [yNil_app, enso_nx]
      exact hR _ _ ⟨rfl, q, rfl⟩
    · rw [if_pos (by simp; omega)]
      simp only [yRet_app, xC_app, enso_out, ens_ok, enso_rt, fin_same]
      exact ⟨trivial, by rw [decide_eq_false (fun z => q z.1)]⟩
  rintro e S' ⟨rfl, q, rfl⟩
  simp only [yRet_app, xOp_app, xFn_app, xLc_app, iSrc_app, xCons_app, xNil_app, xC_app, xVar_app, List.getElem?_cons_zero, List.getElem?_cons_succ, Res.bind_ok, srcL_lst, wipeE_cons, wipeE_nil, List.set_cons_succ, List.set_cons_zero, enso_out, ens_bind]
  refine ens_lcq (fun i acc S2 => S2 = S' ∧ acc.length ≤ i ∧ (acc = [] ↔ ∀ x ∈ l.take i, x ≠ none)) ⟨rfl, by simp, by simp⟩ ?_ ?_
  · rintro i d acc S2 R hd ⟨rfl, h1, h2⟩ hR
    rw [List.getElem?_map] at hd
    have hi : i < l.length := by
      by_cases q : i < l.length
      · exact q
      · rw [List.getElem?_eq_none (by omega)] at hd; cases hd
    rw [List.getElem?_eq_getElem hi] at hd
    cases hd
    have tk : l.take (i + 1) = l.take i ++ [l[i]] := List.take_succ_eq_append_getElem hi
    rw [tk] at hR
    generalize l[i] = x at *
    refine ⟨_, rfl, ?_⟩
    simp only [List.set_cons_succ, List.set_cons_zero, xNot_app, xTru_app, xFn_app, xCons_app, xNil_app, xVar_app, List.getElem?_cons_zero, List.getElem?_cons_succ, Res.bind_ok, is_number_oI, tru_bl, ens_ok]
    cases x with
    | none =>
      refine ⟨fun _ => ⟨by omega, hR _ _ ⟨rfl, by simp; omega, ?_⟩⟩, fun z => by cases z⟩
      constructor
      · intro z; simp at z
      · intro z; exact absurd rfl (z none (by simp))
    | some v =>
      refine ⟨(fun z => by cases z), fun _ => hR _ _ ⟨rfl, by omega, ?_⟩⟩
      rw [h2]
      constructor
      · intro z x hx
        rcases List.mem_append.mp hx with w | w
        · exact z x w
        · rw [List.mem_singleton.mp w]; simp
      · exact fun z x hx => z x (List.mem_append_left _ hx)
  · rintro acc S2 ⟨rfl, h1, h2⟩
    rw [List.length_map, List.take_length] at h2
    simp only [mkF_app, ens_ok, Res.bind_ok, bLen_lst, dEq_int, enso_rt, fin_same]
    refine ⟨trivial, ?_⟩
    congr 1
    rw [decide_eq_decide]
    constructor
    · intro z
      exact ⟨q, h2.mp (List.length_eq_zero_iff.mp (by omega))⟩
    · intro z
      rw [h2.mpr z.2]
      rfl
theorem wtD_ints (ws : List Int) : wtD (ws.map some) = .lst (ws.map D.int) := by
  unfold wtD
  rw [List.map_map]
  rfl
theorem row_wt (r : List Int) : D.lst (r.map D.int) = wtD (r.map some) := (wtD_ints r).symm
theorem must_be_table_ok {h w K : Nat} {t : Tb} (ht : TbG h w K t) (S : Store) : Ens (F_must_be_table [tbD t] S) fun d S' => d = .non ∧ S' = S := by
  have h1 := ht.h1
  have h6 := ht.h12
  have w1 := ht.w1
  have w6 := ht.w12
  have tl := ht.len
  refine ens_fn rfl ?_
  unfold b_must_be_table tbD
  simp only [List.map_cons, List.map_nil, List.replicate, List.cons_append, List.nil_append]
  have ix0 : ∃ r0 : List Int, r0.length = w ∧ ∀ S, dIx (.lst (t.map fun r => D.lst (r.map D.int))) (.int 0) S = .ok (.lst (r0.map D.int)) S := by
    refine ⟨t[0], ht.row _ (List.getElem_mem _), fun S => ?_⟩
    have := dl_ix (l := t.map fun r => D.lst (r.map D.int)) (i := 0) (by rw [List.length_map]; omega) S
    rw [List.getElem_map] at this
    exact this
  obtain ⟨r0, rl, ix⟩ := ix0
  refine ens_sq (fun e S' => S' = S ∧ e = [some (.lst (t.map fun r => D.lst (r.map D.int))), none, none]) (fun R hR => ?_) ?_
  · simp only [yIf_app, xOr_app, xNot_app, xTru_app, xIsT_app, xOp_app, xFn_app, xCons_app, xNil_app, xC_app, xVar_app, List.getElem?_cons_zero, List.getElem?_cons_succ, Res.bind_ok, bIsi_lst, tru_bl, Bool.not_true, Bool.false_eq_true, if_false, bLen_lst, List.length_map, dLt_ok, dGt_ok, decide_eq_false (show ¬ (t.length : Int) < 1 by omega), decide_eq_false (show ¬ (12 : Int) < (t.length : Int) by omega), ix, enso_out, ens_ok, yNil_app, enso_nx]
    exact hR _ _ ⟨rfl, rfl⟩
  rintro e S' ⟨rfl, rfl⟩
  refine ens_sq (fun e S2 => S2 = S' ∧ e = [some (.lst (t.map fun r => D.lst (r.map D.int))), some (.int (w : Int)), none]) (fun R hR => ?_) ?_
  · simp only [ySet_app, xFn_app, xOp_app, xCons_app, xNil_app, xC_app, xVar_app, List.getElem?_cons_zero, List.getElem?_cons_succ, Res.bind_ok, ix, bLen_lst, List.length_map, rl, enso_out, ens_ok, enso_nx, List.set_cons_succ, List.set_cons_zero]
    exact hR _ _ ⟨rfl, rfl⟩
  rintro e S2 ⟨rfl, rfl⟩
  simp only [yIf_app, xOr_app, xIsT_app, xOp_app, xFn_app, xLc_app, iSrc_app, xCons_app, xNil_app, xC_app, xVar_app, List.getElem?_cons_zero, List.getElem?_cons_succ, Res.bind_ok, dLt_ok, dGt_ok, decide_eq_false (show ¬ (w : Int) < 1 by omega), decide_eq_false (show ¬ (12 : Int) < (w : Int) by omega), Bool.false_eq_true, if_false, srcL_lst, wipeE_cons, wipeE_nil, List.set_cons_succ, List.set_cons_zero, enso_out, ens_bind]
  refine ens_lcq (fun i acc S3 => S3 = S2 ∧ acc = []) ⟨rfl, rfl⟩ ?_ ?_
  · rintro i d acc S3 R hd ⟨rfl, rfl⟩ hR
    obtain ⟨r, hr, rfl⟩ := List.mem_map.mp (List.mem_of_getElem? hd)
    have rw' := ht.row r hr
    refine ⟨_, rfl, ?_⟩
    simp only [List.set_cons_succ, List.set_cons_zero, xNot_app, xTru_app, xFn_app, xCons_app, xNil_app, xVar_app, List.getElem?_cons_zero, List.getElem?_cons_succ, Res.bind_ok, ens_bind, row_wt]
    refine (are_numbers_ok (r.map some) (by rw [List.length_map]; omega) w S3).imp ?_
    rintro d S4 ⟨rfl, rfl⟩
    rw [decide_eq_true ⟨by rw [List.length_map]; exact rw', fun x hx => by
      obtain ⟨v, _, rfl⟩ := List.mem_map.mp hx
      simp⟩]
    simp only [tru_bl, ens_ok, Bool.not_true]
    exact ⟨(fun z => by cases z), fun _ => hR _ _ ⟨rfl, rfl⟩⟩
  · rintro acc S3 ⟨rfl, rfl⟩
    simp
/-! the simplex, walked -/
theorem ens_while_n {c : Dv.Env → M Bool} {b : Dv.Env → Store → Out} {Q : Pst} (I : Nat → Dv.Env → Store → Prop)
    (hs : ∀ n e S, I n e S → Ens (c e S) fun t S1 => (t = true → EnsO (b e S1) { nx := fun e' S' => ∃ k, k < n ∧ I k e' S', ct := fun e' S' => ∃ k, k < n ∧ I k e' S', bk := Q.nx, rt := Q.rt }) ∧ (t = false → Q.nx e S1)) {e : Dv.Env} {S : Store} (h0 : ∃ n, I n e S) : EnsO (yWhile c b e S) Q := by
  classical
  have least : ∀ e S n, I n e S → ∃ k, k ≤ n ∧ I k e S ∧ ∀ j, j < k → ¬ I j e S := fun e S n => by
    induction n using Nat.strongRecOn with
    | ind n ih =>
      intro h
      by_cases q : ∃ j, j < n ∧ I j e S
      · obtain ⟨j, h1, h2⟩ := q
        obtain ⟨k, k1, k2, k3⟩ := ih j h1 h2
        exact ⟨k, by omega, k2, k3⟩
      · exact ⟨n, Nat.le_refl n, h, fun j hj hi => q ⟨j, hj, hi⟩⟩
  let mm : Dv.Env → Store → Nat := fun e S => if h : ∃ k, I k e S ∧ ∀ j, j < k → ¬ I j e S then Classical.choose h else 0
  have mle : ∀ e S n, I n e S → mm e S ≤ n ∧ I (mm e S) e S := fun e S n hn => by
    obtain ⟨k, k1, k2, k3⟩ := least e S n hn
    have h : ∃ k, I k e S ∧ ∀ j, j < k → ¬ I j e S := ⟨k, k2, k3⟩
    have e1 : mm e S = Classical.choose h := dif_pos h
    obtain ⟨c1, c2⟩ := Classical.choose_spec h
    rw [e1]
    refine ⟨?_, c1⟩
    by_cases q : Classical.choose h ≤ n
    · exact q
    · exact absurd hn (c2 n (by omega))
  refine ens_while (fun e S => ∃ n, I n e S) mm (fun e S ⟨n, hn⟩ => ?_) h0
  obtain ⟨m1, m2⟩ := mle e S n hn
  have st : ∀ e' S', (∃ k, k < mm e S ∧ I k e' S') → (∃ n, I n e' S') ∧ mm e' S' < mm e S := fun e' S' ⟨k, k1, k2⟩ => ⟨⟨k, k2⟩, by have := (mle e' S' k k2).1; omega⟩
  refine (hs _ e S m2).imp fun t S1 ⟨z1, z2⟩ => ⟨fun q => ?_, z2⟩
  exact (z1 q).imp (fun e' S' => st e' S') (fun _ _ h => h) (fun _ _ h => h) (fun e' S' => st e' S')
theorem ixN_nat {k n : Nat} (h : k < n) : ixN n (k : Int) = some k := by
  unfold ixN
  rw [if_pos (by omega), if_pos (by omega), Int.toNat_natCast]
theorem set_range {α : Type} (f : Nat → α) (w r : Nat) (x : α) : ((List.range w).map f).set r x = (List.range w).map fun q => if q = r then x else f q := by
  apply List.ext_getElem
  · simp
  · intro i a b
    rw [List.getElem_set, List.getElem_map, List.getElem_map, List.getElem_range]
    by_cases q : r = i
    · rw [if_pos q, if_pos q.symm]
    · rw [if_neg q, if_neg (Ne.symm q)]
def vecD (N : Nat) (f : Nat → Int) : D := .lst ((List.range N).map fun k => D.int (f k))
theorem vecD_congr {N : Nat} {f g : Nat → Int} (h : ∀ k, k < N → f k = g k) : vecD N f = vecD N g := by
  unfold vecD
  congr 1
  exact List.map_congr_left fun k hk => by rw [h k (List.mem_range.mp hk)]
theorem vec_ix {N k : Nat} (f : Nat → Int) (h : k < N) (S : Store) : dIx (vecD N f) (.int (k : Int)) S = .ok (.int (f k)) S := by
  have := dl_ix (l := (List.range N).map fun k => D.int (f k)) (i := k) (by simpa using h) S
  rw [List.getElem_map, List.getElem_range] at this
  exact this
theorem vec_last (N : Nat) (f : Nat → Int) (S : Store) : dIx (vecD (N + 1) f) (.int (-1)) S = .ok (.int (f N)) S := by
  unfold vecD
  rw [List.range_succ, List.map_append, dIx_lst]
  show (match L2.atI ((List.range N).map (fun k => D.int (f k)) ++ [D.int (f N)]) (-1) with | some d => Res.ok d S | none => .bad) = _
  rw [atI_last]
theorem vec_len (N : Nat) (f : Nat → Int) (S : Store) : bLen [vecD N f] S = .ok (.int (N : Int)) S := by
  unfold vecD
  simp
theorem vec_under (N : Nat) (f : Nat → Int) (L : Nat) : (vecD N f).under L = true := by
  unfold vecD
  rw [D.under]
  exact underL_of fun d hd => by
    obtain ⟨k, _, rfl⟩ := List.mem_map.mp hd
    rfl
theorem pivoted_ok {N e : Nat} (f g : Nat → Int) (he : e < N) (hN : N ≤ 3000) {last : Int} (lp : 0 < last) (ls : Sz 4000 last) (fs : ∀ k, k < N → Sz 4000 (f k)) (gs : ∀ k, k < N → Sz 4000 (g k)) (S : Store) : F_pivoted [vecD N f, vecD N g, .int (e : Int), .int last] S = .ok (vecD N fun k => (f k * g e - g k * f e) / last) S := by
  rw [← ens_eq]
  refine ens_fn rfl ?_
  unfold b_pivoted
  simp only [List.map_cons, List.map_nil, List.replicate, List.cons_append, List.nil_append]
  refine ens_sq (fun e' S' => S' = S ∧ e' = [some (vecD N f), some (vecD N g), some (.int (e : Int)), some (.int last), some (.int (g e)), none, none]) (fun R hR => ?_) ?_
  · simp only [ySet_app, xOp_app, xVar_app, List.getElem?_cons_zero, List.getElem?_cons_succ, Res.bind_ok, vec_ix g he, enso_out, ens_ok, enso_nx, List.set_cons_succ, List.set_cons_zero]
    exact hR _ _ ⟨rfl, rfl⟩
  rintro e' S' ⟨rfl, rfl⟩
  refine ens_sq (fun e' S2 => S2 = S' ∧ e' = [some (vecD N f), some (vecD N g), some (.int (e : Int)), some (.int last), some (.int (g e)), some (.int (f e)), none]) (fun R hR => ?_) ?_
  · simp only [ySet_app, xOp_app, xVar_app, List.getElem?_cons_zero, List.getElem?_cons_succ, Res.bind_ok, vec_ix f he, enso_out, ens_ok, enso_nx, List.set_cons_succ, List.set_cons_zero]
    exact hR _ _ ⟨rfl, rfl⟩
  rintro e' S2 ⟨rfl, rfl⟩
  have hc : lcL (fun _ => True) (eN 6) cYes (xOp dFdiv (xOp dSub (xOp (dMul mkF) (xOp dIx (xVar 0) (xVar 6)) (xVar 4)) (xOp (dMul mkF) (xOp dIx (xVar 1) (xVar 6)) (xVar 5))) (xVar 3)) [some (vecD N f), some (vecD N g), some (.int (e : Int)), some (.int last), some (.int (g e)), some (.int (f e)), none] ((List.range N).map fun (k : Nat) => D.int (k : Int)) [] S2 = .ok ([] ++ (List.range N).map fun k => D.int ((f k * g e - g k * f e) / last)) S2 := by
    refine lc_map (fun (k : Nat) => D.int (k : Int)) (fun k => D.int ((f k * g e - g k * f e) / last)) _ [] (fun k hk => ⟨_, rfl, ?_⟩) (by simp; omega)
    have hk := List.mem_range.mp hk
    have m1 : IntMulOk (f k) (g e) := (fs k hk).mulOk (gs e he) (by decide)
    have m2 : IntMulOk (g k) (f e) := (gs k hk).mulOk (fs e he) (by decide)
    have m3 : divOk (f k * g e - g k * f e) last := ls.divOk (by omega) (by decide)
    simp only [List.set_cons_succ, List.set_cons_zero, xOp_app, xVar_app, List.getElem?_cons_zero, List.getElem?_cons_succ, Res.bind_ok, vec_ix f hk, vec_ix g hk, dMul_int, if_pos m1, if_pos m2, dSub_ok, dFdiv_ok, if_pos m3, fdiv_pos lp]
  have rg : rng62 (N : Int) := rng62_of (by omega) (by omega)
  simp only [yRet_app, xLc_app, iSrcA_app, xFn_app, xCons_app, xNil_app, xVar_app, List.getElem?_cons_zero, List.getElem?_cons_succ, Res.bind_ok, vec_len, srcR1_app, if_pos rg, wipeE_cons, wipeE_nil, List.set_cons_succ, List.set_cons_zero]
  rw [show ((N : Int)).toNat = N by simp, irange_nat, hc]
  simp only [Res.bind_ok, mkF_app, enso_out, ens_ok, enso_rt, fin_same, List.nil_append]
  exact ⟨rfl, trivial⟩
def linesD (w n : Nat) (s : Sx.Tab) : List D := (List.range w).map fun r => vecD (n + 1) (s.T r)
def keptD (w : Nat) (s : Sx.Tab) : List D := (List.range w).map fun r => D.int (s.kept r : Int)
theorem lines_ix {w n : Nat} {s : Sx.Tab} {S : Store} {c r : Nat} (h : S[c]? = some (.lst (linesD w n s))) (hr : r < w) : dIx (.cell c) (.int (r : Int)) S = .ok (vecD (n + 1) (s.T r)) S := by
  rw [(lst_cell h).ix S _ (Ext.refl S)]
  have := dl_ix (l := linesD w n s) (i := r) (by unfold linesD; simpa using hr) S
  rw [this]
  unfold linesD
  rw [List.getElem_map, List.getElem_range]
theorem kept_ix {w : Nat} {s : Sx.Tab} {S : Store} {c r : Nat} (h : S[c]? = some (.lst (keptD w s))) (hr : r < w) : dIx (.cell c) (.int (r : Int)) S = .ok (.int (s.kept r : Int)) S := by
  rw [(lst_cell h).ix S _ (Ext.refl S)]
  have := dl_ix (l := keptD w s) (i := r) (by unfold keptD; simpa using hr) S
  rw [this]
  unfold keptD
  rw [List.getElem_map, List.getElem_range]
theorem lines_len {w n : Nat} {s : Sx.Tab} {S : Store} {c : Nat} (h : S[c]? = some (.lst (linesD w n s))) : bLen [.cell c] S = .ok (.int (w : Int)) S := by
  rw [(lst_cell h).len S (Ext.refl S)]
  unfold linesD
  simp
def optI : Option Nat → D
  | none => .non
  | some i => .int (i : Int)
/-- the numbers of each table come to are not too great -/
def Small (M : Nat → Sx.Col) (w n : Nat) : Prop := ∀ s, Sx.Ok M w n s → (∀ k, k ≤ n → ∀ r, r < w + 1 → Sz 4000 (s.T r k)) ∧ Sz 4000 s.last
theorem least_share_ok {w n e : Nat} {s : Sx.Tab} (hw : w ≤ 1000) (he : e < n) (sz : ∀ k, k ≤ n → ∀ r, r < w + 1 → Sz 4000 (s.T r k)) {S : Store} {cl ck : Nat} (hl : S[cl]? = some (.lst (linesD w n s))) (hk : S[ck]? = some (.lst (keptD w s))) : F_least_share [.cell cl, .int (e : Int), .cell ck] S = .ok (optI (Sx.lsh n s e w)) S := by
  rw [← ens_eq]
  refine ens_fn rfl ?_
  unfold b_least_share
  simp only [List.map_cons, List.map_nil, List.replicate, List.cons_append, List.nil_append]
  refine ens_sq (fun e' S' => S' = S ∧ e' = [some (.cell cl), some (.int (e : Int)), some (.cell ck), some .non, none, none, none]) (fun R hR => ?_) ?_
  · simp only [ySet_app, xC_app, enso_out, ens_ok, enso_nx, List.set_cons_succ, List.set_cons_zero]
    exact hR _ _ ⟨rfl, rfl⟩
  rintro e' S' ⟨rfl, rfl⟩
  refine ens_sq (fun e' S2 => S2 = S' ∧ ∃ v4 v5 v6, e' = [some (.cell cl), some (.int (e : Int)), some (.cell ck), some (optI (Sx.lsh n s e w)), v4, v5, v6]) (fun R hR => ?_) ?_
  · simp only [yFor_app, iSrcA_app, xFn_app, xCons_app, xNil_app, xVar_app, List.getElem?_cons_zero, List.getElem?_cons_succ, Res.bind_ok, lines_len hl, enso_out, ens_srcR1]
    refine ⟨rng62_of (by omega) (by omega), ?_⟩
    rw [show ((w : Int)).toNat = w by simp]
    refine ens_fr (fun r e' S2 => S2 = S' ∧ ∃ v4 v5 v6, e' = [some (.cell cl), some (.int (e : Int)), some (.cell ck), some (optI (Sx.lsh n s e r)), v4, v5, v6]) ⟨rfl, _, _, _, rfl⟩ ?_ ?_
    · rintro r d e' S2 R2 hd ⟨rfl, v4, v5, v6, rfl⟩ hR2
      obtain ⟨rfl, hr⟩ := irange_get hd
      have sp := Sx.lsh_ok (n := n) s e r
      have l1 : Sx.lsh n s e (r + 1) = if 0 < s.T r e then (match Sx.lsh n s e r with
          | none => some r
          | some b => if s.T r n * s.T b e < s.T b n * s.T r e ∨ (s.T r n * s.T b e = s.T b n * s.T r e ∧ s.kept r < s.kept b) then some r else some b) else Sx.lsh n s e r := rfl
      simp only [gN_app, enso_nx, List.set_cons_succ, List.set_cons_zero, Int.zero_add, yIf_app, xIsT_app, xOp_app, xC_app, xVar_app, List.getElem?_cons_zero, List.getElem?_cons_succ, Res.bind_ok, lines_ix hl hr, vec_ix (s.T r) (show e < n + 1 by omega), dGt_ok, enso_out, ens_ok]
      by_cases p : 0 < s.T r e
      · rw [if_pos (by simp [p])]
        rw [if_pos p] at l1
        -- the best of the lines so far and this one
        refine ens_sq (fun e' S3 => S3 = S2 ∧ ∃ b : Nat, b < w ∧ (Sx.lsh n s e r = none ∧ b = r ∨ Sx.lsh n s e r = some b) ∧ e' = [some (.cell cl), some (.int (e : Int)), some (.cell ck), some (.int (b : Int)), some (.int (r : Int)), v5, v6]) (fun R3 hR3 => ?_) ?_
        · cases q : Sx.lsh n s e r with
          | none =>
            simp only [optI, yIf_app, xIsT_app, xOp_app, xC_app, xVar_app, List.getElem?_cons_zero, List.getElem?_cons_succ, Res.bind_ok, dIsN, ySet_app, enso_out, ens_ok, if_true, enso_nx, List.set_cons_succ, List.set_cons_zero]
            exact hR3 _ _ ⟨rfl, r, hr, .inl ⟨q, rfl⟩, rfl⟩
          | some b =>
            rw [q] at sp
            simp only [optI, yIf_app, xIsT_app, xOp_app, xC_app, xVar_app, List.getElem?_cons_zero, List.getElem?_cons_succ, Res.bind_ok, dIsN, enso_out, ens_ok, Bool.false_eq_true, if_false, yNil_app, enso_nx]
            exact hR3 _ _ ⟨rfl, b, by have := sp.1; omega, .inr q, rfl⟩
        rintro e' S3 ⟨rfl, b, hb, bq, rfl⟩
        have m1 : IntMulOk (s.T r n) (s.T b e) := (sz n (by omega) r (by omega)).mulOk (sz e (by omega) b (by omega)) (by decide)
        have m2 : IntMulOk (s.T b n) (s.T r e) := (sz n (by omega) b (by omega)).mulOk (sz e (by omega) r (by omega)) (by decide)
        refine ens_sq (fun e' S4 => S4 = S3 ∧ e' = [some (.cell cl), some (.int (e : Int)), some (.cell ck), some (.int (b : Int)), some (.int (r : Int)), some (.int (s.T r n * s.T b e)), v6]) (fun R3 hR3 => ?_) ?_
        · simp only [ySet_app, xOp_app, xUn_app, dNeg_ok, xC_app, xVar_app, List.getElem?_cons_zero, List.getElem?_cons_succ, Res.bind_ok, lines_ix hl hr, lines_ix hl hb, vec_last, vec_ix (s.T b) (show e < n + 1 by omega), dMul_int, if_pos m1, enso_out, ens_ok, enso_nx, List.set_cons_succ, List.set_cons_zero]
          exact hR3 _ _ ⟨rfl, rfl⟩
        rintro e' S4 ⟨rfl, rfl⟩
        refine ens_sq (fun e' S5 => S5 = S4 ∧ e' = [some (.cell cl), some (.int (e : Int)), some (.cell ck), some (.int (b : Int)), some (.int (r : Int)), some (.int (s.T r n * s.T b e)), some (.int (s.T b n * s.T r e))]) (fun R3 hR3 => ?_) ?_
        · simp only [ySet_app, xOp_app, xUn_app, dNeg_ok, xC_app, xVar_app, List.getElem?_cons_zero, List.getElem?_cons_succ, Res.bind_ok, lines_ix hl hr, lines_ix hl hb, vec_last, vec_ix (s.T r) (show e < n + 1 by omega), dMul_int, if_pos m2, enso_out, ens_ok, enso_nx, List.set_cons_succ, List.set_cons_zero]
          exact hR3 _ _ ⟨rfl, rfl⟩
        rintro e' S5 ⟨rfl, rfl⟩
        have fin : ∀ x : Nat, Sx.lsh n s e (r + 1) = some x → R2 [some (.cell cl), some (.int (e : Int)), some (.cell ck), some (.int (x : Int)), some (.int (r : Int)), some (.int (s.T r n * s.T b e)), some (.int (s.T b n * s.T r e))] S5 := fun x hx => hR2 _ _ ⟨rfl, _, _, _, by rw [hx]; rfl⟩
        have lt : (s.T r n * s.T b e < s.T b n * s.T r e ∨ (s.T r n * s.T b e = s.T b n * s.T r e ∧ s.kept r < s.kept b)) → Sx.lsh n s e (r + 1) = some r := fun g => by
          rcases bq with ⟨q, rfl⟩ | q
          · rw [l1, q]
          · rw [l1, q]
            exact if_pos g
        have ge : ¬ (s.T r n * s.T b e < s.T b n * s.T r e ∨ (s.T r n * s.T b e = s.T b n * s.T r e ∧ s.kept r < s.kept b)) → Sx.lsh n s e (r + 1) = some b := fun g => by
          rcases bq with ⟨q, rfl⟩ | q
          · rw [l1, q]
          · rw [l1, q]
            exact if_neg g
        simp only [yIf_app, xOr_app, xAnd_app, xIsT_app, xOp_app, xVar_app, List.getElem?_cons_zero, List.getElem?_cons_succ, Res.bind_ok, dLt_ok, enso_out, ens_ok]
        by_cases g1 : s.T r n * s.T b e < s.T b n * s.T r e
        · simp only [decide_eq_true g1, if_true, Res.bind_ok, ySet_app, xVar_app, List.getElem?_cons_zero, List.getElem?_cons_succ, enso_out, ens_ok, enso_nx, List.set_cons_succ, List.set_cons_zero]
          exact fin r (lt (.inl g1))
        · simp only [decide_eq_false g1, Bool.false_eq_true, if_false, Res.bind_ok, dEq_int, ens_ok]
          by_cases g2 : s.T r n * s.T b e = s.T b n * s.T r e
          · simp only [decide_eq_true g2, if_true, Res.bind_ok, kept_ix hk hr, kept_ix hk hb, dLt_ok, ens_ok]
            by_cases g3 : s.kept r < s.kept b
            · rw [if_pos (by simp; omega)]
              simp only [ySet_app, xVar_app, List.getElem?_cons_zero, List.getElem?_cons_succ, enso_out, ens_ok, enso_nx, List.set_cons_succ, List.set_cons_zero]
              exact fin r (lt (.inr ⟨g2, g3⟩))
            · rw [if_neg (by simp; omega)]
              simp only [yNil_app, enso_nx]
              exact fin b (ge (by omega))
          · simp only [decide_eq_false g2, Bool.false_eq_true, if_false, Res.bind_ok, ens_ok, yNil_app, enso_nx]
            exact fin b (ge (by omega))
      · rw [if_neg (by simp; omega)]
        rw [if_neg p] at l1
        simp only [yNil_app, enso_nx]
        exact hR2 _ _ ⟨rfl, _, _, _, by rw [l1]⟩
    · rintro e' S2 ⟨rfl, v4, v5, v6, rfl⟩
      rw [irange_length]
      exact hR _ _ ⟨rfl, _, _, _, rfl⟩
  rintro e' S2 ⟨rfl, v4, v5, v6, rfl⟩
  simp only [yRet_app, xVar_app, List.getElem?_cons_zero, List.getElem?_cons_succ, enso_out, ens_ok, enso_rt, fin_same]
  exact ⟨trivial, trivial⟩
theorem vec_to (N : Nat) (f : Nat → Int) (S : Store) : slD mkF (vecD (N + 1) f) none (some (-1)) S = .ok (vecD N f) S := by
  unfold slD vecD
  have e1 : HT.sIx (N + 1) (N + 1) (some (-1)) = N := by
    unfold HT.sIx
    simp only
    rw [if_pos (by decide)]
    omega
  have e2 : HT.sIx (N + 1) 0 none = 0 := rfl
  simp only [getQ_lst, mkF_app, List.length_map, List.length_range, e1, e2, List.drop_zero, Nat.sub_zero]
  rw [← List.map_take, List.take_range, Nat.min_eq_left (by omega)]
theorem vec_min {N : Nat} (f : Nat → Int) (h : 0 < N) (S : Store) : ∃ m : Int, bMin [vecD N f] S = .ok (.int m) S ∧ (m < 0 ↔ ∃ k, k < N ∧ f k < 0) := by
  have e : vecD N f = .lst (((List.range N).map f).map D.int) := by
    unfold vecD
    rw [List.map_map]
    rfl
  have ne : (List.range N).map f ≠ [] := fun z => by
    have := congrArg List.length z
    simp at this
    omega
  refine ⟨minL ((List.range N).map f), by rw [e]; exact min_ints ne S, ?_⟩
  constructor
  · intro h
    obtain ⟨k, hk, q⟩ := List.mem_map.mp (minL_mem ne)
    exact ⟨k, List.mem_range.mp hk, by rw [q]; exact h⟩
  · rintro ⟨k, hk, q⟩
    have := minL_le (l := (List.range N).map f) (List.mem_map.mpr ⟨k, List.mem_range.mpr hk, rfl⟩)
    omega
/-- the places where a condition holds, kept -/
theorem lc_keep {g : D → Dv.Env → Option Dv.Env} {c : Dv.Env → M Bool} {f : Dv.Env → M D} {e0 : Dv.Env} {S : Store} (p : Nat → Bool) : ∀ (is acc : List Nat), (∀ i ∈ is, ∃ e1, g (.int (i : Int)) e0 = some e1 ∧ c e1 S = .ok (p i) S ∧ f e1 S = .ok (.int (i : Int)) S) → acc.length + is.length ≤ 16000000 → lcL (fun _ => True) g c f e0 (is.map fun (k : Nat) => D.int (k : Int)) (acc.map fun (k : Nat) => D.int (k : Int)) S = .ok ((acc ++ is.filter p).map fun (k : Nat) => D.int (k : Int)) S
  | [], acc, _, _ => by simp [lcL]
  | i :: is, acc, h, hl => by
    rw [List.length_cons] at hl
    obtain ⟨e1, h1, h2, h3⟩ := h i (by simp)
    rw [List.map_cons, lcL, if_pos trivial, h1]
    simp only [h2]
    cases q : p i with
    | false =>
      rw [List.filter_cons_of_neg (p := p) (by rw [q]; decide)]
      exact lc_keep p is acc (fun j hj => h j (by simp [hj])) (by omega)
    | true =>
      rw [List.filter_cons_of_pos (p := p) q]
      simp only [h3]
      rw [if_pos (by rw [List.length_map]; omega)]
      have := lc_keep p is (acc ++ [i]) (fun j hj => h j (by simp [hj])) (by rw [List.length_append, List.length_singleton]; omega)
      rw [List.map_append] at this
      rw [show List.map (fun (k : Nat) => D.int (k : Int)) acc ++ [D.int (i : Int)] = List.map (fun (k : Nat) => D.int (k : Int)) acc ++ List.map (fun (k : Nat) => D.int (k : Int)) [i] by rfl, this, List.append_assoc]
      rfl
theorem filter_first {p : Nat → Bool} {n e : Nat} (he : e < n) (h : p e = true) (first : ∀ k, k < e → p k = false) : ∃ l, (List.range n).filter p = e :: l := by
  obtain ⟨k, rfl⟩ : ∃ k, n = e + (k + 1) := ⟨n - e - 1, by omega⟩
  rw [List.range_add, List.range_succ_eq_map, List.filter_append, List.filter_eq_nil_iff.mpr fun a ha => by rw [first a (List.mem_range.mp ha)]; decide, List.nil_append, List.map_cons, Nat.add_zero, List.filter_cons_of_pos h]
  exact ⟨_, rfl⟩
abbrev EG (cl ck n w m : Nat) (s : Sx.Tab) (r : List (Option D)) : Dv.Env := some (.cell cl) :: some (vecD (n + 1) (s.T w)) :: some (.int (m : Int)) :: some (.cell ck) :: some (.int s.last) :: r
theorem gone_ok {M : Nat → Sx.Col} {w n m : Nat} (w1 : 1 ≤ w) (hw : w ≤ 1000) (hn : n ≤ 2000) (hm : n = m + w) (sml : Small M w n) (bnd : Sx.Bnd M w n) {s : Sx.Tab} (hs : Sx.Ok M w n s) (hk : ∀ r, r < w → s.kept r = m + r) (hl : s.last = 1) {q : Nat} {f : Sx.Tab} (hr : Sx.Runs w n q s f) {cl : Nat} {S : Store} (hc : S[cl]? = some (.lst (linesD w n s))) :
    Ens (F_gone_through [.cell cl, vecD (n + 1) (s.T w)] S) fun d S' => d = .tup [.cell cl, .cell S.length, vecD (n + 1) (f.T w), .int f.last] ∧ S' = S.set cl (.lst (linesD w n f)) ++ [.lst (keptD w f)] := by
  have fk : ∀ d S', fin true S.length d S' = .ok d S' := fun d S' => by simp [fin]
  have hcl : cl < S.length := (List.getElem?_eq_some_iff.mp hc).1
  have n1 : 0 < n := by omega
  refine ens_fn rfl ?_
  unfold b_gone_through
  simp only [List.map_cons, List.map_nil, List.replicate, List.cons_append, List.nil_append]
  refine ens_sq (fun e' S' => S' = S ∧ e' = [some (.cell cl), some (vecD (n + 1) (s.T w)), some (.int (m : Int)), none, none, none, none, none, none, none]) (fun R hR => ?_) ?_
  · have z : ((n + 1 : Nat) : Int) - 1 - (w : Int) = (m : Int) := by omega
    simp only [ySet_app, xOp_app, xFn_app, xCons_app, xNil_app, xC_app, xVar_app, List.getElem?_cons_zero, List.getElem?_cons_succ, Res.bind_ok, vec_len, lines_len hc, dSub_ok, z, enso_out, ens_ok, enso_nx, List.set_cons_succ, List.set_cons_zero]
    exact hR _ _ ⟨rfl, rfl⟩
  rintro e' S' ⟨rfl, rfl⟩
  refine ens_sq (fun e' S2 => S2 = S' ++ [.lst (keptD w s)] ∧ e' = [some (.cell cl), some (vecD (n + 1) (s.T w)), some (.int (m : Int)), some (.cell S'.length), none, none, none, none, none, none]) (fun R hR => ?_) ?_
  · have hc1 : lcL (fun _ => True) (eN 8) cYes (xOp (dAdd mkF) (xVar 2) (xVar 8)) [some (.cell cl), some (vecD (n + 1) (s.T w)), some (.int (m : Int)), none, none, none, none, none, none, none] ((List.range w).map fun (k : Nat) => D.int (k : Int)) [] S' = .ok ([] ++ (List.range w).map fun r => D.int (s.kept r : Int)) S' := by
      refine lc_map (fun (k : Nat) => D.int (k : Int)) (fun r => D.int (s.kept r : Int)) _ [] (fun r hr => ⟨_, rfl, ?_⟩) (by simp; omega)
      have hr := List.mem_range.mp hr
      have : (m : Int) + (r : Int) = (s.kept r : Int) := by rw [hk r hr]; omega
      simp only [List.set_cons_succ, List.set_cons_zero, xOp_app, xVar_app, List.getElem?_cons_zero, List.getElem?_cons_succ, Res.bind_ok, dAdd_int, this]
    have rg : rng62 (w : Int) := rng62_of (by omega) (by omega)
    simp only [ySet_app, xLc_app, iSrcA_app, xFn_app, xCons_app, xNil_app, xVar_app, List.getElem?_cons_zero, List.getElem?_cons_succ, Res.bind_ok, lines_len hc, srcR1_app, if_pos rg, wipeE_cons, wipeE_nil, List.set_cons_succ, List.set_cons_zero]
    rw [show ((w : Int)).toNat = w by simp, irange_nat, hc1]
    simp only [List.nil_append, Res.bind_ok, mkC_app, enso_out, ens_ok, enso_nx, List.set_cons_succ, List.set_cons_zero]
    exact hR _ _ ⟨rfl, rfl⟩
  rintro e' S2 ⟨rfl, rfl⟩
  refine ens_sq (fun e' S2 => S2 = S' ++ [.lst (keptD w s)] ∧ e' = EG cl S'.length n w m s [none, none, none, none, none]) (fun R hR => ?_) ?_
  · simp only [ySet_app, xC_app, enso_out, ens_ok, enso_nx, List.set_cons_succ, List.set_cons_zero]
    exact hR _ _ ⟨rfl, by rw [EG, hl]⟩
  rintro e' S2 ⟨rfl, rfl⟩
  have st0 : S' ++ [Cn.lst (keptD w s)] = S'.set cl (.lst (linesD w n s)) ++ [.lst (keptD w s)] := by
    congr 1
    apply List.ext_getElem
    · simp
    · intro i a b
      rw [List.getElem_set]
      by_cases x : cl = i
      · subst x
        rw [if_pos rfl]
        have := List.getElem?_eq_some_iff.mp hc
        exact this.2
      · rw [if_neg x]
  refine ens_sq (fun e' S2 => S2 = S'.set cl (.lst (linesD w n f)) ++ [.lst (keptD w f)] ∧ ∃ v5 v6 v7 v8 v9, e' = EG cl S'.length n w m f [v5, v6, v7, v8, v9]) (fun R hR => ?_) ?_
  · refine ens_while_n (fun q e' S2 => ∃ (s : Sx.Tab) (v5 v6 v7 v8 v9 : Option D), Sx.Ok M w n s ∧ Sx.Runs w n q s f ∧ S2 = S'.set cl (.lst (linesD w n s)) ++ [.lst (keptD w s)] ∧ e' = EG cl S'.length n w m s [v5, v6, v7, v8, v9]) ?_ ⟨q, s, _, _, _, _, _, hs, hr, st0, rfl⟩
    clear hr hl hk hs hc st0 s q
    rintro q e' S2 ⟨s, v5, v6, v7, v8, v9, hs, hr, rfl, rfl⟩
    obtain ⟨sz, szl⟩ := sml s hs
    have lp := hs.pos
    have sl : (S'.set cl (.lst (linesD w n s))).length = S'.length := by simp
    have c1 : (S'.set cl (.lst (linesD w n s)) ++ [Cn.lst (keptD w s)])[cl]? = some (.lst (linesD w n s)) := by
      rw [List.getElem?_append_left (by simp; omega), List.getElem?_set_self hcl]
    have c2 : (S'.set cl (.lst (linesD w n s)) ++ [Cn.lst (keptD w s)])[S'.length]? = some (.lst (keptD w s)) := app_at0 sl
    obtain ⟨mn, hmn, mneg⟩ := vec_min (s.T w) n1 (S'.set cl (.lst (linesD w n s)) ++ [Cn.lst (keptD w s)])
    simp only [EG, xIsT_app, xFn_app, xOp_app, xCons_app, xNil_app, xSl_app, oNone_app, oSome_app, xUn_app, dNeg_ok, xC_app, xVar_app, List.getElem?_cons_zero, List.getElem?_cons_succ, Res.bind_ok, vec_to, hmn, dLt_ok, ens_ok]
    refine ⟨fun hq => ?_, fun hq => ?_⟩
    · have neg : ∃ k, k < n ∧ s.T w k < 0 := mneg.mp (by simpa using hq)
      cases hr with
      | done d =>
        obtain ⟨k, k1, k2⟩ := neg
        have := d k k1
        omega
      | @step q' _ _ i e b hr' =>
        have be := b.he
        have bi := b.hi
        have ok' := hs.step b
        obtain ⟨_, p2, _⟩ := Sx.piv_sol hs b.hi b.he b.pos
        obtain ⟨i', hi', b'⟩ := hs.bs bnd b.he b.neg b.first
        obtain ⟨rfl, _⟩ := b'.uniq hs b
        have pvr : ∀ r, r < w + 1 → r ≠ i' → ∀ k, (Sx.piv s i' e).T r k = (s.T r k * s.T i' e - s.T i' k * s.T r e) / s.last := fun r _ g k => if_neg g
        have pvi : ∀ k, (Sx.piv s i' e).T i' k = s.T i' k := fun k => if_pos rfl
        generalize hS2 : S'.set cl (.lst (linesD w n s)) ++ [Cn.lst (keptD w s)] = S2 at *
        refine ens_sq (fun e' S3 => S3 = S2 ∧ e' = EG cl S'.length n w m s [some (.int (e : Int)), v6, v7, v8, v9]) (fun R3 hR3 => ?_) ?_
        · have hc1 := lc_keep (g := eN 9) (c := xIsT (xOp dLt (xOp dIx (xVar 1) (xVar 9)) (xC (.int 0)))) (f := xVar 9) (e0 := EG cl S'.length n w m s [v5, v6, v7, v8, none]) (S := S2) (fun k => decide (s.T w k < 0)) (List.range n) [] (fun k hk => ⟨_, rfl, by
            have hk := List.mem_range.mp hk
            simp only [EG, List.set_cons_succ, List.set_cons_zero, xIsT_app, xOp_app, xC_app, xVar_app, List.getElem?_cons_zero, List.getElem?_cons_succ, Res.bind_ok, vec_ix (s.T w) (show k < n + 1 by omega), dLt_ok], by
            simp only [EG, List.set_cons_succ, List.set_cons_zero, xVar_app, List.getElem?_cons_zero, List.getElem?_cons_succ]⟩) (by simp; omega)
          obtain ⟨tl, ft⟩ := filter_first (p := fun k => decide (s.T w k < 0)) be (decide_eq_true b.neg) (fun k hk => decide_eq_false (by have := b.first k hk; omega))
          rw [ft] at hc1
          simp only [EG, List.map_nil, List.nil_append, List.map_cons] at hc1
          have rg : rng62 (n : Int) := rng62_of (by omega) (by omega)
          have z : ((n + 1 : Nat) : Int) - 1 = (n : Int) := by omega
          have x0 : ∀ (a : D) (t : List D) (S : Store), dIx (.lst (a :: t)) (.int 0) S = .ok a S := fun a t S => by simp
          simp only [EG, ySet_app, xOp_app, xLc_app, iSrcA_app, xFn_app, xCons_app, xNil_app, xC_app, xVar_app, List.getElem?_cons_zero, List.getElem?_cons_succ, Res.bind_ok, vec_len, dSub_ok, z, srcR1_app, if_pos rg, wipeE_cons, wipeE_nil, List.set_cons_succ, List.set_cons_zero]
          rw [show ((n : Int)).toNat = n by simp, irange_nat, hc1]
          simp only [Res.bind_ok, mkF_app, x0, enso_out, ens_ok, enso_nx, List.set_cons_succ, List.set_cons_zero]
          exact hR3 _ _ ⟨rfl, rfl⟩
        rintro e' S3 ⟨rfl, rfl⟩
        refine ens_sq (fun e' S4 => S4 = S3 ∧ e' = EG cl S'.length n w m s [some (.int (e : Int)), some (.int (i' : Int)), v7, v8, v9]) (fun R3 hR3 => ?_) ?_
        · have ls := least_share_ok hw be sz c1 c2
          rw [hi'] at ls
          simp only [EG, ySet_app, xFn_app, xCons_app, xNil_app, xVar_app, List.getElem?_cons_zero, List.getElem?_cons_succ, Res.bind_ok, ls, optI, enso_out, ens_ok, enso_nx, List.set_cons_succ, List.set_cons_zero]
          exact hR3 _ _ ⟨rfl, rfl⟩
        rintro e' S4 ⟨rfl, rfl⟩
        refine ens_sq (fun e' S5 => S5 = S4 ∧ e' = EG cl S'.length n w m s [some (.int (e : Int)), some (.int (i' : Int)), some (vecD (n + 1) (s.T i')), v8, v9]) (fun R3 hR3 => ?_) ?_
        · simp only [EG, ySet_app, xOp_app, xVar_app, List.getElem?_cons_zero, List.getElem?_cons_succ, Res.bind_ok, lines_ix c1 bi, enso_out, ens_ok, enso_nx, List.set_cons_succ, List.set_cons_zero]
          exact hR3 _ _ ⟨rfl, rfl⟩
        rintro e' S5 ⟨rfl, rfl⟩
        refine ens_sq (fun e' S6 => S6 = S'.set cl (.lst (linesD w n (Sx.piv s i' e))) ++ [.lst (keptD w s)] ∧ ∃ v8, e' = EG cl S'.length n w m s [some (.int (e : Int)), some (.int (i' : Int)), some (vecD (n + 1) (s.T i')), v8, v9]) (fun R3 hR3 => ?_) ?_
        · simp only [EG, yFor_app, iSrcA_app, xFn_app, xCons_app, xNil_app, xVar_app, List.getElem?_cons_zero, List.getElem?_cons_succ, Res.bind_ok, lines_len c1, enso_out, ens_srcR1]
          refine ⟨rng62_of (by omega) (by omega), ?_⟩
          rw [show ((w : Int)).toNat = w by simp]
          refine ens_fr (fun j e' S6 => S6 = S'.set cl (.lst ((List.range w).map fun r => if r < j then vecD (n + 1) ((Sx.piv s i' e).T r) else vecD (n + 1) (s.T r))) ++ [.lst (keptD w s)] ∧ ∃ v8, e' = EG cl S'.length n w m s [some (.int (e : Int)), some (.int (i' : Int)), some (vecD (n + 1) (s.T i')), v8, v9]) ⟨?_, _, rfl⟩ ?_ ?_
          · rw [← hS2]
            unfold linesD
            simp
          · rintro j d e' S6 R4 hd ⟨rfl, v8, rfl⟩ hR4
            obtain ⟨rfl, hj⟩ := irange_get hd
            have fx : ∀ r, (if r < j + 1 then vecD (n + 1) ((Sx.piv s i' e).T r) else vecD (n + 1) (s.T r)) = if r = j then vecD (n + 1) ((Sx.piv s i' e).T j) else if r < j then vecD (n + 1) ((Sx.piv s i' e).T r) else vecD (n + 1) (s.T r) := fun r => by
              by_cases g : r = j
              · subst g; rw [if_pos (by omega), if_pos rfl]
              · rw [if_neg g]
                by_cases g2 : r < j
                · rw [if_pos g2, if_pos (by omega)]
                · rw [if_neg g2, if_neg (by omega)]
            obtain ⟨gg, hg⟩ : ∃ gg : Nat → D, ∀ r, (if r < j then vecD (n + 1) ((Sx.piv s i' e).T r) else vecD (n + 1) (s.T r)) = gg r := ⟨_, fun _ => rfl⟩
            simp only [fx, hg] at hR4
            simp only [hg]
            have ggj : gg j = vecD (n + 1) (s.T j) := by rw [← hg]; exact if_neg (by omega)
            have c3 : (S'.set cl (.lst ((List.range w).map gg)) ++ [Cn.lst (keptD w s)])[cl]? = some (.lst ((List.range w).map gg)) := by
              rw [List.getElem?_append_left (by simp; omega), List.getElem?_set_self hcl]
            have c4 : ∀ l, (S'.set cl (.lst ((List.range w).map gg)) ++ [Cn.lst (keptD w s)]).set cl (.lst l) = S'.set cl (.lst l) ++ [Cn.lst (keptD w s)] := fun l => by
              rw [List.set_append_left _ _ (by simp; omega), List.set_set]
            generalize hS7 : S'.set cl (.lst ((List.range w).map gg)) ++ [Cn.lst (keptD w s)] = S7 at *
            simp only [EG, gN_app, enso_nx, List.set_cons_succ, List.set_cons_zero, Int.zero_add, yIf_app, xIsT_app, xOp_app, xVar_app, List.getElem?_cons_zero, List.getElem?_cons_succ, Res.bind_ok, dNe_int, enso_out, ens_ok]
            by_cases g : j = i'
            · rw [if_neg (by simp; omega)]
              simp only [yNil_app, enso_nx]
              refine hR4 _ _ ⟨?_, _, rfl⟩
              have : ((List.range w).map fun r => if r = j then vecD (n + 1) ((Sx.piv s i' e).T j) else gg r) = (List.range w).map gg := List.map_congr_left fun r _ => by
                by_cases h : r = j
                · rw [if_pos h, h, ggj]
                  exact vecD_congr fun k _ => by rw [g]; exact pvi k
                · rw [if_neg h]
              rw [← hS7, this]
            · rw [if_pos (by simp; omega)]
              have x3 : dIx (.cell cl) (.int (j : Int)) S7 = .ok (vecD (n + 1) (s.T j)) S7 := by
                rw [(lst_cell c3).ix S7 _ (Ext.refl S7)]
                have := dl_ix (l := (List.range w).map gg) (i := j) (by simpa using hj) S7
                rw [List.getElem_map, List.getElem_range, ggj] at this
                exact this
              have pv := pivoted_ok (s.T j) (s.T i') (show e < n + 1 by omega) (by omega) lp szl (fun k hk => sz k (by omega) j (by omega)) (fun k hk => sz k (by omega) i' (by omega)) S7
              have pe : (vecD (n + 1) fun k => (s.T j k * s.T i' e - s.T i' k * s.T j e) / s.last) = vecD (n + 1) ((Sx.piv s i' e).T j) := vecD_congr fun k _ => (pvr j (by omega) g k).symm
              rw [pe] at pv
              have st : setL (.cell cl) (.int (j : Int)) (vecD (n + 1) ((Sx.piv s i' e).T j)) S7 = .ok () (S'.set cl (.lst ((List.range w).map fun r => if r = j then vecD (n + 1) ((Sx.piv s i' e).T j) else gg r)) ++ [Cn.lst (keptD w s)]) := by
                unfold setL
                simp only [c3, List.length_map, List.length_range, ixN_nat hj, set_range, c4]
              simp only [ySub_app, xFn_app, xOp_app, xCons_app, xNil_app, xVar_app, List.getElem?_cons_zero, List.getElem?_cons_succ, Res.bind_ok, x3, pv, st, enso_out, ens_ok, enso_nx]
              exact hR4 _ _ ⟨rfl, _, rfl⟩
          · rintro e' S6 ⟨rfl, v8, rfl⟩
            rw [irange_length]
            refine hR3 _ _ ⟨?_, _, rfl⟩
            have : ((List.range w).map fun r => if r < w then vecD (n + 1) ((Sx.piv s i' e).T r) else vecD (n + 1) (s.T r)) = linesD w n (Sx.piv s i' e) := List.map_congr_left fun r hr => if_pos (List.mem_range.mp hr)
            rw [this]
        rintro e' S6 ⟨rfl, v8, rfl⟩
        refine ens_sq (fun e' S7 => S7 = S'.set cl (.lst (linesD w n (Sx.piv s i' e))) ++ [.lst (keptD w s)] ∧ e' = [some (.cell cl), some (vecD (n + 1) ((Sx.piv s i' e).T w)), some (.int (m : Int)), some (.cell S'.length), some (.int s.last), some (.int (e : Int)), some (.int (i' : Int)), some (vecD (n + 1) (s.T i')), v8, v9]) (fun R3 hR3 => ?_) ?_
        · have pv := pivoted_ok (s.T w) (s.T i') (show e < n + 1 by omega) (by omega) lp szl (fun k hk => sz k (by omega) w (by omega)) (fun k hk => sz k (by omega) i' (by omega)) (S'.set cl (.lst (linesD w n (Sx.piv s i' e))) ++ [.lst (keptD w s)])
          have pe : (vecD (n + 1) fun k => (s.T w k * s.T i' e - s.T i' k * s.T w e) / s.last) = vecD (n + 1) ((Sx.piv s i' e).T w) := vecD_congr fun k _ => (pvr w (by omega) (by omega) k).symm
          rw [pe] at pv
          simp only [EG, ySet_app, xFn_app, xCons_app, xNil_app, xVar_app, List.getElem?_cons_zero, List.getElem?_cons_succ, Res.bind_ok, pv, enso_out, ens_ok, enso_nx, List.set_cons_succ, List.set_cons_zero]
          exact hR3 _ _ ⟨rfl, rfl⟩
        rintro e' S7 ⟨rfl, rfl⟩
        refine ens_sq (fun e' S7 => S7 = S'.set cl (.lst (linesD w n (Sx.piv s i' e))) ++ [.lst (keptD w s)] ∧ e' = EG cl S'.length n w m (Sx.piv s i' e) [some (.int (e : Int)), some (.int (i' : Int)), some (vecD (n + 1) (s.T i')), v8, v9]) (fun R3 hR3 => ?_) ?_
        · simp only [ySet_app, xOp_app, xVar_app, List.getElem?_cons_zero, List.getElem?_cons_succ, Res.bind_ok, vec_ix (s.T i') (show e < n + 1 by omega), enso_out, ens_ok, enso_nx, List.set_cons_succ, List.set_cons_zero]
          exact hR3 _ _ ⟨rfl, rfl⟩
        rintro e' S7 ⟨rfl, rfl⟩
        have sl2 : (S'.set cl (.lst (linesD w n (Sx.piv s i' e)))).length = S'.length := by simp
        have c5 : (S'.set cl (.lst (linesD w n (Sx.piv s i' e))) ++ [Cn.lst (keptD w s)])[S'.length]? = some (.lst (keptD w s)) := app_at0 sl2
        have kp : (keptD w s).set i' (.int (e : Int)) = keptD w (Sx.piv s i' e) := by
          unfold keptD
          rw [set_range]
          refine List.map_congr_left fun r _ => ?_
          show _ = D.int (((if r = i' then e else s.kept r) : Nat) : Int)
          by_cases g : r = i'
          · rw [if_pos g, if_pos g]
          · rw [if_neg g, if_neg g]
        have kl : (keptD w s).length = w := by simp [keptD]
        have st : setL (.cell S'.length) (.int (i' : Int)) (.int (e : Int)) (S'.set cl (.lst (linesD w n (Sx.piv s i' e))) ++ [.lst (keptD w s)]) = .ok () (S'.set cl (.lst (linesD w n (Sx.piv s i' e))) ++ [.lst (keptD w (Sx.piv s i' e))]) := by
          unfold setL
          simp only [c5, kl, ixN_nat bi, kp]
          rw [app_set0 sl2]
        simp only [EG, ySub_app, xVar_app, List.getElem?_cons_zero, List.getElem?_cons_succ, Res.bind_ok, st, enso_out, ens_ok, enso_nx]
        exact ⟨q', by omega, _, _, _, _, _, _, ok', hr', rfl, rfl⟩
    · have neg : ¬ ∃ k, k < n ∧ s.T w k < 0 := fun z => by
        have := mneg.mpr z
        rw [decide_eq_true this] at hq
        cases hq
      cases hr with
      | done d => exact hR _ _ ⟨rfl, _, _, _, _, _, rfl⟩
      | step b _ => exact absurd ⟨_, b.he, b.neg⟩ neg
  rintro e' S2 ⟨rfl, v5, v6, v7, v8, v9, rfl⟩
  simp only [EG, yRet_app, xTup_app, xCons_app, xNil_app, xVar_app, List.getElem?_cons_zero, List.getElem?_cons_succ, Res.bind_ok, enso_out, ens_ok, enso_rt, fk]
  exact ⟨rfl, rfl⟩
/-! ### the program's fractions -/
theorem ratio_r (a b : Int) (n : Nat) (S : Store) (h : b ≠ 0) (hb : Sz n b) (hn : n ≤ 9000) : F_ratio [.int a, .int b] S = .ok (fr ((a : Rat) / b)) S := by
  rw [← fr_div h, ← ens_eq]
  refine ens_fn rfl ?_
  unfold b_ratio
  have g1 := gsr_sz (a := a) h hb
  have g2 := g1.divOk (a := a) (gsr_ne h) hn
  have g3 := g1.divOk (a := b) (gsr_ne h) hn
  simp [divisor_ok, h]
  by_cases hl : b < 0
  · have e : gsr a b = 0 - (Int.gcd a b : Int) := if_pos hl
    rw [e] at g2 g3 ⊢
    simp [hl] at g2 g3 ⊢
    exact ⟨g2, g3⟩
  · have e : gsr a b = (Int.gcd a b : Int) := if_neg hl
    rw [e] at g2 g3 ⊢
    simp [hl]
    exact ⟨g2, g3⟩
/-! weights without a common part -/
def gN : Nat → (Nat → Int) → Nat
  | 0, _ => 0
  | n + 1, f => Nat.gcd (gN n f) (f n).natAbs
theorem gN_dvd (f : Nat → Int) : ∀ (n i : Nat), i < n → gN n f ∣ (f i).natAbs
  | 0, i, h => by omega
  | n + 1, i, h => by
    unfold gN
    by_cases q : i = n
    · subst q; exact Nat.gcd_dvd_right _ _
    · exact Nat.dvd_trans (Nat.gcd_dvd_left _ _) (gN_dvd f n i (by omega))
theorem gN_pos {f : Nat → Int} {n i : Nat} (h : i < n) (hi : f i ≠ 0) : 0 < gN n f := by
  by_cases q : 0 < gN n f
  · exact q
  · have := gN_dvd f n i h
    rw [show gN n f = 0 by omega, Nat.zero_dvd] at this
    omega
def lessF (n : Nat) (f : Nat → Int) : Nat → Int := fun i => f i / (gN n f : Int)
theorem lessF_mul (n : Nat) (f : Nat → Int) {i : Nat} (h : i < n) : lessF n f i * (gN n f : Int) = f i := Int.ediv_mul_cancel (Int.ofNat_dvd_left.mpr (gN_dvd f n i h))
theorem vec_src (N : Nat) (f : Nat → Int) (S : Store) : srcL (vecD N f) S = .ok ⟨(List.range N).map fun k => D.int (f k), fun _ => True⟩ S := rfl
theorem lessened_ok {N : Nat} {f : Nat → Int} (hN : N ≤ 1000) (h : ∃ i, i < N ∧ f i ≠ 0) (sz : ∀ i, i < N → Sz 4000 (f i)) (S : Store) : F_lessened [vecD N f] S = .ok (vecD N (lessF N f)) S := by
  rw [← ens_eq]
  refine ens_fn rfl ?_
  unfold b_lessened
  simp only [List.map_cons, List.map_nil, List.replicate, List.cons_append, List.nil_append]
  refine ens_sq (fun e' S' => S' = S ∧ e' = [some (vecD N f), some (.int 0), none]) (fun R hR => ?_) ?_
  · simp only [ySet_app, xC_app, enso_out, ens_ok, enso_nx, List.set_cons_succ, List.set_cons_zero]
    exact hR _ _ ⟨rfl, rfl⟩
  rintro e' S' ⟨rfl, rfl⟩
  refine ens_sq (fun e' S2 => S2 = S' ∧ ∃ v2, e' = [some (vecD N f), some (.int (gN N f : Int)), v2]) (fun R hR => ?_) ?_
  · simp only [yFor_app, iSrc_app, xVar_app, List.getElem?_cons_zero, List.getElem?_cons_succ, Res.bind_ok, vec_src, enso_out, ens_ok]
    refine ens_fr (fun j e' S2 => S2 = S' ∧ ∃ v2, e' = [some (vecD N f), some (.int (gN j f : Int)), v2]) ⟨rfl, _, rfl⟩ ?_ ?_
    · rintro j d e' S2 R2 hd ⟨rfl, v2, rfl⟩ hR2
      have hj : j < N := by
        by_cases q : j < N
        · exact q
        · rw [List.getElem?_eq_none (by simp; omega)] at hd; cases hd
      rw [List.getElem?_map, List.getElem?_range hj] at hd
      cases hd
      have e1 : Int.gcd (gN j f : Int) (f j) = gN (j + 1) f := rfl
      simp only [gN_app, enso_nx, ySet_app, xFn_app, xCons_app, xNil_app, xVar_app, List.set_cons_succ, List.set_cons_zero, List.getElem?_cons_zero, List.getElem?_cons_succ, Res.bind_ok, divisor_ok, e1, enso_out, ens_ok, enso_nx]
      exact hR2 _ _ ⟨rfl, _, rfl⟩
    · rintro e' S2 ⟨rfl, v2, rfl⟩
      rw [List.length_map, List.length_range]
      exact hR _ _ ⟨rfl, _, rfl⟩
  rintro e' S2 ⟨rfl, v2, rfl⟩
  obtain ⟨i, hi, nz⟩ := h
  have gp := gN_pos hi nz
  have gs : Sz 4000 (gN N f : Int) := (sz i hi).of_le (by
    have := Nat.le_of_dvd (by omega) (gN_dvd f N i hi)
    simpa using this)
  have hc : lcL (fun _ => True) (eN 2) cYes (xOp dFdiv (xVar 2) (xVar 1)) [some (vecD N f), some (.int (gN N f : Int)), none] ((List.range N).map fun k => D.int (f k)) [] S2 = .ok ([] ++ (List.range N).map fun k => D.int (lessF N f k)) S2 := by
    refine lc_map (fun k => D.int (f k)) (fun k => D.int (lessF N f k)) _ [] (fun k hk => ⟨_, rfl, ?_⟩) (by simp; omega)
    have dv : divOk (f k) (gN N f : Int) := gs.divOk (by omega) (by decide)
    simp only [List.set_cons_succ, List.set_cons_zero, xOp_app, xVar_app, List.getElem?_cons_zero, List.getElem?_cons_succ, Res.bind_ok, dFdiv_ok, if_pos dv, fdiv_pos (show (0 : Int) < (gN N f : Int) by omega)]
    rfl
  simp only [yRet_app, xLc_app, iSrc_app, xVar_app, List.getElem?_cons_zero, List.getElem?_cons_succ, Res.bind_ok, vec_src, wipeE_cons, wipeE_nil, List.set_cons_succ, List.set_cons_zero, hc, mkF_app, List.nil_append, enso_out, ens_ok, enso_rt, fin_same]
  exact ⟨rfl, trivial⟩
/-! a table solved -/
def tA (t : Tb) (i j : Nat) : Int := (t.getD i []).getD j 0
def minT (t : Tb) : Int := minL (t.map minL)
def moreT (t : Tb) : Int := 1 - minT t
def aT (t : Tb) (i j : Nat) : Int := tA t i j + moreT t
theorem TbG.getD {h w K : Nat} {t : Tb} (ht : TbG h w K t) {i : Nat} (hi : i < h) : (t.getD i []).length = w ∧ t.getD i [] ∈ t := by
  have tl := ht.len
  rw [List.getD_eq_getElem?_getD, List.getElem?_eq_getElem (by omega)]
  exact ⟨ht.row _ (List.getElem_mem _), List.getElem_mem _⟩
theorem TbG.at {h w K : Nat} {t : Tb} (ht : TbG h w K t) {i j : Nat} (hi : i < h) (hj : j < w) : tA t i j ∈ t.getD i [] ∧ (tA t i j).natAbs ≤ K := by
  obtain ⟨h1, h2⟩ := ht.getD hi
  have : tA t i j ∈ t.getD i [] := by
    unfold tA
    rw [List.getD_eq_getElem?_getD (l := t.getD i []), List.getElem?_eq_getElem (show j < (t.getD i []).length by omega)]
    exact List.getElem_mem _
  exact ⟨this, ht.sz _ h2 _ this⟩
theorem TbG.min {h w K : Nat} {t : Tb} (ht : TbG h w K t) : (minT t).natAbs ≤ K ∧ ∀ i, i < h → ∀ j, j < w → minT t ≤ tA t i j := by
  have h1 := ht.h1
  have w1 := ht.w1
  have tl := ht.len
  have rne : ∀ r ∈ t, r ≠ [] := fun r hr z => by have := ht.row r hr; rw [z] at this; simp at this; omega
  have tne : t.map minL ≠ [] := fun z => by have := congrArg List.length z; simp at this; rw [this] at tl; simp at tl; omega
  constructor
  · obtain ⟨r, hr, e⟩ := List.mem_map.mp (minL_mem tne)
    unfold minT
    rw [← e]
    exact ht.sz r hr _ (minL_mem (rne r hr))
  · intro i hi j hj
    obtain ⟨a1, _⟩ := ht.at hi hj
    obtain ⟨_, a2⟩ := ht.getD hi
    have b1 := minL_le a1
    have b2 : minT t ≤ minL (t.getD i []) := minL_le (List.mem_map.mpr ⟨_, a2, rfl⟩)
    omega
theorem TbG.one {h w K : Nat} {t : Tb} (ht : TbG h w K t) {i j : Nat} (hi : i < h) (hj : j < w) : 1 ≤ aT t i j := by
  have := ht.min.2 i hi j hj
  unfold aT moreT
  omega
abbrev mT (t : Tb) (h w : Nat) : Nat → Sx.Col := Sx.acol (aT t) h w
theorem TbG.small {h w K : Nat} {t : Tb} (ht : TbG h w K t) (hK : K ≤ 10000000000000000000000000000000000000000) : Small (mT t h w) w (h + w) := fun s hs => by
  have w12 := ht.w12
  have hb := hs.bound (K := 2 * K + 1) (Sx.acol_abs (by omega) fun i hi j hj => by
    have a1 := (ht.at hi hj).2
    have a2 := ht.min.1
    unfold aT moreT
    omega) (by omega)
  have hp : ((w + 1) * (2 * K + 1)) ^ (w + 1) < 2 ^ 4000 := by
    refine Nat.lt_of_le_of_lt (Nat.pow_le_pow_left (Nat.mul_le_mul (show w + 1 ≤ 13 by omega) (show 2 * K + 1 ≤ 20000000000000000000000000000000000000001 by omega)) (w + 1)) ?_
    refine Nat.lt_of_le_of_lt (Nat.pow_le_pow_right (by decide) (show w + 1 ≤ 13 by omega)) ?_
    decide +kernel
  exact ⟨fun k hk r hr => Nat.lt_of_le_of_lt (hb.1 k hk r hr) hp, Nat.lt_of_le_of_lt hb.2 hp⟩
theorem flat_rep {α : Type} (d : α) : ∀ n : Nat, (List.replicate n [d]).flatten = (List.range n).map fun _ => d
  | 0 => rfl
  | n + 1 => by
    rw [List.replicate_succ', List.flatten_append, flat_rep d n, List.range_succ, List.map_append]
    rfl
theorem vec_join {h w : Nat} {M : Nat → Int} : (List.range h).map (fun k => D.int (M k)) ++ (List.range w).map (fun k => D.int (M (h + k))) ++ [D.int (M (h + w))] = (List.range (h + w + 1)).map fun k => D.int (M k) := by
  rw [List.range_succ, List.range_add, List.map_append, List.map_append, List.map_map]
  rfl
def resD (t : Tb) (h w : Nat) (f : Sx.Tab) : D := .tup [fr (((f.last - moreT t * f.T w (h + w) : Int) : Rat) / (f.T w (h + w) : Int)), vecD h (lessF h (Sx.xw h w f)), vecD w (lessF w (Sx.yw h w f))]
theorem fr_under (x : Rat) (L : Nat) : (fr x).under L = true := by
  unfold fr
  simp [D.under, D.underL]
theorem resD_under (t : Tb) (h w : Nat) (f : Sx.Tab) (L : Nat) : (resD t h w f).under L = true := by
  unfold resD
  simp [D.under, D.underL, fr_under, vec_under]
abbrev ES (t : Tb) (h w : Nat) (r : List (Option D)) : Dv.Env := some (tbD t) :: some (.int (w : Int)) :: some (.int (moreT t)) :: r
theorem solved_ok {h w K : Nat} {t : Tb} (ht : TbG h w K t) (hK : K ≤ 10000000000000000000000000000000000000000) {q : Nat} {f : Sx.Tab} (hr : Sx.Runs w (h + w) q (Sx.ini (mT t h w) h) f) (S : Store) (hS : (S.all fun x => x.under S.length) = true) : Ens (F_solved [tbD t] S) fun d S' => S' = S ∧ d = resD t h w f := by
  have h1 := ht.h1
  have h12 := ht.h12
  have w1 := ht.w1
  have w12 := ht.w12
  have tl := ht.len
  have sml := ht.small hK
  have bnd : Sx.Bnd (mT t h w) w (h + w) := Sx.acol_bnd w1 fun i hi j hj => ht.one hi hj
  obtain ⟨okf, tm⟩ := hr.ok Sx.acol_ok
  have sol : Sx.Sol (fun i j => tA t i j + moreT t) h w f := Sx.sol h1 w1 (fun i hi j hj => ht.one hi hj) okf tm
  obtain ⟨fsz, fsl⟩ := sml f okf
  refine ens_fn rfl ?_
  unfold b_solved
  simp only [List.map_cons, List.map_nil, List.replicate, List.cons_append, List.nil_append]
  have bl : ∀ S, bLen [tbD t] S = .ok (.int (h : Int)) S := fun S => by unfold tbD; simp [tl]
  have ix0 : ∀ S, dIx (tbD t) (.int 0) S = .ok (.lst ((t.getD 0 []).map D.int)) S := fun S => ix_row (i := 0) (by omega) S
  have r0 := (ht.getD (i := 0) (by omega)).1
  have tsrc : ∀ S, srcL (tbD t) S = .ok ⟨t.map fun r => D.lst (r.map D.int), fun _ => True⟩ S := fun S => rfl
  refine ens_sq (fun e' S' => S' = S ∧ e' = [some (tbD t), some (.int (w : Int)), none, none, none, none, none, none, none, none, none, none, none]) (fun R hR => ?_) ?_
  · simp only [ySet_app, xFn_app, xOp_app, xCons_app, xNil_app, xC_app, xVar_app, List.getElem?_cons_zero, List.getElem?_cons_succ, Res.bind_ok, ix0, bLen_lst, List.length_map, r0, enso_out, ens_ok, enso_nx, List.set_cons_succ, List.set_cons_zero]
    exact hR _ _ ⟨rfl, rfl⟩
  rintro e' S' ⟨rfl, rfl⟩
  refine ens_sq (fun e' S2 => S2 = S' ∧ e' = ES t h w [none, none, none, none, none, none, none, none, none, none]) (fun R hR => ?_) ?_
  · have hc : lcL (fun _ => True) (eN 11) cYes (xFn bMin (xCons (xVar 11) xNil)) [some (tbD t), some (.int (w : Int)), none, none, none, none, none, none, none, none, none, none, none] (t.map fun r => D.lst (r.map D.int)) [] S' = .ok ([] ++ t.map fun r => D.int (minL r)) S' := by
      refine lc_map (fun r : List Int => D.lst (r.map D.int)) (fun r => D.int (minL r)) t [] (fun r hr => ⟨_, rfl, ?_⟩) (by simp; omega)
      have rne : r ≠ [] := fun z => by have := ht.row r hr; rw [z] at this; simp at this; omega
      simp only [List.set_cons_succ, List.set_cons_zero, xFn_app, xCons_app, xNil_app, xVar_app, List.getElem?_cons_zero, List.getElem?_cons_succ, Res.bind_ok, min_ints rne]
    have tne : t.map minL ≠ [] := fun z => by have := congrArg List.length z; simp at this; rw [this] at tl; simp at tl; omega
    have e1 : (t.map fun r => D.int (minL r)) = (t.map minL).map D.int := by rw [List.map_map]; rfl
    rw [List.nil_append, e1] at hc
    simp only [ySet_app, xFn_app, xOp_app, xLc_app, iSrc_app, xCons_app, xNil_app, xC_app, xVar_app, List.getElem?_cons_zero, List.getElem?_cons_succ, Res.bind_ok, tsrc, wipeE_cons, wipeE_nil, List.set_cons_succ, List.set_cons_zero, hc, mkF_app, min_ints tne, dSub_ok, enso_out, ens_ok, enso_nx]
    exact hR _ _ ⟨rfl, rfl⟩
  rintro e' S2 ⟨rfl, rfl⟩
  refine ens_sq (fun e' S3 => S3 = S2 ++ [.lst []] ∧ e' = ES t h w [some (.cell S2.length), none, none, none, none, none, none, none, none, none]) (fun R hR => ?_) ?_
  · simp only [ES, ySet_app, xLst_app, xNil_app, Res.bind_ok, List.length_nil, if_pos (show 0 ≤ 1000 by decide), mkC_app, enso_out, ens_ok, enso_nx, List.set_cons_succ, List.set_cons_zero]
    exact hR _ _ ⟨rfl, rfl⟩
  rintro e' S3 ⟨rfl, rfl⟩
  refine ens_sq (fun e' S3 => S3 = S2 ++ [.lst (linesD w (h + w) (Sx.ini (mT t h w) h))] ∧ ∃ v4 v11 v12, e' = ES t h w [some (.cell S2.length), v4, none, none, none, none, none, none, v11, v12]) (fun R hR => ?_) ?_
  · simp only [ES, yFor_app, iSrcA_app, xCons_app, xNil_app, xVar_app, List.getElem?_cons_zero, List.getElem?_cons_succ, Res.bind_ok, enso_out, ens_srcR1]
    refine ⟨rng62_of (by omega) (by omega), ?_⟩
    rw [show ((w : Int)).toNat = w by simp]
    refine ens_fr (fun j e' S3 => S3 = S2 ++ [.lst ((List.range j).map fun r => vecD (h + w + 1) ((Sx.ini (mT t h w) h).T r))] ∧ ∃ v4 v11 v12, e' = ES t h w [some (.cell S2.length), v4, none, none, none, none, none, none, v11, v12]) ⟨rfl, _, _, _, rfl⟩ ?_ ?_
    · rintro j d e' S3 R2 hd ⟨rfl, v4, v11, v12, rfl⟩ hR2
      obtain ⟨rfl, hj⟩ := irange_get hd
      have c0 : (S2 ++ [Cn.lst ((List.range j).map fun r => vecD (h + w + 1) ((Sx.ini (mT t h w) h).T r))])[S2.length]? = some (.lst ((List.range j).map fun r => vecD (h + w + 1) ((Sx.ini (mT t h w) h).T r))) := app_at0 rfl
      have ap : ∀ x, (S2 ++ [Cn.lst ((List.range j).map fun r => vecD (h + w + 1) ((Sx.ini (mT t h w) h).T r))]).set S2.length (.lst (((List.range j).map fun r => vecD (h + w + 1) ((Sx.ini (mT t h w) h).T r)) ++ [x])) = S2 ++ [Cn.lst (((List.range j).map fun r => vecD (h + w + 1) ((Sx.ini (mT t h w) h).T r)) ++ [x])] := fun x => app_set0 rfl
      have al : ((List.range j).map fun r => vecD (h + w + 1) ((Sx.ini (mT t h w) h).T r)).length < 16000000 := by simp; omega
      generalize S2 ++ [Cn.lst ((List.range j).map fun r => vecD (h + w + 1) ((Sx.ini (mT t h w) h).T r))] = S4 at *
      have hc1 : lcL (fun _ => True) (eN 11) cYes (xOp (dAdd mkF) (xOp dIx (xVar 11) (xVar 4)) (xVar 2)) (ES t h w [some (.cell S2.length), some (.int (j : Int)), none, none, none, none, none, none, none, v12]) (t.map fun r => D.lst (r.map D.int)) [] S4 = .ok ([] ++ t.map fun r => D.int (r.getD j 0 + moreT t)) S4 := by
        refine lc_map (fun r : List Int => D.lst (r.map D.int)) (fun r => D.int (r.getD j 0 + moreT t)) t [] (fun r hr => ⟨_, rfl, ?_⟩) (by simp; omega)
        have rl := ht.row r hr
        simp only [ES, List.set_cons_succ, List.set_cons_zero, xOp_app, xVar_app, List.getElem?_cons_zero, List.getElem?_cons_succ, Res.bind_ok, ix_getD (l := r) (j := j) (by omega), dAdd_int]
      have hc2 : lcL (fun _ => True) (eN 12) cYes (xFn bInt (xCons (xOp dEq (xVar 12) (xVar 4)) xNil)) (ES t h w [some (.cell S2.length), some (.int (j : Int)), none, none, none, none, none, none, v11, none]) ((List.range w).map fun (k : Nat) => D.int (k : Int)) [] S4 = .ok ([] ++ (List.range w).map fun k => D.int (mT t h w (h + k) j)) S4 := by
        refine lc_map (fun (k : Nat) => D.int (k : Int)) (fun k => D.int (mT t h w (h + k) j)) _ [] (fun k hk => ⟨_, rfl, ?_⟩) (by simp; omega)
        have hk := List.mem_range.mp hk
        simp only [ES, List.set_cons_succ, List.set_cons_zero, xFn_app, xOp_app, xCons_app, xNil_app, xVar_app, List.getElem?_cons_zero, List.getElem?_cons_succ, Res.bind_ok, dEq_int, bInt_bl, mT, Sx.acol_rest hk]
        by_cases g : k = j
        · rw [if_pos (by simp [g]), if_pos g.symm]
        · rw [if_neg (by simp; omega), if_neg (Ne.symm g)]
      have rg : rng62 (w : Int) := rng62_of (by omega) (by omega)
      have e1 : (t.map fun r => D.int (r.getD j 0 + moreT t)) = (List.range h).map fun k => D.int (mT t h w k j) := by
        apply List.ext_getElem
        · simp [tl]
        · intro i a b
          simp at b
          rw [List.getElem_map, List.getElem_map, List.getElem_range]
          unfold mT
          rw [Sx.acol_row b, if_pos hj]
          unfold aT tA
          rw [List.getD_eq_getElem?_getD (l := t), List.getElem?_eq_getElem (by omega)]
          rfl
      have e2 : D.int 1 = D.int (mT t h w (h + w) j) := by
        unfold mT
        rw [Sx.acol_due, if_pos hj]
      rw [List.nil_append, e1] at hc1
      rw [List.nil_append] at hc2
      simp only [ES] at hc1 hc2
      simp only [ES, gN_app, enso_nx, List.set_cons_succ, List.set_cons_zero, Int.zero_add, yExpr_app, xMt_app, xLc_app, xOp_app, xLst_app, iSrc_app, iSrcA_app, xCons_app, xNil_app, xC_app, xVar_app, List.getElem?_cons_zero, List.getElem?_cons_succ, Res.bind_ok, isT, c0, beq_self_eq_true, if_true, tsrc, srcR1_app, if_pos rg, wipeE_cons, wipeE_nil]
      rw [show ((w : Int)).toNat = w by simp, irange_nat]
      simp only [hc1, hc2, mkF_app, Res.bind_ok, List.length_cons, List.length_nil, if_pos (show 0 + 1 ≤ 1000 by decide)]
      rw [dl_add _ _ _ (by simp; omega)]
      simp only [Res.bind_ok]
      rw [dl_add _ _ _ (by simp; omega), e2, vec_join]
      simp only [Res.bind_ok, mAppend, cellL, c0, if_pos al, ap, enso_out, ens_ok, enso_nx]
      refine hR2 _ _ ⟨?_, _, _, _, rfl⟩
      have e3 : (List.range (j + 1)).map (fun r => vecD (h + w + 1) ((Sx.ini (mT t h w) h).T r)) = (List.range j).map (fun r => vecD (h + w + 1) ((Sx.ini (mT t h w) h).T r)) ++ [vecD (h + w + 1) ((Sx.ini (mT t h w) h).T j)] := by
        rw [List.range_succ, List.map_append]
        rfl
      rw [e3]
      rfl
    · rintro e' S3 ⟨rfl, v4, v11, v12, rfl⟩
      rw [irange_length]
      exact hR _ _ ⟨rfl, _, _, _, rfl⟩
  rintro e' S3 ⟨rfl, v4, v11, v12, rfl⟩
  have c0 : (S2 ++ [Cn.lst (linesD w (h + w) (Sx.ini (mT t h w) h))])[S2.length]? = some (.lst (linesD w (h + w) (Sx.ini (mT t h w) h))) := app_at0 rfl
  refine ens_sq (fun e' S3 => S3 = S2 ++ [.lst (linesD w (h + w) f), .lst (keptD w f)] ∧ e' = ES t h w [some (.cell S2.length), v4, none, none, none, some (.cell (S2.length + 1)), some (vecD (h + w + 1) (f.T w)), some (.int f.last), v11, v12]) (fun R hR => ?_) ?_
  · have gn := gone_ok (M := mT t h w) (m := h) w1 (by omega) (by omega) rfl sml bnd Sx.acol_ok (fun r _ => rfl) rfl hr c0
    have ge : ∀ S, dAdd mkF (.lst ((List.range h).map fun _ => D.int (-1))) (.lst ((List.range (w + 1)).map fun _ => D.int 0)) S = .ok (vecD (h + w + 1) ((Sx.ini (mT t h w) h).T w)) S := fun S => by
      rw [dl_add _ _ _ (by simp; omega)]
      have e1 : ((List.range h).map fun _ => D.int (-1)) = (List.range h).map fun k => D.int (mT t h w k w) := List.map_congr_left fun k hk => by
        unfold mT
        rw [Sx.acol_row (List.mem_range.mp hk), if_neg (by omega)]
      have e2 : ((List.range (w + 1)).map fun _ => D.int 0) = ((List.range w).map fun k => D.int (mT t h w (h + k) w)) ++ [D.int (mT t h w (h + w) w)] := by
        rw [List.range_succ, List.map_append]
        congr 1
        · exact List.map_congr_left fun k hk => by
            unfold mT
            have := List.mem_range.mp hk
            rw [Sx.acol_rest this, if_neg (by omega)]
        · unfold mT
          rw [Sx.acol_due, if_neg (by omega)]
          rfl
      rw [e1, e2, ← List.append_assoc, vec_join]
      rfl
    have rg1 : rng62 (h : Int) ∧ (0 + 1) * h ≤ 16000000 := ⟨rng62_of (by omega) (by omega), by omega⟩
    have rg2 : rng62 ((w : Int) + 1) ∧ (0 + 1) * (w + 1) ≤ 16000000 := ⟨rng62_of (by omega) (by omega), by omega⟩
    have tn : ((w : Int) + 1).toNat = w + 1 := by omega
    simp only [ES, yAsg_app, xFn_app, xOp_app, xLst_app, xUn_app, dNeg_ok, xCons_app, xNil_app, xC_app, xVar_app, List.getElem?_cons_zero, List.getElem?_cons_succ, Res.bind_ok, List.length_cons, List.length_nil, if_pos (show 0 + 1 ≤ 1000 by decide), mkF_app, bl, dAdd_int, dMul_lst]
    simp only [tn, Int.toNat_natCast, if_pos rg1, if_pos rg2, flat_rep, Res.bind_ok, ge, enso_out]
    refine gn.imp ?_
    rintro d S' ⟨rfl, rfl⟩
    have sl : (S2 ++ [Cn.lst (linesD w (h + w) (Sx.ini (mT t h w) h))]).length = S2.length + 1 := by simp
    have st : (S2 ++ [Cn.lst (linesD w (h + w) (Sx.ini (mT t h w) h))]).set S2.length (.lst (linesD w (h + w) f)) ++ [Cn.lst (keptD w f)] = S2 ++ [.lst (linesD w (h + w) f), .lst (keptD w f)] := by
      rw [app_set0 rfl, List.append_assoc]
      rfl
    rw [st, sl]
    simp only [gT_app, gsCons_app, gsNil_app, gN_app, List.length_cons, List.length_nil, if_true, Out.seq, List.set_cons_succ, List.set_cons_zero, enso_nx]
    exact hR _ _ ⟨rfl, rfl⟩
  rintro e' S3 ⟨rfl, rfl⟩
  have lf : ∀ X, (S2 ++ (Cn.lst (linesD w (h + w) f) :: X))[S2.length]? = some (.lst (linesD w (h + w) f)) := fun X => app_at0 rfl
  have kf : ∀ X, (S2 ++ (Cn.lst (linesD w (h + w) f) :: Cn.lst (keptD w f) :: X))[S2.length + 1]? = some (.lst (keptD w f)) := fun X => app_at1 rfl
  refine ens_sq (fun e' S4 => S4 = S2 ++ [.lst (linesD w (h + w) f), .lst (keptD w f), .lst ((List.range h).map fun _ => D.int 0)] ∧ e' = ES t h w [some (.cell S2.length), v4, some (.cell (S2.length + 2)), none, none, some (.cell (S2.length + 1)), some (vecD (h + w + 1) (f.T w)), some (.int f.last), v11, v12]) (fun R hR => ?_) ?_
  · have rg1 : rng62 (h : Int) ∧ 0 + 1 * ((h : Int)).toNat ≤ 16000000 := ⟨rng62_of (by omega) (by omega), by simp; omega⟩
    have rg : rng62 (h : Int) ∧ (0 + 1) * ((h : Int)).toNat ≤ 16000000 := ⟨rng62_of (by omega) (by omega), by simp; omega⟩
    simp only [ES, ySet_app, xOp_app, xLst_app, xFn_app, xCons_app, xNil_app, xC_app, xVar_app, List.getElem?_cons_zero, List.getElem?_cons_succ, Res.bind_ok, List.length_cons, List.length_nil, if_pos (show 0 + 1 ≤ 1000 by decide), mkF_app, bl, dMul_lst, if_pos rg, flat_rep, mkC_app, enso_out, ens_ok, enso_nx, List.set_cons_succ, List.set_cons_zero]
    refine hR _ _ ⟨?_, ?_⟩
    · rw [show ((h : Int)).toNat = h by simp, List.append_assoc]
      rfl
    · rw [List.length_append]
      rfl
  rintro e' S4 ⟨rfl, rfl⟩
  refine ens_sq (fun e' S5 => S5 = S2 ++ [.lst (linesD w (h + w) f), .lst (keptD w f), .dead] ∧ ∃ v6, e' = ES t h w [some (.cell S2.length), v4, some (vecD h (Sx.xw h w f)), v6, none, some (.cell (S2.length + 1)), some (vecD (h + w + 1) (f.T w)), some (.int f.last), v11, v12]) (fun R hR => ?_) ?_
  · let xj : Nat → Nat → Int := fun j i => Sx.sm j (fun r => if f.kept r = i then f.T r (h + w) else 0)
    refine ens_sq (fun e' S5 => S5 = S2 ++ [.lst (linesD w (h + w) f), .lst (keptD w f), .lst ((List.range h).map fun i => D.int (xj w i))] ∧ ∃ v6, e' = ES t h w [some (.cell S2.length), v4, some (.cell (S2.length + 2)), v6, none, some (.cell (S2.length + 1)), some (vecD (h + w + 1) (f.T w)), some (.int f.last), v11, v12]) (fun R1 hR1 => ?_) ?_
    · simp only [ES, yFor_app, iSrcA_app, xCons_app, xNil_app, xVar_app, List.getElem?_cons_zero, List.getElem?_cons_succ, Res.bind_ok, enso_out, ens_srcR1]
      refine ⟨rng62_of (by omega) (by omega), ?_⟩
      rw [show ((w : Int)).toNat = w by simp]
      refine ens_fr (fun j e' S5 => S5 = S2 ++ [.lst (linesD w (h + w) f), .lst (keptD w f), .lst ((List.range h).map fun i => D.int (xj j i))] ∧ ∃ v6, e' = ES t h w [some (.cell S2.length), v4, some (.cell (S2.length + 2)), v6, none, some (.cell (S2.length + 1)), some (vecD (h + w + 1) (f.T w)), some (.int f.last), v11, v12]) ⟨rfl, _, rfl⟩ ?_ ?_
      · rintro j d e' S5 R2 hd ⟨rfl, v6, rfl⟩ hR2
        obtain ⟨rfl, hj⟩ := irange_get hd
        have kj := kept_ix (kf [.lst ((List.range h).map fun i => D.int (xj j i))]) hj
        have lj := lines_ix (lf [.lst (keptD w f), .lst ((List.range h).map fun i => D.int (xj j i))]) hj
        have xs : ∀ i, xj (j + 1) i = xj j i + if f.kept j = i then f.T j (h + w) else 0 := fun i => rfl
        simp only [ES, gN_app, enso_nx, List.set_cons_succ, List.set_cons_zero, Int.zero_add, yIf_app, xIsT_app, xOp_app, xFn_app, xCons_app, xNil_app, xVar_app, List.getElem?_cons_zero, List.getElem?_cons_succ, Res.bind_ok, kj, bl, dLt_ok, enso_out, ens_ok]
        by_cases g : f.kept j < h
        · rw [if_pos (by simp; omega)]
          have c2 : (S2 ++ [Cn.lst (linesD w (h + w) f), .lst (keptD w f), .lst ((List.range h).map fun i => D.int (xj j i))])[S2.length + 2]? = some (.lst ((List.range h).map fun i => D.int (xj j i))) := app_at2 rfl
          have st : setL (.cell (S2.length + 2)) (.int (f.kept j : Int)) (.int (f.T j (h + w))) (S2 ++ [Cn.lst (linesD w (h + w) f), .lst (keptD w f), .lst ((List.range h).map fun i => D.int (xj j i))]) = .ok () (S2 ++ [.lst (linesD w (h + w) f), .lst (keptD w f), .lst ((List.range h).map fun i => D.int (xj (j + 1) i))]) := by
            unfold setL
            simp only [c2, List.length_map, List.length_range, ixN_nat g, set_range]
            rw [app_set2 rfl]
            suffices e5 : (List.range h).map (fun q => if q = f.kept j then D.int (f.T j (h + w)) else D.int (xj j q)) = (List.range h).map fun i => D.int (xj (j + 1) i) by rw [e5]
            refine List.map_congr_left fun i hi => ?_
            by_cases e : i = f.kept j
            · rw [if_pos e, xs, if_pos e.symm]
              have : xj j i = 0 := Sx.sm_zero fun r hr => if_neg fun z => by
                have := okf.inj (q := r) (r := j) (by omega) hj (by rw [z, e])
                omega
              rw [this, Int.zero_add]
            · rw [if_neg e, xs, if_neg (Ne.symm e), Int.add_zero]
          simp only [ySub_app, xOp_app, xUn_app, dNeg_ok, xC_app, xVar_app, List.getElem?_cons_zero, List.getElem?_cons_succ, Res.bind_ok, lj, vec_last, kj, st, enso_out, ens_ok, enso_nx]
          exact hR2 _ _ ⟨rfl, _, rfl⟩
        · rw [if_neg (by simp; omega)]
          simp only [yNil_app, enso_nx]
          refine hR2 _ _ ⟨?_, _, rfl⟩
          have e5 : (List.range h).map (fun i => D.int (xj j i)) = (List.range h).map fun i => D.int (xj (j + 1) i) := List.map_congr_left fun i hi => by
            have := List.mem_range.mp hi
            rw [xs, if_neg (by omega), Int.add_zero]
          rw [e5]
      · rintro e' S5 ⟨rfl, v6, rfl⟩
        rw [irange_length]
        exact hR1 _ _ ⟨rfl, _, rfl⟩
    rintro e' S5 ⟨rfl, v6, rfl⟩
    have c2 : (S2 ++ [Cn.lst (linesD w (h + w) f), .lst (keptD w f), .lst ((List.range h).map fun i => D.int (xj w i))])[S2.length + 2]? = some (.lst ((List.range h).map fun i => D.int (xj w i))) := app_at2 rfl
    simp only [ES, frzE, List.getElem?_cons_zero, List.getElem?_cons_succ, frz, c2, app_set2 (show S2.length = S2.length from rfl), Res.out_ok, enso_nx, List.set_cons_succ, List.set_cons_zero]
    exact hR _ _ ⟨rfl, _, rfl⟩
  rintro e' S5 ⟨rfl, v6, rfl⟩
  refine ens_sq (fun e' S6 => S6 = S2 ++ [.lst (linesD w (h + w) f), .lst (keptD w f), .dead] ∧ e' = ES t h w [some (.cell S2.length), v4, some (vecD h (Sx.xw h w f)), v6, some (vecD w (Sx.yw h w f)), some (.cell (S2.length + 1)), some (vecD (h + w + 1) (f.T w)), some (.int f.last), v11, v12]) (fun R hR => ?_) ?_
  · have sd : ∀ S, slD mkF (vecD (h + w + 1) (f.T w)) (some (h : Int)) (some ((h : Int) + (w : Int))) S = .ok (vecD w (Sx.yw h w f)) S := fun S => by
      unfold slD vecD
      have e1 : HT.sIx (h + w + 1) 0 (some (h : Int)) = h := by rw [HT.sIx_nat]; omega
      have e2 : HT.sIx (h + w + 1) (h + w + 1) (some ((h : Int) + (w : Int))) = h + w := by
        have := HT.sIx_nat (h + w + 1) (h + w + 1) (h + w)
        rw [Int.natCast_add] at this
        rw [this]
        omega
      simp only [getQ_lst, mkF_app, List.length_map, List.length_range, e1, e2]
      rw [← List.map_drop, ← List.map_take]
      have : (List.drop h (List.range (h + w + 1))).take (h + w - h) = (List.range w).map (h + ·) := by
        rw [show h + w - h = w by omega, Nat.add_assoc, List.range_add, List.drop_left' (by simp), List.range_succ, List.map_append, List.take_left' (by simp)]
      rw [this, List.map_map]
      rfl
    simp only [ES, ySet_app, xSl_app, oSome_app, xOp_app, xFn_app, xCons_app, xNil_app, xVar_app, List.getElem?_cons_zero, List.getElem?_cons_succ, Res.bind_ok, bl, dAdd_int, sd, enso_out, ens_ok, enso_nx, List.set_cons_succ, List.set_cons_zero]
    exact hR _ _ ⟨rfl, rfl⟩
  rintro e' S6 ⟨rfl, rfl⟩
  have gp := sol.g
  have dp := sol.d
  have gsz := fsz (h + w) (Nat.le_refl _) w (by omega)
  have msz : Sz 200 (moreT t) := by
    have := ht.min.1
    refine sz_of (B := 20000000000000000000000000000000000000001) ?_ ?_ (by decide)
    · unfold moreT; omega
    · unfold moreT; omega
  have mm : IntMulOk (moreT t) (f.T w (h + w)) := msz.mulOk gsz (by decide)
  have xbig : ∃ i, i < h ∧ Sx.xw h w f i ≠ 0 := by
    refine Classical.byContradiction fun z => ?_
    have := sol.xs
    rw [Sx.sm_zero fun i hi => Classical.byContradiction fun y => z ⟨i, hi, y⟩] at this
    omega
  have ybig : ∃ i, i < w ∧ Sx.yw h w f i ≠ 0 := by
    refine Classical.byContradiction fun z => ?_
    have := sol.ys
    rw [Sx.sm_zero fun i hi => Classical.byContradiction fun y => z ⟨i, hi, y⟩] at this
    omega
  have xz : ∀ i, i < h → Sz 4000 (Sx.xw h w f i) := fun i hi => by
    have a1 := Sx.sm_ge hi fun i _ => sol.x0 i
    have a2 := sol.x0 i
    rw [sol.xs] at a1
    exact gsz.of_le (by omega)
  have yz : ∀ i, i < w → Sz 4000 (Sx.yw h w f i) := fun i hi => fsz _ (by omega) _ (by omega)
  simp only [ES, yRet_app, xTup_app, xFn_app, xOp_app, xUn_app, dNeg_ok, xCons_app, xNil_app, xC_app, xVar_app, List.getElem?_cons_zero, List.getElem?_cons_succ, Res.bind_ok, vec_last, dMul_int, if_pos mm, dSub_ok, ratio_r _ _ 4000 _ (show f.T w (h + w) ≠ 0 by omega) gsz (by decide), lessened_ok (show h ≤ 1000 by omega) xbig xz, lessened_ok (show w ≤ 1000 by omega) ybig yz, List.length_cons, List.length_nil, if_pos (show 0 + 1 + 1 + 1 ≤ 1000 by decide), enso_out, ens_ok, enso_rt]
  rw [fin_cut rfl hS]
  · simp only [ens_ok]
    exact ⟨trivial, rfl⟩
  · exact resD_under t h w f _
/-! the worth of a table, told -/
def IsV (t : Tb) (h w : Nat) (v : Rat) : Prop := Sx.IsVal (tA t) h w v.num v.den
theorem rat_cross (p : Int) {q : Int} (hq : 0 < q) : ((p : Rat) / (q : Int)).num * q = p * ((p : Rat) / (q : Int)).den := by
  have e : Rat.divInt ((p : Rat) / (q : Int)).num (((p : Rat) / (q : Int)).den : Int) = Rat.divInt p q := by
    rw [Rat.num_divInt_den, Rat.divInt_eq_div]
  have dn : (((p : Rat) / (q : Int)).den : Int) ≠ 0 := by
    have := ((p : Rat) / (q : Int)).den_nz
    omega
  rw [Rat.divInt_eq_divInt_iff dn (by omega)] at e
  exact e
theorem isV_div {t : Tb} {h w : Nat} {p q : Int} (hv : Sx.IsVal (tA t) h w p q) : IsV t h w ((p : Rat) / (q : Int)) := by
  have dn := ((p : Rat) / (q : Int)).den_nz
  refine hv.scale (by omega) ?_
  exact (rat_cross p hv.q0).symm
theorem IsV.uniq {t : Tb} {h w : Nat} {v v' : Rat} (a : IsV t h w v) (b : IsV t h w v') : v = v' := by
  have e := Sx.IsVal.uniq a b
  have d1 := v.den_nz
  have d2 := v'.den_nz
  rw [← Rat.num_divInt_den v, ← Rat.num_divInt_den v', Rat.divInt_eq_divInt_iff (by omega) (by omega)]
  exact e
theorem table_worth_ok {h w K : Nat} {t : Tb} (ht : TbG h w K t) (hK : K ≤ 10000000000000000000000000000000000000000) (S : Store) (hS : (S.all fun x => x.under S.length) = true) : Ens (F_table_worth [tbD t] S) fun d S' => S' = S ∧ ∃ q f, Sx.Runs w (h + w) q (Sx.ini (mT t h w) h) f ∧ d = resD t h w f := by
  have w1 := ht.w1
  obtain ⟨q, f, hr⟩ := Sx.runs_some (M := mT t h w) (w := w) (n := h + w) (Sx.acol_bnd w1 fun i hi j hj => ht.one hi hj) (K := 2 * K + 1) (Sx.acol_abs (by omega) fun i hi j hj => by
    have a1 := (ht.at hi hj).2
    have a2 := ht.min.1
    unfold aT moreT
    omega) (by omega) (s := Sx.ini (mT t h w) h) Sx.acol_ok
  refine ens_fn rfl ?_
  unfold b_table_worth
  simp only [List.map_cons, List.map_nil, List.replicate, List.cons_append, List.nil_append]
  refine ens_sq (fun e' S' => S' = S ∧ e' = [some (tbD t)]) (fun R hR => ?_) ?_
  · simp only [yExpr_app, xFn_app, xCons_app, xNil_app, xVar_app, List.getElem?_cons_zero, Res.bind_ok, enso_out]
    refine (must_be_table_ok ht S).imp ?_
    rintro d S2 ⟨rfl, rfl⟩
    simp only [enso_nx]
    exact hR _ _ ⟨rfl, rfl⟩
  rintro e' S' ⟨rfl, rfl⟩
  simp only [yRet_app, xFn_app, xCons_app, xNil_app, xVar_app, List.getElem?_cons_zero, Res.bind_ok, enso_out]
  refine (solved_ok ht hK hr S' hS).imp ?_
  rintro d S2 ⟨rfl, rfl⟩
  simp only [enso_rt, fin_same, ens_ok]
  exact ⟨trivial, q, f, hr, rfl⟩
theorem resD_sol {h w K : Nat} {t : Tb} (ht : TbG h w K t) {q : Nat} {f : Sx.Tab} (hr : Sx.Runs w (h + w) q (Sx.ini (mT t h w) h) f) : Sx.Sol (fun i j => tA t i j + moreT t) h w f := by
  obtain ⟨okf, tm⟩ := hr.ok Sx.acol_ok
  exact Sx.sol ht.h1 ht.w1 (fun i hi j hj => ht.one hi hj) okf tm
/-- the worth alone -/
theorem worth0_ok {h w K : Nat} {t : Tb} (ht : TbG h w K t) (hK : K ≤ 10000000000000000000000000000000000000000) (S : Store) (hS : (S.all fun x => x.under S.length) = true) : Ens (F_table_worth [tbD t] S) fun d S' => S' = S ∧ ∃ v, IsV t h w v ∧ ∀ S, dIx d (.int 0) S = .ok (fr v) S := by
  refine (table_worth_ok ht hK S hS).imp ?_
  rintro d S' ⟨rfl, q, f, hr, rfl⟩
  refine ⟨rfl, _, isV_div (resD_sol ht hr).val, fun S => ?_⟩
  unfold resD
  simp
theorem lc_filt {α : Type} {g : D → Dv.Env → Option Dv.Env} {c : Dv.Env → M Bool} {f : Dv.Env → M D} {e0 : Dv.Env} {S : Store} (emb ψ : α → D) (p : α → Bool) : ∀ (items : List α) (acc : List D), (∀ a ∈ items, ∃ e1, g (emb a) e0 = some e1 ∧ c e1 S = .ok (p a) S ∧ f e1 S = .ok (ψ a) S) → acc.length + items.length ≤ 16000000 → lcL (fun _ => True) g c f e0 (items.map emb) acc S = .ok (acc ++ (items.filter p).map ψ) S
  | [], acc, _, _ => by rw [List.map_nil, lcL, if_pos trivial]; simp
  | a :: items, acc, h, hl => by
    obtain ⟨e1, h1, h2, h3⟩ := h a (by simp)
    rw [List.length_cons] at hl
    rw [List.map_cons, lcL, if_pos trivial]
    simp only [h1, h2]
    cases hp : p a with
    | true =>
      simp only [h3]
      rw [if_pos (by omega), lc_filt emb ψ p items _ (fun x hx => h x (by simp [hx])) (by rw [List.length_append, List.length_singleton]; omega), List.filter_cons_of_pos hp]
      simp
    | false =>
      simp only
      rw [lc_filt emb ψ p items _ (fun x hx => h x (by simp [hx])) (by omega), List.filter_cons_of_neg (by simp [hp])]
/-! ### guards asked with things that are none -/
def Pln : D → Prop
  | .int _ | .bl _ | .non | .str _ | .tup _ | .lst _ => True
  | _ => False
def Pq (d : D) : Prop := Pln d ∧ (∀ l, d = .lst l → l.length ≤ 1000 ∧ ∀ x ∈ l, Pln x) ∧ ∀ l, d = .tup l → l.length ≤ 1000 ∧ ∀ x ∈ l, Pln x
def isNum : D → Bool
  | .int _ => true
  | _ => false
theorem num_g {d : D} (h : Pln d) (S : Store) : F_is_number [d] S = .ok (.bl (isNum d)) S := by
  rw [← ens_eq]
  refine ens_fn rfl ?_
  unfold b_is_number
  cases d with
  | int i => simp [isNum]
  | bl b => simp [isNum, bIsi, tyOf]
  | non => simp [isNum, bIsi, tyOf]
  | str s => simp [isNum, bIsi, tyOf]
  | tup l => simp [isNum, bIsi, tyOf]
  | lst l => simp [isNum, bIsi, tyOf]
  | _ => exact h.elim
def numsB (d : D) (n : Int) : Bool := match d with
  | .lst l => decide ((l.length : Int) = n) && l.all isNum
  | _ => false
theorem nums_g {d : D} (h : Pq d) (n : Int) (S : Store) : F_are_numbers [d, .int n] S = .ok (.bl (numsB d n)) S := by
  obtain ⟨hp, hl, _⟩ := h
  rw [← ens_eq]
  refine ens_fn rfl ?_
  unfold b_are_numbers
  simp only [List.map_cons, List.map_nil, List.replicate, List.cons_append, List.nil_append]
  have no : ∀ d : D, bIsi [d, .raw (.ty "list")] S = .ok (.bl false) S → numsB d n = false → EnsO (ySeq (yIf (xOr (xNot (xTru (xFn bIsi (xCons (xVar 0) (xCons (xC (.raw (.ty "list"))) xNil))))) (xIsT (xOp dNe (xFn bLen (xCons (xVar 0) xNil)) (xVar 1)))) (yRet (xC (.bl false))) yNil)
    (yRet (xOp dEq (xFn bLen (xCons (xLc mkF (iSrc srcL (xVar 0)) (eN 2) (xNot (xTru (xFn F_is_number (xCons (xVar 2) xNil)))) (xVar 2) [2]) xNil)) (xC (.int 0)))) [some d, some (.int n), none] S) { nx := fun _ S' => Ens (fin false S.length .non S') fun d' S'' => d' = D.bl (numsB d n) ∧ S'' = S, rt := fun d_1 S' => Ens (fin false S.length d_1 S') fun d' S'' => d' = D.bl (numsB d n) ∧ S'' = S } := fun d h1 h2 => by
    refine ens_sq (fun e S' => False) (fun R hR => ?_) (fun e S' h => h.elim)
    simp [h1, h2]
  cases d with
  | lst l =>
    obtain ⟨l1, l2⟩ := hl l rfl
    refine ens_sq (fun e S' => S' = S ∧ (l.length : Int) = n ∧ e = [some (.lst l), some (.int n), none]) (fun R hR => ?_) ?_
    · by_cases q : (l.length : Int) = n
      · simp [q]
        exact hR _ _ ⟨rfl, q, rfl⟩
      · simp [q, numsB]
    rintro e S' ⟨rfl, q, rfl⟩
    have hc : lcL (fun _ => True) (eN 2) (xNot (xTru (xFn F_is_number (xCons (xVar 2) xNil)))) (xVar 2) [some (.lst l), some (.int n), none] l [] S' = .ok (l.filter fun x => !isNum x) S' := by
      have := lc_filt (g := eN 2) (c := xNot (xTru (xFn F_is_number (xCons (xVar 2) xNil)))) (f := xVar 2) (e0 := [some (.lst l), some (.int n), none]) (S := S') (fun x : D => x) (fun x : D => x) (fun x => !isNum x) l [] (fun a ha => ⟨_, rfl, by simp [num_g (l2 a ha)]⟩) (by simp; omega)
      rw [List.map_id', List.map_id', List.nil_append] at this
      exact this
    simp only [yRet_app, xOp_app, xFn_app, xCons_app, xNil_app, xLc_app, iSrc_app, xC_app, xVar_app, List.getElem?_cons_zero, List.getElem?_cons_succ, Res.bind_ok, srcL_lst, wipeE_cons, wipeE_nil, List.set_cons_succ, List.set_cons_zero, hc, mkF_app, bLen_lst, dEq_int, enso_out, ens_ok, enso_rt, fin_same]
    refine ⟨?_, trivial⟩
    show _ = D.bl (decide ((l.length : Int) = n) && l.all isNum)
    rw [decide_eq_true q, Bool.true_and]
    congr 1
    rw [Bool.eq_iff_iff, decide_eq_true_iff, List.all_eq_true]
    constructor
    · intro z x hx
      have z2 : (l.filter fun x => !isNum x) = [] := List.length_eq_zero_iff.mp (by omega)
      have := List.filter_eq_nil_iff.mp z2 x hx
      simpa using this
    · intro z
      have z2 : (l.filter fun x => !isNum x) = [] := List.filter_eq_nil_iff.mpr fun x hx => by simp [z x hx]
      rw [z2]
      rfl
  | int i => exact no _ (by simp [bIsi, tyOf]) rfl
  | bl b => exact no _ (by simp [bIsi, tyOf]) rfl
  | non => exact no _ (by simp [bIsi, tyOf]) rfl
  | str s => exact no _ (by simp [bIsi, tyOf]) rfl
  | tup l => exact no _ (by simp [bIsi, tyOf]) rfl
  | _ => exact hp.elim
theorem ints_of : ∀ {l : List D}, l.all isNum = true → ∃ zs : List Int, l = zs.map D.int
  | [], _ => ⟨[], rfl⟩
  | d :: l, h => by
    rw [List.all_cons, Bool.and_eq_true] at h
    obtain ⟨zs, rfl⟩ := ints_of h.2
    cases d with
    | int i => exact ⟨i :: zs, rfl⟩
    | _ => exact absurd h.1 (by simp [isNum])
theorem nums_ints {d : D} {n : Int} (h : numsB d n = true) : ∃ zs : List Int, d = .lst (zs.map D.int) ∧ (zs.length : Int) = n := by
  unfold numsB at h
  split at h
  · rename_i l
    rw [Bool.and_eq_true, decide_eq_true_iff] at h
    obtain ⟨zs, rfl⟩ := ints_of h.2
    exact ⟨zs, rfl, by simpa using h.1⟩
  · cases h
/-! ### the tables' guard, and the law's, asked with anything -/
/-- rows and numbers; of a table that is one or of a thing that is none -/
def isTab : D → Bool
  | .lst (.lst r0 :: l) => decide (l.length + 1 ≤ 12) && (decide (1 ≤ r0.length) && (decide (r0.length ≤ 12) && (.lst r0 :: l : List D).all fun row => numsB row r0.length))
  | _ => false
/-- a thing whose parts can be told -/
def Tq (d : D) : Prop := Pln d ∧ ∀ l, d = .lst l → l.length ≤ 1000 ∧ ∀ x ∈ l, Pq x
theorem bsi_l {d : D} (h : Pln d) (S : Store) : bIsi [d, .raw (.ty "list")] S = .ok (.bl (match d with | .lst _ => true | _ => false)) S := by
  cases d with
  | lst l => simp
  | int i => simp [bIsi, tyOf]
  | bl i => simp [bIsi, tyOf]
  | non => simp [bIsi, tyOf]
  | str i => simp [bIsi, tyOf]
  | tup i => simp [bIsi, tyOf]
  | _ => exact h.elim
theorem tab_g {d : D} (h : Tq d) (S : Store) : F_must_be_table [d] S = if isTab d = true then .ok .non S else .exc ⟨"NoTable", none⟩ S := by
  obtain ⟨hp, hl⟩ := h
  have no : bIsi [d, .raw (.ty "list")] S = .ok (.bl false) S → isTab d = false → F_must_be_table [d] S = if isTab d = true then .ok .non S else .exc ⟨"NoTable", none⟩ S := fun q1 q2 => by
    rw [q2, if_neg (by decide)]
    refine fn_exc (e := [some d, none, none]) rfl ?_
    unfold b_must_be_table
    simp [q1]
  cases d with
  | lst l =>
    obtain ⟨l1, l2⟩ := hl l rfl
    have bad : isTab (.lst l) = false → ∀ (e : Dv.Env), b_must_be_table [some (.lst l), none, none] S = .exc ⟨"NoTable", none⟩ e S → F_must_be_table [.lst l] S = if isTab (.lst l) = true then .ok .non S else .exc ⟨"NoTable", none⟩ S := fun q e q2 => by
      rw [q, if_neg (by decide)]
      exact fn_exc rfl q2
    cases l with
    | nil =>
      refine bad rfl [some (.lst []), none, none] ?_
      unfold b_must_be_table
      simp
    | cons r l =>
      have ix0 : dIx (.lst (r :: l)) (.int 0) S = .ok r S := by simp
      have hr := l2 r (by simp)
      by_cases g1 : l.length + 1 ≤ 12
      · have br := bsi_l hr.1 S
        have dec : (∃ r0, r = .lst r0) ∨ ∀ r0, r ≠ .lst r0 := by
          cases r with
          | lst r0 => exact .inl ⟨r0, rfl⟩
          | _ => exact .inr fun r0 z => by cases z
        rcases dec with ⟨r0, rfl⟩ | hn
        · have g2 : ¬ ((l.length : Int) + 1 < 1) := by omega
          have g3 : ¬ ((12 : Int) < (l.length : Int) + 1) := by omega
          simp only at br
          have hc : ∀ v, lcL (fun _ => True) (eN 2) (xNot (xTru (xFn F_are_numbers (xCons (xVar 2) (xCons (xVar 1) xNil))))) (xVar 2) [some (.lst (.lst r0 :: l)), some (.int (r0.length : Int)), v] (.lst r0 :: l) [] S = .ok ((.lst r0 :: l).filter fun x => !numsB x r0.length) S := fun v => by
            have := lc_filt (g := eN 2) (c := xNot (xTru (xFn F_are_numbers (xCons (xVar 2) (xCons (xVar 1) xNil))))) (f := xVar 2) (e0 := [some (.lst (.lst r0 :: l)), some (.int (r0.length : Int)), v]) (S := S) (fun x : D => x) (fun x : D => x) (fun x => !numsB x r0.length) (.lst r0 :: l) [] (fun a ha => ⟨_, rfl, by simp [nums_g (l2 a ha)]⟩) (by simp at l1 ⊢; omega)
            rw [List.map_id', List.map_id', List.nil_append] at this
            exact this
          have bl : ∀ (l : List D) S, bLen [.lst l] S = .ok (.int l.length) S := fun l S => rfl
          by_cases k1 : 1 ≤ r0.length
          · by_cases k2 : r0.length ≤ 12
            · cases k3 : (.lst r0 :: l : List D).all fun row => numsB row r0.length with
              | true =>
                have it : isTab (.lst (.lst r0 :: l)) = true := by simp only [isTab, k3, decide_eq_true g1, decide_eq_true k1, decide_eq_true k2]; rfl
                have fe : ((.lst r0 :: l).filter fun x => !numsB x r0.length) = [] := List.filter_eq_nil_iff.mpr fun x hx => by
                  have := List.all_eq_true.mp k3 x hx
                  simp [this]
                rw [it, if_pos rfl, ← ens_eq]
                refine ens_fn rfl ?_
                unfold b_must_be_table
                simp only [List.map_cons, List.map_nil, List.replicate, List.cons_append, List.nil_append]
                refine ens_sq (fun e S' => S' = S ∧ e = [some (.lst (.lst r0 :: l)), none, none]) (fun R hR => ?_) ?_
                · simp [g2, g3]
                  exact hR _ _ ⟨rfl, rfl⟩
                rintro e S' ⟨rfl, rfl⟩
                refine ens_sq (fun e S2 => S2 = S' ∧ e = [some (.lst (.lst r0 :: l)), some (.int (r0.length : Int)), none]) (fun R hR => ?_) ?_
                · simp
                  exact hR _ _ ⟨rfl, rfl⟩
                rintro e S2 ⟨rfl, rfl⟩
                have q1 : ¬ ((r0.length : Int) < 1) := by omega
                have q2 : ¬ ((12 : Int) < (r0.length : Int)) := by omega
                simp [q1, q2, hc, fe]
              | false =>
                have it : isTab (.lst (.lst r0 :: l)) = false := by simp only [isTab, k3, decide_eq_true g1, decide_eq_true k1, decide_eq_true k2]; rfl
                have fe : 0 < ((.lst r0 :: l).filter fun x => !numsB x r0.length).length := by
                  refine List.length_pos_iff.mpr fun z => ?_
                  have := List.filter_eq_nil_iff.mp z
                  have : ((.lst r0 :: l : List D).all fun row => numsB row r0.length) = true := List.all_eq_true.mpr fun x hx => by simpa using this x hx
                  rw [this] at k3
                  cases k3
                refine bad it [some (.lst (.lst r0 :: l)), some (.int (r0.length : Int)), none] ?_
                unfold b_must_be_table
                have q1 : ¬ ((r0.length : Int) < 1) := by omega
                have q2 : ¬ ((12 : Int) < (r0.length : Int)) := by omega
                have q3 : (0 : Int) < ((((.lst r0 :: l).filter fun x => !numsB x r0.length).length : Nat) : Int) := by omega
                simp only [ySeq_app, yIf_app, xOr_app, xNot_app, xTru_app, xIsT_app, xOp_app, xLc_app, iSrc_app, xFn_app, xCons_app, xNil_app, xC_app, xVar_app, List.getElem?_cons_zero, List.getElem?_cons_succ, Res.bind_ok, bIsi_lst, tru_bl, Bool.not_true, Bool.false_eq_true, if_false, bl, dLt_ok, dGt_ok, ix0, ySet_app, Res.out_ok, yNil_app, Out.seq_nx, srcL_lst, wipeE_cons, wipeE_nil, List.set_cons_succ, List.set_cons_zero, List.length_cons, Int.natCast_add, Int.natCast_one, decide_eq_false g2, decide_eq_false g3, decide_eq_false q1, decide_eq_false q2, hc, mkF_app, decide_eq_true q3, if_true]
                rfl
            · have it : isTab (.lst (.lst r0 :: l)) = false := by simp only [isTab, decide_eq_true g1, decide_eq_true k1, decide_eq_false k2]; rfl
              refine bad it [some (.lst (.lst r0 :: l)), some (.int (r0.length : Int)), none] ?_
              unfold b_must_be_table
              have q1 : ¬ ((r0.length : Int) < 1) := by omega
              have q2 : ((12 : Int) < (r0.length : Int)) := by omega
              simp [g2, g3, q1, q2]
          · have it : isTab (.lst (.lst r0 :: l)) = false := by simp only [isTab, decide_eq_true g1, decide_eq_false k1]; rfl
            refine bad it [some (.lst (.lst r0 :: l)), some (.int (r0.length : Int)), none] ?_
            unfold b_must_be_table
            have q1 : ((r0.length : Int) < 1) := by omega
            simp [g2, g3, q1]
        · have g2 : ¬ ((l.length : Int) + 1 < 1) := by omega
          have g3 : ¬ ((12 : Int) < (l.length : Int) + 1) := by omega
          have brf : bIsi [r, .raw (.ty "list")] S = .ok (.bl false) S := by
            rw [br]
            cases r with
            | lst r0 => exact absurd rfl (hn r0)
            | _ => rfl
          have it : isTab (.lst (r :: l)) = false := by
            cases r with
            | lst r0 => exact absurd rfl (hn r0)
            | _ => rfl
          refine bad it [some (.lst (r :: l)), none, none] ?_
          unfold b_must_be_table
          simp [g2, g3, brf]
      · have it : isTab (.lst (r :: l)) = false := by
          cases r with
          | lst r0 => simp only [isTab, decide_eq_false g1]; rfl
          | _ => rfl
        refine bad it [some (.lst (r :: l)), none, none] ?_
        unfold b_must_be_table
        have g2 : ¬ ((l.length : Int) + 1 < 1) := by omega
        have g3 : ((12 : Int) < (l.length : Int) + 1) := by omega
        simp [g2, g3]
  | int i => exact no (by simp [bIsi, tyOf]) rfl
  | bl b => exact no (by simp [bIsi, tyOf]) rfl
  | non => exact no (by simp [bIsi, tyOf]) rfl
  | str s => exact no (by simp [bIsi, tyOf]) rfl
  | tup l => exact no (by simp [bIsi, tyOf]) rfl
  | _ => exact hp.elim
def PR (l0 x : D) : Prop := ∃ r, x = .lst r ∧ 1 ≤ r.length ∧ r.length ≤ 12 ∧ r.all isNum = true ∧ ∃ r0, l0 = .lst r0 ∧ r.length = r0.length
theorem numsB_iff {d : D} {n : Nat} : numsB d n = true ↔ ∃ l, d = .lst l ∧ l.length = n ∧ l.all isNum = true := by
  cases d with
  | lst l =>
    show (decide ((l.length : Int) = n) && l.all isNum) = true ↔ _
    rw [Bool.and_eq_true, decide_eq_true_iff]
    constructor
    · exact fun h => ⟨l, rfl, by omega, h.2⟩
    · rintro ⟨l', e, h1, h2⟩
      cases e
      exact ⟨by omega, h2⟩
  | _ => exact ⟨fun h => (by cases h), fun ⟨l, e, _⟩ => (by cases e)⟩
theorem isTab_iff (r : D) (l : List D) : isTab (.lst (r :: l)) = true ↔ l.length + 1 ≤ 12 ∧ ∀ x ∈ r :: l, PR r x := by
  constructor
  · intro h
    cases r with
    | lst r0 =>
      simp only [isTab, Bool.and_eq_true, decide_eq_true_iff] at h
      obtain ⟨h1, h2, h3, h4⟩ := h
      refine ⟨h1, fun x hx => ?_⟩
      obtain ⟨l, rfl, e1, e2⟩ := numsB_iff.mp (List.all_eq_true.mp h4 x hx)
      exact ⟨l, rfl, by omega, by omega, e2, r0, rfl, e1⟩
    | _ => cases h
  · rintro ⟨h1, h2⟩
    obtain ⟨r0, rfl, k1, k2, _, _⟩ := h2 r (by simp)
    have k3 : ((.lst r0 :: l : List D).all fun row => numsB row r0.length) = true := List.all_eq_true.mpr fun x hx => by
      obtain ⟨r', rfl, _, _, q, r1, e, e2⟩ := h2 x hx
      cases e
      exact numsB_iff.mpr ⟨r', rfl, e2, q⟩
    simp only [isTab, k3, decide_eq_true h1, decide_eq_true k1, decide_eq_true k2]
    rfl
theorem num_test {y : D} (h : Pln y) (S : Store) : ∃ a b, bIsi [y, .raw (.ty "bool")] S = .ok (.bl a) S ∧ bIsi [y, .raw (.ty "int")] S = .ok (.bl b) S ∧ (a || !b) = !isNum y := by
  cases y with
  | int i => exact ⟨false, true, by simp, by simp, rfl⟩
  | bl i => exact ⟨true, true, by simp [bIsi, tyOf], by simp [bIsi, tyOf], rfl⟩
  | non => exact ⟨false, false, by simp [bIsi, tyOf], by simp [bIsi, tyOf], rfl⟩
  | str i => exact ⟨false, false, by simp [bIsi, tyOf], by simp [bIsi, tyOf], rfl⟩
  | tup i => exact ⟨false, false, by simp [bIsi, tyOf], by simp [bIsi, tyOf], rfl⟩
  | lst i => exact ⟨false, false, by simp [bIsi, tyOf], by simp [bIsi, tyOf], rfl⟩
  | _ => exact h.elim
theorem is_table_g {d : D} (h : Tq d) (S : Store) : F__law_is_table [d] S = .ok (.bl (isTab d)) S := by
  obtain ⟨hp, hl⟩ := h
  rw [← ens_eq]
  refine ens_fn rfl ?_
  unfold b__law_is_table
  simp only [List.map_cons, List.map_nil, List.replicate, List.cons_append, List.nil_append]
  have bl := bsi_l hp S
  cases d with
  | lst l =>
    obtain ⟨l1, l2⟩ := hl l rfl
    cases l with
    | nil =>
      refine ens_sq (fun e S' => False) (fun R hR => ?_) (fun e S' h => h.elim)
      simp [isTab]
    | cons r l =>
      have it := isTab_iff r l
      generalize isTab (.lst (r :: l)) = B at *
      have no : ¬ (l.length + 1 ≤ 12 ∧ ∀ x ∈ r :: l, PR r x) → B = false := fun z => by
        cases B with
        | false => rfl
        | true => exact absurd (it.mp rfl) z
      by_cases g1 : l.length + 1 ≤ 12
      · have g2 : ¬ ((l.length : Int) + 1 < 1) := by omega
        have g3 : ¬ ((12 : Int) < (l.length : Int) + 1) := by omega
        refine ens_sq (fun e S' => S' = S ∧ e = [some (.lst (r :: l)), none, none]) (fun R hR => ?_) ?_
        · simp [g2, g3]
          exact hR _ _ ⟨rfl, rfl⟩
        rintro e S' ⟨rfl, rfl⟩
        refine ens_sq (fun e S2 => S2 = S' ∧ (∀ x ∈ r :: l, PR r x) ∧ ∃ v1 v2, e = [some (.lst (r :: l)), v1, v2]) (fun R hR => ?_) ?_
        · simp only [yFor_app, iSrc_app, xVar_app, List.getElem?_cons_zero, List.getElem?_cons_succ, Res.bind_ok, srcL_lst, enso_out, ens_ok]
          refine ens_fr (fun i e S2 => S2 = S' ∧ (∀ x ∈ (r :: l).take i, PR r x) ∧ ∃ v1 v2, e = [some (.lst (r :: l)), v1, v2]) ⟨rfl, by simp, none, none, rfl⟩ ?_ ?_
          · rintro i d e S2 R2 hd ⟨rfl, old, v1, v2, rfl⟩ hR2
            have hi : i < (r :: l).length := by
              by_cases q : i < (r :: l).length
              · exact q
              · rw [List.getElem?_eq_none (by omega)] at hd; cases hd
            have hm := List.mem_of_getElem? hd
            have hx := l2 d hm
            have tk : (r :: l).take (i + 1) = (r :: l).take i ++ [d] := by
              rw [List.take_succ_eq_append_getElem hi]
              congr 1
              rw [List.getElem?_eq_getElem hi] at hd
              rw [Option.some.inj hd]
            have bd := bsi_l hx.1 S2
            have bad : ¬ PR r d → Ens (fin false S2.length (.bl false) S2) fun a S3 => a = .bl B ∧ S3 = S2 := fun z => by
              rw [fin_same, ens_ok, no fun q => z (q.2 d hm)]
              exact ⟨rfl, rfl⟩
            simp only [gN_app, enso_nx, List.set_cons_succ, List.set_cons_zero]
            refine ens_sq (fun e S3 => S3 = S2 ∧ (∃ rd r0, d = .lst rd ∧ 1 ≤ rd.length ∧ rd.length ≤ 12 ∧ r = .lst r0 ∧ rd.length = r0.length) ∧ e = [some (.lst (r :: l)), some d, v2]) (fun R3 hR3 => ?_) ?_
            · cases d with
              | lst rd =>
                have r0e : ∃ r0, r = .lst r0 := by
                  cases i with
                  | zero => 
                    simp at hd
                    exact ⟨rd, hd⟩
                  | succ i =>
                    obtain ⟨_, _, _, _, _, r0, e, _⟩ := old r (by simp)
                    exact ⟨r0, e⟩
                obtain ⟨r0, rfl⟩ := r0e
                by_cases k1 : 1 ≤ rd.length
                · by_cases k2 : rd.length ≤ 12
                  · by_cases k3 : rd.length = r0.length
                    · have q1 : ¬ ((rd.length : Int) < 1) := by omega
                      have q2 : ¬ ((12 : Int) < (rd.length : Int)) := by omega
                      have q3 : ((rd.length : Int) = (r0.length : Int)) := by omega
                      have q1r : ¬ ((r0.length : Int) < 1) := by omega
                      have q2r : ¬ ((12 : Int) < (r0.length : Int)) := by omega
                      simp [q1, q2, q3, q1r, q2r]
                      exact hR3 _ _ ⟨rfl, ⟨rd, r0, rfl, k1, k2, rfl, k3⟩, rfl⟩
                    · have q1 : ¬ ((rd.length : Int) < 1) := by omega
                      have q2 : ¬ ((12 : Int) < (rd.length : Int)) := by omega
                      have q3 : ¬ ((rd.length : Int) = (r0.length : Int)) := by omega
                      have b := bad fun ⟨_, e, _, _, _, _, e2, q⟩ => by cases e; cases e2; exact k3 q
                      simpa [q1, q2, q3] using b
                  · have q1 : ¬ ((rd.length : Int) < 1) := by omega
                    have q2 : ((12 : Int) < (rd.length : Int)) := by omega
                    have b := bad fun ⟨_, e, _, q, _⟩ => by cases e; exact k2 q
                    simpa [q1, q2] using b
                · have q1 : ((rd.length : Int) < 1) := by omega
                  have b := bad fun ⟨_, e, q, _⟩ => by cases e; exact k1 q
                  simpa [q1] using b
              | _ =>
                have b := bad fun ⟨_, e, _⟩ => by cases e
                simp only at bd
                simpa [bd] using b
            rintro e S3 ⟨rfl, ⟨rd, r0, rfl, k1, k2, rfl, k3⟩, rfl⟩
            obtain ⟨_, hrd, _⟩ := hx
            obtain ⟨rd1, rd2⟩ := hrd rd rfl
            simp only [yFor_app, iSrc_app, xVar_app, List.getElem?_cons_zero, List.getElem?_cons_succ, Res.bind_ok, srcL_lst, enso_out, ens_ok]
            refine ens_fr (fun j e S4 => S4 = S3 ∧ (rd.take j).all isNum = true ∧ ∃ v2, e = [some (.lst (.lst r0 :: l)), some (.lst rd), v2]) ⟨rfl, rfl, v2, rfl⟩ ?_ ?_
            · rintro j y e S4 R3 hy ⟨rfl, on, w2, rfl⟩ hR3
              have hj : j < rd.length := by
                by_cases q : j < rd.length
                · exact q
                · rw [List.getElem?_eq_none (by omega)] at hy; cases hy
              have hym := List.mem_of_getElem? hy
              have tky : rd.take (j + 1) = rd.take j ++ [y] := by
                rw [List.take_succ_eq_append_getElem hj]
                congr 1
                rw [List.getElem?_eq_getElem hj] at hy
                rw [Option.some.inj hy]
              obtain ⟨a, b, t1, t2, t3⟩ := num_test (rd2 y hym) S4
              simp only [gN_app, enso_nx, List.set_cons_succ, List.set_cons_zero, yIf_app, xOr_app, xNot_app, xTru_app, xFn_app, xCons_app, xNil_app, xC_app, xVar_app, List.getElem?_cons_zero, List.getElem?_cons_succ, Res.bind_ok, t1, t2, tru_bl, enso_out]
              cases hn : isNum y with
              | true =>
                rw [hn] at t3
                cases a <;> cases b <;> simp at t3
                simp only [Bool.false_eq_true, if_false, Bool.not_true, ens_ok, yNil_app, enso_nx]
                exact hR3 _ _ ⟨rfl, by rw [tky, List.all_append, on]; simp [hn], _, rfl⟩
              | false =>
                rw [hn] at t3
                have b0 := bad fun ⟨_, e, _, _, q, _⟩ => by
                  cases e
                  have := List.all_eq_true.mp q y hym
                  rw [hn] at this
                  cases this
                cases a <;> cases b <;> simp at t3
                all_goals simpa using b0
            · rintro e S4 ⟨rfl, on, w2, rfl⟩
              rw [List.take_length] at on
              refine hR2 _ _ ⟨rfl, fun x hx => ?_, _, _, rfl⟩
              rw [tk] at hx
              rcases List.mem_append.mp hx with q | q
              · exact old x q
              · rw [List.mem_singleton.mp q]
                exact ⟨rd, rfl, k1, k2, on, r0, rfl, k3⟩
          · rintro e S2 ⟨rfl, all, v1, v2, rfl⟩
            rw [List.take_length] at all
            exact hR _ _ ⟨rfl, all, v1, v2, rfl⟩
        rintro e S2 ⟨rfl, all, v1, v2, rfl⟩
        have bt : B = true := it.mpr ⟨g1, all⟩
        subst bt
        simp
      · have g2 : ¬ ((l.length : Int) + 1 < 1) := by omega
        have g3 : ((12 : Int) < (l.length : Int) + 1) := by omega
        rw [no fun q => g1 q.1]
        refine ens_sq (fun e S' => False) (fun R hR => ?_) (fun e S' h => h.elim)
        simp [g2, g3]
  | int i =>
    refine ens_sq (fun e S' => False) (fun R hR => ?_) (fun e S' h => h.elim)
    simp [bIsi, tyOf, isTab]
  | bl i =>
    refine ens_sq (fun e S' => False) (fun R hR => ?_) (fun e S' h => h.elim)
    simp [bIsi, tyOf, isTab]
  | non =>
    refine ens_sq (fun e S' => False) (fun R hR => ?_) (fun e S' h => h.elim)
    simp [bIsi, tyOf, isTab]
  | str i =>
    refine ens_sq (fun e S' => False) (fun R hR => ?_) (fun e S' h => h.elim)
    simp [bIsi, tyOf, isTab]
  | tup i =>
    refine ens_sq (fun e S' => False) (fun R hR => ?_) (fun e S' h => h.elim)
    simp [bIsi, tyOf, isTab]
  | _ => exact hp.elim
/-! ### a thing drawn -/
def rowP : Nat → Sg → List Int × Sg
  | 0, σ => ([], σ)
  | m + 1, σ => ((rowP m σ).1 ++ [drw (rowP m σ).2 5 - 2], nxt (rowP m σ).2 5)
def tabP (w : Nat) : Nat → Sg → Tb × Sg
  | 0, σ => ([], σ)
  | m + 1, σ => ((tabP w m σ).1 ++ [(rowP w (tabP w m σ).2).1], (rowP w (tabP w m σ).2).2)
theorem rowP_ok {T : Int} : ∀ (m : Nat) {σ : Sg}, SgOk T σ → (rowP m σ).1.length = m ∧ (∀ x ∈ (rowP m σ).1, x.natAbs ≤ 2) ∧ SgOk (T + m) (rowP m σ).2
  | 0, σ, h => ⟨rfl, by simp [rowP], by simpa [rowP] using h⟩
  | m + 1, σ, h => by
    obtain ⟨h1, h2, h3⟩ := rowP_ok m h
    refine ⟨by simp [rowP, h1], fun x hx => ?_, ?_⟩
    · rcases List.mem_append.mp hx with q | q
      · exact h2 x q
      · have := drw_in (rowP m σ).2 (b := 5) (by decide)
        rw [List.mem_singleton.mp q]; omega
    · have := h3.nxt 5
      exact this.mono (by omega)
theorem tabP_ok {T : Int} {w : Nat} : ∀ (m : Nat) {σ : Sg}, SgOk T σ → (tabP w m σ).1.length = m ∧ (∀ r ∈ (tabP w m σ).1, r.length = w ∧ ∀ x ∈ r, x.natAbs ≤ 2) ∧ SgOk (T + m * w) (tabP w m σ).2
  | 0, σ, h => ⟨rfl, by simp [tabP], by simpa [tabP] using h⟩
  | m + 1, σ, h => by
    obtain ⟨h1, h2, h3⟩ := tabP_ok (w := w) m h
    obtain ⟨k1, k2, k3⟩ := rowP_ok w h3
    refine ⟨by simp [tabP, h1], fun r hr => ?_, ?_⟩
    · rcases List.mem_append.mp hr with q | q
      · exact h2 r q
      · rw [List.mem_singleton.mp q]; exact ⟨k1, k2⟩
    · refine k3.mono ?_
      rw [Int.natCast_add, Int.add_mul]; simp; omega
/-- what is told of a thing: a number in a row; a row; the whole -/
structure Ge (y : D) : Prop where
  p : Pln y
  z : ∀ i, y = .int i → i.natAbs ≤ K30
  t : ∃ p, ∀ S, toP S 58 y = some p
  c : D.clr 50 y = true
  u : ∀ k, D.under k y = true
structure Gr (x : D) : Prop where
  p : Pq x
  z : ∀ l, x = .lst l → ∀ i, D.int i ∈ l → i.natAbs ≤ K30
  t : ∃ p, ∀ S, toP S 59 x = some p
  c : D.clr 51 x = true
  u : ∀ k, D.under k x = true
structure Gd (d : D) : Prop where
  p : Tq d
  z : ∀ l, d = .lst l → ∀ r, D.lst r ∈ l → ∀ i, D.int i ∈ r → i.natAbs ≤ K30
  t : ∃ p, ∀ S, toP S 60 d = some p
  u : ∀ k, D.under k d = true
theorem toPs_all {n : Nat} : ∀ {l : List D}, (∀ y ∈ l, ∃ p, ∀ S, toP S n y = some p) → ∃ ps, ∀ S, toPs S n l = some ps
  | [], _ => ⟨[], fun S => by simp [toPs]⟩
  | y :: l, h => by
    obtain ⟨p, hp⟩ := h y (by simp)
    obtain ⟨ps, hps⟩ := toPs_all (l := l) fun x hx => h x (by simp [hx])
    exact ⟨p :: ps, fun S => by rw [toPs, hp, hps]⟩
theorem ge_int {i : Int} (h : i.natAbs ≤ K30) : Ge (.int i) := ⟨trivial, fun j e => (by cases e; exact h), ⟨.int i, fun S => by simp [toP]⟩, rfl, fun k => rfl⟩
theorem gr_lst {l : List D} (hl : l.length ≤ 1000) (h : ∀ y ∈ l, Ge y) : Gr (.lst l) := by
  obtain ⟨ps, hps⟩ := toPs_all (n := 58) fun y hy => (h y hy).t
  refine ⟨⟨trivial, fun l' e => (by cases e; exact ⟨hl, fun y hy => (h y hy).p⟩), fun l' e => (by cases e)⟩, fun l' e i hi => ?_, ⟨.list ps, fun S => by rw [toP, hps]; rfl⟩, ?_, fun k => ?_⟩
  · cases e
    exact (h _ hi).z i rfl
  · show l.all (D.clr 50) = true
    exact List.all_eq_true.mpr fun y hy => (h y hy).c
  · rw [D.under]; exact underL_of fun y hy => (h y hy).u k
theorem gr_tup {l : List D} (hl : l.length ≤ 1000) (h : ∀ y ∈ l, Ge y) : Gr (.tup l) := by
  obtain ⟨ps, hps⟩ := toPs_all (n := 58) fun y hy => (h y hy).t
  refine ⟨⟨trivial, fun l' e => (by cases e), fun l' e => (by cases e; exact ⟨hl, fun y hy => (h y hy).p⟩)⟩, fun l' e i hi => ?_, ⟨.tuple ps, fun S => by rw [toP, hps]; rfl⟩, ?_, fun k => ?_⟩
  · cases e
  · show l.all (D.clr 50) = true
    exact List.all_eq_true.mpr fun y hy => (h y hy).c
  · rw [D.under]; exact underL_of fun y hy => (h y hy).u k
theorem gr_ints {r : List Int} (hl : r.length ≤ 1000) (h : ∀ x ∈ r, x.natAbs ≤ K30) : Gr (.lst (r.map D.int)) := gr_lst (by simpa using hl) fun y hy => by
  obtain ⟨x, hx, rfl⟩ := List.mem_map.mp hy
  exact ge_int (h x hx)
theorem str_toP (s : PySem.Str) (h : PySem.PyData.canLay0 (.str s) = true) (S : Store) (n : Nat) : toP S n (.str s) = some (.str s) := by cases n <;> simp [toP, h]
theorem ge_non : Ge .non := ⟨trivial, fun _ e => (by cases e), ⟨.none, fun S => by simp [toP]⟩, rfl, fun k => rfl⟩
theorem ge_bl (b : Bool) : Ge (.bl b) := ⟨trivial, fun _ e => (by cases e), ⟨.bool b, fun S => by simp [toP]⟩, rfl, fun k => rfl⟩
theorem ge_str (s : PySem.Str) (h : PySem.PyData.canLay0 (.str s) = true) : Ge (.str s) := ⟨trivial, fun _ e => (by cases e), ⟨.str s, fun S => str_toP s h S _⟩, rfl, fun k => rfl⟩
theorem ge_tup1 : Ge (.tup [.int 1]) := ⟨trivial, fun _ e => (by cases e), ⟨.tuple [.int 1], fun S => by simp [toP, toPs]⟩, rfl, fun k => rfl⟩
theorem Ge.gr {y : D} (h : Ge y) (hl : ∀ l, y ≠ .lst l) (ht : ∀ l, y ≠ .tup l) : Gr y := by
  refine ⟨⟨h.p, fun l e => absurd e (hl l), fun l e => absurd e (ht l)⟩, fun l e => absurd e (hl l), ?_, ?_, h.u⟩
  · obtain ⟨p, hp⟩ := h.t
    refine ⟨p, fun S => ?_⟩
    have := hp S
    cases y with
    | lst l => exact absurd rfl (hl l)
    | tup l => exact absurd rfl (ht l)
    | non => simpa [toP] using this
    | bl b => simpa [toP] using this
    | int b => simpa [toP] using this
    | str b => simpa [toP] using this
    | _ => exact h.p.elim
  · have := h.c
    cases y with
    | lst l => exact absurd rfl (hl l)
    | tup l => exact absurd rfl (ht l)
    | non => rfl
    | bl b => rfl
    | int b => rfl
    | str b => rfl
    | _ => exact h.p.elim
theorem gd_lst {l : List D} (hl : l.length ≤ 1000) (h : ∀ y ∈ l, Gr y) : Gd (.lst l) := by
  obtain ⟨ps, hps⟩ := toPs_all (n := 59) fun y hy => (h y hy).t
  refine ⟨⟨trivial, fun l' e => (by cases e; exact ⟨hl, fun y hy => (h y hy).p⟩)⟩, fun l' e r hr i hi => ?_, ⟨.list ps, fun S => by rw [toP, hps]; rfl⟩, fun k => ?_⟩
  · cases e
    exact (h _ hr).z r rfl i hi
  · rw [D.under]; exact underL_of fun y hy => (h y hy).u k
theorem gd_tup {l : List D} (hl : l.length ≤ 1000) (h : ∀ y ∈ l, Gr y) : Gd (.tup l) := by
  obtain ⟨ps, hps⟩ := toPs_all (n := 59) fun y hy => (h y hy).t
  refine ⟨⟨trivial, fun l' e => (by cases e)⟩, fun l' e r hr i hi => ?_, ⟨.tuple ps, fun S => by rw [toP, hps]; rfl⟩, fun k => ?_⟩
  · cases e
  · rw [D.under]; exact underL_of fun y hy => (h y hy).u k
/-! things with cells inside, frozen -/
inductive It where
  | c (k : Nat) (l : List D)
  | d (x : D)
def It.e : It → D
  | .c k _ => .cell k
  | .d x => x
def It.f : It → D
  | .c _ l => .lst l
  | .d x => x
def It.i : It → Option Nat
  | .c k _ => some k
  | .d _ => none
def It.ok (S : Store) : It → Prop
  | .c k l => S[k]? = some (.lst l) ∧ l.all (D.clr 50) = true
  | .d x => D.clr 51 x = true
/-- some cells died -/
structure Dy (S S1 : Store) : Prop where
  len : S1.length = S.length
  at' : ∀ n : Nat, S1[n]? = S[n]? ∨ S1[n]? = some .dead
theorem Dy.under {S S1 : Store} (a : Dy S S1) {L : Nat} (h : (S.all fun x => x.under L) = true) : (S1.all fun x => x.under L) = true := by
  rw [List.all_eq_true] at *
  intro x hx
  obtain ⟨n, hn, rfl⟩ := List.getElem_of_mem hx
  rcases a.at' n with e | e
  · rw [List.getElem?_eq_getElem hn] at e
    exact h _ (List.mem_of_getElem? e.symm)
  · rw [List.getElem?_eq_getElem hn] at e
    rw [Option.some.inj e]; rfl
theorem clr_mono : ∀ {n m : Nat} {d : D}, n ≤ m → D.clr n d = true → D.clr m d = true
  | 0, _, _, _, h => by simp [D.clr] at h
  | n + 1, 0, _, hl, _ => by omega
  | n + 1, m + 1, d, hl, h => by
    cases d with
    | cell k => simp [D.clr] at h
    | lst l =>
      have h' : l.all (D.clr n) = true := h
      show l.all (D.clr m) = true
      exact List.all_eq_true.mpr fun x hx => clr_mono (by omega) (List.all_eq_true.mp h' x hx)
    | tup l =>
      have h' : l.all (D.clr n) = true := h
      show l.all (D.clr m) = true
      exact List.all_eq_true.mpr fun x hx => clr_mono (by omega) (List.all_eq_true.mp h' x hx)
    | _ => rfl
theorem items_lent : ∀ {is : List It} {S : Store}, (∀ x ∈ is, x.ok S) → (is.filterMap It.i).Nodup → ∃ S1, mapS (dfz 59) (is.map It.e) S = .ok (is.map It.f) S1 ∧ Dy S S1 ∧ ∀ n, n ∉ is.filterMap It.i → S1[n]? = S[n]?
  | [], S, _, _ => ⟨S, rfl, ⟨rfl, fun _ => .inl rfl⟩, fun _ _ => rfl⟩
  | .d x :: is, S, h, nd => by
    have hx : D.clr 51 x = true := h (.d x) (by simp)
    obtain ⟨S1, e1, d1, o1⟩ := items_lent (is := is) (S := S) (fun y hy => h y (by simp [hy])) nd
    refine ⟨S1, ?_, d1, fun n hn => o1 n hn⟩
    rw [List.map_cons, mapS_cons]
    show (dfz 59 x S).bind _ = _
    rw [dfz_clr 59 x S (clr_mono (by decide) hx), Res.bind_ok, e1]
    rfl
  | .c k l :: is, S, h, nd => by
    obtain ⟨hx, hc⟩ : S[k]? = some (.lst l) ∧ l.all (D.clr 50) = true := h (.c k l) (by simp)
    have nd' : (k :: is.filterMap It.i).Nodup := nd
    rw [List.nodup_cons] at nd'
    have kl := (List.getElem?_eq_some_iff.mp hx).1
    obtain ⟨S1, e1, d1, o1⟩ := items_lent (is := is) (S := S.set k .dead) (fun y hy => by
      have q := h y (by simp [hy])
      cases y with
      | d x => exact q
      | c j m =>
        refine ⟨?_, q.2⟩
        rw [List.getElem?_set_ne (fun z : k = j => nd'.1 (List.mem_filterMap.mpr ⟨.c j m, hy, by rw [z]; rfl⟩))]
        exact q.1) nd'.2
    refine ⟨S1, ?_, ⟨d1.len.trans (by simp), fun n => ?_⟩, fun n hn => ?_⟩
    · have : dfz 59 (.cell k) S = .ok (.lst l) (S.set k .dead) := by
        have id : mapS (dfz 58) l (S.set k .dead) = .ok l (S.set k .dead) := mapS_id fun d hd => dfz_clr 58 d _ (clr_mono (by decide) (List.all_eq_true.mp hc d hd))
        unfold dfz
        simp only [hx, id, Res.bind_ok]
      rw [List.map_cons, mapS_cons]
      show (dfz 59 (.cell k) S).bind _ = _
      rw [this, Res.bind_ok, e1]
      rfl
    · rcases d1.at' n with e | e
      · by_cases q : k = n
        · subst q
          rw [List.getElem?_set_self kl] at e
          exact .inr e
        · rw [List.getElem?_set_ne q] at e
          exact .inl e
      · exact .inr e
    · have hn' : n ∉ k :: is.filterMap It.i := hn
      rw [o1 n fun z => hn' (by simp [z]), List.getElem?_set_ne (fun z : k = n => hn' (by simp [z]))]
theorem items_lst {is : List It} {S : Store} (h : ∀ x ∈ is, x.ok S) (nd : (is.filterMap It.i).Nodup) : ∃ S1, dfz 60 (.lst (is.map It.e)) S = .ok (.lst (is.map It.f)) S1 ∧ Dy S S1 ∧ ∀ n, n ∉ is.filterMap It.i → S1[n]? = S[n]? := by
  obtain ⟨S1, e, d⟩ := items_lent h nd
  refine ⟨S1, ?_, d⟩
  show (mapS (dfz 59) (is.map It.e) S).bind _ = _
  rw [e]; rfl
theorem items_tup {is : List It} {S : Store} (h : ∀ x ∈ is, x.ok S) (nd : (is.filterMap It.i).Nodup) : ∃ S1, dfz 60 (.tup (is.map It.e)) S = .ok (.tup (is.map It.f)) S1 ∧ Dy S S1 ∧ ∀ n, n ∉ is.filterMap It.i → S1[n]? = S[n]? := by
  obtain ⟨S1, e, d⟩ := items_lent h nd
  refine ⟨S1, ?_, d⟩
  show (mapS (dfz 59) (is.map It.e) S).bind _ = _
  rw [e]; rfl
theorem items_cell {is : List It} {S : Store} {T : Nat} (hT : S[T]? = some (.lst (is.map It.e))) (h : ∀ x ∈ is, x.ok S) (nd : (is.filterMap It.i).Nodup) (nT : T ∉ is.filterMap It.i) : ∃ S1, dfz 60 (.cell T) S = .ok (.lst (is.map It.f)) S1 ∧ Dy S S1 ∧ ∀ n, n ≠ T → n ∉ is.filterMap It.i → S1[n]? = S[n]? := by
  have Tl := (List.getElem?_eq_some_iff.mp hT).1
  obtain ⟨S1, e, d, o⟩ := items_lent (is := is) (S := S.set T .dead) (fun y hy => by
    have q := h y hy
    cases y with
    | d x => exact q
    | c j m =>
      refine ⟨?_, q.2⟩
      rw [List.getElem?_set_ne (fun z : T = j => nT (List.mem_filterMap.mpr ⟨.c j m, hy, by rw [z]; rfl⟩))]
      exact q.1) nd
  refine ⟨S1, ?_, ⟨d.len.trans (by simp), fun n => ?_⟩, fun n n1 n2 => by rw [o n n2, List.getElem?_set_ne (Ne.symm n1)]⟩
  · unfold dfz
    simp only [hT, e, Res.bind_ok]
  · rcases d.at' n with e | e
    · by_cases q : T = n
      · subst q
        rw [List.getElem?_set_self Tl] at e
        exact .inr e
      · rw [List.getElem?_set_ne q] at e
        exact .inl e
    · exact .inr e
theorem fin_kp {n : Nat} {d : D} {S : Store} : fin true n d S = .ok d S := by simp [fin]
noncomputable def rest15 : Dv.Env → Store → Out :=
  (ySeq (yIf (xIsT (xOp dLt (xVar 4) (xC (.int 11)))) (yRet (xDfz (xOp dIx (xVar 5) (xVar 4)))) yNil)
    (ySeq (yIf (xIsT (xOp dLt (xVar 4) (xC (.int 15)))) (ySub (xOp dIx (xLst mkF (xCons (xC (.bl true)) (xCons (xC (.str ("1" : PySem.Str))) (xCons (xC .non) (xCons (xTup (xCons (xC (.int 1)) xNil)) xNil))))) (xOp dSub (xVar 4) (xC (.int 11)))) (xOp dIx (xVar 1) (xVar 3)) (xFn F__law_draw (xCons (xVar 0) (xCons (xVar 2) xNil))) setL) yNil)
    (ySeq (yIf (xIsT (xOp dEq (xVar 4) (xC (.int 15)))) (ySub (xOp dIx (xLst mkF (xCons (xFn bTuple (xCons (xOp dIx (xVar 1) (xVar 3)) xNil)) (xCons (xC .non) (xCons (xC (.int 7)) (xCons (xC (.str ("12" : PySem.Str))) xNil))))) (xFn F__law_draw (xCons (xVar 0) (xCons (xC (.int 4)) xNil)))) (xVar 1) (xVar 3) setL) yNil)
    (ySeq (yIf (xIsT (xOp dEq (xVar 4) (xC (.int 16)))) (yRet (xOp dIx (xLst mkF (xCons (xC .non) (xCons (xC (.int 5)) (xCons (xC (.str ("" : PySem.Str))) (xCons xDct0 xNil))))) (xFn F__law_draw (xCons (xVar 0) (xCons (xC (.int 4)) xNil))))) yNil)
    (yRet (xDfz (xVar 1)))))))
def rowsS (t : Tb) : Store := t.map fun r => Cn.lst (r.map D.int)
def CT (c h : Nat) : List D := (List.range h).map fun i => D.cell (c + 2 + i)
def S8 (P : Store) (σ : Sg) (t : Tb) (R : Store) : Store := P ++ lfs σ :: .lst (CT P.length t.length) :: (rowsS t ++ R)
theorem S8_T (P : Store) (σ : Sg) (t : Tb) (R : Store) : (S8 P σ t R)[P.length + 1]? = some (.lst (CT P.length t.length)) := app_at1 rfl
theorem S8_row (P : Store) (σ : Sg) (t : Tb) (R : Store) {i : Nat} (h : i < t.length) : (S8 P σ t R)[P.length + 2 + i]? = some (.lst (t[i].map D.int)) := by
  unfold S8
  rw [List.getElem?_append_right (by omega), show P.length + 2 + i - P.length = i + 1 + 1 by omega, List.getElem?_cons_succ, List.getElem?_cons_succ, List.getElem?_append_left (by simpa [rowsS] using h)]
  unfold rowsS
  rw [List.getElem?_map, List.getElem?_eq_getElem h]; rfl
theorem S8_draw {σ : Sg} {T b : Int} {P R : Store} {t : Tb} (h : SgOk T σ) (hb : 0 < b) (hb2 : b < 1000000000000000000000000000000000000000000000000000000000000) (hT : T < 1000000) : F__law_draw [.cell P.length, .int b] (S8 P σ t R) = .ok (.int (drw σ b)) (S8 P (nxt σ b) t R) := by
  have := draw_eq (P := P) (R := .lst (CT P.length t.length) :: (rowsS t ++ R)) h hb hb2 hT
  obtain ⟨d, S', e, rfl, rfl⟩ := this.get
  exact e
theorem S8_under {P : Store} (hP : (P.all fun c => c.under P.length) = true) (σ : Sg) (t : Tb) : ((S8 P σ t []).all fun c => c.under (S8 P σ t []).length) = true := by
  have L : (S8 P σ t []).length = P.length + 2 + t.length := by simp [S8, rowsS]; omega
  rw [L]
  unfold S8
  rw [List.all_append, Bool.and_eq_true]
  rw [List.all_eq_true] at hP
  refine ⟨List.all_eq_true.mpr fun x hx => cn_under_mono (by omega) (hP x hx), List.all_eq_true.mpr fun x hx => ?_⟩
  rw [List.append_nil] at hx
  rcases List.mem_cons.mp hx with rfl | hx
  · simp [lfs, Cn.under, lfD, D.underL, D.under]
  · rcases List.mem_cons.mp hx with rfl | hx
    · rw [Cn.under]
      refine underL_of fun d hd => ?_
      obtain ⟨i, hi, rfl⟩ := List.mem_map.mp hd
      have := List.mem_range.mp hi
      rw [D.under]
      exact decide_eq_true (by omega)
    · obtain ⟨r, _, rfl⟩ := List.mem_map.mp hx
      rw [Cn.under]; exact underL_ints r
def RT (c : Nat) (t : Tb) : List It := (List.range t.length).map fun i => .c (c + 2 + i) ((t.getD i []).map D.int)
def Rw (t : Tb) : List D := t.map fun r => D.lst (r.map D.int)
theorem RT_e (c : Nat) (t : Tb) : (RT c t).map It.e = CT c t.length := by unfold RT CT; rw [List.map_map]; rfl
theorem RT_f (c : Nat) (t : Tb) : (RT c t).map It.f = Rw t := by
  unfold RT Rw
  rw [List.map_map]
  apply List.ext_getElem
  · simp
  · intro i a b
    simp at b
    rw [List.getElem_map, List.getElem_map, List.getElem_range]
    show D.lst ((t.getD i []).map D.int) = _
    rw [List.getD_eq_getElem?_getD, List.getElem?_eq_getElem b]; rfl
theorem RT_len (c : Nat) (t : Tb) : (RT c t).length = t.length := by simp [RT]
theorem RT_i (c : Nat) (t : Tb) : (RT c t).filterMap It.i = (List.range t.length).map fun i => c + 2 + i := by
  unfold RT
  rw [List.filterMap_map]
  have : (It.i ∘ fun i => It.c (c + 2 + i) ((t.getD i []).map D.int)) = fun i => some (c + 2 + i) := rfl
  rw [this]
  generalize List.range t.length = l
  induction l with
  | nil => rfl
  | cons a l ih => rw [List.filterMap_cons, List.map_cons, ih]
theorem clr_ints50 (l : List Int) : (l.map D.int).all (D.clr 50) = true := by
  rw [List.all_eq_true]
  intro x hx
  obtain ⟨i, _, rfl⟩ := List.mem_map.mp hx
  rfl
theorem RT_ok (P : Store) (σ : Sg) (t : Tb) : ∀ x ∈ RT P.length t, x.ok (S8 P σ t []) := fun x hx => by
  obtain ⟨i, hi, rfl⟩ := List.mem_map.mp hx
  have hi := List.mem_range.mp hi
  refine ⟨?_, clr_ints50 _⟩
  rw [S8_row P σ t [] hi, List.getD_eq_getElem?_getD, List.getElem?_eq_getElem hi]; rfl
theorem RT_nd (c : Nat) (t : Tb) : ((RT c t).filterMap It.i).Nodup := by
  rw [RT_i]
  exact List.Pairwise.map _ (fun a b h => by omega) List.nodup_range
theorem RT_ge {c : Nat} {t : Tb} {n : Nat} (h : n ∈ (RT c t).filterMap It.i) : c + 2 ≤ n := by
  rw [RT_i] at h
  obtain ⟨i, _, rfl⟩ := List.mem_map.mp h
  omega
/-- what is asked of the thing told -/
def Pst15 (P : Store) (o : Option D) (d : D) (S' : Store) : Prop := ∃ X, S' = P ++ X ∧ (S'.all fun c => c.under S'.length) = true ∧ match o with
  | some d0 => d = d0
  | none => ∃ m, d = .cell m ∧ S'[m]? = some (.dct [])
theorem pre_of {P Y S1 : Store} (hl : S1.length = (P ++ Y).length) (h : ∀ n, n < P.length → S1[n]? = (P ++ Y)[n]?) : ∃ X, S1 = P ++ X := by
  refine ⟨S1.drop P.length, ?_⟩
  have : S1.take P.length = P := by
    apply List.ext_getElem?
    intro n
    rw [List.getElem?_take]
    by_cases q : n < P.length
    · rw [if_pos q, h n q, List.getElem?_append_left q]
    · rw [if_neg q, List.getElem?_eq_none (by omega)]
  have e := List.take_append_drop P.length S1
  rw [this] at e
  exact e.symm
theorem fin15 {P : Store} (hP : (P.all fun c => c.under P.length) = true) {σ : Sg} {t : Tb} {S0 S1 : Store} {d : D} (hS0 : S0.length = (S8 P σ t []).length) (h0 : (S0.all fun c => c.under S0.length) = true) (hp : ∀ n, n < P.length → S0[n]? = (S8 P σ t [])[n]?) (dy : Dy S0 S1) (out : ∀ n, n < P.length → S1[n]? = S0[n]?) : Ens (fin true (P ++ [lfs σ]).length d S1) fun a S' => Pst15 P (some d) a S' := by
  rw [fin_kp, ens_ok]
  obtain ⟨X, e⟩ := pre_of (P := P) (Y := lfs σ :: .lst (CT P.length t.length) :: (rowsS t ++ [])) (S1 := S1) (dy.len.trans hS0) fun n hn => by
    rw [out n hn, hp n hn]; rfl
  refine ⟨X, e, ?_, rfl⟩
  rw [dy.len]
  exact dy.under h0
theorem dc_to {S : Store} {T : Nat} {l : List D} (h : S[T]? = some (.lst l)) (b : Nat) : slD mkF (.cell T) none (some (b : Int)) S = .ok (.lst (l.take (min b l.length))) S := by
  unfold slD
  have a1 : HT.sIx l.length 0 none = 0 := by simp [HT.sIx]
  simp only [getQ, getL, h, sIx_n, a1, List.drop_zero, Nat.sub_zero, mkF_app]
theorem dc_from {S : Store} {T : Nat} {l : List D} (h : S[T]? = some (.lst l)) (a : Nat) : slD mkF (.cell T) (some (a : Int)) none S = .ok (.lst (l.drop (min a l.length))) S := by
  unfold slD
  have a1 : HT.sIx l.length l.length none = l.length := by simp [HT.sIx]
  simp only [getQ, getL, h, sIx_n, a1, mkF_app]
  rw [List.take_of_length_le (by rw [List.length_drop]; exact Nat.le_refl _)]
theorem dc_ix {S : Store} {T i : Nat} {l : List D} {x : D} (h : S[T]? = some (.lst l)) (hi : l[i]? = some x) : dIx (.cell T) (.int (i : Int)) S = .ok x S := by
  simp only [dIx, getQ, getL, h, atI_nat hi]
theorem dc_add {S : Store} {T : Nat} {l b : List D} (h : S[T]? = some (.lst l)) (hl : l.length + b.length ≤ 16000000) : dAdd mkF (.cell T) (.lst b) S = .ok (.lst (l ++ b)) S := by
  simp only [dAdd, getL, h, if_pos hl, mkF_app]
theorem rep1 (x : D) : ∀ n : Nat, (List.replicate n [x]).flatten = List.replicate n x
  | 0 => rfl
  | n + 1 => by rw [List.replicate_succ, List.flatten_cons, rep1 x n]; rfl
theorem dl_rep (x : D) {n : Nat} (hn : n ≤ 1000) (S : Store) : dMul mkF (.lst [x]) (.int (n : Int)) S = .ok (.lst (List.replicate n x)) S := by
  have rg : rng62 (n : Int) ∧ [x].length * ((n : Int)).toNat ≤ 16000000 := ⟨rng62_of (by omega) (by omega), by simp; omega⟩
  rw [dMul_lst, if_pos rg, Int.toNat_natCast, rep1, mkF_app]
theorem CT_len (c h : Nat) : (CT c h).length = h := by simp [CT]
theorem CT_get {c h i : Nat} (hi : i < h) : (CT c h)[i]? = some (.cell (c + 2 + i)) := by
  unfold CT
  rw [List.getElem?_map, List.getElem?_range hi]; rfl
theorem S8_push (P : Store) (σ : Sg) (t : Tb) (r : List Int) : ((S8 P σ t []) ++ [Cn.lst (r.map D.int)]).set (P.length + 1) (Cn.lst (CT P.length t.length ++ [D.cell (S8 P σ t []).length])) = S8 P σ (t ++ [r]) [] := by
  have L : (S8 P σ t []).length = P.length + 2 + t.length := by simp [S8, rowsS]; omega
  have e : CT P.length t.length ++ [D.cell (S8 P σ t []).length] = CT P.length (t ++ [r]).length := by
    rw [L, List.length_append, List.length_singleton]
    unfold CT
    rw [List.range_succ, List.map_append]; rfl
  rw [e]
  unfold S8
  rw [List.append_assoc]
  show (P ++ lfs σ :: .lst (CT P.length t.length) :: ((rowsS t ++ []) ++ [.lst (r.map D.int)])).set (P.length + 1) _ = _
  rw [app_set1 rfl]
  unfold rowsS
  simp
def BL (c w i : Nat) (t : Tb) : List D := [.lst [], .lst [.lst []], .lst (CT c t.length ++ [.lst (List.replicate (w + 1) (.int 1))]),
  .lst ((CT c t.length).take i ++ [.lst ((((t.getD i []).map D.int).drop 1))] ++ (CT c t.length).drop (i + 1)), .lst (CT c t.length ++ List.replicate 13 (.lst [])),
  .lst (List.replicate 12 (.lst (List.replicate w (.int 0)))), .lst (List.replicate 13 (.lst (List.replicate w (.int 0)))), .lst [.lst (List.replicate 12 (.int 1))], .lst [.lst (List.replicate 13 (.int 1))], .lst (List.replicate 3 (.lst [])), .tup (CT c t.length)]
theorem pre15 {σ : Sg} (h : SgOk 0 σ) {w hh i ch : Nat} (hw : 1 + drw σ 3 = (w : Int)) (hhv : 1 + drw (nxt σ 3) 3 = (hh : Int)) (hi : drw (tabP w hh (nxt (nxt σ 3) 3)).2 hh = (i : Int)) (hc : drw (nxt (tabP w hh (nxt (nxt σ 3) 3)).2 hh) 18 = (ch : Int)) (P : Store) {Q : Pst}
    (hrest : ∀ v6, EnsO (rest15 [some (.cell P.length), some (.cell (P.length + 1)), some (.int (w : Int)), some (.int (i : Int)), some (.int (ch : Int)), some (.lst (BL P.length w i (tabP w hh (nxt (nxt σ 3) 3)).1)), v6] (S8 P (nxt (nxt (tabP w hh (nxt (nxt σ 3) 3)).2 hh) 18) (tabP w hh (nxt (nxt σ 3) 3)).1 [])) Q) :
    EnsO (b__law_thing [some (.cell P.length), none, none, none, none, none, none] (P ++ [lfs σ])) Q := by
  have w3 := drw_in σ (b := 3) (by decide)
  have h3 := drw_in (nxt σ 3) (b := 3) (by decide)
  unfold rest15 at hrest
  unfold b__law_thing
  refine ens_sq (fun e S' => S' = S8 P σ [] [] ∧ e = [some (.cell P.length), some (.cell (P.length + 1)), none, none, none, none, none]) (fun R hR => ?_) ?_
  · simp only [ySet_app, xLst_app, xNil_app, Res.bind_ok, List.length_nil, if_pos (show 0 ≤ 1000 by decide), mkC_app, enso_out, ens_ok, enso_nx, List.set_cons_succ, List.set_cons_zero]
    refine hR _ _ ⟨?_, ?_⟩
    · simp [S8, CT, rowsS]
    · simp
  rintro e S' ⟨rfl, rfl⟩
  refine ens_sq (fun e S' => S' = S8 P (nxt σ 3) [] [] ∧ e = [some (.cell P.length), some (.cell (P.length + 1)), some (.int (w : Int)), none, none, none, none]) (fun R hR => ?_) ?_
  · simp only [ySet_app, xOp_app, xFn_app, xCons_app, xNil_app, xC_app, xVar_app, List.getElem?_cons_zero, List.getElem?_cons_succ, Res.bind_ok, S8_draw (t := []) (R := []) h (show (0 : Int) < 3 by decide) (by decide) (by decide), dAdd_int, hw, enso_out, ens_ok, enso_nx, List.set_cons_succ, List.set_cons_zero]
    exact hR _ _ ⟨rfl, rfl⟩
  rintro e S' ⟨rfl, rfl⟩
  have g1 := h.nxt 3
  have g2 := g1.nxt 3
  refine ens_sq (fun e S' => S' = S8 P (tabP w hh (nxt (nxt σ 3) 3)).2 (tabP w hh (nxt (nxt σ 3) 3)).1 [] ∧ ∃ v3 v6, e = [some (.cell P.length), some (.cell (P.length + 1)), some (.int (w : Int)), v3, none, none, v6]) (fun R hR => ?_) ?_
  · simp only [yFor_app, iSrcA_app, xOp_app, xFn_app, xCons_app, xNil_app, xC_app, xVar_app, List.getElem?_cons_zero, List.getElem?_cons_succ, Res.bind_ok, S8_draw (t := []) (R := []) g1 (show (0 : Int) < 3 by decide) (by decide) (by decide), dAdd_int, hhv, enso_out, ens_srcR1]
    refine ⟨rng62_of (by omega) (by omega), ?_⟩
    rw [Int.toNat_natCast]
    refine ens_fr (fun j e S' => S' = S8 P (tabP w j (nxt (nxt σ 3) 3)).2 (tabP w j (nxt (nxt σ 3) 3)).1 [] ∧ ∃ v3 v6, e = [some (.cell P.length), some (.cell (P.length + 1)), some (.int (w : Int)), v3, none, none, v6]) ⟨rfl, none, none, rfl⟩ ?_ ?_
    · rintro j d e S' R2 hd ⟨rfl, v3, v6, rfl⟩ hR2
      obtain ⟨rfl, hj⟩ := irange_get hd
      obtain ⟨tl, tr, tg⟩ := tabP_ok (w := w) j g2
      have tg : SgOk 100 (tabP w j (nxt (nxt σ 3) 3)).2 := tg.mono (by
        have : (j : Int) * w ≤ 3 * 3 := Int.mul_le_mul (by omega) (by omega) (by omega) (by omega)
        omega)
      have st : tabP w (j + 1) (nxt (nxt σ 3) 3) = ((tabP w j (nxt (nxt σ 3) 3)).1 ++ [(rowP w (tabP w j (nxt (nxt σ 3) 3)).2).1], (rowP w (tabP w j (nxt (nxt σ 3) 3)).2).2) := rfl
      rw [st] at hR2
      generalize tabP w j (nxt (nxt σ 3) 3) = τ at *
      have isl : isT "list" (.cell (P.length + 1)) (S8 P τ.2 τ.1 []) = true := by simp [isT, S8_T]
      simp only [gN_app, enso_nx, List.set_cons_succ, List.set_cons_zero, Int.zero_add, yExpr_app, xMt_app, xLc_app, iSrcA_app, xCons_app, xNil_app, xVar_app, List.getElem?_cons_zero, List.getElem?_cons_succ, Res.bind_ok, isl, if_true, enso_out, ens_bind, ens_srcR1, wipeE_cons, wipeE_nil]
      refine ⟨rng62_of (by omega) (by omega), ?_⟩
      rw [Int.toNat_natCast]
      refine ens_lcq (fun m acc S' => acc = (rowP m τ.2).1.map D.int ∧ S' = S8 P (rowP m τ.2).2 τ.1 []) ⟨rfl, rfl⟩ ?_ ?_
      · rintro m d acc S' R3 hd ⟨rfl, rfl⟩ hR3
        obtain ⟨rfl, hm⟩ := irange_get hd
        obtain ⟨rl, _, rg⟩ := rowP_ok m tg
        refine ⟨_, rfl, ?_⟩
        rw [show ∀ e S, cYes e S = .ok true S from fun _ _ => rfl, ens_ok]
        refine ⟨fun _ => ?_, fun h => by cases h⟩
        simp only [xOp_app, xFn_app, xCons_app, xNil_app, xC_app, xVar_app, List.set_cons_succ, List.set_cons_zero, List.getElem?_cons_zero, List.getElem?_cons_succ, Res.bind_ok, S8_draw (t := τ.1) (R := []) rg (show (0 : Int) < 5 by decide) (by decide) (by omega), dSub_ok, ens_ok]
        refine ⟨by rw [List.length_map, rl]; omega, hR3 _ _ ⟨?_, rfl⟩⟩
        show _ = ((rowP m τ.2).1 ++ [drw (rowP m τ.2).2 5 - 2]).map D.int
        simp
      · rintro acc S' ⟨rfl, rfl⟩
        rw [irange_length]
        have cT : (S8 P (rowP w τ.2).2 τ.1 [] ++ [Cn.lst ((rowP w τ.2).1.map D.int)])[P.length + 1]? = some (.lst (CT P.length τ.1.length)) := by
          rw [List.getElem?_append_left (by have := (List.getElem?_eq_some_iff.mp (S8_T P (rowP w τ.2).2 τ.1 [])).1; exact this)]
          exact S8_T P (rowP w τ.2).2 τ.1 []
        have al : (CT P.length τ.1.length).length < 16000000 := by rw [CT_len]; omega
        simp only [mkC_app, ens_ok, Res.bind_ok, mAppend, cellL, cT, if_pos al, S8_push, enso_nx]
        exact hR2 _ _ ⟨rfl, _, _, rfl⟩
    · rintro e S' ⟨rfl, v3, v6, rfl⟩
      rw [irange_length]
      exact hR _ _ ⟨rfl, v3, v6, rfl⟩
  rintro e S' ⟨rfl, v3, v6, rfl⟩
  obtain ⟨tl, tr, tg⟩ := tabP_ok (w := w) hh g2
  have tg : SgOk 100 (tabP w hh (nxt (nxt σ 3) 3)).2 := tg.mono (by
    have : (hh : Int) * w ≤ 3 * 3 := Int.mul_le_mul (by omega) (by omega) (by omega) (by omega)
    omega)
  generalize tabP w hh (nxt (nxt σ 3) 3) = τ at *
  have gi := drw_in τ.2 (b := (hh : Int)) (by omega)
  have hil : i < τ.1.length := by omega
  refine ens_sq (fun e S' => S' = S8 P (nxt τ.2 hh) τ.1 [] ∧ e = [some (.cell P.length), some (.cell (P.length + 1)), some (.int (w : Int)), some (.int (i : Int)), none, none, v6]) (fun R hR => ?_) ?_
  · have bl : bLen [.cell (P.length + 1)] (S8 P τ.2 τ.1 []) = .ok (.int (hh : Int)) (S8 P τ.2 τ.1 []) := by
      simp [bLen, getQ, getL, S8_T, CT_len, tl]
    simp only [ySet_app, xFn_app, xCons_app, xNil_app, xVar_app, List.getElem?_cons_zero, List.getElem?_cons_succ, Res.bind_ok, bl, S8_draw (t := τ.1) (R := []) tg (show (0 : Int) < hh by omega) (by omega) (by omega), hi, enso_out, ens_ok, enso_nx, List.set_cons_succ, List.set_cons_zero]
    exact hR _ _ ⟨rfl, rfl⟩
  rintro e S' ⟨rfl, rfl⟩
  have tg2 := tg.nxt hh
  refine ens_sq (fun e S' => S' = S8 P (nxt (nxt τ.2 hh) 18) τ.1 [] ∧ e = [some (.cell P.length), some (.cell (P.length + 1)), some (.int (w : Int)), some (.int (i : Int)), some (.int (ch : Int)), none, v6]) (fun R hR => ?_) ?_
  · simp only [ySet_app, xFn_app, xCons_app, xNil_app, xC_app, xVar_app, List.getElem?_cons_zero, List.getElem?_cons_succ, Res.bind_ok, S8_draw (t := τ.1) (R := []) tg2 (show (0 : Int) < 18 by decide) (by decide) (by omega), hc, enso_out, ens_ok, enso_nx, List.set_cons_succ, List.set_cons_zero]
    exact hR _ _ ⟨rfl, rfl⟩
  rintro e S' ⟨rfl, rfl⟩
  have cT := S8_T P (nxt (nxt τ.2 hh) 18) τ.1 []
  have cR := S8_row P (nxt (nxt τ.2 hh) 18) τ.1 [] hil
  have gD : (τ.1.getD i []) = τ.1[i] := by rw [List.getD_eq_getElem?_getD, List.getElem?_eq_getElem hil]; rfl
  have rl : (τ.1[i]).length = w := (tr _ (List.getElem_mem hil)).1
  generalize hS : S8 P (nxt (nxt τ.2 hh) 18) τ.1 [] = S at *
  have cl := CT_len P.length τ.1.length
  refine ens_sq (fun e S' => S' = S ∧ e = [some (.cell P.length), some (.cell (P.length + 1)), some (.int (w : Int)), some (.int (i : Int)), some (.int (ch : Int)), some (.lst ((BL P.length w i τ.1).take 5)), v6]) (fun R hR => ?_) ?_
  · have m1 : dMul mkF (.lst [.int 1]) (.int ((w : Int) + 1)) S = .ok (.lst (List.replicate (w + 1) (.int 1))) S := dl_rep (.int 1) (n := w + 1) (by omega) S
    have m13 : dMul mkF (.lst [.lst []]) (.int 13) S = .ok (.lst (List.replicate 13 (.lst []))) S := dl_rep (.lst []) (n := 13) (by decide) S
    have a1 := dc_add (b := [.lst (List.replicate (w + 1) (.int 1))]) cT (by simp; omega)
    have a2 := dc_add (b := List.replicate 13 (.lst [])) cT (by simp; omega)
    have s1 := dc_to cT i
    have s2 := dc_from cT (i + 1)
    have s3 := dc_from cR 1
    rw [Int.natCast_add, Int.natCast_one] at s2
    rw [Int.natCast_one] at s3
    have ix := dc_ix cT (CT_get (c := P.length) hil)
    rw [cl, Nat.min_eq_left (by omega)] at s1 s2
    rw [List.length_map, Nat.min_eq_left (by omega)] at s3
    have b1 := dl_add ((CT P.length τ.1.length).take i) [.lst ((τ.1[i].map D.int).drop 1)] S (by simp; omega)
    have b2 := dl_add ((CT P.length τ.1.length).take i ++ [.lst ((τ.1[i].map D.int).drop 1)]) ((CT P.length τ.1.length).drop (i + 1)) S (by simp; omega)
    simp only [ySet_app, xLst_app, xSl_app, oSome_app, oNone_app, xOp_app, xCons_app, xNil_app, xC_app, xVar_app, List.getElem?_cons_zero, List.getElem?_cons_succ, Res.bind_ok, List.length_cons, List.length_nil, if_pos (show 0 ≤ 1000 by decide), if_pos (show 0 + 1 ≤ 1000 by decide), mkF_app, dAdd_int, m1, m13, a1, a2, s1, ix, s3, s2, b1, b2, if_pos (show 0 + 1 + 1 + 1 + 1 + 1 ≤ 1000 by decide), enso_out, ens_ok, enso_nx, List.set_cons_succ, List.set_cons_zero]
    refine hR _ _ ⟨rfl, ?_⟩
    simp only [BL, List.take, gD]
  rintro e S' ⟨rfl, rfl⟩
  refine ens_sq (fun e S2 => S2 = S' ∧ e = [some (.cell P.length), some (.cell (P.length + 1)), some (.int (w : Int)), some (.int (i : Int)), some (.int (ch : Int)), some (.lst (BL P.length w i τ.1)), v6]) (fun R hR => ?_) ?_
  · have m0 : dMul mkF (.lst [.int 0]) (.int (w : Int)) S' = .ok (.lst (List.replicate w (.int 0))) S' := dl_rep (.int 0) (n := w) (by omega) S'
    have mA : ∀ x, dMul mkF (.lst [x]) (.int 12) S' = .ok (.lst (List.replicate 12 x)) S' := fun x => dl_rep x (n := 12) (by decide) S'
    have mB : ∀ x, dMul mkF (.lst [x]) (.int 13) S' = .ok (.lst (List.replicate 13 x)) S' := fun x => dl_rep x (n := 13) (by decide) S'
    have mC : ∀ x, dMul mkF (.lst [x]) (.int 3) S' = .ok (.lst (List.replicate 3 x)) S' := fun x => dl_rep x (n := 3) (by decide) S'
    have bt : bTuple [.cell (P.length + 1)] S' = .ok (.tup (CT P.length τ.1.length)) S' := by
      simp [bTuple, getQ, getL, cT]
    have ad := dl_add ((BL P.length w i τ.1).take 5) ((BL P.length w i τ.1).drop 5) S' (by simp [BL])
    rw [List.take_append_drop] at ad
    have dr : (BL P.length w i τ.1).drop 5 = [.lst (List.replicate 12 (.lst (List.replicate w (.int 0)))), .lst (List.replicate 13 (.lst (List.replicate w (.int 0)))), .lst [.lst (List.replicate 12 (.int 1))], .lst [.lst (List.replicate 13 (.int 1))], .lst (List.replicate 3 (.lst [])), .tup (CT P.length τ.1.length)] := rfl
    rw [dr] at ad
    simp only [ySet_app, xLst_app, xOp_app, xFn_app, xCons_app, xNil_app, xC_app, xVar_app, List.getElem?_cons_zero, List.getElem?_cons_succ, Res.bind_ok, List.length_cons, List.length_nil, if_pos (show 0 ≤ 1000 by decide), if_pos (show 0 + 1 ≤ 1000 by decide), mkF_app, m0, mA, mB, mC, bt, if_pos (show 0 + 1 + 1 + 1 + 1 + 1 + 1 ≤ 1000 by decide), ad, enso_out, ens_ok, enso_nx, List.set_cons_succ, List.set_cons_zero]
    exact hR _ _ ⟨rfl, rfl⟩
  rintro e S2 ⟨rfl, rfl⟩
  exact hrest v6
theorem gr_row {t : Tb} {w : Nat} (h : ∀ r ∈ t, r.length = w ∧ ∀ x ∈ r, x.natAbs ≤ 2) (hw : w ≤ 3) : ∀ x ∈ Rw t, Gr x := fun x hx => by
  obtain ⟨r, hr, rfl⟩ := List.mem_map.mp hx
  obtain ⟨h1, h2⟩ := h r hr
  exact gr_ints (by omega) fun y hy => by
    have := h2 y hy
    unfold K30; omega
theorem gr_rep {n : Nat} (hn : n ≤ 1000) {i : Int} (hi : i.natAbs ≤ 2) : Gr (.lst (List.replicate n (.int i))) := gr_lst (by simpa using hn) fun y hy => by
  rw [List.eq_of_mem_replicate hy]
  exact ge_int (by unfold K30; omega)
theorem gr_nil : Gr (.lst []) := gr_lst (by simp) (by simp)
/-- what the eleven first things are, frozen -/
def BLf (w i : Nat) (t : Tb) : List D := [.lst [], .lst [.lst []], .lst (Rw t ++ [.lst (List.replicate (w + 1) (.int 1))]),
  .lst ((Rw t).take i ++ [.lst ((((t.getD i []).map D.int).drop 1))] ++ (Rw t).drop (i + 1)), .lst (Rw t ++ List.replicate 13 (.lst [])),
  .lst (List.replicate 12 (.lst (List.replicate w (.int 0)))), .lst (List.replicate 13 (.lst (List.replicate w (.int 0)))), .lst [.lst (List.replicate 12 (.int 1))], .lst [.lst (List.replicate 13 (.int 1))], .lst (List.replicate 3 (.lst [])), .tup (Rw t)]
theorem BLf_good {w i : Nat} {t : Tb} (h : ∀ r ∈ t, r.length = w ∧ ∀ x ∈ r, x.natAbs ≤ 2) (hw : w ≤ 3) (ht : t.length ≤ 3) (hi : i < t.length) : ∀ d ∈ BLf w i t, Gd d := by
  have gr := gr_row h hw
  have rl : (Rw t).length = t.length := by simp [Rw]
  intro d hd
  simp only [BLf, List.mem_cons, List.not_mem_nil, or_false] at hd
  have rp : ∀ {n : Nat} {x : D}, n ≤ 1000 → Gr x → Gd (.lst (List.replicate n x)) := fun hn hx => gd_lst (by simpa using hn) fun y hy => by rw [List.eq_of_mem_replicate hy]; exact hx
  rcases hd with rfl | rfl | rfl | rfl | rfl | rfl | rfl | rfl | rfl | rfl | rfl
  · exact gd_lst (by simp) (by simp)
  · exact gd_lst (by simp) fun y hy => by rw [List.mem_singleton.mp hy]; exact gr_nil
  · refine gd_lst (by simp; omega) fun y hy => ?_
    rcases List.mem_append.mp hy with q | q
    · exact gr y q
    · rw [List.mem_singleton.mp q]; exact gr_rep (by omega) (by decide)
  · refine gd_lst (by simp; omega) fun y hy => ?_
    simp only [List.mem_append, List.mem_singleton] at hy
    rcases hy with (q | q) | q
    · exact gr y (List.mem_of_mem_take q)
    · rw [q]
      have g : t.getD i [] ∈ t := by
        rw [List.getD_eq_getElem?_getD, List.getElem?_eq_getElem hi]
        exact List.getElem_mem hi
      obtain ⟨h1, h2⟩ := h _ g
      exact gr_lst (by rw [List.length_drop, List.length_map]; omega) fun y hy => by
        obtain ⟨x, hx, rfl⟩ := List.mem_map.mp (List.mem_of_mem_drop hy)
        exact ge_int (by have := h2 x hx; unfold K30; omega)
    · exact gr y (List.mem_of_mem_drop q)
  · refine gd_lst (by simp; omega) fun y hy => ?_
    rcases List.mem_append.mp hy with q | q
    · exact gr y q
    · rw [List.eq_of_mem_replicate q]; exact gr_nil
  · exact rp (by decide) (gr_rep (by omega) (by decide))
  · exact rp (by decide) (gr_rep (by omega) (by decide))
  · exact gd_lst (by simp) fun y hy => by rw [List.mem_singleton.mp hy]; exact gr_rep (by decide) (by decide)
  · exact gd_lst (by simp) fun y hy => by rw [List.mem_singleton.mp hy]; exact gr_rep (by decide) (by decide)
  · exact rp (by decide) gr_nil
  · exact gd_tup (by omega) gr
theorem BL_lent {P : Store} {σ : Sg} {w i : Nat} {t : Tb} (hi : i < t.length) (k : Nat) (hk : k < 11) : ∃ x y S1, (BL P.length w i t)[k]? = some x ∧ (BLf w i t)[k]? = some y ∧ dfz 60 x (S8 P σ t []) = .ok y S1 ∧ Dy (S8 P σ t []) S1 ∧ ∀ n, n < P.length → S1[n]? = (S8 P σ t [])[n]? := by
  have ok := RT_ok P σ t
  have nd := RT_nd P.length t
  have re := RT_e P.length t
  have rf := RT_f P.length t
  have ge := fun n => @RT_ge P.length t n
  generalize hS : S8 P σ t [] = S at *
  have id : ∀ x : D, D.clr 60 x = true → ∃ S1, dfz 60 x S = .ok x S1 ∧ Dy S S1 ∧ ∀ n, n < P.length → S1[n]? = S[n]? := fun x hx => ⟨S, dfz_clr 60 x S hx, ⟨rfl, fun _ => .inl rfl⟩, fun _ _ => rfl⟩
  have lst : ∀ is : List It, (∀ x ∈ is, x.ok S) → (is.filterMap It.i).Sublist ((RT P.length t).filterMap It.i) → ∃ S1, dfz 60 (.lst (is.map It.e)) S = .ok (.lst (is.map It.f)) S1 ∧ Dy S S1 ∧ ∀ n, n < P.length → S1[n]? = S[n]? := fun is h1 h2 => by
    obtain ⟨S1, a, b, c⟩ := items_lst h1 (nd.sublist h2)
    exact ⟨S1, a, b, fun n hn => c n fun z => by have := ge n (h2.mem z); omega⟩
  rcases (show k = 0 ∨ k = 1 ∨ k = 2 ∨ k = 3 ∨ k = 4 ∨ k = 5 ∨ k = 6 ∨ k = 7 ∨ k = 8 ∨ k = 9 ∨ k = 10 by omega) with rfl | rfl | rfl | rfl | rfl | rfl | rfl | rfl | rfl | rfl | rfl
  · obtain ⟨S1, a⟩ := id (.lst []) rfl
    exact ⟨_, _, S1, rfl, rfl, a⟩
  · obtain ⟨S1, a⟩ := id (.lst [.lst []]) rfl
    exact ⟨_, _, S1, rfl, rfl, a⟩
  · obtain ⟨S1, a⟩ := lst (RT P.length t ++ [.d (.lst (List.replicate (w + 1) (.int 1)))]) (fun x hx => by
      rcases List.mem_append.mp hx with q | q
      · exact ok x q
      · rw [List.mem_singleton.mp q]
        show (List.replicate (w + 1) (D.int 1)).all (D.clr 50) = true
        exact List.all_eq_true.mpr fun y hy => by rw [List.eq_of_mem_replicate hy]; rfl) (by rw [List.filterMap_append]; simp [It.i])
    rw [List.map_append, List.map_append, re, rf] at a
    exact ⟨_, _, S1, rfl, rfl, a⟩
  · obtain ⟨S1, a⟩ := lst ((RT P.length t).take i ++ [.d (.lst (((t.getD i []).map D.int).drop 1))] ++ (RT P.length t).drop (i + 1)) (fun x hx => by
      simp only [List.mem_append, List.mem_singleton] at hx
      rcases hx with (q | q) | q
      · exact ok x (List.mem_of_mem_take q)
      · rw [q]
        show (((t.getD i []).map D.int).drop 1).all (D.clr 50) = true
        exact List.all_eq_true.mpr fun y hy => List.all_eq_true.mp (clr_ints50 _) y (List.mem_of_mem_drop hy)
      · exact ok x (List.mem_of_mem_drop q)) (by
        rw [List.filterMap_append, List.filterMap_append]
        have : ([It.d (.lst (((t.getD i []).map D.int).drop 1))].filterMap It.i) = [] := rfl
        rw [this, List.append_nil, ← List.filterMap_append]
        refine List.Sublist.filterMap _ ?_
        have e := List.take_append_drop i (RT P.length t)
        rw [List.drop_eq_getElem_cons (by rw [RT_len]; exact hi)] at e
        have : ((RT P.length t).take i ++ (RT P.length t).drop (i + 1)).Sublist ((RT P.length t).take i ++ (RT P.length t)[i]'(by rw [RT_len]; exact hi) :: (RT P.length t).drop (i + 1)) := List.Sublist.append_left (List.sublist_cons_self _ _) _
        rwa [e] at this)
    rw [List.map_append, List.map_append, List.map_append, List.map_append, List.map_take, List.map_drop, List.map_take, List.map_drop, re, rf] at a
    exact ⟨_, _, S1, rfl, rfl, a⟩
  · obtain ⟨S1, a⟩ := lst (RT P.length t ++ List.replicate 13 (.d (.lst []))) (fun x hx => by
      rcases List.mem_append.mp hx with q | q
      · exact ok x q
      · rw [List.eq_of_mem_replicate q]; rfl) (by
        rw [List.filterMap_append]
        have : ((List.replicate 13 (It.d (.lst []))).filterMap It.i) = [] := rfl
        rw [this, List.append_nil]
        exact List.Sublist.refl _)
    rw [List.map_append, List.map_append, re, rf] at a
    exact ⟨_, _, S1, rfl, rfl, a⟩
  · obtain ⟨S1, a⟩ := id (.lst (List.replicate 12 (.lst (List.replicate w (.int 0))))) (by
      show (List.replicate 12 (D.lst (List.replicate w (.int 0)))).all (D.clr 59) = true
      exact List.all_eq_true.mpr fun y hy => by
        rw [List.eq_of_mem_replicate hy]
        show (List.replicate w (D.int 0)).all (D.clr 58) = true
        exact List.all_eq_true.mpr fun y hy => by rw [List.eq_of_mem_replicate hy]; rfl)
    exact ⟨_, _, S1, rfl, rfl, a⟩
  · obtain ⟨S1, a⟩ := id (.lst (List.replicate 13 (.lst (List.replicate w (.int 0))))) (by
      show (List.replicate 13 (D.lst (List.replicate w (.int 0)))).all (D.clr 59) = true
      exact List.all_eq_true.mpr fun y hy => by
        rw [List.eq_of_mem_replicate hy]
        show (List.replicate w (D.int 0)).all (D.clr 58) = true
        exact List.all_eq_true.mpr fun y hy => by rw [List.eq_of_mem_replicate hy]; rfl)
    exact ⟨_, _, S1, rfl, rfl, a⟩
  · obtain ⟨S1, a⟩ := id (.lst [.lst (List.replicate 12 (.int 1))]) rfl
    exact ⟨_, _, S1, rfl, rfl, a⟩
  · obtain ⟨S1, a⟩ := id (.lst [.lst (List.replicate 13 (.int 1))]) rfl
    exact ⟨_, _, S1, rfl, rfl, a⟩
  · obtain ⟨S1, a⟩ := id (.lst (List.replicate 3 (.lst []))) rfl
    exact ⟨_, _, S1, rfl, rfl, a⟩
  · obtain ⟨S1, a, b, c⟩ := items_tup ok nd
    rw [re, rf] at a
    exact ⟨_, _, S1, rfl, rfl, a, b, fun n hn => c n fun z => by have := ge n z; omega⟩
theorem RT_set_e {c i : Nat} {t : Tb} (hi : i < t.length) (l : List D) : ((RT c t).set i (.c (c + 2 + i) l)).map It.e = CT c t.length := by
  rw [List.map_set, RT_e]
  show (CT c t.length).set i (.cell (c + 2 + i)) = _
  apply List.ext_getElem?
  intro n
  rw [List.getElem?_set]
  by_cases q : i = n
  · subst q; rw [if_pos rfl, CT_len, if_pos hi, CT_get hi]
  · rw [if_neg q]
theorem set_i (c : Nat) (t : Tb) {i : Nat} {y : It} (hi : i < t.length) (hy : y.i = none ∨ y.i = some (c + 2 + i)) : (((RT c t).set i y).filterMap It.i).Sublist ((RT c t).filterMap It.i) := by
  have hl : i < (RT c t).length := by rw [RT_len]; exact hi
  rw [List.set_eq_take_append_cons_drop, if_pos hl]
  have e := List.take_append_drop i (RT c t)
  rw [List.drop_eq_getElem_cons hl] at e
  have gi : ((RT c t)[i]).i = some (c + 2 + i) := by simp [RT, It.i]
  have q : (((RT c t).take i ++ y :: (RT c t).drop (i + 1)).filterMap It.i).Sublist (((RT c t).take i ++ (RT c t)[i] :: (RT c t).drop (i + 1)).filterMap It.i) := by
    rw [List.filterMap_append, List.filterMap_append]
    refine List.Sublist.append_left ?_ _
    rw [List.filterMap_cons, List.filterMap_cons, gi]
    rcases hy with h | h
    · rw [h]; exact List.sublist_cons_self _ _
    · rw [h]; exact List.Sublist.refl _
  rwa [e] at q
/-- the table's cell itself told -/
theorem tab_lent {P : Store} {t : Tb} {S : Store} {i : Nat} {y : It} (hi : i < t.length) (ok : ∀ x ∈ (RT P.length t).set i y, x.ok S) (hT : S[P.length + 1]? = some (.lst (((RT P.length t).set i y).map It.e))) (hy : y.i = none ∨ y.i = some (P.length + 2 + i)) : ∃ S1, dfz 60 (.cell (P.length + 1)) S = .ok (.lst ((Rw t).set i y.f)) S1 ∧ Dy S S1 ∧ ∀ n, n < P.length → S1[n]? = S[n]? := by
  have sb := set_i P.length t hi hy
  obtain ⟨S1, a, b, c⟩ := items_cell hT ok ((RT_nd P.length t).sublist sb) fun z => by have := RT_ge (sb.mem z); omega
  rw [List.map_set, RT_f] at a
  exact ⟨S1, a, b, fun n hn => c n (by omega) fun z => by have := RT_ge (sb.mem z); omega⟩
theorem S8_len (P : Store) (σ : Sg) (t : Tb) (R : Store) : (S8 P σ t R).length = P.length + 2 + t.length + R.length := by simp [S8, rowsS]; omega
theorem S8_pre (P : Store) (σ : Sg) (t : Tb) (R : Store) {n : Nat} (h : n < P.length) : (S8 P σ t R)[n]? = P[n]? := List.getElem?_append_left h
theorem gd_set {t : Tb} {w i : Nat} {y : D} (h : ∀ r ∈ t, r.length = w ∧ ∀ x ∈ r, x.natAbs ≤ 2) (hw : w ≤ 3) (ht : t.length ≤ 3) (hy : Gr y) : Gd (.lst ((Rw t).set i y)) := gd_lst (by simp [Rw]; omega) fun x hx => by
  rcases List.mem_or_eq_of_mem_set hx with q | q
  · exact gr_row h hw x q
  · rw [q]; exact hy
theorem gd_int (n : Int) : Gd (.int n) := ⟨⟨trivial, fun l e => (by cases e)⟩, fun l e => (by cases e), ⟨.int n, fun S => by simp [toP]⟩, fun k => rfl⟩
theorem gd_non : Gd .non := ⟨⟨trivial, fun l e => (by cases e)⟩, fun l e => (by cases e), ⟨.none, fun S => by simp [toP]⟩, fun k => rfl⟩
theorem gd_str (s : PySem.Str) (h : PySem.PyData.canLay0 (.str s) = true) : Gd (.str s) := ⟨⟨trivial, fun l e => (by cases e)⟩, fun l e => (by cases e), ⟨.str s, fun S => str_toP s h S _⟩, fun k => rfl⟩
theorem dl_at {l : List D} {k : Nat} {x : D} (h : l[k]? = some x) (S : Store) : dIx (.lst l) (.int (k : Int)) S = .ok x S := by simp only [dIx, getQ_lst, atI_nat h]
theorem thing_ok {σ : Sg} (h : SgOk 0 σ) : ∃ o : Option D, (∀ d, o = some d → Gd d) ∧ ∀ P : Store, (P.all fun c => c.under P.length) = true → Ens (F__law_thing [.cell P.length] (P ++ [lfs σ])) fun d S' => Pst15 P o d S' := by
  have w3 := drw_in σ (b := 3) (by decide)
  have h3 := drw_in (nxt σ 3) (b := 3) (by decide)
  obtain ⟨w, hw⟩ : ∃ w : Nat, 1 + drw σ 3 = (w : Int) := ⟨_, (Int.toNat_of_nonneg (by omega)).symm⟩
  obtain ⟨hh, hhv⟩ : ∃ w : Nat, 1 + drw (nxt σ 3) 3 = (w : Int) := ⟨_, (Int.toNat_of_nonneg (by omega)).symm⟩
  have pre := @pre15 σ h w hh
  have g2 := (h.nxt 3).nxt 3
  obtain ⟨tl, tr, tg⟩ := tabP_ok (w := w) hh g2
  have tg : SgOk 100 (tabP w hh (nxt (nxt σ 3) 3)).2 := tg.mono (by
    have : (hh : Int) * w ≤ 3 * 3 := Int.mul_le_mul (by omega) (by omega) (by omega) (by omega)
    omega)
  generalize tabP w hh (nxt (nxt σ 3) 3) = τ at *
  obtain ⟨t, τ2⟩ := τ
  simp only at tl tr tg pre
  have gi := drw_in τ2 (b := (hh : Int)) (by omega)
  obtain ⟨i, hi⟩ : ∃ i : Nat, drw τ2 hh = (i : Int) := ⟨_, (Int.toNat_of_nonneg gi.1).symm⟩
  have hil : i < t.length := by omega
  have tg2 := tg.nxt hh
  have gc := drw_in (nxt τ2 hh) (b := 18) (by decide)
  obtain ⟨ch, hc⟩ : ∃ i : Nat, drw (nxt τ2 hh) 18 = (i : Int) := ⟨_, (Int.toNat_of_nonneg gc.1).symm⟩
  have tg3 := tg2.nxt 18
  have pre := fun P Q => @pre i ch hw hhv hi hc P Q
  generalize nxt (nxt τ2 hh) 18 = σ5 at *
  have ww : w ≤ 3 := by omega
  have tt : t.length ≤ 3 := by omega
  have gD : (t.getD i []) = t[i] := by rw [List.getD_eq_getElem?_getD, List.getElem?_eq_getElem hil]; rfl
  have rl : (t[i]).length = w := (tr _ (List.getElem_mem hil)).1
  have nocase : ∀ (P : Store) (hP : (P.all fun c => c.under P.length) = true) (o : Option D) (_ : ∀ v6, EnsO (rest15 [some (.cell P.length), some (.cell (P.length + 1)), some (.int (w : Int)), some (.int (i : Int)), some (.int (ch : Int)), some (.lst (BL P.length w i t)), v6] (S8 P σ5 t [])) { nx := fun _ S' => Ens (fin true (P ++ [lfs σ]).length .non S') fun d S' => Pst15 P o d S', rt := fun d S' => Ens (fin true (P ++ [lfs σ]).length d S') fun d S' => Pst15 P o d S' }), Ens (F__law_thing [.cell P.length] (P ++ [lfs σ])) fun d S' => Pst15 P o d S' := fun P hP o hrest => by
    refine ens_fn rfl ?_
    simp only [List.map_cons, List.map_nil, List.replicate, List.cons_append, List.nil_append]
    exact pre P _ hrest
  by_cases c1 : ch < 11
  · obtain ⟨y, hy⟩ : ∃ y, (BLf w i t)[ch]? = some y := ⟨(BLf w i t)[ch]'c1, List.getElem?_eq_getElem c1⟩
    refine ⟨some y, fun d e => by cases e; exact BLf_good tr ww tt hil _ (List.mem_of_getElem? hy), fun P hP => nocase P hP _ fun v6 => ?_⟩
    obtain ⟨x, y', S1, hx, hy', e, dy, ot⟩ := BL_lent (P := P) (σ := σ5) (w := w) hil ch c1
    rw [hy] at hy'
    cases hy'
    have dc : decide ((ch : Int) < 11) = true := decide_eq_true (by omega)
    unfold rest15
    refine ens_sq (fun e S' => False) (fun R hR => ?_) (fun e S' h => h.elim)
    simp only [yIf_app, xIsT_app, xOp_app, xC_app, xVar_app, List.getElem?_cons_zero, List.getElem?_cons_succ, Res.bind_ok, dLt_ok, dc, if_true, yRet_app, xDfz_app, dl_at hx, e, enso_out, ens_ok, enso_rt]
    exact fin15 hP (σ := σ5) (t := t) rfl (S8_under hP σ5 t) (fun n hn => rfl) dy ot
  have d1 : decide ((ch : Int) < 11) = false := decide_eq_false (by omega)
  have step1 : ∀ (P : Store) (v6 : Option D) (Q : Pst) (rest : Dv.Env → Store → Out), EnsO (rest [some (.cell P.length), some (.cell (P.length + 1)), some (.int (w : Int)), some (.int (i : Int)), some (.int (ch : Int)), some (.lst (BL P.length w i t)), v6] (S8 P σ5 t [])) Q → EnsO (ySeq (yIf (xIsT (xOp dLt (xVar 4) (xC (.int 11)))) (yRet (xDfz (xOp dIx (xVar 5) (xVar 4)))) yNil) rest [some (.cell P.length), some (.cell (P.length + 1)), some (.int (w : Int)), some (.int (i : Int)), some (.int (ch : Int)), some (.lst (BL P.length w i t)), v6] (S8 P σ5 t [])) Q := fun P v6 Q rest hr => by
    refine ens_sq (fun e S' => S' = S8 P σ5 t [] ∧ e = [some (.cell P.length), some (.cell (P.length + 1)), some (.int (w : Int)), some (.int (i : Int)), some (.int (ch : Int)), some (.lst (BL P.length w i t)), v6]) (fun R hR => ?_) ?_
    · simp only [yIf_app, xIsT_app, xOp_app, xC_app, xVar_app, List.getElem?_cons_zero, List.getElem?_cons_succ, Res.bind_ok, dLt_ok, d1, Bool.false_eq_true, if_false, enso_out, ens_ok, yNil_app, enso_nx]
      exact hR _ _ ⟨rfl, rfl⟩
    · rintro e S' ⟨rfl, rfl⟩
      exact hr
  by_cases c2 : ch < 15
  · have gj := drw_in σ5 (b := (w : Int)) (by omega)
    obtain ⟨j, hj⟩ : ∃ i : Nat, drw σ5 w = (i : Int) := ⟨_, (Int.toNat_of_nonneg gj.1).symm⟩
    obtain ⟨X, hX, gX⟩ : ∃ X, ([D.bl true, .str "1", .non, .tup [.int 1]])[ch - 11]? = some X ∧ Ge X := by
      rcases (show ch - 11 = 0 ∨ ch - 11 = 1 ∨ ch - 11 = 2 ∨ ch - 11 = 3 by omega) with e | e | e | e
      · rw [e]; exact ⟨_, rfl, ge_bl true⟩
      · rw [e]; exact ⟨_, rfl, ge_str "1" (by decide +kernel)⟩
      · rw [e]; exact ⟨_, rfl, ge_non⟩
      · rw [e]; exact ⟨_, rfl, ge_tup1⟩
    have gl : Gr (.lst ((t[i].map D.int).set j X)) := gr_lst (by rw [List.length_set, List.length_map]; omega) fun y hy => by
      rcases List.mem_or_eq_of_mem_set hy with q | q
      · obtain ⟨x, hx, rfl⟩ := List.mem_map.mp q
        have := (tr _ (List.getElem_mem hil)).2 x hx
        exact ge_int (by unfold K30; omega)
      · rw [q]; exact gX
    refine ⟨some (.lst ((Rw t).set i (.lst ((t[i].map D.int).set j X)))), fun d e => by cases e; exact gd_set tr ww tt gl, fun P hP => nocase P hP _ fun v6 => ?_⟩
    unfold rest15
    refine step1 P v6 _ _ ?_
    have d2 : decide ((ch : Int) < 15) = true := decide_eq_true (by omega)
    have cT := S8_T P (nxt σ5 w) t []
    have cR := S8_row P (nxt σ5 w) t [] hil
    have ix := dc_ix (S8_T P σ5 t []) (CT_get (c := P.length) hil)
    have dr := S8_draw (P := P) (t := t) (R := []) tg3 (show (0 : Int) < w by omega) (by omega) (by omega)
    rw [hj] at dr
    have iv : dIx (.lst [D.bl true, .str "1", .non, .tup [.int 1]]) (.int ((ch : Int) - 11)) (S8 P σ5 t []) = .ok X (S8 P σ5 t []) := by
      have := dl_at hX (S8 P σ5 t [])
      rwa [Int.natCast_sub (by omega)] at this
    have hjl : j < (t[i].map D.int).length := by rw [List.length_map]; omega
    have st : setL (.cell (P.length + 2 + i)) (.int (j : Int)) X (S8 P (nxt σ5 w) t []) = .ok () ((S8 P (nxt σ5 w) t []).set (P.length + 2 + i) (.lst ((t[i].map D.int).set j X))) := by
      unfold setL
      simp only [cR, ixN_nat hjl]
    refine ens_sq (fun e S' => S' = (S8 P (nxt σ5 w) t []).set (P.length + 2 + i) (.lst ((t[i].map D.int).set j X)) ∧ e = [some (.cell P.length), some (.cell (P.length + 1)), some (.int (w : Int)), some (.int (i : Int)), some (.int (ch : Int)), some (.lst (BL P.length w i t)), v6]) (fun R hR => ?_) ?_
    · simp only [yIf_app, xIsT_app, xOp_app, xLst_app, xTup_app, xFn_app, xCons_app, xNil_app, xC_app, xVar_app, List.getElem?_cons_zero, List.getElem?_cons_succ, Res.bind_ok, dLt_ok, d2, if_true, ySub_app, List.length_cons, List.length_nil, if_pos (show 0 + 1 ≤ 1000 by decide), if_pos (show 0 + 1 + 1 + 1 + 1 ≤ 1000 by decide), mkF_app, dSub_ok, iv, ix, dr, st, enso_out, ens_ok, enso_nx]
      exact hR _ _ ⟨rfl, rfl⟩
    rintro e S' ⟨rfl, rfl⟩
    have kl := (List.getElem?_eq_some_iff.mp cR).1
    have u8 := S8_under hP (nxt σ5 w) t
    have okk : ∀ x ∈ (RT P.length t).set i (.c (P.length + 2 + i) ((t[i].map D.int).set j X)), x.ok ((S8 P (nxt σ5 w) t []).set (P.length + 2 + i) (.lst ((t[i].map D.int).set j X))) := fun x hx => by
      obtain ⟨n, hn, rfl⟩ := List.getElem_of_mem hx
      by_cases q : i = n
      · subst q
        rw [List.getElem_set_self]
        exact ⟨List.getElem?_set_self kl, List.all_eq_true.mpr fun y hy => by
          rcases List.mem_or_eq_of_mem_set hy with q | q
          · exact List.all_eq_true.mp (clr_ints50 _) y q
          · rw [q]; exact gX.c⟩
      · rw [List.getElem_set_ne q]
        have nl : n < t.length := by rw [List.length_set, RT_len] at hn; exact hn
        have := RT_ok P (nxt σ5 w) t _ (List.getElem_mem (show n < (RT P.length t).length by rw [RT_len]; exact nl))
        have e : (RT P.length t)[n]'(by rw [RT_len]; exact nl) = .c (P.length + 2 + n) ((t.getD n []).map D.int) := by simp [RT]
        rw [e] at this ⊢
        exact ⟨by rw [List.getElem?_set_ne (by omega)]; exact this.1, this.2⟩
    obtain ⟨S1, e1, dy, ot⟩ := tab_lent (P := P) (t := t) hil okk (by
      rw [RT_set_e hil, List.getElem?_set_ne (by omega)]; exact cT) (.inr rfl)
    have d5 : decide ((ch : Int) = 15) = false := decide_eq_false (by omega)
    have d6 : decide ((ch : Int) = 16) = false := decide_eq_false (by omega)
    simp only [ySeq_app, yIf_app, xIsT_app, xOp_app, xC_app, xVar_app, List.getElem?_cons_zero, List.getElem?_cons_succ, Res.bind_ok, dEq_int, d5, d6, Bool.false_eq_true, if_false, Res.out_ok, yNil_app, Out.seq_nx, yRet_app, xDfz_app, e1, enso_out, ens_ok, enso_rt]
    refine fin15 hP (σ := nxt σ5 w) (t := t) (by rw [List.length_set]) (by rw [List.length_set]; exact all_set_under u8 (by
      rw [Cn.under]
      exact underL_of fun y hy => (by
        rcases List.mem_or_eq_of_mem_set hy with q | q
        · obtain ⟨x, _, rfl⟩ := List.mem_map.mp q; rfl
        · rw [q]; exact gX.u _))) (fun n hn => List.getElem?_set_ne (by omega)) dy ot
  have d2 : decide ((ch : Int) < 15) = false := decide_eq_false (by omega)
  by_cases c3 : ch = 15
  · have gr4 := drw_in σ5 (b := 4) (by decide)
    obtain ⟨r, hr⟩ : ∃ i : Nat, drw σ5 4 = (i : Int) := ⟨_, (Int.toNat_of_nonneg gr4.1).symm⟩
    obtain ⟨Y, hY, gY⟩ : ∃ Y, ([D.tup (t[i].map D.int), .non, .int 7, .str "12"])[r]? = some Y ∧ Gr Y := by
      rcases (show r = 0 ∨ r = 1 ∨ r = 2 ∨ r = 3 by omega) with e | e | e | e
      · rw [e]
        refine ⟨_, rfl, gr_tup (by rw [List.length_map]; omega) fun y hy => ?_⟩
        obtain ⟨x, hx, rfl⟩ := List.mem_map.mp hy
        have := (tr _ (List.getElem_mem hil)).2 x hx
        exact ge_int (by unfold K30; omega)
      · rw [e]; exact ⟨_, rfl, ge_non.gr (fun l e => by cases e) fun l e => by cases e⟩
      · rw [e]; exact ⟨_, rfl, (ge_int (i := 7) (by unfold K30; decide)).gr (fun l e => by cases e) fun l e => by cases e⟩
      · rw [e]; exact ⟨_, rfl, (ge_str "12" (by decide +kernel)).gr (fun l e => by cases e) fun l e => by cases e⟩
    refine ⟨some (.lst ((Rw t).set i Y)), fun d e => by cases e; exact gd_set tr ww tt gY, fun P hP => nocase P hP _ fun v6 => ?_⟩
    unfold rest15
    refine step1 P v6 _ _ ?_
    have cT := S8_T P (nxt σ5 4) t []
    have cR := S8_row P σ5 t [] hil
    have ix := dc_ix (S8_T P σ5 t []) (CT_get (c := P.length) hil)
    have dr := S8_draw (P := P) (t := t) (R := []) tg3 (show (0 : Int) < 4 by decide) (by decide) (by omega)
    rw [hr] at dr
    have iv := dl_at hY (S8 P (nxt σ5 4) t [])
    have bt : bTuple [.cell (P.length + 2 + i)] (S8 P σ5 t []) = .ok (.tup (t[i].map D.int)) (S8 P σ5 t []) := by simp [bTuple, getQ, getL, cR]
    have st : setL (.cell (P.length + 1)) (.int (i : Int)) Y (S8 P (nxt σ5 4) t []) = .ok () ((S8 P (nxt σ5 4) t []).set (P.length + 1) (.lst ((CT P.length t.length).set i Y))) := by
      unfold setL
      simp only [cT, ixN_nat (show i < (CT P.length t.length).length by rw [CT_len]; exact hil)]
    have d5 : decide ((ch : Int) = 15) = true := decide_eq_true (by omega)
    have d6 : decide ((ch : Int) = 16) = false := decide_eq_false (by omega)
    refine ens_sq (fun e S' => S' = S8 P σ5 t [] ∧ e = [some (.cell P.length), some (.cell (P.length + 1)), some (.int (w : Int)), some (.int (i : Int)), some (.int (ch : Int)), some (.lst (BL P.length w i t)), v6]) (fun R hR => ?_) ?_
    · simp only [yIf_app, xIsT_app, xOp_app, xC_app, xVar_app, List.getElem?_cons_zero, List.getElem?_cons_succ, Res.bind_ok, dLt_ok, d2, Bool.false_eq_true, if_false, enso_out, ens_ok, yNil_app, enso_nx]
      exact hR _ _ ⟨rfl, rfl⟩
    rintro e S' ⟨rfl, rfl⟩
    refine ens_sq (fun e S' => S' = (S8 P (nxt σ5 4) t []).set (P.length + 1) (.lst ((CT P.length t.length).set i Y)) ∧ e = [some (.cell P.length), some (.cell (P.length + 1)), some (.int (w : Int)), some (.int (i : Int)), some (.int (ch : Int)), some (.lst (BL P.length w i t)), v6]) (fun R hR => ?_) ?_
    · simp only [yIf_app, xIsT_app, xOp_app, xLst_app, xTup_app, xFn_app, xCons_app, xNil_app, xC_app, xVar_app, List.getElem?_cons_zero, List.getElem?_cons_succ, Res.bind_ok, dEq_int, d5, if_true, ySub_app, ix, bt, List.length_cons, List.length_nil, if_pos (show 0 + 1 + 1 + 1 + 1 ≤ 1000 by decide), mkF_app, dr, iv, st, enso_out, ens_ok, enso_nx]
      exact hR _ _ ⟨rfl, rfl⟩
    rintro e S' ⟨rfl, rfl⟩
    have kl := (List.getElem?_eq_some_iff.mp cT).1
    have u8 := S8_under hP (nxt σ5 4) t
    have okk : ∀ x ∈ (RT P.length t).set i (.d Y), x.ok ((S8 P (nxt σ5 4) t []).set (P.length + 1) (.lst ((CT P.length t.length).set i Y))) := fun x hx => by
      rcases List.mem_or_eq_of_mem_set hx with q | q
      · have := RT_ok P (nxt σ5 4) t x q
        obtain ⟨n, hn, rfl⟩ := List.mem_map.mp q
        exact ⟨by rw [List.getElem?_set_ne (by omega)]; exact this.1, this.2⟩
      · rw [q]; exact gY.c
    obtain ⟨S1, e1, dy, ot⟩ := tab_lent (P := P) (t := t) hil okk (by
      rw [List.map_set, RT_e, List.getElem?_set_self kl]; rfl) (.inl rfl)
    simp only [ySeq_app, yIf_app, xIsT_app, xOp_app, xC_app, xVar_app, List.getElem?_cons_zero, List.getElem?_cons_succ, Res.bind_ok, dEq_int, d6, Bool.false_eq_true, if_false, Res.out_ok, yNil_app, Out.seq_nx, yRet_app, xDfz_app, e1, enso_out, ens_ok, enso_rt]
    refine fin15 hP (σ := nxt σ5 4) (t := t) (by rw [List.length_set]) (by rw [List.length_set]; exact all_set_under u8 (by
      rw [Cn.under]
      exact underL_of fun y hy => (by
        rcases List.mem_or_eq_of_mem_set hy with q | q
        · obtain ⟨n, hn, rfl⟩ := List.mem_map.mp q
          have := List.mem_range.mp hn
          rw [D.under, S8_len]
          exact decide_eq_true (by simp; omega)
        · rw [q]; exact gY.u _))) (fun n hn => List.getElem?_set_ne (by omega)) dy ot
  have d5 : decide ((ch : Int) = 15) = false := decide_eq_false (by omega)
  have step2 : ∀ (P : Store) (v6 : Option D) (Q : Pst) (rest : Dv.Env → Store → Out) (y1 y2 : Dv.Env → Store → Out), EnsO (rest [some (.cell P.length), some (.cell (P.length + 1)), some (.int (w : Int)), some (.int (i : Int)), some (.int (ch : Int)), some (.lst (BL P.length w i t)), v6] (S8 P σ5 t [])) Q → EnsO (ySeq (yIf (xIsT (xOp dLt (xVar 4) (xC (.int 15)))) y1 yNil) (ySeq (yIf (xIsT (xOp dEq (xVar 4) (xC (.int 15)))) y2 yNil) rest) [some (.cell P.length), some (.cell (P.length + 1)), some (.int (w : Int)), some (.int (i : Int)), some (.int (ch : Int)), some (.lst (BL P.length w i t)), v6] (S8 P σ5 t [])) Q := fun P v6 Q rest y1 y2 hr => by
    simp only [ySeq_app, yIf_app, xIsT_app, xOp_app, xC_app, xVar_app, List.getElem?_cons_zero, List.getElem?_cons_succ, Res.bind_ok, dLt_ok, dEq_int, d2, d5, Bool.false_eq_true, if_false, Res.out_ok, yNil_app, Out.seq_nx]
    exact hr
  by_cases c4 : ch = 16
  · have gr4 := drw_in σ5 (b := 4) (by decide)
    obtain ⟨r, hr⟩ : ∃ i : Nat, drw σ5 4 = (i : Int) := ⟨_, (Int.toNat_of_nonneg gr4.1).symm⟩
    have d6 : decide ((ch : Int) = 16) = true := decide_eq_true (by omega)
    have run : ∀ (o : Option D) (x : Nat → D) (hx : ∀ L, ([D.non, .int 5, .str "", .cell L])[r]? = some (x L)) (ho : ∀ P : Store, (P.all fun c => c.under P.length) = true → Pst15 P o (x (P.length + 2 + t.length)) (S8 P (nxt σ5 4) t [.dct []])), ∀ P : Store, (P.all fun c => c.under P.length) = true → Ens (F__law_thing [.cell P.length] (P ++ [lfs σ])) fun d S' => Pst15 P o d S' := fun o x hx ho P hP => nocase P hP _ fun v6 => by
      unfold rest15
      refine step1 P v6 _ _ ?_
      refine step2 P v6 _ _ _ _ ?_
      have L := S8_len P σ5 t []
      have dr := S8_draw (P := P) (t := t) (R := [.dct []]) tg3 (show (0 : Int) < 4 by decide) (by decide) (by omega)
      rw [hr] at dr
      have e8 : S8 P σ5 t [] ++ [.dct []] = S8 P σ5 t [.dct []] := by simp [S8]
      have iv := dl_at (hx (P.length + 2 + t.length)) (S8 P (nxt σ5 4) t [.dct []])
      have xd : ∀ e : Dv.Env, xDct0 e (S8 P σ5 t []) = .ok (.cell (P.length + 2 + t.length)) (S8 P σ5 t [.dct []]) := fun e => by
        show Res.ok _ _ = _
        rw [e8, L]; rfl
      refine ens_sq (fun e S' => False) (fun R hR => ?_) (fun e S' h => h.elim)
      simp only [yIf_app, xIsT_app, xOp_app, xLst_app, xFn_app, xCons_app, xNil_app, xC_app, xVar_app, List.getElem?_cons_zero, List.getElem?_cons_succ, Res.bind_ok, dEq_int, d6, if_true, yRet_app, xd, List.length_cons, List.length_nil, if_pos (show 0 + 1 + 1 + 1 + 1 ≤ 1000 by decide), mkF_app, dr, iv, enso_out, ens_ok, enso_rt, fin_kp]
      exact ho P hP
    have und : ∀ P : Store, (P.all fun c => c.under P.length) = true → ((S8 P (nxt σ5 4) t [.dct []]).all fun c => c.under (S8 P (nxt σ5 4) t [.dct []]).length) = true := fun P hP => by
      have u := S8_under hP (nxt σ5 4) t
      have e8 : S8 P (nxt σ5 4) t [.dct []] = S8 P (nxt σ5 4) t [] ++ [.dct []] := by simp [S8]
      rw [e8, List.all_append, Bool.and_eq_true]
      rw [List.all_eq_true] at u
      exact ⟨List.all_eq_true.mpr fun x hx => cn_under_mono (by simp) (u x hx), rfl⟩
    rcases (show r = 0 ∨ r = 1 ∨ r = 2 ∨ r = 3 by omega) with rfl | rfl | rfl | rfl
    · exact ⟨some .non, fun d e => by cases e; exact gd_non, run _ (fun _ => .non) (fun _ => rfl) fun P hP => ⟨_, rfl, und P hP, rfl⟩⟩
    · exact ⟨some (.int 5), fun d e => by cases e; exact gd_int 5, run _ (fun _ => .int 5) (fun _ => rfl) fun P hP => ⟨_, rfl, und P hP, rfl⟩⟩
    · exact ⟨some (.str ""), fun d e => by cases e; exact gd_str "" (by decide +kernel), run _ (fun _ => .str "") (fun _ => rfl) fun P hP => ⟨_, rfl, und P hP, rfl⟩⟩
    · refine ⟨none, fun d e => (by cases e), run none (fun L => .cell L) (fun _ => rfl) fun P hP => ⟨_, rfl, und P hP, P.length + 2 + t.length, rfl, ?_⟩⟩
      have e8 : S8 P (nxt σ5 4) t [.dct []] = S8 P (nxt σ5 4) t [] ++ [.dct []] := by simp [S8]
      rw [e8, List.getElem?_append_right (by rw [S8_len]; simp), S8_len]
      simp
  · have d6 : decide ((ch : Int) = 16) = false := decide_eq_false (by omega)
    refine ⟨some (.lst (Rw t)), fun d e => by cases e; exact gd_lst (by simp [Rw]; omega) (gr_row tr ww), fun P hP => nocase P hP _ fun v6 => ?_⟩
    unfold rest15
    refine step1 P v6 _ _ ?_
    refine step2 P v6 _ _ _ _ ?_
    obtain ⟨S1, e1, dy, ot⟩ := items_cell (is := RT P.length t) (by rw [RT_e]; exact S8_T P σ5 t []) (RT_ok P σ5 t) (RT_nd P.length t) fun z => by have := RT_ge z; omega
    rw [RT_f] at e1
    simp only [ySeq_app, yIf_app, xIsT_app, xOp_app, xC_app, xVar_app, List.getElem?_cons_zero, List.getElem?_cons_succ, Res.bind_ok, dEq_int, d6, Bool.false_eq_true, if_false, Res.out_ok, yNil_app, Out.seq_nx, yRet_app, xDfz_app, e1, enso_out, ens_ok, enso_rt]
    exact fin15 hP (σ := σ5) (t := t) rfl (S8_under hP σ5 t) (fun n hn => rfl) dy fun n hn => ot n (by omega) fun z => by have := RT_ge z; omega
theorem irange_succ {k : Int} {n : Nat} : irange k (n + 1) = .int k :: irange (k + 1) n := by
  unfold irange
  rw [List.range_succ_eq_map, List.map_cons, List.map_map]
  congr 1
  · simp
  · apply List.map_congr_left
    intro i _
    simp
    omega
theorem lc_rng15 {α : Type} {g : D → Dv.Env → Option Dv.Env} {f : Dv.Env → M D} {e0 : Dv.Env} {S : Store} (ψ : α → D) : ∀ (L : List α) (k : Int) (acc : List D), (∀ (i : Nat) (hi : i < L.length), ∃ e1, g (.int (k + i)) e0 = some e1 ∧ f e1 S = .ok (ψ L[i]) S) → acc.length + L.length ≤ 16000000 → lcL (fun _ => True) g cYes f e0 (irange k L.length) acc S = .ok (acc ++ L.map ψ) S
  | [], k, acc, _, _ => by
    show lcL (fun _ => True) g cYes f e0 [] acc S = _
    rw [lcL, if_pos trivial]
    simp
  | a :: L, k, acc, h, hl => by
    obtain ⟨e1, h1, h2⟩ := h 0 (by simp)
    rw [List.length_cons] at hl
    rw [List.length_cons, irange_succ, lcL, if_pos trivial]
    simp at h1 h2
    simp only [h1, cYes, h2]
    rw [if_pos (by omega), lc_rng15 ψ L (k + 1) _ (fun i hi => by
      obtain ⟨e2, q1, q2⟩ := h (i + 1) (by simpa using hi)
      refine ⟨e2, ?_, by simpa using q2⟩
      rw [← q1]
      congr 2
      omega) (by rw [List.length_append, List.length_singleton]; omega)]
    simp
/-! ### the law -/
theorem rows_of {w : Nat} : ∀ {L : List D}, (∀ x ∈ L, ∃ zs : List Int, x = .lst (zs.map D.int) ∧ zs.length = w ∧ ∀ z ∈ zs, z.natAbs ≤ K30) → ∃ t : Tb, L = t.map (fun r => D.lst (r.map D.int)) ∧ (∀ r ∈ t, r.length = w) ∧ ∀ r ∈ t, ∀ x ∈ r, x.natAbs ≤ K30
  | [], _ => ⟨[], rfl, by simp, by simp⟩
  | x :: L, h => by
    obtain ⟨zs, rfl, h1, h2⟩ := h x (by simp)
    obtain ⟨t, rfl, t1, t2⟩ := rows_of (L := L) fun y hy => h y (by simp [hy])
    refine ⟨zs :: t, rfl, fun r hr => ?_, fun r hr => ?_⟩
    · rcases List.mem_cons.mp hr with e | e
      · rw [e]; exact h1
      · exact t1 r e
    · rcases List.mem_cons.mp hr with e | e
      · rw [e]; exact h2
      · exact t2 r e
theorem tab_of {d : D} (h : Gd d) (it : isTab d = true) : ∃ hh w t, TbG hh w K30 t ∧ d = tbD t := by
  have hz := h.z
  cases d with
  | lst l =>
    cases l with
    | nil => cases it
    | cons r l =>
      obtain ⟨h1, h2⟩ := (isTab_iff r l).mp it
      obtain ⟨r0, rfl, k1, k2, _, _⟩ := h2 r (by simp)
      obtain ⟨t, e, t1, t2⟩ := rows_of (w := r0.length) (L := .lst r0 :: l) fun x hx => by
        obtain ⟨rd, rfl, _, _, q, r1, e, e2⟩ := h2 x hx
        cases e
        obtain ⟨zs, rfl⟩ := ints_of q
        refine ⟨zs, rfl, by simpa using e2, fun z hzz => hz _ rfl _ hx z (List.mem_map.mpr ⟨z, hzz, rfl⟩)⟩
      refine ⟨l.length + 1, r0.length, t, ⟨?_, t1, t2, by omega, h1, k1, k2⟩, by unfold tbD; rw [e]⟩
      have := congrArg List.length e
      simpa using this.symm
  | _ => cases it
theorem refused_ok {d : D} {S : Store} (hm : F_must_be_table [d] S = .exc ⟨"NoTable", none⟩ S) {k : Nat} (hk : k < 4) : F__law_refused [d, .int (k : Int)] S = .ok (.bl true) S := by
  have e0 : F_table_worth [d] S = .exc ⟨"NoTable", none⟩ S := by
    refine fn_exc (e := [some d]) rfl ?_
    unfold b_table_worth
    simp only [List.map_cons, List.map_nil, List.replicate, List.cons_append, List.nil_append, ySeq_app, yExpr_app, xFn_app, xCons_app, xNil_app, xVar_app, List.getElem?_cons_zero, List.getElem?_cons_succ, Res.bind_ok, hm]
    rfl
  have e1 : F_table_judged [d, fr 0, .lst [], .non] S = .exc ⟨"NoTable", none⟩ S := by
    refine fn_exc (e := [some d, some (fr 0), some (.lst []), some .non, none, none, none, none]) rfl ?_
    unfold b_table_judged
    simp only [List.map_cons, List.map_nil, List.replicate, List.cons_append, List.nil_append, ySeq_app, yExpr_app, xFn_app, xCons_app, xNil_app, xVar_app, List.getElem?_cons_zero, List.getElem?_cons_succ, Res.bind_ok, hm]
    rfl
  have e2 : F_best_rows [d, .lst []] S = .exc ⟨"NoTable", none⟩ S := by
    refine fn_exc (e := [some d, some (.lst []), none, none]) rfl ?_
    unfold b_best_rows
    simp only [List.map_cons, List.map_nil, List.replicate, List.cons_append, List.nil_append, ySeq_app, yExpr_app, xFn_app, xCons_app, xNil_app, xVar_app, List.getElem?_cons_zero, List.getElem?_cons_succ, Res.bind_ok, hm]
    rfl
  have e3 : F_best_columns [d, .lst [.int (-1)]] S = .exc ⟨"NoTable", none⟩ S := by
    refine fn_exc (e := [some d, some (.lst [.int (-1)]), none, none]) rfl ?_
    unfold b_best_columns
    simp only [List.map_cons, List.map_nil, List.replicate, List.cons_append, List.nil_append, ySeq_app, yExpr_app, xFn_app, xCons_app, xNil_app, xVar_app, List.getElem?_cons_zero, List.getElem?_cons_succ, Res.bind_ok, hm]
    rfl
  rw [← ens_eq]
  refine ens_fn rfl ?_
  unfold b__law_refused
  simp only [List.map_cons, List.map_nil, List.replicate, List.cons_append, List.nil_append]
  refine ens_sq (fun e S' => S' = S ∧ e = [some d, some (.int (k : Int)), some .non, none]) (fun R hR => ?_) ?_
  · simp
    exact hR _ _ ⟨rfl, rfl⟩
  rintro e S' ⟨rfl, rfl⟩
  refine ens_sq (fun e S2 => S2 = S' ∧ e = [some d, some (.int (k : Int)), some (.exn "NoTable" none), none]) (fun R hR => ?_) ?_
  · refine enso_try2 ⟨"NoTable", none⟩ (by simp) (.inr ⟨none, rfl, ?_, hR _ _ ⟨rfl, rfl⟩⟩)
    rcases (show k = 0 ∨ k = 1 ∨ k = 2 ∨ k = 3 by omega) with rfl | rfl | rfl | rfl
    · simp [e0]
    · simp [e1]
    · simp [e2]
    · simp [e3]
  rintro e S2 ⟨rfl, rfl⟩
  simp
abbrev E15 (ns : List Int) (c : Int) (r : List (Option D)) : Dv.Env := some (.scr (ns.map D.int)) :: some (.int c) :: r
theorem law_true : LawTrue F_law := by
  intro ns hl hb
  have h : Ens (F_law [.scr (ns.map D.int)] []) fun d _ => d = .bl true := by
    refine ens_fn rfl ?_
    unfold b_law
    simp only [List.map_cons, List.map_nil, List.replicate, List.cons_append, List.nil_append]
    refine ens_sq (fun e S' => ∃ x r, e = x :: r) (fun R hR => ?_) ?_
    · have sl : slD mkF (.scr (ns.map D.int)) none (some 63) [] = .ok (.lst (ns.map D.int)) [] := by
        unfold slD
        simp
        have e1 : HT.sIx ns.length ns.length (some 63) = ns.length := by
          have := sIx_n (n := ns.length) (d := ns.length) (k := 63)
          rw [show (((63 : Nat) : Int)) = 63 by rfl] at this
          rw [this]
          omega
        have e2 : HT.sIx ns.length 0 none = 0 := rfl
        rw [e1, e2, List.drop_zero, Nat.sub_zero, List.take_of_length_le (by simp)]
      have rgl : ∀ e : Dv.Env, xLstRg1 mkF (xC (.int 18)) e [] = .ok (.lst (((List.range 18).map fun (i : Nat) => (i : Int)).map D.int)) [] := fun e => rfl
      have ad := dl_add (((List.range 18).map fun (i : Nat) => (i : Int)).map D.int) (ns.map D.int) [] (by simp; omega)
      rw [← List.map_append] at ad
      simp only [yFor_app, iSrc_app, xOp_app, xSl_app, oNone_app, oSome_app, xC_app, xVar_app, List.getElem?_cons_zero, List.getElem?_cons_succ, rgl, Res.bind_ok, sl, ad, srcL_lst, enso_out, ens_ok]
      refine ens_fr (fun i e S' => (S'.all fun x => x.under S'.length) = true ∧ ∃ v1 v2 v3 v4, e = [some (.scr (ns.map D.int)), v1, v2, v3, v4]) ⟨rfl, _, _, _, _, rfl⟩ ?_ ?_
      · rintro i d e S' R2 hd ⟨hS, v1, v2, v3, v4, rfl⟩ hR2
        obtain ⟨c, hc, rfl⟩ := List.mem_map.mp (List.mem_of_getElem? hd)
        have cb : Builtin.Int.intBits c ≤ 1048576 := by
          rcases List.mem_append.mp hc with q | q
          · obtain ⟨k, hk, rfl⟩ := List.mem_map.mp q
            have := List.mem_range.mp hk
            rcases (show k = 0 ∨ k = 1 ∨ k = 2 ∨ k = 3 ∨ k = 4 ∨ k = 5 ∨ k = 6 ∨ k = 7 ∨ k = 8 ∨ k = 9 ∨ k = 10 ∨ k = 11 ∨ k = 12 ∨ k = 13 ∨ k = 14 ∨ k = 15 ∨ k = 16 ∨ k = 17 by omega) with rfl | rfl | rfl | rfl | rfl | rfl | rfl | rfl | rfl | rfl | rfl | rfl | rfl | rfl | rfl | rfl | rfl | rfl <;> decide
          · exact hb c q
        obtain ⟨o, og, ot⟩ := thing_ok (lft_ok cb)
        simp only [gN_app, enso_nx, List.set_cons_succ, List.set_cons_zero]
        have lf := left_eq c
        refine ens_sq (fun e S1 => ∃ d1, Pst15 S' o d1 S1 ∧ e = E15 ns c [some d1, v3, v4]) (fun R3 hR3 => ?_) ?_
        · simp only [E15, ySet_app, xFn_app, xLst_app, xCons_app, xNil_app, xC_app, xVar_app, List.getElem?_cons_zero, List.getElem?_cons_succ, Res.bind_ok, List.length_cons, List.length_nil, if_pos (show 0 + 1 ≤ 1000 by decide), mkF_app, lf, enso_out]
          refine (ot S' hS).imp ?_
          intro d S1 hp
          simp only [enso_nx, List.set_cons_succ, List.set_cons_zero]
          exact hR3 _ _ ⟨d, hp, rfl⟩
        rintro e S1 ⟨d1, ⟨X1, x1, u1, p1⟩, rfl⟩
        refine ens_sq (fun e S2 => ∃ d2, Pst15 S1 o d2 S2 ∧ e = E15 ns c [some d1, some d2, v4]) (fun R3 hR3 => ?_) ?_
        · simp only [E15, ySet_app, xFn_app, xLst_app, xCons_app, xNil_app, xC_app, xVar_app, List.getElem?_cons_zero, List.getElem?_cons_succ, Res.bind_ok, List.length_cons, List.length_nil, if_pos (show 0 + 1 ≤ 1000 by decide), mkF_app, lf, enso_out]
          refine (ot S1 u1).imp ?_
          intro d S2 hp
          simp only [enso_nx, List.set_cons_succ, List.set_cons_zero]
          exact hR3 _ _ ⟨d, hp, rfl⟩
        rintro e S2 ⟨d2, ⟨X2, x2, u2, p2⟩, rfl⟩
        have key : (isTab d1 = true ∧ Gd d1 ∨ F_must_be_table [d1] S2 = .exc ⟨"NoTable", none⟩ S2 ∧ isTab d1 = false) ∧ F__law_is_table [d1] S2 = .ok (.bl (isTab d1)) S2 ∧ dNeX d1 d2 S2 = .ok (.bl false) S2 := by
          cases o with
          | some d0 =>
            simp only at p1 p2
            subst p1
            subst p2
            have g := og _ rfl
            refine ⟨?_, is_table_g g.p S2, ?_⟩
            · cases it : isTab d2 with
              | true => exact .inl ⟨rfl, g⟩
              | false =>
                have := tab_g g.p S2
                rw [it, if_neg (by decide)] at this
                exact .inr ⟨this, rfl⟩
            · obtain ⟨p, hp⟩ := g.t
              have ck : cellK d2 S2 = none := by
                have := g.p.1
                cases d2 with
                | cell k => exact this.elim
                | _ => rfl
              rw [dNeX_p ck]
              exact dNe_self (hp S2)
          | none =>
            simp only at p1 p2
            obtain ⟨m1, rfl, q1⟩ := p1
            obtain ⟨m2, rfl, q2⟩ := p2
            have q1' : S2[m1]? = some (.dct []) := by
              rw [x2, List.getElem?_append_left (List.getElem?_eq_some_iff.mp q1).1]; exact q1
            have bi : bIsi [.cell m1, .raw (.ty "list")] S2 = .ok (.bl false) S2 := by simp [bIsi, tyOf, q1']
            refine ⟨.inr ⟨?_, rfl⟩, ?_, ?_⟩
            · refine fn_exc (e := [some (.cell m1), none, none]) rfl ?_
              unfold b_must_be_table
              simp [bi]
            · rw [← ens_eq]
              refine ens_fn rfl ?_
              unfold b__law_is_table
              refine ens_sq (fun e S' => False) (fun R hR => ?_) (fun e S' h => h.elim)
              simp [bi, isTab]
            · unfold dNeX cellK
              simp only [q1', q2]
        obtain ⟨k1, k2, k3⟩ := key
        refine ens_sq (fun e S3 => S3 = S2 ∧ e = E15 ns c [some d1, some d2, v4]) (fun R3 hR3 => ?_) ?_
        · rcases k1 with ⟨it, g⟩ | ⟨hm, it⟩
          · obtain ⟨hh, w, t, ht, rfl⟩ := tab_of g it
            rw [it] at k2
            have kk : K30 ≤ 10000000000000000000000000000000000000000 := by unfold K30; decide
            obtain ⟨x, S3, e, rfl, q, f, hr, rfl⟩ := (table_worth_ok ht kk S2 u2).get
            have bl : ∀ S, bLen [resD t hh w f] S = .ok (.int 3) S := fun S => rfl
            have n3 : ∀ S, dNe (.int 3) (.int 3) S = .ok (.bl false) S := fun S => by simp
            simp only [E15, yIf_app, xTru_app, xIsT_app, xOp_app, xFn_app, xCons_app, xNil_app, xC_app, xVar_app, List.getElem?_cons_zero, List.getElem?_cons_succ, Res.bind_ok, k2, tru_bl, if_true, e, bl, n3, Bool.false_eq_true, if_false, yNil_app, enso_out, ens_ok, enso_nx]
            exact hR3 _ _ ⟨rfl, rfl⟩
          · rw [it] at k2
            have hc : lcL (fun _ => True) (eN 4) cYes (xFn F__law_refused (xCons (xVar 2) (xCons (xVar 4) xNil))) (E15 ns c [some d1, some d2, none]) (irange 0 4) [] S2 = .ok ([] ++ ([true, true, true, true]).map D.bl) S2 := by
              refine lc_rng15 (fun b => D.bl b) [true, true, true, true] 0 [] (fun i hi => ⟨_, rfl, ?_⟩) (by simp)
              have hi : i < 4 := hi
              have := refused_ok hm hi
              simp only [E15, List.set_cons_succ, List.set_cons_zero, xFn_app, xCons_app, xNil_app, xVar_app, List.getElem?_cons_zero, List.getElem?_cons_succ, Res.bind_ok, Int.zero_add, this]
              match i, hi with
              | 0, _ => rfl
              | 1, _ => rfl
              | 2, _ => rfl
              | 3, _ => rfl
            rw [List.nil_append] at hc
            simp only [E15] at hc
            have di : dIn (.bl false) (.lst (([true, true, true, true]).map D.bl)) S2 = .ok (.bl false) S2 := rfl
            simp only [E15, yIf_app, xTru_app, xIsT_app, xOp_app, xFn_app, xLc_app, iSrcA_app, xCons_app, xNil_app, xC_app, xVar_app, List.getElem?_cons_zero, List.getElem?_cons_succ, Res.bind_ok, k2, tru_bl, Bool.false_eq_true, if_false, enso_out, ens_ok, ens_bind, ens_srcR1]
            refine ⟨rng62_of (by decide) (by decide), ?_⟩
            rw [show ((4 : Int)).toNat = 4 by rfl]
            simp only [wipeE_cons, wipeE_nil, List.set_cons_succ, List.set_cons_zero, hc, ens_ok, mkF_app, di, Bool.false_eq_true, if_false, yNil_app, enso_nx]
            exact hR3 _ _ ⟨rfl, rfl⟩
        rintro e S3 ⟨rfl, rfl⟩
        simp only [E15, yIf_app, xIsT_app, xOp_app, xVar_app, List.getElem?_cons_zero, List.getElem?_cons_succ, Res.bind_ok, k3, Bool.false_eq_true, if_false, enso_out, ens_ok, yNil_app, enso_nx]
        exact hR2 _ _ ⟨u2, _, _, _, _, rfl⟩
      · rintro e S' ⟨_, v1, v2, v3, v4, rfl⟩
        exact hR _ _ ⟨_, _, rfl⟩
    rintro e S' ⟨x, r, rfl⟩
    simp only [yRet_app, xC_app, enso_out, ens_ok, enso_rt]
    simp
  obtain ⟨d, S', e, rfl⟩ := h.get
  exact ⟨S', e⟩

end Lw
namespace Lw
open PySem PySem.Spec PyProof.Rows L2 Dv
structure Tx (K : PySem.W.Frag) (mg : Str → Option Value) where
  a_divisor : Addr
  d_divisor : FuncData
  F_divisor : Fun K "divisor" "divisor" s_divisor a_divisor d_divisor
  g_divisor : mg "divisor" = some (.ref a_divisor)
  b_divisor : Binds K d_divisor ["one", "other"] []
  a_ratio : Addr
  d_ratio : FuncData
  F_ratio : Fun K "ratio" "ratio" s_ratio a_ratio d_ratio
  g_ratio : mg "ratio" = some (.ref a_ratio)
  b_ratio : Binds K d_ratio ["top", "bottom"] []
  a_is_number : Addr
  d_is_number : FuncData
  F_is_number : Fun K "is_number" "is_number" s_is_number a_is_number d_is_number
  g_is_number : mg "is_number" = some (.ref a_is_number)
  b_is_number : Binds K d_is_number ["thing"] []
  a_are_numbers : Addr
  d_are_numbers : FuncData
  F_are_numbers : Fun K "are_numbers" "are_numbers" s_are_numbers a_are_numbers d_are_numbers
  g_are_numbers : mg "are_numbers" = some (.ref a_are_numbers)
  b_are_numbers : Binds K d_are_numbers ["thing", "many"] []
  a_are_weights : Addr
  d_are_weights : FuncData
  F_are_weights : Fun K "are_weights" "are_weights" s_are_weights a_are_weights d_are_weights
  g_are_weights : mg "are_weights" = some (.ref a_are_weights)
  b_are_weights : Binds K d_are_weights ["thing", "many"] []
  a_must_be_table : Addr
  d_must_be_table : FuncData
  F_must_be_table : Fun K "must_be_table" "must_be_table" s_must_be_table a_must_be_table d_must_be_table
  g_must_be_table : mg "must_be_table" = some (.ref a_must_be_table)
  b_must_be_table : Binds K d_must_be_table ["table"] []
  a_least_share : Addr
  d_least_share : FuncData
  F_least_share : Fun K "least_share" "least_share" s_least_share a_least_share d_least_share
  g_least_share : mg "least_share" = some (.ref a_least_share)
  b_least_share : Binds K d_least_share ["lines", "enter", "kept"] []
  a_pivoted : Addr
  d_pivoted : FuncData
  F_pivoted : Fun K "pivoted" "pivoted" s_pivoted a_pivoted d_pivoted
  g_pivoted : mg "pivoted" = some (.ref a_pivoted)
  b_pivoted : Binds K d_pivoted ["line", "other", "enter", "last"] []
  a_gone_through : Addr
  d_gone_through : FuncData
  F_gone_through : Fun K "gone_through" "gone_through" s_gone_through a_gone_through d_gone_through
  g_gone_through : mg "gone_through" = some (.ref a_gone_through)
  b_gone_through : Binds K d_gone_through ["lines", "gain"] []
  a_lessened : Addr
  d_lessened : FuncData
  F_lessened : Fun K "lessened" "lessened" s_lessened a_lessened d_lessened
  g_lessened : mg "lessened" = some (.ref a_lessened)
  b_lessened : Binds K d_lessened ["weights"] []
  a_solved : Addr
  d_solved : FuncData
  F_solved : Fun K "solved" "solved" s_solved a_solved d_solved
  g_solved : mg "solved" = some (.ref a_solved)
  b_solved : Binds K d_solved ["table"] []
  a_table_worth : Addr
  d_table_worth : FuncData
  F_table_worth : Fun K "table_worth" "table_worth" s_table_worth a_table_worth d_table_worth
  g_table_worth : mg "table_worth" = some (.ref a_table_worth)
  b_table_worth : Binds K d_table_worth ["table"] []
  a_column_sum : Addr
  d_column_sum : FuncData
  F_column_sum : Fun K "column_sum" "column_sum" s_column_sum a_column_sum d_column_sum
  g_column_sum : mg "column_sum" = some (.ref a_column_sum)
  b_column_sum : Binds K d_column_sum ["table", "rows", "j"] []
  a_row_sum : Addr
  d_row_sum : FuncData
  F_row_sum : Fun K "row_sum" "row_sum" s_row_sum a_row_sum d_row_sum
  g_row_sum : mg "row_sum" = some (.ref a_row_sum)
  b_row_sum : Binds K d_row_sum ["table", "columns", "i"] []
  a_table_judged : Addr
  d_table_judged : FuncData
  F_table_judged : Fun K "table_judged" "table_judged" s_table_judged a_table_judged d_table_judged
  g_table_judged : mg "table_judged" = some (.ref a_table_judged)
  b_table_judged : Binds K d_table_judged ["table", "worth", "rows", "columns"] []
  a_best_rows : Addr
  d_best_rows : FuncData
  F_best_rows : Fun K "best_rows" "best_rows" s_best_rows a_best_rows d_best_rows
  g_best_rows : mg "best_rows" = some (.ref a_best_rows)
  b_best_rows : Binds K d_best_rows ["table", "columns"] []
  a_best_columns : Addr
  d_best_columns : FuncData
  F_best_columns : Fun K "best_columns" "best_columns" s_best_columns a_best_columns d_best_columns
  g_best_columns : mg "best_columns" = some (.ref a_best_columns)
  b_best_columns : Binds K d_best_columns ["table", "rows"] []
  a__law_mix : Addr
  d__law_mix : FuncData
  F__law_mix : Fun K "_law_mix" "_law_mix" s__law_mix a__law_mix d__law_mix
  g__law_mix : mg "_law_mix" = some (.ref a__law_mix)
  b__law_mix : Binds K d__law_mix ["_law_number", "_law_k"] []
  a__law_cell_at : Addr
  d__law_cell_at : FuncData
  F__law_cell_at : Fun K "_law_cell_at" "_law_cell_at" s__law_cell_at a__law_cell_at d__law_cell_at
  g__law_cell_at : mg "_law_cell_at" = some (.ref a__law_cell_at)
  b__law_cell_at : Binds K d__law_cell_at ["_law_script", "_law_k"] []
  a__law_left : Addr
  d__law_left : FuncData
  F__law_left : Fun K "_law_left" "_law_left" s__law_left a__law_left d__law_left
  g__law_left : mg "_law_left" = some (.ref a__law_left)
  b__law_left : Binds K d__law_left ["_law_script", "_law_k"] []
  a__law_draw : Addr
  d__law_draw : FuncData
  F__law_draw : Fun K "_law_draw" "_law_draw" s__law_draw a__law_draw d__law_draw
  g__law_draw : mg "_law_draw" = some (.ref a__law_draw)
  b__law_draw : Binds K d__law_draw ["_law_left_here", "_law_base"] []
  a__law_thing : Addr
  d__law_thing : FuncData
  F__law_thing : Fun K "_law_thing" "_law_thing" s__law_thing a__law_thing d__law_thing
  g__law_thing : mg "_law_thing" = some (.ref a__law_thing)
  b__law_thing : Binds K d__law_thing ["_law_left_here"] []
  a__law_is_table : Addr
  d__law_is_table : FuncData
  F__law_is_table : Fun K "_law_is_table" "_law_is_table" s__law_is_table a__law_is_table d__law_is_table
  g__law_is_table : mg "_law_is_table" = some (.ref a__law_is_table)
  b__law_is_table : Binds K d__law_is_table ["_law_thing_here"] []
  a__law_refused : Addr
  d__law_refused : FuncData
  F__law_refused : Fun K "_law_refused" "_law_refused" s__law_refused a__law_refused d__law_refused
  g__law_refused : mg "_law_refused" = some (.ref a__law_refused)
  b__law_refused : Binds K d__law_refused ["_law_thing_here", "_law_which"] []
  a_law : Addr
  d_law : FuncData
  F_law : Fun K "law" "law" s_law a_law d_law
  g_law : mg "law" = some (.ref a_law)
  b_law : Binds K d_law ["_law_script"] []
  z_abs : mg "abs" = none
  z_int : mg "int" = none
  z_isinstance : mg "isinstance" = none
  z_bool : mg "bool" = none
  z_list : mg "list" = none
  z_len : mg "len" = none
  z_min : mg "min" = none
  z_max : mg "max" = none
  z_range : mg "range" = none
  z_sum : mg "sum" = none
  z_tuple : mg "tuple" = none
  z_ValueError : mg "ValueError" = none
  t_MOST : Tok
  c_MOST : mg "MOST" = some (.int 12 t_MOST)
  C_NoNumber : Addr
  k_NoNumber : Cl K mg "NoNumber" C_NoNumber
  C_NoTable : Addr
  k_NoTable : Cl K mg "NoTable" C_NoTable
  C_NoWeights : Addr
  k_NoWeights : Cl K mg "NoWeights" C_NoWeights
  C_HideError : Addr
  k_HideError : Cl K mg "HideError" C_HideError
  C_NoPlay : Addr
  k_NoPlay : Cl K mg "NoPlay" C_NoPlay
  C_NoPlan : Addr
  k_NoPlan : Cl K mg "NoPlan" C_NoPlan
  C_NoPaper : Addr
  k_NoPaper : Cl K mg "NoPaper" C_NoPaper
  C_NoOrder : Addr
  k_NoOrder : Cl K mg "NoOrder" C_NoOrder
  C_NoName : Addr
  k_NoName : Cl K mg "NoName" C_NoName
  C_NoKind : Addr
  k_NoKind : Cl K mg "NoKind" C_NoKind
  C_NoBudget : Addr
  k_NoBudget : Cl K mg "NoBudget" C_NoBudget
  C_NoBoxes : Addr
  k_NoBoxes : Cl K mg "NoBoxes" C_NoBoxes
  C_TooGreat : Addr
  k_TooGreat : Cl K mg "TooGreat" C_TooGreat
  C_NoWeb : Addr
  k_NoWeb : Cl K mg "NoWeb" C_NoWeb
  C_NoTurns : Addr
  k_NoTurns : Cl K mg "NoTurns" C_NoTurns
  C_NoTree : Addr
  k_NoTree : Cl K mg "NoTree" C_NoTree
  C_NoText : Addr
  k_NoText : Cl K mg "NoText" C_NoText
  C_NoRow : Addr
  k_NoRow : Cl K mg "NoRow" C_NoRow
  C_NoRoad : Addr
  k_NoRoad : Cl K mg "NoRoad" C_NoRoad
  r_NoNumber : Rc K mg "NoNumber" C_NoNumber
  x_NoNumber : PySem.W.excIn K C_NoNumber veMro "ValueError.__new__" = true
  r_NoTable : Rc K mg "NoTable" C_NoTable
  x_NoTable : PySem.W.excIn K C_NoTable veMro "ValueError.__new__" = true
  r_NoWeights : Rc K mg "NoWeights" C_NoWeights
  x_NoWeights : PySem.W.excIn K C_NoWeights veMro "ValueError.__new__" = true
  ct : ∀ p ∈ catchL, CatchOk K p
  xc : XcOk K isL raisedL
section
variable {P : Program} {w : World} {K : PySem.W.Frag} {mg : Str → Option Value} {base : Heap}
theorem ok_divisor (T : Tx K mg) : FnOk P w K mg base (L2.CX P w) 2 T.a_divisor T.d_divisor ["one", "other"] (spD ⟨K, mg⟩ F_divisor) :=
  fn_mk (k := 1) (keep := false) (body := b_divisor) T.F_divisor sc_divisor rfl fun cdv A outer s H E hr => by
    have nd := sc_divisor.nd
    have tk : Takes (cxOf (L2.CX P w) P w K mg base ["one", "other"] "divisor" (defScope s_divisor) T.a_divisor cdv A outer s H E) (fun cls d _ H' => E cls d H') := takes_of rfl rfl rfl rfl
    exact (pssd_cons (psd_set (i := 0) nd (pd_callB cd_abs (by rfl) T.z_abs (by decide +kernel) (pad_cons (pd_var (i := 0)) pad_nil)))
      (pssd_cons (psd_set (i := 1) nd (pd_callB cd_abs (by rfl) T.z_abs (by decide +kernel) (pad_cons (pd_var (i := 1)) pad_nil)))
      (pssd_cons (psd_while (passes_of rfl) (ptd_cmp (od_ne hr.units) (pd_var (i := 1)) pd_int) (pssd_one (psd_par (i := 0) (j := 1) rfl nd (by decide) (pad_cons (pd_var (i := 1)) (pad_cons (pd_op od_mod (pd_var (i := 0)) (pd_var (i := 1))) pad_nil)) (by rfl))))
      (pssd_one (psd_ret (pd_var (i := 0)))))))
theorem ok_ratio (T : Tx K mg) : FnOk P w K mg base (L2.CX P w) 3 T.a_ratio T.d_ratio ["top", "bottom"] (spD ⟨K, mg⟩ F_ratio) :=
  fn_mk (k := 2) (keep := false) (body := b_ratio) T.F_ratio sc_ratio rfl fun cdv A outer s H E hr => by
    have nd := sc_ratio.nd
    have tk : Takes (cxOf (L2.CX P w) P w K mg base ["top", "bottom", "by"] "ratio" (defScope s_ratio) T.a_ratio cdv A outer s H E) (fun cls d _ H' => E cls d H') := takes_of rfl rfl rfl rfl
    exact (pssd_cons (psd_if (ptd_cmp (od_eq hr.units) (pd_var (i := 1)) pd_int) (pssd_one (psd_raise rfl tk T.r_NoNumber T.x_NoNumber)) pssd_nil)
      (pssd_cons (psd_set (i := 2) nd (pd_call (ok_divisor T) (hr.mono (by decide)) T.g_divisor T.F_divisor.kp T.b_divisor tk (pad_cons (pd_var (i := 0)) (pad_cons (pd_var (i := 1)) pad_nil))))
      (pssd_cons (psd_if (ptd_cmp od_lt (pd_var (i := 1)) pd_int) (pssd_one (psd_set (i := 2) nd (pd_op od_sub pd_int (pd_var (i := 2))))) pssd_nil)
      (pssd_one (psd_ret (pd_tup (pad_cons (pd_op od_fdiv (pd_var (i := 0)) (pd_var (i := 2))) (pad_cons (pd_op od_fdiv (pd_var (i := 1)) (pd_var (i := 2))) pad_nil))))))))
theorem ok_is_number (T : Tx K mg) : FnOk P w K mg base (L2.CX P w) 2 T.a_is_number T.d_is_number ["thing"] (spD ⟨K, mg⟩ F_is_number) :=
  fn_mk (k := 1) (keep := false) (body := b_is_number) T.F_is_number sc_is_number rfl fun cdv A outer s H E hr => by
    have nd := sc_is_number.nd
    have tk : Takes (cxOf (L2.CX P w) P w K mg base ["thing"] "is_number" (defScope s_is_number) T.a_is_number cdv A outer s H E) (fun cls d _ H' => E cls d H') := takes_of rfl rfl rfl rfl
    exact (pssd_one (psd_ret (pd_and (pd_callB cd_isi (by rfl) T.z_isinstance (by decide +kernel) (pad_cons (pd_var (i := 0)) (pad_cons (pd_ty T.z_int (by decide +kernel)) pad_nil))) (pd_one (pd_not (pd_callB cd_isi (by rfl) T.z_isinstance (by decide +kernel) (pad_cons (pd_var (i := 0)) (pad_cons (pd_ty T.z_bool (by decide +kernel)) pad_nil))))))))
theorem ok_are_numbers (T : Tx K mg) : FnOk P w K mg base (L2.CX P w) 3 T.a_are_numbers T.d_are_numbers ["thing", "many"] (spD ⟨K, mg⟩ F_are_numbers) :=
  fn_mk (k := 2) (keep := false) (body := b_are_numbers) T.F_are_numbers sc_are_numbers rfl fun cdv A outer s H E hr => by
    have nd := sc_are_numbers.nd
    have tk : Takes (cxOf (L2.CX P w) P w K mg base ["thing", "many", "number"] "are_numbers" (defScope s_are_numbers) T.a_are_numbers cdv A outer s H E) (fun cls d _ H' => E cls d H') := takes_of rfl rfl rfl rfl
    exact (pssd_cons (psd_if (PWD.pt (pwd_or (ptd_not (ptd_truth (pd_callB cd_isi (by rfl) T.z_isinstance (by decide +kernel) (pad_cons (pd_var (i := 0)) (pad_cons (pd_ty T.z_list (by decide +kernel)) pad_nil))))) (pwd_or1 (ptd_cmp (od_ne hr.units) (pd_callB cd_len (by rfl) T.z_len (by decide +kernel) (pad_cons (pd_var (i := 0)) pad_nil)) (pd_var (i := 1)))))) (pssd_one (psd_ret pd_bl)) pssd_nil)
      (pssd_one (psd_ret (pd_cmp (od_eq hr.units) (pd_callB cd_len (by rfl) T.z_len (by decide +kernel) (pad_cons (pd_lcIf (own := [("number", 2)]) mk_F (tg_N (by decide)) rfl nd (pid_list (pd_var (i := 0))) (blkOk_by (N := ["thing", "many", "number"]) (sc := defScope s_are_numbers) (by decide +kernel)) (fun _ _ _ _ _ => pg_name (i := 2) nd rfl (Or.inl rfl)) (fun _ _ _ _ _ => (ptd_not (ptd_truth (pd_call (ok_is_number T) (hr.mono (by decide)) T.g_is_number T.F_is_number.kp T.b_is_number takes0 (pad_cons (pd_var (i := 2)) pad_nil))))) (fun _ _ _ _ _ => (pd_var (i := 2)))) pad_nil)) pd_int))))
theorem ok_are_weights (T : Tx K mg) : FnOk P w K mg base (L2.CX P w) 4 T.a_are_weights T.d_are_weights ["thing", "many"] (spD ⟨K, mg⟩ F_are_weights) :=
  fn_mk (k := 3) (keep := false) (body := b_are_weights) T.F_are_weights sc_are_weights rfl fun cdv A outer s H E hr => by
    have nd := sc_are_weights.nd
    have tk : Takes (cxOf (L2.CX P w) P w K mg base ["thing", "many"] "are_weights" (defScope s_are_weights) T.a_are_weights cdv A outer s H E) (fun cls d _ H' => E cls d H') := takes_of rfl rfl rfl rfl
    exact (pssd_one (psd_ret (pd_and (pd_call (ok_are_numbers T) (hr.mono (by decide)) T.g_are_numbers T.F_are_numbers.kp T.b_are_numbers tk (pad_cons (pd_var (i := 0)) (pad_cons (pd_var (i := 1)) pad_nil))) (pd_and (pd_cmp od_ge (pd_callB (cd_min rfl) (by rfl) T.z_min (by decide +kernel) (pad_cons (pd_var (i := 0)) pad_nil)) pd_int) (pd_one (pd_cmp od_gt (pd_callB (cd_max rfl) (by rfl) T.z_max (by decide +kernel) (pad_cons (pd_var (i := 0)) pad_nil)) pd_int))))))
theorem ok_must_be_table (T : Tx K mg) : FnOk P w K mg base (L2.CX P w) 4 T.a_must_be_table T.d_must_be_table ["table"] (spD ⟨K, mg⟩ F_must_be_table) :=
  fn_mk (k := 3) (keep := false) (body := b_must_be_table) T.F_must_be_table sc_must_be_table rfl fun cdv A outer s H E hr => by
    have nd := sc_must_be_table.nd
    have tk : Takes (cxOf (L2.CX P w) P w K mg base ["table", "many", "row"] "must_be_table" (defScope s_must_be_table) T.a_must_be_table cdv A outer s H E) (fun cls d _ H' => E cls d H') := takes_of rfl rfl rfl rfl
    exact (pssd_cons (psd_if (PWD.pt (pwd_or (ptd_not (ptd_truth (pd_callB cd_isi (by rfl) T.z_isinstance (by decide +kernel) (pad_cons (pd_var (i := 0)) (pad_cons (pd_ty T.z_list (by decide +kernel)) pad_nil))))) (pwd_or (ptd_cmp od_lt (pd_callB cd_len (by rfl) T.z_len (by decide +kernel) (pad_cons (pd_var (i := 0)) pad_nil)) pd_int) (pwd_or (ptd_cmp od_gt (pd_callB cd_len (by rfl) T.z_len (by decide +kernel) (pad_cons (pd_var (i := 0)) pad_nil)) (pd_gint T.c_MOST)) (pwd_or1 (ptd_not (ptd_truth (pd_callB cd_isi (by rfl) T.z_isinstance (by decide +kernel) (pad_cons (pd_ix ixd (pd_var (i := 0)) pd_int) (pad_cons (pd_ty T.z_list (by decide +kernel)) pad_nil)))))))))) (pssd_one (psd_raise rfl tk T.r_NoTable T.x_NoTable)) pssd_nil)
      (pssd_cons (psd_set (i := 1) nd (pd_callB cd_len (by rfl) T.z_len (by decide +kernel) (pad_cons (pd_ix ixd (pd_var (i := 0)) pd_int) pad_nil)))
      (pssd_one (psd_if (PWD.pt (pwd_or (ptd_cmp od_lt (pd_var (i := 1)) pd_int) (pwd_or (ptd_cmp od_gt (pd_var (i := 1)) (pd_gint T.c_MOST)) (pwd_or1 (ptd_cmp od_gt (pd_callB cd_len (by rfl) T.z_len (by decide +kernel) (pad_cons (pd_lcIf (own := [("row", 2)]) mk_F (tg_N (by decide)) rfl nd (pid_list (pd_var (i := 0))) (blkOk_by (N := ["table", "many", "row"]) (sc := defScope s_must_be_table) (by decide +kernel)) (fun _ _ _ _ _ => pg_name (i := 2) nd rfl (Or.inl rfl)) (fun _ _ _ _ _ => (ptd_not (ptd_truth (pd_call (ok_are_numbers T) (hr.mono (by decide)) T.g_are_numbers T.F_are_numbers.kp T.b_are_numbers takes0 (pad_cons (pd_var (i := 2)) (pad_cons (pd_var (i := 1)) pad_nil)))))) (fun _ _ _ _ _ => (pd_var (i := 2)))) pad_nil)) pd_int))))) (pssd_one (psd_raise rfl tk T.r_NoTable T.x_NoTable)) pssd_nil))))
theorem ok_least_share (T : Tx K mg) : FnOk P w K mg base (L2.CX P w) 2 T.a_least_share T.d_least_share ["lines", "enter", "kept"] (spD ⟨K, mg⟩ F_least_share) :=
  fn_mk (k := 1) (keep := false) (body := b_least_share) T.F_least_share sc_least_share rfl fun cdv A outer s H E hr => by
    have nd := sc_least_share.nd
    have tk : Takes (cxOf (L2.CX P w) P w K mg base ["lines", "enter", "kept", "best", "r", "one", "other"] "least_share" (defScope s_least_share) T.a_least_share cdv A outer s H E) (fun cls d _ H' => E cls d H') := takes_of rfl rfl rfl rfl
    exact (pssd_cons (psd_set (i := 3) nd pd_non)
      (pssd_cons (psd_for (passes_of rfl) rfl (pid_range1 T.z_range (pad_cons (pd_callB cd_len (by rfl) T.z_len (by decide +kernel) (pad_cons (pd_var (i := 0)) pad_nil)) pad_nil)) (pgd_name (i := 4) nd) (pssd_one (psd_if (ptd_cmp od_gt (pd_ix ixd (pd_ix ixd (pd_var (i := 0)) (pd_var (i := 4))) (pd_var (i := 1))) pd_int) (pssd_cons (psd_if (ptd_cmp od_isN (pd_var (i := 3)) pd_non) (pssd_one (psd_set (i := 3) nd (pd_var (i := 4)))) pssd_nil)
      (pssd_cons (psd_set (i := 5) nd (pd_op (od_mul mk_F) (pd_ix ixd (pd_ix ixd (pd_var (i := 0)) (pd_var (i := 4))) (pd_un ud_neg pd_int)) (pd_ix ixd (pd_ix ixd (pd_var (i := 0)) (pd_var (i := 3))) (pd_var (i := 1)))))
      (pssd_cons (psd_set (i := 6) nd (pd_op (od_mul mk_F) (pd_ix ixd (pd_ix ixd (pd_var (i := 0)) (pd_var (i := 3))) (pd_un ud_neg pd_int)) (pd_ix ixd (pd_ix ixd (pd_var (i := 0)) (pd_var (i := 4))) (pd_var (i := 1)))))
      (pssd_one (psd_if (PWD.pt (pwd_or (ptd_cmp od_lt (pd_var (i := 5)) (pd_var (i := 6))) (pwd_or1 (PWD.pt (pwd_and (ptd_cmp (od_eq hr.units) (pd_var (i := 5)) (pd_var (i := 6))) (pwd_and1 (ptd_cmp od_lt (pd_ix ixd (pd_var (i := 2)) (pd_var (i := 4))) (pd_ix ixd (pd_var (i := 2)) (pd_var (i := 3)))))))))) (pssd_one (psd_set (i := 3) nd (pd_var (i := 4)))) pssd_nil))))) pssd_nil)))
      (pssd_one (psd_ret (pd_var (i := 3))))))
theorem ok_pivoted (T : Tx K mg) : FnOk P w K mg base (L2.CX P w) 2 T.a_pivoted T.d_pivoted ["line", "other", "enter", "last"] (spD ⟨K, mg⟩ F_pivoted) :=
  fn_mk (k := 1) (keep := false) (body := b_pivoted) T.F_pivoted sc_pivoted rfl fun cdv A outer s H E hr => by
    have nd := sc_pivoted.nd
    have tk : Takes (cxOf (L2.CX P w) P w K mg base ["line", "other", "enter", "last", "a", "b", "k"] "pivoted" (defScope s_pivoted) T.a_pivoted cdv A outer s H E) (fun cls d _ H' => E cls d H') := takes_of rfl rfl rfl rfl
    exact (pssd_cons (psd_set (i := 4) nd (pd_ix ixd (pd_var (i := 1)) (pd_var (i := 2))))
      (pssd_cons (psd_set (i := 5) nd (pd_ix ixd (pd_var (i := 0)) (pd_var (i := 2))))
      (pssd_one (psd_ret (pd_lc (own := [("k", 6)]) mk_F (tg_N (by decide)) rfl nd (pid_range1 T.z_range (pad_cons (pd_callB cd_len (by rfl) T.z_len (by decide +kernel) (pad_cons (pd_var (i := 0)) pad_nil)) pad_nil)) (blkOk_by (N := ["line", "other", "enter", "last", "a", "b", "k"]) (sc := defScope s_pivoted) (by decide +kernel)) (fun _ _ _ _ _ => pg_name (i := 6) nd rfl (Or.inl rfl)) (fun _ _ _ _ _ => (pd_op od_fdiv (pd_op od_sub (pd_op (od_mul mk_F) (pd_ix ixd (pd_var (i := 0)) (pd_var (i := 6))) (pd_var (i := 4))) (pd_op (od_mul mk_F) (pd_ix ixd (pd_var (i := 1)) (pd_var (i := 6))) (pd_var (i := 5)))) (pd_var (i := 3)))))))))
theorem ok_gone_through (T : Tx K mg) : FnOk P w K mg base (L2.CX P w) 3 T.a_gone_through T.d_gone_through ["lines", "gain"] (spD ⟨K, mg⟩ F_gone_through) :=
  fn_mk (k := 2) (keep := true) (body := b_gone_through) T.F_gone_through sc_gone_through rfl fun cdv A outer s H E hr => by
    have nd := sc_gone_through.nd
    have tk : Takes (cxOf (L2.CX P w) P w K mg base ["lines", "gain", "many", "kept", "last", "enter", "at", "pivot", "r", "k"] "gone_through" (defScope s_gone_through) T.a_gone_through cdv A outer s H E) (fun cls d _ H' => E cls d H') := takes_of rfl rfl rfl rfl
    exact (pssd_cons (psd_set (i := 2) nd (pd_op od_sub (pd_op od_sub (pd_callB cd_len (by rfl) T.z_len (by decide +kernel) (pad_cons (pd_var (i := 1)) pad_nil)) pd_int) (pd_callB cd_len (by rfl) T.z_len (by decide +kernel) (pad_cons (pd_var (i := 0)) pad_nil))))
      (pssd_cons (psd_setLc (i := 3) (own := [("r", 8)]) mk_C (tg_N (by decide)) rfl nd (sw_true rfl rfl rfl (by decide +kernel)) (pid_range1 T.z_range (pad_cons (pd_callB cd_len (by rfl) T.z_len (by decide +kernel) (pad_cons (pd_var (i := 0)) pad_nil)) pad_nil)) (blkOk_by (N := ["lines", "gain", "many", "kept", "last", "enter", "at", "pivot", "r", "k"]) (sc := defScope s_gone_through) (by decide +kernel)) (fun _ _ _ _ _ => pg_name (i := 8) nd rfl (Or.inl rfl)) (fun _ _ _ _ _ => (pd_op (od_add mk_F) (pd_var (i := 2)) (pd_var (i := 8)))))
      (pssd_cons (psd_set (i := 4) nd pd_int)
      (pssd_cons (psd_while (passes_of rfl) (ptd_cmp od_lt (pd_callB (cd_min rfl) (by rfl) T.z_min (by decide +kernel) (pad_cons (pd_slice mk_F (pd_var (i := 1)) pod_none (pod_some (pd_un ud_neg pd_int))) pad_nil)) pd_int) (pssd_cons (psd_set (i := 5) nd (pd_ix ixd (pd_lcIf (own := [("k", 9)]) mk_F (tg_N (by decide)) rfl nd (pid_range1 T.z_range (pad_cons (pd_op od_sub (pd_callB cd_len (by rfl) T.z_len (by decide +kernel) (pad_cons (pd_var (i := 1)) pad_nil)) pd_int) pad_nil)) (blkOk_by (N := ["lines", "gain", "many", "kept", "last", "enter", "at", "pivot", "r", "k"]) (sc := defScope s_gone_through) (by decide +kernel)) (fun _ _ _ _ _ => pg_name (i := 9) nd rfl (Or.inl rfl)) (fun _ _ _ _ _ => (ptd_cmp od_lt (pd_ix ixd (pd_var (i := 1)) (pd_var (i := 9))) pd_int)) (fun _ _ _ _ _ => (pd_var (i := 9)))) pd_int))
      (pssd_cons (psd_set (i := 6) nd (pd_call (ok_least_share T) (hr.mono (by decide)) T.g_least_share T.F_least_share.kp T.b_least_share tk (pad_cons (pd_var (i := 0)) (pad_cons (pd_var (i := 5)) (pad_cons (pd_var (i := 3)) pad_nil)))))
      (pssd_cons (psd_set (i := 7) nd (pd_ix ixd (pd_var (i := 0)) (pd_var (i := 6))))
      (pssd_cons (psd_for (passes_of rfl) rfl (pid_range1 T.z_range (pad_cons (pd_callB cd_len (by rfl) T.z_len (by decide +kernel) (pad_cons (pd_var (i := 0)) pad_nil)) pad_nil)) (pgd_name (i := 8) nd) (pssd_one (psd_if (ptd_cmp (od_ne hr.units) (pd_var (i := 8)) (pd_var (i := 6))) (pssd_one (psd_sub sd_list (pd_call (ok_pivoted T) (hr.mono (by decide)) T.g_pivoted T.F_pivoted.kp T.b_pivoted tk (pad_cons (pd_ix ixd (pd_var (i := 0)) (pd_var (i := 8))) (pad_cons (pd_var (i := 7)) (pad_cons (pd_var (i := 5)) (pad_cons (pd_var (i := 4)) pad_nil))))) (pd_var (i := 0)) (pd_var (i := 8)))) pssd_nil)))
      (pssd_cons (psd_set (i := 1) nd (pd_call (ok_pivoted T) (hr.mono (by decide)) T.g_pivoted T.F_pivoted.kp T.b_pivoted tk (pad_cons (pd_var (i := 1)) (pad_cons (pd_var (i := 7)) (pad_cons (pd_var (i := 5)) (pad_cons (pd_var (i := 4)) pad_nil))))))
      (pssd_cons (psd_set (i := 4) nd (pd_ix ixd (pd_var (i := 7)) (pd_var (i := 5))))
      (pssd_one (psd_sub sd_list (pd_var (i := 5)) (pd_var (i := 3)) (pd_var (i := 6)))))))))))
      (pssd_one (psd_ret (pd_tup (pad_cons (pd_var (i := 0)) (pad_cons (pd_var (i := 3)) (pad_cons (pd_var (i := 1)) (pad_cons (pd_var (i := 4)) pad_nil)))))))))))
theorem ok_lessened (T : Tx K mg) : FnOk P w K mg base (L2.CX P w) 3 T.a_lessened T.d_lessened ["weights"] (spD ⟨K, mg⟩ F_lessened) :=
  fn_mk (k := 2) (keep := false) (body := b_lessened) T.F_lessened sc_lessened rfl fun cdv A outer s H E hr => by
    have nd := sc_lessened.nd
    have tk : Takes (cxOf (L2.CX P w) P w K mg base ["weights", "part", "weight"] "lessened" (defScope s_lessened) T.a_lessened cdv A outer s H E) (fun cls d _ H' => E cls d H') := takes_of rfl rfl rfl rfl
    exact (pssd_cons (psd_set (i := 1) nd pd_int)
      (pssd_cons (psd_for (passes_of rfl) rfl (pid_list (pd_var (i := 0))) (pgd_name (i := 2) nd) (pssd_one (psd_set (i := 1) nd (pd_call (ok_divisor T) (hr.mono (by decide)) T.g_divisor T.F_divisor.kp T.b_divisor tk (pad_cons (pd_var (i := 1)) (pad_cons (pd_var (i := 2)) pad_nil))))))
      (pssd_one (psd_ret (pd_lc (own := [("weight", 2)]) mk_F (tg_N (by decide)) rfl nd (pid_list (pd_var (i := 0))) (blkOk_by (N := ["weights", "part", "weight"]) (sc := defScope s_lessened) (by decide +kernel)) (fun _ _ _ _ _ => pg_name (i := 2) nd rfl (Or.inl rfl)) (fun _ _ _ _ _ => (pd_op od_fdiv (pd_var (i := 2)) (pd_var (i := 1)))))))))
theorem ok_solved (T : Tx K mg) : FnOk P w K mg base (L2.CX P w) 4 T.a_solved T.d_solved ["table"] (spD ⟨K, mg⟩ F_solved) :=
  fn_mk (k := 3) (keep := false) (body := b_solved) T.F_solved sc_solved rfl fun cdv A outer s H E hr => by
    have nd := sc_solved.nd
    have tk : Takes (cxOf (L2.CX P w) P w K mg base ["table", "wide", "more", "lines", "j", "rows", "r", "columns", "kept", "gain", "last", "row", "k"] "solved" (defScope s_solved) T.a_solved cdv A outer s H E) (fun cls d _ H' => E cls d H') := takes_of rfl rfl rfl rfl
    exact (pssd_cons (psd_set (i := 1) nd (pd_callB cd_len (by rfl) T.z_len (by decide +kernel) (pad_cons (pd_ix ixd (pd_var (i := 0)) pd_int) pad_nil)))
      (pssd_cons (psd_set (i := 2) nd (pd_op od_sub pd_int (pd_callB (cd_min rfl) (by rfl) T.z_min (by decide +kernel) (pad_cons (pd_lc (own := [("row", 11)]) mk_F (tg_N (by decide)) rfl nd (pid_list (pd_var (i := 0))) (blkOk_by (N := ["table", "wide", "more", "lines", "j", "rows", "r", "columns", "kept", "gain", "last", "row", "k"]) (sc := defScope s_solved) (by decide +kernel)) (fun _ _ _ _ _ => pg_name (i := 11) nd rfl (Or.inl rfl)) (fun _ _ _ _ _ => (pd_callB (cd_min rfl) (by rfl) T.z_min (by decide +kernel) (pad_cons (pd_var (i := 11)) pad_nil)))) pad_nil))))
      (pssd_cons (psd_set (i := 3) nd (pd_lst mk_C pad_nil))
      (pssd_cons (psd_for (passes_of rfl) rfl (pid_range1 T.z_range (pad_cons (pd_var (i := 1)) pad_nil)) (pgd_name (i := 4) nd) (pssd_one (psd_expr (pd_bm PySem.F.plainAttrs_list PySem.F.slot_list_append PySem.F.type_list_append md_append (pd_var (i := 3)) (pad_cons (pd_op (od_add mk_F) (pd_op (od_add mk_F) (pd_lc (own := [("row", 11)]) mk_F (tg_N (by decide)) rfl nd (pid_list (pd_var (i := 0))) (blkOk_by (N := ["table", "wide", "more", "lines", "j", "rows", "r", "columns", "kept", "gain", "last", "row", "k"]) (sc := defScope s_solved) (by decide +kernel)) (fun _ _ _ _ _ => pg_name (i := 11) nd rfl (Or.inl rfl)) (fun _ _ _ _ _ => (pd_op (od_add mk_F) (pd_ix ixd (pd_var (i := 11)) (pd_var (i := 4))) (pd_var (i := 2))))) (pd_lc (own := [("k", 12)]) mk_F (tg_N (by decide)) rfl nd (pid_range1 T.z_range (pad_cons (pd_var (i := 1)) pad_nil)) (blkOk_by (N := ["table", "wide", "more", "lines", "j", "rows", "r", "columns", "kept", "gain", "last", "row", "k"]) (sc := defScope s_solved) (by decide +kernel)) (fun _ _ _ _ _ => pg_name (i := 12) nd rfl (Or.inl rfl)) (fun _ _ _ _ _ => (pd_callTy cd_int (by rfl) T.z_int (by decide +kernel) (pad_cons (pd_cmp (od_eq hr.units) (pd_var (i := 12)) (pd_var (i := 4))) pad_nil))))) (pd_lst mk_F (pad_cons pd_int pad_nil))) pad_nil)))))
      (pssd_cons (psd_asg (pd_call (ok_gone_through T) (hr.mono (by decide)) T.g_gone_through T.F_gone_through.kp T.b_gone_through tk (pad_cons (pd_var (i := 3)) (pad_cons (pd_op (od_add mk_F) (pd_op (od_mul mk_F) (pd_lst mk_F (pad_cons (pd_un ud_neg pd_int) pad_nil)) (pd_callB cd_len (by rfl) T.z_len (by decide +kernel) (pad_cons (pd_var (i := 0)) pad_nil))) (pd_op (od_mul mk_F) (pd_lst mk_F (pad_cons pd_int pad_nil)) (pd_op (od_add mk_F) (pd_var (i := 1)) pd_int))) pad_nil))) (pgd_tup rfl (pgsd_cons (pgd_name (i := 3) nd) (pgsd_cons (pgd_name (i := 8) nd) (pgsd_cons (pgd_name (i := 9) nd) (pgsd_cons (pgd_name (i := 10) nd) pgsd_nil))))))
      (pssd_cons (psd_set (i := 5) nd (pd_op (od_mul mk_C) (pd_lst mk_F (pad_cons pd_int pad_nil)) (pd_callB cd_len (by rfl) T.z_len (by decide +kernel) (pad_cons (pd_var (i := 0)) pad_nil))))
      (pssd_cons (psd_frz (i := 5) (psd_for (passes_of rfl) rfl (pid_range1 T.z_range (pad_cons (pd_var (i := 1)) pad_nil)) (pgd_name (i := 6) nd) (pssd_one (psd_if (ptd_cmp od_lt (pd_ix ixd (pd_var (i := 8)) (pd_var (i := 6))) (pd_callB cd_len (by rfl) T.z_len (by decide +kernel) (pad_cons (pd_var (i := 0)) pad_nil))) (pssd_one (psd_sub sd_list (pd_ix ixd (pd_ix ixd (pd_var (i := 3)) (pd_var (i := 6))) (pd_un ud_neg pd_int)) (pd_var (i := 5)) (pd_ix ixd (pd_var (i := 8)) (pd_var (i := 6))))) pssd_nil))))
      (pssd_cons (psd_set (i := 7) nd (pd_slice mk_F (pd_var (i := 9)) (pod_some (pd_callB cd_len (by rfl) T.z_len (by decide +kernel) (pad_cons (pd_var (i := 0)) pad_nil))) (pod_some (pd_op (od_add mk_F) (pd_callB cd_len (by rfl) T.z_len (by decide +kernel) (pad_cons (pd_var (i := 0)) pad_nil)) (pd_var (i := 1))))))
      (pssd_one (psd_ret (pd_tup (pad_cons (pd_call (ok_ratio T) (hr.mono (by decide)) T.g_ratio T.F_ratio.kp T.b_ratio tk (pad_cons (pd_op od_sub (pd_var (i := 10)) (pd_op (od_mul mk_F) (pd_var (i := 2)) (pd_ix ixd (pd_var (i := 9)) (pd_un ud_neg pd_int)))) (pad_cons (pd_ix ixd (pd_var (i := 9)) (pd_un ud_neg pd_int)) pad_nil))) (pad_cons (pd_call (ok_lessened T) (hr.mono (by decide)) T.g_lessened T.F_lessened.kp T.b_lessened tk (pad_cons (pd_var (i := 5)) pad_nil)) (pad_cons (pd_call (ok_lessened T) (hr.mono (by decide)) T.g_lessened T.F_lessened.kp T.b_lessened tk (pad_cons (pd_var (i := 7)) pad_nil)) pad_nil))))))))))))))
theorem ok_table_worth (T : Tx K mg) : FnOk P w K mg base (L2.CX P w) 5 T.a_table_worth T.d_table_worth ["table"] (spD ⟨K, mg⟩ F_table_worth) :=
  fn_mk (k := 4) (keep := false) (body := b_table_worth) T.F_table_worth sc_table_worth rfl fun cdv A outer s H E hr => by
    have nd := sc_table_worth.nd
    have tk : Takes (cxOf (L2.CX P w) P w K mg base ["table"] "table_worth" (defScope s_table_worth) T.a_table_worth cdv A outer s H E) (fun cls d _ H' => E cls d H') := takes_of rfl rfl rfl rfl
    exact (pssd_cons (psd_expr (pd_call (ok_must_be_table T) (hr.mono (by decide)) T.g_must_be_table T.F_must_be_table.kp T.b_must_be_table tk (pad_cons (pd_var (i := 0)) pad_nil)))
      (pssd_one (psd_ret (pd_call (ok_solved T) (hr.mono (by decide)) T.g_solved T.F_solved.kp T.b_solved tk (pad_cons (pd_var (i := 0)) pad_nil)))))
theorem ok_column_sum (T : Tx K mg) : FnOk P w K mg base (L2.CX P w) 2 T.a_column_sum T.d_column_sum ["table", "rows", "j"] (spD ⟨K, mg⟩ F_column_sum) :=
  fn_mk (k := 1) (keep := false) (body := b_column_sum) T.F_column_sum sc_column_sum rfl fun cdv A outer s H E hr => by
    have nd := sc_column_sum.nd
    have tk : Takes (cxOf (L2.CX P w) P w K mg base ["table", "rows", "j", "i"] "column_sum" (defScope s_column_sum) T.a_column_sum cdv A outer s H E) (fun cls d _ H' => E cls d H') := takes_of rfl rfl rfl rfl
    exact (pssd_one (psd_ret (pd_callB (cd_sum rfl) (by rfl) T.z_sum (by decide +kernel) (pad_cons (pd_lc (own := [("i", 3)]) mk_F (tg_N (by decide)) rfl nd (pid_range1 T.z_range (pad_cons (pd_callB cd_len (by rfl) T.z_len (by decide +kernel) (pad_cons (pd_var (i := 0)) pad_nil)) pad_nil)) (blkOk_by (N := ["table", "rows", "j", "i"]) (sc := defScope s_column_sum) (by decide +kernel)) (fun _ _ _ _ _ => pg_name (i := 3) nd rfl (Or.inl rfl)) (fun _ _ _ _ _ => (pd_op (od_mul mk_F) (pd_ix ixd (pd_var (i := 1)) (pd_var (i := 3))) (pd_ix ixd (pd_ix ixd (pd_var (i := 0)) (pd_var (i := 3))) (pd_var (i := 2)))))) pad_nil))))
theorem ok_row_sum (T : Tx K mg) : FnOk P w K mg base (L2.CX P w) 2 T.a_row_sum T.d_row_sum ["table", "columns", "i"] (spD ⟨K, mg⟩ F_row_sum) :=
  fn_mk (k := 1) (keep := false) (body := b_row_sum) T.F_row_sum sc_row_sum rfl fun cdv A outer s H E hr => by
    have nd := sc_row_sum.nd
    have tk : Takes (cxOf (L2.CX P w) P w K mg base ["table", "columns", "i", "j"] "row_sum" (defScope s_row_sum) T.a_row_sum cdv A outer s H E) (fun cls d _ H' => E cls d H') := takes_of rfl rfl rfl rfl
    exact (pssd_one (psd_ret (pd_callB (cd_sum rfl) (by rfl) T.z_sum (by decide +kernel) (pad_cons (pd_lc (own := [("j", 3)]) mk_F (tg_N (by decide)) rfl nd (pid_range1 T.z_range (pad_cons (pd_callB cd_len (by rfl) T.z_len (by decide +kernel) (pad_cons (pd_var (i := 1)) pad_nil)) pad_nil)) (blkOk_by (N := ["table", "columns", "i", "j"]) (sc := defScope s_row_sum) (by decide +kernel)) (fun _ _ _ _ _ => pg_name (i := 3) nd rfl (Or.inl rfl)) (fun _ _ _ _ _ => (pd_op (od_mul mk_F) (pd_ix ixd (pd_var (i := 1)) (pd_var (i := 3))) (pd_ix ixd (pd_ix ixd (pd_var (i := 0)) (pd_var (i := 2))) (pd_var (i := 3)))))) pad_nil))))
theorem ok_table_judged (T : Tx K mg) : FnOk P w K mg base (L2.CX P w) 5 T.a_table_judged T.d_table_judged ["table", "worth", "rows", "columns"] (spD ⟨K, mg⟩ F_table_judged) :=
  fn_mk (k := 4) (keep := false) (body := b_table_judged) T.F_table_judged sc_table_judged rfl fun cdv A outer s H E hr => by
    have nd := sc_table_judged.nd
    have tk : Takes (cxOf (L2.CX P w) P w K mg base ["table", "worth", "rows", "columns", "j", "i", "top", "bottom"] "table_judged" (defScope s_table_judged) T.a_table_judged cdv A outer s H E) (fun cls d _ H' => E cls d H') := takes_of rfl rfl rfl rfl
    exact (pssd_cons (psd_expr (pd_call (ok_must_be_table T) (hr.mono (by decide)) T.g_must_be_table T.F_must_be_table.kp T.b_must_be_table tk (pad_cons (pd_var (i := 0)) pad_nil)))
      (pssd_cons (psd_asg (pd_var (i := 1)) (pgd_tup rfl (pgsd_cons (pgd_name (i := 6) nd) (pgsd_cons (pgd_name (i := 7) nd) pgsd_nil))))
      (pssd_cons (psd_if (ptd_not (ptd_truth (pd_call (ok_are_weights T) (hr.mono (by decide)) T.g_are_weights T.F_are_weights.kp T.b_are_weights tk (pad_cons (pd_var (i := 2)) (pad_cons (pd_callB cd_len (by rfl) T.z_len (by decide +kernel) (pad_cons (pd_var (i := 0)) pad_nil)) pad_nil))))) (pssd_one (psd_ret (pd_tup (pad_cons pd_str pad_nil)))) pssd_nil)
      (pssd_cons (psd_if (ptd_not (ptd_truth (pd_call (ok_are_weights T) (hr.mono (by decide)) T.g_are_weights T.F_are_weights.kp T.b_are_weights tk (pad_cons (pd_var (i := 3)) (pad_cons (pd_callB cd_len (by rfl) T.z_len (by decide +kernel) (pad_cons (pd_ix ixd (pd_var (i := 0)) pd_int) pad_nil)) pad_nil))))) (pssd_one (psd_ret (pd_tup (pad_cons pd_str pad_nil)))) pssd_nil)
      (pssd_cons (psd_for (passes_of rfl) rfl (pid_range1 T.z_range (pad_cons (pd_callB cd_len (by rfl) T.z_len (by decide +kernel) (pad_cons (pd_var (i := 3)) pad_nil)) pad_nil)) (pgd_name (i := 4) nd) (pssd_one (psd_if (ptd_cmp od_gt (pd_op (od_mul mk_F) (pd_call (ok_column_sum T) (hr.mono (by decide)) T.g_column_sum T.F_column_sum.kp T.b_column_sum tk (pad_cons (pd_var (i := 0)) (pad_cons (pd_var (i := 2)) (pad_cons (pd_var (i := 4)) pad_nil)))) (pd_var (i := 7))) (pd_op (od_mul mk_F) (pd_var (i := 6)) (pd_callB (cd_sum rfl) (by rfl) T.z_sum (by decide +kernel) (pad_cons (pd_var (i := 2)) pad_nil)))) (pssd_one (psd_ret (pd_tup (pad_cons pd_str (pad_cons (pd_var (i := 4)) pad_nil))))) pssd_nil)))
      (pssd_cons (psd_for (passes_of rfl) rfl (pid_range1 T.z_range (pad_cons (pd_callB cd_len (by rfl) T.z_len (by decide +kernel) (pad_cons (pd_var (i := 2)) pad_nil)) pad_nil)) (pgd_name (i := 5) nd) (pssd_one (psd_if (ptd_cmp od_lt (pd_op (od_mul mk_F) (pd_call (ok_row_sum T) (hr.mono (by decide)) T.g_row_sum T.F_row_sum.kp T.b_row_sum tk (pad_cons (pd_var (i := 0)) (pad_cons (pd_var (i := 3)) (pad_cons (pd_var (i := 5)) pad_nil)))) (pd_var (i := 7))) (pd_op (od_mul mk_F) (pd_var (i := 6)) (pd_callB (cd_sum rfl) (by rfl) T.z_sum (by decide +kernel) (pad_cons (pd_var (i := 3)) pad_nil)))) (pssd_one (psd_ret (pd_tup (pad_cons pd_str (pad_cons (pd_var (i := 5)) pad_nil))))) pssd_nil)))
      (pssd_one (psd_ret pd_non))))))))
theorem ok_best_rows (T : Tx K mg) : FnOk P w K mg base (L2.CX P w) 5 T.a_best_rows T.d_best_rows ["table", "columns"] (spD ⟨K, mg⟩ F_best_rows) :=
  fn_mk (k := 4) (keep := false) (body := b_best_rows) T.F_best_rows sc_best_rows rfl fun cdv A outer s H E hr => by
    have nd := sc_best_rows.nd
    have tk : Takes (cxOf (L2.CX P w) P w K mg base ["table", "columns", "sums", "i"] "best_rows" (defScope s_best_rows) T.a_best_rows cdv A outer s H E) (fun cls d _ H' => E cls d H') := takes_of rfl rfl rfl rfl
    exact (pssd_cons (psd_expr (pd_call (ok_must_be_table T) (hr.mono (by decide)) T.g_must_be_table T.F_must_be_table.kp T.b_must_be_table tk (pad_cons (pd_var (i := 0)) pad_nil)))
      (pssd_cons (psd_if (ptd_not (ptd_truth (pd_call (ok_are_weights T) (hr.mono (by decide)) T.g_are_weights T.F_are_weights.kp T.b_are_weights tk (pad_cons (pd_var (i := 1)) (pad_cons (pd_callB cd_len (by rfl) T.z_len (by decide +kernel) (pad_cons (pd_ix ixd (pd_var (i := 0)) pd_int) pad_nil)) pad_nil))))) (pssd_one (psd_raise rfl tk T.r_NoWeights T.x_NoWeights)) pssd_nil)
      (pssd_cons (psd_set (i := 2) nd (pd_lc (own := [("i", 3)]) mk_F (tg_N (by decide)) rfl nd (pid_range1 T.z_range (pad_cons (pd_callB cd_len (by rfl) T.z_len (by decide +kernel) (pad_cons (pd_var (i := 0)) pad_nil)) pad_nil)) (blkOk_by (N := ["table", "columns", "sums", "i"]) (sc := defScope s_best_rows) (by decide +kernel)) (fun _ _ _ _ _ => pg_name (i := 3) nd rfl (Or.inl rfl)) (fun _ _ _ _ _ => (pd_call (ok_row_sum T) (hr.mono (by decide)) T.g_row_sum T.F_row_sum.kp T.b_row_sum takes0 (pad_cons (pd_var (i := 0)) (pad_cons (pd_var (i := 1)) (pad_cons (pd_var (i := 3)) pad_nil)))))))
      (pssd_one (psd_ret (pd_lcIf (own := [("i", 3)]) mk_F (tg_N (by decide)) rfl nd (pid_range1 T.z_range (pad_cons (pd_callB cd_len (by rfl) T.z_len (by decide +kernel) (pad_cons (pd_var (i := 2)) pad_nil)) pad_nil)) (blkOk_by (N := ["table", "columns", "sums", "i"]) (sc := defScope s_best_rows) (by decide +kernel)) (fun _ _ _ _ _ => pg_name (i := 3) nd rfl (Or.inl rfl)) (fun _ _ _ _ _ => (ptd_cmp (od_eq hr.units) (pd_ix ixd (pd_var (i := 2)) (pd_var (i := 3))) (pd_callB (cd_min rfl) (by rfl) T.z_min (by decide +kernel) (pad_cons (pd_var (i := 2)) pad_nil)))) (fun _ _ _ _ _ => (pd_var (i := 3)))))))))
theorem ok_best_columns (T : Tx K mg) : FnOk P w K mg base (L2.CX P w) 5 T.a_best_columns T.d_best_columns ["table", "rows"] (spD ⟨K, mg⟩ F_best_columns) :=
  fn_mk (k := 4) (keep := false) (body := b_best_columns) T.F_best_columns sc_best_columns rfl fun cdv A outer s H E hr => by
    have nd := sc_best_columns.nd
    have tk : Takes (cxOf (L2.CX P w) P w K mg base ["table", "rows", "sums", "j"] "best_columns" (defScope s_best_columns) T.a_best_columns cdv A outer s H E) (fun cls d _ H' => E cls d H') := takes_of rfl rfl rfl rfl
    exact (pssd_cons (psd_expr (pd_call (ok_must_be_table T) (hr.mono (by decide)) T.g_must_be_table T.F_must_be_table.kp T.b_must_be_table tk (pad_cons (pd_var (i := 0)) pad_nil)))
      (pssd_cons (psd_if (ptd_not (ptd_truth (pd_call (ok_are_weights T) (hr.mono (by decide)) T.g_are_weights T.F_are_weights.kp T.b_are_weights tk (pad_cons (pd_var (i := 1)) (pad_cons (pd_callB cd_len (by rfl) T.z_len (by decide +kernel) (pad_cons (pd_var (i := 0)) pad_nil)) pad_nil))))) (pssd_one (psd_raise rfl tk T.r_NoWeights T.x_NoWeights)) pssd_nil)
      (pssd_cons (psd_set (i := 2) nd (pd_lc (own := [("j", 3)]) mk_F (tg_N (by decide)) rfl nd (pid_range1 T.z_range (pad_cons (pd_callB cd_len (by rfl) T.z_len (by decide +kernel) (pad_cons (pd_ix ixd (pd_var (i := 0)) pd_int) pad_nil)) pad_nil)) (blkOk_by (N := ["table", "rows", "sums", "j"]) (sc := defScope s_best_columns) (by decide +kernel)) (fun _ _ _ _ _ => pg_name (i := 3) nd rfl (Or.inl rfl)) (fun _ _ _ _ _ => (pd_call (ok_column_sum T) (hr.mono (by decide)) T.g_column_sum T.F_column_sum.kp T.b_column_sum takes0 (pad_cons (pd_var (i := 0)) (pad_cons (pd_var (i := 1)) (pad_cons (pd_var (i := 3)) pad_nil)))))))
      (pssd_one (psd_ret (pd_lcIf (own := [("j", 3)]) mk_F (tg_N (by decide)) rfl nd (pid_range1 T.z_range (pad_cons (pd_callB cd_len (by rfl) T.z_len (by decide +kernel) (pad_cons (pd_var (i := 2)) pad_nil)) pad_nil)) (blkOk_by (N := ["table", "rows", "sums", "j"]) (sc := defScope s_best_columns) (by decide +kernel)) (fun _ _ _ _ _ => pg_name (i := 3) nd rfl (Or.inl rfl)) (fun _ _ _ _ _ => (ptd_cmp (od_eq hr.units) (pd_ix ixd (pd_var (i := 2)) (pd_var (i := 3))) (pd_callB (cd_max rfl) (by rfl) T.z_max (by decide +kernel) (pad_cons (pd_var (i := 2)) pad_nil)))) (fun _ _ _ _ _ => (pd_var (i := 3)))))))))
theorem ok__law_mix (T : Tx K mg) : FnOk P w K mg base (L2.CX P w) 2 T.a__law_mix T.d__law_mix ["_law_number", "_law_k"] (spD ⟨K, mg⟩ F__law_mix) :=
  fn_mk (k := 1) (keep := false) (body := b__law_mix) T.F__law_mix sc__law_mix rfl fun cdv A outer s H E hr => by
    have nd := sc__law_mix.nd
    have tk : Takes (cxOf (L2.CX P w) P w K mg base ["_law_number", "_law_k", "_law_mixed"] "_law_mix" (defScope s__law_mix) T.a__law_mix cdv A outer s H E) (fun cls d _ H' => E cls d H') := takes_of rfl rfl rfl rfl
    exact (pssd_cons (psd_set (i := 2) nd (pd_op od_mod (pd_op (od_mul mk_F) (pd_op (od_add mk_F) (pd_op (od_add mk_F) (pd_op (od_mul mk_F) (pd_var (i := 0)) (pd_var (i := 0))) (pd_op (od_mul mk_F) (pd_var (i := 1)) (pd_var (i := 0)))) (pd_op (od_mul mk_F) (pd_op (od_mul mk_F) pd_int (pd_var (i := 1))) (pd_var (i := 1)))) pd_int) pd_int))
      (pssd_one (psd_ret (pd_op od_mod (pd_op (od_mul mk_F) (pd_var (i := 2)) (pd_var (i := 2))) pd_int))))
theorem ok__law_cell_at (T : Tx K mg) : FnOk P w K mg base (L2.CX P w) 2 T.a__law_cell_at T.d__law_cell_at ["_law_script", "_law_k"] (spD ⟨K, mg⟩ F__law_cell_at) :=
  fn_mk (k := 1) (keep := false) (body := b__law_cell_at) T.F__law_cell_at sc__law_cell_at rfl fun cdv A outer s H E hr => by
    have nd := sc__law_cell_at.nd
    have tk : Takes (cxOf (L2.CX P w) P w K mg base ["_law_script", "_law_k"] "_law_cell_at" (defScope s__law_cell_at) T.a__law_cell_at cdv A outer s H E) (fun cls d _ H' => E cls d H') := takes_of rfl rfl rfl rfl
    exact (pssd_cons (psd_if (ptd_cmp od_lt (pd_var (i := 1)) (pd_callB cd_len (by rfl) T.z_len (by decide +kernel) (pad_cons (pd_var (i := 0)) pad_nil))) (pssd_one (psd_ret (pd_ix ixd (pd_var (i := 0)) (pd_var (i := 1))))) pssd_nil)
      (pssd_one (psd_ret pd_int)))
theorem ok__law_left (T : Tx K mg) : FnOk P w K mg base (L2.CX P w) 3 T.a__law_left T.d__law_left ["_law_script", "_law_k"] (spD ⟨K, mg⟩ F__law_left) :=
  fn_mk (k := 2) (keep := true) (body := b__law_left) T.F__law_left sc__law_left rfl fun cdv A outer s H E hr => by
    have nd := sc__law_left.nd
    have tk : Takes (cxOf (L2.CX P w) P w K mg base ["_law_script", "_law_k", "_law_cell"] "_law_left" (defScope s__law_left) T.a__law_left cdv A outer s H E) (fun cls d _ H' => E cls d H') := takes_of rfl rfl rfl rfl
    exact (pssd_cons (psd_set (i := 2) nd (pd_call (ok__law_cell_at T) (hr.mono (by decide)) T.g__law_cell_at T.F__law_cell_at.kp T.b__law_cell_at tk (pad_cons (pd_var (i := 0)) (pad_cons (pd_var (i := 1)) pad_nil))))
      (pssd_cons (psd_if (ptd_cmp od_lt (pd_var (i := 2)) (pd_op od_pow pd_int pd_int)) (pssd_one (psd_ret (pd_lst mk_C (pad_cons (pd_var (i := 2)) (pad_cons pd_int (pad_cons pd_int pad_nil)))))) pssd_nil)
      (pssd_one (psd_ret (pd_lst mk_C (pad_cons (pd_op od_sub (pd_var (i := 2)) (pd_op od_pow pd_int pd_int)) (pad_cons pd_int (pad_cons pd_int pad_nil))))))))
theorem ok__law_draw (T : Tx K mg) : FnOk P w K mg base (L2.CX P w) 3 T.a__law_draw T.d__law_draw ["_law_left_here", "_law_base"] (spD ⟨K, mg⟩ F__law_draw) :=
  fn_mk (k := 2) (keep := false) (body := b__law_draw) T.F__law_draw sc__law_draw rfl fun cdv A outer s H E hr => by
    have nd := sc__law_draw.nd
    have tk : Takes (cxOf (L2.CX P w) P w K mg base ["_law_left_here", "_law_base", "_law_digit", "_law_mixed"] "_law_draw" (defScope s__law_draw) T.a__law_draw cdv A outer s H E) (fun cls d _ H' => E cls d H') := takes_of rfl rfl rfl rfl
    exact (pssd_cons (psd_sub sd_list (pd_op (od_add mk_F) (pd_ix ixd (pd_var (i := 0)) pd_int) pd_int) (pd_var (i := 0)) pd_int)
      (pssd_cons (psd_if (ptd_cmp (od_eq hr.units) (pd_ix ixd (pd_var (i := 0)) pd_int) pd_int) (pssd_cons (psd_set (i := 3) nd (pd_call (ok__law_mix T) (hr.mono (by decide)) T.g__law_mix T.F__law_mix.kp T.b__law_mix tk (pad_cons (pd_ix ixd (pd_var (i := 0)) pd_int) (pad_cons (pd_ix ixd (pd_var (i := 0)) pd_int) pad_nil))))
      (pssd_one (psd_ret (pd_op od_mod (pd_op od_mod (pd_op (od_mul mk_F) (pd_var (i := 3)) (pd_op (od_add mk_F) (pd_var (i := 3)) pd_int)) pd_int) (pd_var (i := 1)))))) pssd_nil)
      (pssd_cons (psd_set (i := 2) nd (pd_op od_mod (pd_ix ixd (pd_var (i := 0)) pd_int) (pd_var (i := 1))))
      (pssd_cons (psd_sub sd_list (pd_op od_fdiv (pd_ix ixd (pd_var (i := 0)) pd_int) (pd_var (i := 1))) (pd_var (i := 0)) pd_int)
      (pssd_one (psd_ret (pd_var (i := 2))))))))
theorem ok__law_thing (T : Tx K mg) : FnOk P w K mg base (L2.CX P w) 4 T.a__law_thing T.d__law_thing ["_law_left_here"] (spD ⟨K, mg⟩ F__law_thing) :=
  fn_mk (k := 3) (keep := true) (body := b__law_thing) T.F__law_thing sc__law_thing rfl fun cdv A outer s H E hr => by
    have nd := sc__law_thing.nd
    have tk : Takes (cxOf (L2.CX P w) P w K mg base ["_law_left_here", "_law_table", "_law_wide", "_law_i", "_law_choice", "_law_bent", "_law_j"] "_law_thing" (defScope s__law_thing) T.a__law_thing cdv A outer s H E) (fun cls d _ H' => E cls d H') := takes_of rfl rfl rfl rfl
    exact (pssd_cons (psd_set (i := 1) nd (pd_lst mk_C pad_nil))
      (pssd_cons (psd_set (i := 2) nd (pd_op (od_add mk_F) pd_int (pd_call (ok__law_draw T) (hr.mono (by decide)) T.g__law_draw T.F__law_draw.kp T.b__law_draw tk (pad_cons (pd_var (i := 0)) (pad_cons pd_int pad_nil)))))
      (pssd_cons (psd_for (passes_of rfl) rfl (pid_range1 T.z_range (pad_cons (pd_op (od_add mk_F) pd_int (pd_call (ok__law_draw T) (hr.mono (by decide)) T.g__law_draw T.F__law_draw.kp T.b__law_draw tk (pad_cons (pd_var (i := 0)) (pad_cons pd_int pad_nil)))) pad_nil)) (pgd_name (i := 3) nd) (pssd_one (psd_expr (pd_bm PySem.F.plainAttrs_list PySem.F.slot_list_append PySem.F.type_list_append md_append (pd_var (i := 1)) (pad_cons (pd_lc (own := [("_law_j", 6)]) mk_C (tg_N (by decide)) rfl nd (pid_range1 T.z_range (pad_cons (pd_var (i := 2)) pad_nil)) (blkOk_by (N := ["_law_left_here", "_law_table", "_law_wide", "_law_i", "_law_choice", "_law_bent", "_law_j"]) (sc := defScope s__law_thing) (by decide +kernel)) (fun _ _ _ _ _ => pg_name (i := 6) nd rfl (Or.inl rfl)) (fun _ _ _ _ _ => (pd_op od_sub (pd_call (ok__law_draw T) (hr.mono (by decide)) T.g__law_draw T.F__law_draw.kp T.b__law_draw takes0 (pad_cons (pd_var (i := 0)) (pad_cons pd_int pad_nil))) pd_int))) pad_nil)))))
      (pssd_cons (psd_set (i := 3) nd (pd_call (ok__law_draw T) (hr.mono (by decide)) T.g__law_draw T.F__law_draw.kp T.b__law_draw tk (pad_cons (pd_var (i := 0)) (pad_cons (pd_callB cd_len (by rfl) T.z_len (by decide +kernel) (pad_cons (pd_var (i := 1)) pad_nil)) pad_nil))))
      (pssd_cons (psd_set (i := 4) nd (pd_call (ok__law_draw T) (hr.mono (by decide)) T.g__law_draw T.F__law_draw.kp T.b__law_draw tk (pad_cons (pd_var (i := 0)) (pad_cons pd_int pad_nil))))
      (pssd_cons (psd_set (i := 5) nd (pd_lst mk_F (pad_cons (pd_lst mk_F pad_nil) (pad_cons (pd_lst mk_F (pad_cons (pd_lst mk_F pad_nil) pad_nil)) (pad_cons (pd_op (od_add mk_F) (pd_var (i := 1)) (pd_lst mk_F (pad_cons (pd_op (od_mul mk_F) (pd_lst mk_F (pad_cons pd_int pad_nil)) (pd_op (od_add mk_F) (pd_var (i := 2)) pd_int)) pad_nil))) (pad_cons (pd_op (od_add mk_F) (pd_op (od_add mk_F) (pd_slice mk_F (pd_var (i := 1)) pod_none (pod_some (pd_var (i := 3)))) (pd_lst mk_F (pad_cons (pd_slice mk_F (pd_ix ixd (pd_var (i := 1)) (pd_var (i := 3))) (pod_some pd_int) pod_none) pad_nil))) (pd_slice mk_F (pd_var (i := 1)) (pod_some (pd_op (od_add mk_F) (pd_var (i := 3)) pd_int)) pod_none)) (pad_cons (pd_op (od_add mk_F) (pd_var (i := 1)) (pd_op (od_mul mk_F) (pd_lst mk_F (pad_cons (pd_lst mk_F pad_nil) pad_nil)) pd_int)) pad_nil)))))))
      (pssd_cons (psd_set (i := 5) nd (pd_op (od_add mk_F) (pd_var (i := 5)) (pd_lst mk_F (pad_cons (pd_op (od_mul mk_F) (pd_lst mk_F (pad_cons (pd_op (od_mul mk_F) (pd_lst mk_F (pad_cons pd_int pad_nil)) (pd_var (i := 2))) pad_nil)) pd_int) (pad_cons (pd_op (od_mul mk_F) (pd_lst mk_F (pad_cons (pd_op (od_mul mk_F) (pd_lst mk_F (pad_cons pd_int pad_nil)) (pd_var (i := 2))) pad_nil)) pd_int) (pad_cons (pd_lst mk_F (pad_cons (pd_op (od_mul mk_F) (pd_lst mk_F (pad_cons pd_int pad_nil)) pd_int) pad_nil)) (pad_cons (pd_lst mk_F (pad_cons (pd_op (od_mul mk_F) (pd_lst mk_F (pad_cons pd_int pad_nil)) pd_int) pad_nil)) (pad_cons (pd_op (od_mul mk_F) (pd_lst mk_F (pad_cons (pd_lst mk_F pad_nil) pad_nil)) pd_int) (pad_cons (pd_callTy cd_tuple (by rfl) T.z_tuple (by decide +kernel) (pad_cons (pd_var (i := 1)) pad_nil)) pad_nil)))))))))
      (pssd_cons (psd_if (ptd_cmp od_lt (pd_var (i := 4)) pd_int) (pssd_one (psd_ret (pd_dfz (pd_ix ixd (pd_var (i := 5)) (pd_var (i := 4)))))) pssd_nil)
      (pssd_cons (psd_if (ptd_cmp od_lt (pd_var (i := 4)) pd_int) (pssd_one (psd_sub sd_list (pd_ix ixd (pd_lst mk_F (pad_cons pd_bl (pad_cons pd_str (pad_cons pd_non (pad_cons (pd_tup (pad_cons pd_int pad_nil)) pad_nil))))) (pd_op od_sub (pd_var (i := 4)) pd_int)) (pd_ix ixd (pd_var (i := 1)) (pd_var (i := 3))) (pd_call (ok__law_draw T) (hr.mono (by decide)) T.g__law_draw T.F__law_draw.kp T.b__law_draw tk (pad_cons (pd_var (i := 0)) (pad_cons (pd_var (i := 2)) pad_nil))))) pssd_nil)
      (pssd_cons (psd_if (ptd_cmp (od_eq hr.units) (pd_var (i := 4)) pd_int) (pssd_one (psd_sub sd_list (pd_ix ixd (pd_lst mk_F (pad_cons (pd_callTy cd_tuple (by rfl) T.z_tuple (by decide +kernel) (pad_cons (pd_ix ixd (pd_var (i := 1)) (pd_var (i := 3))) pad_nil)) (pad_cons pd_non (pad_cons pd_int (pad_cons pd_str pad_nil))))) (pd_call (ok__law_draw T) (hr.mono (by decide)) T.g__law_draw T.F__law_draw.kp T.b__law_draw tk (pad_cons (pd_var (i := 0)) (pad_cons pd_int pad_nil)))) (pd_var (i := 1)) (pd_var (i := 3)))) pssd_nil)
      (pssd_cons (psd_if (ptd_cmp (od_eq hr.units) (pd_var (i := 4)) pd_int) (pssd_one (psd_ret (pd_ix ixd (pd_lst mk_F (pad_cons pd_non (pad_cons pd_int (pad_cons pd_str (pad_cons pd_dct0 pad_nil))))) (pd_call (ok__law_draw T) (hr.mono (by decide)) T.g__law_draw T.F__law_draw.kp T.b__law_draw tk (pad_cons (pd_var (i := 0)) (pad_cons pd_int pad_nil)))))) pssd_nil)
      (pssd_one (psd_ret (pd_dfz (pd_var (i := 1))))))))))))))))
theorem ok__law_is_table (T : Tx K mg) : FnOk P w K mg base (L2.CX P w) 2 T.a__law_is_table T.d__law_is_table ["_law_thing_here"] (spD ⟨K, mg⟩ F__law_is_table) :=
  fn_mk (k := 1) (keep := false) (body := b__law_is_table) T.F__law_is_table sc__law_is_table rfl fun cdv A outer s H E hr => by
    have nd := sc__law_is_table.nd
    have tk : Takes (cxOf (L2.CX P w) P w K mg base ["_law_thing_here", "_law_row", "_law_number"] "_law_is_table" (defScope s__law_is_table) T.a__law_is_table cdv A outer s H E) (fun cls d _ H' => E cls d H') := takes_of rfl rfl rfl rfl
    exact (pssd_cons (psd_if (PWD.pt (pwd_or (ptd_not (ptd_truth (pd_callB cd_isi (by rfl) T.z_isinstance (by decide +kernel) (pad_cons (pd_var (i := 0)) (pad_cons (pd_ty T.z_list (by decide +kernel)) pad_nil))))) (pwd_or (ptd_cmp od_lt (pd_callB cd_len (by rfl) T.z_len (by decide +kernel) (pad_cons (pd_var (i := 0)) pad_nil)) pd_int) (pwd_or1 (ptd_cmp od_gt (pd_callB cd_len (by rfl) T.z_len (by decide +kernel) (pad_cons (pd_var (i := 0)) pad_nil)) pd_int))))) (pssd_one (psd_ret pd_bl)) pssd_nil)
      (pssd_cons (psd_for (passes_of rfl) rfl (pid_list (pd_var (i := 0))) (pgd_name (i := 1) nd) (pssd_cons (psd_if (PWD.pt (pwd_or (ptd_not (ptd_truth (pd_callB cd_isi (by rfl) T.z_isinstance (by decide +kernel) (pad_cons (pd_var (i := 1)) (pad_cons (pd_ty T.z_list (by decide +kernel)) pad_nil))))) (pwd_or (ptd_cmp od_lt (pd_callB cd_len (by rfl) T.z_len (by decide +kernel) (pad_cons (pd_var (i := 1)) pad_nil)) pd_int) (pwd_or (ptd_cmp od_gt (pd_callB cd_len (by rfl) T.z_len (by decide +kernel) (pad_cons (pd_var (i := 1)) pad_nil)) pd_int) (pwd_or1 (ptd_cmp (od_ne hr.units) (pd_callB cd_len (by rfl) T.z_len (by decide +kernel) (pad_cons (pd_var (i := 1)) pad_nil)) (pd_callB cd_len (by rfl) T.z_len (by decide +kernel) (pad_cons (pd_ix ixd (pd_var (i := 0)) pd_int) pad_nil)))))))) (pssd_one (psd_ret pd_bl)) pssd_nil)
      (pssd_one (psd_for (passes_of rfl) rfl (pid_list (pd_var (i := 1))) (pgd_name (i := 2) nd) (pssd_one (psd_if (PWD.pt (pwd_or (ptd_truth (pd_callB cd_isi (by rfl) T.z_isinstance (by decide +kernel) (pad_cons (pd_var (i := 2)) (pad_cons (pd_ty T.z_bool (by decide +kernel)) pad_nil)))) (pwd_or1 (ptd_not (ptd_truth (pd_callB cd_isi (by rfl) T.z_isinstance (by decide +kernel) (pad_cons (pd_var (i := 2)) (pad_cons (pd_ty T.z_int (by decide +kernel)) pad_nil)))))))) (pssd_one (psd_ret pd_bl)) pssd_nil))))))
      (pssd_one (psd_ret pd_bl))))
theorem ok__law_refused (T : Tx K mg) : FnOk P w K mg base (L2.CX P w) 6 T.a__law_refused T.d__law_refused ["_law_thing_here", "_law_which"] (spD ⟨K, mg⟩ F__law_refused) :=
  fn_mk (k := 5) (keep := false) (body := b__law_refused) T.F__law_refused sc__law_refused rfl fun cdv A outer s H E hr => by
    have nd := sc__law_refused.nd
    have tk : Takes (cxOf (L2.CX P w) P w K mg base ["_law_thing_here", "_law_which", "_law_caught", "e"] "_law_refused" (defScope s__law_refused) T.a__law_refused cdv A outer s H E) (fun cls d _ H' => E cls d H') := takes_of rfl rfl rfl rfl
    exact (pssd_cons (psd_set (i := 2) nd pd_non)
      (pssd_cons (psd_tryKeep (i := 3) (j := 2) (L := catchL) rfl rfl rfl nd rfl rfl (by decide) rfl rfl tk rfl T.k_HideError T.ct (fun _ pn1 xe1 tk1 pas1 => (pssd_cons (psd_if (ptd_cmp (od_eq hr.units) (pd_var (i := 1)) pd_int) (pssd_one (psd_expr (pd_call (ok_table_worth T) (hr.mono (by decide)) T.g_table_worth T.F_table_worth.kp T.b_table_worth tk1 (pad_cons (pd_var (i := 0)) pad_nil)))) pssd_nil)
      (pssd_cons (psd_if (ptd_cmp (od_eq hr.units) (pd_var (i := 1)) pd_int) (pssd_one (psd_expr (pd_call (ok_table_judged T) (hr.mono (by decide)) T.g_table_judged T.F_table_judged.kp T.b_table_judged tk1 (pad_cons (pd_var (i := 0)) (pad_cons (pd_tup (pad_cons pd_int (pad_cons pd_int pad_nil))) (pad_cons (pd_lst mk_F pad_nil) (pad_cons pd_non pad_nil))))))) pssd_nil)
      (pssd_cons (psd_if (ptd_cmp (od_eq hr.units) (pd_var (i := 1)) pd_int) (pssd_one (psd_expr (pd_call (ok_best_rows T) (hr.mono (by decide)) T.g_best_rows T.F_best_rows.kp T.b_best_rows tk1 (pad_cons (pd_var (i := 0)) (pad_cons (pd_lst mk_F pad_nil) pad_nil))))) pssd_nil)
      (pssd_one (psd_if (ptd_cmp (od_eq hr.units) (pd_var (i := 1)) pd_int) (pssd_one (psd_expr (pd_call (ok_best_columns T) (hr.mono (by decide)) T.g_best_columns T.F_best_columns.kp T.b_best_columns tk1 (pad_cons (pd_var (i := 0)) (pad_cons (pd_lst mk_F (pad_cons (pd_un ud_neg pd_int) pad_nil)) pad_nil))))) pssd_nil)))))))
      (pssd_cons (psd_if (ptd_truth (pd_callB (cd_isE T.xc) (by rfl) T.z_isinstance (by decide +kernel) (pad_cons (pd_var (i := 2)) (pad_cons (pd_tup (pad_cons (pd_cls T.k_NoBoxes) (pad_cons (pd_cls T.k_NoBudget) (pad_cons (pd_cls T.k_NoKind) (pad_cons (pd_cls T.k_NoName) (pad_cons (pd_cls T.k_NoNumber) (pad_cons (pd_cls T.k_NoOrder) (pad_cons (pd_cls T.k_NoPaper) (pad_cons (pd_cls T.k_NoPlan) (pad_cons (pd_cls T.k_NoPlay) pad_nil)))))))))) pad_nil)))) (pssd_one (psd_ret pd_bl)) pssd_nil)
      (pssd_cons (psd_if (ptd_truth (pd_callB (cd_isE T.xc) (by rfl) T.z_isinstance (by decide +kernel) (pad_cons (pd_var (i := 2)) (pad_cons (pd_tup (pad_cons (pd_cls T.k_NoRoad) (pad_cons (pd_cls T.k_NoRow) (pad_cons (pd_cls T.k_NoText) (pad_cons (pd_cls T.k_NoTree) (pad_cons (pd_cls T.k_NoTurns) (pad_cons (pd_cls T.k_NoWeb) (pad_cons (pd_cls T.k_NoWeights) (pad_cons (pd_cls T.k_TooGreat) pad_nil))))))))) pad_nil)))) (pssd_one (psd_ret pd_bl)) pssd_nil)
      (pssd_one (psd_ret (pd_and (pd_callB (cd_isE T.xc) (by rfl) T.z_isinstance (by decide +kernel) (pad_cons (pd_var (i := 2)) (pad_cons (pd_cls T.k_NoTable) pad_nil))) (pd_one (pd_callB (cd_isE T.xc) (by rfl) T.z_isinstance (by decide +kernel) (pad_cons (pd_var (i := 2)) (pad_cons (pd_ty T.z_ValueError (by decide +kernel)) pad_nil)))))))))))
theorem ok_law (T : Tx K mg) : FnOk P w K mg base (L2.CX P w) 7 T.a_law T.d_law ["_law_script"] (spD ⟨K, mg⟩ F_law) :=
  fn_mk (k := 6) (keep := false) (body := b_law) T.F_law sc_law rfl fun cdv A outer s H E hr => by
    have nd := sc_law.nd
    have tk : Takes (cxOf (L2.CX P w) P w K mg base ["_law_script", "_law_cell", "_law_thing_here", "_law_kept", "_law_which"] "law" (defScope s_law) T.a_law cdv A outer s H E) (fun cls d _ H' => E cls d H') := takes_of rfl rfl rfl rfl
    exact (pssd_cons (psd_for (passes_of rfl) rfl (pid_list (pd_op (od_add mk_F) (pd_listRg1 mk_F rfl T.z_range T.z_list pd_int) (pd_slice mk_F (pd_var (i := 0)) pod_none (pod_some pd_int)))) (pgd_name (i := 1) nd) (pssd_cons (psd_set (i := 2) nd (pd_call (ok__law_thing T) (hr.mono (by decide)) T.g__law_thing T.F__law_thing.kp T.b__law_thing tk (pad_cons (pd_call (ok__law_left T) (hr.mono (by decide)) T.g__law_left T.F__law_left.kp T.b__law_left tk (pad_cons (pd_lst mk_F (pad_cons (pd_var (i := 1)) pad_nil)) (pad_cons pd_int pad_nil))) pad_nil)))
      (pssd_cons (psd_set (i := 3) nd (pd_call (ok__law_thing T) (hr.mono (by decide)) T.g__law_thing T.F__law_thing.kp T.b__law_thing tk (pad_cons (pd_call (ok__law_left T) (hr.mono (by decide)) T.g__law_left T.F__law_left.kp T.b__law_left tk (pad_cons (pd_lst mk_F (pad_cons (pd_var (i := 1)) pad_nil)) (pad_cons pd_int pad_nil))) pad_nil)))
      (pssd_cons (psd_if (ptd_truth (pd_call (ok__law_is_table T) (hr.mono (by decide)) T.g__law_is_table T.F__law_is_table.kp T.b__law_is_table tk (pad_cons (pd_var (i := 2)) pad_nil))) (pssd_one (psd_if (ptd_cmp (od_ne hr.units) (pd_callB cd_len (by rfl) T.z_len (by decide +kernel) (pad_cons (pd_call (ok_table_worth T) (hr.mono (by decide)) T.g_table_worth T.F_table_worth.kp T.b_table_worth tk (pad_cons (pd_var (i := 2)) pad_nil)) pad_nil)) pd_int) (pssd_one (psd_ret pd_bl)) pssd_nil)) (pssd_one (psd_if (ptd_cmp od_in pd_bl (pd_lc (own := [("_law_which", 4)]) mk_F (tg_N (by decide)) rfl nd (pid_range1 T.z_range (pad_cons pd_int pad_nil)) (blkOk_by (N := ["_law_script", "_law_cell", "_law_thing_here", "_law_kept", "_law_which"]) (sc := defScope s_law) (by decide +kernel)) (fun _ _ _ _ _ => pg_name (i := 4) nd rfl (Or.inl rfl)) (fun _ _ _ _ _ => (pd_call (ok__law_refused T) (hr.mono (by decide)) T.g__law_refused T.F__law_refused.kp T.b__law_refused takes0 (pad_cons (pd_var (i := 2)) (pad_cons (pd_var (i := 4)) pad_nil)))))) (pssd_one (psd_ret pd_bl)) pssd_nil)))
      (pssd_one (psd_if (ptd_cmp (od_neX hr.units) (pd_var (i := 2)) (pd_var (i := 3))) (pssd_one (psd_ret pd_bl)) pssd_nil))))))
      (pssd_one (psd_ret pd_bl)))
end
section
theorem all_mk {P : Program} {w : World} {K : PySem.W.Frag} {h : Heap} {mg : Str → Option Value} {fa : Addr} (X : K.In h) (G : h.Ns mainGlobals mg) (hfa : mg "law" = some (.ref fa)) (ht : LawTrue F_law) {f0 f1 f2 f3 f4 f5 f6 f7 f8 f9 f10 f11 f12 f13 f14 f15 f16 f17 f18 f19 f20 f21 f22 f23 f24 : Addr} {od0 an0 od1 an1 od2 an2 od3 an3 od4 an4 od5 an5 od6 an6 od7 an7 od8 an8 od9 an9 od10 an10 od11 an11 od12 an12 od13 an13 od14 an14 od15 an15 od16 an16 od17 an17 od18 an18 od19 an19 od20 an20 od21 an21 od22 an22 od23 an23 od24 an24 : Option Addr} {sl0 sl1 sl2 sl3 sl4 sl5 sl6 sl7 sl8 sl9 sl10 sl11 sl12 sl13 sl14 sl15 sl16 sl17 sl18 sl19 sl20 sl21 sl22 sl23 sl24 : Array (Option Value)} {oc0 kV0 dc0 pm0 cd0 ct0 oc1 kV1 dc1 pm1 cd1 ct1 oc2 kV2 dc2 pm2 cd2 ct2 oc3 kV3 dc3 pm3 cd3 ct3 oc4 kV4 dc4 pm4 cd4 ct4 oc5 kV5 dc5 pm5 cd5 ct5 oc6 kV6 dc6 pm6 cd6 ct6 oc7 kV7 dc7 pm7 cd7 ct7 oc8 kV8 dc8 pm8 cd8 ct8 oc9 kV9 dc9 pm9 cd9 ct9 oc10 kV10 dc10 pm10 cd10 ct10 oc11 kV11 dc11 pm11 cd11 ct11 oc12 kV12 dc12 pm12 cd12 ct12 oc13 kV13 dc13 pm13 cd13 ct13 oc14 kV14 dc14 pm14 cd14 ct14 oc15 kV15 dc15 pm15 cd15 ct15 oc16 kV16 dc16 pm16 cd16 ct16 oc17 kV17 dc17 pm17 cd17 ct17 oc18 kV18 dc18 pm18 cd18 ct18 oc19 kV19 dc19 pm19 cd19 ct19 oc20 kV20 dc20 pm20 cd20 ct20 oc21 kV21 dc21 pm21 cd21 ct21 oc22 kV22 dc22 pm22 cd22 ct22 oc23 kV23 dc23 pm23 cd23 ct23 oc24 kV24 dc24 pm24 cd24 ct24 : Value} {Cc_NoNumber Cc_NoTable Cc_NoWeights Cc_HideError Cc_NoPlay Cc_NoPlan Cc_NoPaper Cc_NoOrder Cc_NoName Cc_NoKind Cc_NoBudget Cc_NoBoxes Cc_TooGreat Cc_NoWeb Cc_NoTurns Cc_NoTree Cc_NoText Cc_NoRow Cc_NoRoad : Addr} {t_MOST : Tok}
    (a0 : PySem.W.nsIn K mainGlobals "divisor" = some (some (.ref f0))) (l0 : K.lookup f0 = some ⟨oc0, od0, .func (PySem.W.fnOf "divisor" "divisor" (defArgs s_divisor) (defBody s_divisor) (defScope s_divisor) .none kV0 dc0 pm0 an0 cd0 ct0), sl0⟩) (c0 : PySem.W.codeIn K cd0 "divisor" = true) (k0 : PySem.W.keepIn K (.ref f0) = true)
    (a1 : PySem.W.nsIn K mainGlobals "ratio" = some (some (.ref f1))) (l1 : K.lookup f1 = some ⟨oc1, od1, .func (PySem.W.fnOf "ratio" "ratio" (defArgs s_ratio) (defBody s_ratio) (defScope s_ratio) .none kV1 dc1 pm1 an1 cd1 ct1), sl1⟩) (c1 : PySem.W.codeIn K cd1 "ratio" = true) (k1 : PySem.W.keepIn K (.ref f1) = true)
    (a2 : PySem.W.nsIn K mainGlobals "is_number" = some (some (.ref f2))) (l2 : K.lookup f2 = some ⟨oc2, od2, .func (PySem.W.fnOf "is_number" "is_number" (defArgs s_is_number) (defBody s_is_number) (defScope s_is_number) .none kV2 dc2 pm2 an2 cd2 ct2), sl2⟩) (c2 : PySem.W.codeIn K cd2 "is_number" = true) (k2 : PySem.W.keepIn K (.ref f2) = true)
    (a3 : PySem.W.nsIn K mainGlobals "are_numbers" = some (some (.ref f3))) (l3 : K.lookup f3 = some ⟨oc3, od3, .func (PySem.W.fnOf "are_numbers" "are_numbers" (defArgs s_are_numbers) (defBody s_are_numbers) (defScope s_are_numbers) .none kV3 dc3 pm3 an3 cd3 ct3), sl3⟩) (c3 : PySem.W.codeIn K cd3 "are_numbers" = true) (k3 : PySem.W.keepIn K (.ref f3) = true)
    (a4 : PySem.W.nsIn K mainGlobals "are_weights" = some (some (.ref f4))) (l4 : K.lookup f4 = some ⟨oc4, od4, .func (PySem.W.fnOf "are_weights" "are_weights" (defArgs s_are_weights) (defBody s_are_weights) (defScope s_are_weights) .none kV4 dc4 pm4 an4 cd4 ct4), sl4⟩) (c4 : PySem.W.codeIn K cd4 "are_weights" = true) (k4 : PySem.W.keepIn K (.ref f4) = true)
    (a5 : PySem.W.nsIn K mainGlobals "must_be_table" = some (some (.ref f5))) (l5 : K.lookup f5 = some ⟨oc5, od5, .func (PySem.W.fnOf "must_be_table" "must_be_table" (defArgs s_must_be_table) (defBody s_must_be_table) (defScope s_must_be_table) .none kV5 dc5 pm5 an5 cd5 ct5), sl5⟩) (c5 : PySem.W.codeIn K cd5 "must_be_table" = true) (k5 : PySem.W.keepIn K (.ref f5) = true)
    (a6 : PySem.W.nsIn K mainGlobals "least_share" = some (some (.ref f6))) (l6 : K.lookup f6 = some ⟨oc6, od6, .func (PySem.W.fnOf "least_share" "least_share" (defArgs s_least_share) (defBody s_least_share) (defScope s_least_share) .none kV6 dc6 pm6 an6 cd6 ct6), sl6⟩) (c6 : PySem.W.codeIn K cd6 "least_share" = true) (k6 : PySem.W.keepIn K (.ref f6) = true)
    (a7 : PySem.W.nsIn K mainGlobals "pivoted" = some (some (.ref f7))) (l7 : K.lookup f7 = some ⟨oc7, od7, .func (PySem.W.fnOf "pivoted" "pivoted" (defArgs s_pivoted) (defBody s_pivoted) (defScope s_pivoted) .none kV7 dc7 pm7 an7 cd7 ct7), sl7⟩) (c7 : PySem.W.codeIn K cd7 "pivoted" = true) (k7 : PySem.W.keepIn K (.ref f7) = true)
    (a8 : PySem.W.nsIn K mainGlobals "gone_through" = some (some (.ref f8))) (l8 : K.lookup f8 = some ⟨oc8, od8, .func (PySem.W.fnOf "gone_through" "gone_through" (defArgs s_gone_through) (defBody s_gone_through) (defScope s_gone_through) .none kV8 dc8 pm8 an8 cd8 ct8), sl8⟩) (c8 : PySem.W.codeIn K cd8 "gone_through" = true) (k8 : PySem.W.keepIn K (.ref f8) = true)
    (a9 : PySem.W.nsIn K mainGlobals "lessened" = some (some (.ref f9))) (l9 : K.lookup f9 = some ⟨oc9, od9, .func (PySem.W.fnOf "lessened" "lessened" (defArgs s_lessened) (defBody s_lessened) (defScope s_lessened) .none kV9 dc9 pm9 an9 cd9 ct9), sl9⟩) (c9 : PySem.W.codeIn K cd9 "lessened" = true) (k9 : PySem.W.keepIn K (.ref f9) = true)
    (a10 : PySem.W.nsIn K mainGlobals "solved" = some (some (.ref f10))) (l10 : K.lookup f10 = some ⟨oc10, od10, .func (PySem.W.fnOf "solved" "solved" (defArgs s_solved) (defBody s_solved) (defScope s_solved) .none kV10 dc10 pm10 an10 cd10 ct10), sl10⟩) (c10 : PySem.W.codeIn K cd10 "solved" = true) (k10 : PySem.W.keepIn K (.ref f10) = true)
    (a11 : PySem.W.nsIn K mainGlobals "table_worth" = some (some (.ref f11))) (l11 : K.lookup f11 = some ⟨oc11, od11, .func (PySem.W.fnOf "table_worth" "table_worth" (defArgs s_table_worth) (defBody s_table_worth) (defScope s_table_worth) .none kV11 dc11 pm11 an11 cd11 ct11), sl11⟩) (c11 : PySem.W.codeIn K cd11 "table_worth" = true) (k11 : PySem.W.keepIn K (.ref f11) = true)
    (a12 : PySem.W.nsIn K mainGlobals "column_sum" = some (some (.ref f12))) (l12 : K.lookup f12 = some ⟨oc12, od12, .func (PySem.W.fnOf "column_sum" "column_sum" (defArgs s_column_sum) (defBody s_column_sum) (defScope s_column_sum) .none kV12 dc12 pm12 an12 cd12 ct12), sl12⟩) (c12 : PySem.W.codeIn K cd12 "column_sum" = true) (k12 : PySem.W.keepIn K (.ref f12) = true)
    (a13 : PySem.W.nsIn K mainGlobals "row_sum" = some (some (.ref f13))) (l13 : K.lookup f13 = some ⟨oc13, od13, .func (PySem.W.fnOf "row_sum" "row_sum" (defArgs s_row_sum) (defBody s_row_sum) (defScope s_row_sum) .none kV13 dc13 pm13 an13 cd13 ct13), sl13⟩) (c13 : PySem.W.codeIn K cd13 "row_sum" = true) (k13 : PySem.W.keepIn K (.ref f13) = true)
    (a14 : PySem.W.nsIn K mainGlobals "table_judged" = some (some (.ref f14))) (l14 : K.lookup f14 = some ⟨oc14, od14, .func (PySem.W.fnOf "table_judged" "table_judged" (defArgs s_table_judged) (defBody s_table_judged) (defScope s_table_judged) .none kV14 dc14 pm14 an14 cd14 ct14), sl14⟩) (c14 : PySem.W.codeIn K cd14 "table_judged" = true) (k14 : PySem.W.keepIn K (.ref f14) = true)
    (a15 : PySem.W.nsIn K mainGlobals "best_rows" = some (some (.ref f15))) (l15 : K.lookup f15 = some ⟨oc15, od15, .func (PySem.W.fnOf "best_rows" "best_rows" (defArgs s_best_rows) (defBody s_best_rows) (defScope s_best_rows) .none kV15 dc15 pm15 an15 cd15 ct15), sl15⟩) (c15 : PySem.W.codeIn K cd15 "best_rows" = true) (k15 : PySem.W.keepIn K (.ref f15) = true)
    (a16 : PySem.W.nsIn K mainGlobals "best_columns" = some (some (.ref f16))) (l16 : K.lookup f16 = some ⟨oc16, od16, .func (PySem.W.fnOf "best_columns" "best_columns" (defArgs s_best_columns) (defBody s_best_columns) (defScope s_best_columns) .none kV16 dc16 pm16 an16 cd16 ct16), sl16⟩) (c16 : PySem.W.codeIn K cd16 "best_columns" = true) (k16 : PySem.W.keepIn K (.ref f16) = true)
    (a17 : PySem.W.nsIn K mainGlobals "_law_mix" = some (some (.ref f17))) (l17 : K.lookup f17 = some ⟨oc17, od17, .func (PySem.W.fnOf "_law_mix" "_law_mix" (defArgs s__law_mix) (defBody s__law_mix) (defScope s__law_mix) .none kV17 dc17 pm17 an17 cd17 ct17), sl17⟩) (c17 : PySem.W.codeIn K cd17 "_law_mix" = true) (k17 : PySem.W.keepIn K (.ref f17) = true)
    (a18 : PySem.W.nsIn K mainGlobals "_law_cell_at" = some (some (.ref f18))) (l18 : K.lookup f18 = some ⟨oc18, od18, .func (PySem.W.fnOf "_law_cell_at" "_law_cell_at" (defArgs s__law_cell_at) (defBody s__law_cell_at) (defScope s__law_cell_at) .none kV18 dc18 pm18 an18 cd18 ct18), sl18⟩) (c18 : PySem.W.codeIn K cd18 "_law_cell_at" = true) (k18 : PySem.W.keepIn K (.ref f18) = true)
    (a19 : PySem.W.nsIn K mainGlobals "_law_left" = some (some (.ref f19))) (l19 : K.lookup f19 = some ⟨oc19, od19, .func (PySem.W.fnOf "_law_left" "_law_left" (defArgs s__law_left) (defBody s__law_left) (defScope s__law_left) .none kV19 dc19 pm19 an19 cd19 ct19), sl19⟩) (c19 : PySem.W.codeIn K cd19 "_law_left" = true) (k19 : PySem.W.keepIn K (.ref f19) = true)
    (a20 : PySem.W.nsIn K mainGlobals "_law_draw" = some (some (.ref f20))) (l20 : K.lookup f20 = some ⟨oc20, od20, .func (PySem.W.fnOf "_law_draw" "_law_draw" (defArgs s__law_draw) (defBody s__law_draw) (defScope s__law_draw) .none kV20 dc20 pm20 an20 cd20 ct20), sl20⟩) (c20 : PySem.W.codeIn K cd20 "_law_draw" = true) (k20 : PySem.W.keepIn K (.ref f20) = true)
    (a21 : PySem.W.nsIn K mainGlobals "_law_thing" = some (some (.ref f21))) (l21 : K.lookup f21 = some ⟨oc21, od21, .func (PySem.W.fnOf "_law_thing" "_law_thing" (defArgs s__law_thing) (defBody s__law_thing) (defScope s__law_thing) .none kV21 dc21 pm21 an21 cd21 ct21), sl21⟩) (c21 : PySem.W.codeIn K cd21 "_law_thing" = true) (k21 : PySem.W.keepIn K (.ref f21) = true)
    (a22 : PySem.W.nsIn K mainGlobals "_law_is_table" = some (some (.ref f22))) (l22 : K.lookup f22 = some ⟨oc22, od22, .func (PySem.W.fnOf "_law_is_table" "_law_is_table" (defArgs s__law_is_table) (defBody s__law_is_table) (defScope s__law_is_table) .none kV22 dc22 pm22 an22 cd22 ct22), sl22⟩) (c22 : PySem.W.codeIn K cd22 "_law_is_table" = true) (k22 : PySem.W.keepIn K (.ref f22) = true)
    (a23 : PySem.W.nsIn K mainGlobals "_law_refused" = some (some (.ref f23))) (l23 : K.lookup f23 = some ⟨oc23, od23, .func (PySem.W.fnOf "_law_refused" "_law_refused" (defArgs s__law_refused) (defBody s__law_refused) (defScope s__law_refused) .none kV23 dc23 pm23 an23 cd23 ct23), sl23⟩) (c23 : PySem.W.codeIn K cd23 "_law_refused" = true) (k23 : PySem.W.keepIn K (.ref f23) = true)
    (a24 : PySem.W.nsIn K mainGlobals "law" = some (some (.ref f24))) (l24 : K.lookup f24 = some ⟨oc24, od24, .func (PySem.W.fnOf "law" "law" (defArgs s_law) (defBody s_law) (defScope s_law) .none kV24 dc24 pm24 an24 cd24 ct24), sl24⟩) (c24 : PySem.W.codeIn K cd24 "law" = true) (k24 : PySem.W.keepIn K (.ref f24) = true)
    (z_abs : PySem.W.nsIn K mainGlobals "abs" = some none)
    (z_int : PySem.W.nsIn K mainGlobals "int" = some none)
    (z_isinstance : PySem.W.nsIn K mainGlobals "isinstance" = some none)
    (z_bool : PySem.W.nsIn K mainGlobals "bool" = some none)
    (z_list : PySem.W.nsIn K mainGlobals "list" = some none)
    (z_len : PySem.W.nsIn K mainGlobals "len" = some none)
    (z_min : PySem.W.nsIn K mainGlobals "min" = some none)
    (z_max : PySem.W.nsIn K mainGlobals "max" = some none)
    (z_range : PySem.W.nsIn K mainGlobals "range" = some none)
    (z_sum : PySem.W.nsIn K mainGlobals "sum" = some none)
    (z_tuple : PySem.W.nsIn K mainGlobals "tuple" = some none)
    (z_ValueError : PySem.W.nsIn K mainGlobals "ValueError" = some none)
    (c_MOST : PySem.W.nsIn K mainGlobals "MOST" = some (some (.int 12 t_MOST)))
    (qn_NoNumber : PySem.W.nsIn K mainGlobals "NoNumber" = some (some (.ref Cc_NoNumber))) (qi_NoNumber : PySem.W.isClsIn K Cc_NoNumber = true) (qt_NoNumber : PySem.W.typeIn K (.ref Cc_NoNumber) = some (.type "type"))
    (qn_NoTable : PySem.W.nsIn K mainGlobals "NoTable" = some (some (.ref Cc_NoTable))) (qi_NoTable : PySem.W.isClsIn K Cc_NoTable = true) (qt_NoTable : PySem.W.typeIn K (.ref Cc_NoTable) = some (.type "type"))
    (qn_NoWeights : PySem.W.nsIn K mainGlobals "NoWeights" = some (some (.ref Cc_NoWeights))) (qi_NoWeights : PySem.W.isClsIn K Cc_NoWeights = true) (qt_NoWeights : PySem.W.typeIn K (.ref Cc_NoWeights) = some (.type "type"))
    (qn_HideError : PySem.W.nsIn K mainGlobals "HideError" = some (some (.ref Cc_HideError))) (qi_HideError : PySem.W.isClsIn K Cc_HideError = true) (qt_HideError : PySem.W.typeIn K (.ref Cc_HideError) = some (.type "type"))
    (qn_NoPlay : PySem.W.nsIn K mainGlobals "NoPlay" = some (some (.ref Cc_NoPlay))) (qi_NoPlay : PySem.W.isClsIn K Cc_NoPlay = true) (qt_NoPlay : PySem.W.typeIn K (.ref Cc_NoPlay) = some (.type "type"))
    (qn_NoPlan : PySem.W.nsIn K mainGlobals "NoPlan" = some (some (.ref Cc_NoPlan))) (qi_NoPlan : PySem.W.isClsIn K Cc_NoPlan = true) (qt_NoPlan : PySem.W.typeIn K (.ref Cc_NoPlan) = some (.type "type"))
    (qn_NoPaper : PySem.W.nsIn K mainGlobals "NoPaper" = some (some (.ref Cc_NoPaper))) (qi_NoPaper : PySem.W.isClsIn K Cc_NoPaper = true) (qt_NoPaper : PySem.W.typeIn K (.ref Cc_NoPaper) = some (.type "type"))
    (qn_NoOrder : PySem.W.nsIn K mainGlobals "NoOrder" = some (some (.ref Cc_NoOrder))) (qi_NoOrder : PySem.W.isClsIn K Cc_NoOrder = true) (qt_NoOrder : PySem.W.typeIn K (.ref Cc_NoOrder) = some (.type "type"))
    (qn_NoName : PySem.W.nsIn K mainGlobals "NoName" = some (some (.ref Cc_NoName))) (qi_NoName : PySem.W.isClsIn K Cc_NoName = true) (qt_NoName : PySem.W.typeIn K (.ref Cc_NoName) = some (.type "type"))
    (qn_NoKind : PySem.W.nsIn K mainGlobals "NoKind" = some (some (.ref Cc_NoKind))) (qi_NoKind : PySem.W.isClsIn K Cc_NoKind = true) (qt_NoKind : PySem.W.typeIn K (.ref Cc_NoKind) = some (.type "type"))
    (qn_NoBudget : PySem.W.nsIn K mainGlobals "NoBudget" = some (some (.ref Cc_NoBudget))) (qi_NoBudget : PySem.W.isClsIn K Cc_NoBudget = true) (qt_NoBudget : PySem.W.typeIn K (.ref Cc_NoBudget) = some (.type "type"))
    (qn_NoBoxes : PySem.W.nsIn K mainGlobals "NoBoxes" = some (some (.ref Cc_NoBoxes))) (qi_NoBoxes : PySem.W.isClsIn K Cc_NoBoxes = true) (qt_NoBoxes : PySem.W.typeIn K (.ref Cc_NoBoxes) = some (.type "type"))
    (qn_TooGreat : PySem.W.nsIn K mainGlobals "TooGreat" = some (some (.ref Cc_TooGreat))) (qi_TooGreat : PySem.W.isClsIn K Cc_TooGreat = true) (qt_TooGreat : PySem.W.typeIn K (.ref Cc_TooGreat) = some (.type "type"))
    (qn_NoWeb : PySem.W.nsIn K mainGlobals "NoWeb" = some (some (.ref Cc_NoWeb))) (qi_NoWeb : PySem.W.isClsIn K Cc_NoWeb = true) (qt_NoWeb : PySem.W.typeIn K (.ref Cc_NoWeb) = some (.type "type"))
    (qn_NoTurns : PySem.W.nsIn K mainGlobals "NoTurns" = some (some (.ref Cc_NoTurns))) (qi_NoTurns : PySem.W.isClsIn K Cc_NoTurns = true) (qt_NoTurns : PySem.W.typeIn K (.ref Cc_NoTurns) = some (.type "type"))
    (qn_NoTree : PySem.W.nsIn K mainGlobals "NoTree" = some (some (.ref Cc_NoTree))) (qi_NoTree : PySem.W.isClsIn K Cc_NoTree = true) (qt_NoTree : PySem.W.typeIn K (.ref Cc_NoTree) = some (.type "type"))
    (qn_NoText : PySem.W.nsIn K mainGlobals "NoText" = some (some (.ref Cc_NoText))) (qi_NoText : PySem.W.isClsIn K Cc_NoText = true) (qt_NoText : PySem.W.typeIn K (.ref Cc_NoText) = some (.type "type"))
    (qn_NoRow : PySem.W.nsIn K mainGlobals "NoRow" = some (some (.ref Cc_NoRow))) (qi_NoRow : PySem.W.isClsIn K Cc_NoRow = true) (qt_NoRow : PySem.W.typeIn K (.ref Cc_NoRow) = some (.type "type"))
    (qn_NoRoad : PySem.W.nsIn K mainGlobals "NoRoad" = some (some (.ref Cc_NoRoad))) (qi_NoRoad : PySem.W.isClsIn K Cc_NoRoad = true) (qt_NoRoad : PySem.W.typeIn K (.ref Cc_NoRoad) = some (.type "type"))
    (on1 : PySem.W.specialIn K (.builtin "object.__class__") "__get__" = some (some (.builtin "getset_descriptor.__get__"))) (ot1 : PySem.W.takesIn K (.builtin "object.__class__") = some true)
    (qk_NoNumber : PySem.W.keepIn K (.ref Cc_NoNumber) = true) (qb_NoNumber : PySem.W.subIn K (.ref Cc_NoNumber) (.type "BaseException") = some true) (qs_NoNumber : PySem.W.subIn K (.ref Cc_NoNumber) (.ref Cc_NoNumber) = some true) (qv_NoNumber : PySem.W.subIn K (.ref Cc_NoNumber) (.type "ValueError") = some true) (qg_NoNumber : PySem.W.findIn K (.ref Cc_NoNumber) "__getattribute__" = some (some (.builtin "BaseException.__getattribute__"))) (qh_NoNumber : PySem.W.findIn K (.ref Cc_NoNumber) "__getattr__" = some none) (qd_NoNumber : PySem.W.hasDictIn K Cc_NoNumber = true) (qa_NoNumber : PySem.W.findIn K (.ref Cc_NoNumber) "__class__" = some (some (.builtin "object.__class__"))) (qm_NoNumber : PySem.W.mroIn K Cc_NoNumber (.type "object") = some true)
    (qx_NoNumber : PySem.W.excIn K Cc_NoNumber veMro "ValueError.__new__" = true)
    (qk_NoTable : PySem.W.keepIn K (.ref Cc_NoTable) = true) (qb_NoTable : PySem.W.subIn K (.ref Cc_NoTable) (.type "BaseException") = some true) (qs_NoTable : PySem.W.subIn K (.ref Cc_NoTable) (.ref Cc_NoTable) = some true) (qv_NoTable : PySem.W.subIn K (.ref Cc_NoTable) (.type "ValueError") = some true) (qg_NoTable : PySem.W.findIn K (.ref Cc_NoTable) "__getattribute__" = some (some (.builtin "BaseException.__getattribute__"))) (qh_NoTable : PySem.W.findIn K (.ref Cc_NoTable) "__getattr__" = some none) (qd_NoTable : PySem.W.hasDictIn K Cc_NoTable = true) (qa_NoTable : PySem.W.findIn K (.ref Cc_NoTable) "__class__" = some (some (.builtin "object.__class__"))) (qm_NoTable : PySem.W.mroIn K Cc_NoTable (.type "object") = some true)
    (qx_NoTable : PySem.W.excIn K Cc_NoTable veMro "ValueError.__new__" = true)
    (qk_NoWeights : PySem.W.keepIn K (.ref Cc_NoWeights) = true) (qb_NoWeights : PySem.W.subIn K (.ref Cc_NoWeights) (.type "BaseException") = some true) (qs_NoWeights : PySem.W.subIn K (.ref Cc_NoWeights) (.ref Cc_NoWeights) = some true) (qv_NoWeights : PySem.W.subIn K (.ref Cc_NoWeights) (.type "ValueError") = some true) (qg_NoWeights : PySem.W.findIn K (.ref Cc_NoWeights) "__getattribute__" = some (some (.builtin "BaseException.__getattribute__"))) (qh_NoWeights : PySem.W.findIn K (.ref Cc_NoWeights) "__getattr__" = some none) (qd_NoWeights : PySem.W.hasDictIn K Cc_NoWeights = true) (qa_NoWeights : PySem.W.findIn K (.ref Cc_NoWeights) "__class__" = some (some (.builtin "object.__class__"))) (qm_NoWeights : PySem.W.mroIn K Cc_NoWeights (.type "object") = some true)
    (qx_NoWeights : PySem.W.excIn K Cc_NoWeights veMro "ValueError.__new__" = true)
    (qp_NoNumber_HideError : PySem.W.subIn K (.ref Cc_NoNumber) (.ref Cc_HideError) = some true)
    (qp_NoTable_HideError : PySem.W.subIn K (.ref Cc_NoTable) (.ref Cc_HideError) = some true)
    (qp_NoWeights_HideError : PySem.W.subIn K (.ref Cc_NoWeights) (.ref Cc_HideError) = some true)
    (qp_NoNumber_NoBoxes : PySem.W.subIn K (.ref Cc_NoNumber) (.ref Cc_NoBoxes) = some false)
    (qp_NoNumber_NoBudget : PySem.W.subIn K (.ref Cc_NoNumber) (.ref Cc_NoBudget) = some false)
    (qp_NoNumber_NoKind : PySem.W.subIn K (.ref Cc_NoNumber) (.ref Cc_NoKind) = some false)
    (qp_NoNumber_NoName : PySem.W.subIn K (.ref Cc_NoNumber) (.ref Cc_NoName) = some false)
    (qp_NoNumber_NoOrder : PySem.W.subIn K (.ref Cc_NoNumber) (.ref Cc_NoOrder) = some false)
    (qp_NoNumber_NoPaper : PySem.W.subIn K (.ref Cc_NoNumber) (.ref Cc_NoPaper) = some false)
    (qp_NoNumber_NoPlan : PySem.W.subIn K (.ref Cc_NoNumber) (.ref Cc_NoPlan) = some false)
    (qp_NoNumber_NoPlay : PySem.W.subIn K (.ref Cc_NoNumber) (.ref Cc_NoPlay) = some false)
    (qp_NoNumber_NoRoad : PySem.W.subIn K (.ref Cc_NoNumber) (.ref Cc_NoRoad) = some false)
    (qp_NoNumber_NoRow : PySem.W.subIn K (.ref Cc_NoNumber) (.ref Cc_NoRow) = some false)
    (qp_NoNumber_NoText : PySem.W.subIn K (.ref Cc_NoNumber) (.ref Cc_NoText) = some false)
    (qp_NoNumber_NoTree : PySem.W.subIn K (.ref Cc_NoNumber) (.ref Cc_NoTree) = some false)
    (qp_NoNumber_NoTurns : PySem.W.subIn K (.ref Cc_NoNumber) (.ref Cc_NoTurns) = some false)
    (qp_NoNumber_NoWeb : PySem.W.subIn K (.ref Cc_NoNumber) (.ref Cc_NoWeb) = some false)
    (qp_NoNumber_NoWeights : PySem.W.subIn K (.ref Cc_NoNumber) (.ref Cc_NoWeights) = some false)
    (qp_NoNumber_TooGreat : PySem.W.subIn K (.ref Cc_NoNumber) (.ref Cc_TooGreat) = some false)
    (qp_NoNumber_NoTable : PySem.W.subIn K (.ref Cc_NoNumber) (.ref Cc_NoTable) = some false)
    (qp_NoTable_NoBoxes : PySem.W.subIn K (.ref Cc_NoTable) (.ref Cc_NoBoxes) = some false)
    (qp_NoTable_NoBudget : PySem.W.subIn K (.ref Cc_NoTable) (.ref Cc_NoBudget) = some false)
    (qp_NoTable_NoKind : PySem.W.subIn K (.ref Cc_NoTable) (.ref Cc_NoKind) = some false)
    (qp_NoTable_NoName : PySem.W.subIn K (.ref Cc_NoTable) (.ref Cc_NoName) = some false)
    (qp_NoTable_NoNumber : PySem.W.subIn K (.ref Cc_NoTable) (.ref Cc_NoNumber) = some false)
    (qp_NoTable_NoOrder : PySem.W.subIn K (.ref Cc_NoTable) (.ref Cc_NoOrder) = some false)
    (qp_NoTable_NoPaper : PySem.W.subIn K (.ref Cc_NoTable) (.ref Cc_NoPaper) = some false)
    (qp_NoTable_NoPlan : PySem.W.subIn K (.ref Cc_NoTable) (.ref Cc_NoPlan) = some false)
    (qp_NoTable_NoPlay : PySem.W.subIn K (.ref Cc_NoTable) (.ref Cc_NoPlay) = some false)
    (qp_NoTable_NoRoad : PySem.W.subIn K (.ref Cc_NoTable) (.ref Cc_NoRoad) = some false)
    (qp_NoTable_NoRow : PySem.W.subIn K (.ref Cc_NoTable) (.ref Cc_NoRow) = some false)
    (qp_NoTable_NoText : PySem.W.subIn K (.ref Cc_NoTable) (.ref Cc_NoText) = some false)
    (qp_NoTable_NoTree : PySem.W.subIn K (.ref Cc_NoTable) (.ref Cc_NoTree) = some false)
    (qp_NoTable_NoTurns : PySem.W.subIn K (.ref Cc_NoTable) (.ref Cc_NoTurns) = some false)
    (qp_NoTable_NoWeb : PySem.W.subIn K (.ref Cc_NoTable) (.ref Cc_NoWeb) = some false)
    (qp_NoTable_NoWeights : PySem.W.subIn K (.ref Cc_NoTable) (.ref Cc_NoWeights) = some false)
    (qp_NoTable_TooGreat : PySem.W.subIn K (.ref Cc_NoTable) (.ref Cc_TooGreat) = some false)
    (qp_NoWeights_NoBoxes : PySem.W.subIn K (.ref Cc_NoWeights) (.ref Cc_NoBoxes) = some false)
    (qp_NoWeights_NoBudget : PySem.W.subIn K (.ref Cc_NoWeights) (.ref Cc_NoBudget) = some false)
    (qp_NoWeights_NoKind : PySem.W.subIn K (.ref Cc_NoWeights) (.ref Cc_NoKind) = some false)
    (qp_NoWeights_NoName : PySem.W.subIn K (.ref Cc_NoWeights) (.ref Cc_NoName) = some false)
    (qp_NoWeights_NoNumber : PySem.W.subIn K (.ref Cc_NoWeights) (.ref Cc_NoNumber) = some false)
    (qp_NoWeights_NoOrder : PySem.W.subIn K (.ref Cc_NoWeights) (.ref Cc_NoOrder) = some false)
    (qp_NoWeights_NoPaper : PySem.W.subIn K (.ref Cc_NoWeights) (.ref Cc_NoPaper) = some false)
    (qp_NoWeights_NoPlan : PySem.W.subIn K (.ref Cc_NoWeights) (.ref Cc_NoPlan) = some false)
    (qp_NoWeights_NoPlay : PySem.W.subIn K (.ref Cc_NoWeights) (.ref Cc_NoPlay) = some false)
    (qp_NoWeights_NoRoad : PySem.W.subIn K (.ref Cc_NoWeights) (.ref Cc_NoRoad) = some false)
    (qp_NoWeights_NoRow : PySem.W.subIn K (.ref Cc_NoWeights) (.ref Cc_NoRow) = some false)
    (qp_NoWeights_NoText : PySem.W.subIn K (.ref Cc_NoWeights) (.ref Cc_NoText) = some false)
    (qp_NoWeights_NoTree : PySem.W.subIn K (.ref Cc_NoWeights) (.ref Cc_NoTree) = some false)
    (qp_NoWeights_NoTurns : PySem.W.subIn K (.ref Cc_NoWeights) (.ref Cc_NoTurns) = some false)
    (qp_NoWeights_NoWeb : PySem.W.subIn K (.ref Cc_NoWeights) (.ref Cc_NoWeb) = some false)
    (qp_NoWeights_TooGreat : PySem.W.subIn K (.ref Cc_NoWeights) (.ref Cc_TooGreat) = some false)
    (qp_NoWeights_NoTable : PySem.W.subIn K (.ref Cc_NoWeights) (.ref Cc_NoTable) = some false)
    (qu_HideError : PySem.W.subIn K (.ref Cc_HideError) (.type "BaseException") = some true) :
    ∃ fd : FuncData, (∀ (s : Shared) (v : Value), BindsTo s fd ⟨[v], []⟩ [("_law_script", v)]) ∧ ∀ base : Heap, K.In base → base.Ns mainGlobals mg → FnOk P w K mg base (L2.CX P w) 7 fa fd ["_law_script"] (spLaw K) := by
  have e := hfa.symm.trans (PySem.W.mg_of X G a24)
  cases e
  have k_NoNumber : Cl K mg "NoNumber" Cc_NoNumber := ⟨qn_NoNumber, PySem.W.mg_of X G qn_NoNumber, qi_NoNumber, qt_NoNumber⟩
  have k_NoTable : Cl K mg "NoTable" Cc_NoTable := ⟨qn_NoTable, PySem.W.mg_of X G qn_NoTable, qi_NoTable, qt_NoTable⟩
  have k_NoWeights : Cl K mg "NoWeights" Cc_NoWeights := ⟨qn_NoWeights, PySem.W.mg_of X G qn_NoWeights, qi_NoWeights, qt_NoWeights⟩
  have k_HideError : Cl K mg "HideError" Cc_HideError := ⟨qn_HideError, PySem.W.mg_of X G qn_HideError, qi_HideError, qt_HideError⟩
  have k_NoPlay : Cl K mg "NoPlay" Cc_NoPlay := ⟨qn_NoPlay, PySem.W.mg_of X G qn_NoPlay, qi_NoPlay, qt_NoPlay⟩
  have k_NoPlan : Cl K mg "NoPlan" Cc_NoPlan := ⟨qn_NoPlan, PySem.W.mg_of X G qn_NoPlan, qi_NoPlan, qt_NoPlan⟩
  have k_NoPaper : Cl K mg "NoPaper" Cc_NoPaper := ⟨qn_NoPaper, PySem.W.mg_of X G qn_NoPaper, qi_NoPaper, qt_NoPaper⟩
  have k_NoOrder : Cl K mg "NoOrder" Cc_NoOrder := ⟨qn_NoOrder, PySem.W.mg_of X G qn_NoOrder, qi_NoOrder, qt_NoOrder⟩
  have k_NoName : Cl K mg "NoName" Cc_NoName := ⟨qn_NoName, PySem.W.mg_of X G qn_NoName, qi_NoName, qt_NoName⟩
  have k_NoKind : Cl K mg "NoKind" Cc_NoKind := ⟨qn_NoKind, PySem.W.mg_of X G qn_NoKind, qi_NoKind, qt_NoKind⟩
  have k_NoBudget : Cl K mg "NoBudget" Cc_NoBudget := ⟨qn_NoBudget, PySem.W.mg_of X G qn_NoBudget, qi_NoBudget, qt_NoBudget⟩
  have k_NoBoxes : Cl K mg "NoBoxes" Cc_NoBoxes := ⟨qn_NoBoxes, PySem.W.mg_of X G qn_NoBoxes, qi_NoBoxes, qt_NoBoxes⟩
  have k_TooGreat : Cl K mg "TooGreat" Cc_TooGreat := ⟨qn_TooGreat, PySem.W.mg_of X G qn_TooGreat, qi_TooGreat, qt_TooGreat⟩
  have k_NoWeb : Cl K mg "NoWeb" Cc_NoWeb := ⟨qn_NoWeb, PySem.W.mg_of X G qn_NoWeb, qi_NoWeb, qt_NoWeb⟩
  have k_NoTurns : Cl K mg "NoTurns" Cc_NoTurns := ⟨qn_NoTurns, PySem.W.mg_of X G qn_NoTurns, qi_NoTurns, qt_NoTurns⟩
  have k_NoTree : Cl K mg "NoTree" Cc_NoTree := ⟨qn_NoTree, PySem.W.mg_of X G qn_NoTree, qi_NoTree, qt_NoTree⟩
  have k_NoText : Cl K mg "NoText" Cc_NoText := ⟨qn_NoText, PySem.W.mg_of X G qn_NoText, qi_NoText, qt_NoText⟩
  have k_NoRow : Cl K mg "NoRow" Cc_NoRow := ⟨qn_NoRow, PySem.W.mg_of X G qn_NoRow, qi_NoRow, qt_NoRow⟩
  have k_NoRoad : Cl K mg "NoRoad" Cc_NoRoad := ⟨qn_NoRoad, PySem.W.mg_of X G qn_NoRoad, qi_NoRoad, qt_NoRoad⟩
  have r_NoNumber : Rc K mg "NoNumber" Cc_NoNumber := ⟨k_NoNumber, qk_NoNumber, qb_NoNumber, qs_NoNumber, ⟨qg_NoNumber, qh_NoNumber, qb_NoNumber, qd_NoNumber, qa_NoNumber, on1, ot1, qm_NoNumber⟩⟩
  have r_NoTable : Rc K mg "NoTable" Cc_NoTable := ⟨k_NoTable, qk_NoTable, qb_NoTable, qs_NoTable, ⟨qg_NoTable, qh_NoTable, qb_NoTable, qd_NoTable, qa_NoTable, on1, ot1, qm_NoTable⟩⟩
  have r_NoWeights : Rc K mg "NoWeights" Cc_NoWeights := ⟨k_NoWeights, qk_NoWeights, qb_NoWeights, qs_NoWeights, ⟨qg_NoWeights, qh_NoWeights, qb_NoWeights, qd_NoWeights, qa_NoWeights, on1, ot1, qm_NoWeights⟩⟩
  have ec : ∀ c ∈ raisedL, ∀ C, ClsAt K c C → ExcC K C := (all_c (ec_of r_NoNumber) (all_c (ec_of r_NoTable) (all_c (ec_of r_NoWeights) all_n)))
  exact ⟨PySem.W.fnOf "law" "law" (defArgs s_law) (defBody s_law) (defScope s_law) .none kV24 dc24 pm24 an24 cd24 ct24, fun s v => .of_eq rfl, fun base _ _ => (ok_law (P := P) (w := w) (base := base) {
    a_divisor := f0, d_divisor := _, F_divisor := fun_mk l0 c0 k0, g_divisor := PySem.W.mg_of X G a0, b_divisor := (fun_mk (st := s_divisor) l0 c0 k0).binds (fun _ _ _ _ _ _ us hl => match us, hl with | [_, _], _ => rfl),
    a_ratio := f1, d_ratio := _, F_ratio := fun_mk l1 c1 k1, g_ratio := PySem.W.mg_of X G a1, b_ratio := (fun_mk (st := s_ratio) l1 c1 k1).binds (fun _ _ _ _ _ _ us hl => match us, hl with | [_, _], _ => rfl),
    a_is_number := f2, d_is_number := _, F_is_number := fun_mk l2 c2 k2, g_is_number := PySem.W.mg_of X G a2, b_is_number := (fun_mk (st := s_is_number) l2 c2 k2).binds (fun _ _ _ _ _ _ us hl => match us, hl with | [_], _ => rfl),
    a_are_numbers := f3, d_are_numbers := _, F_are_numbers := fun_mk l3 c3 k3, g_are_numbers := PySem.W.mg_of X G a3, b_are_numbers := (fun_mk (st := s_are_numbers) l3 c3 k3).binds (fun _ _ _ _ _ _ us hl => match us, hl with | [_, _], _ => rfl),
    a_are_weights := f4, d_are_weights := _, F_are_weights := fun_mk l4 c4 k4, g_are_weights := PySem.W.mg_of X G a4, b_are_weights := (fun_mk (st := s_are_weights) l4 c4 k4).binds (fun _ _ _ _ _ _ us hl => match us, hl with | [_, _], _ => rfl),
    a_must_be_table := f5, d_must_be_table := _, F_must_be_table := fun_mk l5 c5 k5, g_must_be_table := PySem.W.mg_of X G a5, b_must_be_table := (fun_mk (st := s_must_be_table) l5 c5 k5).binds (fun _ _ _ _ _ _ us hl => match us, hl with | [_], _ => rfl),
    a_least_share := f6, d_least_share := _, F_least_share := fun_mk l6 c6 k6, g_least_share := PySem.W.mg_of X G a6, b_least_share := (fun_mk (st := s_least_share) l6 c6 k6).binds (fun _ _ _ _ _ _ us hl => match us, hl with | [_, _, _], _ => rfl),
    a_pivoted := f7, d_pivoted := _, F_pivoted := fun_mk l7 c7 k7, g_pivoted := PySem.W.mg_of X G a7, b_pivoted := (fun_mk (st := s_pivoted) l7 c7 k7).binds (fun _ _ _ _ _ _ us hl => match us, hl with | [_, _, _, _], _ => rfl),
    a_gone_through := f8, d_gone_through := _, F_gone_through := fun_mk l8 c8 k8, g_gone_through := PySem.W.mg_of X G a8, b_gone_through := (fun_mk (st := s_gone_through) l8 c8 k8).binds (fun _ _ _ _ _ _ us hl => match us, hl with | [_, _], _ => rfl),
    a_lessened := f9, d_lessened := _, F_lessened := fun_mk l9 c9 k9, g_lessened := PySem.W.mg_of X G a9, b_lessened := (fun_mk (st := s_lessened) l9 c9 k9).binds (fun _ _ _ _ _ _ us hl => match us, hl with | [_], _ => rfl),
    a_solved := f10, d_solved := _, F_solved := fun_mk l10 c10 k10, g_solved := PySem.W.mg_of X G a10, b_solved := (fun_mk (st := s_solved) l10 c10 k10).binds (fun _ _ _ _ _ _ us hl => match us, hl with | [_], _ => rfl),
    a_table_worth := f11, d_table_worth := _, F_table_worth := fun_mk l11 c11 k11, g_table_worth := PySem.W.mg_of X G a11, b_table_worth := (fun_mk (st := s_table_worth) l11 c11 k11).binds (fun _ _ _ _ _ _ us hl => match us, hl with | [_], _ => rfl),
    a_column_sum := f12, d_column_sum := _, F_column_sum := fun_mk l12 c12 k12, g_column_sum := PySem.W.mg_of X G a12, b_column_sum := (fun_mk (st := s_column_sum) l12 c12 k12).binds (fun _ _ _ _ _ _ us hl => match us, hl with | [_, _, _], _ => rfl),
    a_row_sum := f13, d_row_sum := _, F_row_sum := fun_mk l13 c13 k13, g_row_sum := PySem.W.mg_of X G a13, b_row_sum := (fun_mk (st := s_row_sum) l13 c13 k13).binds (fun _ _ _ _ _ _ us hl => match us, hl with | [_, _, _], _ => rfl),
    a_table_judged := f14, d_table_judged := _, F_table_judged := fun_mk l14 c14 k14, g_table_judged := PySem.W.mg_of X G a14, b_table_judged := (fun_mk (st := s_table_judged) l14 c14 k14).binds (fun _ _ _ _ _ _ us hl => match us, hl with | [_, _, _, _], _ => rfl),
    a_best_rows := f15, d_best_rows := _, F_best_rows := fun_mk l15 c15 k15, g_best_rows := PySem.W.mg_of X G a15, b_best_rows := (fun_mk (st := s_best_rows) l15 c15 k15).binds (fun _ _ _ _ _ _ us hl => match us, hl with | [_, _], _ => rfl),
    a_best_columns := f16, d_best_columns := _, F_best_columns := fun_mk l16 c16 k16, g_best_columns := PySem.W.mg_of X G a16, b_best_columns := (fun_mk (st := s_best_columns) l16 c16 k16).binds (fun _ _ _ _ _ _ us hl => match us, hl with | [_, _], _ => rfl),
    a__law_mix := f17, d__law_mix := _, F__law_mix := fun_mk l17 c17 k17, g__law_mix := PySem.W.mg_of X G a17, b__law_mix := (fun_mk (st := s__law_mix) l17 c17 k17).binds (fun _ _ _ _ _ _ us hl => match us, hl with | [_, _], _ => rfl),
    a__law_cell_at := f18, d__law_cell_at := _, F__law_cell_at := fun_mk l18 c18 k18, g__law_cell_at := PySem.W.mg_of X G a18, b__law_cell_at := (fun_mk (st := s__law_cell_at) l18 c18 k18).binds (fun _ _ _ _ _ _ us hl => match us, hl with | [_, _], _ => rfl),
    a__law_left := f19, d__law_left := _, F__law_left := fun_mk l19 c19 k19, g__law_left := PySem.W.mg_of X G a19, b__law_left := (fun_mk (st := s__law_left) l19 c19 k19).binds (fun _ _ _ _ _ _ us hl => match us, hl with | [_, _], _ => rfl),
    a__law_draw := f20, d__law_draw := _, F__law_draw := fun_mk l20 c20 k20, g__law_draw := PySem.W.mg_of X G a20, b__law_draw := (fun_mk (st := s__law_draw) l20 c20 k20).binds (fun _ _ _ _ _ _ us hl => match us, hl with | [_, _], _ => rfl),
    a__law_thing := f21, d__law_thing := _, F__law_thing := fun_mk l21 c21 k21, g__law_thing := PySem.W.mg_of X G a21, b__law_thing := (fun_mk (st := s__law_thing) l21 c21 k21).binds (fun _ _ _ _ _ _ us hl => match us, hl with | [_], _ => rfl),
    a__law_is_table := f22, d__law_is_table := _, F__law_is_table := fun_mk l22 c22 k22, g__law_is_table := PySem.W.mg_of X G a22, b__law_is_table := (fun_mk (st := s__law_is_table) l22 c22 k22).binds (fun _ _ _ _ _ _ us hl => match us, hl with | [_], _ => rfl),
    a__law_refused := f23, d__law_refused := _, F__law_refused := fun_mk l23 c23 k23, g__law_refused := PySem.W.mg_of X G a23, b__law_refused := (fun_mk (st := s__law_refused) l23 c23 k23).binds (fun _ _ _ _ _ _ us hl => match us, hl with | [_, _], _ => rfl),
    a_law := fa, d_law := _, F_law := fun_mk l24 c24 k24, g_law := PySem.W.mg_of X G a24, b_law := (fun_mk (st := s_law) l24 c24 k24).binds (fun _ _ _ _ _ _ us hl => match us, hl with | [_], _ => rfl),
    z_abs := PySem.W.mg_none_of X G z_abs,
    z_int := PySem.W.mg_none_of X G z_int,
    z_isinstance := PySem.W.mg_none_of X G z_isinstance,
    z_bool := PySem.W.mg_none_of X G z_bool,
    z_list := PySem.W.mg_none_of X G z_list,
    z_len := PySem.W.mg_none_of X G z_len,
    z_min := PySem.W.mg_none_of X G z_min,
    z_max := PySem.W.mg_none_of X G z_max,
    z_range := PySem.W.mg_none_of X G z_range,
    z_sum := PySem.W.mg_none_of X G z_sum,
    z_tuple := PySem.W.mg_none_of X G z_tuple,
    z_ValueError := PySem.W.mg_none_of X G z_ValueError,
    t_MOST := t_MOST, c_MOST := PySem.W.mg_of X G c_MOST,
    C_NoNumber := Cc_NoNumber, k_NoNumber := k_NoNumber,
    C_NoTable := Cc_NoTable, k_NoTable := k_NoTable,
    C_NoWeights := Cc_NoWeights, k_NoWeights := k_NoWeights,
    C_HideError := Cc_HideError, k_HideError := k_HideError,
    C_NoPlay := Cc_NoPlay, k_NoPlay := k_NoPlay,
    C_NoPlan := Cc_NoPlan, k_NoPlan := k_NoPlan,
    C_NoPaper := Cc_NoPaper, k_NoPaper := k_NoPaper,
    C_NoOrder := Cc_NoOrder, k_NoOrder := k_NoOrder,
    C_NoName := Cc_NoName, k_NoName := k_NoName,
    C_NoKind := Cc_NoKind, k_NoKind := k_NoKind,
    C_NoBudget := Cc_NoBudget, k_NoBudget := k_NoBudget,
    C_NoBoxes := Cc_NoBoxes, k_NoBoxes := k_NoBoxes,
    C_TooGreat := Cc_TooGreat, k_TooGreat := k_TooGreat,
    C_NoWeb := Cc_NoWeb, k_NoWeb := k_NoWeb,
    C_NoTurns := Cc_NoTurns, k_NoTurns := k_NoTurns,
    C_NoTree := Cc_NoTree, k_NoTree := k_NoTree,
    C_NoText := Cc_NoText, k_NoText := k_NoText,
    C_NoRow := Cc_NoRow, k_NoRow := k_NoRow,
    C_NoRoad := Cc_NoRoad, k_NoRoad := k_NoRoad,
    r_NoNumber := r_NoNumber,
    x_NoNumber := qx_NoNumber,
    r_NoTable := r_NoTable,
    x_NoTable := qx_NoTable,
    r_NoWeights := r_NoWeights,
    x_NoWeights := qx_NoWeights,
    ct := (all_c (catch_ok r_NoNumber k_HideError qp_NoNumber_HideError qu_HideError) (all_c (catch_ok r_NoTable k_HideError qp_NoTable_HideError qu_HideError) (all_c (catch_ok r_NoWeights k_HideError qp_NoWeights_HideError qu_HideError) all_n))),
    xc := ⟨(all_c (sub_ok r_NoNumber k_NoBoxes qp_NoNumber_NoBoxes) (all_c (sub_ok r_NoNumber k_NoBudget qp_NoNumber_NoBudget) (all_c (sub_ok r_NoNumber k_NoKind qp_NoNumber_NoKind) (all_c (sub_ok r_NoNumber k_NoName qp_NoNumber_NoName) (all_c (sub_ok r_NoNumber k_NoNumber qs_NoNumber) (all_c (sub_ok r_NoNumber k_NoOrder qp_NoNumber_NoOrder) (all_c (sub_ok r_NoNumber k_NoPaper qp_NoNumber_NoPaper) (all_c (sub_ok r_NoNumber k_NoPlan qp_NoNumber_NoPlan) (all_c (sub_ok r_NoNumber k_NoPlay qp_NoNumber_NoPlay) (all_c (sub_ok r_NoNumber k_NoRoad qp_NoNumber_NoRoad) (all_c (sub_ok r_NoNumber k_NoRow qp_NoNumber_NoRow) (all_c (sub_ok r_NoNumber k_NoText qp_NoNumber_NoText) (all_c (sub_ok r_NoNumber k_NoTree qp_NoNumber_NoTree) (all_c (sub_ok r_NoNumber k_NoTurns qp_NoNumber_NoTurns) (all_c (sub_ok r_NoNumber k_NoWeb qp_NoNumber_NoWeb) (all_c (sub_ok r_NoNumber k_NoWeights qp_NoNumber_NoWeights) (all_c (sub_ok r_NoNumber k_TooGreat qp_NoNumber_TooGreat) (all_c (sub_ok r_NoNumber k_NoTable qp_NoNumber_NoTable) (all_c (sub_ok r_NoTable k_NoBoxes qp_NoTable_NoBoxes) (all_c (sub_ok r_NoTable k_NoBudget qp_NoTable_NoBudget) (all_c (sub_ok r_NoTable k_NoKind qp_NoTable_NoKind) (all_c (sub_ok r_NoTable k_NoName qp_NoTable_NoName) (all_c (sub_ok r_NoTable k_NoNumber qp_NoTable_NoNumber) (all_c (sub_ok r_NoTable k_NoOrder qp_NoTable_NoOrder) (all_c (sub_ok r_NoTable k_NoPaper qp_NoTable_NoPaper) (all_c (sub_ok r_NoTable k_NoPlan qp_NoTable_NoPlan) (all_c (sub_ok r_NoTable k_NoPlay qp_NoTable_NoPlay) (all_c (sub_ok r_NoTable k_NoRoad qp_NoTable_NoRoad) (all_c (sub_ok r_NoTable k_NoRow qp_NoTable_NoRow) (all_c (sub_ok r_NoTable k_NoText qp_NoTable_NoText) (all_c (sub_ok r_NoTable k_NoTree qp_NoTable_NoTree) (all_c (sub_ok r_NoTable k_NoTurns qp_NoTable_NoTurns) (all_c (sub_ok r_NoTable k_NoWeb qp_NoTable_NoWeb) (all_c (sub_ok r_NoTable k_NoWeights qp_NoTable_NoWeights) (all_c (sub_ok r_NoTable k_TooGreat qp_NoTable_TooGreat) (all_c (sub_ok r_NoTable k_NoTable qs_NoTable) (all_c (sub_ok r_NoWeights k_NoBoxes qp_NoWeights_NoBoxes) (all_c (sub_ok r_NoWeights k_NoBudget qp_NoWeights_NoBudget) (all_c (sub_ok r_NoWeights k_NoKind qp_NoWeights_NoKind) (all_c (sub_ok r_NoWeights k_NoName qp_NoWeights_NoName) (all_c (sub_ok r_NoWeights k_NoNumber qp_NoWeights_NoNumber) (all_c (sub_ok r_NoWeights k_NoOrder qp_NoWeights_NoOrder) (all_c (sub_ok r_NoWeights k_NoPaper qp_NoWeights_NoPaper) (all_c (sub_ok r_NoWeights k_NoPlan qp_NoWeights_NoPlan) (all_c (sub_ok r_NoWeights k_NoPlay qp_NoWeights_NoPlay) (all_c (sub_ok r_NoWeights k_NoRoad qp_NoWeights_NoRoad) (all_c (sub_ok r_NoWeights k_NoRow qp_NoWeights_NoRow) (all_c (sub_ok r_NoWeights k_NoText qp_NoWeights_NoText) (all_c (sub_ok r_NoWeights k_NoTree qp_NoWeights_NoTree) (all_c (sub_ok r_NoWeights k_NoTurns qp_NoWeights_NoTurns) (all_c (sub_ok r_NoWeights k_NoWeb qp_NoWeights_NoWeb) (all_c (sub_ok r_NoWeights k_NoWeights qs_NoWeights) (all_c (sub_ok r_NoWeights k_TooGreat qp_NoWeights_TooGreat) (all_c (sub_ok r_NoWeights k_NoTable qp_NoWeights_NoTable) all_n)))))))))))))))))))))))))))))))))))))))))))))))))))))), (all_c (ve_ok r_NoNumber qv_NoNumber) (all_c (ve_ok r_NoTable qv_NoTable) (all_c (ve_ok r_NoWeights qv_NoWeights) all_n))), ec⟩ }).imp (law_imp ht)⟩
end
end Lw
open PySem PySem.W PyProof.Rows
set_option maxRecDepth 100000 in
set_option maxHeartbeats 0 in
theorem PySem.Challenge.cw_hideworth_k15_no_tables_refused_holds : PySem.Challenge.rw_hideworth_k15_no_tables_refused.Holds := by
  w_on; o_law; k_head; (case hw => w_witness2)
  k_fill
  refine L2.walk_ofB (l := PySem.Challenge.rw_hideworth_k15_no_tables_refused) (n := 63) (k := 7) (x := "_law_script") (CX := fun w => L2.CX (PySem.Challenge.rw_hideworth_k15_no_tables_refused).prog w) (sp := fun w => Dv.spLaw _) rfl (by decide) rfl ⟨rfl, by decide, by decide⟩ (fun w h Y => PySem.W.kIn_of Y) ?F (fun _ H a ns hl hb _ hS => Dv.law_sp _ H a ns hl hb hS) (fun _ _ _ _ _ h => Dv.cx_end h)
  case F =>
    intro w mg fa h KX G hmg
    refine' Lw.all_mk KX G hmg Lw.law_true ?a0 ?l0 ?c0 ?k0 ?a1 ?l1 ?c1 ?k1 ?a2 ?l2 ?c2 ?k2 ?a3 ?l3 ?c3 ?k3 ?a4 ?l4 ?c4 ?k4 ?a5 ?l5 ?c5 ?k5 ?a6 ?l6 ?c6 ?k6 ?a7 ?l7 ?c7 ?k7 ?a8 ?l8 ?c8 ?k8 ?a9 ?l9 ?c9 ?k9 ?a10 ?l10 ?c10 ?k10 ?a11 ?l11 ?c11 ?k11 ?a12 ?l12 ?c12 ?k12 ?a13 ?l13 ?c13 ?k13 ?a14 ?l14 ?c14 ?k14 ?a15 ?l15 ?c15 ?k15 ?a16 ?l16 ?c16 ?k16 ?a17 ?l17 ?c17 ?k17 ?a18 ?l18 ?c18 ?k18 ?a19 ?l19 ?c19 ?k19 ?a20 ?l20 ?c20 ?k20 ?a21 ?l21 ?c21 ?k21 ?a22 ?l22 ?c22 ?k22 ?a23 ?l23 ?c23 ?k23 ?a24 ?l24 ?c24 ?k24 ?z_abs ?z_int ?z_isinstance ?z_bool ?z_list ?z_len ?z_min ?z_max ?z_range ?z_sum ?z_tuple ?z_ValueError ?c_MOST ?qn_NoNumber ?qi_NoNumber ?qt_NoNumber ?qn_NoTable ?qi_NoTable ?qt_NoTable ?qn_NoWeights ?qi_NoWeights ?qt_NoWeights ?qn_HideError ?qi_HideError ?qt_HideError ?qn_NoPlay ?qi_NoPlay ?qt_NoPlay ?qn_NoPlan ?qi_NoPlan ?qt_NoPlan ?qn_NoPaper ?qi_NoPaper ?qt_NoPaper ?qn_NoOrder ?qi_NoOrder ?qt_NoOrder ?qn_NoName ?qi_NoName ?qt_NoName ?qn_NoKind ?qi_NoKind ?qt_NoKind ?qn_NoBudget ?qi_NoBudget ?qt_NoBudget ?qn_NoBoxes ?qi_NoBoxes ?qt_NoBoxes ?qn_TooGreat ?qi_TooGreat ?qt_TooGreat ?qn_NoWeb ?qi_NoWeb ?qt_NoWeb ?qn_NoTurns ?qi_NoTurns ?qt_NoTurns ?qn_NoTree ?qi_NoTree ?qt_NoTree ?qn_NoText ?qi_NoText ?qt_NoText ?qn_NoRow ?qi_NoRow ?qt_NoRow ?qn_NoRoad ?qi_NoRoad ?qt_NoRoad ?on1 ?ot1 ?qk_NoNumber ?qb_NoNumber ?qs_NoNumber ?qv_NoNumber ?qg_NoNumber ?qh_NoNumber ?qd_NoNumber ?qa_NoNumber ?qm_NoNumber ?qx_NoNumber ?qk_NoTable ?qb_NoTable ?qs_NoTable ?qv_NoTable ?qg_NoTable ?qh_NoTable ?qd_NoTable ?qa_NoTable ?qm_NoTable ?qx_NoTable ?qk_NoWeights ?qb_NoWeights ?qs_NoWeights ?qv_NoWeights ?qg_NoWeights ?qh_NoWeights ?qd_NoWeights ?qa_NoWeights ?qm_NoWeights ?qx_NoWeights ?qp_NoNumber_HideError ?qp_NoTable_HideError ?qp_NoWeights_HideError ?qp_NoNumber_NoBoxes ?qp_NoNumber_NoBudget ?qp_NoNumber_NoKind ?qp_NoNumber_NoName ?qp_NoNumber_NoOrder ?qp_NoNumber_NoPaper ?qp_NoNumber_NoPlan ?qp_NoNumber_NoPlay ?qp_NoNumber_NoRoad ?qp_NoNumber_NoRow ?qp_NoNumber_NoText ?qp_NoNumber_NoTree ?qp_NoNumber_NoTurns ?qp_NoNumber_NoWeb ?qp_NoNumber_NoWeights ?qp_NoNumber_TooGreat ?qp_NoNumber_NoTable ?qp_NoTable_NoBoxes ?qp_NoTable_NoBudget ?qp_NoTable_NoKind ?qp_NoTable_NoName ?qp_NoTable_NoNumber ?qp_NoTable_NoOrder ?qp_NoTable_NoPaper ?qp_NoTable_NoPlan ?qp_NoTable_NoPlay ?qp_NoTable_NoRoad ?qp_NoTable_NoRow ?qp_NoTable_NoText ?qp_NoTable_NoTree ?qp_NoTable_NoTurns ?qp_NoTable_NoWeb ?qp_NoTable_NoWeights ?qp_NoTable_TooGreat ?qp_NoWeights_NoBoxes ?qp_NoWeights_NoBudget ?qp_NoWeights_NoKind ?qp_NoWeights_NoName ?qp_NoWeights_NoNumber ?qp_NoWeights_NoOrder ?qp_NoWeights_NoPaper ?qp_NoWeights_NoPlan ?qp_NoWeights_NoPlay ?qp_NoWeights_NoRoad ?qp_NoWeights_NoRow ?qp_NoWeights_NoText ?qp_NoWeights_NoTree ?qp_NoWeights_NoTurns ?qp_NoWeights_NoWeb ?qp_NoWeights_TooGreat ?qp_NoWeights_NoTable ?qu_HideError
    (case a0 => k_is); (case l0 => k_is); (case c0 => k_is); (case k0 => k_is); (case a1 => k_is); (case l1 => k_is); (case c1 => k_is); (case k1 => k_is); (case a2 => k_is); (case l2 => k_is); (case c2 => k_is); (case k2 => k_is); (case a3 => k_is); (case l3 => k_is); (case c3 => k_is); (case k3 => k_is); (case a4 => k_is); (case l4 => k_is); (case c4 => k_is); (case k4 => k_is); (case a5 => k_is); (case l5 => k_is); (case c5 => k_is); (case k5 => k_is); (case a6 => k_is); (case l6 => k_is); (case c6 => k_is); (case k6 => k_is); (case a7 => k_is); (case l7 => k_is); (case c7 => k_is); (case k7 => k_is); (case a8 => k_is); (case l8 => k_is); (case c8 => k_is); (case k8 => k_is); (case a9 => k_is); (case l9 => k_is); (case c9 => k_is); (case k9 => k_is); (case a10 => k_is); (case l10 => k_is); (case c10 => k_is); (case k10 => k_is); (case a11 => k_is); (case l11 => k_is); (case c11 => k_is); (case k11 => k_is); (case a12 => k_is); (case l12 => k_is); (case c12 => k_is); (case k12 => k_is); (case a13 => k_is); (case l13 => k_is); (case c13 => k_is); (case k13 => k_is); (case a14 => k_is); (case l14 => k_is); (case c14 => k_is); (case k14 => k_is); (case a15 => k_is); (case l15 => k_is); (case c15 => k_is); (case k15 => k_is); (case a16 => k_is); (case l16 => k_is); (case c16 => k_is); (case k16 => k_is); (case a17 => k_is); (case l17 => k_is); (case c17 => k_is); (case k17 => k_is); (case a18 => k_is); (case l18 => k_is); (case c18 => k_is); (case k18 => k_is); (case a19 => k_is); (case l19 => k_is); (case c19 => k_is); (case k19 => k_is); (case a20 => k_is); (case l20 => k_is); (case c20 => k_is); (case k20 => k_is); (case a21 => k_is); (case l21 => k_is); (case c21 => k_is); (case k21 => k_is); (case a22 => k_is); (case l22 => k_is); (case c22 => k_is); (case k22 => k_is); (case a23 => k_is); (case l23 => k_is); (case c23 => k_is); (case k23 => k_is); (case a24 => k_is); (case l24 => k_is); (case c24 => k_is); (case k24 => k_is); (case z_abs => k_is); (case z_int => k_is); (case z_isinstance => k_is); (case z_bool => k_is); (case z_list => k_is); (case z_len => k_is); (case z_min => k_is); (case z_max => k_is); (case z_range => k_is); (case z_sum => k_is); (case z_tuple => k_is); (case z_ValueError => k_is); (case c_MOST => k_is); (case qn_NoNumber => k_is); (case qi_NoNumber => k_is); (case qt_NoNumber => k_is); (case qn_NoTable => k_is); (case qi_NoTable => k_is); (case qt_NoTable => k_is); (case qn_NoWeights => k_is); (case qi_NoWeights => k_is); (case qt_NoWeights => k_is); (case qn_HideError => k_is); (case qi_HideError => k_is); (case qt_HideError => k_is); (case qn_NoPlay => k_is); (case qi_NoPlay => k_is); (case qt_NoPlay => k_is); (case qn_NoPlan => k_is); (case qi_NoPlan => k_is); (case qt_NoPlan => k_is); (case qn_NoPaper => k_is); (case qi_NoPaper => k_is); (case qt_NoPaper => k_is); (case qn_NoOrder => k_is); (case qi_NoOrder => k_is); (case qt_NoOrder => k_is); (case qn_NoName => k_is); (case qi_NoName => k_is); (case qt_NoName => k_is); (case qn_NoKind => k_is); (case qi_NoKind => k_is); (case qt_NoKind => k_is); (case qn_NoBudget => k_is); (case qi_NoBudget => k_is); (case qt_NoBudget => k_is); (case qn_NoBoxes => k_is); (case qi_NoBoxes => k_is); (case qt_NoBoxes => k_is); (case qn_TooGreat => k_is); (case qi_TooGreat => k_is); (case qt_TooGreat => k_is); (case qn_NoWeb => k_is); (case qi_NoWeb => k_is); (case qt_NoWeb => k_is); (case qn_NoTurns => k_is); (case qi_NoTurns => k_is); (case qt_NoTurns => k_is); (case qn_NoTree => k_is); (case qi_NoTree => k_is); (case qt_NoTree => k_is); (case qn_NoText => k_is); (case qi_NoText => k_is); (case qt_NoText => k_is); (case qn_NoRow => k_is); (case qi_NoRow => k_is); (case qt_NoRow => k_is); (case qn_NoRoad => k_is); (case qi_NoRoad => k_is); (case qt_NoRoad => k_is); (case on1 => k_is); (case ot1 => k_is); (case qk_NoNumber => k_is); (case qb_NoNumber => k_is); (case qs_NoNumber => first | k_is | rfl); (case qv_NoNumber => k_is); (case qg_NoNumber => k_is); (case qh_NoNumber => k_is); (case qd_NoNumber => k_is); (case qa_NoNumber => k_is); (case qm_NoNumber => k_is); (case qx_NoNumber => k_exc); (case qk_NoTable => k_is); (case qb_NoTable => k_is); (case qs_NoTable => first | k_is | rfl); (case qv_NoTable => k_is); (case qg_NoTable => k_is); (case qh_NoTable => k_is); (case qd_NoTable => k_is); (case qa_NoTable => k_is); (case qm_NoTable => k_is); (case qx_NoTable => k_exc); (case qk_NoWeights => k_is); (case qb_NoWeights => k_is); (case qs_NoWeights => first | k_is | rfl); (case qv_NoWeights => k_is); (case qg_NoWeights => k_is); (case qh_NoWeights => k_is); (case qd_NoWeights => k_is); (case qa_NoWeights => k_is); (case qm_NoWeights => k_is); (case qx_NoWeights => k_exc); (case qp_NoNumber_HideError => k_is); (case qp_NoTable_HideError => k_is); (case qp_NoWeights_HideError => k_is); (case qp_NoNumber_NoBoxes => k_is); (case qp_NoNumber_NoBudget => k_is); (case qp_NoNumber_NoKind => k_is); (case qp_NoNumber_NoName => k_is); (case qp_NoNumber_NoOrder => k_is); (case qp_NoNumber_NoPaper => k_is); (case qp_NoNumber_NoPlan => k_is); (case qp_NoNumber_NoPlay => k_is); (case qp_NoNumber_NoRoad => k_is); (case qp_NoNumber_NoRow => k_is); (case qp_NoNumber_NoText => k_is); (case qp_NoNumber_NoTree => k_is); (case qp_NoNumber_NoTurns => k_is); (case qp_NoNumber_NoWeb => k_is); (case qp_NoNumber_NoWeights => k_is); (case qp_NoNumber_TooGreat => k_is); (case qp_NoNumber_NoTable => k_is); (case qp_NoTable_NoBoxes => k_is); (case qp_NoTable_NoBudget => k_is); (case qp_NoTable_NoKind => k_is); (case qp_NoTable_NoName => k_is); (case qp_NoTable_NoNumber => k_is); (case qp_NoTable_NoOrder => k_is); (case qp_NoTable_NoPaper => k_is); (case qp_NoTable_NoPlan => k_is); (case qp_NoTable_NoPlay => k_is); (case qp_NoTable_NoRoad => k_is); (case qp_NoTable_NoRow => k_is); (case qp_NoTable_NoText => k_is); (case qp_NoTable_NoTree => k_is); (case qp_NoTable_NoTurns => k_is); (case qp_NoTable_NoWeb => k_is); (case qp_NoTable_NoWeights => k_is); (case qp_NoTable_TooGreat => k_is); (case qp_NoWeights_NoBoxes => k_is); (case qp_NoWeights_NoBudget => k_is); (case qp_NoWeights_NoKind => k_is); (case qp_NoWeights_NoName => k_is); (case qp_NoWeights_NoNumber => k_is); (case qp_NoWeights_NoOrder => k_is); (case qp_NoWeights_NoPaper => k_is); (case qp_NoWeights_NoPlan => k_is); (case qp_NoWeights_NoPlay => k_is); (case qp_NoWeights_NoRoad => k_is); (case qp_NoWeights_NoRow => k_is); (case qp_NoWeights_NoText => k_is); (case qp_NoWeights_NoTree => k_is); (case qp_NoWeights_NoTurns => k_is); (case qp_NoWeights_NoWeb => k_is); (case qp_NoWeights_TooGreat => k_is); (case qp_NoWeights_NoTable => k_is); (case qu_HideError => k_is)
