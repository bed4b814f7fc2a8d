import PyProof.Rows.All
import Wide.All
import OpenK.AllK
import Wide.FinOn
import HandS.ForMost
import HandS.Exc
import HandS.TryOnly
import HandS.ExcOwn
import HandS.WordsExc
import HandS.Wide
import HandS.IsInst
import HandS.EndBits
import HandS.NoneIn
import HandS.SetFor
import HandS.More
import KE.DataFind
import HandS.SortInts
import HandS.ExcIs
import HandS.ExcField
import HandS.ExcInit
import HandS.SetKeys
import PyProof.Rows.SetFrom
import PyProof.SetRoads
import KE.KExcIs
import HandS.Deep
import HandS.Dict
import HandS.Small
import HandS.More
import HandS.SortInts
import HandS.Conv
import HandS.Style
import KE.KEqDict
import PySem.Challenge.RW_hideworth_k24_whole_no_mix_finds_more
set_option Elab.async false
set_option linter.all false
set_option maxRecDepth 100000
set_option maxHeartbeats 4000000
/-! # Dv: values and a store over the hand layer -/
namespace Dv
open PySem PySem.Spec PyProof.Rows L2

/-- plain data; a cell is an object that is still changed, by its number in the store -/
inductive D where
  | non | bl (b : Bool) | int (i : Int) | str (x : Str) | tup (l : List D) | lst (l : List D) | scr (l : List D) | cell (n : Nat) | raw (v : V)
  /-- a class of the program; a caught exception, with its one field -/
  | cls (c : Str) | exn (c : Str) (f : Option (Str × Int))

inductive Cn where
  | lst (l : List D)
  | dct (kvs : List (Key × D))
  | dead

abbrev Store := List Cn
abbrev Env := List (Option D)
structure Exn where
  cls : Str
  val : Option (Str × Int)

inductive Res (α : Type) where
  | ok (a : α) (S : Store)
  | exc (x : Exn) (S : Store)
  | bad

abbrev M (α : Type) := Store → Res α
def Res.bind {α β : Type} (x : Res α) (k : α → Store → Res β) : Res β := match x with
  | .ok a S => k a S
  | .exc e S => .exc e S
  | .bad => .bad
@[simp] theorem Res.bind_ok {α β : Type} (a : α) (S : Store) (k : α → Store → Res β) : (Res.ok a S).bind k = k a S := rfl
@[simp] theorem Res.bind_exc {α β : Type} (x : Exn) (S : Store) (k : α → Store → Res β) : (Res.exc x S : Res α).bind k = .exc x S := rfl
@[simp] theorem Res.bind_bad {α β : Type} (k : α → Store → Res β) : (Res.bad : Res α).bind k = .bad := rfl

/-! ### what stands for what -/
/-- a caught exception's object -/
def ExH (cls : Value) (d : Option Addr) (a : Addr) : HO := .ext fun h => ∃ (oe : Obj) (vs : Array Value), h.get? a = some oe ∧ Zc cls d oe ∧ oe.data = .fields vs
/-- the class of a name -/
def ClsAt (K : PySem.W.Frag) (c : Str) (C : Addr) : Prop := PySem.W.nsIn K mainGlobals c = some (some (.ref C))
theorem ClsAt.uniq {K : PySem.W.Frag} {c : Str} {C D : Addr} (h : ClsAt K c C) (g : ClsAt K c D) : C = D := by
  unfold ClsAt at h g
  rw [h] at g
  cases g
  rfl
/-- an exception's own dict -/
def FldOk (F : Hp) (d : Option Addr) : Option (Str × Int) → Prop
  | none => d = none
  | some (f, i) => ∃ b, d = some b ∧ F b = some (.xd [(f, .int i)])
theorem FldOk.mono {F F' : Hp} {d : Option Addr} (hF : Same F F') : ∀ {v : Option (Str × Int)}, FldOk F d v → FldOk F' d v
  | none, h => h
  | some (_, _), h => by
    obtain ⟨b, e, q⟩ := h
    exact ⟨b, e, hF _ _ q⟩
mutual
def Rp (K : PySem.W.Frag) (r : List Addr) (F : Hp) : D → V → Prop
  | .non, v => v = .non
  | .bl b, v => v = .bl b
  | .int i, v => v = .int i
  | .str x, v => v = .str x
  | .raw x, v => v = x
  | .cell n, v => ∃ a, r[n]? = some a ∧ v = .ref a
  | .tup l, v => ∃ a vs, v = .ref a ∧ Rd F a (.tup vs) ∧ Rps K r F l vs
  | .lst l, v => ∃ a vs, v = .ref a ∧ F a = some (.lst vs) ∧ Rps K r F l vs
  | .scr l, v => ∃ a vs, v = .ref a ∧ SqL K F a vs ∧ Rps K r F l vs
  | .cls c, v => ∃ C, ClsAt K c C ∧ v = .ref C
  | .exn c f, v => ∃ a C d, v = .ref a ∧ ClsAt K c C ∧ F a = some (ExH (.ref C) d a) ∧ FldOk F d f
def Rps (K : PySem.W.Frag) (r : List Addr) (F : Hp) : List D → List V → Prop
  | [], vs => vs = []
  | d :: l, vs => ∃ v t, vs = v :: t ∧ Rp K r F d v ∧ Rps K r F l t
end

theorem rd_same {H H' : Hp} {a : Addr} {u : HO} (e : Same H H') (h : Rd H a u) : Rd H' a u := by
  rcases h with h | ⟨o, h⟩
  · exact .inl (e _ _ h)
  · exact .inr ⟨o, e _ _ h⟩

section
variable {K : PySem.W.Frag} {r r' : List Addr} {F F' : Hp}
mutual
theorem Rp.mono (hr : ∃ t, r' = r ++ t) (hF : Same F F') : ∀ (d : D) (v : V), Rp K r F d v → Rp K r' F' d v
  | .non, _, h => by unfold Rp at h ⊢; exact h
  | .bl _, _, h => by unfold Rp at h ⊢; exact h
  | .int _, _, h => by unfold Rp at h ⊢; exact h
  | .str _, _, h => by unfold Rp at h ⊢; exact h
  | .raw _, _, h => by unfold Rp at h ⊢; exact h
  | .cell n, _, h => by
    unfold Rp at h ⊢
    obtain ⟨a, e, q⟩ := h
    obtain ⟨t, rfl⟩ := hr
    refine ⟨a, ?_, q⟩
    rw [List.getElem?_append_left (List.getElem?_eq_some_iff.mp e).1]
    exact e
  | .tup l, _, h => by
    unfold Rp at h ⊢
    obtain ⟨a, vs, e, q, p⟩ := h
    exact ⟨a, vs, e, rd_same hF q, Rps.mono hr hF l vs p⟩
  | .lst l, _, h => by
    unfold Rp at h ⊢
    obtain ⟨a, vs, e, q, p⟩ := h
    exact ⟨a, vs, e, hF _ _ q, Rps.mono hr hF l vs p⟩
  | .scr l, _, h => by
    unfold Rp at h ⊢
    obtain ⟨a, vs, e, q, p⟩ := h
    exact ⟨a, vs, e, hF.seq q, Rps.mono hr hF l vs p⟩
  | .cls _, _, h => by unfold Rp at h ⊢; exact h
  | .exn _ _, _, h => by
    unfold Rp at h ⊢
    obtain ⟨a, C, d, e, q, p, f⟩ := h
    exact ⟨a, C, d, e, q, hF _ _ p, f.mono hF⟩
theorem Rps.mono (hr : ∃ t, r' = r ++ t) (hF : Same F F') : ∀ (l : List D) (vs : List V), Rps K r F l vs → Rps K r' F' l vs
  | [], _, h => by unfold Rps at h ⊢; exact h
  | d :: l, vs, h => by
    unfold Rps at h ⊢
    obtain ⟨v, t, e, p, q⟩ := h
    exact ⟨v, t, e, Rp.mono hr hF d v p, Rps.mono hr hF l t q⟩
end
theorem rps_nil : Rps K r F [] [] := by unfold Rps; rfl
theorem rps_cons {d : D} {v : V} {l : List D} {vs : List V} (h : Rp K r F d v) (t : Rps K r F l vs) : Rps K r F (d :: l) (v :: vs) := by
  unfold Rps; exact ⟨v, vs, rfl, h, t⟩
theorem Rps.nil_inv {vs : List V} (h : Rps K r F [] vs) : vs = [] := by unfold Rps at h; exact h
theorem Rps.cons_inv {d : D} {l : List D} {vs : List V} (h : Rps K r F (d :: l) vs) : ∃ v t, vs = v :: t ∧ Rp K r F d v ∧ Rps K r F l t := by unfold Rps at h; exact h
theorem Rps.length : ∀ {l : List D} {vs : List V}, Rps K r F l vs → vs.length = l.length
  | [], vs, h => by rw [h.nil_inv]; rfl
  | d :: l, vs, h => by
    obtain ⟨v, t, e, _, q⟩ := h.cons_inv
    subst e
    simp [Rps.length q]
theorem Rps.get : ∀ {l : List D} {vs : List V} {i : Nat} {d : D}, Rps K r F l vs → l[i]? = some d → ∃ v, vs[i]? = some v ∧ Rp K r F d v
  | [], _, i, _, _, e => by simp at e
  | d :: l, vs, 0, d', h, e => by
    obtain ⟨v, t, e1, p, _⟩ := h.cons_inv
    subst e1
    simp at e
    subst e
    exact ⟨v, rfl, p⟩
  | d :: l, vs, i + 1, d', h, e => by
    obtain ⟨v, t, e1, _, q⟩ := h.cons_inv
    subst e1
    obtain ⟨v', e2, p⟩ := Rps.get (i := i) q (by simpa using e)
    exact ⟨v', by simpa using e2, p⟩
theorem Rps.append : ∀ {l m : List D} {vs ws : List V}, Rps K r F l vs → Rps K r F m ws → Rps K r F (l ++ m) (vs ++ ws)
  | [], m, vs, ws, h, q => by rw [h.nil_inv]; exact q
  | d :: l, m, vs, ws, h, q => by
    obtain ⟨v, t, e, p, q'⟩ := h.cons_inv
    subst e
    exact rps_cons p (Rps.append q' q)
theorem Rps.take : ∀ {l : List D} {vs : List V} (n : Nat), Rps K r F l vs → Rps K r F (l.take n) (vs.take n)
  | [], vs, n, h => by rw [h.nil_inv]; simp; exact rps_nil
  | d :: l, vs, 0, h => by simp; exact rps_nil
  | d :: l, vs, n + 1, h => by
    obtain ⟨v, t, e, p, q⟩ := h.cons_inv
    subst e
    exact rps_cons p (Rps.take n q)
theorem Rps.drop : ∀ {l : List D} {vs : List V} (n : Nat), Rps K r F l vs → Rps K r F (l.drop n) (vs.drop n)
  | l, vs, 0, h => by simpa using h
  | [], vs, n + 1, h => by rw [h.nil_inv]; simp; exact rps_nil
  | d :: l, vs, n + 1, h => by
    obtain ⟨v, t, e, p, q⟩ := h.cons_inv
    subst e
    exact Rps.drop n q
theorem Rps.set : ∀ {l : List D} {vs : List V} {d : D} {v : V} (n : Nat), Rps K r F l vs → Rp K r F d v → Rps K r F (l.set n d) (vs.set n v)
  | [], vs, d, v, n, h, p => by rw [h.nil_inv]; simp; exact rps_nil
  | d0 :: l, vs, d, v, 0, h, p => by
    obtain ⟨v', t, e, _, q⟩ := h.cons_inv
    subst e
    exact rps_cons p q
  | d0 :: l, vs, d, v, n + 1, h, p => by
    obtain ⟨v', t, e, p', q⟩ := h.cons_inv
    subst e
    exact rps_cons p' (Rps.set n q p)
theorem Rps.reverse {l : List D} {vs : List V} (h : Rps K r F l vs) : Rps K r F l.reverse vs.reverse := by
  induction l generalizing vs with
  | nil => rw [h.nil_inv]; exact rps_nil
  | cons d l ih =>
    obtain ⟨v, t, e, p, q⟩ := h.cons_inv
    subst e
    rw [List.reverse_cons, List.reverse_cons]
    exact (ih q).append (rps_cons p rps_nil)
theorem Rps.rep {l : List D} {vs : List V} (h : Rps K r F l vs) : ∀ k : Nat, Rps K r F (List.replicate k l).flatten (List.replicate k vs).flatten
  | 0 => rps_nil
  | k + 1 => by
    rw [List.replicate_succ, List.replicate_succ, List.flatten_cons, List.flatten_cons]
    exact h.append (Rps.rep h k)
theorem rps_ints : ∀ ns : List Int, Rps K r F (ns.map D.int) (ns.map V.int)
  | [] => rps_nil
  | n :: ns => rps_cons (by unfold Rp; rfl) (rps_ints ns)
theorem Rps.ints : ∀ {ns : List Int} {vs : List V}, Rps K r F (ns.map D.int) vs → vs = ns.map V.int
  | [], vs, h => h.nil_inv
  | n :: ns, vs, h => by
    obtain ⟨v, t, e, p, q⟩ := h.cons_inv
    subst e
    unfold Rp at p
    subst p
    rw [Rps.ints q]
    rfl
end

/-! ### worlds -/
structure Wl where
  r : List Addr
  F : Hp
  S : Store
  H : Hp

def alv (S : Store) (n : Nat) : Prop := ∃ c, S[n]? = some c ∧ c ≠ .dead
def RpK (K : PySem.W.Frag) (r : List Addr) (F : Hp) : List (Key × D) → List (Key × V) → Prop := Paired fun p q => p.1 = q.1 ∧ Rp K r F p.2 q.2
def CellOk (K : PySem.W.Frag) (r : List Addr) (F H : Hp) (a : Addr) : Cn → Prop
  | .dead => True
  | .lst l => F a = none ∧ ∃ vs, H a = some (.lst vs) ∧ Rps K r F l vs
  | .dct kvs => F a = none ∧ ∃ ws, H a = some (.dK ws) ∧ RpK K r F kvs ws

theorem RpK.mono {K : PySem.W.Frag} {r r' : List Addr} {F F' : Hp} (hr : ∃ t, r' = r ++ t) (hF : Same F F') {kvs : List (Key × D)} {ws : List (Key × V)} (h : RpK K r F kvs ws) : RpK K r' F' kvs ws :=
  Paired.mapP h fun p q z => ⟨z.1, Rp.mono hr hF _ _ z.2⟩

structure Wd (K : PySem.W.Frag) (w : Wl) : Prop where
  len : w.r.length = w.S.length
  same : Same w.F w.H
  cell : ∀ (n : Nat) a c, w.r[n]? = some a → w.S[n]? = some c → CellOk K w.r w.F w.H a c
  inj : ∀ (n m : Nat) a, w.r[n]? = some a → w.r[m]? = some a → alv w.S n → alv w.S m → n = m

structure Go (K : PySem.W.Frag) (w w' : Wl) : Prop where
  wd : Wd K w'
  pre : ∃ t, w'.r = w.r ++ t
  len : w.r.length = w.S.length
  live : ∀ (n : Nat), n < w.S.length → alv w'.S n → alv w.S n
  new : ∀ (n : Nat) a, w.S.length ≤ n → w'.r[n]? = some a → alv w'.S n → w.H a = none
  F : Same w.F w'.F
  fr : ∀ a o, w.H a = some o → (∀ (n : Nat), w.r[n]? = some a → ¬ alv w.S n) → w'.H a = some o
  trk : ∀ a, w'.H a = none → w.H a = none
  fnew : ∀ a, w.H a ≠ none → w.F a = none → (∀ (n : Nat), w.r[n]? = some a → ¬ alv w.S n) → w'.F a = none

section
variable {K : PySem.W.Frag} {w w1 w2 : Wl}
theorem Go.refl (h : Wd K w) : Go K w w where
  wd := h
  pre := ⟨[], by simp⟩
  len := h.len
  live := fun _ _ q => q
  new := fun n a hn e _ => by
    have := (List.getElem?_eq_some_iff.mp e).1
    have := h.len
    omega
  F := Same.refl _
  fr := fun _ _ e _ => e
  trk := fun _ e => e
  fnew := fun _ _ e _ => e
theorem Go.slen (g : Go K w w1) : w.S.length ≤ w1.S.length := by
  obtain ⟨t, e⟩ := g.pre
  have h1 := g.wd.len
  rw [e, List.length_append, g.len] at h1
  omega
theorem pre_get {r r' : List Addr} {n : Nat} {a : Addr} (h : ∃ t, r' = r ++ t) (e : r[n]? = some a) : r'[n]? = some a := by
  obtain ⟨t, rfl⟩ := h
  rw [List.getElem?_append_left (List.getElem?_eq_some_iff.mp e).1]
  exact e
theorem pre_back {r r' : List Addr} {n : Nat} {a : Addr} (h : ∃ t, r' = r ++ t) (hn : n < r.length) (e : r'[n]? = some a) : r[n]? = some a := by
  obtain ⟨t, rfl⟩ := h
  rw [List.getElem?_append_left hn] at e
  exact e
theorem Go.trans (g : Go K w w1) (h : Go K w1 w2) : Go K w w2 where
  wd := h.wd
  pre := by
    obtain ⟨t, e⟩ := g.pre
    obtain ⟨t', e'⟩ := h.pre
    exact ⟨t ++ t', by rw [e', e, List.append_assoc]⟩
  len := g.len
  live := fun n hn q => g.live n hn (h.live n (Nat.lt_of_lt_of_le hn g.slen) q)
  new := fun n a hn e q => by
    by_cases hl : n < w1.S.length
    · exact g.new n a hn (pre_back h.pre (by rw [g.wd.len]; exact hl) e) (h.live n hl q)
    · exact g.trk a (h.new n a (Nat.le_of_not_lt hl) e q)
  F := g.F.trans h.F
  fr := fun a o e q => by
    refine h.fr a o (g.fr a o e q) fun n hn hl => ?_
    by_cases hs : n < w.S.length
    · exact q n (pre_back g.pre (by rw [g.len]; exact hs) hn) (g.live n hs hl)
    · have := g.new n a (Nat.le_of_not_lt hs) hn hl
      rw [e] at this
      cases this
  trk := fun a e => g.trk a (h.trk a e)
  fnew := fun a e f q => h.fnew a (fun z => e (g.trk a z)) (g.fnew a e f q) fun n hn hl => by
    by_cases hs : n < w.S.length
    · exact q n (pre_back g.pre (by rw [g.len]; exact hs) hn) (g.live n hs hl)
    · exact e (g.new n a (Nat.le_of_not_lt hs) hn hl)
theorem Rp.go (g : Go K w w1) {d : D} {v : V} (h : Rp K w.r w.F d v) : Rp K w1.r w1.F d v := Rp.mono g.pre g.F d v h
theorem Rps.go (g : Go K w w1) {d : List D} {v : List V} (h : Rps K w.r w.F d v) : Rps K w1.r w1.F d v := Rps.mono g.pre g.F d v h

theorem Wd.fresh (h : Wd K w) {p : Addr} (n : w.H p = none) : w.F p = none := h.same.free n
theorem CellOk.mono {r r' : List Addr} {F F' H H' : Hp} {a : Addr} {c : Cn} (h : CellOk K r F H a c) (hr : ∃ t, r' = r ++ t) (hF : Same F F') (hn : c ≠ .dead → F a = none → F' a = none) (hH : c ≠ .dead → ∀ o, H a = some o → H' a = some o) : CellOk K r' F' H' a c := by
  cases c with
  | dead => exact trivial
  | lst l =>
    obtain ⟨n, vs, e, q⟩ := h
    exact ⟨hn (by simp) n, vs, hH (by simp) _ e, Rps.mono hr hF _ _ q⟩
  | dct kvs =>
    obtain ⟨n, vs, e, q⟩ := h
    exact ⟨hn (by simp) n, vs, hH (by simp) _ e, q.mono hr hF⟩
theorem CellOk.some {r : List Addr} {F H : Hp} {a : Addr} {c : Cn} (h : CellOk K r F H a c) (n : c ≠ .dead) : ∃ o, H a = some o := by
  cases c with
  | dead => exact (n rfl).elim
  | lst l => obtain ⟨_, vs, e, _⟩ := h; exact ⟨_, e⟩
  | dct l => obtain ⟨_, vs, e, _⟩ := h; exact ⟨_, e⟩
theorem CellOk.free {r : List Addr} {F H : Hp} {a : Addr} {c : Cn} (h : CellOk K r F H a c) (n : c ≠ .dead) : F a = none := by
  cases c with
  | dead => exact (n rfl).elim
  | lst l => exact h.1
  | dct l => exact h.1

/-- a new frozen object -/
theorem Go.alloc (h : Wd K w) {p : Addr} {o : HO} (n : w.H p = none) : Go K w ⟨w.r, upd w.F p o, w.S, upd w.H p o⟩ := by
  have sF : Same w.F (upd w.F p o) := fun b x e => by rw [upd_ne (ne_of_none e (h.fresh n))]; exact e
  have sH : Same w.H (upd w.H p o) := fun b x e => by rw [upd_ne (ne_of_none e n)]; exact e
  refine ⟨⟨h.len, fun b x e => ?_, fun k a c e1 e2 => ?_, h.inj⟩, ⟨[], by simp⟩, h.len, fun _ _ q => q, fun k a hk e _ => ?_, sF, fun a x e _ => sH a x e, fun a e => ?_, fun a e f _ => by
    show upd w.F p o a = none
    rw [upd_ne (fun z => e (by rw [z]; exact n))]
    exact f⟩
  · show upd w.H p o b = some x
    have e' : upd w.F p o b = some x := e
    by_cases hb : b = p
    · subst hb
      rw [upd_same] at e' ⊢
      exact e'
    · rw [upd_ne hb] at e' ⊢
      exact h.same _ _ e'
  · have q := h.cell k a c e1 e2
    refine q.mono ⟨[], by simp⟩ sF (fun hd z => ?_) (fun hd x z => sH _ _ z)
    obtain ⟨x, ex⟩ := q.some hd
    show upd w.F p o a = none
    rw [upd_ne (ne_of_none ex n)]
    exact z
  · have hk1 : k < w.r.length := (List.getElem?_eq_some_iff.mp e).1
    have hk2 : w.S.length ≤ k := hk
    have := h.len
    omega
  · show w.H a = none
    have e' : upd w.H p o a = none := e
    by_cases hb : a = p
    · subst hb
      rw [upd_same] at e'
      cases e'
    · rw [upd_ne hb] at e'
      exact e'
theorem alv_append_left {S : Store} {c : Cn} {n : Nat} (hn : n < S.length) (h : alv (S ++ [c]) n) : alv S n := by
  obtain ⟨x, e, q⟩ := h
  rw [List.getElem?_append_left hn] at e
  exact ⟨x, e, q⟩
/-- a new cell -/
theorem Go.newCell (h : Wd K w) {p : Addr} {o : HO} {c : Cn} (n : w.H p = none) (hc : CellOk K (w.r ++ [p]) w.F (upd w.H p o) p c) : Go K w ⟨w.r ++ [p], w.F, w.S ++ [c], upd w.H p o⟩ := by
  have sH : Same w.H (upd w.H p o) := fun b x e => by rw [upd_ne (ne_of_none e n)]; exact e
  have oldr : ∀ {k a}, (w.r ++ [p])[k]? = some a → k < w.S.length → w.r[k]? = some a := fun {k a} e hk => by
    rw [List.getElem?_append_left (by rw [h.len]; exact hk)] at e
    exact e
  have newr : ∀ {k a}, (w.r ++ [p])[k]? = some a → w.S.length ≤ k → k = w.S.length ∧ a = p := fun {k a} e hk => by
    have hl := (List.getElem?_eq_some_iff.mp e).1
    rw [List.length_append, List.length_singleton, h.len] at hl
    have ek : k = w.S.length := by omega
    subst ek
    rw [← h.len, List.getElem?_append_right (Nat.le_refl _), Nat.sub_self] at e
    exact ⟨rfl, (Option.some.inj e).symm⟩
  have addr_some : ∀ {k a}, w.r[k]? = some a → alv w.S k → ∃ x, w.H a = some x := fun {k a} e hl => by
    obtain ⟨c', e2, hd⟩ := hl
    exact (h.cell k a c' e e2).some hd
  refine ⟨⟨?_, h.same.trans sH, fun k a c' e1 e2 => ?_, fun k m a e1 e2 l1 l2 => ?_⟩, ⟨[p], rfl⟩, h.len, fun k hk q => alv_append_left hk q, fun k a hk e _ => ?_, Same.refl _, fun a x e _ => sH a x e, fun a e => ?_, fun _ _ f _ => f⟩
  · simp [h.len]
  · show CellOk K (w.r ++ [p]) w.F (upd w.H p o) a c'
    by_cases hk : k < w.S.length
    · have e2' : w.S[k]? = some c' := by
        have z : (w.S ++ [c])[k]? = some c' := e2
        rw [List.getElem?_append_left hk] at z
        exact z
      exact (h.cell k a c' (oldr e1 hk) e2').mono ⟨[p], rfl⟩ (Same.refl _) (fun _ z => z) (fun _ x z => sH _ _ z)
    · obtain ⟨ek, ea⟩ := newr e1 (Nat.le_of_not_lt hk)
      subst ea
      have z : (w.S ++ [c])[k]? = some c' := e2
      rw [ek, List.getElem?_append_right (Nat.le_refl _), Nat.sub_self] at z
      have : c = c' := Option.some.inj z
      subst this
      exact hc
  · have e1' : (w.r ++ [p])[k]? = some a := e1
    have e2' : (w.r ++ [p])[m]? = some a := e2
    by_cases hk : k < w.S.length
    · by_cases hm : m < w.S.length
      · exact h.inj k m a (oldr e1' hk) (oldr e2' hm) (alv_append_left hk l1) (alv_append_left hm l2)
      · obtain ⟨_, ea⟩ := newr e2' (Nat.le_of_not_lt hm)
        obtain ⟨x, ex⟩ := addr_some (oldr e1' hk) (alv_append_left hk l1)
        rw [ea, n] at ex
        cases ex
    · obtain ⟨ek, ea⟩ := newr e1' (Nat.le_of_not_lt hk)
      by_cases hm : m < w.S.length
      · obtain ⟨x, ex⟩ := addr_some (oldr e2' hm) (alv_append_left hm l2)
        rw [ea, n] at ex
        cases ex
      · obtain ⟨em, _⟩ := newr e2' (Nat.le_of_not_lt hm)
        omega
  · obtain ⟨_, ea⟩ := newr e hk
    rw [ea]
    exact n
  · show w.H a = none
    have e' : upd w.H p o a = none := e
    by_cases hb : a = p
    · subst hb
      rw [upd_same] at e'
      cases e'
    · rw [upd_ne hb] at e'
      exact e'
theorem get_set {S : Store} {n k : Nat} {c : Cn} : (S.set n c)[k]? = if k = n then (if n < S.length then some c else none) else S[k]? := by
  rw [List.getElem?_set]
  by_cases h : n = k
  · subst h; simp
  · rw [if_neg h, if_neg (Ne.symm h)]
theorem alv_set {S : Store} {n k : Nat} {c c0 : Cn} (e0 : S[n]? = some c0) (h0 : c0 ≠ .dead) (h : alv (S.set n c) k) : alv S k := by
  obtain ⟨x, e, q⟩ := h
  rw [get_set] at e
  by_cases hk : k = n
  · subst hk
    exact ⟨c0, e0, h0⟩
  · rw [if_neg hk] at e
    exact ⟨x, e, q⟩
/-- a cell is written -/
theorem Go.write (h : Wd K w) {n : Nat} {a : Addr} {c0 c : Cn} {o : HO} (e0 : w.S[n]? = some c0) (h0 : c0 ≠ .dead) (er : w.r[n]? = some a) (hc : CellOk K w.r w.F (upd w.H a o) a c) : Go K w ⟨w.r, w.F, w.S.set n c, upd w.H a o⟩ := by
  have fa : w.F a = none := (h.cell n a c0 er e0).free h0
  obtain ⟨x0, hx0⟩ := (h.cell n a c0 er e0).some h0
  have other : ∀ {k b}, w.r[k]? = some b → alv w.S k → k ≠ n → b ≠ a := fun {k b} e hl hk z => by
    subst z
    exact hk (h.inj k n b e er hl ⟨c0, e0, h0⟩)
  refine ⟨⟨by simp [h.len], fun b x e => ?_, fun k b c' e1 e2 => ?_, fun k m b e1 e2 l1 l2 => h.inj k m b e1 e2 (alv_set e0 h0 l1) (alv_set e0 h0 l2)⟩, ⟨[], by simp⟩, h.len, fun k hk q => alv_set e0 h0 q, fun k b hk e _ => ?_, Same.refl _, fun b x e q => ?_, fun b e => ?_, fun _ _ f _ => f⟩
  · show upd w.H a o b = some x
    rw [upd_ne (ne_of_none e fa)]
    exact h.same _ _ e
  · show CellOk K w.r w.F (upd w.H a o) b c'
    have e2' : (w.S.set n c)[k]? = some c' := e2
    rw [get_set] at e2'
    by_cases hk : k = n
    · subst hk
      rw [if_pos rfl, if_pos (List.getElem?_eq_some_iff.mp e0).1] at e2'
      have ec : c = c' := Option.some.inj e2'
      subst ec
      have eb : a = b := Option.some.inj (er.symm.trans e1)
      subst eb
      exact hc
    · rw [if_neg hk] at e2'
      refine (h.cell k b c' e1 e2').mono ⟨[], by simp⟩ (Same.refl _) (fun _ z => z) (fun hd x z => ?_)
      rw [upd_ne (other e1 ⟨c', e2', hd⟩ hk)]
      exact z
  · have hk1 : k < w.r.length := (List.getElem?_eq_some_iff.mp e).1
    have hk2 : w.S.length ≤ k := hk
    have := h.len
    omega
  · show upd w.H a o b = some x
    have : b ≠ a := fun z => by
      subst z
      exact q n er ⟨c0, e0, h0⟩
    rw [upd_ne this]
    exact e
  · show w.H b = none
    have e' : upd w.H a o b = none := e
    by_cases hb : b = a
    · subst hb
      rw [upd_same] at e'
      cases e'
    · rw [upd_ne hb] at e'
      exact e'
/-- a cell is frozen -/
theorem Go.freeze (h : Wd K w) {n : Nat} {a : Addr} {l : List D} {vs : List V} (e0 : w.S[n]? = some (.lst l)) (er : w.r[n]? = some a) (ha : w.H a = some (.lst vs)) : Go K w ⟨w.r, upd w.F a (.lst vs), w.S.set n .dead, w.H⟩ := by
  have h0 : Cn.lst l ≠ .dead := by simp
  have fa : w.F a = none := (h.cell n a _ er e0).free h0
  have sF : Same w.F (upd w.F a (.lst vs)) := fun b x e => by rw [upd_ne (ne_of_none e fa)]; exact e
  have other : ∀ {k b}, w.r[k]? = some b → alv w.S k → k ≠ n → b ≠ a := fun {k b} e hl hk z => by
    subst z
    exact hk (h.inj k n b e er hl ⟨_, e0, h0⟩)
  refine ⟨⟨by simp [h.len], fun b x e => ?_, fun k b c' e1 e2 => ?_, fun k m b e1 e2 l1 l2 => h.inj k m b e1 e2 (alv_set e0 h0 l1) (alv_set e0 h0 l2)⟩, ⟨[], by simp⟩, h.len, fun k hk q => alv_set e0 h0 q, fun k b hk e _ => ?_, sF, fun b x e q => e, fun b e => e, fun b e f q => by
    show upd w.F a (.lst vs) b = none
    rw [upd_ne (fun z => by
      subst z
      exact q n er ⟨_, e0, h0⟩)]
    exact f⟩
  · show w.H b = some x
    have e' : upd w.F a (.lst vs) b = some x := e
    by_cases hb : b = a
    · subst hb
      rw [upd_same] at e'
      rw [ha]
      exact e'
    · rw [upd_ne hb] at e'
      exact h.same _ _ e'
  · have e2' : (w.S.set n .dead)[k]? = some c' := e2
    rw [get_set] at e2'
    by_cases hk : k = n
    · subst hk
      rw [if_pos rfl, if_pos (List.getElem?_eq_some_iff.mp e0).1] at e2'
      have ec : Cn.dead = c' := Option.some.inj e2'
      subst ec
      exact trivial
    · rw [if_neg hk] at e2'
      refine (h.cell k b c' e1 e2').mono ⟨[], by simp⟩ sF (fun hd z => ?_) (fun hd x z => z)
      show upd w.F a (.lst vs) b = none
      rw [upd_ne (other e1 ⟨c', e2', hd⟩ hk)]
      exact z
  · have hk1 : k < w.r.length := (List.getElem?_eq_some_iff.mp e).1
    have hk2 : w.S.length ≤ k := hk
    have := h.len
    omega
end

section
variable {K : PySem.W.Frag} {w w1 w2 : Wl}
/-- an object that is not in the store yet: written, taken in -/
theorem Go.loose (g : Go K w w1) {p : Addr} {o : HO} (n : w.H p = none) (h1 : w1.H p ≠ none) (h2 : w1.F p = none) (h3 : ∀ (n : Nat), w1.r[n]? = some p → ¬ alv w1.S n) : Go K w ⟨w1.r, w1.F, w1.S, upd w1.H p o⟩ where
  wd := ⟨g.wd.len, fun b x e => by show upd w1.H p o b = some x; rw [upd_ne (ne_of_none e h2)]; exact g.wd.same _ _ e, fun k a c e1 e2 => (g.wd.cell k a c e1 e2).mono ⟨[], by simp⟩ (Same.refl _) (fun _ z => z) (fun hd x z => by
    show upd w1.H p o a = some x
    rw [upd_ne (fun q => h3 k (by rw [← q]; exact e1) ⟨c, e2, hd⟩)]
    exact z), g.wd.inj⟩
  pre := g.pre
  len := g.len
  live := g.live
  new := g.new
  F := g.F
  fr := fun a x e q => by
    show upd w1.H p o a = some x
    rw [upd_ne (ne_of_none e n)]
    exact g.fr a x e q
  trk := fun a e => by
    have e' : upd w1.H p o a = none := e
    by_cases hb : a = p
    · subst hb
      rw [upd_same] at e'
      cases e'
    · rw [upd_ne hb] at e'
      exact g.trk a e'
  fnew := g.fnew
theorem Go.adopt (g : Go K w w1) {p : Addr} {o : HO} (n : w.H p = none) (h1 : w1.H p = some o) (h2 : w1.F p = none) (h3 : ∀ (n : Nat), w1.r[n]? = some p → ¬ alv w1.S n) : Go K w ⟨w1.r, upd w1.F p o, w1.S, w1.H⟩ := by
  have sF : Same w1.F (upd w1.F p o) := fun b x e => by rw [upd_ne (ne_of_none e h2)]; exact e
  refine ⟨⟨g.wd.len, fun b x e => ?_, fun k a c e1 e2 => (g.wd.cell k a c e1 e2).mono ⟨[], by simp⟩ sF (fun hd z => ?_) (fun _ _ z => z), g.wd.inj⟩, g.pre, g.len, g.live, g.new, g.F.trans sF, g.fr, g.trk, fun a e f q => ?_⟩
  · show w1.H b = some x
    have e' : upd w1.F p o b = some x := e
    by_cases hb : b = p
    · subst hb
      rw [upd_same] at e'
      rw [h1]
      exact e'
    · rw [upd_ne hb] at e'
      exact g.wd.same _ _ e'
  · show upd w1.F p o a = none
    rw [upd_ne (fun q => h3 k (by rw [← q]; exact e1) ⟨c, e2, hd⟩)]
    exact z
  · show upd w1.F p o a = none
    rw [upd_ne (fun q => e (by rw [q]; exact n))]
    exact g.fnew a e f q
theorem Go.adoptCell (g : Go K w w1) {p : Addr} {o : HO} {c : Cn} (n : w.H p = none) (h1 : w1.H p = some o) (h2 : w1.F p = none) (h3 : ∀ (n : Nat), w1.r[n]? = some p → ¬ alv w1.S n) (hc : CellOk K (w1.r ++ [p]) w1.F w1.H p c) :
    Go K w ⟨w1.r ++ [p], w1.F, w1.S ++ [c], w1.H⟩ := by
  have oldr : ∀ {k a}, (w1.r ++ [p])[k]? = some a → k < w1.S.length → w1.r[k]? = some a := fun {k a} e hk => by
    rw [List.getElem?_append_left (by rw [g.wd.len]; exact hk)] at e
    exact e
  have newr : ∀ {k a}, (w1.r ++ [p])[k]? = some a → w1.S.length ≤ k → k = w1.S.length ∧ a = p := fun {k a} e hk => by
    have hl := (List.getElem?_eq_some_iff.mp e).1
    rw [List.length_append, List.length_singleton, g.wd.len] at hl
    have ek : k = w1.S.length := by omega
    subst ek
    rw [← g.wd.len, List.getElem?_append_right (Nat.le_refl _), Nat.sub_self] at e
    exact ⟨rfl, (Option.some.inj e).symm⟩
  have hlen := g.slen
  obtain ⟨t, et⟩ := g.pre
  refine ⟨⟨by simp [g.wd.len], g.wd.same, fun k a c' e1 e2 => ?_, fun k m a e1 e2 l1 l2 => ?_⟩, ⟨t ++ [p], by show w1.r ++ [p] = _; rw [et, List.append_assoc]⟩, g.len, fun k hk q => g.live k hk (alv_append_left (Nat.lt_of_lt_of_le hk hlen) q), fun k a hk e q => ?_, g.F, g.fr, g.trk, g.fnew⟩
  · show CellOk K (w1.r ++ [p]) w1.F w1.H a c'
    by_cases hk : k < w1.S.length
    · have e2' : w1.S[k]? = some c' := by
        have z : (w1.S ++ [c])[k]? = some c' := e2
        rw [List.getElem?_append_left hk] at z
        exact z
      exact (g.wd.cell k a c' (oldr e1 hk) e2').mono ⟨[p], rfl⟩ (Same.refl _) (fun _ z => z) (fun _ x z => z)
    · obtain ⟨ek, ea⟩ := newr e1 (Nat.le_of_not_lt hk)
      subst ea
      have z : (w1.S ++ [c])[k]? = some c' := e2
      rw [ek, List.getElem?_append_right (Nat.le_refl _), Nat.sub_self] at z
      have : c = c' := Option.some.inj z
      subst this
      exact hc
  · have e1' : (w1.r ++ [p])[k]? = some a := e1
    have e2' : (w1.r ++ [p])[m]? = some a := e2
    by_cases hk : k < w1.S.length
    · by_cases hm : m < w1.S.length
      · exact g.wd.inj k m a (oldr e1' hk) (oldr e2' hm) (alv_append_left hk l1) (alv_append_left hm l2)
      · obtain ⟨_, ea⟩ := newr e2' (Nat.le_of_not_lt hm)
        exact (h3 k (by rw [← ea]; exact oldr e1' hk) (alv_append_left hk l1)).elim
    · obtain ⟨ek, ea⟩ := newr e1' (Nat.le_of_not_lt hk)
      by_cases hm : m < w1.S.length
      · exact (h3 m (by rw [← ea]; exact oldr e2' hm) (alv_append_left hm l2)).elim
      · obtain ⟨em, _⟩ := newr e2' (Nat.le_of_not_lt hm)
        omega
  · by_cases hm : k < w1.S.length
    · exact g.new k a hk (oldr e hm) (alv_append_left hm q)
    · obtain ⟨_, ea⟩ := newr e (Nat.le_of_not_lt hm)
      rw [ea]
      exact n
/-- the cells that came behind n are forgotten -/
theorem take_get {α : Type} {l : List α} {n k : Nat} {x : α} (h : (l.take n)[k]? = some x) : l[k]? = some x ∧ k < n := by
  rw [List.getElem?_take] at h
  by_cases hk : k < n
  · rw [if_pos hk] at h
    exact ⟨h, hk⟩
  · rw [if_neg hk] at h
    cases h
theorem alv_take {S : Store} {n k : Nat} (h : alv (S.take n) k) : alv S k := by
  obtain ⟨c, e, q⟩ := h
  exact ⟨c, (take_get e).1, q⟩
end
/-! no cell from n on is told of -/
mutual
def D.under (n : Nat) : D → Bool
  | .cell k => decide (k < n)
  | .tup l => D.underL n l
  | .lst l => D.underL n l
  | .scr l => D.underL n l
  | _ => true
def D.underL (n : Nat) : List D → Bool
  | [] => true
  | d :: l => D.under n d && D.underL n l
end
section
variable {K : PySem.W.Frag} {r : List Addr} {F : Hp}
mutual
theorem Rp.cut {n : Nat} : ∀ (d : D) (v : V), D.under n d = true → Rp K r F d v → Rp K (r.take n) F d v
  | .non, _, _, h => by unfold Rp at h ⊢; exact h
  | .bl _, _, _, h => by unfold Rp at h ⊢; exact h
  | .int _, _, _, h => by unfold Rp at h ⊢; exact h
  | .str _, _, _, h => by unfold Rp at h ⊢; exact h
  | .raw _, _, _, h => by unfold Rp at h ⊢; exact h
  | .cell k, _, u, h => by
    unfold Rp at h ⊢
    unfold D.under at u
    obtain ⟨a, e, q⟩ := h
    refine ⟨a, ?_, q⟩
    rw [List.getElem?_take, if_pos (of_decide_eq_true u)]
    exact e
  | .tup l, _, u, h => by
    unfold Rp at h ⊢
    unfold D.under at u
    obtain ⟨a, vs, e, q, p⟩ := h
    exact ⟨a, vs, e, q, Rps.cut l vs u p⟩
  | .lst l, _, u, h => by
    unfold Rp at h ⊢
    unfold D.under at u
    obtain ⟨a, vs, e, q, p⟩ := h
    exact ⟨a, vs, e, q, Rps.cut l vs u p⟩
  | .scr l, _, u, h => by
    unfold Rp at h ⊢
    unfold D.under at u
    obtain ⟨a, vs, e, q, p⟩ := h
    exact ⟨a, vs, e, q, Rps.cut l vs u p⟩
  | .cls _, _, _, h => by unfold Rp at h ⊢; exact h
  | .exn _ _, _, _, h => by unfold Rp at h ⊢; exact h
theorem Rps.cut {n : Nat} : ∀ (l : List D) (vs : List V), D.underL n l = true → Rps K r F l vs → Rps K (r.take n) F l vs
  | [], _, _, h => by unfold Rps at h ⊢; exact h
  | d :: l, vs, u, h => by
    unfold Rps at h ⊢
    unfold D.underL at u
    rw [Bool.and_eq_true] at u
    obtain ⟨v, t, e, p, q⟩ := h
    exact ⟨v, t, e, Rp.cut d v u.1 p, Rps.cut l t u.2 q⟩
end
end
def Cn.under (n : Nat) : Cn → Bool
  | .dead => true
  | .lst l => D.underL n l
  | .dct kvs => kvs.all fun p => D.under n p.2
theorem RpK.cut {K : PySem.W.Frag} {r : List Addr} {F : Hp} {n : Nat} : ∀ {kvs : List (Key × D)} {ws : List (Key × V)}, (kvs.all fun p => D.under n p.2) = true → RpK K r F kvs ws → RpK K (r.take n) F kvs ws
  | [], _, _, .nil => .nil
  | p :: kvs, _, u, .cons h t => by
    rw [List.all_cons, Bool.and_eq_true] at u
    exact .cons ⟨h.1, Rp.cut _ _ u.1 h.2⟩ (RpK.cut u.2 t)
theorem CellOk.cut {K : PySem.W.Frag} {r : List Addr} {F H : Hp} {a : Addr} {n : Nat} {c : Cn} (u : c.under n = true) (h : CellOk K r F H a c) : CellOk K (r.take n) F H a c := by
  cases c with
  | dead => exact trivial
  | lst l =>
    obtain ⟨f, vs, e, q⟩ := h
    exact ⟨f, vs, e, Rps.cut _ _ u q⟩
  | dct kvs =>
    obtain ⟨f, vs, e, q⟩ := h
    exact ⟨f, vs, e, RpK.cut u q⟩
/-- a def's end: the cells that it made are forgotten -/
theorem Go.cut {K : PySem.W.Frag} {w w1 : Wl} (g : Go K w w1) (u : ((w1.S.take w.S.length).all fun c => c.under w.S.length) = true) : Go K w ⟨w1.r.take w.S.length, w1.F, w1.S.take w.S.length, w1.H⟩ := by
  have hl := g.slen
  have hr := g.wd.len
  obtain ⟨t, et⟩ := g.pre
  refine ⟨⟨by simp [hr], g.wd.same, fun k a c e1 e2 => ?_, fun k m a e1 e2 l1 l2 => g.wd.inj k m a (take_get e1).1 (take_get e2).1 (alv_take l1) (alv_take l2)⟩, ⟨[], ?_⟩, g.len, fun k hk q => g.live k hk (alv_take q), fun k a hk e q => ?_, g.F, g.fr, g.trk, g.fnew⟩
  · have hm : c ∈ w1.S.take w.S.length := List.mem_of_getElem? e2
    exact (g.wd.cell k a c (take_get e1).1 (take_get e2).1).cut (List.all_eq_true.mp u c hm)
  · show w1.r.take w.S.length = w.r ++ []
    rw [et, ← g.len, List.take_left, List.append_nil]
  · have := (take_get e).2
    have hk' : w.S.length ≤ k := hk
    omega

/-! ### what an end is to show -/
def ExcOk (K : PySem.W.Frag) (mg : Str → Option Value) (w : Wl) (x : Exn) (cls : Value) (dd : Option Addr) : Prop :=
  ∃ C, ClsAt K x.cls C ∧ cls = .ref C ∧ FldOk w.F dd x.val
/-- what the written part tells -/
structure Kt where
  K : PySem.W.Frag
  mg : Str → Option Value
abbrev kt (X : Cx) : Kt := ⟨X.K, X.mg⟩
def SatW {α β : Type} (T : Kt) (W : WX) (σ : L2.St) (R : Wl → α → β → Prop) (w : Wl) (res : Res α) (P : Wl → α → β → Prop) : Prop := match res with
  | .ok d S' => ∀ w' v, Go T.K w w' → w'.S = S' → R w' d v → P w' d v
  | .exc x S' => ∀ w' cls dd, Go T.K w w' → w'.S = S' → ExcOk T.K T.mg w' x cls dd → W cls dd σ w'.H
  | .bad => False
section
variable {α β γ δ : Type} {T : Kt} {W : WX} {σ : L2.St} {R : Wl → α → β → Prop} {R' : Wl → γ → δ → Prop} {w w1 : Wl}
theorem SatW.pre {res : Res α} {P : Wl → α → β → Prop} (h : SatW T W σ R w res P) (g : Go T.K w w1) : SatW T W σ R w1 res P := by
  cases res with
  | ok d S => exact fun w' v g' e q => h w' v (g.trans g') e q
  | exc x S => exact fun w' cls dd g' e q => h w' cls dd (g.trans g') e q
  | bad => exact h
theorem SatW.bind {x : Res α} {k : α → Store → Res γ} {P : Wl → γ → δ → Prop} (h : SatW T W σ R' w (x.bind k) P) : SatW T W σ R w x (fun w1 d _ => SatW T W σ R' w1 (k d w1.S) P) := by
  cases x with
  | ok d S => exact fun w' v g e q => by subst e; exact SatW.pre (res := k d w'.S) h g
  | exc x S => exact h
  | bad => exact h
theorem SatW.imp {res : Res α} {P P' : Wl → α → β → Prop} (h : SatW T W σ R w res P) (hP : ∀ w' d v, Go T.K w w' → R w' d v → P w' d v → P' w' d v) : SatW T W σ R w res P' := by
  cases res with
  | ok d S => exact fun w' v g e q => hP w' d v g q (h w' v g e q)
  | exc x S => exact h
  | bad => exact h
theorem SatW.here {d : α} {v : β} {P : Wl → α → β → Prop} (h : SatW T W σ R w (.ok d w.S) P) (hw : Wd T.K w) (q : R w d v) : P w d v := h w v (Go.refl hw) rfl q
end

def EnvOk (K : PySem.W.Frag) (w : Wl) (env : Env) (σ : L2.St) : Prop := env.length = σ.length ∧ ∀ (i : Nat) d, env[i]? = some (some d) → ∃ v, σ[i]? = some (some v) ∧ Rp K w.r w.F d v
theorem EnvOk.go {K : PySem.W.Frag} {w w1 : Wl} {env : Env} {σ : L2.St} (h : EnvOk K w env σ) (g : Go K w w1) : EnvOk K w1 env σ :=
  ⟨h.1, fun i d e => let ⟨v, e2, q⟩ := h.2 i d e; ⟨v, e2, q.go g⟩⟩
theorem EnvOk.set {K : PySem.W.Frag} {w : Wl} {env : Env} {σ : L2.St} (h : EnvOk K w env σ) {i : Nat} {d : D} {v : V} (q : Rp K w.r w.F d v) : EnvOk K w (env.set i (some d)) (σ.set i (some v)) := by
  refine ⟨by simp [h.1], fun j d' e => ?_⟩
  rw [List.getElem?_set] at e
  by_cases hj : i = j
  · subst hj
    rw [if_pos rfl] at e
    by_cases hl : i < env.length
    · rw [if_pos hl] at e
      have ed : d = d' := by injection (Option.some.inj e)
      subst ed
      exact ⟨v, by rw [List.getElem?_set_self (by rw [← h.1]; exact hl)], q⟩
    · rw [if_neg hl] at e
      cases e
  · rw [if_neg hj] at e
    obtain ⟨v', e2, q'⟩ := h.2 j d' e
    exact ⟨v', by rw [List.getElem?_set_ne hj]; exact e2, q'⟩
theorem EnvOk.unset {K : PySem.W.Frag} {w : Wl} {env : Env} {σ : L2.St} (h : EnvOk K w env σ) {i : Nat} : EnvOk K w (env.set i none) (σ.set i none) := by
  refine ⟨by simp [h.1], fun j d' e => ?_⟩
  rw [List.getElem?_set] at e
  by_cases hj : i = j
  · subst hj
    rw [if_pos rfl] at e
    by_cases hl : i < env.length
    · rw [if_pos hl] at e
      cases Option.some.inj e
    · rw [if_neg hl] at e
      cases e
  · rw [if_neg hj] at e
    obtain ⟨v', e2, q'⟩ := h.2 j d' e
    exact ⟨v', by rw [List.getElem?_set_ne hj]; exact e2, q'⟩

abbrev RD (K : PySem.W.Frag) : Wl → D → V → Prop := fun w d v => Rp K w.r w.F d v
abbrev RDs (K : PySem.W.Frag) : Wl → List D → List V → Prop := fun w d v => Rps K w.r w.F d v
abbrev RB : Wl → Bool → Bool → Prop := fun _ a b => a = b

/-- the readings -/
def tD (T : Kt) (W : WX) (f : Env → M D) : TE := fun σ H Q => ∃ (w : Wl) (env : Env), w.H = H ∧ Wd T.K w ∧ EnvOk T.K w env σ ∧ SatW T W σ (RD T.K) w (f env w.S) (fun w' _ v => Q v w'.H)
def tDB (T : Kt) (W : WX) (f : Env → M Bool) : TT := fun σ H Q => ∃ (w : Wl) (env : Env), w.H = H ∧ Wd T.K w ∧ EnvOk T.K w env σ ∧ SatW T W σ RB w (f env w.S) (fun w' _ v => Q v w'.H)
def tDA (T : Kt) (W : WX) (f : Env → M (List D)) : TA := fun σ H Q => ∃ (w : Wl) (env : Env), w.H = H ∧ Wd T.K w ∧ EnvOk T.K w env σ ∧ SatW T W σ (RDs T.K) w (f env w.S) (fun w' _ v => Q v w'.H)
def PD (X : Cx) (W : WX) (e : Expr) (f : Env → M D) : Prop := PE X e (tD (kt X) W f)
def PTD (X : Cx) (W : WX) (e : Expr) (f : Env → M Bool) : Prop := PT X e (tDB (kt X) W f)
def PWD (X : Cx) (W : WX) (e : Expr) (f : Env → M Bool) : Prop := PW X e (tDB (kt X) W f)
def PAD (X : Cx) (W : WX) (es : List Expr) (f : Env → M (List D)) : Prop := PA X es (tDA (kt X) W f)
theorem weakE {X : Cx} {e : Expr} {t t' : TE} (h : PE X e t) (q : ∀ σ H Q, t' σ H Q → t σ H Q) : PE X e t' := ⟨fun pins s σ H Q I z => h.run pins s σ H Q I (q _ _ _ z)⟩
theorem weakT {X : Cx} {e : Expr} {t t' : TT} (h : PT X e t) (q : ∀ σ H Q, t' σ H Q → t σ H Q) : PT X e t' := ⟨fun pins s σ H Q I z => h.run pins s σ H Q I (q _ _ _ z)⟩
theorem weakW {X : Cx} {e : Expr} {t t' : TT} (h : PW X e t) (q : ∀ σ H Q, t' σ H Q → t σ H Q) : PW X e t' := ⟨fun wh pins s σ H Q I z => h.run wh pins s σ H Q I (q _ _ _ z)⟩
theorem weakA {X : Cx} {e : List Expr} {t t' : TA} (h : PA X e t) (q : ∀ σ H Q, t' σ H Q → t σ H Q) : PA X e t' := ⟨fun pos pins s σ H Q I z => h.run pos pins s σ H Q I (q _ _ _ z)⟩
theorem weakS {X : Cx} {e : Stmt} {t t' : TS} (h : PS X e t) (q : ∀ D σ H, t' D σ H → t D σ H) : PS X e t' := ⟨fun pins s σ H D I z => h.run pins s σ H D I (q _ _ _ z)⟩
theorem weakSs {X : Cx} {e : List Stmt} {t t' : TS} (h : PSs X e t) (q : ∀ D σ H, t' D σ H → t D σ H) : PSs X e t' := ⟨fun pins s σ H D I z => h.run pins s σ H D I (q _ _ _ z)⟩
end Dv
/-! # Dv2: expressions -/
namespace Dv
open PySem PySem.Spec PyProof.Rows L2

/-! ### reading a list -/
def getL (d : D) (S : Store) : Option (List D) := match d with
  | .lst l => some l
  | .cell n => match S[n]? with
    | some (.lst l) => some l
    | _ => none
  | _ => none
def getT : D → Option (List D)
  | .tup l => some l
  | _ => none
section
variable {K : PySem.W.Frag} {w : Wl} {d : D} {v : V} {l : List D}
theorem getL_cell {n : Nat} (h : getL (.cell n) w.S = some l) : w.S[n]? = some (.lst l) := by
  simp only [getL] at h
  split at h
  · rename_i l' e
    rw [e, Option.some.inj h]
  · cases h
theorem getL_ok (hw : Wd K w) (hr : Rp K w.r w.F d v) (h : getL d w.S = some l) : ∃ a vs, v = .ref a ∧ w.H a = some (.lst vs) ∧ Rps K w.r w.F l vs := by
  cases d with
  | lst l' =>
    have e : l' = l := Option.some.inj h
    subst e
    unfold Rp at hr
    obtain ⟨a, vs, e, q, p⟩ := hr
    exact ⟨a, vs, e, hw.same _ _ q, p⟩
  | cell n =>
    have hs := getL_cell h
    unfold Rp at hr
    obtain ⟨a, e, q⟩ := hr
    obtain ⟨_, vs, e2, p⟩ := hw.cell n a _ e hs
    exact ⟨a, vs, q, e2, p⟩
  | non => cases h
  | bl _ => cases h
  | int _ => cases h
  | str _ => cases h
  | tup _ => cases h
  | scr _ => cases h
  | raw _ => cases h
  | cls _ => cases h
  | exn _ _ => cases h
/-- a list that is read alone -/
def getQ (d : D) (S : Store) : Option (List D) := match d with
  | .scr l => some l
  | d => getL d S
@[simp] theorem getQ_lst {l : List D} {S : Store} : getQ (.lst l) S = some l := rfl
@[simp] theorem getQ_scr {l : List D} {S : Store} : getQ (.scr l) S = some l := rfl
@[simp] theorem getQ_cell {n : Nat} {S : Store} : getQ (.cell n) S = getL (.cell n) S := rfl
@[simp] theorem getL_lst {l : List D} {S : Store} : getL (.lst l) S = some l := rfl
theorem getQ_ok (hw : Wd K w) (hr : Rp K w.r w.F d v) (h : getQ d w.S = some l) : ∃ a vs, v = .ref a ∧ SqL K w.H a vs ∧ Rps K w.r w.F l vs := by
  have gen : getL d w.S = some l → ∃ a vs, v = .ref a ∧ SqL K w.H a vs ∧ Rps K w.r w.F l vs := fun h => by
    obtain ⟨a, vs, e, q, p⟩ := getL_ok hw hr h
    exact ⟨a, vs, e, .inl (.inl q), p⟩
  cases d with
  | scr l' =>
    have e : l' = l := Option.some.inj h
    subst e
    unfold Rp at hr
    obtain ⟨a, vs, e, q, p⟩ := hr
    exact ⟨a, vs, e, hw.same.seq q, p⟩
  | _ => exact gen h
theorem getT_ok (hw : Wd K w) (hr : Rp K w.r w.F d v) (h : getT d = some l) : ∃ a vs, v = .ref a ∧ Rd w.H a (.tup vs) ∧ Rps K w.r w.F l vs := by
  cases d with
  | tup l' =>
    have e : l' = l := Option.some.inj h
    subst e
    unfold Rp at hr
    obtain ⟨a, vs, e, q, p⟩ := hr
    exact ⟨a, vs, e, rd_same hw.same q, p⟩
  | _ => cases h
end

/-! ### what makes a list: a frozen one, or a cell -/
def mkF : List D → M D := fun l S => .ok (.lst l) S
def mkC : List D → M D := fun l S => .ok (.cell S.length) (S ++ [.lst l])
structure Mk (mk : List D → M D) : Prop where
  adopt : ∀ {T : Kt} {W : WX} {σ : L2.St} {w w1 : Wl} {l : List D} {vs : List V} {p : Addr} {P : Wl → D → V → Prop}, Go T.K w w1 → w.H p = none → w1.H p = some (.lst vs) → w1.F p = none → (∀ (n : Nat), w1.r[n]? = some p → ¬ alv w1.S n) → Rps T.K w1.r w1.F l vs →
    SatW T W σ (RD T.K) w (mk l w1.S) P → ∃ w' d, w'.H = w1.H ∧ P w' d (.ref p)
  ok : ∀ {X : Kt} {W : WX} {σ : L2.St} {w : Wl} {l : List D} {vs : List V} {p : Addr} {P : Wl → D → V → Prop}, Wd X.K w → w.H p = none → Rps X.K w.r w.F l vs → SatW X W σ (RD X.K) w (mk l w.S) P →
    ∃ w' d, w'.H = upd w.H p (.lst vs) ∧ P w' d (.ref p)
theorem mk_F : Mk mkF where
  adopt := fun {T W σ w w1 l vs p P} g hn h1 h2 h3 hr h => ⟨⟨w1.r, upd w1.F p (.lst vs), w1.S, w1.H⟩, _, rfl, h ⟨w1.r, upd w1.F p (.lst vs), w1.S, w1.H⟩ (.ref p) (Go.adopt g hn h1 h2 h3) rfl (by
    unfold RD Rp
    exact ⟨p, vs, rfl, upd_same, Rps.mono ⟨[], by simp⟩ (fun b x e => by show upd w1.F p _ b = _; rw [upd_ne (ne_of_none e h2)]; exact e) _ _ hr⟩)⟩
  ok := fun {X W σ w l vs p P} hw hn hr h => ⟨_, _, rfl, h ⟨w.r, upd w.F p (.lst vs), w.S, upd w.H p (.lst vs)⟩ (.ref p) (Go.alloc hw hn) rfl (by
    unfold RD Rp
    exact ⟨p, vs, rfl, upd_same, Rps.mono ⟨[], by simp⟩ (fun b x e => by show upd w.F p _ b = _; rw [upd_ne (ne_of_none e (hw.fresh hn))]; exact e) _ _ hr⟩)⟩
theorem mk_C : Mk mkC where
  adopt := fun {T W σ w w1 l vs p P} g hn h1 h2 h3 hr h => ⟨⟨w1.r ++ [p], w1.F, w1.S ++ [.lst l], w1.H⟩, _, rfl, h ⟨w1.r ++ [p], w1.F, w1.S ++ [.lst l], w1.H⟩ (.ref p) (Go.adoptCell (c := .lst l) g hn h1 h2 h3 (by exact ⟨h2, vs, h1, Rps.mono ⟨[p], rfl⟩ (Same.refl _) _ _ hr⟩)) rfl (by
    unfold RD Rp
    refine ⟨p, ?_, rfl⟩
    show (w1.r ++ [p])[w1.S.length]? = some p
    rw [← g.wd.len, List.getElem?_append_right (Nat.le_refl _), Nat.sub_self]
    rfl)⟩
  ok := fun {X W σ w l vs p P} hw hn hr h => ⟨_, _, rfl, h ⟨w.r ++ [p], w.F, w.S ++ [.lst l], upd w.H p (.lst vs)⟩ (.ref p) (Go.newCell (c := .lst l) hw hn (by exact ⟨hw.fresh hn, vs, upd_same, Rps.mono ⟨[p], rfl⟩ (Same.refl _) _ _ hr⟩)) rfl (by
    unfold RD Rp
    refine ⟨p, ?_, rfl⟩
    show (w.r ++ [p])[w.S.length]? = some p
    rw [← hw.len, List.getElem?_append_right (Nat.le_refl _), Nat.sub_self]
    rfl)⟩
theorem Mk.go {mk : List D → M D} (m : Mk mk) {X : Kt} {W : WX} {σ : L2.St} {w : Wl} {l : List D} {vs : List V} {Q : VK} (hw : Wd X.K w) (hr : Rps X.K w.r w.F l vs) (h : SatW X W σ (RD X.K) w (mk l w.S) (fun w' _ v => Q v w'.H)) :
    ∀ p, w.H p = none → Q (.ref p) (upd w.H p (.lst vs)) := fun p hn => by
  obtain ⟨w', d, e, q⟩ := m.ok hw hn hr h
  rw [← e]
  exact q
/-- a new tuple -/
theorem tup_go {X : Kt} {W : WX} {σ : L2.St} {w : Wl} {l : List D} {vs : List V} {Q : VK} (hw : Wd X.K w) (hr : Rps X.K w.r w.F l vs) (h : SatW X W σ (RD X.K) w (.ok (.tup l) w.S) (fun w' _ v => Q v w'.H)) :
    ∀ p, w.H p = none → Q (.ref p) (upd w.H p (.tup vs)) := fun p hn =>
  h ⟨w.r, upd w.F p (.tup vs), w.S, upd w.H p (.tup vs)⟩ (.ref p) (Go.alloc hw hn) rfl (by
    unfold RD Rp
    exact ⟨p, vs, rfl, .inl upd_same, Rps.mono ⟨[], by simp⟩ (fun b x e => by show upd w.F p _ b = _; rw [upd_ne (ne_of_none e (hw.fresh hn))]; exact e) _ _ hr⟩)

/-! ### the small expressions -/
def xVar (i : Nat) : Env → M D := fun e S => match e[i]? with
  | some (some d) => .ok d S
  | _ => .bad
def xC (d : D) : Env → M D := fun _ S => .ok d S
def xOp (g : D → D → M D) (a b : Env → M D) : Env → M D := fun e S => (a e S).bind fun x S1 => (b e S1).bind fun y S2 => g x y S2
def xUn (g : D → M D) (a : Env → M D) : Env → M D := fun e S => (a e S).bind fun x S1 => g x S1
def xNil : Env → M (List D) := fun _ S => .ok [] S
def xCons (a : Env → M D) (b : Env → M (List D)) : Env → M (List D) := fun e S => (a e S).bind fun x S1 => (b e S1).bind fun y S2 => .ok (x :: y) S2
def xFn (g : List D → M D) (a : Env → M (List D)) : Env → M D := fun e S => (a e S).bind fun x S1 => g x S1
def xTup (a : Env → M (List D)) : Env → M D := xFn (fun l S => if l.length ≤ 1000 then .ok (.tup l) S else .bad) a
def xLst (mk : List D → M D) (a : Env → M (List D)) : Env → M D := xFn (fun l S => if l.length ≤ 1000 then mk l S else .bad) a
theorem line1000 {n : Nat} (h : n ≤ 1000) : n ≤ sizeLine := Nat.le_trans h (by rw [sizeLine_eq]; decide)
theorem line16 {n : Nat} (h : n ≤ 16000000) : n ≤ sizeLine := Nat.le_trans h (by rw [sizeLine_eq]; decide)
theorem satIf {α β : Type} {X : Kt} {W : WX} {σ : L2.St} {R : Wl → α → β → Prop} {w : Wl} {c : Prop} [Decidable c] {res : Res α} {P : Wl → α → β → Prop} (h : SatW X W σ R w (if c then res else .bad) P) : c ∧ SatW X W σ R w res P := by
  by_cases hc : c
  · rw [if_pos hc] at h
    exact ⟨hc, h⟩
  · rw [if_neg hc] at h
    exact h.elim

def OpD (X : Cx) (fn : Value → Value → Sem Value) (g : D → D → M D) : Prop :=
  ∃ rr : R2, OpR X fn rr ∧ ∀ (w : Wl) (x y : V) (d e : D) (W : WX) (σ : L2.St) (Q : VK), Wd X.K w → RD X.K w d x → RD X.K w e y → SatW (kt X) W σ (RD X.K) w (g d e w.S) (fun w' _ v => Q v w'.H) → rr x y w.H Q
def IxD (X : Cx) (g : D → D → M D) : Prop :=
  ∃ rr : R2, IxR X rr ∧ ∀ (w : Wl) (x y : V) (d e : D) (W : WX) (σ : L2.St) (Q : VK), Wd X.K w → RD X.K w d x → RD X.K w e y → SatW (kt X) W σ (RD X.K) w (g d e w.S) (fun w' _ v => Q v w'.H) → rr x y w.H Q
def UnD (X : Cx) (fn : Value → Sem Value) (g : D → M D) : Prop :=
  ∃ rr : V → Hp → VK → Prop, UnR X fn rr ∧ ∀ (w : Wl) (x : V) (d : D) (W : WX) (σ : L2.St) (Q : VK), Wd X.K w → RD X.K w d x → SatW (kt X) W σ (RD X.K) w (g d w.S) (fun w' _ v => Q v w'.H) → rr x w.H Q
def CallD (X : Cx) (f : Value) (g : List D → M D) : Prop :=
  ∃ rr : List V → Hp → VK → Prop, CallR X f rr ∧ ∀ (w : Wl) (xs : List V) (ds : List D) (W : WX) (σ : L2.St) (Q : VK), Wd X.K w → RDs X.K w ds xs → SatW (kt X) W σ (RD X.K) w (g ds w.S) (fun w' _ v => Q v w'.H) → rr xs w.H Q
section
variable {X : Cx} {W : WX} {a b e : Expr} {es : List Expr} {f g : Env → M D} {h : Env → M (List D)} {pos : Pos}
theorem pd_var {i : Nat} {x : Str} (hN : X.N[i]? = some x := by rfl) (hv : Vis X.env.scope x := by first | exact Or.inl rfl | exact Or.inr (Or.inl rfl) | exact Or.inr (Or.inr rfl)) (hd : (x == ("__debug__" : Str)) = false := by decide)
    (hcd : (x == ("__classdict__" : Str)) = false := by decide) : PD X W (.Name x pos) (xVar i) := by
  refine weakE (pe_var (i := i) hN hv hd hcd) fun σ H Q ⟨w, env, eH, hw, he, hs⟩ => ?_
  subst eH
  unfold xVar at hs
  cases q : env[i]? with
  | none => rw [q] at hs; exact hs.elim
  | some o =>
    cases o with
    | none => rw [q] at hs; exact hs.elim
    | some d =>
      rw [q] at hs
      obtain ⟨v, e1, r⟩ := he.2 i d q
      exact ⟨v, e1, SatW.here hs hw r⟩
theorem pd_c {t : TE} {d : D} {v : V} (h : PE X e t) (ht : ∀ σ H Q, Q v H → t σ H Q) (hr : ∀ K r F, Rp K r F d v) : PD X W e (xC d) := by
  refine weakE h fun σ H Q ⟨w, env, eH, hw, he, hs⟩ => ht _ _ _ ?_
  subst eH
  exact SatW.here (d := d) (v := v) hs hw (hr _ _ _)
theorem pd_int {i j} : PD X W (.Constant (.int i) j pos) (xC (.int i)) := pd_c pe_int (fun _ _ _ q => q) fun _ _ _ => by unfold Rp; rfl
theorem pd_bl {i j} : PD X W (.Constant (.bool i) j pos) (xC (.bl i)) := pd_c pe_bl (fun _ _ _ q => q) fun _ _ _ => by unfold Rp; rfl
theorem pd_non {j} : PD X W (.Constant .none j pos) (xC .non) := pd_c pe_non (fun _ _ _ q => q) fun _ _ _ => by unfold Rp; rfl
theorem pd_str {i j} : PD X W (.Constant (.str i) j pos) (xC (.str i)) := pd_c pe_str (fun _ _ _ q => q) fun _ _ _ => by unfold Rp; rfl
theorem two {rr : R2} {k : D → D → M D} (h1 : ∀ (w : Wl) (x y : V) (d e : D) (W : WX) (σ : L2.St) (Q : VK), Wd X.K w → RD X.K w d x → RD X.K w e y → SatW (kt X) W σ (RD X.K) w (k d e w.S) (fun w' _ v => Q v w'.H) → rr x y w.H Q)
    {σ : L2.St} {H : Hp} {Q : VK} (h : tD (kt X) W (xOp k f g) σ H Q) : tOp rr (tD (kt X) W f) (tD (kt X) W g) σ H Q := by
  obtain ⟨w, env, eH, hw, he, hs⟩ := h
  subst eH
  refine ⟨w, env, rfl, hw, he, SatW.imp (SatW.bind hs) fun w1 x v g1 r1 s1 => ?_⟩
  refine ⟨w1, env, rfl, g1.wd, he.go g1, SatW.imp (SatW.bind s1) fun w2 y u g2 r2 s2 => ?_⟩
  exact h1 w2 v u x y W σ Q g2.wd (Rp.go g2 r1) r2 s2
theorem pd_op {op : Operator} {k : D → D → M D} (ho : OpD X (binaryOp op) k) (ha : PD X W a f) (hb : PD X W b g) : PD X W (.BinOp a op b pos) (xOp k f g) := by
  obtain ⟨rr, ro, h1⟩ := ho
  exact weakE (pe_op ro ha hb) fun σ H Q => two h1
theorem pd_cmp {op : CmpOp} {k : D → D → M D} (ho : OpD X (compareOp op) k) (ha : PD X W a f) (hb : PD X W b g) (hm : behindInMarks op b = false := by first | exact nomark _ | rfl) : PD X W (.Compare a [op] [b] pos) (xOp k f g) := by
  obtain ⟨rr, ro, h1⟩ := ho
  exact weakE (pe_cmpR ro ha hb hm) fun σ H Q => two h1
theorem pd_ix {k : D → D → M D} (ho : IxD X k) (ha : PD X W a f) (hb : PD X W b g) (hs : PlainIx b := by exact fun _ _ => rfl) : PD X W (.Subscript a b pos) (xOp k f g) := by
  obtain ⟨rr, ro, h1⟩ := ho
  exact weakE (pe_ix ro ha hb hs) fun σ H Q => two h1
theorem pd_un {op : UnaryOp} {k : D → M D} (ho : UnD X (unaryOp op) k) (ha : PD X W a f) : PD X W (.UnaryOp op a pos) (xUn k f) := by
  obtain ⟨rr, ro, h1⟩ := ho
  refine weakE (pe_un ro ha) fun σ H Q ⟨w, env, eH, hw, he, hs⟩ => ?_
  subst eH
  refine ⟨w, env, rfl, hw, he, SatW.imp (SatW.bind hs) fun w1 x v g1 r1 s1 => ?_⟩
  exact h1 w1 v x W σ Q g1.wd r1 s1
theorem pad_nil : PAD X W [] xNil := by
  refine weakA pa_nil fun σ H Q ⟨w, env, eH, hw, he, hs⟩ => ?_
  subst eH
  exact SatW.here (d := []) (v := []) hs hw rps_nil
theorem pad_cons (ha : PD X W e f) (hr : PAD X W es h) (hs : starEach (e :: es) X.env = (false, eval e X.env) :: starEach es X.env := by rfl) : PAD X W (e :: es) (xCons f h) := by
  refine weakA (pa_cons ha hr hs) fun σ H Q ⟨w, env, eH, hw, he, hs⟩ => ?_
  subst eH
  refine ⟨w, env, rfl, hw, he, SatW.imp (SatW.bind hs) fun w1 x v g1 r1 s1 => ?_⟩
  refine ⟨w1, env, rfl, g1.wd, he.go g1, SatW.imp (SatW.bind s1) fun w2 y u g2 r2 s2 => ?_⟩
  exact SatW.here (d := x :: y) (v := v :: u) s2 g2.wd (rps_cons (Rp.go g2 r1) r2)
theorem pd_tup {k : Nat} (ha : PAD X W es h) : PD X W (.Tuple es k pos) (xTup h) := by
  refine weakE (pe_tup ha) fun σ H Q ⟨w, env, eH, hw, he, hs⟩ => ?_
  subst eH
  refine ⟨w, env, rfl, hw, he, SatW.imp (SatW.bind hs) fun w1 x v g1 r1 s1 => ?_⟩
  obtain ⟨hl, s1⟩ := satIf s1
  exact ⟨line1000 (by rw [Rps.length r1]; exact hl), tup_go g1.wd r1 s1⟩
theorem pd_lst {mk : List D → M D} (m : Mk mk) (ha : PAD X W es h) : PD X W (.List es pos) (xLst mk h) := by
  refine weakE (pe_lst ha) fun σ H Q ⟨w, env, eH, hw, he, hs⟩ => ?_
  subst eH
  refine ⟨w, env, rfl, hw, he, SatW.imp (SatW.bind hs) fun w1 x v g1 r1 s1 => ?_⟩
  obtain ⟨hl, s1⟩ := satIf s1
  exact ⟨line1000 (by rw [Rps.length r1]; exact hl), m.go g1.wd r1 s1⟩
theorem callB {rr : List V → Hp → VK → Prop} {k : List D → M D} (h1 : ∀ (w : Wl) (xs : List V) (ds : List D) (W : WX) (σ : L2.St) (Q : VK), Wd X.K w → RDs X.K w ds xs → SatW (kt X) W σ (RD X.K) w (k ds w.S) (fun w' _ v => Q v w'.H) → rr xs w.H Q)
    {σ : L2.St} {H : Hp} {Q : VK} (hh : tD (kt X) W (xFn k h) σ H Q) : tCB rr (tDA (kt X) W h) σ H Q := by
  obtain ⟨w, env, eH, hw, he, hs⟩ := hh
  subst eH
  refine ⟨w, env, rfl, hw, he, SatW.imp (SatW.bind hs) fun w1 x v g1 r1 s1 => ?_⟩
  exact h1 w1 v x W σ Q g1.wd r1 s1
/-- a built-in function, a built-in class called -/
theorem pd_callB {id : String} {x : Str} {p : Pos} {k : List D → M D} (hc : CallD X (.builtin id) k) (hg : Gl X x) (hm : X.mg x = none) (hv : bootBuiltins x = some (.builtin id)) (ha : PAD X W (e :: es) h) (hn : x ≠ "__name__" := by decide) (hdb : (x == ("__debug__" : Str)) = false := by decide)
    (he : starEach (e :: es) X.env = (false, eval e X.env) :: starEach es X.env := by rfl) (hpl : (backTo pos (starEach es X.env)).any (·.1) = false := by rfl) : PD X W (.Call (.Name x p) (e :: es) [] pos) (xFn k h) := by
  obtain ⟨rr, ro, h1⟩ := hc
  exact weakE (pe_callB ro hg hm hv ha hn hdb he hpl) fun σ H Q => callB h1
theorem pd_callTy {T : String} {x : Str} {p : Pos} {k : List D → M D} (hc : CallD X (.type T) k) (hg : Gl X x) (hm : X.mg x = none) (hv : bootBuiltins x = some (.type T)) (ha : PAD X W (e :: es) h) (hn : x ≠ "__name__" := by decide) (hdb : (x == ("__debug__" : Str)) = false := by decide)
    (he : starEach (e :: es) X.env = (false, eval e X.env) :: starEach es X.env := by rfl) (hpl : (backTo pos (starEach es X.env)).any (·.1) = false := by rfl) : PD X W (.Call (.Name x p) (e :: es) [] pos) (xFn k h) := by
  obtain ⟨rr, ro, h1⟩ := hc
  exact weakE (pe_callTy ro hg hm hv ha hn hdb he hpl) fun σ H Q => callB h1
end
end Dv
/-! # Dv3: tests, statements, loops, calls -/
namespace Dv
open PySem PySem.Spec PyProof.Rows L2

/-! ### tests -/
/-- a value's truth -/
def tru (d : D) (S : Store) : Res Bool := match d with
  | .non => .ok false S
  | .bl b => .ok b S
  | .int i => .ok (i != 0) S
  | .str x => if x.length ≤ 16000000 then .ok ((x.length : Int) != 0) S else .bad
  | .tup l => .ok (!l.isEmpty) S
  | .lst l => .ok (!l.isEmpty) S
  | .scr l => .ok (!l.isEmpty) S
  | .cell n => match S[n]? with
    | some (.lst l) => .ok (!l.isEmpty) S
    | some (.dct l) => .ok (!l.isEmpty) S
    | _ => .bad
  | .raw _ => .bad
  | .cls _ => .bad
  | .exn _ _ => .bad
def xTru (f : Env → M D) : Env → M Bool := fun e S => (f e S).bind tru
def xIsT (f : Env → M D) : Env → M Bool := fun e S => (f e S).bind fun d S1 => match d with
  | .bl b => .ok b S1
  | _ => .bad
def xNot (f : Env → M Bool) : Env → M Bool := fun e S => (f e S).bind fun b S1 => .ok (!b) S1
def xAnd (f g : Env → M Bool) : Env → M Bool := fun e S => (f e S).bind fun b S1 => if b then g e S1 else .ok false S1
def xOr (f g : Env → M Bool) : Env → M Bool := fun e S => (f e S).bind fun b S1 => if b then .ok true S1 else g e S1
def xAndV (f g : Env → M D) : Env → M D := fun e S => (f e S).bind fun d S1 => match d with
  | .bl true => g e S1
  | .bl false => .ok (.bl false) S1
  | _ => .bad
def xOrV (f g : Env → M D) : Env → M D := fun e S => (f e S).bind fun d S1 => match d with
  | .bl true => .ok (.bl true) S1
  | .bl false => g e S1
  | _ => .bad
def xNotV (f : Env → M D) : Env → M D := fun e S => (f e S).bind fun d S1 => match d with
  | .bl b => .ok (.bl (!b)) S1
  | _ => .bad
def xIf (c : Env → M Bool) (f g : Env → M D) : Env → M D := fun e S => (c e S).bind fun b S1 => if b then f e S1 else g e S1
section
variable {X : Cx} {W : WX} {a b c e : Expr} {es rest : List Expr} {f g : Env → M D} {k k' : Env → M Bool} {h : Env → M (List D)} {pos : Pos}
theorem ptd_cmp {op : CmpOp} {k : D → D → M D} (ho : OpD X (compareOp op) k) (ha : PD X W a f) (hb : PD X W b g) (hm : behindInMarks op b = false := by first | exact nomark _ | rfl) : PTD X W (.Compare a [op] [b] pos) (xIsT (xOp k f g)) := by
  obtain ⟨rr, ro, h1⟩ := ho
  refine weakT (pt_cmpR ro ha hb hm) fun σ H Q ⟨w, env, eH, hw, he, hs⟩ => ?_
  subst eH
  refine two h1 ⟨w, env, rfl, hw, he, SatW.imp (SatW.bind hs) fun w1 d v g1 r1 s1 => ?_⟩
  cases d with
  | bl b =>
    obtain rfl : v = V.bl b := by
      have r2 : Rp X.K w1.r w1.F (.bl b) v := r1
      unfold Rp at r2; exact r2
    exact ⟨b, rfl, SatW.here (d := b) (v := b) s1 g1.wd rfl⟩
  | _ => exact s1.elim
theorem rp_bl {K : PySem.W.Frag} {r : List Addr} {F : Hp} {b : Bool} {v : V} (h : Rp K r F (.bl b) v) : v = .bl b := by unfold Rp at h; exact h
theorem rp_int {K : PySem.W.Frag} {r : List Addr} {F : Hp} {b : Int} {v : V} (h : Rp K r F (.int b) v) : v = .int b := by unfold Rp at h; exact h
theorem rp_str {K : PySem.W.Frag} {r : List Addr} {F : Hp} {b : Str} {v : V} (h : Rp K r F (.str b) v) : v = .str b := by unfold Rp at h; exact h
theorem rp_non {K : PySem.W.Frag} {r : List Addr} {F : Hp} {v : V} (h : Rp K r F .non v) : v = .non := by unfold Rp at h; exact h
theorem rp_raw {K : PySem.W.Frag} {r : List Addr} {F : Hp} {b v : V} (h : Rp K r F (.raw b) v) : v = b := by unfold Rp at h; exact h
theorem rpb {K : PySem.W.Frag} {r : List Addr} {F : Hp} {b : Bool} : Rp K r F (.bl b) (.bl b) := by unfold Rp; rfl
theorem rpi {K : PySem.W.Frag} {r : List Addr} {F : Hp} {b : Int} : Rp K r F (.int b) (.int b) := by unfold Rp; rfl
theorem rps {K : PySem.W.Frag} {r : List Addr} {F : Hp} {b : Str} : Rp K r F (.str b) (.str b) := by unfold Rp; rfl
theorem rpn {K : PySem.W.Frag} {r : List Addr} {F : Hp} : Rp K r F .non .non := by unfold Rp; rfl
theorem isEmpty_rps {K : PySem.W.Frag} {r : List Addr} {F : Hp} {l : List D} {vs : List V} (h : Rps K r F l vs) : vs.isEmpty = l.isEmpty := by
  have e := h.length
  cases l <;> cases vs <;> first | rfl | simp at e
theorem isEmpty_rpk {K : PySem.W.Frag} {r : List Addr} {F : Hp} {l : List (Key × D)} {vs : List (Key × V)} (h : RpK K r F l vs) : vs.isEmpty = l.isEmpty := by
  cases h <;> rfl
theorem tru_sat {T : Kt} {σ : L2.St} {w : Wl} {d : D} {v : V} {Q : Bool → Hp → Prop} (hw : Wd T.K w) (r : RD T.K w d v) (hs : SatW T W σ RB w (tru d w.S) (fun w' _ v => Q v w'.H)) : ∃ k, TruV T.K v w.H k ∧ Q k w.H := by
  have r' : Rp T.K w.r w.F d v := r
  cases d with
  | non => cases rp_non r'; exact ⟨false, rfl, SatW.here (d := false) (v := false) hs hw rfl⟩
  | bl b => cases rp_bl r'; exact ⟨b, rfl, SatW.here (d := b) (v := b) hs hw rfl⟩
  | int i => cases rp_int r'; exact ⟨_, rfl, SatW.here (d := (i != 0)) (v := (i != 0)) hs hw rfl⟩
  | str x =>
    cases rp_str r'
    unfold tru at hs
    obtain ⟨hl, hs⟩ := satIf hs
    exact ⟨_, ⟨line16 hl, rfl⟩, SatW.here (d := ((x.length : Int) != 0)) (v := ((x.length : Int) != 0)) hs hw rfl⟩
  | tup l =>
    obtain ⟨a, vs, rfl, q, p⟩ := getT_ok hw r' rfl
    exact ⟨!l.isEmpty, .inr (.inl ⟨vs, .inl q, by rw [isEmpty_rps p]⟩), SatW.here (d := !l.isEmpty) (v := !l.isEmpty) hs hw rfl⟩
  | lst l =>
    obtain ⟨a, vs, rfl, q, p⟩ := getL_ok hw r' rfl
    exact ⟨!l.isEmpty, .inl ⟨vs, .inl (.inl q), by rw [isEmpty_rps p]⟩, SatW.here (d := !l.isEmpty) (v := !l.isEmpty) hs hw rfl⟩
  | scr l =>
    obtain ⟨a, vs, rfl, q, p⟩ := getQ_ok hw r' rfl
    exact ⟨!l.isEmpty, .inl ⟨vs, q, by rw [isEmpty_rps p]⟩, SatW.here (d := !l.isEmpty) (v := !l.isEmpty) hs hw rfl⟩
  | cell n =>
    unfold tru at hs
    cases e : w.S[n]? with
    | none => simp only [e] at hs; exact hs.elim
    | some c =>
      cases c with
      | lst l =>
        simp only [e] at hs
        obtain ⟨a, vs, rfl, q, p⟩ := getL_ok (l := l) hw r' (by simp only [getL, e])
        exact ⟨!l.isEmpty, .inl ⟨vs, .inl (.inl q), by rw [isEmpty_rps p]⟩, SatW.here (d := !l.isEmpty) (v := !l.isEmpty) hs hw rfl⟩
      | dct l =>
        simp only [e] at hs
        unfold Rp at r'
        obtain ⟨a, e1, rfl⟩ := r'
        obtain ⟨_, vs, e2, p⟩ := hw.cell n a _ e1 e
        exact ⟨!l.isEmpty, .inr (.inr ⟨vs, e2, by rw [isEmpty_rpk p]⟩), SatW.here (d := !l.isEmpty) (v := !l.isEmpty) hs hw rfl⟩
      | dead => simp only [e] at hs; exact hs.elim
  | raw _ => exact hs.elim
  | cls _ => exact hs.elim
  | exn _ _ => exact hs.elim
theorem ptd_truth (ha : PD X W a f) (he : ∀ whole, isTrue a X.env whole = (do let v ← whole; standAt a.pos; holding [v] (truthy v)) := by intro _; rfl) : PTD X W a (xTru f) := by
  refine weakT (pt_truth ha he) fun σ H Q ⟨w, env, eH, hw, he, hs⟩ => ?_
  subst eH
  exact ⟨w, env, rfl, hw, he, SatW.imp (SatW.bind hs) fun w1 d v g1 r1 s1 => tru_sat g1.wd r1 s1⟩
theorem ptd_not (ha : PTD X W a k) : PTD X W (.UnaryOp .Not a pos) (xNot k) := by
  refine weakT (pt_not ha) fun σ H Q ⟨w, env, eH, hw, he, hs⟩ => ?_
  subst eH
  refine ⟨w, env, rfl, hw, he, SatW.imp (SatW.bind hs) fun w1 d v g1 r1 s1 => ?_⟩
  have e : d = v := r1
  subst e
  exact SatW.here (d := !d) (v := !d) s1 g1.wd rfl
theorem PWD.pt (h : PWD X W a k) : PTD X W a k := PW.pt h
theorem pwd_and1 (ha : PTD X W a k) : PWD X W (.BoolOp .And [a] pos) k := pw_and1 ha
theorem pwd_or1 (ha : PTD X W a k) : PWD X W (.BoolOp .Or [a] pos) k := pw_or1 ha
theorem pwd_and (ha : PTD X W a k) (hb : PWD X W (.BoolOp .And (b :: rest) pos) k') : PWD X W (.BoolOp .And (a :: b :: rest) pos) (xAnd k k') := by
  refine weakW (pw_and ha hb) fun σ H Q ⟨w, env, eH, hw, he, hs⟩ => ?_
  subst eH
  refine ⟨w, env, rfl, hw, he, SatW.imp (SatW.bind hs) fun w1 d v g1 r1 s1 => ?_⟩
  have e : d = v := r1
  subst e
  cases d with
  | true => exact iteT ⟨w1, env, rfl, g1.wd, he.go g1, s1⟩
  | false => exact iteF (SatW.here (d := false) (v := false) s1 g1.wd rfl)
theorem pwd_or (ha : PTD X W a k) (hb : PWD X W (.BoolOp .Or (b :: rest) pos) k') : PWD X W (.BoolOp .Or (a :: b :: rest) pos) (xOr k k') := by
  refine weakW (pw_or ha hb) fun σ H Q ⟨w, env, eH, hw, he, hs⟩ => ?_
  subst eH
  refine ⟨w, env, rfl, hw, he, SatW.imp (SatW.bind hs) fun w1 d v g1 r1 s1 => ?_⟩
  have e : d = v := r1
  subst e
  cases d with
  | true => exact iteT (SatW.here (d := true) (v := true) s1 g1.wd rfl)
  | false => exact iteF ⟨w1, env, rfl, g1.wd, he.go g1, s1⟩
theorem pd_one {op} (ha : PD X W a f) : PD X W (.BoolOp op [a] pos) f := pe_one ha
theorem pd_and (ha : PD X W a f) (hb : PD X W (.BoolOp .And (b :: rest) pos) g) : PD X W (.BoolOp .And (a :: b :: rest) pos) (xAndV f g) := by
  refine weakE (pe_and ha hb) fun σ H Q ⟨w, env, eH, hw, he, hs⟩ => ?_
  subst eH
  refine ⟨w, env, rfl, hw, he, SatW.imp (SatW.bind hs) fun w1 d v g1 r1 s1 => ?_⟩
  cases d with
  | bl b =>
    cases rp_bl (show Rp X.K w1.r w1.F (.bl b) v from r1)
    refine ⟨b, rfl, ?_⟩
    cases b with
    | true => exact iteT ⟨w1, env, rfl, g1.wd, he.go g1, s1⟩
    | false => exact iteF (SatW.here (d := D.bl false) (v := V.bl false) s1 g1.wd r1)
  | _ => exact s1.elim
theorem pd_or (ha : PD X W a f) (hb : PD X W (.BoolOp .Or (b :: rest) pos) g) : PD X W (.BoolOp .Or (a :: b :: rest) pos) (xOrV f g) := by
  refine weakE (pe_or ha hb) fun σ H Q ⟨w, env, eH, hw, he, hs⟩ => ?_
  subst eH
  refine ⟨w, env, rfl, hw, he, SatW.imp (SatW.bind hs) fun w1 d v g1 r1 s1 => ?_⟩
  cases d with
  | bl b =>
    cases rp_bl (show Rp X.K w1.r w1.F (.bl b) v from r1)
    refine ⟨b, rfl, ?_⟩
    cases b with
    | true => exact iteT (SatW.here (d := D.bl true) (v := V.bl true) s1 g1.wd r1)
    | false => exact iteF ⟨w1, env, rfl, g1.wd, he.go g1, s1⟩
  | _ => exact s1.elim
theorem pd_not (ha : PD X W a f) : PD X W (.UnaryOp .Not a pos) (xNotV f) := by
  refine weakE (pe_not ha) fun σ H Q ⟨w, env, eH, hw, he, hs⟩ => ?_
  subst eH
  refine ⟨w, env, rfl, hw, he, SatW.imp (SatW.bind hs) fun w1 d v g1 r1 s1 => ?_⟩
  cases d with
  | bl b =>
    cases rp_bl (show Rp X.K w1.r w1.F (.bl b) v from r1)
    exact ⟨b, rfl, SatW.here (d := D.bl (!b)) (v := V.bl (!b)) s1 g1.wd rpb⟩
  | _ => exact s1.elim
theorem pd_if (hc : PTD X W c k) (ha : PD X W a f) (hb : PD X W b g) : PD X W (.IfExp c a b pos) (xIf k f g) := by
  refine weakE (pe_ifExp hc ha hb) fun σ H Q ⟨w, env, eH, hw, he, hs⟩ => ?_
  subst eH
  refine ⟨w, env, rfl, hw, he, SatW.imp (SatW.bind hs) fun w1 d v g1 r1 s1 => ?_⟩
  have e : d = v := r1
  subst e
  cases d with
  | true => exact iteT ⟨w1, env, rfl, g1.wd, he.go g1, s1⟩
  | false => exact iteF ⟨w1, env, rfl, g1.wd, he.go g1, s1⟩
end

/-! ### statements -/
inductive Out where
  | nx (e : Env) (S : Store)
  | rt (d : D) (S : Store)
  | bk (e : Env) (S : Store)
  | ct (e : Env) (S : Store)
  | exc (x : Exn) (e : Env) (S : Store)
  | bad
def SatS (T : Kt) (W : WX) (w : Wl) (o : Out) (D : Ends) : Prop := match o with
  | .nx e S => ∀ w' σ', Go T.K w w' → w'.S = S → EnvOk T.K w' e σ' → D.nx σ' w'.H
  | .rt d S => ∀ w' v, Go T.K w w' → w'.S = S → Rp T.K w'.r w'.F d v → D.rt v w'.H
  | .bk e S => ∀ w' σ', Go T.K w w' → w'.S = S → EnvOk T.K w' e σ' → D.bk σ' w'.H
  | .ct e S => ∀ w' σ', Go T.K w w' → w'.S = S → EnvOk T.K w' e σ' → D.ct σ' w'.H
  | .exc x e S => ∀ w' σ' cls dd, Go T.K w w' → w'.S = S → EnvOk T.K w' e σ' → ExcOk T.K T.mg w' x cls dd → W cls dd σ' w'.H
  | .bad => False
def Res.out {α : Type} (x : Res α) (env : Env) (k : α → Store → Out) : Out := match x with
  | .ok a S => k a S
  | .exc e S => .exc e env S
  | .bad => .bad
@[simp] theorem Res.out_ok {α : Type} (a : α) (S : Store) (env : Env) (k : α → Store → Out) : (Res.ok a S).out env k = k a S := rfl
@[simp] theorem Res.out_exc {α : Type} (x : Exn) (S : Store) (env : Env) (k : α → Store → Out) : (Res.exc x S : Res α).out env k = .exc x env S := rfl
@[simp] theorem Res.out_bad {α : Type} (env : Env) (k : α → Store → Out) : (Res.bad : Res α).out env k = .bad := rfl
def Out.seq (o : Out) (k : Env → Store → Out) : Out := match o with
  | .nx e S => k e S
  | o => o
@[simp] theorem Out.seq_nx (e : Env) (S : Store) (k : Env → Store → Out) : (Out.nx e S).seq k = k e S := rfl
@[simp] theorem Out.seq_rt (d : D) (S : Store) (k : Env → Store → Out) : (Out.rt d S).seq k = .rt d S := rfl
@[simp] theorem Out.seq_bk (e : Env) (S : Store) (k : Env → Store → Out) : (Out.bk e S).seq k = .bk e S := rfl
@[simp] theorem Out.seq_ct (e : Env) (S : Store) (k : Env → Store → Out) : (Out.ct e S).seq k = .ct e S := rfl
@[simp] theorem Out.seq_exc (x : Exn) (e : Env) (S : Store) (k : Env → Store → Out) : (Out.exc x e S).seq k = .exc x e S := rfl
@[simp] theorem Out.seq_bad (k : Env → Store → Out) : Out.bad.seq k = .bad := rfl
section
variable {T : Kt} {W : WX} {w w1 : Wl} {D : Ends}
theorem SatS.pre {o : Out} (h : SatS T W w o D) (g : Go T.K w w1) : SatS T W w1 o D := by
  cases o with
  | nx e S => exact fun w' v g' e q => h w' v (g.trans g') e q
  | rt e S => exact fun w' v g' e q => h w' v (g.trans g') e q
  | bk e S => exact fun w' v g' e q => h w' v (g.trans g') e q
  | ct e S => exact fun w' v g' e q => h w' v (g.trans g') e q
  | exc x e S => exact fun w' σ' cls dd g' e q => h w' σ' cls dd (g.trans g') e q
  | bad => exact h
theorem SatS.out {α β : Type} {R : Wl → α → β → Prop} {σ : L2.St} {x : Res α} {env : Env} {k : α → Store → Out} (h : SatS T W w (x.out env k) D) (he : EnvOk T.K w env σ) :
    SatW T W σ R w x (fun w1 d _ => SatS T W w1 (k d w1.S) D) := by
  cases x with
  | ok d S => exact fun w' v g e q => by subst e; exact SatS.pre (o := k d w'.S) h g
  | exc x S => exact fun w' cls dd g e q => h w' σ cls dd g e (he.go g) q
  | bad => exact h
end
/-- a statement's reading -/
def sD (T : Kt) (W : WX) (g : Env → Store → Out) : TS := fun D σ H => ∃ (w : Wl) (env : Env), w.H = H ∧ Wd T.K w ∧ EnvOk T.K w env σ ∧ SatS T W w (g env w.S) D
def PSD (X : Cx) (W : WX) (s : Stmt) (g : Env → Store → Out) : Prop := PS X s (sD (kt X) W g)
def PSsD (X : Cx) (W : WX) (s : List Stmt) (g : Env → Store → Out) : Prop := PSs X s (sD (kt X) W g)

def yNil : Env → Store → Out := fun e S => .nx e S
def ySeq (g h : Env → Store → Out) : Env → Store → Out := fun e S => (g e S).seq h
def yBreak : Env → Store → Out := fun e S => .bk e S
def yCont : Env → Store → Out := fun e S => .ct e S
def yExpr (f : Env → M D) : Env → Store → Out := fun e S => (f e S).out e fun _ S1 => .nx e S1
def yRet (f : Env → M D) : Env → Store → Out := fun e S => (f e S).out e fun d S1 => .rt d S1
def yRetN : Env → Store → Out := fun e S => .rt .non S
def yIf (c : Env → M Bool) (g h : Env → Store → Out) : Env → Store → Out := fun e S => (c e S).out e fun b S1 => if b then g e S1 else h e S1
def yNever : Env → Store → Out := fun _ _ => .bad
def ySet (i : Nat) (f : Env → M D) : Env → Store → Out := fun e S => (f e S).out e fun d S1 => .nx (e.set i (some d)) S1
def yAsg (f : Env → M D) (g : D → Env → Store → Out) : Env → Store → Out := fun e S => (f e S).out e fun d S1 => g d e S1
def yPar (i j : Nat) (f : Env → M (List D)) : Env → Store → Out := fun e S => (f e S).out e fun l S1 => match l with
  | [a, b] => .nx ((e.set i (some a)).set j (some b)) S1
  | _ => .bad
def yAug (i : Nat) (f : Env → M D) (g : D → D → M D) : Env → Store → Out := fun e S => match e[i]? with
  | some (some x) => (f e S).out e fun y S1 => (g x y S1).out e fun z S2 => .nx (e.set i (some z)) S2
  | _ => .bad

/-- a target -/
def SatG (T : Kt) (w : Wl) (o : Out) (Q : L2.St → Hp → Prop) : Prop := match o with
  | .nx e S => ∀ w' σ', Go T.K w w' → w'.S = S → EnvOk T.K w' e σ' → Q σ' w'.H
  | _ => False
def gD (T : Kt) (g : D → Env → Store → Out) : TG := fun v σ H Q => ∃ (w : Wl) (env : Env) (d : D), w.H = H ∧ Wd T.K w ∧ EnvOk T.K w env σ ∧ Rp T.K w.r w.F d v ∧ SatG T w (g d env w.S) Q
def gDs (T : Kt) (g : List D → Env → Store → Out) : TGs := fun v σ H Q => ∃ (w : Wl) (env : Env) (d : List D), w.H = H ∧ Wd T.K w ∧ EnvOk T.K w env σ ∧ Rps T.K w.r w.F d v ∧ SatG T w (g d env w.S) Q
def PGD (X : Cx) (e : Expr) (g : D → Env → Store → Out) : Prop := PG X e (gD (kt X) g)
def PGsD (X : Cx) (e : List Expr) (g : List D → Env → Store → Out) : Prop := PGs X e (gDs (kt X) g)
theorem SatG.pre {T : Kt} {w w1 : Wl} {o : Out} {Q : L2.St → Hp → Prop} (h : SatG T w o Q) (g : Go T.K w w1) : SatG T w1 o Q := by
  cases o with
  | nx e S => exact fun w' v g' e q => h w' v (g.trans g') e q
  | _ => exact h.elim
theorem SatG.seq {T : Kt} {w : Wl} {o : Out} {k : Env → Store → Out} {Q : L2.St → Hp → Prop} (h : SatG T w (o.seq k) Q) : SatG T w o (fun σ' H' => ∃ w' e', w'.H = H' ∧ Wd T.K w' ∧ EnvOk T.K w' e' σ' ∧ Go T.K w w' ∧ o = .nx e' w'.S ∧ SatG T w' (k e' w'.S) Q) := by
  cases o with
  | nx e S => exact fun w' σ' g' es he => by subst es; exact ⟨w', e, rfl, g'.wd, he, g', rfl, SatG.pre (o := k e w'.S) h g'⟩
  | _ => exact h
theorem weakG {X : Cx} {e : Expr} {t t' : TG} (h : PG X e t) (q : ∀ v σ H Q, t' v σ H Q → t v σ H Q) : PG X e t' := ⟨fun pins s σ H v u Q I r z => h.run pins s σ H v u Q I r (q _ _ _ _ z)⟩
theorem weakGs {X : Cx} {e : List Expr} {t t' : TGs} (h : PGs X e t) (q : ∀ v σ H Q, t' v σ H Q → t v σ H Q) : PGs X e t' := ⟨fun pins s σ H v u Q I r z => h.run pins s σ H v u Q I r (q _ _ _ _ z)⟩

def gN (i : Nat) : D → Env → Store → Out := fun d e S => .nx (e.set i (some d)) S
def gsNil : List D → Env → Store → Out := fun l e S => match l with
  | [] => .nx e S
  | _ => .bad
def gsCons (g : D → Env → Store → Out) (h : List D → Env → Store → Out) : List D → Env → Store → Out := fun l e S => match l with
  | d :: r => (g d e S).seq (h r)
  | [] => .bad
def gT (n : Nat) (h : List D → Env → Store → Out) : D → Env → Store → Out := fun d e S => match d with
  | .tup l => if l.length = n then h l e S else .bad
  | _ => .bad
section
variable {X : Cx} {W : WX} {a b c e : Expr} {es rest : List Expr} {f f' : Env → M D} {k : Env → M Bool} {h : Env → M (List D)} {g g' : Env → Store → Out} {s : Stmt} {ss : List Stmt} {pos : Pos}
theorem pgd_name {i : Nat} {x : Str} (hN : X.N.Nodup) (hi : X.N[i]? = some x := by rfl) (hx : Loc X.env.scope x := by first | exact .inl rfl | exact .inr rfl) (hf : X.fn x = true ∨ X.env.scope.names.lookup x = some .local := by first | exact .inl rfl | exact .inr rfl | assumption) : PGD X (.Name x pos) (gN i) := by
  refine weakG (pg_name (i := i) hN hi hx hf) fun v σ H Q ⟨w, env, d, eH, hw, he, hr, hs⟩ => ?_
  subst eH
  exact hs w _ (Go.refl hw) rfl (he.set hr)
theorem pgsd_nil : PGsD X [] gsNil := by
  refine weakGs pgs_nil fun v σ H Q ⟨w, env, d, eH, hw, he, hr, hs⟩ => ?_
  subst eH
  cases d with
  | nil => exact ⟨hr.nil_inv, hs w _ (Go.refl hw) rfl he⟩
  | cons x l => exact hs.elim
theorem pgsd_cons {gg : D → Env → Store → Out} {hh : List D → Env → Store → Out} (h1 : PGD X e gg) (h2 : PGsD X es hh) (hs : (assignEach (e :: es) X.env).map (·.2) = assign e X.env :: (assignEach es X.env).map (·.2) := by rfl) : PGsD X (e :: es) (gsCons gg hh) := by
  refine weakGs (pgs_cons h1 h2 hs) fun v σ H Q ⟨w, env, d, eH, hw, he, hr, hs⟩ => ?_
  subst eH
  cases d with
  | nil => exact hs.elim
  | cons x l =>
    obtain ⟨v0, t, e1, r1, r2⟩ := hr.cons_inv
    refine ⟨v0, t, e1, w, env, x, rfl, hw, he, r1, ?_⟩
    have hs' : SatG (kt X) w ((gg x env w.S).seq (hh l)) Q := hs
    have q := SatG.seq hs'
    cases o : gg x env w.S with
    | nx e' S' =>
      rw [o] at q
      intro w' σ' g' es' he'
      obtain ⟨w2, e2, eH, wd2, he2, g2, eo, s2⟩ := q w' σ' g' es' he'
      exact ⟨w2, e2, l, eH, wd2, he2, Rps.go g2 r2, s2⟩
    | _ => rw [o] at q; exact q.elim
theorem pgd_tup {n : Nat} {kk : Nat} {hh : List D → Env → Store → Out} (hc : X.calm = true) (h2 : PGsD X es hh) (hn : (assignEach es X.env).length = n := by rfl) (hst : (assignEach es X.env).findIdx? (·.1) = none := by rfl) : PGD X (.Tuple es kk pos) (gT n hh) := by
  refine weakG (pg_tup hc h2 hn hst) fun v σ H Q ⟨w, env, d, eH, hw, he, hr, hs⟩ => ?_
  subst eH
  cases d with
  | tup l =>
    have hs' : SatG (kt X) w (if l.length = n then hh l env w.S else .bad) Q := hs
    by_cases hl : l.length = n
    · rw [if_pos hl] at hs'
      obtain ⟨a, vs, rfl, q, p⟩ := getT_ok hw hr rfl
      exact ⟨a, vs, rfl, .inl q, by rw [p.length]; exact hl, w, env, l, rfl, hw, he, p, hs'⟩
    · rw [if_neg hl] at hs'
      exact hs'.elim
  | _ => exact hs.elim

theorem pssd_nil : PSsD X W [] yNil := by
  refine weakSs pss_nil fun D σ H ⟨w, env, eH, hw, he, hs⟩ => ?_
  subst eH
  exact hs w σ (Go.refl hw) rfl he
theorem sat_seq {T : Kt} {w : Wl} {o : Out} {gg : Env → Store → Out} {D : Ends} (hs : SatS T W w (o.seq gg) D) : SatS T W w o { D with nx := sD T W gg D } := by
  cases o with
  | nx e S => exact fun w' σ' g1 es he => by subst es; exact ⟨w', e, rfl, g1.wd, he, SatS.pre (o := gg e w'.S) hs g1⟩
  | rt d S => exact hs
  | bk e S => exact hs
  | ct e S => exact hs
  | exc x e S => exact hs
  | bad => exact hs
theorem pssd_cons (h1 : PSD X W s g) (h2 : PSsD X W ss g') : PSsD X W (s :: ss) (ySeq g g') := by
  refine weakSs (pss_cons h1 h2) fun D σ H ⟨w, env, eH, hw, he, hs⟩ => ?_
  exact ⟨w, env, eH, hw, he, sat_seq hs⟩
theorem pssd_one (h1 : PSD X W s g) : PSsD X W [s] g := pss_one h1
theorem psd_pass : PSD X W (.Pass pos) yNil := by
  refine weakS ps_pass fun D σ H ⟨w, env, eH, hw, he, hs⟩ => ?_
  subst eH
  exact hs w σ (Go.refl hw) rfl he
theorem psd_break : PSD X W (.Break pos) yBreak := by
  refine weakS ps_break fun D σ H ⟨w, env, eH, hw, he, hs⟩ => ?_
  subst eH
  exact hs w σ (Go.refl hw) rfl he
theorem psd_continue : PSD X W (.Continue pos) yCont := by
  refine weakS ps_continue fun D σ H ⟨w, env, eH, hw, he, hs⟩ => ?_
  subst eH
  exact hs w σ (Go.refl hw) rfl he
theorem psd_never : PSD X W s yNever := weakS ps_never fun D σ H ⟨w, env, eH, hw, he, hs⟩ => hs.elim
theorem psd_expr (he : PD X W e f) (hs : swapsWith e none pos.line X.env = pure false := by rfl) : PSD X W (.Expr e pos) (yExpr f) := by
  refine weakS (ps_expr he hs) fun D σ H ⟨w, env, eH, hw, he, hs⟩ => ?_
  subst eH
  exact ⟨w, env, rfl, hw, he, SatW.imp (SatS.out hs he) fun w1 d v g1 r1 s1 => s1 w1 σ (Go.refl g1.wd) rfl (he.go g1)⟩
theorem psd_ret (he : PD X W e f) : PSD X W (.Return (some e) pos) (yRet f) := by
  refine weakS (ps_ret he) fun D σ H ⟨w, env, eH, hw, he, hs⟩ => ?_
  subst eH
  exact ⟨w, env, rfl, hw, he, SatW.imp (SatS.out hs he) fun w1 d v g1 r1 s1 => s1 w1 v (Go.refl g1.wd) rfl r1⟩
theorem psd_retN : PSD X W (.Return none pos) yRetN := by
  refine weakS ps_retN fun D σ H ⟨w, env, eH, hw, he, hs⟩ => ?_
  subst eH
  exact hs w .non (Go.refl hw) rfl rpn
theorem psd_if {x y : List Stmt} (hc : PTD X W c k) (ha : PSsD X W x g) (hb : PSsD X W y g') : PSD X W (.If c x y pos) (yIf k g g') := by
  refine weakS (ps_if hc ha hb) fun D σ H ⟨w, env, eH, hw, he, hs⟩ => ?_
  subst eH
  refine ⟨w, env, rfl, hw, he, SatW.imp (SatS.out hs he) fun w1 d v g1 r1 s1 => ?_⟩
  have e : d = v := r1
  subst e
  cases d with
  | true => exact iteT ⟨w1, env, rfl, g1.wd, he.go g1, s1⟩
  | false => exact iteF ⟨w1, env, rfl, g1.wd, he.go g1, s1⟩
theorem psd_set {i : Nat} {x : Str} {pos' : Pos} (hN : X.N.Nodup) (he : PD X W e f) (hi : X.N[i]? = some x := by rfl) (hx : Loc X.env.scope x := by first | exact .inl rfl | exact .inr rfl) (hs : swapsWith e (some (.Name x pos')) pos.line X.env = pure false := by rfl) (hf : X.fn x = true ∨ X.env.scope.names.lookup x = some .local := by first | exact .inl rfl | exact .inr rfl | assumption) :
    PSD X W (.Assign [.Name x pos'] e pos) (ySet i f) := by
  refine weakS (ps_set (i := i) hN hi hx he hs hf) fun D σ H ⟨w, env, eH, hw, he, hs⟩ => ?_
  subst eH
  exact ⟨w, env, rfl, hw, he, SatW.imp (SatS.out hs he) fun w1 d v g1 r1 s1 => s1 w1 _ (Go.refl g1.wd) rfl ((he.go g1).set r1)⟩
theorem psd_asg {tg : Expr} {gg : D → Env → Store → Out} (he : PD X W e f) (hg : PGD X tg gg) (hs : swapsWithSole [tg] e pos.line X.env = pure false := by rfl) (hw : swappedStores [tg] e X.env = pure none := by rfl)
    (h1 : (assignEach [tg] X.env).map (·.2) = [assign tg X.env] := by rfl) : PSD X W (.Assign [tg] e pos) (yAsg f (fun d e S => match gg d e S with | .nx e' S' => .nx e' S' | _ => .bad)) := by
  refine weakS (ps_asg he hg hs hw h1) fun D σ H ⟨w, env, eH, hw, he, hs⟩ => ?_
  subst eH
  refine ⟨w, env, rfl, hw, he, SatW.imp (SatS.out hs he) fun w1 d v g1 r1 s1 => ?_⟩
  refine ⟨w1, env, d, rfl, g1.wd, he.go g1, r1, ?_⟩
  cases o : gg d env w1.S with
  | nx e' S' => simp only [o] at s1; exact s1
  | _ => simp only [o] at s1; exact s1.elim
theorem psd_par {i j : Nat} {x y : Str} {px py pt : Pos} {k1 k2 pt2} (hc : X.calm = true) (hN : X.N.Nodup) (hij : i ≠ j) (ha : PAD X W [a, b] h) (hw : swappedStores [.Tuple [.Name x px, .Name y py] k1 pt] (.Tuple [a, b] k2 pt2) X.env = pure (some [x, y]))
    (hi : X.N[i]? = some x := by rfl) (hj : X.N[j]? = some y := by rfl) (hx : X.env.scope.names.lookup x = some .local := by rfl) (hy : X.env.scope.names.lookup y = some .local := by rfl)
    (hs : swapsWithSole [.Tuple [.Name x px, .Name y py] k1 pt] (.Tuple [a, b] k2 pt2) pos.line X.env = pure false := by rfl) :
    PSD X W (.Assign [.Tuple [.Name x px, .Name y py] k1 pt] (.Tuple [a, b] k2 pt2) pos) (yPar i j h) := by
  refine weakS (ps_par hc hN hi hj hij hx hy ha hw hs) fun D σ H ⟨w, env, eH, hw, he, hs⟩ => ?_
  subst eH
  refine ⟨w, env, rfl, hw, he, SatW.imp (SatS.out hs he) fun w1 d v g1 r1 s1 => ?_⟩
  match d, r1, s1 with
  | [], _, s1 => exact s1.elim
  | [_], _, s1 => exact s1.elim
  | [p, q], r1, s1 =>
    obtain ⟨v1, t, e1, r2, r3⟩ := Rps.cons_inv r1
    obtain ⟨v2, t2, e2, r4, r5⟩ := r3.cons_inv
    have e3 := r5.nil_inv
    subst e3 e2 e1
    exact ⟨v1, v2, rfl, s1 w1 _ (Go.refl g1.wd) rfl (((he.go g1).set r2).set r4)⟩
  | _ :: _ :: _ :: _, _, s1 => exact s1.elim
/-- a op= b, by values -/
def IpD (X : Cx) (op : Operator) (g : D → D → M D) : Prop :=
  ∃ rr : TIp, PIp X op rr ∧ ∀ (w : Wl) (x y : V) (d e : D) (W : WX) (σ : L2.St) (Q : VK), Wd X.K w → RD X.K w d x → RD X.K w e y → SatW (kt X) W σ (RD X.K) w (g d e w.S) (fun w' _ v => Q v w'.H) → rr x y w.H Q
theorem psd_aug {i : Nat} {x : Str} {pos' : Pos} {op : Operator} {gg : D → D → M D} (hN : X.N.Nodup) (ho : IpD X op gg) (he : PD X W e f) (hi : X.N[i]? = some x := by rfl) (hx : Loc X.env.scope x := by first | exact .inl rfl | exact .inr rfl) (hf : X.fn x = true ∨ X.env.scope.names.lookup x = some .local := by first | exact .inl rfl | exact .inr rfl | assumption) :
    PSD X W (.AugAssign (.Name x pos') op e pos) (yAug i f gg) := by
  obtain ⟨rr, ro, h1⟩ := ho
  refine weakS (ps_aug (i := i) hN hi hx he ro hf) fun D σ H ⟨w, env, eH, hw, he, hs⟩ => ?_
  subst eH
  unfold yAug at hs
  cases q : env[i]? with
  | none => rw [q] at hs; exact hs.elim
  | some o =>
    cases o with
    | none => rw [q] at hs; exact hs.elim
    | some d =>
      rw [q] at hs
      obtain ⟨v, e1, r⟩ := he.2 i d q
      refine ⟨v, e1, w, env, rfl, hw, he, SatW.imp (SatS.out hs he) fun w1 d1 v1 g1 r1 s1 => ?_⟩
      refine h1 w1 v v1 d d1 W σ _ g1.wd (Rp.go g1 r) r1 (SatW.imp (SatS.out s1 (he.go g1)) fun w2 d2 v2 g2 r2 s2 => ?_)
      exact s2 w2 _ (Go.refl g2.wd) rfl (((he.go g1).go g2).set r2)
end
end Dv
/-! # Dv4: loops, comprehensions, calls, a def's contract -/
namespace Dv
open PySem PySem.Spec PyProof.Rows L2

/-! ### while -/
def whN (c : Env → M Bool) (b : Env → Store → Out) : Nat → Env → Store → Option Out
  | 0, _, _ => none
  | n + 1, e, S => match c e S with
    | .ok true S1 => match b e S1 with
      | .nx e' S' => whN c b n e' S'
      | .ct e' S' => whN c b n e' S'
      | .bk e' S' => some (.nx e' S')
      | o => some o
    | .ok false S1 => some (.nx e S1)
    | .exc x S1 => some (.exc x e S1)
    | .bad => some .bad
open Classical in
noncomputable def yWhile (c : Env → M Bool) (b : Env → Store → Out) : Env → Store → Out := fun e S =>
  if h : ∃ o, ∃ n, whN c b n e S = some o then Classical.choose h else .bad
theorem whN_succ {c : Env → M Bool} {b : Env → Store → Out} : ∀ {n : Nat} {e : Env} {S : Store} {o : Out}, whN c b n e S = some o → whN c b (n + 1) e S = some o
  | 0, _, _, _, h => by cases h
  | n + 1, e, S, o, h => by
    unfold whN at h ⊢
    cases q : c e S with
    | bad => rw [q] at h; exact h
    | exc x S1 => rw [q] at h; exact h
    | ok t S1 =>
      rw [q] at h
      cases t with
      | false => exact h
      | true =>
        cases r : b e S1 with
        | nx e' S' => simp only [r] at h ⊢; exact whN_succ h
        | ct e' S' => simp only [r] at h ⊢; exact whN_succ h
        | bk e' S' => simp only [r] at h ⊢; exact h
        | rt d S' => simp only [r] at h ⊢; exact h
        | exc x e' S' => simp only [r] at h ⊢; exact h
        | bad => simp only [r] at h ⊢; exact h
theorem whN_le {c : Env → M Bool} {b : Env → Store → Out} {n m : Nat} {e : Env} {S : Store} {o : Out} (h : whN c b n e S = some o) (hl : n ≤ m) : whN c b m e S = some o := by
  induction hl with
  | refl => exact h
  | step _ ih => exact whN_succ ih
theorem yWhile_of {c : Env → M Bool} {b : Env → Store → Out} {n : Nat} {e : Env} {S : Store} {o : Out} (h : whN c b n e S = some o) : yWhile c b e S = o := by
  have hx : ∃ o, ∃ n, whN c b n e S = some o := ⟨o, n, h⟩
  unfold yWhile
  rw [dif_pos hx]
  obtain ⟨m, hm⟩ := Classical.choose_spec hx
  have h1 := whN_le h (Nat.le_max_left n m)
  have h2 := whN_le hm (Nat.le_max_right n m)
  rw [h1] at h2
  exact (Option.some.inj h2).symm
theorem yWhile_ends {c : Env → M Bool} {b : Env → Store → Out} {e : Env} {S : Store} (h : yWhile c b e S ≠ .bad) : ∃ n, whN c b n e S = some (yWhile c b e S) := by
  unfold yWhile at h ⊢
  by_cases hx : ∃ o, ∃ n, whN c b n e S = some o
  · rw [dif_pos hx]
    exact Classical.choose_spec hx
  · rw [dif_neg hx] at h
    exact (h rfl).elim
theorem yWhile_stop {c : Env → M Bool} {b : Env → Store → Out} {e : Env} {S S1 : Store} (h : c e S = .ok false S1) : yWhile c b e S = .nx e S1 := yWhile_of (n := 1) (by unfold whN; rw [h])
theorem whN_none_bad {c : Env → M Bool} {b : Env → Store → Out} {e : Env} {S : Store} (h : ¬ ∃ o n, whN c b n e S = some o) : yWhile c b e S = .bad := by
  unfold yWhile
  rw [dif_neg h]
theorem yWhile_go {c : Env → M Bool} {b : Env → Store → Out} {e : Env} {S S1 : Store} (h : c e S = .ok true S1) : yWhile c b e S = (match b e S1 with
    | .nx e' S' => yWhile c b e' S'
    | .ct e' S' => yWhile c b e' S'
    | .bk e' S' => .nx e' S'
    | o => o) := by
  have step : ∀ {e' : Env} {S' : Store}, (∀ n, whN c b (n + 1) e S = whN c b n e' S') → yWhile c b e S = yWhile c b e' S' := fun {e' S'} hh => by
    by_cases hx : ∃ o n, whN c b n e' S' = some o
    · obtain ⟨o, n, hn⟩ := hx
      rw [yWhile_of hn, yWhile_of (n := n + 1) (by rw [hh]; exact hn)]
    · rw [whN_none_bad hx, whN_none_bad]
      rintro ⟨o, n, hn⟩
      cases n with
      | zero => cases hn
      | succ n => exact hx ⟨o, n, by rw [← hh]; exact hn⟩
  cases q : b e S1 with
  | nx e' S' => exact step fun n => by rw [whN]; simp only [h, q]
  | ct e' S' => exact step fun n => by rw [whN]; simp only [h, q]
  | bk e' S' => exact yWhile_of (n := 1) (by rw [whN]; simp only [h, q])
  | rt d S' => exact yWhile_of (n := 1) (by rw [whN]; simp only [h, q])
  | exc x e' S' => exact yWhile_of (n := 1) (by rw [whN]; simp only [h, q])
  | bad => exact yWhile_of (n := 1) (by rw [whN]; simp only [h, q])
section
variable {X : Cx} {W : WX} {c : Expr} {body : List Stmt} {k : Env → M Bool} {g : Env → Store → Out} {pos : Pos}
theorem psd_while (hp : PassesOwn (model X.prog X.w) X.A X.env X.xe) (hc : PTD X W c k) (hb : PSsD X W body g) : PSD X W (.While c body [] pos) (yWhile k g) := by
  refine weakS (ps_while hp hc hb) fun D σ H ⟨w, env, eH, hw, he, hs⟩ => ?_
  subst eH
  have nb : yWhile k g env w.S ≠ .bad := fun z => by rw [z] at hs; exact hs
  obtain ⟨n, hn⟩ := yWhile_ends nb
  refine ⟨fun m σ H => ∃ w env o, w.H = H ∧ Wd X.K w ∧ EnvOk X.K w env σ ∧ whN k g m env w.S = some o ∧ SatS (kt X) W w o D, ⟨n, w, env, _, rfl, hw, he, hn, hs⟩, ?_⟩
  rintro m σ1 H1 ⟨w1, env1, o, rfl, hw1, he1, hm, hs1⟩
  refine ⟨w1, env1, rfl, hw1, he1, ?_⟩
  cases m with
  | zero => cases hm
  | succ m =>
    rw [whN] at hm
    cases q : k env1 w1.S with
    | bad => simp only [q] at hm; cases hm; exact hs1.elim
    | exc x S1 =>
      simp only [q] at hm
      have e := Option.some.inj hm
      subst e
      exact fun w' cls dd g' e q => hs1 w' σ1 cls dd g' e (he1.go g') q
    | ok t S1 =>
      intro w2 v g2 eS ev
      have ev' : t = v := ev
      subst ev' eS
      cases t with
      | false =>
        simp only [q] at hm
        have e := Option.some.inj hm
        subst e
        exact iteF (hs1 w2 σ1 g2 rfl (he1.go g2))
      | true =>
        refine iteT ⟨fun σ' H' => ∃ w3 env3 o, w3.H = H' ∧ Wd X.K w3 ∧ EnvOk X.K w3 env3 σ' ∧ whN k g m env3 w3.S = some o ∧ SatS (kt X) W w3 o D, fun σ' H' z => ⟨m, Nat.lt_succ_self m, z⟩, w2, env1, rfl, g2.wd, he1.go g2, ?_⟩
        simp only [q] at hm
        cases r : g env1 w2.S with
        | nx e' S' => simp only [r] at hm; exact fun w3 σ3 g3 e3 he3 => ⟨w3, e', o, rfl, g3.wd, he3, by rw [e3]; exact hm, hs1.pre (g2.trans g3)⟩
        | ct e' S' => simp only [r] at hm; exact fun w3 σ3 g3 e3 he3 => ⟨w3, e', o, rfl, g3.wd, he3, by rw [e3]; exact hm, hs1.pre (g2.trans g3)⟩
        | bk e' S' => simp only [r] at hm; have e := Option.some.inj hm; subst e; exact fun w3 σ3 g3 e3 he3 => hs1 w3 σ3 (g2.trans g3) e3 he3
        | rt d S' => simp only [r] at hm; have e := Option.some.inj hm; subst e; exact fun w3 v3 g3 e3 r3 => hs1 w3 v3 (g2.trans g3) e3 r3
        | exc x e' S' => simp only [r] at hm; have e := Option.some.inj hm; subst e; exact fun w3 σ3 cls dd g3 e3 he3 q3 => hs1 w3 σ3 cls dd (g2.trans g3) e3 he3 q3
        | bad => simp only [r] at hm; have e := Option.some.inj hm; subst e; exact hs1.elim
end

/-! ### what is walked -/
structure Src where
  items : List D
  chk : Store → Prop
def ItOk (K : PySem.W.Frag) (w0 : Wl) (J : It) (s : Src) : Prop :=
  ∀ w1, Go K w0 w1 → s.chk w1.S → (∀ (i : Nat) d, s.items[i]? = some d → J.go i w1.H ∧ ∀ x H', J.yld i w1.H x H' → ∃ w2, Go K w1 w2 ∧ w2.S = w1.S ∧ w2.H = H' ∧ Rp K w2.r w2.F d x) ∧ J.stop s.items.length w1.H
def iD (T : Kt) (W : WX) (f : Env → M Src) : TI := fun σ H R => ∃ (w : Wl) (env : Env), w.H = H ∧ Wd T.K w ∧ EnvOk T.K w env σ ∧ SatW T W σ (fun w' s J => ItOk T.K w' J s) w (f env w.S) (fun w' _ J => R J w'.H)
def PID (X : Cx) (W : WX) (tg iter : Expr) (f : Env → M Src) : Prop := PI X tg iter (iD (kt X) W f)
theorem weakI {X : Cx} {tg iter : Expr} {t t' : TI} (h : PI X tg iter t) (q : ∀ σ H R, t' σ H R → t σ H R) : PI X tg iter t' := ⟨fun pins s σ H R I z => h.run pins s σ H R I (q _ _ _ z)⟩

/-- a list, frozen or a cell that stays -/
def srcL (d : D) (S : Store) : Res Src := match d with
  | .lst l => .ok ⟨l, fun _ => True⟩ S
  | .scr l => .ok ⟨l, fun _ => True⟩ S
  | .cell n => match S[n]? with
    | some (.lst l) => .ok ⟨l, fun S' => S'[n]? = some (.lst l)⟩ S
    | _ => .bad
  | _ => .bad
def srcT (d : D) (S : Store) : Res Src := match d with
  | .tup l => .ok ⟨l, fun _ => True⟩ S
  | _ => .bad
def irange (lo : Int) (n : Nat) : List D := (List.range n).map fun (i : Nat) => D.int (lo + (i : Int))
def rng62 (i : Int) : Prop := -(2 ^ 62) ≤ i ∧ i < 2 ^ 62
/- kept from the kernel: it would count down from 2 ^ 62 -/
noncomputable instance (i : Int) : Decidable (rng62 i) := Classical.propDecidable _
noncomputable def srcR1 (l : List D) (S : Store) : Res Src := match l with
  | [.int j] => if rng62 j then .ok ⟨irange 0 j.toNat, fun _ => True⟩ S else .bad
  | _ => .bad
noncomputable def srcR2 (l : List D) (S : Store) : Res Src := match l with
  | [.int i, .int j] => if rng62 i ∧ rng62 j then .ok ⟨irange i (j - i).toNat, fun _ => True⟩ S else .bad
  | _ => .bad
def iSrc (k : D → Store → Res Src) (f : Env → M D) : Env → M Src := fun e S => (f e S).bind k
def iSrcA (k : List D → Store → Res Src) (f : Env → M (List D)) : Env → M Src := fun e S => (f e S).bind k
theorem Rps.nth {K : PySem.W.Frag} {r : List Addr} {F : Hp} : ∀ {l : List D} {vs : List V} {i : Nat} {v : V}, Rps K r F l vs → vs[i]? = some v → ∃ d, l[i]? = some d ∧ Rp K r F d v := fun {l vs i v} h e => by
  have hl := h.length
  have hi : i < l.length := by
    have := (List.getElem?_eq_some_iff.mp e).1
    omega
  obtain ⟨v', e2, p⟩ := h.get (i := i) (d := l[i]) (List.getElem?_eq_getElem hi)
  rw [e] at e2
  cases e2
  exact ⟨_, List.getElem?_eq_getElem hi, p⟩
section
variable {X : Cx} {W : WX} {tg e : Expr} {f : Env → M D} {h : Env → M (List D)} {pos p : Pos}
theorem itl_ok {K : PySem.W.Frag} {w0 : Wl} {a : Addr} {l : List D} {chk : Store → Prop} (hh : ∀ w1, Go K w0 w1 → chk w1.S → ∃ vs, SqL K w1.H a vs ∧ Rps K w1.r w1.F l vs) : ItOk K w0 (Itl K a) ⟨l, chk⟩ := fun w1 g hc => by
  obtain ⟨vs, q, r⟩ := hh w1 g hc
  refine ⟨fun i d e => ?_, vs, q, Nat.le_of_eq r.length⟩
  obtain ⟨v, ev, rv⟩ := r.get e
  refine ⟨⟨vs, v, q, ev⟩, fun x H' y => ?_⟩
  obtain ⟨eH, fx⟩ := y
  have ex : x = v := Option.some.inj ((fx _ q).symm.trans ev)
  subst ex
  exact ⟨w1, Go.refl g.wd, rfl, eH.symm, rv⟩
theorem itt_ok {K : PySem.W.Frag} {w0 : Wl} {a : Addr} {l : List D} {chk : Store → Prop} (hh : ∀ w1, Go K w0 w1 → chk w1.S → ∃ vs, SqT K w1.H a vs ∧ Rps K w1.r w1.F l vs) : ItOk K w0 (Itt K a) ⟨l, chk⟩ := fun w1 g hc => by
  obtain ⟨vs, q, r⟩ := hh w1 g hc
  refine ⟨fun i d e => ?_, vs, q, Nat.le_of_eq r.length⟩
  obtain ⟨v, ev, rv⟩ := r.get e
  refine ⟨⟨vs, v, q, ev⟩, fun x H' y => ?_⟩
  obtain ⟨eH, fx⟩ := y
  have ex : x = v := Option.some.inj ((fx _ q).symm.trans ev)
  subst ex
  exact ⟨w1, Go.refl g.wd, rfl, eH.symm, rv⟩
theorem itr_ok {K : PySem.W.Frag} {w0 : Wl} {lo : Int} {n : Nat} {chk : Store → Prop} : ItOk K w0 (Itr lo n) ⟨irange lo n, chk⟩ := fun w1 g hc => by
  refine ⟨fun i d e => ?_, ?_⟩
  · unfold irange at e
    rw [List.getElem?_map] at e
    have hi : i < n := by
      have z := (List.getElem?_eq_some_iff.mp (show ((List.range n).map fun (i : Nat) => D.int (lo + (i : Int)))[i]? = some d by rw [List.getElem?_map]; exact e)).1
      simpa using z
    rw [List.getElem?_range hi] at e
    have ed := Option.some.inj e
    subst ed
    refine ⟨hi, fun x H' y => ?_⟩
    obtain ⟨eH, ex⟩ := y
    exact ⟨w1, Go.refl g.wd, rfl, by first | exact eH.symm | exact ex.symm, by first | (subst ex; exact rpi) | (subst eH; exact rpi)⟩
  · show n ≤ (irange lo n).length
    simp [irange]
theorem pid_list (ha : PD X W e f) : PID X W tg e (iSrc srcL f) := by
  refine weakI (pi_list ha) fun σ H R ⟨w, env, eH, hw, he, hs⟩ => ?_
  subst eH
  refine ⟨w, env, rfl, hw, he, SatW.imp (SatW.bind hs) fun w1 d v g1 r1 s1 => ?_⟩
  cases d with
  | lst l =>
    obtain ⟨a, vs, rfl, q, p⟩ := getL_ok g1.wd (show Rp X.K w1.r w1.F (.lst l) v from r1) rfl
    refine ⟨a, rfl, ⟨vs, .inl (.inl q)⟩, SatW.here (d := (⟨l, fun _ => True⟩ : Src)) s1 g1.wd (itl_ok fun w2 g2 _ => ?_)⟩
    have r2 : Rp X.K w2.r w2.F (.lst l) (.ref a) := Rp.go g2 r1
    obtain ⟨a', vs', e', q', p'⟩ := getL_ok g2.wd r2 rfl
    cases e'
    exact ⟨vs', .inl (.inl q'), p'⟩
  | scr l =>
    obtain ⟨a, vs, rfl, q, p⟩ := getQ_ok g1.wd (show Rp X.K w1.r w1.F (.scr l) v from r1) rfl
    refine ⟨a, rfl, ⟨vs, q⟩, SatW.here (d := (⟨l, fun _ => True⟩ : Src)) s1 g1.wd (itl_ok fun w2 g2 _ => ?_)⟩
    have r2 : Rp X.K w2.r w2.F (.scr l) (.ref a) := Rp.go g2 r1
    obtain ⟨a', vs', e', q', p'⟩ := getQ_ok g2.wd r2 rfl
    cases e'
    exact ⟨vs', q', p'⟩
  | cell n =>
    have s1' : SatW (kt X) W σ _ w1 (srcL (.cell n) w1.S) _ := s1
    unfold srcL at s1'
    cases en : w1.S[n]? with
    | none => simp only [en] at s1'; exact s1'.elim
    | some c =>
      cases c with
      | lst l =>
        simp only [en] at s1'
        obtain ⟨a, vs, rfl, q, p⟩ := getL_ok (l := l) g1.wd (show Rp X.K w1.r w1.F (.cell n) v from r1) (by simp only [getL, en])
        refine ⟨a, rfl, ⟨vs, .inl (.inl q)⟩, SatW.here (d := (⟨l, fun S' => S'[n]? = some (.lst l)⟩ : Src)) s1' g1.wd (itl_ok fun w2 g2 hc => ?_)⟩
        have hc' : w2.S[n]? = some (.lst l) := hc
        have r2 : Rp X.K w2.r w2.F (.cell n) (.ref a) := Rp.go g2 r1
        obtain ⟨a', vs', e', q', p'⟩ := getL_ok (l := l) g2.wd r2 (by simp only [getL, hc'])
        cases e'
        exact ⟨vs', .inl (.inl q'), p'⟩
      | dct l => simp only [en] at s1'; exact s1'.elim
      | dead => simp only [en] at s1'; exact s1'.elim
  | _ => exact s1.elim
theorem pid_tup (ha : PD X W e f) : PID X W tg e (iSrc srcT f) := by
  refine weakI (pi_tup ha) fun σ H R ⟨w, env, eH, hw, he, hs⟩ => ?_
  subst eH
  refine ⟨w, env, rfl, hw, he, SatW.imp (SatW.bind hs) fun w1 d v g1 r1 s1 => ?_⟩
  cases d with
  | tup l =>
    obtain ⟨a, vs, rfl, q, p⟩ := getT_ok g1.wd (show Rp X.K w1.r w1.F (.tup l) v from r1) rfl
    refine ⟨a, rfl, ⟨vs, .inl q⟩, SatW.here (d := (⟨l, fun _ => True⟩ : Src)) s1 g1.wd (itt_ok fun w2 g2 _ => ?_)⟩
    have r2 : Rp X.K w2.r w2.F (.tup l) (.ref a) := Rp.go g2 r1
    obtain ⟨a', vs', e', q', p'⟩ := getT_ok g2.wd r2 rfl
    cases e'
    exact ⟨vs', .inl q', p'⟩
  | _ => exact s1.elim
theorem pid_range1 {a : Expr} (hm : X.mg "range" = none) (ha : PAD X W [a] h) (hg : Gl X "range" := by rfl) (hs : starEach [a] X.env = [(false, eval a X.env)] := by rfl) : PID X W tg (.Call (.Name "range" p) [a] [] pos) (iSrcA srcR1 h) := by
  refine weakI (pi_range1 hg hm ha hs) fun σ H R ⟨w, env, eH, hw, he, hs⟩ => ?_
  subst eH
  refine ⟨w, env, rfl, hw, he, SatW.imp (SatW.bind hs) fun w1 d v g1 r1 s1 => ?_⟩
  have r2 : Rps X.K w1.r w1.F d v := r1
  match d, r2, s1 with
  | [], _, s1 => exact s1.elim
  | [.int j], r2, s1 =>
    obtain ⟨v1, t, e1, q1, q2⟩ := r2.cons_inv
    have e2 := q2.nil_inv
    cases rp_int q1
    subst e2 e1
    obtain ⟨hj, s2⟩ := satIf s1
    exact ⟨j, rfl, hj.1, hj.2, SatW.here s2 g1.wd itr_ok⟩
  | [.non], _, s1 => exact s1.elim
  | [.bl _], _, s1 => exact s1.elim
  | [.str _], _, s1 => exact s1.elim
  | [.tup _], _, s1 => exact s1.elim
  | [.lst _], _, s1 => exact s1.elim
  | [.scr _], _, s1 => exact s1.elim
  | [.cell _], _, s1 => exact s1.elim
  | [.raw _], _, s1 => exact s1.elim
  | [.cls _], _, s1 => exact s1.elim
  | [.exn _ _], _, s1 => exact s1.elim
  | x :: _ :: _, _, s1 => cases x <;> exact s1.elim
theorem pid_range2 {a b : Expr} (hm : X.mg "range" = none) (ha : PAD X W [a, b] h) (hg : Gl X "range" := by rfl) (hs : starEach [a, b] X.env = [(false, eval a X.env), (false, eval b X.env)] := by rfl) (hs2 : starEach [b] X.env = [(false, eval b X.env)] := by rfl) : PID X W tg (.Call (.Name "range" p) [a, b] [] pos) (iSrcA srcR2 h) := by
  refine weakI (pi_range2 hg hm ha hs hs2) fun σ H R ⟨w, env, eH, hw, he, hs⟩ => ?_
  subst eH
  refine ⟨w, env, rfl, hw, he, SatW.imp (SatW.bind hs) fun w1 d v g1 r1 s1 => ?_⟩
  have r2 : Rps X.K w1.r w1.F d v := r1
  have key : ∃ i j, d = [.int i, .int j] := by
    match d, s1 with
    | [.int i, .int j], _ => exact ⟨i, j, rfl⟩
    | [], s1 => exact s1.elim
    | [x], s1 => cases x <;> exact s1.elim
    | x :: y :: z :: t, s1 => cases x <;> cases y <;> exact s1.elim
    | [.non, y], s1 => cases y <;> exact s1.elim
    | [.bl _, y], s1 => cases y <;> exact s1.elim
    | [.str _, y], s1 => cases y <;> exact s1.elim
    | [.tup _, y], s1 => cases y <;> exact s1.elim
    | [.lst _, y], s1 => cases y <;> exact s1.elim
    | [.scr _, y], s1 => cases y <;> exact s1.elim
    | [.cell _, y], s1 => cases y <;> exact s1.elim
    | [.raw _, y], s1 => cases y <;> exact s1.elim
    | [.cls _, y], s1 => cases y <;> exact s1.elim
    | [.exn _ _, y], s1 => cases y <;> exact s1.elim
    | [.int _, .non], s1 => exact s1.elim
    | [.int _, .bl _], s1 => exact s1.elim
    | [.int _, .str _], s1 => exact s1.elim
    | [.int _, .tup _], s1 => exact s1.elim
    | [.int _, .lst _], s1 => exact s1.elim
    | [.int _, .scr _], s1 => exact s1.elim
    | [.int _, .cell _], s1 => exact s1.elim
    | [.int _, .raw _], s1 => exact s1.elim
    | [.int _, .cls _], s1 => exact s1.elim
    | [.int _, .exn _ _], s1 => exact s1.elim
  obtain ⟨i, j, rfl⟩ := key
  obtain ⟨v1, t, e1, q1, q2⟩ := r2.cons_inv
  obtain ⟨v2, t2, e2, q3, q4⟩ := q2.cons_inv
  have e3 := q4.nil_inv
  cases rp_int q1
  cases rp_int q3
  subst e3 e2 e1
  obtain ⟨hj, s2⟩ := satIf s1
  exact ⟨i, j, rfl, ⟨hj.1.1, hj.1.2, hj.2.1, hj.2.2⟩, SatW.here s2 g1.wd itr_ok⟩
end

/-! ### for -/
open Classical in
noncomputable def forL (chk : Store → Prop) (g : D → Env → Store → Out) (b : Env → Store → Out) : List D → Env → Store → Out
  | [], e, S => if chk S then .nx e S else .bad
  | d :: l, e, S => if chk S then match g d e S with
      | .nx e1 S1 => match b e1 S1 with
        | .nx e' S' => forL chk g b l e' S'
        | .ct e' S' => forL chk g b l e' S'
        | .bk e' S' => .nx e' S'
        | o => o
      | _ => .bad
    else .bad
noncomputable def yFor (src : Env → M Src) (g : D → Env → Store → Out) (b : Env → Store → Out) : Env → Store → Out := fun e S => (src e S).out e fun s S1 => forL s.chk g b s.items e S1
section
variable {X : Cx} {W : WX} {tg iter : Expr} {body : List Stmt} {src : Env → M Src} {gg : D → Env → Store → Out} {g : Env → Store → Out} {pos : Pos}
theorem drop_get {α : Type} {l : List α} {i : Nat} {d : α} {r : List α} (h : l.drop i = d :: r) : l[i]? = some d ∧ l.drop (i + 1) = r := by
  have h1 : (l.drop i)[0]? = some d := by rw [h]; rfl
  rw [List.getElem?_drop] at h1
  refine ⟨by simpa using h1, ?_⟩
  rw [← List.drop_drop, h]
  rfl
theorem drop_nil {α : Type} {l : List α} {i : Nat} (h : l.drop i = []) (hi : i ≤ l.length) : i = l.length := by
  have := congrArg List.length h
  simp at this
  omega
theorem psd_for (hp : PassesOwn (model X.prog X.w) X.A X.env X.xe) (hc : X.calm = true) (hi : PID X W tg iter src) (hg : PGD X tg gg) (hb : PSsD X W body g) (hfs : ∀ x, foldedSetIterable iter X.env x = pure x := by intro _; rfl) :
    PSD X W (.For tg iter body [] pos) (yFor src gg g) := by
  refine weakS (ps_for hp hc hi hg hb hfs) fun D σ H ⟨w, env, eH, hw, he, hs⟩ => ?_
  subst eH
  refine ⟨w, env, rfl, hw, he, SatW.imp (SatS.out hs he) fun w1 s J g1 it s1 => ?_⟩
  have it' : ItOk X.K w1 J s := it
  refine ⟨fun i m σ H => ∃ w env, w.H = H ∧ Go X.K w1 w ∧ EnvOk X.K w env σ ∧ i ≤ s.items.length ∧ m = s.items.length - i ∧ SatS (kt X) W w (forL s.chk gg g (s.items.drop i) env w.S) D, ⟨s.items.length, w1, env, rfl, Go.refl g1.wd, he.go g1, Nat.zero_le _, rfl, s1⟩, ?_⟩
  rintro i m σ2 H2 ⟨w2, env2, rfl, g2, he2, hil, rfl, s2⟩
  cases ed : s.items.drop i with
  | nil =>
    rw [ed, forL] at s2
    by_cases hk : s.chk w2.S
    · rw [if_pos hk] at s2
      refine .inl ⟨?_, s2 w2 σ2 (Go.refl g2.wd) rfl he2⟩
      rw [drop_nil ed hil]
      exact (it' w2 g2 hk).2
    · rw [if_neg hk] at s2
      exact s2.elim
  | cons d l =>
    obtain ⟨e1, e2⟩ := drop_get ed
    have hlt : i < s.items.length := (List.getElem?_eq_some_iff.mp e1).1
    rw [ed, forL] at s2
    by_cases hk : s.chk w2.S
    · rw [if_pos hk] at s2
      obtain ⟨go, yl⟩ := (it' w2 g2 hk).1 i d e1
      refine .inr ⟨go, fun σ' H' => ∃ w env, w.H = H' ∧ Go X.K w1 w ∧ EnvOk X.K w env σ' ∧ SatS (kt X) W w (forL s.chk gg g (s.items.drop (i + 1)) env w.S) D, fun σ' H' ⟨w', env', q1, q2, q3, q4⟩ => ⟨s.items.length - (i + 1), by omega, w', env', q1, q2, q3, hlt, rfl, q4⟩, fun x H' y => ?_⟩
      obtain ⟨w3, g3, eS3, eH3, r3⟩ := yl x H' y
      refine ⟨w3, env2, d, eH3, g3.wd, he2.go g3, r3, ?_⟩
      rw [eS3]
      cases og : gg d env2 w2.S with
      | nx e' S' =>
        simp only [og] at s2
        intro w4 σ4 g4 eS4 he4
        subst eS4
        refine ⟨w4, e', rfl, g4.wd, he4, ?_⟩
        cases ob : g e' w4.S with
        | nx e5 S5 => simp only [ob] at s2; exact fun w5 σ5 g5 eS5 he5 => ⟨w5, e5, rfl, (g2.trans g3).trans (g4.trans g5), he5, by rw [e2, eS5]; exact s2.pre (g3.trans (g4.trans g5))⟩
        | ct e5 S5 => simp only [ob] at s2; exact fun w5 σ5 g5 eS5 he5 => ⟨w5, e5, rfl, (g2.trans g3).trans (g4.trans g5), he5, by rw [e2, eS5]; exact s2.pre (g3.trans (g4.trans g5))⟩
        | bk e5 S5 => simp only [ob] at s2; exact fun w5 σ5 g5 eS5 he5 => s2 w5 σ5 (g3.trans (g4.trans g5)) eS5 he5
        | rt d5 S5 => simp only [ob] at s2; exact fun w5 v5 g5 eS5 r5 => s2 w5 v5 (g3.trans (g4.trans g5)) eS5 r5
        | exc x5 e5 S5 => simp only [ob] at s2; exact fun w5 σ5 cls dd g5 eS5 he5 q5 => s2 w5 σ5 cls dd (g3.trans (g4.trans g5)) eS5 he5 q5
        | bad => simp only [ob] at s2; exact s2.elim
      | _ => simp only [og] at s2; exact s2.elim
    · rw [if_neg hk] at s2
      exact s2.elim
end

/-! ### comprehensions -/
def wipeE (e : Env) : List Nat → Env
  | [] => e
  | v :: vs => (wipeE e vs).set v none
abbrev W0 : WX := fun _ _ _ _ => False
open Classical in
noncomputable def lcL (chk : Store → Prop) (g : D → Env → Option Env) (c : Env → M Bool) (f : Env → M D) (e0 : Env) : List D → List D → Store → Res (List D)
  | [], acc, S => if chk S then .ok acc S else .bad
  | d :: l, acc, S => if chk S then match g d e0 with
      | some e1 => match c e1 S with
        | .ok true S2 => match f e1 S2 with
          | .ok y S3 => if acc.length < 16000000 then lcL chk g c f e0 l (acc ++ [y]) S3 else .bad
          | _ => .bad
        | .ok false S2 => lcL chk g c f e0 l acc S2
        | _ => .bad
      | none => .bad
    else .bad
noncomputable def xLc (mk : List D → M D) (src : Env → M Src) (g : D → Env → Option Env) (c : Env → M Bool) (f : Env → M D) (vs : List Nat) : Env → M D := fun e S =>
  (src e S).bind fun s S1 => (lcL s.chk g c f (wipeE e vs) s.items [] S1).bind fun l S2 => mk l S2
theorem EnvOk.wipe {K : PySem.W.Frag} {w : Wl} {env : Env} {σ : L2.St} (h : EnvOk K w env σ) : ∀ vs : List Nat, EnvOk K w (wipeE env vs) (wipe σ vs)
  | [] => h
  | _ :: vs => (EnvOk.wipe h vs).unset
theorem wipe_get {σ : L2.St} {k : Nat} : ∀ {vs : List Nat}, (wipe σ vs)[k]? = if k ∈ vs then (if k < σ.length then some none else none) else σ[k]?
  | [] => by simp [wipe]
  | v :: vs => by
    unfold wipe
    rw [List.getElem?_set, wipe_length, wipe_get (vs := vs)]
    by_cases h : v = k
    · subst h; simp
    · rw [if_neg h]
      have hm : (k ∈ v :: vs) ↔ k ∈ vs := by simp [Ne.symm h]
      by_cases hk : k ∈ vs
      · rw [if_pos hk, if_pos (hm.mpr hk)]
      · rw [if_neg hk, if_neg (fun z => hk (hm.mp z))]
theorem wipe_eq {σ σ' : L2.St} {vs : List Nat} (hl : σ'.length = σ.length) (h : ∀ k, k ∉ vs → σ'[k]? = σ[k]?) : wipe σ' vs = wipe σ vs := by
  apply List.ext_getElem?
  intro k
  rw [wipe_get, wipe_get, hl]
  by_cases hk : k ∈ vs
  · rw [if_pos hk, if_pos hk]
  · rw [if_neg hk, if_neg hk, h k hk]
/-- a comprehension's target -/
def TgD (T : Kt) (vs : List Nat) (gV : TG) (gE : D → Env → Option Env) : Prop :=
  ∀ (w : Wl) (d : D) (v : V) (env env' : Env) (σ : L2.St) (Q : L2.St → Hp → Prop), Wd T.K w → Rp T.K w.r w.F d v → EnvOk T.K w env σ → gE d env = some env' →
    (∀ σ' : L2.St, EnvOk T.K w env' σ' → σ'.length = σ.length → (∀ k, k ∉ vs → σ'[k]? = σ[k]?) → Q σ' w.H) → gV v σ w.H Q
def eN (i : Nat) : D → Env → Option Env := fun d e => some (e.set i (some d))
def eT2 (i j : Nat) : D → Env → Option Env := fun d e => match d with
  | .tup [a, b] => some ((e.set i (some a)).set j (some b))
  | _ => none
def eT3 (i j k : Nat) : D → Env → Option Env := fun d e => match d with
  | .tup [a, b, c] => some (((e.set i (some a)).set j (some b)).set k (some c))
  | _ => none
theorem tg_N {T : Kt} {i : Nat} {vs : List Nat} (hi : i ∈ vs) : TgD T vs (gName i) (eN i) := fun w d v env env' σ Q hw hr he e q => by
  have e' := Option.some.inj e
  subst e'
  refine q _ (he.set hr) (by simp) fun k hk => ?_
  rw [List.getElem?_set_ne (fun z => hk (by rw [← z]; exact hi))]
theorem tg_T2 {T : Kt} {i j : Nat} {vs : List Nat} (hi : i ∈ vs) (hj : j ∈ vs) : TgD T vs (gTup T.K 2 (gCons (gName i) (gCons (gName j) gNil))) (eT2 i j) := fun w d v env env' σ Q hw hr he e q => by
  unfold eT2 at e
  split at e
  · rename_i a b
    have e' := Option.some.inj e
    subst e'
    obtain ⟨p, xs, rfl, hp, hx⟩ := getT_ok hw hr rfl
    obtain ⟨v1, t, e1, r1, r2⟩ := hx.cons_inv
    obtain ⟨v2, t2, e2, r3, r4⟩ := r2.cons_inv
    have e3 := r4.nil_inv
    subst e3 e2 e1
    refine ⟨p, _, rfl, .inl hp, rfl, v1, [v2], rfl, v2, [], rfl, rfl, q _ ((he.set r1).set r3) (by simp) fun k hk => ?_⟩
    rw [List.getElem?_set_ne (fun z => hk (by rw [← z]; exact hj)), List.getElem?_set_ne (fun z => hk (by rw [← z]; exact hi))]
  · cases e
theorem tg_T3 {T : Kt} {i j l : Nat} {vs : List Nat} (hi : i ∈ vs) (hj : j ∈ vs) (hl : l ∈ vs) : TgD T vs (gTup T.K 3 (gCons (gName i) (gCons (gName j) (gCons (gName l) gNil)))) (eT3 i j l) := fun w d v env env' σ Q hw hr he e q => by
  unfold eT3 at e
  split at e
  · rename_i a b c
    have e' := Option.some.inj e
    subst e'
    obtain ⟨p, xs, rfl, hp, hx⟩ := getT_ok hw hr rfl
    obtain ⟨v1, t, e1, r1, r2⟩ := hx.cons_inv
    obtain ⟨v2, t2, e2, r3, r4⟩ := r2.cons_inv
    obtain ⟨v3, t3, e3, r5, r6⟩ := r4.cons_inv
    have e4 := r6.nil_inv
    subst e4 e3 e2 e1
    refine ⟨p, _, rfl, .inl hp, rfl, v1, [v2, v3], rfl, v2, [v3], rfl, v3, [], rfl, rfl, q _ (((he.set r1).set r3).set r5) (by simp) fun k hk => ?_⟩
    rw [List.getElem?_set_ne (fun z => hk (by rw [← z]; exact hl)), List.getElem?_set_ne (fun z => hk (by rw [← z]; exact hj)), List.getElem?_set_ne (fun z => hk (by rw [← z]; exact hi))]
  · cases e
def cYes : Env → M Bool := fun _ S => .ok true S
/-- what isn't in the store stays so -/
theorem Go.loosely {K : PySem.W.Frag} {w w1 : Wl} (g : Go K w w1) {p : Addr} {o : HO} (h1 : w.H p = some o) (h2 : w.F p = none) (h3 : ∀ (n : Nat), w.r[n]? = some p → ¬ alv w.S n) :
    w1.H p = some o ∧ w1.F p = none ∧ ∀ (n : Nat), w1.r[n]? = some p → ¬ alv w1.S n := by
  refine ⟨g.fr p o h1 h3, g.fnew p (by rw [h1]; simp) h2 h3, fun n e q => ?_⟩
  by_cases hn : n < w.S.length
  · exact h3 n (pre_back g.pre (by rw [g.len]; exact hn) e) (g.live n hn q)
  · have := g.new n p (Nat.le_of_not_lt hn) e q
    rw [h1] at this
    cases this
section
variable {X : Cx} {W : WX} {elt tg iter : Expr} {ifs : List Expr} {scope : Scope} {own : List (Str × Nat)} {pos : Pos} {mk : List D → M D} {src : Env → M Src} {gV : TG} {gE : D → Env → Option Env} {c : Env → M Bool} {f : Env → M D}
/-- the reading of a comprehension -/
theorem lc_read (m : Mk mk) (tgd : TgD (kt X) (own.map (·.2)) gV gE) {tt : TT} (htt : ∀ σ H Q, tDB (kt X) W0 c σ H Q → tt σ H Q) {σ : L2.St} {H : Hp} {Q : VK} (hh : tD (kt X) W (xLc mk src gE c f (own.map (·.2))) σ H Q) :
    tLc (iD (kt X) W src) gV tt (tD (kt X) W0 f) (own.map (·.2)) σ H Q := by
  obtain ⟨w, env, eH, hw, he, hs⟩ := hh
  subst eH
  generalize own.map (·.2) = vs at tgd hs ⊢
  refine ⟨w, env, rfl, hw, he, SatW.imp (SatW.bind hs) fun w1 s J g1 it s1 => ?_⟩
  have it' : ItOk X.K w1 J s := it
  intro Dd hD
  -- the list under way at Dd
  refine ⟨fun i mm H => ∃ w2 acc accV, w2.H = H ∧ Go X.K w1 w2 ∧ (i ≤ s.items.length ∧ mm = s.items.length - i) ∧ w2.H Dd = some (.lst accV) ∧ w2.F Dd = none ∧ (∀ (n : Nat), w2.r[n]? = some Dd → ¬ alv w2.S n) ∧ Rps X.K w2.r w2.F acc accV ∧
      SatW (kt X) W σ (RD X.K) w1 ((lcL s.chk gE c f (wipeE env vs) (s.items.drop i) acc w2.S).bind fun l S2 => mk l S2) (fun w' _ v => Q v w'.H), ⟨s.items.length, ?_⟩, ?_⟩
  · refine ⟨⟨w1.r, w1.F, w1.S, upd w1.H Dd (.lst [])⟩, [], [], rfl, ?_, ⟨Nat.zero_le _, rfl⟩, upd_same, g1.wd.fresh hD, fun n e q => ?_, rps_nil, s1⟩
    · refine ⟨⟨g1.wd.len, fun b x e => ?_, fun k a cc e1 e2 => (g1.wd.cell k a cc e1 e2).mono ⟨[], by simp⟩ (Same.refl _) (fun _ z => z) (fun hd x z => ?_), g1.wd.inj⟩, ⟨[], by simp⟩, g1.wd.len, fun _ _ q => q, fun k a hk e _ => ?_, Same.refl _, fun a x e _ => ?_, fun a e => ?_, fun _ _ q _ => q⟩
      · show upd w1.H Dd (.lst []) b = some x
        have e' := g1.wd.same _ _ e
        rw [upd_ne (ne_of_none e' hD)]
        exact e'
      · show upd w1.H Dd (.lst []) a = some x
        rw [upd_ne (ne_of_none z hD)]
        exact z
      · have hk1 : k < w1.r.length := (List.getElem?_eq_some_iff.mp e).1
        have hk2 : w1.S.length ≤ k := hk
        have := g1.wd.len
        omega
      · show upd w1.H Dd (.lst []) a = some x
        rw [upd_ne (ne_of_none e hD)]
        exact e
      · have e' : upd w1.H Dd (.lst []) a = none := e
        by_cases hb : a = Dd
        · subst hb
          rw [upd_same] at e'
          cases e'
        · rw [upd_ne hb] at e'
          exact e'
    · obtain ⟨cc, e2, hd⟩ := q
      obtain ⟨o, eo⟩ := (g1.wd.cell n Dd cc e e2).some hd
      rw [hD] at eo
      cases eo
  · rintro i m' H2 ⟨w2, acc, accV, rfl, g2, ⟨hil, rfl⟩, hDd, hFd, hnc, hrs, s2⟩
    cases ed : s.items.drop i with
    | nil =>
      rw [ed, lcL] at s2
      by_cases hk : s.chk w2.S
      · rw [if_pos hk, Res.bind_ok] at s2
        obtain ⟨w', d', eH', q'⟩ := m.adopt (T := kt X) (W := W) (σ := σ) g2 hD hDd hFd hnc hrs s2
        refine .inl ⟨?_, ?_⟩
        · rw [drop_nil ed hil]
          exact (it' w2 g2 hk).2
        · rw [← eH']
          exact q'
      · rw [if_neg hk] at s2
        exact s2.elim
    | cons d l =>
      obtain ⟨e1, e2⟩ := drop_get ed
      have hlt : i < s.items.length := (List.getElem?_eq_some_iff.mp e1).1
      rw [ed, lcL] at s2
      by_cases hk : s.chk w2.S
      · rw [if_pos hk] at s2
        obtain ⟨go, yl⟩ := (it' w2 g2 hk).1 i d e1
        refine .inr ⟨go, fun H' => ∃ w2 acc accV, w2.H = H' ∧ Go X.K w1 w2 ∧ i + 1 ≤ s.items.length ∧ w2.H Dd = some (.lst accV) ∧ w2.F Dd = none ∧ (∀ (n : Nat), w2.r[n]? = some Dd → ¬ alv w2.S n) ∧ Rps X.K w2.r w2.F acc accV ∧
            SatW (kt X) W σ (RD X.K) w1 ((lcL s.chk gE c f (wipeE env vs) (s.items.drop (i + 1)) acc w2.S).bind fun l S2 => mk l S2) (fun w' _ v => Q v w'.H), fun H' z => ?_, fun x H' y => ?_⟩
        · obtain ⟨w', acc', accV', q1, q2, q3, q4⟩ := z
          exact ⟨s.items.length - (i + 1), by omega, w', acc', accV', q1, q2, ⟨q3, rfl⟩, q4⟩
        · obtain ⟨w3, g3, eS3, eH3, r3⟩ := yl x H' y
          subst eH3
          cases og : gE d (wipeE env vs) with
          | none => simp only [og] at s2; exact s2.elim
          | some e1 =>
            simp only [og] at s2
            refine tgd w3 d x (wipeE env vs) e1 (wipe σ vs) _ g3.wd r3 ((he.go (g1.trans (g2.trans g3))).wipe vs) og fun σ2 he2 hl2 hk2 => ?_
            refine ⟨(wipe_eq hl2 hk2).trans (wipe_eq (wipe_length _ _) fun k hk => by rw [wipe_get, if_neg hk]), ?_⟩
            refine htt _ _ _ ⟨w3, e1, rfl, g3.wd, he2, ?_⟩
            rw [eS3]
            cases oc : c e1 w2.S with
            | bad => simp only [oc] at s2; exact s2.elim
            | exc x S => simp only [oc] at s2; exact s2.elim
            | ok b S4 =>
              intro w4 v4 g4 eS4 ev
              have ev' : b = v4 := ev
              subst ev' eS4
              cases b with
              | false =>
                simp only [oc] at s2
                obtain ⟨k1, k2, k3⟩ := Go.loosely (g3.trans g4) hDd hFd hnc
                exact iteF ⟨w4, acc, accV, rfl, g2.trans (g3.trans g4), hlt, k1, k2, k3, Rps.go (g3.trans g4) hrs, by rw [e2]; exact s2⟩
              | true =>
                simp only [oc] at s2
                refine iteT ⟨w4, e1, rfl, g4.wd, he2.go g4, ?_⟩
                cases oy : f e1 w4.S with
                | bad => simp only [oy] at s2; exact s2.elim
                | exc x S => simp only [oy] at s2; exact s2.elim
                | ok yd S5 =>
                  simp only [oy] at s2
                  by_cases hal : acc.length < 16000000
                  · rw [if_pos hal] at s2
                    intro w5 v5 g5 eS5 r5
                    subst eS5
                    have r5' : Rp X.K w5.r w5.F yd v5 := r5
                    obtain ⟨k1, k2, k3⟩ := Go.loosely (g3.trans (g4.trans g5)) hDd hFd hnc
                    refine ⟨accV, k1, ?_, ⟨w5.r, w5.F, w5.S, upd w5.H Dd (.lst (accV ++ [v5]))⟩, acc ++ [yd], accV ++ [v5], rfl, ?_, hlt, upd_same, k2, k3, ?_, by rw [e2]; exact s2⟩
                    · rw [Rps.length hrs]
                      exact Nat.lt_of_lt_of_le hal (line16 (Nat.le_refl _))
                    · exact Go.loose (g2.trans (g3.trans (g4.trans g5))) hD (by rw [k1]; simp) k2 k3
                    · exact (Rps.go (g3.trans (g4.trans g5)) hrs).append (rps_cons r5' rps_nil)
                  · rw [if_neg hal] at s2
                    exact s2.elim
      · rw [if_neg hk] at s2
        exact s2.elim
theorem pd_lc (m : Mk mk) (tgd : TgD (kt X) (own.map (·.2)) gV gE) (hc : X.calm = true) (hN : X.N.Nodup) (hi : PID X W tg iter src) (ok : BlkOk X.N X.env.scope scope own)
    (hg : ∀ (s : Shared) (H : Hp) (C : Addr) (cl : List (Str × Addr)) (fp : List Addr), PG (X.blk s H scope (compEnvC scope cl C X.env) fp) tg gV)
    (he : ∀ (s : Shared) (H : Hp) (C : Addr) (cl : List (Str × Addr)) (fp : List Addr), PD (X.blk s H scope (compEnvC scope cl C X.env) fp) W0 elt f) (hs : ∀ x, foldedSetIterable iter X.env x = pure x := by intro _; rfl) :
    PD X W (.ListComp elt [⟨tg, iter, [], 0⟩] scope pos) (xLc mk src gE cYes f (own.map (·.2))) :=
  weakE (pe_lc (te := tD (kt X) W0 f) hc hN hi ok hg (fun _ _ _ _ _ => pts_nil) (fun s H C cl fp => show PE _ elt (tD (kt X) W0 f) from he s H C cl fp) hs) fun σ H Q => lc_read m tgd fun σ H Q ⟨w, env, eH, hw, he, hs⟩ => by
    subst eH
    exact SatW.here (d := true) (v := true) hs hw rfl
theorem pd_lcIf {t : Expr} (m : Mk mk) (tgd : TgD (kt X) (own.map (·.2)) gV gE) (hc : X.calm = true) (hN : X.N.Nodup) (hi : PID X W tg iter src) (ok : BlkOk X.N X.env.scope scope own)
    (hg : ∀ (s : Shared) (H : Hp) (C : Addr) (cl : List (Str × Addr)) (fp : List Addr), PG (X.blk s H scope (compEnvC scope cl C X.env) fp) tg gV)
    (ht : ∀ (s : Shared) (H : Hp) (C : Addr) (cl : List (Str × Addr)) (fp : List Addr), PTD (X.blk s H scope (compEnvC scope cl C X.env) fp) W0 t c)
    (he : ∀ (s : Shared) (H : Hp) (C : Addr) (cl : List (Str × Addr)) (fp : List Addr), PD (X.blk s H scope (compEnvC scope cl C X.env) fp) W0 elt f) (hs : ∀ x, foldedSetIterable iter X.env x = pure x := by intro _; rfl) :
    PD X W (.ListComp elt [⟨tg, iter, [t], 0⟩] scope pos) (xLc mk src gE c f (own.map (·.2))) :=
  weakE (pe_lc (te := tD (kt X) W0 f) (tt := tDB (kt X) W0 c) hc hN hi ok hg (fun s H C cl fp => pts_one (show PT _ t (tDB (kt X) W0 c) from ht s H C cl fp)) (fun s H C cl fp => show PE _ elt (tD (kt X) W0 f) from he s H C cl fp) hs) fun σ H Q => lc_read m tgd fun σ H Q h => h
end

/-! ### a def's contract, a call -/
def fin (keep : Bool) (n : Nat) (d : D) (S : Store) : Res D :=
  if keep = true ∨ S.length = n then .ok d S else if (d.under n && (S.take n).all (fun c => c.under n)) = true then .ok d (S.take n) else .bad
def finX (n : Nat) (x : Exn) (S : Store) : Res D := if S.length = n then .exc x S else if ((S.take n).all (fun c => c.under n)) = true then .exc x (S.take n) else .bad
def fnD (np ns : Nat) (keep : Bool) (body : Env → Store → Out) : List D → M D := fun ds S =>
  if ds.length = np then match body (ds.map some ++ List.replicate (ns - np) none) S with
    | .rt d S' => fin keep S.length d S'
    | .nx _ S' => fin keep S.length .non S'
    | .exc x _ S' => finX S.length x S'
    | _ => .bad
  else .bad
def spD (T : Kt) (f : List D → M D) : Sp := fun vs H Q E => ∃ (w : Wl) (ds : List D), w.H = H ∧ Wd T.K w ∧ Rps T.K w.r w.F ds vs ∧ SatW T (fun cls dd _ H' => E cls dd H') [] (RD T.K) w (f ds w.S) (fun w' _ v => Q v w'.H)
theorem fin_sat {T : Kt} {W : WX} {σ : L2.St} {w w1 : Wl} {keep : Bool} {d : D} {v : V} {Q : VK} (g : Go T.K w w1) (r : Rp T.K w1.r w1.F d v) (h : SatW T W σ (RD T.K) w (fin keep w.S.length d w1.S) (fun w' _ v => Q v w'.H)) : Q v w1.H := by
  unfold fin at h
  by_cases hk : keep = true ∨ w1.S.length = w.S.length
  · rw [if_pos hk] at h
    exact h w1 v g rfl r
  · rw [if_neg hk] at h
    obtain ⟨hu, h⟩ := satIf h
    rw [Bool.and_eq_true] at hu
    exact h ⟨w1.r.take w.S.length, w1.F, w1.S.take w.S.length, w1.H⟩ v (g.cut hu.2) rfl (Rp.cut d v hu.1 r)
section
variable {P : Program} {w : World} {K : PySem.W.Frag} {mg : Str → Option Value} {base : Heap}
theorem fn_ok {x qual : Str} {st : Stmt} {f : Addr} {fd : FuncData} {N ps : List Str} {k : Nat} {keep : Bool} {body : Env → Store → Out} (F : Fun K x qual st f fd) (S : FnScope N ps (defScope st))
    (hbody : ∀ (cdv : Value) (A : Around) (outer : List PySem.Env) (s : Shared) (H : Hp) (E : XK), Room k (A.deeper (envOfC qual (defScope st) s.heap.objs.size f cdv)) →
      PSsD (cxOf (L2.CX P w) P w K mg base N qual (defScope st) f cdv A outer s H E) (fun cls d _ H' => E cls d H') (defBody st) body) :
    FnOk P w K mg base (L2.CX P w) (k + 1) f fd ps (spD ⟨K, mg⟩ (fnD ps.length N.length keep body)) := by
  refine F.okX S (fun vs H Q E ⟨wl, ds, eH, hw, hr, hs⟩ => ?_) (fun cdv A outer s H vs Q E hr h => ⟨_, hbody cdv A outer s H E hr, ?_⟩)
  · unfold fnD at hs
    rw [hr.length]
    exact (satIf hs).1
  · obtain ⟨wl, ds, eH, hw, hrs, hs⟩ := h
    subst eH
    unfold fnD at hs
    obtain ⟨hl, hs⟩ := satIf hs
    have hvl : vs.length = ps.length := by rw [hrs.length]; exact hl
    have he : EnvOk K wl (ds.map some ++ List.replicate (N.length - ps.length) none) (L2.start N vs) := by
      unfold L2.start
      rw [hvl]
      refine ⟨by simp [hrs.length], fun i d e => ?_⟩
      by_cases hi : i < ds.length
      · rw [List.getElem?_append_left (by simpa using hi), List.getElem?_map] at e
        cases q : ds[i]? with
        | none => rw [q] at e; cases e
        | some d' =>
          rw [q] at e
          have ed : d' = d := by injection (Option.some.inj e)
          subst ed
          obtain ⟨v, ev, rv⟩ := hrs.get q
          refine ⟨v, ?_, rv⟩
          rw [List.getElem?_append_left (by rw [List.length_map]; exact (List.getElem?_eq_some_iff.mp ev).1), List.getElem?_map, ev]
          rfl
      · rw [List.getElem?_append_right (by simpa using hi)] at e
        have := (List.getElem?_eq_some_iff.mp e)
        obtain ⟨h1, h2⟩ := this
        rw [List.getElem_replicate] at h2
        cases h2
    refine ⟨wl, _, rfl, hw, he, ?_⟩
    cases o : body (ds.map some ++ List.replicate (N.length - ps.length) none) wl.S with
    | rt d S' => rw [o] at hs; exact fun w' v g e r => by subst e; exact fin_sat g r hs
    | nx e' S' => rw [o] at hs; exact fun w' σ' g e r => by subst e; exact fin_sat g rpn hs
    | bk e' S' => rw [o] at hs; exact hs.elim
    | ct e' S' => rw [o] at hs; exact hs.elim
    | exc x e' S' =>
      rw [o] at hs
      intro w' σ' cls dd g e he' q
      subst e
      replace hs : SatW ⟨K, mg⟩ (fun cls dd _ H' => E cls dd H') [] (RD K) wl (finX wl.S.length x w'.S) (fun w' _ v => Q v w'.H) := hs
      unfold finX at hs
      by_cases hk : w'.S.length = wl.S.length
      · rw [if_pos hk] at hs
        exact hs w' cls dd g rfl q
      rw [if_neg hk] at hs
      obtain ⟨hu, hs⟩ := satIf hs
      exact hs ⟨w'.r.take wl.S.length, w'.F, w'.S.take wl.S.length, w'.H⟩ cls dd (g.cut hu) rfl q
    | bad => rw [o] at hs; exact hs.elim
end
theorem fn_mk {P : Program} {w : World} {K : PySem.W.Frag} {mg : Str → Option Value} {base : Heap} {x qual : Str} {st : Stmt} {f : Addr} {fd : FuncData} {N ps : List Str} {k : Nat} {keep : Bool} {body : Env → Store → Out} {G : List D → M D} (F : Fun K x qual st f fd) (S : FnScope N ps (defScope st)) (hG : G = fnD ps.length N.length keep body)
    (hbody : ∀ (cdv : Value) (A : Around) (outer : List PySem.Env) (s : Shared) (H : Hp) (E : XK), Room k (A.deeper (envOfC qual (defScope st) s.heap.objs.size f cdv)) →
      PSsD (cxOf (L2.CX P w) P w K mg base N qual (defScope st) f cdv A outer s H E) (fun cls d _ H' => E cls d H') (defBody st) body) :
    FnOk P w K mg base (L2.CX P w) (k + 1) f fd ps (spD ⟨K, mg⟩ G) := by
  rw [hG]
  exact fn_ok F S hbody
section
variable {X : Cx} {W : WX} {e : Expr} {es : List Expr} {h : Env → M (List D)} {pos p : Pos} {x : Str} {k : Nat} {f : Addr} {fd : FuncData} {ps : List Str} {F : List D → M D}
theorem pd_call (G : FnOk X.prog X.w X.K X.mg X.base (L2.CX X.prog X.w) k f fd ps (spD (kt X) F)) (hr : Room k X.A) (hm : X.mg x = some (.ref f)) (hk : PySem.W.keepIn X.K (.ref f) = true) (hb : Binds X.K fd ps []) (tk : Takes X W) (ha : PAD X W (e :: es) h) (hg : Gl X x := by rfl)
    (hdb : (x == ("__debug__" : Str)) = false := by decide) (he : starEach (e :: es) X.env = (false, eval e X.env) :: starEach es X.env := by rfl) (hpl : (backTo pos (starEach es X.env)).any (·.1) = false := by rfl) :
    PD X W (.Call (.Name x p) (e :: es) [] pos) (xFn F h) := by
  refine weakE (pe_callS G hr hg hm hk hb (fun σ => passAt tk σ) ha hdb he hpl) fun σ H Q ⟨w, env, eH, hw, he, hs⟩ => ?_
  subst eH
  refine ⟨w, env, rfl, hw, he, SatW.imp (SatW.bind hs) fun w1 d v g1 r1 s1 => ?_⟩
  refine ⟨w1, d, rfl, g1.wd, r1, ?_⟩
  cases o : F d w1.S with
  | ok y S => rw [o] at s1; exact s1
  | exc y S => rw [o] at s1; exact s1
  | bad => rw [o] at s1; exact s1.elim
end
end Dv
/-! # Dv5: the operators -/
namespace Dv
noncomputable section
open PySem PySem.Spec PyProof.Rows L2

/-! ### ints -/
def divOk (i j : Int) : Prop := j ≠ 0 ∧ j.natAbs.log2 < 9000
instance (i j : Int) : Decidable (divOk i j) := inferInstanceAs (Decidable (_ ∧ _))
instance (i j : Int) : Decidable (IntMulOk i j) := inferInstanceAs (Decidable (¬ _))
def powOk (i j : Int) : Prop := 0 ≤ j ∧ j ≤ 1000000 ∧ i.natAbs < 2 ^ 64
instance (i j : Int) : Decidable (powOk i j) := inferInstanceAs (Decidable (_ ∧ _))
section
variable {X : Cx}
theorem op_fdivX : OpR X (binaryOp .FloorDiv) (rI divOk fun i j => .int (i.fdiv j)) := opI fun i j _ _ _ _ _ hc q => floordiv_int hc.1 q (.inl (PyProof.noPylong_of_log2 hc.2))
theorem op_mulX : OpR X (binaryOp .Mult) (rI IntMulOk fun i j => .int (i * j)) := opI fun _ _ _ _ _ _ _ hc q => mul_int q hc
end

/-! ### two numbers, by a table -/
def iOp (c : Int → Int → Prop) [∀ i j, Decidable (c i j)] (g : Int → Int → D) (x y : D) (S : Store) : Res D := match x, y with
  | .int i, .int j => if c i j then .ok (g i j) S else .bad
  | _, _ => .bad
def always : Int → Int → Prop := fun _ _ => True
instance (i j : Int) : Decidable (always i j) := inferInstanceAs (Decidable True)
@[simp] theorem iOp_ok {c : Int → Int → Prop} [∀ i j, Decidable (c i j)] {g : Int → Int → D} {i j : Int} {S : Store} : iOp c g (.int i) (.int j) S = if c i j then .ok (g i j) S else .bad := rfl
section
variable {X : Cx}
theorem iOp_sat {T : Kt} {W : WX} {σ : L2.St} {c : Int → Int → Prop} [∀ i j, Decidable (c i j)] {g : Int → Int → D} {gv : Int → Int → V} (hg : ∀ K r F i j, Rp K r F (g i j) (gv i j)) {w : Wl} {x y : V} {d e : D} {Q : VK} (hw : Wd T.K w) (r1 : RD T.K w d x) (r2 : RD T.K w e y)
    (hs : SatW T W σ (RD T.K) w (iOp c g d e w.S) (fun w' _ v => Q v w'.H)) : ∃ i j, x = .int i ∧ y = .int j ∧ c i j ∧ Q (gv i j) w.H := by
  unfold iOp at hs
  split at hs
  · rename_i i j
    obtain ⟨hc, hs⟩ := satIf hs
    exact ⟨i, j, rp_int r1, rp_int r2, hc, SatW.here hs hw (hg _ _ _ i j)⟩
  · exact hs.elim
theorem opI_d {fn : Value → Value → Sem Value} {c : Int → Int → Prop} [∀ i j, Decidable (c i j)] {g : Int → Int → D} {gv : Int → Int → V} (hg : ∀ K r F i j, Rp K r F (g i j) (gv i j)) (ho : OpR X fn (rI c gv)) : OpD X fn (iOp c g) :=
  ⟨_, ho, fun w x y d e W σ Q hw r1 r2 hs => iOp_sat hg hw r1 r2 hs⟩
theorem opI0_d {fn : Value → Value → Sem Value} {g : Int → Int → D} {gv : Int → Int → V} (hg : ∀ K r F i j, Rp K r F (g i j) (gv i j)) (ho : OpR X fn (rI0 gv)) : OpD X fn (iOp always g) :=
  ⟨_, ho, fun w x y d e W σ Q hw r1 r2 hs => by
    obtain ⟨i, j, h1, h2, _, q⟩ := iOp_sat hg hw r1 r2 hs
    exact ⟨i, j, h1, h2, q⟩⟩
def dSub := iOp always fun i j => .int (i - j)
def dFdiv := iOp divOk fun i j => .int (i.fdiv j)
def dMod := iOp (fun _ j => j ≠ 0) fun i j => .int (i.fmod j)
def dPow := iOp powOk fun i j => .int (i ^ j.toNat)
def dLt := iOp always fun i j => .bl (decide (i < j))
def dLe := iOp always fun i j => .bl (decide (i ≤ j))
def dGt := iOp always fun i j => .bl (decide (j < i))
def dGe := iOp always fun i j => .bl (decide (j ≤ i))
theorem od_sub : OpD X (binaryOp .Sub) dSub := opI0_d (fun _ _ _ _ _ => rpi) op_sub
theorem od_fdiv : OpD X (binaryOp .FloorDiv) dFdiv := opI_d (fun _ _ _ _ _ => rpi) op_fdivX
theorem od_mod : OpD X (binaryOp .Mod) dMod := opI_d (fun _ _ _ _ _ => rpi) op_modN
theorem od_pow : OpD X (binaryOp .Pow) dPow := opI_d (fun _ _ _ _ _ => rpi) op_pow
theorem od_lt : OpD X (compareOp .Lt) dLt := opI0_d (fun _ _ _ _ _ => rpb) op_lt
theorem od_le : OpD X (compareOp .LtE) dLe := opI0_d (fun _ _ _ _ _ => rpb) op_le
theorem od_gt : OpD X (compareOp .Gt) dGt := opI0_d (fun _ _ _ _ _ => rpb) op_gt
theorem od_ge : OpD X (compareOp .GtE) dGe := opI0_d (fun _ _ _ _ _ => rpb) op_ge
end
@[simp] theorem dSub_ok {i j : Int} {S : Store} : dSub (.int i) (.int j) S = .ok (.int (i - j)) S := rfl
@[simp] theorem dFdiv_ok {i j : Int} {S : Store} : dFdiv (.int i) (.int j) S = if divOk i j then .ok (.int (i.fdiv j)) S else .bad := rfl
@[simp] theorem dMod_ok {i j : Int} {S : Store} : dMod (.int i) (.int j) S = if j ≠ 0 then .ok (.int (i.fmod j)) S else .bad := rfl
@[simp] theorem dPow_ok {i j : Int} {S : Store} : dPow (.int i) (.int j) S = if powOk i j then .ok (.int (i ^ j.toNat)) S else .bad := rfl
@[simp] theorem dLt_ok {i j : Int} {S : Store} : dLt (.int i) (.int j) S = .ok (.bl (decide (i < j))) S := rfl
@[simp] theorem dLe_ok {i j : Int} {S : Store} : dLe (.int i) (.int j) S = .ok (.bl (decide (i ≤ j))) S := rfl
@[simp] theorem dGt_ok {i j : Int} {S : Store} : dGt (.int i) (.int j) S = .ok (.bl (decide (j < i))) S := rfl
@[simp] theorem dGe_ok {i j : Int} {S : Store} : dGe (.int i) (.int j) S = .ok (.bl (decide (j ≤ i))) S := rfl

/-! ### + and * : ints, lists, tuples, texts -/
def dAdd (mk : List D → M D) (x y : D) (S : Store) : Res D := match x, y with
  | .int i, .int j => .ok (.int (i + j)) S
  | .int i, .bl b => .ok (.int (i + b2i b)) S
  | .str a, .str b => if a.length + b.length ≤ 16000000 then .ok (.str (a ++ b)) S else .bad
  | .tup a, .tup b => if a ≠ [] ∧ b ≠ [] ∧ a.length + b.length ≤ 16000000 then .ok (.tup (a ++ b)) S else .bad
  | x, y => match getL x S, getL y S with
    | some a, some b => if a.length + b.length ≤ 16000000 then mk (a ++ b) S else .bad
    | _, _ => .bad
def dMul (mk : List D → M D) (x y : D) (S : Store) : Res D := match x, y with
  | .int i, .int j => if IntMulOk i j then .ok (.int (i * j)) S else .bad
  | .lst l, .int k => if rng62 k ∧ l.length * k.toNat ≤ 16000000 then mk (List.replicate k.toNat l).flatten S else .bad
  | _, _ => .bad
section
variable {X : Cx}
theorem Rps.ne_nil {K : PySem.W.Frag} {r : List Addr} {F : Hp} {l : List D} {vs : List V} (h : Rps K r F l vs) (hl : l ≠ []) : vs ≠ [] := fun z => by
  subst z
  have := h.length
  cases l with
  | nil => exact hl rfl
  | cons _ _ => cases this
theorem od_add {mk : List D → M D} (m : Mk mk) : OpD X (binaryOp .Add) (dAdd mk) := by
  refine ⟨_, (op_add.or (op_add_ib.or (op_add_str.or ((op_catT).or op_cat)))), fun w x y d e W σ Q hw r1 r2 hs => ?_⟩
  have lists : ∀ {a b : List D}, getL d w.S = some a → getL e w.S = some b → SatW (kt X) W σ (RD X.K) w (if a.length + b.length ≤ 16000000 then mk (a ++ b) w.S else .bad) (fun w' _ v => Q v w'.H) → rCat x y w.H Q := fun {a b} ha hb hs => by
    obtain ⟨hl, hs⟩ := satIf hs
    obtain ⟨p, vs, e1, q1, t1⟩ := getL_ok hw r1 ha
    obtain ⟨p', vs', e2, q2, t2⟩ := getL_ok hw r2 hb
    exact ⟨p, p', vs, vs', e1, e2, q1, q2, by rw [t1.length, t2.length]; exact line16 hl, m.go hw (t1.append t2) hs⟩
  have gen : ∀ {o1 o2 : Option (List D)}, getL d w.S = o1 → getL e w.S = o2 → SatW (kt X) W σ (RD X.K) w (match o1, o2 with | some a, some b => if a.length + b.length ≤ 16000000 then mk (a ++ b) w.S else .bad | _, _ => .bad) (fun w' _ v => Q v w'.H) → rCat x y w.H Q := fun {o1 o2} h1 h2 hs => by
    cases o1 with
    | none => exact hs.elim
    | some a =>
      cases o2 with
      | none => exact hs.elim
      | some b => exact lists h1 h2 hs
  unfold dAdd at hs
  split at hs
  · rename_i i j
    exact .inl ⟨i, j, rp_int r1, rp_int r2, SatW.here hs hw rpi⟩
  · rename_i i b
    exact .inr (.inl ⟨i, b, rp_int r1, rp_bl r2, SatW.here hs hw rpi⟩)
  · rename_i a b
    obtain ⟨hl, hs⟩ := satIf hs
    exact .inr (.inr (.inl ⟨a, b, rp_str r1, rp_str r2, line16 hl, SatW.here hs hw rps⟩))
  · rename_i a b
    obtain ⟨hl, hs⟩ := satIf hs
    obtain ⟨p, vs, e1, q1, t1⟩ := getT_ok hw r1 rfl
    obtain ⟨p', vs', e2, q2, t2⟩ := getT_ok hw r2 rfl
    exact .inr (.inr (.inr (.inl ⟨p, p', vs, vs', e1, e2, .inl q1, .inl q2, t1.ne_nil hl.1, by rw [t1.length, t2.length]; exact line16 hl.2.2, fun z => (t2.ne_nil hl.2.1 z).elim, fun _ => tup_go hw (t1.append t2) hs⟩)))
  · exact .inr (.inr (.inr (.inr (gen rfl rfl hs))))
theorem od_mul {mk : List D → M D} (m : Mk mk) : OpD X (binaryOp .Mult) (dMul mk) := by
  refine ⟨_, (op_mulX.or op_rep), fun w x y d e W σ Q hw r1 r2 hs => ?_⟩
  unfold dMul at hs
  split at hs
  · rename_i i j
    obtain ⟨hc, hs⟩ := satIf hs
    exact .inl ⟨i, j, rp_int r1, rp_int r2, hc, SatW.here hs hw rpi⟩
  · rename_i l k
    obtain ⟨hl, hs⟩ := satIf hs
    obtain ⟨p, vs, e1, q1, t1⟩ := getL_ok hw r1 rfl
    have b1 := hl.1.1
    have b2 := hl.1.2
    exact .inr ⟨p, k, vs, e1, rp_int r2, q1, by omega, by omega, by rw [t1.length]; exact line16 hl.2, m.go hw (t1.rep k.toNat) hs⟩
  · exact hs.elim
end
@[simp] theorem dAdd_int {mk : List D → M D} {i j : Int} {S : Store} : dAdd mk (.int i) (.int j) S = .ok (.int (i + j)) S := rfl
@[simp] theorem dAdd_ib {mk : List D → M D} {i : Int} {b : Bool} {S : Store} : dAdd mk (.int i) (.bl b) S = .ok (.int (i + b2i b)) S := rfl
@[simp] theorem dAdd_str {mk : List D → M D} {a b : Str} {S : Store} : dAdd mk (.str a) (.str b) S = if a.length + b.length ≤ 16000000 then .ok (.str (a ++ b)) S else .bad := rfl
@[simp] theorem dAdd_lst {mk : List D → M D} {a b : List D} {S : Store} : dAdd mk (.lst a) (.lst b) S = if a.length + b.length ≤ 16000000 then mk (a ++ b) S else .bad := rfl
@[simp] theorem dMul_int {mk : List D → M D} {i j : Int} {S : Store} : dMul mk (.int i) (.int j) S = if IntMulOk i j then .ok (.int (i * j)) S else .bad := rfl
@[simp] theorem dMul_lst {mk : List D → M D} {l : List D} {k : Int} {S : Store} : dMul mk (.lst l) (.int k) S = if rng62 k ∧ l.length * k.toNat ≤ 16000000 then mk (List.replicate k.toNat l).flatten S else .bad := rfl

/-! ### one number -/
def dNeg (d : D) (S : Store) : Res D := match d with
  | .int i => .ok (.int (-i)) S
  | _ => .bad
section
variable {X : Cx}
theorem ud_neg : UnD X (unaryOp .USub) dNeg := ⟨_, un_neg, fun w x d W σ Q hw r hs => by
  cases d with
  | int i => exact ⟨i, rp_int r, SatW.here hs hw rpi⟩
  | _ => exact hs.elim⟩
end
@[simp] theorem dNeg_ok {i : Int} {S : Store} : dNeg (.int i) S = .ok (.int (-i)) S := rfl

/-! ### == and != -/
mutual
def toP (S : Store) : Nat → D → Option PyData
  | _, .non => some .none
  | _, .bl b => some (.bool b)
  | _, .int i => some (.int i)
  | _, .str x => if PySem.PyData.canLay0 (.str x) then some (.str x) else none
  | 0, _ => none
  | n + 1, .tup l => (toPs S n l).map .tuple
  | n + 1, .lst l => (toPs S n l).map .list
  | n + 1, .scr l => (toPs S n l).map .list
  | n + 1, .cell c => match S[c]? with
    | some (.lst l) => (toPs S n l).map .list
    | _ => none
  | _ + 1, .raw _ => none
  | _ + 1, .cls _ => none
  | _ + 1, .exn _ _ => none
def toPs (S : Store) : Nat → List D → Option (List PyData)
  | _, [] => some []
  | n, d :: l => match toP S n d, toPs S n l with
    | some x, some y => some (x :: y)
    | _, _ => none
end
mutual
theorem toP_ok {S : Store} : ∀ (n : Nat) (d : D) (p : PyData), toP S n d = some p → p.canLay0 = true ∧ p.depth ≤ n
  | n, .non, p, h => by rw [toP] at h; cases h; exact ⟨rfl, Nat.zero_le _⟩
  | n, .bl b, p, h => by rw [toP] at h; cases h; exact ⟨rfl, Nat.zero_le _⟩
  | n, .int b, p, h => by rw [toP] at h; cases h; exact ⟨rfl, Nat.zero_le _⟩
  | n, .str x, p, h => by
    rw [toP] at h
    by_cases hc : PySem.PyData.canLay0 (.str x) = true
    · rw [if_pos hc] at h; cases h; exact ⟨hc, Nat.zero_le _⟩
    · rw [if_neg hc] at h; cases h
  | 0, .tup l, p, h => by rw [toP] at h <;> first | cases h | simp
  | 0, .lst l, p, h => by rw [toP] at h <;> first | cases h | simp
  | 0, .scr l, p, h => by rw [toP] at h <;> first | cases h | simp
  | 0, .cell l, p, h => by rw [toP] at h <;> first | cases h | simp
  | 0, .raw l, p, h => by rw [toP] at h <;> first | cases h | simp
  | n + 1, .raw l, p, h => by rw [toP] at h; cases h
  | 0, .cls l, p, h => by rw [toP] at h <;> first | cases h | simp
  | n + 1, .cls l, p, h => by rw [toP] at h; cases h
  | 0, .exn l _, p, h => by rw [toP] at h <;> first | cases h | simp
  | n + 1, .exn l _, p, h => by rw [toP] at h; cases h
  | n + 1, .tup l, p, h => by
    rw [toP] at h
    cases q : toPs S n l with
    | none => rw [q] at h; cases h
    | some ps =>
      rw [q] at h
      cases h
      obtain ⟨h1, h2⟩ := toPs_ok n l ps q
      exact ⟨h1, Nat.succ_le_succ h2⟩
  | n + 1, .lst l, p, h => by
    rw [toP] at h
    cases q : toPs S n l with
    | none => rw [q] at h; cases h
    | some ps =>
      rw [q] at h
      cases h
      obtain ⟨h1, h2⟩ := toPs_ok n l ps q
      exact ⟨h1, Nat.succ_le_succ h2⟩
  | n + 1, .scr l, p, h => by
    rw [toP] at h
    cases q : toPs S n l with
    | none => rw [q] at h; cases h
    | some ps =>
      rw [q] at h
      cases h
      obtain ⟨h1, h2⟩ := toPs_ok n l ps q
      exact ⟨h1, Nat.succ_le_succ h2⟩
  | n + 1, .cell c, p, h => by
    rw [toP] at h
    split at h
    · rename_i l e
      cases q : toPs S n l with
      | none => rw [q] at h; cases h
      | some ps =>
        rw [q] at h
        cases h
        obtain ⟨h1, h2⟩ := toPs_ok n l ps q
        exact ⟨h1, Nat.succ_le_succ h2⟩
    · cases h
theorem toPs_ok {S : Store} : ∀ (n : Nat) (l : List D) (p : List PyData), toPs S n l = some p → PyData.canLayAll0 p = true ∧ PyData.depthAll p ≤ n
  | n, [], p, h => by rw [toPs] at h; cases h; exact ⟨rfl, Nat.zero_le _⟩
  | n, d :: l, p, h => by
    rw [toPs] at h
    cases q1 : toP S n d with
    | none => rw [q1] at h; cases h
    | some x =>
      cases q2 : toPs S n l with
      | none => rw [q1, q2] at h; cases h
      | some y =>
        rw [q1, q2] at h
        cases h
        obtain ⟨h1, h2⟩ := toP_ok n d x q1
        obtain ⟨h3, h4⟩ := toPs_ok n l y q2
        refine ⟨?_, ?_⟩
        · rw [PyData.canLayAll0, h1, h3]; rfl
        · rw [PyData.depthAll]; omega
end
mutual
theorem toP_dp {K : PySem.W.Frag} {w : Wl} (hw : Wd K w) : ∀ (n : Nat) (d : D) (v : V) (p : PyData), toP w.S n d = some p → Rp K w.r w.F d v → Dp K w.H v p
  | n, .non, v, p, h, r => by rw [toP] at h; cases h; cases rp_non r; exact .non
  | n, .bl b, v, p, h, r => by rw [toP] at h; cases h; cases rp_bl r; exact .bl b
  | n, .int b, v, p, h, r => by rw [toP] at h; cases h; cases rp_int r; exact .int b
  | n, .str x, v, p, h, r => by
    rw [toP] at h
    by_cases hc : PySem.PyData.canLay0 (.str x) = true
    · rw [if_pos hc] at h; cases h; cases rp_str r; exact .str x
    · rw [if_neg hc] at h; cases h
  | 0, .tup l, v, p, h, r => by rw [toP] at h <;> first | cases h | simp
  | 0, .lst l, v, p, h, r => by rw [toP] at h <;> first | cases h | simp
  | 0, .scr l, v, p, h, r => by rw [toP] at h <;> first | cases h | simp
  | 0, .cell l, v, p, h, r => by rw [toP] at h <;> first | cases h | simp
  | 0, .raw l, v, p, h, r => by rw [toP] at h <;> first | cases h | simp
  | n + 1, .raw l, v, p, h, r => by rw [toP] at h; cases h
  | 0, .cls l, v, p, h, r => by rw [toP] at h <;> first | cases h | simp
  | n + 1, .cls l, v, p, h, r => by rw [toP] at h; cases h
  | 0, .exn l _, v, p, h, r => by rw [toP] at h <;> first | cases h | simp
  | n + 1, .exn l _, v, p, h, r => by rw [toP] at h; cases h
  | n + 1, .tup l, v, p, h, r => by
    rw [toP] at h
    cases q : toPs w.S n l with
    | none => rw [q] at h; cases h
    | some ps =>
      rw [q] at h
      cases h
      obtain ⟨a, vs, rfl, hr, t⟩ := getT_ok hw r rfl
      exact .tup (.inl hr) (toPs_dp hw n l vs ps q t)
  | n + 1, .lst l, v, p, h, r => by
    rw [toP] at h
    cases q : toPs w.S n l with
    | none => rw [q] at h; cases h
    | some ps =>
      rw [q] at h
      cases h
      obtain ⟨a, vs, rfl, hr, t⟩ := getL_ok hw r rfl
      exact .lst (.inl (.inl hr)) (toPs_dp hw n l vs ps q t)
  | n + 1, .scr l, v, p, h, r => by
    rw [toP] at h
    cases q : toPs w.S n l with
    | none => rw [q] at h; cases h
    | some ps =>
      rw [q] at h
      cases h
      obtain ⟨a, vs, rfl, hr, t⟩ := getQ_ok hw r rfl
      exact .lst hr (toPs_dp hw n l vs ps q t)
  | n + 1, .cell c, v, p, h, r => by
    rw [toP] at h
    split at h
    · rename_i l e
      cases q : toPs w.S n l with
      | none => rw [q] at h; cases h
      | some ps =>
        rw [q] at h
        cases h
        obtain ⟨a, vs, rfl, hr, t⟩ := getL_ok (l := l) hw r (by simp only [getL, e])
        exact .lst (.inl (.inl hr)) (toPs_dp hw n l vs ps q t)
    · cases h
theorem toPs_dp {K : PySem.W.Frag} {w : Wl} (hw : Wd K w) : ∀ (n : Nat) (l : List D) (vs : List V) (p : List PyData), toPs w.S n l = some p → Rps K w.r w.F l vs → DpAll K w.H vs p
  | n, [], vs, p, h, r => by rw [toPs] at h; cases h; rw [r.nil_inv]; exact .nil
  | n, d :: l, vs, p, h, r => by
    rw [toPs] at h
    cases q1 : toP w.S n d with
    | none => rw [q1] at h; cases h
    | some x =>
      cases q2 : toPs w.S n l with
      | none => rw [q1, q2] at h; cases h
      | some y =>
        rw [q1, q2] at h
        cases h
        obtain ⟨v, t, rfl, r1, r2⟩ := r.cons_inv
        exact .cons (toP_dp hw n d v x q1 r1) (toPs_dp hw n l t y q2 r2)
end
def dEq (a b : D) (S : Store) : Res D := match toP S 60 a, toP S 60 b with
  | some x, some y => .ok (.bl (PyData.eqv x y)) S
  | _, _ => .bad
def dNe (a b : D) (S : Store) : Res D := match toP S 60 a, toP S 60 b with
  | some x, some y => .ok (.bl (!PyData.eqv x y)) S
  | _, _ => .bad
theorem shaped_of {S : Store} {d : D} {p : PyData} (h : toP S 60 d = some p) : SeqAt.shaped p = true := by
  obtain ⟨h1, h2⟩ := toP_ok 60 d p h
  unfold SeqAt.shaped
  rw [h1, decide_eq_true (by omega)]
  rfl
section
variable {X : Cx}
theorem od_eq (hu : X.A.units + 64 < cLine) : OpD X (compareOp .Eq) dEq := ⟨_, op_eqD hu, fun w x y d e W σ Q hw r1 r2 hs => by
  unfold dEq at hs
  split at hs
  · rename_i p q h1 h2
    exact ⟨p, q, toP_dp hw 60 d x p h1 r1, toP_dp hw 60 e y q h2 r2, shaped_of h1, shaped_of h2, SatW.here hs hw rpb⟩
  · exact hs.elim⟩
theorem od_ne (hu : X.A.units + 64 < cLine) : OpD X (compareOp .NotEq) dNe := ⟨_, op_neD hu, fun w x y d e W σ Q hw r1 r2 hs => by
  unfold dNe at hs
  split at hs
  · rename_i p q h1 h2
    exact ⟨p, q, toP_dp hw 60 d x p h1 r1, toP_dp hw 60 e y q h2 r2, shaped_of h1, shaped_of h2, SatW.here hs hw rpb⟩
  · exact hs.elim⟩
end
@[simp] theorem dEq_int {i j : Int} {S : Store} : dEq (.int i) (.int j) S = .ok (.bl (decide (i = j))) S := by
  simp only [dEq, toP, PyData.eqv]
  rfl
@[simp] theorem dNe_int {i j : Int} {S : Store} : dNe (.int i) (.int j) S = .ok (.bl (!decide (i = j))) S := by
  simp only [dNe, toP, PyData.eqv]
  rfl
theorem dEq_of {a b : D} {S : Store} {p q : PyData} (h1 : toP S 60 a = some p) (h2 : toP S 60 b = some q) : dEq a b S = .ok (.bl (PyData.eqv p q)) S := by
  simp only [dEq, h1, h2]
theorem dNe_of {a b : D} {S : Store} {p q : PyData} (h1 : toP S 60 a = some p) (h2 : toP S 60 b = some q) : dNe a b S = .ok (.bl (!PyData.eqv p q)) S := by
  simp only [dNe, h1, h2]
theorem dEq_self {a : D} {S : Store} {p : PyData} (h1 : toP S 60 a = some p) : dEq a a S = .ok (.bl true) S := by
  rw [dEq_of h1 h1, SeqAt.eqv_refl p (toP_ok 60 a p h1).1]
theorem dNe_self {a : D} {S : Store} {p : PyData} (h1 : toP S 60 a = some p) : dNe a a S = .ok (.bl false) S := by
  rw [dNe_of h1 h1, SeqAt.eqv_refl p (toP_ok 60 a p h1).1]
  rfl

/-! ### is None -/
def dIsN (a b : D) (S : Store) : Res D := match b with
  | .non => match a with
    | .non => .ok (.bl true) S
    | .raw _ => .bad
    | _ => .ok (.bl false) S
  | _ => .bad
def dIsNotN (a b : D) (S : Store) : Res D := match b with
  | .non => match a with
    | .non => .ok (.bl false) S
    | .raw _ => .bad
    | _ => .ok (.bl true) S
  | _ => .bad
theorem rp_isnon {K : PySem.W.Frag} {r : List Addr} {F : Hp} {d : D} {v : V} (h : Rp K r F d v) (hd : ∀ x, d ≠ .raw x) : decide (v = .non) = (match d with | .non => true | _ => false) := by
  cases d with
  | non => cases rp_non h; rfl
  | bl b => cases rp_bl h; rfl
  | int b => cases rp_int h; rfl
  | str b => cases rp_str h; rfl
  | tup l => unfold Rp at h; obtain ⟨a, vs, rfl, _⟩ := h; rfl
  | lst l => unfold Rp at h; obtain ⟨a, vs, rfl, _⟩ := h; rfl
  | scr l => unfold Rp at h; obtain ⟨a, vs, rfl, _⟩ := h; rfl
  | cell n => unfold Rp at h; obtain ⟨a, _, rfl⟩ := h; rfl
  | cls n => unfold Rp at h; obtain ⟨a, _, rfl⟩ := h; rfl
  | exn n f => unfold Rp at h; obtain ⟨a, _, _, rfl, _⟩ := h; rfl
  | raw x => exact (hd x rfl).elim
section
variable {X : Cx}
theorem od_isN : OpD X (compareOp .Is) dIsN := ⟨_, op_isN, fun w x y d e W σ Q hw r1 r2 hs => by
  cases e with
  | non =>
    refine ⟨rp_non r2, ?_⟩
    have q := rp_isnon (show Rp X.K w.r w.F d x from r1)
    cases d with
    | raw z => exact hs.elim
    | non => rw [q (by simp)]; exact SatW.here hs hw rpb
    | bl z => rw [q (by simp)]; exact SatW.here hs hw rpb
    | int z => rw [q (by simp)]; exact SatW.here hs hw rpb
    | str z => rw [q (by simp)]; exact SatW.here hs hw rpb
    | tup z => rw [q (by simp)]; exact SatW.here hs hw rpb
    | lst z => rw [q (by simp)]; exact SatW.here hs hw rpb
    | scr z => rw [q (by simp)]; exact SatW.here hs hw rpb
    | cell z => rw [q (by simp)]; exact SatW.here hs hw rpb
    | cls z => rw [q (by simp)]; exact SatW.here hs hw rpb
    | exn z f => rw [q (by simp)]; exact SatW.here hs hw rpb
  | _ => exact hs.elim⟩
theorem od_isNotN : OpD X (compareOp .IsNot) dIsNotN := ⟨_, op_notN, fun w x y d e W σ Q hw r1 r2 hs => by
  cases e with
  | non =>
    refine ⟨rp_non r2, ?_⟩
    have q := rp_isnon (show Rp X.K w.r w.F d x from r1)
    cases d with
    | raw z => exact hs.elim
    | non => rw [q (by simp)]; exact SatW.here hs hw rpb
    | bl z => rw [q (by simp)]; exact SatW.here hs hw rpb
    | int z => rw [q (by simp)]; exact SatW.here hs hw rpb
    | str z => rw [q (by simp)]; exact SatW.here hs hw rpb
    | tup z => rw [q (by simp)]; exact SatW.here hs hw rpb
    | lst z => rw [q (by simp)]; exact SatW.here hs hw rpb
    | scr z => rw [q (by simp)]; exact SatW.here hs hw rpb
    | cell z => rw [q (by simp)]; exact SatW.here hs hw rpb
    | cls z => rw [q (by simp)]; exact SatW.here hs hw rpb
    | exn z f => rw [q (by simp)]; exact SatW.here hs hw rpb
  | _ => exact hs.elim⟩
end

/-! ### an item -/
def dIx (x y : D) (S : Store) : Res D := match y with
  | .int i => match x with
    | .tup l => match atI l i with
      | some d => .ok d S
      | none => .bad
    | .str z => if z.length ≤ 16000000 then match atI z.cps.toList i with
        | some c => .ok (.str ⟨#[c]⟩) S
        | none => .bad
      else .bad
    | x => match getQ x S with
      | some l => match atI l i with
        | some d => .ok d S
        | none => .bad
      | none => .bad
  | _ => .bad
theorem Rps.atI {K : PySem.W.Frag} {r : List Addr} {F : Hp} {l : List D} {vs : List V} {i : Int} {d : D} (h : Rps K r F l vs) (e : L2.atI l i = some d) : ∃ v, L2.atI vs i = some v ∧ Rp K r F d v := by
  unfold L2.atI at e ⊢
  rw [h.length]
  cases q : ixN l.length i with
  | none => rw [q] at e; cases e
  | some j =>
    rw [q] at e
    exact h.get (i := j) e
section
variable {X : Cx}
theorem ixd : IxD X dIx := ⟨_, ix_seq, fun w x y d e W σ Q hw r1 r2 hs => by
  have gen : ∀ {o : Option (List D)} {i : Int}, getQ d w.S = o → e = .int i → SatW (kt X) W σ (RD X.K) w (match o with | some l => (match L2.atI l i with | some d => (.ok d w.S : Res D) | none => .bad) | none => .bad) (fun w' _ v => Q v w'.H) → rIxL X.K x y w.H Q := fun {o i} h1 h2 hq => by
    cases o with
    | none => exact hq.elim
    | some l =>
      cases q : L2.atI l i with
      | none => simp only [q] at hq; exact hq.elim
      | some z =>
        simp only [q] at hq
        obtain ⟨p, vs, e1, q1, t1⟩ := getQ_ok hw r1 h1
        obtain ⟨v, ev, rv⟩ := t1.atI q
        subst h2
        exact ⟨p, vs, i, v, e1, rp_int r2, q1, ev, SatW.here hq hw rv⟩
  unfold dIx at hs
  split at hs
  · rename_i i
    split at hs
    · rename_i l
      cases q : L2.atI l i with
      | none => simp only [q] at hs; exact hs.elim
      | some z =>
        simp only [q] at hs
        obtain ⟨p, vs, e1, q1, t1⟩ := getT_ok hw r1 rfl
        obtain ⟨v, ev, rv⟩ := t1.atI q
        exact .inr (.inl ⟨p, vs, i, v, e1, rp_int r2, .inl q1, ev, SatW.here hs hw rv⟩)
    · rename_i z
      obtain ⟨hl, hs⟩ := satIf hs
      cases q : L2.atI z.cps.toList i with
      | none => simp only [q] at hs; exact hs.elim
      | some c =>
        simp only [q] at hs
        exact .inr (.inr ⟨z, i, c, rp_str r1, rp_int r2, line16 hl, q, SatW.here hs hw rps⟩)
    · exact .inl (gen rfl rfl hs)
  · exact hs.elim⟩
end
@[simp] theorem dIx_tup {l : List D} {i : Int} {S : Store} : dIx (.tup l) (.int i) S = match L2.atI l i with | some d => .ok d S | none => .bad := rfl
@[simp] theorem dIx_lst {l : List D} {i : Int} {S : Store} : dIx (.lst l) (.int i) S = match L2.atI l i with | some d => .ok d S | none => .bad := rfl

/-! ### built-in functions -/
def bAbs (l : List D) (S : Store) : Res D := match l with
  | [.int i] => .ok (.int (if i < 0 then -i else i)) S
  | _ => .bad
def bLen (l : List D) (S : Store) : Res D := match l with
  | [.str z] => if z.length ≤ 16000000 then .ok (.int z.length) S else .bad
  | [.tup l] => .ok (.int l.length) S
  | [x] => match getQ x S with
    | some l => .ok (.int l.length) S
    | none => .bad
  | _ => .bad
def intsOf : List D → Option (List Int)
  | [] => some []
  | .int i :: l => (intsOf l).map (i :: ·)
  | _ :: _ => none
def bSum (l : List D) (S : Store) : Res D := match l with
  | [x] => match (getQ x S).bind intsOf with
    | some ns => .ok (.int ns.sum) S
    | none => .bad
  | _ => .bad
def maxL : List Int → Int
  | [] => 0
  | [x] => x
  | x :: y :: l => max x (maxL (y :: l))
def minL : List Int → Int
  | [] => 0
  | [x] => x
  | x :: y :: l => min x (minL (y :: l))
def bMax (l : List D) (S : Store) : Res D := match l with
  | [.int i, .int j] => .ok (.int (if j > i then j else i)) S
  | [x] => match (getQ x S).bind intsOf with
    | some (n :: ns) => .ok (.int (maxL (n :: ns))) S
    | _ => .bad
  | _ => .bad
def bMin (l : List D) (S : Store) : Res D := match l with
  | [.int i, .int j] => .ok (.int (if j < i then j else i)) S
  | [x] => match (getQ x S).bind intsOf with
    | some (n :: ns) => .ok (.int (minL (n :: ns))) S
    | _ => .bad
  | _ => .bad
def bInt (l : List D) (S : Store) : Res D := match l with
  | [.int i] => .ok (.int i) S
  | [.bl b] => .ok (.int (if b then 1 else 0)) S
  | _ => .bad
def bList (mk : List D → M D) (l : List D) (S : Store) : Res D := match l with
  | [.tup l] => mk l S
  | [x] => match getQ x S with
    | some l => mk l S
    | none => .bad
  | _ => .bad
def bTuple (l : List D) (S : Store) : Res D := match l with
  | [.tup l] => .ok (.tup l) S
  | [x] => match getQ x S with
    | some l => .ok (.tup l) S
    | none => .bad
  | _ => .bad
theorem maxL_mem : ∀ {l : List Int}, l ≠ [] → maxL l ∈ l
  | [], h => (h rfl).elim
  | [x], _ => by simp [maxL]
  | x :: y :: l, _ => by
    have ih := maxL_mem (l := y :: l) (by simp)
    unfold maxL
    rcases Int.le_total x (maxL (y :: l)) with h | h
    · rw [Int.max_eq_right h]; exact List.mem_cons_of_mem _ ih
    · rw [Int.max_eq_left h]; exact List.mem_cons_self
theorem maxL_ge : ∀ {l : List Int} {y : Int}, y ∈ l → y ≤ maxL l
  | [], y, h => by simp at h
  | [x], y, h => by
    have : y = x := by simpa using h
    subst this; exact Int.le_refl _
  | x :: z :: l, y, h => by
    unfold maxL
    rcases List.mem_cons.mp h with e | h
    · subst e; exact Int.le_max_left _ _
    · exact Int.le_trans (maxL_ge h) (Int.le_max_right _ _)
theorem minL_mem : ∀ {l : List Int}, l ≠ [] → minL l ∈ l
  | [], h => (h rfl).elim
  | [x], _ => by simp [minL]
  | x :: y :: l, _ => by
    have ih := minL_mem (l := y :: l) (by simp)
    unfold minL
    rcases Int.le_total x (minL (y :: l)) with h | h
    · rw [Int.min_eq_left h]; exact List.mem_cons_self
    · rw [Int.min_eq_right h]; exact List.mem_cons_of_mem _ ih
theorem minL_le : ∀ {l : List Int} {y : Int}, y ∈ l → minL l ≤ y
  | [], y, h => by simp at h
  | [x], y, h => by
    have : y = x := by simpa using h
    subst this; exact Int.le_refl _
  | x :: z :: l, y, h => by
    unfold minL
    rcases List.mem_cons.mp h with e | h
    · subst e; exact Int.min_le_left _ _
    · exact Int.le_trans (Int.min_le_right _ _) (minL_le h)
theorem intsOf_eq : ∀ {l : List D} {ns : List Int}, intsOf l = some ns → l = ns.map D.int
  | [], ns, h => by cases h; rfl
  | .int i :: l, ns, h => by
    rw [intsOf] at h
    cases q : intsOf l with
    | none => rw [q] at h; cases h
    | some ms =>
      rw [q] at h
      cases h
      rw [intsOf_eq q]
      rfl
  | .non :: l, ns, h => by cases h
  | .bl _ :: l, ns, h => by cases h
  | .str _ :: l, ns, h => by cases h
  | .tup _ :: l, ns, h => by cases h
  | .lst _ :: l, ns, h => by cases h
  | .scr _ :: l, ns, h => by cases h
  | .cell _ :: l, ns, h => by cases h
  | .raw _ :: l, ns, h => by cases h
  | .cls _ :: l, ns, h => by cases h
  | .exn _ _ :: l, ns, h => by cases h
@[simp] theorem intsOf_map : ∀ ns : List Int, intsOf (ns.map D.int) = some ns
  | [] => rfl
  | n :: ns => by rw [List.map_cons, intsOf, intsOf_map ns]; rfl
section
variable {X : Cx} {K : PySem.W.Frag} {w : Wl}
theorem one_inv {d : D} {xs : List V} (h : Rps K w.r w.F [d] xs) : ∃ v, xs = [v] ∧ Rp K w.r w.F d v := by
  obtain ⟨v, t, e, r1, r2⟩ := h.cons_inv
  have := r2.nil_inv
  subst this
  exact ⟨v, e, r1⟩
theorem two_inv {d e : D} {xs : List V} (h : Rps K w.r w.F [d, e] xs) : ∃ v u, xs = [v, u] ∧ Rp K w.r w.F d v ∧ Rp K w.r w.F e u := by
  obtain ⟨v, t, e1, r1, r2⟩ := h.cons_inv
  obtain ⟨u, q, r3⟩ := one_inv r2
  subst q
  exact ⟨v, u, e1, r1, r3⟩
theorem ints_of {x : D} {v : V} {ns : List Int} (hw : Wd K w) (r : Rp K w.r w.F x v) (h : (getQ x w.S).bind intsOf = some ns) : ∃ a, v = .ref a ∧ SqL K w.H a (ns.map V.int) := by
  cases q : getQ x w.S with
  | none => rw [q] at h; cases h
  | some l =>
    rw [q] at h
    have e := intsOf_eq (show intsOf l = some ns from h)
    subst e
    obtain ⟨a, vs, e1, q1, t⟩ := getQ_ok hw r q
    rw [t.ints] at q1
    exact ⟨a, e1, q1⟩
theorem cd_abs : CallD X (.builtin "abs") bAbs := ⟨_, call_abs, fun w xs ds W σ Q hw r hs => by
  unfold bAbs at hs
  split at hs
  · rename_i i
    obtain ⟨v, rfl, rv⟩ := one_inv r
    cases rp_int rv
    exact ⟨i, rfl, SatW.here hs hw rpi⟩
  · exact hs.elim⟩
theorem cd_len : CallD X (.builtin "len") bLen := ⟨_, call_len, fun w xs ds W σ Q hw r hs => by
  unfold bLen at hs
  split at hs
  · rename_i z
    obtain ⟨v, rfl, rv⟩ := one_inv r
    cases rp_str rv
    obtain ⟨hl, hs⟩ := satIf hs
    exact ⟨_, z.length, rfl, ⟨line16 hl, rfl⟩, SatW.here hs hw rpi⟩
  · rename_i l
    obtain ⟨v, rfl, rv⟩ := one_inv r
    obtain ⟨a, vs, rfl, q, t⟩ := getT_ok hw rv rfl
    exact ⟨_, l.length, rfl, .inr ⟨vs, .inl q, t.length.symm⟩, SatW.here hs hw rpi⟩
  · rename_i x _ _
    obtain ⟨v, rfl, rv⟩ := one_inv r
    cases q : getQ x w.S with
    | none => rw [q] at hs; exact hs.elim
    | some l =>
      rw [q] at hs
      obtain ⟨a, vs, rfl, q, t⟩ := getQ_ok hw rv q
      exact ⟨_, l.length, rfl, .inl ⟨vs, q, t.length.symm⟩, SatW.here hs hw rpi⟩
  · exact hs.elim⟩
theorem cd_sum (hc : X.calm = true) : CallD X (.builtin "sum") bSum := ⟨_, cr_sum hc, fun w xs ds W σ Q hw r hs => by
  unfold bSum at hs
  split at hs
  · rename_i x
    obtain ⟨v, rfl, rv⟩ := one_inv r
    split at hs
    · rename_i ns h
      obtain ⟨a, rfl, q⟩ := ints_of hw rv h
      exact ⟨a, ns, rfl, q, SatW.here hs hw rpi⟩
    · exact hs.elim
  · exact hs.elim⟩
theorem cd_max (hc : X.calm = true) : CallD X (.builtin "max") bMax := ⟨_, (call_max2 hc).or (cr_max hc), fun w xs ds W σ Q hw r hs => by
  unfold bMax at hs
  split at hs
  · rename_i i j
    obtain ⟨v, u, rfl, rv, ru⟩ := two_inv r
    cases rp_int rv
    cases rp_int ru
    exact .inl ⟨i, j, rfl, SatW.here hs hw rpi⟩
  · rename_i x
    obtain ⟨v, rfl, rv⟩ := one_inv r
    split at hs
    · rename_i n ns h
      obtain ⟨a, rfl, q⟩ := ints_of hw rv h
      refine .inr ⟨a, n :: ns, rfl, q, by simp, fun m h1 h2 => ?_⟩
      have e : m = maxL (n :: ns) := Int.le_antisymm (maxL_ge h1) (h2 _ (maxL_mem (by simp)))
      rw [e]
      exact SatW.here hs hw rpi
    · exact hs.elim
  · exact hs.elim⟩
theorem cd_min (hc : X.calm = true) : CallD X (.builtin "min") bMin := ⟨_, (call_min2 hc).or (cr_min hc), fun w xs ds W σ Q hw r hs => by
  unfold bMin at hs
  split at hs
  · rename_i i j
    obtain ⟨v, u, rfl, rv, ru⟩ := two_inv r
    cases rp_int rv
    cases rp_int ru
    exact .inl ⟨i, j, rfl, SatW.here hs hw rpi⟩
  · rename_i x
    obtain ⟨v, rfl, rv⟩ := one_inv r
    split at hs
    · rename_i n ns h
      obtain ⟨a, rfl, q⟩ := ints_of hw rv h
      refine .inr ⟨a, n :: ns, rfl, q, by simp, fun m h1 h2 => ?_⟩
      have e : m = minL (n :: ns) := Int.le_antisymm (h2 _ (minL_mem (by simp))) (minL_le h1)
      rw [e]
      exact SatW.here hs hw rpi
    · exact hs.elim
  · exact hs.elim⟩
theorem cd_int : CallD X (.type "int") bInt := ⟨_, call_int1, fun w xs ds W σ Q hw r hs => by
  unfold bInt at hs
  split at hs
  · rename_i i
    obtain ⟨v, rfl, rv⟩ := one_inv r
    cases rp_int rv
    exact .inl ⟨i, rfl, SatW.here hs hw rpi⟩
  · rename_i b
    obtain ⟨v, rfl, rv⟩ := one_inv r
    cases rp_bl rv
    exact .inr ⟨b, rfl, SatW.here hs hw rpi⟩
  · exact hs.elim⟩
theorem cd_list {mk : List D → M D} (m : Mk mk) : CallD X (.type "list") (bList mk) := ⟨_, call_list_of, fun w xs ds W σ Q hw r hs => by
  unfold bList at hs
  split at hs
  · rename_i l
    obtain ⟨v, rfl, rv⟩ := one_inv r
    obtain ⟨a, vs, rfl, q, t⟩ := getT_ok hw rv rfl
    exact ⟨a, vs, rfl, .inr (.inl q), m.go hw t hs⟩
  · rename_i x _
    obtain ⟨v, rfl, rv⟩ := one_inv r
    cases q : getQ x w.S with
    | none => rw [q] at hs; exact hs.elim
    | some l =>
      rw [q] at hs
      obtain ⟨a, vs, rfl, q, t⟩ := getQ_ok hw rv q
      exact ⟨a, vs, rfl, .inl q, m.go hw t hs⟩
  · exact hs.elim⟩
theorem cd_tuple : CallD X (.type "tuple") bTuple := ⟨_, call_tuple_of, fun w xs ds W σ Q hw r hs => by
  unfold bTuple at hs
  split at hs
  · rename_i l
    obtain ⟨v, rfl, rv⟩ := one_inv r
    obtain ⟨a, vs, rfl, q, t⟩ := getT_ok hw rv rfl
    exact ⟨a, vs, rfl, .inr ⟨.inl q, SatW.here hs hw rv⟩⟩
  · rename_i x _
    obtain ⟨v, rfl, rv⟩ := one_inv r
    cases q : getQ x w.S with
    | none => rw [q] at hs; exact hs.elim
    | some l =>
      rw [q] at hs
      obtain ⟨a, vs, rfl, q, t⟩ := getQ_ok hw rv q
      exact ⟨a, vs, rfl, .inl ⟨q, tup_go hw t hs⟩⟩
  · exact hs.elim⟩

/-! ### isinstance, of built-in classes -/
inductive Ty where | int | bool | list | tuple | str | dict
  deriving DecidableEq
def Ty.name : Ty → String
  | .int => "int" | .bool => "bool" | .list => "list" | .tuple => "tuple" | .str => "str" | .dict => "dict"
def tyOf (d : D) (S : Store) : Option String := match d with
  | .non => some "NoneType"
  | .bl _ => some "bool"
  | .int _ => some "int"
  | .str _ => some "str"
  | .tup _ => some "tuple"
  | .lst _ => some "list"
  | .scr _ => some "list"
  | .cell n => match S[n]? with
    | some (.lst _) => some "list"
    | some (.dct _) => some "dict"
    | _ => none
  | .raw _ => none
  | .cls _ => none
  | .exn _ _ => none
def isTy (ty : Ty) (t : String) : Bool := t == ty.name || (ty == .int && t == "bool")
end
end
end Dv
/-! # Dv6: isinstance, slices, stores, methods of lists, freezing -/
namespace Dv
noncomputable section
open PySem PySem.Spec PyProof.Rows L2

/-! ### a built-in's name as a value -/
section
variable {X : Cx} {W : WX} {pos : Pos}
theorem pd_ty {x : Str} {n : String} (hm : X.mg x = none) (hv : bootBuiltins x = some (.type n)) (hg : Gl X x := by rfl) (hn : x ≠ "__name__" := by decide) (hd : (x == ("__debug__" : Str)) = false := by decide) : PD X W (.Name x pos) (xC (.raw (.ty n))) :=
  pd_c (v := V.ty n) (pe_bltn (v := V.ty n) hg hm hv rfl hn hd) (fun _ _ _ q => q) fun _ _ _ => by unfold Rp; rfl
/-- a module's number or text -/
theorem pd_gint {x : Str} {i : Int} {t : Tok} (hm : X.mg x = some (.int i t)) (hg : Gl X x := by rfl) (hd : (x == ("__debug__" : Str)) = false := by decide) : PD X W (.Name x pos) (xC (.int i)) :=
  pd_c (v := V.int i) (pe_glob (v := V.int i) hg hm ⟨_, rfl⟩ hd) (fun _ _ _ q => q) fun _ _ _ => rpi
theorem pd_gstr {x : Str} {i : Str} {t : Tok} (hm : X.mg x = some (.str i t)) (hg : Gl X x := by rfl) (hd : (x == ("__debug__" : Str)) = false := by decide) : PD X W (.Name x pos) (xC (.str i)) :=
  pd_c (v := V.str i) (pe_glob (v := V.str i) hg hm ⟨_, rfl⟩ hd) (fun _ _ _ q => q) fun _ _ _ => rps
theorem pd_gref {x : Str} {C : Addr} (hm : X.mg x = some (.ref C)) (hg : Gl X x := by rfl) (hd : (x == ("__debug__" : Str)) = false := by decide) : PD X W (.Name x pos) (xC (.raw (.ref C))) :=
  pd_c (v := V.ref C) (pe_glob (v := V.ref C) hg hm rfl hd) (fun _ _ _ q => q) fun _ _ _ => by unfold Rp; rfl
end
def bIsi (l : List D) (S : Store) : Res D := match l with
  | [d, .raw (.ty n)] => match tyOf d S with
    | some t => match kitB t n with
      | some b => .ok (.bl b) S
      | none => .bad
    | none => .bad
  | _ => .bad
theorem tyx {K : PySem.W.Frag} {w : Wl} {d : D} {v : V} {t : String} (hw : Wd K w) (r : Rp K w.r w.F d v) (h : tyOf d w.S = some t) : TyX K w.H v (.type t) := by
  have lst : ∀ {a : Addr} {vs : List V}, w.H a = some (.lst vs) → TyX K w.H (.ref a) (.type "list") := fun {a vs} q => .base (.lst q)
  cases d with
  | non => cases h; cases rp_non r; exact .base .non
  | bl b => cases h; cases rp_bl r; exact .base (.bl b)
  | int b => cases h; cases rp_int r; exact .base (.int b)
  | str b => cases h; cases rp_str r; exact .base (.str b)
  | tup l =>
    cases h
    obtain ⟨a, vs, rfl, q, p⟩ := getT_ok hw r rfl
    rcases q with q | ⟨o, q⟩
    · exact .base (.tup q)
    · exact .fTuple q
  | lst l =>
    cases h
    obtain ⟨a, vs, rfl, q, p⟩ := getL_ok hw r rfl
    exact lst q
  | scr l =>
    cases h
    obtain ⟨a, vs, rfl, q, p⟩ := getQ_ok hw r rfl
    rcases q with (q | ⟨o, q⟩) | ⟨o, its, n, h1, h2, _⟩
    · exact lst q
    · exact .base (.frz q)
    · exact .kList h1 h2
  | cell n =>
    unfold tyOf at h
    cases e : w.S[n]? with
    | none => simp only [e] at h; cases h
    | some c =>
      cases c with
      | lst l =>
        simp only [e] at h
        cases h
        obtain ⟨a, vs, rfl, q, p⟩ := getL_ok (l := l) hw r (by simp only [getL, e])
        exact lst q
      | dct l =>
        simp only [e] at h
        cases h
        unfold Rp at r
        obtain ⟨a, e1, rfl⟩ := r
        obtain ⟨_, vs, e2, p⟩ := hw.cell n a _ e1 e
        exact .base (.dK e2)
      | dead => simp only [e] at h; cases h
  | raw _ => cases h
  | cls _ => cases h
  | exn _ _ => cases h
section
variable {X : Cx}
theorem cd_isi : CallD X (.builtin "isinstance") bIsi := ⟨_, call_isi, fun w xs ds W σ Q hw r hs => by
  unfold bIsi at hs
  split at hs
  · rename_i d n
    obtain ⟨v, u, rfl, rv, ru⟩ := two_inv r
    cases rp_raw ru
    split at hs
    · rename_i t ht
      split at hs
      · rename_i b hb
        exact ⟨v, .ty n, .type t, .type n, b, rfl, .ty n, tyx hw rv ht, kit_ty hb, SatW.here hs hw rpb⟩
      · exact hs.elim
    · exact hs.elim
  · exact hs.elim⟩
end
@[simp] theorem kb_ii : kitB "int" "int" = some true := by decide +kernel
@[simp] theorem kb_bi : kitB "bool" "int" = some true := by decide +kernel
@[simp] theorem kb_si : kitB "str" "int" = some false := by decide +kernel
@[simp] theorem kb_ni : kitB "NoneType" "int" = some false := by decide +kernel
@[simp] theorem kb_li : kitB "list" "int" = some false := by decide +kernel
@[simp] theorem kb_ti : kitB "tuple" "int" = some false := by decide +kernel
@[simp] theorem kb_di : kitB "dict" "int" = some false := by decide +kernel
@[simp] theorem kb_ib : kitB "int" "bool" = some false := by decide +kernel
@[simp] theorem kb_bb : kitB "bool" "bool" = some true := by decide +kernel
@[simp] theorem kb_sb : kitB "str" "bool" = some false := by decide +kernel
@[simp] theorem kb_nb : kitB "NoneType" "bool" = some false := by decide +kernel
@[simp] theorem kb_lb : kitB "list" "bool" = some false := by decide +kernel
@[simp] theorem kb_tb : kitB "tuple" "bool" = some false := by decide +kernel
@[simp] theorem kb_db : kitB "dict" "bool" = some false := by decide +kernel
@[simp] theorem kb_il : kitB "int" "list" = some false := by decide +kernel
@[simp] theorem kb_bl : kitB "bool" "list" = some false := by decide +kernel
@[simp] theorem kb_sl : kitB "str" "list" = some false := by decide +kernel
@[simp] theorem kb_nl : kitB "NoneType" "list" = some false := by decide +kernel
@[simp] theorem kb_ll : kitB "list" "list" = some true := by decide +kernel
@[simp] theorem kb_tl : kitB "tuple" "list" = some false := by decide +kernel
@[simp] theorem kb_dl : kitB "dict" "list" = some false := by decide +kernel
@[simp] theorem kb_it : kitB "int" "tuple" = some false := by decide +kernel
@[simp] theorem kb_bt : kitB "bool" "tuple" = some false := by decide +kernel
@[simp] theorem kb_st : kitB "str" "tuple" = some false := by decide +kernel
@[simp] theorem kb_nt : kitB "NoneType" "tuple" = some false := by decide +kernel
@[simp] theorem kb_lt : kitB "list" "tuple" = some false := by decide +kernel
@[simp] theorem kb_tt : kitB "tuple" "tuple" = some true := by decide +kernel
@[simp] theorem kb_dt : kitB "dict" "tuple" = some false := by decide +kernel

/-! ### slices -/
abbrev RO : Wl → Option Int → Option Int → Prop := fun _ a b => a = b
def tDO (T : Kt) (W : WX) (f : Env → M (Option Int)) : TO := fun σ H Q => ∃ (w : Wl) (env : Env), w.H = H ∧ Wd T.K w ∧ EnvOk T.K w env σ ∧ SatW T W σ RO w (f env w.S) (fun w' _ v => Q v w'.H)
def POD (X : Cx) (W : WX) (e : Option Expr) (f : Env → M (Option Int)) : Prop := PO X e (tDO (kt X) W f)
def oNone : Env → M (Option Int) := fun _ S => .ok none S
def oSome (f : Env → M D) : Env → M (Option Int) := fun e S => (f e S).bind fun d S1 => match d with
  | .int i => .ok (some i) S1
  | _ => .bad
def slD (mk : List D → M D) (d : D) (lo hi : Option Int) (S : Store) : Res D := match d with
  | .str z => if z.length ≤ 16000000 then .ok (.str (cutS z lo hi)) S else .bad
  | .tup l => if ¬ (HT.sIx l.length 0 lo = 0 ∧ HT.sIx l.length l.length hi = l.length) then .ok (.tup ((l.drop (HT.sIx l.length 0 lo)).take (HT.sIx l.length l.length hi - HT.sIx l.length 0 lo))) S else .bad
  | d => match getQ d S with
    | some l => mk ((l.drop (HT.sIx l.length 0 lo)).take (HT.sIx l.length l.length hi - HT.sIx l.length 0 lo)) S
    | none => .bad
def xSl (mk : List D → M D) (f : Env → M D) (lo hi : Env → M (Option Int)) : Env → M D := fun e S => (f e S).bind fun d S1 => (lo e S1).bind fun a S2 => (hi e S2).bind fun b S3 => slD mk d a b S3
section
variable {X : Cx} {W : WX} {e : Expr} {lo hi : Option Expr} {f : Env → M D} {fl fh : Env → M (Option Int)} {pos p2 : Pos} {mk : List D → M D}
theorem weakO {e : Option Expr} {t t' : TO} (h : PO X e t) (q : ∀ σ H Q, t' σ H Q → t σ H Q) : PO X e t' := ⟨fun pins s σ H Q I z => h.run pins s σ H Q I (q _ _ _ z)⟩
theorem pod_none : POD X W none oNone := by
  refine weakO po_none fun σ H Q ⟨w, env, eH, hw, he, hs⟩ => ?_
  subst eH
  exact SatW.here (d := (none : Option Int)) (v := (none : Option Int)) hs hw rfl
theorem pod_some (h : PD X W e f) : POD X W (some e) (oSome f) := by
  refine weakO (po_some h) fun σ H Q ⟨w, env, eH, hw, he, hs⟩ => ?_
  subst eH
  refine ⟨w, env, rfl, hw, he, SatW.imp (SatW.bind hs) fun w1 d v g1 r1 s1 => ?_⟩
  cases d with
  | int i => exact ⟨i, rp_int r1, SatW.here (d := some i) (v := some i) s1 g1.wd rfl⟩
  | _ => exact s1.elim
theorem pd_slice (m : Mk mk) (he : PD X W e f) (hl : POD X W lo fl) (hu : POD X W hi fh) : PD X W (.Subscript e (.Slice lo hi none p2) pos) (xSl mk f fl fh) := by
  refine weakE (pe_slice (sl_list.or (sl_tup.or sl_str)) he hl hu) fun σ H Q ⟨w, env, eH, hw, he, hs⟩ => ?_
  subst eH
  refine ⟨w, env, rfl, hw, he, SatW.imp (SatW.bind hs) fun w1 d v g1 r1 s1 => ?_⟩
  refine ⟨w1, env, rfl, g1.wd, he.go g1, SatW.imp (SatW.bind s1) fun w2 a a' g2 ea s2 => ?_⟩
  have ea' : a = a' := ea
  subst ea'
  refine ⟨w2, env, rfl, g2.wd, (he.go g1).go g2, SatW.imp (SatW.bind s2) fun w3 b b' g3 eb s3 => ?_⟩
  have eb' : b = b' := eb
  subst eb'
  have r3 : Rp X.K w3.r w3.F d v := Rp.go (g2.trans g3) r1
  have s3' : SatW (kt X) W σ (RD X.K) w3 (slD mk d a b w3.S) (fun w' _ v => Q v w'.H) := s3
  unfold slD at s3'
  split at s3'
  · rename_i z
    obtain ⟨hl, s4⟩ := satIf s3'
    exact .inr (.inr ⟨z, rp_str r3, line16 hl, SatW.here s4 g3.wd rps⟩)
  · rename_i l
    obtain ⟨hl, s4⟩ := satIf s3'
    obtain ⟨p, vs, rfl, q, t⟩ := getT_ok g3.wd r3 rfl
    refine .inr (.inl ⟨p, vs, rfl, .inl q, by rw [t.length]; exact hl, tup_go g3.wd ?_ s4⟩)
    unfold cutV
    rw [t.length]
    exact (t.drop _).take _
  · split at s3'
    · rename_i l hl
      obtain ⟨p, vs, rfl, q, t⟩ := getQ_ok g3.wd r3 hl
      refine .inl ⟨p, vs, rfl, q, m.go g3.wd ?_ s3'⟩
      unfold cutV
      rw [t.length]
      exact (t.drop _).take _
    · exact s3'.elim
end

/-! ### freezing -/
def frz (d : D) (S : Store) : Res D := match d with
  | .cell n => match S[n]? with
    | some (.lst l) => .ok (.lst l) (S.set n .dead)
    | _ => .bad
  | d => .ok d S
def xFrz (f : Env → M D) : Env → M D := fun e S => (f e S).bind frz
def frzE (i : Nat) : Env → Store → Out := fun e S => match e[i]? with
  | some (some d) => (frz d S).out e fun d' S' => .nx (e.set i (some d')) S'
  | _ => .bad
theorem frz_sat {T : Kt} {W : WX} {σ : L2.St} {w : Wl} {d : D} {v : V} {P : Wl → D → V → Prop} (hw : Wd T.K w) (r : Rp T.K w.r w.F d v) (h : SatW T W σ (RD T.K) w (frz d w.S) P) : ∃ w' d', w'.H = w.H ∧ P w' d' v ∧ Go T.K w w' ∧ Rp T.K w'.r w'.F d' v ∧ frz d w.S = .ok d' w'.S := by
  cases d with
  | cell n =>
    unfold frz at h ⊢
    cases e : w.S[n]? with
    | none => simp only [e] at h; exact h.elim
    | some c =>
      cases c with
      | lst l =>
        simp only [e] at h ⊢
        unfold Rp at r
        obtain ⟨a, e1, rfl⟩ := r
        obtain ⟨hf, vs, e2, p⟩ := hw.cell n a _ e1 e
        have g := Go.freeze hw e e1 e2
        have r' : Rp T.K w.r (upd w.F a (.lst vs)) (.lst l) (.ref a) := by
          unfold Rp
          exact ⟨a, vs, rfl, upd_same, Rps.mono ⟨[], by simp⟩ g.F _ _ p⟩
        exact ⟨⟨w.r, upd w.F a (.lst vs), w.S.set n .dead, w.H⟩, .lst l, rfl, h _ _ g rfl r', g, r', rfl⟩
      | dct _ => simp only [e] at h; exact h.elim
      | dead => simp only [e] at h; exact h.elim
  | non => exact ⟨w, _, rfl, SatW.here h hw r, Go.refl hw, r, rfl⟩
  | bl _ => exact ⟨w, _, rfl, SatW.here h hw r, Go.refl hw, r, rfl⟩
  | int _ => exact ⟨w, _, rfl, SatW.here h hw r, Go.refl hw, r, rfl⟩
  | str _ => exact ⟨w, _, rfl, SatW.here h hw r, Go.refl hw, r, rfl⟩
  | tup _ => exact ⟨w, _, rfl, SatW.here h hw r, Go.refl hw, r, rfl⟩
  | lst _ => exact ⟨w, _, rfl, SatW.here h hw r, Go.refl hw, r, rfl⟩
  | scr _ => exact ⟨w, _, rfl, SatW.here h hw r, Go.refl hw, r, rfl⟩
  | raw _ => exact ⟨w, _, rfl, SatW.here h hw r, Go.refl hw, r, rfl⟩
  | cls _ => exact ⟨w, _, rfl, SatW.here h hw r, Go.refl hw, r, rfl⟩
  | exn _ _ => exact ⟨w, _, rfl, SatW.here h hw r, Go.refl hw, r, rfl⟩
section
variable {X : Cx} {W : WX} {e : Expr} {f : Env → M D} {s : Stmt} {g : Env → Store → Out}
theorem pd_frz (h : PD X W e f) : PD X W e (xFrz f) := by
  refine weakE h fun σ H Q ⟨w, env, eH, hw, he, hs⟩ => ?_
  refine ⟨w, env, eH, hw, he, SatW.imp (SatW.bind hs) fun w1 d v g1 r1 s1 => ?_⟩
  obtain ⟨w', d', e1, q, _⟩ := frz_sat g1.wd r1 s1
  rw [e1] at q
  exact q
theorem psd_frz {i : Nat} (h : PSD X W s g) : PSD X W s (ySeq g (frzE i)) := by
  refine weakS h fun D σ H ⟨w, env, eH, hw, he, hs⟩ => ⟨w, env, eH, hw, he, ?_⟩
  have hs' : SatS (kt X) W w ((g env w.S).seq (frzE i)) D := hs
  cases o : g env w.S with
  | nx e' S' =>
    rw [o] at hs'
    intro w1 σ1 g1 eS he1
    subst eS
    have hs1 := hs'.pre g1
    rw [Out.seq_nx] at hs1
    unfold frzE at hs1
    cases q : e'[i]? with
    | none => rw [q] at hs1; exact hs1.elim
    | some oo =>
      cases oo with
      | none => rw [q] at hs1; exact hs1.elim
      | some d =>
        rw [q] at hs1
        obtain ⟨v, ev, rv⟩ := he1.2 i d q
        have hs2 := SatS.out (R := RD X.K) (β := V) hs1 he1
        obtain ⟨w2, d2, e2, q2, g2, r2, f2⟩ := frz_sat (T := kt X) g1.wd rv hs2
        have hs3 : SatS (kt X) W w1 (.nx (e'.set i (some d2)) w2.S) D := by
          have hs1' : SatS (kt X) W w1 ((frz d w1.S).out e' fun d' S' => .nx (e'.set i (some d')) S') D := hs1
          rw [f2] at hs1'
          exact hs1'
        have fin := hs3 w2 (σ1.set i (some v)) g2 rfl ((he1.go g2).set r2)
        have es : σ1.set i (some v) = σ1 := by
          apply List.ext_getElem?
          intro k
          rw [List.getElem?_set]
          by_cases hk : i = k
          · subst hk
            rw [if_pos rfl, ev, if_pos (List.getElem?_eq_some_iff.mp ev).1]
          · rw [if_neg hk]
        rw [es, e2] at fin
        exact fin
  | rt d S => rw [o] at hs'; exact hs'
  | bk e S => rw [o] at hs'; exact hs'
  | ct e S => rw [o] at hs'; exact hs'
  | exc x e S => rw [o] at hs'; exact hs'
  | bad => rw [o] at hs'; exact hs'
end

/-! ### o[i] = v -/
def SetD (X : Cx) (g : D → D → D → M Unit) : Prop :=
  ∃ rr : TSet, PSet X rr ∧ ∀ (w : Wl) (x i v : V) (dx di dv : D) (W : WX) (σ : L2.St) (Q : Hp → Prop), Wd X.K w → RD X.K w dx x → RD X.K w di i → RD X.K w dv v → SatW (kt X) W σ (fun _ (_ : Unit) (_ : Unit) => True) w (g dx di dv w.S) (fun w' _ _ => Q w'.H) → rr x i v w.H Q
def setL (x i v : D) (S : Store) : Res Unit := match x, i with
  | .cell n, .int k => match S[n]? with
    | some (.lst l) => match ixN l.length k with
      | some j => .ok () (S.set n (.lst (l.set j v)))
      | none => .bad
    | _ => .bad
  | _, _ => .bad
/-- a list's cell is written -/
theorem cell_write {T : Kt} {w : Wl} {n : Nat} {l l' : List D} {v : V} (hw : Wd T.K w) (r : Rp T.K w.r w.F (.cell n) v) (e : w.S[n]? = some (.lst l)) : ∃ a vs, v = .ref a ∧ w.H a = some (.lst vs) ∧ Rps T.K w.r w.F l vs ∧
    ∀ vs', Rps T.K w.r w.F l' vs' → Go T.K w ⟨w.r, w.F, w.S.set n (.lst l'), upd w.H a (.lst vs')⟩ := by
  unfold Rp at r
  obtain ⟨a, e1, rfl⟩ := r
  obtain ⟨hf, vs, e2, p⟩ := hw.cell n a _ e1 e
  exact ⟨a, vs, rfl, e2, p, fun vs' h => Go.write (c := .lst l') hw e (by simp) e1 (by exact ⟨hf, vs', upd_same, h⟩)⟩
def ySub (f o i : Env → M D) (g : D → D → D → M Unit) : Env → Store → Out := fun e S => (f e S).out e fun v S1 => (o e S1).out e fun x S2 => (i e S2).out e fun k S3 => (g x k v S3).out e fun _ S4 => .nx e S4
section
variable {X : Cx} {W : WX} {e o i : Expr} {f fo fi : Env → M D} {g : D → D → D → M Unit} {pos tpos : Pos}
theorem sd_list : SetD X setL := ⟨_, set_list, fun w x i v dx di dv W σ Q hw r1 r2 r3 hs => by
  unfold setL at hs
  split at hs
  · rename_i n k
    cases en : w.S[n]? with
    | none => simp only [en] at hs; exact hs.elim
    | some c =>
      cases c with
      | lst l =>
        simp only [en] at hs
        cases ej : ixN l.length k with
        | none => simp only [ej] at hs; exact hs.elim
        | some j =>
          simp only [ej] at hs
          obtain ⟨a, vs, rfl, ha, p, go⟩ := cell_write (T := kt X) (l' := l.set j dv) hw r1 en
          exact ⟨a, vs, k, j, rfl, rp_int r2, ha, by rw [p.length]; exact ej, hs _ () (go _ (p.set j r3)) rfl trivial⟩
      | dct _ => simp only [en] at hs; exact hs.elim
      | dead => simp only [en] at hs; exact hs.elim
  · exact hs.elim⟩
theorem psd_sub (sd : SetD X g) (hv : PD X W e f) (ho : PD X W o fo) (hi : PD X W i fi) (hs : swapsWithSole [.Subscript o i tpos] e pos.line X.env = pure false := by rfl) (hw : swappedStores [.Subscript o i tpos] e X.env = pure none := by rfl)
    (h1 : (assignEach [.Subscript o i tpos] X.env).map (·.2) = [assign (.Subscript o i tpos) X.env] := by rfl)
    (ha : ∀ v, assign (.Subscript o i tpos) X.env v = (do
      let ov ← holding [v] (eval o X.env)
      let iv ← holding [v, ov] (eval i X.env)
      standAt tpos
      holding [v, ov, iv] (setItem ov iv v)
      release [v, ov, iv] []) := by intro _; rfl) : PSD X W (.Assign [.Subscript o i tpos] e pos) (ySub f fo fi g) := by
  obtain ⟨rr, ro, hr⟩ := sd
  refine weakS (ps_asg hv (pg_sub ho hi ro ha) hs hw h1) fun D σ H ⟨w, env, eH, hw, he, hs⟩ => ?_
  subst eH
  refine ⟨w, env, rfl, hw, he, SatW.imp (SatS.out hs he) fun w1 d v g1 r1 s1 => ?_⟩
  refine ⟨w1, env, rfl, g1.wd, he.go g1, SatW.imp (SatS.out s1 (he.go g1)) fun w2 d2 v2 g2 r2 s2 => ?_⟩
  refine ⟨w2, env, rfl, g2.wd, (he.go g1).go g2, SatW.imp (SatS.out s2 ((he.go g1).go g2)) fun w3 d3 v3 g3 r3 s3 => ?_⟩
  refine hr w3 v2 v3 v d2 d3 d W σ _ g3.wd (Rp.go g3 r2) r3 (Rp.go (g2.trans g3) r1) (SatW.imp (SatS.out s3 (((he.go g1).go g2).go g3)) fun w4 _ _ g4 _ s4 => ?_)
  exact s4 w4 σ (Go.refl g4.wd) rfl ((((he.go g1).go g2).go g3).go g4)
theorem pget_list : PGet X (fun x y H Q => ∃ p xs i v, x = .ref p ∧ y = .int i ∧ SqL X.K H p xs ∧ 0 ≤ i ∧ atI xs i = some v ∧ Q v H) := by
  intro pins s σ H x y v u Q I rx ry h
  obtain ⟨p, xs, i, z, rfl, rfl, hq, h0, he, q⟩ := h
  cases rx
  obtain ⟨t, rfl⟩ := ry
  obtain ⟨its, r, pl, hz⟩ := I.list hq
  obtain ⟨j, h1, h2, h3, h4, h5⟩ := atI_get he
  obtain ⟨w, ew, rw'⟩ := r.get h2
  have hl := r.length
  have hn := line63
  have hj : i.toNat = j := by
    rw [seqIndex_of h0 h5] at h1
    exact Option.some.inj h1
  exact wpAny_getItem_list pl.isList h0 (by omega) (by rw [hj]; simpa using ew) ⟨z, H, I, rw', q⟩
def yAugSub (o i f : Env → M D) (gi : D → D → M D) : Env → Store → Out := fun e S => (o e S).out e fun x S1 => (i e S1).out e fun k S2 => match k with
  | .int kk => match getL x S2 with
    | some l => if 0 ≤ kk then match atI l kk with
        | some old => (f e S2).out e fun y S4 => (gi old y S4).out e fun z S5 => (setL x (.int kk) z S5).out e fun _ S6 => .nx e S6
        | none => .bad
      else .bad
    | none => .bad
  | _ => .bad
theorem psd_augsub {op : Operator} {gi : D → D → M D} (io : IpD X op gi) (ho : PD X W o fo) (hi : PD X W i fi) (hv : PD X W e f)
    (ha : ∀ ov iv new, augStore i ov iv new = (do holding [new, ov, iv] (setItem ov iv new); release [new, ov, iv] []; pure .next) := by intros; rfl) : PSD X W (.AugAssign (.Subscript o i tpos) op e pos) (yAugSub fo fi f gi) := by
  obtain ⟨rr, ro, hr⟩ := io
  obtain ⟨rs, rso, hrs⟩ := (sd_list (X := X))
  refine weakS (ps_augS ho hi pget_list hv ro rso ha) fun D σ H ⟨w, env, eH, hw, he, hs⟩ => ?_
  subst eH
  refine ⟨w, env, rfl, hw, he, SatW.imp (SatS.out hs he) fun w1 d v g1 r1 s1 => ?_⟩
  refine ⟨w1, env, rfl, g1.wd, he.go g1, SatW.imp (SatS.out s1 (he.go g1)) fun w2 d2 v2 g2 r2 s2 => ?_⟩
  have he2 := (he.go g1).go g2
  cases d2 with
  | int kk =>
    cases hl : getL d w2.S with
    | none => simp only [hl] at s2; exact s2.elim
    | some l =>
      simp only [hl] at s2
      by_cases h0 : 0 ≤ kk
      · rw [if_pos h0] at s2
        cases q : L2.atI l kk with
        | none => simp only [q] at s2; exact s2.elim
        | some old =>
          simp only [q] at s2
          have rd : Rp X.K w2.r w2.F d v := Rp.go g2 r1
          obtain ⟨a, vs, rfl, hq, t⟩ := getL_ok g2.wd rd hl
          obtain ⟨vz, evz, rz⟩ := t.atI q
          refine ⟨a, vs, kk, vz, rfl, rp_int r2, .inl (.inl hq), h0, evz, ?_⟩
          refine ⟨w2, env, rfl, g2.wd, he2, SatW.imp (SatS.out s2 he2) fun w4 d4 v4 g4 r4 s4 => ?_⟩
          refine hr w4 vz v4 old d4 W σ _ g4.wd (Rp.go g4 rz) r4 (SatW.imp (SatS.out s4 (he2.go g4)) fun w5 d5 v5 g5 r5 s5 => ?_)
          refine hrs w5 (.ref a) v2 v5 d (.int kk) d5 W σ _ g5.wd (Rp.go (g4.trans g5) rd) (Rp.go (g4.trans g5) r2) r5 (SatW.imp (SatS.out s5 ((he2.go g4).go g5)) fun w6 _ _ g6 _ s6 => ?_)
          exact s6 w6 σ (Go.refl g6.wd) rfl (((he2.go g4).go g5).go g6)
      · rw [if_neg h0] at s2
        exact s2.elim
  | _ => exact s2.elim
def ipAdd : D → D → M D := iOp always fun i j => .int (i + j)
def ipSub : D → D → M D := iOp always fun i j => .int (i - j)
@[simp] theorem ipAdd_ok {i j : Int} {S : Store} : ipAdd (.int i) (.int j) S = .ok (.int (i + j)) S := rfl
@[simp] theorem ipSub_ok {i j : Int} {S : Store} : ipSub (.int i) (.int j) S = .ok (.int (i - j)) S := rfl
theorem id_add : IpD X .Add ipAdd := ⟨_, ip_add, fun w x y d e W σ Q hw r1 r2 hs => by
  obtain ⟨i, j, h1, h2, _, q⟩ := iOp_sat (gv := fun i j => V.int (i + j)) (fun _ _ _ _ _ => rpi) hw r1 r2 hs
  exact ⟨i, j, h1, h2, q⟩⟩
theorem id_sub : IpD X .Sub ipSub := ⟨_, ip_sub, fun w x y d e W σ Q hw r1 r2 hs => by
  obtain ⟨i, j, h1, h2, _, q⟩ := iOp_sat (gv := fun i j => V.int (i - j)) (fun _ _ _ _ _ => rpi) hw r1 r2 hs
  exact ⟨i, j, h1, h2, q⟩⟩
end

/-! ### methods -/
def isT (T : String) (d : D) (S : Store) : Bool := match d with
  | .str _ => T == "str"
  | .lst _ => T == "list"
  | .cell n => match S[n]? with
    | some (.lst _) => T == "list"
    | some (.dct _) => T == "dict"
    | _ => false
  | _ => false
theorem tyV_of {K : PySem.W.Frag} {w : Wl} {d : D} {v : V} {T : String} (hw : Wd K w) (r : Rp K w.r w.F d v) (h : isT T d w.S = true) : tyV K T v w.H := by
  cases d with
  | str x => cases rp_str r; exact eq_of_beq h
  | lst l =>
    obtain ⟨a, vs, rfl, q, t⟩ := getL_ok hw r rfl
    exact .inl ⟨eq_of_beq h, vs, .inl (.inl q)⟩
  | cell n =>
    unfold isT at h
    cases e : w.S[n]? with
    | none => simp only [e] at h; cases h
    | some c =>
      cases c with
      | lst l =>
        simp only [e] at h
        obtain ⟨a, vs, rfl, q, t⟩ := getL_ok (l := l) hw r (by simp only [getL, e])
        exact .inl ⟨eq_of_beq h, vs, .inl (.inl q)⟩
      | dct l =>
        simp only [e] at h
        unfold Rp at r
        obtain ⟨a, e1, rfl⟩ := r
        obtain ⟨_, vs, e2, p⟩ := hw.cell n a _ e1 e
        exact .inr (.inr (.inl ⟨eq_of_beq h, .inl ⟨vs, e2⟩⟩))
      | dead => simp only [e] at h; cases h
  | non => cases h
  | bl _ => cases h
  | int _ => cases h
  | tup _ => cases h
  | scr _ => cases h
  | raw _ => cases h
  | cls _ => cases h
  | exn _ _ => cases h
def MtD (X : Cx) (id : String) (g : D → List D → M D) : Prop :=
  ∃ rr : V → List V → Hp → VK → Prop, MtR X id rr ∧ ∀ (w : Wl) (x : V) (xs : List V) (d : D) (ds : List D) (W : WX) (σ : L2.St) (Q : VK), Wd X.K w → RD X.K w d x → RDs X.K w ds xs → SatW (kt X) W σ (RD X.K) w (g d ds w.S) (fun w' _ v => Q v w'.H) → rr x xs w.H Q
def xMt (T : String) (g : D → List D → M D) (o : Env → M D) (a : Env → M (List D)) : Env → M D := fun e S => (o e S).bind fun x S1 => if isT T x S1 = true then (a e S1).bind fun l S2 => g x l S2 else .bad
section
variable {X : Cx} {W : WX} {o e : Expr} {es : List Expr} {fo : Env → M D} {h : Env → M (List D)} {name : Str} {apos cpos : Pos} {T id : String} {g : D → List D → M D}
theorem pd_bm0 (pa : PlainAttrs T) (slot : Slot T name id) (hty : typeOf (.builtin id) = pure (.type "method_descriptor")) (hm : MtD X id g) (ho : PD X W o fo)
    (hbase : attributeBase o name X.env (eval o X.env) = eval o X.env := by rfl) (hline : (apos.endLine == cpos.line) = true := by rfl) : PD X W (.Call (.Attribute o name apos) [] [] cpos) (xMt T g fo xNil) := by
  obtain ⟨rr, ro, hr⟩ := hm
  refine weakE (pe_bm0 pa slot hty ro ho hbase hline) fun σ H Q ⟨w, env, eH, hw, he, hs⟩ => ?_
  subst eH
  refine ⟨w, env, rfl, hw, he, SatW.imp (SatW.bind hs) fun w1 d v g1 r1 s1 => ?_⟩
  obtain ⟨ht, s1⟩ := satIf s1
  exact ⟨tyV_of g1.wd r1 ht, hr w1 v [] d [] W σ Q g1.wd r1 rps_nil s1⟩
theorem pd_bm (pa : PlainAttrs T) (slot : Slot T name id) (hty : typeOf (.builtin id) = pure (.type "method_descriptor")) (hm : MtD X id g) (ho : PD X W o fo) (ha : PAD X W (e :: es) h)
    (hbase : attributeBase o name X.env (eval o X.env) = eval o X.env := by rfl)
    (hfew : ((backTo cpos (starEach (e :: es) X.env)).all (fun x => !x.1) && (backToKw cpos (keywordEach [] X.env)).all (fun x => x.1.isSome)
      && decide ((e :: es).length + ([] : List Keyword).length + (if ([] : List Keyword).isEmpty then 0 else 1) < 30)) = true := by rfl)
    (hline : (apos.endLine == cpos.line) = true := by rfl) (hs : starEach (e :: es) X.env = (false, eval e X.env) :: starEach es X.env := by rfl) (hplain : (backTo cpos (starEach es X.env)).any (·.1) = false := by rfl) :
    PD X W (.Call (.Attribute o name apos) (e :: es) [] cpos) (xMt T g fo h) := by
  obtain ⟨rr, ro, hr⟩ := hm
  refine weakE (pe_bm pa slot hty ro ho ha hbase hfew hline hs hplain) fun σ H Q ⟨w, env, eH, hw, he, hs⟩ => ?_
  subst eH
  refine ⟨w, env, rfl, hw, he, SatW.imp (SatW.bind hs) fun w1 d v g1 r1 s1 => ?_⟩
  obtain ⟨ht, s1⟩ := satIf s1
  refine ⟨tyV_of g1.wd r1 ht, w1, env, rfl, g1.wd, he.go g1, SatW.imp (SatW.bind s1) fun w2 d2 v2 g2 r2 s2 => ?_⟩
  exact hr w2 v v2 d d2 W σ Q g2.wd (Rp.go g2 r1) r2 s2
end
/-- the list in a cell -/
def cellL (d : D) (S : Store) : Option (Nat × List D) := match d with
  | .cell n => match S[n]? with
    | some (.lst l) => some (n, l)
    | _ => none
  | _ => none
def mAppend (x : D) (a : List D) (S : Store) : Res D := match a, cellL x S with
  | [y], some (n, l) => if l.length < 16000000 then .ok .non (S.set n (.lst (l ++ [y]))) else .bad
  | _, _ => .bad
def mClear (x : D) (a : List D) (S : Store) : Res D := match a, cellL x S with
  | [], some (n, _) => .ok .non (S.set n (.lst []))
  | _, _ => .bad
def mExtend (x : D) (a : List D) (S : Store) : Res D := match a, cellL x S with
  | [.lst z], some (n, l) => if l.length + z.length ≤ 16000000 then .ok .non (S.set n (.lst (l ++ z))) else .bad
  | _, _ => .bad
theorem cellL_eq {d : D} {S : Store} {n : Nat} {l : List D} (h : cellL d S = some (n, l)) : d = .cell n ∧ S[n]? = some (.lst l) := by
  unfold cellL at h
  split at h
  · split at h
    · rename_i k l' e
      cases h
      exact ⟨rfl, e⟩
    · cases h
  · cases h
section
variable {X : Cx}
theorem md_append : MtD X "list.append" mAppend := ⟨_, mt_append, fun w x xs d ds W σ Q hw r1 r2 hs => by
  unfold mAppend at hs
  split at hs
  · rename_i y n l hc
    obtain ⟨rfl, en⟩ := cellL_eq hc
    obtain ⟨hl, hs⟩ := satIf hs
    obtain ⟨v, rfl, rv⟩ := one_inv r2
    obtain ⟨a, vs, rfl, ha, p, go⟩ := cell_write (T := kt X) (l' := l ++ [y]) hw r1 en
    refine ⟨a, vs, v, rfl, rfl, ha, by rw [p.length]; exact Nat.lt_of_lt_of_le hl (line16 (Nat.le_refl _)), ?_⟩
    exact hs _ V.non (go _ (p.append (rps_cons rv rps_nil))) rfl rpn
  · exact hs.elim⟩
theorem md_clear : MtD X "list.clear" mClear := ⟨_, mt_clear, fun w x xs d ds W σ Q hw r1 r2 hs => by
  unfold mClear at hs
  split at hs
  · rename_i n l hc
    obtain ⟨rfl, en⟩ := cellL_eq hc
    obtain ⟨a, vs, rfl, ha, p, go⟩ := cell_write (T := kt X) (l' := []) hw r1 en
    have e0 := r2.nil_inv
    exact ⟨a, vs, rfl, e0, ha, hs _ V.non (go _ rps_nil) rfl rpn⟩
  · exact hs.elim⟩
end
end
end Dv
/-! # Dv7: a comprehension given to a name; the end of a law -/
namespace Dv
open PySem PySem.Spec PyProof.Rows L2
section
variable {X : Cx} {W : WX} {elt tg iter : Expr} {ifs : List Expr} {scope : Scope} {own : List (Str × Nat)} {pos spos py : Pos} {mk : List D → M D} {src : Env → M Src} {gV : TG} {gE : D → Env → Option Env} {c : Env → M Bool} {f : Env → M D} {i : Nat} {y : Str}
theorem set_read {t : TE} (ht : ∀ σ H Q, tD (kt X) W f σ H Q → t σ H Q) {D : Ends} {σ : L2.St} {H : Hp} (h : sD (kt X) W (ySet i f) D σ H) : tAsg t (gName i) D σ H := by
  obtain ⟨w, env, eH, hw, he, hs⟩ := h
  refine ht σ H (fun x H1 => gName i x σ H1 D.nx) ⟨w, env, eH, hw, he, SatW.imp (SatS.out hs he) fun w1 d v g1 r1 s1 => ?_⟩
  exact s1 w1 _ (Go.refl g1.wd) rfl ((he.go g1).set r1)
theorem psd_setLc (m : Mk mk) (tgd : TgD (kt X) (own.map (·.2)) gV gE) (hc : X.calm = true) (hN : X.N.Nodup) (hsw : swapsWith (.ListComp elt [⟨tg, iter, [], 0⟩] scope pos) (some (.Name y py)) spos.line X.env = pure true) (hi : PID X W tg iter src) (ok : BlkOk X.N X.env.scope scope own)
    (hg : ∀ (s : Shared) (H : Hp) (C : Addr) (cl : List (Str × Addr)) (fp : List Addr), PG (X.blk s H scope (compEnvC scope cl C X.env) fp) tg gV)
    (he : ∀ (s : Shared) (H : Hp) (C : Addr) (cl : List (Str × Addr)) (fp : List Addr), PD (X.blk s H scope (compEnvC scope cl C X.env) fp) W0 elt f) (hy : X.N[i]? = some y := by rfl) (hyl : X.env.scope.names.lookup y = some .local := by rfl) (hs : ∀ x, foldedSetIterable iter X.env x = pure x := by intro _; rfl) :
    PSD X W (.Assign [.Name y py] (.ListComp elt [⟨tg, iter, [], 0⟩] scope pos) spos) (ySet i (xLc mk src gE cYes f (own.map (·.2)))) :=
  weakS (ps_setLc (i := i) (te := tD (kt X) W0 f) hc hN hy hyl hsw hi ok hg (fun _ _ _ _ _ => pts_nil) (fun s H C cl fp => show PE _ elt (tD (kt X) W0 f) from he s H C cl fp) hs) fun D σ H => set_read fun σ H Q => lc_read m tgd fun σ H Q ⟨w, env, eH, hw, he, hs⟩ => by
    subst eH
    exact SatW.here (d := true) (v := true) hs hw rfl
theorem psd_setLcIf {t : Expr} (m : Mk mk) (tgd : TgD (kt X) (own.map (·.2)) gV gE) (hc : X.calm = true) (hN : X.N.Nodup) (hsw : swapsWith (.ListComp elt [⟨tg, iter, [t], 0⟩] scope pos) (some (.Name y py)) spos.line X.env = pure true) (hi : PID X W tg iter src) (ok : BlkOk X.N X.env.scope scope own)
    (hg : ∀ (s : Shared) (H : Hp) (C : Addr) (cl : List (Str × Addr)) (fp : List Addr), PG (X.blk s H scope (compEnvC scope cl C X.env) fp) tg gV)
    (ht : ∀ (s : Shared) (H : Hp) (C : Addr) (cl : List (Str × Addr)) (fp : List Addr), PTD (X.blk s H scope (compEnvC scope cl C X.env) fp) W0 t c)
    (he : ∀ (s : Shared) (H : Hp) (C : Addr) (cl : List (Str × Addr)) (fp : List Addr), PD (X.blk s H scope (compEnvC scope cl C X.env) fp) W0 elt f) (hy : X.N[i]? = some y := by rfl) (hyl : X.env.scope.names.lookup y = some .local := by rfl) (hs : ∀ x, foldedSetIterable iter X.env x = pure x := by intro _; rfl) :
    PSD X W (.Assign [.Name y py] (.ListComp elt [⟨tg, iter, [t], 0⟩] scope pos) spos) (ySet i (xLc mk src gE c f (own.map (·.2)))) :=
  weakS (ps_setLc (i := i) (te := tD (kt X) W0 f) (tt := tDB (kt X) W0 c) hc hN hy hyl hsw hi ok hg (fun s H C cl fp => pts_one (show PT _ t (tDB (kt X) W0 c) from ht s H C cl fp)) (fun s H C cl fp => show PE _ elt (tD (kt X) W0 f) from he s H C cl fp) hs) fun D σ H => set_read fun σ H Q => lc_read m tgd fun σ H Q h => h
end

/-! ### the law's end -/
theorem rps_scr {K : PySem.W.Frag} {r : List Addr} {F : Hp} : ∀ ns : List Int, Rps K r F (ns.map D.int) (ns.map V.int) := rps_ints
/-- the bits of the script's numbers -/
def Bits (ns : List Int) : Prop := ∀ z ∈ ns, Builtin.Int.intBits z ≤ 1048576
def spLaw (K : PySem.W.Frag) : Sp := fun vs H Q _ => ∃ (a : Addr) (ns : List Int), vs = [.ref a] ∧ SqL K H a (ns.map V.int) ∧ ns.length ≤ 63 ∧ Bits ns ∧ ∀ H', Q (.bl true) H'
def LawTrue (f : List D → M D) : Prop := ∀ ns : List Int, ns.length ≤ 63 → Bits ns → ∃ S', f [.scr (ns.map D.int)] [] = .ok (.bl true) S'
theorem law_imp {K : PySem.W.Frag} {mg : Str → Option Value} {f : List D → M D} (ht : LawTrue f) (vs : List V) (H : Hp) (Q : VK) (E : XK) (h : spLaw K vs H Q E) : spD ⟨K, mg⟩ f vs H Q E := by
  obtain ⟨a, ns, rfl, hS, hl, hb, q⟩ := h
  obtain ⟨S', hf⟩ := ht ns hl hb
  refine ⟨⟨[], H, [], H⟩, [.scr (ns.map D.int)], rfl, ⟨rfl, Same.refl _, fun n a c e _ => by simp at e, fun n m a e => by simp at e⟩, rps_cons ?_ rps_nil, ?_⟩
  · unfold Rp
    exact ⟨a, _, rfl, hS, rps_ints ns⟩
  · show SatW ⟨K, mg⟩ _ [] (RD K) _ (f [.scr (ns.map D.int)] []) _
    rw [hf]
    intro w' v g e r
    have ev := rp_bl r
    subst ev
    exact q _
theorem law_sp (K : PySem.W.Frag) (H : Hp) (a : Addr) (ns : List Int) (hl : ns.length ≤ 63) (hb : ∀ z ∈ ns, Builtin.Int.intBits z ≤ 1048576) (hS : SqL K H a (ns.map V.int)) : spLaw K [.ref a] H (fun v _ => v = .bl true) fun _ _ _ => False := ⟨a, ns, rfl, hS, hl, hb, fun _ => rfl⟩
theorem cx_end {P : Program} {w : World} {H : Hp} {s : Shared} {e : Value} {s' : Shared} (h : L2.CX P w [] H s (fun _ _ _ => False) e s') : False := by
  obtain ⟨_, _, _, _, _, _, _, _, _, _, _, _, z⟩ := h
  exact z.elim
end Dv
/-! # Dv8: reckoning with mirrors -/
namespace Dv
open PySem PySem.Spec PyProof.Rows L2

def En0 {α : Type} (x : Res α) (P : α → Store → Prop) : Prop := match x with
  | .ok a S => P a S
  | _ => False
structure Pst where
  nx : Env → Store → Prop := fun _ _ => False
  rt : D → Store → Prop := fun _ _ => False
  bk : Env → Store → Prop := fun _ _ => False
  ct : Env → Store → Prop := fun _ _ => False
def EnO0 (o : Out) (Q : Pst) : Prop := match o with
  | .nx e S => Q.nx e S
  | .rt d S => Q.rt d S
  | .bk e S => Q.bk e S
  | .ct e S => Q.ct e S
  | _ => False
section
variable {α β : Type} {x : Res α} {a : α} {S : Store} {P : α → Store → Prop} {Q : Pst} {e : Env} {d : D}
@[simp] theorem en0_ok : En0 (.ok a S) P = P a S := rfl
@[simp] theorem en0_bad : En0 (.bad : Res α) P = False := rfl
@[simp] theorem en0_exc {y : Exn} : En0 (.exc y S : Res α) P = False := rfl
@[simp] theorem en0_bind {k : α → Store → Res β} {P : β → Store → Prop} : En0 (x.bind k) P = En0 x (fun a S => En0 (k a S) P) := by cases x <;> rfl
theorem En0.imp {P' : α → Store → Prop} (h : En0 x P) (q : ∀ a S, P a S → P' a S) : En0 x P' := by
  cases x with
  | ok a S => exact q a S h
  | _ => exact h
theorem en0_eq {v : α} : En0 x (fun a S' => a = v ∧ S' = S) ↔ x = .ok v S := by
  cases x with
  | ok a S' => exact ⟨fun h => by rw [h.1, h.2], fun h => by cases h; exact ⟨rfl, rfl⟩⟩
  | exc y S' => exact ⟨fun h => h.elim, fun h => by cases h⟩
  | bad => exact ⟨fun h => h.elim, fun h => by cases h⟩
theorem En0.get (h : En0 x P) : ∃ a S, x = .ok a S ∧ P a S := by
  cases x with
  | ok a S => exact ⟨a, S, rfl, h⟩
  | exc y S' => exact h.elim
  | bad => exact h.elim
@[simp] theorem en0_if {c : Prop} [Decidable c] : En0 (if c then x else .bad) P = (c ∧ En0 x P) := by
  by_cases h : c
  · rw [if_pos h]; simp [h]
  · rw [if_neg h]; simp [h]
@[simp] theorem en0_if' {c : Prop} [Decidable c] : En0 (if c then .bad else x) P = (¬ c ∧ En0 x P) := by
  by_cases h : c
  · rw [if_pos h]; simp [h]
  · rw [if_neg h]; simp [h]
theorem en0_ite {c : Prop} [Decidable c] {y : Res α} (h1 : c → En0 x P) (h2 : ¬ c → En0 y P) : En0 (if c then x else y) P := by
  by_cases h : c
  · rw [if_pos h]; exact h1 h
  · rw [if_neg h]; exact h2 h
@[simp] theorem eno0_nx : EnO0 (.nx e S) Q = Q.nx e S := rfl
@[simp] theorem eno0_rt : EnO0 (.rt d S) Q = Q.rt d S := rfl
@[simp] theorem eno0_bk : EnO0 (.bk e S) Q = Q.bk e S := rfl
@[simp] theorem eno0_ct : EnO0 (.ct e S) Q = Q.ct e S := rfl
@[simp] theorem eno0_bad : EnO0 .bad Q = False := rfl
@[simp] theorem eno0_out {k : α → Store → Out} : EnO0 (x.out e k) Q = En0 x (fun a S => EnO0 (k a S) Q) := by cases x <;> rfl
@[simp] theorem eno0_seq {o : Out} {k : Env → Store → Out} : EnO0 (o.seq k) Q = EnO0 o { Q with nx := fun e S => EnO0 (k e S) Q } := by cases o <;> rfl
theorem EnO0.imp {o : Out} {Q' : Pst} (h : EnO0 o Q) (h1 : ∀ e S, Q.nx e S → Q'.nx e S) (h2 : ∀ e S, Q.rt e S → Q'.rt e S) (h3 : ∀ e S, Q.bk e S → Q'.bk e S) (h4 : ∀ e S, Q.ct e S → Q'.ct e S) : EnO0 o Q' := by
  cases o with
  | nx e S => exact h1 _ _ h
  | rt e S => exact h2 _ _ h
  | bk e S => exact h3 _ _ h
  | ct e S => exact h4 _ _ h
  | exc x e S => exact h
  | bad => exact h
theorem eno0_ite {c : Prop} [Decidable c] {o p : Out} (h1 : c → EnO0 o Q) (h2 : ¬ c → EnO0 p Q) : EnO0 (if c then o else p) Q := by
  by_cases h : c
  · rw [if_pos h]; exact h1 h
  · rw [if_neg h]; exact h2 h
end
/-! ### the combinators, laid open -/
section
variable {oo : Option D} {ll : Env} {S : Store} {d : D} {f g : Env → M D} {h : Env → M (List D)} {k k' : Env → M Bool} {y y' : Env → Store → Out}
@[simp] theorem xVar_app {i : Nat} : xVar i (oo :: ll) S = match (oo :: ll)[i]? with | some (some d) => .ok d S | _ => .bad := rfl
@[simp] theorem xC_app : xC d (oo :: ll) S = .ok d S := rfl
@[simp] theorem xOp_app {o : D → D → M D} : xOp o f g (oo :: ll) S = (f (oo :: ll) S).bind fun x S1 => (g (oo :: ll) S1).bind fun y S2 => o x y S2 := rfl
@[simp] theorem xUn_app {o : D → M D} : xUn o f (oo :: ll) S = (f (oo :: ll) S).bind fun x S1 => o x S1 := rfl
@[simp] theorem xNil_app : xNil (oo :: ll) S = .ok [] S := rfl
@[simp] theorem xCons_app : xCons f h (oo :: ll) S = (f (oo :: ll) S).bind fun x S1 => (h (oo :: ll) S1).bind fun y S2 => .ok (x :: y) S2 := rfl
@[simp] theorem xFn_app {o : List D → M D} : xFn o h (oo :: ll) S = (h (oo :: ll) S).bind fun x S1 => o x S1 := rfl
@[simp] theorem xTup_app : xTup h (oo :: ll) S = (h (oo :: ll) S).bind fun l S1 => if l.length ≤ 1000 then .ok (.tup l) S1 else .bad := rfl
@[simp] theorem xLst_app {mk : List D → M D} : xLst mk h (oo :: ll) S = (h (oo :: ll) S).bind fun l S1 => if l.length ≤ 1000 then mk l S1 else .bad := rfl
@[simp] theorem mkF_app {l : List D} : mkF l S = .ok (.lst l) S := rfl
@[simp] theorem mkC_app {l : List D} : mkC l S = .ok (.cell S.length) (S ++ [.lst l]) := rfl
@[simp] theorem xTru_app : xTru f (oo :: ll) S = (f (oo :: ll) S).bind tru := rfl
@[simp] theorem xIsT_app : xIsT f (oo :: ll) S = (f (oo :: ll) S).bind fun d S1 => match d with | .bl b => .ok b S1 | _ => .bad := rfl
@[simp] theorem xNot_app : xNot k (oo :: ll) S = (k (oo :: ll) S).bind fun b S1 => .ok (!b) S1 := rfl
@[simp] theorem xAnd_app : xAnd k k' (oo :: ll) S = (k (oo :: ll) S).bind fun b S1 => if b then k' (oo :: ll) S1 else .ok false S1 := rfl
@[simp] theorem xOr_app : xOr k k' (oo :: ll) S = (k (oo :: ll) S).bind fun b S1 => if b then .ok true S1 else k' (oo :: ll) S1 := rfl
@[simp] theorem xAndV_app : xAndV f g (oo :: ll) S = (f (oo :: ll) S).bind fun d S1 => match d with | .bl true => g (oo :: ll) S1 | .bl false => .ok (.bl false) S1 | _ => .bad := rfl
@[simp] theorem xOrV_app : xOrV f g (oo :: ll) S = (f (oo :: ll) S).bind fun d S1 => match d with | .bl true => .ok (.bl true) S1 | .bl false => g (oo :: ll) S1 | _ => .bad := rfl
@[simp] theorem xNotV_app : xNotV f (oo :: ll) S = (f (oo :: ll) S).bind fun d S1 => match d with | .bl b => .ok (.bl (!b)) S1 | _ => .bad := rfl
@[simp] theorem xIf_app : xIf k f g (oo :: ll) S = (k (oo :: ll) S).bind fun b S1 => if b then f (oo :: ll) S1 else g (oo :: ll) S1 := rfl
@[simp] theorem xFrz_app : xFrz f (oo :: ll) S = (f (oo :: ll) S).bind frz := rfl
@[simp] theorem yNil_app : yNil (oo :: ll) S = .nx (oo :: ll) S := rfl
@[simp] theorem ySeq_app : ySeq y y' (oo :: ll) S = (y (oo :: ll) S).seq y' := rfl
@[simp] theorem yBreak_app : yBreak (oo :: ll) S = .bk (oo :: ll) S := rfl
@[simp] theorem yCont_app : yCont (oo :: ll) S = .ct (oo :: ll) S := rfl
@[simp] theorem yExpr_app : yExpr f (oo :: ll) S = (f (oo :: ll) S).out (oo :: ll) fun _ S1 => .nx (oo :: ll) S1 := rfl
@[simp] theorem yRet_app : yRet f (oo :: ll) S = (f (oo :: ll) S).out (oo :: ll) fun d S1 => .rt d S1 := rfl
@[simp] theorem yRetN_app : yRetN (oo :: ll) S = .rt .non S := rfl
@[simp] theorem yIf_app : yIf k y y' (oo :: ll) S = (k (oo :: ll) S).out (oo :: ll) fun b S1 => if b then y (oo :: ll) S1 else y' (oo :: ll) S1 := rfl
@[simp] theorem ySet_app {i : Nat} : ySet i f (oo :: ll) S = (f (oo :: ll) S).out (oo :: ll) fun d S1 => .nx ((oo :: ll).set i (some d)) S1 := rfl
@[simp] theorem yAsg_app {q : D → Env → Store → Out} : yAsg f q (oo :: ll) S = (f (oo :: ll) S).out (oo :: ll) fun d S1 => q d (oo :: ll) S1 := rfl
@[simp] theorem yPar_app {i j : Nat} : yPar i j h (oo :: ll) S = (h (oo :: ll) S).out (oo :: ll) fun l S1 => match l with | [a, b] => .nx (((oo :: ll).set i (some a)).set j (some b)) S1 | _ => .bad := rfl
@[simp] theorem yFor_app {s : Env → M Src} {q : D → Env → Store → Out} : yFor s q y (oo :: ll) S = (s (oo :: ll) S).out (oo :: ll) fun s S1 => forL s.chk q y s.items (oo :: ll) S1 := rfl
@[simp] theorem iSrc_app {q : D → Store → Res Src} : iSrc q f (oo :: ll) S = (f (oo :: ll) S).bind q := rfl
@[simp] theorem iSrcA_app {q : List D → Store → Res Src} : iSrcA q h (oo :: ll) S = (h (oo :: ll) S).bind q := rfl
@[simp] theorem srcL_lst {l : List D} : srcL (.lst l) S = .ok ⟨l, fun _ => True⟩ S := rfl
@[simp] theorem srcL_scr {l : List D} : srcL (.scr l) S = .ok ⟨l, fun _ => True⟩ S := rfl
@[simp] theorem srcT_tup {l : List D} : srcT (.tup l) S = .ok ⟨l, fun _ => True⟩ S := rfl
theorem srcR1_app {j : Int} : srcR1 [.int j] S = if rng62 j then .ok ⟨irange 0 j.toNat, fun _ => True⟩ S else .bad := rfl
theorem srcR2_app {i j : Int} : srcR2 [.int i, .int j] S = if rng62 i ∧ rng62 j then .ok ⟨irange i (j - i).toNat, fun _ => True⟩ S else .bad := rfl
@[simp] theorem gN_app {i : Nat} : gN i d (oo :: ll) S = .nx ((oo :: ll).set i (some d)) S := rfl
@[simp] theorem gT_app {n : Nat} {l : List D} {q : List D → Env → Store → Out} : gT n q (.tup l) (oo :: ll) S = if l.length = n then q l (oo :: ll) S else .bad := rfl
@[simp] theorem gsNil_app : gsNil [] (oo :: ll) S = .nx (oo :: ll) S := rfl
@[simp] theorem gsCons_app {l : List D} {q : D → Env → Store → Out} {q' : List D → Env → Store → Out} : gsCons q q' (d :: l) (oo :: ll) S = (q d (oo :: ll) S).seq (q' l) := rfl
@[simp] theorem xLc_app {mk : List D → M D} {s : Env → M Src} {q : D → Env → Option Env} {vs : List Nat} : xLc mk s q k f vs (oo :: ll) S = (s (oo :: ll) S).bind fun s S1 => (lcL s.chk q k f (wipeE (oo :: ll) vs) s.items [] S1).bind fun l S2 => mk l S2 := rfl
@[simp] theorem eN_app {i : Nat} : eN i d (oo :: ll) = some ((oo :: ll).set i (some d)) := rfl
@[simp] theorem eT2_app {i j : Nat} {a b : D} : eT2 i j (.tup [a, b]) (oo :: ll) = some (((oo :: ll).set i (some a)).set j (some b)) := rfl
@[simp] theorem eT3_app {i j m : Nat} {a b c : D} : eT3 i j m (.tup [a, b, c]) (oo :: ll) = some ((((oo :: ll).set i (some a)).set j (some b)).set m (some c)) := rfl
@[simp] theorem cYes_app : cYes (oo :: ll) S = .ok true S := rfl
@[simp] theorem wipeE_nil : wipeE (oo :: ll) [] = (oo :: ll) := rfl
@[simp] theorem wipeE_cons {v : Nat} {vs : List Nat} : wipeE (oo :: ll) (v :: vs) = (wipeE (oo :: ll) vs).set v none := rfl
@[simp] theorem yAug_app {i : Nat} {q : D → D → M D} : yAug i f q (oo :: ll) S = match (oo :: ll)[i]? with | some (some x) => (f (oo :: ll) S).out (oo :: ll) fun y S1 => (q x y S1).out (oo :: ll) fun z S2 => .nx ((oo :: ll).set i (some z)) S2 | _ => .bad := rfl
@[simp] theorem ySub_app {o i : Env → M D} {q : D → D → D → M Unit} : ySub f o i q (oo :: ll) S = (f (oo :: ll) S).out (oo :: ll) fun v S1 => (o (oo :: ll) S1).out (oo :: ll) fun x S2 => (i (oo :: ll) S2).out (oo :: ll) fun k S3 => (q x k v S3).out (oo :: ll) fun _ S4 => .nx (oo :: ll) S4 := rfl
@[simp] theorem xMt_app {T : String} {q : D → List D → M D} : xMt T q f h (oo :: ll) S = (f (oo :: ll) S).bind fun x S1 => if isT T x S1 = true then (h (oo :: ll) S1).bind fun l S2 => q x l S2 else .bad := rfl
@[simp] theorem xSl_app {mk : List D → M D} {lo hi : Env → M (Option Int)} : xSl mk f lo hi (oo :: ll) S = (f (oo :: ll) S).bind fun d S1 => (lo (oo :: ll) S1).bind fun a S2 => (hi (oo :: ll) S2).bind fun b S3 => slD mk d a b S3 := rfl
@[simp] theorem oNone_app : oNone (oo :: ll) S = .ok none S := rfl
@[simp] theorem oSome_app : oSome f (oo :: ll) S = (f (oo :: ll) S).bind fun d S1 => match d with | .int i => .ok (some i) S1 | _ => .bad := rfl
@[simp] theorem bLen_lst {l : List D} : bLen [.lst l] S = .ok (.int l.length) S := rfl
@[simp] theorem bLen_scr {l : List D} : bLen [.scr l] S = .ok (.int l.length) S := rfl
@[simp] theorem bLen_tup {l : List D} : bLen [.tup l] S = .ok (.int l.length) S := rfl
@[simp] theorem bAbs_app {i : Int} : bAbs [.int i] S = .ok (.int (if i < 0 then -i else i)) S := rfl
@[simp] theorem bMin_two {i j : Int} : bMin [.int i, .int j] S = .ok (.int (if j < i then j else i)) S := rfl
@[simp] theorem bMax_two {i j : Int} : bMax [.int i, .int j] S = .ok (.int (if j > i then j else i)) S := rfl
@[simp] theorem bInt_int {i : Int} : bInt [.int i] S = .ok (.int i) S := rfl
@[simp] theorem bInt_bl {b : Bool} : bInt [.bl b] S = .ok (.int (if b then 1 else 0)) S := rfl
@[simp] theorem dIx_scr {l : List D} {i : Int} : dIx (.scr l) (.int i) S = match L2.atI l i with | some d => .ok d S | none => .bad := rfl
@[simp] theorem tru_bl {b : Bool} : tru (.bl b) S = .ok b S := rfl
@[simp] theorem bIsi_int {i : Int} : bIsi [.int i, .raw (.ty "int")] S = .ok (.bl true) S := by simp [bIsi, tyOf]
@[simp] theorem bIsi_intb {i : Int} : bIsi [.int i, .raw (.ty "bool")] S = .ok (.bl false) S := by simp [bIsi, tyOf]
@[simp] theorem bIsi_tup {l : List D} : bIsi [.tup l, .raw (.ty "tuple")] S = .ok (.bl true) S := by simp [bIsi, tyOf]
@[simp] theorem bIsi_lst {l : List D} : bIsi [.lst l, .raw (.ty "list")] S = .ok (.bl true) S := by simp [bIsi, tyOf]
end
theorem sat_of {c : Prop} (h : c) : c = True := eq_true h

/-! ### a def -/
theorem en0_fn {np ns : Nat} {keep : Bool} {body : Env → Store → Out} {ds : List D} {S : Store} {P : D → Store → Prop} (hl : ds.length = np)
    (h : EnO0 (body (ds.map some ++ List.replicate (ns - np) none) S) { nx := fun _ S' => En0 (fin keep S.length .non S') P, rt := fun d S' => En0 (fin keep S.length d S') P }) : En0 (fnD np ns keep body ds S) P := by
  unfold fnD
  rw [if_pos hl]
  cases o : body (ds.map some ++ List.replicate (ns - np) none) S with
  | nx e S' => rw [o] at h; exact h
  | rt e S' => rw [o] at h; exact h
  | bk e S' => rw [o] at h; exact h.elim
  | ct e S' => rw [o] at h; exact h.elim
  | exc x e S' => rw [o] at h; exact h.elim
  | bad => rw [o] at h; exact h.elim
@[simp] theorem fin_same {keep : Bool} {d : D} {S : Store} : fin keep S.length d S = .ok d S := by simp [fin]
@[simp] theorem fin_zero {keep : Bool} {d : D} : fin keep 0 d [] = .ok d [] := by simp [fin]
theorem fin_len {keep : Bool} {n : Nat} {d : D} {S : Store} (h : S.length = n) : fin keep n d S = .ok d S := by simp [fin, h]

/-! ### loops -/
theorem en0_for {g : D → Env → Store → Out} {b : Env → Store → Out} {items : List D} {e : Env} {S : Store} {Q : Pst} (I : Nat → Env → Store → Prop) (h0 : I 0 e S)
    (hs : ∀ (i : Nat) d e S, items[i]? = some d → I i e S → EnO0 (g d e S) { nx := fun e1 S1 => EnO0 (b e1 S1) { nx := I (i + 1), ct := I (i + 1), bk := Q.nx, rt := Q.rt } })
    (hd : ∀ e S, I items.length e S → Q.nx e S) : EnO0 (forL (fun _ => True) g b items e S) Q := by
  have go : ∀ (l : List D) (i : Nat) (e : Env) (S : Store), items.drop i = l → i ≤ items.length → I i e S → EnO0 (forL (fun _ => True) g b l e S) Q := by
    intro l
    induction l with
    | nil =>
      intro i e S hl hi h
      rw [forL, if_pos trivial]
      have e1 := drop_nil hl hi
      subst e1
      exact hd e S h
    | cons d l ih =>
      intro i e S hl hi h
      obtain ⟨h1, h2⟩ := drop_get hl
      have st := hs i d e S h1 h
      have hlt : i < items.length := (List.getElem?_eq_some_iff.mp h1).1
      rw [forL, if_pos trivial]
      cases o : g d e S with
      | nx e1 S1 =>
        rw [o] at st
        have st' : EnO0 (b e1 S1) { nx := I (i + 1), ct := I (i + 1), bk := Q.nx, rt := Q.rt } := st
        show EnO0 (match b e1 S1 with
          | .nx e' S' => forL (fun _ => True) g b l e' S'
          | .ct e' S' => forL (fun _ => True) g b l e' S'
          | .bk e' S' => .nx e' S'
          | o => o) Q
        cases ob : b e1 S1 with
        | nx e2 S2 => rw [ob] at st'; exact ih (i + 1) e2 S2 h2 hlt st'
        | ct e2 S2 => rw [ob] at st'; exact ih (i + 1) e2 S2 h2 hlt st'
        | bk e2 S2 => rw [ob] at st'; exact st'
        | rt d2 S2 => rw [ob] at st'; exact st'
        | exc x e2 S2 => rw [ob] at st'; exact st'.elim
        | bad => rw [ob] at st'; exact st'.elim
      | rt _ _ => rw [o] at st; exact st.elim
      | bk _ _ => rw [o] at st; exact st.elim
      | ct _ _ => rw [o] at st; exact st.elim
      | exc _ _ _ => rw [o] at st; exact st.elim
      | bad => rw [o] at st; exact st.elim
  exact go items 0 e S rfl (Nat.zero_le _) h0
theorem en0_while {c : Env → M Bool} {b : Env → Store → Out} {Q : Pst} (I : Env → Store → Prop) (m : Env → Store → Nat)
    (hs : ∀ e S, I e S → En0 (c e S) fun t S1 => (t = true → EnO0 (b e S1) { nx := fun e' S' => I e' S' ∧ m e' S' < m e S, ct := fun e' S' => I e' S' ∧ m e' S' < m e S, bk := Q.nx, rt := Q.rt }) ∧ (t = false → Q.nx e S1)) {e : Env} {S : Store} (h0 : I e S) : EnO0 (yWhile c b e S) Q := by
  have go : ∀ (n : Nat) (e : Env) (S : Store), m e S ≤ n → I e S → EnO0 (yWhile c b e S) Q := by
    intro n
    induction n with
    | zero =>
      intro e S hm h
      have st := hs e S h
      cases q : c e S with
      | ok t S1 =>
        rw [q] at st
        cases t with
        | false => rw [yWhile_stop q]; exact st.2 rfl
        | true =>
          rw [yWhile_go q]
          have s2 := st.1 rfl
          cases o : b e S1 with
          | nx e1 S2 => rw [o] at s2; have z : m e1 S2 < m e S := s2.2; omega
          | ct e1 S2 => rw [o] at s2; have z : m e1 S2 < m e S := s2.2; omega
          | bk e1 S2 => rw [o] at s2; exact s2
          | rt d S2 => rw [o] at s2; exact s2
          | exc x e1 S2 => rw [o] at s2; exact s2.elim
          | bad => rw [o] at s2; exact s2.elim
      | exc x S1 => rw [q] at st; exact st.elim
      | bad => rw [q] at st; exact st.elim
    | succ n ih =>
      intro e S hm h
      have st := hs e S h
      cases q : c e S with
      | ok t S1 =>
        rw [q] at st
        cases t with
        | false => rw [yWhile_stop q]; exact st.2 rfl
        | true =>
          rw [yWhile_go q]
          have s2 := st.1 rfl
          cases o : b e S1 with
          | nx e1 S2 => rw [o] at s2; exact ih e1 S2 (by have z : m e1 S2 < m e S := s2.2; omega) s2.1
          | ct e1 S2 => rw [o] at s2; exact ih e1 S2 (by have z : m e1 S2 < m e S := s2.2; omega) s2.1
          | bk e1 S2 => rw [o] at s2; exact s2
          | rt d S2 => rw [o] at s2; exact s2
          | exc x e1 S2 => rw [o] at s2; exact s2.elim
          | bad => rw [o] at s2; exact s2.elim
      | exc x S1 => rw [q] at st; exact st.elim
      | bad => rw [q] at st; exact st.elim
  exact go _ e S (Nat.le_refl _) h0
theorem en0_lc {g : D → Env → Option Env} {c : Env → M Bool} {f : Env → M D} {e0 : Env} {items : List D} {S : Store} {P : List D → Store → Prop} (I : Nat → List D → Store → Prop) (h0 : I 0 [] S)
    (hs : ∀ (i : Nat) d acc S, items[i]? = some d → I i acc S → ∃ e1, g d e0 = some e1 ∧ En0 (c e1 S) fun t S2 => (t = true → En0 (f e1 S2) fun y S3 => acc.length < 16000000 ∧ I (i + 1) (acc ++ [y]) S3) ∧ (t = false → I (i + 1) acc S2))
    (hd : ∀ l S, I items.length l S → P l S) : En0 (lcL (fun _ => True) g c f e0 items [] S) P := by
  have go : ∀ (l : List D) (i : Nat) (acc : List D) (S : Store), items.drop i = l → i ≤ items.length → I i acc S → En0 (lcL (fun _ => True) g c f e0 l acc S) P := by
    intro l
    induction l with
    | nil =>
      intro i acc S hl hi h
      rw [lcL, if_pos trivial]
      have e1 := drop_nil hl hi
      subst e1
      exact hd acc S h
    | cons d l ih =>
      intro i acc S hl hi h
      obtain ⟨h1, h2⟩ := drop_get hl
      have hlt : i < items.length := (List.getElem?_eq_some_iff.mp h1).1
      obtain ⟨e1, he1, st⟩ := hs i d acc S h1 h
      rw [lcL, if_pos trivial]
      simp only [he1]
      cases q : c e1 S with
      | ok t S2 =>
        rw [q] at st
        cases t with
        | false => exact ih (i + 1) acc S2 h2 hlt (st.2 rfl)
        | true =>
          have s2 := st.1 rfl
          simp only
          cases qf : f e1 S2 with
          | ok y S3 =>
            rw [qf] at s2
            have z : acc.length < 16000000 ∧ I (i + 1) (acc ++ [y]) S3 := s2
            simp only
            rw [if_pos z.1]
            exact ih (i + 1) _ S3 h2 hlt z.2
          | exc x S3 => rw [qf] at s2; exact s2.elim
          | bad => rw [qf] at s2; exact s2.elim
      | exc x S1 => rw [q] at st; exact st.elim
      | bad => rw [q] at st; exact st.elim
  exact go items 0 [] S rfl (Nat.zero_le _) h0

/-! ### sizes -/
theorem mulOk_bits {a b : Int} (h : Builtin.Int.intBits a + Builtin.Int.intBits b ≤ 134217728) : IntMulOk a b := by
  unfold IntMulOk
  intro z
  rw [Bool.and_eq_true] at z
  have z2 := z.2
  unfold Builtin.Int.intTooBig at z2
  have z3 := of_decide_eq_true z2
  have e : bitsLine = 134217728 := by decide
  rw [e] at z3
  omega
theorem bits_lt {a : Int} {n : Nat} (h : a.natAbs < 2 ^ n) : Builtin.Int.intBits a ≤ n := by
  unfold Builtin.Int.intBits
  split
  · exact Nat.zero_le _
  · rename_i hz
    have h0 : a.natAbs ≠ 0 := fun z => hz (by simpa using z)
    have := (Nat.log2_lt h0).mpr h
    omega
/-- below 2 ^ n in size -/
def Sz (n : Nat) (a : Int) : Prop := a.natAbs < 2 ^ n
theorem Sz.mulOk {a b : Int} {n m : Nat} (ha : Sz n a) (hb : Sz m b) (h : n + m ≤ 134217728) : IntMulOk a b := mulOk_bits (by have := bits_lt ha; have := bits_lt hb; omega)
theorem Sz.mul {a b : Int} {n m : Nat} (ha : Sz n a) (hb : Sz m b) : Sz (n + m) (a * b) := by
  unfold Sz at *
  rw [Int.natAbs_mul, Nat.pow_add]
  exact Nat.mul_lt_mul'' ha hb
theorem Sz.le {a : Int} {n m : Nat} (ha : Sz n a) (h : n ≤ m) : Sz m a := Nat.lt_of_lt_of_le ha (Nat.pow_le_pow_right (by decide) h)
theorem Sz.add {a b : Int} {n : Nat} (ha : Sz n a) (hb : Sz n b) : Sz (n + 1) (a + b) := by
  unfold Sz at *
  have : 2 ^ (n + 1) = 2 ^ n + 2 ^ n := by rw [Nat.pow_succ]; omega
  omega
theorem Sz.sub {a b : Int} {n : Nat} (ha : Sz n a) (hb : Sz n b) : Sz (n + 1) (a - b) := by
  unfold Sz at *
  have : 2 ^ (n + 1) = 2 ^ n + 2 ^ n := by rw [Nat.pow_succ]; omega
  omega
theorem Sz.neg {a : Int} {n : Nat} (ha : Sz n a) : Sz n (-a) := by
  unfold Sz at *
  omega
theorem Sz.of_le {a b : Int} {n : Nat} (hb : Sz n b) (h : a.natAbs ≤ b.natAbs) : Sz n a := Nat.lt_of_le_of_lt h hb
theorem Sz.log2 {a : Int} {n : Nat} (ha : Sz n a) (h0 : 0 < n) : a.natAbs.log2 < n := PySem.Flt.log2_lt_of h0 ha
theorem Sz.divOk {a b : Int} {n : Nat} (hb : Sz n b) (h : b ≠ 0) (hn : n ≤ 9000) : divOk a b := ⟨h, by
  have h1 : Sz (n + 1) b := hb.le (Nat.le_succ n)
  by_cases h0 : n = 0
  · subst h0
    have : b.natAbs < 1 := hb
    omega
  · have := hb.log2 (Nat.pos_of_ne_zero h0)
    omega⟩
theorem en0_seq {y y' : Env → Store → Out} {e : Env} {S : Store} {Q : Pst} (R : Env → Store → Prop) (h1 : EnO0 (y e S) { Q with nx := R }) (h2 : ∀ e S, R e S → EnO0 (y' e S) Q) : EnO0 (ySeq y y' e S) Q := by
  show EnO0 ((y e S).seq y') Q
  rw [eno0_seq]
  exact h1.imp (fun e S h => h2 e S h) (fun _ _ h => h) (fun _ _ h => h) (fun _ _ h => h)
theorem mulOkL {a b : Int} (h1 : -18446744073709551616 < a) (h2 : a < 18446744073709551616) : IntMulOk a b := .of_left (intBits_le_64 h1 h2)
theorem mulOkR {a b : Int} (h1 : -18446744073709551616 < b) (h2 : b < 18446744073709551616) : IntMulOk a b := .of_right (intBits_le_64 h1 h2)
theorem sz_of {a B : Int} {n : Nat} (h1 : -B < a) (h2 : a < B) (hB : B ≤ 2 ^ n) : Sz n a := by
  unfold Sz
  have : ((2 ^ n : Nat) : Int) = 2 ^ n := by simp
  omega
theorem divOk_lit {i j : Int} (h0 : 0 < j) (h1 : j < 1000000000000000000000000000000000000000000000000000000000000) : divOk i j := Sz.divOk (n := 200) (sz_of (B := 1000000000000000000000000000000000000000000000000000000000000) (by omega) h1 (by decide)) (by omega) (by decide)
theorem fdiv_pos {i j : Int} (h : 0 < j) : i.fdiv j = i / j := Int.fdiv_eq_ediv_of_nonneg i (Int.le_of_lt h)
theorem fmod_pos {i j : Int} (h : 0 < j) : i.fmod j = i % j := Int.fmod_eq_emod_of_nonneg i (Int.le_of_lt h)
theorem atI_map {α β : Type} (g : α → β) (l : List α) (i : Int) : L2.atI (l.map g) i = (L2.atI l i).map g := by
  unfold L2.atI
  rw [List.length_map]
  cases ixN l.length i with
  | none => rfl
  | some j => simp
theorem atI_in {α : Type} {l : List α} {i : Int} (h0 : 0 ≤ i) (h1 : i < l.length) : ∃ z, L2.atI l i = some z ∧ l[i.toNat]? = some z := by
  have hj : i.toNat < l.length := by omega
  refine ⟨l[i.toNat], ?_, List.getElem?_eq_getElem hj⟩
  have q := atI_nat (List.getElem?_eq_getElem hj)
  have e : ((i.toNat : Nat) : Int) = i := by omega
  rw [e] at q
  exact q
theorem atI_mem {α : Type} {l : List α} {i : Int} (h0 : 0 ≤ i) (h1 : i < l.length) : ∃ z ∈ l, L2.atI l i = some z := by
  obtain ⟨z, h, h2⟩ := atI_in h0 h1
  exact ⟨z, List.mem_of_getElem? h2, h⟩
@[simp] theorem atI_zero {α : Type} {a : α} {l : List α} : L2.atI (a :: l) 0 = some a := by
  have : (0 : Int) = ((0 : Nat) : Int) := rfl
  rw [this]
  exact atI_nat rfl
@[simp] theorem atI_one {α : Type} {a b : α} {l : List α} : L2.atI (a :: b :: l) 1 = some b := by
  have : (1 : Int) = ((1 : Nat) : Int) := rfl
  rw [this]
  exact atI_nat rfl
@[simp] theorem atI_two {α : Type} {a b c : α} {l : List α} : L2.atI (a :: b :: c :: l) 2 = some c := by
  have : (2 : Int) = ((2 : Nat) : Int) := rfl
  rw [this]
  exact atI_nat rfl
theorem irange_get {lo : Int} {n i : Nat} {d : D} (h : (irange lo n)[i]? = some d) : d = .int (lo + i) ∧ i < n := by
  unfold irange at h
  rw [List.getElem?_map] at h
  by_cases hi : i < n
  · rw [List.getElem?_range hi] at h
    exact ⟨(Option.some.inj h).symm, hi⟩
  · rw [List.getElem?_eq_none (by simpa using hi)] at h
    cases h
@[simp] theorem irange_length {lo : Int} {n : Nat} : (irange lo n).length = n := by simp [irange]
theorem rng62_of {i : Int} (h1 : -4611686018427387904 ≤ i) (h2 : i < 4611686018427387904) : rng62 i := ⟨by omega, by omega⟩
end Dv
/-! # Dv9: zip, enumerate, reversed; in; more methods; a list unpacked -/
namespace Dv
noncomputable section
open PySem PySem.Spec PyProof.Rows L2

/-! ### a list that stays while it is walked -/
def stL (d : D) (S : Store) : Option (List D × (Store → Prop)) := match d with
  | .lst l => some (l, fun _ => True)
  | .scr l => some (l, fun _ => True)
  | .cell n => match S[n]? with
    | some (.lst l) => some (l, fun S' => S'[n]? = some (.lst l))
    | _ => none
  | _ => none
theorem stL_ok {K : PySem.W.Frag} {w : Wl} {d : D} {v : V} {l : List D} {chk : Store → Prop} (hw : Wd K w) (hr : Rp K w.r w.F d v) (h : stL d w.S = some (l, chk)) :
    ∃ a, v = .ref a ∧ (∃ vs, SqL K w.H a vs ∧ Rps K w.r w.F l vs) ∧ ∀ w1, Go K w w1 → chk w1.S → ∃ vs, SqL K w1.H a vs ∧ Rps K w1.r w1.F l vs := by
  have gen : ∀ (d' : D), d' = d → (∀ w1, Go K w w1 → chk w1.S → getQ d' w1.S = some l) → getQ d' w.S = some l → ∃ a, v = .ref a ∧ (∃ vs, SqL K w.H a vs ∧ Rps K w.r w.F l vs) ∧ ∀ w1, Go K w w1 → chk w1.S → ∃ vs, SqL K w1.H a vs ∧ Rps K w1.r w1.F l vs := by
    intro d' e hq h0
    subst e
    obtain ⟨a, vs, rfl, q, p⟩ := getQ_ok hw hr h0
    refine ⟨a, rfl, ⟨vs, q, p⟩, fun w1 g hc => ?_⟩
    obtain ⟨a', vs', e', q', p'⟩ := getQ_ok g.wd (Rp.go g hr) (hq w1 g hc)
    cases e'
    exact ⟨vs', q', p'⟩
  cases d with
  | lst l' =>
    have e := Option.some.inj h
    cases e
    exact gen _ rfl (fun _ _ _ => rfl) rfl
  | scr l' =>
    have e := Option.some.inj h
    cases e
    exact gen _ rfl (fun _ _ _ => rfl) rfl
  | cell n =>
    unfold stL at h
    cases en : w.S[n]? with
    | none => simp only [en] at h; cases h
    | some c =>
      cases c with
      | lst l' =>
        simp only [en] at h
        have e := Option.some.inj h
        cases e
        refine gen _ rfl (fun w1 g hc => ?_) (by simp only [getQ, getL, en])
        have hc' : w1.S[n]? = some (.lst l) := hc
        simp only [getQ, getL, hc']
      | dct _ => simp only [en] at h; cases h
      | dead => simp only [en] at h; cases h
  | non => cases h
  | bl _ => cases h
  | int _ => cases h
  | str _ => cases h
  | tup _ => cases h
  | raw _ => cases h
  | cls _ => cases h
  | exn _ _ => cases h
def srcZip (l : List D) (S : Store) : Res Src := match l with
  | [a, b] => match stL a S, stL b S with
    | some (x, p), some (y, q) => .ok ⟨(x.zip y).map fun z => .tup [z.1, z.2], fun S' => p S' ∧ q S'⟩ S
    | _, _ => .bad
  | _ => .bad
def srcEnum (l : List D) (S : Store) : Res Src := match l with
  | [a] => match stL a S with
    | some (x, p) => .ok ⟨x.zipIdx.map fun z => .tup [.int z.2, z.1], p⟩ S
    | _ => .bad
  | _ => .bad
def srcRev (l : List D) (S : Store) : Res Src := match l with
  | [a] => match stL a S with
    | some (x, p) => .ok ⟨x.reverse, p⟩ S
    | _ => .bad
  | _ => .bad
section
variable {X : Cx} {W : WX} {e e2 : Expr} {elts : List Expr} {kk : Nat} {tpos pos p : Pos} {h : Env → M (List D)} {tg : Expr}
theorem pid_zip (hm : X.mg "zip" = none) (ha : PAD X W [e, e2] h) (hg : Gl X "zip" := by rfl) (hs : starEach [e, e2] X.env = (false, eval e X.env) :: starEach [e2] X.env := by rfl) (hpl : (backTo pos (starEach [e2] X.env)).any (·.1) = false := by rfl) :
    PID X W (.Tuple elts kk tpos) (.Call (.Name "zip" p) [e, e2] [] pos) (iSrcA srcZip h) := by
  refine weakI (pi_zip hg hm ha hs hpl) fun σ H R ⟨w, env, eH, hw, he, hs⟩ => ?_
  subst eH
  refine ⟨w, env, rfl, hw, he, SatW.imp (SatW.bind hs) fun w1 d v g1 r1 s1 => ?_⟩
  unfold srcZip at s1
  split at s1
  · rename_i a b
    split at s1
    · rename_i x p y q hx hy
      obtain ⟨va, vb, rfl, ra, rb⟩ := two_inv (show Rps X.K w1.r w1.F [a, b] v from r1)
      obtain ⟨pa, rfl, ⟨vs, q1, t1⟩, st1⟩ := stL_ok g1.wd ra hx
      obtain ⟨pb, rfl, ⟨us, q2, t2⟩, st2⟩ := stL_ok g1.wd rb hy
      refine ⟨pa, pb, vs, us, rfl, q1, q2, SatW.here s1 g1.wd (fun w2 g2 hc => ?_)⟩
      obtain ⟨vs', q1', t1'⟩ := st1 w2 g2 hc.1
      obtain ⟨us', q2', t2'⟩ := st2 w2 g2 hc.2
      refine ⟨fun i d e => ?_, vs', us', q1', q2', ?_⟩
      · rw [List.getElem?_map] at e
        cases ez : (x.zip y)[i]? with
        | none => rw [ez] at e; cases e
        | some z =>
          rw [ez] at e
          have ed := Option.some.inj e
          subst ed
          obtain ⟨e1, e2⟩ := List.getElem?_zip_eq_some.mp ez
          obtain ⟨v1, f1, rv1⟩ := t1'.get e1
          obtain ⟨v2, f2, rv2⟩ := t2'.get e2
          refine ⟨⟨vs', us', v1, v2, q1', q2', f1, f2⟩, fun xv H' yl => ?_⟩
          obtain ⟨Tp, x1, x2, rfl, nT, rfl, k1, k2⟩ := yl
          have ex1 : x1 = v1 := Option.some.inj ((k1 _ q1').symm.trans f1)
          have ex2 : x2 = v2 := Option.some.inj ((k2 _ q2').symm.trans f2)
          subst ex1 ex2
          refine ⟨⟨w2.r, upd w2.F Tp (.tup [x1, x2]), w2.S, upd w2.H Tp (.tup [x1, x2])⟩, Go.alloc g2.wd nT, rfl, rfl, ?_⟩
          unfold Rp
          refine ⟨Tp, [x1, x2], rfl, .inl upd_same, Rps.mono (r := w2.r) (F := w2.F) ⟨[], by simp⟩ (fun b z e => ?_) _ _ (rps_cons rv1 (rps_cons rv2 rps_nil))⟩
          show upd w2.F Tp _ b = _
          rw [upd_ne (ne_of_none e (g2.wd.fresh nT))]
          exact e
      · have l1 := t1'.length
        have l2 := t2'.length
        simp only [List.length_map, List.length_zip]
        omega
    · exact s1.elim
  · exact s1.elim
theorem pid_enum (hm : X.mg "enumerate" = none) (ha : PAD X W [e] h) (hg : Gl X "enumerate" := by rfl) (hs : starEach [e] X.env = [(false, eval e X.env)] := by rfl) :
    PID X W (.Tuple elts kk tpos) (.Call (.Name "enumerate" p) [e] [] pos) (iSrcA srcEnum h) := by
  refine weakI (pi_enum hg hm ha hs) fun σ H R ⟨w, env, eH, hw, he, hs⟩ => ?_
  subst eH
  refine ⟨w, env, rfl, hw, he, SatW.imp (SatW.bind hs) fun w1 d v g1 r1 s1 => ?_⟩
  unfold srcEnum at s1
  split at s1
  · rename_i a
    split at s1
    · rename_i x p hx
      obtain ⟨va, rfl, ra⟩ := one_inv (show Rps X.K w1.r w1.F [a] v from r1)
      obtain ⟨pa, rfl, ⟨vs, q1, t1⟩, st1⟩ := stL_ok g1.wd ra hx
      refine ⟨pa, vs, rfl, q1, SatW.here s1 g1.wd (fun w2 g2 hc => ?_)⟩
      obtain ⟨vs', q1', t1'⟩ := st1 w2 g2 hc
      refine ⟨fun i d e => ?_, vs', q1', ?_⟩
      · rw [List.getElem?_map, List.getElem?_zipIdx] at e
        cases ez : x[i]? with
        | none => rw [ez] at e; cases e
        | some z =>
          rw [ez] at e
          have ed := Option.some.inj e
          subst ed
          obtain ⟨v1, f1, rv1⟩ := t1'.get ez
          refine ⟨⟨vs', v1, q1', f1⟩, fun xv H' yl => ?_⟩
          obtain ⟨Tp, x1, rfl, nT, rfl, k1⟩ := yl
          have ex1 : x1 = v1 := Option.some.inj ((k1 _ q1').symm.trans f1)
          subst ex1
          refine ⟨⟨w2.r, upd w2.F Tp (.tup [.int (i : Nat), x1]), w2.S, upd w2.H Tp (.tup [.int (i : Nat), x1])⟩, Go.alloc g2.wd nT, rfl, rfl, ?_⟩
          unfold Rp
          refine ⟨Tp, [.int (i : Nat), x1], rfl, .inl upd_same, Rps.mono (r := w2.r) (F := w2.F) ⟨[], by simp⟩ (fun b z e => ?_) _ _ (rps_cons (by simp; exact rpi) (rps_cons rv1 rps_nil))⟩
          show upd w2.F Tp _ b = _
          rw [upd_ne (ne_of_none e (g2.wd.fresh nT))]
          exact e
      · simp only [List.length_map, List.length_zipIdx]
        exact Nat.le_of_eq t1'.length
    · exact s1.elim
  · exact s1.elim
theorem pid_rev (hm : X.mg "reversed" = none) (ha : PAD X W [e] h) (hg : Gl X "reversed" := by rfl) (hs : starEach [e] X.env = [(false, eval e X.env)] := by rfl) :
    PID X W tg (.Call (.Name "reversed" p) [e] [] pos) (iSrcA srcRev h) := by
  refine weakI (pi_reversed hg hm ha hs) fun σ H R ⟨w, env, eH, hw, he, hs⟩ => ?_
  subst eH
  refine ⟨w, env, rfl, hw, he, SatW.imp (SatW.bind hs) fun w1 d v g1 r1 s1 => ?_⟩
  unfold srcRev at s1
  split at s1
  · rename_i a
    split at s1
    · rename_i x p hx
      obtain ⟨va, rfl, ra⟩ := one_inv (show Rps X.K w1.r w1.F [a] v from r1)
      obtain ⟨pa, rfl, ⟨vs, q1, t1⟩, st1⟩ := stL_ok g1.wd ra hx
      refine ⟨pa, vs, rfl, q1, SatW.here s1 g1.wd (fun w2 g2 hc => ?_)⟩
      obtain ⟨vs', q1', t1'⟩ := st1 w2 g2 hc
      have hl : vs.length = vs'.length := t1.length.trans t1'.length.symm
      refine ⟨fun i d e => ?_, ?_⟩
      · have hi : i < x.length := by
          have := (List.getElem?_eq_some_iff.mp e).1
          simpa using this
        rw [List.getElem?_reverse hi] at e
        obtain ⟨v1, f1, rv1⟩ := t1'.get e
        rw [← t1'.length, ← hl] at f1
        refine ⟨⟨by rw [t1.length]; exact hi, vs', v1, q1', f1⟩, fun xv H' yl => ?_⟩
        obtain ⟨rfl, k1⟩ := yl
        have ex1 : xv = v1 := Option.some.inj ((k1 _ q1').symm.trans f1)
        subst ex1
        exact ⟨w2, Go.refl g2.wd, rfl, rfl, rv1⟩
      · show vs.length ≤ x.reverse.length
        rw [List.length_reverse, t1.length]
        exact Nat.le_refl _
    · exact s1.elim
  · exact s1.elim
end
@[simp] theorem srcZip_lst {a b : List D} {S : Store} : srcZip [.lst a, .lst b] S = .ok ⟨(a.zip b).map fun z => .tup [z.1, z.2], fun _ => True⟩ S := by simp [srcZip, stL]
@[simp] theorem srcEnum_lst {a : List D} {S : Store} : srcEnum [.lst a] S = .ok ⟨a.zipIdx.map fun z => .tup [.int z.2, z.1], fun _ => True⟩ S := rfl
@[simp] theorem srcRev_lst {a : List D} {S : Store} : srcRev [.lst a] S = .ok ⟨a.reverse, fun _ => True⟩ S := rfl

/-! ### in, not in: flat things -/
def flatD : D → Bool
  | .non => true
  | .bl _ => true
  | .int _ => true
  | .str _ => true
  | _ => false
def eqFl : D → D → Bool
  | .non, .non => true
  | .bl a, .bl b => a == b
  | .bl a, .int b => (if a then 1 else 0) == b
  | .int a, .bl b => a == (if b then 1 else 0)
  | .int a, .int b => a == b
  | .str a, .str b => a == b
  | _, _ => false
def inFl (x : D) (l : List D) : Bool := l.any fun y => eqFl y x
def getI (d : D) (S : Store) : Option (List D) := match d with
  | .tup l => some l
  | d => getQ d S
def dInX (neg : Bool) (x y : D) (S : Store) : Res D := match getI y S with
  | some l => if flatD x = true ∧ l.all flatD = true then .ok (.bl (if neg then !inFl x l else inFl x l)) S else .bad
  | none => .bad
def dIn := dInX false
def dNotIn := dInX true
section
variable {K : PySem.W.Frag} {r : List Addr} {F : Hp}
theorem flat_v {d : D} {v : V} (h : Rp K r F d v) (f : flatD d = true) : flatV v = true ∧ ∀ {e : D} {u : V}, Rp K r F e u → flatD e = true → eqV u v = eqFl e d := by
  cases d with
  | non =>
    cases rp_non h
    refine ⟨rfl, fun {e u} hu fe => ?_⟩
    cases e with
    | non => cases rp_non hu; rfl
    | bl _ => cases rp_bl hu; rfl
    | int _ => cases rp_int hu; rfl
    | str _ => cases rp_str hu; rfl
    | _ => cases fe
  | bl b =>
    cases rp_bl h
    refine ⟨rfl, fun {e u} hu fe => ?_⟩
    cases e with
    | non => cases rp_non hu; rfl
    | bl _ => cases rp_bl hu; rfl
    | int _ => cases rp_int hu; rfl
    | str _ => cases rp_str hu; rfl
    | _ => cases fe
  | int b =>
    cases rp_int h
    refine ⟨rfl, fun {e u} hu fe => ?_⟩
    cases e with
    | non => cases rp_non hu; rfl
    | bl _ => cases rp_bl hu; rfl
    | int _ => cases rp_int hu; rfl
    | str _ => cases rp_str hu; rfl
    | _ => cases fe
  | str b =>
    cases rp_str h
    refine ⟨rfl, fun {e u} hu fe => ?_⟩
    cases e with
    | non => cases rp_non hu; rfl
    | bl _ => cases rp_bl hu; rfl
    | int _ => cases rp_int hu; rfl
    | str _ => cases rp_str hu; rfl
    | _ => cases fe
  | _ => cases f
theorem flats_v {x : D} {v : V} (hx : Rp K r F x v) (fx : flatD x = true) : ∀ {l : List D} {vs : List V}, Rps K r F l vs → l.all flatD = true → vs.all flatV = true ∧ inV v vs = inFl x l
  | [], vs, h, _ => by rw [h.nil_inv]; exact ⟨rfl, rfl⟩
  | d :: l, vs, h, f => by
    obtain ⟨u, t, rfl, h1, h2⟩ := h.cons_inv
    rw [List.all_cons, Bool.and_eq_true] at f
    obtain ⟨f1, _⟩ := flat_v h1 f.1
    obtain ⟨f3, f4⟩ := flats_v hx fx h2 f.2
    refine ⟨by rw [List.all_cons, f1, f3]; rfl, ?_⟩
    have e1 : eqV u v = eqFl d x := (flat_v hx fx).2 h1 f.1
    unfold inV inFl at f4 ⊢
    rw [List.any_cons, List.any_cons, e1, f4]
theorem getI_ok {w : Wl} {d : D} {v : V} {l : List D} (hw : Wd K w) (hr : Rp K w.r w.F d v) (h : getI d w.S = some l) : ∃ a vs, v = .ref a ∧ (SqL K w.H a vs ∨ SqT K w.H a vs) ∧ Rps K w.r w.F l vs := by
  have gen : getQ d w.S = some l → ∃ a vs, v = .ref a ∧ (SqL K w.H a vs ∨ SqT K w.H a vs) ∧ Rps K w.r w.F l vs := fun h => by
    obtain ⟨a, vs, e, q, p⟩ := getQ_ok hw hr h
    exact ⟨a, vs, e, .inl q, p⟩
  cases d with
  | tup l' =>
    obtain ⟨a, vs, e, q, p⟩ := getT_ok hw hr h
    exact ⟨a, vs, e, .inr (.inl q), p⟩
  | _ => exact gen h
end
section
variable {X : Cx}
theorem od_in : OpD X (compareOp .In) dIn := ⟨_, op_in_seq, fun w x y d e W σ Q hw r1 r2 hs => by
  unfold dIn dInX at hs
  split at hs
  · rename_i l hl
    obtain ⟨hf, hs⟩ := satIf hs
    obtain ⟨a, vs, e1, q, t⟩ := getI_ok hw r2 hl
    obtain ⟨f1, f2⟩ := flats_v (show Rp X.K w.r w.F d x from r1) hf.1 t hf.2
    refine ⟨a, vs, e1, q, (flat_v (show Rp X.K w.r w.F d x from r1) hf.1).1, f1, ?_⟩
    rw [f2]
    exact SatW.here hs hw rpb
  · exact hs.elim⟩
theorem od_notIn : OpD X (compareOp .NotIn) dNotIn := ⟨_, op_notIn_seq, fun w x y d e W σ Q hw r1 r2 hs => by
  unfold dNotIn dInX at hs
  split at hs
  · rename_i l hl
    obtain ⟨hf, hs⟩ := satIf hs
    obtain ⟨a, vs, e1, q, t⟩ := getI_ok hw r2 hl
    obtain ⟨f1, f2⟩ := flats_v (show Rp X.K w.r w.F d x from r1) hf.1 t hf.2
    refine ⟨a, vs, e1, q, (flat_v (show Rp X.K w.r w.F d x from r1) hf.1).1, f1, ?_⟩
    rw [f2]
    exact SatW.here hs hw rpb
  · exact hs.elim⟩

/-! ### more methods -/
def mInsert (x : D) (a : List D) (S : Store) : Res D := match a, cellL x S with
  | [.int i, y], some (n, l) => if l.length < 16000000 ∧ 0 ≤ i ∧ i < 4611686018427387904 then .ok .non (S.set n (.lst (l.take i.toNat ++ [y] ++ l.drop i.toNat))) else .bad
  | _, _ => .bad
def mPop (x : D) (a : List D) (S : Store) : Res D := match a, cellL x S with
  | [], some (n, l) => match l[l.length - 1]? with
    | some y => .ok y (S.set n (.lst l.dropLast))
    | none => .bad
  | _, _ => .bad
def mPopAt (x : D) (a : List D) (S : Store) : Res D := match a, cellL x S with
  | [.int i], some (n, l) => if rng62 i then match seqIndex? i l.length with
      | some k => match l[k]? with
        | some y => .ok y (S.set n (.lst (l.eraseIdx k)))
        | none => .bad
      | none => .bad
    else .bad
  | _, _ => .bad
def mCount (x : D) (a : List D) (S : Store) : Res D := match a with
  | [.int k] => match (getQ x S).bind intsOf with
    | some ns => .ok (.int (ns.count k : Nat)) S
    | none => .bad
  | _ => .bad
theorem Rps.dropLast {K : PySem.W.Frag} {r : List Addr} {F : Hp} {l : List D} {vs : List V} (h : Rps K r F l vs) : Rps K r F l.dropLast vs.dropLast := by
  rw [List.dropLast_eq_take, List.dropLast_eq_take, h.length]
  exact h.take _
theorem Rps.eraseIdx {K : PySem.W.Frag} {r : List Addr} {F : Hp} {l : List D} {vs : List V} (h : Rps K r F l vs) (k : Nat) : Rps K r F (l.eraseIdx k) (vs.eraseIdx k) := by
  rw [List.eraseIdx_eq_take_drop_succ, List.eraseIdx_eq_take_drop_succ]
  exact (h.take _).append (h.drop _)
theorem md_insert : MtD X "list.insert" mInsert := ⟨_, mt_insert, fun w x xs d ds W σ Q hw r1 r2 hs => by
  unfold mInsert at hs
  split at hs
  · rename_i i y n l hc
    obtain ⟨rfl, en⟩ := cellL_eq hc
    obtain ⟨hl, hs⟩ := satIf hs
    obtain ⟨v, u, rfl, rv, ru⟩ := two_inv r2
    obtain ⟨a, vs, rfl, ha, p, go⟩ := cell_write (T := kt X) (l' := l.take i.toNat ++ [y] ++ l.drop i.toNat) hw r1 en
    refine ⟨a, vs, i, u, rfl, by rw [rp_int rv], ha, by rw [p.length]; exact Nat.lt_of_lt_of_le hl.1 (line16 (Nat.le_refl _)), hl.2.1, by omega, ?_⟩
    exact hs _ V.non (go _ (((p.take _).append (rps_cons ru rps_nil)).append (p.drop _))) rfl rpn
  · exact hs.elim⟩
theorem md_pop : MtD X "list.pop" mPop := ⟨_, mt_pop, fun w x xs d ds W σ Q hw r1 r2 hs => by
  unfold mPop at hs
  split at hs
  · rename_i n l hc
    obtain ⟨rfl, en⟩ := cellL_eq hc
    split at hs
    · rename_i y hy
      obtain ⟨a, vs, rfl, ha, p, go⟩ := cell_write (T := kt X) (l' := l.dropLast) hw r1 en
      obtain ⟨v, ev, rv⟩ := p.get hy
      refine ⟨a, vs, v, rfl, r2.nil_inv, ha, by rw [p.length]; exact ev, ?_⟩
      exact hs _ v (go _ p.dropLast) rfl (show Rp X.K w.r w.F y v from rv)
    · exact hs.elim
  · exact hs.elim⟩
theorem md_popAt : MtD X "list.pop" mPopAt := ⟨_, mt_popAt, fun w x xs d ds W σ Q hw r1 r2 hs => by
  unfold mPopAt at hs
  split at hs
  · rename_i i n l hc
    obtain ⟨rfl, en⟩ := cellL_eq hc
    obtain ⟨hi, hs⟩ := satIf hs
    split at hs
    · rename_i k hk
      split at hs
      · rename_i y hy
        obtain ⟨v0, rfl, rv0⟩ := one_inv r2
        obtain ⟨a, vs, rfl, ha, p, go⟩ := cell_write (T := kt X) (l' := l.eraseIdx k) hw r1 en
        obtain ⟨v, ev, rv⟩ := p.get hy
        have b1 := hi.1
        have b2 := hi.2
        refine ⟨a, vs, i, k, v, rfl, by rw [rp_int rv0], ha, by omega, by omega, by rw [p.length]; exact hk, ev, ?_⟩
        exact hs _ v (go _ (p.eraseIdx k)) rfl (show Rp X.K w.r w.F y v from rv)
      · exact hs.elim
    · exact hs.elim
  · exact hs.elim⟩
theorem md_count : MtD X "list.count" mCount := ⟨_, mt_lcount, fun w x xs d ds W σ Q hw r1 r2 hs => by
  unfold mCount at hs
  split at hs
  · rename_i k
    obtain ⟨v0, rfl, rv0⟩ := one_inv r2
    split at hs
    · rename_i ns h
      obtain ⟨a, e1, q⟩ := ints_of hw r1 h
      exact ⟨a, ns, k, e1, by rw [rp_int rv0], q, SatW.here hs hw rpi⟩
    · exact hs.elim
  · exact hs.elim⟩
theorem md_extend : MtD X "list.extend" mExtend := ⟨_, mt_extend, fun w x xs d ds W σ Q hw r1 r2 hs => by
  unfold mExtend at hs
  split at hs
  · rename_i z n l hc
    obtain ⟨rfl, en⟩ := cellL_eq hc
    obtain ⟨hl, hs⟩ := satIf hs
    obtain ⟨v0, rfl, rv0⟩ := one_inv r2
    obtain ⟨b, zs, rfl, hb, t⟩ := getL_ok hw rv0 rfl
    obtain ⟨a, vs, rfl, ha, p, go⟩ := cell_write (T := kt X) (l' := l ++ z) hw r1 en
    refine ⟨a, b, vs, zs, rfl, rfl, ha, hb, by rw [p.length, t.length]; exact line16 hl, ?_⟩
    exact hs _ V.non (go _ (p.append t)) rfl rpn
  · exact hs.elim⟩
end

/-! ### a list unpacked -/
def gL (n : Nat) (h : List D → Env → Store → Out) : D → Env → Store → Out := fun d e S => match getQ d S with
  | some l => if l.length = n then h l e S else .bad
  | none => .bad
section
variable {X : Cx} {es : List Expr} {pos : Pos}
theorem pgd_unl {n : Nat} {kk : Nat} {hh : List D → Env → Store → Out} (hc : X.calm = true) (h2 : PGsD X es hh) (hn : (assignEach es X.env).length = n := by rfl) (hst : (assignEach es X.env).findIdx? (·.1) = none := by rfl) : PGD X (.Tuple es kk pos) (gL n hh) := by
  refine weakG (pg_unl hc h2 hn hst) fun v σ H Q ⟨w, env, d, eH, hw, he, hr, hs⟩ => ?_
  subst eH
  have hs' : SatG (kt X) w (match getQ d w.S with | some l => if l.length = n then hh l env w.S else .bad | none => .bad) Q := hs
  cases q : getQ d w.S with
  | none => rw [q] at hs'; exact hs'.elim
  | some l =>
    rw [q] at hs'
    have hs2 : SatG (kt X) w (if l.length = n then hh l env w.S else .bad) Q := hs'
    by_cases hl : l.length = n
    · rw [if_pos hl] at hs2
      obtain ⟨a, vs, rfl, q, p⟩ := getQ_ok hw hr q
      exact ⟨a, vs, rfl, q, by rw [p.length]; exact hl, w, env, l, rfl, hw, he, p, hs2⟩
    · rw [if_neg hl] at hs2
      exact hs2.elim
end
end
end Dv
/-! # Dv10: counting over data -/
namespace Dv
noncomputable section
open PySem PySem.Spec PyProof.Rows L2

def rCntD (K : PySem.W.Frag) : V → List V → Hp → VK → Prop := fun x xs H Q => ∃ (p : Addr) (vs : List V) (ds : List PyData) (v : V) (d : PyData), x = .ref p ∧ xs = [v] ∧ SqL K H p vs ∧ DpAll K H vs ds ∧ Dp K H v d ∧ PyData.plainAll ds = true ∧ d.plain = true ∧ d.depth ≤ 60 ∧ Q (.int (ds.countP fun y => PyData.eqv y d : Nat)) H
theorem mt_countD {X : Cx} (hu : X.A.units + 64 < cLine) : MtR X "list.count" (rCntD X.K) := by
  intro pins s σ H x xs v us Q I rx rxs h
  obtain ⟨p, vs, ds, u, d, rfl, rfl, hs, ha, hd, h1, h2, h3, q⟩ := h
  cases rx
  obtain ⟨u', rfl, ru⟩ := rxs.one
  obtain ⟨its, rv, ⟨o, n, ho, hc, hdn, hd2⟩, hlen⟩ := I.list hs
  obtain ⟨as, r1⟩ := Dp.readsAll I ds vs its ha rv
  obtain ⟨bs, r2⟩ := Dp.reads I d u u' hd ru
  refine SeqAt.count_list_data (vs := its.toArray) ⟨o, ho, hc, n, hd2⟩ (by simpa using r1) r2 h1 h2 ?_ ?_
  · have : min (PyData.depthAll ds) d.depth ≤ d.depth := Nat.min_le_right _ _
    omega
  · exact ⟨.int (ds.countP fun y => PyData.eqv y d : Nat), H, I.tok _, ⟨s.toks, rfl⟩, q⟩
def mCountD (x : D) (a : List D) (S : Store) : Res D := match a with
  | [k] => match toP S 60 k, (getQ x S).bind (toPs S 60) with
    | some d, some ds => .ok (.int (ds.countP fun y => PyData.eqv y d : Nat)) S
    | _, _ => .bad
  | _ => .bad
theorem toPs_plain {S : Store} {n : Nat} {l : List D} {ps : List PyData} (h : toPs S n l = some ps) : PyData.plainAll ps = true := by
  have := (toP_ok (S := S) (n + 1) (.lst l) (.list ps) (by rw [toP, h]; rfl)).1
  have q := PyData.plain_of_canLay0 _ this
  simpa [PyData.plain] using q
theorem md_countD {X : Cx} (hu : X.A.units + 64 < cLine) : MtD X "list.count" mCountD := ⟨_, mt_countD hu, fun w x xs d ds W σ Q hw r1 r2 hs => by
  unfold mCountD at hs
  split at hs
  · rename_i k
    obtain ⟨v0, rfl, rv0⟩ := one_inv r2
    split at hs
    · rename_i p ps h1 h2
      cases q : getQ d w.S with
      | none => rw [q] at h2; cases h2
      | some l =>
        rw [q] at h2
        obtain ⟨a, vs, e1, hq, t⟩ := getQ_ok hw r1 q
        obtain ⟨h3, h4⟩ := toP_ok 60 k p h1
        exact ⟨a, vs, ps, v0, p, e1, rfl, hq, toPs_dp hw 60 l vs ps h2 t, toP_dp hw 60 k v0 p h1 rv0, toPs_plain h2, PyData.plain_of_canLay0 _ h3, h4, SatW.here hs hw rpi⟩
    · exact hs.elim
  · exact hs.elim⟩
theorem bt3 {a b c : Bool} : (mCountD (.lst [.bl a, .bl b, .bl c]) [.bl true] : M D) = fun S => .ok (.int ((if a then 1 else 0) + (if b then 1 else 0) + (if c then 1 else 0))) S := by
  funext S
  cases a <;> cases b <;> cases c <;> simp [mCountD, getQ, toP, toPs, PyData.eqv]
theorem toPs_ints {S : Store} {n : Nat} : ∀ cs : List Int, toPs S n (cs.map D.int) = some (cs.map PyData.int)
  | [] => by simp [toPs]
  | c :: cs => by
    have e : toP S n (D.int c) = some (.int c) := by cases n <;> simp [toP]
    simp [toPs, e, toPs_ints cs]
/-! ### stores: what stands ahead, and the cells behind -/
section
variable {P R : Store} {a b c x : Cn} {L : Nat}
theorem app_at0 (h : P.length = L) : (P ++ a :: R)[L]? = some a := by rw [List.getElem?_append_right (by omega)]; simp [h]
theorem app_at1 (h : P.length = L) : (P ++ a :: b :: R)[L + 1]? = some b := by rw [List.getElem?_append_right (by omega)]; simp [h]
theorem app_at2 (h : P.length = L) : (P ++ a :: b :: c :: R)[L + 2]? = some c := by rw [List.getElem?_append_right (by omega)]; simp [h]
theorem app_set0 (h : P.length = L) : (P ++ a :: R).set L x = P ++ x :: R := by rw [List.set_append_right _ _ (by omega)]; simp [h]
theorem app_set1 (h : P.length = L) : (P ++ a :: b :: R).set (L + 1) x = P ++ a :: x :: R := by rw [List.set_append_right _ _ (by omega)]; simp [h]
theorem app_set2 (h : P.length = L) : (P ++ a :: b :: c :: R).set (L + 2) x = P ++ a :: b :: x :: R := by rw [List.set_append_right _ _ (by omega)]; simp [h]
theorem fin_cut {d : D} (h : P.length = L) (hu : (P.all fun c => c.under L) = true) (hd : d.under L = true) : fin false L d (P ++ R) = .ok d P := by
  unfold fin
  have e : (P ++ R).take L = P := by rw [← h]; simp
  by_cases z : (false = true ∨ (P ++ R).length = L)
  · rw [if_pos z]
    rcases z with z | z
    · cases z
    · rw [List.length_append] at z
      have : R = [] := List.length_eq_zero_iff.mp (by omega)
      subst this
      simp
  · rw [if_neg z, e, hd, hu]
    rfl
end
theorem underL_ints {n : Nat} : ∀ cs : List Int, D.underL n (cs.map D.int) = true
  | [] => rfl
  | c :: cs => by rw [List.map_cons, D.underL, underL_ints cs]; rfl
theorem underL_of {n : Nat} : ∀ {l : List D}, (∀ d ∈ l, D.under n d = true) → D.underL n l = true
  | [], _ => rfl
  | d :: l, h => by rw [D.underL, h d (by simp), underL_of fun x hx => h x (by simp [hx])]; rfl
theorem all_set_under {n k : Nat} {x : Cn} {P : Store} (h : (P.all fun c => c.under n) = true) (hx : x.under n = true) : ((P.set k x).all fun c => c.under n) = true := by
  rw [List.all_eq_true] at *
  intro c hc
  rcases List.mem_or_eq_of_mem_set hc with z | z
  · exact h c z
  · rw [z]; exact hx
/-- a comprehension that only reckons -/
theorem lc_map {α : Type} {g : D → Env → Option Env} {f : Env → M D} {e0 : Env} {S : Store} (emb ψ : α → D) : ∀ (items : List α) (acc : List D), (∀ a ∈ items, ∃ e1, g (emb a) e0 = some e1 ∧ f e1 S = .ok (ψ a) S) → acc.length + items.length ≤ 16000000 → lcL (fun _ => True) g cYes f e0 (items.map emb) acc S = .ok (acc ++ items.map ψ) S
  | [], acc, _, _ => by rw [List.map_nil, lcL, if_pos trivial]; simp
  | a :: items, acc, h, hl => by
    obtain ⟨e1, h1, h2⟩ := h a (by simp)
    rw [List.length_cons] at hl
    rw [List.map_cons, lcL, if_pos trivial]
    simp only [h1, cYes, h2]
    rw [if_pos (by omega), lc_map emb ψ items _ (fun x hx => h x (by simp [hx])) (by rw [List.length_append, List.length_singleton]; omega)]
    simp
theorem irange_map {lo : Int} {n : Nat} : irange lo n = (List.range n).map fun (i : Nat) => D.int (lo + i) := rfl
end
end Dv
/-! # Dv11: Ens and EnsO as structures, so that nobody reckons through them -/
namespace Dv
open PySem PySem.Spec PyProof.Rows L2
structure Ens {α : Type} (x : Res α) (P : α → Store → Prop) : Prop where
  go : En0 x P
structure EnsO (o : Out) (Q : Pst) : Prop where
  go : EnO0 o Q
theorem ens_is {α : Type} {x : Res α} {P : α → Store → Prop} : Ens x P = En0 x P := propext ⟨fun h => h.go, fun h => ⟨h⟩⟩
theorem enso_is {o : Out} {Q : Pst} : EnsO o Q = EnO0 o Q := propext ⟨fun h => h.go, fun h => ⟨h⟩⟩
section
variable {α β : Type} {x : Res α} {a : α} {S : Store} {P : α → Store → Prop} {Q : Pst} {e : Env} {d : D}
@[simp] theorem ens_ok : Ens (.ok a S) P = P a S := ens_is
@[simp] theorem ens_bad : Ens (.bad : Res α) P = False := ens_is
@[simp] theorem ens_exc {y : Exn} : Ens (.exc y S : Res α) P = False := ens_is
@[simp] theorem ens_bind {k : α → Store → Res β} {P : β → Store → Prop} : Ens (x.bind k) P = Ens x (fun a S => Ens (k a S) P) := by
  rw [ens_is, ens_is, en0_bind]
  congr 1
  funext a S
  rw [ens_is]
theorem Ens.imp {P' : α → Store → Prop} (h : Ens x P) (q : ∀ a S, P a S → P' a S) : Ens x P' := ⟨h.go.imp q⟩
theorem ens_eq {v : α} : Ens x (fun a S' => a = v ∧ S' = S) ↔ x = .ok v S := by rw [ens_is]; exact en0_eq
theorem Ens.get (h : Ens x P) : ∃ a S, x = .ok a S ∧ P a S := En0.get h.go
@[simp] theorem ens_if {c : Prop} [Decidable c] : Ens (if c then x else .bad) P = (c ∧ Ens x P) := by rw [ens_is, ens_is, en0_if]
@[simp] theorem ens_if' {c : Prop} [Decidable c] : Ens (if c then .bad else x) P = (¬ c ∧ Ens x P) := by rw [ens_is, ens_is, en0_if']
theorem ens_ite {c : Prop} [Decidable c] {y : Res α} (h1 : c → Ens x P) (h2 : ¬ c → Ens y P) : Ens (if c then x else y) P := ⟨en0_ite (fun h => (h1 h).go) fun h => (h2 h).go⟩
@[simp] theorem enso_nx : EnsO (.nx e S) Q = Q.nx e S := enso_is
@[simp] theorem enso_rt : EnsO (.rt d S) Q = Q.rt d S := enso_is
@[simp] theorem enso_bk : EnsO (.bk e S) Q = Q.bk e S := enso_is
@[simp] theorem enso_ct : EnsO (.ct e S) Q = Q.ct e S := enso_is
@[simp] theorem enso_bad : EnsO .bad Q = False := enso_is
@[simp] theorem enso_out {k : α → Store → Out} : EnsO (x.out e k) Q = Ens x (fun a S => EnsO (k a S) Q) := by
  rw [enso_is, ens_is, eno0_out]
  congr 1
  funext a S
  rw [enso_is]
@[simp] theorem enso_seq {o : Out} {k : Env → Store → Out} : EnsO (o.seq k) Q = EnsO o { Q with nx := fun e S => EnsO (k e S) Q } := by
  rw [enso_is, enso_is, eno0_seq]
  congr 1
  congr 1
  funext e S
  rw [enso_is]
theorem EnsO.imp {o : Out} {Q' : Pst} (h : EnsO o Q) (h1 : ∀ e S, Q.nx e S → Q'.nx e S) (h2 : ∀ e S, Q.rt e S → Q'.rt e S) (h3 : ∀ e S, Q.bk e S → Q'.bk e S) (h4 : ∀ e S, Q.ct e S → Q'.ct e S) : EnsO o Q' := ⟨h.go.imp h1 h2 h3 h4⟩
theorem enso_ite {c : Prop} [Decidable c] {o p : Out} (h1 : c → EnsO o Q) (h2 : ¬ c → EnsO p Q) : EnsO (if c then o else p) Q := ⟨eno0_ite (fun h => (h1 h).go) fun h => (h2 h).go⟩
end
theorem ens_fn {np ns : Nat} {keep : Bool} {body : Env → Store → Out} {ds : List D} {S : Store} {P : D → Store → Prop} (hl : ds.length = np)
    (h : EnsO (body (ds.map some ++ List.replicate (ns - np) none) S) { nx := fun _ S' => Ens (fin keep S.length .non S') P, rt := fun d S' => Ens (fin keep S.length d S') P }) : Ens (fnD np ns keep body ds S) P :=
  ⟨en0_fn hl (h.go.imp (fun _ _ h => h.go) (fun _ _ h => h.go) (fun _ _ h => h.elim) (fun _ _ h => h.elim))⟩
theorem ens_for {g : D → Env → Store → Out} {b : Env → Store → Out} {items : List D} {e : Env} {S : Store} {Q : Pst} (I : Nat → Env → Store → Prop) (h0 : I 0 e S)
    (hs : ∀ (i : Nat) d e S, items[i]? = some d → I i e S → EnsO (g d e S) { nx := fun e1 S1 => EnsO (b e1 S1) { nx := I (i + 1), ct := I (i + 1), bk := Q.nx, rt := Q.rt } })
    (hd : ∀ e S, I items.length e S → Q.nx e S) : EnsO (forL (fun _ => True) g b items e S) Q :=
  ⟨en0_for I h0 (fun i d e S h1 h2 => (hs i d e S h1 h2).go.imp (fun _ _ h => h.go) (fun _ _ h => h.elim) (fun _ _ h => h.elim) (fun _ _ h => h.elim)) hd⟩
theorem ens_while {c : Env → M Bool} {b : Env → Store → Out} {Q : Pst} (I : Env → Store → Prop) (m : Env → Store → Nat)
    (hs : ∀ e S, I e S → Ens (c e S) fun t S1 => (t = true → EnsO (b e S1) { nx := fun e' S' => I e' S' ∧ m e' S' < m e S, ct := fun e' S' => I e' S' ∧ m e' S' < m e S, bk := Q.nx, rt := Q.rt }) ∧ (t = false → Q.nx e S1)) {e : Env} {S : Store} (h0 : I e S) : EnsO (yWhile c b e S) Q :=
  ⟨en0_while I m (fun e S h => (hs e S h).go.imp fun t S1 z => ⟨fun q => (z.1 q).go, z.2⟩) h0⟩
theorem ens_lc {g : D → Env → Option Env} {c : Env → M Bool} {f : Env → M D} {e0 : Env} {items : List D} {S : Store} {P : List D → Store → Prop} (I : Nat → List D → Store → Prop) (h0 : I 0 [] S)
    (hs : ∀ (i : Nat) d acc S, items[i]? = some d → I i acc S → ∃ e1, g d e0 = some e1 ∧ Ens (c e1 S) fun t S2 => (t = true → Ens (f e1 S2) fun y S3 => acc.length < 16000000 ∧ I (i + 1) (acc ++ [y]) S3) ∧ (t = false → I (i + 1) acc S2))
    (hd : ∀ l S, I items.length l S → P l S) : Ens (lcL (fun _ => True) g c f e0 items [] S) P :=
  ⟨en0_lc I h0 (fun i d acc S h1 h2 => by
    obtain ⟨e1, q1, q2⟩ := hs i d acc S h1 h2
    exact ⟨e1, q1, q2.go.imp fun t S2 z => ⟨fun q => (z.1 q).go, z.2⟩⟩) hd⟩
theorem ens_seq {y y' : Env → Store → Out} {e : Env} {S : Store} {Q : Pst} (R : Env → Store → Prop) (h1 : EnsO (y e S) { Q with nx := R }) (h2 : ∀ e S, R e S → EnsO (y' e S) Q) : EnsO (ySeq y y' e S) Q :=
  ⟨en0_seq R h1.go fun e S h => (h2 e S h).go⟩
@[simp] theorem ens_fin0 {k b : Bool} {S : Store} {p : D → Prop} : Ens (fin k 0 (.bl b) S) (fun d _ => p d) = p (.bl b) := by
  unfold fin
  by_cases h : k = true ∨ S.length = 0
  · rw [if_pos h, ens_ok]
  · rw [if_neg h, if_pos (by simp [D.under]), ens_ok]
/- no `if` over rng62 in the reckoning: the kernel would run through its decision -/
@[simp] theorem ens_srcR1 {j : Int} {S : Store} {P : Src → Store → Prop} : Ens (srcR1 [.int j] S) P = (rng62 j ∧ P ⟨irange 0 j.toNat, fun _ => True⟩ S) := by
  rw [srcR1_app, ens_if, ens_ok]
@[simp] theorem ens_srcR2 {i j : Int} {S : Store} {P : Src → Store → Prop} : Ens (srcR2 [.int i, .int j] S) P = ((rng62 i ∧ rng62 j) ∧ P ⟨irange i (j - i).toNat, fun _ => True⟩ S) := by
  rw [srcR2_app, ens_if, ens_ok]
/-- as ens_seq, the middle's form kept from simp -/
theorem ens_sq {y y' : Env → Store → Out} {e : Env} {S : Store} {Q : Pst} (R : Env → Store → Prop) (h1 : ∀ R' : Env → Store → Prop, (∀ e S, R e S → R' e S) → EnsO (y e S) { Q with nx := R' }) (h2 : ∀ e S, R e S → EnsO (y' e S) Q) : EnsO (ySeq y y' e S) Q := ens_seq R (h1 R fun _ _ h => h) h2
theorem ens_fr {g : D → Env → Store → Out} {b : Env → Store → Out} {items : List D} {e : Env} {S : Store} {Q : Pst} (I : Nat → Env → Store → Prop) (h0 : I 0 e S)
    (hs : ∀ (i : Nat) d e S (R' : Env → Store → Prop), items[i]? = some d → I i e S → (∀ e S, I (i + 1) e S → R' e S) → EnsO (g d e S) { nx := fun e1 S1 => EnsO (b e1 S1) { nx := R', ct := R', bk := Q.nx, rt := Q.rt } })
    (hd : ∀ e S, I items.length e S → Q.nx e S) : EnsO (forL (fun _ => True) g b items e S) Q := ens_for I h0 (fun i d e S h1 h2 => hs i d e S _ h1 h2 fun _ _ h => h) hd
theorem ens_lcq {g : D → Env → Option Env} {c : Env → M Bool} {f : Env → M D} {e0 : Env} {items : List D} {S : Store} {P : List D → Store → Prop} (I : Nat → List D → Store → Prop) (h0 : I 0 [] S)
    (hs : ∀ (i : Nat) d acc S (R' : List D → Store → Prop), items[i]? = some d → I i acc S → (∀ l S, I (i + 1) l S → R' l S) → ∃ e1, g d e0 = some e1 ∧ Ens (c e1 S) fun t S2 => (t = true → Ens (f e1 S2) fun y S3 => acc.length < 16000000 ∧ R' (acc ++ [y]) S3) ∧ (t = false → R' acc S2))
    (hd : ∀ l S, I items.length l S → P l S) : Ens (lcL (fun _ => True) g c f e0 items [] S) P := ens_lc I h0 (fun i d acc S h1 h2 => hs i d acc S _ h1 h2 fun _ _ h => h) hd
/-- over a list that is written there; the items are kept from the kernel's reckoning -/
theorem enso_forlst {h : Env → M (List D)} {g : D → Env → Store → Out} {b : Env → Store → Out} {oo : Option D} {ll : Env} {S : Store} {Q : Pst} (hh : Ens (h (oo :: ll) S) fun l S1 => l.length ≤ 1000 ∧ ∀ items, items = l → EnsO (forL (fun _ => True) g b items (oo :: ll) S1) Q) : EnsO (yFor (iSrc srcL (xLst mkF h)) g b (oo :: ll) S) Q := by
  rw [yFor_app, iSrc_app, xLst_app, enso_out, ens_bind, ens_bind]
  refine hh.imp fun l S1 ⟨h1, h2⟩ => ?_
  rw [if_pos h1, mkF_app, ens_ok, srcL_lst, ens_ok]
  exact h2 l rfl
end Dv
/-! # Dv12: any, all, sorted -/
namespace Dv
noncomputable section
open PySem PySem.Spec PyProof.Rows L2
def blsOf : List D → Option (List Bool)
  | [] => some []
  | .bl b :: l => (blsOf l).map (b :: ·)
  | _ :: _ => none
theorem blsOf_eq : ∀ {l : List D} {bs : List Bool}, blsOf l = some bs → l = bs.map D.bl
  | [], bs, h => by cases h; rfl
  | .bl b :: l, bs, h => by
    rw [blsOf] at h
    cases q : blsOf l with
    | none => rw [q] at h; cases h
    | some m => rw [q] at h; cases h; rw [blsOf_eq q]; rfl
  | .non :: _, _, h => by cases h
  | .int _ :: _, _, h => by cases h
  | .str _ :: _, _, h => by cases h
  | .tup _ :: _, _, h => by cases h
  | .lst _ :: _, _, h => by cases h
  | .scr _ :: _, _, h => by cases h
  | .cell _ :: _, _, h => by cases h
  | .raw _ :: _, _, h => by cases h
  | .cls _ :: _, _, h => by cases h
  | .exn _ _ :: _, _, h => by cases h
@[simp] theorem blsOf_map : ∀ bs : List Bool, blsOf (bs.map D.bl) = some bs
  | [] => rfl
  | b :: bs => by rw [List.map_cons, blsOf, blsOf_map bs]; rfl
theorem Rps.bls {K : PySem.W.Frag} {r : List Addr} {F : Hp} : ∀ {bs : List Bool} {vs : List V}, Rps K r F (bs.map D.bl) vs → vs = bs.map V.bl
  | [], vs, h => h.nil_inv
  | b :: bs, vs, h => by
    obtain ⟨v, t, rfl, h1, h2⟩ := h.cons_inv
    cases rp_bl h1
    rw [Rps.bls h2]
    rfl
theorem bls_of {K : PySem.W.Frag} {w : Wl} {x : D} {v : V} {bs : List Bool} (hw : Wd K w) (r : Rp K w.r w.F x v) (h : (getQ x w.S).bind blsOf = some bs) : ∃ a, v = .ref a ∧ SqL K w.H a (bs.map V.bl) := by
  cases q : getQ x w.S with
  | none => rw [q] at h; cases h
  | some l =>
    rw [q] at h
    have e := blsOf_eq (show blsOf l = some bs from h)
    subst e
    obtain ⟨a, vs, e1, q1, t⟩ := getQ_ok hw r q
    rw [t.bls] at q1
    exact ⟨a, e1, q1⟩
def bAll (l : List D) (S : Store) : Res D := match l with
  | [x] => match (getQ x S).bind blsOf with
    | some bs => .ok (.bl (bs.all id)) S
    | none => .bad
  | _ => .bad
def bAny (l : List D) (S : Store) : Res D := match l with
  | [x] => match (getQ x S).bind blsOf with
    | some bs => .ok (.bl (bs.any id)) S
    | none => .bad
  | _ => .bad
@[simp] theorem bAll_bls {bs : List Bool} {S : Store} : bAll [.lst (bs.map D.bl)] S = .ok (.bl (bs.all id)) S := by simp [bAll]
@[simp] theorem bAny_bls {bs : List Bool} {S : Store} : bAny [.lst (bs.map D.bl)] S = .ok (.bl (bs.any id)) S := by simp [bAny]
def bSorted (mk : List D → M D) (l : List D) (S : Store) : Res D := match l with
  | [x] => match (getQ x S).bind intsOf with
    | some ns => mk ((ns.mergeSort fun a b => decide (a ≤ b)).map D.int) S
    | none => .bad
  | _ => .bad
section
variable {X : Cx} {mk : List D → M D}
theorem cd_all (hc : X.calm = true) : CallD X (.builtin "all") bAll := ⟨_, cr_all hc, fun w xs ds W σ Q hw r hs => by
  unfold bAll at hs
  split at hs
  · rename_i x
    obtain ⟨v, rfl, rv⟩ := one_inv r
    split at hs
    · rename_i bs h
      obtain ⟨a, rfl, q⟩ := bls_of hw rv h
      exact ⟨a, bs, rfl, q, SatW.here hs hw rpb⟩
    · exact hs.elim
  · exact hs.elim⟩
theorem cd_any (hc : X.calm = true) : CallD X (.builtin "any") bAny := ⟨_, cr_any hc, fun w xs ds W σ Q hw r hs => by
  unfold bAny at hs
  split at hs
  · rename_i x
    obtain ⟨v, rfl, rv⟩ := one_inv r
    split at hs
    · rename_i bs h
      obtain ⟨a, rfl, q⟩ := bls_of hw rv h
      exact ⟨a, bs, rfl, q, SatW.here hs hw rpb⟩
    · exact hs.elim
  · exact hs.elim⟩
theorem rps_intsV {K : PySem.W.Frag} {r : List Addr} {F : Hp} : ∀ ns : List Int, Rps K r F (ns.map D.int) (ns.map V.int)
  | [] => rps_nil
  | n :: ns => rps_cons rpi (rps_intsV ns)
theorem sorted_uniq {ns ns' : List Int} (h1 : ns'.Perm ns) (h2 : ns'.Pairwise (· ≤ ·)) : ns' = ns.mergeSort fun a b => decide (a ≤ b) := by
  have p := List.mergeSort_perm ns fun a b => decide (a ≤ b)
  have s : (ns.mergeSort fun a b => decide (a ≤ b)).Pairwise (fun a b => decide (a ≤ b) = true) := List.pairwise_mergeSort (le := fun a b => decide (a ≤ b)) (fun a b c h1 h2 => by simp at *; omega) (fun a b => by simp; omega) ns
  exact List.Perm.eq_of_pairwise (le := (· ≤ ·)) (fun a b _ _ h1 h2 => Int.le_antisymm h1 h2) h2 (s.imp fun h => by simpa using h) (h1.trans p.symm)
theorem cd_sorted (m : Mk mk) : CallD X (.builtin "sorted") (bSorted mk) := ⟨_, cr_sortedI, fun w xs ds W σ Q hw r hs => by
  unfold bSorted at hs
  split at hs
  · rename_i x
    obtain ⟨v, rfl, rv⟩ := one_inv r
    split at hs
    · rename_i ns h
      obtain ⟨a, rfl, q⟩ := ints_of hw rv h
      refine ⟨a, ns, rfl, q, fun ns' p h1 h2 hp => ?_⟩
      rw [sorted_uniq h1 h2]
      exact m.go hw (rps_intsV _) hs p hp
    · exact hs.elim
  · exact hs.elim⟩
end
/-- as lc_map, over a list that stands in a cell -/
theorem lc_mapC {α : Type} {chk : Store → Prop} {g : D → Env → Option Env} {f : Env → M D} {e0 : Env} {S : Store} (hk : chk S) (emb ψ : α → D) : ∀ (items : List α) (acc : List D), (∀ a ∈ items, ∃ e1, g (emb a) e0 = some e1 ∧ f e1 S = .ok (ψ a) S) → acc.length + items.length ≤ 16000000 → lcL chk g cYes f e0 (items.map emb) acc S = .ok (acc ++ items.map ψ) S
  | [], acc, _, _ => by rw [List.map_nil, lcL, if_pos hk]; simp
  | a :: items, acc, h, hl => by
    obtain ⟨e1, h1, h2⟩ := h a (by simp)
    rw [List.length_cons] at hl
    rw [List.map_cons, lcL, if_pos hk]
    simp only [h1, cYes, h2]
    rw [if_pos (by omega), lc_mapC hk emb ψ items _ (fun x hx => h x (by simp [hx])) (by rw [List.length_append, List.length_singleton]; omega)]
    simp
theorem srcL_cell {n : Nat} {l : List D} {S : Store} (h : S[n]? = some (.lst l)) : srcL (.cell n) S = .ok ⟨l, fun S' => S'[n]? = some (.lst l)⟩ S := by
  unfold srcL
  simp only [h]
end
end Dv
/-! # Dv13: exceptions: raised, caught, kept as values -/
namespace Dv
open PySem PySem.Spec PyProof.Rows L2

/-! ### an object that wasn't tracked is tracked -/
section
variable {X : Cx} {pins : List (Addr × Obj)} {σ : L2.St} {H : Hp} {s : Shared}
theorem inv_adopt {a : Addr} {o : HO} (I : Inv X pins σ H s) (na : H a = none) (nL : a ≠ X.env.locals) (nC : ∀ x c, X.env.cells.lookup x = some c → c ≠ a) (nP : ∀ p ∈ X.pn ++ pins, p.1 ≠ a) (n0 : X.s_0.heap.get? a = none)
    (new : ObjOk X.prog X.w (upd H a o) s.heap a o) : Inv X pins σ (upd H a o) s := by
  have ne0 : ∀ b ob, X.s_0.heap.get? b = some ob → b ≠ a := fun b ob e z => by
    rw [z, n0] at e
    cases e
  refine ⟨I.ok, I.os, I.bare, ⟨I.base.keep, I.base.slot, fun b ob q n hx => ?_, I.base.there, fun b xs q => ?_, fun b ob u q => ?_, fun b ps q => ?_⟩, I.loc, I.cell, ?_, fun x c e => ?_, fun p hp => ?_, fun b u e => ?_, I.len⟩
  · rw [upd_ne (ne0 b ob q)]
    exact I.base.free b ob q n hx
  · have z := I.base.tups b xs q
    rw [upd_ne (ne_of_none z na)]
    exact z
  · have z := I.base.frzs b ob u q
    rw [upd_ne (ne_of_none z na)]
    exact z
  · obtain ⟨m, z⟩ := I.base.tbls b ps q
    exact ⟨m, by rw [upd_ne (ne_of_none z na)]; exact z⟩
  · rw [upd_ne (Ne.symm nL)]
    exact I.free
  · rw [upd_ne (nC x c e)]
    exact I.freeC x c e
  · obtain ⟨e, n, r⟩ := I.pin p hp
    exact ⟨e, by rw [upd_ne (nP p hp)]; exact n, r⟩
  · by_cases hb : b = a
    · subst hb
      rw [upd_same] at e
      cases e
      exact new
    · rw [upd_ne hb] at e
      exact (I.hok b u e).stay (fun c v _ q => q) (fun c q => by rw [upd_ne (ne_of_none q na)]; exact q) fun c xs q => by rw [upd_ne (ne_of_none q na)]; exact q
theorem exh_ok {P : Program} {w : World} {h : Heap} {a : Addr} {cls : Value} {d : Option Addr} {oe : Obj} {vs : Array Value} (e : h.get? a = some oe) (z : Zc cls d oe) (f : oe.data = .fields vs) : ObjOk P w H h a (ExH cls d a) :=
  ⟨⟨oe, vs, e, z, f⟩, ⟨oe, e⟩, fun _ _ ⟨o, v, q, r⟩ k => ⟨o, v, k o q, r⟩⟩
end
/-- as wAs; behind the suite the exception is tracked -/
def wKeep (K : PySem.W.Frag) (c : Value) (i : Nat) (ts : Addr → Value → Option Addr → TS) (Wout : WX) (D : Ends) : WX := fun cls d σ H =>
  ∃ b, PySem.W.exmOne K cls c = some b ∧ (b = true → ∀ a, H a = none → ts a cls d { nx := fun σ' H' => D.nx (σ'.set i none) (upd H' a (ExH cls d a)), rt := fun v H' => D.rt v (upd H' a (ExH cls d a)), bk := fun σ' H' => D.bk (σ'.set i none) (upd H' a (ExH cls d a)), ct := fun σ' H' => D.ct (σ'.set i none) (upd H' a (ExH cls d a)) } (σ.set i (some (.ref a))) H) ∧
    (b = false → Wout cls d σ H)
section
variable {X : Cx} {x n : Str} {c : Value} {i : Nat} {body suite : List Stmt} {b₀ : Stmt} {np pos pos' : Pos} {tb : WX → TS} {ts : Addr → Value → Option Addr → TS} {Wout : WX}
theorem ps_try_keep (hs : X.stack = X.env :: X.outer) (hf : X.env.frame = some X.env.locals) (hex : X.ex = []) (hN : X.N.Nodup) (hi : X.N[i]? = some n) (hln : X.env.kindOf n = some .local) (hc : Names X x c) (tk : Takes X Wout)
    (hb : ∀ (W : WX) (pn : List (Addr × Obj)) (xe : Value → Shared → Prop), Takes (X.tr pn xe) W → PassesOwn (model X.prog X.w) X.A X.env xe → PSs (X.tr pn xe) body (tb W))
    (hsu : ∀ (a : Addr) (oe : Obj) (cls : Value) (d : Option Addr) (pn : List (Addr × Obj)), Zc cls d oe → (∃ vs, oe.data = .fields vs) → PSs (X.suite a ((a, oe) :: pn)) (b₀ :: suite) (ts a cls d)) :
    PS X (.Try body [.ExceptHandler (some (.Name x np)) (some n) (b₀ :: suite) pos'] [] [] pos) (fun D σ H => tb (wKeep X.K c i ts Wout D) D σ H) := by
  refine ⟨fun pins s σ H D I h => ?_⟩
  have ok := I.ok
  have hfr : X.A.frames = some (X.env :: X.outer) := by rw [ok.frames, hs]
  have hloc : Loc X.env.scope n := .inl hln
  refine wpAny_Try_except ?_
  refine wpAny_mono ((hb (wKeep X.K c i ts Wout D) (X.pn ++ pins) (fun e s₁ => wpAny (model X.prog X.w) X.A (noteFrame e X.env) (fun _ s₂ => wpAny (model X.prog X.w) X.A (setFlight e none) (fun _ s₃ =>
    wpAny (model X.prog X.w) X.A (handleBy e X.env [.ExceptHandler (some (.Name x np)) (some n) (b₀ :: suite) pos']) (SP X pins D) X.xe s₃) X.xe s₂) X.xe s₁) (fun u s' xx => ?_) PassesOwn.looking).run [] s σ H D (I.toTry _) h) (fun f s1 hsp => ?_) (fun e s1 he => he)
  · -- the catch
    obtain ⟨a, B, sI, pins', σ', H', cls, d, rfl, J', nb, up, sky, na, os, ag, b, hb1, hyes, hno⟩ := xx
    have J : Inv X pins σ' H' sI := J'.ofTry ok
    have sky' : Sky B (X.env :: X.outer) a (Zc cls d) X.env.locals s'.heap := by rw [← hs]; exact sky
    show wpAny _ X.A (noteFrame (.ref a) X.env) _ _ _
    refine Sky.land Zc.steady hfr hf sky' fun h3 fl3 up3 => ?_
    have J3 : Inv X pins σ' H' { s' with heap := h3 } := J.landed nb fl3.1 (up.trans up3) os ag
    obtain ⟨oe3, vs3, he3, hz3, hd3⟩ := fl3.there
    have notFr : ∀ {h : Heap} {o : Obj} {vs : Array Value}, h.FunFrames B (X.env :: X.outer) → h.get? a = some o → o.data = .fields vs → a ∉ frs (X.env :: X.outer) := fun {h o vs} ff e dd hm => by
      obtain ⟨_, o', e', hnf⟩ := ff.mem hm
      rw [e] at e'; cases e'
      exact hnf _ dd
    have nfr := notFr fl3.2.2.1 he3 hd3
    have nL : a ≠ X.env.locals := fun z => nfr (List.mem_filterMap.mpr ⟨X.env, List.mem_cons_self, by rw [hf, z]⟩)
    have nF : a ∉ X.fs := fun hm => by
      obtain ⟨e, he, q⟩ := List.mem_filterMap.mp hm
      exact nfr (List.mem_filterMap.mpr ⟨e, List.mem_cons_of_mem _ he, q⟩)
    -- what was there is not the exception
    have old : ∀ b ob, sI.heap.get? b = some ob → b ≠ a := fun b ob e z => by
      have hbf : b ∉ frs X.stack := fun hm => by
        rw [hs] at hm
        exact nfr (by rw [← z]; exact hm)
      have q := nb b ob e hbf
      rw [z, fl3.2.1] at q
      cases q
    have n0 : X.s_0.heap.get? a = none := by
      cases e : X.s_0.heap.get? a with
      | none => rfl
      | some ob =>
        obtain ⟨o', q⟩ := J.base.there a ob e (by rw [hex]; exact fun z => nomatch z)
        exact (old a o' q rfl).elim
    have nC : ∀ x c, X.env.cells.lookup x = some c → c ≠ a := fun x c e => by
      obtain ⟨v, ob, q, _⟩ := J.cell x c e
      exact old c ob q
    have nP : ∀ p ∈ X.pn ++ pins, p.1 ≠ a := fun p hp => old p.1 p.2 (J.pin p hp).1
    have S3 := J3.suite he3 hd3 na nL nF
    refine wpAny_handleBy_cons (codeAny_handlers_test ?_) (by intro q; cases q)
    have LT : PySem.W.Looks (model X.prog X.w) h3 (typeOf (.ref a)) cls := fun A Q E s k q => wpAny_typeOf_ref (k _ _ he3) (by rw [hz3.1]; exact q)
    have LM := PySem.W.exm_one (M := model X.prog X.w) (J3.kIn) LT hb1
    have test : ∀ {Q : Value → Shared → Prop} {E : Value → Shared → Prop}, Q c { s' with heap := h3 } → wpAny (model X.prog X.w) (X.A.mark (some (.ref a))) (eval (.Name x np) X.env) Q E { s' with heap := h3 } := fun {Q E} q => by
      obtain ⟨hg, hdbg, hm | ⟨hm, hv, hnn⟩⟩ := hc
      · exact ld_glob (X := X.suite a ((a, oe3) :: (X.pn ++ pins))) S3 hg hm q hdbg
      · exact ld_blt (X := X.suite a ((a, oe3) :: (X.pn ++ pins))) S3 hg hm hv q hnn hdbg
    refine test (LM.here ?_)
    cases b with
    | true =>
      refine codeAny_handlers_suite_as ?_
      refine HandSPX.lands_againZ fl3 fun h4 fl4 up4 => ?_
      have J4 : Inv X pins σ' H' { s' with heap := h4 } := J.landed nb fl4.1 ((up.trans up3).trans up4) os ag
      obtain ⟨oe4, vs4, he4, hz4, hd4⟩ := fl4.there
      have S4 := J4.suite he4 hd4 na nL nF
      refine store_ok (X := X.suite a ((a, oe4) :: (X.pn ++ pins))) (v := .ref a) S4 hN hi hloc rfl (fun s5 S5 => ?_) (.inr hln)
      refine wpAny_mono ((hsu a oe4 cls d (X.pn ++ pins) hz4 ⟨_, hd4⟩).run [] s5 _ H' _ S5 (hyes rfl a na)) (fun f s6 hsp => ?_) (fun _ _ z => False.elim z)
      have end_ : ∀ {σ6 : L2.St} {H6 : Hp} {Q : Shared → Prop}, Inv (X.suite a ((a, oe4) :: (X.pn ++ pins))) [] σ6 H6 s6 → (∀ s7, Inv X pins (σ6.set i none) (upd H6 a (ExH cls d a)) s7 → Q s7) →
          wpAny (model X.prog X.w) X.A (do bindName X.env n .none; unbindBehindTheSuite X.env n pos') (fun _ s7 => Q s7) X.xe s6 := fun {σ6 H6 Q} S6 hq => by
        obtain ⟨e6, n6, _⟩ := S6.pin (a, oe4) (List.mem_append_left _ List.mem_cons_self)
        exact gone_ok (inv_adopt (S6.unsuite ok) n6 nL nC nP n0 (exh_ok e6 hz4 hd4)) hN hi hln hq
      cases f with
      | next =>
        obtain ⟨σ6, H6, S6, q6⟩ := hsp
        exact end_ S6 fun s7 J7 => ⟨_, _, J7, q6⟩
      | brk =>
        obtain ⟨σ6, H6, S6, q6⟩ := hsp
        exact end_ S6 fun s7 J7 => ⟨_, _, J7, q6⟩
      | cont =>
        obtain ⟨σ6, H6, S6, q6⟩ := hsp
        exact end_ S6 fun s7 J7 => ⟨_, _, J7, q6⟩
      | ret u =>
        obtain ⟨v6, σ6, H6, S6, r6, q6⟩ := hsp
        exact end_ S6 fun s7 J7 => ⟨_, _, _, J7, r6, q6⟩
    | false =>
      show wpAny _ X.A (handleBy (.ref a) X.env []) _ _ _
      refine wpAny_handleBy_nil ?_
      obtain ⟨k1, k2, k3, oe, vs, T, oT, ts', he, hz, hd, h1, hr⟩ := id fl3
      unfold PySem.passOn
      refine wpAny_bind (wpAny_field he hd h1 ?_)
      rw [if_neg (show ¬ ((Value.ref T == Value.none) = true) from by simp)]
      have fin : wpAny (model X.prog X.w) X.A (setFlight (.ref a) X.env.frame) (fun _ s4 => wpAny (model X.prog X.w) X.A (throw (.ref a) : Sem Flow) (SP X pins D) X.xe s4) X.xe { s' with heap := h3 } := by
        rw [hf]
        refine HandSPX.setFlight_upZ fl3 fun h4 hh4 up4 => wpAny_throw (tk _ _ ?_)
        exact ⟨a, B, sI, pins, σ', H', cls, d, rfl, J, nb, (up.trans up3).trans up4, .inr (.inr (by rw [hs]; exact hh4)), na, os, ag, hno rfl⟩
      first
        | exact wpAny_bind (wpAny_pure (wpAny_bind fin))
        | exact wpAny_bind fin
  · cases f with
    | next =>
      obtain ⟨σ', H', J', q⟩ := hsp
      exact wpAny_execs_nil ⟨σ', H', J'.ofTry ok, q⟩
    | brk =>
      obtain ⟨σ', H', J', q⟩ := hsp
      exact ⟨σ', H', J'.ofTry ok, q⟩
    | cont =>
      obtain ⟨σ', H', J', q⟩ := hsp
      exact ⟨σ', H', J'.ofTry ok, q⟩
    | ret u =>
      obtain ⟨v, σ', H', J', r, q⟩ := hsp
      exact ⟨v, σ', H', J'.ofTry ok, r, q⟩
end

/-! ### the classes -/
abbrev veMro : List Value := [.type "ValueError", .type "Exception", .type "BaseException", .type "object"]
/-- a class of the program, as a name of its own -/
structure Cl (K : PySem.W.Frag) (mg : Str → Option Value) (c : Str) (C : Addr) : Prop where
  n : PySem.W.nsIn K mainGlobals c = some (some (.ref C))
  g : mg c = some (.ref C)
  i : PySem.W.isClsIn K C = true
  t : PySem.W.typeIn K (.ref C) = some (.type "type")
/-- one that is raised -/
structure Rc (K : PySem.W.Frag) (mg : Str → Option Value) (c : Str) (C : Addr) : Prop extends Cl K mg c C where
  k : PySem.W.keepIn K (.ref C) = true
  b : PySem.W.subIn K (.ref C) (.type "BaseException") = some true
  s : PySem.W.subIn K (.ref C) (.ref C) = some true
  e : ExcC K C
/-- the answers about subclasses -/
def SubOk (K : PySem.W.Frag) (p : Str × Str × Bool) : Prop := ∀ C D, ClsAt K p.1 C → ClsAt K p.2.1 D → PySem.W.kitOne K (.ref C) (.ref D) = some p.2.2
def subT (L : List (Str × Str × Bool)) (c d : Str) : Option Bool := (L.find? fun p => p.1 == c && p.2.1 == d).map (·.2.2)
theorem subT_mem {L : List (Str × Str × Bool)} {c d : Str} {b : Bool} (h : subT L c d = some b) : (c, d, b) ∈ L := by
  unfold subT at h
  cases q : L.find? fun p => p.1 == c && p.2.1 == d with
  | none => rw [q] at h; cases h
  | some p =>
    rw [q] at h
    have e := Option.some.inj h
    have m := List.mem_of_find?_eq_some q
    have z := List.find?_some q
    rw [Bool.and_eq_true] at z
    obtain ⟨p1, p2, p3⟩ := p
    have e1 : p1 = c := eq_of_beq z.1
    have e2 : p2 = d := eq_of_beq z.2
    have e3 : p3 = b := e
    subst e1 e2 e3
    exact m
theorem cls_some {K : PySem.W.Frag} {C : Addr} (h : PySem.W.isClsIn K C = true) : (PySem.W.clsIn K C).isSome = true := h
theorem sub_ok {K : PySem.W.Frag} {mg : Str → Option Value} {c d : Str} {C D : Addr} {b : Bool} (h1 : Rc K mg c C) (h2 : Cl K mg d D) (h : PySem.W.subIn K (.ref C) (.ref D) = some b) : SubOk K (c, d, b) := fun C' D' e1 e2 => by
  have e3 : C = C' := ClsAt.uniq h1.n e1
  have e4 : D = D' := ClsAt.uniq h2.n e2
  subst e3 e4
  unfold PySem.W.kitOne
  by_cases q : (Value.ref C == Value.ref D) = true
  · rw [if_pos q]
    have e : C = D := Value.ref.inj (beq_iff_eq.mp q)
    subst e
    rw [h1.s] at h
    exact h
  · rw [if_neg q]
    have z : ((PySem.W.clsIn K D).isSome && PySem.W.typeIn K (.ref D) == some (.type "type")) = true := by rw [cls_some h2.i, h2.t] <;> rfl
    show (if ((PySem.W.clsIn K D).isSome && PySem.W.typeIn K (.ref D) == some (.type "type")) = true then PySem.W.subIn K (.ref C) (.ref D) else none) = some b
    rw [if_pos z]
    exact h
/-- except D -/
def CatchOk (K : PySem.W.Frag) (p : Str × Str × Bool) : Prop := ∀ C D, ClsAt K p.1 C → ClsAt K p.2.1 D → PySem.W.exmOne K (.ref C) (.ref D) = some p.2.2
theorem catch_ok {K : PySem.W.Frag} {mg : Str → Option Value} {c d : Str} {C D : Addr} {b : Bool} (h1 : Rc K mg c C) (h2 : Cl K mg d D) (h : PySem.W.subIn K (.ref C) (.ref D) = some b) (hb : PySem.W.subIn K (.ref D) (.type "BaseException") = some true) : CatchOk K (c, d, b) := fun C' D' e1 e2 => by
  have e3 : C = C' := ClsAt.uniq h1.n e1
  have e4 : D = D' := ClsAt.uniq h2.n e2
  subst e3 e4
  have z1 : (PySem.W.subIn K (.ref D) (.type "BaseException") == some true) = true := by rw [hb] <;> rfl
  have z : ((PySem.W.clsIn K D).isSome && PySem.W.typeIn K (.ref D) == some (.type "type")) = true := by rw [cls_some h2.i, h2.t] <;> rfl
  show (if (PySem.W.subIn K (.ref D) (.type "BaseException") == some true) = true then (if ((PySem.W.clsIn K D).isSome && PySem.W.typeIn K (.ref D) == some (.type "type")) = true then PySem.W.subIn K (.ref C) (.ref D) else none) else none) = some b
  rw [if_pos z1, if_pos z]
  exact h

theorem all_c {α : Type} {P : α → Prop} {a : α} {l : List α} (h : P a) (t : ∀ x ∈ l, P x) : ∀ x ∈ a :: l, P x := List.forall_mem_cons.mpr ⟨h, t⟩
theorem all_n {α : Type} {P : α → Prop} : ∀ x ∈ ([] : List α), P x := fun x h => nomatch h
theorem ec_of {K : PySem.W.Frag} {mg : Str → Option Value} {c : Str} {C : Addr} (h1 : Rc K mg c C) : ∀ C', ClsAt K c C' → ExcC K C' := fun C' e1 => by
  have e3 : C = C' := ClsAt.uniq h1.n e1
  subst e3
  exact h1.e
/-! ### raise -/
def yRaise (c : Str) : Env → Store → Out := fun e S => .exc ⟨c, none⟩ e S
section
variable {X : Cx} {W : WX} {x m : Str} {j : Nat} {p p2 pos pos2 : Pos} {C : Addr}
theorem psd_raise (hc : X.calm = true) (tk : Takes X W) (R : Rc X.K X.mg x C) (q : PySem.W.excIn X.K C veMro "ValueError.__new__" = true) (hg : Gl X x := by rfl) (hdb : (x == ("__debug__" : Str)) = false := by decide) :
    PSD X W (.Raise (some (.Call (.Name x p) [.Constant (.str m) j p2] [] pos)) none pos2) (yRaise x) := by
  refine weakS (ps_raise hc tk (pmk_own PySem.F.excBase_ValueError q R.g R.k (raises_own R.b R.t) hg hdb)) fun D σ H ⟨w, env, eH, hw, he, hs⟩ => ?_
  subst eH
  exact hs w σ (.ref C) none (Go.refl hw) rfl he ⟨C, R.n, rfl, rfl⟩
end

/-! ### try .. except D as e: y = e -/
def yTryKeep (L : List (Str × Str × Bool)) (d : Str) (i j : Nat) (g : Env → Store → Out) : Env → Store → Out := fun e S => match g e S with
  | .exc x e' S' => match subT L x.cls d with
    | some true => match e'[i]? with
      | some _ => .nx ((e'.set j (some (.exn x.cls x.val))).set i none) S'
      | none => .bad
    | some false => .exc x e' S'
    | none => .bad
  | o => o
section
variable {X : Cx} {W : WX} {x n y : Str} {i j : Nat} {body : List Stmt} {np pos pos' py pe ps : Pos} {g : Env → Store → Out} {L : List (Str × Str × Bool)} {Dc : Addr}
theorem psd_tryKeep (hs : X.stack = X.env :: X.outer) (hf : X.env.frame = some X.env.locals) (hex : X.ex = []) (hN : X.N.Nodup) (hi : X.N[i]? = some n) (hj : X.N[j]? = some y) (hij : i ≠ j) (hln : X.env.kindOf n = some .local) (hly : X.env.scope.names.lookup y = some .local) (tk : Takes X W)
    (hg : Gl X x) (hd : Cl X.K X.mg x Dc) (hL : ∀ p ∈ L, CatchOk X.K p)
    (hb : ∀ (W : WX) (pn : List (Addr × Obj)) (xe : Value → Shared → Prop), Takes (X.tr pn xe) W → PassesOwn (model X.prog X.w) X.A X.env xe → PSsD (X.tr pn xe) W body g)
    (hsw : swapsWith (.Name n pe) (some (.Name y py)) ps.line X.env = pure false := by rfl) (hdb : (x == ("__debug__" : Str)) = false := by decide) (hn1 : (n == ("__debug__" : Str)) = false := by decide) (hn2 : (n == ("__classdict__" : Str)) = false := by decide) :
    PSD X W (.Try body [.ExceptHandler (some (.Name x np)) (some n) [.Assign [.Name y py] (.Name n pe) ps] pos'] [] [] pos) (yTryKeep L x i j g) := by
  refine weakS (ps_try_keep (i := i) (c := .ref Dc) (tb := fun W => sD (kt X) W g) (ts := fun _ _ _ => tAsg (tVar i) (gName j)) hs hf hex hN hi hln ⟨hg, hdb, .inl hd.g⟩ tk (fun W pn xe tk' pas => hb W pn xe tk' pas)
    (fun a oe cls d pn hz hf' => pss_one (ps_set (i := j) hN hj (.inl hly) (pe_var (i := i) hi (.inl hln) hn1 hn2) hsw (.inr hly)))) fun D σ H ⟨w, env, eH, hw, he, hs⟩ => ⟨w, env, eH, hw, he, ?_⟩
  unfold yTryKeep at hs
  cases o : g env w.S with
  | nx e S => rw [o] at hs; exact hs
  | rt e S => rw [o] at hs; exact hs
  | bk e S => rw [o] at hs; exact hs
  | ct e S => rw [o] at hs; exact hs
  | bad => rw [o] at hs; exact hs
  | exc z e' S' =>
    rw [o] at hs
    intro w' σ' cls dd g' eS he' hx
    obtain ⟨C, c1, rfl, c3⟩ := hx
    cases q : subT L z.cls x with
    | none => simp only [q] at hs; exact hs.elim
    | some b =>
      refine ⟨b, hL _ (subT_mem q) C Dc c1 hd.n, fun hb a na => ?_, fun hb => ?_⟩
      · subst hb
        simp only [q] at hs
        cases qi : e'[i]? with
        | none => simp only [qi] at hs; exact hs.elim
        | some oo =>
          simp only [qi] at hs
          have hlt : i < σ'.length := by
            rw [← he'.1]
            exact (List.getElem?_eq_some_iff.mp qi).1
          refine ⟨.ref a, List.getElem?_set_self hlt, ?_⟩
          have ga := Go.alloc (o := ExH (.ref C) dd a) g'.wd na
          have r2 : Rp X.K w'.r (upd w'.F a (ExH (.ref C) dd a)) (.exn z.cls z.val) (.ref a) := by
            unfold Rp
            exact ⟨a, C, dd, rfl, c1, upd_same, c3.mono ga.F⟩
          have he2 := (((he'.go ga).set (i := j) r2).unset (i := i))
          have es : ((σ'.set i (some (V.ref a))).set j (some (V.ref a))).set i none = (σ'.set j (some (V.ref a))).set i none := by
            apply List.ext_getElem?
            intro k
            simp only [List.getElem?_set, List.length_set]
            by_cases hk : i = k
            · simp [hk]
            · simp [hk]
          show D.nx (((σ'.set i (some (V.ref a))).set j (some (V.ref a))).set i none) _
          rw [es]
          exact hs ⟨w'.r, upd w'.F a (ExH (.ref C) dd a), w'.S, upd w'.H a (ExH (.ref C) dd a)⟩ _ (g'.trans ga) eS he2
      · subst hb
        simp only [q] at hs
        exact hs w' σ' _ dd g' eS he' ⟨C, c1, rfl, c3⟩
end

/-! ### isinstance of what was caught; its field -/
def VeOk (K : PySem.W.Frag) (c : Str) : Prop := ∀ C, ClsAt K c C → PySem.W.kitOne K (.ref C) (.type "ValueError") = some true
theorem ve_ok {K : PySem.W.Frag} {mg : Str → Option Value} {c : Str} {C : Addr} (h1 : Rc K mg c C) (h : PySem.W.subIn K (.ref C) (.type "ValueError") = some true) : VeOk K c := fun C' e1 => by
  have e3 : C = C' := ClsAt.uniq h1.n e1
  subst e3
  have q : ¬ (Value.ref C == Value.type "ValueError") = true := by
    intro z
    have e := beq_iff_eq.mp z
    cases e
  unfold PySem.W.kitOne
  rw [if_neg q]
  show (if PySem.W.kitMeta "ValueError" = true then PySem.W.subIn K (.ref C) (.type "ValueError") else none) = some true
  rw [if_pos (by decide +kernel)]
  exact h
/-- what is asked of the classes that may be caught -/
structure XcOk (K : PySem.W.Frag) (L : List (Str × Str × Bool)) (R : List Str) : Prop where
  sub : ∀ p ∈ L, SubOk K p
  ve : ∀ c ∈ R, VeOk K c
  ec : ∀ c ∈ R, ∀ C, ClsAt K c C → ExcC K C
def anyE (L : List (Str × Str × Bool)) (c : Str) : List D → Option Bool
  | [] => some false
  | .cls d :: l => match subT L c d, anyE L c l with
    | some a, some b => some (a || b)
    | _, _ => none
  | _ => none
def bIsE (L : List (Str × Str × Bool)) (R : List Str) (l : List D) (S : Store) : Res D := match l with
  | [.exn c _, .tup l] => if c ∈ R then match anyE L c l with
      | some b => .ok (.bl b) S
      | none => .bad
    else .bad
  | [.exn c _, .cls d] => if c ∈ R then match subT L c d with
      | some b => .ok (.bl b) S
      | none => .bad
    else .bad
  | [.exn c _, .raw v] => if c ∈ R ∧ v = .ty "ValueError" then .ok (.bl true) S else .bad
  | _ => .bad
def rIsX (K : PySem.W.Frag) : List V → Hp → VK → Prop := fun xs H Q => ∃ (a C : Addr) (d : Option Addr) (c : V) (cv : Value) (b : Bool), xs = [.ref a, c] ∧ (∀ u, RelV c u → u = cv) ∧ H a = some (ExH (.ref C) d a) ∧ (∀ b, d = some b → ∃ o, H b = some o) ∧ ExcC K C ∧ PySem.W.kitOne K (.ref C) cv = some b ∧ Q (.bl b) H
theorem exh_at {P : Program} {w : World} {H : Hp} {h : Heap} {a C : Addr} {d : Option Addr} (hok : HOk P w H h) (e : H a = some (ExH (.ref C) d a)) (hd : ∀ b, d = some b → ∃ o, H b = some o) : ∃ oe od, PySem.W.InstAt h a oe C od ∧ ∀ b, d = some b → ∃ o, od = some o ∧ h.get? b = some o := by
  have z : ObjOk P w H h a (ExH (.ref C) d a) := hok a _ e
  obtain ⟨⟨oe, vs, h1, h2, h3⟩, _, _⟩ := z
  obtain ⟨oc, odd, oda, osl⟩ := oe
  obtain ⟨h4, h5⟩ := h2
  dsimp only at h3 h4 h5
  subst h3 h4 h5
  cases odd with
  | none => exact ⟨_, none, ⟨h1, rfl, rfl, trivial⟩, fun b q => by cases q⟩
  | some b =>
    obtain ⟨o, q⟩ := hd b rfl
    obtain ⟨ob, eb⟩ := objOk_get (hok b o q)
    exact ⟨_, some ob, ⟨h1, rfl, rfl, eb⟩, fun b' q' => by cases q'; exact ⟨ob, rfl, eb⟩⟩
section
variable {X : Cx} {W : WX}
theorem call_isX : CallR X (.builtin "isinstance") (rIsX X.K) := by
  intro pins s σ H xs us Q I r h
  obtain ⟨a, C, d, c, cv, b, rfl, hcv, ha, hd, E, e, q⟩ := h
  obtain ⟨u1, u2, rfl, r1, r2⟩ := vals2 r
  cases (show u1 = Value.ref a from r1)
  have ec := hcv _ r2
  subst ec
  obtain ⟨oe, od, J, _⟩ := exh_at I.hok ha hd
  have hcl : (PySem.W.clsIn X.K C).isSome = true := by obtain ⟨cd, hc, _⟩ := PySem.W.any_some E.hd; rw [hc]; rfl
  exact PySem.W.kia_one (PySem.W.kitx_exc hcl E.hg E.hk E.hs E.ha E.hn E.ht E.hm) I.kIn J e (fun z => nomatch z) fun tk => ⟨.bl b, H, I.tok tk, rfl, q⟩
def rIsXT (K : PySem.W.Frag) : List V → Hp → VK → Prop := fun xs H Q => ∃ (a C : Addr) (d : Option Addr) (tp : Addr) (vs : List V) (us : List Value) (b : Bool), xs = [.ref a, .ref tp] ∧ Rd H tp (.tup vs) ∧ (∀ ws, Vals vs ws → ws = us) ∧ H a = some (ExH (.ref C) d a) ∧ (∀ b, d = some b → ∃ o, H b = some o) ∧ ExcC K C ∧ PySem.W.kitAny K (.ref C) us = some b ∧ Q (.bl b) H
theorem call_isXT : CallR X (.builtin "isinstance") (rIsXT X.K) := by
  intro pins s σ H xs us Q I r h
  obtain ⟨a, C, d, tp, vs, ws, b, rfl, hT, hcv, ha, hd, E, e, q⟩ := h
  obtain ⟨u1, u2, rfl, r1, r2⟩ := vals2 r
  cases (show u1 = Value.ref a from r1)
  cases (show u2 = Value.ref tp from r2)
  obtain ⟨oe, od, J, _⟩ := exh_at I.hok ha hd
  have hcl : (PySem.W.clsIn X.K C).isSome = true := by obtain ⟨cd, hc, _⟩ := PySem.W.any_some E.hd; rw [hc]; rfl
  obtain ⟨_, its, rv, o, h1, h2, n, h3⟩ := (show ObjOk X.prog X.w H s.heap tp (.tup vs) from hT.ok I.hok)
  have e3 := hcv _ rv
  subst e3
  obtain ⟨oc, odd, dt, sl⟩ := o
  simp only at h2 h3
  subst h2 h3
  exact PySem.W.kia_tup (PySem.W.kitx_exc hcl E.hg E.hk E.hs E.ha E.hn E.ht E.hm) I.kIn J h1 e (fun z => nomatch z) fun tk => ⟨.bl b, H, I.tok tk, rfl, q⟩
theorem any_ok {K : PySem.W.Frag} {L : List (Str × Str × Bool)} {r : List Addr} {F : Hp} {c : Str} {C : Addr} (hx : ∀ p ∈ L, SubOk K p) (hC : ClsAt K c C) : ∀ {l : List D} {vs : List V} {b : Bool}, Rps K r F l vs → anyE L c l = some b → ∃ us : List Value, (∀ ws, Vals vs ws → ws = us) ∧ PySem.W.kitAny K (.ref C) us = some b
  | [], vs, b, h, e => by
    rw [h.nil_inv]
    cases e
    exact ⟨[], fun ws q => by cases q; rfl, rfl⟩
  | .cls d :: l, vs, b, h, e => by
    obtain ⟨v, t, rfl, h1, h2⟩ := h.cons_inv
    unfold Rp at h1
    obtain ⟨D, hD, rfl⟩ := h1
    have us_of : ∀ {us : List Value}, (∀ ws, Vals t ws → ws = us) → ∀ ws, Vals (V.ref D :: t) ws → ws = Value.ref D :: us := fun {us} hu ws q => by
      cases q with
      | cons q1 q2 =>
        rw [hu _ q2, show _ = Value.ref D from q1]
    unfold anyE at e
    cases q : subT L c d with
    | none => rw [q] at e; cases e
    | some k =>
      cases q2 : anyE L c l with
      | none => rw [q, q2] at e; cases e
      | some k2 =>
        rw [q, q2] at e
        cases e
        have hk := hx _ (subT_mem q) C D hC hD
        obtain ⟨us, h3, h4⟩ := any_ok hx hC h2 q2
        refine ⟨_, us_of h3, ?_⟩
        unfold PySem.W.kitAny
        rw [hk]
        cases k with
        | true => rfl
        | false => exact h4
  | .non :: _, _, _, _, e => by cases e
  | .bl _ :: _, _, _, _, e => by cases e
  | .int _ :: _, _, _, _, e => by cases e
  | .str _ :: _, _, _, _, e => by cases e
  | .tup _ :: _, _, _, _, e => by cases e
  | .lst _ :: _, _, _, _, e => by cases e
  | .scr _ :: _, _, _, _, e => by cases e
  | .cell _ :: _, _, _, _, e => by cases e
  | .raw _ :: _, _, _, _, e => by cases e
  | .exn _ _ :: _, _, _, _, e => by cases e
theorem fld_some {F H : Hp} (s : Same F H) {d : Option Addr} {f : Option (Str × Int)} (h : FldOk F d f) : ∀ b, d = some b → ∃ o, H b = some o := fun b e => by
  cases f with
  | none =>
    have z : d = none := h
    rw [z] at e
    cases e
  | some p =>
    obtain ⟨b', e', q⟩ := h
    rw [e'] at e
    cases e
    exact ⟨_, s _ _ q⟩
theorem cd_isE {L : List (Str × Str × Bool)} {R : List Str} (hx : XcOk X.K L R) : CallD X (.builtin "isinstance") (bIsE L R) := ⟨_, call_isX.or call_isXT, fun w xs ds W σ Q hw r hs => by
  unfold bIsE at hs
  split at hs
  · rename_i c f l
    obtain ⟨v, u, rfl, rv, ru⟩ := two_inv r
    unfold Rp at rv ru
    obtain ⟨a, C, dd, rfl, hC, hF, hf⟩ := rv
    obtain ⟨tp, vs, rfl, hT, hvs⟩ := ru
    obtain ⟨hR, hs⟩ := satIf hs
    cases q : anyE L c l with
    | none => simp only [q] at hs; exact hs.elim
    | some b =>
      simp only [q] at hs
      obtain ⟨us, h1, h2⟩ := any_ok hx.sub hC hvs q
      exact .inr ⟨a, C, dd, tp, vs, us, b, rfl, rd_same hw.same hT, h1, hw.same _ _ hF, fld_some hw.same hf, hx.ec c hR C hC, h2, SatW.here hs hw rpb⟩
  · rename_i c f d
    obtain ⟨v, u, rfl, rv, ru⟩ := two_inv r
    unfold Rp at rv ru
    obtain ⟨a, C, dd, rfl, hC, hF, hf⟩ := rv
    obtain ⟨D, hD, rfl⟩ := ru
    obtain ⟨hR, hs⟩ := satIf hs
    cases q : subT L c d with
    | none => simp only [q] at hs; exact hs.elim
    | some b =>
      simp only [q] at hs
      exact .inl ⟨a, C, dd, _, .ref D, b, rfl, fun u e => e, hw.same _ _ hF, fld_some hw.same hf, hx.ec c hR C hC, hx.sub _ (subT_mem q) C D hC hD, SatW.here hs hw rpb⟩
  · rename_i c f v0
    obtain ⟨v, u, rfl, rv, ru⟩ := two_inv r
    unfold Rp at rv
    obtain ⟨a, C, dd, rfl, hC, hF, hf⟩ := rv
    cases rp_raw ru
    obtain ⟨⟨hR, he⟩, hs2⟩ := satIf hs
    rw [he]
    exact .inl ⟨a, C, dd, _, .type "ValueError", true, rfl, fun u e => e, hw.same _ _ hF, fld_some hw.same hf, hx.ec c hR C hC, hx.ve c hR C hC, SatW.here hs2 hw rpb⟩
  · exact hs.elim⟩
theorem pd_cls {x : Str} {C : Addr} {pos : Pos} (R : Cl X.K X.mg x C) (hg : Gl X x := by rfl) (hd : (x == ("__debug__" : Str)) = false := by decide) : PD X W (.Name x pos) (xC (.cls x)) := by
  refine weakE (pe_glob (v := V.ref C) hg R.g rfl hd) fun σ H Q ⟨w, env, eH, hw, he, hs⟩ => ?_
  subst eH
  exact SatW.here (d := D.cls x) (v := V.ref C) hs hw (by unfold RD Rp; exact ⟨C, R.n, rfl⟩)
/-- e.f -/
def xFldX (f : Str) (g : Env → M D) : Env → M D := fun e S => (g e S).bind fun d S1 => match d with
  | .exn _ (some (f', i)) => if f' = f then .ok (.int i) S1 else .bad
  | _ => .bad
theorem units65 {k : Nat} {A : Around} (r : Room k A) : A.units + 65 < cLine := by have := r.un; omega
/-! ### list.index, in: data of any depth -/
def mIndexD (x : D) (a : List D) (S : Store) : Res D := match a with
  | [k] => match toP S 60 k, toP S 60 x with
    | some d, some (.list ds) => match ds.findIdx? fun y => PyData.eqv y d with
      | some j => .ok (.int (j : Nat)) S
      | none => .bad
    | _, _ => .bad
  | _ => .bad
theorem dp_ref {K : PySem.W.Frag} {H : Hp} {v : V} {ds : List PyData} (h : Dp K H v (.list ds)) : ∃ a, v = .ref a := by
  cases h with
  | lst _ _ => exact ⟨_, rfl⟩
theorem md_indexD (hu : X.A.units + 65 < cLine) : MtD X "list.index" mIndexD := ⟨_, mt_indexD hu, fun w x xs d ds W σ Q hw r1 r2 hs => by
  unfold mIndexD at hs
  split at hs
  · rename_i k
    obtain ⟨v0, rfl, rv0⟩ := one_inv r2
    split at hs
    · rename_i p ps h1 h2
      have dp := toP_dp hw 60 d x _ h2 r1
      obtain ⟨a, rfl⟩ := dp_ref dp
      cases q : ps.findIdx? fun y => PyData.eqv y p with
      | none => simp only [q] at hs; exact hs.elim
      | some j =>
        simp only [q] at hs
        obtain ⟨hj, hz, hno⟩ := List.findIdx?_eq_some_iff_getElem.mp q
        refine ⟨a, v0, p, ps, j, ps[j], rfl, rfl, dp, toP_dp hw 60 k v0 p h1 rv0, shaped_of h2, shaped_of h1, List.getElem?_eq_getElem hj, hz, fun m z' hm e => ?_, SatW.here hs hw rpi⟩
        have := hno m hm
        rw [List.getElem?_eq_some_iff] at e
        obtain ⟨_, rfl⟩ := e
        simpa using this
    · exact hs.elim
  · exact hs.elim⟩
def dInD (neg : Bool) (x y : D) (S : Store) : Res D := match toP S 60 x, toP S 60 y with
  | some d, some (.list ds) => .ok (.bl (if neg then !ds.any (fun z => PyData.eqv z d) else ds.any fun z => PyData.eqv z d)) S
  | _, _ => .bad
theorem od_inD (hu : X.A.units + 65 < cLine) : OpD X (compareOp .In) (dInD false) := ⟨_, op_inD hu, fun w x y d e W σ Q hw r1 r2 hs => by
  unfold dInD at hs
  split at hs
  · rename_i p ps h1 h2
    exact ⟨p, ps, toP_dp hw 60 d x p h1 r1, toP_dp hw 60 e y _ h2 r2, shaped_of h1, shaped_of h2, SatW.here hs hw rpb⟩
  · exact hs.elim⟩
theorem od_notInD (hu : X.A.units + 65 < cLine) : OpD X (compareOp .NotIn) (dInD true) := ⟨_, op_notInD hu, fun w x y d e W σ Q hw r1 r2 hs => by
  unfold dInD at hs
  split at hs
  · rename_i p ps h1 h2
    exact ⟨p, ps, toP_dp hw 60 d x p h1 r1, toP_dp hw 60 e y _ h2 r2, shaped_of h1, shaped_of h2, SatW.here hs hw rpb⟩
  · exact hs.elim⟩
def FldC (K : PySem.W.Frag) (f : Str) (c : Str) : Prop := ∀ C, ClsAt K c C → PySem.W.findIn K (.ref C) f = some none ∧ XfC K C
end
end Dv
/-! # Dv14: reckoning with exceptions -/
namespace Dv
open PySem PySem.Spec PyProof.Rows L2
section
variable {oo : Option D} {ll : Env} {S S' : Store} {e e' : Env} {x : Exn} {c d : Str} {i j : Nat} {g : Env → Store → Out} {L : List (Str × Str × Bool)} {R : List Str} {Q : Pst}
@[simp] theorem yRaise_app : yRaise c (oo :: ll) S = .exc ⟨c, none⟩ (oo :: ll) S := rfl
@[simp] theorem yTry_nx (h : g e S = .nx e' S') : yTryKeep L d i j g e S = .nx e' S' := by simp only [yTryKeep, h]
theorem yTry_exc {o : Option D} (h : g e S = .exc x e' S') (hs : subT L x.cls d = some true) (hi : e'[i]? = some o) : yTryKeep L d i j g e S = .nx ((e'.set j (some (.exn x.cls x.val))).set i none) S' := by simp only [yTryKeep, h, hs, hi]
theorem enso_try (h : EnsO (g e S) Q) : EnsO (yTryKeep L d i j g e S) Q := by
  unfold yTryKeep
  cases o : g e S with
  | exc y e2 S2 => rw [o] at h; exact (h.go).elim
  | _ => rw [o] at h; exact h
/-- a body that tells or is caught -/
theorem enso_try2 (x : Exn) (hs : subT L x.cls d = some true) (h : EnsO (g e S) Q ∨ ∃ o, e[i]? = some o ∧ g e S = .exc x e S ∧ Q.nx ((e.set j (some (.exn x.cls x.val))).set i none) S) : EnsO (yTryKeep L d i j g e S) Q := by
  rcases h with h | ⟨o, hi, hg, q⟩
  · exact enso_try h
  · rw [yTry_exc hg hs hi, enso_nx]
    exact q
@[simp] theorem isE_cls {f : Option (Str × Int)} : bIsE L R [.exn c f, .cls d] S = if c ∈ R then match subT L c d with | some b => .ok (.bl b) S | none => .bad else .bad := rfl
@[simp] theorem isE_ty {f : Option (Str × Int)} {v : V} : bIsE L R [.exn c f, .raw v] S = if c ∈ R ∧ v = .ty "ValueError" then .ok (.bl true) S else .bad := rfl
@[simp] theorem isN_exn {f : Option (Str × Int)} : dIsN (.exn c f) .non S = .ok (.bl false) S := rfl
@[simp] theorem isN_non : dIsN .non .non S = .ok (.bl true) S := rfl
@[simp] theorem isN_int {k : Int} : dIsN (.int k) .non S = .ok (.bl false) S := rfl
@[simp] theorem isN_tup {l : List D} : dIsN (.tup l) .non S = .ok (.bl false) S := rfl
@[simp] theorem isN_lst {l : List D} : dIsN (.lst l) .non S = .ok (.bl false) S := rfl
@[simp] theorem isE_tup {f : Option (Str × Int)} {l : List D} : bIsE L R [.exn c f, .tup l] S = if c ∈ R then match anyE L c l with | some b => .ok (.bl b) S | none => .bad else .bad := rfl
@[simp] theorem anyE_nil : anyE L c [] = some false := rfl
@[simp] theorem anyE_cons {l : List D} : anyE L c (.cls d :: l) = match subT L c d, anyE L c l with | some a, some b => some (a || b) | _, _ => none := rfl
theorem toPs_bls {S : Store} {n : Nat} : ∀ cs : List Bool, toPs S n (cs.map D.bl) = some (cs.map PyData.bool)
  | [] => by simp [toPs]
  | c :: cs => by
    have e : toP S n (D.bl c) = some (.bool c) := by cases n <;> simp [toP]
    simp [toPs, e, toPs_bls cs]
/-- a def that raises -/
theorem fn_exc {np ns : Nat} {keep : Bool} {body : Env → Store → Out} {ds : List D} {e : Env} (hl : ds.length = np) (h : body (ds.map some ++ List.replicate (ns - np) none) S = .exc x e S) : fnD np ns keep body ds S = .exc x S := by
  unfold fnD
  rw [if_pos hl, h]
  simp [finX]
theorem fn_exc' {np ns : Nat} {keep : Bool} {body : Env → Store → Out} {ds : List D} {e : Env} {R : Store} (hl : ds.length = np) (hu : (S.all fun c => c.under S.length) = true) (h : body (ds.map some ++ List.replicate (ns - np) none) S = .exc x e (S ++ R)) : fnD np ns keep body ds S = .exc x S := by
  unfold fnD
  rw [if_pos hl, h]
  simp only [finX]
  by_cases z : (S ++ R).length = S.length
  · rw [if_pos z]
    have : R = [] := List.length_eq_zero_iff.mp (by rw [List.length_append] at z; omega)
    subst this
    simp
  · rw [if_neg z, List.take_left, hu]
    rfl
end
end Dv
/-! # Dv15: fractions in lowest terms are rational numbers -/
namespace Dv
open PySem PySem.Spec PyProof.Rows L2
/-- a fraction as the program has it -/
def fr (x : Rat) : D := .tup [.int x.num, .int x.den]
/-- the divisor with the lower part's sign -/
def gsr (a b : Int) : Int := if b < 0 then 0 - (Int.gcd a b : Int) else Int.gcd a b
theorem gsr_ne {a b : Int} (h : b ≠ 0) : gsr a b ≠ 0 := by
  have e : Int.gcd a b ≠ 0 := fun z => h (Int.gcd_eq_zero_iff.mp z).2
  unfold gsr
  split <;> omega
theorem gsr_dr (a b : Int) : gsr a b ∣ b := by
  unfold gsr
  split
  · rw [Int.zero_sub, Int.neg_dvd]; exact Int.gcd_dvd_right ..
  · exact Int.gcd_dvd_right ..
theorem gsr_dl (a b : Int) : gsr a b ∣ a := by
  unfold gsr
  split
  · rw [Int.zero_sub, Int.neg_dvd]; exact Int.gcd_dvd_left ..
  · exact Int.gcd_dvd_left ..
theorem gsr_sz {a b : Int} {n : Nat} (h : b ≠ 0) (hb : Sz n b) : Sz n (gsr a b) := hb.of_le (by
  have := Int.natAbs_dvd_natAbs.mpr (gsr_dr a b)
  exact Nat.le_of_dvd (by omega) this)
theorem fdiv_exact {a g : Int} (hg : g ≠ 0) (h : g ∣ a) : a.fdiv g = a / g := by
  obtain ⟨c, rfl⟩ := h
  rw [Int.mul_fdiv_cancel_left _ hg, Int.mul_ediv_cancel_left _ hg]
theorem gsr_num {a b : Int} (h : b ≠ 0) : a.fdiv (gsr a b) = ((a : Rat) / (b : Rat)).num := by
  rw [← Rat.divInt_eq_div, Rat.num_divInt, fdiv_exact (gsr_ne h) (gsr_dl a b), Int.gcd_comm b a]
  unfold gsr
  by_cases hl : b < 0
  · rw [if_pos hl, Int.sign_eq_neg_one_of_neg hl, Int.zero_sub, Int.ediv_neg, Int.neg_mul, Int.one_mul]
    obtain ⟨c, hc⟩ : (Int.gcd a b : Int) ∣ a := Int.gcd_dvd_left ..
    have e : (Int.gcd a b : Int) ≠ 0 := fun z => h (Int.gcd_eq_zero_iff.mp (show Int.gcd a b = 0 by omega)).2
    generalize (Int.gcd a b : Int) = g at hc e
    subst hc
    rw [Int.mul_ediv_cancel_left _ e, show -(g * c) = g * (-c) by rw [Int.mul_neg], Int.mul_ediv_cancel_left _ e]
  · rw [if_neg hl, Int.sign_eq_one_of_pos (by omega), Int.one_mul]
theorem gsr_den {a b : Int} (h : b ≠ 0) : b.fdiv (gsr a b) = (((a : Rat) / (b : Rat)).den : Int) := by
  rw [← Rat.divInt_eq_div, Rat.den_divInt, if_neg h, fdiv_exact (gsr_ne h) (gsr_dr a b), Int.gcd_comm b a]
  unfold gsr
  obtain ⟨c, hc⟩ : (Int.gcd a b : Int) ∣ b := Int.gcd_dvd_right ..
  have e : (Int.gcd a b : Int) ≠ 0 := fun z => h (Int.gcd_eq_zero_iff.mp (show Int.gcd a b = 0 by omega)).2
  by_cases hl : b < 0
  · rw [if_pos hl, Int.natCast_ediv, Int.ofNat_natAbs_of_nonpos (by omega), Int.zero_sub]
    generalize (Int.gcd a b : Int) = g at hc e
    subst hc
    rw [Int.ediv_neg, Int.mul_ediv_cancel_left _ e, show -(g * c) = g * (-c) by rw [Int.mul_neg], Int.mul_ediv_cancel_left _ e]
  · rw [if_neg hl, Int.natCast_ediv, Int.natAbs_of_nonneg (by omega)]
theorem fr_div {a b : Int} (h : b ≠ 0) : D.tup [.int (a.fdiv (gsr a b)), .int (b.fdiv (gsr a b))] = fr ((a : Rat) / b) := by
  rw [gsr_num h, gsr_den h]; rfl
/-! ### sizes -/
structure Fs (n : Nat) (x : Rat) : Prop where
  num : Sz n x.num
  den : Sz n (x.den : Int)
theorem Fs.le {n m : Nat} {x : Rat} (h : Fs n x) (hl : n ≤ m) : Fs m x := ⟨h.num.le hl, h.den.le hl⟩
theorem den_ne (x : Rat) : (x.den : Int) ≠ 0 := by have := x.den_nz; omega
theorem den_pos (x : Rat) : (0 : Int) < (x.den : Int) := by have := x.den_nz; omega
theorem denq (x : Rat) : (x.den : Rat) ≠ 0 := fun z => x.den_nz (Rat.natCast_eq_zero_iff.mp z)
theorem num_eq (x : Rat) : (x.num : Rat) = x * (x.den : Rat) := by
  have e : x = (x.num : Rat) / (x.den : Rat) := by
    have := Rat.num_divInt_den x
    rw [Rat.divInt_eq_div] at this
    exact this.symm
  calc (x.num : Rat) = ((x.num : Rat) / (x.den : Rat)) * (x.den : Rat) := (Rat.div_mul_cancel (denq x)).symm
    _ = x * (x.den : Rat) := by rw [← e]
theorem plus_rat (x y : Rat) : ((x.num * y.den + y.num * x.den : Int) : Rat) / ((x.den * y.den : Int) : Rat) = x + y := by
  have h1 := denq x
  have h2 := denq y
  simp only [Rat.intCast_add, Rat.intCast_mul, num_eq, Rat.intCast_natCast]
  generalize (x.den : Rat) = d at *
  generalize (y.den : Rat) = e at *
  grind
theorem minus_rat (x y : Rat) : ((x.num * y.den - y.num * x.den : Int) : Rat) / ((x.den * y.den : Int) : Rat) = x - y := by
  have h1 := denq x
  have h2 := denq y
  simp only [Rat.intCast_sub, Rat.intCast_mul, num_eq, Rat.intCast_natCast]
  generalize (x.den : Rat) = d at *
  generalize (y.den : Rat) = e at *
  grind
theorem times_rat (x y : Rat) : ((x.num * y.num : Int) : Rat) / ((x.den * y.den : Int) : Rat) = x * y := by
  have h1 := denq x
  have h2 := denq y
  simp only [Rat.intCast_mul, num_eq, Rat.intCast_natCast]
  generalize (x.den : Rat) = d at *
  generalize (y.den : Rat) = e at *
  grind
theorem over_rat (x y : Rat) (hy : y ≠ 0) : ((x.num * y.den : Int) : Rat) / ((x.den * y.num : Int) : Rat) = x / y := by
  have h1 := denq x
  have h2 := denq y
  simp only [Rat.intCast_mul, num_eq, Rat.intCast_natCast]
  generalize (x.den : Rat) = d at *
  generalize (y.den : Rat) = e at *
  grind
theorem plus_rat' (x y : Rat) : ((x.num : Rat) * ((y.den : Int) : Rat) + (y.num : Rat) * ((x.den : Int) : Rat)) / (((x.den : Int) : Rat) * ((y.den : Int) : Rat)) = x + y := by
  have := plus_rat x y
  simpa using this
theorem minus_rat' (x y : Rat) : ((x.num : Rat) * ((y.den : Int) : Rat) - (y.num : Rat) * ((x.den : Int) : Rat)) / (((x.den : Int) : Rat) * ((y.den : Int) : Rat)) = x - y := by
  have := minus_rat x y
  simpa using this
theorem times_rat' (x y : Rat) : ((x.num : Rat) * (y.num : Rat)) / (((x.den : Int) : Rat) * ((y.den : Int) : Rat)) = x * y := by
  have := times_rat x y
  simpa using this
theorem over_rat' (x y : Rat) (hy : y ≠ 0) : ((x.num : Rat) * ((y.den : Int) : Rat)) / (((x.den : Int) : Rat) * (y.num : Rat)) = x / y := by
  have := over_rat x y hy
  simpa using this
theorem num_ne {x : Rat} (h : x ≠ 0) : x.num ≠ 0 := fun z => h (Rat.num_eq_zero.mp z)
theorem fr_inj {x y : Rat} (h : fr x = fr y) : x = y := by
  unfold fr at h
  injection h with h
  injection h with h1 h2
  injection h2 with h2 _
  injection h1 with h1
  injection h2 with h2
  exact Rat.ext h1 (by omega)
theorem fr_toP (x : Rat) (S : Store) (n : Nat) : toP S (n + 1) (fr x) = some (.tuple [.int x.num, .int x.den]) := by
  cases n <;> simp [fr, toP, toPs]
theorem fr_eqv (x y : Rat) : PyData.eqv (.tuple [.int x.num, .int x.den]) (.tuple [.int y.num, .int y.den]) = decide (x = y) := by
  simp only [PyData.eqv, PyData.eqvAll]
  by_cases h : x = y
  · subst h; simp
  · rw [decide_eq_false h]
    by_cases h1 : x.num = y.num
    · have h2 : ¬ x.den = y.den := fun z => h (Rat.ext h1 z)
      simp [h1]; omega
    · simp [h1]
@[simp] theorem dEq_fr (x y : Rat) (S : Store) : dEq (fr x) (fr y) S = .ok (.bl (decide (x = y))) S := by
  rw [dEq_of (fr_toP x S 59) (fr_toP y S 59), fr_eqv]
@[simp] theorem dNe_fr (x y : Rat) (S : Store) : dNe (fr x) (fr y) S = .ok (.bl (!decide (x = y))) S := by
  rw [dNe_of (fr_toP x S 59) (fr_toP y S 59), fr_eqv]
@[simp] theorem dIx_fr0 (x : Rat) (S : Store) : dIx (fr x) (.int 0) S = .ok (.int x.num) S := by
  unfold fr; rw [dIx_tup, atI_zero]
@[simp] theorem dIx_fr1 (x : Rat) (S : Store) : dIx (fr x) (.int 1) S = .ok (.int x.den) S := by
  unfold fr; rw [dIx_tup, atI_one]
@[simp] theorem fr_zero : D.tup [.int 0, .int 1] = fr 0 := rfl
@[simp] theorem fr_one : D.tup [.int 1, .int 1] = fr 1 := rfl
theorem fr_int (k : Int) : D.tup [.int k, .int 1] = fr (k : Rat) := rfl
theorem fr_under {n : Nat} (x : Rat) : (fr x).under n = true := rfl

@[simp] theorem atI_three {α : Type} {a b c d : α} {l : List α} : L2.atI (a :: b :: c :: d :: l) 3 = some d := by
  have : (3 : Int) = ((3 : Nat) : Int) := rfl
  rw [this]
  exact atI_nat rfl
@[simp] theorem atI_four {α : Type} {a b c d e : α} {l : List α} : L2.atI (a :: b :: c :: d :: e :: l) 4 = some e := by
  have : (4 : Int) = ((4 : Nat) : Int) := rfl
  rw [this]
  exact atI_nat rfl
mutual
theorem under_mono {n m : Nat} (h : n ≤ m) : ∀ d : D, d.under n = true → d.under m = true
  | .cell k, u => by
    unfold D.under at *
    exact decide_eq_true (Nat.lt_of_lt_of_le (of_decide_eq_true u) h)
  | .tup l, u => by unfold D.under at *; exact underL_mono h l u
  | .lst l, u => by unfold D.under at *; exact underL_mono h l u
  | .scr l, u => by unfold D.under at *; exact underL_mono h l u
  | .non, _ => rfl
  | .bl _, _ => rfl
  | .int _, _ => rfl
  | .str _, _ => rfl
  | .raw _, _ => rfl
  | .cls _, _ => rfl
  | .exn _ _, _ => rfl
theorem underL_mono {n m : Nat} (h : n ≤ m) : ∀ l : List D, D.underL n l = true → D.underL m l = true
  | [], _ => rfl
  | d :: l, u => by
    unfold D.underL at *
    rw [Bool.and_eq_true] at *
    exact ⟨under_mono h d u.1, underL_mono h l u.2⟩
end
theorem cn_under_mono {n m : Nat} (h : n ≤ m) {c : Cn} (u : c.under n = true) : c.under m = true := by
  cases c with
  | dead => rfl
  | lst l => exact underL_mono h l u
  | dct kvs =>
    unfold Cn.under at *
    rw [List.all_eq_true] at *
    exact fun p hp => under_mono h _ (u p hp)
/-! ### over a common lower part -/
/-- a whole number over N, of a size of B at most -/
structure On (N B : Nat) (x : Rat) : Prop where
  pos : 0 < N
  ex : ∃ a : Int, x * (N : Rat) = (a : Rat) ∧ a.natAbs ≤ B * N
theorem natq {N : Nat} (h : 0 < N) : (N : Rat) ≠ 0 := fun z => by
  have := Rat.natCast_eq_zero_iff.mp z
  omega
theorem On.den {N B : Nat} {x : Rat} (h : On N B x) : x.den ∣ N := by
  obtain ⟨h0, a, e, _⟩ := h
  have ex : x = Rat.divInt a N := by
    rw [Rat.divInt_eq_div, Rat.intCast_natCast, ← e, Rat.mul_div_cancel (natq h0)]
  rw [ex, Rat.den_divInt, if_neg (by omega)]
  exact ⟨Int.gcd N a, by
    have : Int.gcd N a ∣ N := by simpa using Int.natAbs_dvd_natAbs.mpr (Int.gcd_dvd_left (a := (N : Int)) (b := a))
    simpa using (Nat.div_mul_cancel this).symm⟩
theorem On.num {N B : Nat} {x : Rat} (h : On N B x) : x.num.natAbs ≤ B * N := by
  have hd := h.den
  obtain ⟨h0, a, e, hb⟩ := h
  obtain ⟨c, rfl⟩ := hd
  have hc : 0 < c := Nat.pos_of_ne_zero fun z => by subst z; simp at h0
  have h1 : (x.num : Rat) * (c : Rat) = (a : Rat) := by
    rw [num_eq, ← e, Rat.natCast_mul]
    grind
  have h2 : x.num * (c : Int) = a := by
    have : ((x.num * (c : Int) : Int) : Rat) = (a : Rat) := by rw [Rat.intCast_mul, Rat.intCast_natCast]; exact h1
    exact Rat.intCast_inj.mp this
  have h3 : x.num.natAbs * c = a.natAbs := by rw [← h2, Int.natAbs_mul]; simp
  calc x.num.natAbs ≤ x.num.natAbs * c := Nat.le_mul_of_pos_right _ hc
    _ = a.natAbs := h3
    _ ≤ _ := hb
theorem On.fs {N B n : Nat} {x : Rat} (h : On N B x) (h1 : N < 2 ^ n) (h2 : B * N < 2 ^ n) : Fs n x :=
  ⟨Nat.lt_of_le_of_lt h.num h2, by
    show ((x.den : Int)).natAbs < 2 ^ n
    have := Nat.le_of_dvd h.pos h.den
    simp
    omega⟩
theorem On.add {N B C : Nat} {x y : Rat} (h : On N B x) (g : On N C y) : On N (B + C) (x + y) := by
  obtain ⟨h0, a, e, hb⟩ := h
  obtain ⟨_, b, f, hc⟩ := g
  refine ⟨h0, a + b, ?_, ?_⟩
  · rw [Rat.intCast_add, ← e, ← f]; grind
  · rw [Nat.add_mul]
    have := Int.natAbs_add_le a b
    omega
theorem On.sub {N B C : Nat} {x y : Rat} (h : On N B x) (g : On N C y) : On N (B + C) (x - y) := by
  obtain ⟨h0, a, e, hb⟩ := h
  obtain ⟨_, b, f, hc⟩ := g
  refine ⟨h0, a - b, ?_, ?_⟩
  · rw [Rat.intCast_sub, ← e, ← f]; grind
  · rw [Nat.add_mul]
    have := Int.natAbs_sub_le a b
    omega
theorem On.mul {N M B C : Nat} {x y : Rat} (h : On N B x) (g : On M C y) : On (N * M) (B * C) (x * y) := by
  obtain ⟨h0, a, e, hb⟩ := h
  obtain ⟨g0, b, f, hc⟩ := g
  refine ⟨Nat.mul_pos h0 g0, a * b, ?_, ?_⟩
  · rw [Rat.intCast_mul, ← e, ← f, Rat.natCast_mul]; grind
  · rw [Int.natAbs_mul]
    calc a.natAbs * b.natAbs ≤ (B * N) * (C * M) := Nat.mul_le_mul hb hc
      _ = _ := by grind
theorem On.int (k : Int) : On 1 k.natAbs (k : Rat) := ⟨by decide, k, by simp, by simp⟩
theorem On.up {N M B : Nat} {x : Rat} (h : On N B x) (hd : N ∣ M) (h0 : 0 < M) : On M B x := by
  obtain ⟨_, a, e, hb⟩ := h
  obtain ⟨c, rfl⟩ := hd
  refine ⟨h0, a * c, ?_, ?_⟩
  · rw [Rat.intCast_mul, ← e, Rat.natCast_mul, Rat.intCast_natCast]; grind
  · rw [Int.natAbs_mul]
    calc a.natAbs * (c : Int).natAbs ≤ (B * N) * c := Nat.mul_le_mul hb (by simp)
      _ = _ := by grind
theorem On.mono {N B C : Nat} {x : Rat} (h : On N B x) (hl : B ≤ C) : On N C x := ⟨h.pos, by
  obtain ⟨a, e, hb⟩ := h.ex
  exact ⟨a, e, Nat.le_trans hb (Nat.mul_le_mul_right _ hl)⟩⟩
theorem On.bd {N B C : Nat} {x : Rat} (h : On N B x) (h1 : -(C : Rat) ≤ x) (h2 : x ≤ (C : Rat)) : On N C x := ⟨h.pos, by
  obtain ⟨a, e, hb⟩ := h.ex
  refine ⟨a, e, ?_⟩
  have hN : (0 : Rat) < (N : Rat) := Rat.natCast_pos.mpr h.pos
  have k1 : ((a : Int) : Rat) ≤ (((C * N : Nat) : Int) : Rat) := by
    rw [← e, Rat.intCast_natCast, Rat.natCast_mul]
    exact Rat.mul_le_mul_of_nonneg_right h2 (Rat.le_of_lt hN)
  have k2 : ((-(C * N : Nat) : Int) : Rat) ≤ ((a : Int) : Rat) := by
    rw [← e, Rat.intCast_neg, Rat.intCast_natCast, Rat.natCast_mul]
    have := Rat.mul_le_mul_of_nonneg_right h1 (Rat.le_of_lt hN)
    rw [Rat.neg_mul] at this
    exact this
  rw [Rat.intCast_le_intCast] at k1 k2
  omega⟩
theorem On.div {a b : Int} {N B : Nat} (hN : 0 < N) (hb : b = (N : Int)) (h : a.natAbs ≤ B * N) : On N B ((a : Rat) / (b : Rat)) := ⟨hN, a, by
  subst hb
  rw [Rat.intCast_natCast, Rat.div_mul_cancel (natq hN)], h⟩
theorem On.one {N : Nat} (h : 0 < N) : On N 1 1 := ⟨h, N, by rw [Rat.intCast_natCast]; grind, by simp⟩
theorem On.zero {N : Nat} (h : 0 < N) : On N 0 0 := ⟨h, 0, by simp, by simp⟩
theorem On.times {N B : Nat} {x : Rat} (h : On N B x) (c : Int) : On N (c.natAbs * B) ((c : Rat) * x) := by
  have := (On.int c).mul h
  rwa [Nat.one_mul] at this
theorem int_fs {k : Int} {n : Nat} (h : k.natAbs < 2 ^ n) (h0 : 0 < n) : Fs n (k : Rat) := ⟨h, by
  show ((k : Rat).den : Int).natAbs < 2 ^ n
  simp; omega⟩
end Dv
/-! # Dv16: xs[::-1]; is True -/
namespace Dv
open PySem PySem.Spec PyProof.Rows L2
def xRevL (mk : List D → M D) (f : Env → M D) : Env → M D := fun e S => (f e S).bind fun d S1 => match getQ d S1 with
  | some l => mk l.reverse S1
  | none => .bad
theorem pd_revL {X : Cx} {W : WX} {e : Expr} {f : Env → M D} {mk : List D → M D} {k : Nat} {p1 p2 p3 pos : Pos} (m : Mk mk) (he : PD X W e f) : PD X W (.Subscript e (.Slice none none (some (.UnaryOp .USub (.Constant (.int 1) k p1) p2)) p3) pos) (xRevL mk f) := by
  refine weakE (pe_revL he) fun σ H Q ⟨w, env, eH, hw, he, hs⟩ => ?_
  subst eH
  refine ⟨w, env, rfl, hw, he, SatW.imp (SatW.bind hs) fun w1 d v g1 r1 s1 => ?_⟩
  cases q : getQ d w1.S with
  | none => simp only [q] at s1; exact s1.elim
  | some l =>
    simp only [q] at s1
    obtain ⟨a, vs, rfl, hq, t⟩ := getQ_ok g1.wd r1 q
    exact ⟨a, vs, rfl, hq, m.go g1.wd t.reverse s1⟩
@[simp] theorem xRevL_app {oo : Option D} {ll : Env} {S : Store} {mk : List D → M D} {f : Env → M D} : xRevL mk f (oo :: ll) S = (f (oo :: ll) S).bind fun d S1 => match getQ d S1 with | some l => mk l.reverse S1 | none => .bad := rfl
def dIsB (a b : D) (S : Store) : Res D := match a, b with
  | .bl x, .bl y => .ok (.bl (decide (x = y))) S
  | _, _ => .bad
def dIsNotB (a b : D) (S : Store) : Res D := match a, b with
  | .bl x, .bl y => .ok (.bl (!decide (x = y))) S
  | _, _ => .bad
theorem od_isB {X : Cx} : OpD X (compareOp .Is) dIsB := ⟨_, op_isBl, fun w x y d e W σ Q hw r1 r2 hs => by
  unfold dIsB at hs
  split at hs
  · rename_i a b
    exact ⟨a, b, rp_bl r1, rp_bl r2, SatW.here hs hw rpb⟩
  · exact hs.elim⟩
theorem od_isNotB {X : Cx} : OpD X (compareOp .IsNot) dIsNotB := ⟨_, op_notBl, fun w x y d e W σ Q hw r1 r2 hs => by
  unfold dIsNotB at hs
  split at hs
  · rename_i a b
    exact ⟨a, b, rp_bl r1, rp_bl r2, SatW.here hs hw rpb⟩
  · exact hs.elim⟩
@[simp] theorem dIsB_bl {a b : Bool} {S : Store} : dIsB (.bl a) (.bl b) S = .ok (.bl (decide (a = b))) S := rfl
@[simp] theorem dIsNotB_bl {a b : Bool} {S : Store} : dIsNotB (.bl a) (.bl b) S = .ok (.bl (!decide (a = b))) S := rfl
end Dv
/-! # Dv17: loops over a list that may change; a list, frozen or not -/
namespace Dv
open PySem PySem.Spec PyProof.Rows L2
theorem en0_forC {chk : Store → Prop} {g : D → Env → Store → Out} {b : Env → Store → Out} {items : List D} {e : Env} {S : Store} {Q : Pst} (I : Nat → Env → Store → Prop) (h0 : I 0 e S) (hc : ∀ i e S, I i e S → chk S)
    (hs : ∀ (i : Nat) d e S, items[i]? = some d → I i e S → EnO0 (g d e S) { nx := fun e1 S1 => EnO0 (b e1 S1) { nx := I (i + 1), ct := I (i + 1), bk := Q.nx, rt := Q.rt } })
    (hd : ∀ e S, I items.length e S → Q.nx e S) : EnO0 (forL chk g b items e S) Q := by
  have go : ∀ (l : List D) (i : Nat) (e : Env) (S : Store), items.drop i = l → i ≤ items.length → I i e S → EnO0 (forL chk g b l e S) Q := by
    intro l
    induction l with
    | nil =>
      intro i e S hl hi h
      rw [forL, if_pos (hc i e S h)]
      have e1 := drop_nil hl hi
      subst e1
      exact hd e S h
    | cons d l ih =>
      intro i e S hl hi h
      obtain ⟨h1, h2⟩ := drop_get hl
      have st := hs i d e S h1 h
      have hlt : i < items.length := (List.getElem?_eq_some_iff.mp h1).1
      rw [forL, if_pos (hc i e S h)]
      cases o : g d e S with
      | nx e1 S1 =>
        rw [o] at st
        have st' : EnO0 (b e1 S1) { nx := I (i + 1), ct := I (i + 1), bk := Q.nx, rt := Q.rt } := st
        show EnO0 (match b e1 S1 with
          | .nx e' S' => forL chk g b l e' S'
          | .ct e' S' => forL chk g b l e' S'
          | .bk e' S' => .nx e' S'
          | o => o) Q
        cases ob : b e1 S1 with
        | nx e2 S2 => rw [ob] at st'; exact ih (i + 1) e2 S2 h2 hlt st'
        | ct e2 S2 => rw [ob] at st'; exact ih (i + 1) e2 S2 h2 hlt st'
        | bk e2 S2 => rw [ob] at st'; exact st'
        | rt d2 S2 => rw [ob] at st'; exact st'
        | exc x e2 S2 => rw [ob] at st'; exact st'.elim
        | bad => rw [ob] at st'; exact st'.elim
      | rt _ _ => rw [o] at st; exact st.elim
      | bk _ _ => rw [o] at st; exact st.elim
      | ct _ _ => rw [o] at st; exact st.elim
      | exc _ _ _ => rw [o] at st; exact st.elim
      | bad => rw [o] at st; exact st.elim
  exact go items 0 e S rfl (Nat.zero_le _) h0
theorem ens_frC {chk : Store → Prop} {g : D → Env → Store → Out} {b : Env → Store → Out} {items : List D} {e : Env} {S : Store} {Q : Pst} (I : Nat → Env → Store → Prop) (h0 : I 0 e S) (hc : ∀ i e S, I i e S → chk S)
    (hs : ∀ (i : Nat) d e S (R' : Env → Store → Prop), items[i]? = some d → I i e S → (∀ e S, I (i + 1) e S → R' e S) → EnsO (g d e S) { nx := fun e1 S1 => EnsO (b e1 S1) { nx := R', ct := R', bk := Q.nx, rt := Q.rt } })
    (hd : ∀ e S, I items.length e S → Q.nx e S) : EnsO (forL chk g b items e S) Q :=
  ⟨en0_forC I h0 hc (fun i d e S h1 h2 => (hs i d e S _ h1 h2 fun _ _ h => h).go.imp (fun _ _ h => h.go) (fun _ _ h => h.elim) (fun _ _ h => h.elim) (fun _ _ h => h.elim)) hd⟩
/-- S' is S and more behind it -/
def Ext (S S' : Store) : Prop := ∃ R, S' = S ++ R
theorem Ext.refl (S : Store) : Ext S S := ⟨[], by simp⟩
theorem Ext.app (S R : Store) : Ext S (S ++ R) := ⟨R, rfl⟩
theorem Ext.get {S S' : Store} (h : Ext S S') {n : Nat} {c : Cn} (e : S[n]? = some c) : S'[n]? = some c := by
  obtain ⟨R, rfl⟩ := h
  have := (List.getElem?_eq_some_iff.mp e).1
  rw [List.getElem?_append_left this]
  exact e
/-- a list that may be read: frozen, or a cell -/
structure LstAt (S : Store) (p : D) (l : List D) : Prop where
  src : ∀ S', Ext S S' → ∃ chk : Store → Prop, srcL p S' = .ok ⟨l, chk⟩ S' ∧ ∀ S2, Ext S S2 → chk S2
  zip : ∀ S' m, Ext S S' → ∃ chk : Store → Prop, srcZip [p, .lst m] S' = .ok ⟨(l.zip m).map fun z => .tup [z.1, z.2], chk⟩ S' ∧ ∀ S2, Ext S S2 → chk S2
  get : ∀ S', Ext S S' → getQ p S' = some l
  ix : ∀ S' k, Ext S S' → dIx p k S' = dIx (.lst l) k S'
  len : ∀ S', Ext S S' → bLen [p] S' = .ok (.int l.length) S'
theorem lst_lst (S : Store) (l : List D) : LstAt S (.lst l) l := ⟨fun _ _ => ⟨_, rfl, fun _ _ => trivial⟩, fun _ m _ => ⟨fun _ => True, by rw [srcZip_lst], fun _ _ => trivial⟩, fun _ _ => rfl, fun _ _ _ => rfl, fun _ _ => by simp⟩
theorem lst_cell {S : Store} {n : Nat} {l : List D} (h : S[n]? = some (.lst l)) : LstAt S (.cell n) l := by
  refine ⟨fun S' x => ⟨_, srcL_cell (x.get h), fun S2 y => y.get h⟩, fun S' m x => ⟨fun S2 => S2[n]? = some (.lst l) ∧ True, ?_, fun S2 y => ⟨y.get h, trivial⟩⟩, fun S' x => ?_, fun S' k x => ?_, fun S' x => ?_⟩
  · have := x.get h
    simp [srcZip, stL, this]
  · have := x.get h
    simp only [getQ, getL, this]
  · have := x.get h
    cases k <;> simp only [dIx, getQ, getL, this]
  · have := x.get h
    simp [bLen, getQ, getL, this]
end Dv
/-! # Dv18: dicts in cells; sorted; list.pop -/
namespace Dv
open PySem PySem.Spec PyProof.Rows L2
theorem units1 {k : Nat} {A : Around} (r : Room k A) : A.units + 1 < cLine := by have := r.un; omega
/-! ### keys and tables -/
def keyD : D → Option Key
  | .int i => some (.inl i)
  | .str x => some (.inr x)
  | _ => none
theorem keyD_v {K : PySem.W.Frag} {r : List Addr} {F : Hp} {d : D} {v : V} {k : Key} (h : Rp K r F d v) (e : keyD d = some k) : v = kV k := by
  cases d with
  | int i => cases e; rw [rp_int h]; rfl
  | str x => cases e; rw [rp_str h]; rfl
  | _ => cases e
def cellK (d : D) (S : Store) : Option (Nat × List (Key × D)) := match d with
  | .cell n => match S[n]? with
    | some (.dct l) => some (n, l)
    | _ => none
  | _ => none
theorem cellK_eq {d : D} {S : Store} {n : Nat} {l : List (Key × D)} (h : cellK d S = some (n, l)) : d = .cell n ∧ S[n]? = some (.dct l) := by
  unfold cellK at h
  split at h
  · split at h
    · rename_i k l' e
      cases h
      exact ⟨rfl, e⟩
    · cases h
  · cases h
def valD (kvs : List (Key × D)) (k : Key) : Option D := (kvs.find? fun kv => decide (kv.1 = k)).map (·.2)
def putD (kvs : List (Key × D)) (k : Key) (d : D) : List (Key × D) :=
  if (kvs.any fun kv => decide (kv.1 = k)) = true then kvs.map (fun kv => if kv.1 = k then (kv.1, d) else kv) else kvs ++ [(k, d)]
section
variable {K : PySem.W.Frag} {r : List Addr} {F : Hp} {kvs : List (Key × D)} {ws : List (Key × V)}
theorem RpK.some (h : RpK K r F kvs ws) {k : Key} {d : D} (e : valD kvs k = some d) : ∃ v, valV ws k = some v ∧ Rp K r F d v := by
  unfold RpK at h
  induction h with
  | nil => cases e
  | @cons p q ps qs z t ih =>
    obtain ⟨h1, h2⟩ := z
    by_cases c : p.1 = k
    · have b : valD (p :: ps) k = Option.some p.2 := by simp [valD, List.find?_cons, c]
      rw [b] at e
      cases e
      exact ⟨q.2, valV_pos (h1.symm.trans c), h2⟩
    · have b : valD (p :: ps) k = valD ps k := by simp [valD, List.find?_cons, c]
      rw [b] at e
      obtain ⟨v, e2, q2⟩ := ih e
      exact ⟨v, by rw [valV_neg (fun z => c (h1.trans z))]; exact e2, q2⟩
theorem RpK.none (h : RpK K r F kvs ws) {k : Key} (e : valD kvs k = Option.none) : valV ws k = Option.none := by
  unfold RpK at h
  induction h with
  | nil => rfl
  | @cons p q ps qs z t ih =>
    obtain ⟨h1, h2⟩ := z
    by_cases c : p.1 = k
    · have b : valD (p :: ps) k = Option.some p.2 := by simp [valD, List.find?_cons, c]
      rw [b] at e
      cases e
    · have b : valD (p :: ps) k = valD ps k := by simp [valD, List.find?_cons, c]
      rw [b] at e
      rw [valV_neg (fun z => c (h1.trans z))]
      exact ih e
theorem RpK.any (h : RpK K r F kvs ws) (k : Key) : (kvs.any fun kv => decide (kv.1 = k)) = ws.any fun kv => decide (kv.1 = k) := by
  unfold RpK at h
  induction h with
  | nil => rfl
  | cons h t ih => rw [List.any_cons, List.any_cons, ih, h.1]
theorem RpK.repl (h : RpK K r F kvs ws) (k : Key) {d : D} {v : V} (rv : Rp K r F d v) : RpK K r F (kvs.map fun kv => if kv.1 = k then (kv.1, d) else kv) (ws.map fun kv => if kv.1 = k then (kv.1, v) else kv) := by
  unfold RpK at h ⊢
  induction h with
  | nil => exact .nil
  | @cons p q ps qs h t ih =>
    rw [List.map_cons, List.map_cons]
    refine .cons ?_ ih
    obtain ⟨h1, h2⟩ := h
    by_cases e : p.1 = k
    · rw [if_pos e, if_pos (h1.symm.trans e)]; exact ⟨h1, rv⟩
    · rw [if_neg e, if_neg (fun z => e (h1.trans z))]; exact ⟨h1, h2⟩
theorem RpK.put (h : RpK K r F kvs ws) (k : Key) {d : D} {v : V} (rv : Rp K r F d v) : RpK K r F (putD kvs k d) (putK ws k v) := by
  unfold putD putK
  rw [h.any k]
  by_cases e : (ws.any fun kv => decide (kv.1 = k)) = true
  · rw [if_pos e, if_pos e]; exact h.repl k rv
  · rw [if_neg e, if_neg e]; exact Paired.snoc h ⟨rfl, rv⟩
theorem RpK.keys (h : RpK K r F kvs ws) : ws.map (·.1) = kvs.map (·.1) := by
  unfold RpK at h
  induction h with
  | nil => rfl
  | cons h t ih => rw [List.map_cons, List.map_cons, ih, h.1]
theorem RpK.length (h : RpK K r F kvs ws) : ws.length = kvs.length := by
  have := congrArg List.length h.keys
  simpa using this
end
/-- a dict's cell is read, written -/
theorem cellK_read {T : Kt} {w : Wl} {n : Nat} {l : List (Key × D)} {v : V} (hw : Wd T.K w) (r : Rp T.K w.r w.F (.cell n) v) (e : w.S[n]? = some (.dct l)) : ∃ a ws, v = .ref a ∧ w.H a = some (.dK ws) ∧ RpK T.K w.r w.F l ws := by
  unfold Rp at r
  obtain ⟨a, e1, rfl⟩ := r
  obtain ⟨hf, ws, e2, p⟩ := hw.cell n a _ e1 e
  exact ⟨a, ws, rfl, e2, p⟩
theorem cellK_write {T : Kt} {w : Wl} {n : Nat} {l l' : List (Key × D)} {v : V} (hw : Wd T.K w) (r : Rp T.K w.r w.F (.cell n) v) (e : w.S[n]? = some (.dct l)) : ∃ a ws, v = .ref a ∧ w.H a = some (.dK ws) ∧ RpK T.K w.r w.F l ws ∧
    ∀ ws', RpK T.K w.r w.F l' ws' → Go T.K w ⟨w.r, w.F, w.S.set n (.dct l'), upd w.H a (.dK ws')⟩ := by
  unfold Rp at r
  obtain ⟨a, e1, rfl⟩ := r
  obtain ⟨hf, ws, e2, p⟩ := hw.cell n a _ e1 e
  exact ⟨a, ws, rfl, e2, p, fun ws' h => Go.write (c := .dct l') hw e (by simp) e1 (by exact ⟨hf, ws', upd_same, h⟩)⟩
/-! ### {} -/
def xDct0 : Env → M D := fun _ S => .ok (.cell S.length) (S ++ [.dct []])
def dKx (x k : D) (S : Store) : Res D := match cellK x S, keyD k with
  | some (_, l), some kk => match valD l kk with
    | some d => .ok d S
    | none => .bad
  | _, _ => .bad
/-- o[i] of a dict -/
def setK (x i v : D) (S : Store) : Res Unit := match cellK x S, keyD i with
  | some (n, l), some kk => if l.length < 16000000 then .ok () (S.set n (.dct (putD l kk v))) else .bad
  | _, _ => .bad
/-- d.get(k, x) -/
def dGet (x k z : D) (S : Store) : Res D := match cellK x S, keyD k with
  | some (_, l), some kk => .ok ((valD l kk).getD z) S
  | _, _ => .bad
def isK (x : D) (S : Store) : Bool := (cellK x S).isSome
def xGet2 (o e f : Env → M D) : Env → M D := fun n S => (o n S).bind fun x S1 => if isK x S1 = true then (e n S1).bind fun k S2 => (f n S2).bind fun z S3 => dGet x k z S3 else .bad
def xGet1 (o e : Env → M D) : Env → M D := fun n S => (o n S).bind fun x S1 => if isK x S1 = true then (e n S1).bind fun k S2 => dGet x k .non S2 else .bad
def dInK (neg : Bool) (x y : D) (S : Store) : Res D := match cellK y S, keyD x with
  | some (_, l), some kk => .ok (.bl (xor neg (valD l kk).isSome)) S
  | _, _ => .bad
section
variable {X : Cx} {W : WX} {o i e f : Expr} {fo fi fe ff : Env → M D} {pos apos cpos : Pos}
theorem pd_dct0 : PD X W (.Dict [] [] pos) xDct0 := by
  refine weakE pe_dnewK fun σ H Q ⟨w, env, eH, hw, he, hs⟩ p hp => ?_
  subst eH
  refine hs ⟨w.r ++ [p], w.F, w.S ++ [.dct []], upd w.H p (.dK [])⟩ (.ref p) (Go.newCell (c := .dct []) hw hp (by exact ⟨hw.fresh hp, [], upd_same, .nil⟩)) rfl ?_
  unfold RD Rp
  refine ⟨p, ?_, rfl⟩
  show (w.r ++ [p])[w.S.length]? = some p
  rw [← hw.len, List.getElem?_append_right (Nat.le_refl _), Nat.sub_self]
  rfl
theorem pd_dkx (hu : X.A.units + 1 < cLine) (ho : PD X W o fo) (hi : PD X W i fi) (hs : NoSl i := by intro _ _; rfl) : PD X W (.Subscript o i pos) (xOp dKx fo fi) := by
  refine weakE (pe_dget hu ho hi hs) fun σ H Q ⟨w, env, eH, hw, he, hs⟩ => ?_
  subst eH
  refine ⟨w, env, rfl, hw, he, SatW.imp (SatW.bind hs) fun w1 d v g1 r1 s1 => ?_⟩
  refine ⟨w1, env, rfl, g1.wd, he.go g1, SatW.imp (SatW.bind s1) fun w2 d2 v2 g2 r2 s2 => ?_⟩
  have r1' := Rp.go g2 r1
  unfold dKx at s2
  split at s2
  · rename_i n l kk hc hk
    obtain ⟨rfl, en⟩ := cellK_eq hc
    obtain ⟨a, ws, rfl, ha, p⟩ := cellK_read (T := kt X) g2.wd r1' en
    cases q : valD l kk with
    | none => rw [q] at s2; exact s2.elim
    | some d =>
      rw [q] at s2
      obtain ⟨vz, ez, rz⟩ := p.some q
      rw [keyD_v r2 hk]
      exact ⟨a, vz, rfl, by rw [← ez]; exact DGet.k ha, SatW.here (v := vz) s2 g2.wd rz⟩
  · exact s2.elim
theorem sd_dict (hu : X.A.units + 1 < cLine) : SetD X setK := ⟨_, set_dict hu, fun w x i v dx di dv W σ Q hw r1 r2 r3 hs => by
  unfold setK at hs
  split at hs
  · rename_i n l kk hc hk
    obtain ⟨hl, hs⟩ := satIf hs
    obtain ⟨rfl, en⟩ := cellK_eq hc
    obtain ⟨a, ws, rfl, ha, p, go⟩ := cellK_write (T := kt X) (l' := putD l kk dv) hw r1 en
    rw [keyD_v r2 hk]
    exact ⟨a, _, rfl, DPut.k ha (by rw [p.length]; exact Nat.lt_of_lt_of_le hl (line16 (Nat.le_refl _))), hs _ () (go _ (p.put kk r3)) rfl trivial⟩
  · exact hs.elim⟩
theorem isK_isD {w : Wl} {d : D} {v : V} (hw : Wd X.K w) (r : Rp X.K w.r w.F d v) (h : isK d w.S = true) : ∃ a, v = .ref a ∧ IsD w.H a := by
  unfold isK at h
  cases hc : cellK d w.S with
  | none => rw [hc] at h; cases h
  | some p =>
    obtain ⟨n, l⟩ := p
    obtain ⟨rfl, en⟩ := cellK_eq hc
    obtain ⟨a, ws, rfl, ha, p⟩ := cellK_read (T := kt X) hw r en
    exact ⟨a, rfl, .inl ⟨ws, .inl ha⟩⟩
theorem pd_get2 (hu : X.A.units + 1 < cLine) (ho : PD X W o fo) (he : PD X W e fe) (hf : PD X W f ff) (m : M2 X o "get" apos e f cpos := by exact ⟨rfl, rfl, rfl, rfl⟩) : PD X W (.Call (.Attribute o "get" apos) [e, f] [] cpos) (xGet2 fo fe ff) := by
  refine weakE (pe_dget2 hu ho he hf m) fun σ H Q ⟨w, env, eH, hw, he, hs⟩ => ?_
  subst eH
  refine ⟨w, env, rfl, hw, he, SatW.imp (SatW.bind hs) fun w1 d v g1 r1 s1 => ?_⟩
  obtain ⟨hk, s1⟩ := satIf s1
  obtain ⟨a, rfl, hd⟩ := isK_isD g1.wd r1 hk
  refine ⟨a, rfl, hd, w1, env, rfl, g1.wd, he.go g1, SatW.imp (SatW.bind s1) fun w2 d2 v2 g2 r2 s2 => ?_⟩
  refine ⟨w2, env, rfl, g2.wd, (he.go g1).go g2, SatW.imp (SatW.bind s2) fun w3 d3 v3 g3 r3 s3 => ?_⟩
  have r1' := Rp.go (g2.trans g3) r1
  unfold dGet at s3
  split at s3
  · rename_i n l kk hc hk2
    obtain ⟨rfl, en⟩ := cellK_eq hc
    obtain ⟨a', ws, ea, ha, p⟩ := cellK_read (T := kt X) g3.wd r1' en
    cases ea
    rw [keyD_v r2 hk2]
    cases q : valD l kk with
    | none =>
      rw [q] at s3
      exact ⟨_, DGet.k ha, by rw [p.none q]; exact SatW.here (v := v3) s3 g3.wd r3⟩
    | some d =>
      rw [q] at s3
      obtain ⟨vz, ez, rz⟩ := p.some q
      exact ⟨_, DGet.k ha, by rw [ez]; exact SatW.here (v := vz) s3 g3.wd rz⟩
  · exact s3.elim
theorem pd_get1 (hu : X.A.units + 1 < cLine) (ho : PD X W o fo) (he : PD X W e fe) (m : M1 X o "get" apos e cpos := by exact ⟨rfl, rfl, rfl, rfl⟩) : PD X W (.Call (.Attribute o "get" apos) [e] [] cpos) (xGet1 fo fe) := by
  refine weakE (pe_dget1 hu ho he m) fun σ H Q ⟨w, env, eH, hw, he, hs⟩ => ?_
  subst eH
  refine ⟨w, env, rfl, hw, he, SatW.imp (SatW.bind hs) fun w1 d v g1 r1 s1 => ?_⟩
  obtain ⟨hk, s1⟩ := satIf s1
  obtain ⟨a, rfl, hd⟩ := isK_isD g1.wd r1 hk
  refine ⟨a, rfl, hd, w1, env, rfl, g1.wd, he.go g1, SatW.imp (SatW.bind s1) fun w2 d2 v2 g2 r2 s2 => ?_⟩
  have r1' := Rp.go g2 r1
  unfold dGet at s2
  split at s2
  · rename_i n l kk hc hk2
    obtain ⟨rfl, en⟩ := cellK_eq hc
    obtain ⟨a', ws, ea, ha, p⟩ := cellK_read (T := kt X) g2.wd r1' en
    cases ea
    rw [keyD_v r2 hk2]
    cases q : valD l kk with
    | none =>
      rw [q] at s2
      exact ⟨_, DGet.k ha, by rw [p.none q]; exact SatW.here (v := V.non) s2 g2.wd rpn⟩
    | some d =>
      rw [q] at s2
      obtain ⟨vz, ez, rz⟩ := p.some q
      exact ⟨_, DGet.k ha, by rw [ez]; exact SatW.here (v := vz) s2 g2.wd rz⟩
  · exact s2.elim
theorem op_inK (hu : X.A.units + 1 < cLine) : OpR X (compareOp .In) (fun y x H Q => ∃ a o, x = .ref a ∧ DGet H a y o ∧ Q (.bl o.isSome) H) := by
  intro pins s σ H y x v u Q I ry rx h
  obtain ⟨a, o, rfl, g, q⟩ := h
  cases rx
  exact d_in hu I g ry fun s' I' => ⟨V.bl o.isSome, H, I', rfl, q⟩
theorem op_notInK (hu : X.A.units + 1 < cLine) : OpR X (compareOp .NotIn) (fun y x H Q => ∃ a o, x = .ref a ∧ DGet H a y o ∧ Q (.bl (!o.isSome)) H) := by
  intro pins s σ H y x v u Q I ry rx h
  obtain ⟨a, o, rfl, g, q⟩ := h
  cases rx
  exact d_notIn hu I g ry fun s' I' => ⟨V.bl (!o.isSome), H, I', rfl, q⟩
theorem od_inK (hu : X.A.units + 1 < cLine) : OpD X (compareOp .In) (dInK false) := ⟨_, op_inK hu, fun w x y d e W σ Q hw r1 r2 hs => by
  unfold dInK at hs
  split at hs
  · rename_i n l kk hc hk
    obtain ⟨rfl, en⟩ := cellK_eq hc
    obtain ⟨a, ws, rfl, ha, p⟩ := cellK_read (T := kt X) hw r2 en
    refine ⟨a, _, rfl, by rw [keyD_v r1 hk]; exact DGet.k ha, ?_⟩
    have e : (valV ws kk).isSome = (valD l kk).isSome := by
      cases q : valD l kk with
      | none => rw [p.none q]; rfl
      | some d => obtain ⟨vz, ez, _⟩ := p.some q; rw [ez]; rfl
    rw [e]
    rw [Bool.false_xor] at hs
    exact SatW.here (v := V.bl (valD l kk).isSome) hs hw (by unfold RD Rp; rfl)
  · exact hs.elim⟩
theorem od_notInK (hu : X.A.units + 1 < cLine) : OpD X (compareOp .NotIn) (dInK true) := ⟨_, op_notInK hu, fun w x y d e W σ Q hw r1 r2 hs => by
  unfold dInK at hs
  split at hs
  · rename_i n l kk hc hk
    obtain ⟨rfl, en⟩ := cellK_eq hc
    obtain ⟨a, ws, rfl, ha, p⟩ := cellK_read (T := kt X) hw r2 en
    refine ⟨a, _, rfl, by rw [keyD_v r1 hk]; exact DGet.k ha, ?_⟩
    have e : (valV ws kk).isSome = (valD l kk).isSome := by
      cases q : valD l kk with
      | none => rw [p.none q]; rfl
      | some d => obtain ⟨vz, ez, _⟩ := p.some q; rw [ez]; rfl
    rw [e]
    rw [Bool.true_xor] at hs
    exact SatW.here (v := V.bl (!(valD l kk).isSome)) hs hw (by unfold RD Rp; rfl)
  · exact hs.elim⟩
end
/-! ### sorted, of ints -/
def isrt (l : List Int) : List Int := l.mergeSort fun a b => decide (a ≤ b)
theorem isrt_perm (l : List Int) : (isrt l).Perm l := List.mergeSort_perm l _
theorem isrt_sorted (l : List Int) : (isrt l).Pairwise (· ≤ ·) := by
  have := List.pairwise_mergeSort (le := fun a b : Int => decide (a ≤ b)) (fun a b c h1 h2 => by
    rw [decide_eq_true_iff] at *
    omega) (fun a b => by
    rw [Bool.or_eq_true, decide_eq_true_iff, decide_eq_true_iff]
    omega) l
  exact this.imp fun h => of_decide_eq_true h
theorem isrt_uniq {l m : List Int} (p : m.Perm l) (s : m.Pairwise (· ≤ ·)) : m = isrt l :=
  List.Perm.eq_of_pairwise (le := (· ≤ ·)) (fun _ _ _ _ h1 h2 => by omega) s (isrt_sorted l) (p.trans (isrt_perm l).symm)
def intK : List Key → Option (List Int)
  | [] => some []
  | .inl i :: l => (intK l).map (i :: ·)
  | .inr _ :: _ => none
theorem intK_eq : ∀ {l : List Key} {is : List Int}, intK l = some is → l = is.map Sum.inl
  | [], is, h => by cases h; rfl
  | .inl i :: l, is, h => by
    unfold intK at h
    cases q : intK l with
    | none => rw [q] at h; cases h
    | some js => rw [q] at h; cases h; rw [List.map_cons, ← intK_eq q]
  | .inr _ :: l, is, h => by cases h
def bSortK (mk : List D → M D) (l : List D) (S : Store) : Res D := match l with
  | [x] => match cellK x S with
    | some (_, kvs) => match intK (kvs.map (·.1)) with
      | some is => if is.length < 64 then mk ((isrt is).map D.int) S else .bad
      | none => .bad
    | none => .bad
  | _ => .bad
theorem rps_ofints {K : PySem.W.Frag} {r : List Addr} {F : Hp} : ∀ is : List Int, Rps K r F (is.map D.int) (is.map V.int)
  | [] => rps_nil
  | i :: is => by rw [List.map_cons, List.map_cons]; exact rps_cons rpi (rps_ofints is)
theorem cd_sortK {X : Cx} {mk : List D → M D} (m : Mk mk) (hc : X.calm = true) : CallD X (.builtin "sorted") (bSortK mk) := ⟨_, call_sortedDI hc, fun w xs ds W σ Q hw r hs => by
  unfold bSortK at hs
  split at hs
  · rename_i x
    obtain ⟨v, rfl, rv⟩ := one_inv r
    split at hs
    · rename_i n kvs hk
      split at hs
      · rename_i is hi
        obtain ⟨h64, hs⟩ := satIf hs
        obtain ⟨rfl, en⟩ := cellK_eq hk
        obtain ⟨a, ws, rfl, ha, p⟩ := cellK_read (T := kt X) hw rv en
        refine ⟨a, ws, is, rfl, .inl ha, by rw [p.keys]; exact intK_eq hi, h64, fun ys q hp hsr hn => ?_⟩
        rw [isrt_uniq hp hsr]
        exact m.go hw (rps_ofints _) hs q hn
      · exact hs.elim
    · exact hs.elim
  · exact hs.elim⟩
/-! ### list(range(..)) -/
def xLstRg2 (mk : List D → M D) (a b : Env → M D) : Env → M D := fun e S => (a e S).bind fun x S1 => (b e S1).bind fun y S2 => match x, y with
  | .int i, .int j => if 0 ≤ i ∧ j ≤ 16777216 ∧ i ≤ 16777216 ∧ 0 ≤ j then mk (irange i (j - i).toNat) S2 else .bad
  | _, _ => .bad
def xLstRg1 (mk : List D → M D) (b : Env → M D) : Env → M D := fun e S1 => (b e S1).bind fun y S2 => match y with
  | .int j => if j ≤ 16777216 ∧ 0 ≤ j then mk (irange 0 j.toNat) S2 else .bad
  | _ => .bad
theorem rps_irange {K : PySem.W.Frag} {r : List Addr} {F : Hp} (i : Int) : ∀ ns : List Nat, Rps K r F (ns.map fun n => D.int (i + (n : Nat))) (ns.map fun n => V.int (i + (n : Nat)))
  | [] => rps_nil
  | n :: ns => by rw [List.map_cons, List.map_cons]; exact rps_cons rpi (rps_irange i ns)
section
variable {X : Cx} {W : WX} {a b : Expr} {fa fb : Env → M D} {p p2 pos pos2 : Pos} {mk : List D → M D}
theorem pd_listRg2 (m : Mk mk) (hc : X.calm = true) (zr : X.mg "range" = none) (zl : X.mg "list" = none) (ha : PD X W a fa) (hb : PD X W b fb) (hgr : Gl X "range" := by rfl) (hgl : Gl X "list" := by rfl)
    (na : starEach [a, b] X.env = (false, eval a X.env) :: starEach [b] X.env := by rfl) (nb : starEach [b] X.env = (false, eval b X.env) :: starEach [] X.env := by rfl) (hp : (backTo pos2 (starEach [b] X.env)).any (·.1) = false := by rfl)
    (nl : starEach [.Call (.Name "range" p2) [a, b] [] pos2] X.env = (false, eval (.Call (.Name "range" p2) [a, b] [] pos2) X.env) :: starEach [] X.env := by rfl) : PD X W (.Call (.Name "list" p) [.Call (.Name "range" p2) [a, b] [] pos2] [] pos) (xLstRg2 mk fa fb) := by
  refine weakE (pe_listRg hc hgl zl (prg_2 hgr zr ha hb na nb hp) nl) fun σ H Q ⟨w, env, eH, hw, he, hs⟩ => ?_
  subst eH
  refine ⟨w, env, rfl, hw, he, SatW.imp (SatW.bind hs) fun w1 d v g1 r1 s1 => ?_⟩
  refine ⟨w1, env, rfl, g1.wd, he.go g1, SatW.imp (SatW.bind s1) fun w2 d2 v2 g2 r2 s2 => ?_⟩
  split at s2
  · rename_i i j
    obtain ⟨hk, s2⟩ := satIf s2
    refine ⟨i, j, rp_int r1, rp_int r2, RgOk.of_le hk.1 hk.2.1 hk.2.2.1 hk.2.2.2, fun q hn => ?_⟩
    exact m.go g2.wd (rps_irange i _) s2 q hn
  · exact s2.elim
theorem pd_listRg1 (m : Mk mk) (hc : X.calm = true) (zr : X.mg "range" = none) (zl : X.mg "list" = none) (hb : PD X W b fb) (hgr : Gl X "range" := by rfl) (hgl : Gl X "list" := by rfl)
    (nb : starEach [b] X.env = (false, eval b X.env) :: starEach [] X.env := by rfl)
    (nl : starEach [.Call (.Name "range" p2) [b] [] pos2] X.env = (false, eval (.Call (.Name "range" p2) [b] [] pos2) X.env) :: starEach [] X.env := by rfl) : PD X W (.Call (.Name "list" p) [.Call (.Name "range" p2) [b] [] pos2] [] pos) (xLstRg1 mk fb) := by
  refine weakE (pe_listRg hc hgl zl (prg_1 hgr zr hb nb) nl) fun σ H Q ⟨w, env, eH, hw, he, hs⟩ => ?_
  subst eH
  refine ⟨w, env, rfl, hw, he, SatW.imp (SatW.bind hs) fun w2 d2 v2 g2 r2 s2 => ?_⟩
  split at s2
  · rename_i j
    obtain ⟨hk, s2⟩ := satIf s2
    refine ⟨j, rp_int r2, RgOk.of_le (by omega) hk.1 (by omega) hk.2, fun q hn => ?_⟩
    have e : (j - 0).toNat = j.toNat := by rw [Int.sub_zero]
    unfold rgV
    rw [e]
    exact m.go g2.wd (rps_irange 0 _) s2 q hn
  · exact s2.elim
end
end Dv
/-! # Dv19: own exception classes with their own __init__ -/
namespace Dv
open PySem PySem.Spec PyProof.Rows L2
section
variable {X : Cx} {o e : Expr} {es : List Expr} {ta : TA} {B : Addr} {x : Str} {p p1 p2 pos : Pos}
/-- B.__init__(self, ..), B an own class without __init__ over ValueError -/
theorem pe_binit {pl : Sem Bool} {mc : Value} (hg : Gl X x) (hm : X.mg x = some (.ref B)) (sG : PySem.W.specialIn X.K (.ref B) "__getattribute__" = some (some (.builtin "type.__getattribute__"))) (rB : PySem.W.readsIn X.K B mc = true)
    (vV : PySem.W.findCls X.K (.ref B) mc "__init__" = some (.val (.builtin "ValueError.__init__"))) (ha : PA X (e :: es) ta) (hdb : (x == ("__debug__" : Str)) = false := by decide)
    (hc : eval (.Call (.Attribute (.Name x p1) "__init__" p2) (e :: es) [] pos) X.env = (do
      let ov ← eval (.Name x p1) X.env
      standAt p2.atName
      let (f, first) ← holding [ov] (getMethod ov "__init__" pl)
      callWith pos f first (backTo pos (starEach (e :: es) X.env)) (backToKw pos (keywordEach [] X.env))) := by rfl)
    (he : starEach (e :: es) X.env = (false, eval e X.env) :: starEach es X.env := by rfl) (hpl : (backTo pos (starEach es X.env)).any (·.1) = false := by rfl) :
    PE X (.Call (.Attribute (.Name x p1) "__init__" p2) (e :: es) [] pos) (tVeI X.K ta) := by
  refine ⟨fun pins s σ H Q I h => ?_⟩
  refine PySem.W.methodCall_KW (ld_glob I hg hm ?_ hdb) hc
  refine PySem.W.method_cls I.kIn sG ?_
  refine PySem.W.cls_value I.kIn rB vV (by decide +kernel) ?_
  show wpAny _ _ (callWith pos (Value.builtin "ValueError.__init__") [] (backTo pos (starEach (e :: es) X.env)) []) _ _ _
  refine PyProof.Rows.callWith_method1 (thn (ha.run pos pins _ σ H _ (I.tok _) h) fun us s1 ⟨vs, H1, I1, r1, a, C, ws, ev, hl, T, ea, q⟩ => ?_) he hpl
  subst ev
  cases r1 with
  | @cons _ u0 _ ur ra rw' =>
    obtain rfl : u0 = Value.ref a := ra
    have hlen : ur.length ≤ sizeLine := by
      rw [← Paired.length rw', sizeLine_eq]
      omega
    exact oinit_ok T I1 ea hlen fun s' J => ⟨.non, H1, J, rfl, q⟩
end
/-- what the __init__ of C does: the one field f is set -/
def spI (K : PySem.W.Frag) (C : Addr) (f : Str) : Sp := fun vs H Q _ => ∃ (a : Addr) (i : Int), vs = [.ref a, .int i] ∧ H a = some (exo a C none) ∧ ∀ dx, H dx = none → dx ≠ a → Q .non (upd (upd H dx (exd dx [(f, .int i)])) a (exo a C (some dx)))
def yRaiseI (c f : Str) (h : Env → M (List D)) : Env → Store → Out := fun e S => (h e S).out e fun l S1 => match l with
  | [.int i] => .exc ⟨c, some (f, i)⟩ e S1
  | _ => .bad
section
variable {X : Cx} {W : WX} {x f : Str} {e : Expr} {h : Env → M (List D)} {p pos pos2 : Pos} {C fI : Addr} {CX : CXT} {k : Nat} {fd : FuncData} {ps : List Str}
theorem upd_back {H : Hp} {a d : Addr} {o1 o2 o3 o4 : HO} (hn : H a = none) (hd : d ≠ a) : upd (del (upd (upd (upd H a o1) d o2) a o3) a) d o4 = upd H d o4 := by
  funext b
  by_cases q : b = d
  · subst q; rw [upd_same, upd_same]
  · rw [upd_ne q, upd_ne q]
    by_cases q2 : b = a
    · subst q2; rw [del_same, hn]
    · rw [del_ne q2, upd_ne q2, upd_ne q, upd_ne q2]
theorem psd_raiseI (hc : X.calm = true) (tk : Takes X W) (n : ClsAt X.K x C) (T : OexC X.K C) (iC : PySem.W.findIn X.K (.ref C) "__init__" = some (some (.ref fI))) (tI : PySem.W.typeIn X.K (.ref fI) = some (.type "function"))
    (F1 : FnOk X.prog X.w X.K X.mg X.base CX k fI fd ps (spI X.K C f)) (hr : Room (k + 1) X.A) (hb : Binds X.K fd ps []) (hx : Passes CX X (fun _ _ _ => False)) (hm : X.mg x = some (.ref C)) (ha : PAD X W [e] h) (hg : Gl X x := by rfl)
    (hdb : (x == ("__debug__" : Str)) = false := by decide) (he : starEach [e] X.env = (false, eval e X.env) :: starEach [] X.env := by rfl) (hpl : (backTo pos (starEach [] X.env)).any (·.1) = false := by rfl) :
    PSD X W (.Raise (some (.Call (.Name x p) [e] [] pos)) none pos2) (yRaiseI x f h) := by
  refine weakS (ps_raise hc tk (pmk_oex T iC tI F1 hr hb (ds := []) (dvs := []) .nil hx hg hm ha hdb he hpl)) fun D σ H ⟨w, env, eH, hw, hev, hs⟩ => ?_
  subst eH
  refine ⟨w, env, rfl, hw, hev, SatW.imp (SatS.out hs hev) fun w1 l vs g1 r1 s1 => ?_⟩
  split at s1
  · rename_i i
    obtain ⟨v, rfl, rv⟩ := one_inv r1
    rw [rp_int rv]
    refine ⟨by simp, fun a hn => ⟨a, i, rfl, upd_same, fun d hd hda => ⟨rfl, d, [(f, .int i)], upd_same, ?_, ?_, ?_⟩⟩⟩
    · rw [upd_ne hda, upd_same]
    · rwa [upd_ne hda] at hd
    · have hd1 : w1.H d = none := by rwa [upd_ne hda] at hd
      rw [upd_back hn hda]
      exact s1 ⟨w1.r, upd w1.F d (.xd [(f, .int i)]), w1.S, upd w1.H d (.xd [(f, .int i)])⟩ σ (.ref C) (some d) (Go.alloc g1.wd hd1) rfl ((hev.go g1).go (Go.alloc g1.wd hd1)) ⟨C, n, rfl, d, rfl, upd_same⟩
  · exact s1.elim
end
/-! ### e.f of a kept exception -/
def xFldL (L : List Str) (f : Str) (g : Env → M D) : Env → M D := fun e S => (g e S).bind fun d S1 => match d with
  | .exn c (some (f', i)) => if f' = f ∧ c ∈ L then .ok (.int i) S1 else .bad
  | _ => .bad
section
variable {X : Cx} {W : WX} {e : Expr} {g : Env → M D} {pos : Pos} {f : Str}
theorem pe_xfK {te : TE} (he : PE X e te) (hb : attributeBase e f X.env (eval e X.env) = eval e X.env := by rfl) :
    PE X (.Attribute e f pos) (fun σ H Q => te σ H fun x H1 => ∃ (a C dd : Addr) (fs : List (Str × V)) (v : V), x = .ref a ∧ H1 a = some (ExH (.ref C) (some dd) a) ∧ XfC X.K C ∧ PySem.W.findIn X.K (.ref C) f = some none ∧ H1 dd = some (.xd fs) ∧ fs.lookup f = some v ∧ Q v H1) := by
  refine ⟨fun pins s σ H Q I h => ?_⟩
  refine attr_of hb (thn (he.run pins s σ H _ I h) fun u s1 hh => ?_)
  obtain ⟨x, H1, I1, rx, a, C, dd, fs, v, ex, eh, T, hno, ea, l, q⟩ := hh
  subst ex
  obtain rfl : u = Value.ref a := rx
  obtain ⟨oe, vs, ha, hz, hd⟩ := (I1.hok a _ eh).1
  have hx : ObjOk X.prog X.w H1 s1.heap dd (.xd fs) := I1.hok dd _ ea
  obtain ⟨mA, hns, hr⟩ := hx
  obtain ⟨od, ho, hl⟩ := lookIn_ns hns
  obtain ⟨u, hu, ru⟩ := RelO.some_of (v := v) (o := mA f) (by rw [← l]; exact hr f)
  have J : PySem.W.InstAt s1.heap a oe C (some od) := ⟨ha, hz.1, by unfold PySem.W.notCls; rw [hd] <;> rfl, by rw [hz.2]; exact ho⟩
  exact HandSPX.exc_get I1.kIn J T.ga T.gg T.exC (PySem.W.findObj_own T.hdC hno rfl (by rw [hl, hu])) (handed_of ru) ⟨v, H1, I1.tok _, ru, q⟩
theorem pd_fldL {L : List Str} (fc : ∀ c ∈ L, FldC X.K f c) (he : PD X W e g) (hb : attributeBase e f X.env (eval e X.env) = eval e X.env := by rfl) : PD X W (.Attribute e f pos) (xFldL L f g) := by
  refine weakE (pe_xfK he hb) fun σ H Q ⟨w, env, eH, hw, hev, hs⟩ => ?_
  subst eH
  refine ⟨w, env, rfl, hw, hev, SatW.imp (SatW.bind hs) fun w1 d v g1 r1 s1 => ?_⟩
  split at s1
  · rename_i c f' i
    obtain ⟨hk, s2⟩ := satIf s1
    obtain ⟨hf, hc⟩ := hk
    subst hf
    unfold RD Rp at r1
    obtain ⟨a, C, d, rfl, hC, hF, dd, rfl, hdd⟩ := r1
    obtain ⟨hno, T⟩ := fc c hc C hC
    refine ⟨a, C, dd, _, .int i, rfl, g1.wd.same _ _ hF, T, hno, g1.wd.same _ _ hdd, by simp, s2 w1 (V.int i) (Go.refl g1.wd) rfl (by unfold RD; exact rpi)⟩
  · exact s1.elim
end
theorem fld_of {K : PySem.W.Frag} {mg : Str → Option Value} {c f : Str} {C : Addr} (h1 : Rc K mg c C) (hf : PySem.W.findIn K (.ref C) f = some none) : FldC K f c := fun C' e1 => by
  have e3 : C = C' := ClsAt.uniq h1.n e1
  subst e3
  exact ⟨hf, ⟨h1.e.hg, h1.e.hk, h1.b, h1.e.hd⟩⟩
end Dv
/-! # Dv20: reckoning where exceptions may be told -/
namespace Dv
open PySem PySem.Spec PyProof.Rows L2
structure Enx {α : Type} (x : Res α) (P : α → Store → Prop) (X : Exn → Store → Prop) : Prop where
  go : match x with
    | .ok a S => P a S
    | .exc y S => X y S
    | .bad => False
structure EnxO (o : Out) (Q : Pst) (X : Exn → Env → Store → Prop) : Prop where
  go : match o with
    | .exc y e S => X y e S
    | o => EnO0 o Q
section
variable {α β : Type} {x : Res α} {a : α} {S : Store} {P : α → Store → Prop} {X : Exn → Store → Prop} {Y : Exn → Env → Store → Prop} {Q : Pst} {e : Env} {d : D} {y : Exn}
@[simp] theorem enx_ok : Enx (.ok a S) P X = P a S := propext ⟨fun h => h.go, fun h => ⟨h⟩⟩
@[simp] theorem enx_exc : Enx (.exc y S : Res α) P X = X y S := propext ⟨fun h => h.go, fun h => ⟨h⟩⟩
@[simp] theorem enx_bad : Enx (.bad : Res α) P X = False := propext ⟨fun h => h.go, fun h => h.elim⟩
@[simp] theorem enx_bind {k : α → Store → Res β} {P : β → Store → Prop} : Enx (x.bind k) P X = Enx x (fun a S => Enx (k a S) P X) X := by cases x <;> simp
theorem Enx.imp {P' : α → Store → Prop} {X' : Exn → Store → Prop} (h : Enx x P X) (q : ∀ a S, P a S → P' a S) (r : ∀ y S, X y S → X' y S) : Enx x P' X' := by
  cases x with
  | ok a S => exact ⟨q _ _ h.go⟩
  | exc y S => exact ⟨r _ _ h.go⟩
  | bad => exact ⟨h.go⟩
theorem Ens.toX (h : Ens x P) : Enx x P X := by
  cases x with
  | ok a S => exact ⟨h.go⟩
  | exc y S => exact h.go.elim
  | bad => exact ⟨h.go⟩
theorem enx_ite {c : Prop} [Decidable c] {y : Res α} (h1 : c → Enx x P X) (h2 : ¬ c → Enx y P X) : Enx (if c then x else y) P X := by
  split
  · exact h1 (by assumption)
  · exact h2 (by assumption)
@[simp] theorem enxo_nx : EnxO (.nx e S) Q Y = Q.nx e S := propext ⟨fun h => h.go, fun h => ⟨h⟩⟩
@[simp] theorem enxo_rt : EnxO (.rt d S) Q Y = Q.rt d S := propext ⟨fun h => h.go, fun h => ⟨h⟩⟩
@[simp] theorem enxo_bk : EnxO (.bk e S) Q Y = Q.bk e S := propext ⟨fun h => h.go, fun h => ⟨h⟩⟩
@[simp] theorem enxo_ct : EnxO (.ct e S) Q Y = Q.ct e S := propext ⟨fun h => h.go, fun h => ⟨h⟩⟩
@[simp] theorem enxo_exc : EnxO (.exc y e S) Q Y = Y y e S := propext ⟨fun h => h.go, fun h => ⟨h⟩⟩
@[simp] theorem enxo_bad : EnxO .bad Q Y = False := propext ⟨fun h => h.go, fun h => h.elim⟩
@[simp] theorem enxo_out {k : α → Store → Out} : EnxO (x.out e k) Q Y = Enx x (fun a S => EnxO (k a S) Q Y) (fun y S => Y y e S) := by cases x <;> simp
@[simp] theorem enxo_seq {o : Out} {k : Env → Store → Out} : EnxO (o.seq k) Q Y = EnxO o { Q with nx := fun e S => EnxO (k e S) Q Y } Y := by cases o <;> simp
theorem EnsO.toX {o : Out} (h : EnsO o Q) : EnxO o Q Y := by
  cases o with
  | exc y e S => exact h.go.elim
  | _ => exact ⟨h.go⟩
theorem EnxO.imp {o : Out} {Q' : Pst} {Y' : Exn → Env → Store → Prop} (h : EnxO o Q Y) (h1 : ∀ e S, Q.nx e S → Q'.nx e S) (h2 : ∀ e S, Q.rt e S → Q'.rt e S) (h3 : ∀ e S, Q.bk e S → Q'.bk e S) (h4 : ∀ e S, Q.ct e S → Q'.ct e S) (h5 : ∀ y e S, Y y e S → Y' y e S) : EnxO o Q' Y' := by
  cases o with
  | nx e S => exact ⟨h1 _ _ h.go⟩
  | rt e S => exact ⟨h2 _ _ h.go⟩
  | bk e S => exact ⟨h3 _ _ h.go⟩
  | ct e S => exact ⟨h4 _ _ h.go⟩
  | exc y e S => exact ⟨h5 _ _ _ h.go⟩
  | bad => exact ⟨h.go⟩
theorem enxo_ite {c : Prop} [Decidable c] {o p : Out} (h1 : c → EnxO o Q Y) (h2 : ¬ c → EnxO p Q Y) : EnxO (if c then o else p) Q Y := by
  split
  · exact h1 (by assumption)
  · exact h2 (by assumption)
end
theorem enx_fn {np ns : Nat} {keep : Bool} {body : Env → Store → Out} {ds : List D} {S : Store} {P : D → Store → Prop} {X : Exn → Store → Prop} (hl : ds.length = np)
    (h : EnxO (body (ds.map some ++ List.replicate (ns - np) none) S) { nx := fun _ S' => Enx (fin keep S.length .non S') P X, rt := fun d S' => Enx (fin keep S.length d S') P X } fun y _ S' => Enx (finX S.length y S') P X) : Enx (fnD np ns keep body ds S) P X := by
  unfold fnD
  rw [if_pos hl]
  cases o : body (ds.map some ++ List.replicate (ns - np) none) S with
  | nx e S => rw [o] at h; exact h.go
  | rt e S => rw [o] at h; exact h.go
  | bk e S => rw [o] at h; exact h.go.elim
  | ct e S => rw [o] at h; exact h.go.elim
  | exc y e S => rw [o] at h; exact h.go
  | bad => rw [o] at h; exact h.go.elim
@[simp] theorem finX_same {S : Store} {y : Exn} : finX S.length y S = .exc y S := by simp [finX]
theorem finX_cut {S R : Store} {y : Exn} (hu : (S.all fun c => c.under S.length) = true) : finX S.length y (S ++ R) = .exc y S := by
  unfold finX
  by_cases z : (S ++ R).length = S.length
  · rw [if_pos z]
    have : R = [] := List.length_eq_zero_iff.mp (by rw [List.length_append] at z; omega)
    subst this
    simp
  · rw [if_neg z, List.take_left, hu]
    rfl
theorem enx_sq {y y' : Env → Store → Out} {e : Env} {S : Store} {Q : Pst} {Y : Exn → Env → Store → Prop} (R : Env → Store → Prop) (h1 : ∀ R' : Env → Store → Prop, (∀ e S, R e S → R' e S) → EnxO (y e S) { Q with nx := R' } Y) (h2 : ∀ e S, R e S → EnxO (y' e S) Q Y) : EnxO (ySeq y y' e S) Q Y := by
  have h := h1 R fun _ _ h => h
  unfold ySeq
  rw [enxo_seq]
  exact h.imp h2 (fun _ _ h => h) (fun _ _ h => h) (fun _ _ h => h) (fun _ _ _ h => h)
theorem enx_fr {g : D → Env → Store → Out} {b : Env → Store → Out} {Q : Pst} {Y : Exn → Env → Store → Prop} (I : Nat → Env → Store → Prop) : ∀ {items : List D} {e : Env} {S : Store}, I 0 e S →
    (∀ (i : Nat) d e S (R' : Env → Store → Prop), items[i]? = some d → I i e S → (∀ e S, I (i + 1) e S → R' e S) → EnxO (g d e S) { nx := fun e1 S1 => EnxO (b e1 S1) { nx := R', ct := R', bk := Q.nx, rt := Q.rt } Y } fun _ _ _ => False) →
    (∀ e S, I items.length e S → Q.nx e S) → EnxO (forL (fun _ => True) g b items e S) Q Y := by
  have go : ∀ (items : List D) (I : Nat → Env → Store → Prop) (e : Env) (S : Store), I 0 e S →
    (∀ (i : Nat) d e S (R' : Env → Store → Prop), items[i]? = some d → I i e S → (∀ e S, I (i + 1) e S → R' e S) → EnxO (g d e S) { nx := fun e1 S1 => EnxO (b e1 S1) { nx := R', ct := R', bk := Q.nx, rt := Q.rt } Y } fun _ _ _ => False) →
    (∀ e S, I items.length e S → Q.nx e S) → EnxO (forL (fun _ => True) g b items e S) Q Y := by
    intro items
    induction items with
    | nil =>
      intro I e S h0 _ hd
      unfold forL
      rw [if_pos trivial, enxo_nx]
      exact hd e S h0
    | cons d l ih =>
      intro I e S h0 hs hd
      unfold forL
      rw [if_pos trivial]
      have h1 := hs 0 d e S (I 1) rfl h0 fun _ _ h => h
      have next : ∀ e' S', I 1 e' S' → EnxO (forL (fun _ => True) g b l e' S') Q Y := fun e' S' q => ih (fun i => I (i + 1)) e' S' q (fun i d' e2 S2 R' hi hI hR => hs (i + 1) d' e2 S2 R' hi hI hR) fun e2 S2 q2 => hd e2 S2 q2
      cases o : g d e S with
      | nx e1 S1 =>
        rw [o, enxo_nx] at h1
        dsimp only at h1 ⊢
        cases o2 : b e1 S1 with
        | nx e2 S2 => rw [o2, enxo_nx] at h1; exact next _ _ h1
        | ct e2 S2 => rw [o2, enxo_ct] at h1; exact next _ _ h1
        | bk e2 S2 => rw [o2, enxo_bk] at h1; dsimp only; rw [enxo_nx]; exact h1
        | rt e2 S2 => rw [o2, enxo_rt] at h1; dsimp only; rw [enxo_rt]; exact h1
        | exc y e2 S2 => rw [o2, enxo_exc] at h1; dsimp only; rw [enxo_exc]; exact h1
        | bad => rw [o2, enxo_bad] at h1; exact h1.elim
      | rt e1 S1 => rw [o, enxo_rt] at h1; exact h1.elim
      | bk e1 S1 => rw [o, enxo_bk] at h1; exact h1.elim
      | ct e1 S1 => rw [o, enxo_ct] at h1; exact h1.elim
      | exc y e1 S1 => rw [o, enxo_exc] at h1; exact h1.elim
      | bad => rw [o, enxo_bad] at h1; exact h1.elim
  intro items e S h0 hs hd
  exact go items I e S h0 hs hd
section
variable {oo : Option D} {ll : Env} {S S' : Store} {e e' : Env} {x : Exn} {c d f : Str} {i j : Nat} {g : Env → Store → Out} {h : Env → M (List D)} {g' : Env → M D} {L : List (Str × Str × Bool)} {R : List Str} {Q : Pst} {Y : Exn → Env → Store → Prop}
@[simp] theorem yRaiseI_app : yRaiseI c f h (oo :: ll) S = (h (oo :: ll) S).out (oo :: ll) fun l S1 => match l with
  | [.int i] => .exc ⟨c, some (f, i)⟩ (oo :: ll) S1
  | _ => .bad := rfl
@[simp] theorem xFldL_app {R : List Str} : xFldL R f g' (oo :: ll) S = (g' (oo :: ll) S).bind fun d S1 => match d with
  | .exn c (some (f', i)) => if f' = f ∧ c ∈ R then .ok (.int i) S1 else .bad
  | _ => .bad := rfl
/-- a suite that tells, or raises what is caught and kept -/
theorem enx_try (h : EnxO (g e S) Q fun y e' S' => subT L y.cls d = some true ∧ ∃ o, e'[i]? = some o ∧ Q.nx ((e'.set j (some (.exn y.cls y.val))).set i none) S') : EnsO (yTryKeep L d i j g e S) Q := by
  cases o : g e S with
  | exc y e2 S2 =>
    rw [o, enxo_exc] at h
    obtain ⟨h1, o', h2, h3⟩ := h
    rw [yTry_exc o h1 h2, enso_nx]
    exact h3
  | nx e2 S2 => rw [o, enxo_nx] at h; unfold yTryKeep; rw [o]; exact ⟨h⟩
  | rt e2 S2 => rw [o, enxo_rt] at h; unfold yTryKeep; rw [o]; exact ⟨h⟩
  | bk e2 S2 => rw [o, enxo_bk] at h; unfold yTryKeep; rw [o]; exact ⟨h⟩
  | ct e2 S2 => rw [o, enxo_ct] at h; unfold yTryKeep; rw [o]; exact ⟨h⟩
  | bad => rw [o, enxo_bad] at h; exact h.elim
end
end Dv
/-! # Dv21: {k: v}, d.setdefault, len(set(..)); defs that call themselves -/
namespace Dv
open PySem PySem.Spec PyProof.Rows L2
theorem fn_bad {P : Program} {w : World} {K : PySem.W.Frag} {mg : Str → Option Value} {base : Heap} {CX : CXT} {k : Nat} {f : Addr} {fd : FuncData} {ps : List Str} : FnOk P w K mg base CX k f fd ps (spD ⟨K, mg⟩ fun _ _ => .bad) := by
  refine ⟨fun vs H Q E ⟨wl, ds, _, _, _, hs⟩ => hs.elim, fun A outer s H args us vs Q E _ _ _ _ ⟨wl, ds, _, _, _, hs⟩ => hs.elim⟩
/-! ### {k: v} -/
def xDct1 (f g : Env → M D) : Env → M D := fun e S => (f e (S ++ [.dct []])).bind fun k S1 => (g e S1).bind fun v S2 => match keyD k, S2[S.length]? with
  | some kk, some (.dct []) => .ok (.cell S.length) (S2.set S.length (.dct [(kk, v)]))
  | _, _ => .bad
section
variable {X : Cx} {W : WX} {o i e f k v : Expr} {fo fi fe ff fk fv : Env → M D} {pos apos cpos : Pos}
theorem pd_dct1 (hk : PD X W k fk) (hv : PD X W v fv) : PD X W (.Dict [some k] [v] pos) (xDct1 fk fv) := by
  refine weakE (pe_disp (pps_cons hk hv pps_nil) rfl rfl (by simp) (by simp)) fun σ H Q ⟨w, env, eH, hw, he, hs⟩ p hp => ?_
  subst eH
  have g0 : Go X.K w ⟨w.r ++ [p], w.F, w.S ++ [.dct []], upd w.H p (.dK [])⟩ := Go.newCell (c := .dct []) hw hp (by exact ⟨hw.fresh hp, [], upd_same, .nil⟩)
  have hat : (w.r ++ [p])[w.S.length]? = some p := by
    rw [← hw.len, List.getElem?_append_right (Nat.le_refl _), Nat.sub_self]
    rfl
  unfold xDct1 at hs
  refine ⟨⟨w.r ++ [p], w.F, w.S ++ [.dct []], upd w.H p (.dK [])⟩, env, rfl, g0.wd, he.go g0, SatW.imp (SatW.bind (hs.pre g0)) fun w1 d1 v1 g1 r1 s1 => ?_⟩
  refine ⟨w1, env, rfl, g1.wd, (he.go g0).go g1, SatW.imp (SatW.bind s1) fun w2 d2 v2 g2 r2 s2 => ?_⟩
  have cellAt : RD (kt X).K w2 (.cell w.S.length) (.ref p) := by
    have h0 : Rp X.K (w.r ++ [p]) w.F (.cell w.S.length) (.ref p) := by unfold Rp; exact ⟨p, hat, rfl⟩
    exact Rp.go (g1.trans g2) (w := ⟨w.r ++ [p], w.F, w.S ++ [.dct []], upd w.H p (.dK [])⟩) h0
  split at s2
  · rename_i kk hk2 hc
    obtain ⟨a, ws, ea, ha, pp, go⟩ := cellK_write (T := kt X) (l' := [(kk, d2)]) g2.wd cellAt hc
    cases ea
    cases pp.length ▸ (show ws.length = 0 from pp.length)
    have ew : ws = [] := List.length_eq_zero_iff.mp pp.length
    subst ew
    rw [keyD_v r1 hk2]
    refine ⟨ha, [(kk, v2)], rfl, by simp, ?_⟩
    have g3 := go [(kk, v2)] (.cons ⟨rfl, r2⟩ .nil)
    exact s2 _ (.ref p) g3 rfl (Rp.go g3 cellAt)
  · exact s2.elim
def dSetd (x k z : D) (S : Store) : Res D := match cellK x S, keyD k with
  | some (n, l), some kk => if l.length < 16000000 then match valD l kk with
    | some d => .ok d S
    | none => .ok z (S.set n (.dct (putD l kk z)))
    else .bad
  | _, _ => .bad
def xSetd (o e f : Env → M D) : Env → M D := fun n S => (o n S).bind fun x S1 => if isK x S1 = true then (e n S1).bind fun k S2 => (f n S2).bind fun z S3 => dSetd x k z S3 else .bad
theorem pd_setd (ho : PD X W o fo) (he : PD X W e fe) (hf : PD X W f ff) (m : M2 X o "setdefault" apos e f cpos := by exact ⟨rfl, rfl, rfl, rfl⟩) : PD X W (.Call (.Attribute o "setdefault" apos) [e, f] [] cpos) (xSetd fo fe ff) := by
  refine weakE (pe_dsetd ho he hf m) fun σ H Q ⟨w, env, eH, hw, he, hs⟩ => ?_
  subst eH
  refine ⟨w, env, rfl, hw, he, SatW.imp (SatW.bind hs) fun w1 d v g1 r1 s1 => ?_⟩
  obtain ⟨hk, s1⟩ := satIf s1
  obtain ⟨a, rfl, hd⟩ := isK_isD g1.wd r1 hk
  refine ⟨a, rfl, hd, w1, env, rfl, g1.wd, he.go g1, SatW.imp (SatW.bind s1) fun w2 d2 v2 g2 r2 s2 => ?_⟩
  refine ⟨w2, env, rfl, g2.wd, (he.go g1).go g2, SatW.imp (SatW.bind s2) fun w3 d3 v3 g3 r3 s3 => ?_⟩
  have r1' := Rp.go (g2.trans g3) r1
  have r2' := Rp.go g3 r2
  unfold dSetd at s3
  split at s3
  · rename_i n l kk hc hk2
    obtain ⟨hl, s3⟩ := satIf s3
    obtain ⟨rfl, en⟩ := cellK_eq hc
    obtain ⟨a', ws, ea, ha, p, go⟩ := cellK_write (T := kt X) (l' := putD l kk d3) g3.wd r1' en
    cases ea
    refine ⟨ws, kk, ha, keyD_v r2 hk2, by rw [p.length]; exact Nat.lt_of_lt_of_le hl (line16 (Nat.le_refl _)), fun vz ez => ?_, fun ez => ?_⟩
    · cases q : valD l kk with
      | none => rw [p.none q] at ez; cases ez
      | some d =>
        rw [q] at s3
        obtain ⟨vz', ez', rz⟩ := p.some q
        rw [ez'] at ez
        cases ez
        exact SatW.here (v := vz) s3 g3.wd rz
    · cases q : valD l kk with
      | some d =>
        obtain ⟨vz', ez', rz⟩ := p.some q
        rw [ez'] at ez
        cases ez
      | none =>
        rw [q] at s3
        have g4 := go _ (p.put kk r3)
        exact s3 _ v3 g4 rfl (Rp.go g4 r3)
  · exact s3.elim
end
/-! ### len(set(xs)) -/
def dedup (ns : List Int) : List Int := firstMet (fun i => ns.getD i 0) ns.length
def tLenSetX (K : PySem.W.Frag) (ta : TE) : TE := fun σ H Q => ta σ H fun x H1 => ∃ (l : Addr) (ns : List Int), x = V.ref l ∧ SqL K H1 l (ns.map V.int) ∧ ns.length ≤ 4000 ∧ Q (.int (dedup ns).length) H1
section
variable {X : Cx} {W : WX}
theorem pe_lenSetX {a : Expr} {ta : TE} {p p2 q pos : Pos} (hc : X.calm = true) (hg : Gl X "len") (hm : X.mg "len" = none) (hg2 : Gl X "set") (hm2 : X.mg "set" = none) (ha : PE X a ta)
    (na : starEach [a] X.env = (false, eval a X.env) :: starEach [] X.env := by rfl) : PE X (.Call (.Name "len" p) [.Call (.Name "set" p2) [a] [] q] [] pos) (tLenSetX X.K ta) := by
  refine ⟨fun pins s σ H Q I h => ?_⟩
  refine Call_ (ld_blt I hg hm PySem.boot_len ?_)
  refine PyProof.Rows.callWith_builtin1 (PyProof.Rows.args_cons ?_ rfl) rfl rfl
  refine Call_ (ld_blt I hg2 hm2 PyProof.Rows.boot_set ?_)
  refine PyProof.Rows.callWith_type1 (PyProof.Rows.args_cons (thn (ha.run pins s σ H _ I h) fun v s1 ⟨x, H1, I1, r1, q1⟩ => PyProof.Rows.args_nil ?_) na) na rfl
  obtain ⟨l, ns, rfl, hq, h1, q1⟩ := q1
  cases r1
  obtain ⟨its, r, pl, hz⟩ := I1.list hq
  have hl : its.toArray.size = ns.length := by rw [List.size_toArray, ← r.length, List.length_map]
  refine call_set_list (I1.ok.hd hc) pl.isList (ns := ns) (by simpa using r.ints) (by unfold scanBound; omega) fun h' tk hS hk => ?_
  rw [hl] at hS
  have hle := firstMet_length_le (fun i => ns.getD i 0) ns.length
  refine PyProof.Rows.args_nil ?_
  obtain ⟨o, es, ep, t, ho, hex, hd, _, _, _, hf, hn⟩ := hS
  have I2 : Inv X pins σ H1 { s1 with heap := h', toks := tk } := I1.kept fun b o e => hk b o (Heap.lt_size e) e
  refine call_len_set ho hex hd hf (by rw [hn] <;> omega) ⟨.int (dedup ns).length, H1, I2.tok _, ⟨_, by rw [hn]; rfl⟩, q1⟩
def dLenSet (d : D) (S : Store) : Res D := match (getQ d S).bind intsOf with
  | some ns => if ns.length ≤ 4000 then .ok (.int (dedup ns).length) S else .bad
  | none => .bad
def xLenSet (f : Env → M D) : Env → M D := fun e S => (f e S).bind dLenSet
theorem pd_lenSet {a : Expr} {f : Env → M D} {p p2 q pos : Pos} (hc : X.calm = true) (hm : X.mg "len" = none) (hm2 : X.mg "set" = none) (ha : PD X W a f) (hg : Gl X "len" := by rfl) (hg2 : Gl X "set" := by rfl)
    (na : starEach [a] X.env = (false, eval a X.env) :: starEach [] X.env := by rfl) : PD X W (.Call (.Name "len" p) [.Call (.Name "set" p2) [a] [] q] [] pos) (xLenSet f) := by
  refine weakE (pe_lenSetX hc hg hm hg2 hm2 ha na) fun σ H Q ⟨w, env, eH, hw, he, hs⟩ => ?_
  subst eH
  refine ⟨w, env, rfl, hw, he, SatW.imp (SatW.bind hs) fun w1 d v g1 r1 s1 => ?_⟩
  unfold dLenSet at s1
  cases hn : (getQ d w1.S).bind intsOf with
  | none => rw [hn] at s1; exact s1.elim
  | some ns =>
    rw [hn] at s1
    obtain ⟨hl, s1⟩ := satIf s1
    obtain ⟨a, rfl, hq⟩ := ints_of g1.wd r1 hn
    exact ⟨a, ns, rfl, hq, hl, SatW.here (v := V.int _) s1 g1.wd rpi⟩
end
theorem dedup_mem (ns : List Int) (k : Int) : k ∈ dedup ns ↔ k ∈ ns := by
  have e : (List.range ns.length).map (fun i => ns.getD i 0) = ns := by
    apply List.ext_getElem
    · simp
    · intro i h1 h2
      simp at h1 ⊢
      rw [List.getElem?_eq_getElem h2]
      rfl
  have h := firstMet_any (fun i => ns.getD i 0) ns.length k
  rw [e] at h
  have z : ∀ l : List Int, (l.any (· == k)) = true ↔ k ∈ l := fun l => by
    rw [List.any_eq_true]
    constructor
    · rintro ⟨x, hx, q⟩
      rw [← beq_iff_eq.mp q]; exact hx
    · exact fun hk => ⟨k, hk, beq_self_eq_true _⟩
  unfold dedup
  rw [← z, ← z, h]
theorem dedup_nodup (ns : List Int) : (dedup ns).Nodup := by
  have go : ∀ (val : Nat → Int) (i : Nat), (firstMet val i).Nodup := by
    intro val i
    induction i with
    | zero => rw [firstMet_zero]; exact List.nodup_nil
    | succ i ih =>
      rw [firstMet_succ]
      unfold step_dedup
      split
      · exact ih
      · rename_i h
        refine List.nodup_append.mpr ⟨ih, by simp, fun a ha b hb => ?_⟩
        rw [List.mem_singleton.mp hb]
        intro z
        exact h (List.any_eq_true.mpr ⟨a, ha, by rw [z]; exact beq_self_eq_true _⟩)
  exact go _ _
section
variable {oo : Option D} {ll : Env} {S : Store} {f g h : Env → M D}
@[simp] theorem xLenSet_app : xLenSet f (oo :: ll) S = (f (oo :: ll) S).bind dLenSet := rfl
@[simp] theorem xDct1_app : xDct1 f g (oo :: ll) S = (f (oo :: ll) (S ++ [.dct []])).bind fun k S1 => (g (oo :: ll) S1).bind fun v S2 => match keyD k, S2[S.length]? with
  | some kk, some (.dct []) => .ok (.cell S.length) (S2.set S.length (.dct [(kk, v)]))
  | _, _ => .bad := rfl
@[simp] theorem xSetd_app : xSetd f g h (oo :: ll) S = (f (oo :: ll) S).bind fun x S1 => if isK x S1 = true then (g (oo :: ll) S1).bind fun k S2 => (h (oo :: ll) S2).bind fun z S3 => dSetd x k z S3 else .bad := rfl
end
end Dv
/-! # Dv22: try with a suite of any statements -/
namespace Dv
open PySem PySem.Spec PyProof.Rows L2
section
variable {X : Cx} {pins : List (Addr × Obj)} {σ : L2.St} {H : Hp} {s : Shared}
theorem suite0 {a : Addr} (I : Inv X pins σ H s) : Inv (X.suite a (X.pn ++ pins)) [] σ H s :=
  ⟨I.ok.suite _ _, I.os, I.bare, I.base, I.loc, I.cell, I.free, I.freeC, fun p hp => I.pin p (by rw [List.append_nil] at hp; exact hp), I.hok, I.len⟩
theorem unsuite0 {a : Addr} {pn' : List (Addr × Obj)} (I : Inv (X.suite a (X.pn ++ pins)) pn' σ H s) (ok : X.Ok) : Inv X pins σ H s :=
  ⟨ok, I.os, I.bare, I.base, I.loc, I.cell, I.free, I.freeC, fun p hp => I.pin p (List.mem_append_left _ hp), I.hok, I.len⟩
end
/-- as wKeep; the exception is tracked ahead of the suite -/
def wAdopt (K : PySem.W.Frag) (c : Value) (i : Nat) (ts : Addr → Value → Option Addr → TS) (Wout : WX) (D : Ends) : WX := fun cls d σ H =>
  ∃ b, PySem.W.exmOne K cls c = some b ∧ (b = true → ∀ a, H a = none → ts a cls d { nx := fun σ' H' => D.nx (σ'.set i none) H', rt := D.rt, bk := fun σ' H' => D.bk (σ'.set i none) H', ct := fun σ' H' => D.ct (σ'.set i none) H' } (σ.set i (some (.ref a))) (upd H a (ExH cls d a))) ∧
    (b = false → Wout cls d σ H)
section
variable {X : Cx} {x n : Str} {c : Value} {i : Nat} {body suite : List Stmt} {b₀ : Stmt} {np pos pos' : Pos} {tb : WX → TS} {ts : Addr → Value → Option Addr → TS} {Wout : WX}
theorem ps_try_adopt (hs : X.stack = X.env :: X.outer) (hf : X.env.frame = some X.env.locals) (hex : X.ex = []) (hN : X.N.Nodup) (hi : X.N[i]? = some n) (hln : X.env.kindOf n = some .local) (hc : Names X x c) (tk : Takes X Wout)
    (hb : ∀ (W : WX) (pn : List (Addr × Obj)) (xe : Value → Shared → Prop), Takes (X.tr pn xe) W → PassesOwn (model X.prog X.w) X.A X.env xe → PSs (X.tr pn xe) body (tb W))
    (hsu : ∀ (a : Addr) (cls : Value) (d : Option Addr) (pn : List (Addr × Obj)), PSs (X.suite a pn) (b₀ :: suite) (ts a cls d)) :
    PS X (.Try body [.ExceptHandler (some (.Name x np)) (some n) (b₀ :: suite) pos'] [] [] pos) (fun D σ H => tb (wAdopt X.K c i ts Wout D) D σ H) := by
  refine ⟨fun pins s σ H D I h => ?_⟩
  have ok := I.ok
  have hfr : X.A.frames = some (X.env :: X.outer) := by rw [ok.frames, hs]
  have hloc : Loc X.env.scope n := .inl hln
  refine wpAny_Try_except ?_
  refine wpAny_mono ((hb (wAdopt X.K c i ts Wout D) (X.pn ++ pins) (fun e s₁ => wpAny (model X.prog X.w) X.A (noteFrame e X.env) (fun _ s₂ => wpAny (model X.prog X.w) X.A (setFlight e none) (fun _ s₃ =>
    wpAny (model X.prog X.w) X.A (handleBy e X.env [.ExceptHandler (some (.Name x np)) (some n) (b₀ :: suite) pos']) (SP X pins D) X.xe s₃) X.xe s₂) X.xe s₁) (fun u s' xx => ?_) PassesOwn.looking).run [] s σ H D (I.toTry _) h) (fun f s1 hsp => ?_) (fun e s1 he => he)
  · -- the catch
    obtain ⟨a, B, sI, pins', σ', H', cls, d, rfl, J', nb, up, sky, na, os, ag, b, hb1, hyes, hno⟩ := xx
    have J : Inv X pins σ' H' sI := J'.ofTry ok
    have sky' : Sky B (X.env :: X.outer) a (Zc cls d) X.env.locals s'.heap := by rw [← hs]; exact sky
    show wpAny _ X.A (noteFrame (.ref a) X.env) _ _ _
    refine Sky.land Zc.steady hfr hf sky' fun h3 fl3 up3 => ?_
    have J3 : Inv X pins σ' H' { s' with heap := h3 } := J.landed nb fl3.1 (up.trans up3) os ag
    obtain ⟨oe3, vs3, he3, hz3, hd3⟩ := fl3.there
    have notFr : ∀ {h : Heap} {o : Obj} {vs : Array Value}, h.FunFrames B (X.env :: X.outer) → h.get? a = some o → o.data = .fields vs → a ∉ frs (X.env :: X.outer) := fun {h o vs} ff e dd hm => by
      obtain ⟨_, o', e', hnf⟩ := ff.mem hm
      rw [e] at e'; cases e'
      exact hnf _ dd
    have nfr := notFr fl3.2.2.1 he3 hd3
    have nL : a ≠ X.env.locals := fun z => nfr (List.mem_filterMap.mpr ⟨X.env, List.mem_cons_self, by rw [hf, z]⟩)
    have nF : a ∉ X.fs := fun hm => by
      obtain ⟨e, he, q⟩ := List.mem_filterMap.mp hm
      exact nfr (List.mem_filterMap.mpr ⟨e, List.mem_cons_of_mem _ he, q⟩)
    -- what was there is not the exception
    have old : ∀ b ob, sI.heap.get? b = some ob → b ≠ a := fun b ob e z => by
      have hbf : b ∉ frs X.stack := fun hm => by
        rw [hs] at hm
        exact nfr (by rw [← z]; exact hm)
      have q := nb b ob e hbf
      rw [z, fl3.2.1] at q
      cases q
    have n0 : X.s_0.heap.get? a = none := by
      cases e : X.s_0.heap.get? a with
      | none => rfl
      | some ob =>
        obtain ⟨o', q⟩ := J.base.there a ob e (by rw [hex]; exact fun z => nomatch z)
        exact (old a o' q rfl).elim
    have nC : ∀ x c, X.env.cells.lookup x = some c → c ≠ a := fun x c e => by
      obtain ⟨v, ob, q, _⟩ := J.cell x c e
      exact old c ob q
    have nP : ∀ p ∈ X.pn ++ pins, p.1 ≠ a := fun p hp => old p.1 p.2 (J.pin p hp).1
    have S3 := J3.suite he3 hd3 na nL nF
    refine wpAny_handleBy_cons (codeAny_handlers_test ?_) (by intro q; cases q)
    have LT : PySem.W.Looks (model X.prog X.w) h3 (typeOf (.ref a)) cls := fun A Q E s k q => wpAny_typeOf_ref (k _ _ he3) (by rw [hz3.1]; exact q)
    have LM := PySem.W.exm_one (M := model X.prog X.w) (J3.kIn) LT hb1
    have test : ∀ {Q : Value → Shared → Prop} {E : Value → Shared → Prop}, Q c { s' with heap := h3 } → wpAny (model X.prog X.w) (X.A.mark (some (.ref a))) (eval (.Name x np) X.env) Q E { s' with heap := h3 } := fun {Q E} q => by
      obtain ⟨hg, hdbg, hm | ⟨hm, hv, hnn⟩⟩ := hc
      · exact ld_glob (X := X.suite a ((a, oe3) :: (X.pn ++ pins))) S3 hg hm q hdbg
      · exact ld_blt (X := X.suite a ((a, oe3) :: (X.pn ++ pins))) S3 hg hm hv q hnn hdbg
    refine test (LM.here ?_)
    cases b with
    | true =>
      refine codeAny_handlers_suite_as ?_
      refine HandSPX.lands_againZ fl3 fun h4 fl4 up4 => ?_
      have J4 : Inv X pins σ' H' { s' with heap := h4 } := J.landed nb fl4.1 ((up.trans up3).trans up4) os ag
      obtain ⟨oe4, vs4, he4, hz4, hd4⟩ := fl4.there
      have S4 := suite0 (a := a) (inv_adopt J4 na nL nC nP n0 (exh_ok he4 hz4 hd4))
      refine store_ok (X := X.suite a (X.pn ++ pins)) (v := .ref a) S4 hN hi hloc rfl (fun s5 S5 => ?_) (.inr hln)
      refine wpAny_mono ((hsu a cls d (X.pn ++ pins)).run [] s5 _ _ _ S5 (hyes rfl a na)) (fun f s6 hsp => ?_) (fun _ _ z => False.elim z)
      have end_ : ∀ {σ6 : L2.St} {H6 : Hp} {Q : Shared → Prop}, Inv (X.suite a (X.pn ++ pins)) [] σ6 H6 s6 → (∀ s7, Inv X pins (σ6.set i none) H6 s7 → Q s7) →
          wpAny (model X.prog X.w) X.A (do bindName X.env n .none; unbindBehindTheSuite X.env n pos') (fun _ s7 => Q s7) X.xe s6 := fun {σ6 H6 Q} S6 hq => gone_ok (unsuite0 S6 ok) hN hi hln hq
      cases f with
      | next =>
        obtain ⟨σ6, H6, S6, q6⟩ := hsp
        exact end_ S6 fun s7 J7 => ⟨_, _, J7, q6⟩
      | brk =>
        obtain ⟨σ6, H6, S6, q6⟩ := hsp
        exact end_ S6 fun s7 J7 => ⟨_, _, J7, q6⟩
      | cont =>
        obtain ⟨σ6, H6, S6, q6⟩ := hsp
        exact end_ S6 fun s7 J7 => ⟨_, _, J7, q6⟩
      | ret u =>
        obtain ⟨v6, σ6, H6, S6, r6, q6⟩ := hsp
        exact end_ S6 fun s7 J7 => ⟨_, _, _, J7, r6, q6⟩
    | false =>
      show wpAny _ X.A (handleBy (.ref a) X.env []) _ _ _
      refine wpAny_handleBy_nil ?_
      obtain ⟨k1, k2, k3, oe, vs, T, oT, ts', he, hz, hd, h1, hr⟩ := id fl3
      unfold PySem.passOn
      refine wpAny_bind (wpAny_field he hd h1 ?_)
      rw [if_neg (show ¬ ((Value.ref T == Value.none) = true) from by simp)]
      have fin : wpAny (model X.prog X.w) X.A (setFlight (.ref a) X.env.frame) (fun _ s4 => wpAny (model X.prog X.w) X.A (throw (.ref a) : Sem Flow) (SP X pins D) X.xe s4) X.xe { s' with heap := h3 } := by
        rw [hf]
        refine HandSPX.setFlight_upZ fl3 fun h4 hh4 up4 => wpAny_throw (tk _ _ ?_)
        exact ⟨a, B, sI, pins, σ', H', cls, d, rfl, J, nb, (up.trans up3).trans up4, .inr (.inr (by rw [hs]; exact hh4)), na, os, ag, hno rfl⟩
      first
        | exact wpAny_bind (wpAny_pure (wpAny_bind fin))
        | exact wpAny_bind fin
  · cases f with
    | next =>
      obtain ⟨σ', H', J', q⟩ := hsp
      exact wpAny_execs_nil ⟨σ', H', J'.ofTry ok, q⟩
    | brk =>
      obtain ⟨σ', H', J', q⟩ := hsp
      exact ⟨σ', H', J'.ofTry ok, q⟩
    | cont =>
      obtain ⟨σ', H', J', q⟩ := hsp
      exact ⟨σ', H', J'.ofTry ok, q⟩
    | ret u =>
      obtain ⟨v, σ', H', J', r, q⟩ := hsp
      exact ⟨v, σ', H', J'.ofTry ok, r, q⟩
end

/-! ### try .. except D as e: any suite -/
def yTryD (L : List (Str × Str × Bool)) (d : Str) (i : Nat) (g g2 : Env → Store → Out) : Env → Store → Out := fun e S => match g e S with
  | .exc x e' S' => match subT L x.cls d with
    | some true => match e'[i]? with
      | some _ => match g2 (e'.set i (some (.exn x.cls x.val))) S' with
        | .nx e2 S2 => .nx (e2.set i none) S2
        | .rt d S2 => .rt d S2
        | .bk e2 S2 => .bk (e2.set i none) S2
        | .ct e2 S2 => .ct (e2.set i none) S2
        | .exc _ _ _ => .bad
        | .bad => .bad
      | none => .bad
    | some false => .exc x e' S'
    | none => .bad
  | o => o
section
variable {X : Cx} {W : WX} {x n : Str} {i : Nat} {body suite : List Stmt} {b₀ : Stmt} {np pos pos' : Pos} {g g2 : Env → Store → Out} {L : List (Str × Str × Bool)} {Dc : Addr}
theorem psd_tryD (hs : X.stack = X.env :: X.outer) (hf : X.env.frame = some X.env.locals) (hex : X.ex = []) (hN : X.N.Nodup) (hi : X.N[i]? = some n) (hln : X.env.kindOf n = some .local) (tk : Takes X W)
    (hg : Gl X x) (hd : Cl X.K X.mg x Dc) (hL : ∀ p ∈ L, CatchOk X.K p)
    (hb : ∀ (W : WX) (pn : List (Addr × Obj)) (xe : Value → Shared → Prop), Takes (X.tr pn xe) W → PassesOwn (model X.prog X.w) X.A X.env xe → PSsD (X.tr pn xe) W body g)
    (h2 : ∀ (a : Addr) (pn : List (Addr × Obj)), PSsD (X.suite a pn) (fun _ _ _ _ => False) (b₀ :: suite) g2) (hdb : (x == ("__debug__" : Str)) = false := by decide) :
    PSD X W (.Try body [.ExceptHandler (some (.Name x np)) (some n) (b₀ :: suite) pos'] [] [] pos) (yTryD L x i g g2) := by
  refine weakS (ps_try_adopt (i := i) (c := .ref Dc) (tb := fun W => sD (kt X) W g) (ts := fun _ _ _ => sD (kt X) (fun _ _ _ _ => False) g2) hs hf hex hN hi hln ⟨hg, hdb, .inl hd.g⟩ tk (fun W pn xe tk' pas => hb W pn xe tk' pas)
    (fun a cls d pn => h2 a pn)) fun D σ H ⟨w, env, eH, hw, he, hs⟩ => ⟨w, env, eH, hw, he, ?_⟩
  unfold yTryD at hs
  cases o : g env w.S with
  | nx e S => rw [o] at hs; exact hs
  | rt e S => rw [o] at hs; exact hs
  | bk e S => rw [o] at hs; exact hs
  | ct e S => rw [o] at hs; exact hs
  | bad => rw [o] at hs; exact hs
  | exc z e' S' =>
    rw [o] at hs
    intro w' σ' cls dd g' eS he' hx
    obtain ⟨C, c1, rfl, c3⟩ := hx
    cases q : subT L z.cls x with
    | none => simp only [q] at hs; exact hs.elim
    | some b =>
      refine ⟨b, hL _ (subT_mem q) C Dc c1 hd.n, fun hb a na => ?_, fun hb => ?_⟩
      · subst hb
        simp only [q] at hs
        cases qi : e'[i]? with
        | none => simp only [qi] at hs; exact hs.elim
        | some oo =>
          simp only [qi] at hs
          have ga := Go.alloc (o := ExH (.ref C) dd a) g'.wd na
          have r2 : Rp X.K w'.r (upd w'.F a (ExH (.ref C) dd a)) (.exn z.cls z.val) (.ref a) := by
            unfold Rp
            exact ⟨a, C, dd, rfl, c1, upd_same, c3.mono ga.F⟩
          have he2 := (he'.go ga).set (i := i) r2
          refine ⟨⟨w'.r, upd w'.F a (ExH (.ref C) dd a), w'.S, upd w'.H a (ExH (.ref C) dd a)⟩, e'.set i (some (.exn z.cls z.val)), rfl, ga.wd, he2, ?_⟩
          subst eS
          show SatS _ _ _ (g2 (e'.set i (some (.exn z.cls z.val))) w'.S) _
          cases o2 : g2 (e'.set i (some (.exn z.cls z.val))) w'.S with
          | nx e2 S2 =>
            simp only [o2] at hs
            exact fun w2 σ2 g2' eS2 he3 => hs w2 (σ2.set i none) ((g'.trans ga).trans g2') eS2 (he3.unset (i := i))
          | rt d2 S2 =>
            simp only [o2] at hs
            exact fun w2 v2 g2' eS2 rv => hs w2 v2 ((g'.trans ga).trans g2') eS2 rv
          | bk e2 S2 =>
            simp only [o2] at hs
            exact fun w2 σ2 g2' eS2 he3 => hs w2 (σ2.set i none) ((g'.trans ga).trans g2') eS2 (he3.unset (i := i))
          | ct e2 S2 =>
            simp only [o2] at hs
            exact fun w2 σ2 g2' eS2 he3 => hs w2 (σ2.set i none) ((g'.trans ga).trans g2') eS2 (he3.unset (i := i))
          | exc y2 e2 S2 => simp only [o2] at hs; exact hs.elim
          | bad => simp only [o2] at hs; exact hs.elim
      · subst hb
        simp only [q] at hs
        exact hs w' σ' _ dd g' eS he' ⟨C, c1, rfl, c3⟩
end
section
variable {S : Store} {e : Env} {d : Str} {i : Nat} {g g2 : Env → Store → Out} {L : List (Str × Str × Bool)} {Q : Pst}
/-- a suite that tells, or raises what the suite behind it takes -/
theorem enx_tryD (h : EnxO (g e S) Q fun y e' S' => subT L y.cls d = some true ∧ (∃ o, e'[i]? = some o) ∧ EnsO (g2 (e'.set i (some (.exn y.cls y.val))) S') { nx := fun e2 S2 => Q.nx (e2.set i none) S2, rt := Q.rt, bk := fun e2 S2 => Q.bk (e2.set i none) S2, ct := fun e2 S2 => Q.ct (e2.set i none) S2 }) : EnsO (yTryD L d i g g2 e S) Q := by
  cases o : g e S with
  | exc y e2 S2 =>
    rw [o, enxo_exc] at h
    obtain ⟨h1, ⟨o', h2⟩, h3⟩ := h
    unfold yTryD
    simp only [o, h1, h2]
    cases o2 : g2 (e2.set i (some (.exn y.cls y.val))) S2 with
    | nx e3 S3 => rw [o2, enso_nx] at h3; simp only [enso_nx]; exact h3
    | rt e3 S3 => rw [o2, enso_rt] at h3; simp only [enso_rt]; exact h3
    | bk e3 S3 => rw [o2, enso_bk] at h3; simp only [enso_bk]; exact h3
    | ct e3 S3 => rw [o2, enso_ct] at h3; simp only [enso_ct]; exact h3
    | exc y3 e3 S3 => rw [o2] at h3; exact h3.go.elim
    | bad => rw [o2, enso_bad] at h3; exact h3.elim
  | nx e2 S2 => rw [o, enxo_nx] at h; unfold yTryD; rw [o]; exact ⟨h⟩
  | rt e2 S2 => rw [o, enxo_rt] at h; unfold yTryD; rw [o]; exact ⟨h⟩
  | bk e2 S2 => rw [o, enxo_bk] at h; unfold yTryD; rw [o]; exact ⟨h⟩
  | ct e2 S2 => rw [o, enxo_ct] at h; unfold yTryD; rw [o]; exact ⟨h⟩
  | bad => rw [o, enxo_bad] at h; exact h.elim
end
end Dv
/-! # Dv23: things frozen all the way down; a def that gets cells for a while as frozen things -/
namespace Dv
open PySem PySem.Spec PyProof.Rows L2
def mapS (f : D → Store → Res D) : List D → Store → Res (List D)
  | [], S => .ok [] S
  | d :: l, S => (f d S).bind fun d' S1 => (mapS f l S1).bind fun l' S2 => .ok (d' :: l') S2
def dfz : Nat → D → Store → Res D
  | 0, _, _ => .bad
  | n + 1, d, S => match d with
    | .cell k => match S[k]? with
      | some (.lst l) => (mapS (dfz n) l (S.set k .dead)).bind fun l' S' => .ok (.lst l') S'
      | some (.dct _) => .ok d S
      | _ => .bad
    | .lst l => (mapS (dfz n) l S).bind fun l' S' => .ok (.lst l') S'
    | .tup l => (mapS (dfz n) l S).bind fun l' S' => .ok (.tup l') S'
    | d => .ok d S
/-- some cells of w are frozen in w1 -/
structure Fz (K : PySem.W.Frag) (w w1 : Wl) : Prop where
  go : Go K w w1
  r : w1.r = w.r
  H : w1.H = w.H
  len : w1.S.length = w.S.length
  cell : ∀ n : Nat, w1.S[n]? = w.S[n]? ∨ ∃ l, w.S[n]? = some (.lst l) ∧ w1.S[n]? = some .dead ∧ ∀ a, w.r[n]? = some a → w1.F a ≠ none
section
variable {K : PySem.W.Frag} {w w1 w2 : Wl}
theorem Fz.refl (h : Wd K w) : Fz K w w := ⟨Go.refl h, rfl, rfl, rfl, fun _ => .inl rfl⟩
theorem Fz.trans (g : Fz K w w1) (h : Fz K w1 w2) : Fz K w w2 := by
  refine ⟨g.go.trans h.go, h.r.trans g.r, h.H.trans g.H, h.len.trans g.len, fun n => ?_⟩
  rcases g.cell n with e | ⟨l, e1, e2, e3⟩
  · rcases h.cell n with e' | ⟨l', e1', e2', e3'⟩
    · exact .inl (e'.trans e)
    · exact .inr ⟨l', e.symm.trans e1', e2', fun a ha => e3' a (by rw [g.r]; exact ha)⟩
  · rcases h.cell n with e' | ⟨l', e1', e2', e3'⟩
    · refine .inr ⟨l, e1, e'.trans e2, fun a ha => ?_⟩
      have := e3 a ha
      cases q : w1.F a with
      | none => exact absurd q this
      | some o => rw [h.go.F a o q]; simp
    · rw [e2] at e1'
      cases e1'
theorem Fz.one (h : Wd K w) {n : Nat} {a : Addr} {l : List D} {vs : List V} (e0 : w.S[n]? = some (.lst l)) (er : w.r[n]? = some a) (ha : w.H a = some (.lst vs)) : Fz K w ⟨w.r, upd w.F a (.lst vs), w.S.set n .dead, w.H⟩ := by
  refine ⟨Go.freeze h e0 er ha, rfl, rfl, by simp, fun k => ?_⟩
  have hn : n < w.S.length := (List.getElem?_eq_some_iff.mp e0).1
  by_cases hk : k = n
  · subst hk
    refine .inr ⟨l, e0, by rw [List.getElem?_set_self hn], fun b hb => ?_⟩
    have : a = b := Option.some.inj (er.symm.trans hb)
    subst this
    show upd w.F a (.lst vs) a ≠ none
    rw [upd_same]
    simp
  · exact .inl (by rw [List.getElem?_set_ne (Ne.symm hk)])
theorem mapS_sat {f : D → Store → Res D} (hf : ∀ {w : Wl} {d d' : D} {v : V} {S' : Store}, Wd K w → Rp K w.r w.F d v → f d w.S = .ok d' S' → ∃ w1, Fz K w w1 ∧ w1.S = S' ∧ Rp K w1.r w1.F d' v) :
    ∀ {l l' : List D} {w : Wl} {vs : List V} {S' : Store}, Wd K w → Rps K w.r w.F l vs → mapS f l w.S = .ok l' S' → ∃ w1, Fz K w w1 ∧ w1.S = S' ∧ Rps K w1.r w1.F l' vs
  | [], l', w, vs, S', hw, hr, h => by
    unfold mapS at h
    cases h
    exact ⟨w, Fz.refl hw, rfl, hr⟩
  | d :: l, l', w, vs, S', hw, hr, h => by
    unfold mapS at h
    unfold Rps at hr
    obtain ⟨v, t, rfl, r1, r2⟩ := hr
    cases o : f d w.S with
    | bad => rw [o] at h; cases h
    | exc x S => rw [o] at h; cases h
    | ok d1 S1 =>
      rw [o, Res.bind_ok] at h
      obtain ⟨w1, z1, e1, q1⟩ := hf hw r1 o
      subst e1
      cases o2 : mapS f l w1.S with
      | bad => rw [o2] at h; cases h
      | exc x S => rw [o2] at h; cases h
      | ok l2 S2 =>
        rw [o2, Res.bind_ok] at h
        cases h
        obtain ⟨w2, z2, e2, q2⟩ := mapS_sat hf z1.go.wd (r2.go z1.go) o2
        refine ⟨w2, z1.trans z2, e2, ?_⟩
        unfold Rps
        exact ⟨v, t, rfl, q1.go z2.go, q2⟩
theorem dfz_sat : ∀ (n : Nat) {w : Wl} {d d' : D} {v : V} {S' : Store}, Wd K w → Rp K w.r w.F d v → dfz n d w.S = .ok d' S' → ∃ w1, Fz K w w1 ∧ w1.S = S' ∧ Rp K w1.r w1.F d' v
  | 0, w, d, d', v, S', hw, hr, h => by unfold dfz at h; cases h
  | n + 1, w, d, d', v, S', hw, hr, h => by
    have ih := fun {w : Wl} {d d' : D} {v : V} {S' : Store} => dfz_sat n (w := w) (d := d) (d' := d') (v := v) (S' := S')
    unfold dfz at h
    cases d with
    | cell k =>
      cases e : w.S[k]? with
      | none => simp only [e] at h; cases h
      | some c =>
        cases c with
        | dead => simp only [e] at h; cases h
        | dct _ =>
          simp only [e] at h
          cases h
          exact ⟨w, Fz.refl hw, rfl, hr⟩
        | lst l =>
          simp only [e] at h
          have hr0 := hr
          unfold Rp at hr
          obtain ⟨a, e1, rfl⟩ := hr
          obtain ⟨hf, vs, e2, p⟩ := hw.cell k a _ e1 e
          have z := Fz.one hw e e1 e2
          cases o : mapS (dfz n) l (w.S.set k .dead) with
          | bad => rw [o] at h; cases h
          | exc x S => rw [o] at h; cases h
          | ok l1 S1 =>
            rw [o, Res.bind_ok] at h
            cases h
            obtain ⟨w2, z2, e3, q2⟩ := mapS_sat ih z.go.wd (p.go z.go) o
            refine ⟨w2, z.trans z2, e3, ?_⟩
            unfold Rp
            exact ⟨a, vs, rfl, z2.go.F _ _ upd_same, q2⟩
    | lst l =>
      simp only at h
      unfold Rp at hr
      obtain ⟨a, vs, rfl, e1, p⟩ := hr
      cases o : mapS (dfz n) l w.S with
      | bad => rw [o] at h; cases h
      | exc x S => rw [o] at h; cases h
      | ok l1 S1 =>
        rw [o, Res.bind_ok] at h
        cases h
        obtain ⟨w2, z2, e3, q2⟩ := mapS_sat ih hw p o
        refine ⟨w2, z2, e3, ?_⟩
        unfold Rp
        exact ⟨a, vs, rfl, z2.go.F _ _ e1, q2⟩
    | tup l =>
      simp only at h
      unfold Rp at hr
      obtain ⟨a, vs, rfl, e1, p⟩ := hr
      cases o : mapS (dfz n) l w.S with
      | bad => rw [o] at h; cases h
      | exc x S => rw [o] at h; cases h
      | ok l1 S1 =>
        rw [o, Res.bind_ok] at h
        cases h
        obtain ⟨w2, z2, e3, q2⟩ := mapS_sat ih hw p o
        refine ⟨w2, z2, e3, ?_⟩
        unfold Rp
        exact ⟨a, vs, rfl, rd_same z2.go.F e1, q2⟩
    | non => cases h; exact ⟨w, Fz.refl hw, rfl, hr⟩
    | bl _ => cases h; exact ⟨w, Fz.refl hw, rfl, hr⟩
    | int _ => cases h; exact ⟨w, Fz.refl hw, rfl, hr⟩
    | str _ => cases h; exact ⟨w, Fz.refl hw, rfl, hr⟩
    | scr _ => cases h; exact ⟨w, Fz.refl hw, rfl, hr⟩
    | raw _ => cases h; exact ⟨w, Fz.refl hw, rfl, hr⟩
    | cls _ => cases h; exact ⟨w, Fz.refl hw, rfl, hr⟩
    | exn _ _ => cases h; exact ⟨w, Fz.refl hw, rfl, hr⟩
end
/-! ### borrowed -/
mutual
def D.sol : D → Bool
  | .lst _ => false
  | .scr _ => false
  | .tup l => D.solL l
  | _ => true
def D.solL : List D → Bool
  | [] => true
  | d :: l => D.sol d && D.solL l
end
def Cn.sol : Cn → Bool
  | .dead => true
  | .lst l => D.solL l
  | .dct kvs => kvs.all fun z => D.sol z.2
def rst : Store → Store → Store → Store
  | c :: S, c1 :: S1, c2 :: S2 => (match c1 with | .dead => c | _ => c2) :: rst S S1 S2
  | _, _, S2 => S2
theorem rst_length : ∀ (S S1 S2 : Store), (rst S S1 S2).length = S2.length
  | c :: S, c1 :: S1, c2 :: S2 => by simp [rst, rst_length S S1 S2]
  | [], _, _ => by simp [rst]
  | _ :: _, [], _ => by simp [rst]
  | _ :: _, _ :: _, [] => by simp [rst]
theorem rst_get : ∀ (S S1 S2 : Store) (n : Nat) (c : Cn), (rst S S1 S2)[n]? = some c → (S1[n]? = some .dead ∧ S[n]? = some c) ∨ ((S[n]? = none ∨ S1[n]? ≠ some .dead) ∧ S2[n]? = some c)
  | c :: S, c1 :: S1, c2 :: S2, 0, x, h => by
    unfold rst at h
    cases c1 with
    | dead => simp only [List.getElem?_cons_zero] at h ⊢; exact .inl ⟨trivial, h⟩
    | lst _ => simp only [List.getElem?_cons_zero] at h ⊢; exact .inr ⟨.inr (by simp), h⟩
    | dct _ => simp only [List.getElem?_cons_zero] at h ⊢; exact .inr ⟨.inr (by simp), h⟩
  | c :: S, c1 :: S1, c2 :: S2, n + 1, x, h => by
    unfold rst at h
    rw [List.getElem?_cons_succ] at h
    simpa only [List.getElem?_cons_succ] using rst_get S S1 S2 n x h
  | [], _, _, n, x, h => by
    simp only [rst] at h
    exact .inr ⟨.inl (by simp), h⟩
  | _ :: _, [], _, n, x, h => by
    simp only [rst] at h
    exact .inr ⟨.inr (by simp), h⟩
  | _ :: _, _ :: _, [], n, x, h => by simp [rst] at h
/-- what comes behind a store that stays -/
theorem rst_app : ∀ (S S1 R : Store), S1.length = S.length → (∀ n : Nat, S1[n]? = S[n]? ∨ S1[n]? = some .dead) → rst S S1 (S1 ++ R) = S ++ R
  | [], [], R, _, _ => by simp [rst]
  | c :: S, c1 :: S1, R, hl, h => by
    have ih := rst_app S S1 R (by simpa using hl) fun n => by simpa using h (n + 1)
    have h0 := h 0
    simp only [List.getElem?_cons_zero] at h0
    rw [List.cons_append]
    unfold rst
    rw [ih]
    cases c1 with
    | dead => rfl
    | lst _ => rcases h0 with e | e <;> cases e <;> rfl
    | dct _ => rcases h0 with e | e <;> cases e <;> rfl
  | [], c1 :: S1, R, hl, _ => by simp at hl
  | c :: S, [], R, hl, _ => by simp at hl
def bor (f : List D → M D) : List D → M D := fun ds S => match mapS (dfz 60) ds S with
  | .ok ds1 S1 => match f ds1 S1 with
    | .ok d S2 => if D.sol d = true ∧ S2.all Cn.sol = true then .ok d (rst S S1 S2) else .bad
    | .exc x S2 => if S2.all Cn.sol = true then .exc x (rst S S1 S2) else .bad
    | .bad => .bad
  | _ => .bad
section
variable {K : PySem.W.Frag} {w w1 w2 : Wl}
open Classical in
/-- what stays frozen when the borrowed cells are given back -/
noncomputable def offF (w w1 : Wl) (F : Hp) : Hp := fun a => if ∃ n : Nat, w.r[n]? = some a ∧ alv w.S n ∧ w1.S[n]? = some .dead then none else F a
theorem offF_some {F : Hp} {a : Addr} {o : HO} (h : offF w w1 F a = some o) : F a = some o := by
  unfold offF at h
  split at h
  · cases h
  · exact h
theorem offF_none {F : Hp} {a : Addr} (h : F a = none) : offF w w1 F a = none := by
  unfold offF
  split
  · rfl
  · exact h
/-- a borrowed cell's object is a list -/
theorem Fz.lent (z : Fz K w w1) (hw : Wd K w) (g : Go K w1 w2) {a : Addr} (h : ∃ n : Nat, w.r[n]? = some a ∧ alv w.S n ∧ w1.S[n]? = some .dead) : ∃ vs, w2.F a = some (.lst vs) ∧ w.H a = some (.lst vs) := by
  obtain ⟨n, e, ⟨c, ec, hc⟩, hd⟩ := h
  rcases z.cell n with q | ⟨l, e1, e2, e3⟩
  · rw [hd, ec] at q
    cases q
    exact absurd rfl hc
  · obtain ⟨_, vs, eH, _⟩ := hw.cell n a _ e e1
    have hF := e3 a e
    cases q : w1.F a with
    | none => exact absurd q hF
    | some o =>
      have := z.go.wd.same a o q
      rw [z.H, eH] at this
      cases this
      exact ⟨vs, g.F _ _ q, eH⟩
theorem Fz.keep (z : Fz K w w1) (hw : Wd K w) (g : Go K w1 w2) {a : Addr} {o : HO} (h : w2.F a = some o) (no : ∀ vs, o ≠ .lst vs) : offF w w1 w2.F a = some o := by
  unfold offF
  split
  · rename_i q
    obtain ⟨vs, e, _⟩ := z.lent hw g q
    rw [h] at e
    cases e
    exact absurd rfl (no vs)
  · exact h
mutual
theorem Rp.off (z : Fz K w w1) (hw : Wd K w) (g : Go K w1 w2) {r : List Addr} : ∀ (d : D) (v : V), D.sol d = true → Rp K r w2.F d v → Rp K r (offF w w1 w2.F) d v
  | .non, _, _, h => by unfold Rp at h ⊢; exact h
  | .bl _, _, _, h => by unfold Rp at h ⊢; exact h
  | .int _, _, _, h => by unfold Rp at h ⊢; exact h
  | .str _, _, _, h => by unfold Rp at h ⊢; exact h
  | .raw _, _, _, h => by unfold Rp at h ⊢; exact h
  | .cell _, _, _, h => by unfold Rp at h ⊢; exact h
  | .cls _, _, _, h => by unfold Rp at h ⊢; exact h
  | .lst _, _, s, _ => by simp [D.sol] at s
  | .scr _, _, s, _ => by simp [D.sol] at s
  | .tup l, v, s, h => by
    unfold D.sol at s
    unfold Rp at h ⊢
    obtain ⟨a, vs, e, q, p⟩ := h
    refine ⟨a, vs, e, ?_, Rps.off z hw g l vs s p⟩
    rcases q with q | ⟨o, q⟩
    · exact .inl (z.keep hw g q fun vs e => by cases e)
    · exact .inr ⟨o, z.keep hw g q fun vs e => by cases e⟩
  | .exn c f, v, _, h => by
    unfold Rp at h ⊢
    obtain ⟨a, C, d, e, hc, q, p⟩ := h
    refine ⟨a, C, d, e, hc, z.keep hw g q fun vs e => (by cases e), ?_⟩
    cases f with
    | none => exact p
    | some y =>
      obtain ⟨f, i⟩ := y
      obtain ⟨b, e1, e2⟩ := p
      exact ⟨b, e1, z.keep hw g e2 fun vs e => by cases e⟩
theorem Rps.off (z : Fz K w w1) (hw : Wd K w) (g : Go K w1 w2) {r : List Addr} : ∀ (d : List D) (v : List V), D.solL d = true → Rps K r w2.F d v → Rps K r (offF w w1 w2.F) d v
  | [], _, _, h => by unfold Rps at h ⊢; exact h
  | d :: l, v, s, h => by
    unfold D.solL at s
    rw [Bool.and_eq_true] at s
    unfold Rps at h ⊢
    obtain ⟨v, t, e, p, q⟩ := h
    exact ⟨v, t, e, Rp.off z hw g d v s.1 p, Rps.off z hw g l t s.2 q⟩
end
theorem RpK.off (z : Fz K w w1) (hw : Wd K w) (g : Go K w1 w2) {r : List Addr} {kvs : List (Key × D)} {ws : List (Key × V)} (s : (kvs.all fun z => D.sol z.2) = true) (h : RpK K r w2.F kvs ws) : RpK K r (offF w w1 w2.F) kvs ws := by
  induction h with
  | nil => exact .nil
  | cons h1 h2 ih =>
    rw [List.all_cons, Bool.and_eq_true] at s
    exact .cons ⟨h1.1, Rp.off z hw g _ _ s.1 h1.2⟩ (ih s.2)
/-- the borrowed cells are given back -/
theorem Fz.back (z : Fz K w w1) (hw : Wd K w) (g : Go K w1 w2) (hs : w2.S.all Cn.sol = true) : Go K w ⟨w2.r, offF w w1 w2.F, rst w.S w1.S w2.S, w2.H⟩ := by
  have hl := g.slen
  have pre : ∃ t, w2.r = w.r ++ t := by
    obtain ⟨t, e⟩ := g.pre
    exact ⟨t, by rw [e, z.r]⟩
  have sF : Same w.F (offF w w1 w2.F) := fun a o e => by
    unfold offF
    split
    · rename_i q
      obtain ⟨n, e1, ⟨c, ec, hc⟩, _⟩ := q
      have := (hw.cell n a c e1 ec).free hc
      rw [this] at e
      cases e
    · exact g.F _ _ (z.go.F _ _ e)
  have rlen : w2.r.length = w2.S.length := g.wd.len
  have alv3 : ∀ {n : Nat}, alv (rst w.S w1.S w2.S) n → (w1.S[n]? = some .dead ∧ alv w.S n) ∨ ((w.S[n]? = none ∨ w1.S[n]? ≠ some .dead) ∧ alv w2.S n) := fun {n} ⟨c, e, hc⟩ => by
    rcases rst_get _ _ _ _ _ e with ⟨e1, e2⟩ | ⟨e1, e2⟩
    · exact .inl ⟨e1, c, e2, hc⟩
    · exact .inr ⟨e1, c, e2, hc⟩
  have alv_old : ∀ {n : Nat}, n < w.S.length → alv (rst w.S w1.S w2.S) n → alv w.S n := fun {n} hn h => by
    rcases alv3 h with ⟨_, q⟩ | ⟨_, q⟩
    · exact q
    · exact z.go.live n hn (g.live n (by rw [z.len]; exact hn) q)
  have alv_new : ∀ {n : Nat}, w.S.length ≤ n → alv (rst w.S w1.S w2.S) n → alv w2.S n := fun {n} hn h => by
    rcases alv3 h with ⟨_, c, e, _⟩ | ⟨_, q⟩
    · have := (List.getElem?_eq_some_iff.mp e).1
      omega
    · exact q
  refine ⟨⟨by rw [rst_length]; exact rlen, fun a o e => g.wd.same a o (offF_some e), fun n a c e1 e2 => ?_, fun n m a e1 e2 l1 l2 => ?_⟩, pre, hw.len, fun n hn q => alv_old hn q, fun n a hn e q => ?_, sF, fun a o e q => ?_, fun a e => ?_, fun a e f q => ?_⟩
  · show CellOk K w2.r (offF w w1 w2.F) w2.H a c
    rcases rst_get _ _ _ _ _ e2 with ⟨d1, d2⟩ | ⟨d1, d2⟩
    · by_cases hc : c = .dead
      · subst hc; exact trivial
      · have hn : n < w.S.length := (List.getElem?_eq_some_iff.mp d2).1
        have er : w.r[n]? = some a := pre_back pre (by rw [hw.len]; exact hn) e1
        have hx := hw.cell n a c er d2
        have lent : ∃ n : Nat, w.r[n]? = some a ∧ alv w.S n ∧ w1.S[n]? = some .dead := ⟨n, er, ⟨c, d2, hc⟩, d1⟩
        obtain ⟨vs, f2, h2⟩ := z.lent hw g lent
        have hn3 : offF w w1 w2.F a = none := by unfold offF; rw [if_pos lent]
        have hH : w2.H a = some (.lst vs) := g.wd.same _ _ f2
        refine hx.mono pre sF (fun _ _ => hn3) fun _ o e => ?_
        rw [h2] at e
        cases e
        exact hH
    · have hx := g.wd.cell n a c e1 d2
      have sc : Cn.sol c = true := List.all_eq_true.mp hs c (List.mem_of_getElem? d2)
      cases c with
      | dead => exact trivial
      | lst l =>
        obtain ⟨f, vs, h, p⟩ := hx
        exact ⟨offF_none f, vs, h, Rps.off z hw g l vs sc p⟩
      | dct kvs =>
        obtain ⟨f, vs, h, p⟩ := hx
        exact ⟨offF_none f, vs, h, RpK.off z hw g sc p⟩
  · have key : ∀ {n m : Nat}, w2.r[n]? = some a → w2.r[m]? = some a → alv (rst w.S w1.S w2.S) n → alv (rst w.S w1.S w2.S) m → n < w.S.length → w.S.length ≤ m → False := fun {n m} e1 e2 l1 l2 hn hm => by
      have er : w.r[n]? = some a := pre_back pre (by rw [hw.len]; exact hn) e1
      obtain ⟨c, ec, hc⟩ := alv_old hn l1
      obtain ⟨o, ho⟩ := (hw.cell n a c er ec).some hc
      have := g.new m a (by rw [z.len]; exact hm) e2 (alv_new hm l2)
      rw [z.H, ho] at this
      cases this
    by_cases hn : n < w.S.length
    · by_cases hm : m < w.S.length
      · exact hw.inj n m a (pre_back pre (by rw [hw.len]; exact hn) e1) (pre_back pre (by rw [hw.len]; exact hm) e2) (alv_old hn l1) (alv_old hm l2)
      · exact (key e1 e2 l1 l2 hn (Nat.le_of_not_lt hm)).elim
    · by_cases hm : m < w.S.length
      · exact (key e2 e1 l2 l1 hm (Nat.le_of_not_lt hn)).elim
      · exact g.wd.inj n m a e1 e2 (alv_new (Nat.le_of_not_lt hn) l1) (alv_new (Nat.le_of_not_lt hm) l2)
  · have := g.new n a (by rw [z.len]; exact hn) e (alv_new hn q)
    rwa [z.H] at this
  · refine g.fr a o (by rw [z.H]; exact e) fun n hn hl => ?_
    rw [z.r] at hn
    have hn2 : n < w.S.length := by rw [← hw.len]; exact (List.getElem?_eq_some_iff.mp hn).1
    exact q n hn (z.go.live n hn2 hl)
  · have := g.trk a e
    rwa [z.H] at this
  · refine offF_none (g.fnew a (by rw [z.H]; exact e) (z.go.fnew a e f q) fun n hn hl => ?_)
    rw [z.r] at hn
    have hn2 : n < w.S.length := by rw [← hw.len]; exact (List.getElem?_eq_some_iff.mp hn).1
    exact q n hn (z.go.live n hn2 hl)
theorem bor_sp {mg : Str → Option Value} {f : List D → M D} (vs : List V) (H : Hp) (Q : VK) (E : XK) (h : spD ⟨K, mg⟩ (bor f) vs H Q E) : spD ⟨K, mg⟩ f vs H Q E := by
  obtain ⟨w, ds, eH, hw, hr, hs⟩ := h
  unfold bor at hs
  cases o : mapS (dfz 60) ds w.S with
  | bad => simp only [o] at hs; exact hs.elim
  | exc x S => simp only [o] at hs; exact hs.elim
  | ok ds1 S1 =>
    simp only [o] at hs
    obtain ⟨w1, z, e1, r1⟩ := mapS_sat (fun hw hr h => dfz_sat 60 hw hr h) hw hr o
    subst e1
    refine ⟨w1, ds1, z.H.trans eH, z.go.wd, r1, ?_⟩
    cases o2 : f ds1 w1.S with
    | bad => simp only [o2] at hs; exact hs.elim
    | ok d S2 =>
      simp only [o2] at hs
      intro w2 v g e r
      subst e
      split at hs
      · rename_i c
        exact hs ⟨w2.r, offF w w1 w2.F, rst w.S w1.S w2.S, w2.H⟩ v (z.back hw g c.2) rfl (Rp.off z hw g d v c.1 r)
      · exact hs.elim
    | exc x S2 =>
      simp only [o2] at hs
      intro w2 cls dd g e q
      subst e
      split at hs
      · rename_i c
        refine hs ⟨w2.r, offF w w1 w2.F, rst w.S w1.S w2.S, w2.H⟩ cls dd (z.back hw g c) rfl ?_
        obtain ⟨C, c1, c2, c3⟩ := q
        refine ⟨C, c1, c2, ?_⟩
        show FldOk (offF w w1 w2.F) dd x.val
        cases q : x.val with
        | none => rw [q] at c3; exact c3
        | some y =>
          rw [q] at c3
          obtain ⟨f, i⟩ := y
          obtain ⟨b, b1, b2⟩ := c3
          exact ⟨b, b1, z.keep hw g b2 fun vs e => by cases e⟩
      · exact hs.elim
end
/-! ### things frozen all the way down -/
def xDfz (f : Env → M D) : Env → M D := fun e S => (f e S).bind (dfz 60)
theorem pd_dfz {X : Cx} {W : WX} {e : Expr} {f : Env → M D} (h : PD X W e f) : PD X W e (xDfz f) := by
  refine weakE h fun σ H Q ⟨w, env, eH, hw, he, hs⟩ => ?_
  refine ⟨w, env, eH, hw, he, SatW.imp (SatW.bind hs) fun w1 d v g1 r1 s1 => ?_⟩
  cases o : dfz 60 d w1.S with
  | bad => simp only [o] at s1; exact s1.elim
  | exc x S => 
    exfalso
    have : ∀ (n : Nat) (d : D) (S : Store) (x : Exn) (S' : Store), dfz n d S ≠ .exc x S' := by
      intro n
      induction n with
      | zero => intro d S x S' h; unfold dfz at h; cases h
      | succ n ih =>
        have ml : ∀ (l : List D) (S : Store) (x : Exn) (S' : Store), mapS (dfz n) l S ≠ .exc x S' := by
          intro l
          induction l with
          | nil => intro S x S' h; unfold mapS at h; cases h
          | cons d l il =>
            intro S x S' h
            unfold mapS at h
            cases o : dfz n d S with
            | bad => rw [o] at h; cases h
            | exc y S2 => exact ih _ _ _ _ o
            | ok d' S2 =>
              rw [o, Res.bind_ok] at h
              cases o2 : mapS (dfz n) l S2 with
              | bad => rw [o2] at h; cases h
              | exc y S3 => exact il _ _ _ o2
              | ok l' S3 => rw [o2, Res.bind_ok] at h; cases h
        have fin : ∀ (l : List D) (S : Store) (k : List D → Store → Res D) (hk : ∀ l S, ∃ d, k l S = .ok d S) (x : Exn) (S' : Store), (mapS (dfz n) l S).bind k ≠ .exc x S' := fun l S k hk x S' h => by
          cases o : mapS (dfz n) l S with
          | bad => rw [o] at h; cases h
          | exc y S2 => exact ml _ _ _ _ o
          | ok l' S2 =>
            obtain ⟨d, e⟩ := hk l' S2
            rw [o, Res.bind_ok, e] at h
            cases h
        intro d S x S' h
        unfold dfz at h
        cases d with
        | cell k =>
          cases e : S[k]? with
          | none => simp only [e] at h; cases h
          | some c =>
            cases c with
            | dead => simp only [e] at h; cases h
            | dct _ => simp only [e] at h; cases h
            | lst l => simp only [e] at h; exact fin _ _ _ (fun l S => ⟨_, rfl⟩) _ _ h
        | lst l => exact fin _ _ _ (fun l S => ⟨_, rfl⟩) _ _ h
        | tup l => exact fin _ _ _ (fun l S => ⟨_, rfl⟩) _ _ h
        | _ => cases h
    exact this _ _ _ _ _ o
  | ok d' S' =>
    obtain ⟨w2, z, e2, r2⟩ := dfz_sat 60 g1.wd r1 o
    simp only [o] at s1
    have := s1 w2 v z.go e2 r2
    show Q v w1.H
    rw [← z.H]
    exact this
/-! ### reckoning -/
section
variable {oo : Option D} {ll : Env} {S : Store} {f : Env → M D}
@[simp] theorem xDfz_app : xDfz f (oo :: ll) S = (f (oo :: ll) S).bind (dfz 60) := rfl
@[simp] theorem mapS_nil {g : D → Store → Res D} : mapS g [] S = .ok [] S := rfl
@[simp] theorem mapS_cons {g : D → Store → Res D} {d : D} {l : List D} : mapS g (d :: l) S = (g d S).bind fun d' S1 => (mapS g l S1).bind fun l' S2 => .ok (d' :: l') S2 := rfl
/-- things without cells stay as they are -/
def D.clr : Nat → D → Bool
  | 0, _ => false
  | n + 1, d => match d with
    | .cell _ => false
    | .lst l => l.all (D.clr n)
    | .tup l => l.all (D.clr n)
    | _ => true
theorem mapS_id {g : D → Store → Res D} : ∀ {l : List D}, (∀ d ∈ l, g d S = .ok d S) → mapS g l S = .ok l S
  | [], _ => rfl
  | d :: l, h => by
    rw [mapS_cons, h d (by simp), Res.bind_ok, mapS_id fun x hx => h x (by simp [hx])]
    rfl
theorem dfz_clr : ∀ (n : Nat) (d : D) (S : Store), D.clr n d = true → dfz n d S = .ok d S
  | 0, _, _, h => by simp [D.clr] at h
  | n + 1, d, S, h => by
    cases d with
    | cell k => simp [D.clr] at h
    | lst l =>
      have h' : l.all (D.clr n) = true := h
      show (mapS (dfz n) l S).bind _ = _
      rw [mapS_id fun x hx => dfz_clr n x S (List.all_eq_true.mp h' x hx)]
      rfl
    | tup l =>
      have h' : l.all (D.clr n) = true := h
      show (mapS (dfz n) l S).bind _ = _
      rw [mapS_id fun x hx => dfz_clr n x S (List.all_eq_true.mp h' x hx)]
      rfl
    | _ => rfl
theorem clr_ints (n : Nat) (l : List Int) : D.clr (n + 2) (.lst (l.map D.int)) = true := by
  show (l.map D.int).all (D.clr (n + 1)) = true
  rw [List.all_eq_true]
  intro x hx
  obtain ⟨i, _, rfl⟩ := List.mem_map.mp hx
  rfl
theorem bor_ok {g : List D → M D} {ds ds1 : List D} {S1 S2 : Store} {d : D} (h1 : mapS (dfz 60) ds S = .ok ds1 S1) (h2 : g ds1 S1 = .ok d S2) (h3 : D.sol d = true) (h4 : S2.all Cn.sol = true) : bor g ds S = .ok d (rst S S1 S2) := by
  unfold bor
  simp only [h1, h2, if_pos (⟨h3, h4⟩ : D.sol d = true ∧ S2.all Cn.sol = true)]
end
end Dv
/-! # Dv24: != of two empty dicts -/
namespace Dv
open PySem PySem.Spec PyProof.Rows L2
theorem op_ne0 {X : Cx} (hu : X.A.units + 64 < cLine) : OpR X (compareOp .NotEq) (fun x y H Q => ∃ a b, x = .ref a ∧ y = .ref b ∧ H a = some (.dK []) ∧ H b = some (.dK []) ∧ Q (.bl false) H) := by
  intro pins s σ H x y v u Q I rx ry h
  obtain ⟨a, b, rfl, rfl, ha, hb, q⟩ := h
  cases (show v = Value.ref a from rx)
  cases (show u = Value.ref b from ry)
  obtain ⟨_, ya, va, ra, da⟩ := (show ObjOk X.prog X.w H s.heap a (.dK []) from I.hok a _ ha)
  obtain ⟨_, yb, vb, rb, db⟩ := (show ObjOk X.prog X.w H s.heap b (.dK []) from I.hok b _ hb)
  cases ra
  cases rb
  refine PySem.W.keq_ne (knd := mixKind X.prog X.w) (r := true) ya yb da db (by omega) (fun _ => .nil) ⟨.bl false, H, I, rfl, q⟩
def dNeX (a b : D) (S : Store) : Res D := match cellK a S, cellK b S with
  | some (_, []), some (_, []) => .ok (.bl false) S
  | _, _ => dNe a b S
theorem od_neX {X : Cx} (hu : X.A.units + 64 < cLine) : OpD X (compareOp .NotEq) dNeX := by
  refine ⟨fun x y H Q => rNeD X.K x y H Q ∨ ∃ a b, x = .ref a ∧ y = .ref b ∧ H a = some (.dK []) ∧ H b = some (.dK []) ∧ Q (.bl false) H, ?_, ?_⟩
  · intro pins s σ H x y v u Q I rx ry h
    rcases h with h | h
    · exact op_neD hu pins s σ H x y v u Q I rx ry h
    · exact op_ne0 hu pins s σ H x y v u Q I rx ry h
  · intro w x y d e W σ Q hw r1 r2 hs
    have other : SatW (kt X) W σ (RD X.K) w (dNe d e w.S) (fun w' _ v => Q v w'.H) → rNeD X.K x y w.H Q := fun hs => by
      unfold dNe at hs
      split at hs
      · rename_i p q h1 h2
        exact ⟨p, q, toP_dp hw 60 d x p h1 r1, toP_dp hw 60 e y q h2 r2, shaped_of h1, shaped_of h2, SatW.here hs hw rpb⟩
      · exact hs.elim
    unfold dNeX at hs
    split at hs
    · rename_i n m e1 e2
      obtain ⟨rfl, f1⟩ := cellK_eq e1
      obtain ⟨rfl, f2⟩ := cellK_eq e2
      obtain ⟨a, wa, ea, ha, pa⟩ := cellK_read (T := kt X) hw r1 f1
      obtain ⟨b, wb, eb, hb, pb⟩ := cellK_read (T := kt X) hw r2 f2
      cases pa
      cases pb
      exact .inr ⟨a, b, ea, eb, ha, hb, SatW.here hs hw rpb⟩
    · exact .inl (other hs)
theorem dNeX_p {a b : D} {S : Store} (h : cellK a S = none) : dNeX a b S = dNe a b S := by unfold dNeX; simp only [h]
end Dv
namespace Lw
open PySem PySem.Spec PyProof.Rows L2 Dv
def topS (i : Nat) : Stmt := PySem.Challenge.pw_hideworth_k24_whole_no_mix_finds_more.main.body.getD i (.Pass ⟨0, 0, 0, 0⟩)
/-! ### the text and its mirrors -/
def catchL : List (PySem.Str × PySem.Str × Bool) := []
def isL : List (PySem.Str × PySem.Str × Bool) := []
def raisedL : List PySem.Str := ["NoNumber", "NoBoxes", "NoBudget"]
@[simp] theorem raised_NoNumber : ("NoNumber" : PySem.Str) ∈ raisedL := by decide +kernel
@[simp] theorem raised_NoBoxes : ("NoBoxes" : PySem.Str) ∈ raisedL := by decide +kernel
@[simp] theorem raised_NoBudget : ("NoBudget" : PySem.Str) ∈ raisedL := by decide +kernel
abbrev s_divisor : Stmt := topS 6
theorem sc_divisor : FnScope ["one", "other"] ["one", "other"] (defScope s_divisor) := ⟨rfl, rfl, rfl, by decide +kernel, rfl, by decide +kernel, by decide +kernel⟩
noncomputable def b_divisor : Dv.Env → Store → Out :=
  (ySeq (ySet 0 (xFn bAbs (xCons (xVar 0) xNil)))
    (ySeq (ySet 1 (xFn bAbs (xCons (xVar 1) xNil)))
    (ySeq (yWhile (xIsT (xOp dNe (xVar 1) (xC (.int 0)))) (yPar 0 1 (xCons (xVar 1) (xCons (xOp dMod (xVar 0) (xVar 1)) xNil))))
    (yRet (xVar 0)))))
noncomputable def F_divisor : List D → M D := fnD 2 2 false b_divisor
abbrev s_ratio : Stmt := topS 7
theorem sc_ratio : FnScope ["top", "bottom", "by"] ["top", "bottom"] (defScope s_ratio) := ⟨rfl, rfl, rfl, by decide +kernel, rfl, by decide +kernel, by decide +kernel⟩
noncomputable def b_ratio : Dv.Env → Store → Out :=
  (ySeq (yIf (xIsT (xOp dEq (xVar 1) (xC (.int 0)))) (yRaise ("NoNumber" : PySem.Str)) yNil)
    (ySeq (ySet 2 (xFn F_divisor (xCons (xVar 0) (xCons (xVar 1) xNil))))
    (ySeq (yIf (xIsT (xOp dLt (xVar 1) (xC (.int 0)))) (ySet 2 (xOp dSub (xC (.int 0)) (xVar 2))) yNil)
    (yRet (xTup (xCons (xOp dFdiv (xVar 0) (xVar 2)) (xCons (xOp dFdiv (xVar 1) (xVar 2)) xNil)))))))
noncomputable def F_ratio : List D → M D := fnD 2 3 false b_ratio
abbrev s_plus : Stmt := topS 8
theorem sc_plus : FnScope ["one", "other"] ["one", "other"] (defScope s_plus) := ⟨rfl, rfl, rfl, by decide +kernel, rfl, by decide +kernel, by decide +kernel⟩
noncomputable def b_plus : Dv.Env → Store → Out :=
  (yRet (xFn F_ratio (xCons (xOp (dAdd mkF) (xOp (dMul mkF) (xOp dIx (xVar 0) (xC (.int 0))) (xOp dIx (xVar 1) (xC (.int 1)))) (xOp (dMul mkF) (xOp dIx (xVar 1) (xC (.int 0))) (xOp dIx (xVar 0) (xC (.int 1))))) (xCons (xOp (dMul mkF) (xOp dIx (xVar 0) (xC (.int 1))) (xOp dIx (xVar 1) (xC (.int 1)))) xNil))))
noncomputable def F_plus : List D → M D := fnD 2 2 false b_plus
abbrev s_minus : Stmt := topS 9
theorem sc_minus : FnScope ["one", "other"] ["one", "other"] (defScope s_minus) := ⟨rfl, rfl, rfl, by decide +kernel, rfl, by decide +kernel, by decide +kernel⟩
noncomputable def b_minus : Dv.Env → Store → Out :=
  (yRet (xFn F_ratio (xCons (xOp dSub (xOp (dMul mkF) (xOp dIx (xVar 0) (xC (.int 0))) (xOp dIx (xVar 1) (xC (.int 1)))) (xOp (dMul mkF) (xOp dIx (xVar 1) (xC (.int 0))) (xOp dIx (xVar 0) (xC (.int 1))))) (xCons (xOp (dMul mkF) (xOp dIx (xVar 0) (xC (.int 1))) (xOp dIx (xVar 1) (xC (.int 1)))) xNil))))
noncomputable def F_minus : List D → M D := fnD 2 2 false b_minus
abbrev s_times : Stmt := topS 10
theorem sc_times : FnScope ["one", "other"] ["one", "other"] (defScope s_times) := ⟨rfl, rfl, rfl, by decide +kernel, rfl, by decide +kernel, by decide +kernel⟩
noncomputable def b_times : Dv.Env → Store → Out :=
  (yRet (xFn F_ratio (xCons (xOp (dMul mkF) (xOp dIx (xVar 0) (xC (.int 0))) (xOp dIx (xVar 1) (xC (.int 0)))) (xCons (xOp (dMul mkF) (xOp dIx (xVar 0) (xC (.int 1))) (xOp dIx (xVar 1) (xC (.int 1)))) xNil))))
noncomputable def F_times : List D → M D := fnD 2 2 false b_times
abbrev s_over : Stmt := topS 11
theorem sc_over : FnScope ["one", "other"] ["one", "other"] (defScope s_over) := ⟨rfl, rfl, rfl, by decide +kernel, rfl, by decide +kernel, by decide +kernel⟩
noncomputable def b_over : Dv.Env → Store → Out :=
  (yRet (xFn F_ratio (xCons (xOp (dMul mkF) (xOp dIx (xVar 0) (xC (.int 0))) (xOp dIx (xVar 1) (xC (.int 1)))) (xCons (xOp (dMul mkF) (xOp dIx (xVar 0) (xC (.int 1))) (xOp dIx (xVar 1) (xC (.int 0)))) xNil))))
noncomputable def F_over : List D → M D := fnD 2 2 false b_over
abbrev s_below : Stmt := topS 12
theorem sc_below : FnScope ["one", "other"] ["one", "other"] (defScope s_below) := ⟨rfl, rfl, rfl, by decide +kernel, rfl, by decide +kernel, by decide +kernel⟩
noncomputable def b_below : Dv.Env → Store → Out :=
  (yRet (xOp dLt (xOp (dMul mkF) (xOp dIx (xVar 0) (xC (.int 0))) (xOp dIx (xVar 1) (xC (.int 1)))) (xOp (dMul mkF) (xOp dIx (xVar 1) (xC (.int 0))) (xOp dIx (xVar 0) (xC (.int 1))))))
noncomputable def F_below : List D → M D := fnD 2 2 false b_below
abbrev s_is_number : Stmt := topS 14
theorem sc_is_number : FnScope ["thing"] ["thing"] (defScope s_is_number) := ⟨rfl, rfl, rfl, by decide +kernel, rfl, by decide +kernel, by decide +kernel⟩
noncomputable def b_is_number : Dv.Env → Store → Out :=
  (yRet (xAndV (xFn bIsi (xCons (xVar 0) (xCons (xC (.raw (.ty "int"))) xNil))) (xNotV (xFn bIsi (xCons (xVar 0) (xCons (xC (.raw (.ty "bool"))) xNil))))))
noncomputable def F_is_number : List D → M D := fnD 1 1 false b_is_number
abbrev s_are_numbers : Stmt := topS 15
theorem sc_are_numbers : FnScope ["thing", "many", "number"] ["thing", "many"] (defScope s_are_numbers) := ⟨rfl, rfl, rfl, by decide +kernel, rfl, by decide +kernel, by decide +kernel⟩
noncomputable def b_are_numbers : Dv.Env → Store → Out :=
  (ySeq (yIf (xOr (xNot (xTru (xFn bIsi (xCons (xVar 0) (xCons (xC (.raw (.ty "list"))) xNil))))) (xIsT (xOp dNe (xFn bLen (xCons (xVar 0) xNil)) (xVar 1)))) (yRet (xC (.bl false))) yNil)
    (yRet (xOp dEq (xFn bLen (xCons (xLc mkF (iSrc srcL (xVar 0)) (eN 2) (xNot (xTru (xFn F_is_number (xCons (xVar 2) xNil)))) (xVar 2) [2]) xNil)) (xC (.int 0)))))
noncomputable def F_are_numbers : List D → M D := fnD 2 3 false b_are_numbers
abbrev s_is_box : Stmt := topS 21
theorem sc_is_box : FnScope ["box", "cost", "hits", "of"] ["box"] (defScope s_is_box) := ⟨rfl, rfl, rfl, by decide +kernel, rfl, by decide +kernel, by decide +kernel⟩
noncomputable def b_is_box : Dv.Env → Store → Out :=
  (ySeq (yIf (xOr (xNot (xTru (xFn bIsi (xCons (xVar 0) (xCons (xC (.raw (.ty "tuple"))) xNil))))) (xNot (xTru (xFn F_are_numbers (xCons (xFn (bList mkF) (xCons (xVar 0) xNil)) (xCons (xC (.int 3)) xNil)))))) (yRet (xC (.bl false))) yNil)
    (ySeq (yAsg (xVar 0) (fun d e S => match (gT 3 (gsCons (gN 1) (gsCons (gN 2) (gsCons (gN 3) gsNil)))) d e S with | .nx e' S' => .nx e' S' | _ => .bad))
    (yRet (xAndV (xOp dGe (xVar 1) (xC (.int 1))) (xAndV (xOp dLe (xVar 1) (xC (.int 60))) (xAndV (xOp dGe (xVar 2) (xC (.int 1))) (xAndV (xOp dLe (xVar 2) (xVar 3)) (xOp dLe (xVar 3) (xC (.int 50))))))))))
noncomputable def F_is_box : List D → M D := fnD 1 4 false b_is_box
abbrev s_must_be_boxes : Stmt := topS 22
theorem sc_must_be_boxes : FnScope ["boxes", "box"] ["boxes"] (defScope s_must_be_boxes) := ⟨rfl, rfl, rfl, by decide +kernel, rfl, by decide +kernel, by decide +kernel⟩
noncomputable def b_must_be_boxes : Dv.Env → Store → Out :=
  (ySeq (yIf (xOr (xNot (xTru (xFn bIsi (xCons (xVar 0) (xCons (xC (.raw (.ty "list"))) xNil))))) (xOr (xIsT (xOp dLt (xFn bLen (xCons (xVar 0) xNil)) (xC (.int 1)))) (xIsT (xOp dGt (xFn bLen (xCons (xVar 0) xNil)) (xC (.int 6)))))) (yRaise ("NoBoxes" : PySem.Str)) yNil)
    (yIf (xIsT (xOp dGt (xFn bLen (xCons (xLc mkF (iSrc srcL (xVar 0)) (eN 1) (xNot (xTru (xFn F_is_box (xCons (xVar 1) xNil)))) (xVar 1) [1]) xNil)) (xC (.int 0)))) (yRaise ("NoBoxes" : PySem.Str)) yNil))
noncomputable def F_must_be_boxes : List D → M D := fnD 1 2 false b_must_be_boxes
abbrev s_must_be_budget : Stmt := topS 23
theorem sc_must_be_budget : FnScope ["budget"] ["budget"] (defScope s_must_be_budget) := ⟨rfl, rfl, rfl, by decide +kernel, rfl, by decide +kernel, by decide +kernel⟩
noncomputable def b_must_be_budget : Dv.Env → Store → Out :=
  (yIf (xOr (xNot (xTru (xFn F_is_number (xCons (xVar 0) xNil)))) (xOr (xIsT (xOp dLt (xVar 0) (xC (.int 0)))) (xIsT (xOp dGt (xVar 0) (xC (.int 60)))))) (yRaise ("NoBudget" : PySem.Str)) yNil)
noncomputable def F_must_be_budget : List D → M D := fnD 1 1 false b_must_be_budget
abbrev s_missed : Stmt := topS 24
theorem sc_missed : FnScope ["box", "many", "top", "bottom", "turn", "cost", "hits", "of"] ["box", "many"] (defScope s_missed) := ⟨rfl, rfl, rfl, by decide +kernel, rfl, by decide +kernel, by decide +kernel⟩
noncomputable def b_missed : Dv.Env → Store → Out :=
  (ySeq (yAsg (xVar 0) (fun d e S => match (gT 3 (gsCons (gN 5) (gsCons (gN 6) (gsCons (gN 7) gsNil)))) d e S with | .nx e' S' => .nx e' S' | _ => .bad))
    (ySeq (ySet 2 (xC (.int 1)))
    (ySeq (ySet 3 (xC (.int 1)))
    (ySeq (yFor (iSrcA srcR1 (xCons (xVar 1) xNil)) (gN 4) (ySeq (ySet 2 (xOp (dMul mkF) (xVar 2) (xOp dSub (xVar 7) (xVar 6))))
    (ySet 3 (xOp (dMul mkF) (xVar 3) (xVar 7)))))
    (yRet (xFn F_ratio (xCons (xVar 2) (xCons (xVar 3) xNil))))))))
noncomputable def F_missed : List D → M D := fnD 2 8 false b_missed
abbrev s_finding : Stmt := topS 25
theorem sc_finding : FnScope ["box", "many"] ["box", "many"] (defScope s_finding) := ⟨rfl, rfl, rfl, by decide +kernel, rfl, by decide +kernel, by decide +kernel⟩
noncomputable def b_finding : Dv.Env → Store → Out :=
  (yRet (xFn F_minus (xCons (xTup (xCons (xC (.int 1)) (xCons (xC (.int 1)) xNil))) (xCons (xFn F_missed (xCons (xVar 0) (xCons (xVar 1) xNil))) xNil))))
noncomputable def F_finding : List D → M D := fnD 2 2 false b_finding
abbrev s_mark : Stmt := topS 26
theorem sc_mark : FnScope ["box", "many"] ["box", "many"] (defScope s_mark) := ⟨rfl, rfl, rfl, by decide +kernel, rfl, by decide +kernel, by decide +kernel⟩
noncomputable def b_mark : Dv.Env → Store → Out :=
  (yRet (xFn F_times (xCons (xFn F_ratio (xCons (xOp dIx (xVar 0) (xC (.int 1))) (xCons (xOp dIx (xVar 0) (xC (.int 2))) xNil))) (xCons (xFn F_missed (xCons (xVar 0) (xCons (xVar 1) xNil))) xNil))))
noncomputable def F_mark : List D → M D := fnD 2 2 false b_mark
abbrev s_behind : Stmt := topS 27
theorem sc_behind : FnScope ["box", "miss"] ["box", "miss"] (defScope s_behind) := ⟨rfl, rfl, rfl, by decide +kernel, rfl, by decide +kernel, by decide +kernel⟩
noncomputable def b_behind : Dv.Env → Store → Out :=
  (yRet (xFn F_times (xCons (xVar 1) (xCons (xFn F_ratio (xCons (xOp dSub (xOp dIx (xVar 0) (xC (.int 2))) (xOp dIx (xVar 0) (xC (.int 1)))) (xCons (xOp dIx (xVar 0) (xC (.int 2))) xNil))) xNil))))
noncomputable def F_behind : List D → M D := fnD 2 2 false b_behind
abbrev s_rate : Stmt := topS 28
theorem sc_rate : FnScope ["boxes", "misses", "total", "k", "gain"] ["boxes", "misses"] (defScope s_rate) := ⟨rfl, rfl, rfl, by decide +kernel, rfl, by decide +kernel, by decide +kernel⟩
noncomputable def b_rate : Dv.Env → Store → Out :=
  (ySeq (ySet 2 (xTup (xCons (xC (.int 0)) (xCons (xC (.int 1)) xNil))))
    (ySeq (yFor (iSrcA srcR1 (xCons (xFn bLen (xCons (xVar 0) xNil)) xNil)) (gN 3) (ySeq (ySet 4 (xFn F_times (xCons (xFn F_ratio (xCons (xOp dIx (xOp dIx (xVar 0) (xVar 3)) (xC (.int 1))) (xCons (xOp dIx (xOp dIx (xVar 0) (xVar 3)) (xC (.int 2))) xNil))) (xCons (xOp dIx (xVar 1) (xVar 3)) xNil))))
    (ySet 2 (xFn F_plus (xCons (xVar 2) (xCons (xFn F_over (xCons (xTup (xCons (xOp dIx (xOp dIx (xVar 0) (xVar 3)) (xC (.int 0))) (xCons (xC (.int 1)) xNil))) (xCons (xVar 4) xNil))) xNil))))))
    (yRet (xVar 2))))
noncomputable def F_rate : List D → M D := fnD 2 5 false b_rate
abbrev s_greatest : Stmt := topS 29
theorem sc_greatest : FnScope ["fractions", "best", "one"] ["fractions"] (defScope s_greatest) := ⟨rfl, rfl, rfl, by decide +kernel, rfl, by decide +kernel, by decide +kernel⟩
noncomputable def b_greatest : Dv.Env → Store → Out :=
  (ySeq (ySet 1 (xOp dIx (xVar 0) (xC (.int 0))))
    (ySeq (yFor (iSrc srcL (xVar 0)) (gN 2) (yIf (xTru (xFn F_below (xCons (xVar 1) (xCons (xVar 2) xNil)))) (ySet 1 (xVar 2)) yNil))
    (yRet (xVar 1))))
noncomputable def F_greatest : List D → M D := fnD 1 3 false b_greatest
abbrev s_climbed : Stmt := topS 30
theorem sc_climbed : FnScope ["boxes", "budget", "counts", "misses", "level", "left", "goal", "price", "need", "k"] ["boxes", "budget"] (defScope s_climbed) := ⟨rfl, rfl, rfl, by decide +kernel, rfl, by decide +kernel, by decide +kernel⟩
noncomputable def b_climbed : Dv.Env → Store → Out :=
  (ySeq (ySet 2 (xOp (dMul mkC) (xLst mkF (xCons (xC (.int 0)) xNil)) (xFn bLen (xCons (xVar 0) xNil))))
    (ySeq (ySet 3 (xOp (dMul mkC) (xLst mkF (xCons (xTup (xCons (xC (.int 1)) (xCons (xC (.int 1)) xNil))) xNil)) (xFn bLen (xCons (xVar 0) xNil))))
    (ySeq (ySet 4 (xTup (xCons (xC (.int 1)) (xCons (xC (.int 1)) xNil))))
    (ySeq (ySet 5 (xTup (xCons (xVar 1) (xCons (xC (.int 1)) xNil))))
    (ySeq (yWhile (xIsT (xOp dNe (xVar 4) (xTup (xCons (xC (.int 0)) (xCons (xC (.int 1)) xNil))))) (ySeq (ySet 6 (xFn F_greatest (xCons (xLc mkF (iSrcA srcR1 (xCons (xFn bLen (xCons (xVar 0) xNil)) xNil)) (eN 9) cYes (xFn F_behind (xCons (xOp dIx (xVar 0) (xVar 9)) (xCons (xOp dIx (xVar 3) (xVar 9)) xNil))) [9]) xNil)))
    (ySeq (ySet 7 (xFn F_rate (xCons (xVar 0) (xCons (xVar 3) xNil))))
    (ySeq (ySet 8 (xFn F_times (xCons (xFn F_minus (xCons (xVar 4) (xCons (xVar 6) xNil))) (xCons (xVar 7) xNil))))
    (ySeq (yIf (xTru (xFn F_below (xCons (xVar 5) (xCons (xVar 8) xNil)))) (yRet (xDfz (xTup (xCons (xFn F_minus (xCons (xTup (xCons (xC (.int 1)) (xCons (xC (.int 1)) xNil))) (xCons (xFn F_minus (xCons (xVar 4) (xCons (xFn F_over (xCons (xVar 5) (xCons (xVar 7) xNil))) xNil))) xNil))) (xCons (xVar 2) xNil))))) yNil)
    (ySeq (ySet 4 (xVar 6))
    (ySeq (ySet 5 (xFn F_minus (xCons (xVar 5) (xCons (xVar 8) xNil))))
    (yFor (iSrcA srcR1 (xCons (xFn bLen (xCons (xVar 0) xNil)) xNil)) (gN 9) (yIf (xIsT (xOp dEq (xFn F_behind (xCons (xOp dIx (xVar 0) (xVar 9)) (xCons (xOp dIx (xVar 3) (xVar 9)) xNil))) (xVar 6))) (ySeq (yAugSub (xVar 2) (xVar 9) (xC (.int 1)) ipAdd)
    (ySub (xVar 6) (xVar 3) (xVar 9) setL)) yNil)))))))))
    (yRet (xDfz (xTup (xCons (xTup (xCons (xC (.int 1)) (xCons (xC (.int 1)) xNil))) (xCons (xVar 2) xNil))))))))))
noncomputable def F_climbed : List D → M D := fnD 2 10 false b_climbed
abbrev s_ceiling : Stmt := topS 31
theorem sc_ceiling : FnScope ["fraction"] ["fraction"] (defScope s_ceiling) := ⟨rfl, rfl, rfl, by decide +kernel, rfl, by decide +kernel, by decide +kernel⟩
noncomputable def b_ceiling : Dv.Env → Store → Out :=
  (yRet (xOp dSub (xC (.int 0)) (xOp dFdiv (xOp dSub (xC (.int 0)) (xOp dIx (xVar 0) (xC (.int 0)))) (xOp dIx (xVar 0) (xC (.int 1))))))
noncomputable def F_ceiling : List D → M D := fnD 1 1 false b_ceiling
abbrev s_many_between : Stmt := topS 32
theorem sc_many_between : FnScope ["one", "other", "u"] ["one", "other", "u"] (defScope s_many_between) := ⟨rfl, rfl, rfl, by decide +kernel, rfl, by decide +kernel, by decide +kernel⟩
noncomputable def b_many_between : Dv.Env → Store → Out :=
  (yRet (xOp dSub (xFn F_ceiling (xCons (xFn F_minus (xCons (xVar 1) (xCons (xVar 2) xNil))) xNil)) (xFn F_ceiling (xCons (xFn F_minus (xCons (xVar 0) (xCons (xVar 2) xNil))) xNil))))
noncomputable def F_many_between : List D → M D := fnD 3 3 false b_many_between
abbrev s_rest_of : Stmt := topS 33
theorem sc_rest_of : FnScope ["fraction"] ["fraction"] (defScope s_rest_of) := ⟨rfl, rfl, rfl, by decide +kernel, rfl, by decide +kernel, by decide +kernel⟩
noncomputable def b_rest_of : Dv.Env → Store → Out :=
  (yRet (xTup (xCons (xOp dMod (xOp dIx (xVar 0) (xC (.int 0))) (xOp dIx (xVar 0) (xC (.int 1)))) (xCons (xOp dIx (xVar 0) (xC (.int 1))) xNil))))
noncomputable def F_rest_of : List D → M D := fnD 1 1 false b_rest_of
abbrev s_mix_by : Stmt := topS 34
theorem sc_mix_by : FnScope ["looks", "ends", "one", "starts", "end", "bottom", "tops", "found_mix", "k", "top", "low", "u", "plan", "i"] ["looks"] (defScope s_mix_by) := ⟨rfl, rfl, rfl, by decide +kernel, rfl, by decide +kernel, by decide +kernel⟩
noncomputable def b_mix_by : Dv.Env → Store → Out :=
  (ySeq (ySet 1 (xLst mkC (xCons (xTup (xCons (xC (.int 0)) (xCons (xC (.int 1)) xNil))) xNil)))
    (ySeq (ySeq (yFor (iSrc srcL (xVar 0)) (gN 2) (yExpr (xMt "list" mAppend (xVar 1) (xCons (xFn F_plus (xCons (xOp dIx (xVar 1) (xUn dNeg (xC (.int 1)))) (xCons (xVar 2) xNil))) xNil)))) (frzE 1))
    (ySeq (ySet 3 (xLst mkC xNil))
    (ySeq (ySeq (yFor (iSrc srcL (xVar 1)) (gN 4) (yIf (xIsT (xOp (dInD true) (xFn F_rest_of (xCons (xVar 4) xNil)) (xVar 3))) (yExpr (xMt "list" mAppend (xVar 3) (xCons (xFn F_rest_of (xCons (xVar 4) xNil)) xNil))) yNil)) (frzE 3))
    (ySeq (ySet 5 (xC (.int 1)))
    (ySeq (yFor (iSrc srcL (xVar 3)) (gT 2 (gsCons (gN 9) (gsCons (gN 10) gsNil))) (ySet 5 (xOp dFdiv (xOp (dMul mkF) (xVar 5) (xVar 10)) (xFn F_divisor (xCons (xVar 5) (xCons (xVar 10) xNil))))))
    (ySeq (ySet 6 (xFn (bSorted mkF) (xCons (xLc mkF (iSrc srcL (xVar 3)) (eT2 9 10) cYes (xOp (dMul mkF) (xVar 9) (xOp dFdiv (xVar 5) (xVar 10))) [9, 10]) xNil)))
    (ySeq (ySet 7 (xLst mkC xNil))
    (ySeq (ySeq (yFor (iSrcA srcR1 (xCons (xFn bLen (xCons (xVar 6) xNil)) xNil)) (gN 8) (ySeq (ySet 11 (xFn F_ratio (xCons (xOp dIx (xVar 6) (xVar 8)) (xCons (xVar 5) xNil))))
    (ySeq (ySet 12 (xLc mkF (iSrcA srcR1 (xCons (xFn bLen (xCons (xVar 0) xNil)) xNil)) (eN 13) cYes (xFn F_many_between (xCons (xOp dIx (xVar 1) (xVar 13)) (xCons (xOp dIx (xVar 1) (xOp (dAdd mkF) (xVar 13) (xC (.int 1)))) (xCons (xVar 11) xNil)))) [13]))
    (yExpr (xMt "list" mAppend (xVar 7) (xCons (xTup (xCons (xVar 12) (xCons (xOp dSub (xOp dIx (xOp (dAdd mkF) (xVar 6) (xLst mkF (xCons (xVar 5) xNil))) (xOp (dAdd mkF) (xVar 8) (xC (.int 1)))) (xOp dIx (xVar 6) (xVar 8))) xNil))) xNil)))))) (frzE 7))
    (yRet (xVar 7)))))))))))
noncomputable def F_mix_by : List D → M D := fnD 1 14 false b_mix_by
abbrev s_looks_for : Stmt := topS 35
theorem sc_looks_for : FnScope ["boxes", "counts", "worth", "looks", "k", "more"] ["boxes", "counts", "worth"] (defScope s_looks_for) := ⟨rfl, rfl, rfl, by decide +kernel, rfl, by decide +kernel, by decide +kernel⟩
noncomputable def b_looks_for : Dv.Env → Store → Out :=
  (ySeq (ySet 3 (xLst mkC xNil))
    (ySeq (ySeq (yFor (iSrcA srcR1 (xCons (xFn bLen (xCons (xVar 0) xNil)) xNil)) (gN 4) (ySeq (ySet 5 (xFn F_minus (xCons (xVar 2) (xCons (xFn F_finding (xCons (xOp dIx (xVar 0) (xVar 4)) (xCons (xOp dIx (xVar 1) (xVar 4)) xNil))) xNil))))
    (yIf (xIsT (xOp dEq (xVar 5) (xTup (xCons (xC (.int 0)) (xCons (xC (.int 1)) xNil))))) (yExpr (xMt "list" mAppend (xVar 3) (xCons (xTup (xCons (xOp dIx (xVar 1) (xVar 4)) (xCons (xC (.int 1)) xNil))) xNil))) (yExpr (xMt "list" mAppend (xVar 3) (xCons (xFn F_plus (xCons (xTup (xCons (xOp dIx (xVar 1) (xVar 4)) (xCons (xC (.int 1)) xNil))) (xCons (xFn F_over (xCons (xVar 5) (xCons (xFn F_mark (xCons (xOp dIx (xVar 0) (xVar 4)) (xCons (xOp dIx (xVar 1) (xVar 4)) xNil))) xNil))) xNil))) xNil)))))) (frzE 3))
    (yRet (xVar 3))))
noncomputable def F_looks_for : List D → M D := fnD 3 6 false b_looks_for
abbrev s_paper_for : Stmt := topS 36
theorem sc_paper_for : FnScope ["boxes", "counts", "worth", "shares", "bottom", "weights", "part", "weight", "top", "low", "k"] ["boxes", "counts", "worth"] (defScope s_paper_for) := ⟨rfl, rfl, rfl, by decide +kernel, rfl, by decide +kernel, by decide +kernel⟩
noncomputable def b_paper_for : Dv.Env → Store → Out :=
  (ySeq (yIf (xIsT (xOp dEq (xVar 2) (xTup (xCons (xC (.int 1)) (xCons (xC (.int 1)) xNil))))) (yRet (xTup (xCons (xOp (dMul mkF) (xLst mkF (xCons (xC (.int 1)) xNil)) (xFn bLen (xCons (xVar 0) xNil))) (xCons (xTup (xCons (xC (.int 0)) (xCons (xC (.int 1)) xNil))) (xCons (xVar 1) xNil))))) yNil)
    (ySeq (ySet 3 (xLc mkF (iSrcA srcR1 (xCons (xFn bLen (xCons (xVar 0) xNil)) xNil)) (eN 10) cYes (xFn F_over (xCons (xTup (xCons (xOp dIx (xOp dIx (xVar 0) (xVar 10)) (xC (.int 0))) (xCons (xC (.int 1)) xNil))) (xCons (xFn F_mark (xCons (xOp dIx (xVar 0) (xVar 10)) (xCons (xOp dIx (xVar 1) (xVar 10)) xNil))) xNil))) [10]))
    (ySeq (ySet 4 (xC (.int 1)))
    (ySeq (yFor (iSrc srcL (xVar 3)) (gT 2 (gsCons (gN 8) (gsCons (gN 9) gsNil))) (ySet 4 (xOp dFdiv (xOp (dMul mkF) (xVar 4) (xVar 9)) (xFn F_divisor (xCons (xVar 4) (xCons (xVar 9) xNil))))))
    (ySeq (ySet 5 (xLc mkF (iSrc srcL (xVar 3)) (eT2 8 9) cYes (xOp (dMul mkF) (xVar 8) (xOp dFdiv (xVar 4) (xVar 9))) [8, 9]))
    (ySeq (ySet 6 (xVar 4))
    (ySeq (yFor (iSrc srcL (xVar 5)) (gN 7) (ySet 6 (xFn F_divisor (xCons (xVar 6) (xCons (xVar 7) xNil)))))
    (yRet (xTup (xCons (xLc mkF (iSrc srcL (xVar 5)) (eN 7) cYes (xOp dFdiv (xVar 7) (xVar 6)) [7]) (xCons (xFn F_ratio (xCons (xVar 4) (xCons (xVar 6) xNil))) (xCons (xVar 1) xNil))))))))))))
noncomputable def F_paper_for : List D → M D := fnD 3 11 false b_paper_for
abbrev s_budget_worth : Stmt := topS 37
theorem sc_budget_worth : FnScope ["boxes", "budget", "worth", "counts"] ["boxes", "budget"] (defScope s_budget_worth) := ⟨rfl, rfl, rfl, by decide +kernel, rfl, by decide +kernel, by decide +kernel⟩
noncomputable def b_budget_worth : Dv.Env → Store → Out :=
  (ySeq (yExpr (xFn F_must_be_boxes (xCons (xVar 0) xNil)))
    (ySeq (yExpr (xFn F_must_be_budget (xCons (xVar 1) xNil)))
    (ySeq (yAsg (xFn F_climbed (xCons (xVar 0) (xCons (xVar 1) xNil))) (fun d e S => match (gT 2 (gsCons (gN 2) (gsCons (gN 3) gsNil))) d e S with | .nx e' S' => .nx e' S' | _ => .bad))
    (yRet (xTup (xCons (xVar 2) (xCons (xFn F_mix_by (xCons (xFn F_looks_for (xCons (xVar 0) (xCons (xVar 3) (xCons (xVar 2) xNil)))) xNil)) (xCons (xFn F_paper_for (xCons (xVar 0) (xCons (xVar 3) (xCons (xVar 2) xNil)))) xNil))))))))
noncomputable def F_budget_worth : List D → M D := fnD 2 4 false b_budget_worth
abbrev s__law_mix : Stmt := topS 39
theorem sc__law_mix : FnScope ["_law_number", "_law_k", "_law_mixed"] ["_law_number", "_law_k"] (defScope s__law_mix) := ⟨rfl, rfl, rfl, by decide +kernel, rfl, by decide +kernel, by decide +kernel⟩
noncomputable def b__law_mix : Dv.Env → Store → Out :=
  (ySeq (ySet 2 (xOp dMod (xOp (dMul mkF) (xOp (dAdd mkF) (xOp (dAdd mkF) (xOp (dMul mkF) (xVar 0) (xVar 0)) (xOp (dMul mkF) (xVar 1) (xVar 0))) (xOp (dMul mkF) (xOp (dMul mkF) (xC (.int 7)) (xVar 1)) (xVar 1))) (xC (.int 1103515245))) (xC (.int 2147483629))))
    (yRet (xOp dMod (xOp (dMul mkF) (xVar 2) (xVar 2)) (xC (.int 2147483587)))))
noncomputable def F__law_mix : List D → M D := fnD 2 3 false b__law_mix
abbrev s__law_cell_at : Stmt := topS 40
theorem sc__law_cell_at : FnScope ["_law_script", "_law_k"] ["_law_script", "_law_k"] (defScope s__law_cell_at) := ⟨rfl, rfl, rfl, by decide +kernel, rfl, by decide +kernel, by decide +kernel⟩
noncomputable def b__law_cell_at : Dv.Env → Store → Out :=
  (ySeq (yIf (xIsT (xOp dLt (xVar 1) (xFn bLen (xCons (xVar 0) xNil)))) (yRet (xOp dIx (xVar 0) (xVar 1))) yNil)
    (yRet (xC (.int 0))))
noncomputable def F__law_cell_at : List D → M D := fnD 2 2 false b__law_cell_at
abbrev s__law_left : Stmt := topS 41
theorem sc__law_left : FnScope ["_law_script", "_law_k", "_law_cell"] ["_law_script", "_law_k"] (defScope s__law_left) := ⟨rfl, rfl, rfl, by decide +kernel, rfl, by decide +kernel, by decide +kernel⟩
noncomputable def b__law_left : Dv.Env → Store → Out :=
  (ySeq (ySet 2 (xFn F__law_cell_at (xCons (xVar 0) (xCons (xVar 1) xNil))))
    (ySeq (yIf (xIsT (xOp dLt (xVar 2) (xOp dPow (xC (.int 10)) (xC (.int 18))))) (yRet (xLst mkC (xCons (xVar 2) (xCons (xC (.int 0)) (xCons (xC (.int 0)) xNil))))) yNil)
    (yRet (xLst mkC (xCons (xOp dSub (xVar 2) (xOp dPow (xC (.int 10)) (xC (.int 18)))) (xCons (xC (.int 1)) (xCons (xC (.int 0)) xNil)))))))
noncomputable def F__law_left : List D → M D := fnD 2 3 true b__law_left
abbrev s__law_draw : Stmt := topS 42
theorem sc__law_draw : FnScope ["_law_left_here", "_law_base", "_law_digit", "_law_mixed"] ["_law_left_here", "_law_base"] (defScope s__law_draw) := ⟨rfl, rfl, rfl, by decide +kernel, rfl, by decide +kernel, by decide +kernel⟩
noncomputable def b__law_draw : Dv.Env → Store → Out :=
  (ySeq (ySub (xOp (dAdd mkF) (xOp dIx (xVar 0) (xC (.int 2))) (xC (.int 1))) (xVar 0) (xC (.int 2)) setL)
    (ySeq (yIf (xIsT (xOp dEq (xOp dIx (xVar 0) (xC (.int 1))) (xC (.int 0)))) (ySeq (ySet 3 (xFn F__law_mix (xCons (xOp dIx (xVar 0) (xC (.int 0))) (xCons (xOp dIx (xVar 0) (xC (.int 2))) xNil))))
    (yRet (xOp dMod (xOp dMod (xOp (dMul mkF) (xVar 3) (xOp (dAdd mkF) (xVar 3) (xC (.int 2)))) (xC (.int 2147483579))) (xVar 1)))) yNil)
    (ySeq (ySet 2 (xOp dMod (xOp dIx (xVar 0) (xC (.int 0))) (xVar 1)))
    (ySeq (ySub (xOp dFdiv (xOp dIx (xVar 0) (xC (.int 0))) (xVar 1)) (xVar 0) (xC (.int 0)) setL)
    (yRet (xVar 2))))))
noncomputable def F__law_draw : List D → M D := fnD 2 4 false b__law_draw
abbrev s__law_boxes : Stmt := topS 43
theorem sc__law_boxes : FnScope ["_law_left_here", "_law_most", "_law_found", "_law_k", "_law_cost", "_law_of"] ["_law_left_here", "_law_most"] (defScope s__law_boxes) := ⟨rfl, rfl, rfl, by decide +kernel, rfl, by decide +kernel, by decide +kernel⟩
noncomputable def b__law_boxes : Dv.Env → Store → Out :=
  (ySeq (ySet 2 (xLst mkC xNil))
    (ySeq (ySeq (yFor (iSrcA srcR1 (xCons (xOp (dAdd mkF) (xC (.int 1)) (xFn F__law_draw (xCons (xVar 0) (xCons (xVar 1) xNil)))) xNil)) (gN 3) (ySeq (ySet 4 (xOp (dAdd mkF) (xC (.int 1)) (xFn F__law_draw (xCons (xVar 0) (xCons (xOp dIx (xLst mkF (xCons (xC (.int 1)) (xCons (xC (.int 4)) (xCons (xC (.int 60)) xNil)))) (xFn F__law_draw (xCons (xVar 0) (xCons (xC (.int 3)) xNil)))) xNil)))))
    (ySeq (ySet 5 (xOp (dAdd mkF) (xC (.int 1)) (xFn F__law_draw (xCons (xVar 0) (xCons (xOp dIx (xLst mkF (xCons (xC (.int 3)) (xCons (xC (.int 50)) xNil))) (xFn F__law_draw (xCons (xVar 0) (xCons (xC (.int 2)) xNil)))) xNil)))))
    (yExpr (xMt "list" mAppend (xVar 2) (xCons (xTup (xCons (xVar 4) (xCons (xOp (dAdd mkF) (xC (.int 1)) (xFn F__law_draw (xCons (xVar 0) (xCons (xVar 5) xNil)))) (xCons (xVar 5) xNil)))) xNil)))))) (frzE 2))
    (yRet (xVar 2))))
noncomputable def F__law_boxes : List D → M D := fnD 2 6 false b__law_boxes
abbrev s__law_whole : Stmt := topS 44
theorem sc__law_whole : FnScope ["_law_thing"] ["_law_thing"] (defScope s__law_whole) := ⟨rfl, rfl, rfl, by decide +kernel, rfl, by decide +kernel, by decide +kernel⟩
noncomputable def b__law_whole : Dv.Env → Store → Out :=
  (yRet (xAndV (xFn bIsi (xCons (xVar 0) (xCons (xC (.raw (.ty "int"))) xNil))) (xNotV (xFn bIsi (xCons (xVar 0) (xCons (xC (.raw (.ty "bool"))) xNil))))))
noncomputable def F__law_whole : List D → M D := fnD 1 1 false b__law_whole
abbrev s__law_lowest : Stmt := topS 46
theorem sc__law_lowest : FnScope ["_law_top", "_law_bottom", "_law_one", "_law_other"] ["_law_top", "_law_bottom"] (defScope s__law_lowest) := ⟨rfl, rfl, rfl, by decide +kernel, rfl, by decide +kernel, by decide +kernel⟩
noncomputable def b__law_lowest : Dv.Env → Store → Out :=
  (ySeq (ySet 2 (xVar 1))
    (ySeq (ySet 3 (xOp dMod (xVar 0) (xVar 1)))
    (ySeq (yWhile (xIsT (xOp dGt (xVar 3) (xC (.int 0)))) (yPar 2 3 (xCons (xVar 3) (xCons (xOp dMod (xVar 2) (xVar 3)) xNil))))
    (yRet (xTup (xCons (xOp dFdiv (xVar 0) (xVar 2)) (xCons (xOp dFdiv (xVar 1) (xVar 2)) xNil)))))))
noncomputable def F__law_lowest : List D → M D := fnD 2 4 false b__law_lowest
abbrev s__law_miss : Stmt := topS 47
theorem sc__law_miss : FnScope ["_law_box", "_law_many", "_law_top", "_law_bottom", "_law_turn"] ["_law_box", "_law_many"] (defScope s__law_miss) := ⟨rfl, rfl, rfl, by decide +kernel, rfl, by decide +kernel, by decide +kernel⟩
noncomputable def b__law_miss : Dv.Env → Store → Out :=
  (ySeq (ySet 2 (xC (.int 1)))
    (ySeq (ySet 3 (xC (.int 1)))
    (ySeq (yFor (iSrcA srcR1 (xCons (xVar 1) xNil)) (gN 4) (ySeq (ySet 2 (xOp (dMul mkF) (xVar 2) (xOp dSub (xOp dIx (xVar 0) (xC (.int 2))) (xOp dIx (xVar 0) (xC (.int 1))))))
    (ySet 3 (xOp (dMul mkF) (xVar 3) (xOp dIx (xVar 0) (xC (.int 2)))))))
    (yRet (xTup (xCons (xVar 2) (xCons (xVar 3) xNil)))))))
noncomputable def F__law_miss : List D → M D := fnD 2 5 false b__law_miss
abbrev s__law_plus : Stmt := topS 48
theorem sc__law_plus : FnScope ["_law_one", "_law_other"] ["_law_one", "_law_other"] (defScope s__law_plus) := ⟨rfl, rfl, rfl, by decide +kernel, rfl, by decide +kernel, by decide +kernel⟩
noncomputable def b__law_plus : Dv.Env → Store → Out :=
  (yRet (xFn F__law_lowest (xCons (xOp (dAdd mkF) (xOp (dMul mkF) (xOp dIx (xVar 0) (xC (.int 0))) (xOp dIx (xVar 1) (xC (.int 1)))) (xOp (dMul mkF) (xOp dIx (xVar 1) (xC (.int 0))) (xOp dIx (xVar 0) (xC (.int 1))))) (xCons (xOp (dMul mkF) (xOp dIx (xVar 0) (xC (.int 1))) (xOp dIx (xVar 1) (xC (.int 1)))) xNil))))
noncomputable def F__law_plus : List D → M D := fnD 2 2 false b__law_plus
abbrev s__law_less : Stmt := topS 49
theorem sc__law_less : FnScope ["_law_one", "_law_other"] ["_law_one", "_law_other"] (defScope s__law_less) := ⟨rfl, rfl, rfl, by decide +kernel, rfl, by decide +kernel, by decide +kernel⟩
noncomputable def b__law_less : Dv.Env → Store → Out :=
  (yRet (xOp dLt (xOp (dMul mkF) (xOp dIx (xVar 0) (xC (.int 0))) (xOp dIx (xVar 1) (xC (.int 1)))) (xOp (dMul mkF) (xOp dIx (xVar 1) (xC (.int 0))) (xOp dIx (xVar 0) (xC (.int 1))))))
noncomputable def F__law_less : List D → M D := fnD 2 2 false b__law_less
abbrev s__law_plan : Stmt := topS 50
theorem sc__law_plan : FnScope ["_law_boxes_here", "_law_thing", "_law_one"] ["_law_boxes_here", "_law_thing"] (defScope s__law_plan) := ⟨rfl, rfl, rfl, by decide +kernel, rfl, by decide +kernel, by decide +kernel⟩
noncomputable def b__law_plan : Dv.Env → Store → Out :=
  (ySeq (yIf (xOr (xNot (xTru (xFn bIsi (xCons (xVar 1) (xCons (xC (.raw (.ty "list"))) xNil))))) (xIsT (xOp dNe (xFn bLen (xCons (xVar 1) xNil)) (xFn bLen (xCons (xVar 0) xNil))))) (yRet (xC (.bl false))) yNil)
    (yRet (xOp dEq (xFn bLen (xCons (xLc mkF (iSrc srcL (xVar 1)) (eN 2) (xOr (xNot (xTru (xFn F__law_whole (xCons (xVar 2) xNil)))) (xOr (xIsT (xOp dLt (xVar 2) (xC (.int 0)))) (xIsT (xOp dGt (xVar 2) (xC (.int 60)))))) (xVar 2) [2]) xNil)) (xC (.int 0)))))
noncomputable def F__law_plan : List D → M D := fnD 2 3 false b__law_plan
abbrev s__law_price : Stmt := topS 51
theorem sc__law_price : FnScope ["_law_boxes_here", "_law_plan_here", "_law_k"] ["_law_boxes_here", "_law_plan_here"] (defScope s__law_price) := ⟨rfl, rfl, rfl, by decide +kernel, rfl, by decide +kernel, by decide +kernel⟩
noncomputable def b__law_price : Dv.Env → Store → Out :=
  (yRet (xFn bSum (xCons (xLc mkF (iSrcA srcR1 (xCons (xFn bLen (xCons (xVar 0) xNil)) xNil)) (eN 2) cYes (xOp (dMul mkF) (xOp dIx (xOp dIx (xVar 0) (xVar 2)) (xC (.int 0))) (xOp dIx (xVar 1) (xVar 2))) [2]) xNil)))
noncomputable def F__law_price : List D → M D := fnD 2 3 false b__law_price
abbrev s__law_chance : Stmt := topS 52
theorem sc__law_chance : FnScope ["_law_boxes_here", "_law_mix_here", "_law_k", "_law_total", "_law_whole_here", "_law_plan_here", "_law_weight", "_law_top", "_law_bottom"] ["_law_boxes_here", "_law_mix_here", "_law_k"] (defScope s__law_chance) := ⟨rfl, rfl, rfl, by decide +kernel, rfl, by decide +kernel, by decide +kernel⟩
noncomputable def b__law_chance : Dv.Env → Store → Out :=
  (ySeq (ySet 3 (xTup (xCons (xC (.int 0)) (xCons (xC (.int 1)) xNil))))
    (ySeq (ySet 4 (xFn bSum (xCons (xLc mkF (iSrc srcL (xVar 1)) (eT2 5 6) cYes (xVar 6) [5, 6]) xNil)))
    (ySeq (yFor (iSrc srcL (xVar 1)) (gT 2 (gsCons (gN 5) (gsCons (gN 6) gsNil))) (ySeq (yAsg (xFn F__law_miss (xCons (xOp dIx (xVar 0) (xVar 2)) (xCons (xOp dIx (xVar 5) (xVar 2)) xNil))) (fun d e S => match (gT 2 (gsCons (gN 7) (gsCons (gN 8) gsNil))) d e S with | .nx e' S' => .nx e' S' | _ => .bad))
    (ySet 3 (xFn F__law_plus (xCons (xVar 3) (xCons (xTup (xCons (xOp (dMul mkF) (xVar 6) (xOp dSub (xVar 8) (xVar 7))) (xCons (xOp (dMul mkF) (xVar 8) (xVar 4)) xNil))) xNil))))))
    (yRet (xVar 3)))))
noncomputable def F__law_chance : List D → M D := fnD 3 9 false b__law_chance
abbrev s__law_keeps : Stmt := topS 53
theorem sc__law_keeps : FnScope ["_law_boxes_here", "_law_budget", "_law_mix_here", "_law_part", "_law_whole_here", "_law_plan_here", "_law_weight"] ["_law_boxes_here", "_law_budget", "_law_mix_here"] (defScope s__law_keeps) := ⟨rfl, rfl, rfl, by decide +kernel, rfl, by decide +kernel, by decide +kernel⟩
noncomputable def b__law_keeps : Dv.Env → Store → Out :=
  (ySeq (yIf (xOr (xNot (xTru (xFn bIsi (xCons (xVar 2) (xCons (xC (.raw (.ty "list"))) xNil))))) (xIsT (xOp dEq (xFn bLen (xCons (xVar 2) xNil)) (xC (.int 0))))) (yRet (xC (.bl false))) yNil)
    (ySeq (yFor (iSrc srcL (xVar 2)) (gN 3) (ySeq (yIf (xOr (xNot (xTru (xFn bIsi (xCons (xVar 3) (xCons (xC (.raw (.ty "tuple"))) xNil))))) (xOr (xIsT (xOp dNe (xFn bLen (xCons (xVar 3) xNil)) (xC (.int 2)))) (xNot (xTru (xFn F__law_plan (xCons (xVar 0) (xCons (xOp dIx (xVar 3) (xC (.int 0))) xNil))))))) (yRet (xC (.bl false))) yNil)
    (yIf (xOr (xNot (xTru (xFn F__law_whole (xCons (xOp dIx (xVar 3) (xC (.int 1))) xNil)))) (xIsT (xOp dLt (xOp dIx (xVar 3) (xC (.int 1))) (xC (.int 1))))) (yRet (xC (.bl false))) yNil)))
    (ySeq (ySet 4 (xFn bSum (xCons (xLc mkF (iSrc srcL (xVar 2)) (eT2 5 6) cYes (xVar 6) [5, 6]) xNil)))
    (yRet (xOp dLe (xFn bSum (xCons (xLc mkF (iSrc srcL (xVar 2)) (eT2 5 6) cYes (xOp (dMul mkF) (xVar 6) (xFn F__law_price (xCons (xVar 0) (xCons (xVar 5) xNil)))) [5, 6]) xNil)) (xOp (dMul mkF) (xVar 1) (xVar 4)))))))
noncomputable def F__law_keeps : List D → M D := fnD 3 7 false b__law_keeps
abbrev s__law_drawn_mix : Stmt := topS 57
theorem sc__law_drawn_mix : FnScope ["_law_left_here", "_law_boxes_here", "_law_budget", "_law_mix_here", "_law_turn", "_law_price_here", "_law_whole_here", "_law_plan_here", "_law_weight", "_law_box"] ["_law_left_here", "_law_boxes_here", "_law_budget"] (defScope s__law_drawn_mix) := ⟨rfl, rfl, rfl, by decide +kernel, rfl, by decide +kernel, by decide +kernel⟩
noncomputable def b__law_drawn_mix : Dv.Env → Store → Out :=
  (ySeq (ySet 3 (xLst mkC xNil))
    (ySeq (yFor (iSrcA srcR1 (xCons (xOp (dAdd mkF) (xC (.int 1)) (xFn F__law_draw (xCons (xVar 0) (xCons (xC (.int 3)) xNil)))) xNil)) (gN 4) (yExpr (xMt "list" mAppend (xVar 3) (xCons (xTup (xCons (xLc mkF (iSrc srcL (xVar 1)) (eN 9) cYes (xFn F__law_draw (xCons (xVar 0) (xCons (xOp dIx (xLst mkF (xCons (xC (.int 3)) (xCons (xC (.int 12)) xNil))) (xFn F__law_draw (xCons (xVar 0) (xCons (xC (.int 2)) xNil)))) xNil))) [9]) (xCons (xOp (dAdd mkF) (xC (.int 1)) (xFn F__law_draw (xCons (xVar 0) (xCons (xC (.int 4)) xNil)))) xNil))) xNil))))
    (ySeq (ySet 5 (xFn bSum (xCons (xLc mkF (iSrc srcL (xVar 3)) (eT2 7 8) cYes (xOp (dMul mkF) (xVar 8) (xFn F__law_price (xCons (xVar 1) (xCons (xVar 7) xNil)))) [7, 8]) xNil)))
    (ySeq (ySet 6 (xFn bSum (xCons (xLc mkF (iSrc srcL (xVar 3)) (eT2 7 8) cYes (xVar 8) [7, 8]) xNil)))
    (ySeq (yIf (xAnd (xIsT (xOp dGt (xVar 5) (xOp (dMul mkF) (xVar 2) (xVar 6)))) (xIsT (xOp dGt (xVar 2) (xC (.int 0))))) (yExpr (xMt "list" mAppend (xVar 3) (xCons (xTup (xCons (xOp (dMul mkF) (xLst mkF (xCons (xC (.int 0)) xNil)) (xFn bLen (xCons (xVar 1) xNil))) (xCons (xOp dSub (xOp dSub (xC (.int 0)) (xOp dFdiv (xOp dSub (xC (.int 0)) (xVar 5)) (xVar 2))) (xVar 6)) xNil))) xNil))) yNil)
    (ySeq (yIf (xAnd (xIsT (xOp dGt (xVar 5) (xOp (dMul mkF) (xVar 2) (xVar 6)))) (xIsT (xOp dEq (xVar 2) (xC (.int 0))))) (yRet (xLst mkF (xCons (xTup (xCons (xOp (dMul mkF) (xLst mkF (xCons (xC (.int 0)) xNil)) (xFn bLen (xCons (xVar 1) xNil))) (xCons (xC (.int 1)) xNil))) xNil))) yNil)
    (yRet (xFrz (xVar 3)))))))))
noncomputable def F__law_drawn_mix : List D → M D := fnD 3 10 false b__law_drawn_mix
abbrev s__law_least : Stmt := topS 58
theorem sc__law_least : FnScope ["_law_boxes_here", "_law_mix_here", "_law_least_here", "_law_k", "_law_chance_here"] ["_law_boxes_here", "_law_mix_here"] (defScope s__law_least) := ⟨rfl, rfl, rfl, by decide +kernel, rfl, by decide +kernel, by decide +kernel⟩
noncomputable def b__law_least : Dv.Env → Store → Out :=
  (ySeq (ySet 2 (xTup (xCons (xC (.int 1)) (xCons (xC (.int 1)) xNil))))
    (ySeq (yFor (iSrcA srcR1 (xCons (xFn bLen (xCons (xVar 0) xNil)) xNil)) (gN 3) (ySeq (ySet 4 (xFn F__law_chance (xCons (xVar 0) (xCons (xVar 1) (xCons (xVar 3) xNil)))))
    (yIf (xTru (xFn F__law_less (xCons (xVar 4) (xCons (xVar 2) xNil)))) (ySet 2 (xVar 4)) yNil)))
    (yRet (xVar 2))))
noncomputable def F__law_least : List D → M D := fnD 2 5 false b__law_least
abbrev s__law_found_by_weights : Stmt := topS 59
theorem sc__law_found_by_weights : FnScope ["_law_boxes_here", "_law_weights", "_law_plan_here", "_law_total", "_law_k", "_law_top", "_law_bottom"] ["_law_boxes_here", "_law_weights", "_law_plan_here"] (defScope s__law_found_by_weights) := ⟨rfl, rfl, rfl, by decide +kernel, rfl, by decide +kernel, by decide +kernel⟩
noncomputable def b__law_found_by_weights : Dv.Env → Store → Out :=
  (ySeq (ySet 3 (xTup (xCons (xC (.int 0)) (xCons (xC (.int 1)) xNil))))
    (ySeq (yFor (iSrcA srcR1 (xCons (xFn bLen (xCons (xVar 0) xNil)) xNil)) (gN 4) (ySeq (yAsg (xFn F__law_miss (xCons (xOp dIx (xVar 0) (xVar 4)) (xCons (xOp dIx (xVar 2) (xVar 4)) xNil))) (fun d e S => match (gT 2 (gsCons (gN 5) (gsCons (gN 6) gsNil))) d e S with | .nx e' S' => .nx e' S' | _ => .bad))
    (ySet 3 (xFn F__law_plus (xCons (xVar 3) (xCons (xTup (xCons (xOp (dMul mkF) (xOp dIx (xVar 1) (xVar 4)) (xOp dSub (xVar 6) (xVar 5))) (xCons (xVar 6) xNil))) xNil))))))
    (yRet (xVar 3))))
noncomputable def F__law_found_by_weights : List D → M D := fnD 3 7 false b__law_found_by_weights
abbrev s_law : Stmt := topS 60
theorem sc_law : FnScope ["_law_script", "_law_cell", "_law_left_here", "_law_boxes_here", "_law_budget", "_law_turn", "_law_worth", "_law_told", "_law_paper", "_law_weights", "_law_price_here", "_law_counts", "_law_mix_here", "_law_plan_here", "_law_bound", "_law_beyond"] ["_law_script"] (defScope s_law) := ⟨rfl, rfl, rfl, by decide +kernel, rfl, by decide +kernel, by decide +kernel⟩
noncomputable def b_law : Dv.Env → Store → Out :=
  (ySeq (yFor (iSrc srcL (xOp (dAdd mkF) (xLst mkF (xCons (xC (.int 0)) xNil)) (xSl mkF (xVar 0) oNone (oSome (xC (.int 40)))))) (gN 1) (ySeq (ySet 2 (xFn F__law_left (xCons (xLst mkF (xCons (xVar 1) xNil)) (xCons (xC (.int 0)) xNil))))
    (ySeq (ySet 3 (xFn F__law_boxes (xCons (xVar 2) (xCons (xC (.int 3)) xNil))))
    (ySeq (ySet 4 (xFn F__law_draw (xCons (xVar 2) (xCons (xOp dIx (xLst mkF (xCons (xC (.int 6)) (xCons (xC (.int 61)) xNil))) (xFn F__law_draw (xCons (xVar 2) (xCons (xC (.int 2)) xNil)))) xNil))))
    (ySeq (yAsg (xFn F_budget_worth (xCons (xFn (bList mkF) (xCons (xVar 3) xNil)) (xCons (xVar 4) xNil))) (fun d e S => match (gT 3 (gsCons (gN 6) (gsCons (gN 7) (gsCons (gN 8) gsNil)))) d e S with | .nx e' S' => .nx e' S' | _ => .bad))
    (ySeq (yAsg (xVar 8) (fun d e S => match (gT 3 (gsCons (gN 9) (gsCons (gN 10) (gsCons (gN 11) gsNil)))) d e S with | .nx e' S' => .nx e' S' | _ => .bad))
    (yFor (iSrcA srcR1 (xCons (xC (.int 4)) xNil)) (gN 5) (ySeq (ySet 12 (xFn F__law_drawn_mix (xCons (xVar 2) (xCons (xVar 3) (xCons (xVar 4) xNil)))))
    (ySeq (yIf (xOr (xNot (xTru (xFn F__law_keeps (xCons (xVar 3) (xCons (xVar 4) (xCons (xVar 12) xNil)))))) (xTru (xFn F__law_less (xCons (xVar 6) (xCons (xFn F__law_least (xCons (xVar 3) (xCons (xVar 12) xNil))) xNil))))) (yRet (xC (.bl false))) yNil)
    (ySeq (ySet 13 (xOp dIx (xOp dIx (xVar 12) (xC (.int 0))) (xC (.int 0))))
    (ySeq (ySet 14 (xFn F__law_plus (xCons (xTup (xCons (xOp (dMul mkF) (xOp dIx (xVar 6) (xC (.int 0))) (xFn bSum (xCons (xVar 9) xNil))) (xCons (xOp dIx (xVar 6) (xC (.int 1))) xNil))) (xCons (xFn F__law_lowest (xCons (xOp dIx (xVar 10) (xC (.int 0))) (xCons (xOp dIx (xVar 10) (xC (.int 1))) xNil))) xNil))))
    (ySeq (ySet 15 (xOp dSub (xOp dSub (xFn F__law_price (xCons (xVar 3) (xCons (xVar 13) xNil))) (xVar 4)) (xC (.int 1))))
    (ySeq (ySet 14 (xFn F__law_plus (xCons (xVar 14) (xCons (xTup (xCons (xOp (dMul mkF) (xOp dIx (xVar 10) (xC (.int 0))) (xVar 15)) (xCons (xOp dIx (xVar 10) (xC (.int 1))) xNil))) xNil))))
    (yIf (xTru (xFn F__law_less (xCons (xVar 14) (xCons (xFn F__law_found_by_weights (xCons (xVar 3) (xCons (xVar 9) (xCons (xVar 13) xNil)))) xNil)))) (yRet (xC (.bl false))) yNil))))))))))))))
    (yRet (xC (.bl true))))
noncomputable def F_law : List D → M D := fnD 1 16 false b_law
end Lw
namespace Lw
open PySem PySem.Spec PyProof.Rows L2 Dv
theorem gcd_step {x y : Int} (hx : 0 ≤ x) (hy : 0 < y) : 0 ≤ x.fmod y ∧ x.fmod y < y ∧ Int.gcd y (x.fmod y) = Int.gcd x y := by
  rw [fmod_pos hy]
  refine ⟨Int.emod_nonneg x (by omega), Int.emod_lt_of_pos x hy, ?_⟩
  rw [Int.gcd_comm]
  unfold Int.gcd
  rw [Int.natAbs_emod_of_nonneg hx, Nat.gcd_comm x.natAbs, Nat.gcd_rec y.natAbs]
theorem abs_gcd (a b : Int) : Int.gcd (if a < 0 then -a else a) (if b < 0 then -b else b) = Int.gcd a b := by
  unfold Int.gcd
  split <;> split <;> simp
theorem divisor_ok (a b : Int) (S : Store) : F_divisor [.int a, .int b] S = .ok (.int (Int.gcd a b)) S := by
  rw [← ens_eq]
  refine ens_fn rfl ?_
  unfold b_divisor
  simp
  rw [← abs_gcd a b]
  have ha : 0 ≤ (if a < 0 then -a else a) := by split <;> omega
  have hb : 0 ≤ (if b < 0 then -b else b) := by split <;> omega
  generalize (if a < 0 then -a else a) = x at ha ⊢
  generalize (if b < 0 then -b else b) = y at hb ⊢
  refine ens_while (fun e S' => ∃ x' y' : Int, e = [some (.int x'), some (.int y')] ∧ S' = S ∧ 0 ≤ x' ∧ 0 ≤ y' ∧ Int.gcd x' y' = Int.gcd x y) (fun e _ => match e with | [_, some (.int y')] => y'.toNat | _ => 0) ?_ ⟨x, y, rfl, rfl, ha, hb, rfl⟩
  rintro e S' ⟨x', y', rfl, rfl, hx, hy, hg⟩
  simp
  refine ⟨fun h => ?_, fun h => ?_⟩
  · have hp : 0 < y' := by omega
    obtain ⟨h1, h2, h3⟩ := gcd_step hx hp
    exact ⟨h, ⟨_, _, ⟨rfl, rfl⟩, hy, h1, h3.trans hg⟩, by omega⟩
  · subst h
    rw [← hg, Int.gcd_zero_right]
    omega
/-! ### the program's fractions -/
theorem ratio_r (a b : Int) (n : Nat) (S : Store) (h : b ≠ 0) (hb : Sz n b) (hn : n ≤ 9000) : F_ratio [.int a, .int b] S = .ok (fr ((a : Rat) / b)) S := by
  rw [← fr_div h, ← ens_eq]
  refine ens_fn rfl ?_
  unfold b_ratio
  have g1 := gsr_sz (a := a) h hb
  have g2 := g1.divOk (a := a) (gsr_ne h) hn
  have g3 := g1.divOk (a := b) (gsr_ne h) hn
  simp [divisor_ok, h]
  by_cases hl : b < 0
  · have e : gsr a b = 0 - (Int.gcd a b : Int) := if_pos hl
    rw [e] at g2 g3 ⊢
    simp [hl] at g2 g3 ⊢
    exact ⟨g2, g3⟩
  · have e : gsr a b = (Int.gcd a b : Int) := if_neg hl
    rw [e] at g2 g3 ⊢
    simp [hl]
    exact ⟨g2, g3⟩
theorem plus_r {x y : Rat} {n : Nat} (hx : Fs n x) (hy : Fs n y) (hn : n ≤ 4500) (S : Store) : F_plus [fr x, fr y] S = .ok (fr (x + y)) S := by
  rw [← ens_eq]
  refine ens_fn rfl ?_
  unfold b_plus
  simp [hx.num.mulOk hy.den (by omega), hy.num.mulOk hx.den (by omega), hx.den.mulOk hy.den (by omega), ratio_r _ _ (n + n) S (Int.mul_ne_zero (den_ne x) (den_ne y)) (hx.den.mul hy.den) (by omega), plus_rat']
theorem minus_r {x y : Rat} {n : Nat} (hx : Fs n x) (hy : Fs n y) (hn : n ≤ 4500) (S : Store) : F_minus [fr x, fr y] S = .ok (fr (x - y)) S := by
  rw [← ens_eq]
  refine ens_fn rfl ?_
  unfold b_minus
  simp [hx.num.mulOk hy.den (by omega), hy.num.mulOk hx.den (by omega), hx.den.mulOk hy.den (by omega), ratio_r _ _ (n + n) S (Int.mul_ne_zero (den_ne x) (den_ne y)) (hx.den.mul hy.den) (by omega), minus_rat']
theorem times_r {x y : Rat} {n : Nat} (hx : Fs n x) (hy : Fs n y) (hn : n ≤ 4500) (S : Store) : F_times [fr x, fr y] S = .ok (fr (x * y)) S := by
  rw [← ens_eq]
  refine ens_fn rfl ?_
  unfold b_times
  simp [hx.num.mulOk hy.num (by omega), hx.den.mulOk hy.den (by omega), ratio_r _ _ (n + n) S (Int.mul_ne_zero (den_ne x) (den_ne y)) (hx.den.mul hy.den) (by omega), times_rat']
theorem over_r {x y : Rat} {n : Nat} (hx : Fs n x) (hy : Fs n y) (h0 : y ≠ 0) (hn : n ≤ 4500) (S : Store) : F_over [fr x, fr y] S = .ok (fr (x / y)) S := by
  rw [← ens_eq]
  refine ens_fn rfl ?_
  unfold b_over
  simp [hx.num.mulOk hy.den (by omega), hx.den.mulOk hy.num (by omega), ratio_r _ _ (n + n) S (Int.mul_ne_zero (den_ne x) (num_ne h0)) (hx.den.mul hy.num) (by omega), over_rat' x y h0]
theorem below_r {x y : Rat} {n : Nat} (hx : Fs n x) (hy : Fs n y) (hn : n ≤ 4500) (S : Store) : F_below [fr x, fr y] S = .ok (.bl (decide (x < y))) S := by
  rw [← ens_eq]
  refine ens_fn rfl ?_
  unfold b_below
  simp [hx.num.mulOk hy.den (by omega), hy.num.mulOk hx.den (by omega), Rat.lt_iff]
/-! ### boxes -/
theorem lc_none {α : Type} {g : D → Dv.Env → Option Dv.Env} {c : Dv.Env → M Bool} {f : Dv.Env → M D} {e0 : Dv.Env} {S : Store} (emb : α → D) : ∀ (items : List α) (acc : List D), (∀ a ∈ items, ∃ e1, g (emb a) e0 = some e1 ∧ c e1 S = .ok false S) → lcL (fun _ => True) g c f e0 (items.map emb) acc S = .ok acc S
  | [], acc, _ => by rw [List.map_nil, lcL, if_pos trivial]
  | a :: items, acc, h => by
    obtain ⟨e1, h1, h2⟩ := h a (by simp)
    rw [List.map_cons, lcL, if_pos trivial]
    simp only [h1, h2]
    exact lc_none emb items acc fun x hx => h x (by simp [hx])
abbrev Bx := Int × Int × Int
def bxD (z : Bx) : D := .tup [.int z.1, .int z.2.1, .int z.2.2]
structure BxOk (z : Bx) : Prop where
  c1 : 1 ≤ z.1
  c2 : z.1 ≤ 60
  h1 : 1 ≤ z.2.1
  h2 : z.2.1 ≤ z.2.2
  o : z.2.2 ≤ 50
theorem is_number_ok (a : Int) (S : Store) : F_is_number [.int a] S = .ok (.bl true) S := by
  rw [← ens_eq]
  refine ens_fn rfl ?_
  unfold b_is_number
  simp
theorem are_numbers_ok (l : List Int) (n : Int) (hn : n = l.length) (S : Store) : F_are_numbers [.lst (l.map D.int), .int n] S = .ok (.bl true) S := by
  rw [← ens_eq]
  refine ens_fn rfl ?_
  unfold b_are_numbers
  subst hn
  simp only [List.map_cons, List.map_nil, List.replicate, List.cons_append, List.nil_append]
  refine ens_seq (fun e S' => S' = S ∧ e = [some (.lst (l.map D.int)), some (.int l.length), none]) ?_ ?_
  · simp
  rintro e S' ⟨rfl, rfl⟩
  have hc : lcL (fun _ => True) (eN 2) (xNot (xTru (xFn F_is_number (xCons (xVar 2) xNil)))) (xVar 2) [some (.lst (l.map D.int)), some (.int l.length), none] (l.map D.int) [] S' = .ok [] S' := lc_none (emb := D.int) l [] fun a _ => ⟨_, rfl, by simp [is_number_ok]⟩
  simp only [yRet_app, xOp_app, xFn_app, xCons_app, xNil_app, xLc_app, iSrc_app, xVar_app, List.getElem?_cons_zero, Res.bind_ok, srcL_lst, wipeE_cons, wipeE_nil, List.set_cons_succ, List.set_cons_zero, hc, mkF_app]
  simp
theorem is_box_ok {z : Bx} (h : BxOk z) (S : Store) : F_is_box [bxD z] S = .ok (.bl true) S := by
  rw [← ens_eq]
  refine ens_fn rfl ?_
  unfold b_is_box bxD
  have q := are_numbers_ok [z.1, z.2.1, z.2.2] 3 rfl S
  simp at q
  simp [bList, q, gT, gsCons, gsNil, gN, Out.seq, h.c1, h.c2, h.h1, h.h2, h.o]
theorem must_be_ok {bs : List Bx} (h : ∀ z ∈ bs, BxOk z) (h1 : 1 ≤ bs.length) (h6 : bs.length ≤ 6) (S : Store) : F_must_be_boxes [.lst (bs.map bxD)] S = .ok .non S := by
  rw [← ens_eq]
  refine ens_fn rfl ?_
  unfold b_must_be_boxes
  simp only [List.map_cons, List.map_nil, List.replicate, List.cons_append, List.nil_append]
  refine ens_seq (fun e S' => S' = S ∧ e = [some (.lst (bs.map bxD)), none]) ?_ ?_
  · simp [show ¬ ((bs.length : Int) < 1) by omega, show ¬ (6 < (bs.length : Int)) by omega]
  rintro e S' ⟨rfl, rfl⟩
  have hc : lcL (fun _ => True) (eN 1) (xNot (xTru (xFn F_is_box (xCons (xVar 1) xNil)))) (xVar 1) [some (.lst (bs.map bxD)), none] (bs.map bxD) [] S' = .ok [] S' := lc_none (emb := bxD) bs [] fun a ha => ⟨_, rfl, by simp [is_box_ok (h a ha)]⟩
  simp only [yIf_app, xIsT_app, xOp_app, xFn_app, xCons_app, xNil_app, xLc_app, iSrc_app, xVar_app, List.getElem?_cons_zero, Res.bind_ok, srcL_lst, wipeE_cons, wipeE_nil, List.set_cons_succ, List.set_cons_zero, hc, mkF_app]
  simp
theorem pow_sz {b : Int} {n : Nat} (hb : Sz n b) : ∀ m : Nat, Sz (n * m + 1) (b ^ m)
  | 0 => by show Nat.lt _ _; simp
  | m + 1 => by
    rw [Int.pow_succ]
    exact ((pow_sz hb m).mul hb).le (by rw [Nat.mul_add]; omega)

theorem BxOk.so {z : Bx} (h : BxOk z) : Sz 6 z.2.2 ∧ 0 < z.2.2 := by
  have := h.h1; have := h.h2; have := h.o
  exact ⟨sz_of (B := 51) (by omega) (by omega) (by decide), by omega⟩
theorem BxOk.sm {z : Bx} (h : BxOk z) : Sz 6 (z.2.2 - z.2.1) := by
  have := h.h1; have := h.h2; have := h.o
  exact sz_of (B := 51) (by omega) (by omega) (by decide)
theorem irange_succ {k : Int} {n : Nat} : irange k (n + 1) = .int k :: irange (k + 1) n := by
  unfold irange
  rw [List.range_succ_eq_map, List.map_cons, List.map_map]
  congr 1
  · simp
  · apply List.map_congr_left
    intro i _
    simp
    omega
theorem lc_rng {α : Type} {g : D → Dv.Env → Option Dv.Env} {f : Dv.Env → M D} {e0 : Dv.Env} {S : Store} (ψ : α → D) : ∀ (L : List α) (k : Int) (acc : List D), (∀ (i : Nat) (hi : i < L.length), ∃ e1, g (.int (k + i)) e0 = some e1 ∧ f e1 S = .ok (ψ L[i]) S) → acc.length + L.length ≤ 16000000 → lcL (fun _ => True) g cYes f e0 (irange k L.length) acc S = .ok (acc ++ L.map ψ) S
  | [], k, acc, _, _ => by
    show lcL (fun _ => True) g cYes f e0 [] acc S = _
    rw [lcL, if_pos trivial]
    simp
  | a :: L, k, acc, h, hl => by
    obtain ⟨e1, h1, h2⟩ := h 0 (by simp)
    rw [List.length_cons] at hl
    rw [List.length_cons, irange_succ, lcL, if_pos trivial]
    simp at h1 h2
    simp only [h1, cYes, h2]
    rw [if_pos (by omega), lc_rng ψ L (k + 1) _ (fun i hi => by
      obtain ⟨e2, q1, q2⟩ := h (i + 1) (by simpa using hi)
      refine ⟨e2, ?_, by simpa using q2⟩
      rw [← q1]
      congr 2
      omega) (by rw [List.length_append, List.length_singleton]; omega)]
    simp
def plD (ps : List Nat) : D := .lst (ps.map fun (m : Nat) => D.int (m : Int))
def bxsD (bs : List Bx) : D := .lst (bs.map bxD)
structure BpOk (bs : List Bx) (ps : List Nat) : Prop where
  len : ps.length = bs.length
  one : 1 ≤ bs.length
  six : bs.length ≤ 6
  bx : ∀ z ∈ bs, BxOk z
  pl : ∀ m ∈ ps, m ≤ 60
theorem bx_ix {bs : List Bx} {i : Nat} (h : i < bs.length) (S : Store) : dIx (bxsD bs) (.int (0 + i)) S = .ok (bxD bs[i]) S := by
  unfold bxsD
  rw [Int.zero_add, dIx_lst, atI_nat (by rw [List.getElem?_map, List.getElem?_eq_getElem h]; rfl)]
theorem pl_ix {ps : List Nat} {i : Nat} (h : i < ps.length) (S : Store) : dIx (plD ps) (.int (0 + i)) S = .ok (.int ps[i]) S := by
  unfold plD
  rw [Int.zero_add, dIx_lst, atI_nat (by rw [List.getElem?_map, List.getElem?_eq_getElem h]; rfl)]
/-! ### chances to miss and to find, as rational numbers -/
def mu (z : Bx) : Rat := ((z.2.2 - z.2.1 : Int) : Rat) / (z.2.2 : Rat)
def eta (z : Bx) : Rat := (z.2.1 : Rat) / (z.2.2 : Rat)
theorem intq {b : Int} (h : b ≠ 0) : (b : Rat) ≠ 0 := fun z => h (Rat.intCast_eq_zero_iff.mp z)
theorem qpow_ne {b : Rat} (hb : b ≠ 0) : ∀ m : Nat, b ^ m ≠ 0
  | 0 => by rw [Rat.pow_zero]; decide
  | m + 1 => by
    rw [Rat.pow_succ]
    intro z
    rcases Rat.mul_eq_zero.mp z with z | z
    · exact qpow_ne hb m z
    · exact hb z
theorem div_pow_r {a b : Rat} (hb : b ≠ 0) : ∀ m : Nat, a ^ m / b ^ m = (a / b) ^ m
  | 0 => by simp only [Rat.pow_zero]; grind
  | m + 1 => by
    rw [Rat.pow_succ, Rat.pow_succ, Rat.pow_succ, ← div_pow_r hb m]
    have := qpow_ne hb m
    grind
theorem missed_r {z : Bx} (h : BxOk z) (m : Nat) (hm : m ≤ 100) (S : Store) : F_missed [bxD z, .int m] S = .ok (fr (mu z ^ m)) S := by
  obtain ⟨o1, o2⟩ := h.so
  have hh1 := h.h1
  have hh2 := h.h2
  have ho := h.o
  rw [← ens_eq]
  refine ens_fn rfl ?_
  unfold b_missed
  simp only [List.map_cons, List.map_nil, List.replicate, List.cons_append, List.nil_append]
  refine ens_seq (fun e S' => S' = S ∧ e = [some (bxD z), some (.int m), none, none, none, some (.int z.1), some (.int z.2.1), some (.int z.2.2)]) ?_ ?_
  · simp [bxD, gT, gsCons, gsNil, gN, Out.seq]
  rintro e S' ⟨rfl, rfl⟩
  refine ens_seq (fun e S2 => S2 = S' ∧ e = [some (bxD z), some (.int m), some (.int 1), none, none, some (.int z.1), some (.int z.2.1), some (.int z.2.2)]) ?_ ?_
  · simp
  rintro e S2 ⟨rfl, rfl⟩
  refine ens_seq (fun e S3 => S3 = S2 ∧ e = [some (bxD z), some (.int m), some (.int 1), some (.int 1), none, some (.int z.1), some (.int z.2.1), some (.int z.2.2)]) ?_ ?_
  · simp
  rintro e S3 ⟨rfl, rfl⟩
  refine ens_sq (fun e S4 => S4 = S3 ∧ ∃ v4, e = [some (bxD z), some (.int m), some (.int ((z.2.2 - z.2.1) ^ m)), some (.int (z.2.2 ^ m)), v4, some (.int z.1), some (.int z.2.1), some (.int z.2.2)]) (fun R' hR => ?_) ?_
  · simp
    refine ⟨rng62_of (by omega) (by omega), ?_⟩
    refine ens_fr (fun i e S4 => S4 = S3 ∧ ∃ v4, e = [some (bxD z), some (.int m), some (.int ((z.2.2 - z.2.1) ^ i)), some (.int (z.2.2 ^ i)), v4, some (.int z.1), some (.int z.2.1), some (.int z.2.2)]) ⟨rfl, none, by simp⟩ ?_ ?_
    · rintro i d e S4 R2 hd ⟨rfl, v4, rfl⟩ hR2
      simp
      refine ⟨mulOkR (by omega) (by omega), mulOkR (by omega) (by omega), hR2 _ _ ⟨rfl, some d, by simp only [Int.pow_succ]⟩⟩
    · rintro e S4 ⟨rfl, v4, rfl⟩
      refine hR _ _ ⟨rfl, v4, ?_⟩
      simp
  rintro e S4 ⟨rfl, v4, rfl⟩
  have p0 : 0 < z.2.2 ^ m := Int.pow_pos o2
  simp [ratio_r _ _ 1000 _ (show z.2.2 ^ m ≠ 0 by omega) ((pow_sz o1 m).le (by omega)) (by decide)]
  unfold mu
  rw [div_pow_r (intq (by omega)), Rat.intCast_sub]
theorem mu_on {z : Bx} (h : BxOk z) (m : Nat) : On (z.2.2.toNat ^ m) 1 (mu z ^ m) := by
  obtain ⟨o1, o2⟩ := h.so
  have h1 := h.h1
  have h2 := h.h2
  have p := Nat.pow_pos (n := m) (show 0 < z.2.2.toNat by omega)
  refine ⟨p, (z.2.2 - z.2.1) ^ m, ?_, ?_⟩
  · unfold mu
    rw [← div_pow_r (intq (by omega)), ← Rat.intCast_pow, ← Rat.intCast_pow, Rat.natCast_pow]
    have e : ((z.2.2.toNat : Nat) : Rat) = ((z.2.2 : Int) : Rat) := by
      rw [← Rat.intCast_natCast]; congr 1; omega
    rw [e, ← Rat.intCast_pow, Rat.div_mul_cancel]
    exact intq (by have p : 0 < z.2.2 ^ m := Int.pow_pos o2; omega)
  · rw [Int.natAbs_pow, Nat.one_mul]
    exact Nat.pow_le_pow_left (by omega) m
theorem eta_on {z : Bx} (h : BxOk z) : On z.2.2.toNat 1 (eta z) := by
  obtain ⟨o1, o2⟩ := h.so
  have h1 := h.h1
  have h2 := h.h2
  exact On.div (by omega) (by omega) (by omega)
theorem pow50 (m : Nat) (hm : m ≤ 61) : 50 ^ m < 2 ^ 400 := Nat.lt_of_le_of_lt (Nat.pow_le_pow_right (by decide) hm) (by decide)
theorem mu_fs {z : Bx} (h : BxOk z) (m : Nat) (hm : m ≤ 61) : Fs 400 (mu z ^ m) := by
  have := h.o
  have b : z.2.2.toNat ^ m ≤ 50 ^ m := Nat.pow_le_pow_left (by omega) m
  exact (mu_on h m).fs (Nat.lt_of_le_of_lt b (pow50 m hm)) (by rw [Nat.one_mul]; exact Nat.lt_of_le_of_lt b (pow50 m hm))
theorem eta_fs {z : Bx} (h : BxOk z) : Fs 400 (eta z) := by
  have := h.o
  exact (eta_on h).fs (Nat.lt_of_le_of_lt (m := 50) (by omega) (by decide)) (Nat.lt_of_le_of_lt (m := 50) (by omega) (by decide))
theorem mark_r {z : Bx} (h : BxOk z) (m : Nat) (hm : m ≤ 60) (S : Store) : F_mark [bxD z, .int m] S = .ok (fr (eta z * mu z ^ m)) S := by
  obtain ⟨o1, o2⟩ := h.so
  have e1 : ∀ S, F_ratio [.int z.2.1, .int z.2.2] S = .ok (fr (eta z)) S := fun S => ratio_r _ _ 6 S (by omega) o1 (by decide)
  have i1 : ∀ S, dIx (bxD z) (.int 1) S = .ok (.int z.2.1) S := fun S => by unfold bxD; simp
  have i2 : ∀ S, dIx (bxD z) (.int 2) S = .ok (.int z.2.2) S := fun S => by unfold bxD; simp
  rw [← ens_eq]
  refine ens_fn rfl ?_
  unfold b_mark
  simp [e1, i1, i2, missed_r h m (by omega), times_r (eta_fs h) (mu_fs h m (by omega)) (by decide)]
/-! ### weights, plans, orders -/
def wsD (ws : List Int) : D := .lst (ws.map D.int)
structure WsOk (ws : List Int) (n : Nat) : Prop where
  len : ws.length = n
  lo : ∀ w ∈ ws, 0 ≤ w
  hi : ∀ w ∈ ws, w ≤ 1000000000000000000000000000000
  some : ∃ w ∈ ws, 0 < w
theorem plD_ints (ps : List Nat) : plD ps = .lst ((ps.map fun (m : Nat) => (m : Int)).map D.int) := by
  unfold plD
  rw [List.map_map]
  rfl
theorem bMin_ok {l : List Int} (h : l ≠ []) (S : Store) : bMin [.lst (l.map D.int)] S = .ok (.int (minL l)) S := by
  cases l with
  | nil => exact absurd rfl h
  | cons a l => 
    unfold bMin
    simp only [getQ_lst, Option.bind_some, intsOf_map]
theorem bMax_ok {l : List Int} (h : l ≠ []) (S : Store) : bMax [.lst (l.map D.int)] S = .ok (.int (maxL l)) S := by
  cases l with
  | nil => exact absurd rfl h
  | cons a l => 
    unfold bMax
    simp only [getQ_lst, Option.bind_some, intsOf_map]
theorem bSum_ok (l : List Int) (S : Store) : bSum [.lst (l.map D.int)] S = .ok (.int l.sum) S := by
  unfold bSum
  simp only [getQ_lst, Option.bind_some, intsOf_map]
/-! ### boxes by their number -/
def bxAt (bs : List Bx) (k : Nat) : Bx := bs.getD k (1, 1, 1)
theorem bxAt_get {bs : List Bx} {k : Nat} (h : k < bs.length) : bxAt bs k = bs[k] := by unfold bxAt; rw [List.getD_eq_getElem?_getD, List.getElem?_eq_getElem h]; rfl
theorem cell_nat {S : Store} {n : Nat} {dn : List Nat} (h : S[n]? = some (.lst (dn.map fun (m : Nat) => D.int (m : Int)))) {k : Nat} (hk : k < dn.length) : dIx (.cell n) (.int (k : Int)) S = .ok (.int (dn.getD k 0 : Nat)) S := by
  have e : L2.atI (dn.map fun (m : Nat) => D.int (m : Int)) (k : Int) = some (.int (dn.getD k 0 : Nat)) := by
    rw [atI_nat (by rw [List.getElem?_map, List.getElem?_eq_getElem hk]; rfl), List.getD_eq_getElem?_getD, List.getElem?_eq_getElem hk]
    rfl
  simp only [dIx, getQ, getL, h, e]
/-! ### found and paid, as rational numbers -/
theorem mu01 {z : Bx} (h : BxOk z) : 0 ≤ mu z ∧ mu z ≤ 1 ∧ 0 ≤ eta z ∧ eta z = 1 - mu z := by
  have h1 := h.h1
  have h2 := h.h2
  have p : (0 : Rat) < (z.2.2 : Rat) := Rat.intCast_pos.mpr (by omega)
  have a : (0 : Rat) ≤ (z.2.1 : Rat) := Rat.intCast_nonneg.mpr (by omega)
  have b : (z.2.1 : Rat) ≤ (z.2.2 : Rat) := Rat.intCast_le_intCast.mpr h2
  unfold mu eta
  rw [Rat.intCast_sub]
  generalize (z.2.1 : Rat) = x at *
  generalize (z.2.2 : Rat) = y at *
  have e : (y - x) / y = 1 - x / y := by grind
  have k : 0 ≤ x / y := by rw [Rat.div_def]; exact Rat.mul_nonneg a (Rat.le_of_lt (Rat.inv_pos.mpr p))
  have k2 : 0 ≤ (y - x) / y := by rw [Rat.div_def]; exact Rat.mul_nonneg (by grind) (Rat.le_of_lt (Rat.inv_pos.mpr p))
  refine ⟨k2, by grind, k, by grind⟩
theorem pow01 {x : Rat} (h0 : 0 ≤ x) (h1 : x ≤ 1) : ∀ m : Nat, 0 ≤ x ^ m ∧ x ^ m ≤ 1
  | 0 => by rw [Rat.pow_zero]; decide
  | m + 1 => by
    obtain ⟨a, b⟩ := pow01 h0 h1 m
    rw [Rat.pow_succ]
    refine ⟨Rat.mul_nonneg a h0, ?_⟩
    have := Rat.mul_le_mul_of_nonneg_right b h0
    rw [Rat.one_mul] at this
    exact Rat.le_trans this h1
theorem fnd_on {z : Bx} (h : BxOk z) (m : Nat) : On (z.2.2.toNat ^ m) 1 (1 - mu z ^ m) := by
  obtain ⟨a, b, _, _⟩ := mu01 h
  obtain ⟨c, d⟩ := pow01 a b m
  have o := mu_on h m
  exact ((On.one o.pos).sub o).bd (by grind) (by grind)
theorem fnd_fs {z : Bx} (h : BxOk z) (m : Nat) (hm : m ≤ 61) : Fs 400 (1 - mu z ^ m) := by
  have := h.o
  have b : z.2.2.toNat ^ m ≤ 50 ^ m := Nat.pow_le_pow_left (by omega) m
  exact (fnd_on h m).fs (Nat.lt_of_le_of_lt b (pow50 m hm)) (by rw [Nat.one_mul]; exact Nat.lt_of_le_of_lt b (pow50 m hm))
theorem finding_r {z : Bx} (h : BxOk z) (m : Nat) (hm : m ≤ 61) (S : Store) : F_finding [bxD z, .int m] S = .ok (fr (1 - mu z ^ m)) S := by
  have o1 : Fs 400 1 := (On.one (N := 1) (by decide)).fs (by decide) (by decide)
  rw [← ens_eq]
  refine ens_fn rfl ?_
  unfold b_finding
  simp [missed_r h m (by omega), minus_r o1 (mu_fs h m hm) (by decide)]
/-! ### sums over the boxes -/
def sumN : Nat → (Nat → Rat) → Rat
  | 0, _ => 0
  | n + 1, h => sumN n h + h n
theorem sumN_congr {g h : Nat → Rat} : ∀ n : Nat, (∀ j < n, g j = h j) → sumN n g = sumN n h
  | 0, _ => rfl
  | n + 1, e => by rw [sumN, sumN, sumN_congr n (fun j hj => e j (by omega)), e n (by omega)]
theorem sumN_upd {g h : Nat → Rat} {k : Nat} : ∀ n : Nat, (∀ j < n, j ≠ k → g j = h j) → k < n → sumN n g = sumN n h + (g k - h k)
  | 0, _, hk => by omega
  | n + 1, e, hk => by
    rw [sumN, sumN]
    by_cases q : k = n
    · subst q
      rw [sumN_congr k (fun j hj => e j (by omega) (by omega))]
      grind
    · rw [sumN_upd n (fun j hj => e j (by omega)) (by omega), e n (by omega) (fun z => q z.symm)]
      grind
theorem sumN_sub {g h : Nat → Rat} : ∀ n : Nat, sumN n (fun j => g j - h j) = sumN n g - sumN n h
  | 0 => by unfold sumN; grind
  | n + 1 => by rw [sumN, sumN, sumN, sumN_sub n]; grind
theorem sumN_mul {g : Nat → Rat} {c : Rat} : ∀ n : Nat, sumN n (fun j => g j * c) = sumN n g * c
  | 0 => by unfold sumN; grind
  | n + 1 => by rw [sumN, sumN, sumN_mul n]; grind
theorem sumN_zero : ∀ n : Nat, sumN n (fun _ => 0) = 0
  | 0 => rfl
  | n + 1 => by rw [sumN, sumN_zero n]; grind
theorem sumN_nonneg {g : Nat → Rat} : ∀ n : Nat, (∀ j < n, 0 ≤ g j) → 0 ≤ sumN n g
  | 0, _ => by unfold sumN; decide
  | n + 1, h => by
    rw [sumN]
    have := sumN_nonneg n fun j hj => h j (by omega)
    have := h n (by omega)
    grind
theorem sumN_head {g : Nat → Rat} : ∀ n : Nat, sumN (n + 1) g = g 0 + sumN n (fun j => g (j + 1))
  | 0 => by unfold sumN sumN; grind
  | n + 1 => by rw [sumN, sumN_head n, sumN]; grind
/-! ### the climb, in plain numbers -/
theorem fs_of {n N : Nat} {x : Rat} {a : Int} (h0 : 0 < N) (e : x * (N : Rat) = (a : Rat)) (ha : a.natAbs < 2 ^ n) (hN : N < 2 ^ n) : Fs n x := by
  have hd : x.den ∣ N := On.den (B := a.natAbs) ⟨h0, a, e, Nat.le_mul_of_pos_right _ h0⟩
  obtain ⟨c, rfl⟩ := hd
  have hc : 0 < c := Nat.pos_of_ne_zero fun z => by subst z; simp at h0
  refine ⟨?_, ?_⟩
  · have e2 : x.num * c = a := by
      have : ((x.num * c : Int) : Rat) = (a : Rat) := by
        rw [← e, Rat.intCast_mul, num_eq, Rat.natCast_mul, Rat.intCast_natCast]; grind
      exact Rat.intCast_inj.mp this
    have : x.num.natAbs ≤ a.natAbs := by
      rw [← e2, Int.natAbs_mul]
      exact Nat.le_mul_of_pos_right _ (by omega)
    exact Nat.lt_of_le_of_lt this ha
  · show ((x.den : Int)).natAbs < 2 ^ n
    have : x.den ≤ x.den * c := Nat.le_mul_of_pos_right _ hc
    simp
    omega
theorem fs_add {n m : Nat} {x y : Rat} (h : Fs n x) (g : Fs m y) : Fs (n + m + 1) (x + y) := by
  have hd : ((x.den * y.den : Nat) : Int) = (x.den : Int) * (y.den : Int) := by simp
  refine fs_of (N := x.den * y.den) (a := x.num * y.den + y.num * x.den) (Nat.mul_pos x.den_pos y.den_pos) ?_ ?_ ?_
  · rw [Rat.natCast_mul, Rat.intCast_add, Rat.intCast_mul, Rat.intCast_mul, num_eq, num_eq, Rat.intCast_natCast, Rat.intCast_natCast]; grind
  · exact (h.num.mul g.den).add ((g.num.mul h.den).le (by omega))
  · have := (h.den.mul g.den).le (show n + m ≤ n + m + 1 by omega)
    unfold Sz at this
    rw [← hd, Int.natAbs_natCast] at this
    exact this
theorem fs_neg {n : Nat} {x : Rat} (h : Fs n x) : Fs n (-x) := ⟨show Sz n (-x.num) from h.num.neg, h.den⟩
theorem fs_sub {n m : Nat} {x y : Rat} (h : Fs n x) (g : Fs m y) : Fs (n + m + 1) (x - y) := by
  rw [Rat.sub_eq_add_neg]; exact fs_add h (fs_neg g)
theorem fs_mul {n m : Nat} {x y : Rat} (h : Fs n x) (g : Fs m y) : Fs (n + m) (x * y) := by
  have hd : ((x.den * y.den : Nat) : Int) = (x.den : Int) * (y.den : Int) := by simp
  refine fs_of (N := x.den * y.den) (a := x.num * y.num) (Nat.mul_pos x.den_pos y.den_pos) ?_ ?_ ?_
  · rw [Rat.natCast_mul, Rat.intCast_mul, num_eq, num_eq]; grind
  · exact h.num.mul g.num
  · have := h.den.mul g.den
    unfold Sz at this
    rw [← hd, Int.natAbs_natCast] at this
    exact this
theorem fs_div {n m : Nat} {x y : Rat} (h : Fs n x) (g : Fs m y) (hy : 0 < y) : Fs (n + m) (x / y) := by
  have hp : 0 < y.num := by
    have := (Rat.lt_iff 0 y).mp hy
    simpa using this
  have e0 : ((y.num.toNat : Nat) : Int) = y.num := Int.toNat_of_nonneg (by omega)
  have hq : ((y.num.toNat : Nat) : Rat) = y * (y.den : Rat) := by rw [← num_eq, ← Rat.intCast_natCast, e0]
  refine fs_of (N := x.den * y.num.toNat) (a := x.num * y.den) (Nat.mul_pos x.den_pos (by omega)) ?_ ?_ ?_
  · rw [Rat.natCast_mul, hq, Rat.intCast_mul, num_eq, Rat.intCast_natCast]
    have : y ≠ 0 := Rat.ne_of_gt hy
    grind
  · exact h.num.mul g.den
  · have := h.den.mul g.num
    unfold Sz at this
    rw [← e0, ← Int.natCast_mul, Int.natAbs_natCast] at this
    exact this
theorem sumN_fs {k : Nat} {g : Nat → Rat} : ∀ n : Nat, (∀ j < n, Fs k (g j)) → Fs (n * (k + 1) + 1) (sumN n g)
  | 0, _ => ((On.zero (N := 1) (by decide)).fs (n := 1) (by decide) (by decide)).le (by omega)
  | n + 1, h => by
    rw [sumN]
    exact (fs_add (sumN_fs n fun j hj => h j (by omega)) (h n (by omega))).le (by rw [Nat.add_mul]; omega)
theorem sumN_add {g h : Nat → Rat} : ∀ n : Nat, sumN n (fun j => g j + h j) = sumN n g + sumN n h
  | 0 => by unfold sumN; grind
  | n + 1 => by rw [sumN, sumN, sumN, sumN_add n]; grind
theorem sumN_le {g h : Nat → Rat} : ∀ n : Nat, (∀ j < n, g j ≤ h j) → sumN n g ≤ sumN n h
  | 0, _ => by unfold sumN; decide
  | n + 1, e => by
    rw [sumN, sumN]
    have := sumN_le n fun j hj => e j (by omega)
    have := e n (by omega)
    grind
theorem sumN_pos {g : Nat → Rat} : ∀ n : Nat, 0 < n → (∀ j < n, 0 < g j) → 0 < sumN n g
  | 0, h, _ => by omega
  | n + 1, _, h => by
    rw [sumN]
    have := sumN_nonneg n fun j hj => Rat.le_of_lt (h j (by omega))
    have := h n (by omega)
    grind
theorem sumN_nats : ∀ l : List Nat, ((l.sum : Nat) : Rat) = sumN l.length fun j => ((l.getD j 0 : Nat) : Rat)
  | [] => by simp [sumN]
  | a :: l => by
    rw [List.sum_cons, List.length_cons, sumN_head, Rat.natCast_add, sumN_nats l]
    simp
/-- a box's count, cost, and the height it stands at -/
abbrev nAt (ns : List Nat) (j : Nat) : Nat := ns.getD j 0
abbrev cQ (bs : List Bx) (j : Nat) : Rat := ((bxAt bs j).1 : Rat)
abbrev hAt (bs : List Bx) (ns : List Nat) (j : Nat) : Rat := mu (bxAt bs j) ^ nAt ns j
def icR (bs : List Bx) (ns : List Nat) (j : Nat) : Rat := cQ bs j / (eta (bxAt bs j) * hAt bs ns j)
def prR (bs : List Bx) (ns : List Nat) : Rat := sumN bs.length (icR bs ns)
def kaR (bs : List Bx) (ns : List Nat) : Rat := sumN bs.length fun j => cQ bs j * (nAt ns j : Rat) + cQ bs j / eta (bxAt bs j)
def usR (bs : List Bx) (ns : List Nat) (l : Rat) : Rat := sumN bs.length fun j => cQ bs j * (nAt ns j : Rat) + cQ bs j / eta (bxAt bs j) - l * icR bs ns j
theorem usR_eq (bs : List Bx) (ns : List Nat) (l : Rat) : usR bs ns l = kaR bs ns - l * prR bs ns := by
  unfold usR kaR prR
  rw [sumN_sub]
  congr 1
  rw [Rat.mul_comm, ← sumN_mul]
  exact sumN_congr _ fun j _ => Rat.mul_comm _ _
theorem bxAt_mem {bs : List Bx} {j : Nat} (h : j < bs.length) : bxAt bs j ∈ bs := by
  unfold bxAt
  rw [List.getD_eq_getElem?_getD, List.getElem?_eq_getElem h]
  exact List.getElem_mem _
theorem BxOk.q {z : Bx} (h : BxOk z) : (1 : Rat) ≤ (z.1 : Rat) ∧ (z.1 : Rat) ≤ 60 ∧ 0 < eta z ∧ eta z ≤ 1 ∧ mu z < 1 := by
  obtain ⟨a, b, c, d⟩ := mu01 h
  have h1 := h.h1
  have h2 := h.h2
  have p : 0 < eta z := by
    unfold eta
    rw [Rat.div_def]
    exact Rat.mul_pos (Rat.intCast_pos.mpr (by omega)) (Rat.inv_pos.mpr (Rat.intCast_pos.mpr (by omega)))
  refine ⟨?_, ?_, p, by grind, by grind⟩
  · exact_mod_cast (Rat.intCast_le_intCast.mpr h.c1 : ((1 : Int) : Rat) ≤ (z.1 : Rat))
  · exact_mod_cast (Rat.intCast_le_intCast.mpr h.c2 : (z.1 : Rat) ≤ ((60 : Int) : Rat))
theorem us_term {c e m l n : Rat} (hc : 0 < c) (he : 0 < e) (hm : 0 < m) (hl : l ≤ m) : c * n ≤ c * n + c / e - l * (c / (e * m)) := by
  have hem : 0 < e * m := Rat.mul_pos he hm
  have q : 0 ≤ (m - l) * (c / (e * m)) := Rat.mul_nonneg (by grind) (by rw [Rat.div_def]; exact Rat.mul_nonneg (by grind) (Rat.le_of_lt (Rat.inv_pos.mpr hem)))
  have e2 : m * (c / (e * m)) = c / e := by
    have : e ≠ 0 := by grind
    have : m ≠ 0 := by grind
    grind
  grind
/-- while it climbs -/
structure CI (bs : List Bx) (b : Nat) (ns : List Nat) (l lam : Rat) : Prop where
  len : ns.length = bs.length
  lv : ∃ z ∈ bs, ∃ m ≤ 60, l = mu z ^ m
  pos : 0 < l
  lo : ∀ j < bs.length, mu (bxAt bs j) ^ (nAt ns j + 1) < l
  hi : ∀ j < bs.length, l ≤ hAt bs ns j
  bud : lam = (b : Rat) - usR bs ns l
  nn : 0 ≤ lam
structure BsOk (bs : List Bx) : Prop where
  ok : ∀ z ∈ bs, BxOk z
  b1 : 1 ≤ bs.length
  b6 : bs.length ≤ 6
theorem BsOk.at {bs : List Bx} (h : BsOk bs) {j : Nat} (hj : j < bs.length) : BxOk (bxAt bs j) := h.ok _ (bxAt_mem hj)
theorem cn_le {bs : List Bx} (hb : BsOk bs) {ns : List Nat} {l : Rat} (hp : 0 < l) (hi : ∀ j < bs.length, l ≤ hAt bs ns j) : sumN bs.length (fun j => cQ bs j * (nAt ns j : Rat)) ≤ usR bs ns l := by
  unfold usR
  refine sumN_le _ fun j hj => ?_
  obtain ⟨c1, c2, e0, _, _⟩ := (hb.at hj).q
  have := hi j hj
  exact us_term (by grind) e0 (by grind) this
theorem CI.sum {bs : List Bx} (hb : BsOk bs) {b : Nat} (h60 : b ≤ 60) {ns : List Nat} {l lam : Rat} (h : CI bs b ns l lam) : ns.sum ≤ 60 := by
  have h1 := cn_le hb h.pos h.hi
  have h2 := h.bud
  have h3 := h.nn
  have h4 : ((ns.sum : Nat) : Rat) ≤ sumN bs.length (fun j => cQ bs j * (nAt ns j : Rat)) := by
    rw [sumN_nats, h.len]
    refine sumN_le _ fun j hj => ?_
    obtain ⟨c1, _⟩ := (hb.at hj).q
    have : (0 : Rat) ≤ (nAt ns j : Rat) := Rat.natCast_nonneg
    have := Rat.mul_le_mul_of_nonneg_right c1 this
    rwa [Rat.one_mul] at this
  have h5 : ((ns.sum : Nat) : Rat) ≤ ((b : Nat) : Rat) := by grind
  have := Rat.natCast_le_natCast.mp h5
  omega
theorem nAt_le {ns : List Nat} : ∀ (j : Nat), nAt ns j ≤ ns.sum := by
  induction ns with
  | nil => intro j; simp [nAt]
  | cons a l ih =>
    intro j
    cases j with
    | zero => simp [nAt]
    | succ j => have := ih j; simp [nAt] at this ⊢; omega
structure Gl (bs : List Bx) (ns : List Nat) (g : Rat) : Prop where
  up : ∀ j < bs.length, mu (bxAt bs j) ^ (nAt ns j + 1) ≤ g
  at_ : ∃ j < bs.length, mu (bxAt bs j) ^ (nAt ns j + 1) = g
structure Nx (bs : List Bx) (ns cs : List Nat) (g : Rat) : Prop where
  len : cs.length = bs.length
  at_ : ∀ j < bs.length, nAt cs j = if mu (bxAt bs j) ^ (nAt ns j + 1) = g then nAt ns j + 1 else nAt ns j
theorem Gl.nn {bs : List Bx} (hb : BsOk bs) {ns : List Nat} {g : Rat} (h : Gl bs ns g) : 0 ≤ g := by
  obtain ⟨j, hj, e⟩ := h.at_
  obtain ⟨a, b, _, _⟩ := mu01 (hb.at hj)
  rw [← e]
  exact (pow01 a b _).1
theorem sum_lt : ∀ {a b : List Nat}, a.length = b.length → (∀ j, nAt a j ≤ nAt b j) → (∃ j < a.length, nAt a j < nAt b j) → a.sum < b.sum
  | [], _, _, _, ⟨j, hj, _⟩ => by simp at hj
  | _ :: _, [], hl, _, _ => by simp at hl
  | x :: a, y :: b, hl, h, ⟨j, hj, e⟩ => by
    have h0 : x ≤ y := by have := h 0; simpa [nAt] using this
    have ht : ∀ j, nAt a j ≤ nAt b j := fun j => by have := h (j + 1); simpa [nAt] using this
    rw [List.sum_cons, List.sum_cons]
    cases j with
    | zero =>
      have e0 : x < y := by simpa [nAt] using e
      have : a.sum ≤ b.sum := by
        clear e h hj
        induction a generalizing b with
        | nil => simp
        | cons u a ih =>
          cases b with
          | nil => simp at hl
          | cons v b =>
            rw [List.sum_cons, List.sum_cons]
            have u0 : u ≤ v := by have := ht 0; simpa [nAt] using this
            have := ih (b := b) (by simpa using hl) (fun j => by have := ht (j + 1); simpa [nAt] using this)
            omega
      omega
    | succ j =>
      have := sum_lt (a := a) (b := b) (by simpa using hl) ht ⟨j, by simpa using hj, by simpa [nAt] using e⟩
      omega
theorem nAt_none {ns : List Nat} {j : Nat} (h : ns.length ≤ j) : nAt ns j = 0 := by
  unfold nAt
  rw [List.getD_eq_getElem?_getD, List.getElem?_eq_none h]; rfl
theorem Nx.sum {bs : List Bx} {ns cs : List Nat} {g : Rat} (hl : ns.length = bs.length) (h : Nx bs ns cs g) (hg : Gl bs ns g) : ns.sum < cs.sum := by
  refine sum_lt (by rw [hl, h.len]) (fun j => ?_) ?_
  · by_cases hj : j < bs.length
    · rw [h.at_ j hj]; split <;> omega
    · rw [nAt_none (by omega), nAt_none (by rw [h.len]; omega)]; exact Nat.le_refl _
  · obtain ⟨j, hj, e⟩ := hg.at_
    exact ⟨j, by omega, by rw [h.at_ j hj, if_pos e]; omega⟩
theorem us_same {bs : List Bx} (hb : BsOk bs) {ns cs : List Nat} {g : Rat} (g0 : 0 < g) (h : Nx bs ns cs g) : usR bs cs g = usR bs ns g := by
  unfold usR
  refine sumN_congr _ fun j hj => ?_
  unfold icR hAt
  rw [h.at_ j hj]
  by_cases e : mu (bxAt bs j) ^ (nAt ns j + 1) = g
  · rw [if_pos e, e]
    obtain ⟨c1, c2, e0, _, _⟩ := (hb.at hj).q
    obtain ⟨_, _, _, e3⟩ := mu01 (hb.at hj)
    rw [Rat.pow_succ] at e
    rw [Rat.natCast_add]
    generalize mu (bxAt bs j) ^ nAt ns j = m at *
    generalize (nAt ns j : Rat) = n at *
    generalize cQ bs j = c at *
    generalize eta (bxAt bs j) = t at *
    generalize mu (bxAt bs j) = u at *
    have t0 : t ≠ 0 := by grind
    have m0 : m ≠ 0 := by intro z; subst z; grind
    have g1 : g ≠ 0 := by grind
    have a1 : g * (c / (t * g)) = c / t := by grind
    have a2 : g * (c / (t * m)) = u * (c / t) := by grind
    have a3 : t * (c / t) = c := by grind
    grind
  · rw [if_neg e]
theorem CI.step {bs : List Bx} (hb : BsOk bs) {b : Nat} {ns cs : List Nat} {l lam g : Rat} (h60 : b ≤ 60) (h : CI bs b ns l lam) (hg : Gl bs ns g) (g0 : 0 < g) (hn : Nx bs ns cs g) (hl : ¬ lam < (l - g) * prR bs ns) : CI bs b cs g (lam - (l - g) * prR bs ns) := by
  have hbud := h.bud
  refine ⟨hn.len, ?_, g0, fun j hj => ?_, fun j hj => ?_, ?_, ?_⟩
  · obtain ⟨j, hj, e⟩ := hg.at_
    refine ⟨_, bxAt_mem hj, nAt ns j + 1, ?_, e.symm⟩
    have e2 : nAt cs j = nAt ns j + 1 := by rw [hn.at_ j hj, if_pos e]
    have hs : ∀ j < bs.length, g ≤ hAt bs cs j := fun i hi => by
      unfold hAt
      rw [hn.at_ i hi]
      split
      · rename_i q; rw [q]; exact Rat.le_refl
      · have a := h.hi i hi
        obtain ⟨k, hk, ek⟩ := hg.at_
        have b := h.lo k hk
        unfold hAt at a
        grind
    have h1 := cn_le hb g0 hs
    have h4 : ((cs.sum : Nat) : Rat) ≤ sumN bs.length (fun j => cQ bs j * (nAt cs j : Rat)) := by
      rw [sumN_nats, hn.len]
      refine sumN_le _ fun j hj => ?_
      obtain ⟨c1, _⟩ := (hb.at hj).q
      have : (0 : Rat) ≤ (nAt cs j : Rat) := Rat.natCast_nonneg
      have := Rat.mul_le_mul_of_nonneg_right c1 this
      rwa [Rat.one_mul] at this
    rw [us_same hb g0 hn, usR_eq] at h1
    rw [usR_eq] at hbud
    have h5 : ((cs.sum : Nat) : Rat) ≤ ((b : Nat) : Rat) := by grind
    have h6 := Rat.natCast_le_natCast.mp h5
    have h7 := nAt_le (ns := cs) j
    omega
  · rw [hn.at_ j hj]
    obtain ⟨c1, c2, e0, e1, e2⟩ := (hb.at hj).q
    split
    · rename_i q
      rw [Rat.pow_succ, q]
      have := Rat.mul_lt_mul_of_pos_left e2 g0
      grind
    · rename_i q
      have := hg.up j hj
      grind
  · unfold hAt
    rw [hn.at_ j hj]
    split
    · rename_i q; rw [q]; exact Rat.le_refl
    · have a := h.hi j hj
      obtain ⟨k, hk, ek⟩ := hg.at_
      have b := h.lo k hk
      unfold hAt at a
      grind
  · rw [us_same hb g0 hn, usR_eq]
    rw [usR_eq] at hbud
    grind
  · grind
theorem qpow_zero {x : Rat} : ∀ n : Nat, x ^ (n + 1) = 0 → x = 0
  | 0, h => by rw [Rat.pow_succ, Rat.pow_zero, Rat.one_mul] at h; exact h
  | n + 1, h => by
    rw [Rat.pow_succ] at h
    rcases Rat.mul_eq_zero.mp h with z | z
    · exact qpow_zero n z
    · exact z
/-- at the top: all are found at once -/
structure CT (bs : List Bx) (b : Nat) (ns : List Nat) : Prop where
  len : ns.length = bs.length
  mu0 : ∀ j < bs.length, mu (bxAt bs j) = 0
  one : ∀ j < bs.length, nAt ns j = 1
  cost : sumN bs.length (cQ bs) ≤ (b : Rat)
theorem CI.flat {bs : List Bx} (hb : BsOk bs) {b : Nat} {ns cs : List Nat} {l lam g : Rat} (h : CI bs b ns l lam) (hg : Gl bs ns g) (g0 : g = 0) (hn : Nx bs ns cs g) (hl : ¬ lam < (l - g) * prR bs ns) : CT bs b cs := by
  have m0 : ∀ j < bs.length, mu (bxAt bs j) ^ (nAt ns j + 1) = 0 := fun j hj => by
    have := hg.up j hj
    obtain ⟨a, c, _, _⟩ := mu01 (hb.at hj)
    have := (pow01 a c (nAt ns j + 1)).1
    grind
  have mz : ∀ j < bs.length, mu (bxAt bs j) = 0 := fun j hj => qpow_zero _ (m0 j hj)
  have n0 : ∀ j < bs.length, nAt ns j = 0 := fun j hj => by
    have a := h.hi j hj
    have p := h.pos
    unfold hAt at a
    cases q : nAt ns j with
    | zero => rfl
    | succ k =>
      rw [q, Rat.pow_succ, mz j hj] at a
      grind
  refine ⟨hn.len, mz, fun j hj => by rw [hn.at_ j hj, if_pos (by rw [m0 j hj, g0]), n0 j hj], ?_⟩
  have hbud := h.bud
  have e : usR bs ns 0 = sumN bs.length (cQ bs) := by
    unfold usR
    refine sumN_congr _ fun j hj => ?_
    obtain ⟨_, _, _, e3⟩ := mu01 (hb.at hj)
    rw [n0 j hj, e3, mz j hj]
    have : ((0 : Nat) : Rat) = 0 := rfl
    rw [this]
    grind
  rw [usR_eq] at e hbud
  subst g0
  grind
/-- on the way: the height where the budget is spent -/
structure CA (bs : List Bx) (b : Nat) (ns : List Nat) (s : Rat) : Prop where
  len : ns.length = bs.length
  pos : 0 < s
  lo : ∀ j < bs.length, mu (bxAt bs j) ^ (nAt ns j + 1) < s
  hi : ∀ j < bs.length, s ≤ hAt bs ns j
  bud : usR bs ns s = (b : Rat)
  sum : ns.sum ≤ 60
theorem ic_pos {bs : List Bx} (hb : BsOk bs) {ns : List Nat} {j : Nat} (hj : j < bs.length) (h : 0 < hAt bs ns j) : 0 < icR bs ns j := by
  obtain ⟨c1, c2, e0, e1, e2⟩ := (hb.at hj).q
  unfold icR
  rw [Rat.div_def]
  exact Rat.mul_pos (by grind) (Rat.inv_pos.mpr (Rat.mul_pos e0 h))
theorem CI.hpos {bs : List Bx} {b : Nat} {ns : List Nat} {l lam : Rat} (h : CI bs b ns l lam) : ∀ j < bs.length, 0 < hAt bs ns j := fun j hj => by
  have := h.hi j hj
  have := h.pos
  grind
theorem CI.pr {bs : List Bx} (hb : BsOk bs) {b : Nat} {ns : List Nat} {l lam : Rat} (h : CI bs b ns l lam) : 0 < prR bs ns := sumN_pos _ hb.b1 fun j hj => ic_pos hb hj (h.hpos j hj)
theorem CI.stop {bs : List Bx} (hb : BsOk bs) {b : Nat} {ns : List Nat} {l lam g : Rat} (h60 : b ≤ 60) (h : CI bs b ns l lam) (hg : Gl bs ns g) (hl : lam < (l - g) * prR bs ns) : CA bs b ns (l - lam / prR bs ns) := by
  have p := h.pr hb
  have hbud := h.bud
  have nn := h.nn
  have g0 := hg.nn hb
  have e : lam = (lam / prR bs ns) * prR bs ns := by
    have : prR bs ns ≠ 0 := by grind
    grind
  have q0 : 0 ≤ lam / prR bs ns := by rw [Rat.div_def]; exact Rat.mul_nonneg nn (Rat.le_of_lt (Rat.inv_pos.mpr p))
  have q1 : lam / prR bs ns < l - g := by
    refine Rat.not_le.mp fun z => ?_
    have := Rat.mul_le_mul_of_nonneg_right z (Rat.le_of_lt p)
    grind
  refine ⟨h.len, by grind, fun j hj => ?_, fun j hj => ?_, ?_, h.sum hb h60⟩
  · have := hg.up j hj
    grind
  · have := h.hi j hj
    grind
  · rw [usR_eq] at hbud ⊢
    grind
/-! ### the climb, as the program does it -/
theorem eta6 {z : Bx} (h : BxOk z) : Fs 6 (eta z) := by
  have := h.o
  exact (eta_on h).fs (Nat.lt_of_le_of_lt (m := 50) (by omega) (by decide)) (Nat.lt_of_le_of_lt (m := 50) (by omega) (by decide))
theorem c6 {z : Bx} (h : BxOk z) : Fs 6 ((z.1 : Int) : Rat) := int_fs (by have := h.c1; have := h.c2; exact Nat.lt_of_le_of_lt (m := 60) (by omega) (by decide)) (by decide)
theorem n6 {n : Nat} (h : n ≤ 61) : Fs 6 ((n : Nat) : Rat) := by
  have := int_fs (k := (n : Int)) (n := 6) (Nat.lt_of_le_of_lt (m := 61) (by omega) (by decide)) (by decide)
  rwa [Rat.intCast_natCast] at this
theorem behind_r {z : Bx} (h : BxOk z) (m : Nat) (hm : m ≤ 60) (S : Store) : F_behind [bxD z, fr (mu z ^ m)] S = .ok (fr (mu z ^ (m + 1))) S := by
  obtain ⟨o1, o2⟩ := h.so
  have e1 : ∀ S, F_ratio [.int (z.2.2 - z.2.1), .int z.2.2] S = .ok (fr (mu z)) S := fun S => ratio_r _ _ 6 S (by omega) o1 (by decide)
  have i1 : ∀ S, dIx (bxD z) (.int 1) S = .ok (.int z.2.1) S := fun S => by unfold bxD; simp
  have i2 : ∀ S, dIx (bxD z) (.int 2) S = .ok (.int z.2.2) S := fun S => by unfold bxD; simp
  have m1 : Fs 400 (mu z) := by
    have := mu_fs h 1 (by decide)
    rwa [Rat.pow_succ, Rat.pow_zero, Rat.one_mul] at this
  rw [← ens_eq]
  refine ens_fn rfl ?_
  unfold b_behind
  simp [e1, i1, i2, times_r (mu_fs h m (by omega)) m1 (by decide), Rat.pow_succ]
theorem greatest_r {xs : List Rat} (h0 : xs ≠ []) (hf : ∀ x ∈ xs, Fs 400 x) (S : Store) : ∃ g ∈ xs, (∀ x ∈ xs, x ≤ g) ∧ F_greatest [.lst (xs.map fr)] S = .ok (fr g) S := by
  have h : Ens (F_greatest [.lst (xs.map fr)] S) fun d S' => ∃ g ∈ xs, (∀ x ∈ xs, x ≤ g) ∧ d = fr g ∧ S' = S := by
    obtain ⟨x0, l, rfl⟩ := List.exists_cons_of_ne_nil h0
    refine ens_fn rfl ?_
    unfold b_greatest
    simp only [List.map_cons, List.map_nil, List.replicate, List.cons_append, List.nil_append]
    rw [← List.map_cons]
    generalize hx : x0 :: l = xs at *
    refine ens_sq (fun e S' => S' = S ∧ ∃ g ∈ xs, e = [some (.lst (xs.map fr)), some (fr g), none]) (fun R' hR => ?_) ?_
    · have : dIx (.lst (xs.map fr)) (.int 0) S = .ok (fr x0) S := by rw [← hx]; simp
      simp [this]
      exact hR _ _ ⟨rfl, x0, by rw [← hx]; simp, rfl⟩
    rintro e S' ⟨rfl, g0, hg0, rfl⟩
    refine ens_sq (fun e S2 => S2 = S' ∧ ∃ g v, g ∈ xs ∧ (∀ x ∈ xs, x ≤ g) ∧ e = [some (.lst (xs.map fr)), some (fr g), v]) (fun R' hR => ?_) ?_
    · simp only [yFor_app, iSrc_app, xVar_app, List.getElem?_cons_zero, List.getElem?_cons_succ, Res.bind_ok, srcL_lst, enso_out, ens_ok]
      refine ens_fr (fun i e S2 => S2 = S' ∧ ∃ g v, g ∈ xs ∧ (∀ x ∈ xs.take i, x ≤ g) ∧ e = [some (.lst (xs.map fr)), some (fr g), v]) ⟨rfl, g0, none, hg0, by simp, rfl⟩ ?_ ?_
      · rintro i d e S2 R2 hd ⟨rfl, g, v, hg, hle, rfl⟩ hR2
        rw [List.getElem?_map] at hd
        have hi : i < xs.length := by
          refine Nat.lt_of_not_le fun z => ?_
          rw [List.getElem?_eq_none z] at hd
          cases hd
        rw [List.getElem?_eq_getElem hi] at hd
        cases hd
        have hm : xs[i] ∈ xs := List.getElem_mem _
        have tk : xs.take (i + 1) = xs.take i ++ [xs[i]] := by rw [List.take_add_one, List.getElem?_eq_getElem hi]; rfl
        simp only [gN_app, enso_nx, List.set_cons_succ, List.set_cons_zero, yIf_app, xTru_app, xFn_app, xCons_app, xNil_app, xVar_app, List.getElem?_cons_zero, List.getElem?_cons_succ, Res.bind_ok, below_r (hf g hg) (hf _ hm) (show 400 ≤ 4500 by decide), isT, enso_out, ens_ok]
        by_cases q : g < xs[i]
        · simp [q]
          refine hR2 _ _ ⟨rfl, xs[i], _, hm, fun x hx => ?_, rfl⟩
          rw [tk] at hx
          rcases List.mem_append.mp hx with y | y
          · have := hle x y; grind
          · rw [List.mem_singleton.mp y]; exact Rat.le_refl
        · simp [q]
          refine hR2 _ _ ⟨rfl, g, _, hg, fun x hx => ?_, rfl⟩
          rw [tk] at hx
          rcases List.mem_append.mp hx with y | y
          · exact hle x y
          · rw [List.mem_singleton.mp y]; exact Rat.not_lt.mp q
      · rintro e S2 ⟨rfl, g, v, hg, hle, rfl⟩
        rw [List.length_map, List.take_length] at hle
        exact hR _ _ ⟨rfl, g, v, hg, hle, rfl⟩
    rintro e S2 ⟨rfl, g, v, hg, hle, rfl⟩
    simp only [yRet_app, xVar_app, List.getElem?_cons_zero, List.getElem?_cons_succ, enso_out, ens_ok, enso_rt]
    rw [fin_len rfl, ens_ok]
    exact ⟨g, hg, hle, rfl, rfl⟩
  obtain ⟨d, S', e, g, hg, hle, rfl, rfl⟩ := h.get
  exact ⟨g, hg, hle, e⟩
theorem cell_fr {S : Store} {n : Nat} {xs : List Rat} (h : S[n]? = some (.lst (xs.map fr))) {k : Nat} (hk : k < xs.length) : dIx (.cell n) (.int (k : Int)) S = .ok (fr (xs.getD k 0)) S := by
  have e : L2.atI (xs.map fr) (k : Int) = some (fr (xs.getD k 0)) := by
    rw [atI_nat (by rw [List.getElem?_map, List.getElem?_eq_getElem hk]; rfl), List.getD_eq_getElem?_getD, List.getElem?_eq_getElem hk]
    rfl
  simp only [dIx, getQ, getL, h, e]
/-- the misses that stand beside the counts -/
structure Ms (bs : List Bx) (ns : List Nat) (xs : List Rat) : Prop where
  len : xs.length = bs.length
  at_ : ∀ j < bs.length, xs.getD j 0 = hAt bs ns j
theorem ic_fs {bs : List Bx} (hb : BsOk bs) {ns : List Nat} {j : Nat} (hj : j < bs.length) (hn : nAt ns j ≤ 61) (hp : 0 < hAt bs ns j) : Fs 412 (icR bs ns j) := by
  have e0 := (hb.at hj).q.2.2.1
  exact (fs_div (c6 (hb.at hj)) (fs_mul (eta6 (hb.at hj)) (mu_fs (hb.at hj) (nAt ns j) hn)) (Rat.mul_pos e0 hp)).le (by decide)
theorem bx_at {bs : List Bx} {j : Nat} (h : j < bs.length) (S : Store) : dIx (bxsD bs) (.int (j : Int)) S = .ok (bxD (bxAt bs j)) S := by
  have := bx_ix h S
  rw [Int.zero_add] at this
  rw [this, bxAt_get h]
theorem bx_len (bs : List Bx) (S : Store) : bLen [bxsD bs] S = .ok (.int bs.length) S := by unfold bxsD; simp
theorem rng_src {n : Nat} (h : n ≤ 1000000) (S : Store) : srcR1 [.int (n : Int)] S = .ok ⟨irange 0 n, fun _ => True⟩ S := by
  rw [srcR1_app, if_pos (rng62_of (by omega) (by omega)), Int.toNat_natCast]
theorem rate_r {bs : List Bx} (hb : BsOk bs) {ns : List Nat} {xs : List Rat} (hm : Ms bs ns xs) (hn : ∀ j < bs.length, nAt ns j ≤ 60) (hp : ∀ j < bs.length, 0 < hAt bs ns j) {S : Store} {n : Nat} (hc : S[n]? = some (.lst (xs.map fr))) : F_rate [bxsD bs, .cell n] S = .ok (fr (prR bs ns)) S := by
  have b6 := hb.b6
  rw [← ens_eq]
  refine ens_fn rfl ?_
  unfold b_rate
  simp only [List.map_cons, List.map_nil, List.replicate, List.cons_append, List.nil_append]
  refine ens_sq (fun e S' => S' = S ∧ e = [some (bxsD bs), some (.cell n), some (fr 0), none, none]) (fun R' hR => ?_) ?_
  · simp
    exact hR _ _ ⟨rfl, rfl⟩
  rintro e S' ⟨rfl, rfl⟩
  refine ens_sq (fun e S2 => S2 = S' ∧ ∃ v3 v4, e = [some (bxsD bs), some (.cell n), some (fr (prR bs ns)), v3, v4]) (fun R' hR => ?_) ?_
  · simp only [yFor_app, iSrcA_app, xFn_app, xCons_app, xNil_app, xVar_app, List.getElem?_cons_zero, List.getElem?_cons_succ, Res.bind_ok, bx_len, rng_src (show bs.length ≤ 1000000 by omega), enso_out, ens_ok]
    refine ens_fr (fun i e S2 => S2 = S' ∧ ∃ v3 v4, e = [some (bxsD bs), some (.cell n), some (fr (sumN i (icR bs ns))), v3, v4]) ⟨rfl, none, none, rfl⟩ ?_ ?_
    · rintro i d e S2 R2 hd ⟨rfl, v3, v4, rfl⟩ hR2
      obtain ⟨rfl, hi⟩ := irange_get hd
      have hz := hb.at hi
      obtain ⟨o1, o2⟩ := hz.so
      have e1 : ∀ S, F_ratio [.int (bxAt bs i).2.1, .int (bxAt bs i).2.2] S = .ok (fr (eta (bxAt bs i))) S := fun S => ratio_r _ _ 6 S (by omega) o1 (by decide)
      have i0 : ∀ S, dIx (bxD (bxAt bs i)) (.int 0) S = .ok (.int (bxAt bs i).1) S := fun S => by unfold bxD; simp
      have i1 : ∀ S, dIx (bxD (bxAt bs i)) (.int 1) S = .ok (.int (bxAt bs i).2.1) S := fun S => by unfold bxD; simp
      have i2 : ∀ S, dIx (bxD (bxAt bs i)) (.int 2) S = .ok (.int (bxAt bs i).2.2) S := fun S => by unfold bxD; simp
      have cx := cell_fr hc (k := i) (by rw [hm.len]; exact hi)
      rw [hm.at_ i hi] at cx
      have p0 := hp i hi
      have e0 := hz.q.2.2.1
      have gp : 0 < eta (bxAt bs i) * hAt bs ns i := Rat.mul_pos e0 p0
      have gf : Fs 800 (eta (bxAt bs i) * hAt bs ns i) := fs_mul (eta_fs hz) (mu_fs hz _ (by have := hn i hi; omega))
      have ov : ∀ S, F_over [fr ((bxAt bs i).1 : Rat), fr (eta (bxAt bs i) * hAt bs ns i)] S = .ok (fr (icR bs ns i)) S := fun S => over_r ((c6 hz).le (by decide)) gf (Rat.ne_of_gt gp) (by decide) S
      have sf : Fs 4000 (sumN i (icR bs ns)) := (sumN_fs (k := 412) i fun j hj => ic_fs hb (by omega) (by have := hn j (by omega); omega) (hp j (by omega))).le (by omega)
      have pl := plus_r sf ((ic_fs hb hi (by have := hn i hi; omega) p0).le (show 412 ≤ 4000 by decide)) (by decide)
      have tm := times_r (eta_fs hz) (mu_fs hz (nAt ns i) (by have := hn i hi; omega)) (by decide)
      rw [Int.zero_add]
      simp only [gN_app, enso_nx, List.set_cons_succ, List.set_cons_zero]
      refine ens_sq (fun e S3 => S3 = S2 ∧ e = [some (bxsD bs), some (.cell n), some (fr (sumN i (icR bs ns))), some (.int (i : Int)), some (fr (eta (bxAt bs i) * hAt bs ns i))]) (fun R3 hR3 => ?_) ?_
      · simp only [List.set_cons_succ, List.set_cons_zero, enso_nx, ySet_app, xFn_app, xOp_app, xC_app, xCons_app, xNil_app, xVar_app, List.getElem?_cons_zero, List.getElem?_cons_succ, Res.bind_ok, bx_at hi, i1, i2, e1, cx, tm, enso_out, ens_ok]
        exact hR3 _ _ ⟨rfl, rfl⟩
      rintro e S3 ⟨rfl, rfl⟩
      simp only [ySet_app, xFn_app, xOp_app, xTup_app, xC_app, xCons_app, xNil_app, xVar_app, List.getElem?_cons_zero, List.getElem?_cons_succ, Res.bind_ok, bx_at hi, i0, List.length_cons, List.length_nil, if_pos (show 0 + 1 + 1 ≤ 1000 by decide), fr_int, ov, pl, enso_out, ens_ok, enso_nx, List.set_cons_succ, List.set_cons_zero]
      exact hR2 _ _ ⟨rfl, _, _, rfl⟩
    · rintro e S2 ⟨rfl, v3, v4, rfl⟩
      rw [irange_length]
      exact hR _ _ ⟨rfl, _, _, rfl⟩
  rintro e S2 ⟨rfl, v3, v4, rfl⟩
  simp
def Clm (bs : List Bx) (b : Nat) (ns : List Nat) (w : Rat) : Prop := (∃ s, w = 1 - s ∧ CA bs b ns s) ∨ (w = 1 ∧ CT bs b ns)
def nsD (ns : List Nat) : List D := ns.map fun (m : Nat) => D.int (m : Int)
def toN : D → Nat
  | .int k => k.toNat
  | _ => 0
def csum : List D → Nat
  | [] => 0
  | d :: l => toN d + csum l
theorem csum_ns : ∀ ns : List Nat, csum (nsD ns) = ns.sum
  | [] => rfl
  | a :: l => by
    have := csum_ns l
    unfold nsD at *
    rw [List.map_cons, csum, this, List.sum_cons]
    rfl
def cmeas (L : Nat) (S : Store) : Nat := match S[L]? with
  | some (.lst l) => 61 - csum l
  | _ => 0
theorem ns_clr (ns : List Nat) : D.clr 59 (.lst (nsD ns)) = true := by
  have e : nsD ns = (ns.map fun (m : Nat) => (m : Int)).map D.int := by unfold nsD; rw [List.map_map]; rfl
  rw [e]
  exact clr_ints 57 _
theorem dz_pair {P : Store} {ns : List Nat} {M : Cn} (w : Rat) : dfz 60 (.tup [fr w, .cell P.length]) (P ++ ([.lst (nsD ns), M] : Store)) = .ok (.tup [fr w, plD ns]) (P ++ ([.dead, M] : Store)) := by
  have e1 : dfz 59 (fr w) (P ++ ([.lst (nsD ns), M] : Store)) = .ok (fr w) (P ++ ([.lst (nsD ns), M] : Store)) := dfz_clr 59 _ _ rfl
  have e2 : dfz 59 (.cell P.length) (P ++ ([.lst (nsD ns), M] : Store)) = .ok (plD ns) (P ++ ([.dead, M] : Store)) := by
    have id : mapS (dfz 58) (nsD ns) (P ++ ([.dead, M] : Store)) = .ok (nsD ns) (P ++ ([.dead, M] : Store)) := mapS_id fun d hd => by
      obtain ⟨m, _, rfl⟩ := List.mem_map.mp hd
      rfl
    show (match (P ++ ([.lst (nsD ns), M] : Store))[P.length]? with
      | some (.lst l) => (mapS (dfz 58) l ((P ++ ([.lst (nsD ns), M] : Store)).set P.length .dead)).bind fun l' S' => .ok (D.lst l') S'
      | some (.dct _) => .ok (.cell P.length) (P ++ ([.lst (nsD ns), M] : Store))
      | _ => .bad) = _
    rw [app_at0 rfl]
    simp only [app_set0, id, Res.bind_ok]
    rfl
  show (mapS (dfz 59) [fr w, D.cell P.length] (P ++ ([.lst (nsD ns), M] : Store))).bind _ = _
  rw [mapS_cons, e1, Res.bind_ok, mapS_cons, e2, Res.bind_ok, mapS_nil]
  rfl
theorem ns_under (n : Nat) (ns : List Nat) : D.under n (plD ns) = true := by
  unfold plD
  rw [D.under]
  exact underL_of fun d hd => by
    obtain ⟨m, _, rfl⟩ := List.mem_map.mp hd
    rfl
theorem pair_under (n : Nat) (w : Rat) (ns : List Nat) : D.under n (.tup [fr w, plD ns]) = true := by
  rw [D.under]
  exact underL_of fun d hd => by
    rcases List.mem_cons.mp hd with rfl | h
    · rfl
    · rw [List.mem_singleton.mp h]; exact ns_under n ns
theorem lvl_fs {bs : List Bx} (hb : BsOk bs) {b : Nat} {ns : List Nat} {l lam : Rat} (h : CI bs b ns l lam) : Fs 400 l := by
  obtain ⟨z, hz, m, hm, rfl⟩ := h.lv
  exact mu_fs (hb.ok z hz) m (by omega)
theorem gl_fs {bs : List Bx} (hb : BsOk bs) {ns : List Nat} {g : Rat} (hn : ∀ j < bs.length, nAt ns j ≤ 60) (h : Gl bs ns g) : Fs 400 g := by
  obtain ⟨j, hj, rfl⟩ := h.at_
  exact mu_fs (hb.at hj) _ (by have := hn j hj; omega)
theorem pr_fs {bs : List Bx} (hb : BsOk bs) {ns : List Nat} (hn : ∀ j < bs.length, nAt ns j ≤ 60) (hp : ∀ j < bs.length, 0 < hAt bs ns j) : Fs 2479 (prR bs ns) := by
  have b6 := hb.b6
  exact (sumN_fs (k := 412) bs.length fun j hj => ic_fs hb hj (by have := hn j hj; omega) (hp j hj)).le (by omega)
theorem ka_fs {bs : List Bx} (hb : BsOk bs) {ns : List Nat} (hn : ∀ j < bs.length, nAt ns j ≤ 60) : Fs 157 (kaR bs ns) := by
  have b6 := hb.b6
  refine (sumN_fs (k := 25) bs.length fun j hj => ?_).le (by omega)
  exact (fs_add (fs_mul (c6 (hb.at hj)) (n6 (show nAt ns j ≤ 61 by have := hn j hj; omega))) (fs_div (c6 (hb.at hj)) (eta6 (hb.at hj)) (hb.at hj).q.2.2.1)).le (by decide)
theorem lam_fs {bs : List Bx} (hb : BsOk bs) {b : Nat} (h60 : b ≤ 60) {ns : List Nat} {l lam : Rat} (hn : ∀ j < bs.length, nAt ns j ≤ 60) (h : CI bs b ns l lam) : Fs 3100 lam := by
  rw [h.bud, usR_eq]
  exact (fs_sub (n6 (show b ≤ 61 by omega)) (fs_sub (ka_fs hb hn) (fs_mul (lvl_fs hb h) (pr_fs hb hn h.hpos)))).le (by decide)
theorem xs_set {xs : List Rat} {i j : Nat} {g : Rat} (hi : i < xs.length) : (xs.set i g).getD j 0 = if j = i then g else xs.getD j 0 := by
  rw [List.getD_eq_getElem?_getD, List.getD_eq_getElem?_getD, List.getElem?_set]
  by_cases h : i = j
  · subst h; simp [hi]
  · rw [if_neg h, if_neg (fun z => h z.symm)]
theorem ns_set {ns : List Nat} {i j m : Nat} (hi : i < ns.length) : nAt (ns.set i m) j = if j = i then m else nAt ns j := by
  unfold nAt
  rw [List.getD_eq_getElem?_getD, List.getD_eq_getElem?_getD, List.getElem?_set]
  by_cases h : i = j
  · subst h; simp [hi]
  · rw [if_neg h, if_neg (fun z => h z.symm)]
/-- half way through the row of boxes -/
structure Hw (bs : List Bx) (ns : List Nat) (g : Rat) (i : Nat) (cs : List Nat) (xs : List Rat) : Prop where
  len : cs.length = bs.length
  at_ : ∀ j < bs.length, nAt cs j = if j < i ∧ mu (bxAt bs j) ^ (nAt ns j + 1) = g then nAt ns j + 1 else nAt ns j
  ms : Ms bs cs xs
theorem Hw.skip {bs : List Bx} {ns : List Nat} {g : Rat} {i : Nat} {cs : List Nat} {xs : List Rat} (h : Hw bs ns g i cs xs) (hi : i < bs.length) (hg : mu (bxAt bs i) ^ (nAt ns i + 1) ≠ g) : Hw bs ns g (i + 1) cs xs := by
  refine ⟨h.len, fun j hj => ?_, h.ms⟩
  rw [h.at_ j hj]
  by_cases e : j = i
  · subst e; rw [if_neg (by simp), if_neg (fun z => hg z.2)]
  · by_cases q : j < i
    · simp [q, show j < i + 1 by omega]
    · rw [if_neg (fun z => q z.1), if_neg (fun z => by have := z.1; omega)]
theorem Hw.put {bs : List Bx} {ns : List Nat} {g : Rat} {i : Nat} {cs : List Nat} {xs : List Rat} (h : Hw bs ns g i cs xs) (hi : i < bs.length) (hg : mu (bxAt bs i) ^ (nAt ns i + 1) = g) : Hw bs ns g (i + 1) (cs.set i (nAt cs i + 1)) (xs.set i g) := by
  have ci : nAt cs i = nAt ns i := by rw [h.at_ i hi, if_neg (by simp)]
  have a : ∀ j < bs.length, nAt (cs.set i (nAt cs i + 1)) j = if j < i + 1 ∧ mu (bxAt bs j) ^ (nAt ns j + 1) = g then nAt ns j + 1 else nAt ns j := fun j hj => by
    rw [ns_set (by rw [h.len]; exact hi)]
    by_cases e : j = i
    · subst e; rw [if_pos rfl, if_pos ⟨by omega, hg⟩, ci]
    · rw [if_neg e, h.at_ j hj]
      by_cases q : j < i
      · simp [q, show j < i + 1 by omega]
      · rw [if_neg (fun z => q z.1), if_neg (fun z => by have := z.1; omega)]
  refine ⟨by rw [List.length_set]; exact h.len, a, by rw [List.length_set]; exact h.ms.len, fun j hj => ?_⟩
  rw [xs_set (by rw [h.ms.len]; exact hi)]
  unfold hAt
  by_cases e : j = i
  · subst e; rw [if_pos rfl, a j hj, if_pos ⟨by omega, hg⟩, hg]
  · have := h.ms.at_ j hj
    rw [if_neg e, this, ns_set (by rw [h.len]; exact hi), if_neg e]
abbrev ClE (bs : List Bx) (b L : Nat) (l lam : Rat) (r : List (Option D)) : Dv.Env := some (bxsD bs) :: some (.int (b : Int)) :: some (.cell L) :: some (.cell (L + 1)) :: some (fr l) :: some (fr lam) :: r
def ClI (bs : List Bx) (b : Nat) (P : Store) (e : Dv.Env) (S : Store) : Prop := ∃ (ns : List Nat) (xs : List Rat) (l lam : Rat) (v6 v7 v8 v9 : Option D), (CI bs b ns l lam ∨ (l = 0 ∧ CT bs b ns)) ∧ Ms bs ns xs ∧ ns.length = bs.length ∧ ns.sum ≤ 60 ∧ S = P ++ [.lst (nsD ns), .lst (xs.map fr)] ∧ e = ClE bs b P.length l lam [v6, v7, v8, v9]
theorem ixN_nat {n k : Nat} (h : k < n) : ixN n (k : Int) = some k := by
  unfold ixN
  rw [if_pos (by omega)]
  simp; omega
theorem ci_first {bs : List Bx} (hb : BsOk bs) {b : Nat} : CI bs b (List.replicate bs.length 0) 1 ((b : Int) : Rat) := by
  have n0 : ∀ j < bs.length, nAt (List.replicate bs.length 0) j = 0 := fun j hj => by unfold nAt; simp [List.getD_eq_getElem?_getD, List.getElem?_replicate, hj]
  have u0 : usR bs (List.replicate bs.length 0) 1 = 0 := by
    unfold usR
    rw [sumN_congr (h := fun _ => 0) _ fun j hj => ?_, sumN_zero]
    unfold icR hAt
    rw [n0 j hj, Rat.pow_zero]
    have : ((0 : Nat) : Rat) = 0 := rfl
    rw [this]
    grind
  refine ⟨by simp, ⟨bxAt bs 0, bxAt_mem (by have := hb.b1; omega), 0, by decide, by rw [Rat.pow_zero]⟩, by decide, fun j hj => ?_, fun j hj => ?_, ?_, ?_⟩
  · have := (hb.at hj).q.2.2.2.2
    rw [n0 j hj, Rat.pow_succ, Rat.pow_zero]
    grind
  · unfold hAt
    rw [n0 j hj, Rat.pow_zero]
    exact Rat.le_refl
  · rw [u0, Rat.intCast_natCast]; grind
  · rw [Rat.intCast_natCast]; exact Rat.natCast_nonneg
theorem sum_one : ∀ {cs : List Nat}, (∀ j < cs.length, nAt cs j = 1) → cs.sum = cs.length
  | [], _ => rfl
  | a :: l, h => by
    have h0 : a = 1 := by have := h 0 (by simp); simpa [nAt] using this
    have := sum_one (cs := l) fun j hj => by have := h (j + 1) (by simpa using hj); simpa [nAt] using this
    rw [List.sum_cons, List.length_cons, this, h0]
    omega
theorem Hw.nx {bs : List Bx} {ns : List Nat} {g : Rat} {cs : List Nat} {xs : List Rat} (h : Hw bs ns g bs.length cs xs) : Nx bs ns cs g := ⟨h.len, fun j hj => by rw [h.at_ j hj]; simp [hj]⟩
theorem cmeas_at {P : Store} {ns : List Nat} {M : Cn} : cmeas P.length (P ++ ([.lst (nsD ns), M] : Store)) = 61 - ns.sum := by
  unfold cmeas
  rw [app_at0 rfl]
  simp only [csum_ns]
theorem climbed_ok {bs : List Bx} (hb : BsOk bs) {b : Nat} (h60 : b ≤ 60) {P : Store} (hP : (P.all fun c => c.under P.length) = true) : Ens (F_climbed [bxsD bs, .int (b : Int)] P) fun d S' => ∃ w ns, d = .tup [fr w, plD ns] ∧ Clm bs b ns w ∧ S' = P := by
  have b6 := hb.b6
  refine ens_fn rfl ?_
  unfold b_climbed
  simp only [List.map_cons, List.map_nil, List.replicate, List.cons_append, List.nil_append]
  refine ens_sq (fun e S => S = P ++ [.lst (nsD (List.replicate bs.length 0))] ∧ e = [some (bxsD bs), some (.int (b : Int)), some (.cell P.length), none, none, none, none, none, none, none]) (fun R' hR => ?_) ?_
  · simp [bx_len]
    refine ⟨⟨rng62_of (by omega) (by omega), by omega⟩, hR _ _ ⟨by simp [nsD], rfl⟩⟩
  rintro e S ⟨rfl, rfl⟩
  refine ens_sq (fun e S => S = P ++ [.lst (nsD (List.replicate bs.length 0)), .lst ((List.replicate bs.length (1 : Rat)).map fr)] ∧ e = [some (bxsD bs), some (.int (b : Int)), some (.cell P.length), some (.cell (P.length + 1)), none, none, none, none, none, none]) (fun R' hR => ?_) ?_
  · simp [bx_len]
    refine ⟨⟨rng62_of (by omega) (by omega), by omega⟩, hR _ _ ⟨by simp, rfl⟩⟩
  rintro e S ⟨rfl, rfl⟩
  refine ens_sq (fun e S => S = P ++ [.lst (nsD (List.replicate bs.length 0)), .lst ((List.replicate bs.length (1 : Rat)).map fr)] ∧ e = [some (bxsD bs), some (.int (b : Int)), some (.cell P.length), some (.cell (P.length + 1)), some (fr 1), none, none, none, none, none]) (fun R' hR => ?_) ?_
  · simp
    exact hR _ _ ⟨by simp, rfl⟩
  rintro e S ⟨rfl, rfl⟩
  refine ens_sq (fun e S => ClI bs b P e S) (fun R' hR => ?_) ?_
  · simp only [ySet_app, xTup_app, xCons_app, xNil_app, xC_app, xVar_app, List.getElem?_cons_zero, List.getElem?_cons_succ, Res.bind_ok, List.length_cons, List.length_nil, if_pos (show 0 + 1 + 1 ≤ 1000 by decide), enso_out, ens_ok, enso_nx, List.set_cons_succ, List.set_cons_zero, fr_int]
    refine hR _ _ ⟨List.replicate bs.length 0, List.replicate bs.length 1, 1, ((b : Int) : Rat), none, none, none, none, .inl (ci_first hb), ⟨by simp, fun j hj => ?_⟩, by simp, by simp, rfl, rfl⟩
    unfold hAt nAt
    simp [List.getD_eq_getElem?_getD, List.getElem?_replicate, hj]
  rintro e S hI
  refine ens_sq (fun e S => ∃ (ns : List Nat) (xs : List Rat) (lam : Rat) (v6 v7 v8 v9 : Option D), CT bs b ns ∧ S = P ++ [.lst (nsD ns), .lst (xs.map fr)] ∧ e = ClE bs b P.length 0 lam [v6, v7, v8, v9]) (fun R' hR => ?_) ?_
  · refine ens_while (ClI bs b P) (fun _ S => cmeas P.length S) ?_ hI
    rintro e S ⟨ns, xs, l, lam, v6, v7, v8, v9, hc, hm, hl, hs, rfl, rfl⟩
    have cond : xIsT (xOp dNe (xVar 4) (xTup (xCons (xC (.int 0)) (xCons (xC (.int 1)) xNil)))) (ClE bs b P.length l lam [v6, v7, v8, v9]) (P ++ [.lst (nsD ns), .lst (xs.map fr)]) = .ok (!decide (l = 0)) (P ++ [.lst (nsD ns), .lst (xs.map fr)]) := by
      simp only [ClE, xIsT_app, xOp_app, xTup_app, xCons_app, xNil_app, xC_app, xVar_app, List.getElem?_cons_zero, List.getElem?_cons_succ, Res.bind_ok, List.length_cons, List.length_nil, if_pos (show 0 + 1 + 1 ≤ 1000 by decide), fr_zero, dNe_fr, isT]
    rw [cond, ens_ok]
    rcases hc with hc | ⟨rfl, ht⟩
    · refine ⟨fun _ => ?_, fun z => ?_⟩
      · have hn : ∀ j < bs.length, nAt ns j ≤ 60 := fun j _ => Nat.le_trans (nAt_le j) hs
        have hp := hc.hpos
        have lf := lvl_fs hb hc
        have c1 : (P ++ [.lst (nsD ns), .lst (xs.map fr)])[P.length + 1]? = some (Cn.lst (xs.map fr)) := app_at1 rfl
        generalize hS : P ++ [.lst (nsD ns), .lst (xs.map fr)] = S at *
        have hcl : lcL (fun _ => True) (eN 9) cYes (xFn F_behind (xCons (xOp dIx (xVar 0) (xVar 9)) (xCons (xOp dIx (xVar 3) (xVar 9)) xNil))) (ClE bs b P.length l lam [v6, v7, v8, none]) (irange 0 (List.range bs.length).length) [] S = .ok ([] ++ (List.range bs.length).map fun j => fr (mu (bxAt bs j) ^ (nAt ns j + 1))) S := by
          refine lc_rng (fun j => fr (mu (bxAt bs j) ^ (nAt ns j + 1))) (List.range bs.length) 0 [] (fun i hi => ⟨_, rfl, ?_⟩) (by simp; omega)
          have hi2 : i < bs.length := by simpa using hi
          have cx := cell_fr c1 (k := i) (by rw [hm.len]; exact hi2)
          rw [hm.at_ i hi2] at cx
          simp only [ClE, List.set_cons_succ, List.set_cons_zero, xFn_app, xOp_app, xCons_app, xNil_app, xVar_app, List.getElem?_cons_zero, List.getElem?_cons_succ, Res.bind_ok, Int.zero_add, bx_at hi2, cx, behind_r (hb.at hi2) (nAt ns i) (hn i hi2), List.getElem_range]
        rw [List.length_range, List.nil_append] at hcl
        obtain ⟨g, hgm, hgl, hge⟩ := greatest_r (xs := (List.range bs.length).map fun j => mu (bxAt bs j) ^ (nAt ns j + 1)) (by have := hb.b1; intro z; have e := congrArg List.length z; rw [List.length_map, List.length_range, List.length_nil] at e; omega) (fun x hx => by
          obtain ⟨j, hj, rfl⟩ := List.mem_map.mp hx
          have hj2 := List.mem_range.mp hj
          exact mu_fs (hb.at hj2) _ (by have := hn j hj2; omega)) S
        rw [List.map_map] at hge
        have hg : Gl bs ns g := ⟨fun j hj => hgl _ (List.mem_map.mpr ⟨j, List.mem_range.mpr hj, rfl⟩), by
          obtain ⟨j, hj, e⟩ := List.mem_map.mp hgm
          exact ⟨j, List.mem_range.mp hj, e⟩⟩
        have gf := gl_fs hb hn hg
        have pf := pr_fs hb hn hp
        have nf : Fs 3280 ((l - g) * prR bs ns) := fs_mul (fs_sub lf gf) pf
        have lmf := lam_fs hb h60 hn hc
        refine ens_sq (fun e S2 => S2 = S ∧ e = ClE bs b P.length l lam [some (fr g), v7, v8, v9]) (fun R2 hR2 => ?_) ?_
        · have hge' : F_greatest [.lst ((List.range bs.length).map fun j => fr (mu (bxAt bs j) ^ (nAt ns j + 1)))] S = .ok (fr g) S := hge
          simp only [ClE] at hcl
          simp only [ClE, ySet_app, xLc_app, iSrcA_app, xFn_app, xCons_app, xNil_app, xVar_app, List.getElem?_cons_zero, List.getElem?_cons_succ, Res.bind_ok, bx_len, rng_src (show bs.length ≤ 1000000 by omega), wipeE_cons, wipeE_nil, List.set_cons_succ, List.set_cons_zero, hcl, mkF_app, hge', enso_out, ens_ok, enso_nx]
          exact hR2 _ _ ⟨rfl, rfl⟩
        rintro e S2 ⟨rfl, rfl⟩
        refine ens_sq (fun e S3 => S3 = S2 ∧ e = ClE bs b P.length l lam [some (fr g), some (fr (prR bs ns)), v8, v9]) (fun R2 hR2 => ?_) ?_
        · simp only [ClE, ySet_app, xFn_app, xCons_app, xNil_app, xVar_app, List.getElem?_cons_zero, List.getElem?_cons_succ, Res.bind_ok, rate_r hb hm hn hp c1, List.set_cons_succ, List.set_cons_zero, enso_out, ens_ok, enso_nx]
          exact hR2 _ _ ⟨rfl, rfl⟩
        rintro e S3 ⟨rfl, rfl⟩
        refine ens_sq (fun e S4 => S4 = S3 ∧ e = ClE bs b P.length l lam [some (fr g), some (fr (prR bs ns)), some (fr ((l - g) * prR bs ns)), v9]) (fun R2 hR2 => ?_) ?_
        · simp only [ClE, ySet_app, xFn_app, xCons_app, xNil_app, xVar_app, List.getElem?_cons_zero, List.getElem?_cons_succ, Res.bind_ok, minus_r lf gf (show 400 ≤ 4500 by decide), times_r ((fs_sub lf gf).le (show 801 ≤ 2479 by decide)) pf (show 2479 ≤ 4500 by decide), List.set_cons_succ, List.set_cons_zero, enso_out, ens_ok, enso_nx]
          exact hR2 _ _ ⟨rfl, rfl⟩
        rintro e S4 ⟨rfl, rfl⟩
        refine ens_sq (fun e S5 => ¬ lam < (l - g) * prR bs ns ∧ S5 = S4 ∧ e = ClE bs b P.length l lam [some (fr g), some (fr (prR bs ns)), some (fr ((l - g) * prR bs ns)), v9]) (fun R2 hR2 => ?_) ?_
        · simp only [ClE, yIf_app, xTru_app, xFn_app, xCons_app, xNil_app, xVar_app, List.getElem?_cons_zero, List.getElem?_cons_succ, Res.bind_ok, below_r (lmf.le (show 3100 ≤ 3280 by decide)) nf (show 3280 ≤ 4500 by decide), isT, tru_bl, enso_out, ens_ok]
          by_cases q : lam < (l - g) * prR bs ns
          · have ca := hc.stop hb h60 hg q
            have pp := hc.pr hb
            have st : l - lam / prR bs ns = (kaR bs ns - (b : Rat)) / prR bs ns := by
              have e1 := hc.bud
              rw [usR_eq] at e1
              have : prR bs ns ≠ 0 := Rat.ne_of_gt pp
              grind
            have sf : Fs 2700 (l - lam / prR bs ns) := by
              rw [st]
              exact (fs_div (fs_sub (ka_fs hb hn) (n6 (show b ≤ 61 by omega))) pf pp).le (by decide)
            have df : Fs 3200 (lam / prR bs ns) := by
              have e : lam / prR bs ns = l - (l - lam / prR bs ns) := by grind
              rw [e]
              exact (fs_sub lf sf).le (by decide)
            have o1 : Fs 2700 (1 : Rat) := ((On.one (N := 1) (by decide)).fs (n := 1) (by decide) (by decide)).le (by decide)
            have ov := over_r (lmf.le (show 3100 ≤ 3200 by decide)) (pf.le (show 2479 ≤ 3200 by decide)) (Rat.ne_of_gt pp) (show 3200 ≤ 4500 by decide)
            have m1 := minus_r (lf.le (show 400 ≤ 3200 by decide)) df (show 3200 ≤ 4500 by decide)
            have m2 := minus_r o1 sf (show 2700 ≤ 4500 by decide)
            rw [if_pos (by simpa using q)]
            simp only [yRet_app, xDfz_app, xTup_app, xFn_app, xCons_app, xNil_app, xC_app, xVar_app, List.getElem?_cons_zero, List.getElem?_cons_succ, Res.bind_ok, List.length_cons, List.length_nil, if_pos (show 0 + 1 + 1 ≤ 1000 by decide), fr_one, ov, m1, m2]
            subst hS
            rw [dz_pair, enso_out, ens_ok, enso_rt]
            show Ens (fin false P.length _ _) _
            rw [fin_cut rfl hP (pair_under _ _ _), ens_ok]
            exact ⟨_, ns, rfl, .inl ⟨_, rfl, ca⟩, rfl⟩
          · rw [if_neg (by simpa using q)]
            simp only [yNil_app, enso_nx]
            exact hR2 _ _ ⟨q, rfl, rfl⟩
        rintro e S5 ⟨hlt, rfl, rfl⟩
        refine ens_sq (fun e S6 => S6 = S5 ∧ e = ClE bs b P.length g lam [some (fr g), some (fr (prR bs ns)), some (fr ((l - g) * prR bs ns)), v9]) (fun R2 hR2 => ?_) ?_
        · simp only [ClE, ySet_app, xVar_app, List.getElem?_cons_zero, List.getElem?_cons_succ, Res.bind_ok, List.set_cons_succ, List.set_cons_zero, enso_out, ens_ok, enso_nx]
          exact hR2 _ _ ⟨rfl, rfl⟩
        rintro e S6 ⟨rfl, rfl⟩
        refine ens_sq (fun e S7 => S7 = S6 ∧ e = ClE bs b P.length g (lam - (l - g) * prR bs ns) [some (fr g), some (fr (prR bs ns)), some (fr ((l - g) * prR bs ns)), v9]) (fun R2 hR2 => ?_) ?_
        · simp only [ClE, ySet_app, xFn_app, xCons_app, xNil_app, xVar_app, List.getElem?_cons_zero, List.getElem?_cons_succ, Res.bind_ok, minus_r (lmf.le (show 3100 ≤ 3280 by decide)) nf (show 3280 ≤ 4500 by decide), List.set_cons_succ, List.set_cons_zero, enso_out, ens_ok, enso_nx]
          exact hR2 _ _ ⟨rfl, rfl⟩
        rintro e S7 ⟨rfl, rfl⟩
        subst hS
        simp only [ClE, yFor_app, iSrcA_app, xFn_app, xCons_app, xNil_app, xVar_app, List.getElem?_cons_zero, List.getElem?_cons_succ, Res.bind_ok, bx_len, rng_src (show bs.length ≤ 1000000 by omega), enso_out, ens_ok]
        refine ens_fr (fun i e S2 => ∃ cs ys v9, Hw bs ns g i cs ys ∧ S2 = P ++ [Cn.lst (nsD cs), Cn.lst (ys.map fr)] ∧ e = ClE bs b P.length g (lam - (l - g) * prR bs ns) [some (fr g), some (fr (prR bs ns)), some (fr ((l - g) * prR bs ns)), v9]) ⟨ns, xs, v9, ⟨hl, fun j hj => by simp, hm⟩, rfl, rfl⟩ ?_ ?_
        · rintro i d e S2 R2 hd ⟨cs, ys, v9, hw, rfl, rfl⟩ hR2
          obtain ⟨rfl, hi⟩ := irange_get hd
          have ci : nAt cs i = nAt ns i := by rw [hw.at_ i hi, if_neg (by simp)]
          have il : i < cs.length := by rw [hw.len]; exact hi
          have iy : i < ys.length := by rw [hw.ms.len]; exact hi
          have cx : dIx (.cell (P.length + 1)) (.int (i : Int)) (P ++ [.lst (nsD cs), .lst (ys.map fr)]) = .ok (fr (mu (bxAt bs i) ^ nAt ns i)) (P ++ [.lst (nsD cs), .lst (ys.map fr)]) := by
            rw [cell_fr (app_at1 rfl) iy, hw.ms.at_ i hi]
            unfold hAt
            rw [ci]
          simp only [ClE, Int.zero_add, gN_app, enso_nx, List.set_cons_succ, List.set_cons_zero, yIf_app, xIsT_app, xOp_app, xFn_app, xCons_app, xNil_app, xVar_app, List.getElem?_cons_zero, List.getElem?_cons_succ, Res.bind_ok, bx_at hi, cx, behind_r (hb.at hi) (nAt ns i) (hn i hi), dEq_fr, isT, tru_bl, enso_out, ens_ok]
          by_cases q : mu (bxAt bs i) ^ (nAt ns i + 1) = g
          · rw [if_pos (by simpa using q)]
            have at1 : L2.atI (nsD cs) (i : Int) = some (.int (nAt cs i : Nat)) := by
              unfold nsD nAt
              rw [atI_nat (by rw [List.getElem?_map, List.getElem?_eq_getElem il]; rfl), List.getD_eq_getElem?_getD, List.getElem?_eq_getElem il]
              rfl
            have nl : (nsD cs).length = cs.length := by unfold nsD; rw [List.length_map]
            have st1 : (nsD cs).set i (.int ((nAt cs i : Nat) + 1)) = nsD (cs.set i (nAt cs i + 1)) := by
              unfold nsD
              rw [List.map_set]
              rfl
            have st2 : (ys.map fr).set i (fr g) = (ys.set i g).map fr := by rw [List.map_set]
            unfold yAugSub
            simp only [ySeq_app, xVar_app, xC_app, List.getElem?_cons_zero, List.getElem?_cons_succ, Res.bind_ok, Res.out_ok, getL, app_at0, at1, if_pos (show (0 : Int) ≤ (i : Int) by omega), ipAdd_ok, setL, nl, ixN_nat il, app_set0, st1, Out.seq_nx]
            simp only [ySub_app, xVar_app, List.getElem?_cons_zero, List.getElem?_cons_succ, Res.bind_ok, Res.out_ok, setL, app_at1, List.length_map, ixN_nat iy, app_set1, st2, enso_nx, enso_out, ens_ok]
            exact hR2 _ _ ⟨_, _, _, hw.put hi q, rfl, rfl⟩
          · rw [if_neg (by simpa using q)]
            simp only [yNil_app, enso_nx]
            exact hR2 _ _ ⟨_, _, _, hw.skip hi q, rfl, rfl⟩
        · rintro e S2 ⟨cs, ys, v9, hw, rfl, rfl⟩
          rw [irange_length] at hw
          have nx := hw.nx
          have sl := nx.sum hl hg
          have hh : (CI bs b cs g (lam - (l - g) * prR bs ns) ∨ (g = 0 ∧ CT bs b cs)) ∧ cs.sum ≤ 60 := by
            by_cases g0 : g = 0
            · have ct := hc.flat hb hg g0 nx hlt
              refine ⟨.inr ⟨g0, ct⟩, ?_⟩
              have := sum_one (cs := cs) fun j hj => ct.one j (by rw [← hw.len]; exact hj)
              have := hw.len
              omega
            · have := hg.nn hb
              have ci := hc.step hb h60 hg (by grind) nx hlt
              exact ⟨.inl ci, ci.sum hb h60⟩
          refine ⟨⟨cs, ys, g, _, _, _, _, _, hh.1, hw.ms, hw.len, hh.2, rfl, rfl⟩, ?_⟩
          rw [cmeas_at, cmeas_at]
          omega
      · have := hc.pos
        have : l ≠ 0 := Rat.ne_of_gt this
        simp [this] at z
    · refine ⟨fun z => ?_, fun _ => ?_⟩
      · simp at z
      · exact hR _ _ ⟨ns, xs, lam, v6, v7, v8, v9, ht, rfl, rfl⟩
  rintro e S ⟨ns, xs, lam, v6, v7, v8, v9, hc, rfl, rfl⟩
  simp only [yRet_app, xDfz_app, xTup_app, xCons_app, xNil_app, xC_app, xVar_app, List.getElem?_cons_zero, List.getElem?_cons_succ, Res.bind_ok, List.length_cons, List.length_nil, if_pos (show 0 + 1 + 1 ≤ 1000 by decide), fr_one, dz_pair, enso_out, ens_ok, enso_rt]
  rw [fin_cut rfl hP (pair_under _ _ _), ens_ok]
  exact ⟨1, ns, rfl, .inr ⟨rfl, hc⟩, rfl⟩
/-! ### the mix of plans, from how often each box is to be looked into -/
def E0 (xs : List Rat) (i : Nat) : Rat := sumN i fun j => xs.getD j 0
def endsR (xs : List Rat) (i : Nat) : List Rat := (List.range (i + 1)).map (E0 xs)
theorem endsR_succ (xs : List Rat) (i : Nat) : endsR xs (i + 1) = endsR xs i ++ [E0 xs (i + 1)] := by unfold endsR; rw [List.range_succ, List.map_append]; rfl
abbrev Pt := Int × Nat
def ptD (p : Pt) : D := .tup [.int p.1, .int (p.2 : Int)]
def rstP (x : Rat) : Pt := (x.num % x.den, x.den)
def addNew (a : List Pt) (p : Pt) : List Pt := if p ∈ a then a else a ++ [p]
def startsR (es : List Rat) : List Pt := es.foldl (fun a e => addNew a (rstP e)) []
def botR (l : List Nat) : Nat := l.foldl Nat.lcm 1
def topsR (ss : List Pt) (bot : Nat) : List Int := (ss.map fun p => p.1 * ((bot / p.2 : Nat) : Int)).mergeSort fun a b => decide (a ≤ b)
def ceilI (x : Rat) : Int := 0 - (0 - x.num) / (x.den : Int)
def manyI (xs : List Rat) (u : Rat) (i : Nat) : Int := ceilI (E0 xs (i + 1) - u) - ceilI (E0 xs i - u)
def planR (xs : List Rat) (u : Rat) : List Int := (List.range xs.length).map (manyI xs u)
def ssR (xs : List Rat) : List Pt := startsR (endsR xs xs.length)
def bR (xs : List Rat) : Nat := botR ((ssR xs).map (·.2))
def tR (xs : List Rat) : List Int := topsR (ssR xs) (bR xs)
def uR (xs : List Rat) (k : Nat) : Rat := (((tR xs).getD k 0 : Int) : Rat) / (((bR xs : Nat) : Int) : Rat)
def gapR (xs : List Rat) (k : Nat) : Int := (tR xs ++ [(bR xs : Int)]).getD (k + 1) 0 - (tR xs).getD k 0
def partR (xs : List Rat) (k : Nat) : D := .tup [.lst ((planR xs (uR xs k)).map D.int), .int (gapR xs k)]
def mixR (xs : List Rat) : List D := (List.range (tR xs).length).map (partR xs)
theorem startsR_add (es : List Rat) (e : Rat) : startsR (es ++ [e]) = addNew (startsR es) (rstP e) := by unfold startsR; rw [List.foldl_append]; rfl
theorem addNew_mem {a : List Pt} {p q : Pt} (h : q ∈ addNew a p) : q ∈ a ∨ q = p := by
  unfold addNew at h
  split at h
  · exact .inl h
  · rcases List.mem_append.mp h with z | z
    · exact .inl z
    · exact .inr (List.mem_singleton.mp z)
theorem starts_from : ∀ (es : List Rat) (a : List Pt) {q : Pt}, q ∈ es.foldl (fun a e => addNew a (rstP e)) a → q ∈ a ∨ ∃ e ∈ es, q = rstP e
  | [], _, _, h => .inl h
  | e :: es, a, q, h => by
    rcases starts_from es _ h with z | ⟨x, hx, e2⟩
    · rcases addNew_mem z with y | y
      · exact .inl y
      · exact .inr ⟨e, by simp, y⟩
    · exact .inr ⟨x, by simp [hx], e2⟩
theorem addNew_len {a : List Pt} {p : Pt} : (addNew a p).length ≤ a.length + 1 := by unfold addNew; split <;> simp
theorem starts_len : ∀ (es : List Rat) (a : List Pt), (es.foldl (fun a e => addNew a (rstP e)) a).length ≤ a.length + es.length
  | [], _ => by simp
  | e :: es, a => by
    have := starts_len es (addNew a (rstP e))
    have := addNew_len (a := a) (p := rstP e)
    simp only [List.foldl_cons, List.length_cons]
    omega
theorem toPs_pts (S : Store) (n : Nat) : ∀ l : List Pt, toPs S (n + 2) (l.map ptD) = some (l.map fun p => PyData.tuple [.int p.1, .int (p.2 : Int)])
  | [] => by simp [toPs]
  | p :: l => by
    have := toPs_pts S n l
    simp [toPs, this, ptD, toP]
theorem pt_eqv (p q : Pt) : PyData.eqv (.tuple [.int p.1, .int (p.2 : Int)]) (.tuple [.int q.1, .int (q.2 : Int)]) = decide (p = q) := by
  simp only [PyData.eqv, PyData.eqvAll]
  by_cases h : p = q
  · subst h; simp
  · rw [decide_eq_false h]
    have : ¬ (p.1 = q.1 ∧ p.2 = q.2) := fun z => h (Prod.ext z.1 z.2)
    simp
    intro a
    omega
theorem any_pts (p : Pt) : ∀ l : List Pt, (l.any fun q => PyData.eqv (.tuple [.int q.1, .int (q.2 : Int)]) (.tuple [.int p.1, .int (p.2 : Int)])) = decide (p ∈ l)
  | [] => by simp
  | q :: l => by
    rw [List.any_cons, any_pts p l, pt_eqv]
    by_cases z : q = p
    · subst z; simp
    · have z2 : ¬ p = q := fun y => z y.symm
      rw [decide_eq_false z, Bool.false_or]
      simp [z2]
theorem not_in_pts {S : Store} {n : Nat} {l : List Pt} (h : S[n]? = some (.lst (l.map ptD))) (p : Pt) : dInD true (ptD p) (.cell n) S = .ok (.bl (!decide (p ∈ l))) S := by
  have e1 : toP S 60 (ptD p) = some (.tuple [.int p.1, .int (p.2 : Int)]) := by simp [ptD, toP, toPs]
  have e2 : toP S 60 (.cell n) = some (.list (l.map fun p => PyData.tuple [.int p.1, .int (p.2 : Int)])) := by
    rw [toP]
    simp only [h]
    rw [toPs_pts]
    rfl
  unfold dInD
  simp only [e1, e2, if_true]
  congr 3
  rw [List.any_map]
  exact any_pts p l
theorem botR_dvd {dm : Nat} : ∀ (l : List Nat) (b : Nat), b ∣ dm → (∀ x ∈ l, x ∣ dm) → l.foldl Nat.lcm b ∣ dm
  | [], b, h, _ => h
  | x :: l, b, h, g => botR_dvd l _ (Nat.lcm_dvd h (g x (by simp))) fun y hy => g y (by simp [hy])
theorem botR_has : ∀ (l : List Nat) (b : Nat), b ∣ l.foldl Nat.lcm b ∧ ∀ x ∈ l, x ∣ l.foldl Nat.lcm b
  | [], b => ⟨Nat.dvd_refl _, by simp⟩
  | x :: l, b => by
    obtain ⟨h1, h2⟩ := botR_has l (Nat.lcm b x)
    refine ⟨Nat.dvd_trans (Nat.dvd_lcm_left b x) h1, fun y hy => ?_⟩
    rcases List.mem_cons.mp hy with rfl | z
    · exact Nat.dvd_trans (Nat.dvd_lcm_right b y) h1
    · exact h2 y z
/-- what is known of the looks -/
structure LkOk (xs : List Rat) (dm : Nat) : Prop where
  len : xs.length ≤ 6
  one : 1 ≤ xs.length
  pos : 0 < dm
  sz : dm < 2 ^ 440
  on : ∀ j < xs.length, On dm 61 (xs.getD j 0)
theorem LkOk.E {xs : List Rat} {dm : Nat} (h : LkOk xs dm) : ∀ i, i ≤ xs.length → On dm (61 * i) (E0 xs i)
  | 0, _ => (On.zero h.pos).mono (by omega)
  | i + 1, hi => by
    have := h.E i (by omega)
    unfold E0 at *
    rw [sumN]
    exact this.add (h.on i (by omega))
theorem LkOk.Ef {xs : List Rat} {dm : Nat} (h : LkOk xs dm) {i : Nat} (hi : i ≤ xs.length) : Fs 450 (E0 xs i) := by
  have o := (h.E i hi).mono (C := 366) (by have := h.len; omega)
  have := h.sz
  have e : (2 : Nat) ^ 450 = 2 ^ 440 * 1024 := by rw [show 450 = 440 + 10 by decide, Nat.pow_add]
  exact o.fs (by omega) (by omega)
theorem LkOk.xf {xs : List Rat} {dm : Nat} (h : LkOk xs dm) {i : Nat} (hi : i < xs.length) : Fs 450 (xs.getD i 0) := by
  have o := h.on i hi
  have := h.sz
  have e : (2 : Nat) ^ 450 = 2 ^ 440 * 1024 := by rw [show 450 = 440 + 10 by decide, Nat.pow_add]
  exact o.fs (by omega) (by omega)
theorem LkOk.end_mem {xs : List Rat} {dm : Nat} (h : LkOk xs dm) {e : Rat} (he : e ∈ endsR xs xs.length) : ∃ i ≤ xs.length, e = E0 xs i := by
  obtain ⟨i, hi, rfl⟩ := List.mem_map.mp he
  exact ⟨i, by have := List.mem_range.mp hi; omega, rfl⟩
theorem LkOk.ss {xs : List Rat} {dm : Nat} (h : LkOk xs dm) {p : Pt} (hp : p ∈ ssR xs) : p.2 ∣ dm ∧ 0 < p.2 ∧ 0 ≤ p.1 ∧ p.1 < p.2 := by
  rcases starts_from _ _ hp with z | ⟨e, he, rfl⟩
  · cases z
  · obtain ⟨i, hi, rfl⟩ := h.end_mem he
    have dp := den_pos (E0 xs i)
    exact ⟨(h.E i hi).den, (E0 xs i).den_pos, Int.emod_nonneg _ (by omega), Int.emod_lt_of_pos _ dp⟩
theorem LkOk.b {xs : List Rat} {dm : Nat} (h : LkOk xs dm) : bR xs ∣ dm ∧ 0 < bR xs ∧ bR xs < 2 ^ 440 := by
  have d : bR xs ∣ dm := botR_dvd _ _ (Nat.one_dvd _) fun x hx => by
    obtain ⟨p, hp, rfl⟩ := List.mem_map.mp hx
    exact (h.ss hp).1
  have := Nat.le_of_dvd h.pos d
  have := h.sz
  exact ⟨d, Nat.pos_of_dvd_of_pos d h.pos, by omega⟩
theorem LkOk.t {xs : List Rat} {dm : Nat} (h : LkOk xs dm) {t : Int} (ht : t ∈ tR xs) : 0 ≤ t ∧ t < bR xs := by
  have := (List.mergeSort_perm _ _).mem_iff.mp ht
  obtain ⟨p, hp, rfl⟩ := List.mem_map.mp this
  obtain ⟨_, p0, a, b⟩ := h.ss hp
  have d : p.2 ∣ bR xs := (botR_has _ 1).2 _ (List.mem_map.mpr ⟨p, hp, rfl⟩)
  obtain ⟨c, hc⟩ := d
  have e : bR xs / p.2 = c := by rw [hc, Nat.mul_div_cancel_left _ p0]
  have c0 : 0 < c := Nat.pos_of_ne_zero fun z => by have := h.b.2.1; rw [hc, z] at this; simp at this
  rw [e]
  refine ⟨Int.mul_nonneg a (by omega), ?_⟩
  rw [hc, Int.natCast_mul]
  exact Int.mul_lt_mul_of_pos_right b (by omega)
theorem rest_r (x : Rat) (S : Store) : F_rest_of [fr x] S = .ok (ptD (rstP x)) S := by
  have dp := den_pos x
  rw [← ens_eq]
  refine ens_fn rfl ?_
  unfold b_rest_of
  simp [fmod_pos dp, ptD, rstP]
  omega
theorem ceiling_r {x : Rat} {n : Nat} (h : Fs n x) (hn : n ≤ 9000) (S : Store) : F_ceiling [fr x] S = .ok (.int (ceilI x)) S := by
  have dp := den_pos x
  rw [← ens_eq]
  refine ens_fn rfl ?_
  unfold b_ceiling
  simp [h.den.divOk (a := -x.num) (by omega) hn, fdiv_pos dp, ceilI]
theorem many_r {a b u : Rat} (ha : Fs 450 a) (hb : Fs 450 b) (hu : Fs 450 u) (S : Store) : F_many_between [fr a, fr b, fr u] S = .ok (.int (ceilI (b - u) - ceilI (a - u))) S := by
  rw [← ens_eq]
  refine ens_fn rfl ?_
  unfold b_many_between
  simp [minus_r ha hu (by decide), minus_r hb hu (by decide), ceiling_r (fs_sub ha hu) (by decide), ceiling_r (fs_sub hb hu) (by decide)]
def IsMx (d : D) : Prop := ∃ (a : List Int) (b : Int), d = .tup [.lst (a.map D.int), .int b]
theorem mix_under (n : Nat) (l : List D) (h : ∀ d ∈ l, IsMx d) : D.under n (.lst l) = true := by
  rw [D.under]
  refine underL_of fun d hd => ?_
  obtain ⟨a, b, rfl⟩ := h d hd
  rw [D.under]
  refine underL_of fun x hx => ?_
  rcases List.mem_cons.mp hx with rfl | z
  · rw [D.under]; exact underL_ints a
  · rw [List.mem_singleton.mp z]; rfl
abbrev MxE (xs : List Rat) (r : List (Option D)) : Dv.Env := some (.lst (xs.map fr)) :: r
theorem mixby_ok {xs : List Rat} {dm : Nat} (h : LkOk xs dm) {P : Store} (hP : (P.all fun c => c.under P.length) = true) : F_mix_by [.lst (xs.map fr)] P = .ok (.lst (mixR xs)) P := by
  have x6 := h.len
  have x1 := h.one
  rw [← ens_eq]
  refine ens_fn rfl ?_
  unfold b_mix_by
  simp only [List.map_cons, List.map_nil, List.replicate, List.cons_append, List.nil_append]
  refine ens_sq (fun e S => S = P ++ [Cn.lst [fr 0]] ∧ e = MxE xs [some (.cell P.length), none, none, none, none, none, none, none, none, none, none, none, none]) (fun R' hR => ?_) ?_
  · simp only [ySet_app, xLst_app, xTup_app, xCons_app, xNil_app, xC_app, Res.bind_ok, List.length_cons, List.length_nil, if_pos (show 0 + 1 + 1 ≤ 1000 by decide), if_pos (show 0 + 1 ≤ 1000 by decide), fr_zero, mkC_app, enso_out, ens_ok, enso_nx, List.set_cons_succ, List.set_cons_zero]
    exact hR _ _ ⟨rfl, rfl⟩
  rintro e S ⟨rfl, rfl⟩
  refine ens_sq (fun e S => ∃ v, S = P ++ [Cn.dead] ∧ e = MxE xs [some (.lst ((endsR xs xs.length).map fr)), v, none, none, none, none, none, none, none, none, none, none, none]) (fun R' hR => ?_) ?_
  · refine ens_sq (fun e S => ∃ v, S = P ++ [Cn.lst ((endsR xs xs.length).map fr)] ∧ e = MxE xs [some (.cell P.length), v, none, none, none, none, none, none, none, none, none, none, none]) (fun R2 hR2 => ?_) ?_
    · simp only [yFor_app, iSrc_app, xVar_app, List.getElem?_cons_zero, List.getElem?_cons_succ, Res.bind_ok, srcL_lst, enso_out, ens_ok]
      refine ens_fr (fun i e S => ∃ v, S = P ++ [Cn.lst ((endsR xs i).map fr)] ∧ e = MxE xs [some (.cell P.length), v, none, none, none, none, none, none, none, none, none, none, none]) ⟨none, rfl, rfl⟩ ?_ ?_
      · rintro i d e S R3 hd ⟨v, rfl, rfl⟩ hR3
        rw [List.getElem?_map] at hd
        have hi : i < xs.length := by
          refine Nat.lt_of_not_le fun z => ?_
          rw [List.getElem?_eq_none z] at hd
          cases hd
        rw [List.getElem?_eq_getElem hi] at hd
        cases hd
        have ge : xs[i] = xs.getD i 0 := by rw [List.getD_eq_getElem?_getD, List.getElem?_eq_getElem hi]; rfl
        rw [ge]
        have el : endsR xs i = (List.range i).map (E0 xs) ++ [E0 xs i] := by unfold endsR; rw [List.range_succ, List.map_append]; rfl
        have ix : dIx (.cell P.length) (.int (-1)) (P ++ [Cn.lst ((endsR xs i).map fr)]) = .ok (fr (E0 xs i)) (P ++ [Cn.lst ((endsR xs i).map fr)]) := by
          have : L2.atI ((endsR xs i).map fr) (-1) = some (fr (E0 xs i)) := by
            rw [el, List.map_append]
            exact L2.atI_last _ _
          simp only [dIx, getQ, getL, app_at0, this]
        have pl := plus_r (h.Ef (show i ≤ xs.length by omega)) (h.xf hi) (show 450 ≤ 4500 by decide)
        have es : E0 xs i + xs.getD i 0 = E0 xs (i + 1) := rfl
        have al : (endsR xs i).length < 16000000 := by unfold endsR; simp; omega
        simp only [gN_app, enso_nx, List.set_cons_succ, List.set_cons_zero, yExpr_app, xMt_app, xFn_app, xOp_app, xUn_app, xC_app, xCons_app, xNil_app, xVar_app, List.getElem?_cons_zero, List.getElem?_cons_succ, Res.bind_ok, dNeg_ok, ix, pl, es]
        simp only [isT, app_at0, beq_self_eq_true, if_true, mAppend, cellL, List.length_map, if_pos al, Res.bind_ok, Res.out_ok, Out.seq_nx, app_set0, enso_out, ens_ok, enso_nx]
        refine hR3 _ _ ⟨_, ?_, rfl⟩
        rw [endsR_succ, List.map_append]
        rfl
      · rintro e S ⟨v, rfl, rfl⟩
        rw [List.length_map]
        exact hR2 _ _ ⟨v, rfl, rfl⟩
    rintro e S ⟨v, rfl, rfl⟩
    simp [frzE, frz, app_at0, app_set0]
    exact hR _ _ ⟨v, rfl, rfl⟩
  rintro e S ⟨v2, rfl, rfl⟩
  refine ens_sq (fun e S => S = P ++ [Cn.dead, Cn.lst []] ∧ e = MxE xs [some (.lst ((endsR xs xs.length).map fr)), v2, some (.cell (P.length + 1)), none, none, none, none, none, none, none, none, none, none]) (fun R' hR => ?_) ?_
  · simp
    exact hR _ _ ⟨rfl, rfl⟩
  rintro e S ⟨rfl, rfl⟩
  refine ens_sq (fun e S => ∃ v, S = P ++ [Cn.dead, Cn.dead] ∧ e = MxE xs [some (.lst ((endsR xs xs.length).map fr)), v2, some (.lst ((ssR xs).map ptD)), v, none, none, none, none, none, none, none, none, none]) (fun R' hR => ?_) ?_
  · refine ens_sq (fun e S => ∃ v, S = P ++ [Cn.dead, Cn.lst ((ssR xs).map ptD)] ∧ e = MxE xs [some (.lst ((endsR xs xs.length).map fr)), v2, some (.cell (P.length + 1)), v, none, none, none, none, none, none, none, none, none]) (fun R2 hR2 => ?_) ?_
    · simp only [yFor_app, iSrc_app, xVar_app, List.getElem?_cons_zero, List.getElem?_cons_succ, Res.bind_ok, srcL_lst, enso_out, ens_ok]
      refine ens_fr (fun i e S => ∃ v, S = P ++ [Cn.dead, Cn.lst ((startsR ((endsR xs xs.length).take i)).map ptD)] ∧ e = MxE xs [some (.lst ((endsR xs xs.length).map fr)), v2, some (.cell (P.length + 1)), v, none, none, none, none, none, none, none, none, none]) ⟨none, rfl, rfl⟩ ?_ ?_
      · rintro i d e S R3 hd ⟨v, rfl, rfl⟩ hR3
        rw [List.getElem?_map] at hd
        have hi : i < (endsR xs xs.length).length := by
          refine Nat.lt_of_not_le fun z => ?_
          rw [List.getElem?_eq_none z] at hd
          cases hd
        rw [List.getElem?_eq_getElem hi] at hd
        cases hd
        have tk : (endsR xs xs.length).take (i + 1) = (endsR xs xs.length).take i ++ [(endsR xs xs.length)[i]] := by rw [List.take_add_one, List.getElem?_eq_getElem hi]; rfl
        generalize (endsR xs xs.length)[i] = x at *
        have el : (endsR xs xs.length).length = xs.length + 1 := by unfold endsR; simp
        have sl := starts_len ((endsR xs xs.length).take i) []
        have al : (startsR ((endsR xs xs.length).take i)).length < 16000000 := by
          unfold startsR
          rw [List.length_take] at sl
          simp at sl
          omega
        have sa := startsR_add ((endsR xs xs.length).take i) x
        rw [← tk] at sa
        generalize startsR ((endsR xs xs.length).take i) = ss at *
        have nin := not_in_pts (S := P ++ [Cn.dead, Cn.lst (ss.map ptD)]) (n := P.length + 1) (l := ss) (app_at1 rfl) (rstP x)
        simp only [gN_app, enso_nx, List.set_cons_succ, List.set_cons_zero, yIf_app, xIsT_app, xFn_app, xOp_app, xCons_app, xNil_app, xVar_app, List.getElem?_cons_zero, List.getElem?_cons_succ, Res.bind_ok, rest_r, nin, enso_out, ens_ok]
        by_cases q : rstP x ∈ ss
        · rw [if_neg (by simp [q])]
          simp only [yNil_app, enso_nx]
          refine hR3 _ _ ⟨_, ?_, rfl⟩
          rw [sa, addNew, if_pos q]
        · rw [if_pos (by simp [q])]
          simp only [yExpr_app, xMt_app, xFn_app, xCons_app, xNil_app, xVar_app, List.getElem?_cons_zero, List.getElem?_cons_succ, Res.bind_ok, rest_r]
          simp only [isT, app_at1, beq_self_eq_true, if_true, mAppend, cellL, List.length_map, if_pos al, Res.bind_ok, Res.out_ok, Out.seq_nx, app_set1, enso_out, ens_ok, enso_nx]
          refine hR3 _ _ ⟨_, ?_, rfl⟩
          rw [sa, addNew, if_neg q, List.map_append]
          rfl
      · rintro e S ⟨v, rfl, rfl⟩
        rw [List.length_map, List.take_length]
        exact hR2 _ _ ⟨v, rfl, rfl⟩
    rintro e S ⟨v, rfl, rfl⟩
    simp [frzE, frz, app_at1, app_set1]
    exact hR _ _ ⟨v, rfl, rfl⟩
  rintro e S ⟨v4, rfl, rfl⟩
  have sl : (ssR xs).length ≤ 7 := by
    have := starts_len (endsR xs xs.length) []
    have el : (endsR xs xs.length).length = xs.length + 1 := by unfold endsR; simp
    rw [el] at this
    unfold ssR startsR
    simp at this
    omega
  have hb := h.b
  have hdz := h.sz
  refine ens_sq (fun e S => S = P ++ [Cn.dead, Cn.dead] ∧ e = MxE xs [some (.lst ((endsR xs xs.length).map fr)), v2, some (.lst ((ssR xs).map ptD)), v4, some (.int 1), none, none, none, none, none, none, none, none]) (fun R' hR => ?_) ?_
  · simp
    exact hR _ _ ⟨rfl, rfl⟩
  rintro e S ⟨rfl, rfl⟩
  refine ens_sq (fun e S => ∃ v9 v10, S = P ++ [Cn.dead, Cn.dead] ∧ e = MxE xs [some (.lst ((endsR xs xs.length).map fr)), v2, some (.lst ((ssR xs).map ptD)), v4, some (.int (bR xs : Int)), none, none, none, v9, v10, none, none, none]) (fun R' hR => ?_) ?_
  · simp only [yFor_app, iSrc_app, xVar_app, List.getElem?_cons_zero, List.getElem?_cons_succ, Res.bind_ok, srcL_lst, enso_out, ens_ok]
    refine ens_fr (fun i e S => ∃ v9 v10, S = P ++ [Cn.dead, Cn.dead] ∧ e = MxE xs [some (.lst ((endsR xs xs.length).map fr)), v2, some (.lst ((ssR xs).map ptD)), v4, some (.int (botR (((ssR xs).map (·.2)).take i) : Nat)), none, none, none, v9, v10, none, none, none]) ⟨none, none, rfl, rfl⟩ ?_ ?_
    · rintro i d e S R3 hd ⟨v9, v10, rfl, rfl⟩ hR3
      rw [List.getElem?_map] at hd
      have hi : i < (ssR xs).length := by
        refine Nat.lt_of_not_le fun z => ?_
        rw [List.getElem?_eq_none z] at hd
        cases hd
      rw [List.getElem?_eq_getElem hi] at hd
      cases hd
      obtain ⟨p1, p0, _, _⟩ := h.ss (List.getElem_mem hi)
      have tk : botR (((ssR xs).map (·.2)).take (i + 1)) = Nat.lcm (botR (((ssR xs).map (·.2)).take i)) (ssR xs)[i].2 := by
        have hi2 : i < ((ssR xs).map (·.2)).length := by rw [List.length_map]; exact hi
        rw [List.take_add_one, List.getElem?_eq_getElem hi2]
        unfold botR
        rw [List.foldl_append, List.getElem_map]
        rfl
      have bd : botR (((ssR xs).map (·.2)).take i) ∣ dm := botR_dvd _ _ (Nat.one_dvd _) fun x hx => by
        obtain ⟨p, hp, rfl⟩ := List.mem_map.mp (List.mem_of_mem_take hx)
        exact (h.ss hp).1
      generalize (ssR xs)[i] = p at *
      generalize botR (((ssR xs).map (·.2)).take i) = b at *
      have b0 : 0 < b := Nat.pos_of_dvd_of_pos bd h.pos
      have bl := Nat.le_of_dvd h.pos bd
      have pl := Nat.le_of_dvd h.pos p1
      have bs : Sz 440 (b : Int) := by show (b : Int).natAbs < _; rw [Int.natAbs_natCast]; omega
      have ps : Sz 440 (p.2 : Int) := by show (p.2 : Int).natAbs < _; rw [Int.natAbs_natCast]; omega
      have g0 : 0 < Nat.gcd b p.2 := Nat.gcd_pos_of_pos_left _ b0
      have gl : Nat.gcd b p.2 ≤ b := Nat.gcd_le_left _ b0
      have gs : Sz 440 ((Nat.gcd b p.2 : Nat) : Int) := by show ((Nat.gcd b p.2 : Nat) : Int).natAbs < _; rw [Int.natAbs_natCast]; omega
      have dv : ((b : Int) * (p.2 : Int)) / ((Nat.gcd b p.2 : Nat) : Int) = ((Nat.lcm b p.2 : Nat) : Int) := by
        rw [← Int.natCast_mul, ← Int.natCast_ediv]; rfl
      have dok := gs.divOk (a := (b : Int) * (p.2 : Int)) (by omega) (by decide)
      have gi : Int.gcd (b : Int) (p.2 : Int) = Nat.gcd b p.2 := rfl
      simp only [ptD, gT_app, List.length_cons, List.length_nil, if_true, gsCons_app, gsNil_app, gN_app, Out.seq_nx, enso_nx, List.set_cons_succ, List.set_cons_zero, ySet_app, xFn_app, xOp_app, xCons_app, xNil_app, xVar_app, List.getElem?_cons_zero, List.getElem?_cons_succ, Res.bind_ok, dMul_int, if_pos (bs.mulOk ps (by decide)), divisor_ok, gi, dFdiv_ok, if_pos dok, fdiv_pos (show (0 : Int) < ((Nat.gcd b p.2 : Nat) : Int) by omega), dv, enso_out, ens_ok]
      exact hR3 _ _ ⟨_, _, rfl, by rw [tk]⟩
    · rintro e S ⟨v9, v10, rfl, rfl⟩
      rw [List.length_map, List.take_of_length_le (by rw [List.length_map]; exact Nat.le_refl _)]
      exact hR _ _ ⟨_, _, rfl, rfl⟩
  rintro e S ⟨v9, v10, rfl, rfl⟩
  refine ens_sq (fun e S => S = P ++ [Cn.dead, Cn.dead] ∧ e = MxE xs [some (.lst ((endsR xs xs.length).map fr)), v2, some (.lst ((ssR xs).map ptD)), v4, some (.int (bR xs : Int)), some (.lst ((tR xs).map D.int)), none, none, v9, v10, none, none, none]) (fun R' hR => ?_) ?_
  · have hc : lcL (fun _ => True) (eT2 9 10) cYes (xOp (dMul mkF) (xVar 9) (xOp dFdiv (xVar 5) (xVar 10))) (MxE xs [some (.lst ((endsR xs xs.length).map fr)), v2, some (.lst ((ssR xs).map ptD)), v4, some (.int (bR xs : Int)), none, none, none, none, none, none, none, none]) ((ssR xs).map ptD) [] (P ++ [Cn.dead, Cn.dead]) = .ok ([] ++ (ssR xs).map fun p => D.int (p.1 * ((bR xs / p.2 : Nat) : Int))) (P ++ [Cn.dead, Cn.dead]) := by
      refine lc_map ptD (fun p => D.int (p.1 * ((bR xs / p.2 : Nat) : Int))) (ssR xs) [] (fun p hp => ⟨_, rfl, ?_⟩) (by simp; omega)
      obtain ⟨p1, p0, q0, q1⟩ := h.ss hp
      have pl := Nat.le_of_dvd h.pos p1
      have ps : Sz 440 (p.2 : Int) := by show (p.2 : Int).natAbs < _; rw [Int.natAbs_natCast]; omega
      have dok := ps.divOk (a := (bR xs : Int)) (by omega) (by decide)
      have qs : Sz 440 p.1 := by show p.1.natAbs < _; omega
      have dl : bR xs / p.2 ≤ bR xs := Nat.div_le_self _ _
      have ds : Sz 440 ((bR xs / p.2 : Nat) : Int) := by show ((bR xs / p.2 : Nat) : Int).natAbs < _; rw [Int.natAbs_natCast]; omega
      have dv : (bR xs : Int) / (p.2 : Int) = ((bR xs / p.2 : Nat) : Int) := by rw [Int.natCast_ediv]
      simp only [MxE, eT2_app, List.set_cons_succ, List.set_cons_zero, xOp_app, xVar_app, List.getElem?_cons_zero, List.getElem?_cons_succ, Res.bind_ok, dFdiv_ok, if_pos dok, fdiv_pos (show (0 : Int) < (p.2 : Int) by omega), dv, dMul_int, if_pos (qs.mulOk ds (by decide))]
    have me : ((ssR xs).map fun p => D.int (p.1 * ((bR xs / p.2 : Nat) : Int))) = ((ssR xs).map fun p : Pt => p.1 * ((bR xs / p.2 : Nat) : Int)).map D.int := by rw [List.map_map]; rfl
    rw [List.nil_append, me] at hc
    simp only [MxE] at hc
    have hs : bSorted mkF [.lst (((ssR xs).map fun p : Pt => p.1 * ((bR xs / p.2 : Nat) : Int)).map D.int)] (P ++ [Cn.dead, Cn.dead]) = .ok (.lst ((tR xs).map D.int)) (P ++ [Cn.dead, Cn.dead]) := by
      unfold bSorted
      simp only [getQ_lst, Option.bind_some, intsOf_map, mkF_app]
      rfl
    simp only [MxE, ySet_app, xLc_app, iSrc_app, xFn_app, xCons_app, xNil_app, xVar_app, List.getElem?_cons_zero, List.getElem?_cons_succ, Res.bind_ok, srcL_lst, wipeE_cons, wipeE_nil, List.set_cons_succ, List.set_cons_zero, hc, mkF_app, hs, enso_out, ens_ok, enso_nx]
    exact hR _ _ ⟨rfl, rfl⟩
  rintro e S ⟨rfl, rfl⟩
  refine ens_sq (fun e S => S = P ++ [Cn.dead, Cn.dead, Cn.lst []] ∧ e = MxE xs [some (.lst ((endsR xs xs.length).map fr)), v2, some (.lst ((ssR xs).map ptD)), v4, some (.int (bR xs : Int)), some (.lst ((tR xs).map D.int)), some (.cell (P.length + 2)), none, v9, v10, none, none, none]) (fun R' hR => ?_) ?_
  · simp
    exact hR _ _ ⟨rfl, rfl⟩
  rintro e S ⟨rfl, rfl⟩
  have tl : (tR xs).length ≤ 7 := by
    unfold tR topsR
    rw [List.length_mergeSort, List.length_map]
    exact sl
  refine ens_sq (fun e S => ∃ r : List (Option D), S = P ++ [Cn.dead, Cn.dead, Cn.dead] ∧ e = MxE xs ([some (.lst ((endsR xs xs.length).map fr)), v2, some (.lst ((ssR xs).map ptD)), v4, some (.int (bR xs : Int)), some (.lst ((tR xs).map D.int)), some (.lst (mixR xs))] ++ r)) (fun R' hR => ?_) ?_
  · refine ens_sq (fun e S => ∃ v8 v11 v12 v13, S = P ++ [Cn.dead, Cn.dead, Cn.lst (mixR xs)] ∧ e = MxE xs [some (.lst ((endsR xs xs.length).map fr)), v2, some (.lst ((ssR xs).map ptD)), v4, some (.int (bR xs : Int)), some (.lst ((tR xs).map D.int)), some (.cell (P.length + 2)), v8, v9, v10, v11, v12, v13]) (fun R2 hR2 => ?_) ?_
    · have bln : bLen [.lst ((tR xs).map D.int)] (P ++ [Cn.dead, Cn.dead, Cn.lst []]) = .ok (.int ((tR xs).length : Nat)) (P ++ [Cn.dead, Cn.dead, Cn.lst []]) := by simp
      simp only [MxE, yFor_app, iSrcA_app, xFn_app, xCons_app, xNil_app, xVar_app, List.getElem?_cons_zero, List.getElem?_cons_succ, Res.bind_ok, bln, rng_src (show (tR xs).length ≤ 1000000 by omega), enso_out, ens_ok]
      refine ens_fr (fun i e S => ∃ v8 v11 v12 v13, S = P ++ [Cn.dead, Cn.dead, Cn.lst ((List.range i).map (partR xs))] ∧ e = MxE xs [some (.lst ((endsR xs xs.length).map fr)), v2, some (.lst ((ssR xs).map ptD)), v4, some (.int (bR xs : Int)), some (.lst ((tR xs).map D.int)), some (.cell (P.length + 2)), v8, v9, v10, v11, v12, v13]) ⟨none, none, none, none, rfl, rfl⟩ ?_ ?_
      · rintro i d e S R3 hd ⟨v8, v11, v12, v13, rfl, rfl⟩ hR3
        obtain ⟨rfl, hi⟩ := irange_get hd
        have hmem : (tR xs).getD i 0 ∈ tR xs := by rw [List.getD_eq_getElem?_getD, List.getElem?_eq_getElem hi]; exact List.getElem_mem hi
        obtain ⟨t0, t1⟩ := h.t hmem
        have bz : Sz 440 ((bR xs : Nat) : Int) := by show ((bR xs : Nat) : Int).natAbs < _; rw [Int.natAbs_natCast]; omega
        have rr := fun S => ratio_r ((tR xs).getD i 0) ((bR xs : Nat) : Int) 440 S (by omega) bz (by decide)
        have uf : Fs 450 (uR xs i) := by
          have o : On (bR xs) 1 (uR xs i) := On.div hb.2.1 rfl (by omega)
          exact (o.fs hb.2.2 (by rw [Nat.one_mul]; exact hb.2.2)).le (by decide)
        have ixt : ∀ S, dIx (.lst ((tR xs).map D.int)) (.int (i : Int)) S = .ok (.int ((tR xs).getD i 0)) S := fun S => by
          rw [dIx_lst, atI_nat (by rw [List.getElem?_map, List.getElem?_eq_getElem hi]; rfl), List.getD_eq_getElem?_getD, List.getElem?_eq_getElem hi]
          rfl
        have ixe : ∀ (j : Nat) (hj : j ≤ xs.length) S, dIx (.lst ((endsR xs xs.length).map fr)) (.int (j : Int)) S = .ok (fr (E0 xs j)) S := fun j hj S => by
          have ej : (endsR xs xs.length)[j]? = some (E0 xs j) := by
            unfold endsR
            rw [List.getElem?_map, List.getElem?_range (by omega)]
            rfl
          rw [dIx_lst, atI_nat (by rw [List.getElem?_map, ej]; rfl)]
        have ixn : ∀ S, dIx (.lst ((tR xs).map D.int ++ [.int (bR xs : Int)])) (.int ((i + 1 : Nat) : Int)) S = .ok (.int ((tR xs ++ [(bR xs : Int)]).getD (i + 1) 0)) S := fun S => by
          have e : (tR xs).map D.int ++ [.int (bR xs : Int)] = (tR xs ++ [(bR xs : Int)]).map D.int := by rw [List.map_append]; rfl
          have hl : i + 1 < (tR xs ++ [(bR xs : Int)]).length := by rw [List.length_append, List.length_singleton]; omega
          rw [e, dIx_lst, atI_nat (by rw [List.getElem?_map, List.getElem?_eq_getElem hl]; rfl), List.getD_eq_getElem?_getD, List.getElem?_eq_getElem hl]
          rfl
        simp only [Int.zero_add, gN_app, enso_nx, List.set_cons_succ, List.set_cons_zero]
        generalize hS : P ++ [Cn.dead, Cn.dead, Cn.lst ((List.range i).map (partR xs))] = S at *
        refine ens_sq (fun e S2 => S2 = S ∧ e = MxE xs [some (.lst ((endsR xs xs.length).map fr)), v2, some (.lst ((ssR xs).map ptD)), v4, some (.int (bR xs : Int)), some (.lst ((tR xs).map D.int)), some (.cell (P.length + 2)), some (.int (i : Int)), v9, v10, some (fr (uR xs i)), v12, v13]) (fun R4 hR4 => ?_) ?_
        · simp only [ySet_app, xFn_app, xOp_app, xCons_app, xNil_app, xVar_app, List.getElem?_cons_zero, List.getElem?_cons_succ, Res.bind_ok, ixt, rr, enso_out, ens_ok, enso_nx, List.set_cons_succ, List.set_cons_zero]
          exact hR4 _ _ ⟨rfl, rfl⟩
        rintro e S2 ⟨rfl, rfl⟩
        refine ens_sq (fun e S3 => S3 = S2 ∧ e = MxE xs [some (.lst ((endsR xs xs.length).map fr)), v2, some (.lst ((ssR xs).map ptD)), v4, some (.int (bR xs : Int)), some (.lst ((tR xs).map D.int)), some (.cell (P.length + 2)), some (.int (i : Int)), v9, v10, some (fr (uR xs i)), some (.lst ((planR xs (uR xs i)).map D.int)), v13]) (fun R4 hR4 => ?_) ?_
        · have hc : lcL (fun _ => True) (eN 13) cYes (xFn F_many_between (xCons (xOp dIx (xVar 1) (xVar 13)) (xCons (xOp dIx (xVar 1) (xOp (dAdd mkF) (xVar 13) (xC (.int 1)))) (xCons (xVar 11) xNil)))) (MxE xs [some (.lst ((endsR xs xs.length).map fr)), v2, some (.lst ((ssR xs).map ptD)), v4, some (.int (bR xs : Int)), some (.lst ((tR xs).map D.int)), some (.cell (P.length + 2)), some (.int (i : Int)), v9, v10, some (fr (uR xs i)), v12, none]) (irange 0 (List.range xs.length).length) [] S2 = .ok ([] ++ (List.range xs.length).map fun j => D.int (manyI xs (uR xs i) j)) S2 := by
            refine lc_rng (fun j => D.int (manyI xs (uR xs i) j)) (List.range xs.length) 0 [] (fun j hj => ⟨_, rfl, ?_⟩) (by simp; omega)
            have hj2 : j < xs.length := by simpa using hj
            have e1 : (j : Int) + 1 = ((j + 1 : Nat) : Int) := rfl
            simp only [MxE, List.set_cons_succ, List.set_cons_zero, xFn_app, xOp_app, xC_app, xCons_app, xNil_app, xVar_app, List.getElem?_cons_zero, List.getElem?_cons_succ, Res.bind_ok, Int.zero_add, dAdd_int, e1, ixe j (by omega), ixe (j + 1) (by omega), many_r (h.Ef (show j ≤ xs.length by omega)) (h.Ef (show j + 1 ≤ xs.length by omega)) uf, List.getElem_range]
            rfl
          rw [List.length_range, List.nil_append] at hc
          have pe : ((planR xs (uR xs i)).map D.int) = (List.range xs.length).map fun j => D.int (manyI xs (uR xs i) j) := by unfold planR; rw [List.map_map]; rfl
          have bx : bLen [.lst (xs.map fr)] S2 = .ok (.int (xs.length : Nat)) S2 := by simp
          simp only [MxE] at hc
          simp only [MxE, ySet_app, xLc_app, iSrcA_app, xFn_app, xCons_app, xNil_app, xVar_app, List.getElem?_cons_zero, List.getElem?_cons_succ, Res.bind_ok, bx, rng_src (show xs.length ≤ 1000000 by omega), wipeE_cons, wipeE_nil, List.set_cons_succ, List.set_cons_zero, hc, mkF_app, enso_out, ens_ok, enso_nx]
          rw [← pe]
          exact hR4 _ _ ⟨rfl, rfl⟩
        rintro e S3 ⟨rfl, rfl⟩
        subst hS
        have al : ((List.range i).map (partR xs)).length < 16000000 := by rw [List.length_map, List.length_range]; omega
        have e1 : (i : Int) + 1 = ((i + 1 : Nat) : Int) := rfl
        have ll : ((tR xs).map D.int).length + (0 + 1) ≤ 16000000 := by rw [List.length_map]; omega
        simp only [MxE, yExpr_app, xMt_app, xTup_app, xLst_app, xFn_app, xOp_app, xC_app, xCons_app, xNil_app, xVar_app, List.getElem?_cons_zero, List.getElem?_cons_succ, Res.bind_ok, List.length_cons, List.length_nil, if_pos (show 0 + 1 + 1 ≤ 1000 by decide), if_pos (show 0 + 1 ≤ 1000 by decide), mkF_app, dAdd_lst, if_pos ll, dAdd_int, e1, ixn, ixt, dSub_ok]
        simp only [isT, app_at2, beq_self_eq_true, if_true, mAppend, cellL, if_pos al, Res.bind_ok, Res.out_ok, Out.seq_nx, app_set2, enso_out, ens_ok, enso_nx]
        refine hR3 _ _ ⟨_, _, _, _, ?_, rfl⟩
        rw [List.range_succ, List.map_append]
        rfl
      · rintro e S ⟨v8, v11, v12, v13, rfl, rfl⟩
        rw [irange_length]
        exact hR2 _ _ ⟨_, _, _, _, rfl, rfl⟩
    rintro e S ⟨v8, v11, v12, v13, rfl, rfl⟩
    simp [frzE, frz, app_at2, app_set2]
    exact hR _ _ ⟨_, rfl, rfl⟩
  rintro e S ⟨r, rfl, rfl⟩
  simp only [MxE, List.cons_append, yRet_app, xVar_app, List.getElem?_cons_zero, List.getElem?_cons_succ, enso_out, ens_ok, enso_rt]
  rw [fin_cut rfl hP (mix_under _ _ fun d hd => ?_), ens_ok]
  · exact ⟨rfl, rfl⟩
  · obtain ⟨k, _, rfl⟩ := List.mem_map.mp hd
    exact ⟨_, _, rfl⟩
/-! ### how often each box is looked into, on one common bottom -/
def xW (bs : List Bx) (ns : List Nat) (w : Rat) (j : Nat) : Rat := (nAt ns j : Rat) + (w - (1 - hAt bs ns j)) / (eta (bxAt bs j) * hAt bs ns j)
def xsW (bs : List Bx) (ns : List Nat) (w : Rat) : List Rat := (List.range bs.length).map (xW bs ns w)
theorem xsW_len (bs : List Bx) (ns : List Nat) (w : Rat) : (xsW bs ns w).length = bs.length := by unfold xsW; simp
theorem xsW_at {bs : List Bx} {ns : List Nat} {w : Rat} {j : Nat} (h : j < bs.length) : (xsW bs ns w).getD j 0 = xW bs ns w j := by
  unfold xsW
  rw [List.getD_eq_getElem?_getD, List.getElem?_map, List.getElem?_range h]
  rfl
def prodN : Nat → (Nat → Nat) → Nat
  | 0, _ => 1
  | n + 1, f => prodN n f * f n
theorem prodN_dvd {f : Nat → Nat} : ∀ (n : Nat) {j : Nat}, j < n → f j ∣ prodN n f
  | 0, _, h => by omega
  | n + 1, j, h => by
    rw [prodN]
    by_cases e : j = n
    · subst e; exact Nat.dvd_mul_left _ _
    · exact Nat.dvd_trans (prodN_dvd n (by omega)) (Nat.dvd_mul_right _ _)
theorem prodN_pos {f : Nat → Nat} : ∀ n : Nat, (∀ j < n, 0 < f j) → 0 < prodN n f
  | 0, _ => Nat.one_pos
  | n + 1, h => Nat.mul_pos (prodN_pos n fun j hj => h j (by omega)) (h n (by omega))
def hN (bs : List Bx) (j : Nat) : Nat := (bxAt bs j).2.1.toNat
def oN (bs : List Bx) (j : Nat) : Nat := (bxAt bs j).2.2.toNat
def cN (bs : List Bx) (j : Nat) : Nat := (bxAt bs j).1.toNat
def qN (bs : List Bx) (ns : List Nat) (j : Nat) : Nat := hN bs j * (oN bs j - hN bs j) ^ nAt ns j
def uN (bs : List Bx) (ns : List Nat) (j : Nat) : Nat := cN bs j * (oN bs j * oN bs j ^ nAt ns j)
def pN (bs : List Bx) (ns : List Nat) : Nat → Nat
  | 0 => 0
  | n + 1 => pN bs ns n * qN bs ns n + prodN n (qN bs ns) * uN bs ns n
structure Qs (bs : List Bx) (j : Nat) : Prop where
  c : cQ bs j = (cN bs j : Rat)
  e : eta (bxAt bs j) * (oN bs j : Rat) = (hN bs j : Rat)
  m : mu (bxAt bs j) * (oN bs j : Rat) = ((oN bs j - hN bs j : Nat) : Rat)
  h1 : 1 ≤ hN bs j
  h2 : hN bs j ≤ oN bs j
  o : oN bs j ≤ 50
  c1 : 1 ≤ cN bs j
  c2 : cN bs j ≤ 60
theorem BsOk.qs {bs : List Bx} (hb : BsOk bs) {j : Nat} (hj : j < bs.length) : Qs bs j := by
  have z := hb.at hj
  have h1 := z.h1
  have h2 := z.h2
  have ho := z.o
  have c1 := z.c1
  have c2 := z.c2
  have eh : ((hN bs j : Nat) : Int) = (bxAt bs j).2.1 := Int.toNat_of_nonneg (by omega)
  have eo : ((oN bs j : Nat) : Int) = (bxAt bs j).2.2 := Int.toNat_of_nonneg (by omega)
  have ec : ((cN bs j : Nat) : Int) = (bxAt bs j).1 := Int.toNat_of_nonneg (by omega)
  have qh : ((hN bs j : Nat) : Rat) = ((bxAt bs j).2.1 : Rat) := by rw [← eh, Rat.intCast_natCast]
  have qo : ((oN bs j : Nat) : Rat) = ((bxAt bs j).2.2 : Rat) := by rw [← eo, Rat.intCast_natCast]
  have ql : hN bs j ≤ oN bs j := by omega
  have qd : ((oN bs j - hN bs j : Nat) : Rat) = (((bxAt bs j).2.2 - (bxAt bs j).2.1 : Int) : Rat) := by
    rw [← eo, ← eh, ← Rat.intCast_natCast]
    congr 1
    omega
  have o0 : ((bxAt bs j).2.2 : Rat) ≠ 0 := intq (by omega)
  refine ⟨by rw [← Rat.intCast_natCast, ec], ?_, ?_, by omega, ql, by omega, by omega, by omega⟩
  · rw [qh, qo]; unfold eta; rw [Rat.div_mul_cancel o0]
  · rw [qd, qo]; unfold mu; rw [Rat.div_mul_cancel o0]
theorem rmul_pow (a b : Rat) : ∀ n : Nat, (a * b) ^ n = a ^ n * b ^ n
  | 0 => by simp only [Rat.pow_zero]; grind
  | n + 1 => by rw [Rat.pow_succ, Rat.pow_succ, Rat.pow_succ, rmul_pow a b n]; grind
theorem Qs.q {bs : List Bx} {ns : List Nat} {j : Nat} (h : Qs bs j) : (qN bs ns j : Rat) = eta (bxAt bs j) * hAt bs ns j * ((oN bs j * oN bs j ^ nAt ns j : Nat) : Rat) := by
  unfold qN hAt
  rw [Rat.natCast_mul, Rat.natCast_pow, Rat.natCast_mul, Rat.natCast_pow, ← h.m, ← h.e, rmul_pow]
  grind
theorem Qs.u {bs : List Bx} {ns : List Nat} {j : Nat} (h : Qs bs j) : (uN bs ns j : Rat) = cQ bs j * ((oN bs j * oN bs j ^ nAt ns j : Nat) : Rat) := by
  unfold uN
  rw [Rat.natCast_mul, h.c]
theorem ic_q {bs : List Bx} {ns : List Nat} {j : Nat} (h : Qs bs j) (e0 : eta (bxAt bs j) ≠ 0) (hp : hAt bs ns j ≠ 0) : icR bs ns j * (qN bs ns j : Rat) = (uN bs ns j : Rat) := by
  rw [h.q, h.u]
  unfold icR
  grind
theorem pr_int {bs : List Bx} (hb : BsOk bs) {ns : List Nat} (hp : ∀ j < bs.length, 0 < hAt bs ns j) : ∀ n, n ≤ bs.length → sumN n (icR bs ns) * (prodN n (qN bs ns) : Rat) = (pN bs ns n : Rat)
  | 0, _ => by unfold sumN pN; grind
  | n + 1, hn => by
    have ih := pr_int hb hp n (by omega)
    have hj : n < bs.length := by omega
    have a := ic_q (ns := ns) (hb.qs hj) (Rat.ne_of_gt (hb.at hj).q.2.2.1) (Rat.ne_of_gt (hp n hj))
    rw [sumN, prodN, pN, Rat.natCast_mul, Rat.natCast_add, Rat.natCast_mul, Rat.natCast_mul, ← ih, ← a]
    grind
theorem take_sum {ns : List Nat} (i : Nat) (h : i < ns.length) : (ns.take (i + 1)).sum = (ns.take i).sum + nAt ns i := by
  rw [List.take_add_one, List.sum_append, List.getElem?_eq_getElem h]
  unfold nAt
  rw [List.getD_eq_getElem?_getD, List.getElem?_eq_getElem h]
  simp
theorem take_le (ns : List Nat) (i : Nat) : (ns.take i).sum ≤ ns.sum := by
  have := congrArg List.sum (List.take_append_drop i ns)
  rw [List.sum_append] at this
  omega
theorem q_le {bs : List Bx} {ns : List Nat} {j : Nat} (h : Qs bs j) : qN bs ns j ≤ 50 ^ (nAt ns j + 1) := by
  have := h.h2
  have := h.o
  unfold qN
  rw [Nat.pow_succ, Nat.mul_comm]
  exact Nat.mul_le_mul (Nat.pow_le_pow_left (by omega) _) (by omega)
theorem u_le {bs : List Bx} {ns : List Nat} {j : Nat} (h : Qs bs j) : uN bs ns j ≤ 60 * 50 ^ (nAt ns j + 1) := by
  have := h.c2
  have := h.o
  unfold uN
  rw [Nat.pow_succ, Nat.mul_comm (50 ^ nAt ns j)]
  exact Nat.mul_le_mul (by omega) (Nat.mul_le_mul (by omega) (Nat.pow_le_pow_left (by omega) _))
theorem g_le {bs : List Bx} (hb : BsOk bs) {ns : List Nat} (hl : ns.length = bs.length) : ∀ n, n ≤ bs.length → prodN n (qN bs ns) ≤ 50 ^ ((ns.take n).sum + n) ∧ pN bs ns n ≤ n * 60 * 50 ^ ((ns.take n).sum + n)
  | 0, _ => by simp [prodN, pN]
  | n + 1, hn => by
    obtain ⟨a, b⟩ := g_le hb hl n (by omega)
    have hj : n < bs.length := by omega
    have q := q_le (ns := ns) (hb.qs hj)
    have u := u_le (ns := ns) (hb.qs hj)
    rw [take_sum n (by omega), show (ns.take n).sum + nAt ns n + (n + 1) = ((ns.take n).sum + n) + (nAt ns n + 1) by omega, Nat.pow_add 50 ((ns.take n).sum + n)]
    refine ⟨Nat.mul_le_mul a q, ?_⟩
    rw [pN]
    have h1 := Nat.mul_le_mul b q
    have h2 := Nat.mul_le_mul a u
    have e1 : n * 60 * 50 ^ ((ns.take n).sum + n) * 50 ^ (nAt ns n + 1) = n * 60 * (50 ^ ((ns.take n).sum + n) * 50 ^ (nAt ns n + 1)) := Nat.mul_assoc _ _ _
    have e2 : 50 ^ ((ns.take n).sum + n) * (60 * 50 ^ (nAt ns n + 1)) = 60 * (50 ^ ((ns.take n).sum + n) * 50 ^ (nAt ns n + 1)) := Nat.mul_left_comm _ _ _
    have e3 : (n + 1) * 60 * (50 ^ ((ns.take n).sum + n) * 50 ^ (nAt ns n + 1)) = n * 60 * (50 ^ ((ns.take n).sum + n) * 50 ^ (nAt ns n + 1)) + 60 * (50 ^ ((ns.take n).sum + n) * 50 ^ (nAt ns n + 1)) := by rw [Nat.add_mul, Nat.add_mul, Nat.one_mul]
    omega
theorem h_le {bs : List Bx} (hb : BsOk bs) : ∀ n, n ≤ bs.length → prodN n (hN bs) ≤ 50 ^ n
  | 0, _ => by simp [prodN]
  | n + 1, hn => by
    have := (hb.qs (show n < bs.length by omega)).h2
    have := (hb.qs (show n < bs.length by omega)).o
    rw [prodN, Nat.pow_succ]
    exact Nat.mul_le_mul (h_le hb n (by omega)) (by omega)
theorem on_sumN {N : Nat} (h0 : 0 < N) {g : Nat → Rat} : ∀ n : Nat, (∀ j < n, ∃ B, On N B (g j)) → ∃ B, On N B (sumN n g)
  | 0, _ => ⟨0, On.zero h0⟩
  | n + 1, h => by
    obtain ⟨B, hB⟩ := on_sumN h0 n fun j hj => h j (by omega)
    obtain ⟨C, hC⟩ := h n (by omega)
    exact ⟨B + C, by rw [sumN]; exact hB.add hC⟩
theorem on_of {N : Nat} {x : Rat} (h0 : 0 < N) (a : Int) (e : x * (N : Rat) = (a : Rat)) : ∃ B, On N B x := ⟨a.natAbs, h0, a, e, Nat.le_mul_of_pos_right _ h0⟩
/-- one bottom for all looks -/
theorem CA.hpos {bs : List Bx} {b : Nat} {ns : List Nat} {s : Rat} (h : CA bs b ns s) : ∀ j < bs.length, 0 < hAt bs ns j := fun j hj => by
  have := h.hi j hj
  have := h.pos
  grind
theorem CA.s_eq {bs : List Bx} (hb : BsOk bs) {b : Nat} {ns : List Nat} {s : Rat} (h : CA bs b ns s) : 0 < prR bs ns ∧ s = (kaR bs ns - (b : Rat)) / prR bs ns := by
  have p : 0 < prR bs ns := sumN_pos _ hb.b1 fun j hj => ic_pos hb hj (h.hpos j hj)
  have e := h.bud
  rw [usR_eq] at e
  have : prR bs ns ≠ 0 := Rat.ne_of_gt p
  exact ⟨p, by grind⟩
theorem frac01 {M e s : Rat} (hM : 0 < M) (he : 0 < e) (h1 : s ≤ M) (h2 : M * (1 - e) < s) : 0 ≤ (M - s) / (e * M) ∧ (M - s) / (e * M) < 1 := by
  have p : 0 < e * M := Rat.mul_pos he hM
  have i := Rat.inv_pos.mpr p
  refine ⟨by rw [Rat.div_def]; exact Rat.mul_nonneg (by grind) (Rat.le_of_lt i), ?_⟩
  rw [Rat.div_lt_iff p]
  grind
theorem alg_x {n F p e M O r H K o t s : Rat} (a1 : F * (e * M) = M - s) (sp : s * p = K) (hq : H = e * o * t) : (n + F) * (p * (e * M * O * r) * H) = n * (p * (e * M * O * r) * H) + o * t * (p * (e * M * O * r)) - K * H * (O * r) := by
  have b1 : (n + F) * (p * (e * M * O * r) * H) = n * (p * (e * M * O * r) * H) + (F * (e * M)) * p * O * r * H := by grind
  have b2 : (M - s) * p * O * r * H = M * p * O * r * H - (s * p) * O * r * H := by grind
  rw [b1, a1, b2, sp]
  have b3 : M * p * O * r * H = o * t * (p * (e * M * O * r)) := by rw [hq]; grind
  rw [b3]
  grind
theorem alg_k {c n e o r : Rat} (e0 : e ≠ 0) : (c * n + c / e) * (e * o * r) = c * n * (e * o * r) + c * o * r := by
  have : c / e * e = c := Rat.div_mul_cancel e0
  have e2 : (c * n + c / e) * (e * o * r) = c * n * (e * o * r) + (c / e * e) * o * r := by grind
  rw [e2, this]
theorem alg_b {n F : Rat} (h0 : 0 ≤ n) (h1 : n ≤ 60) (f0 : 0 ≤ F) (f1 : F < 1) : -((61 : Nat) : Rat) ≤ n + F ∧ n + F ≤ ((61 : Nat) : Rat) := by
  have : ((61 : Nat) : Rat) = 61 := rfl
  rw [this]
  constructor <;> grind
theorem alg_s {s p K : Rat} (p0 : 0 < p) (h : s = K / p) : s * p = K := by rw [h]; exact Rat.div_mul_cancel (Rat.ne_of_gt p0)
theorem alg_w {s M : Rat} : (1 - s) - (1 - M) = M - s := by grind
theorem alg_m {M e m : Rat} (he : e = 1 - m) : M * m = M * (1 - e) := by rw [he]; grind
theorem alg_1 : (1 : Rat) + (1 - (1 - 1 * 0)) / (0 : Rat) = 1 := by grind
theorem looks_on {bs : List Bx} (hb : BsOk bs) {b : Nat} {ns : List Nat} {w : Rat} (h : Clm bs b ns w) : ∃ dm, LkOk (xsW bs ns w) dm := by
  have b6 := hb.b6
  have b1 := hb.b1
  rcases h with ⟨s, rfl, h⟩ | ⟨rfl, h⟩
  · obtain ⟨p0, se⟩ := h.s_eq hb
    have hp := h.hpos
    have pi := pr_int hb hp bs.length (Nat.le_refl _)
    obtain ⟨gl, pl⟩ := g_le hb h.len bs.length (Nat.le_refl _)
    have hl := h_le hb bs.length (Nat.le_refl _)
    have tl := take_le ns bs.length
    have sm := h.sum
    have qpos : ∀ j < bs.length, 0 < qN bs ns j := fun j hj => by
      have a := (hb.qs hj).q (ns := ns)
      have : 0 < ((oN bs j * oN bs j ^ nAt ns j : Nat) : Rat) := by
        have := (hb.qs hj).h1
        have := (hb.qs hj).h2
        exact Rat.natCast_pos.mpr (Nat.mul_pos (by omega) (Nat.pow_pos (by omega)))
      have : (0 : Rat) < (qN bs ns j : Rat) := by rw [a]; exact Rat.mul_pos (Rat.mul_pos (hb.at hj).q.2.2.1 (hp j hj)) this
      exact Rat.natCast_pos.mp this
    have gp : 0 < prodN bs.length (qN bs ns) := prodN_pos _ qpos
    have Hp : 0 < prodN bs.length (hN bs) := prodN_pos _ fun j hj => (hb.qs hj).h1
    have qG : ∀ j < bs.length, qN bs ns j ∣ prodN bs.length (qN bs ns) := fun j hj => prodN_dvd _ hj
    have hH : ∀ j < bs.length, hN bs j ∣ prodN bs.length (hN bs) := fun j hj => prodN_dvd _ hj
    have pq : prR bs ns * (prodN bs.length (qN bs ns) : Rat) = (pN bs ns bs.length : Rat) := pi
    have Pp : 0 < pN bs ns bs.length := by
      have : (0 : Rat) < (pN bs ns bs.length : Rat) := by rw [← pq]; exact Rat.mul_pos p0 (Rat.natCast_pos.mpr gp)
      exact Rat.natCast_pos.mp this
    have e60 : 50 ^ ((ns.take bs.length).sum + bs.length) ≤ 50 ^ 66 := Nat.pow_le_pow_right (by decide) (by omega)
    have Pl : pN bs ns bs.length ≤ 360 * 50 ^ 66 := Nat.le_trans pl (Nat.mul_le_mul (by omega) e60)
    have Hl : prodN bs.length (hN bs) ≤ 50 ^ 6 := Nat.le_trans hl (Nat.pow_le_pow_right (by decide) (by omega))
    generalize hG : prodN bs.length (qN bs ns) = G at *
    generalize hHH : prodN bs.length (hN bs) = H at *
    generalize hPP : pN bs ns bs.length = PP at *
    have onk : ∃ B, On H B (kaR bs ns - (b : Rat)) := by
      have h1 : ∃ B, On H B (kaR bs ns) := on_sumN Hp _ fun j hj => by
        obtain ⟨r, hr⟩ := hH j hj
        have q := hb.qs hj
        have e0 : eta (bxAt bs j) ≠ 0 := Rat.ne_of_gt (hb.at hj).q.2.2.1
        refine on_of Hp ((cN bs j * nAt ns j * H + cN bs j * oN bs j * r : Nat) : Int) ?_
        rw [hr, Rat.intCast_natCast]
        simp only [Rat.natCast_add, Rat.natCast_mul]
        rw [q.c, ← q.e]
        exact alg_k e0
      obtain ⟨B, hB⟩ := h1
      have h2 : On H b (b : Rat) := by
        have := (On.int (b : Int)).up (M := H) (Nat.one_dvd _) Hp
        rwa [Rat.intCast_natCast, Int.natAbs_natCast] at this
      exact ⟨_, hB.sub h2⟩
    obtain ⟨BA, _, A, hA, _⟩ := onk
    refine ⟨PP * H, by rw [xsW_len]; exact b6, by rw [xsW_len]; exact b1, Nat.mul_pos Pp Hp, ?_, fun j hj => ?_⟩
    · exact Nat.lt_of_le_of_lt (Nat.mul_le_mul Pl Hl) (by decide)
    · rw [xsW_len] at hj
      rw [xsW_at hj]
      have q := hb.qs hj
      have M0 := hp j hj
      have e0 := (hb.at hj).q.2.2.1
      obtain ⟨_, _, _, e3⟩ := mu01 (hb.at hj)
      have lo := h.lo j hj
      have hi := h.hi j hj
      rw [Rat.pow_succ] at lo
      rw [alg_m e3] at lo
      have f01 := frac01 M0 e0 hi lo
      have n60 : nAt ns j ≤ 60 := Nat.le_trans (nAt_le j) h.sum
      have nq : (nAt ns j : Rat) ≤ ((60 : Nat) : Rat) := Rat.natCast_le_natCast.mpr n60
      have n0 : (0 : Rat) ≤ (nAt ns j : Rat) := Rat.natCast_nonneg
      have xe : xW bs ns (1 - s) j = (nAt ns j : Rat) + (hAt bs ns j - s) / (eta (bxAt bs j) * hAt bs ns j) := by
        unfold xW
        rw [alg_w]
      obtain ⟨r, hr⟩ := qG j hj
      obtain ⟨t, ht⟩ := hH j hj
      have onx : ∃ B, On (PP * H) B (xW bs ns (1 - s) j) := by
        refine on_of (Nat.mul_pos Pp Hp) ((nAt ns j * (PP * H) + oN bs j * t * PP : Nat) - A * ((oN bs j * oN bs j ^ nAt ns j * r : Nat) : Int)) ?_
        have qq := q.q (ns := ns)
        rw [xe, Rat.intCast_sub, Rat.intCast_mul, Rat.intCast_natCast, Rat.intCast_natCast, ← hA, Rat.natCast_add, Rat.natCast_mul _ r]
        have gq : (G : Rat) = (eta (bxAt bs j) * hAt bs ns j * ((oN bs j * oN bs j ^ nAt ns j : Nat) : Rat)) * (r : Rat) := by rw [hr, Rat.natCast_mul, qq]
        have hq : (H : Rat) = eta (bxAt bs j) * (oN bs j : Rat) * (t : Rat) := by rw [ht, Rat.natCast_mul, q.e]
        rw [Rat.natCast_mul (nAt ns j), Rat.natCast_mul PP H, Rat.natCast_mul _ PP, Rat.natCast_mul (oN bs j) t]
        generalize ((oN bs j * oN bs j ^ nAt ns j : Nat) : Rat) = O at *
        generalize (oN bs j : Rat) = o at *
        generalize (nAt ns j : Rat) = n at *
        generalize (r : Rat) = r at *
        generalize (t : Rat) = t at *
        generalize hAt bs ns j = M at *
        generalize eta (bxAt bs j) = e at *
        rw [← pq, gq]
        exact alg_x (Rat.div_mul_cancel (Rat.ne_of_gt (Rat.mul_pos e0 M0))) (alg_s p0 se) hq
      obtain ⟨B, hB⟩ := onx
      have bd := alg_b n0 nq f01.1 f01.2
      rw [← xe] at bd
      exact hB.bd bd.1 bd.2
  · refine ⟨1, by rw [xsW_len]; exact b6, by rw [xsW_len]; exact b1, by decide, by decide, fun j hj => ?_⟩
    rw [xsW_len] at hj
    rw [xsW_at hj]
    have e : xW bs ns 1 j = 1 := by
      unfold xW hAt
      rw [h.one j hj, h.mu0 j hj, Rat.pow_succ, Rat.pow_zero, Rat.mul_zero, Rat.mul_zero]
      have : ((1 : Nat) : Rat) = 1 := rfl
      rw [this]
      grind
    rw [e]
    exact (On.one (by decide)).mono (by decide)
theorem Clm.len {bs : List Bx} {b : Nat} {ns : List Nat} {w : Rat} (h : Clm bs b ns w) : ns.length = bs.length := by
  rcases h with ⟨s, _, h⟩ | ⟨_, h⟩
  · exact h.len
  · exact h.len
theorem Clm.n60 {bs : List Bx} {b : Nat} {ns : List Nat} {w : Rat} (h : Clm bs b ns w) : ∀ j < bs.length, nAt ns j ≤ 60 := fun j hj => by
  rcases h with ⟨s, _, h⟩ | ⟨_, h⟩
  · exact Nat.le_trans (nAt_le j) h.sum
  · rw [h.one j hj]; decide
theorem Clm.wf {bs : List Bx} (hb : BsOk bs) {b : Nat} (h60 : b ≤ 60) {ns : List Nat} {w : Rat} (h : Clm bs b ns w) : Fs 2703 w := by
  have o1 : Fs 1 (1 : Rat) := (On.one (N := 1) (by decide)).fs (n := 1) (by decide) (by decide)
  have hn := h.n60
  rcases h with ⟨s, rfl, h⟩ | ⟨rfl, h⟩
  · obtain ⟨p, e⟩ := h.s_eq hb
    rw [e]
    exact (fs_sub o1 (fs_div (fs_sub (ka_fs hb hn) (n6 (show b ≤ 61 by omega))) (pr_fs hb hn h.hpos) p)).le (by decide)
  · exact o1.le (by decide)
theorem Clm.gain {bs : List Bx} (hb : BsOk bs) {b : Nat} {ns : List Nat} {w : Rat} (h : Clm bs b ns w) {j : Nat} (hj : j < bs.length) (hm : w - (1 - hAt bs ns j) ≠ 0) : 0 < hAt bs ns j := by
  rcases h with ⟨s, rfl, h⟩ | ⟨rfl, h⟩
  · exact h.hpos j hj
  · refine absurd ?_ hm
    unfold hAt
    rw [h.one j hj, h.mu0 j hj, Rat.pow_succ, Rat.mul_zero]
    grind
theorem pl_at {ns : List Nat} {j : Nat} (h : j < ns.length) (S : Store) : dIx (plD ns) (.int (j : Int)) S = .ok (.int (nAt ns j : Nat)) S := by
  have := pl_ix h S
  rw [Int.zero_add] at this
  rw [this]
  unfold nAt
  rw [List.getD_eq_getElem?_getD, List.getElem?_eq_getElem h]
  rfl
theorem looks_for_ok {bs : List Bx} (hb : BsOk bs) {b : Nat} (h60 : b ≤ 60) {ns : List Nat} {w : Rat} (h : Clm bs b ns w) {P : Store} (hP : (P.all fun c => c.under P.length) = true) : F_looks_for [bxsD bs, plD ns, fr w] P = .ok (.lst ((xsW bs ns w).map fr)) P := by
  have b6 := hb.b6
  obtain ⟨dm, lk⟩ := looks_on hb h
  have hn := h.n60
  rw [← ens_eq]
  refine ens_fn rfl ?_
  unfold b_looks_for
  simp only [List.map_cons, List.map_nil, List.replicate, List.cons_append, List.nil_append]
  refine ens_sq (fun e S => S = P ++ [Cn.lst []] ∧ e = [some (bxsD bs), some (plD ns), some (fr w), some (.cell P.length), none, none]) (fun R' hR => ?_) ?_
  · simp
    exact hR _ _ ⟨rfl, rfl⟩
  rintro e S ⟨rfl, rfl⟩
  refine ens_sq (fun e S => ∃ v4 v5, S = P ++ [Cn.dead] ∧ e = [some (bxsD bs), some (plD ns), some (fr w), some (.lst ((xsW bs ns w).map fr)), v4, v5]) (fun R' hR => ?_) ?_
  · refine ens_sq (fun e S => ∃ v4 v5, S = P ++ [Cn.lst ((xsW bs ns w).map fr)] ∧ e = [some (bxsD bs), some (plD ns), some (fr w), some (.cell P.length), v4, v5]) (fun R2 hR2 => ?_) ?_
    · simp only [yFor_app, iSrcA_app, xFn_app, xCons_app, xNil_app, xVar_app, List.getElem?_cons_zero, List.getElem?_cons_succ, Res.bind_ok, bx_len, rng_src (show bs.length ≤ 1000000 by omega), enso_out, ens_ok]
      refine ens_fr (fun i e S => ∃ v4 v5, S = P ++ [Cn.lst (((List.range i).map (xW bs ns w)).map fr)] ∧ e = [some (bxsD bs), some (plD ns), some (fr w), some (.cell P.length), v4, v5]) ⟨none, none, rfl, rfl⟩ ?_ ?_
      · rintro i d e S R3 hd ⟨v4, v5, rfl, rfl⟩ hR3
        obtain ⟨rfl, hi⟩ := irange_get hd
        have hz := hb.at hi
        have n60 := hn i hi
        have ff : Fs 400 (1 - hAt bs ns i) := fnd_fs hz (nAt ns i) (by omega)
        have mf : Fs 3104 (w - (1 - hAt bs ns i)) := fs_sub (h.wf hb h60) ff
        have gf : Fs 800 (eta (bxAt bs i) * hAt bs ns i) := fs_mul (eta_fs hz) (mu_fs hz _ (by omega))
        have fi := fun S => finding_r hz (nAt ns i) (by omega) S
        have fi2 : ∀ S, F_finding [bxD (bxAt bs i), .int (nAt ns i : Nat)] S = .ok (fr (1 - hAt bs ns i)) S := fi
        have mk2 : ∀ S, F_mark [bxD (bxAt bs i), .int (nAt ns i : Nat)] S = .ok (fr (eta (bxAt bs i) * hAt bs ns i)) S := fun S => mark_r hz (nAt ns i) n60 S
        have mn := minus_r ((h.wf hb h60).le (show 2703 ≤ 3104 by decide)) (ff.le (show 400 ≤ 3104 by decide)) (show 3104 ≤ 4500 by decide)
        have px := pl_at (ns := ns) (j := i) (by rw [h.len]; exact hi)
        simp only [Int.zero_add, gN_app, enso_nx, List.set_cons_succ, List.set_cons_zero]
        generalize hS : P ++ [Cn.lst (((List.range i).map (xW bs ns w)).map fr)] = S at *
        refine ens_sq (fun e S2 => S2 = S ∧ e = [some (bxsD bs), some (plD ns), some (fr w), some (.cell P.length), some (.int (i : Int)), some (fr (w - (1 - hAt bs ns i)))]) (fun R4 hR4 => ?_) ?_
        · simp only [ySet_app, xFn_app, xOp_app, xCons_app, xNil_app, xVar_app, List.getElem?_cons_zero, List.getElem?_cons_succ, Res.bind_ok, bx_at hi, px, fi2, mn, enso_out, ens_ok, enso_nx, List.set_cons_succ, List.set_cons_zero]
          exact hR4 _ _ ⟨rfl, rfl⟩
        rintro e S2 ⟨rfl, rfl⟩
        subst hS
        have al : (((List.range i).map (xW bs ns w)).map fr).length < 16000000 := by rw [List.length_map, List.length_map, List.length_range]; omega
        simp only [yIf_app, xIsT_app, xOp_app, xTup_app, xCons_app, xNil_app, xC_app, xVar_app, List.getElem?_cons_zero, List.getElem?_cons_succ, Res.bind_ok, List.length_cons, List.length_nil, if_pos (show 0 + 1 + 1 ≤ 1000 by decide), fr_zero, dEq_fr, isT, tru_bl, enso_out, ens_ok]
        by_cases q : w - (1 - hAt bs ns i) = 0
        · rw [if_pos (by simpa using q)]
          have xe : xW bs ns w i = (nAt ns i : Rat) := by
            unfold xW
            rw [q, Rat.div_def, Rat.zero_mul]
            grind
          have fe : D.tup [.int (nAt ns i : Nat), .int 1] = fr (xW bs ns w i) := by rw [fr_int, xe, Rat.intCast_natCast]
          simp only [yExpr_app, xMt_app, xTup_app, xFn_app, xOp_app, xC_app, xCons_app, xNil_app, xVar_app, List.getElem?_cons_zero, List.getElem?_cons_succ, Res.bind_ok, px, List.length_cons, List.length_nil, if_pos (show 0 + 1 + 1 ≤ 1000 by decide), fe]
          simp only [isT, app_at0, beq_self_eq_true, if_true, mAppend, cellL, if_pos al, Res.bind_ok, Res.out_ok, Out.seq_nx, app_set0, enso_out, ens_ok, enso_nx]
          refine hR3 _ _ ⟨_, _, ?_, rfl⟩
          rw [List.range_succ, List.map_append, List.map_append]
          rfl
        · rw [if_neg (by simpa using q)]
          have M0 := h.gain hb hi q
          have g0 : eta (bxAt bs i) * hAt bs ns i ≠ 0 := Rat.ne_of_gt (Rat.mul_pos hz.q.2.2.1 M0)
          have ov := over_r mf (gf.le (show 800 ≤ 3104 by decide)) g0 (show 3104 ≤ 4500 by decide)
          have onx := lk.on i (by rw [xsW_len]; exact hi)
          rw [xsW_at hi] at onx
          have onn : On dm 60 (nAt ns i : Rat) := by
            have := (On.int (nAt ns i : Int)).up (M := dm) (Nat.one_dvd _) lk.pos
            rw [Rat.intCast_natCast, Int.natAbs_natCast] at this
            exact this.mono n60
          have e450 : (2 : Nat) ^ 450 = 2 ^ 440 * 1024 := by rw [show 450 = 440 + 10 by decide, Nat.pow_add]
          have dz := lk.sz
          have Ff : Fs 450 ((w - (1 - hAt bs ns i)) / (eta (bxAt bs i) * hAt bs ns i)) := by
            have e : (w - (1 - hAt bs ns i)) / (eta (bxAt bs i) * hAt bs ns i) = xW bs ns w i - (nAt ns i : Rat) := by
              unfold xW
              generalize (w - (1 - hAt bs ns i)) / (eta (bxAt bs i) * hAt bs ns i) = y
              generalize (nAt ns i : Rat) = z
              grind
            rw [e]
            exact (onx.sub onn).fs (by omega) (by omega)
          have pl := plus_r ((n6 (show nAt ns i ≤ 61 by omega)).le (show 6 ≤ 450 by decide)) Ff (show 450 ≤ 4500 by decide)
          have pl2 : ∀ S, F_plus [fr (nAt ns i : Rat), fr ((w - (1 - hAt bs ns i)) / (eta (bxAt bs i) * hAt bs ns i))] S = .ok (fr (xW bs ns w i)) S := pl
          have fe : D.tup [.int (nAt ns i : Nat), .int 1] = fr (nAt ns i : Rat) := by rw [fr_int, Rat.intCast_natCast]
          simp only [yExpr_app, xMt_app, xTup_app, xFn_app, xOp_app, xC_app, xCons_app, xNil_app, xVar_app, List.getElem?_cons_zero, List.getElem?_cons_succ, Res.bind_ok, px, bx_at hi, mk2, ov, List.length_cons, List.length_nil, if_pos (show 0 + 1 + 1 ≤ 1000 by decide), fe, pl2]
          simp only [isT, app_at0, beq_self_eq_true, if_true, mAppend, cellL, if_pos al, Res.bind_ok, Res.out_ok, Out.seq_nx, app_set0, enso_out, ens_ok, enso_nx]
          refine hR3 _ _ ⟨_, _, ?_, rfl⟩
          rw [List.range_succ, List.map_append, List.map_append]
          rfl
      · rintro e S ⟨v4, v5, rfl, rfl⟩
        rw [irange_length]
        exact hR2 _ _ ⟨_, _, rfl, rfl⟩
    rintro e S ⟨v4, v5, rfl, rfl⟩
    simp [frzE, frz, app_at0, app_set0]
    exact hR _ _ ⟨v4, v5, by simp, by simp⟩
  rintro e S ⟨v4, v5, rfl, rfl⟩
  simp only [yRet_app, xVar_app, List.getElem?_cons_zero, List.getElem?_cons_succ, enso_out, ens_ok, enso_rt]
  rw [fin_cut rfl hP (by
    rw [D.under]
    exact underL_of fun d hd => by
      obtain ⟨x, _, rfl⟩ := List.mem_map.mp hd
      rfl), ens_ok]
  exact ⟨rfl, rfl⟩
/-! ### the hider's paper -/
def icL (bs : List Bx) (ns : List Nat) : List Rat := (List.range bs.length).map (icR bs ns)
def btR (bs : List Bx) (ns : List Nat) : Nat := botR ((icL bs ns).map (·.den))
def wtR (bs : List Bx) (ns : List Nat) : List Int := (icL bs ns).map fun x => x.num * ((btR bs ns / x.den : Nat) : Int)
def gcF (l : List Int) (b : Nat) : Nat := l.foldl (fun (g : Nat) (w : Int) => Int.gcd (g : Int) w) b
def ptR (bs : List Bx) (ns : List Nat) : Nat := gcF (wtR bs ns) (btR bs ns)
def paperD (bs : List Bx) (ns : List Nat) (w : Rat) : D := if w = 1 then .tup [.lst ((List.replicate bs.length (1 : Int)).map D.int), fr 0, plD ns] else .tup [.lst (((wtR bs ns).map fun x => x / (ptR bs ns : Int)).map D.int), fr (((btR bs ns : Int) : Rat) / ((ptR bs ns : Int) : Rat)), plD ns]
theorem gcF_dvd : ∀ (l : List Int) (b : Nat), gcF l b ∣ b
  | [], b => Nat.dvd_refl _
  | w :: l, b => Nat.dvd_trans (gcF_dvd l _) (by
    have := Int.gcd_dvd_left (b : Int) w
    exact Int.natCast_dvd_natCast.mp this)
def dnD (x : Rat) : Pt := (x.num, x.den)
theorem fr_pt (x : Rat) : fr x = ptD (dnD x) := rfl
structure IcOk (bs : List Bx) (ns : List Nat) (dm : Nat) : Prop where
  pos : 0 < dm
  sz : dm < 2 ^ 440
  dvd : ∀ x ∈ icL bs ns, x.den ∣ dm
  num : ∀ x ∈ icL bs ns, Sz 412 x.num
theorem CA.ic {bs : List Bx} (hb : BsOk bs) {b : Nat} {ns : List Nat} {s : Rat} (h : CA bs b ns s) : ∃ dm, IcOk bs ns dm := by
  have b6 := hb.b6
  obtain ⟨gl, _⟩ := g_le hb h.len bs.length (Nat.le_refl _)
  have tl := take_le ns bs.length
  have sm := h.sum
  have hp := h.hpos
  have qpos : ∀ j < bs.length, 0 < qN bs ns j := fun j hj => by
    have a := (hb.qs hj).q (ns := ns)
    have : 0 < ((oN bs j * oN bs j ^ nAt ns j : Nat) : Rat) := by
      have := (hb.qs hj).h1
      have := (hb.qs hj).h2
      exact Rat.natCast_pos.mpr (Nat.mul_pos (by omega) (Nat.pow_pos (by omega)))
    have : (0 : Rat) < (qN bs ns j : Rat) := by rw [a]; exact Rat.mul_pos (Rat.mul_pos (hb.at hj).q.2.2.1 (hp j hj)) this
    exact Rat.natCast_pos.mp this
  refine ⟨prodN bs.length (qN bs ns), prodN_pos _ qpos, ?_, fun x hx => ?_, fun x hx => ?_⟩
  · exact Nat.lt_of_le_of_lt (Nat.le_trans gl (Nat.pow_le_pow_right (n := 50) (by decide) (show (ns.take bs.length).sum + bs.length ≤ 66 by omega))) (by decide)
  · obtain ⟨j, hj, rfl⟩ := List.mem_map.mp hx
    have hj := List.mem_range.mp hj
    have a := ic_q (ns := ns) (hb.qs hj) (Rat.ne_of_gt (hb.at hj).q.2.2.1) (Rat.ne_of_gt (hp j hj))
    obtain ⟨B, o⟩ := on_of (qpos j hj) (uN bs ns j : Int) (by rw [a, Rat.intCast_natCast])
    exact Nat.dvd_trans o.den (prodN_dvd _ hj)
  · obtain ⟨j, hj, rfl⟩ := List.mem_map.mp hx
    have hj := List.mem_range.mp hj
    exact (ic_fs hb hj (by have := nAt_le (ns := ns) j; omega) (hp j hj)).num
theorem IcOk.b {bs : List Bx} {ns : List Nat} {dm : Nat} (h : IcOk bs ns dm) : 0 < btR bs ns ∧ btR bs ns < 2 ^ 440 := by
  have d : btR bs ns ∣ dm := botR_dvd _ _ (Nat.one_dvd _) fun x hx => by
    obtain ⟨p, hp, rfl⟩ := List.mem_map.mp hx
    exact h.dvd p hp
  have := Nat.le_of_dvd h.pos d
  have := h.sz
  exact ⟨Nat.pos_of_dvd_of_pos d h.pos, by omega⟩
abbrev PpE (bs : List Bx) (ns : List Nat) (w : Rat) (r : List (Option D)) : Dv.Env := some (bxsD bs) :: some (plD ns) :: some (fr w) :: r
theorem nat_sz {n a : Nat} (h : a < 2 ^ n) : Sz n (a : Int) := by show (a : Int).natAbs < _; rw [Int.natAbs_natCast]; exact h
theorem paper_for_ok {bs : List Bx} (hb : BsOk bs) {b : Nat} (h60 : b ≤ 60) {ns : List Nat} {w : Rat} (h : Clm bs b ns w) (S : Store) : F_paper_for [bxsD bs, plD ns, fr w] S = .ok (paperD bs ns w) S := by
  have b6 := hb.b6
  have hn := h.n60
  rw [← ens_eq]
  refine ens_fn rfl ?_
  unfold b_paper_for
  simp only [List.map_cons, List.map_nil, List.replicate, List.cons_append, List.nil_append]
  refine ens_sq (fun e S' => w ≠ 1 ∧ S' = S ∧ e = PpE bs ns w [none, none, none, none, none, none, none, none]) (fun R' hR => ?_) ?_
  · simp only [yIf_app, xIsT_app, xOp_app, xTup_app, xCons_app, xNil_app, xC_app, xVar_app, List.getElem?_cons_zero, List.getElem?_cons_succ, Res.bind_ok, List.length_cons, List.length_nil, if_pos (show 0 + 1 + 1 ≤ 1000 by decide), fr_one, dEq_fr, isT, enso_out, ens_ok]
    by_cases q : w = 1
    · rw [if_pos (by simpa using q)]
      have e1 : paperD bs ns w = .tup [.lst ((List.replicate bs.length (1 : Int)).map D.int), fr 0, plD ns] := if_pos q
      rw [e1]
      simp [bx_len]
      have r62 := rng62_of (i := (bs.length : Int)) (by omega) (by omega)
      unfold rng62 at r62
      first
        | exact ⟨⟨r62, by omega⟩, by omega⟩
        | (refine ⟨r62, ?_⟩; omega)
        | (trace_state; omega)
    · rw [if_neg (by simpa using q)]
      simp only [yNil_app, enso_nx]
      exact hR _ _ ⟨q, rfl, rfl⟩
  rintro e S' ⟨w1, rfl, rfl⟩
  obtain ⟨s, ws, ca⟩ : ∃ s, w = 1 - s ∧ CA bs b ns s := by
    rcases h with h | ⟨h, _⟩
    · exact h
    · exact absurd h w1
  have hp := ca.hpos
  obtain ⟨dm, ik⟩ := ca.ic hb
  have hbt := ik.b
  have dz := ik.sz
  have il : (icL bs ns).length = bs.length := by unfold icL; simp
  refine ens_sq (fun e S => S = S' ∧ e = PpE bs ns w [some (.lst ((icL bs ns).map fr)), none, none, none, none, none, none, none]) (fun R' hR => ?_) ?_
  · have hc : lcL (fun _ => True) (eN 10) cYes (xFn F_over (xCons (xTup (xCons (xOp dIx (xOp dIx (xVar 0) (xVar 10)) (xC (.int 0))) (xCons (xC (.int 1)) xNil))) (xCons (xFn F_mark (xCons (xOp dIx (xVar 0) (xVar 10)) (xCons (xOp dIx (xVar 1) (xVar 10)) xNil))) xNil))) (PpE bs ns w [none, none, none, none, none, none, none, none]) (irange 0 (List.range bs.length).length) [] S' = .ok ([] ++ (List.range bs.length).map fun j => fr (icR bs ns j)) S' := by
      refine lc_rng (fun j => fr (icR bs ns j)) (List.range bs.length) 0 [] (fun j hj => ⟨_, rfl, ?_⟩) (by simp; omega)
      have hj2 : j < bs.length := by simpa using hj
      have hz := hb.at hj2
      have n60 := hn j hj2
      have i0 : ∀ S, dIx (bxD (bxAt bs j)) (.int 0) S = .ok (.int (bxAt bs j).1) S := fun S => by unfold bxD; simp
      have px := pl_at (ns := ns) (j := j) (by rw [ca.len]; exact hj2)
      have gf : Fs 800 (eta (bxAt bs j) * hAt bs ns j) := fs_mul (eta_fs hz) (mu_fs hz _ (by omega))
      have g0 : eta (bxAt bs j) * hAt bs ns j ≠ 0 := Rat.ne_of_gt (Rat.mul_pos hz.q.2.2.1 (hp j hj2))
      have mk2 : ∀ S, F_mark [bxD (bxAt bs j), .int (nAt ns j : Nat)] S = .ok (fr (eta (bxAt bs j) * hAt bs ns j)) S := fun S => mark_r hz (nAt ns j) n60 S
      have ov : ∀ S, F_over [fr ((bxAt bs j).1 : Rat), fr (eta (bxAt bs j) * hAt bs ns j)] S = .ok (fr (icR bs ns j)) S := fun S => over_r ((c6 hz).le (by decide)) gf g0 (by decide) S
      simp only [PpE, List.set_cons_succ, List.set_cons_zero, xFn_app, xOp_app, xTup_app, xC_app, xCons_app, xNil_app, xVar_app, List.getElem?_cons_zero, List.getElem?_cons_succ, Res.bind_ok, Int.zero_add, bx_at hj2, i0, px, mk2, List.length_cons, List.length_nil, if_pos (show 0 + 1 + 1 ≤ 1000 by decide), fr_int, ov, List.getElem_range]
    have me : ((List.range bs.length).map fun j => fr (icR bs ns j)) = (icL bs ns).map fr := by unfold icL; rw [List.map_map]; rfl
    rw [List.length_range, List.nil_append, me] at hc
    simp only [PpE] at hc
    simp only [PpE, ySet_app, xLc_app, iSrcA_app, xFn_app, xCons_app, xNil_app, xVar_app, List.getElem?_cons_zero, List.getElem?_cons_succ, Res.bind_ok, bx_len, rng_src (show bs.length ≤ 1000000 by omega), wipeE_cons, wipeE_nil, List.set_cons_succ, List.set_cons_zero, hc, mkF_app, enso_out, ens_ok, enso_nx]
    exact hR _ _ ⟨rfl, rfl⟩
  rintro e S ⟨rfl, rfl⟩
  refine ens_sq (fun e S2 => S2 = S ∧ e = PpE bs ns w [some (.lst ((icL bs ns).map fr)), some (.int 1), none, none, none, none, none, none]) (fun R' hR => ?_) ?_
  · simp
    exact hR _ _ ⟨rfl, rfl⟩
  rintro e S2 ⟨rfl, rfl⟩
  refine ens_sq (fun e S3 => S3 = S2 ∧ ∃ v8 v9, e = PpE bs ns w [some (.lst ((icL bs ns).map fr)), some (.int (btR bs ns : Int)), none, none, none, v8, v9, none]) (fun R' hR => ?_) ?_
  · simp only [yFor_app, iSrc_app, xVar_app, List.getElem?_cons_zero, List.getElem?_cons_succ, Res.bind_ok, srcL_lst, enso_out, ens_ok]
    refine ens_fr (fun i e S3 => S3 = S2 ∧ ∃ v8 v9, e = PpE bs ns w [some (.lst ((icL bs ns).map fr)), some (.int (botR (((icL bs ns).map (·.den)).take i) : Nat)), none, none, none, v8, v9, none]) ⟨rfl, none, none, rfl⟩ ?_ ?_
    · rintro i d e S3 R3 hd ⟨rfl, v8, v9, rfl⟩ hR3
      rw [List.getElem?_map] at hd
      have hi : i < (icL bs ns).length := by
        refine Nat.lt_of_not_le fun z => ?_
        rw [List.getElem?_eq_none z] at hd
        cases hd
      rw [List.getElem?_eq_getElem hi] at hd
      cases hd
      have p1 := ik.dvd _ (List.getElem_mem hi)
      have p0 := (icL bs ns)[i].den_pos
      have tk : botR (((icL bs ns).map (·.den)).take (i + 1)) = Nat.lcm (botR (((icL bs ns).map (·.den)).take i)) (icL bs ns)[i].den := by
        have hi2 : i < ((icL bs ns).map (·.den)).length := by rw [List.length_map]; exact hi
        rw [List.take_add_one, List.getElem?_eq_getElem hi2]
        unfold botR
        rw [List.foldl_append, List.getElem_map]
        rfl
      have bd : botR (((icL bs ns).map (·.den)).take i) ∣ dm := botR_dvd _ _ (Nat.one_dvd _) fun x hx => by
        obtain ⟨p, hp, rfl⟩ := List.mem_map.mp (List.mem_of_mem_take hx)
        exact ik.dvd p hp
      rw [fr_pt]
      have e2 : (icL bs ns)[i].den = (dnD (icL bs ns)[i]).2 := rfl
      rw [e2] at p1 p0 tk
      generalize dnD (icL bs ns)[i] = p at *
      generalize botR (((icL bs ns).map (·.den)).take i) = b at *
      have b0 : 0 < b := Nat.pos_of_dvd_of_pos bd ik.pos
      have bl := Nat.le_of_dvd ik.pos bd
      have pl := Nat.le_of_dvd ik.pos p1
      have bs : Sz 440 (b : Int) := nat_sz (by omega)
      have ps : Sz 440 (p.2 : Int) := nat_sz (by omega)
      have g0 : 0 < Nat.gcd b p.2 := Nat.gcd_pos_of_pos_left _ b0
      have gl : Nat.gcd b p.2 ≤ b := Nat.gcd_le_left _ b0
      have gs : Sz 440 ((Nat.gcd b p.2 : Nat) : Int) := nat_sz (by omega)
      have dv : ((b : Int) * (p.2 : Int)) / ((Nat.gcd b p.2 : Nat) : Int) = ((Nat.lcm b p.2 : Nat) : Int) := by
        rw [← Int.natCast_mul, ← Int.natCast_ediv]; rfl
      have dok := gs.divOk (a := (b : Int) * (p.2 : Int)) (by omega) (by decide)
      have gi : Int.gcd (b : Int) (p.2 : Int) = Nat.gcd b p.2 := rfl
      simp only [ptD, gT_app, List.length_cons, List.length_nil, if_true, gsCons_app, gsNil_app, gN_app, Out.seq_nx, enso_nx, List.set_cons_succ, List.set_cons_zero, ySet_app, xFn_app, xOp_app, xCons_app, xNil_app, xVar_app, List.getElem?_cons_zero, List.getElem?_cons_succ, Res.bind_ok, dMul_int, if_pos (bs.mulOk ps (by decide)), divisor_ok, gi, dFdiv_ok, if_pos dok, fdiv_pos (show (0 : Int) < ((Nat.gcd b p.2 : Nat) : Int) by omega), dv, enso_out, ens_ok]
      exact hR3 _ _ ⟨rfl, _, _, by rw [tk]⟩
    · rintro e S3 ⟨rfl, v8, v9, rfl⟩
      rw [List.length_map, List.take_of_length_le (by rw [List.length_map]; exact Nat.le_refl _)]
      exact hR _ _ ⟨rfl, _, _, rfl⟩
  rintro e S3 ⟨rfl, v8, v9, rfl⟩
  refine ens_sq (fun e S4 => S4 = S3 ∧ e = PpE bs ns w [some (.lst ((icL bs ns).map fr)), some (.int (btR bs ns : Int)), some (.lst ((wtR bs ns).map D.int)), none, none, v8, v9, none]) (fun R' hR => ?_) ?_
  · have hc : lcL (fun _ => True) (eT2 8 9) cYes (xOp (dMul mkF) (xVar 8) (xOp dFdiv (xVar 4) (xVar 9))) (PpE bs ns w [some (.lst ((icL bs ns).map fr)), some (.int (btR bs ns : Int)), none, none, none, none, none, none]) ((icL bs ns).map fr) [] S3 = .ok ([] ++ (icL bs ns).map fun x => D.int (x.num * ((btR bs ns / x.den : Nat) : Int))) S3 := by
      refine lc_map fr (fun x => D.int (x.num * ((btR bs ns / x.den : Nat) : Int))) (icL bs ns) [] (fun x hx => ⟨_, rfl, ?_⟩) (by simp; omega)
      have p1 := ik.dvd x hx
      have p0 := x.den_pos
      have pl := Nat.le_of_dvd ik.pos p1
      have ps : Sz 440 (x.den : Int) := nat_sz (by omega)
      have dok := ps.divOk (a := (btR bs ns : Int)) (by omega) (by decide)
      have qs := ik.num x hx
      have dl : btR bs ns / x.den ≤ btR bs ns := Nat.div_le_self _ _
      have ds : Sz 440 ((btR bs ns / x.den : Nat) : Int) := nat_sz (by omega)
      have dv : (btR bs ns : Int) / (x.den : Int) = ((btR bs ns / x.den : Nat) : Int) := by rw [Int.natCast_ediv]
      simp only [PpE, fr, eT2_app, List.set_cons_succ, List.set_cons_zero, xOp_app, xVar_app, List.getElem?_cons_zero, List.getElem?_cons_succ, Res.bind_ok, dFdiv_ok, if_pos dok, fdiv_pos (show (0 : Int) < (x.den : Int) by omega), dv, dMul_int, if_pos (qs.mulOk ds (by decide))]
    have me : ((icL bs ns).map fun x => D.int (x.num * ((btR bs ns / x.den : Nat) : Int))) = (wtR bs ns).map D.int := by unfold wtR; rw [List.map_map]; rfl
    rw [List.nil_append, me] at hc
    simp only [PpE] at hc
    simp only [PpE, ySet_app, xLc_app, iSrc_app, xFn_app, xCons_app, xNil_app, xVar_app, List.getElem?_cons_zero, List.getElem?_cons_succ, Res.bind_ok, srcL_lst, wipeE_cons, wipeE_nil, List.set_cons_succ, List.set_cons_zero, hc, mkF_app, enso_out, ens_ok, enso_nx]
    exact hR _ _ ⟨rfl, rfl⟩
  rintro e S4 ⟨rfl, rfl⟩
  refine ens_sq (fun e S5 => S5 = S4 ∧ e = PpE bs ns w [some (.lst ((icL bs ns).map fr)), some (.int (btR bs ns : Int)), some (.lst ((wtR bs ns).map D.int)), some (.int (btR bs ns : Int)), none, v8, v9, none]) (fun R' hR => ?_) ?_
  · simp
    exact hR _ _ ⟨rfl, rfl⟩
  rintro e S5 ⟨rfl, rfl⟩
  refine ens_sq (fun e S6 => S6 = S5 ∧ ∃ v7, e = PpE bs ns w [some (.lst ((icL bs ns).map fr)), some (.int (btR bs ns : Int)), some (.lst ((wtR bs ns).map D.int)), some (.int (ptR bs ns : Int)), v7, v8, v9, none]) (fun R' hR => ?_) ?_
  · simp only [yFor_app, iSrc_app, xVar_app, List.getElem?_cons_zero, List.getElem?_cons_succ, Res.bind_ok, srcL_lst, enso_out, ens_ok]
    refine ens_fr (fun i e S6 => S6 = S5 ∧ ∃ v7, e = PpE bs ns w [some (.lst ((icL bs ns).map fr)), some (.int (btR bs ns : Int)), some (.lst ((wtR bs ns).map D.int)), some (.int (gcF ((wtR bs ns).take i) (btR bs ns) : Nat)), v7, v8, v9, none]) ⟨rfl, none, rfl⟩ ?_ ?_
    · rintro i d e S6 R3 hd ⟨rfl, v7, rfl⟩ hR3
      rw [List.getElem?_map] at hd
      have hi : i < (wtR bs ns).length := by
        refine Nat.lt_of_not_le fun z => ?_
        rw [List.getElem?_eq_none z] at hd
        cases hd
      rw [List.getElem?_eq_getElem hi] at hd
      cases hd
      have tk : gcF ((wtR bs ns).take (i + 1)) (btR bs ns) = Int.gcd ((gcF ((wtR bs ns).take i) (btR bs ns) : Nat) : Int) (wtR bs ns)[i] := by
        rw [List.take_add_one, List.getElem?_eq_getElem hi]
        unfold gcF
        rw [List.foldl_append]
        rfl
      simp only [gN_app, enso_nx, List.set_cons_succ, List.set_cons_zero, ySet_app, xFn_app, xCons_app, xNil_app, xVar_app, List.getElem?_cons_zero, List.getElem?_cons_succ, Res.bind_ok, divisor_ok, enso_out, ens_ok]
      exact hR3 _ _ ⟨rfl, _, by rw [tk]⟩
    · rintro e S6 ⟨rfl, v7, rfl⟩
      rw [List.length_map, List.take_of_length_le (Nat.le_refl _)]
      exact hR _ _ ⟨rfl, _, rfl⟩
  rintro e S6 ⟨rfl, v7, rfl⟩
  have pd : ptR bs ns ∣ btR bs ns := gcF_dvd _ _
  have pp : 0 < ptR bs ns := Nat.pos_of_dvd_of_pos pd hbt.1
  have ple := Nat.le_of_dvd hbt.1 pd
  have psz : Sz 440 (ptR bs ns : Int) := nat_sz (by omega)
  have hc : lcL (fun _ => True) (eN 7) cYes (xOp dFdiv (xVar 7) (xVar 6)) (PpE bs ns w [some (.lst ((icL bs ns).map fr)), some (.int (btR bs ns : Int)), some (.lst ((wtR bs ns).map D.int)), some (.int (ptR bs ns : Int)), none, v8, v9, none]) ((wtR bs ns).map D.int) [] S6 = .ok ([] ++ (wtR bs ns).map fun x => D.int (x / (ptR bs ns : Int))) S6 := by
    have wl : (wtR bs ns).length = bs.length := by unfold wtR; rw [List.length_map, il]
    refine lc_map D.int (fun x => D.int (x / (ptR bs ns : Int))) (wtR bs ns) [] (fun x hx => ⟨_, rfl, ?_⟩) (by rw [wl, List.length_nil]; omega)
    have dok := psz.divOk (a := x) (by omega) (by decide)
    simp only [PpE, List.set_cons_succ, List.set_cons_zero, xOp_app, xVar_app, List.getElem?_cons_zero, List.getElem?_cons_succ, Res.bind_ok, dFdiv_ok, if_pos dok, fdiv_pos (show (0 : Int) < (ptR bs ns : Int) by omega)]
  have me : ((wtR bs ns).map fun x => D.int (x / (ptR bs ns : Int))) = ((wtR bs ns).map fun x => x / (ptR bs ns : Int)).map D.int := by rw [List.map_map]; rfl
  rw [List.nil_append, me] at hc
  simp only [PpE] at hc
  have rr := fun S => ratio_r (btR bs ns : Int) (ptR bs ns : Int) 440 S (by omega) psz (by decide)
  have e1 : paperD bs ns w = .tup [.lst (((wtR bs ns).map fun x => x / (ptR bs ns : Int)).map D.int), fr (((btR bs ns : Int) : Rat) / ((ptR bs ns : Int) : Rat)), plD ns] := if_neg w1
  simp only [PpE, yRet_app, xTup_app, xLc_app, iSrc_app, xFn_app, xCons_app, xNil_app, xVar_app, List.getElem?_cons_zero, List.getElem?_cons_succ, Res.bind_ok, srcL_lst, wipeE_cons, wipeE_nil, List.set_cons_succ, List.set_cons_zero, hc, mkF_app, rr, List.length_cons, List.length_nil, if_pos (show 0 + 1 + 1 + 1 ≤ 1000 by decide), enso_out, ens_ok, enso_rt]
  rw [fin_len rfl, ens_ok]
  exact ⟨e1.symm, rfl⟩
/-! ### the worth for a budget -/
theorem budget_ok {b : Nat} (h60 : b ≤ 60) (S : Store) : F_must_be_budget [.int (b : Int)] S = .ok .non S := by
  rw [← ens_eq]
  refine ens_fn rfl ?_
  unfold b_must_be_budget
  simp [is_number_ok, show ¬ ((b : Int) < 0) by omega, show ¬ (60 < (b : Int)) by omega]
theorem BsOk.must {bs : List Bx} (hb : BsOk bs) (S : Store) : F_must_be_boxes [bxsD bs] S = .ok .non S := must_be_ok hb.ok hb.b1 hb.b6 S
theorem worth_ok {bs : List Bx} (hb : BsOk bs) {b : Nat} (h60 : b ≤ 60) {P : Store} (hP : (P.all fun c => c.under P.length) = true) : Ens (F_budget_worth [bxsD bs, .int (b : Int)] P) fun d S' => ∃ w ns, Clm bs b ns w ∧ d = .tup [fr w, .lst (mixR (xsW bs ns w)), paperD bs ns w] ∧ S' = P := by
  refine ens_fn rfl ?_
  unfold b_budget_worth
  simp only [List.map_cons, List.map_nil, List.replicate, List.cons_append, List.nil_append]
  refine ens_sq (fun e S => S = P ∧ e = [some (bxsD bs), some (.int (b : Int)), none, none]) (fun R' hR => ?_) ?_
  · simp [hb.must]
    exact hR _ _ ⟨rfl, rfl⟩
  rintro e S ⟨rfl, rfl⟩
  refine ens_sq (fun e S2 => S2 = S ∧ e = [some (bxsD bs), some (.int (b : Int)), none, none]) (fun R' hR => ?_) ?_
  · simp [budget_ok h60]
    exact hR _ _ ⟨rfl, rfl⟩
  rintro e S2 ⟨rfl, rfl⟩
  refine ens_sq (fun e S3 => S3 = S2 ∧ ∃ w ns, Clm bs b ns w ∧ e = [some (bxsD bs), some (.int (b : Int)), some (fr w), some (plD ns)]) (fun R' hR => ?_) ?_
  · obtain ⟨d, S3, ec, w, ns, rfl, hc, rfl⟩ := (climbed_ok hb h60 hP).get
    simp [ec, gT, gsCons, gsNil, gN, Out.seq]
    exact hR _ _ ⟨rfl, w, ns, hc, rfl⟩
  rintro e S3 ⟨rfl, w, ns, hc, rfl⟩
  obtain ⟨dm, lk⟩ := looks_on hb hc
  simp only [yRet_app, xTup_app, xFn_app, xCons_app, xNil_app, xVar_app, List.getElem?_cons_zero, List.getElem?_cons_succ, Res.bind_ok, looks_for_ok hb h60 hc hP, mixby_ok lk hP, paper_for_ok hb h60 hc, List.length_cons, List.length_nil, if_pos (show 0 + 1 + 1 + 1 ≤ 1000 by decide), enso_out, ens_ok, enso_rt]
  rw [fin_len rfl, ens_ok]
  exact ⟨w, ns, hc, rfl, rfl⟩
/-! ### what the worth is -/
def AtX (z : Bx) (s x : Rat) : Prop := ∃ (n : Nat) (f : Rat), 0 ≤ f ∧ f < 1 ∧ x = (n : Rat) + f ∧ s = (1 - f) * mu z ^ n + f * mu z ^ (n + 1)
def cstX (P : List (Bx × Rat)) : Rat := (P.map fun p => (p.1.1 : Rat) * p.2).sum
structure Uw (bs : List Bx) (b : Nat) (s : Rat) : Prop where
  s0 : 0 ≤ s
  ex : ∃ P : List (Bx × Rat), P.map (·.1) = bs ∧ (∀ p ∈ P, AtX p.1 s p.2) ∧ cstX P ≤ (b : Rat) ∧ (0 < s → cstX P = (b : Rat))
theorem qpow_anti {m : Rat} (h0 : 0 ≤ m) (h1 : m ≤ 1) : ∀ {i j : Nat}, i ≤ j → m ^ j ≤ m ^ i
  | i, 0, h => by rw [show i = 0 by omega]; exact Rat.le_refl
  | i, j + 1, h => by
    by_cases e : i = j + 1
    · subst e; exact Rat.le_refl
    · have := qpow_anti h0 h1 (show i ≤ j by omega)
      rw [Rat.pow_succ]
      have a := (pow01 h0 h1 j).1
      have := Rat.mul_le_mul_of_nonneg_left h1 a
      rw [Rat.mul_one] at this
      exact Rat.le_trans this (by assumption)
theorem qpow_base {m m' : Rat} (h0 : 0 ≤ m') (h : m' ≤ m) : ∀ i : Nat, m' ^ i ≤ m ^ i
  | 0 => by rw [Rat.pow_zero, Rat.pow_zero]; exact Rat.le_refl
  | i + 1 => by
    have ih := qpow_base h0 h i
    rw [Rat.pow_succ, Rat.pow_succ]
    have hm : 0 ≤ m := Rat.le_trans h0 h
    have p : ∀ i : Nat, (0 : Rat) ≤ m' ^ i := fun i => by
      induction i with
      | zero => rw [Rat.pow_zero]; decide
      | succ i ih => rw [Rat.pow_succ]; exact Rat.mul_nonneg ih h0
    have a := Rat.mul_le_mul_of_nonneg_left h (p i)
    have b := Rat.mul_le_mul_of_nonneg_right ih hm
    exact Rat.le_trans a b
theorem mix_in {f a b : Rat} (f0 : 0 ≤ f) (f1 : f < 1) (h : b ≤ a) : b ≤ (1 - f) * a + f * b ∧ (1 - f) * a + f * b ≤ a := by
  have k1 : 0 ≤ f * (a - b) := Rat.mul_nonneg f0 (by grind)
  have k2 : 0 ≤ (1 - f) * (a - b) := Rat.mul_nonneg (by grind) (by grind)
  constructor <;> grind
theorem nat_lt_of {n n' : Nat} {f f' : Rat} (f1 : f' < 1) (f0 : 0 ≤ f) (h : (n : Rat) + f ≤ (n' : Rat) + f') : n ≤ n' := by
  refine Nat.le_of_not_lt fun z => ?_
  have : ((n' + 1 : Nat) : Rat) ≤ (n : Rat) := Rat.natCast_le_natCast.mpr z
  rw [Rat.natCast_add] at this
  have : ((1 : Nat) : Rat) = 1 := rfl
  grind
/-- the more looks, the less is missed; the surer the box, the less is missed -/
theorem miss_mono {z z' : Bx} (hz : BxOk z) (hz' : BxOk z') (hm : mu z' ≤ mu z) {s s' x x' : Rat} (h : AtX z s x) (h' : AtX z' s' x') (hx : x ≤ x') : s' ≤ s := by
  obtain ⟨n, f, f0, f1, rfl, rfl⟩ := h
  obtain ⟨n', f', g0, g1, rfl, rfl⟩ := h'
  obtain ⟨a0, a1, _, _⟩ := mu01 hz
  obtain ⟨b0, b1, _, _⟩ := mu01 hz'
  have hn := nat_lt_of g1 f0 hx
  have u := mix_in f0 f1 (qpow_anti a0 a1 (show n ≤ n + 1 by omega))
  have v := mix_in g0 g1 (qpow_anti b0 b1 (show n' ≤ n' + 1 by omega))
  by_cases e : n = n'
  · subst e
    have hf : f ≤ f' := by grind
    have c1 := qpow_base b0 hm n
    have c2 := qpow_base b0 hm (n + 1)
    have c3 := qpow_anti a0 a1 (show n ≤ n + 1 by omega)
    have k1 : 0 ≤ (1 - f') * (mu z ^ n - mu z' ^ n) := Rat.mul_nonneg (by grind) (by grind)
    have k2 : 0 ≤ f' * (mu z ^ (n + 1) - mu z' ^ (n + 1)) := Rat.mul_nonneg g0 (by grind)
    have k3 : 0 ≤ (f' - f) * (mu z ^ n - mu z ^ (n + 1)) := Rat.mul_nonneg (by grind) (by grind)
    grind
  · have c1 := qpow_anti b0 b1 (show n + 1 ≤ n' by omega)
    have c2 := qpow_base b0 hm (n + 1)
    exact Rat.le_trans v.2 (Rat.le_trans c1 (Rat.le_trans c2 u.1))
theorem at_nonneg {z : Bx} {s x : Rat} (h : AtX z s x) : 0 ≤ x := by
  obtain ⟨n, f, f0, f1, rfl, _⟩ := h
  have : (0 : Rat) ≤ (n : Rat) := Rat.natCast_nonneg
  grind
/-- the second boxes are some of the first, each as sure and as cheap at least -/
inductive Dm : List Bx → List Bx → Prop
  | nil {L : List Bx} : Dm L []
  | cons {z z' : Bx} {L L' : List Bx} : mu z' ≤ mu z → z'.1 ≤ z.1 → Dm L L' → Dm (z :: L) (z' :: L')
  | skip {z : Bx} {L L' : List Bx} : Dm L L' → Dm (z :: L) L'
theorem Dm.refl : ∀ L : List Bx, Dm L L
  | [] => .nil
  | _ :: L => .cons Rat.le_refl (Int.le_refl _) (Dm.refl L)
theorem cst_cons (p : Bx × Rat) (P : List (Bx × Rat)) : cstX (p :: P) = (p.1.1 : Rat) * p.2 + cstX P := by unfold cstX; rw [List.map_cons, List.sum_cons]
theorem Dm.cost {L L' : List Bx} (h : Dm L L') : (∀ z ∈ L, BxOk z) → (∀ z ∈ L', BxOk z) → ∀ {s s' : Rat}, s < s' → ∀ P P' : List (Bx × Rat), P.map (·.1) = L → P'.map (·.1) = L' → (∀ p ∈ P, AtX p.1 s p.2) → (∀ p ∈ P', AtX p.1 s' p.2) → cstX P' ≤ cstX P ∧ (L' ≠ [] → cstX P' < cstX P) := by
  have nn : ∀ P : List (Bx × Rat), ∀ s : Rat, (∀ p ∈ P, BxOk p.1) → (∀ p ∈ P, AtX p.1 s p.2) → 0 ≤ cstX P := fun P s => by
    induction P with
    | nil => intro _ _; unfold cstX; simp
    | cons p P ih =>
      intro a b
      rw [cst_cons]
      have := ih (fun q hq => a q (by simp [hq])) (fun q hq => b q (by simp [hq]))
      have := at_nonneg (b p (by simp))
      have := (a p (by simp)).q.1
      have := Rat.mul_nonneg (show (0 : Rat) ≤ (p.1.1 : Rat) by grind) (by assumption)
      grind
  induction h with
  | nil =>
    intro h1 _ s s' _ P P' e1 e2 a1 _
    have : P' = [] := by simpa using e2
    subst this
    have := nn P s (fun p hp => h1 p.1 (by rw [← e1]; exact List.mem_map_of_mem hp)) a1
    refine ⟨by unfold cstX at *; simpa using this, fun z => absurd rfl z⟩
  | cons hm hc _ ih =>
    intro h1 h2 s s' hs P P' e1 e2 a1 a2
    cases P with
    | nil => cases e1
    | cons p P =>
      cases P' with
      | nil => cases e2
      | cons p' P' =>
        obtain ⟨e3, e4⟩ := List.cons.inj e1
        obtain ⟨e5, e6⟩ := List.cons.inj e2
        obtain ⟨k1, _⟩ := ih (fun q hq => h1 q (by simp [hq])) (fun q hq => h2 q (by simp [hq])) hs P P' e4 e6 (fun q hq => a1 q (by simp [hq])) (fun q hq => a2 q (by simp [hq]))
        have t1 := a1 p (by simp)
        have t2 := a2 p' (by simp)
        rw [← e3] at hm hc
        rw [← e5] at hm hc
        have b1 : BxOk p.1 := h1 _ (by rw [← e3]; simp)
        have b2 : BxOk p'.1 := h2 _ (by rw [← e5]; simp)
        have lt : p'.2 < p.2 := by
          refine Rat.not_le.mp fun z => ?_
          have := miss_mono b1 b2 hm t1 t2 z
          grind
        have c0 := b1.q.1
        have n0 := at_nonneg t2
        have cc : (p'.1.1 : Rat) ≤ (p.1.1 : Rat) := Rat.intCast_le_intCast.mpr hc
        have m1 := Rat.mul_le_mul_of_nonneg_right cc n0
        have m2 := Rat.mul_lt_mul_of_pos_left lt (show (0 : Rat) < (p.1.1 : Rat) by grind)
        rw [cst_cons, cst_cons]
        refine ⟨by grind, fun _ => by grind⟩
  | skip _ ih =>
    intro h1 h2 s s' hs P P' e1 e2 a1 a2
    cases P with
    | nil => cases e1
    | cons p P =>
      obtain ⟨e3, e4⟩ := List.cons.inj e1
      obtain ⟨k1, k2⟩ := ih (fun q hq => h1 q (by simp [hq])) h2 hs P P' e4 e2 (fun q hq => a1 q (by simp [hq])) a2
      have b1 : BxOk p.1 := h1 _ (by rw [← e3]; simp)
      have := Rat.mul_nonneg (show (0 : Rat) ≤ (p.1.1 : Rat) by have := b1.q.1; grind) (at_nonneg (a1 p (by simp)))
      rw [cst_cons]
      exact ⟨by grind, fun z => by have := k2 z; grind⟩
theorem perm_lift {α β : Type} {f : α → β} {L M : List β} (h : L.Perm M) : ∀ P : List α, P.map f = M → ∃ P2 : List α, P2.Perm P ∧ P2.map f = L := by
  induction h with
  | nil => intro P e; exact ⟨P, .refl _, e⟩
  | cons x _ ih =>
    intro P e
    cases P with
    | nil => cases e
    | cons p P =>
      obtain ⟨e1, e2⟩ := List.cons.inj e
      obtain ⟨Q, q1, q2⟩ := ih P e2
      exact ⟨p :: Q, q1.cons p, by rw [List.map_cons, q2, e1]⟩
  | swap x y l =>
    intro P e
    match P, e with
    | p :: q :: P, e =>
      obtain ⟨e1, e2⟩ := List.cons.inj e
      obtain ⟨e3, e4⟩ := List.cons.inj e2
      exact ⟨q :: p :: P, .swap _ _ _, by rw [List.map_cons, List.map_cons, e1, e3, e4]⟩
  | trans _ _ ih1 ih2 =>
    intro P e
    obtain ⟨Q, q1, q2⟩ := ih2 P e
    obtain ⟨R, r1, r2⟩ := ih1 Q q2
    exact ⟨R, r1.trans q1, r2⟩
theorem cst_perm {P Q : List (Bx × Rat)} (h : P.Perm Q) : cstX P = cstX Q := by
  induction h with
  | nil => rfl
  | cons x _ ih => rw [cst_cons, cst_cons, ih]
  | swap x y l => rw [cst_cons, cst_cons, cst_cons, cst_cons]; grind
  | trans _ _ ih1 ih2 => rw [ih1, ih2]
theorem Uw.perm {L M : List Bx} (h : L.Perm M) {b : Nat} {s : Rat} (u : Uw M b s) : Uw L b s := by
  obtain ⟨s0, P, e, a, c1, c2⟩ := u
  obtain ⟨Q, q1, q2⟩ := perm_lift h P e
  have := cst_perm q1
  exact ⟨s0, Q, q2, fun p hp => a p (q1.mem_iff.mp hp), by rw [this]; exact c1, fun z => by rw [this]; exact c2 z⟩
/-- surer, cheaper, fewer, a greater budget: no more is missed -/
theorem Uw.le {L L' : List Bx} (hL : ∀ z ∈ L, BxOk z) (hL' : ∀ z ∈ L', BxOk z) (ne : L' ≠ []) (d : Dm L L') {b b' : Nat} (hb : b ≤ b') {s s' : Rat} (u : Uw L b s) (u' : Uw L' b' s') : s' ≤ s := by
  obtain ⟨s0, P, e, a, c1, _⟩ := u
  obtain ⟨_, P', e', a', _, c2'⟩ := u'
  refine Rat.not_lt.mp fun z => ?_
  have := (d.cost hL hL' z P P' e e' a a').2 ne
  have := c2' (by grind)
  have hq : ((b : Nat) : Rat) ≤ (b' : Rat) := Rat.natCast_le_natCast.mpr hb
  grind
theorem Uw.eq {L : List Bx} (hL : ∀ z ∈ L, BxOk z) (ne : L ≠ []) {b : Nat} {s s' : Rat} (u : Uw L b s) (u' : Uw L b s') : s' = s :=
  Rat.le_antisymm (Uw.le hL hL ne (Dm.refl L) (Nat.le_refl _) u u') (Uw.le hL hL ne (Dm.refl L) (Nat.le_refl _) u' u)
theorem sum_rangeN (g : Nat → Rat) : ∀ n : Nat, ((List.range n).map g).sum = sumN n g
  | 0 => rfl
  | n + 1 => by
    rw [List.range_succ, List.map_append, List.sum_append, sum_rangeN g n, sumN]
    simp [Rat.add_zero]
theorem bxAt_all (bs : List Bx) : (List.range bs.length).map (bxAt bs) = bs := by
  refine List.ext_getElem (by simp) fun i h1 h2 => ?_
  rw [List.getElem_map, List.getElem_range, bxAt_get h2]
theorem alg_c {c n e M s : Rat} (he : 0 < e) (hM : 0 < M) : c * n + c / e - s * (c / (e * M)) = c * (n + (M - s) / (e * M)) := by
  have e0 : e ≠ 0 := Rat.ne_of_gt he
  have m0 : M ≠ 0 := Rat.ne_of_gt hM
  grind
theorem alg_d {e M m s F : Rat} (hE : e = 1 - m) (hF : F * (e * M) = M - s) : s = (1 - F) * M + F * (M * m) := by
  subst hE
  grind
/-- what the program tells is the worth -/
theorem Clm.uw {bs : List Bx} (hb : BsOk bs) {b : Nat} {ns : List Nat} {w : Rat} (h : Clm bs b ns w) : ∃ s, w = 1 - s ∧ Uw bs b s := by
  rcases h with ⟨s, rfl, h⟩ | ⟨rfl, h⟩
  · refine ⟨s, rfl, Rat.le_of_lt h.pos, (List.range bs.length).map fun j => (bxAt bs j, (nAt ns j : Rat) + (hAt bs ns j - s) / (eta (bxAt bs j) * hAt bs ns j)), ?_, fun p hp => ?_, ?_⟩
    · rw [List.map_map]
      exact bxAt_all bs
    · obtain ⟨j, hj, rfl⟩ := List.mem_map.mp hp
      have hj := List.mem_range.mp hj
      have M0 := h.hpos j hj
      have e0 := (hb.at hj).q.2.2.1
      obtain ⟨_, _, _, e3⟩ := mu01 (hb.at hj)
      have lo := h.lo j hj
      rw [Rat.pow_succ, alg_m e3] at lo
      have f01 := frac01 M0 e0 (h.hi j hj) lo
      refine ⟨nAt ns j, _, f01.1, f01.2, rfl, ?_⟩
      rw [Rat.pow_succ]
      exact alg_d e3 (Rat.div_mul_cancel (Rat.ne_of_gt (Rat.mul_pos e0 M0)))
    · have e : cstX ((List.range bs.length).map fun j => (bxAt bs j, (nAt ns j : Rat) + (hAt bs ns j - s) / (eta (bxAt bs j) * hAt bs ns j))) = usR bs ns s := by
        unfold cstX usR
        rw [List.map_map, sum_rangeN]
        refine sumN_congr _ fun j hj => ?_
        exact (alg_c (hb.at hj).q.2.2.1 (h.hpos j hj)).symm
      rw [e, h.bud]
      exact ⟨Rat.le_refl, fun _ => rfl⟩
  · refine ⟨0, by grind, Rat.le_refl, (List.range bs.length).map fun j => (bxAt bs j, (1 : Rat)), ?_, fun p hp => ?_, ?_⟩
    · rw [List.map_map]
      exact bxAt_all bs
    · obtain ⟨j, hj, rfl⟩ := List.mem_map.mp hp
      have hj := List.mem_range.mp hj
      refine ⟨1, 0, Rat.le_refl, by decide, by rw [show ((1 : Nat) : Rat) = 1 by rfl]; grind, ?_⟩
      simp only
      rw [h.mu0 j hj, Rat.pow_succ, Rat.pow_succ]
      grind
    · have e : cstX ((List.range bs.length).map fun j => (bxAt bs j, (1 : Rat))) = sumN bs.length (cQ bs) := by
        unfold cstX
        rw [List.map_map, sum_rangeN]
        exact sumN_congr _ fun j _ => by simp only [Function.comp]; grind
      rw [e]
      exact ⟨h.cost, fun z => absurd z (by decide)⟩
theorem dMod_pos {i j : Int} {S : Store} (h : 0 < j) : dMod (.int i) (.int j) S = .ok (.int (i % j)) S := by
  simp [fmod_pos h]
  omega
theorem sIx_n {n d k : Nat} : HT.sIx n d (some (k : Int)) = min k n := by rw [HT.sIx_nat]
theorem dl_ix {l : List D} {i : Nat} (h : i < l.length) (S : Store) : dIx (.lst l) (.int (i : Int)) S = .ok l[i] S := by
  simp only [dIx, getQ_lst, atI_nat (xs := l) (j := i) (v := l[i]) (List.getElem?_eq_getElem h)]
theorem dl_to (l : List D) (b : Nat) (S : Store) : slD mkF (.lst l) none (some (b : Int)) S = .ok (.lst (l.take (min b l.length))) S := by
  unfold slD
  have a1 : HT.sIx l.length 0 none = 0 := by simp [HT.sIx]
  simp only [getQ_lst, sIx_n, a1, List.drop_zero, Nat.sub_zero, mkF_app]
theorem dl_from (l : List D) (a : Nat) (S : Store) : slD mkF (.lst l) (some (a : Int)) none S = .ok (.lst (l.drop (min a l.length))) S := by
  unfold slD
  have a1 : HT.sIx l.length l.length none = l.length := by simp [HT.sIx]
  simp only [getQ_lst, sIx_n, a1, mkF_app]
  rw [List.take_of_length_le (by rw [List.length_drop]; exact Nat.le_refl _)]
theorem dl_add (a b : List D) (S : Store) (h : a.length + b.length ≤ 16000000) : dAdd mkF (.lst a) (.lst b) S = .ok (.lst (a ++ b)) S := by
  simp only [dAdd, getL, if_pos h, mkF_app]
theorem dl_pick (l : List Int) {r : Int} (h0 : 0 ≤ r) (h1 : r < l.length) (S : Store) : ∃ v ∈ l, dIx (.lst (l.map D.int)) (.int r) S = .ok (.int v) S := by
  have hi : r.toNat < l.length := by omega
  refine ⟨l[r.toNat], List.getElem_mem _, ?_⟩
  have := dl_ix (l := l.map D.int) (i := r.toNat) (by rw [List.length_map]; exact hi) S
  rw [Int.toNat_of_nonneg h0] at this
  rw [this, List.getElem_map]
theorem dt_add (a b : List D) (S : Store) (ha : a ≠ []) (hb : b ≠ []) (h : a.length + b.length ≤ 16000000) : dAdd mkF (.tup a) (.tup b) S = .ok (.tup (a ++ b)) S := by
  simp only [dAdd, if_pos (⟨ha, hb, h⟩ : a ≠ [] ∧ b ≠ [] ∧ a.length + b.length ≤ 16000000)]
theorem dt_two (a b c : D) (S : Store) : slD mkF (.tup [a, b, c]) none (some 2) S = .ok (.tup [a, b]) S := by
  have a1 : HT.sIx 3 0 none = 0 := by simp [HT.sIx]
  have a2 : HT.sIx 3 3 (some 2) = 2 := sIx_n (k := 2)
  simp [slD, a1, a2]
/-! draws from a cell's own digits -/
def lfD (n f k : Int) : List D := [.int n, .int f, .int k]
def Lf (c L : Nat) (T : Int) (P : Store) : Prop := P.length = L ∧ (P.all fun x => x.under L) = true ∧ ∃ n f k : Int, P[c]? = some (.lst (lfD n f k)) ∧ 0 ≤ k ∧ k ≤ T ∧ (f = 0 → Builtin.Int.intBits n ≤ 1048576)
theorem Lf.mono {c L : Nat} {T T' : Int} {P : Store} (h : Lf c L T P) (hT : T ≤ T') : Lf c L T' P := by
  obtain ⟨h1, h2, n, f, k, h3, h4, h5, h6⟩ := h
  exact ⟨h1, h2, n, f, k, h3, h4, by omega, h6⟩
theorem Lf.more {c L : Nat} {T : Int} {P R : Store} (h : Lf c L T P) (hR : ∀ x ∈ R, x.under (L + R.length) = true) : Lf c (L + R.length) T (P ++ R) := by
  obtain ⟨h1, h2, n, f, k, h3, h4, h5, h6⟩ := h
  refine ⟨by rw [List.length_append, h1], ?_, n, f, k, ?_, h4, h5, h6⟩
  · rw [List.all_append, Bool.and_eq_true]
    rw [List.all_eq_true] at h2
    exact ⟨List.all_eq_true.mpr fun x hx => cn_under_mono (by omega) (h2 x hx), List.all_eq_true.mpr hR⟩
  · have : c < P.length := (List.getElem?_eq_some_iff.mp h3).1
    rw [List.getElem?_append_left this]
    exact h3
theorem lf_under (n f k : Int) (L : Nat) : (Cn.lst (lfD n f k)).under L = true := by simp [Cn.under, lfD, D.underL, D.under]
theorem mix_ok (n k : Int) (S : Store) (hn : Builtin.Int.intBits n ≤ 1048576) (k0 : 0 ≤ k) (k1 : k ≤ 1000000) : Ens (F__law_mix [.int n, .int k] S) fun d S' => S' = S ∧ ∃ r : Int, d = .int r ∧ 0 ≤ r ∧ r < 2147483587 := by
  refine ens_fn rfl ?_
  unfold b__law_mix
  simp only [List.map_cons, List.map_nil, List.replicate, List.cons_append, List.nil_append]
  have m1 : IntMulOk n n := mulOk_bits (by omega)
  have m2 : IntMulOk k n := mulOkL (by omega) (by omega)
  have m3 : IntMulOk 7 k := mulOkL (by decide) (by decide)
  have m4 : IntMulOk (7 * k) k := mulOkL (by omega) (by omega)
  have m5 : ∀ x : Int, IntMulOk x 1103515245 := fun x => mulOkR (by decide) (by decide)
  refine ens_sq (fun e S' => S' = S ∧ ∃ q : Int, 0 ≤ q ∧ q < 2147483629 ∧ e = [some (.int n), some (.int k), some (.int q)]) (fun R hR => ?_) ?_
  · simp only [ySet_app, xOp_app, xC_app, xVar_app, List.getElem?_cons_zero, List.getElem?_cons_succ, Res.bind_ok, dMul_int, if_pos m1, if_pos m2, if_pos m3, if_pos m4, if_pos (m5 _), dAdd_int, dMod_pos (show (0 : Int) < 2147483629 by decide), enso_out, ens_ok, enso_nx, List.set_cons_succ, List.set_cons_zero]
    exact hR _ _ ⟨rfl, _, Int.emod_nonneg _ (by decide), Int.emod_lt_of_pos _ (by decide), rfl⟩
  rintro e S' ⟨rfl, q, q0, q1, rfl⟩
  have m6 : IntMulOk q q := mulOkL (by omega) (by omega)
  simp only [yRet_app, xOp_app, xC_app, xVar_app, List.getElem?_cons_zero, List.getElem?_cons_succ, Res.bind_ok, dMul_int, if_pos m6, dMod_pos (show (0 : Int) < 2147483587 by decide), enso_out, ens_ok, enso_rt, fin_same]
  exact ⟨trivial, _, rfl, Int.emod_nonneg _ (by decide), Int.emod_lt_of_pos _ (by decide)⟩
theorem draw14_ok {c L : Nat} {T b : Int} {P R : Store} (h : Lf c L T P) (hb : 0 < b) (hb2 : b < 1000000000000000000000000000000000000000000000000000000000000) (hT : T < 1000000) :
    Ens (F__law_draw [.cell c, .int b] (P ++ R)) fun d S' => ∃ (P' : Store) (r : Int), S' = P' ++ R ∧ Lf c L (T + 1) P' ∧ d = .int r ∧ 0 ≤ r ∧ r < b := by
  obtain ⟨hL, hun, n, f, k, hc, k0, kT, hf⟩ := h
  have cl : c < P.length := (List.getElem?_eq_some_iff.mp hc).1
  refine ens_fn rfl ?_
  unfold b__law_draw
  simp only [List.map_cons, List.map_nil, List.replicate, List.cons_append, List.nil_append]
  have at_ : ∀ (l : List D), ((P.set c (.lst l)) ++ R)[c]? = some (.lst l) := fun l => by rw [List.getElem?_append_left (by rw [List.length_set]; exact cl), List.getElem?_set_self cl]
  have set_ : ∀ (x y : Cn), ((P.set c x) ++ R).set c y = (P.set c y) ++ R := fun x y => by rw [List.set_append_left _ _ (by rw [List.length_set]; exact cl), List.set_set]
  have c0 : (P ++ R)[c]? = some (.lst (lfD n f k)) := by rw [List.getElem?_append_left cl, hc]
  have lf : ∀ (n' f' k' : Int), 0 ≤ k' → k' ≤ T + 1 → (f' = 0 → Builtin.Int.intBits n' ≤ 1048576) → Lf c L (T + 1) (P.set c (.lst (lfD n' f' k'))) := fun n' f' k' a1 a2 a3 =>
    ⟨by rw [List.length_set]; exact hL, all_set_under hun (lf_under _ _ _ _), n', f', k', List.getElem?_set_self cl, a1, a2, a3⟩
  have j : ∀ (n f k : Int) (S : Store), S[c]? = some (.lst (lfD n f k)) → dIx (.cell c) (.int 0) S = .ok (.int n) S ∧ dIx (.cell c) (.int 1) S = .ok (.int f) S ∧ dIx (.cell c) (.int 2) S = .ok (.int k) S := fun n f k S hS => by
    refine ⟨?_, ?_, ?_⟩ <;> simp [dIx, getQ, getL, hS, lfD]
  refine ens_sq (fun e S' => S' = (P.set c (.lst (lfD n f (k + 1)))) ++ R ∧ e = [some (.cell c), some (.int b), none, none]) (fun R' hR => ?_) ?_
  · have st : setL (.cell c) (.int 2) (.int (k + 1)) (P ++ R) = .ok () ((P.set c (.lst (lfD n f (k + 1)))) ++ R) := by
      simp [setL, c0, lfD, ixN, List.set_append_left _ _ cl]
    simp only [ySub_app, xOp_app, xC_app, xVar_app, List.getElem?_cons_zero, List.getElem?_cons_succ, Res.bind_ok, (j n f k _ c0).2.2, dAdd_int, st, enso_out, ens_ok, enso_nx]
    exact hR _ _ ⟨rfl, rfl⟩
  rintro e S' ⟨rfl, rfl⟩
  have c1 := at_ (lfD n f (k + 1))
  obtain ⟨x0, x1, x2⟩ := j n f (k + 1) _ c1
  have sl : ((P.set c (.lst (lfD n f (k + 1)))) ++ R).length = (P ++ R).length := by simp
  have fl : ∀ (d : D) (x : Cn), fin false (P ++ R).length d ((P.set c x) ++ R) = .ok d ((P.set c x) ++ R) := fun d x => by
    unfold fin
    rw [if_pos (.inr (by simp))]
  by_cases hf0 : f = 0
  · refine ens_sq (fun e S' => False) (fun R' hR => ?_) (fun e S' h => h.elim)
    simp only [yIf_app, xIsT_app, xOp_app, xC_app, xVar_app, List.getElem?_cons_zero, List.getElem?_cons_succ, Res.bind_ok, x1, dEq_int, decide_eq_true hf0, if_true, enso_out, ens_ok]
    refine ens_sq (fun e S' => S' = (P.set c (.lst (lfD n f (k + 1)))) ++ R ∧ ∃ q : Int, 0 ≤ q ∧ q < 2147483587 ∧ e = [some (.cell c), some (.int b), none, some (.int q)]) (fun R2 hR2 => ?_) ?_
    · simp only [ySet_app, xFn_app, xCons_app, xNil_app, xOp_app, xC_app, xVar_app, List.getElem?_cons_zero, List.getElem?_cons_succ, Res.bind_ok, x0, x2, enso_out]
      refine (mix_ok n (k + 1) _ (hf hf0) (by omega) (by omega)).imp ?_
      rintro d S2 ⟨rfl, q, rfl, q0, q1⟩
      simp only [enso_nx, List.set_cons_succ, List.set_cons_zero]
      exact hR2 _ _ ⟨rfl, q, q0, q1, rfl⟩
    rintro e S2 ⟨rfl, q, q0, q1, rfl⟩
    have m6 : IntMulOk q (q + 2) := mulOkL (by omega) (by omega)
    simp only [yRet_app, xOp_app, xC_app, xVar_app, List.getElem?_cons_zero, List.getElem?_cons_succ, Res.bind_ok, dAdd_int, dMul_int, if_pos m6, dMod_pos (show (0 : Int) < 2147483579 by decide), dMod_pos hb, enso_out, ens_ok, enso_rt, fl]
    exact ⟨_, _, rfl, lf n f (k + 1) (by omega) (by omega) hf, rfl, Int.emod_nonneg _ (by omega), Int.emod_lt_of_pos _ hb⟩
  · refine ens_sq (fun e S' => S' = (P.set c (.lst (lfD n f (k + 1)))) ++ R ∧ e = [some (.cell c), some (.int b), none, none]) (fun R' hR => ?_) ?_
    · simp only [yIf_app, xIsT_app, xOp_app, xC_app, xVar_app, List.getElem?_cons_zero, List.getElem?_cons_succ, Res.bind_ok, x1, dEq_int, decide_eq_false hf0, Bool.false_eq_true, if_false, enso_out, ens_ok, yNil_app, enso_nx]
      exact hR _ _ ⟨rfl, rfl⟩
    rintro e S' ⟨rfl, rfl⟩
    refine ens_sq (fun e S' => S' = (P.set c (.lst (lfD n f (k + 1)))) ++ R ∧ e = [some (.cell c), some (.int b), some (.int (n % b)), none]) (fun R' hR => ?_) ?_
    · simp only [ySet_app, xOp_app, xC_app, xVar_app, List.getElem?_cons_zero, List.getElem?_cons_succ, Res.bind_ok, x0, dMod_pos hb, enso_out, ens_ok, enso_nx, List.set_cons_succ, List.set_cons_zero]
      exact hR _ _ ⟨rfl, rfl⟩
    rintro e S' ⟨rfl, rfl⟩
    have fd : dFdiv (.int n) (.int b) ((P.set c (.lst (lfD n f (k + 1)))) ++ R) = .ok (.int (n / b)) ((P.set c (.lst (lfD n f (k + 1)))) ++ R) := by
      have := fdiv_pos (i := n) hb
      simp only [dFdiv_ok, if_pos (divOk_lit (i := n) hb hb2), this]
    refine ens_sq (fun e S' => S' = (P.set c (.lst (lfD (n / b) f (k + 1)))) ++ R ∧ e = [some (.cell c), some (.int b), some (.int (n % b)), none]) (fun R' hR => ?_) ?_
    · have st : setL (.cell c) (.int 0) (.int (n / b)) ((P.set c (.lst (lfD n f (k + 1)))) ++ R) = .ok () ((P.set c (.lst (lfD (n / b) f (k + 1)))) ++ R) := by
        simp only [setL, c1]
        simp [lfD, ixN, set_]
      simp only [ySub_app, xOp_app, xC_app, xVar_app, List.getElem?_cons_zero, List.getElem?_cons_succ, Res.bind_ok, x0, fd, st, enso_out, ens_ok, enso_nx]
      exact hR _ _ ⟨rfl, rfl⟩
    rintro e S' ⟨rfl, rfl⟩
    simp only [yRet_app, xVar_app, List.getElem?_cons_zero, List.getElem?_cons_succ, enso_out, ens_ok, enso_rt, fl]
    exact ⟨_, _, rfl, lf (n / b) f (k + 1) (by omega) (by omega) (fun z => absurd z hf0), rfl, Int.emod_nonneg _ (by omega), Int.emod_lt_of_pos _ hb⟩
/-! what is left of a number -/
theorem left14_ok (c : Int) (hc : Builtin.Int.intBits c ≤ 1048576) (S : Store) (hS : (S.all fun x => x.under S.length) = true) : Ens (F__law_left [.lst [.int c], .int 0] S) fun d S' => d = .cell S.length ∧ Lf S.length (S.length + 1) 0 S' := by
  refine ens_fn rfl ?_
  unfold b__law_left
  simp only [List.map_cons, List.map_nil, List.replicate, List.cons_append, List.nil_append]
  have ca : F__law_cell_at [.lst [.int c], .int 0] S = .ok (.int c) S := by
    rw [← ens_eq]
    refine ens_fn rfl ?_
    unfold b__law_cell_at
    simp
  have p18 : ∀ S, dPow (.int 10) (.int 18) S = .ok (.int 1000000000000000000) S := fun S => by simp [powOk]
  have lf : ∀ n f : Int, (f = 0 → Builtin.Int.intBits n ≤ 1048576) → Lf S.length (S.length + 1) 0 (S ++ [.lst (lfD n f 0)]) := fun n f hf => by
    refine ⟨by simp, ?_, n, f, 0, app_at0 rfl, by decide, by decide, hf⟩
    rw [List.all_append, Bool.and_eq_true]
    rw [List.all_eq_true] at hS
    exact ⟨List.all_eq_true.mpr fun x hx => cn_under_mono (by omega) (hS x hx), by simp [lf_under]⟩
  have fk : ∀ d S', fin true S.length d S' = .ok d S' := fun d S' => by simp [fin]
  refine ens_sq (fun e S' => S' = S ∧ e = [some (.lst [.int c]), some (.int 0), some (.int c)]) (fun R hR => ?_) ?_
  · simp only [ySet_app, xFn_app, xCons_app, xNil_app, xVar_app, List.getElem?_cons_zero, List.getElem?_cons_succ, Res.bind_ok, ca, enso_out, ens_ok, enso_nx, List.set_cons_succ, List.set_cons_zero]
    exact hR _ _ ⟨rfl, rfl⟩
  rintro e S' ⟨rfl, rfl⟩
  refine ens_sq (fun e S2 => S2 = S' ∧ e = [some (.lst [.int c]), some (.int 0), some (.int c)]) (fun R hR => ?_) ?_
  · simp only [yIf_app, xIsT_app, xOp_app, xC_app, xVar_app, List.getElem?_cons_zero, List.getElem?_cons_succ, Res.bind_ok, p18, dLt_ok, enso_out, ens_ok]
    split
    · simp only [yRet_app, xLst_app, xCons_app, xNil_app, xC_app, xVar_app, List.getElem?_cons_zero, List.getElem?_cons_succ, Res.bind_ok, List.length_cons, List.length_nil, if_pos (show 0 + 1 + 1 + 1 ≤ 1000 by decide), mkC_app, enso_out, ens_ok, enso_rt, fk]
      exact ⟨trivial, lf c 0 fun _ => hc⟩
    · simp only [yNil_app, enso_nx]
      exact hR _ _ ⟨rfl, rfl⟩
  rintro e S2 ⟨rfl, rfl⟩
  simp only [yRet_app, xLst_app, xOp_app, xCons_app, xNil_app, xC_app, xVar_app, List.getElem?_cons_zero, List.getElem?_cons_succ, Res.bind_ok, p18, dSub_ok, List.length_cons, List.length_nil, if_pos (show 0 + 1 + 1 + 1 ≤ 1000 by decide), mkC_app, enso_out, ens_ok, enso_rt, fk]
  exact ⟨trivial, lf _ 1 fun z => by cases z⟩
theorem draw14' {c L : Nat} {T b : Int} {P : Store} (h : Lf c L T P) (hb : 0 < b) (hb2 : b < 1000000000000000000000000000000000000000000000000000000000000) (hT : T < 1000000) :
    Ens (F__law_draw [.cell c, .int b] P) fun d S' => ∃ r : Int, Lf c L (T + 1) S' ∧ d = .int r ∧ 0 ≤ r ∧ r < b := by
  have := draw14_ok (R := []) h hb hb2 hT
  rw [List.append_nil] at this
  refine this.imp ?_
  rintro d S' ⟨P', r, rfl, h1, h2, h3⟩
  rw [List.append_nil]
  exact ⟨r, h1, h2, h3⟩
/-! lowest terms, by rests -/
theorem lowest13_ok (a b : Int) (hb : 0 < b) (sb : Sz 8000 b) (S : Store) : F__law_lowest [.int a, .int b] S = .ok (fr ((a : Rat) / b)) S := by
  rw [← fr_div (show b ≠ 0 by omega), ← ens_eq]
  refine ens_fn rfl ?_
  unfold b__law_lowest
  simp only [List.map_cons, List.map_nil, List.replicate, List.cons_append, List.nil_append]
  have gg : gsr a b = (Int.gcd a b : Int) := if_neg (by omega)
  refine ens_sq (fun e S' => S' = S ∧ e = [some (.int a), some (.int b), some (.int b), none]) (fun R hR => ?_) ?_
  · simp only [ySet_app, xVar_app, List.getElem?_cons_zero, List.getElem?_cons_succ, enso_out, ens_ok, enso_nx, List.set_cons_succ, List.set_cons_zero]
    exact hR _ _ ⟨rfl, rfl⟩
  rintro e S' ⟨rfl, rfl⟩
  refine ens_sq (fun e S2 => S2 = S' ∧ e = [some (.int a), some (.int b), some (.int b), some (.int (a % b))]) (fun R hR => ?_) ?_
  · simp only [ySet_app, xOp_app, xVar_app, List.getElem?_cons_zero, List.getElem?_cons_succ, Res.bind_ok, dMod_pos hb, enso_out, ens_ok, enso_nx, List.set_cons_succ, List.set_cons_zero]
    exact hR _ _ ⟨rfl, rfl⟩
  rintro e S2 ⟨rfl, rfl⟩
  refine ens_sq (fun e S3 => S3 = S2 ∧ e = [some (.int a), some (.int b), some (.int (Int.gcd a b : Int)), some (.int 0)]) (fun R hR => ?_) ?_
  · refine ens_while (fun e S3 => ∃ x y : Int, e = [some (.int a), some (.int b), some (.int x), some (.int y)] ∧ S3 = S2 ∧ 0 ≤ x ∧ 0 ≤ y ∧ Int.gcd x y = Int.gcd a b) (fun e _ => match e with | [_, _, _, some (.int y)] => y.toNat | _ => 0) ?_ ⟨b, a % b, rfl, rfl, by omega, Int.emod_nonneg _ (by omega), ?_⟩
    · rintro e S3 ⟨x, y, rfl, rfl, hx, hy, hg⟩
      simp only [xIsT_app, xOp_app, xC_app, xVar_app, List.getElem?_cons_zero, List.getElem?_cons_succ, Res.bind_ok, dGt_ok, ens_ok, decide_eq_true_eq, decide_eq_false_iff_not]
      refine ⟨fun h => ?_, fun h => ?_⟩
      · obtain ⟨h1, h2, h3⟩ := gcd_step hx h
        rw [fmod_pos h] at h1 h2 h3
        simp only [yPar_app, xCons_app, xNil_app, xOp_app, xVar_app, List.getElem?_cons_zero, List.getElem?_cons_succ, Res.bind_ok, dMod_pos h, enso_out, ens_ok, enso_nx, List.set_cons_succ, List.set_cons_zero]
        exact ⟨⟨_, _, rfl, trivial, hy, h1, h3.trans hg⟩, by omega⟩
      · have y0 : y = 0 := by omega
        subst y0
        rw [Int.gcd_zero_right] at hg
        refine hR _ _ ⟨rfl, ?_⟩
        rw [← hg, Int.natAbs_of_nonneg hx]
    · rw [Int.gcd_comm a b]
      have e1 := Int.gcd_add_mul_left_right b (a % b) (a / b)
      have e2 : a % b + b * (a / b) = a := by have := Int.mul_ediv_add_emod a b; omega
      rw [e2] at e1
      exact e1.symm
  rintro e S3 ⟨rfl, rfl⟩
  have gz := gsr_sz (a := a) (show b ≠ 0 by omega) sb
  have gn := gsr_ne (a := a) (show b ≠ 0 by omega)
  have d1 : divOk a (gsr a b) := gz.divOk gn (by decide)
  have d2 : divOk b (gsr a b) := gz.divOk gn (by decide)
  rw [gg] at d1 d2 ⊢
  simp only [yRet_app, xTup_app, xCons_app, xNil_app, xOp_app, xVar_app, List.getElem?_cons_zero, List.getElem?_cons_succ, Res.bind_ok, dFdiv_ok, if_pos d1, if_pos d2, List.length_cons, List.length_nil, if_pos (show 0 + 1 + 1 ≤ 1000 by decide), enso_out, ens_ok, enso_rt, fin_same]
  exact ⟨trivial, trivial⟩
/-! ### boxes drawn from a cell's own digits -/
def BxJ (c L : Nat) (T : Int) (S' : Store) (i : Nat) (e : Dv.Env) : Prop := ∃ (P' : Store) (bs : List Bx) (v3 v4 v5 : Option D), Lf c L (T + 1 + 6 * i) P' ∧ S' = P' ++ [.lst (bs.map bxD)] ∧ bs.length = i ∧ (∀ z ∈ bs, BxOk z) ∧ ∃ k : Int, e = [some (.cell c), some (.int k), some (.cell L), v3, v4, v5]
theorem boxes25_ok {c L : Nat} {T k : Int} {P : Store} (h : Lf c L T P) (hT : T ≤ 1000) (hk : 1 ≤ k) (hk6 : k ≤ 6) : Ens (F__law_boxes [.cell c, .int k] P) fun d S' => ∃ bs, d = bxsD bs ∧ (∀ z ∈ bs, BxOk z) ∧ 1 ≤ bs.length ∧ (bs.length : Int) ≤ k ∧ Lf c L (T + 60) S' := by
  refine ens_fn rfl ?_
  unfold b__law_boxes
  simp only [List.map_cons, List.map_nil, List.replicate, List.cons_append, List.nil_append]
  refine ens_seq (fun e S' => S' = P ++ [.lst []] ∧ e = [some (.cell c), some (.int k), some (.cell L), none, none, none]) ?_ ?_
  · simp [h.1]
  rintro e S' ⟨rfl, rfl⟩
  refine ens_sq (fun e S' => ∃ (P' : Store) (bs : List Bx) (k' : Int) (v3 v4 v5 : Option D), Lf c L (T + 60) P' ∧ S' = P' ++ [.dead] ∧ (∀ z ∈ bs, BxOk z) ∧ 1 ≤ bs.length ∧ (bs.length : Int) ≤ k ∧ e = [some (.cell c), some (.int k'), some (bxsD bs), v3, v4, v5]) (fun R' hR => ?_) ?_
  · refine ens_sq (fun e S' => ∃ j : Nat, 1 ≤ j ∧ (j : Int) ≤ k ∧ BxJ c L T S' j e) (fun R2 hR2 => ?_) ?_
    · simp only [yFor_app, iSrcA_app, xOp_app, xFn_app, xC_app, xCons_app, xNil_app, xVar_app, List.getElem?_cons_zero, List.getElem?_cons_succ, Res.bind_ok, enso_out, ens_bind]
      refine (draw14_ok (R := [.lst []]) h (by omega) (by omega) (by omega)).imp ?_
      rintro d S' ⟨P1, r, rfl, h1, rfl, hr0, hr1⟩
      simp only [dAdd_int, ens_ok, ens_srcR1]
      refine ⟨rng62_of (by omega) (by omega), ?_⟩
      refine ens_fr (fun i e S' => BxJ c L T S' i e) ⟨P1, [], none, none, none, by simpa using h1, rfl, rfl, by simp, _, rfl⟩ ?_ ?_
      · rintro i d e S' R3 hd ⟨P', bs, v3, v4, v5, hp, rfl, hl, q1, k', rfl⟩ hR3
        obtain ⟨rfl, hi⟩ := irange_get hd
        simp only [gN_app, enso_nx, List.set_cons_succ, List.set_cons_zero, Int.zero_add]
        refine ens_sq (fun e S' => ∃ (P' : Store) (cc : Int) (v3 : Option D), 1 ≤ cc ∧ cc ≤ 60 ∧ Lf c L (T + 1 + 6 * i + 2) P' ∧ S' = P' ++ [.lst (bs.map bxD)] ∧ e = [some (.cell c), some (.int k'), some (.cell L), v3, some (.int cc), v5]) (fun R4 hR4 => ?_) ?_
        · simp only [ySet_app, xOp_app, xFn_app, xLst_app, xC_app, xCons_app, xNil_app, xVar_app, List.getElem?_cons_zero, List.getElem?_cons_succ, Res.bind_ok, List.length_cons, List.length_nil, if_pos (show 0 + 1 + 1 + 1 ≤ 1000 by decide), mkF_app, enso_out, ens_bind]
          refine (draw14_ok hp (by decide) (by decide) (by omega)).imp ?_
          rintro d S' ⟨P4, r4, rfl, h4, rfl, hr40, hr41⟩
          obtain ⟨w, hw, ew⟩ := dl_pick [1, 4, 60] hr40 (by simpa using hr41) (P4 ++ [.lst (bs.map bxD)])
          simp only [List.map_cons, List.map_nil] at ew
          have wl : 1 ≤ w ∧ w ≤ 60 := by
            simp only [List.mem_cons, List.not_mem_nil, or_false] at hw
            rcases hw with rfl | rfl | rfl <;> decide
          simp only [ew, ens_ok]
          refine (draw14_ok h4 (by omega) (by omega) (by omega)).imp ?_
          rintro d S' ⟨P5, r5, rfl, h5, rfl, hr50, hr51⟩
          simp only [dAdd_int, ens_ok, enso_nx, List.set_cons_succ, List.set_cons_zero]
          exact hR4 _ _ ⟨P5, 1 + r5, _, by omega, by omega, h5.mono (by omega), rfl, rfl⟩
        rintro e S' ⟨P4, cc, v3, hc0, hc1, h4, rfl, rfl⟩
        refine ens_sq (fun e S' => ∃ (P' : Store) (o : Int), 1 ≤ o ∧ o ≤ 50 ∧ Lf c L (T + 1 + 6 * i + 4) P' ∧ S' = P' ++ [.lst (bs.map bxD)] ∧ e = [some (.cell c), some (.int k'), some (.cell L), v3, some (.int cc), some (.int o)]) (fun R4 hR4 => ?_) ?_
        · simp only [ySet_app, xOp_app, xFn_app, xLst_app, xC_app, xCons_app, xNil_app, xVar_app, List.getElem?_cons_zero, List.getElem?_cons_succ, Res.bind_ok, List.length_cons, List.length_nil, if_pos (show 0 + 1 + 1 ≤ 1000 by decide), mkF_app, enso_out, ens_bind]
          refine (draw14_ok h4 (by decide) (by decide) (by omega)).imp ?_
          rintro d S' ⟨P5, r4, rfl, h5, rfl, hr40, hr41⟩
          obtain ⟨w, hw, ew⟩ := dl_pick [3, 50] hr40 (by simpa using hr41) (P5 ++ [.lst (bs.map bxD)])
          simp only [List.map_cons, List.map_nil] at ew
          have wl : 1 ≤ w ∧ w ≤ 50 := by
            simp only [List.mem_cons, List.not_mem_nil, or_false] at hw
            rcases hw with rfl | rfl <;> decide
          simp only [ew, ens_ok]
          refine (draw14_ok h5 (by omega) (by omega) (by omega)).imp ?_
          rintro d S' ⟨P6, r5, rfl, h6, rfl, hr50, hr51⟩
          simp only [dAdd_int, ens_ok, enso_nx, List.set_cons_succ, List.set_cons_zero]
          exact hR4 _ _ ⟨P6, 1 + r5, by omega, by omega, h6.mono (by omega), rfl, rfl⟩
        rintro e S' ⟨P5, o, ho0, ho1, h5, rfl, rfl⟩
        have al : (bs.map bxD).length < 16000000 := by rw [List.length_map]; omega
        simp only [yExpr_app, xMt_app, xTup_app, xOp_app, xFn_app, xC_app, xCons_app, xNil_app, xVar_app, List.getElem?_cons_zero, List.getElem?_cons_succ, Res.bind_ok, isT, app_at0 h5.1, beq_self_eq_true, if_true, enso_out, ens_bind]
        refine (draw14_ok h5 (by omega) (by omega) (by omega)).imp ?_
        rintro d S' ⟨P6, r6, rfl, h6, rfl, hr60, hr61⟩
        simp only [dAdd_int, ens_ok, Res.bind_ok, List.length_cons, List.length_nil, if_pos (show 0 + 1 + 1 + 1 ≤ 1000 by decide), mAppend, cellL, app_at0 h6.1, if_pos al, app_set0 h6.1, enso_nx]
        refine hR3 _ _ ⟨P6, bs ++ [(cc, 1 + r6, o)], _, _, _, h6.mono (by omega), by simp [bxD], by simp [hl], ?_, _, rfl⟩
        intro z hz
        rcases List.mem_append.mp hz with y | y
        · exact q1 z y
        · rw [List.mem_singleton.mp y]; exact ⟨hc0, hc1, by simp; omega, by simp; omega, ho1⟩
      · rintro e S' hI
        rw [irange_length] at hI
        exact hR2 _ _ ⟨_, by omega, by omega, hI⟩
    rintro e S' ⟨j, hj1, hj2, P', bs, v3, v4, v5, hp, rfl, hl, q1, k', rfl⟩
    simp [frzE, frz, app_at0 hp.1, app_set0 hp.1]
    exact hR _ _ ⟨P', bs, k', v3, v4, v5, hp.mono (by omega), rfl, q1, by omega, by omega, rfl⟩
  rintro e S' ⟨P', bs, k', v3, v4, v5, hp, rfl, q1, q2, q3, rfl⟩
  have un : D.under L (bxsD bs) = true := by
    unfold bxsD
    rw [D.under]
    exact underL_of fun d hd => by
      obtain ⟨z, _, rfl⟩ := List.mem_map.mp hd
      rfl
  simp only [yRet_app, xVar_app, List.getElem?_cons_zero, List.getElem?_cons_succ, enso_out, ens_ok, enso_rt]
  rw [h.1, fin_cut hp.1 hp.2.1 un, ens_ok]
  exact ⟨bs, rfl, q1, q2, q3, hp⟩
/-! ### the law's own sums -/
theorem miss_ok {z : Bx} (h : BxOk z) (m : Nat) (hm : m ≤ 100) (S : Store) : F__law_miss [bxD z, .int (m : Int)] S = .ok (.tup [.int ((z.2.2 - z.2.1) ^ m), .int (z.2.2 ^ m)]) S := by
  have h1 := h.h1
  have h2 := h.h2
  have ho := h.o
  have i1 : ∀ S, dIx (bxD z) (.int 1) S = .ok (.int z.2.1) S := fun S => by unfold bxD; simp
  have i2 : ∀ S, dIx (bxD z) (.int 2) S = .ok (.int z.2.2) S := fun S => by unfold bxD; simp
  rw [← ens_eq]
  refine ens_fn rfl ?_
  unfold b__law_miss
  simp only [List.map_cons, List.map_nil, List.replicate, List.cons_append, List.nil_append]
  refine ens_sq (fun e S' => S' = S ∧ e = [some (bxD z), some (.int (m : Int)), some (.int 1), none, none]) (fun R hR => ?_) ?_
  · simp
    exact hR _ _ ⟨rfl, rfl⟩
  rintro e S' ⟨rfl, rfl⟩
  refine ens_sq (fun e S2 => S2 = S' ∧ e = [some (bxD z), some (.int (m : Int)), some (.int 1), some (.int 1), none]) (fun R hR => ?_) ?_
  · simp
    exact hR _ _ ⟨rfl, rfl⟩
  rintro e S2 ⟨rfl, rfl⟩
  refine ens_sq (fun e S3 => S3 = S2 ∧ ∃ v, e = [some (bxD z), some (.int (m : Int)), some (.int ((z.2.2 - z.2.1) ^ m)), some (.int (z.2.2 ^ m)), v]) (fun R hR => ?_) ?_
  · simp only [yFor_app, iSrcA_app, xCons_app, xNil_app, xVar_app, List.getElem?_cons_zero, List.getElem?_cons_succ, Res.bind_ok, rng_src (show m ≤ 1000000 by omega), enso_out, ens_ok]
    refine ens_fr (fun i e S3 => S3 = S2 ∧ ∃ v, e = [some (bxD z), some (.int (m : Int)), some (.int ((z.2.2 - z.2.1) ^ i)), some (.int (z.2.2 ^ i)), v]) ⟨rfl, none, by simp⟩ ?_ ?_
    · rintro i d e S3 R2 hd ⟨rfl, v, rfl⟩ hR2
      simp [i1, i2]
      exact ⟨mulOkR (by omega) (by omega), mulOkR (by omega) (by omega), hR2 _ _ ⟨rfl, some d, by simp only [Int.pow_succ]⟩⟩
    · rintro e S3 ⟨rfl, v, rfl⟩
      rw [irange_length]
      exact hR _ _ ⟨rfl, v, rfl⟩
  rintro e S3 ⟨rfl, v, rfl⟩
  simp
theorem less_ok {x y : Rat} {n : Nat} (hx : Fs n x) (hy : Fs n y) (hn : n ≤ 4500) (S : Store) : F__law_less [fr x, fr y] S = .ok (.bl (decide (x < y))) S := by
  rw [← ens_eq]
  refine ens_fn rfl ?_
  unfold b__law_less
  simp [hx.num.mulOk hy.den (by omega), hy.num.mulOk hx.den (by omega), Rat.lt_iff]
/-- the worth told, by what is missed -/
theorem told_ok {bs : List Bx} (hb : BsOk bs) {b : Nat} (h60 : b ≤ 60) {S : Store} (hS : (S.all fun c => c.under S.length) = true) : ∃ (s : Rat) (l : List D), F_budget_worth [bxsD bs, .int (b : Int)] S = .ok (.tup (fr (1 - s) :: l)) S ∧ Uw bs b s ∧ Fs 2703 (1 - s) := by
  obtain ⟨d, S', e, w, ns, hc, rfl, hs⟩ := (worth_ok hb h60 hS).get
  rw [hs] at e
  obtain ⟨s, rfl, hu⟩ := hc.uw hb
  exact ⟨s, _, e, hu, hc.wf hb h60⟩
theorem Dm.map {g : Bx → Bx} : ∀ {L : List Bx}, (∀ z ∈ L, mu (g z) ≤ mu z ∧ (g z).1 ≤ z.1) → Dm L (L.map g)
  | [], _ => .nil
  | z :: L, h => .cons (h z (by simp)).1 (h z (by simp)).2 (Dm.map fun x hx => h x (by simp [hx]))
theorem Dm.map' {g : Bx → Bx} : ∀ {L : List Bx}, (∀ z ∈ L, mu z ≤ mu (g z) ∧ z.1 ≤ (g z).1) → Dm (L.map g) L
  | [], _ => .nil
  | z :: L, h => .cons (h z (by simp)).1 (h z (by simp)).2 (Dm.map' fun x hx => h x (by simp [hx]))
theorem Dm.app : ∀ {A : List Bx} {L L' : List Bx}, Dm L L' → Dm (A ++ L) (A ++ L')
  | [], _, _, h => h
  | _ :: A, _, _, h => .cons Rat.le_refl (Int.le_refl _) (Dm.app (A := A) h)
theorem mu_scale {z : Bx} (h : BxOk z) {m : Int} (hm : 0 < m) : mu (z.1, z.2.1 * m, z.2.2 * m) = mu z := by
  have h1 := h.h1
  have h2 := h.h2
  have o0 : (z.2.2 : Rat) ≠ 0 := intq (by omega)
  have m0 : (m : Rat) ≠ 0 := intq (by omega)
  unfold mu
  simp only [Rat.intCast_sub, Rat.intCast_mul]
  generalize (z.2.2 : Rat) = o at *
  generalize (z.2.1 : Rat) = hh at *
  generalize (m : Rat) = k at *
  grind
theorem mu_anti {c h o h' : Int} (ho : 0 < o) (hh : h ≤ h') : mu (c, h', o) ≤ mu (c, h, o) := by
  unfold mu
  simp only
  have q : ((o - h' : Int) : Rat) ≤ ((o - h : Int) : Rat) := Rat.intCast_le_intCast.mpr (by omega)
  rw [Rat.div_def, Rat.div_def]
  exact Rat.mul_le_mul_of_nonneg_right q (Rat.le_of_lt (Rat.inv_pos.mpr (Rat.intCast_pos.mpr ho)))
/-- costs and the budget so many times -/
theorem Uw.times {L : List Bx} {b : Nat} {s : Rat} (u : Uw L b s) (m : Nat) : Uw (L.map fun z => (z.1 * (m : Int), z.2.1, z.2.2)) (b * m) s := by
  obtain ⟨s0, P, e, a, c1, c2⟩ := u
  have ce : cstX (P.map fun p => ((p.1.1 * (m : Int), p.1.2.1, p.1.2.2), p.2)) = cstX P * (m : Rat) := by
    clear e a c1 c2
    induction P with
    | nil => unfold cstX; simp
    | cons p P ih =>
      rw [List.map_cons, cst_cons, cst_cons, ih]
      simp only [Rat.intCast_mul, Rat.intCast_natCast]
      grind
  have m0 : (0 : Rat) ≤ (m : Rat) := Rat.natCast_nonneg
  refine ⟨s0, P.map fun p => ((p.1.1 * (m : Int), p.1.2.1, p.1.2.2), p.2), ?_, fun p hp => ?_, ?_, fun z => ?_⟩
  · rw [← e, List.map_map, List.map_map]; rfl
  · obtain ⟨q, hq, rfl⟩ := List.mem_map.mp hp
    obtain ⟨n, f, f0, f1, e1, e2⟩ := a q hq
    exact ⟨n, f, f0, f1, e1, e2⟩
  · rw [ce, Rat.natCast_mul]
    exact Rat.mul_le_mul_of_nonneg_right c1 m0
  · rw [ce, Rat.natCast_mul, c2 z]
/-- boxes all alike -/
theorem Uw.alike {z : Bx} (hz : BxOk z) {m b : Nat} (m1 : 1 ≤ m) {n r : Nat} {per : Nat} (hper : (per : Int) = z.1 * (m : Int)) (hb : b = per * n + r) (hr : r < per) :
    Uw (List.replicate m z) b ((1 - (r : Rat) / (per : Rat)) * mu z ^ n + (r : Rat) / (per : Rat) * mu z ^ (n + 1)) := by
  have pq : (0 : Rat) < (per : Rat) := Rat.natCast_pos.mpr (by omega)
  have pne : (per : Rat) ≠ 0 := Rat.ne_of_gt pq
  have f0 : 0 ≤ (r : Rat) / (per : Rat) := by rw [Rat.div_def]; exact Rat.mul_nonneg Rat.natCast_nonneg (Rat.le_of_lt (Rat.inv_pos.mpr pq))
  have f1 : (r : Rat) / (per : Rat) < 1 := by
    rw [Rat.div_lt_iff pq, Rat.one_mul]
    exact Rat.natCast_lt_natCast.mpr hr
  obtain ⟨a0, a1, _, _⟩ := mu01 hz
  have u := mix_in f0 f1 (qpow_anti a0 a1 (show n ≤ n + 1 by omega))
  have s0 := Rat.le_trans (pow01 a0 a1 (n + 1)).1 u.1
  have ce : cstX (List.replicate m (z, (n : Rat) + (r : Rat) / (per : Rat))) = (b : Rat) := by
    have go : ∀ k : Nat, cstX (List.replicate k (z, (n : Rat) + (r : Rat) / (per : Rat))) = (k : Rat) * ((z.1 : Rat) * ((n : Rat) + (r : Rat) / (per : Rat))) := fun k => by
      induction k with
      | zero => unfold cstX; simp
      | succ k ih =>
        rw [List.replicate_succ, cst_cons, ih, Rat.natCast_add, show ((1 : Nat) : Rat) = 1 by rfl]
        generalize (z.1 : Rat) * ((n : Rat) + (r : Rat) / (per : Rat)) = y
        grind
    have hq : (per : Rat) = (z.1 : Rat) * (m : Rat) := by
      rw [← Rat.intCast_natCast per, hper, Rat.intCast_mul, Rat.intCast_natCast]
    have e2 : (r : Rat) / (per : Rat) * (per : Rat) = (r : Rat) := Rat.div_mul_cancel pne
    rw [go, hb, Rat.natCast_add, Rat.natCast_mul]
    generalize (r : Rat) / (per : Rat) = F at *
    rw [← e2, hq]
    grind
  refine ⟨s0, List.replicate m (z, (n : Rat) + (r : Rat) / (per : Rat)), by rw [List.map_replicate], fun p hp => ?_, by rw [ce]; exact Rat.le_refl, fun _ => ce⟩
  rw [List.eq_of_mem_replicate hp]
  exact ⟨n, _, f0, f1, rfl, rfl⟩
/-- boxes in which a look finds surely -/
theorem Uw.sure {L : List Bx} (hL : ∀ z ∈ L, BxOk z ∧ mu z = 0) {b c : Nat} (hc : (c : Int) = (L.map (·.1)).sum) (c1 : 1 ≤ c) : Uw L b (1 - ((min b c : Nat) : Rat) / (c : Rat)) := by
  have cq : (0 : Rat) < (c : Rat) := Rat.natCast_pos.mpr (by omega)
  have cne : (c : Rat) ≠ 0 := Rat.ne_of_gt cq
  have ce : ∀ x : Rat, cstX (L.map fun z => (z, x)) = (c : Rat) * x := fun x => by
    have e : (c : Rat) = (((L.map (·.1)).sum : Int) : Rat) := by rw [← hc, Rat.intCast_natCast]
    rw [e]
    clear hc e hL ‹0 < (c : Rat)› ‹(c : Rat) ≠ 0›
    induction L with
    | nil => unfold cstX; simp
    | cons z L ih => rw [List.map_cons, cst_cons, ih, List.map_cons, List.sum_cons, Rat.intCast_add]; grind
  by_cases q : c ≤ b
  · have e : ((min b c : Nat) : Rat) / (c : Rat) = 1 := by
      rw [show min b c = c by omega]
      rw [Rat.div_def, Rat.mul_inv_cancel _ cne]
    rw [e, show (1 : Rat) - 1 = 0 by grind]
    refine ⟨by decide, L.map fun z => (z, (1 : Rat)), by rw [List.map_map]; exact List.map_id' L, fun p hp => ?_, ?_, fun z => absurd z (by decide)⟩
    · obtain ⟨z, hz, rfl⟩ := List.mem_map.mp hp
      refine ⟨1, 0, Rat.le_refl, by decide, by rw [show ((1 : Nat) : Rat) = 1 by rfl]; grind, ?_⟩
      simp only
      rw [(hL z hz).2, Rat.pow_succ, Rat.pow_succ]
      grind
    · rw [ce, Rat.mul_one]
      exact Rat.natCast_le_natCast.mpr q
  · rw [show min b c = b by omega]
    have f0 : 0 ≤ (b : Rat) / (c : Rat) := by rw [Rat.div_def]; exact Rat.mul_nonneg Rat.natCast_nonneg (Rat.le_of_lt (Rat.inv_pos.mpr cq))
    have f1 : (b : Rat) / (c : Rat) < 1 := by
      rw [Rat.div_lt_iff cq, Rat.one_mul]
      exact Rat.natCast_lt_natCast.mpr (by omega)
    have ce2 : cstX (L.map fun z => (z, (b : Rat) / (c : Rat))) = (b : Rat) := by
      rw [ce, Rat.mul_comm]; exact Rat.div_mul_cancel cne
    refine ⟨by grind, L.map fun z => (z, (b : Rat) / (c : Rat)), by rw [List.map_map]; exact List.map_id' L, fun p hp => ?_, by rw [ce2]; exact Rat.le_refl, fun _ => ce2⟩
    obtain ⟨z, hz, rfl⟩ := List.mem_map.mp hp
    refine ⟨0, (b : Rat) / (c : Rat), f0, f1, by rw [show ((0 : Nat) : Rat) = 0 by rfl]; grind, ?_⟩
    simp only
    rw [(hL z hz).2, Rat.pow_succ, Rat.pow_zero]
    grind
/-! ### no mix finds more -/
/-- a look more or less against the price -/
theorem bern_up {e : Rat} (h0 : 0 ≤ e) (h1 : e ≤ 1) : ∀ d : Nat, 1 - (d : Rat) * e ≤ (1 - e) ^ d
  | 0 => by rw [Rat.pow_zero, show ((0 : Nat) : Rat) = 0 by rfl]; grind
  | d + 1 => by
    have ih := bern_up h0 h1 d
    have m := Rat.mul_le_mul_of_nonneg_right ih (show (0 : Rat) ≤ 1 - e by grind)
    have p := Rat.mul_nonneg (Rat.mul_nonneg (show (0 : Rat) ≤ (d : Rat) from Rat.natCast_nonneg) h0) h0
    rw [Rat.pow_succ, Rat.natCast_add, show ((1 : Nat) : Rat) = 1 by rfl]
    grind
theorem bern_dn {e : Rat} (h0 : 0 ≤ e) (h1 : e ≤ 1) : ∀ d : Nat, (1 + (d : Rat) * e) * (1 - e) ^ d ≤ 1
  | 0 => by rw [Rat.pow_zero, show ((0 : Nat) : Rat) = 0 by rfl]; grind
  | d + 1 => by
    have ih := bern_dn h0 h1 d
    have q0 : (0 : Rat) ≤ (1 - e) ^ d := (pow01 (show 0 ≤ 1 - e by grind) (show 1 - e ≤ 1 by grind) d).1
    have p := Rat.mul_nonneg (Rat.mul_nonneg (show (0 : Rat) ≤ (d : Rat) + 1 by have : (0 : Rat) ≤ (d : Rat) := Rat.natCast_nonneg; grind) (Rat.mul_nonneg h0 h0)) q0
    rw [Rat.pow_succ, Rat.natCast_add, show ((1 : Nat) : Rat) = 1 by rfl]
    have e1 : (1 + ((d : Rat) + 1) * e) * ((1 - e) ^ d * (1 - e)) = (1 + (d : Rat) * e) * (1 - e) ^ d - ((d : Rat) + 1) * (e * e) * (1 - e) ^ d := by grind
    rw [e1]
    grind
/-- what one box's looks are worth against what they cost -/
theorem box_dual {z : Bx} (hz : BxOk z) {n n' : Nat} (hM : 0 < mu z ^ n) : (z.1 : Rat) / eta z - (z.1 : Rat) * ((n' : Rat) - (n : Rat)) ≤ (z.1 : Rat) / (eta z * mu z ^ n) * mu z ^ n' := by
  obtain ⟨c1, c2, e0, e1, _⟩ := hz.q
  obtain ⟨m0, m1, _, he⟩ := mu01 hz
  have em : mu z = 1 - eta z := by grind
  have key : (1 - eta z * ((n' : Rat) - (n : Rat))) * mu z ^ n ≤ mu z ^ n' := by
    by_cases h : n ≤ n'
    · obtain ⟨d, rfl⟩ : ∃ d, n' = n + d := ⟨n' - n, by omega⟩
      have b := bern_up (Rat.le_of_lt e0) e1 d
      rw [← em] at b
      have := Rat.mul_le_mul_of_nonneg_right b (Rat.le_of_lt hM)
      have pa : mu z ^ (n + d) = mu z ^ d * mu z ^ n := by
        have : ∀ d : Nat, mu z ^ (n + d) = mu z ^ d * mu z ^ n := fun d => by
          induction d with
          | zero => rw [Rat.pow_zero, Rat.one_mul]; rfl
          | succ d ih => rw [← Nat.add_assoc, Rat.pow_succ, ih, Rat.pow_succ]; grind
        exact this d
      rw [pa, Rat.natCast_add]
      generalize mu z ^ n = M at *
      generalize mu z ^ d = Q at *
      generalize (n : Rat) = x at *
      generalize (d : Rat) = y at *
      have e2 : (1 - eta z * (x + y - x)) * M = (1 - y * eta z) * M := by grind
      rw [e2]
      exact this
    · obtain ⟨d, rfl⟩ : ∃ d, n = n' + d := ⟨n - n', by omega⟩
      have b := bern_dn (Rat.le_of_lt e0) e1 d
      rw [← em] at b
      have q0 := (pow01 m0 m1 n').1
      have := Rat.mul_le_mul_of_nonneg_right b q0
      have pa : mu z ^ (n' + d) = mu z ^ d * mu z ^ n' := by
        have : ∀ d : Nat, mu z ^ (n' + d) = mu z ^ d * mu z ^ n' := fun d => by
          induction d with
          | zero => rw [Rat.pow_zero, Rat.one_mul]; rfl
          | succ d ih => rw [← Nat.add_assoc, Rat.pow_succ, ih, Rat.pow_succ]; grind
        exact this d
      rw [pa, Rat.natCast_add]
      generalize mu z ^ n' = M at *
      generalize mu z ^ d = Q at *
      generalize (n' : Rat) = x at *
      generalize (d : Rat) = y at *
      have e2 : (1 - eta z * (x - (x + y))) * (Q * M) = (1 + y * eta z) * Q * M := by grind
      rw [e2]
      rw [Rat.one_mul] at this
      exact this
  have cp : (0 : Rat) ≤ (z.1 : Rat) / (eta z * mu z ^ n) := by
    rw [Rat.div_def]
    exact Rat.mul_nonneg (by grind) (Rat.le_of_lt (Rat.inv_pos.mpr (Rat.mul_pos e0 hM)))
  have := Rat.mul_le_mul_of_nonneg_left key cp
  have e0' : eta z ≠ 0 := Rat.ne_of_gt e0
  have m0' : mu z ^ n ≠ 0 := Rat.ne_of_gt hM
  generalize mu z ^ n = M at *
  generalize mu z ^ n' = M' at *
  generalize (z.1 : Rat) = c at *
  generalize eta z = e at *
  have e3 : c / (e * M) * ((1 - e * ((n' : Rat) - (n : Rat))) * M) = c / e - c * ((n' : Rat) - (n : Rat)) := by grind
  rw [e3] at this
  exact this
/-- any plan, by the weights that are told, against its cost -/
theorem plan_dual {bs : List Bx} (hb : BsOk bs) {b : Nat} {ns : List Nat} {s : Rat} (h : CA bs b ns s) (ps : List Nat) :
    sumN bs.length (fun j => icR bs ns j * (1 - hAt bs ps j)) ≤ (1 - s) * prR bs ns + (sumN bs.length (fun j => cQ bs j * (nAt ps j : Rat)) - (b : Rat)) := by
  have hbud := h.bud
  rw [usR_eq] at hbud
  have st : sumN bs.length (fun j => icR bs ns j * (1 - hAt bs ps j)) ≤ sumN bs.length (fun j => (icR bs ns j + cQ bs j * (nAt ps j : Rat)) - (cQ bs j * (nAt ns j : Rat) + cQ bs j / eta (bxAt bs j))) := by
    refine sumN_le _ fun j hj => ?_
    have := box_dual (hb.at hj) (n := nAt ns j) (n' := nAt ps j) (h.hpos j hj)
    unfold icR hAt
    generalize mu (bxAt bs j) ^ nAt ns j = M at *
    generalize mu (bxAt bs j) ^ nAt ps j = M' at *
    generalize cQ bs j / (eta (bxAt bs j) * M) = I at *
    generalize cQ bs j / eta (bxAt bs j) = K at *
    generalize (nAt ns j : Rat) = x at *
    generalize (nAt ps j : Rat) = y at *
    have e : cQ bs j * (y - x) = cQ bs j * y - cQ bs j * x := by grind
    grind
  rw [sumN_sub, sumN_add] at st
  have e1 : sumN bs.length (icR bs ns) = prR bs ns := rfl
  have e2 : sumN bs.length (fun j => cQ bs j * (nAt ns j : Rat) + cQ bs j / eta (bxAt bs j)) = kaR bs ns := rfl
  rw [e1, e2] at st
  grind
/-! mixes -/
abbrev Mx := List (List Nat × Int)
def tM (bs : List Bx) (j : Nat) (p : List Nat × Int) : Rat := (p.2 : Rat) * (1 - hAt bs p.1 j)
def fM (bs : List Bx) (M : Mx) (j : Nat) : Rat := (M.map (tM bs j)).sum
def wM (M : Mx) : Int := (M.map (·.2)).sum
def coR (bs : List Bx) (ps : List Nat) : Rat := sumN bs.length fun j => cQ bs j * (nAt ps j : Rat)
def cM (bs : List Bx) (M : Mx) : Rat := (M.map fun p => (p.2 : Rat) * coR bs p.1).sum
theorem mix_dual {bs : List Bx} (hb : BsOk bs) {b : Nat} {ns : List Nat} {s : Rat} (h : CA bs b ns s) : ∀ M : Mx, (∀ p ∈ M, 0 ≤ p.2) → sumN bs.length (fun j => icR bs ns j * fM bs M j) ≤ (1 - s) * prR bs ns * (wM M : Rat) + (cM bs M - (b : Rat) * (wM M : Rat))
  | [], _ => by
    have e : sumN bs.length (fun j => icR bs ns j * fM bs [] j) = 0 := by
      rw [sumN_congr (h := fun _ => 0) _ fun j _ => by unfold fM; simp, sumN_zero]
    rw [e]
    unfold wM cM
    simp
    grind
  | p :: M, hM => by
    have ih := mix_dual hb h M fun q hq => hM q (by simp [hq])
    have one := plan_dual hb h p.1
    have w0 : (0 : Rat) ≤ (p.2 : Rat) := Rat.intCast_nonneg.mpr (hM p (by simp))
    have m := Rat.mul_le_mul_of_nonneg_left one w0
    have e1 : sumN bs.length (fun j => icR bs ns j * fM bs (p :: M) j) = (p.2 : Rat) * sumN bs.length (fun j => icR bs ns j * (1 - hAt bs p.1 j)) + sumN bs.length (fun j => icR bs ns j * fM bs M j) := by
      rw [Rat.mul_comm, ← sumN_mul, ← sumN_add]
      refine sumN_congr _ fun j _ => ?_
      unfold fM tM
      rw [List.map_cons, List.sum_cons]
      generalize (List.map (fun p => (p.2 : Rat) * (1 - hAt bs p.1 j)) M).sum = y
      generalize hAt bs p.1 j = x
      generalize icR bs ns j = z
      generalize (p.2 : Rat) = t
      grind
    have e2 : (wM (p :: M) : Rat) = (p.2 : Rat) + (wM M : Rat) := by unfold wM; rw [List.map_cons, List.sum_cons, Rat.intCast_add]
    have e3 : cM bs (p :: M) = (p.2 : Rat) * coR bs p.1 + cM bs M := by unfold cM; rw [List.map_cons, List.sum_cons]
    have e4 : sumN bs.length (fun j => cQ bs j * (nAt p.1 j : Rat)) = coR bs p.1 := rfl
    rw [e4] at m
    rw [e1, e2, e3]
    generalize sumN bs.length (fun j => icR bs ns j * (1 - hAt bs p.1 j)) = A at *
    generalize sumN bs.length (fun j => icR bs ns j * fM bs M j) = B at *
    generalize coR bs p.1 = C at *
    generalize cM bs M = E at *
    generalize (wM M : Rat) = W at *
    generalize (p.2 : Rat) = t at *
    generalize prR bs ns = q at *
    generalize (b : Rat) = bb at *
    have e5 : t * ((1 - s) * q + (C - bb)) = (1 - s) * q * t + (t * C - bb * t) := by grind
    rw [e5] at m
    have e6 : (1 - s) * q * (t + W) + (t * C + E - bb * (t + W)) = ((1 - s) * q * t + (t * C - bb * t)) + ((1 - s) * q * W + (E - bb * W)) := by grind
    rw [e6]
    grind
theorem sumN_lt {g h : Nat → Rat} : ∀ n : Nat, 0 < n → (∀ j < n, g j < h j) → sumN n g < sumN n h
  | 0, z, _ => by omega
  | n + 1, _, e => by
    rw [sumN, sumN]
    have := sumN_le n fun j hj => Rat.le_of_lt (e j (show j < n + 1 by omega))
    have := e n (by omega)
    grind
/-- in some box no mix within the budget finds with more than the worth -/
theorem mix_least {bs : List Bx} (hb : BsOk bs) {b : Nat} {ns : List Nat} {w : Rat} (h : Clm bs b ns w) {M : Mx} (hM : ∀ p ∈ M, 0 ≤ p.2) (hw : 0 < wM M) (hc : cM bs M ≤ (b : Rat) * (wM M : Rat)) : ∃ j < bs.length, fM bs M j ≤ w * (wM M : Rat) := by
  have wq : (0 : Rat) < (wM M : Rat) := Rat.intCast_pos.mpr hw
  rcases h with ⟨s, rfl, h⟩ | ⟨rfl, h⟩
  · refine Classical.byContradiction fun no => ?_
    have all : ∀ j < bs.length, (1 - s) * (wM M : Rat) < fM bs M j := fun j hj => Rat.not_le.mp fun z => no ⟨j, hj, z⟩
    have d := mix_dual hb h M hM
    have lt : sumN bs.length (fun j => icR bs ns j * ((1 - s) * (wM M : Rat))) < sumN bs.length (fun j => icR bs ns j * fM bs M j) := sumN_lt _ hb.b1 fun j hj => Rat.mul_lt_mul_of_pos_left (all j hj) (ic_pos hb hj (h.hpos j hj))
    rw [sumN_mul] at lt
    have e : sumN bs.length (fun j => icR bs ns j) = prR bs ns := rfl
    rw [e] at lt
    generalize sumN bs.length (fun j => icR bs ns j * fM bs M j) = A at *
    generalize cM bs M = E at *
    generalize (wM M : Rat) = W at *
    generalize prR bs ns = q at *
    generalize (b : Rat) = bb at *
    have e2 : q * ((1 - s) * W) = (1 - s) * q * W := by grind
    rw [e2] at lt
    grind
  · refine ⟨0, hb.b1, ?_⟩
    rw [Rat.one_mul]
    have go : ∀ M : Mx, (∀ p ∈ M, 0 ≤ p.2) → fM bs M 0 ≤ (wM M : Rat) := fun M => by
      induction M with
      | nil => intro _; unfold fM wM; simp
      | cons p M ih =>
        intro q
        have := ih fun x hx => q x (by simp [hx])
        have w0 : (0 : Rat) ≤ (p.2 : Rat) := Rat.intCast_nonneg.mpr (q p (by simp))
        obtain ⟨a0, a1, _, _⟩ := mu01 (hb.at (j := 0) hb.b1)
        have hh := (pow01 a0 a1 (nAt p.1 0)).1
        have := Rat.mul_nonneg w0 (show 0 ≤ hAt bs p.1 0 from hh)
        unfold fM wM tM at *
        rw [List.map_cons, List.sum_cons, List.map_cons, List.sum_cons, Rat.intCast_add]
        generalize (List.map (fun p => (p.2 : Rat) * (1 - hAt bs p.1 0)) M).sum = y at *
        grind
    exact go M hM
/-! the told weights -/
theorem gcF_mem : ∀ (l : List Int) (b : Nat), ∀ x ∈ l, ((gcF l b : Nat) : Int) ∣ x
  | w :: l, b, x, hx => by
    rcases List.mem_cons.mp hx with rfl | z
    · have h1 : gcF l (Int.gcd (b : Int) x) ∣ Int.gcd (b : Int) x := gcF_dvd l _
      have h2 : ((gcF l (Int.gcd (b : Int) x) : Nat) : Int) ∣ ((Int.gcd (b : Int) x : Nat) : Int) := Int.natCast_dvd_natCast.mpr h1
      exact Int.dvd_trans h2 (Int.gcd_dvd_right (b : Int) x)
    · exact gcF_mem l _ x z
def prcR (bs : List Bx) (ns : List Nat) : Rat := ((btR bs ns : Int) : Rat) / ((ptR bs ns : Int) : Rat)
theorem wt_exact {bs : List Bx} (hb : BsOk bs) {b : Nat} {ns : List Nat} {s : Rat} (h : CA bs b ns s) : 0 < prcR bs ns ∧ ∀ j < bs.length, ((((wtR bs ns).map fun x => x / (ptR bs ns : Int)).getD j 0 : Int) : Rat) = icR bs ns j * prcR bs ns := by
  obtain ⟨dm, ik⟩ := h.ic hb
  have hbt := ik.b
  have pd : ptR bs ns ∣ btR bs ns := gcF_dvd _ _
  have pp : 0 < ptR bs ns := Nat.pos_of_dvd_of_pos pd hbt.1
  have p0 : ((ptR bs ns : Int) : Rat) ≠ 0 := intq (by omega)
  refine ⟨?_, fun j hj => ?_⟩
  · unfold prcR
    rw [Rat.div_def]
    exact Rat.mul_pos (Rat.intCast_pos.mpr (by omega)) (Rat.inv_pos.mpr (Rat.intCast_pos.mpr (by omega)))
  · have il : (icL bs ns).length = bs.length := by unfold icL; simp
    have e0 : (icL bs ns)[j]? = some (icR bs ns j) := by unfold icL; rw [List.getElem?_map, List.getElem?_range hj]; rfl
    have e1 : (wtR bs ns)[j]? = some ((icR bs ns j).num * ((btR bs ns / (icR bs ns j).den : Nat) : Int)) := by unfold wtR; rw [List.getElem?_map, e0]; rfl
    have mem : (icR bs ns j).num * ((btR bs ns / (icR bs ns j).den : Nat) : Int) ∈ wtR bs ns := List.mem_of_getElem? e1
    have dv := gcF_mem (wtR bs ns) (btR bs ns) _ mem
    have dd : (icR bs ns j).den ∣ btR bs ns := (botR_has _ 1).2 _ (List.mem_map.mpr ⟨_, List.mem_of_getElem? e0, rfl⟩)
    rw [List.getD_eq_getElem?_getD, List.getElem?_map, e1]
    simp only [Option.map_some, Option.getD_some]
    obtain ⟨k, hk⟩ := dv
    have hk2 : (icR bs ns j).num * ((btR bs ns / (icR bs ns j).den : Nat) : Int) = (ptR bs ns : Int) * k := hk
    rw [hk2, Int.mul_ediv_cancel_left _ (by omega)]
    obtain ⟨q, hq⟩ := dd
    have dp := (icR bs ns j).den_pos
    have eq : btR bs ns / (icR bs ns j).den = q := by rw [hq, Nat.mul_div_cancel_left _ dp]
    rw [eq] at hk2
    unfold prcR
    have c1 : ((icR bs ns j).num : Rat) * (q : Rat) = ((ptR bs ns : Int) : Rat) * (k : Rat) := by
      rw [← Rat.intCast_mul, ← hk2, Rat.intCast_mul, Rat.intCast_natCast]
    have c2 : (((btR bs ns : Nat) : Int) : Rat) = ((icR bs ns j).den : Rat) * (q : Rat) := by rw [hq, Int.natCast_mul, Rat.intCast_mul, Rat.intCast_natCast, Rat.intCast_natCast]
    rw [num_eq] at c1
    rw [c2]
    generalize ((ptR bs ns : Int) : Rat) = p at *
    generalize ((icR bs ns j).den : Rat) = d at *
    generalize icR bs ns j = x at *
    have c3 : x * (d * (q : Rat)) = p * (k : Rat) := by grind
    have c4 : x * ((d * (q : Rat)) / p) = (x * (d * (q : Rat))) / p := by grind
    rw [c4, c3]
    grind
/-! ### the law's sums over mixes -/
def mxP (p : List Nat × Int) : D := .tup [plD p.1, .int p.2]
structure PlK (bs : List Bx) (ps : List Nat) : Prop where
  len : ps.length = bs.length
  p60 : ∀ m ∈ ps, m ≤ 60
theorem PlK.n60 {bs : List Bx} {ps : List Nat} (h : PlK bs ps) {j : Nat} (hj : j < bs.length) : nAt ps j ≤ 60 := by
  have hj2 : j < ps.length := by rw [h.len]; exact hj
  have : nAt ps j = ps[j] := by unfold nAt; rw [List.getD_eq_getElem?_getD, List.getElem?_eq_getElem hj2]; rfl
  rw [this]
  exact h.p60 _ (List.getElem_mem hj2)
theorem PlK.ix {bs : List Bx} {ps : List Nat} (h : PlK bs ps) {j : Nat} (hj : j < bs.length) (S : Store) : dIx (plD ps) (.int (j : Int)) S = .ok (.int (nAt ps j : Nat)) S := pl_at (ns := ps) (j := j) (by rw [h.len]; exact hj) S
/-- what a plan costs -/
def coI (bs : List Bx) (ps : List Nat) : Int := ((List.range bs.length).map fun j => (bxAt bs j).1 * (nAt ps j : Int)).sum
theorem sum_cast : ∀ l : List Int, ((l.sum : Int) : Rat) = (l.map fun (x : Int) => (x : Rat)).sum
  | [] => by simp
  | a :: l => by rw [List.sum_cons, Rat.intCast_add, sum_cast l, List.map_cons, List.sum_cons]
theorem coI_q (bs : List Bx) (ps : List Nat) : ((coI bs ps : Int) : Rat) = coR bs ps := by
  unfold coI coR
  rw [sum_cast, List.map_map, ← sum_rangeN]
  congr 1
  refine List.map_congr_left fun j _ => ?_
  simp only [Function.comp, Rat.intCast_mul, Rat.intCast_natCast]
theorem coI_bd {bs : List Bx} (hb : BsOk bs) {ps : List Nat} (h : PlK bs ps) : 0 ≤ coI bs ps ∧ coI bs ps ≤ 21600 := by
  have go : ∀ l : List Nat, (∀ j ∈ l, j < bs.length) → 0 ≤ (l.map fun j => (bxAt bs j).1 * (nAt ps j : Int)).sum ∧ (l.map fun j => (bxAt bs j).1 * (nAt ps j : Int)).sum ≤ 3600 * l.length := by
    intro l
    induction l with
    | nil => intro _; simp
    | cons j l ih =>
      intro q
      have := ih fun x hx => q x (by simp [hx])
      have hj := q j (by simp)
      have hz := hb.at hj
      have c1 := hz.c1
      have c2 := hz.c2
      have n6 := h.n60 hj
      have k1 : 0 ≤ (bxAt bs j).1 * (nAt ps j : Int) := Int.mul_nonneg (by omega) (by omega)
      have k2 : (bxAt bs j).1 * (nAt ps j : Int) ≤ 60 * 60 := Int.mul_le_mul c2 (by omega) (by omega) (by decide)
      rw [List.map_cons, List.sum_cons, List.length_cons]
      omega
  have := go (List.range bs.length) fun j hj => List.mem_range.mp hj
  rw [List.length_range] at this
  have := hb.b6
  unfold coI
  omega
theorem price_ok {bs : List Bx} (hb : BsOk bs) {ps : List Nat} (h : PlK bs ps) (S : Store) : F__law_price [bxsD bs, plD ps] S = .ok (.int (coI bs ps)) S := by
  have h6 := hb.b6
  have hc : lcL (fun _ => True) (eN 2) cYes (xOp (dMul mkF) (xOp dIx (xOp dIx (xVar 0) (xVar 2)) (xC (.int 0))) (xOp dIx (xVar 1) (xVar 2))) [some (bxsD bs), some (plD ps), none] (irange 0 (List.range bs.length).length) [] S = .ok ([] ++ (List.range bs.length).map fun j => D.int ((bxAt bs j).1 * (nAt ps j : Int))) S := by
    refine lc_rng (fun j => D.int ((bxAt bs j).1 * (nAt ps j : Int))) (List.range bs.length) 0 [] (fun i hi => ⟨_, rfl, ?_⟩) (by simp; omega)
    have i1 : i < bs.length := by simpa using hi
    have hz := hb.at i1
    have z1 := hz.c1
    have z2 := hz.c2
    have mo : IntMulOk (bxAt bs i).1 (nAt ps i : Int) := mulOkL (by omega) (by omega)
    have ix0 : ∀ S, dIx (bxD (bxAt bs i)) (.int 0) S = .ok (.int (bxAt bs i).1) S := fun S => by unfold bxD; simp
    simp only [List.set_cons_succ, List.set_cons_zero, xC_app, xOp_app, xVar_app, List.getElem?_cons_zero, List.getElem?_cons_succ, Res.bind_ok, Int.zero_add, bx_at i1, h.ix i1, ix0, dMul_int, if_pos mo, List.getElem_range]
  have me : ((List.range bs.length).map fun j => D.int ((bxAt bs j).1 * (nAt ps j : Int))) = ((List.range bs.length).map fun j => (bxAt bs j).1 * (nAt ps j : Int)).map D.int := by rw [List.map_map]; rfl
  rw [List.length_range, List.nil_append, me] at hc
  have hs := bSum_ok ((List.range bs.length).map fun j => (bxAt bs j).1 * (nAt ps j : Int)) S
  rw [← ens_eq]
  refine ens_fn rfl ?_
  unfold b__law_price
  simp only [List.map_cons, List.map_nil, List.replicate, List.cons_append, List.nil_append, yRet_app, xLc_app, iSrcA_app, xCons_app, xFn_app, xNil_app, xVar_app, List.getElem?_cons_zero, Res.bind_ok, bx_len, rng_src (show bs.length ≤ 1000000 by omega), wipeE_cons, wipeE_nil, List.set_cons_succ, List.set_cons_zero, hc, mkF_app]
  have hs2 : bSum [.lst (((List.range bs.length).map fun j => (bxAt bs j).1 * (nAt ps j : Int)).map D.int)] S = .ok (.int (coI bs ps)) S := hs
  simp only [hs2, enso_out, ens_ok, enso_rt, fin_same]
  exact ⟨trivial, trivial⟩
/-- a sum of two fractions by the law -/
theorem lplus_r {a c : Int} {b d : Int} {n m : Nat} (ha : Sz n a) (hb : Sz n b) (hc : Sz m c) (hd : Sz m d) (b0 : 0 < b) (d0 : 0 < d) (hn : n + m ≤ 8000) (S : Store) : F__law_plus [.tup [.int a, .int b], .tup [.int c, .int d]] S = .ok (fr ((a : Rat) / (b : Rat) + (c : Rat) / (d : Rat))) S := by
  have q1 := ha.mulOk hd (by omega)
  have q2 := hc.mulOk hb (by omega)
  have q3 := hb.mulOk hd (by omega)
  have lo := fun S => lowest13_ok (a * d + c * b) (b * d) (Int.mul_pos b0 d0) ((hb.mul hd).le hn) S
  have val : (((a * d + c * b : Int) : Rat)) / (((b * d : Int)) : Rat) = (a : Rat) / (b : Rat) + (c : Rat) / (d : Rat) := by
    have b1 : (b : Rat) ≠ 0 := intq (by omega)
    have d1 : (d : Rat) ≠ 0 := intq (by omega)
    simp only [Rat.intCast_add, Rat.intCast_mul]
    generalize (a : Rat) = a at *
    generalize (b : Rat) = b at *
    generalize (c : Rat) = c at *
    generalize (d : Rat) = d at *
    grind
  rw [← val, ← ens_eq]
  refine ens_fn rfl ?_
  unfold b__law_plus
  simp [q1, q2, q3, lo]
theorem fr_eq (x : Rat) : ((x.num : Int) : Rat) / (((x.den : Nat) : Int) : Rat) = x := by
  rw [Rat.intCast_natCast, num_eq]
  have := denq x
  grind
/-- found by the told weights -/
def fwR (bs : List Bx) (ws : List Int) (ps : List Nat) (j : Nat) : Rat := ((ws.getD j 0 : Int) : Rat) * (1 - hAt bs ps j)
theorem miss_val {z : Bx} (h : BxOk z) (n : Nat) : (1 : Rat) - mu z ^ n = (((z.2.2 ^ n - (z.2.2 - z.2.1) ^ n : Int)) : Rat) / ((z.2.2 ^ n : Int) : Rat) := by
  obtain ⟨_, o2⟩ := h.so
  have o0 : ((z.2.2 ^ n : Int) : Rat) ≠ 0 := intq (by have p : 0 < z.2.2 ^ n := Int.pow_pos o2; omega)
  have : mu z ^ n = (((z.2.2 - z.2.1) ^ n : Int) : Rat) / ((z.2.2 ^ n : Int) : Rat) := by
    unfold mu
    rw [Rat.intCast_pow, Rat.intCast_pow, div_pow_r (intq (by omega))]
  rw [this, Rat.intCast_sub]
  generalize ((z.2.2 ^ n : Int) : Rat) = O at *
  generalize (((z.2.2 - z.2.1) ^ n : Int) : Rat) = Q at *
  grind
theorem fw_ok {bs : List Bx} (hb : BsOk bs) (h3 : bs.length ≤ 3) {ws : List Int} (wl : ws.length = bs.length) (wz : ∀ w ∈ ws, Sz 900 w) {ps : List Nat} (h : PlK bs ps) (S : Store) : F__law_found_by_weights [bxsD bs, .lst (ws.map D.int), plD ps] S = .ok (fr (sumN bs.length (fwR bs ws ps))) S ∧ Fs 4200 (sumN bs.length (fwR bs ws ps)) := by
  have wj : ∀ j, j < bs.length → Sz 900 (ws.getD j 0) := fun j hj => by
    have kw : j < ws.length := by rw [wl]; exact hj
    rw [List.getD_eq_getElem?_getD, List.getElem?_eq_getElem kw]; exact wz _ (List.getElem_mem kw)
  have ff : ∀ j, j < bs.length → Fs 1300 (fwR bs ws ps j) := fun j hj => fs_mul (int_fs (wj j hj) (by decide)) (fnd_fs (hb.at hj) (nAt ps j) (by have := h.n60 hj; omega))
  have sf : ∀ i, i ≤ bs.length → Fs 4200 (sumN i (fwR bs ws ps)) := fun i hi => (sumN_fs (k := 1300) i fun j hj => ff j (by omega)).le (by omega)
  have ixw : ∀ (k : Nat) (hk : k < bs.length) S, dIx (.lst (ws.map D.int)) (.int (k : Int)) S = .ok (.int (ws.getD k 0)) S := fun k hk S => by
    have hk' : k < ws.length := by rw [wl]; exact hk
    rw [dIx_lst, atI_nat (by rw [List.getElem?_map, List.getElem?_eq_getElem hk']; rfl), List.getD_eq_getElem?_getD, List.getElem?_eq_getElem hk']
    rfl
  refine ⟨?_, sf _ (Nat.le_refl _)⟩
  rw [← ens_eq]
  refine ens_fn rfl ?_
  unfold b__law_found_by_weights
  simp only [List.map_cons, List.map_nil, List.replicate, List.cons_append, List.nil_append]
  refine ens_sq (fun e S' => S' = S ∧ e = [some (bxsD bs), some (.lst (ws.map D.int)), some (plD ps), some (fr 0), none, none, none]) (fun R hR => ?_) ?_
  · simp
    exact hR _ _ ⟨rfl, rfl⟩
  rintro e S' ⟨rfl, rfl⟩
  refine ens_sq (fun e S2 => S2 = S' ∧ ∃ v4 v5 v6, e = [some (bxsD bs), some (.lst (ws.map D.int)), some (plD ps), some (fr (sumN bs.length (fwR bs ws ps))), v4, v5, v6]) (fun R hR => ?_) ?_
  · simp only [yFor_app, iSrcA_app, xFn_app, xCons_app, xNil_app, xVar_app, List.getElem?_cons_zero, List.getElem?_cons_succ, Res.bind_ok, bx_len, rng_src (show bs.length ≤ 1000000 by omega), enso_out, ens_ok]
    refine ens_fr (fun i e S2 => S2 = S' ∧ ∃ v4 v5 v6, e = [some (bxsD bs), some (.lst (ws.map D.int)), some (plD ps), some (fr (sumN i (fwR bs ws ps))), v4, v5, v6]) ⟨rfl, none, none, none, rfl⟩ ?_ ?_
    · rintro i d e S2 R2 hd ⟨rfl, v4, v5, v6, rfl⟩ hR2
      obtain ⟨rfl, hi⟩ := irange_get hd
      have hz := hb.at hi
      obtain ⟨o1, o2⟩ := hz.so
      have n60 := h.n60 hi
      simp only [Int.zero_add, gN_app, enso_nx, List.set_cons_succ, List.set_cons_zero]
      refine ens_sq (fun e S3 => S3 = S2 ∧ e = [some (bxsD bs), some (.lst (ws.map D.int)), some (plD ps), some (fr (sumN i (fwR bs ws ps))), some (.int (i : Int)), some (.int (((bxAt bs i).2.2 - (bxAt bs i).2.1) ^ nAt ps i)), some (.int ((bxAt bs i).2.2 ^ nAt ps i))]) (fun R3 hR3 => ?_) ?_
      · have ms := fun S => miss_ok hz (nAt ps i) (by omega) S
        simp only [yAsg_app, xFn_app, xOp_app, xCons_app, xNil_app, xVar_app, List.getElem?_cons_zero, List.getElem?_cons_succ, Res.bind_ok, bx_at hi, h.ix hi, ms, enso_out, ens_ok]
        simp [gT, gsCons, gsNil, gN, Out.seq]
        exact hR3 _ _ ⟨rfl, rfl⟩
      rintro e S3 ⟨rfl, rfl⟩
      have op : 0 < (bxAt bs i).2.2 ^ nAt ps i := Int.pow_pos o2
      have os : Sz 400 ((bxAt bs i).2.2 ^ nAt ps i) := (pow_sz o1 _).le (by omega)
      have qs : Sz 400 (((bxAt bs i).2.2 - (bxAt bs i).2.1) ^ nAt ps i) := (pow_sz hz.sm _).le (by omega)
      have q1 := (wj i hi).mulOk (os.sub qs) (by decide)
      have q2 := (wj i hi).mul (os.sub qs)
      have pf := sf i (by omega)
      have pl := fun S => lplus_r pf.num pf.den q2 (os.le (show 400 ≤ 900 + 401 by decide)) (den_pos _) op (by decide) S
      have val : ((sumN i (fwR bs ws ps)).num : Rat) / (((sumN i (fwR bs ws ps)).den : Int) : Rat) + (((ws.getD i 0 * ((bxAt bs i).2.2 ^ nAt ps i - ((bxAt bs i).2.2 - (bxAt bs i).2.1) ^ nAt ps i) : Int)) : Rat) / (((bxAt bs i).2.2 ^ nAt ps i : Int) : Rat) = sumN (i + 1) (fwR bs ws ps) := by
        rw [fr_eq, sumN]
        congr 1
        unfold fwR hAt
        rw [miss_val hz, Rat.intCast_mul, Rat.div_def, Rat.div_def, Rat.mul_assoc]
      have pl2 : ∀ S, F__law_plus [fr (sumN i (fwR bs ws ps)), .tup [.int (ws.getD i 0 * ((bxAt bs i).2.2 ^ nAt ps i - ((bxAt bs i).2.2 - (bxAt bs i).2.1) ^ nAt ps i)), .int ((bxAt bs i).2.2 ^ nAt ps i)]] S = .ok (fr (sumN (i + 1) (fwR bs ws ps))) S := fun S => by rw [← val]; exact pl S
      simp only [ySet_app, xFn_app, xOp_app, xTup_app, xCons_app, xNil_app, xVar_app, List.getElem?_cons_zero, List.getElem?_cons_succ, Res.bind_ok, ixw i hi, dSub_ok, dMul_int, if_pos q1, List.length_cons, List.length_nil, if_pos (show 0 + 1 + 1 ≤ 1000 by decide), pl2, enso_out, ens_ok, enso_nx, List.set_cons_succ, List.set_cons_zero]
      exact hR2 _ _ ⟨rfl, _, _, _, rfl⟩
    · rintro e S2 ⟨rfl, v4, v5, v6, rfl⟩
      rw [irange_length]
      exact hR _ _ ⟨rfl, _, _, _, rfl⟩
  rintro e S2 ⟨rfl, v4, v5, v6, rfl⟩
  simp
structure MxK (bs : List Bx) (M : Mx) : Prop where
  len : M.length ≤ 4
  ne : M ≠ []
  pl : ∀ p ∈ M, PlK bs p.1
  w1 : ∀ p ∈ M, 1 ≤ p.2
  w2 : ∀ p ∈ M, p.2 ≤ 1000000000
theorem MxK.w {bs : List Bx} {M : Mx} (h : MxK bs M) : 1 ≤ wM M ∧ wM M ≤ 4000000000 := by
  have go : ∀ M : Mx, (∀ p ∈ M, 1 ≤ p.2 ∧ p.2 ≤ 1000000000) → (M.length : Int) ≤ wM M ∧ wM M ≤ 1000000000 * M.length := by
    intro M
    induction M with
    | nil => intro _; unfold wM; simp
    | cons p M ih =>
      intro q
      have := ih fun x hx => q x (by simp [hx])
      have := q p (by simp)
      unfold wM at *
      rw [List.map_cons, List.sum_cons, List.length_cons]
      omega
  have := go M fun p hp => ⟨h.w1 p hp, h.w2 p hp⟩
  have := List.length_pos_iff.mpr h.ne
  have := h.len
  omega
theorem whole_lc {M : Mx} (hl : M.length ≤ 1000) {e0 : Dv.Env} {i j : Nat} {S : Store} (hx : ∀ p : List Nat × Int, ∃ e1, eT2 i j (mxP p) e0 = some e1 ∧ xVar j e1 S = .ok (.int p.2) S) : lcL (fun _ => True) (eT2 i j) cYes (xVar j) e0 (M.map mxP) [] S = .ok ((M.map (·.2)).map D.int) S := by
  have := lc_map (g := eT2 i j) (f := xVar j) (e0 := e0) (S := S) mxP (fun p => D.int p.2) M [] (fun p _ => hx p) (by simp; omega)
  rw [this, List.nil_append, List.map_map]
  rfl
theorem chance_ok {bs : List Bx} (hb : BsOk bs) {M : Mx} (h : MxK bs M) {k : Nat} (hk : k < bs.length) (S : Store) : F__law_chance [bxsD bs, .lst (M.map mxP), .int (k : Int)] S = .ok (fr (fM bs M k / (wM M : Rat))) S ∧ Fs 2000 (fM bs M k / (wM M : Rat)) := by
  have hz := hb.at hk
  obtain ⟨o1, o2⟩ := hz.so
  have hl := h.len
  obtain ⟨w1, w4⟩ := h.w
  have wq : (0 : Rat) < (wM M : Rat) := Rat.intCast_pos.mpr (by omega)
  have wz : Sz 40 (wM M) := sz_of (B := 4000000001) (by omega) (by omega) (by decide)
  have pz : ∀ p ∈ M, Sz 40 p.2 := fun p hp => by have := h.w1 p hp; have := h.w2 p hp; exact sz_of (B := 1000000001) (by omega) (by omega) (by decide)
  have tf : ∀ p ∈ M, Fs 440 (tM bs k p) := fun p hp => fs_mul (int_fs (pz p hp) (by decide)) (fnd_fs hz (nAt p.1 k) (by have := (h.pl p hp).n60 hk; omega))
  have lf : ∀ l : List Rat, (∀ x ∈ l, Fs 440 x) → Fs (441 * l.length + 1) l.sum := by
    intro l
    induction l with
    | nil => intro _; exact ((On.zero (N := 1) (by decide)).fs (n := 1) (by decide) (by decide)).le (by simp)
    | cons a l ih =>
      intro q
      rw [List.sum_cons, List.length_cons]
      exact (fs_add (q a (by simp)) (ih fun x hx => q x (by simp [hx]))).le (by omega)
  have Tf : ∀ i, Fs 2000 (fM bs (M.take i) k / (wM M : Rat)) := fun i => by
    have := lf ((M.take i).map (tM bs k)) fun x hx => by
      obtain ⟨p, hp, rfl⟩ := List.mem_map.mp hx
      exact tf p (List.mem_of_mem_take hp)
    refine (fs_div this (int_fs wz (by decide)) wq).le ?_
    rw [List.length_map, List.length_take]
    omega
  refine ⟨?_, by have := Tf M.length; rwa [List.take_length] at this⟩
  rw [← ens_eq]
  refine ens_fn rfl ?_
  unfold b__law_chance
  simp only [List.map_cons, List.map_nil, List.replicate, List.cons_append, List.nil_append]
  refine ens_sq (fun e S' => S' = S ∧ e = [some (bxsD bs), some (.lst (M.map mxP)), some (.int (k : Int)), some (fr 0), none, none, none, none, none]) (fun R hR => ?_) ?_
  · simp
    exact hR _ _ ⟨rfl, rfl⟩
  rintro e S' ⟨rfl, rfl⟩
  refine ens_sq (fun e S2 => S2 = S' ∧ e = [some (bxsD bs), some (.lst (M.map mxP)), some (.int (k : Int)), some (fr 0), some (.int (wM M)), none, none, none, none]) (fun R hR => ?_) ?_
  · have hc := whole_lc (M := M) (by omega) (e0 := [some (bxsD bs), some (.lst (M.map mxP)), some (.int (k : Int)), some (fr 0), none, none, none, none, none]) (i := 5) (j := 6) (S := S') (fun p => ⟨_, rfl, rfl⟩)
    have hs := bSum_ok (M.map (·.2)) S'
    simp only [ySet_app, xLc_app, iSrc_app, xFn_app, xCons_app, xNil_app, xVar_app, List.getElem?_cons_zero, List.getElem?_cons_succ, Res.bind_ok, srcL_lst, wipeE_cons, wipeE_nil, List.set_cons_succ, List.set_cons_zero, hc, mkF_app, hs, enso_out, ens_ok, enso_nx]
    exact hR _ _ ⟨rfl, rfl⟩
  rintro e S2 ⟨rfl, rfl⟩
  refine ens_sq (fun e S3 => S3 = S2 ∧ ∃ v5 v6 v7 v8, e = [some (bxsD bs), some (.lst (M.map mxP)), some (.int (k : Int)), some (fr (fM bs M k / (wM M : Rat))), some (.int (wM M)), v5, v6, v7, v8]) (fun R hR => ?_) ?_
  · simp only [yFor_app, iSrc_app, xVar_app, List.getElem?_cons_zero, List.getElem?_cons_succ, Res.bind_ok, srcL_lst, enso_out, ens_ok]
    refine ens_fr (fun i e S3 => S3 = S2 ∧ ∃ v5 v6 v7 v8, e = [some (bxsD bs), some (.lst (M.map mxP)), some (.int (k : Int)), some (fr (fM bs (M.take i) k / (wM M : Rat))), some (.int (wM M)), v5, v6, v7, v8]) ⟨rfl, none, none, none, none, ?_⟩ ?_ ?_
    · have : fM bs (M.take 0) k / (wM M : Rat) = 0 := by
        unfold fM
        rw [List.take_zero, List.map_nil, List.sum_nil, Rat.div_def, Rat.zero_mul]
      rw [this]
    · rintro i d e S3 R2 hd ⟨rfl, v5, v6, v7, v8, rfl⟩ hR2
      rw [List.getElem?_map] at hd
      have hi : i < M.length := by
        refine Nat.lt_of_not_le fun z => ?_
        rw [List.getElem?_eq_none z] at hd
        cases hd
      rw [List.getElem?_eq_getElem hi] at hd
      cases hd
      have hp : M[i] ∈ M := List.getElem_mem hi
      have tk : fM bs (M.take (i + 1)) k = fM bs (M.take i) k + tM bs k M[i] := by
        unfold fM
        rw [List.take_add_one, List.getElem?_eq_getElem hi, List.map_append, List.sum_append]
        simp [Rat.add_zero]
      have n60 := (h.pl _ hp).n60 hk
      have px := (h.pl _ hp).ix hk
      have ppz := pz _ hp
      generalize M[i] = p at *
      simp only [mxP, gT_app, List.length_cons, List.length_nil, if_true, gsCons_app, gsNil_app, gN_app, Out.seq_nx, enso_nx, List.set_cons_succ, List.set_cons_zero]
      refine ens_sq (fun e S4 => S4 = S3 ∧ e = [some (bxsD bs), some (.lst (M.map mxP)), some (.int (k : Int)), some (fr (fM bs (M.take i) k / (wM M : Rat))), some (.int (wM M)), some (plD p.1), some (.int p.2), some (.int (((bxAt bs k).2.2 - (bxAt bs k).2.1) ^ nAt p.1 k)), some (.int ((bxAt bs k).2.2 ^ nAt p.1 k))]) (fun R3 hR3 => ?_) ?_
      · have ms := fun S => miss_ok hz (nAt p.1 k) (by omega) S
        simp only [yAsg_app, xFn_app, xOp_app, xCons_app, xNil_app, xVar_app, List.getElem?_cons_zero, List.getElem?_cons_succ, Res.bind_ok, bx_at hk, px, ms, enso_out, ens_ok]
        simp [gT, gsCons, gsNil, gN, Out.seq]
        exact hR3 _ _ ⟨rfl, rfl⟩
      rintro e S4 ⟨rfl, rfl⟩
      have op : 0 < (bxAt bs k).2.2 ^ nAt p.1 k := Int.pow_pos o2
      have os : Sz 400 ((bxAt bs k).2.2 ^ nAt p.1 k) := (pow_sz o1 _).le (by omega)
      have qs : Sz 400 (((bxAt bs k).2.2 - (bxAt bs k).2.1) ^ nAt p.1 k) := (pow_sz hz.sm _).le (by omega)
      have q1 := ppz.mulOk (os.sub qs) (by decide)
      have q2 := ppz.mul (os.sub qs)
      have q3 := os.mulOk wz (by decide)
      have q4 := os.mul wz
      have dp : 0 < (bxAt bs k).2.2 ^ nAt p.1 k * wM M := Int.mul_pos op (by omega)
      have pf := Tf i
      have pl := fun S => lplus_r pf.num pf.den (q2.le (show 40 + 401 ≤ 450 by decide)) (q4.le (show 400 + 40 ≤ 450 by decide)) (den_pos _) dp (by decide) S
      have val : ((fM bs (M.take i) k / (wM M : Rat)).num : Rat) / (((fM bs (M.take i) k / (wM M : Rat)).den : Int) : Rat) + (((p.2 * ((bxAt bs k).2.2 ^ nAt p.1 k - ((bxAt bs k).2.2 - (bxAt bs k).2.1) ^ nAt p.1 k) : Int)) : Rat) / (((bxAt bs k).2.2 ^ nAt p.1 k * wM M : Int) : Rat) = fM bs (M.take (i + 1)) k / (wM M : Rat) := by
        rw [fr_eq, tk]
        unfold tM hAt
        rw [miss_val hz, Rat.intCast_mul, Rat.intCast_mul]
        have o0 : (((bxAt bs k).2.2 ^ nAt p.1 k : Int) : Rat) ≠ 0 := intq (by omega)
        have w0 : (wM M : Rat) ≠ 0 := Rat.ne_of_gt wq
        generalize (((bxAt bs k).2.2 ^ nAt p.1 k : Int) : Rat) = O at *
        generalize ((((bxAt bs k).2.2 ^ nAt p.1 k - ((bxAt bs k).2.2 - (bxAt bs k).2.1) ^ nAt p.1 k) : Int) : Rat) = Q at *
        generalize (wM M : Rat) = W at *
        generalize fM bs (M.take i) k = F at *
        generalize (p.2 : Rat) = t at *
        grind
      have pl2 : ∀ S, F__law_plus [fr (fM bs (M.take i) k / (wM M : Rat)), .tup [.int (p.2 * ((bxAt bs k).2.2 ^ nAt p.1 k - ((bxAt bs k).2.2 - (bxAt bs k).2.1) ^ nAt p.1 k)), .int ((bxAt bs k).2.2 ^ nAt p.1 k * wM M)]] S = .ok (fr (fM bs (M.take (i + 1)) k / (wM M : Rat))) S := fun S => by rw [← val]; exact pl S
      simp only [ySet_app, xFn_app, xOp_app, xTup_app, xCons_app, xNil_app, xVar_app, List.getElem?_cons_zero, List.getElem?_cons_succ, Res.bind_ok, dSub_ok, dMul_int, if_pos q1, if_pos q3, List.length_cons, List.length_nil, if_pos (show 0 + 1 + 1 ≤ 1000 by decide), pl2, enso_out, ens_ok, enso_nx, List.set_cons_succ, List.set_cons_zero]
      exact hR2 _ _ ⟨rfl, _, _, _, _, rfl⟩
    · rintro e S3 ⟨rfl, v5, v6, v7, v8, rfl⟩
      rw [List.length_map, List.take_length]
      exact hR _ _ ⟨rfl, _, _, _, _, rfl⟩
  rintro e S3 ⟨rfl, v5, v6, v7, v8, rfl⟩
  simp
theorem least_ok {bs : List Bx} (hb : BsOk bs) {M : Mx} (h : MxK bs M) (S : Store) : ∃ x, F__law_least [bxsD bs, .lst (M.map mxP)] S = .ok (fr x) S ∧ Fs 2000 x ∧ ∀ k < bs.length, x ≤ fM bs M k / (wM M : Rat) := by
  have b6 := hb.b6
  have o1 : Fs 2000 (1 : Rat) := ((On.one (N := 1) (by decide)).fs (n := 1) (by decide) (by decide)).le (by decide)
  have hE : Ens (F__law_least [bxsD bs, .lst (M.map mxP)] S) fun d S' => ∃ x, d = fr x ∧ Fs 2000 x ∧ (∀ k < bs.length, x ≤ fM bs M k / (wM M : Rat)) ∧ S' = S := by
    refine ens_fn rfl ?_
    unfold b__law_least
    simp only [List.map_cons, List.map_nil, List.replicate, List.cons_append, List.nil_append]
    refine ens_sq (fun e S' => S' = S ∧ e = [some (bxsD bs), some (.lst (M.map mxP)), some (fr 1), none, none]) (fun R hR => ?_) ?_
    · simp
      exact hR _ _ ⟨rfl, rfl⟩
    rintro e S' ⟨rfl, rfl⟩
    refine ens_sq (fun e S2 => S2 = S' ∧ ∃ x v3 v4, Fs 2000 x ∧ (∀ k < bs.length, x ≤ fM bs M k / (wM M : Rat)) ∧ e = [some (bxsD bs), some (.lst (M.map mxP)), some (fr x), v3, v4]) (fun R hR => ?_) ?_
    · simp only [yFor_app, iSrcA_app, xFn_app, xCons_app, xNil_app, xVar_app, List.getElem?_cons_zero, List.getElem?_cons_succ, Res.bind_ok, bx_len, rng_src (show bs.length ≤ 1000000 by omega), enso_out, ens_ok]
      refine ens_fr (fun i e S2 => S2 = S' ∧ ∃ x v3 v4, Fs 2000 x ∧ (∀ k < i, x ≤ fM bs M k / (wM M : Rat)) ∧ e = [some (bxsD bs), some (.lst (M.map mxP)), some (fr x), v3, v4]) ⟨rfl, 1, none, none, o1, by omega, rfl⟩ ?_ ?_
      · rintro i d e S2 R2 hd ⟨rfl, x, v3, v4, xf, xl, rfl⟩ hR2
        obtain ⟨rfl, hi⟩ := irange_get hd
        obtain ⟨ce, cf⟩ := chance_ok hb h hi S2
        simp only [Int.zero_add, gN_app, enso_nx, List.set_cons_succ, List.set_cons_zero]
        refine ens_sq (fun e S3 => S3 = S2 ∧ e = [some (bxsD bs), some (.lst (M.map mxP)), some (fr x), some (.int (i : Int)), some (fr (fM bs M i / (wM M : Rat)))]) (fun R3 hR3 => ?_) ?_
        · simp only [ySet_app, xFn_app, xCons_app, xNil_app, xVar_app, List.getElem?_cons_zero, List.getElem?_cons_succ, Res.bind_ok, ce, enso_out, ens_ok, enso_nx, List.set_cons_succ, List.set_cons_zero]
          exact hR3 _ _ ⟨rfl, rfl⟩
        rintro e S3 ⟨rfl, rfl⟩
        simp only [yIf_app, xTru_app, xFn_app, xCons_app, xNil_app, xVar_app, List.getElem?_cons_zero, List.getElem?_cons_succ, Res.bind_ok, less_ok cf xf (show 2000 ≤ 4500 by decide), tru_bl, enso_out, ens_ok]
        by_cases q : fM bs M i / (wM M : Rat) < x
        · rw [if_pos (by simpa using q)]
          simp only [ySet_app, xVar_app, List.getElem?_cons_zero, List.getElem?_cons_succ, enso_out, ens_ok, enso_nx, List.set_cons_succ, List.set_cons_zero]
          refine hR2 _ _ ⟨rfl, _, _, _, cf, fun k hk => ?_, rfl⟩
          by_cases e : k = i
          · subst e; exact Rat.le_refl
          · exact Rat.le_trans (Rat.le_of_lt q) (xl k (by omega))
        · rw [if_neg (by simpa using q)]
          simp only [yNil_app, enso_nx]
          refine hR2 _ _ ⟨rfl, _, _, _, xf, fun k hk => ?_, rfl⟩
          by_cases e : k = i
          · subst e; exact Rat.not_lt.mp q
          · exact xl k (by omega)
      · rintro e S2 ⟨rfl, x, v3, v4, xf, xl, rfl⟩
        rw [irange_length] at xl
        exact hR _ _ ⟨rfl, x, v3, v4, xf, xl, rfl⟩
    rintro e S2 ⟨rfl, x, v3, v4, xf, xl, rfl⟩
    simp only [yRet_app, xVar_app, List.getElem?_cons_zero, List.getElem?_cons_succ, enso_out, ens_ok, enso_rt]
    rw [fin_len rfl, ens_ok]
    exact ⟨x, rfl, xf, xl, rfl⟩
  obtain ⟨d, S', e, x, rfl, h1, h2, rfl⟩ := hE.get
  exact ⟨x, e, h1, h2⟩
theorem whole_ok24 (a : Int) (S : Store) : F__law_whole [.int a] S = .ok (.bl true) S := by
  rw [← ens_eq]
  refine ens_fn rfl ?_
  unfold b__law_whole
  simp
theorem lplan_ok {bs : List Bx} {ps : List Nat} (h : PlK bs ps) (S : Store) : F__law_plan [bxsD bs, plD ps] S = .ok (.bl true) S := by
  rw [← ens_eq]
  refine ens_fn rfl ?_
  unfold b__law_plan
  simp only [List.map_cons, List.map_nil, List.replicate, List.cons_append, List.nil_append]
  refine ens_seq (fun e S' => S' = S ∧ e = [some (bxsD bs), some (plD ps), none]) ?_ ?_
  · have hl := h.len
    unfold bxsD plD
    simp [hl]
  rintro e S' ⟨rfl, rfl⟩
  have hc : lcL (fun _ => True) (eN 2) (xOr (xNot (xTru (xFn F__law_whole (xCons (xVar 2) xNil)))) (xOr (xIsT (xOp dLt (xVar 2) (xC (.int 0)))) (xIsT (xOp dGt (xVar 2) (xC (.int 60)))))) (xVar 2) [some (bxsD bs), some (plD ps), none] (ps.map fun (m : Nat) => D.int (m : Int)) [] S' = .ok [] S' := lc_none (emb := fun (m : Nat) => D.int (m : Int)) ps [] fun m hm => ⟨_, rfl, by
    have := h.p60 m hm
    simp [whole_ok24, show ¬ ((m : Int) < 0) by omega, show ¬ (60 < (m : Int)) by omega]⟩
  have sc : srcL (plD ps) S' = .ok ⟨ps.map fun (m : Nat) => D.int (m : Int), fun _ => True⟩ S' := rfl
  simp only [yRet_app, xOp_app, xFn_app, xCons_app, xNil_app, xLc_app, iSrc_app, xC_app, xVar_app, List.getElem?_cons_zero, List.getElem?_cons_succ, Res.bind_ok, sc, wipeE_cons, wipeE_nil, List.set_cons_succ, List.set_cons_zero, hc, mkF_app]
  simp
def cI (bs : List Bx) (M : Mx) : Int := (M.map fun p => p.2 * coI bs p.1).sum
theorem cI_q (bs : List Bx) : ∀ M : Mx, ((cI bs M : Int) : Rat) = cM bs M
  | [] => by unfold cI cM; simp
  | p :: M => by
    have := cI_q bs M
    unfold cI cM at *
    rw [List.map_cons, List.sum_cons, Rat.intCast_add, this, List.map_cons, List.sum_cons, Rat.intCast_mul, coI_q]
theorem keeps_ok {bs : List Bx} (hb : BsOk bs) {b : Nat} (h60 : b ≤ 60) {M : Mx} (h : MxK bs M) (hc : cI bs M ≤ (b : Int) * wM M) (S : Store) : F__law_keeps [bxsD bs, .int (b : Int), .lst (M.map mxP)] S = .ok (.bl true) S := by
  have hl := h.len
  rw [← ens_eq]
  refine ens_fn rfl ?_
  unfold b__law_keeps
  simp only [List.map_cons, List.map_nil, List.replicate, List.cons_append, List.nil_append]
  refine ens_sq (fun e S' => S' = S ∧ e = [some (bxsD bs), some (.int (b : Int)), some (.lst (M.map mxP)), none, none, none, none]) (fun R hR => ?_) ?_
  · have := h.ne
    simp [this]
    exact hR _ _ ⟨rfl, rfl⟩
  rintro e S' ⟨rfl, rfl⟩
  refine ens_sq (fun e S2 => S2 = S' ∧ ∃ v, e = [some (bxsD bs), some (.int (b : Int)), some (.lst (M.map mxP)), v, none, none, none]) (fun R hR => ?_) ?_
  · simp only [yFor_app, iSrc_app, xVar_app, List.getElem?_cons_zero, List.getElem?_cons_succ, Res.bind_ok, srcL_lst, enso_out, ens_ok]
    refine ens_fr (fun i e S2 => S2 = S' ∧ ∃ v, e = [some (bxsD bs), some (.int (b : Int)), some (.lst (M.map mxP)), v, none, none, none]) ⟨rfl, none, rfl⟩ ?_ ?_
    · rintro i d e S2 R3 hd ⟨rfl, v, rfl⟩ hR3
      obtain ⟨p, hp, rfl⟩ := List.mem_map.mp (List.mem_of_getElem? hd)
      have ip := lplan_ok (h.pl p hp)
      have w1 := h.w1 p hp
      have nw : ¬ p.2 < 1 := by omega
      simp [mxP, ip, whole_ok24, nw]
      exact hR3 _ _ ⟨rfl, _, rfl⟩
    · rintro e S2 ⟨rfl, v, rfl⟩
      exact hR _ _ ⟨rfl, _, rfl⟩
  rintro e S2 ⟨rfl, v, rfl⟩
  refine ens_sq (fun e S3 => S3 = S2 ∧ e = [some (bxsD bs), some (.int (b : Int)), some (.lst (M.map mxP)), v, some (.int (wM M)), none, none]) (fun R hR => ?_) ?_
  · have hc := whole_lc (M := M) (by omega) (e0 := [some (bxsD bs), some (.int (b : Int)), some (.lst (M.map mxP)), v, none, none, none]) (i := 5) (j := 6) (S := S2) (fun p => ⟨_, rfl, rfl⟩)
    have hs := bSum_ok (M.map (·.2)) S2
    simp only [ySet_app, xLc_app, iSrc_app, xFn_app, xCons_app, xNil_app, xVar_app, List.getElem?_cons_zero, List.getElem?_cons_succ, Res.bind_ok, srcL_lst, wipeE_cons, wipeE_nil, List.set_cons_succ, List.set_cons_zero, hc, mkF_app, hs, enso_out, ens_ok, enso_nx]
    exact hR _ _ ⟨rfl, rfl⟩
  rintro e S3 ⟨rfl, rfl⟩
  have hc2 : lcL (fun _ => True) (eT2 5 6) cYes (xOp (dMul mkF) (xVar 6) (xFn F__law_price (xCons (xVar 0) (xCons (xVar 5) xNil)))) [some (bxsD bs), some (.int (b : Int)), some (.lst (M.map mxP)), v, some (.int (wM M)), none, none] (M.map mxP) [] S3 = .ok ([] ++ M.map fun p => D.int (p.2 * coI bs p.1)) S3 := by
    refine lc_map mxP (fun p => D.int (p.2 * coI bs p.1)) M [] (fun p hp => ⟨_, rfl, ?_⟩) (by simp; omega)
    obtain ⟨c0, c1⟩ := coI_bd hb (h.pl p hp)
    have mo : IntMulOk p.2 (coI bs p.1) := mulOkR (by omega) (by omega)
    simp only [mxP, eT2_app, List.set_cons_succ, List.set_cons_zero, xFn_app, xOp_app, xCons_app, xNil_app, xVar_app, List.getElem?_cons_zero, List.getElem?_cons_succ, Res.bind_ok, price_ok hb (h.pl p hp), dMul_int, if_pos mo]
  have me : (M.map fun p => D.int (p.2 * coI bs p.1)) = (M.map fun p => p.2 * coI bs p.1).map D.int := by rw [List.map_map]; rfl
  rw [List.nil_append, me] at hc2
  have hs2 : bSum [.lst ((M.map fun p => p.2 * coI bs p.1).map D.int)] S3 = .ok (.int (cI bs M)) S3 := bSum_ok _ S3
  have mo : IntMulOk (b : Int) (wM M) := mulOkL (by omega) (by omega)
  simp only [yRet_app, xLc_app, iSrc_app, xOp_app, xFn_app, xCons_app, xNil_app, xVar_app, List.getElem?_cons_zero, List.getElem?_cons_succ, Res.bind_ok, srcL_lst, wipeE_cons, wipeE_nil, List.set_cons_succ, List.set_cons_zero, hc2, mkF_app, hs2, dMul_int, if_pos mo, dLe_ok, decide_eq_true hc, enso_out, ens_ok, enso_rt]
  rw [fin_len rfl, ens_ok]
  exact ⟨rfl, rfl⟩
/-- before the filling plan: some plans, their weights small -/
structure Mx0 (bs : List Bx) (M : Mx) : Prop where
  pl : ∀ p ∈ M, PlK bs p.1
  w1 : ∀ p ∈ M, 1 ≤ p.2
  w2 : ∀ p ∈ M, p.2 ≤ 4
theorem mxP_under (n : Nat) (M : Mx) : D.under n (.lst (M.map mxP)) = true := by
  rw [D.under]
  refine underL_of fun d hd => ?_
  obtain ⟨p, _, rfl⟩ := List.mem_map.mp hd
  unfold mxP
  rw [D.under]
  refine underL_of fun x hx => ?_
  rcases List.mem_cons.mp hx with rfl | z
  · exact ns_under n p.1
  · rw [List.mem_singleton.mp z]; rfl
theorem zero_pl (bs : List Bx) : PlK bs (List.replicate bs.length 0) := ⟨by simp, fun m hm => by rw [List.eq_of_mem_replicate hm]; decide⟩
theorem zero_co (bs : List Bx) : coI bs (List.replicate bs.length 0) = 0 := by
  have : ∀ l : List Nat, (l.map fun j => (bxAt bs j).1 * (nAt (List.replicate bs.length 0) j : Int)).sum = 0 := by
    intro l
    induction l with
    | nil => rfl
    | cons j l ih =>
      have : nAt (List.replicate bs.length 0) j = 0 := by
        unfold nAt
        rw [List.getD_eq_getElem?_getD, List.getElem?_replicate]
        split <;> rfl
      rw [List.map_cons, List.sum_cons, ih, this]
      simp
  exact this _
theorem zeros_lst (n : Nat) (h : n ≤ 1000) (S : Store) : dMul mkF (.lst [.int 0]) (.int (n : Int)) S = .ok (plD (List.replicate n 0)) S := by
  have rg : rng62 (n : Int) ∧ (0 + 1) * n ≤ 16000000 := ⟨rng62_of (by omega) (by omega), by omega⟩
  have fr0 : (List.replicate n [D.int 0]).flatten = List.replicate n (D.int 0) := by
    clear rg h
    induction n with
    | zero => rfl
    | succ k ih => rw [List.replicate_succ, List.flatten_cons, ih, List.replicate_succ]; rfl
  simp only [dMul_lst, List.length_cons, List.length_nil, if_pos rg, Int.toNat_natCast, fr0, mkF_app]
  unfold plD
  rw [List.map_replicate]
  rfl
abbrev DmE (c : Nat) (bs : List Bx) (b L : Nat) (r : List (Option D)) : Dv.Env := some (.cell c) :: some (bxsD bs) :: some (.int (b : Int)) :: some (.cell L) :: r
theorem drawn_mix_ok {c L : Nat} {T : Int} {P : Store} (hf : Lf c L T P) (hT : T ≤ 1000) {bs : List Bx} (hb : BsOk bs) (h3 : bs.length ≤ 3) {b : Nat} (h60 : b ≤ 60) : Ens (F__law_drawn_mix [.cell c, bxsD bs, .int (b : Int)] P) fun d S' => ∃ M, d = .lst (M.map mxP) ∧ MxK bs M ∧ cI bs M ≤ (b : Int) * wM M ∧ Lf c L (T + 40) S' := by
  refine ens_fn rfl ?_
  unfold b__law_drawn_mix
  simp only [List.map_cons, List.map_nil, List.replicate, List.cons_append, List.nil_append]
  refine ens_sq (fun e S' => S' = P ++ [Cn.lst (([] : Mx).map mxP)] ∧ e = DmE c bs b L [none, none, none, none, none, none]) (fun R hR => ?_) ?_
  · simp [hf.1]
    exact hR _ _ ⟨rfl, rfl⟩
  rintro e S ⟨rfl, rfl⟩
  refine ens_sq (fun e S => ∃ P' M v4, Mx0 bs M ∧ 1 ≤ M.length ∧ M.length ≤ 3 ∧ Lf c L (T + 40) P' ∧ S = P' ++ [Cn.lst (M.map mxP)] ∧ e = DmE c bs b L [v4, none, none, none, none, none]) (fun R hR => ?_) ?_
  · simp only [DmE, yFor_app, iSrcA_app, xOp_app, xFn_app, xC_app, xCons_app, xNil_app, xVar_app, List.getElem?_cons_zero, List.getElem?_cons_succ, Res.bind_ok, enso_out, ens_bind]
    refine (draw14_ok (R := [Cn.lst (([] : Mx).map mxP)]) hf (by decide) (by decide) (by omega)).imp ?_
    rintro d S' ⟨P1, r, rfl, h1, rfl, r0, r1⟩
    simp only [dAdd_int, ens_ok, ens_srcR1]
    refine ⟨rng62_of (by omega) (by omega), ?_⟩
    refine ens_fr (fun i e S => ∃ P' M v4, Mx0 bs M ∧ M.length = i ∧ Lf c L (T + 1 + 10 * i) P' ∧ S = P' ++ [Cn.lst (M.map mxP)] ∧ e = DmE c bs b L [v4, none, none, none, none, none]) ⟨P1, [], none, ⟨by simp, by simp, by simp⟩, rfl, by simpa using h1, rfl, rfl⟩ ?_ ?_
    · rintro i d e S R2 hd ⟨P', M, v4, m0, ml, hf', rfl, rfl⟩ hR2
      obtain ⟨rfl, hi⟩ := irange_get hd
      have hi3 : i < 3 := by omega
      have bsrc : ∀ S, srcL (bxsD bs) S = .ok ⟨bs.map bxD, fun _ => True⟩ S := fun S => rfl
      simp only [DmE, gN_app, enso_nx, List.set_cons_succ, List.set_cons_zero, yExpr_app, xMt_app, xTup_app, xLc_app, iSrc_app, xOp_app, xFn_app, xC_app, xCons_app, xNil_app, xVar_app, List.getElem?_cons_zero, List.getElem?_cons_succ, Res.bind_ok, isT, app_at0 hf'.1, beq_self_eq_true, if_true, bsrc, wipeE_cons, wipeE_nil, enso_out, ens_bind]
      refine ens_lcq (fun j l S' => ∃ (P4 : Store) (qs : List Nat), l = (qs.map fun (m : Nat) => D.int (m : Int)) ∧ qs.length = j ∧ (∀ m ∈ qs, m ≤ 60) ∧ Lf c L (T + 1 + 10 * i + 2 * j) P4 ∧ S' = P4 ++ [Cn.lst (M.map mxP)]) ⟨P', [], rfl, rfl, by simp, by simpa using hf', rfl⟩ ?_ ?_
      · rintro j d acc S2 R4 hd ⟨P4, qs, rfl, hj, hq, hp2, rfl⟩ hR4
        rw [List.getElem?_map] at hd
        have hj3 : j < bs.length := by
          refine Nat.lt_of_not_le fun z => ?_
          rw [List.getElem?_eq_none z] at hd
          cases hd
        refine ⟨_, rfl, ?_⟩
        simp only [List.set_cons_succ, List.set_cons_zero, cYes_app, ens_ok]
        refine ⟨fun _ => ?_, fun z => by cases z⟩
        simp only [xOp_app, xLst_app, xFn_app, xCons_app, xNil_app, xC_app, xVar_app, List.getElem?_cons_zero, List.getElem?_cons_succ, Res.bind_ok, List.length_cons, List.length_nil, if_pos (show 0 + 1 + 1 ≤ 1000 by decide), mkF_app, ens_bind]
        refine (draw14_ok hp2 (by decide) (by decide) (by omega)).imp ?_
        rintro d S' ⟨P5, r4, rfl, h5, rfl, r40, r41⟩
        obtain ⟨w, hw, ew⟩ := dl_pick [3, 12] r40 (by simpa using r41) (P5 ++ [Cn.lst (M.map mxP)])
        simp only [List.map_cons, List.map_nil] at ew
        have wl : 1 ≤ w ∧ w ≤ 12 := by
          simp only [List.mem_cons, List.not_mem_nil, or_false] at hw
          rcases hw with rfl | rfl <;> decide
        simp only [ew, ens_ok]
        refine (draw14_ok h5 (by omega) (by omega) (by omega)).imp ?_
        rintro d S' ⟨P6, r5, rfl, h6, rfl, r50, r51⟩
        obtain ⟨k, rfl⟩ : ∃ k : Nat, r5 = (k : Int) := ⟨r5.toNat, (Int.toNat_of_nonneg r50).symm⟩
        refine ⟨by rw [List.length_map]; omega, hR4 _ _ ⟨P6, qs ++ [k], by simp, by simp [hj], fun x hx => ?_, h6.mono (by omega), rfl⟩⟩
        rcases List.mem_append.mp hx with y | y
        · exact hq x y
        · rw [List.mem_singleton.mp y]; omega
      · rintro l S2 ⟨P4, qs, rfl, hj, hq, hp2, rfl⟩
        rw [List.length_map] at hj hp2
        simp only [mkF_app, ens_ok, Res.bind_ok, ens_bind]
        refine (draw14_ok hp2 (by decide) (by decide) (by omega)).imp ?_
        rintro d S' ⟨P5, r4, rfl, h5, rfl, r40, r41⟩
        have al : (M.map mxP).length < 16000000 := by rw [List.length_map]; omega
        simp only [dAdd_int, ens_ok, Res.bind_ok, List.length_cons, List.length_nil, if_pos (show 0 + 1 + 1 ≤ 1000 by decide), mAppend, cellL, app_at0 h5.1, if_pos al, app_set0 h5.1, enso_nx]
        refine hR2 _ _ ⟨P5, M ++ [(qs, 1 + r4)], _, ⟨fun p hp => ?_, fun p hp => ?_, fun p hp => ?_⟩, by simp [ml], h5.mono (by omega), ?_, rfl⟩
        · rcases List.mem_append.mp hp with y | y
          · exact m0.pl p y
          · rw [List.mem_singleton.mp y]; exact ⟨hj, hq⟩
        · rcases List.mem_append.mp hp with y | y
          · exact m0.w1 p y
          · rw [List.mem_singleton.mp y]; simp only; omega
        · rcases List.mem_append.mp hp with y | y
          · exact m0.w2 p y
          · rw [List.mem_singleton.mp y]; simp only; omega
        · rw [List.map_append]
          rfl
    · rintro e S ⟨P', M, v4, m0, ml, hf', rfl, rfl⟩
      rw [irange_length] at ml hf'
      exact hR _ _ ⟨P', M, v4, m0, by omega, by omega, hf'.mono (by omega), rfl, rfl⟩
  rintro e S ⟨P', M, v4, m0, m1, m3, hf', rfl, rfl⟩
  have c0 : (P' ++ [Cn.lst (M.map mxP)])[L]? = some (.lst (M.map mxP)) := app_at0 hf'.1
  have bd : ∀ N : Mx, (∀ p ∈ N, p ∈ M) → 0 ≤ cI bs N ∧ cI bs N ≤ 86400 * N.length ∧ (N.length : Int) ≤ wM N ∧ wM N ≤ 4 * N.length := by
    intro N
    induction N with
    | nil => intro _; unfold cI wM; simp
    | cons p N ih =>
      intro q
      have := ih fun x hx => q x (by simp [hx])
      have hp := q p (by simp)
      have a1 := m0.w1 p hp
      have a2 := m0.w2 p hp
      obtain ⟨c0, c1⟩ := coI_bd hb (m0.pl p hp)
      have k1 : 0 ≤ p.2 * coI bs p.1 := Int.mul_nonneg (by omega) c0
      have k2 : p.2 * coI bs p.1 ≤ 4 * 21600 := Int.mul_le_mul a2 c1 c0 (by decide)
      unfold cI wM at *
      simp only [List.map_cons, List.sum_cons, List.length_cons]
      omega
  have bdM := bd M fun _ h => h
  refine ens_sq (fun e S => S = P' ++ [Cn.lst (M.map mxP)] ∧ e = DmE c bs b L [v4, some (.int (cI bs M)), none, none, none, none]) (fun R hR => ?_) ?_
  · have hc := lc_mapC (chk := fun S' => S'[L]? = some (.lst (M.map mxP))) (g := eT2 7 8) (f := xOp (dMul mkF) (xVar 8) (xFn F__law_price (xCons (xVar 1) (xCons (xVar 7) xNil)))) (e0 := DmE c bs b L [v4, none, none, none, none, none]) c0 mxP (fun p => D.int (p.2 * coI bs p.1)) M [] (fun p hp => ⟨_, rfl, by
      obtain ⟨c0, c1⟩ := coI_bd hb (m0.pl p hp)
      have mo : IntMulOk p.2 (coI bs p.1) := mulOkR (by omega) (by omega)
      simp only [DmE, mxP, eT2_app, List.set_cons_succ, List.set_cons_zero, xFn_app, xOp_app, xCons_app, xNil_app, xVar_app, List.getElem?_cons_zero, List.getElem?_cons_succ, Res.bind_ok, price_ok hb (m0.pl p hp), dMul_int, if_pos mo]⟩) (by simp; omega)
    have me : (M.map fun p => D.int (p.2 * coI bs p.1)) = (M.map fun p => p.2 * coI bs p.1).map D.int := by rw [List.map_map]; rfl
    rw [List.nil_append, me] at hc
    have hs2 : ∀ S, bSum [.lst ((M.map fun p => p.2 * coI bs p.1).map D.int)] S = .ok (.int (cI bs M)) S := fun S => bSum_ok _ S
    simp only [DmE] at hc
    simp only [DmE, ySet_app, xLc_app, iSrc_app, xFn_app, xCons_app, xNil_app, xVar_app, List.getElem?_cons_zero, List.getElem?_cons_succ, Res.bind_ok, srcL_cell c0, wipeE_cons, wipeE_nil, List.set_cons_succ, List.set_cons_zero, hc, mkF_app, hs2, enso_out, ens_ok, enso_nx]
    exact hR _ _ ⟨rfl, rfl⟩
  rintro e S ⟨rfl, rfl⟩
  refine ens_sq (fun e S => S = P' ++ [Cn.lst (M.map mxP)] ∧ e = DmE c bs b L [v4, some (.int (cI bs M)), some (.int (wM M)), none, none, none]) (fun R hR => ?_) ?_
  · have hc := lc_mapC (chk := fun S' => S'[L]? = some (.lst (M.map mxP))) (g := eT2 7 8) (f := xVar 8) (e0 := DmE c bs b L [v4, some (.int (cI bs M)), none, none, none, none]) c0 mxP (fun p => D.int p.2) M [] (fun p hp => ⟨_, rfl, rfl⟩) (by simp; omega)
    have me : (M.map fun p => D.int p.2) = (M.map (·.2)).map D.int := by rw [List.map_map]; rfl
    rw [List.nil_append, me] at hc
    have hs2 : ∀ S, bSum [.lst ((M.map (·.2)).map D.int)] S = .ok (.int (wM M)) S := fun S => bSum_ok _ S
    simp only [DmE] at hc
    simp only [DmE, ySet_app, xLc_app, iSrc_app, xFn_app, xCons_app, xNil_app, xVar_app, List.getElem?_cons_zero, List.getElem?_cons_succ, Res.bind_ok, srcL_cell c0, wipeE_cons, wipeE_nil, List.set_cons_succ, List.set_cons_zero, hc, mkF_app, hs2, enso_out, ens_ok, enso_nx]
    exact hR _ _ ⟨rfl, rfl⟩
  rintro e S ⟨rfl, rfl⟩
  have mo : IntMulOk (b : Int) (wM M) := mulOkL (by omega) (by omega)
  have mk : ∀ N : Mx, Mx0 bs N → N ≠ [] → N.length ≤ 3 → MxK bs N := fun N h hn hl => ⟨by omega, hn, h.pl, h.w1, fun p hp => by have := h.w2 p hp; omega⟩
  have mne : M ≠ [] := fun z => by rw [z] at m1; simp at m1
  refine ens_sq (fun e S => ∃ N, MxK bs N ∧ (cI bs N ≤ (b : Int) * wM N ∨ b = 0 ∧ (b : Int) * wM M < cI bs M) ∧ ((b : Int) * wM M < cI bs M ∧ b = 0 ∨ ¬ ((b : Int) * wM M < cI bs M ∧ b = 0) ∧ cI bs N ≤ (b : Int) * wM N) ∧ S = P' ++ [Cn.lst (N.map mxP)] ∧ e = DmE c bs b L [v4, some (.int (cI bs M)), some (.int (wM M)), none, none, none]) (fun R hR => ?_) ?_
  · simp only [DmE, yIf_app, xAnd_app, xIsT_app, xOp_app, xC_app, xVar_app, List.getElem?_cons_zero, List.getElem?_cons_succ, Res.bind_ok, dMul_int, if_pos mo, dGt_ok]
    by_cases q : (b : Int) * wM M < cI bs M
    · simp only [decide_eq_true q, if_true, xIsT_app, xOp_app, xC_app, xVar_app, List.getElem?_cons_zero, List.getElem?_cons_succ, Res.bind_ok, dGt_ok, enso_out, ens_ok]
      by_cases q2 : (0 : Int) < (b : Int)
      · rw [if_pos (by simpa using q2)]
        have zl := zeros_lst bs.length (by omega)
        have dok : divOk (0 - cI bs M) (b : Int) := divOk_lit q2 (by omega)
        have al : (M.map mxP).length < 16000000 := by rw [List.length_map]; omega
        have f1 : 1 ≤ 0 - (0 - cI bs M) / (b : Int) - wM M ∧ 0 - (0 - cI bs M) / (b : Int) - wM M ≤ 259200 ∧ cI bs M ≤ (b : Int) * (0 - (0 - cI bs M) / (b : Int)) := by
          have e1 := Int.mul_ediv_add_emod (0 - cI bs M) (b : Int)
          have e2 := Int.emod_nonneg (0 - cI bs M) (show (b : Int) ≠ 0 by omega)
          have e3 := Int.emod_lt_of_pos (0 - cI bs M) q2
          generalize hd : (0 - cI bs M) / (b : Int) = dd at *
          generalize (0 - cI bs M) % (b : Int) = rr at *
          have e4 : (b : Int) * (0 - dd) = cI bs M + rr := by rw [Int.mul_sub]; omega
          have lo : wM M < 0 - dd := by
            refine Int.not_le.mp fun z => ?_
            have := Int.mul_le_mul_of_nonneg_left z (show (0 : Int) ≤ (b : Int) by omega)
            omega
          have hi : 0 - dd ≤ 259200 := by
            refine Int.not_lt.mp fun z => ?_
            have h1 : (0 - dd - 1) * 1 ≤ (b : Int) * (0 - dd - 1) := by rw [Int.mul_comm (b : Int)]; exact Int.mul_le_mul_of_nonneg_left (by omega) (by omega)
            have h2 : (b : Int) * (0 - dd - 1) = cI bs M + rr - (b : Int) := by rw [Int.mul_sub, e4]; omega
            omega
          omega
        simp only [yExpr_app, xMt_app, xTup_app, xLst_app, xOp_app, xFn_app, xC_app, xCons_app, xNil_app, xVar_app, List.getElem?_cons_zero, List.getElem?_cons_succ, Res.bind_ok, isT, c0, beq_self_eq_true, if_true, List.length_cons, List.length_nil, if_pos (show 0 + 1 ≤ 1000 by decide), if_pos (show 0 + 1 + 1 ≤ 1000 by decide), mkF_app, bx_len, zl, dSub_ok, dFdiv_ok, if_pos dok, fdiv_pos q2, mAppend, cellL, if_pos al, app_set0 hf'.1, enso_out, ens_ok, enso_nx]
        generalize 0 - (0 - cI bs M) / (b : Int) = g at *
        have cN : cI bs (M ++ [(List.replicate bs.length 0, g - wM M)]) = cI bs M := by unfold cI; simp [zero_co]
        have wN : wM (M ++ [(List.replicate bs.length 0, g - wM M)]) = g := by unfold wM; simp; omega
        refine hR _ _ ⟨M ++ [(List.replicate bs.length 0, g - wM M)], ⟨by simp; omega, by simp, fun p hp => ?_, fun p hp => ?_, fun p hp => ?_⟩, .inl (by rw [cN, wN]; exact f1.2.2), .inr ⟨by omega, by rw [cN, wN]; exact f1.2.2⟩, by rw [List.map_append]; rfl, rfl⟩
        · rcases List.mem_append.mp hp with y | y
          · exact m0.pl p y
          · rw [List.mem_singleton.mp y]; exact zero_pl bs
        · rcases List.mem_append.mp hp with y | y
          · exact m0.w1 p y
          · rw [List.mem_singleton.mp y]; simp only; omega
        · rcases List.mem_append.mp hp with y | y
          · have := m0.w2 p y; omega
          · rw [List.mem_singleton.mp y]; simp only; omega
      · rw [if_neg (by simpa using q2)]
        simp only [yNil_app, enso_nx]
        exact hR _ _ ⟨M, mk M m0 mne m3, .inr ⟨by omega, q⟩, .inl ⟨q, by omega⟩, rfl, rfl⟩
    · simp only [decide_eq_false q, Bool.false_eq_true, if_false, enso_out, ens_ok, yNil_app, enso_nx]
      exact hR _ _ ⟨M, mk M m0 mne m3, .inl (by omega), .inr ⟨fun z => q z.1, by omega⟩, rfl, rfl⟩
  rintro e S ⟨N, kN, _, hN, rfl, rfl⟩
  refine ens_sq (fun e S => cI bs N ≤ (b : Int) * wM N ∧ S = P' ++ [Cn.lst (N.map mxP)] ∧ e = DmE c bs b L [v4, some (.int (cI bs M)), some (.int (wM M)), none, none, none]) (fun R hR => ?_) ?_
  · simp only [DmE, yIf_app, xAnd_app, xIsT_app, xOp_app, xC_app, xVar_app, List.getElem?_cons_zero, List.getElem?_cons_succ, Res.bind_ok, dMul_int, if_pos mo, dGt_ok]
    by_cases q : (b : Int) * wM M < cI bs M
    · simp only [decide_eq_true q, if_true, xIsT_app, xOp_app, xC_app, xVar_app, List.getElem?_cons_zero, List.getElem?_cons_succ, Res.bind_ok, dEq_int, enso_out, ens_ok]
      by_cases q2 : (b : Int) = 0
      · rw [if_pos (by simpa using q2)]
        have zl := zeros_lst bs.length (by omega)
        simp only [yRet_app, xLst_app, xTup_app, xOp_app, xFn_app, xC_app, xCons_app, xNil_app, xVar_app, List.getElem?_cons_zero, List.getElem?_cons_succ, Res.bind_ok, List.length_cons, List.length_nil, if_pos (show 0 + 1 ≤ 1000 by decide), if_pos (show 0 + 1 + 1 ≤ 1000 by decide), mkF_app, bx_len, zl, enso_out, ens_ok, enso_rt]
        have e1 : D.lst [D.tup [plD (List.replicate bs.length 0), D.int 1]] = .lst (([(List.replicate bs.length 0, 1)] : Mx).map mxP) := rfl
        show Ens (fin false P.length _ _) _
        rw [e1, hf.1, fin_cut hf'.1 hf'.2.1 (mxP_under _ _), ens_ok]
        refine ⟨_, rfl, ⟨by simp, by simp, fun p hp => ?_, fun p hp => ?_, fun p hp => ?_⟩, ?_, hf'⟩
        · rw [List.mem_singleton.mp hp]; exact zero_pl bs
        · rw [List.mem_singleton.mp hp]; exact (show (1 : Int) ≤ 1 by decide)
        · rw [List.mem_singleton.mp hp]; exact (show (1 : Int) ≤ 1000000000 by decide)
        · unfold cI wM
          simp [zero_co, q2]
      · rw [if_neg (by simpa using q2)]
        simp only [yNil_app, enso_nx]
        rcases hN with z | z
        · exact absurd z.2 (by omega)
        · exact hR _ _ ⟨z.2, rfl, rfl⟩
    · simp only [decide_eq_false q, Bool.false_eq_true, if_false, enso_out, ens_ok, yNil_app, enso_nx]
      rcases hN with z | z
      · exact absurd z.1 q
      · exact hR _ _ ⟨z.2, rfl, rfl⟩
  rintro e S ⟨hc, rfl, rfl⟩
  have c1 : (P' ++ [Cn.lst (N.map mxP)])[L]? = some (.lst (N.map mxP)) := app_at0 hf'.1
  simp only [DmE, yRet_app, xFrz_app, xVar_app, List.getElem?_cons_zero, List.getElem?_cons_succ, Res.bind_ok, frz, c1, app_set0 hf'.1, enso_out, ens_ok, enso_rt]
  rw [hf.1, fin_cut hf'.1 hf'.2.1 (mxP_under _ _), ens_ok]
  exact ⟨N, rfl, kN, hc, hf'⟩
theorem bx_list (bs : List Bx) (S : Store) : bList mkF [bxsD bs] S = .ok (bxsD bs) S := by unfold bxsD; simp [bList]
theorem less_ok2 {x y : Rat} {n : Nat} (hx : Fs n x) (hy : Fs n y) (hn : n ≤ 8000) (S : Store) : F__law_less [fr x, fr y] S = .ok (.bl (decide (x < y))) S := by
  rw [← ens_eq]
  refine ens_fn rfl ?_
  unfold b__law_less
  simp [hx.num.mulOk hy.den (by omega), hy.num.mulOk hx.den (by omega), Rat.lt_iff]
abbrev E24 (ns : List Int) (c : Int) (Lc : Nat) (bs : List Bx) (b : Nat) (w : Rat) (X Pp : D) (ws : List Int) (pr : Rat) (cs : List Nat) (v5 : Option D) (r : List (Option D)) : Dv.Env := some (.scr (ns.map D.int)) :: some (.int c) :: some (.cell Lc) :: some (bxsD bs) :: some (.int (b : Int)) :: v5 :: some (fr w) :: some X :: some Pp :: some (.lst (ws.map D.int)) :: some (fr pr) :: some (plD cs) :: r
theorem Lf.hS {c L : Nat} {T : Int} {S : Store} (h : Lf c L T S) : (S.all fun x => x.under S.length) = true := by rw [h.1]; exact h.2.1
/-- what is told by the paper, for the law -/
structure Tp (bs : List Bx) (b : Nat) (w : Rat) (ws : List Int) (pr : Rat) : Prop where
  wl : ws.length = bs.length
  wz : ∀ x ∈ ws, Sz 900 x
  w0 : 0 ≤ ws.sum
  pf : Fs 900 pr
  bound : ∀ ps : List Nat, sumN bs.length (fwR bs ws ps) ≤ w * ((ws.sum : Int) : Rat) + pr * (coR bs ps - (b : Rat))
theorem sumN_ints (l : List Int) : ((l.sum : Int) : Rat) = sumN l.length fun j => ((l.getD j 0 : Int) : Rat) := by
  induction l with
  | nil => simp [sumN]
  | cons a l ih =>
    rw [List.sum_cons, List.length_cons, sumN_head, Rat.intCast_add, ih]
    simp
theorem paper_tp {bs : List Bx} (hb : BsOk bs) {b : Nat} {ns : List Nat} {w : Rat} (h : Clm bs b ns w) : ∃ ws pr, paperD bs ns w = .tup [.lst (ws.map D.int), fr pr, plD ns] ∧ Tp bs b w ws pr := by
  have b6 := hb.b6
  by_cases w1 : w = 1
  · subst w1
    have mu0 : ∀ (ps : List Nat) j, j < bs.length → 0 ≤ hAt bs ps j := fun ps j hj => by
      obtain ⟨a0, a1, _, _⟩ := mu01 (hb.at hj)
      exact (pow01 a0 a1 (nAt ps j)).1
    refine ⟨List.replicate bs.length 1, 0, if_pos rfl, by simp, fun x hx => by rw [List.eq_of_mem_replicate hx]; exact Sz.le (n := 1) (show Int.natAbs 1 < 2 ^ 1 by decide) (by decide), ?_, ((On.zero (N := 1) (by decide)).fs (n := 1) (by decide) (by decide)).le (by decide), fun ps => ?_⟩
    · rw [List.sum_replicate_int]; omega
    · rw [sumN_ints, List.length_replicate, Rat.one_mul, Rat.zero_mul]
      have e : ∀ j, j < bs.length → ((List.replicate bs.length (1 : Int)).getD j 0) = 1 := fun j hj => by
        rw [List.getD_eq_getElem?_getD, List.getElem?_replicate, if_pos hj]; rfl
      have := sumN_le (g := fwR bs (List.replicate bs.length 1) ps) (h := fun j => (((List.replicate bs.length (1 : Int)).getD j 0 : Int) : Rat)) bs.length fun j hj => by
        unfold fwR
        rw [e j hj]
        have := mu0 ps j hj
        have : ((1 : Int) : Rat) = 1 := rfl
        grind
      grind
  · obtain ⟨s, ws, ca⟩ : ∃ s, w = 1 - s ∧ CA bs b ns s := by
      rcases h with h | ⟨h, _⟩
      · exact h
      · exact absurd h w1
    obtain ⟨dm, ik⟩ := ca.ic hb
    have hbt := ik.b
    have pd : ptR bs ns ∣ btR bs ns := gcF_dvd _ _
    have pp : 0 < ptR bs ns := Nat.pos_of_dvd_of_pos pd hbt.1
    have ple := Nat.le_of_dvd hbt.1 pd
    obtain ⟨p0, ex⟩ := wt_exact hb ca
    have wl : ((wtR bs ns).map fun x => x / (ptR bs ns : Int)).length = bs.length := by unfold wtR icL; simp
    have sumq : ((((wtR bs ns).map fun x => x / (ptR bs ns : Int)).sum : Int) : Rat) = prR bs ns * prcR bs ns := by
      rw [sumN_ints, wl, sumN_congr (h := fun j => icR bs ns j * prcR bs ns) _ fun j hj => ex j hj, sumN_mul]
      rfl
    have prp : 0 < prR bs ns := (ca.s_eq hb).1
    refine ⟨_, _, if_neg w1, wl, fun x hx => ?_, ?_, ?_, fun ps => ?_⟩
    · obtain ⟨y, hy, rfl⟩ := List.mem_map.mp hx
      obtain ⟨q, hq, rfl⟩ := List.mem_map.mp hy
      have qs := ik.num q hq
      have dl : btR bs ns / q.den ≤ btR bs ns := Nat.div_le_self _ _
      have ds : Sz 440 ((btR bs ns / q.den : Nat) : Int) := nat_sz (by omega)
      have m := (qs.mul ds).le (show 412 + 440 ≤ 900 by decide)
      refine Sz.of_le m ?_
      have dv : (ptR bs ns : Int) ∣ q.num * ((btR bs ns / q.den : Nat) : Int) := gcF_mem (wtR bs ns) (btR bs ns) _ (List.mem_map.mpr ⟨q, hq, rfl⟩)
      rw [Int.natAbs_ediv_of_dvd dv]
      exact Nat.div_le_self _ _
    · have : (0 : Rat) ≤ ((((wtR bs ns).map fun x => x / (ptR bs ns : Int)).sum : Int) : Rat) := by rw [sumq]; exact Rat.mul_nonneg (Rat.le_of_lt prp) (Rat.le_of_lt p0)
      exact Rat.intCast_nonneg.mp this
    · have bs1 : Fs 440 ((btR bs ns : Int) : Rat) := int_fs (nat_sz hbt.2) (by decide)
      have ps1 : Fs 440 ((ptR bs ns : Int) : Rat) := int_fs (nat_sz (by omega)) (by decide)
      exact (fs_div bs1 ps1 (Rat.intCast_pos.mpr (by omega))).le (by decide)
    · have d := plan_dual hb ca ps
      have m := Rat.mul_le_mul_of_nonneg_right d (Rat.le_of_lt p0)
      have e1 : sumN bs.length (fwR bs ((wtR bs ns).map fun x => x / (ptR bs ns : Int)) ps) = sumN bs.length (fun j => icR bs ns j * (1 - hAt bs ps j)) * prcR bs ns := by
        rw [← sumN_mul]
        refine sumN_congr _ fun j hj => ?_
        unfold fwR
        rw [ex j hj]
        generalize hAt bs ps j = x
        generalize icR bs ns j = y
        generalize prcR bs ns = z
        grind
      have e2 : ((btR bs ns : Int) : Rat) / ((ptR bs ns : Int) : Rat) = prcR bs ns := rfl
      have e3 : sumN bs.length (fun j => cQ bs j * (nAt ps j : Rat)) = coR bs ps := rfl
      rw [e1, sumq, e2, ws]
      rw [e3] at m
      generalize sumN bs.length (fun j => icR bs ns j * (1 - hAt bs ps j)) = A at *
      generalize coR bs ps = C at *
      generalize prcR bs ns = z at *
      generalize prR bs ns = y at *
      have e4 : ((1 - s) * y + (C - (b : Rat))) * z = (1 - s) * (y * z) + z * (C - (b : Rat)) := by grind
      rw [e4] at m
      exact m
theorem law_true : LawTrue F_law := by
  intro ns hl hb
  have h : Ens (F_law [.scr (ns.map D.int)] []) fun d _ => d = .bl true := by
    refine ens_fn rfl ?_
    unfold b_law
    simp only [List.map_cons, List.map_nil, List.replicate, List.cons_append, List.nil_append]
    refine ens_sq (fun e S' => ∃ x r, e = x :: r) (fun R hR => ?_) ?_
    · have sl : slD mkF (.scr (ns.map D.int)) none (some 40) [] = .ok (.lst ((ns.take 40).map D.int)) [] := by
        unfold slD
        have e1 : HT.sIx ns.length ns.length (some 40) = min 40 ns.length := by
          have := sIx_n (n := ns.length) (d := ns.length) (k := 40)
          rw [show (((40 : Nat) : Int)) = 40 by rfl] at this
          rw [this]
        have e2 : HT.sIx ns.length 0 none = 0 := rfl
        simp [e1, e2]
      simp only [yFor_app, iSrc_app, xOp_app, xLst_app, xSl_app, oNone_app, oSome_app, xCons_app, xNil_app, xC_app, xVar_app, List.getElem?_cons_zero, List.getElem?_cons_succ, Res.bind_ok, List.length_cons, List.length_nil, if_pos (show 0 + 1 ≤ 1000 by decide), mkF_app, sl, dl_add [D.int 0] ((ns.take 40).map D.int) [] (by simp; omega), srcL_lst, enso_out, ens_ok]
      rw [show [D.int 0] ++ (ns.take 40).map D.int = (0 :: ns.take 40).map D.int by rfl]
      refine ens_fr (fun i e S' => (S'.all fun x => x.under S'.length) = true ∧ ∃ v1 v2 v3 v4 v5 v6 v7 v8 v9 v10 v11 v12 v13 v14 v15, e = [some (.scr (ns.map D.int)), v1, v2, v3, v4, v5, v6, v7, v8, v9, v10, v11, v12, v13, v14, v15]) ⟨rfl, _, _, _, _, _, _, _, _, _, _, _, _, _, _, _, rfl⟩ ?_ ?_
      · rintro i d e S' R2 hd ⟨hS, v1, v2, v3, v4, v5, v6, v7, v8, v9, v10, v11, v12, v13, v14, v15, rfl⟩ hR2
        obtain ⟨c, hc, rfl⟩ := List.mem_map.mp (List.mem_of_getElem? hd)
        have cb : Builtin.Int.intBits c ≤ 1048576 := by
          rcases List.mem_cons.mp hc with rfl | q
          · decide
          · exact hb c (List.mem_of_mem_take q)
        simp only [gN_app, enso_nx, List.set_cons_succ, List.set_cons_zero]
        refine ens_sq (fun e S2 => Lf S'.length (S'.length + 1) 0 S2 ∧ e = [some (.scr (ns.map D.int)), some (.int c), some (.cell S'.length), v3, v4, v5, v6, v7, v8, v9, v10, v11, v12, v13, v14, v15]) (fun R3 hR3 => ?_) ?_
        · simp only [ySet_app, xFn_app, xLst_app, xCons_app, xNil_app, xC_app, xVar_app, List.getElem?_cons_zero, List.getElem?_cons_succ, Res.bind_ok, List.length_cons, List.length_nil, if_pos (show 0 + 1 ≤ 1000 by decide), mkF_app, enso_out]
          refine (left14_ok c cb S' hS).imp ?_
          rintro d S2 ⟨rfl, hf⟩
          simp only [enso_nx, List.set_cons_succ, List.set_cons_zero]
          exact hR3 _ _ ⟨hf, rfl⟩
        rintro e P ⟨hf, rfl⟩
        generalize hLc : S'.length = Lc at *
        refine ens_sq (fun e S2 => ∃ bs, BsOk bs ∧ bs.length ≤ 3 ∧ Lf Lc (Lc + 1) 60 S2 ∧ e = [some (.scr (ns.map D.int)), some (.int c), some (.cell Lc), some (bxsD bs), v4, v5, v6, v7, v8, v9, v10, v11, v12, v13, v14, v15]) (fun R3 hR3 => ?_) ?_
        · simp only [ySet_app, xFn_app, xCons_app, xNil_app, xC_app, xVar_app, List.getElem?_cons_zero, List.getElem?_cons_succ, Res.bind_ok, enso_out]
          refine (boxes25_ok hf (by decide) (by decide) (by decide)).imp ?_
          rintro d S2 ⟨bs, rfl, q1, q2, q3, hf2⟩
          simp only [enso_nx, List.set_cons_succ, List.set_cons_zero]
          exact hR3 _ _ ⟨bs, ⟨q1, q2, by omega⟩, by omega, hf2.mono (by decide), rfl⟩
        rintro e P1 ⟨bs, hbs, b3, hf1, rfl⟩
        have b6 := hbs.b6
        have b1 := hbs.b1
        refine ens_sq (fun e S2 => ∃ b : Nat, b ≤ 60 ∧ Lf Lc (Lc + 1) 62 S2 ∧ e = [some (.scr (ns.map D.int)), some (.int c), some (.cell Lc), some (bxsD bs), some (.int (b : Int)), v5, v6, v7, v8, v9, v10, v11, v12, v13, v14, v15]) (fun R3 hR3 => ?_) ?_
        · simp only [ySet_app, xFn_app, xOp_app, xLst_app, xCons_app, xNil_app, xC_app, xVar_app, List.getElem?_cons_zero, List.getElem?_cons_succ, Res.bind_ok, List.length_cons, List.length_nil, if_pos (show 0 + 1 + 1 ≤ 1000 by decide), mkF_app, enso_out, ens_bind]
          refine (draw14' hf1 (by decide) (by decide) (by decide)).imp ?_
          rintro d S2 ⟨r, hf2, rfl, r0, r1⟩
          obtain ⟨w, hw, ew⟩ := dl_pick [6, 61] r0 (by simpa using r1) S2
          simp only [List.map_cons, List.map_nil] at ew
          have wl : 1 ≤ w ∧ w ≤ 61 := by
            simp only [List.mem_cons, List.not_mem_nil, or_false] at hw
            rcases hw with rfl | rfl <;> decide
          simp only [ew, ens_ok]
          refine (draw14' hf2 (by omega) (by omega) (by decide)).imp ?_
          rintro d S3 ⟨r', hf3, rfl, q0, q1⟩
          obtain ⟨b, rfl⟩ : ∃ b : Nat, r' = (b : Int) := ⟨r'.toNat, (Int.toNat_of_nonneg q0).symm⟩
          simp only [enso_nx, List.set_cons_succ, List.set_cons_zero]
          exact hR3 _ _ ⟨b, by omega, hf3.mono (by decide), rfl⟩
        rintro e P2 ⟨b, h60, hf2, rfl⟩
        refine ens_sq (fun e S2 => S2 = P2 ∧ ∃ w nn ws pr X, Clm bs b nn w ∧ Tp bs b w ws pr ∧ e = [some (.scr (ns.map D.int)), some (.int c), some (.cell Lc), some (bxsD bs), some (.int (b : Int)), v5, some (fr w), some X, some (.tup [.lst (ws.map D.int), fr pr, plD nn]), v9, v10, v11, v12, v13, v14, v15]) (fun R3 hR3 => ?_) ?_
        · obtain ⟨d, S', e, w, nn, hcl, rfl, hs⟩ := (worth_ok hbs h60 hf2.hS).get
          rw [hs] at e
          obtain ⟨ws, pr, ep, tp⟩ := paper_tp hbs hcl
          rw [ep] at e
          simp only [yAsg_app, xFn_app, xCons_app, xNil_app, xVar_app, List.getElem?_cons_zero, List.getElem?_cons_succ, Res.bind_ok, bx_list, e, enso_out, ens_ok]
          simp [gT, gsCons, gsNil, gN, Out.seq]
          exact hR3 _ _ ⟨rfl, w, nn, ws, pr, _, hcl, tp, rfl⟩
        rintro e P3 ⟨rfl, w, nn, ws, pr, X, hcl, tp, rfl⟩
        refine ens_sq (fun e S2 => S2 = P3 ∧ e = E24 ns c Lc bs b w X (.tup [.lst (ws.map D.int), fr pr, plD nn]) ws pr nn v5 [v12, v13, v14, v15]) (fun R3 hR3 => ?_) ?_
        · simp [gT, gsCons, gsNil, gN, Out.seq]
          exact hR3 _ _ ⟨rfl, rfl⟩
        rintro e P4 ⟨rfl, rfl⟩
        generalize D.tup [.lst (ws.map D.int), fr pr, plD nn] = Pp
        have wf : Fs 2703 w := hcl.wf hbs h60
        have wsz : Sz 910 ws.sum := by
          have go : ∀ l : List Int, (∀ x ∈ l, x.natAbs < 2 ^ 900) → l.sum.natAbs ≤ l.length * 2 ^ 900 := by
            intro l
            induction l with
            | nil => intro _; simp
            | cons a l ih =>
              intro q
              have := ih fun x hx => q x (by simp [hx])
              have := q a (by simp)
              rw [List.sum_cons, List.length_cons, Nat.add_mul, Nat.one_mul]
              omega
          have := go ws tp.wz
          rw [tp.wl] at this
          exact Nat.lt_of_le_of_lt (Nat.le_trans this (Nat.mul_le_mul_right _ (show bs.length ≤ 6 by omega))) (by decide)
        simp only [E24, yFor_app, iSrcA_app, xCons_app, xNil_app, xC_app, Res.bind_ok, enso_out, ens_bind, ens_srcR1]
        refine ⟨rng62_of (by decide) (by decide), ?_⟩
        refine ens_fr (fun i e S2 => Lf Lc (Lc + 1) (62 + 40 * i) S2 ∧ ∃ v5 v12 v13 v14 v15, e = E24 ns c Lc bs b w X Pp ws pr nn v5 [v12, v13, v14, v15]) ⟨by simpa using hf2, _, _, _, _, _, rfl⟩ ?_ ?_
        · rintro j d e S2 R3 hd ⟨hf3, v5, v12, v13, v14, v15, rfl⟩ hR3
          obtain ⟨rfl, hj⟩ := irange_get hd
          have hj : j < 4 := hj
          simp only [E24, gN_app, enso_nx, List.set_cons_succ, List.set_cons_zero]
          generalize D.int (0 + (j : Int)) = w5
          refine ens_sq (fun e S3 => ∃ M, MxK bs M ∧ cI bs M ≤ (b : Int) * wM M ∧ Lf Lc (Lc + 1) (62 + 40 * j + 40) S3 ∧ e = E24 ns c Lc bs b w X Pp ws pr nn (some w5) [some (.lst (M.map mxP)), v13, v14, v15]) (fun R4 hR4 => ?_) ?_
          · simp only [E24, ySet_app, xFn_app, xCons_app, xNil_app, xVar_app, List.getElem?_cons_zero, List.getElem?_cons_succ, Res.bind_ok, enso_out]
            refine (drawn_mix_ok hf3 (by omega) hbs b3 h60).imp ?_
            rintro d S3 ⟨M, rfl, kM, hc, hf4⟩
            simp only [enso_nx, List.set_cons_succ, List.set_cons_zero]
            exact hR4 _ _ ⟨M, kM, hc, hf4, rfl⟩
          rintro e S3 ⟨M, kM, hcM, hf4, rfl⟩
          obtain ⟨w1, _⟩ := kM.w
          have wq : (0 : Rat) < (wM M : Rat) := Rat.intCast_pos.mpr (by omega)
          refine ens_sq (fun e S4 => S4 = S3 ∧ e = E24 ns c Lc bs b w X Pp ws pr nn (some w5) [some (.lst (M.map mxP)), v13, v14, v15]) (fun R4 hR4 => ?_) ?_
          · obtain ⟨x, ex, xf, xl⟩ := least_ok hbs kM S3
            have hq : cM bs M ≤ (b : Rat) * (wM M : Rat) := by
              rw [← cI_q]
              have := Rat.intCast_le_intCast.mpr hcM
              rwa [Rat.intCast_mul, Rat.intCast_natCast] at this
            obtain ⟨k, hk, hle⟩ := mix_least hbs hcl (fun p hp => by have := kM.w1 p hp; omega) (by omega) hq
            have nl : ¬ w < x := fun z => by
              have a := xl k hk
              have b2 : w < fM bs M k / (wM M : Rat) := by grind
              rw [Rat.lt_div_iff wq] at b2
              grind
            have lo := less_ok wf (xf.le (show 2000 ≤ 2703 by decide)) (show 2703 ≤ 4500 by decide) S3
            rw [decide_eq_false nl] at lo
            simp only [E24, yIf_app, xOr_app, xNot_app, xTru_app, xFn_app, xCons_app, xNil_app, xVar_app, List.getElem?_cons_zero, List.getElem?_cons_succ, Res.bind_ok, keeps_ok hbs h60 kM hcM, ex, lo, tru_bl, Bool.not_true, Bool.false_eq_true, if_false, enso_out, ens_ok, yNil_app, enso_nx]
            exact hR4 _ _ ⟨rfl, rfl⟩
          rintro e S4 ⟨rfl, rfl⟩
          obtain ⟨p, M', rfl⟩ := List.exists_cons_of_ne_nil kM.ne
          have hp := kM.pl p (by simp)
          refine ens_sq (fun e S5 => S5 = S4 ∧ e = E24 ns c Lc bs b w X Pp ws pr nn (some w5) [some (.lst ((p :: M').map mxP)), some (plD p.1), v14, v15]) (fun R4 hR4 => ?_) ?_
          · simp [mxP]
            exact hR4 _ _ ⟨rfl, by simp [mxP]⟩
          rintro e S5 ⟨rfl, rfl⟩
          have dw := den_pos w
          have dpp := den_pos pr
          have e1 : ((w.num * ws.sum : Int) : Rat) / ((w.den : Int) : Rat) = w * ((ws.sum : Int) : Rat) := by
            rw [Rat.intCast_mul]
            have := fr_eq w
            have d0 : ((w.den : Int) : Rat) ≠ 0 := intq (by omega)
            generalize ((w.den : Int) : Rat) = dd at *
            generalize (w.num : Rat) = nu at *
            generalize ((ws.sum : Int) : Rat) = su at *
            grind
          have m1 := wf.num.mul wsz
          have mo1 := wf.num.mulOk wsz (by decide)
          have lw : ∀ S, F__law_lowest [.int pr.num, .int (pr.den : Int)] S = .ok (fr pr) S := fun S => by
            have := lowest13_ok pr.num (pr.den : Int) dpp (tp.pf.den.le (by decide)) S
            rwa [fr_eq] at this
          have pl1 : ∀ S, F__law_plus [.tup [.int (w.num * ws.sum), .int (w.den : Int)], fr pr] S = .ok (fr (w * ((ws.sum : Int) : Rat) + pr)) S := fun S => by
            have := lplus_r m1 (wf.den.le (show 2703 ≤ 2703 + 910 by decide)) tp.pf.num tp.pf.den dw dpp (by decide) S
            rwa [e1, fr_eq] at this
          refine ens_sq (fun e S6 => S6 = S5 ∧ e = E24 ns c Lc bs b w X Pp ws pr nn (some w5) [some (.lst ((p :: M').map mxP)), some (plD p.1), some (fr (w * ((ws.sum : Int) : Rat) + pr)), v15]) (fun R4 hR4 => ?_) ?_
          · have d1 : ∀ (x : Rat) S, dIx (fr x) (.int 1) S = .ok (.int x.den) S := fun x S => by unfold fr; simp
            simp only [E24, ySet_app, xFn_app, xOp_app, xTup_app, xC_app, xCons_app, xNil_app, xVar_app, List.getElem?_cons_zero, List.getElem?_cons_succ, Res.bind_ok, dIx_fr0, d1, bSum_ok, dMul_int, if_pos mo1, List.length_cons, List.length_nil, if_pos (show 0 + 1 + 1 ≤ 1000 by decide), lw, pl1, enso_out, ens_ok, enso_nx, List.set_cons_succ, List.set_cons_zero]
            exact hR4 _ _ ⟨rfl, rfl⟩
          rintro e S6 ⟨rfl, rfl⟩
          obtain ⟨c0, c1⟩ := coI_bd hbs hp
          refine ens_sq (fun e S7 => S7 = S6 ∧ e = E24 ns c Lc bs b w X Pp ws pr nn (some w5) [some (.lst ((p :: M').map mxP)), some (plD p.1), some (fr (w * ((ws.sum : Int) : Rat) + pr)), some (.int (coI bs p.1 - (b : Int) - 1))]) (fun R4 hR4 => ?_) ?_
          · simp only [E24, ySet_app, xFn_app, xOp_app, xC_app, xCons_app, xNil_app, xVar_app, List.getElem?_cons_zero, List.getElem?_cons_succ, Res.bind_ok, price_ok hbs hp, dSub_ok, enso_out, ens_ok, enso_nx, List.set_cons_succ, List.set_cons_zero]
            exact hR4 _ _ ⟨rfl, rfl⟩
          rintro e S7 ⟨rfl, rfl⟩
          have bz : Sz 16 (coI bs p.1 - (b : Int) - 1) := sz_of (B := 65536) (by omega) (by omega) (by decide)
          have mo2 := tp.pf.num.mulOk bz (by decide)
          have f1 : Fs 4520 (w * ((ws.sum : Int) : Rat) + pr) := (fs_add (fs_mul wf (int_fs wsz (by decide))) tp.pf).le (by decide)
          have e2 : ((pr.num * (coI bs p.1 - (b : Int) - 1) : Int) : Rat) / ((pr.den : Int) : Rat) = pr * ((coI bs p.1 - (b : Int) - 1 : Int) : Rat) := by
            rw [Rat.intCast_mul]
            have := fr_eq pr
            have d0 : ((pr.den : Int) : Rat) ≠ 0 := intq (by omega)
            generalize ((pr.den : Int) : Rat) = dd at *
            generalize (pr.num : Rat) = nu at *
            generalize ((coI bs p.1 - (b : Int) - 1 : Int) : Rat) = su at *
            grind
          have pl2 : ∀ S, F__law_plus [fr (w * ((ws.sum : Int) : Rat) + pr), .tup [.int (pr.num * (coI bs p.1 - (b : Int) - 1)), .int (pr.den : Int)]] S = .ok (fr (w * ((ws.sum : Int) : Rat) + pr + pr * ((coI bs p.1 - (b : Int) - 1 : Int) : Rat))) S := fun S => by
            have := lplus_r f1.num f1.den (tp.pf.num.mul bz) (tp.pf.den.le (show 900 ≤ 900 + 16 by decide)) (den_pos _) dpp (by decide) S
            rwa [e2, fr_eq] at this
          refine ens_sq (fun e S8 => S8 = S7 ∧ ∃ v14 v15, v14 = some (fr (w * ((ws.sum : Int) : Rat) + pr + pr * ((coI bs p.1 - (b : Int) - 1 : Int) : Rat))) ∧ e = E24 ns c Lc bs b w X Pp ws pr nn (some w5) [some (.lst ((p :: M').map mxP)), some (plD p.1), v14, v15]) (fun R4 hR4 => ?_) ?_
          · have d1 : ∀ (x : Rat) S, dIx (fr x) (.int 1) S = .ok (.int x.den) S := fun x S => by unfold fr; simp
            simp only [E24, ySet_app, xFn_app, xOp_app, xTup_app, xC_app, xCons_app, xNil_app, xVar_app, List.getElem?_cons_zero, List.getElem?_cons_succ, Res.bind_ok, dIx_fr0, d1, dMul_int, if_pos mo2, List.length_cons, List.length_nil, if_pos (show 0 + 1 + 1 ≤ 1000 by decide), pl2, enso_out, ens_ok, enso_nx, List.set_cons_succ, List.set_cons_zero]
            exact hR4 _ _ ⟨rfl, _, _, rfl, rfl⟩
          rintro e S8 ⟨rfl, _, v15, rfl, rfl⟩
          obtain ⟨fe, ff⟩ := fw_ok hbs b3 tp.wl tp.wz hp S8
          have bq : w * ((ws.sum : Int) : Rat) + pr + pr * ((coI bs p.1 - (b : Int) - 1 : Int) : Rat) = w * ((ws.sum : Int) : Rat) + pr * (coR bs p.1 - (b : Rat)) := by
            rw [Rat.intCast_sub, Rat.intCast_sub, coI_q, Rat.intCast_natCast]
            have : ((1 : Int) : Rat) = 1 := rfl
            rw [this]
            grind
          have bd := tp.bound p.1
          have f3 : Fs 4600 (w * ((ws.sum : Int) : Rat) + pr * (coR bs p.1 - (b : Rat))) := by
            have cq : Fs 16 (coR bs p.1 - (b : Rat)) := by
              rw [← coI_q, ← Rat.intCast_natCast b, ← Rat.intCast_sub]
              exact int_fs (sz_of (B := 65536) (by omega) (by omega) (by decide)) (by decide)
            exact (fs_add (fs_mul wf (int_fs wsz (by decide))) (fs_mul tp.pf cq)).le (by decide)
          rw [bq]
          have lo := less_ok2 f3 (ff.le (show 4200 ≤ 4600 by decide)) (show 4600 ≤ 8000 by decide) S8
          rw [decide_eq_false (Rat.not_lt.mpr bd)] at lo
          simp only [E24, yIf_app, xTru_app, xFn_app, xCons_app, xNil_app, xVar_app, List.getElem?_cons_zero, List.getElem?_cons_succ, Res.bind_ok, fe, lo, tru_bl, Bool.false_eq_true, if_false, enso_out, ens_ok, yNil_app, enso_nx]
          exact hR3 _ _ ⟨hf4.mono (by omega), _, _, _, _, _, rfl⟩
        · rintro e S2 ⟨hf3, v5, v12, v13, v14, v15, rfl⟩
          exact hR2 _ _ ⟨hf3.hS, _, _, _, _, _, _, _, _, _, _, _, _, _, _, _, rfl⟩
      · rintro e S' ⟨_, v1, v2, v3, v4, v5, v6, v7, v8, v9, v10, v11, v12, v13, v14, v15, rfl⟩
        exact hR _ _ ⟨_, _, rfl⟩
    rintro e S' ⟨x, r, rfl⟩
    simp
  obtain ⟨d, S', e, rfl⟩ := h.get
  exact ⟨S', e⟩

end Lw
namespace Lw
open PySem PySem.Spec PyProof.Rows L2 Dv
structure Tx (K : PySem.W.Frag) (mg : Str → Option Value) where
  a_divisor : Addr
  d_divisor : FuncData
  F_divisor : Fun K "divisor" "divisor" s_divisor a_divisor d_divisor
  g_divisor : mg "divisor" = some (.ref a_divisor)
  b_divisor : Binds K d_divisor ["one", "other"] []
  a_ratio : Addr
  d_ratio : FuncData
  F_ratio : Fun K "ratio" "ratio" s_ratio a_ratio d_ratio
  g_ratio : mg "ratio" = some (.ref a_ratio)
  b_ratio : Binds K d_ratio ["top", "bottom"] []
  a_plus : Addr
  d_plus : FuncData
  F_plus : Fun K "plus" "plus" s_plus a_plus d_plus
  g_plus : mg "plus" = some (.ref a_plus)
  b_plus : Binds K d_plus ["one", "other"] []
  a_minus : Addr
  d_minus : FuncData
  F_minus : Fun K "minus" "minus" s_minus a_minus d_minus
  g_minus : mg "minus" = some (.ref a_minus)
  b_minus : Binds K d_minus ["one", "other"] []
  a_times : Addr
  d_times : FuncData
  F_times : Fun K "times" "times" s_times a_times d_times
  g_times : mg "times" = some (.ref a_times)
  b_times : Binds K d_times ["one", "other"] []
  a_over : Addr
  d_over : FuncData
  F_over : Fun K "over" "over" s_over a_over d_over
  g_over : mg "over" = some (.ref a_over)
  b_over : Binds K d_over ["one", "other"] []
  a_below : Addr
  d_below : FuncData
  F_below : Fun K "below" "below" s_below a_below d_below
  g_below : mg "below" = some (.ref a_below)
  b_below : Binds K d_below ["one", "other"] []
  a_is_number : Addr
  d_is_number : FuncData
  F_is_number : Fun K "is_number" "is_number" s_is_number a_is_number d_is_number
  g_is_number : mg "is_number" = some (.ref a_is_number)
  b_is_number : Binds K d_is_number ["thing"] []
  a_are_numbers : Addr
  d_are_numbers : FuncData
  F_are_numbers : Fun K "are_numbers" "are_numbers" s_are_numbers a_are_numbers d_are_numbers
  g_are_numbers : mg "are_numbers" = some (.ref a_are_numbers)
  b_are_numbers : Binds K d_are_numbers ["thing", "many"] []
  a_is_box : Addr
  d_is_box : FuncData
  F_is_box : Fun K "is_box" "is_box" s_is_box a_is_box d_is_box
  g_is_box : mg "is_box" = some (.ref a_is_box)
  b_is_box : Binds K d_is_box ["box"] []
  a_must_be_boxes : Addr
  d_must_be_boxes : FuncData
  F_must_be_boxes : Fun K "must_be_boxes" "must_be_boxes" s_must_be_boxes a_must_be_boxes d_must_be_boxes
  g_must_be_boxes : mg "must_be_boxes" = some (.ref a_must_be_boxes)
  b_must_be_boxes : Binds K d_must_be_boxes ["boxes"] []
  a_must_be_budget : Addr
  d_must_be_budget : FuncData
  F_must_be_budget : Fun K "must_be_budget" "must_be_budget" s_must_be_budget a_must_be_budget d_must_be_budget
  g_must_be_budget : mg "must_be_budget" = some (.ref a_must_be_budget)
  b_must_be_budget : Binds K d_must_be_budget ["budget"] []
  a_missed : Addr
  d_missed : FuncData
  F_missed : Fun K "missed" "missed" s_missed a_missed d_missed
  g_missed : mg "missed" = some (.ref a_missed)
  b_missed : Binds K d_missed ["box", "many"] []
  a_finding : Addr
  d_finding : FuncData
  F_finding : Fun K "finding" "finding" s_finding a_finding d_finding
  g_finding : mg "finding" = some (.ref a_finding)
  b_finding : Binds K d_finding ["box", "many"] []
  a_mark : Addr
  d_mark : FuncData
  F_mark : Fun K "mark" "mark" s_mark a_mark d_mark
  g_mark : mg "mark" = some (.ref a_mark)
  b_mark : Binds K d_mark ["box", "many"] []
  a_behind : Addr
  d_behind : FuncData
  F_behind : Fun K "behind" "behind" s_behind a_behind d_behind
  g_behind : mg "behind" = some (.ref a_behind)
  b_behind : Binds K d_behind ["box", "miss"] []
  a_rate : Addr
  d_rate : FuncData
  F_rate : Fun K "rate" "rate" s_rate a_rate d_rate
  g_rate : mg "rate" = some (.ref a_rate)
  b_rate : Binds K d_rate ["boxes", "misses"] []
  a_greatest : Addr
  d_greatest : FuncData
  F_greatest : Fun K "greatest" "greatest" s_greatest a_greatest d_greatest
  g_greatest : mg "greatest" = some (.ref a_greatest)
  b_greatest : Binds K d_greatest ["fractions"] []
  a_climbed : Addr
  d_climbed : FuncData
  F_climbed : Fun K "climbed" "climbed" s_climbed a_climbed d_climbed
  g_climbed : mg "climbed" = some (.ref a_climbed)
  b_climbed : Binds K d_climbed ["boxes", "budget"] []
  a_ceiling : Addr
  d_ceiling : FuncData
  F_ceiling : Fun K "ceiling" "ceiling" s_ceiling a_ceiling d_ceiling
  g_ceiling : mg "ceiling" = some (.ref a_ceiling)
  b_ceiling : Binds K d_ceiling ["fraction"] []
  a_many_between : Addr
  d_many_between : FuncData
  F_many_between : Fun K "many_between" "many_between" s_many_between a_many_between d_many_between
  g_many_between : mg "many_between" = some (.ref a_many_between)
  b_many_between : Binds K d_many_between ["one", "other", "u"] []
  a_rest_of : Addr
  d_rest_of : FuncData
  F_rest_of : Fun K "rest_of" "rest_of" s_rest_of a_rest_of d_rest_of
  g_rest_of : mg "rest_of" = some (.ref a_rest_of)
  b_rest_of : Binds K d_rest_of ["fraction"] []
  a_mix_by : Addr
  d_mix_by : FuncData
  F_mix_by : Fun K "mix_by" "mix_by" s_mix_by a_mix_by d_mix_by
  g_mix_by : mg "mix_by" = some (.ref a_mix_by)
  b_mix_by : Binds K d_mix_by ["looks"] []
  a_looks_for : Addr
  d_looks_for : FuncData
  F_looks_for : Fun K "looks_for" "looks_for" s_looks_for a_looks_for d_looks_for
  g_looks_for : mg "looks_for" = some (.ref a_looks_for)
  b_looks_for : Binds K d_looks_for ["boxes", "counts", "worth"] []
  a_paper_for : Addr
  d_paper_for : FuncData
  F_paper_for : Fun K "paper_for" "paper_for" s_paper_for a_paper_for d_paper_for
  g_paper_for : mg "paper_for" = some (.ref a_paper_for)
  b_paper_for : Binds K d_paper_for ["boxes", "counts", "worth"] []
  a_budget_worth : Addr
  d_budget_worth : FuncData
  F_budget_worth : Fun K "budget_worth" "budget_worth" s_budget_worth a_budget_worth d_budget_worth
  g_budget_worth : mg "budget_worth" = some (.ref a_budget_worth)
  b_budget_worth : Binds K d_budget_worth ["boxes", "budget"] []
  a__law_mix : Addr
  d__law_mix : FuncData
  F__law_mix : Fun K "_law_mix" "_law_mix" s__law_mix a__law_mix d__law_mix
  g__law_mix : mg "_law_mix" = some (.ref a__law_mix)
  b__law_mix : Binds K d__law_mix ["_law_number", "_law_k"] []
  a__law_cell_at : Addr
  d__law_cell_at : FuncData
  F__law_cell_at : Fun K "_law_cell_at" "_law_cell_at" s__law_cell_at a__law_cell_at d__law_cell_at
  g__law_cell_at : mg "_law_cell_at" = some (.ref a__law_cell_at)
  b__law_cell_at : Binds K d__law_cell_at ["_law_script", "_law_k"] []
  a__law_left : Addr
  d__law_left : FuncData
  F__law_left : Fun K "_law_left" "_law_left" s__law_left a__law_left d__law_left
  g__law_left : mg "_law_left" = some (.ref a__law_left)
  b__law_left : Binds K d__law_left ["_law_script", "_law_k"] []
  a__law_draw : Addr
  d__law_draw : FuncData
  F__law_draw : Fun K "_law_draw" "_law_draw" s__law_draw a__law_draw d__law_draw
  g__law_draw : mg "_law_draw" = some (.ref a__law_draw)
  b__law_draw : Binds K d__law_draw ["_law_left_here", "_law_base"] []
  a__law_boxes : Addr
  d__law_boxes : FuncData
  F__law_boxes : Fun K "_law_boxes" "_law_boxes" s__law_boxes a__law_boxes d__law_boxes
  g__law_boxes : mg "_law_boxes" = some (.ref a__law_boxes)
  b__law_boxes : Binds K d__law_boxes ["_law_left_here", "_law_most"] []
  a__law_whole : Addr
  d__law_whole : FuncData
  F__law_whole : Fun K "_law_whole" "_law_whole" s__law_whole a__law_whole d__law_whole
  g__law_whole : mg "_law_whole" = some (.ref a__law_whole)
  b__law_whole : Binds K d__law_whole ["_law_thing"] []
  a__law_lowest : Addr
  d__law_lowest : FuncData
  F__law_lowest : Fun K "_law_lowest" "_law_lowest" s__law_lowest a__law_lowest d__law_lowest
  g__law_lowest : mg "_law_lowest" = some (.ref a__law_lowest)
  b__law_lowest : Binds K d__law_lowest ["_law_top", "_law_bottom"] []
  a__law_miss : Addr
  d__law_miss : FuncData
  F__law_miss : Fun K "_law_miss" "_law_miss" s__law_miss a__law_miss d__law_miss
  g__law_miss : mg "_law_miss" = some (.ref a__law_miss)
  b__law_miss : Binds K d__law_miss ["_law_box", "_law_many"] []
  a__law_plus : Addr
  d__law_plus : FuncData
  F__law_plus : Fun K "_law_plus" "_law_plus" s__law_plus a__law_plus d__law_plus
  g__law_plus : mg "_law_plus" = some (.ref a__law_plus)
  b__law_plus : Binds K d__law_plus ["_law_one", "_law_other"] []
  a__law_less : Addr
  d__law_less : FuncData
  F__law_less : Fun K "_law_less" "_law_less" s__law_less a__law_less d__law_less
  g__law_less : mg "_law_less" = some (.ref a__law_less)
  b__law_less : Binds K d__law_less ["_law_one", "_law_other"] []
  a__law_plan : Addr
  d__law_plan : FuncData
  F__law_plan : Fun K "_law_plan" "_law_plan" s__law_plan a__law_plan d__law_plan
  g__law_plan : mg "_law_plan" = some (.ref a__law_plan)
  b__law_plan : Binds K d__law_plan ["_law_boxes_here", "_law_thing"] []
  a__law_price : Addr
  d__law_price : FuncData
  F__law_price : Fun K "_law_price" "_law_price" s__law_price a__law_price d__law_price
  g__law_price : mg "_law_price" = some (.ref a__law_price)
  b__law_price : Binds K d__law_price ["_law_boxes_here", "_law_plan_here"] []
  a__law_chance : Addr
  d__law_chance : FuncData
  F__law_chance : Fun K "_law_chance" "_law_chance" s__law_chance a__law_chance d__law_chance
  g__law_chance : mg "_law_chance" = some (.ref a__law_chance)
  b__law_chance : Binds K d__law_chance ["_law_boxes_here", "_law_mix_here", "_law_k"] []
  a__law_keeps : Addr
  d__law_keeps : FuncData
  F__law_keeps : Fun K "_law_keeps" "_law_keeps" s__law_keeps a__law_keeps d__law_keeps
  g__law_keeps : mg "_law_keeps" = some (.ref a__law_keeps)
  b__law_keeps : Binds K d__law_keeps ["_law_boxes_here", "_law_budget", "_law_mix_here"] []
  a__law_drawn_mix : Addr
  d__law_drawn_mix : FuncData
  F__law_drawn_mix : Fun K "_law_drawn_mix" "_law_drawn_mix" s__law_drawn_mix a__law_drawn_mix d__law_drawn_mix
  g__law_drawn_mix : mg "_law_drawn_mix" = some (.ref a__law_drawn_mix)
  b__law_drawn_mix : Binds K d__law_drawn_mix ["_law_left_here", "_law_boxes_here", "_law_budget"] []
  a__law_least : Addr
  d__law_least : FuncData
  F__law_least : Fun K "_law_least" "_law_least" s__law_least a__law_least d__law_least
  g__law_least : mg "_law_least" = some (.ref a__law_least)
  b__law_least : Binds K d__law_least ["_law_boxes_here", "_law_mix_here"] []
  a__law_found_by_weights : Addr
  d__law_found_by_weights : FuncData
  F__law_found_by_weights : Fun K "_law_found_by_weights" "_law_found_by_weights" s__law_found_by_weights a__law_found_by_weights d__law_found_by_weights
  g__law_found_by_weights : mg "_law_found_by_weights" = some (.ref a__law_found_by_weights)
  b__law_found_by_weights : Binds K d__law_found_by_weights ["_law_boxes_here", "_law_weights", "_law_plan_here"] []
  a_law : Addr
  d_law : FuncData
  F_law : Fun K "law" "law" s_law a_law d_law
  g_law : mg "law" = some (.ref a_law)
  b_law : Binds K d_law ["_law_script"] []
  z_abs : mg "abs" = none
  z_int : mg "int" = none
  z_isinstance : mg "isinstance" = none
  z_bool : mg "bool" = none
  z_list : mg "list" = none
  z_len : mg "len" = none
  z_tuple : mg "tuple" = none
  z_range : mg "range" = none
  z_sorted : mg "sorted" = none
  z_sum : mg "sum" = none
  t_MOST_COST : Tok
  c_MOST_COST : mg "MOST_COST" = some (.int 60 t_MOST_COST)
  t_MOST_OF : Tok
  c_MOST_OF : mg "MOST_OF" = some (.int 50 t_MOST_OF)
  t_MOST_BOXES : Tok
  c_MOST_BOXES : mg "MOST_BOXES" = some (.int 6 t_MOST_BOXES)
  t_MOST_BUDGET : Tok
  c_MOST_BUDGET : mg "MOST_BUDGET" = some (.int 60 t_MOST_BUDGET)
  C_NoNumber : Addr
  k_NoNumber : Cl K mg "NoNumber" C_NoNumber
  C_NoBoxes : Addr
  k_NoBoxes : Cl K mg "NoBoxes" C_NoBoxes
  C_NoBudget : Addr
  k_NoBudget : Cl K mg "NoBudget" C_NoBudget
  r_NoNumber : Rc K mg "NoNumber" C_NoNumber
  x_NoNumber : PySem.W.excIn K C_NoNumber veMro "ValueError.__new__" = true
  r_NoBoxes : Rc K mg "NoBoxes" C_NoBoxes
  x_NoBoxes : PySem.W.excIn K C_NoBoxes veMro "ValueError.__new__" = true
  r_NoBudget : Rc K mg "NoBudget" C_NoBudget
  x_NoBudget : PySem.W.excIn K C_NoBudget veMro "ValueError.__new__" = true
  ct : ∀ p ∈ catchL, CatchOk K p
  xc : XcOk K isL raisedL
section
variable {P : Program} {w : World} {K : PySem.W.Frag} {mg : Str → Option Value} {base : Heap}
theorem ok_divisor (T : Tx K mg) : FnOk P w K mg base (L2.CX P w) 2 T.a_divisor T.d_divisor ["one", "other"] (spD ⟨K, mg⟩ F_divisor) :=
  fn_mk (k := 1) (keep := false) (body := b_divisor) T.F_divisor sc_divisor rfl fun cdv A outer s H E hr => by
    have nd := sc_divisor.nd
    have tk : Takes (cxOf (L2.CX P w) P w K mg base ["one", "other"] "divisor" (defScope s_divisor) T.a_divisor cdv A outer s H E) (fun cls d _ H' => E cls d H') := takes_of rfl rfl rfl rfl
    exact (pssd_cons (psd_set (i := 0) nd (pd_callB cd_abs (by rfl) T.z_abs (by decide +kernel) (pad_cons (pd_var (i := 0)) pad_nil)))
      (pssd_cons (psd_set (i := 1) nd (pd_callB cd_abs (by rfl) T.z_abs (by decide +kernel) (pad_cons (pd_var (i := 1)) pad_nil)))
      (pssd_cons (psd_while (passes_of rfl) (ptd_cmp (od_ne hr.units) (pd_var (i := 1)) pd_int) (pssd_one (psd_par (i := 0) (j := 1) rfl nd (by decide) (pad_cons (pd_var (i := 1)) (pad_cons (pd_op od_mod (pd_var (i := 0)) (pd_var (i := 1))) pad_nil)) (by rfl))))
      (pssd_one (psd_ret (pd_var (i := 0)))))))
theorem ok_ratio (T : Tx K mg) : FnOk P w K mg base (L2.CX P w) 3 T.a_ratio T.d_ratio ["top", "bottom"] (spD ⟨K, mg⟩ F_ratio) :=
  fn_mk (k := 2) (keep := false) (body := b_ratio) T.F_ratio sc_ratio rfl fun cdv A outer s H E hr => by
    have nd := sc_ratio.nd
    have tk : Takes (cxOf (L2.CX P w) P w K mg base ["top", "bottom", "by"] "ratio" (defScope s_ratio) T.a_ratio cdv A outer s H E) (fun cls d _ H' => E cls d H') := takes_of rfl rfl rfl rfl
    exact (pssd_cons (psd_if (ptd_cmp (od_eq hr.units) (pd_var (i := 1)) pd_int) (pssd_one (psd_raise rfl tk T.r_NoNumber T.x_NoNumber)) pssd_nil)
      (pssd_cons (psd_set (i := 2) nd (pd_call (ok_divisor T) (hr.mono (by decide)) T.g_divisor T.F_divisor.kp T.b_divisor tk (pad_cons (pd_var (i := 0)) (pad_cons (pd_var (i := 1)) pad_nil))))
      (pssd_cons (psd_if (ptd_cmp od_lt (pd_var (i := 1)) pd_int) (pssd_one (psd_set (i := 2) nd (pd_op od_sub pd_int (pd_var (i := 2))))) pssd_nil)
      (pssd_one (psd_ret (pd_tup (pad_cons (pd_op od_fdiv (pd_var (i := 0)) (pd_var (i := 2))) (pad_cons (pd_op od_fdiv (pd_var (i := 1)) (pd_var (i := 2))) pad_nil))))))))
theorem ok_plus (T : Tx K mg) : FnOk P w K mg base (L2.CX P w) 4 T.a_plus T.d_plus ["one", "other"] (spD ⟨K, mg⟩ F_plus) :=
  fn_mk (k := 3) (keep := false) (body := b_plus) T.F_plus sc_plus rfl fun cdv A outer s H E hr => by
    have nd := sc_plus.nd
    have tk : Takes (cxOf (L2.CX P w) P w K mg base ["one", "other"] "plus" (defScope s_plus) T.a_plus cdv A outer s H E) (fun cls d _ H' => E cls d H') := takes_of rfl rfl rfl rfl
    exact (pssd_one (psd_ret (pd_call (ok_ratio T) (hr.mono (by decide)) T.g_ratio T.F_ratio.kp T.b_ratio tk (pad_cons (pd_op (od_add mk_F) (pd_op (od_mul mk_F) (pd_ix ixd (pd_var (i := 0)) pd_int) (pd_ix ixd (pd_var (i := 1)) pd_int)) (pd_op (od_mul mk_F) (pd_ix ixd (pd_var (i := 1)) pd_int) (pd_ix ixd (pd_var (i := 0)) pd_int))) (pad_cons (pd_op (od_mul mk_F) (pd_ix ixd (pd_var (i := 0)) pd_int) (pd_ix ixd (pd_var (i := 1)) pd_int)) pad_nil)))))
theorem ok_minus (T : Tx K mg) : FnOk P w K mg base (L2.CX P w) 4 T.a_minus T.d_minus ["one", "other"] (spD ⟨K, mg⟩ F_minus) :=
  fn_mk (k := 3) (keep := false) (body := b_minus) T.F_minus sc_minus rfl fun cdv A outer s H E hr => by
    have nd := sc_minus.nd
    have tk : Takes (cxOf (L2.CX P w) P w K mg base ["one", "other"] "minus" (defScope s_minus) T.a_minus cdv A outer s H E) (fun cls d _ H' => E cls d H') := takes_of rfl rfl rfl rfl
    exact (pssd_one (psd_ret (pd_call (ok_ratio T) (hr.mono (by decide)) T.g_ratio T.F_ratio.kp T.b_ratio tk (pad_cons (pd_op od_sub (pd_op (od_mul mk_F) (pd_ix ixd (pd_var (i := 0)) pd_int) (pd_ix ixd (pd_var (i := 1)) pd_int)) (pd_op (od_mul mk_F) (pd_ix ixd (pd_var (i := 1)) pd_int) (pd_ix ixd (pd_var (i := 0)) pd_int))) (pad_cons (pd_op (od_mul mk_F) (pd_ix ixd (pd_var (i := 0)) pd_int) (pd_ix ixd (pd_var (i := 1)) pd_int)) pad_nil)))))
theorem ok_times (T : Tx K mg) : FnOk P w K mg base (L2.CX P w) 4 T.a_times T.d_times ["one", "other"] (spD ⟨K, mg⟩ F_times) :=
  fn_mk (k := 3) (keep := false) (body := b_times) T.F_times sc_times rfl fun cdv A outer s H E hr => by
    have nd := sc_times.nd
    have tk : Takes (cxOf (L2.CX P w) P w K mg base ["one", "other"] "times" (defScope s_times) T.a_times cdv A outer s H E) (fun cls d _ H' => E cls d H') := takes_of rfl rfl rfl rfl
    exact (pssd_one (psd_ret (pd_call (ok_ratio T) (hr.mono (by decide)) T.g_ratio T.F_ratio.kp T.b_ratio tk (pad_cons (pd_op (od_mul mk_F) (pd_ix ixd (pd_var (i := 0)) pd_int) (pd_ix ixd (pd_var (i := 1)) pd_int)) (pad_cons (pd_op (od_mul mk_F) (pd_ix ixd (pd_var (i := 0)) pd_int) (pd_ix ixd (pd_var (i := 1)) pd_int)) pad_nil)))))
theorem ok_over (T : Tx K mg) : FnOk P w K mg base (L2.CX P w) 4 T.a_over T.d_over ["one", "other"] (spD ⟨K, mg⟩ F_over) :=
  fn_mk (k := 3) (keep := false) (body := b_over) T.F_over sc_over rfl fun cdv A outer s H E hr => by
    have nd := sc_over.nd
    have tk : Takes (cxOf (L2.CX P w) P w K mg base ["one", "other"] "over" (defScope s_over) T.a_over cdv A outer s H E) (fun cls d _ H' => E cls d H') := takes_of rfl rfl rfl rfl
    exact (pssd_one (psd_ret (pd_call (ok_ratio T) (hr.mono (by decide)) T.g_ratio T.F_ratio.kp T.b_ratio tk (pad_cons (pd_op (od_mul mk_F) (pd_ix ixd (pd_var (i := 0)) pd_int) (pd_ix ixd (pd_var (i := 1)) pd_int)) (pad_cons (pd_op (od_mul mk_F) (pd_ix ixd (pd_var (i := 0)) pd_int) (pd_ix ixd (pd_var (i := 1)) pd_int)) pad_nil)))))
theorem ok_below (T : Tx K mg) : FnOk P w K mg base (L2.CX P w) 2 T.a_below T.d_below ["one", "other"] (spD ⟨K, mg⟩ F_below) :=
  fn_mk (k := 1) (keep := false) (body := b_below) T.F_below sc_below rfl fun cdv A outer s H E hr => by
    have nd := sc_below.nd
    have tk : Takes (cxOf (L2.CX P w) P w K mg base ["one", "other"] "below" (defScope s_below) T.a_below cdv A outer s H E) (fun cls d _ H' => E cls d H') := takes_of rfl rfl rfl rfl
    exact (pssd_one (psd_ret (pd_cmp od_lt (pd_op (od_mul mk_F) (pd_ix ixd (pd_var (i := 0)) pd_int) (pd_ix ixd (pd_var (i := 1)) pd_int)) (pd_op (od_mul mk_F) (pd_ix ixd (pd_var (i := 1)) pd_int) (pd_ix ixd (pd_var (i := 0)) pd_int)))))
theorem ok_is_number (T : Tx K mg) : FnOk P w K mg base (L2.CX P w) 2 T.a_is_number T.d_is_number ["thing"] (spD ⟨K, mg⟩ F_is_number) :=
  fn_mk (k := 1) (keep := false) (body := b_is_number) T.F_is_number sc_is_number rfl fun cdv A outer s H E hr => by
    have nd := sc_is_number.nd
    have tk : Takes (cxOf (L2.CX P w) P w K mg base ["thing"] "is_number" (defScope s_is_number) T.a_is_number cdv A outer s H E) (fun cls d _ H' => E cls d H') := takes_of rfl rfl rfl rfl
    exact (pssd_one (psd_ret (pd_and (pd_callB cd_isi (by rfl) T.z_isinstance (by decide +kernel) (pad_cons (pd_var (i := 0)) (pad_cons (pd_ty T.z_int (by decide +kernel)) pad_nil))) (pd_one (pd_not (pd_callB cd_isi (by rfl) T.z_isinstance (by decide +kernel) (pad_cons (pd_var (i := 0)) (pad_cons (pd_ty T.z_bool (by decide +kernel)) pad_nil))))))))
theorem ok_are_numbers (T : Tx K mg) : FnOk P w K mg base (L2.CX P w) 3 T.a_are_numbers T.d_are_numbers ["thing", "many"] (spD ⟨K, mg⟩ F_are_numbers) :=
  fn_mk (k := 2) (keep := false) (body := b_are_numbers) T.F_are_numbers sc_are_numbers rfl fun cdv A outer s H E hr => by
    have nd := sc_are_numbers.nd
    have tk : Takes (cxOf (L2.CX P w) P w K mg base ["thing", "many", "number"] "are_numbers" (defScope s_are_numbers) T.a_are_numbers cdv A outer s H E) (fun cls d _ H' => E cls d H') := takes_of rfl rfl rfl rfl
    exact (pssd_cons (psd_if (PWD.pt (pwd_or (ptd_not (ptd_truth (pd_callB cd_isi (by rfl) T.z_isinstance (by decide +kernel) (pad_cons (pd_var (i := 0)) (pad_cons (pd_ty T.z_list (by decide +kernel)) pad_nil))))) (pwd_or1 (ptd_cmp (od_ne hr.units) (pd_callB cd_len (by rfl) T.z_len (by decide +kernel) (pad_cons (pd_var (i := 0)) pad_nil)) (pd_var (i := 1)))))) (pssd_one (psd_ret pd_bl)) pssd_nil)
      (pssd_one (psd_ret (pd_cmp (od_eq hr.units) (pd_callB cd_len (by rfl) T.z_len (by decide +kernel) (pad_cons (pd_lcIf (own := [("number", 2)]) mk_F (tg_N (by decide)) rfl nd (pid_list (pd_var (i := 0))) (blkOk_by (N := ["thing", "many", "number"]) (sc := defScope s_are_numbers) (by decide +kernel)) (fun _ _ _ _ _ => pg_name (i := 2) nd rfl (Or.inl rfl)) (fun _ _ _ _ _ => (ptd_not (ptd_truth (pd_call (ok_is_number T) (hr.mono (by decide)) T.g_is_number T.F_is_number.kp T.b_is_number takes0 (pad_cons (pd_var (i := 2)) pad_nil))))) (fun _ _ _ _ _ => (pd_var (i := 2)))) pad_nil)) pd_int))))
theorem ok_is_box (T : Tx K mg) : FnOk P w K mg base (L2.CX P w) 4 T.a_is_box T.d_is_box ["box"] (spD ⟨K, mg⟩ F_is_box) :=
  fn_mk (k := 3) (keep := false) (body := b_is_box) T.F_is_box sc_is_box rfl fun cdv A outer s H E hr => by
    have nd := sc_is_box.nd
    have tk : Takes (cxOf (L2.CX P w) P w K mg base ["box", "cost", "hits", "of"] "is_box" (defScope s_is_box) T.a_is_box cdv A outer s H E) (fun cls d _ H' => E cls d H') := takes_of rfl rfl rfl rfl
    exact (pssd_cons (psd_if (PWD.pt (pwd_or (ptd_not (ptd_truth (pd_callB cd_isi (by rfl) T.z_isinstance (by decide +kernel) (pad_cons (pd_var (i := 0)) (pad_cons (pd_ty T.z_tuple (by decide +kernel)) pad_nil))))) (pwd_or1 (ptd_not (ptd_truth (pd_call (ok_are_numbers T) (hr.mono (by decide)) T.g_are_numbers T.F_are_numbers.kp T.b_are_numbers tk (pad_cons (pd_callTy (cd_list mk_F) (by rfl) T.z_list (by decide +kernel) (pad_cons (pd_var (i := 0)) pad_nil)) (pad_cons pd_int pad_nil)))))))) (pssd_one (psd_ret pd_bl)) pssd_nil)
      (pssd_cons (psd_asg (pd_var (i := 0)) (pgd_tup rfl (pgsd_cons (pgd_name (i := 1) nd) (pgsd_cons (pgd_name (i := 2) nd) (pgsd_cons (pgd_name (i := 3) nd) pgsd_nil)))))
      (pssd_one (psd_ret (pd_and (pd_cmp od_ge (pd_var (i := 1)) pd_int) (pd_and (pd_cmp od_le (pd_var (i := 1)) (pd_gint T.c_MOST_COST)) (pd_and (pd_cmp od_ge (pd_var (i := 2)) pd_int) (pd_and (pd_cmp od_le (pd_var (i := 2)) (pd_var (i := 3))) (pd_one (pd_cmp od_le (pd_var (i := 3)) (pd_gint T.c_MOST_OF)))))))))))
theorem ok_must_be_boxes (T : Tx K mg) : FnOk P w K mg base (L2.CX P w) 5 T.a_must_be_boxes T.d_must_be_boxes ["boxes"] (spD ⟨K, mg⟩ F_must_be_boxes) :=
  fn_mk (k := 4) (keep := false) (body := b_must_be_boxes) T.F_must_be_boxes sc_must_be_boxes rfl fun cdv A outer s H E hr => by
    have nd := sc_must_be_boxes.nd
    have tk : Takes (cxOf (L2.CX P w) P w K mg base ["boxes", "box"] "must_be_boxes" (defScope s_must_be_boxes) T.a_must_be_boxes cdv A outer s H E) (fun cls d _ H' => E cls d H') := takes_of rfl rfl rfl rfl
    exact (pssd_cons (psd_if (PWD.pt (pwd_or (ptd_not (ptd_truth (pd_callB cd_isi (by rfl) T.z_isinstance (by decide +kernel) (pad_cons (pd_var (i := 0)) (pad_cons (pd_ty T.z_list (by decide +kernel)) pad_nil))))) (pwd_or (ptd_cmp od_lt (pd_callB cd_len (by rfl) T.z_len (by decide +kernel) (pad_cons (pd_var (i := 0)) pad_nil)) pd_int) (pwd_or1 (ptd_cmp od_gt (pd_callB cd_len (by rfl) T.z_len (by decide +kernel) (pad_cons (pd_var (i := 0)) pad_nil)) (pd_gint T.c_MOST_BOXES)))))) (pssd_one (psd_raise rfl tk T.r_NoBoxes T.x_NoBoxes)) pssd_nil)
      (pssd_one (psd_if (ptd_cmp od_gt (pd_callB cd_len (by rfl) T.z_len (by decide +kernel) (pad_cons (pd_lcIf (own := [("box", 1)]) mk_F (tg_N (by decide)) rfl nd (pid_list (pd_var (i := 0))) (blkOk_by (N := ["boxes", "box"]) (sc := defScope s_must_be_boxes) (by decide +kernel)) (fun _ _ _ _ _ => pg_name (i := 1) nd rfl (Or.inl rfl)) (fun _ _ _ _ _ => (ptd_not (ptd_truth (pd_call (ok_is_box T) (hr.mono (by decide)) T.g_is_box T.F_is_box.kp T.b_is_box takes0 (pad_cons (pd_var (i := 1)) pad_nil))))) (fun _ _ _ _ _ => (pd_var (i := 1)))) pad_nil)) pd_int) (pssd_one (psd_raise rfl tk T.r_NoBoxes T.x_NoBoxes)) pssd_nil)))
theorem ok_must_be_budget (T : Tx K mg) : FnOk P w K mg base (L2.CX P w) 3 T.a_must_be_budget T.d_must_be_budget ["budget"] (spD ⟨K, mg⟩ F_must_be_budget) :=
  fn_mk (k := 2) (keep := false) (body := b_must_be_budget) T.F_must_be_budget sc_must_be_budget rfl fun cdv A outer s H E hr => by
    have nd := sc_must_be_budget.nd
    have tk : Takes (cxOf (L2.CX P w) P w K mg base ["budget"] "must_be_budget" (defScope s_must_be_budget) T.a_must_be_budget cdv A outer s H E) (fun cls d _ H' => E cls d H') := takes_of rfl rfl rfl rfl
    exact (pssd_one (psd_if (PWD.pt (pwd_or (ptd_not (ptd_truth (pd_call (ok_is_number T) (hr.mono (by decide)) T.g_is_number T.F_is_number.kp T.b_is_number tk (pad_cons (pd_var (i := 0)) pad_nil)))) (pwd_or (ptd_cmp od_lt (pd_var (i := 0)) pd_int) (pwd_or1 (ptd_cmp od_gt (pd_var (i := 0)) (pd_gint T.c_MOST_BUDGET)))))) (pssd_one (psd_raise rfl tk T.r_NoBudget T.x_NoBudget)) pssd_nil))
theorem ok_missed (T : Tx K mg) : FnOk P w K mg base (L2.CX P w) 4 T.a_missed T.d_missed ["box", "many"] (spD ⟨K, mg⟩ F_missed) :=
  fn_mk (k := 3) (keep := false) (body := b_missed) T.F_missed sc_missed rfl fun cdv A outer s H E hr => by
    have nd := sc_missed.nd
    have tk : Takes (cxOf (L2.CX P w) P w K mg base ["box", "many", "top", "bottom", "turn", "cost", "hits", "of"] "missed" (defScope s_missed) T.a_missed cdv A outer s H E) (fun cls d _ H' => E cls d H') := takes_of rfl rfl rfl rfl
    exact (pssd_cons (psd_asg (pd_var (i := 0)) (pgd_tup rfl (pgsd_cons (pgd_name (i := 5) nd) (pgsd_cons (pgd_name (i := 6) nd) (pgsd_cons (pgd_name (i := 7) nd) pgsd_nil)))))
      (pssd_cons (psd_set (i := 2) nd pd_int)
      (pssd_cons (psd_set (i := 3) nd pd_int)
      (pssd_cons (psd_for (passes_of rfl) rfl (pid_range1 T.z_range (pad_cons (pd_var (i := 1)) pad_nil)) (pgd_name (i := 4) nd) (pssd_cons (psd_set (i := 2) nd (pd_op (od_mul mk_F) (pd_var (i := 2)) (pd_op od_sub (pd_var (i := 7)) (pd_var (i := 6)))))
      (pssd_one (psd_set (i := 3) nd (pd_op (od_mul mk_F) (pd_var (i := 3)) (pd_var (i := 7)))))))
      (pssd_one (psd_ret (pd_call (ok_ratio T) (hr.mono (by decide)) T.g_ratio T.F_ratio.kp T.b_ratio tk (pad_cons (pd_var (i := 2)) (pad_cons (pd_var (i := 3)) pad_nil)))))))))
theorem ok_finding (T : Tx K mg) : FnOk P w K mg base (L2.CX P w) 5 T.a_finding T.d_finding ["box", "many"] (spD ⟨K, mg⟩ F_finding) :=
  fn_mk (k := 4) (keep := false) (body := b_finding) T.F_finding sc_finding rfl fun cdv A outer s H E hr => by
    have nd := sc_finding.nd
    have tk : Takes (cxOf (L2.CX P w) P w K mg base ["box", "many"] "finding" (defScope s_finding) T.a_finding cdv A outer s H E) (fun cls d _ H' => E cls d H') := takes_of rfl rfl rfl rfl
    exact (pssd_one (psd_ret (pd_call (ok_minus T) (hr.mono (by decide)) T.g_minus T.F_minus.kp T.b_minus tk (pad_cons (pd_tup (pad_cons pd_int (pad_cons pd_int pad_nil))) (pad_cons (pd_call (ok_missed T) (hr.mono (by decide)) T.g_missed T.F_missed.kp T.b_missed tk (pad_cons (pd_var (i := 0)) (pad_cons (pd_var (i := 1)) pad_nil))) pad_nil)))))
theorem ok_mark (T : Tx K mg) : FnOk P w K mg base (L2.CX P w) 5 T.a_mark T.d_mark ["box", "many"] (spD ⟨K, mg⟩ F_mark) :=
  fn_mk (k := 4) (keep := false) (body := b_mark) T.F_mark sc_mark rfl fun cdv A outer s H E hr => by
    have nd := sc_mark.nd
    have tk : Takes (cxOf (L2.CX P w) P w K mg base ["box", "many"] "mark" (defScope s_mark) T.a_mark cdv A outer s H E) (fun cls d _ H' => E cls d H') := takes_of rfl rfl rfl rfl
    exact (pssd_one (psd_ret (pd_call (ok_times T) (hr.mono (by decide)) T.g_times T.F_times.kp T.b_times tk (pad_cons (pd_call (ok_ratio T) (hr.mono (by decide)) T.g_ratio T.F_ratio.kp T.b_ratio tk (pad_cons (pd_ix ixd (pd_var (i := 0)) pd_int) (pad_cons (pd_ix ixd (pd_var (i := 0)) pd_int) pad_nil))) (pad_cons (pd_call (ok_missed T) (hr.mono (by decide)) T.g_missed T.F_missed.kp T.b_missed tk (pad_cons (pd_var (i := 0)) (pad_cons (pd_var (i := 1)) pad_nil))) pad_nil)))))
theorem ok_behind (T : Tx K mg) : FnOk P w K mg base (L2.CX P w) 5 T.a_behind T.d_behind ["box", "miss"] (spD ⟨K, mg⟩ F_behind) :=
  fn_mk (k := 4) (keep := false) (body := b_behind) T.F_behind sc_behind rfl fun cdv A outer s H E hr => by
    have nd := sc_behind.nd
    have tk : Takes (cxOf (L2.CX P w) P w K mg base ["box", "miss"] "behind" (defScope s_behind) T.a_behind cdv A outer s H E) (fun cls d _ H' => E cls d H') := takes_of rfl rfl rfl rfl
    exact (pssd_one (psd_ret (pd_call (ok_times T) (hr.mono (by decide)) T.g_times T.F_times.kp T.b_times tk (pad_cons (pd_var (i := 1)) (pad_cons (pd_call (ok_ratio T) (hr.mono (by decide)) T.g_ratio T.F_ratio.kp T.b_ratio tk (pad_cons (pd_op od_sub (pd_ix ixd (pd_var (i := 0)) pd_int) (pd_ix ixd (pd_var (i := 0)) pd_int)) (pad_cons (pd_ix ixd (pd_var (i := 0)) pd_int) pad_nil))) pad_nil)))))
theorem ok_rate (T : Tx K mg) : FnOk P w K mg base (L2.CX P w) 5 T.a_rate T.d_rate ["boxes", "misses"] (spD ⟨K, mg⟩ F_rate) :=
  fn_mk (k := 4) (keep := false) (body := b_rate) T.F_rate sc_rate rfl fun cdv A outer s H E hr => by
    have nd := sc_rate.nd
    have tk : Takes (cxOf (L2.CX P w) P w K mg base ["boxes", "misses", "total", "k", "gain"] "rate" (defScope s_rate) T.a_rate cdv A outer s H E) (fun cls d _ H' => E cls d H') := takes_of rfl rfl rfl rfl
    exact (pssd_cons (psd_set (i := 2) nd (pd_tup (pad_cons pd_int (pad_cons pd_int pad_nil))))
      (pssd_cons (psd_for (passes_of rfl) rfl (pid_range1 T.z_range (pad_cons (pd_callB cd_len (by rfl) T.z_len (by decide +kernel) (pad_cons (pd_var (i := 0)) pad_nil)) pad_nil)) (pgd_name (i := 3) nd) (pssd_cons (psd_set (i := 4) nd (pd_call (ok_times T) (hr.mono (by decide)) T.g_times T.F_times.kp T.b_times tk (pad_cons (pd_call (ok_ratio T) (hr.mono (by decide)) T.g_ratio T.F_ratio.kp T.b_ratio tk (pad_cons (pd_ix ixd (pd_ix ixd (pd_var (i := 0)) (pd_var (i := 3))) pd_int) (pad_cons (pd_ix ixd (pd_ix ixd (pd_var (i := 0)) (pd_var (i := 3))) pd_int) pad_nil))) (pad_cons (pd_ix ixd (pd_var (i := 1)) (pd_var (i := 3))) pad_nil))))
      (pssd_one (psd_set (i := 2) nd (pd_call (ok_plus T) (hr.mono (by decide)) T.g_plus T.F_plus.kp T.b_plus tk (pad_cons (pd_var (i := 2)) (pad_cons (pd_call (ok_over T) (hr.mono (by decide)) T.g_over T.F_over.kp T.b_over tk (pad_cons (pd_tup (pad_cons (pd_ix ixd (pd_ix ixd (pd_var (i := 0)) (pd_var (i := 3))) pd_int) (pad_cons pd_int pad_nil))) (pad_cons (pd_var (i := 4)) pad_nil))) pad_nil)))))))
      (pssd_one (psd_ret (pd_var (i := 2))))))
theorem ok_greatest (T : Tx K mg) : FnOk P w K mg base (L2.CX P w) 3 T.a_greatest T.d_greatest ["fractions"] (spD ⟨K, mg⟩ F_greatest) :=
  fn_mk (k := 2) (keep := false) (body := b_greatest) T.F_greatest sc_greatest rfl fun cdv A outer s H E hr => by
    have nd := sc_greatest.nd
    have tk : Takes (cxOf (L2.CX P w) P w K mg base ["fractions", "best", "one"] "greatest" (defScope s_greatest) T.a_greatest cdv A outer s H E) (fun cls d _ H' => E cls d H') := takes_of rfl rfl rfl rfl
    exact (pssd_cons (psd_set (i := 1) nd (pd_ix ixd (pd_var (i := 0)) pd_int))
      (pssd_cons (psd_for (passes_of rfl) rfl (pid_list (pd_var (i := 0))) (pgd_name (i := 2) nd) (pssd_one (psd_if (ptd_truth (pd_call (ok_below T) (hr.mono (by decide)) T.g_below T.F_below.kp T.b_below tk (pad_cons (pd_var (i := 1)) (pad_cons (pd_var (i := 2)) pad_nil)))) (pssd_one (psd_set (i := 1) nd (pd_var (i := 2)))) pssd_nil)))
      (pssd_one (psd_ret (pd_var (i := 1))))))
theorem ok_climbed (T : Tx K mg) : FnOk P w K mg base (L2.CX P w) 6 T.a_climbed T.d_climbed ["boxes", "budget"] (spD ⟨K, mg⟩ F_climbed) :=
  fn_mk (k := 5) (keep := false) (body := b_climbed) T.F_climbed sc_climbed rfl fun cdv A outer s H E hr => by
    have nd := sc_climbed.nd
    have tk : Takes (cxOf (L2.CX P w) P w K mg base ["boxes", "budget", "counts", "misses", "level", "left", "goal", "price", "need", "k"] "climbed" (defScope s_climbed) T.a_climbed cdv A outer s H E) (fun cls d _ H' => E cls d H') := takes_of rfl rfl rfl rfl
    exact (pssd_cons (psd_set (i := 2) nd (pd_op (od_mul mk_C) (pd_lst mk_F (pad_cons pd_int pad_nil)) (pd_callB cd_len (by rfl) T.z_len (by decide +kernel) (pad_cons (pd_var (i := 0)) pad_nil))))
      (pssd_cons (psd_set (i := 3) nd (pd_op (od_mul mk_C) (pd_lst mk_F (pad_cons (pd_tup (pad_cons pd_int (pad_cons pd_int pad_nil))) pad_nil)) (pd_callB cd_len (by rfl) T.z_len (by decide +kernel) (pad_cons (pd_var (i := 0)) pad_nil))))
      (pssd_cons (psd_set (i := 4) nd (pd_tup (pad_cons pd_int (pad_cons pd_int pad_nil))))
      (pssd_cons (psd_set (i := 5) nd (pd_tup (pad_cons (pd_var (i := 1)) (pad_cons pd_int pad_nil))))
      (pssd_cons (psd_while (passes_of rfl) (ptd_cmp (od_ne hr.units) (pd_var (i := 4)) (pd_tup (pad_cons pd_int (pad_cons pd_int pad_nil)))) (pssd_cons (psd_set (i := 6) nd (pd_call (ok_greatest T) (hr.mono (by decide)) T.g_greatest T.F_greatest.kp T.b_greatest tk (pad_cons (pd_lc (own := [("k", 9)]) mk_F (tg_N (by decide)) rfl nd (pid_range1 T.z_range (pad_cons (pd_callB cd_len (by rfl) T.z_len (by decide +kernel) (pad_cons (pd_var (i := 0)) pad_nil)) pad_nil)) (blkOk_by (N := ["boxes", "budget", "counts", "misses", "level", "left", "goal", "price", "need", "k"]) (sc := defScope s_climbed) (by decide +kernel)) (fun _ _ _ _ _ => pg_name (i := 9) nd rfl (Or.inl rfl)) (fun _ _ _ _ _ => (pd_call (ok_behind T) (hr.mono (by decide)) T.g_behind T.F_behind.kp T.b_behind takes0 (pad_cons (pd_ix ixd (pd_var (i := 0)) (pd_var (i := 9))) (pad_cons (pd_ix ixd (pd_var (i := 3)) (pd_var (i := 9))) pad_nil))))) pad_nil)))
      (pssd_cons (psd_set (i := 7) nd (pd_call (ok_rate T) (hr.mono (by decide)) T.g_rate T.F_rate.kp T.b_rate tk (pad_cons (pd_var (i := 0)) (pad_cons (pd_var (i := 3)) pad_nil))))
      (pssd_cons (psd_set (i := 8) nd (pd_call (ok_times T) (hr.mono (by decide)) T.g_times T.F_times.kp T.b_times tk (pad_cons (pd_call (ok_minus T) (hr.mono (by decide)) T.g_minus T.F_minus.kp T.b_minus tk (pad_cons (pd_var (i := 4)) (pad_cons (pd_var (i := 6)) pad_nil))) (pad_cons (pd_var (i := 7)) pad_nil))))
      (pssd_cons (psd_if (ptd_truth (pd_call (ok_below T) (hr.mono (by decide)) T.g_below T.F_below.kp T.b_below tk (pad_cons (pd_var (i := 5)) (pad_cons (pd_var (i := 8)) pad_nil)))) (pssd_one (psd_ret (pd_dfz (pd_tup (pad_cons (pd_call (ok_minus T) (hr.mono (by decide)) T.g_minus T.F_minus.kp T.b_minus tk (pad_cons (pd_tup (pad_cons pd_int (pad_cons pd_int pad_nil))) (pad_cons (pd_call (ok_minus T) (hr.mono (by decide)) T.g_minus T.F_minus.kp T.b_minus tk (pad_cons (pd_var (i := 4)) (pad_cons (pd_call (ok_over T) (hr.mono (by decide)) T.g_over T.F_over.kp T.b_over tk (pad_cons (pd_var (i := 5)) (pad_cons (pd_var (i := 7)) pad_nil))) pad_nil))) pad_nil))) (pad_cons (pd_var (i := 2)) pad_nil)))))) pssd_nil)
      (pssd_cons (psd_set (i := 4) nd (pd_var (i := 6)))
      (pssd_cons (psd_set (i := 5) nd (pd_call (ok_minus T) (hr.mono (by decide)) T.g_minus T.F_minus.kp T.b_minus tk (pad_cons (pd_var (i := 5)) (pad_cons (pd_var (i := 8)) pad_nil))))
      (pssd_one (psd_for (passes_of rfl) rfl (pid_range1 T.z_range (pad_cons (pd_callB cd_len (by rfl) T.z_len (by decide +kernel) (pad_cons (pd_var (i := 0)) pad_nil)) pad_nil)) (pgd_name (i := 9) nd) (pssd_one (psd_if (ptd_cmp (od_eq hr.units) (pd_call (ok_behind T) (hr.mono (by decide)) T.g_behind T.F_behind.kp T.b_behind tk (pad_cons (pd_ix ixd (pd_var (i := 0)) (pd_var (i := 9))) (pad_cons (pd_ix ixd (pd_var (i := 3)) (pd_var (i := 9))) pad_nil))) (pd_var (i := 6))) (pssd_cons (psd_augsub id_add (pd_var (i := 2)) (pd_var (i := 9)) pd_int)
      (pssd_one (psd_sub sd_list (pd_var (i := 6)) (pd_var (i := 3)) (pd_var (i := 9))))) pssd_nil)))))))))))
      (pssd_one (psd_ret (pd_dfz (pd_tup (pad_cons (pd_tup (pad_cons pd_int (pad_cons pd_int pad_nil))) (pad_cons (pd_var (i := 2)) pad_nil)))))))))))
theorem ok_ceiling (T : Tx K mg) : FnOk P w K mg base (L2.CX P w) 2 T.a_ceiling T.d_ceiling ["fraction"] (spD ⟨K, mg⟩ F_ceiling) :=
  fn_mk (k := 1) (keep := false) (body := b_ceiling) T.F_ceiling sc_ceiling rfl fun cdv A outer s H E hr => by
    have nd := sc_ceiling.nd
    have tk : Takes (cxOf (L2.CX P w) P w K mg base ["fraction"] "ceiling" (defScope s_ceiling) T.a_ceiling cdv A outer s H E) (fun cls d _ H' => E cls d H') := takes_of rfl rfl rfl rfl
    exact (pssd_one (psd_ret (pd_op od_sub pd_int (pd_op od_fdiv (pd_op od_sub pd_int (pd_ix ixd (pd_var (i := 0)) pd_int)) (pd_ix ixd (pd_var (i := 0)) pd_int)))))
theorem ok_many_between (T : Tx K mg) : FnOk P w K mg base (L2.CX P w) 5 T.a_many_between T.d_many_between ["one", "other", "u"] (spD ⟨K, mg⟩ F_many_between) :=
  fn_mk (k := 4) (keep := false) (body := b_many_between) T.F_many_between sc_many_between rfl fun cdv A outer s H E hr => by
    have nd := sc_many_between.nd
    have tk : Takes (cxOf (L2.CX P w) P w K mg base ["one", "other", "u"] "many_between" (defScope s_many_between) T.a_many_between cdv A outer s H E) (fun cls d _ H' => E cls d H') := takes_of rfl rfl rfl rfl
    exact (pssd_one (psd_ret (pd_op od_sub (pd_call (ok_ceiling T) (hr.mono (by decide)) T.g_ceiling T.F_ceiling.kp T.b_ceiling tk (pad_cons (pd_call (ok_minus T) (hr.mono (by decide)) T.g_minus T.F_minus.kp T.b_minus tk (pad_cons (pd_var (i := 1)) (pad_cons (pd_var (i := 2)) pad_nil))) pad_nil)) (pd_call (ok_ceiling T) (hr.mono (by decide)) T.g_ceiling T.F_ceiling.kp T.b_ceiling tk (pad_cons (pd_call (ok_minus T) (hr.mono (by decide)) T.g_minus T.F_minus.kp T.b_minus tk (pad_cons (pd_var (i := 0)) (pad_cons (pd_var (i := 2)) pad_nil))) pad_nil)))))
theorem ok_rest_of (T : Tx K mg) : FnOk P w K mg base (L2.CX P w) 2 T.a_rest_of T.d_rest_of ["fraction"] (spD ⟨K, mg⟩ F_rest_of) :=
  fn_mk (k := 1) (keep := false) (body := b_rest_of) T.F_rest_of sc_rest_of rfl fun cdv A outer s H E hr => by
    have nd := sc_rest_of.nd
    have tk : Takes (cxOf (L2.CX P w) P w K mg base ["fraction"] "rest_of" (defScope s_rest_of) T.a_rest_of cdv A outer s H E) (fun cls d _ H' => E cls d H') := takes_of rfl rfl rfl rfl
    exact (pssd_one (psd_ret (pd_tup (pad_cons (pd_op od_mod (pd_ix ixd (pd_var (i := 0)) pd_int) (pd_ix ixd (pd_var (i := 0)) pd_int)) (pad_cons (pd_ix ixd (pd_var (i := 0)) pd_int) pad_nil)))))
theorem ok_mix_by (T : Tx K mg) : FnOk P w K mg base (L2.CX P w) 6 T.a_mix_by T.d_mix_by ["looks"] (spD ⟨K, mg⟩ F_mix_by) :=
  fn_mk (k := 5) (keep := false) (body := b_mix_by) T.F_mix_by sc_mix_by rfl fun cdv A outer s H E hr => by
    have nd := sc_mix_by.nd
    have tk : Takes (cxOf (L2.CX P w) P w K mg base ["looks", "ends", "one", "starts", "end", "bottom", "tops", "found_mix", "k", "top", "low", "u", "plan", "i"] "mix_by" (defScope s_mix_by) T.a_mix_by cdv A outer s H E) (fun cls d _ H' => E cls d H') := takes_of rfl rfl rfl rfl
    exact (pssd_cons (psd_set (i := 1) nd (pd_lst mk_C (pad_cons (pd_tup (pad_cons pd_int (pad_cons pd_int pad_nil))) pad_nil)))
      (pssd_cons (psd_frz (i := 1) (psd_for (passes_of rfl) rfl (pid_list (pd_var (i := 0))) (pgd_name (i := 2) nd) (pssd_one (psd_expr (pd_bm PySem.F.plainAttrs_list PySem.F.slot_list_append PySem.F.type_list_append md_append (pd_var (i := 1)) (pad_cons (pd_call (ok_plus T) (hr.mono (by decide)) T.g_plus T.F_plus.kp T.b_plus tk (pad_cons (pd_ix ixd (pd_var (i := 1)) (pd_un ud_neg pd_int)) (pad_cons (pd_var (i := 2)) pad_nil))) pad_nil))))))
      (pssd_cons (psd_set (i := 3) nd (pd_lst mk_C pad_nil))
      (pssd_cons (psd_frz (i := 3) (psd_for (passes_of rfl) rfl (pid_list (pd_var (i := 1))) (pgd_name (i := 4) nd) (pssd_one (psd_if (ptd_cmp (od_notInD (units65 hr)) (pd_call (ok_rest_of T) (hr.mono (by decide)) T.g_rest_of T.F_rest_of.kp T.b_rest_of tk (pad_cons (pd_var (i := 4)) pad_nil)) (pd_var (i := 3))) (pssd_one (psd_expr (pd_bm PySem.F.plainAttrs_list PySem.F.slot_list_append PySem.F.type_list_append md_append (pd_var (i := 3)) (pad_cons (pd_call (ok_rest_of T) (hr.mono (by decide)) T.g_rest_of T.F_rest_of.kp T.b_rest_of tk (pad_cons (pd_var (i := 4)) pad_nil)) pad_nil)))) pssd_nil))))
      (pssd_cons (psd_set (i := 5) nd pd_int)
      (pssd_cons (psd_for (passes_of rfl) rfl (pid_list (pd_var (i := 3))) (pgd_tup rfl (pgsd_cons (pgd_name (i := 9) nd) (pgsd_cons (pgd_name (i := 10) nd) pgsd_nil))) (pssd_one (psd_set (i := 5) nd (pd_op od_fdiv (pd_op (od_mul mk_F) (pd_var (i := 5)) (pd_var (i := 10))) (pd_call (ok_divisor T) (hr.mono (by decide)) T.g_divisor T.F_divisor.kp T.b_divisor tk (pad_cons (pd_var (i := 5)) (pad_cons (pd_var (i := 10)) pad_nil)))))))
      (pssd_cons (psd_set (i := 6) nd (pd_callB (cd_sorted mk_F) (by rfl) T.z_sorted (by decide +kernel) (pad_cons (pd_lc (own := [("top", 9), ("low", 10)]) mk_F (tg_T2 (by decide) (by decide)) rfl nd (pid_list (pd_var (i := 3))) (blkOk_by (N := ["looks", "ends", "one", "starts", "end", "bottom", "tops", "found_mix", "k", "top", "low", "u", "plan", "i"]) (sc := defScope s_mix_by) (by decide +kernel)) (fun _ _ _ _ _ => pg_tup rfl (pgs_cons (pg_name (i := 9) nd rfl (Or.inl rfl)) (pgs_cons (pg_name (i := 10) nd rfl (Or.inl rfl)) pgs_nil))) (fun _ _ _ _ _ => (pd_op (od_mul mk_F) (pd_var (i := 9)) (pd_op od_fdiv (pd_var (i := 5)) (pd_var (i := 10)))))) pad_nil)))
      (pssd_cons (psd_set (i := 7) nd (pd_lst mk_C pad_nil))
      (pssd_cons (psd_frz (i := 7) (psd_for (passes_of rfl) rfl (pid_range1 T.z_range (pad_cons (pd_callB cd_len (by rfl) T.z_len (by decide +kernel) (pad_cons (pd_var (i := 6)) pad_nil)) pad_nil)) (pgd_name (i := 8) nd) (pssd_cons (psd_set (i := 11) nd (pd_call (ok_ratio T) (hr.mono (by decide)) T.g_ratio T.F_ratio.kp T.b_ratio tk (pad_cons (pd_ix ixd (pd_var (i := 6)) (pd_var (i := 8))) (pad_cons (pd_var (i := 5)) pad_nil))))
      (pssd_cons (psd_setLc (i := 12) (own := [("i", 13)]) mk_F (tg_N (by decide)) rfl nd (sw_true rfl rfl rfl (by decide +kernel)) (pid_range1 T.z_range (pad_cons (pd_callB cd_len (by rfl) T.z_len (by decide +kernel) (pad_cons (pd_var (i := 0)) pad_nil)) pad_nil)) (blkOk_by (N := ["looks", "ends", "one", "starts", "end", "bottom", "tops", "found_mix", "k", "top", "low", "u", "plan", "i"]) (sc := defScope s_mix_by) (by decide +kernel)) (fun _ _ _ _ _ => pg_name (i := 13) nd rfl (Or.inl rfl)) (fun _ _ _ _ _ => (pd_call (ok_many_between T) (hr.mono (by decide)) T.g_many_between T.F_many_between.kp T.b_many_between takes0 (pad_cons (pd_ix ixd (pd_var (i := 1)) (pd_var (i := 13))) (pad_cons (pd_ix ixd (pd_var (i := 1)) (pd_op (od_add mk_F) (pd_var (i := 13)) pd_int)) (pad_cons (pd_var (i := 11)) pad_nil))))))
      (pssd_one (psd_expr (pd_bm PySem.F.plainAttrs_list PySem.F.slot_list_append PySem.F.type_list_append md_append (pd_var (i := 7)) (pad_cons (pd_tup (pad_cons (pd_var (i := 12)) (pad_cons (pd_op od_sub (pd_ix ixd (pd_op (od_add mk_F) (pd_var (i := 6)) (pd_lst mk_F (pad_cons (pd_var (i := 5)) pad_nil))) (pd_op (od_add mk_F) (pd_var (i := 8)) pd_int)) (pd_ix ixd (pd_var (i := 6)) (pd_var (i := 8)))) pad_nil))) pad_nil))))))))
      (pssd_one (psd_ret (pd_var (i := 7)))))))))))))
theorem ok_looks_for (T : Tx K mg) : FnOk P w K mg base (L2.CX P w) 6 T.a_looks_for T.d_looks_for ["boxes", "counts", "worth"] (spD ⟨K, mg⟩ F_looks_for) :=
  fn_mk (k := 5) (keep := false) (body := b_looks_for) T.F_looks_for sc_looks_for rfl fun cdv A outer s H E hr => by
    have nd := sc_looks_for.nd
    have tk : Takes (cxOf (L2.CX P w) P w K mg base ["boxes", "counts", "worth", "looks", "k", "more"] "looks_for" (defScope s_looks_for) T.a_looks_for cdv A outer s H E) (fun cls d _ H' => E cls d H') := takes_of rfl rfl rfl rfl
    exact (pssd_cons (psd_set (i := 3) nd (pd_lst mk_C pad_nil))
      (pssd_cons (psd_frz (i := 3) (psd_for (passes_of rfl) rfl (pid_range1 T.z_range (pad_cons (pd_callB cd_len (by rfl) T.z_len (by decide +kernel) (pad_cons (pd_var (i := 0)) pad_nil)) pad_nil)) (pgd_name (i := 4) nd) (pssd_cons (psd_set (i := 5) nd (pd_call (ok_minus T) (hr.mono (by decide)) T.g_minus T.F_minus.kp T.b_minus tk (pad_cons (pd_var (i := 2)) (pad_cons (pd_call (ok_finding T) (hr.mono (by decide)) T.g_finding T.F_finding.kp T.b_finding tk (pad_cons (pd_ix ixd (pd_var (i := 0)) (pd_var (i := 4))) (pad_cons (pd_ix ixd (pd_var (i := 1)) (pd_var (i := 4))) pad_nil))) pad_nil))))
      (pssd_one (psd_if (ptd_cmp (od_eq hr.units) (pd_var (i := 5)) (pd_tup (pad_cons pd_int (pad_cons pd_int pad_nil)))) (pssd_one (psd_expr (pd_bm PySem.F.plainAttrs_list PySem.F.slot_list_append PySem.F.type_list_append md_append (pd_var (i := 3)) (pad_cons (pd_tup (pad_cons (pd_ix ixd (pd_var (i := 1)) (pd_var (i := 4))) (pad_cons pd_int pad_nil))) pad_nil)))) (pssd_one (psd_expr (pd_bm PySem.F.plainAttrs_list PySem.F.slot_list_append PySem.F.type_list_append md_append (pd_var (i := 3)) (pad_cons (pd_call (ok_plus T) (hr.mono (by decide)) T.g_plus T.F_plus.kp T.b_plus tk (pad_cons (pd_tup (pad_cons (pd_ix ixd (pd_var (i := 1)) (pd_var (i := 4))) (pad_cons pd_int pad_nil))) (pad_cons (pd_call (ok_over T) (hr.mono (by decide)) T.g_over T.F_over.kp T.b_over tk (pad_cons (pd_var (i := 5)) (pad_cons (pd_call (ok_mark T) (hr.mono (by decide)) T.g_mark T.F_mark.kp T.b_mark tk (pad_cons (pd_ix ixd (pd_var (i := 0)) (pd_var (i := 4))) (pad_cons (pd_ix ixd (pd_var (i := 1)) (pd_var (i := 4))) pad_nil))) pad_nil))) pad_nil))) pad_nil)))))))))
      (pssd_one (psd_ret (pd_var (i := 3))))))
theorem ok_paper_for (T : Tx K mg) : FnOk P w K mg base (L2.CX P w) 6 T.a_paper_for T.d_paper_for ["boxes", "counts", "worth"] (spD ⟨K, mg⟩ F_paper_for) :=
  fn_mk (k := 5) (keep := false) (body := b_paper_for) T.F_paper_for sc_paper_for rfl fun cdv A outer s H E hr => by
    have nd := sc_paper_for.nd
    have tk : Takes (cxOf (L2.CX P w) P w K mg base ["boxes", "counts", "worth", "shares", "bottom", "weights", "part", "weight", "top", "low", "k"] "paper_for" (defScope s_paper_for) T.a_paper_for cdv A outer s H E) (fun cls d _ H' => E cls d H') := takes_of rfl rfl rfl rfl
    exact (pssd_cons (psd_if (ptd_cmp (od_eq hr.units) (pd_var (i := 2)) (pd_tup (pad_cons pd_int (pad_cons pd_int pad_nil)))) (pssd_one (psd_ret (pd_tup (pad_cons (pd_op (od_mul mk_F) (pd_lst mk_F (pad_cons pd_int pad_nil)) (pd_callB cd_len (by rfl) T.z_len (by decide +kernel) (pad_cons (pd_var (i := 0)) pad_nil))) (pad_cons (pd_tup (pad_cons pd_int (pad_cons pd_int pad_nil))) (pad_cons (pd_var (i := 1)) pad_nil)))))) pssd_nil)
      (pssd_cons (psd_setLc (i := 3) (own := [("k", 10)]) mk_F (tg_N (by decide)) rfl nd (sw_true rfl rfl rfl (by decide +kernel)) (pid_range1 T.z_range (pad_cons (pd_callB cd_len (by rfl) T.z_len (by decide +kernel) (pad_cons (pd_var (i := 0)) pad_nil)) pad_nil)) (blkOk_by (N := ["boxes", "counts", "worth", "shares", "bottom", "weights", "part", "weight", "top", "low", "k"]) (sc := defScope s_paper_for) (by decide +kernel)) (fun _ _ _ _ _ => pg_name (i := 10) nd rfl (Or.inl rfl)) (fun _ _ _ _ _ => (pd_call (ok_over T) (hr.mono (by decide)) T.g_over T.F_over.kp T.b_over takes0 (pad_cons (pd_tup (pad_cons (pd_ix ixd (pd_ix ixd (pd_var (i := 0)) (pd_var (i := 10))) pd_int) (pad_cons pd_int pad_nil))) (pad_cons (pd_call (ok_mark T) (hr.mono (by decide)) T.g_mark T.F_mark.kp T.b_mark takes0 (pad_cons (pd_ix ixd (pd_var (i := 0)) (pd_var (i := 10))) (pad_cons (pd_ix ixd (pd_var (i := 1)) (pd_var (i := 10))) pad_nil))) pad_nil)))))
      (pssd_cons (psd_set (i := 4) nd pd_int)
      (pssd_cons (psd_for (passes_of rfl) rfl (pid_list (pd_var (i := 3))) (pgd_tup rfl (pgsd_cons (pgd_name (i := 8) nd) (pgsd_cons (pgd_name (i := 9) nd) pgsd_nil))) (pssd_one (psd_set (i := 4) nd (pd_op od_fdiv (pd_op (od_mul mk_F) (pd_var (i := 4)) (pd_var (i := 9))) (pd_call (ok_divisor T) (hr.mono (by decide)) T.g_divisor T.F_divisor.kp T.b_divisor tk (pad_cons (pd_var (i := 4)) (pad_cons (pd_var (i := 9)) pad_nil)))))))
      (pssd_cons (psd_setLc (i := 5) (own := [("top", 8), ("low", 9)]) mk_F (tg_T2 (by decide) (by decide)) rfl nd (sw_true rfl rfl rfl (by decide +kernel)) (pid_list (pd_var (i := 3))) (blkOk_by (N := ["boxes", "counts", "worth", "shares", "bottom", "weights", "part", "weight", "top", "low", "k"]) (sc := defScope s_paper_for) (by decide +kernel)) (fun _ _ _ _ _ => pg_tup rfl (pgs_cons (pg_name (i := 8) nd rfl (Or.inl rfl)) (pgs_cons (pg_name (i := 9) nd rfl (Or.inl rfl)) pgs_nil))) (fun _ _ _ _ _ => (pd_op (od_mul mk_F) (pd_var (i := 8)) (pd_op od_fdiv (pd_var (i := 4)) (pd_var (i := 9))))))
      (pssd_cons (psd_set (i := 6) nd (pd_var (i := 4)))
      (pssd_cons (psd_for (passes_of rfl) rfl (pid_list (pd_var (i := 5))) (pgd_name (i := 7) nd) (pssd_one (psd_set (i := 6) nd (pd_call (ok_divisor T) (hr.mono (by decide)) T.g_divisor T.F_divisor.kp T.b_divisor tk (pad_cons (pd_var (i := 6)) (pad_cons (pd_var (i := 7)) pad_nil))))))
      (pssd_one (psd_ret (pd_tup (pad_cons (pd_lc (own := [("weight", 7)]) mk_F (tg_N (by decide)) rfl nd (pid_list (pd_var (i := 5))) (blkOk_by (N := ["boxes", "counts", "worth", "shares", "bottom", "weights", "part", "weight", "top", "low", "k"]) (sc := defScope s_paper_for) (by decide +kernel)) (fun _ _ _ _ _ => pg_name (i := 7) nd rfl (Or.inl rfl)) (fun _ _ _ _ _ => (pd_op od_fdiv (pd_var (i := 7)) (pd_var (i := 6))))) (pad_cons (pd_call (ok_ratio T) (hr.mono (by decide)) T.g_ratio T.F_ratio.kp T.b_ratio tk (pad_cons (pd_var (i := 4)) (pad_cons (pd_var (i := 6)) pad_nil))) (pad_cons (pd_var (i := 1)) pad_nil)))))))))))))
theorem ok_budget_worth (T : Tx K mg) : FnOk P w K mg base (L2.CX P w) 7 T.a_budget_worth T.d_budget_worth ["boxes", "budget"] (spD ⟨K, mg⟩ F_budget_worth) :=
  fn_mk (k := 6) (keep := false) (body := b_budget_worth) T.F_budget_worth sc_budget_worth rfl fun cdv A outer s H E hr => by
    have nd := sc_budget_worth.nd
    have tk : Takes (cxOf (L2.CX P w) P w K mg base ["boxes", "budget", "worth", "counts"] "budget_worth" (defScope s_budget_worth) T.a_budget_worth cdv A outer s H E) (fun cls d _ H' => E cls d H') := takes_of rfl rfl rfl rfl
    exact (pssd_cons (psd_expr (pd_call (ok_must_be_boxes T) (hr.mono (by decide)) T.g_must_be_boxes T.F_must_be_boxes.kp T.b_must_be_boxes tk (pad_cons (pd_var (i := 0)) pad_nil)))
      (pssd_cons (psd_expr (pd_call (ok_must_be_budget T) (hr.mono (by decide)) T.g_must_be_budget T.F_must_be_budget.kp T.b_must_be_budget tk (pad_cons (pd_var (i := 1)) pad_nil)))
      (pssd_cons (psd_asg (pd_call (ok_climbed T) (hr.mono (by decide)) T.g_climbed T.F_climbed.kp T.b_climbed tk (pad_cons (pd_var (i := 0)) (pad_cons (pd_var (i := 1)) pad_nil))) (pgd_tup rfl (pgsd_cons (pgd_name (i := 2) nd) (pgsd_cons (pgd_name (i := 3) nd) pgsd_nil))))
      (pssd_one (psd_ret (pd_tup (pad_cons (pd_var (i := 2)) (pad_cons (pd_call (ok_mix_by T) (hr.mono (by decide)) T.g_mix_by T.F_mix_by.kp T.b_mix_by tk (pad_cons (pd_call (ok_looks_for T) (hr.mono (by decide)) T.g_looks_for T.F_looks_for.kp T.b_looks_for tk (pad_cons (pd_var (i := 0)) (pad_cons (pd_var (i := 3)) (pad_cons (pd_var (i := 2)) pad_nil)))) pad_nil)) (pad_cons (pd_call (ok_paper_for T) (hr.mono (by decide)) T.g_paper_for T.F_paper_for.kp T.b_paper_for tk (pad_cons (pd_var (i := 0)) (pad_cons (pd_var (i := 3)) (pad_cons (pd_var (i := 2)) pad_nil)))) pad_nil)))))))))
theorem ok__law_mix (T : Tx K mg) : FnOk P w K mg base (L2.CX P w) 2 T.a__law_mix T.d__law_mix ["_law_number", "_law_k"] (spD ⟨K, mg⟩ F__law_mix) :=
  fn_mk (k := 1) (keep := false) (body := b__law_mix) T.F__law_mix sc__law_mix rfl fun cdv A outer s H E hr => by
    have nd := sc__law_mix.nd
    have tk : Takes (cxOf (L2.CX P w) P w K mg base ["_law_number", "_law_k", "_law_mixed"] "_law_mix" (defScope s__law_mix) T.a__law_mix cdv A outer s H E) (fun cls d _ H' => E cls d H') := takes_of rfl rfl rfl rfl
    exact (pssd_cons (psd_set (i := 2) nd (pd_op od_mod (pd_op (od_mul mk_F) (pd_op (od_add mk_F) (pd_op (od_add mk_F) (pd_op (od_mul mk_F) (pd_var (i := 0)) (pd_var (i := 0))) (pd_op (od_mul mk_F) (pd_var (i := 1)) (pd_var (i := 0)))) (pd_op (od_mul mk_F) (pd_op (od_mul mk_F) pd_int (pd_var (i := 1))) (pd_var (i := 1)))) pd_int) pd_int))
      (pssd_one (psd_ret (pd_op od_mod (pd_op (od_mul mk_F) (pd_var (i := 2)) (pd_var (i := 2))) pd_int))))
theorem ok__law_cell_at (T : Tx K mg) : FnOk P w K mg base (L2.CX P w) 2 T.a__law_cell_at T.d__law_cell_at ["_law_script", "_law_k"] (spD ⟨K, mg⟩ F__law_cell_at) :=
  fn_mk (k := 1) (keep := false) (body := b__law_cell_at) T.F__law_cell_at sc__law_cell_at rfl fun cdv A outer s H E hr => by
    have nd := sc__law_cell_at.nd
    have tk : Takes (cxOf (L2.CX P w) P w K mg base ["_law_script", "_law_k"] "_law_cell_at" (defScope s__law_cell_at) T.a__law_cell_at cdv A outer s H E) (fun cls d _ H' => E cls d H') := takes_of rfl rfl rfl rfl
    exact (pssd_cons (psd_if (ptd_cmp od_lt (pd_var (i := 1)) (pd_callB cd_len (by rfl) T.z_len (by decide +kernel) (pad_cons (pd_var (i := 0)) pad_nil))) (pssd_one (psd_ret (pd_ix ixd (pd_var (i := 0)) (pd_var (i := 1))))) pssd_nil)
      (pssd_one (psd_ret pd_int)))
theorem ok__law_left (T : Tx K mg) : FnOk P w K mg base (L2.CX P w) 3 T.a__law_left T.d__law_left ["_law_script", "_law_k"] (spD ⟨K, mg⟩ F__law_left) :=
  fn_mk (k := 2) (keep := true) (body := b__law_left) T.F__law_left sc__law_left rfl fun cdv A outer s H E hr => by
    have nd := sc__law_left.nd
    have tk : Takes (cxOf (L2.CX P w) P w K mg base ["_law_script", "_law_k", "_law_cell"] "_law_left" (defScope s__law_left) T.a__law_left cdv A outer s H E) (fun cls d _ H' => E cls d H') := takes_of rfl rfl rfl rfl
    exact (pssd_cons (psd_set (i := 2) nd (pd_call (ok__law_cell_at T) (hr.mono (by decide)) T.g__law_cell_at T.F__law_cell_at.kp T.b__law_cell_at tk (pad_cons (pd_var (i := 0)) (pad_cons (pd_var (i := 1)) pad_nil))))
      (pssd_cons (psd_if (ptd_cmp od_lt (pd_var (i := 2)) (pd_op od_pow pd_int pd_int)) (pssd_one (psd_ret (pd_lst mk_C (pad_cons (pd_var (i := 2)) (pad_cons pd_int (pad_cons pd_int pad_nil)))))) pssd_nil)
      (pssd_one (psd_ret (pd_lst mk_C (pad_cons (pd_op od_sub (pd_var (i := 2)) (pd_op od_pow pd_int pd_int)) (pad_cons pd_int (pad_cons pd_int pad_nil))))))))
theorem ok__law_draw (T : Tx K mg) : FnOk P w K mg base (L2.CX P w) 3 T.a__law_draw T.d__law_draw ["_law_left_here", "_law_base"] (spD ⟨K, mg⟩ F__law_draw) :=
  fn_mk (k := 2) (keep := false) (body := b__law_draw) T.F__law_draw sc__law_draw rfl fun cdv A outer s H E hr => by
    have nd := sc__law_draw.nd
    have tk : Takes (cxOf (L2.CX P w) P w K mg base ["_law_left_here", "_law_base", "_law_digit", "_law_mixed"] "_law_draw" (defScope s__law_draw) T.a__law_draw cdv A outer s H E) (fun cls d _ H' => E cls d H') := takes_of rfl rfl rfl rfl
    exact (pssd_cons (psd_sub sd_list (pd_op (od_add mk_F) (pd_ix ixd (pd_var (i := 0)) pd_int) pd_int) (pd_var (i := 0)) pd_int)
      (pssd_cons (psd_if (ptd_cmp (od_eq hr.units) (pd_ix ixd (pd_var (i := 0)) pd_int) pd_int) (pssd_cons (psd_set (i := 3) nd (pd_call (ok__law_mix T) (hr.mono (by decide)) T.g__law_mix T.F__law_mix.kp T.b__law_mix tk (pad_cons (pd_ix ixd (pd_var (i := 0)) pd_int) (pad_cons (pd_ix ixd (pd_var (i := 0)) pd_int) pad_nil))))
      (pssd_one (psd_ret (pd_op od_mod (pd_op od_mod (pd_op (od_mul mk_F) (pd_var (i := 3)) (pd_op (od_add mk_F) (pd_var (i := 3)) pd_int)) pd_int) (pd_var (i := 1)))))) pssd_nil)
      (pssd_cons (psd_set (i := 2) nd (pd_op od_mod (pd_ix ixd (pd_var (i := 0)) pd_int) (pd_var (i := 1))))
      (pssd_cons (psd_sub sd_list (pd_op od_fdiv (pd_ix ixd (pd_var (i := 0)) pd_int) (pd_var (i := 1))) (pd_var (i := 0)) pd_int)
      (pssd_one (psd_ret (pd_var (i := 2))))))))
theorem ok__law_boxes (T : Tx K mg) : FnOk P w K mg base (L2.CX P w) 4 T.a__law_boxes T.d__law_boxes ["_law_left_here", "_law_most"] (spD ⟨K, mg⟩ F__law_boxes) :=
  fn_mk (k := 3) (keep := false) (body := b__law_boxes) T.F__law_boxes sc__law_boxes rfl fun cdv A outer s H E hr => by
    have nd := sc__law_boxes.nd
    have tk : Takes (cxOf (L2.CX P w) P w K mg base ["_law_left_here", "_law_most", "_law_found", "_law_k", "_law_cost", "_law_of"] "_law_boxes" (defScope s__law_boxes) T.a__law_boxes cdv A outer s H E) (fun cls d _ H' => E cls d H') := takes_of rfl rfl rfl rfl
    exact (pssd_cons (psd_set (i := 2) nd (pd_lst mk_C pad_nil))
      (pssd_cons (psd_frz (i := 2) (psd_for (passes_of rfl) rfl (pid_range1 T.z_range (pad_cons (pd_op (od_add mk_F) pd_int (pd_call (ok__law_draw T) (hr.mono (by decide)) T.g__law_draw T.F__law_draw.kp T.b__law_draw tk (pad_cons (pd_var (i := 0)) (pad_cons (pd_var (i := 1)) pad_nil)))) pad_nil)) (pgd_name (i := 3) nd) (pssd_cons (psd_set (i := 4) nd (pd_op (od_add mk_F) pd_int (pd_call (ok__law_draw T) (hr.mono (by decide)) T.g__law_draw T.F__law_draw.kp T.b__law_draw tk (pad_cons (pd_var (i := 0)) (pad_cons (pd_ix ixd (pd_lst mk_F (pad_cons pd_int (pad_cons pd_int (pad_cons pd_int pad_nil)))) (pd_call (ok__law_draw T) (hr.mono (by decide)) T.g__law_draw T.F__law_draw.kp T.b__law_draw tk (pad_cons (pd_var (i := 0)) (pad_cons pd_int pad_nil)))) pad_nil)))))
      (pssd_cons (psd_set (i := 5) nd (pd_op (od_add mk_F) pd_int (pd_call (ok__law_draw T) (hr.mono (by decide)) T.g__law_draw T.F__law_draw.kp T.b__law_draw tk (pad_cons (pd_var (i := 0)) (pad_cons (pd_ix ixd (pd_lst mk_F (pad_cons pd_int (pad_cons pd_int pad_nil))) (pd_call (ok__law_draw T) (hr.mono (by decide)) T.g__law_draw T.F__law_draw.kp T.b__law_draw tk (pad_cons (pd_var (i := 0)) (pad_cons pd_int pad_nil)))) pad_nil)))))
      (pssd_one (psd_expr (pd_bm PySem.F.plainAttrs_list PySem.F.slot_list_append PySem.F.type_list_append md_append (pd_var (i := 2)) (pad_cons (pd_tup (pad_cons (pd_var (i := 4)) (pad_cons (pd_op (od_add mk_F) pd_int (pd_call (ok__law_draw T) (hr.mono (by decide)) T.g__law_draw T.F__law_draw.kp T.b__law_draw tk (pad_cons (pd_var (i := 0)) (pad_cons (pd_var (i := 5)) pad_nil)))) (pad_cons (pd_var (i := 5)) pad_nil)))) pad_nil))))))))
      (pssd_one (psd_ret (pd_var (i := 2))))))
theorem ok__law_whole (T : Tx K mg) : FnOk P w K mg base (L2.CX P w) 2 T.a__law_whole T.d__law_whole ["_law_thing"] (spD ⟨K, mg⟩ F__law_whole) :=
  fn_mk (k := 1) (keep := false) (body := b__law_whole) T.F__law_whole sc__law_whole rfl fun cdv A outer s H E hr => by
    have nd := sc__law_whole.nd
    have tk : Takes (cxOf (L2.CX P w) P w K mg base ["_law_thing"] "_law_whole" (defScope s__law_whole) T.a__law_whole cdv A outer s H E) (fun cls d _ H' => E cls d H') := takes_of rfl rfl rfl rfl
    exact (pssd_one (psd_ret (pd_and (pd_callB cd_isi (by rfl) T.z_isinstance (by decide +kernel) (pad_cons (pd_var (i := 0)) (pad_cons (pd_ty T.z_int (by decide +kernel)) pad_nil))) (pd_one (pd_not (pd_callB cd_isi (by rfl) T.z_isinstance (by decide +kernel) (pad_cons (pd_var (i := 0)) (pad_cons (pd_ty T.z_bool (by decide +kernel)) pad_nil))))))))
theorem ok__law_lowest (T : Tx K mg) : FnOk P w K mg base (L2.CX P w) 2 T.a__law_lowest T.d__law_lowest ["_law_top", "_law_bottom"] (spD ⟨K, mg⟩ F__law_lowest) :=
  fn_mk (k := 1) (keep := false) (body := b__law_lowest) T.F__law_lowest sc__law_lowest rfl fun cdv A outer s H E hr => by
    have nd := sc__law_lowest.nd
    have tk : Takes (cxOf (L2.CX P w) P w K mg base ["_law_top", "_law_bottom", "_law_one", "_law_other"] "_law_lowest" (defScope s__law_lowest) T.a__law_lowest cdv A outer s H E) (fun cls d _ H' => E cls d H') := takes_of rfl rfl rfl rfl
    exact (pssd_cons (psd_set (i := 2) nd (pd_var (i := 1)))
      (pssd_cons (psd_set (i := 3) nd (pd_op od_mod (pd_var (i := 0)) (pd_var (i := 1))))
      (pssd_cons (psd_while (passes_of rfl) (ptd_cmp od_gt (pd_var (i := 3)) pd_int) (pssd_one (psd_par (i := 2) (j := 3) rfl nd (by decide) (pad_cons (pd_var (i := 3)) (pad_cons (pd_op od_mod (pd_var (i := 2)) (pd_var (i := 3))) pad_nil)) (by rfl))))
      (pssd_one (psd_ret (pd_tup (pad_cons (pd_op od_fdiv (pd_var (i := 0)) (pd_var (i := 2))) (pad_cons (pd_op od_fdiv (pd_var (i := 1)) (pd_var (i := 2))) pad_nil))))))))
theorem ok__law_miss (T : Tx K mg) : FnOk P w K mg base (L2.CX P w) 2 T.a__law_miss T.d__law_miss ["_law_box", "_law_many"] (spD ⟨K, mg⟩ F__law_miss) :=
  fn_mk (k := 1) (keep := false) (body := b__law_miss) T.F__law_miss sc__law_miss rfl fun cdv A outer s H E hr => by
    have nd := sc__law_miss.nd
    have tk : Takes (cxOf (L2.CX P w) P w K mg base ["_law_box", "_law_many", "_law_top", "_law_bottom", "_law_turn"] "_law_miss" (defScope s__law_miss) T.a__law_miss cdv A outer s H E) (fun cls d _ H' => E cls d H') := takes_of rfl rfl rfl rfl
    exact (pssd_cons (psd_set (i := 2) nd pd_int)
      (pssd_cons (psd_set (i := 3) nd pd_int)
      (pssd_cons (psd_for (passes_of rfl) rfl (pid_range1 T.z_range (pad_cons (pd_var (i := 1)) pad_nil)) (pgd_name (i := 4) nd) (pssd_cons (psd_set (i := 2) nd (pd_op (od_mul mk_F) (pd_var (i := 2)) (pd_op od_sub (pd_ix ixd (pd_var (i := 0)) pd_int) (pd_ix ixd (pd_var (i := 0)) pd_int))))
      (pssd_one (psd_set (i := 3) nd (pd_op (od_mul mk_F) (pd_var (i := 3)) (pd_ix ixd (pd_var (i := 0)) pd_int))))))
      (pssd_one (psd_ret (pd_tup (pad_cons (pd_var (i := 2)) (pad_cons (pd_var (i := 3)) pad_nil))))))))
theorem ok__law_plus (T : Tx K mg) : FnOk P w K mg base (L2.CX P w) 3 T.a__law_plus T.d__law_plus ["_law_one", "_law_other"] (spD ⟨K, mg⟩ F__law_plus) :=
  fn_mk (k := 2) (keep := false) (body := b__law_plus) T.F__law_plus sc__law_plus rfl fun cdv A outer s H E hr => by
    have nd := sc__law_plus.nd
    have tk : Takes (cxOf (L2.CX P w) P w K mg base ["_law_one", "_law_other"] "_law_plus" (defScope s__law_plus) T.a__law_plus cdv A outer s H E) (fun cls d _ H' => E cls d H') := takes_of rfl rfl rfl rfl
    exact (pssd_one (psd_ret (pd_call (ok__law_lowest T) (hr.mono (by decide)) T.g__law_lowest T.F__law_lowest.kp T.b__law_lowest tk (pad_cons (pd_op (od_add mk_F) (pd_op (od_mul mk_F) (pd_ix ixd (pd_var (i := 0)) pd_int) (pd_ix ixd (pd_var (i := 1)) pd_int)) (pd_op (od_mul mk_F) (pd_ix ixd (pd_var (i := 1)) pd_int) (pd_ix ixd (pd_var (i := 0)) pd_int))) (pad_cons (pd_op (od_mul mk_F) (pd_ix ixd (pd_var (i := 0)) pd_int) (pd_ix ixd (pd_var (i := 1)) pd_int)) pad_nil)))))
theorem ok__law_less (T : Tx K mg) : FnOk P w K mg base (L2.CX P w) 2 T.a__law_less T.d__law_less ["_law_one", "_law_other"] (spD ⟨K, mg⟩ F__law_less) :=
  fn_mk (k := 1) (keep := false) (body := b__law_less) T.F__law_less sc__law_less rfl fun cdv A outer s H E hr => by
    have nd := sc__law_less.nd
    have tk : Takes (cxOf (L2.CX P w) P w K mg base ["_law_one", "_law_other"] "_law_less" (defScope s__law_less) T.a__law_less cdv A outer s H E) (fun cls d _ H' => E cls d H') := takes_of rfl rfl rfl rfl
    exact (pssd_one (psd_ret (pd_cmp od_lt (pd_op (od_mul mk_F) (pd_ix ixd (pd_var (i := 0)) pd_int) (pd_ix ixd (pd_var (i := 1)) pd_int)) (pd_op (od_mul mk_F) (pd_ix ixd (pd_var (i := 1)) pd_int) (pd_ix ixd (pd_var (i := 0)) pd_int)))))
theorem ok__law_plan (T : Tx K mg) : FnOk P w K mg base (L2.CX P w) 3 T.a__law_plan T.d__law_plan ["_law_boxes_here", "_law_thing"] (spD ⟨K, mg⟩ F__law_plan) :=
  fn_mk (k := 2) (keep := false) (body := b__law_plan) T.F__law_plan sc__law_plan rfl fun cdv A outer s H E hr => by
    have nd := sc__law_plan.nd
    have tk : Takes (cxOf (L2.CX P w) P w K mg base ["_law_boxes_here", "_law_thing", "_law_one"] "_law_plan" (defScope s__law_plan) T.a__law_plan cdv A outer s H E) (fun cls d _ H' => E cls d H') := takes_of rfl rfl rfl rfl
    exact (pssd_cons (psd_if (PWD.pt (pwd_or (ptd_not (ptd_truth (pd_callB cd_isi (by rfl) T.z_isinstance (by decide +kernel) (pad_cons (pd_var (i := 1)) (pad_cons (pd_ty T.z_list (by decide +kernel)) pad_nil))))) (pwd_or1 (ptd_cmp (od_ne hr.units) (pd_callB cd_len (by rfl) T.z_len (by decide +kernel) (pad_cons (pd_var (i := 1)) pad_nil)) (pd_callB cd_len (by rfl) T.z_len (by decide +kernel) (pad_cons (pd_var (i := 0)) pad_nil)))))) (pssd_one (psd_ret pd_bl)) pssd_nil)
      (pssd_one (psd_ret (pd_cmp (od_eq hr.units) (pd_callB cd_len (by rfl) T.z_len (by decide +kernel) (pad_cons (pd_lcIf (own := [("_law_one", 2)]) mk_F (tg_N (by decide)) rfl nd (pid_list (pd_var (i := 1))) (blkOk_by (N := ["_law_boxes_here", "_law_thing", "_law_one"]) (sc := defScope s__law_plan) (by decide +kernel)) (fun _ _ _ _ _ => pg_name (i := 2) nd rfl (Or.inl rfl)) (fun _ _ _ _ _ => (PWD.pt (pwd_or (ptd_not (ptd_truth (pd_call (ok__law_whole T) (hr.mono (by decide)) T.g__law_whole T.F__law_whole.kp T.b__law_whole takes0 (pad_cons (pd_var (i := 2)) pad_nil)))) (pwd_or (ptd_cmp od_lt (pd_var (i := 2)) pd_int) (pwd_or1 (ptd_cmp od_gt (pd_var (i := 2)) pd_int)))))) (fun _ _ _ _ _ => (pd_var (i := 2)))) pad_nil)) pd_int))))
theorem ok__law_price (T : Tx K mg) : FnOk P w K mg base (L2.CX P w) 2 T.a__law_price T.d__law_price ["_law_boxes_here", "_law_plan_here"] (spD ⟨K, mg⟩ F__law_price) :=
  fn_mk (k := 1) (keep := false) (body := b__law_price) T.F__law_price sc__law_price rfl fun cdv A outer s H E hr => by
    have nd := sc__law_price.nd
    have tk : Takes (cxOf (L2.CX P w) P w K mg base ["_law_boxes_here", "_law_plan_here", "_law_k"] "_law_price" (defScope s__law_price) T.a__law_price cdv A outer s H E) (fun cls d _ H' => E cls d H') := takes_of rfl rfl rfl rfl
    exact (pssd_one (psd_ret (pd_callB (cd_sum rfl) (by rfl) T.z_sum (by decide +kernel) (pad_cons (pd_lc (own := [("_law_k", 2)]) mk_F (tg_N (by decide)) rfl nd (pid_range1 T.z_range (pad_cons (pd_callB cd_len (by rfl) T.z_len (by decide +kernel) (pad_cons (pd_var (i := 0)) pad_nil)) pad_nil)) (blkOk_by (N := ["_law_boxes_here", "_law_plan_here", "_law_k"]) (sc := defScope s__law_price) (by decide +kernel)) (fun _ _ _ _ _ => pg_name (i := 2) nd rfl (Or.inl rfl)) (fun _ _ _ _ _ => (pd_op (od_mul mk_F) (pd_ix ixd (pd_ix ixd (pd_var (i := 0)) (pd_var (i := 2))) pd_int) (pd_ix ixd (pd_var (i := 1)) (pd_var (i := 2)))))) pad_nil))))
theorem ok__law_chance (T : Tx K mg) : FnOk P w K mg base (L2.CX P w) 4 T.a__law_chance T.d__law_chance ["_law_boxes_here", "_law_mix_here", "_law_k"] (spD ⟨K, mg⟩ F__law_chance) :=
  fn_mk (k := 3) (keep := false) (body := b__law_chance) T.F__law_chance sc__law_chance rfl fun cdv A outer s H E hr => by
    have nd := sc__law_chance.nd
    have tk : Takes (cxOf (L2.CX P w) P w K mg base ["_law_boxes_here", "_law_mix_here", "_law_k", "_law_total", "_law_whole_here", "_law_plan_here", "_law_weight", "_law_top", "_law_bottom"] "_law_chance" (defScope s__law_chance) T.a__law_chance cdv A outer s H E) (fun cls d _ H' => E cls d H') := takes_of rfl rfl rfl rfl
    exact (pssd_cons (psd_set (i := 3) nd (pd_tup (pad_cons pd_int (pad_cons pd_int pad_nil))))
      (pssd_cons (psd_set (i := 4) nd (pd_callB (cd_sum rfl) (by rfl) T.z_sum (by decide +kernel) (pad_cons (pd_lc (own := [("_law_plan_here", 5), ("_law_weight", 6)]) mk_F (tg_T2 (by decide) (by decide)) rfl nd (pid_list (pd_var (i := 1))) (blkOk_by (N := ["_law_boxes_here", "_law_mix_here", "_law_k", "_law_total", "_law_whole_here", "_law_plan_here", "_law_weight", "_law_top", "_law_bottom"]) (sc := defScope s__law_chance) (by decide +kernel)) (fun _ _ _ _ _ => pg_tup rfl (pgs_cons (pg_name (i := 5) nd rfl (Or.inl rfl)) (pgs_cons (pg_name (i := 6) nd rfl (Or.inl rfl)) pgs_nil))) (fun _ _ _ _ _ => (pd_var (i := 6)))) pad_nil)))
      (pssd_cons (psd_for (passes_of rfl) rfl (pid_list (pd_var (i := 1))) (pgd_tup rfl (pgsd_cons (pgd_name (i := 5) nd) (pgsd_cons (pgd_name (i := 6) nd) pgsd_nil))) (pssd_cons (psd_asg (pd_call (ok__law_miss T) (hr.mono (by decide)) T.g__law_miss T.F__law_miss.kp T.b__law_miss tk (pad_cons (pd_ix ixd (pd_var (i := 0)) (pd_var (i := 2))) (pad_cons (pd_ix ixd (pd_var (i := 5)) (pd_var (i := 2))) pad_nil))) (pgd_tup rfl (pgsd_cons (pgd_name (i := 7) nd) (pgsd_cons (pgd_name (i := 8) nd) pgsd_nil))))
      (pssd_one (psd_set (i := 3) nd (pd_call (ok__law_plus T) (hr.mono (by decide)) T.g__law_plus T.F__law_plus.kp T.b__law_plus tk (pad_cons (pd_var (i := 3)) (pad_cons (pd_tup (pad_cons (pd_op (od_mul mk_F) (pd_var (i := 6)) (pd_op od_sub (pd_var (i := 8)) (pd_var (i := 7)))) (pad_cons (pd_op (od_mul mk_F) (pd_var (i := 8)) (pd_var (i := 4))) pad_nil))) pad_nil)))))))
      (pssd_one (psd_ret (pd_var (i := 3)))))))
theorem ok__law_keeps (T : Tx K mg) : FnOk P w K mg base (L2.CX P w) 4 T.a__law_keeps T.d__law_keeps ["_law_boxes_here", "_law_budget", "_law_mix_here"] (spD ⟨K, mg⟩ F__law_keeps) :=
  fn_mk (k := 3) (keep := false) (body := b__law_keeps) T.F__law_keeps sc__law_keeps rfl fun cdv A outer s H E hr => by
    have nd := sc__law_keeps.nd
    have tk : Takes (cxOf (L2.CX P w) P w K mg base ["_law_boxes_here", "_law_budget", "_law_mix_here", "_law_part", "_law_whole_here", "_law_plan_here", "_law_weight"] "_law_keeps" (defScope s__law_keeps) T.a__law_keeps cdv A outer s H E) (fun cls d _ H' => E cls d H') := takes_of rfl rfl rfl rfl
    exact (pssd_cons (psd_if (PWD.pt (pwd_or (ptd_not (ptd_truth (pd_callB cd_isi (by rfl) T.z_isinstance (by decide +kernel) (pad_cons (pd_var (i := 2)) (pad_cons (pd_ty T.z_list (by decide +kernel)) pad_nil))))) (pwd_or1 (ptd_cmp (od_eq hr.units) (pd_callB cd_len (by rfl) T.z_len (by decide +kernel) (pad_cons (pd_var (i := 2)) pad_nil)) pd_int)))) (pssd_one (psd_ret pd_bl)) pssd_nil)
      (pssd_cons (psd_for (passes_of rfl) rfl (pid_list (pd_var (i := 2))) (pgd_name (i := 3) nd) (pssd_cons (psd_if (PWD.pt (pwd_or (ptd_not (ptd_truth (pd_callB cd_isi (by rfl) T.z_isinstance (by decide +kernel) (pad_cons (pd_var (i := 3)) (pad_cons (pd_ty T.z_tuple (by decide +kernel)) pad_nil))))) (pwd_or (ptd_cmp (od_ne hr.units) (pd_callB cd_len (by rfl) T.z_len (by decide +kernel) (pad_cons (pd_var (i := 3)) pad_nil)) pd_int) (pwd_or1 (ptd_not (ptd_truth (pd_call (ok__law_plan T) (hr.mono (by decide)) T.g__law_plan T.F__law_plan.kp T.b__law_plan tk (pad_cons (pd_var (i := 0)) (pad_cons (pd_ix ixd (pd_var (i := 3)) pd_int) pad_nil))))))))) (pssd_one (psd_ret pd_bl)) pssd_nil)
      (pssd_one (psd_if (PWD.pt (pwd_or (ptd_not (ptd_truth (pd_call (ok__law_whole T) (hr.mono (by decide)) T.g__law_whole T.F__law_whole.kp T.b__law_whole tk (pad_cons (pd_ix ixd (pd_var (i := 3)) pd_int) pad_nil)))) (pwd_or1 (ptd_cmp od_lt (pd_ix ixd (pd_var (i := 3)) pd_int) pd_int)))) (pssd_one (psd_ret pd_bl)) pssd_nil))))
      (pssd_cons (psd_set (i := 4) nd (pd_callB (cd_sum rfl) (by rfl) T.z_sum (by decide +kernel) (pad_cons (pd_lc (own := [("_law_plan_here", 5), ("_law_weight", 6)]) mk_F (tg_T2 (by decide) (by decide)) rfl nd (pid_list (pd_var (i := 2))) (blkOk_by (N := ["_law_boxes_here", "_law_budget", "_law_mix_here", "_law_part", "_law_whole_here", "_law_plan_here", "_law_weight"]) (sc := defScope s__law_keeps) (by decide +kernel)) (fun _ _ _ _ _ => pg_tup rfl (pgs_cons (pg_name (i := 5) nd rfl (Or.inl rfl)) (pgs_cons (pg_name (i := 6) nd rfl (Or.inl rfl)) pgs_nil))) (fun _ _ _ _ _ => (pd_var (i := 6)))) pad_nil)))
      (pssd_one (psd_ret (pd_cmp od_le (pd_callB (cd_sum rfl) (by rfl) T.z_sum (by decide +kernel) (pad_cons (pd_lc (own := [("_law_plan_here", 5), ("_law_weight", 6)]) mk_F (tg_T2 (by decide) (by decide)) rfl nd (pid_list (pd_var (i := 2))) (blkOk_by (N := ["_law_boxes_here", "_law_budget", "_law_mix_here", "_law_part", "_law_whole_here", "_law_plan_here", "_law_weight"]) (sc := defScope s__law_keeps) (by decide +kernel)) (fun _ _ _ _ _ => pg_tup rfl (pgs_cons (pg_name (i := 5) nd rfl (Or.inl rfl)) (pgs_cons (pg_name (i := 6) nd rfl (Or.inl rfl)) pgs_nil))) (fun _ _ _ _ _ => (pd_op (od_mul mk_F) (pd_var (i := 6)) (pd_call (ok__law_price T) (hr.mono (by decide)) T.g__law_price T.F__law_price.kp T.b__law_price takes0 (pad_cons (pd_var (i := 0)) (pad_cons (pd_var (i := 5)) pad_nil)))))) pad_nil)) (pd_op (od_mul mk_F) (pd_var (i := 1)) (pd_var (i := 4)))))))))
theorem ok__law_drawn_mix (T : Tx K mg) : FnOk P w K mg base (L2.CX P w) 4 T.a__law_drawn_mix T.d__law_drawn_mix ["_law_left_here", "_law_boxes_here", "_law_budget"] (spD ⟨K, mg⟩ F__law_drawn_mix) :=
  fn_mk (k := 3) (keep := false) (body := b__law_drawn_mix) T.F__law_drawn_mix sc__law_drawn_mix rfl fun cdv A outer s H E hr => by
    have nd := sc__law_drawn_mix.nd
    have tk : Takes (cxOf (L2.CX P w) P w K mg base ["_law_left_here", "_law_boxes_here", "_law_budget", "_law_mix_here", "_law_turn", "_law_price_here", "_law_whole_here", "_law_plan_here", "_law_weight", "_law_box"] "_law_drawn_mix" (defScope s__law_drawn_mix) T.a__law_drawn_mix cdv A outer s H E) (fun cls d _ H' => E cls d H') := takes_of rfl rfl rfl rfl
    exact (pssd_cons (psd_set (i := 3) nd (pd_lst mk_C pad_nil))
      (pssd_cons (psd_for (passes_of rfl) rfl (pid_range1 T.z_range (pad_cons (pd_op (od_add mk_F) pd_int (pd_call (ok__law_draw T) (hr.mono (by decide)) T.g__law_draw T.F__law_draw.kp T.b__law_draw tk (pad_cons (pd_var (i := 0)) (pad_cons pd_int pad_nil)))) pad_nil)) (pgd_name (i := 4) nd) (pssd_one (psd_expr (pd_bm PySem.F.plainAttrs_list PySem.F.slot_list_append PySem.F.type_list_append md_append (pd_var (i := 3)) (pad_cons (pd_tup (pad_cons (pd_lc (own := [("_law_box", 9)]) mk_F (tg_N (by decide)) rfl nd (pid_list (pd_var (i := 1))) (blkOk_by (N := ["_law_left_here", "_law_boxes_here", "_law_budget", "_law_mix_here", "_law_turn", "_law_price_here", "_law_whole_here", "_law_plan_here", "_law_weight", "_law_box"]) (sc := defScope s__law_drawn_mix) (by decide +kernel)) (fun _ _ _ _ _ => pg_name (i := 9) nd rfl (Or.inl rfl)) (fun _ _ _ _ _ => (pd_call (ok__law_draw T) (hr.mono (by decide)) T.g__law_draw T.F__law_draw.kp T.b__law_draw takes0 (pad_cons (pd_var (i := 0)) (pad_cons (pd_ix ixd (pd_lst mk_F (pad_cons pd_int (pad_cons pd_int pad_nil))) (pd_call (ok__law_draw T) (hr.mono (by decide)) T.g__law_draw T.F__law_draw.kp T.b__law_draw takes0 (pad_cons (pd_var (i := 0)) (pad_cons pd_int pad_nil)))) pad_nil))))) (pad_cons (pd_op (od_add mk_F) pd_int (pd_call (ok__law_draw T) (hr.mono (by decide)) T.g__law_draw T.F__law_draw.kp T.b__law_draw tk (pad_cons (pd_var (i := 0)) (pad_cons pd_int pad_nil)))) pad_nil))) pad_nil)))))
      (pssd_cons (psd_set (i := 5) nd (pd_callB (cd_sum rfl) (by rfl) T.z_sum (by decide +kernel) (pad_cons (pd_lc (own := [("_law_plan_here", 7), ("_law_weight", 8)]) mk_F (tg_T2 (by decide) (by decide)) rfl nd (pid_list (pd_var (i := 3))) (blkOk_by (N := ["_law_left_here", "_law_boxes_here", "_law_budget", "_law_mix_here", "_law_turn", "_law_price_here", "_law_whole_here", "_law_plan_here", "_law_weight", "_law_box"]) (sc := defScope s__law_drawn_mix) (by decide +kernel)) (fun _ _ _ _ _ => pg_tup rfl (pgs_cons (pg_name (i := 7) nd rfl (Or.inl rfl)) (pgs_cons (pg_name (i := 8) nd rfl (Or.inl rfl)) pgs_nil))) (fun _ _ _ _ _ => (pd_op (od_mul mk_F) (pd_var (i := 8)) (pd_call (ok__law_price T) (hr.mono (by decide)) T.g__law_price T.F__law_price.kp T.b__law_price takes0 (pad_cons (pd_var (i := 1)) (pad_cons (pd_var (i := 7)) pad_nil)))))) pad_nil)))
      (pssd_cons (psd_set (i := 6) nd (pd_callB (cd_sum rfl) (by rfl) T.z_sum (by decide +kernel) (pad_cons (pd_lc (own := [("_law_plan_here", 7), ("_law_weight", 8)]) mk_F (tg_T2 (by decide) (by decide)) rfl nd (pid_list (pd_var (i := 3))) (blkOk_by (N := ["_law_left_here", "_law_boxes_here", "_law_budget", "_law_mix_here", "_law_turn", "_law_price_here", "_law_whole_here", "_law_plan_here", "_law_weight", "_law_box"]) (sc := defScope s__law_drawn_mix) (by decide +kernel)) (fun _ _ _ _ _ => pg_tup rfl (pgs_cons (pg_name (i := 7) nd rfl (Or.inl rfl)) (pgs_cons (pg_name (i := 8) nd rfl (Or.inl rfl)) pgs_nil))) (fun _ _ _ _ _ => (pd_var (i := 8)))) pad_nil)))
      (pssd_cons (psd_if (PWD.pt (pwd_and (ptd_cmp od_gt (pd_var (i := 5)) (pd_op (od_mul mk_F) (pd_var (i := 2)) (pd_var (i := 6)))) (pwd_and1 (ptd_cmp od_gt (pd_var (i := 2)) pd_int)))) (pssd_one (psd_expr (pd_bm PySem.F.plainAttrs_list PySem.F.slot_list_append PySem.F.type_list_append md_append (pd_var (i := 3)) (pad_cons (pd_tup (pad_cons (pd_op (od_mul mk_F) (pd_lst mk_F (pad_cons pd_int pad_nil)) (pd_callB cd_len (by rfl) T.z_len (by decide +kernel) (pad_cons (pd_var (i := 1)) pad_nil))) (pad_cons (pd_op od_sub (pd_op od_sub pd_int (pd_op od_fdiv (pd_op od_sub pd_int (pd_var (i := 5))) (pd_var (i := 2)))) (pd_var (i := 6))) pad_nil))) pad_nil)))) pssd_nil)
      (pssd_cons (psd_if (PWD.pt (pwd_and (ptd_cmp od_gt (pd_var (i := 5)) (pd_op (od_mul mk_F) (pd_var (i := 2)) (pd_var (i := 6)))) (pwd_and1 (ptd_cmp (od_eq hr.units) (pd_var (i := 2)) pd_int)))) (pssd_one (psd_ret (pd_lst mk_F (pad_cons (pd_tup (pad_cons (pd_op (od_mul mk_F) (pd_lst mk_F (pad_cons pd_int pad_nil)) (pd_callB cd_len (by rfl) T.z_len (by decide +kernel) (pad_cons (pd_var (i := 1)) pad_nil))) (pad_cons pd_int pad_nil))) pad_nil)))) pssd_nil)
      (pssd_one (psd_ret (pd_frz (pd_var (i := 3)))))))))))
theorem ok__law_least (T : Tx K mg) : FnOk P w K mg base (L2.CX P w) 5 T.a__law_least T.d__law_least ["_law_boxes_here", "_law_mix_here"] (spD ⟨K, mg⟩ F__law_least) :=
  fn_mk (k := 4) (keep := false) (body := b__law_least) T.F__law_least sc__law_least rfl fun cdv A outer s H E hr => by
    have nd := sc__law_least.nd
    have tk : Takes (cxOf (L2.CX P w) P w K mg base ["_law_boxes_here", "_law_mix_here", "_law_least_here", "_law_k", "_law_chance_here"] "_law_least" (defScope s__law_least) T.a__law_least cdv A outer s H E) (fun cls d _ H' => E cls d H') := takes_of rfl rfl rfl rfl
    exact (pssd_cons (psd_set (i := 2) nd (pd_tup (pad_cons pd_int (pad_cons pd_int pad_nil))))
      (pssd_cons (psd_for (passes_of rfl) rfl (pid_range1 T.z_range (pad_cons (pd_callB cd_len (by rfl) T.z_len (by decide +kernel) (pad_cons (pd_var (i := 0)) pad_nil)) pad_nil)) (pgd_name (i := 3) nd) (pssd_cons (psd_set (i := 4) nd (pd_call (ok__law_chance T) (hr.mono (by decide)) T.g__law_chance T.F__law_chance.kp T.b__law_chance tk (pad_cons (pd_var (i := 0)) (pad_cons (pd_var (i := 1)) (pad_cons (pd_var (i := 3)) pad_nil)))))
      (pssd_one (psd_if (ptd_truth (pd_call (ok__law_less T) (hr.mono (by decide)) T.g__law_less T.F__law_less.kp T.b__law_less tk (pad_cons (pd_var (i := 4)) (pad_cons (pd_var (i := 2)) pad_nil)))) (pssd_one (psd_set (i := 2) nd (pd_var (i := 4)))) pssd_nil))))
      (pssd_one (psd_ret (pd_var (i := 2))))))
theorem ok__law_found_by_weights (T : Tx K mg) : FnOk P w K mg base (L2.CX P w) 4 T.a__law_found_by_weights T.d__law_found_by_weights ["_law_boxes_here", "_law_weights", "_law_plan_here"] (spD ⟨K, mg⟩ F__law_found_by_weights) :=
  fn_mk (k := 3) (keep := false) (body := b__law_found_by_weights) T.F__law_found_by_weights sc__law_found_by_weights rfl fun cdv A outer s H E hr => by
    have nd := sc__law_found_by_weights.nd
    have tk : Takes (cxOf (L2.CX P w) P w K mg base ["_law_boxes_here", "_law_weights", "_law_plan_here", "_law_total", "_law_k", "_law_top", "_law_bottom"] "_law_found_by_weights" (defScope s__law_found_by_weights) T.a__law_found_by_weights cdv A outer s H E) (fun cls d _ H' => E cls d H') := takes_of rfl rfl rfl rfl
    exact (pssd_cons (psd_set (i := 3) nd (pd_tup (pad_cons pd_int (pad_cons pd_int pad_nil))))
      (pssd_cons (psd_for (passes_of rfl) rfl (pid_range1 T.z_range (pad_cons (pd_callB cd_len (by rfl) T.z_len (by decide +kernel) (pad_cons (pd_var (i := 0)) pad_nil)) pad_nil)) (pgd_name (i := 4) nd) (pssd_cons (psd_asg (pd_call (ok__law_miss T) (hr.mono (by decide)) T.g__law_miss T.F__law_miss.kp T.b__law_miss tk (pad_cons (pd_ix ixd (pd_var (i := 0)) (pd_var (i := 4))) (pad_cons (pd_ix ixd (pd_var (i := 2)) (pd_var (i := 4))) pad_nil))) (pgd_tup rfl (pgsd_cons (pgd_name (i := 5) nd) (pgsd_cons (pgd_name (i := 6) nd) pgsd_nil))))
      (pssd_one (psd_set (i := 3) nd (pd_call (ok__law_plus T) (hr.mono (by decide)) T.g__law_plus T.F__law_plus.kp T.b__law_plus tk (pad_cons (pd_var (i := 3)) (pad_cons (pd_tup (pad_cons (pd_op (od_mul mk_F) (pd_ix ixd (pd_var (i := 1)) (pd_var (i := 4))) (pd_op od_sub (pd_var (i := 6)) (pd_var (i := 5)))) (pad_cons (pd_var (i := 6)) pad_nil))) pad_nil)))))))
      (pssd_one (psd_ret (pd_var (i := 3))))))
theorem ok_law (T : Tx K mg) : FnOk P w K mg base (L2.CX P w) 8 T.a_law T.d_law ["_law_script"] (spD ⟨K, mg⟩ F_law) :=
  fn_mk (k := 7) (keep := false) (body := b_law) T.F_law sc_law rfl fun cdv A outer s H E hr => by
    have nd := sc_law.nd
    have tk : Takes (cxOf (L2.CX P w) P w K mg base ["_law_script", "_law_cell", "_law_left_here", "_law_boxes_here", "_law_budget", "_law_turn", "_law_worth", "_law_told", "_law_paper", "_law_weights", "_law_price_here", "_law_counts", "_law_mix_here", "_law_plan_here", "_law_bound", "_law_beyond"] "law" (defScope s_law) T.a_law cdv A outer s H E) (fun cls d _ H' => E cls d H') := takes_of rfl rfl rfl rfl
    exact (pssd_cons (psd_for (passes_of rfl) rfl (pid_list (pd_op (od_add mk_F) (pd_lst mk_F (pad_cons pd_int pad_nil)) (pd_slice mk_F (pd_var (i := 0)) pod_none (pod_some pd_int)))) (pgd_name (i := 1) nd) (pssd_cons (psd_set (i := 2) nd (pd_call (ok__law_left T) (hr.mono (by decide)) T.g__law_left T.F__law_left.kp T.b__law_left tk (pad_cons (pd_lst mk_F (pad_cons (pd_var (i := 1)) pad_nil)) (pad_cons pd_int pad_nil))))
      (pssd_cons (psd_set (i := 3) nd (pd_call (ok__law_boxes T) (hr.mono (by decide)) T.g__law_boxes T.F__law_boxes.kp T.b__law_boxes tk (pad_cons (pd_var (i := 2)) (pad_cons pd_int pad_nil))))
      (pssd_cons (psd_set (i := 4) nd (pd_call (ok__law_draw T) (hr.mono (by decide)) T.g__law_draw T.F__law_draw.kp T.b__law_draw tk (pad_cons (pd_var (i := 2)) (pad_cons (pd_ix ixd (pd_lst mk_F (pad_cons pd_int (pad_cons pd_int pad_nil))) (pd_call (ok__law_draw T) (hr.mono (by decide)) T.g__law_draw T.F__law_draw.kp T.b__law_draw tk (pad_cons (pd_var (i := 2)) (pad_cons pd_int pad_nil)))) pad_nil))))
      (pssd_cons (psd_asg (pd_call (ok_budget_worth T) (hr.mono (by decide)) T.g_budget_worth T.F_budget_worth.kp T.b_budget_worth tk (pad_cons (pd_callTy (cd_list mk_F) (by rfl) T.z_list (by decide +kernel) (pad_cons (pd_var (i := 3)) pad_nil)) (pad_cons (pd_var (i := 4)) pad_nil))) (pgd_tup rfl (pgsd_cons (pgd_name (i := 6) nd) (pgsd_cons (pgd_name (i := 7) nd) (pgsd_cons (pgd_name (i := 8) nd) pgsd_nil)))))
      (pssd_cons (psd_asg (pd_var (i := 8)) (pgd_tup rfl (pgsd_cons (pgd_name (i := 9) nd) (pgsd_cons (pgd_name (i := 10) nd) (pgsd_cons (pgd_name (i := 11) nd) pgsd_nil)))))
      (pssd_one (psd_for (passes_of rfl) rfl (pid_range1 T.z_range (pad_cons pd_int pad_nil)) (pgd_name (i := 5) nd) (pssd_cons (psd_set (i := 12) nd (pd_call (ok__law_drawn_mix T) (hr.mono (by decide)) T.g__law_drawn_mix T.F__law_drawn_mix.kp T.b__law_drawn_mix tk (pad_cons (pd_var (i := 2)) (pad_cons (pd_var (i := 3)) (pad_cons (pd_var (i := 4)) pad_nil)))))
      (pssd_cons (psd_if (PWD.pt (pwd_or (ptd_not (ptd_truth (pd_call (ok__law_keeps T) (hr.mono (by decide)) T.g__law_keeps T.F__law_keeps.kp T.b__law_keeps tk (pad_cons (pd_var (i := 3)) (pad_cons (pd_var (i := 4)) (pad_cons (pd_var (i := 12)) pad_nil)))))) (pwd_or1 (ptd_truth (pd_call (ok__law_less T) (hr.mono (by decide)) T.g__law_less T.F__law_less.kp T.b__law_less tk (pad_cons (pd_var (i := 6)) (pad_cons (pd_call (ok__law_least T) (hr.mono (by decide)) T.g__law_least T.F__law_least.kp T.b__law_least tk (pad_cons (pd_var (i := 3)) (pad_cons (pd_var (i := 12)) pad_nil))) pad_nil))))))) (pssd_one (psd_ret pd_bl)) pssd_nil)
      (pssd_cons (psd_set (i := 13) nd (pd_ix ixd (pd_ix ixd (pd_var (i := 12)) pd_int) pd_int))
      (pssd_cons (psd_set (i := 14) nd (pd_call (ok__law_plus T) (hr.mono (by decide)) T.g__law_plus T.F__law_plus.kp T.b__law_plus tk (pad_cons (pd_tup (pad_cons (pd_op (od_mul mk_F) (pd_ix ixd (pd_var (i := 6)) pd_int) (pd_callB (cd_sum rfl) (by rfl) T.z_sum (by decide +kernel) (pad_cons (pd_var (i := 9)) pad_nil))) (pad_cons (pd_ix ixd (pd_var (i := 6)) pd_int) pad_nil))) (pad_cons (pd_call (ok__law_lowest T) (hr.mono (by decide)) T.g__law_lowest T.F__law_lowest.kp T.b__law_lowest tk (pad_cons (pd_ix ixd (pd_var (i := 10)) pd_int) (pad_cons (pd_ix ixd (pd_var (i := 10)) pd_int) pad_nil))) pad_nil))))
      (pssd_cons (psd_set (i := 15) nd (pd_op od_sub (pd_op od_sub (pd_call (ok__law_price T) (hr.mono (by decide)) T.g__law_price T.F__law_price.kp T.b__law_price tk (pad_cons (pd_var (i := 3)) (pad_cons (pd_var (i := 13)) pad_nil))) (pd_var (i := 4))) pd_int))
      (pssd_cons (psd_set (i := 14) nd (pd_call (ok__law_plus T) (hr.mono (by decide)) T.g__law_plus T.F__law_plus.kp T.b__law_plus tk (pad_cons (pd_var (i := 14)) (pad_cons (pd_tup (pad_cons (pd_op (od_mul mk_F) (pd_ix ixd (pd_var (i := 10)) pd_int) (pd_var (i := 15))) (pad_cons (pd_ix ixd (pd_var (i := 10)) pd_int) pad_nil))) pad_nil))))
      (pssd_one (psd_if (ptd_truth (pd_call (ok__law_less T) (hr.mono (by decide)) T.g__law_less T.F__law_less.kp T.b__law_less tk (pad_cons (pd_var (i := 14)) (pad_cons (pd_call (ok__law_found_by_weights T) (hr.mono (by decide)) T.g__law_found_by_weights T.F__law_found_by_weights.kp T.b__law_found_by_weights tk (pad_cons (pd_var (i := 3)) (pad_cons (pd_var (i := 9)) (pad_cons (pd_var (i := 13)) pad_nil)))) pad_nil)))) (pssd_one (psd_ret pd_bl)) pssd_nil))))))))))))))))
      (pssd_one (psd_ret pd_bl)))
end
section
theorem all_mk {P : Program} {w : World} {K : PySem.W.Frag} {h : Heap} {mg : Str → Option Value} {fa : Addr} (X : K.In h) (G : h.Ns mainGlobals mg) (hfa : mg "law" = some (.ref fa)) (ht : LawTrue F_law) {f0 f1 f2 f3 f4 f5 f6 f7 f8 f9 f10 f11 f12 f13 f14 f15 f16 f17 f18 f19 f20 f21 f22 f23 f24 f25 f26 f27 f28 f29 f30 f31 f32 f33 f34 f35 f36 f37 f38 f39 f40 f41 f42 f43 : Addr} {od0 an0 od1 an1 od2 an2 od3 an3 od4 an4 od5 an5 od6 an6 od7 an7 od8 an8 od9 an9 od10 an10 od11 an11 od12 an12 od13 an13 od14 an14 od15 an15 od16 an16 od17 an17 od18 an18 od19 an19 od20 an20 od21 an21 od22 an22 od23 an23 od24 an24 od25 an25 od26 an26 od27 an27 od28 an28 od29 an29 od30 an30 od31 an31 od32 an32 od33 an33 od34 an34 od35 an35 od36 an36 od37 an37 od38 an38 od39 an39 od40 an40 od41 an41 od42 an42 od43 an43 : Option Addr} {sl0 sl1 sl2 sl3 sl4 sl5 sl6 sl7 sl8 sl9 sl10 sl11 sl12 sl13 sl14 sl15 sl16 sl17 sl18 sl19 sl20 sl21 sl22 sl23 sl24 sl25 sl26 sl27 sl28 sl29 sl30 sl31 sl32 sl33 sl34 sl35 sl36 sl37 sl38 sl39 sl40 sl41 sl42 sl43 : Array (Option Value)} {oc0 kV0 dc0 pm0 cd0 ct0 oc1 kV1 dc1 pm1 cd1 ct1 oc2 kV2 dc2 pm2 cd2 ct2 oc3 kV3 dc3 pm3 cd3 ct3 oc4 kV4 dc4 pm4 cd4 ct4 oc5 kV5 dc5 pm5 cd5 ct5 oc6 kV6 dc6 pm6 cd6 ct6 oc7 kV7 dc7 pm7 cd7 ct7 oc8 kV8 dc8 pm8 cd8 ct8 oc9 kV9 dc9 pm9 cd9 ct9 oc10 kV10 dc10 pm10 cd10 ct10 oc11 kV11 dc11 pm11 cd11 ct11 oc12 kV12 dc12 pm12 cd12 ct12 oc13 kV13 dc13 pm13 cd13 ct13 oc14 kV14 dc14 pm14 cd14 ct14 oc15 kV15 dc15 pm15 cd15 ct15 oc16 kV16 dc16 pm16 cd16 ct16 oc17 kV17 dc17 pm17 cd17 ct17 oc18 kV18 dc18 pm18 cd18 ct18 oc19 kV19 dc19 pm19 cd19 ct19 oc20 kV20 dc20 pm20 cd20 ct20 oc21 kV21 dc21 pm21 cd21 ct21 oc22 kV22 dc22 pm22 cd22 ct22 oc23 kV23 dc23 pm23 cd23 ct23 oc24 kV24 dc24 pm24 cd24 ct24 oc25 kV25 dc25 pm25 cd25 ct25 oc26 kV26 dc26 pm26 cd26 ct26 oc27 kV27 dc27 pm27 cd27 ct27 oc28 kV28 dc28 pm28 cd28 ct28 oc29 kV29 dc29 pm29 cd29 ct29 oc30 kV30 dc30 pm30 cd30 ct30 oc31 kV31 dc31 pm31 cd31 ct31 oc32 kV32 dc32 pm32 cd32 ct32 oc33 kV33 dc33 pm33 cd33 ct33 oc34 kV34 dc34 pm34 cd34 ct34 oc35 kV35 dc35 pm35 cd35 ct35 oc36 kV36 dc36 pm36 cd36 ct36 oc37 kV37 dc37 pm37 cd37 ct37 oc38 kV38 dc38 pm38 cd38 ct38 oc39 kV39 dc39 pm39 cd39 ct39 oc40 kV40 dc40 pm40 cd40 ct40 oc41 kV41 dc41 pm41 cd41 ct41 oc42 kV42 dc42 pm42 cd42 ct42 oc43 kV43 dc43 pm43 cd43 ct43 : Value} {Cc_NoNumber Cc_NoBoxes Cc_NoBudget : Addr} {t_MOST_COST t_MOST_OF t_MOST_BOXES t_MOST_BUDGET : Tok}
    (a0 : PySem.W.nsIn K mainGlobals "divisor" = some (some (.ref f0))) (l0 : K.lookup f0 = some ⟨oc0, od0, .func (PySem.W.fnOf "divisor" "divisor" (defArgs s_divisor) (defBody s_divisor) (defScope s_divisor) .none kV0 dc0 pm0 an0 cd0 ct0), sl0⟩) (c0 : PySem.W.codeIn K cd0 "divisor" = true) (k0 : PySem.W.keepIn K (.ref f0) = true)
    (a1 : PySem.W.nsIn K mainGlobals "ratio" = some (some (.ref f1))) (l1 : K.lookup f1 = some ⟨oc1, od1, .func (PySem.W.fnOf "ratio" "ratio" (defArgs s_ratio) (defBody s_ratio) (defScope s_ratio) .none kV1 dc1 pm1 an1 cd1 ct1), sl1⟩) (c1 : PySem.W.codeIn K cd1 "ratio" = true) (k1 : PySem.W.keepIn K (.ref f1) = true)
    (a2 : PySem.W.nsIn K mainGlobals "plus" = some (some (.ref f2))) (l2 : K.lookup f2 = some ⟨oc2, od2, .func (PySem.W.fnOf "plus" "plus" (defArgs s_plus) (defBody s_plus) (defScope s_plus) .none kV2 dc2 pm2 an2 cd2 ct2), sl2⟩) (c2 : PySem.W.codeIn K cd2 "plus" = true) (k2 : PySem.W.keepIn K (.ref f2) = true)
    (a3 : PySem.W.nsIn K mainGlobals "minus" = some (some (.ref f3))) (l3 : K.lookup f3 = some ⟨oc3, od3, .func (PySem.W.fnOf "minus" "minus" (defArgs s_minus) (defBody s_minus) (defScope s_minus) .none kV3 dc3 pm3 an3 cd3 ct3), sl3⟩) (c3 : PySem.W.codeIn K cd3 "minus" = true) (k3 : PySem.W.keepIn K (.ref f3) = true)
    (a4 : PySem.W.nsIn K mainGlobals "times" = some (some (.ref f4))) (l4 : K.lookup f4 = some ⟨oc4, od4, .func (PySem.W.fnOf "times" "times" (defArgs s_times) (defBody s_times) (defScope s_times) .none kV4 dc4 pm4 an4 cd4 ct4), sl4⟩) (c4 : PySem.W.codeIn K cd4 "times" = true) (k4 : PySem.W.keepIn K (.ref f4) = true)
    (a5 : PySem.W.nsIn K mainGlobals "over" = some (some (.ref f5))) (l5 : K.lookup f5 = some ⟨oc5, od5, .func (PySem.W.fnOf "over" "over" (defArgs s_over) (defBody s_over) (defScope s_over) .none kV5 dc5 pm5 an5 cd5 ct5), sl5⟩) (c5 : PySem.W.codeIn K cd5 "over" = true) (k5 : PySem.W.keepIn K (.ref f5) = true)
    (a6 : PySem.W.nsIn K mainGlobals "below" = some (some (.ref f6))) (l6 : K.lookup f6 = some ⟨oc6, od6, .func (PySem.W.fnOf "below" "below" (defArgs s_below) (defBody s_below) (defScope s_below) .none kV6 dc6 pm6 an6 cd6 ct6), sl6⟩) (c6 : PySem.W.codeIn K cd6 "below" = true) (k6 : PySem.W.keepIn K (.ref f6) = true)
    (a7 : PySem.W.nsIn K mainGlobals "is_number" = some (some (.ref f7))) (l7 : K.lookup f7 = some ⟨oc7, od7, .func (PySem.W.fnOf "is_number" "is_number" (defArgs s_is_number) (defBody s_is_number) (defScope s_is_number) .none kV7 dc7 pm7 an7 cd7 ct7), sl7⟩) (c7 : PySem.W.codeIn K cd7 "is_number" = true) (k7 : PySem.W.keepIn K (.ref f7) = true)
    (a8 : PySem.W.nsIn K mainGlobals "are_numbers" = some (some (.ref f8))) (l8 : K.lookup f8 = some ⟨oc8, od8, .func (PySem.W.fnOf "are_numbers" "are_numbers" (defArgs s_are_numbers) (defBody s_are_numbers) (defScope s_are_numbers) .none kV8 dc8 pm8 an8 cd8 ct8), sl8⟩) (c8 : PySem.W.codeIn K cd8 "are_numbers" = true) (k8 : PySem.W.keepIn K (.ref f8) = true)
    (a9 : PySem.W.nsIn K mainGlobals "is_box" = some (some (.ref f9))) (l9 : K.lookup f9 = some ⟨oc9, od9, .func (PySem.W.fnOf "is_box" "is_box" (defArgs s_is_box) (defBody s_is_box) (defScope s_is_box) .none kV9 dc9 pm9 an9 cd9 ct9), sl9⟩) (c9 : PySem.W.codeIn K cd9 "is_box" = true) (k9 : PySem.W.keepIn K (.ref f9) = true)
    (a10 : PySem.W.nsIn K mainGlobals "must_be_boxes" = some (some (.ref f10))) (l10 : K.lookup f10 = some ⟨oc10, od10, .func (PySem.W.fnOf "must_be_boxes" "must_be_boxes" (defArgs s_must_be_boxes) (defBody s_must_be_boxes) (defScope s_must_be_boxes) .none kV10 dc10 pm10 an10 cd10 ct10), sl10⟩) (c10 : PySem.W.codeIn K cd10 "must_be_boxes" = true) (k10 : PySem.W.keepIn K (.ref f10) = true)
    (a11 : PySem.W.nsIn K mainGlobals "must_be_budget" = some (some (.ref f11))) (l11 : K.lookup f11 = some ⟨oc11, od11, .func (PySem.W.fnOf "must_be_budget" "must_be_budget" (defArgs s_must_be_budget) (defBody s_must_be_budget) (defScope s_must_be_budget) .none kV11 dc11 pm11 an11 cd11 ct11), sl11⟩) (c11 : PySem.W.codeIn K cd11 "must_be_budget" = true) (k11 : PySem.W.keepIn K (.ref f11) = true)
    (a12 : PySem.W.nsIn K mainGlobals "missed" = some (some (.ref f12))) (l12 : K.lookup f12 = some ⟨oc12, od12, .func (PySem.W.fnOf "missed" "missed" (defArgs s_missed) (defBody s_missed) (defScope s_missed) .none kV12 dc12 pm12 an12 cd12 ct12), sl12⟩) (c12 : PySem.W.codeIn K cd12 "missed" = true) (k12 : PySem.W.keepIn K (.ref f12) = true)
    (a13 : PySem.W.nsIn K mainGlobals "finding" = some (some (.ref f13))) (l13 : K.lookup f13 = some ⟨oc13, od13, .func (PySem.W.fnOf "finding" "finding" (defArgs s_finding) (defBody s_finding) (defScope s_finding) .none kV13 dc13 pm13 an13 cd13 ct13), sl13⟩) (c13 : PySem.W.codeIn K cd13 "finding" = true) (k13 : PySem.W.keepIn K (.ref f13) = true)
    (a14 : PySem.W.nsIn K mainGlobals "mark" = some (some (.ref f14))) (l14 : K.lookup f14 = some ⟨oc14, od14, .func (PySem.W.fnOf "mark" "mark" (defArgs s_mark) (defBody s_mark) (defScope s_mark) .none kV14 dc14 pm14 an14 cd14 ct14), sl14⟩) (c14 : PySem.W.codeIn K cd14 "mark" = true) (k14 : PySem.W.keepIn K (.ref f14) = true)
    (a15 : PySem.W.nsIn K mainGlobals "behind" = some (some (.ref f15))) (l15 : K.lookup f15 = some ⟨oc15, od15, .func (PySem.W.fnOf "behind" "behind" (defArgs s_behind) (defBody s_behind) (defScope s_behind) .none kV15 dc15 pm15 an15 cd15 ct15), sl15⟩) (c15 : PySem.W.codeIn K cd15 "behind" = true) (k15 : PySem.W.keepIn K (.ref f15) = true)
    (a16 : PySem.W.nsIn K mainGlobals "rate" = some (some (.ref f16))) (l16 : K.lookup f16 = some ⟨oc16, od16, .func (PySem.W.fnOf "rate" "rate" (defArgs s_rate) (defBody s_rate) (defScope s_rate) .none kV16 dc16 pm16 an16 cd16 ct16), sl16⟩) (c16 : PySem.W.codeIn K cd16 "rate" = true) (k16 : PySem.W.keepIn K (.ref f16) = true)
    (a17 : PySem.W.nsIn K mainGlobals "greatest" = some (some (.ref f17))) (l17 : K.lookup f17 = some ⟨oc17, od17, .func (PySem.W.fnOf "greatest" "greatest" (defArgs s_greatest) (defBody s_greatest) (defScope s_greatest) .none kV17 dc17 pm17 an17 cd17 ct17), sl17⟩) (c17 : PySem.W.codeIn K cd17 "greatest" = true) (k17 : PySem.W.keepIn K (.ref f17) = true)
    (a18 : PySem.W.nsIn K mainGlobals "climbed" = some (some (.ref f18))) (l18 : K.lookup f18 = some ⟨oc18, od18, .func (PySem.W.fnOf "climbed" "climbed" (defArgs s_climbed) (defBody s_climbed) (defScope s_climbed) .none kV18 dc18 pm18 an18 cd18 ct18), sl18⟩) (c18 : PySem.W.codeIn K cd18 "climbed" = true) (k18 : PySem.W.keepIn K (.ref f18) = true)
    (a19 : PySem.W.nsIn K mainGlobals "ceiling" = some (some (.ref f19))) (l19 : K.lookup f19 = some ⟨oc19, od19, .func (PySem.W.fnOf "ceiling" "ceiling" (defArgs s_ceiling) (defBody s_ceiling) (defScope s_ceiling) .none kV19 dc19 pm19 an19 cd19 ct19), sl19⟩) (c19 : PySem.W.codeIn K cd19 "ceiling" = true) (k19 : PySem.W.keepIn K (.ref f19) = true)
    (a20 : PySem.W.nsIn K mainGlobals "many_between" = some (some (.ref f20))) (l20 : K.lookup f20 = some ⟨oc20, od20, .func (PySem.W.fnOf "many_between" "many_between" (defArgs s_many_between) (defBody s_many_between) (defScope s_many_between) .none kV20 dc20 pm20 an20 cd20 ct20), sl20⟩) (c20 : PySem.W.codeIn K cd20 "many_between" = true) (k20 : PySem.W.keepIn K (.ref f20) = true)
    (a21 : PySem.W.nsIn K mainGlobals "rest_of" = some (some (.ref f21))) (l21 : K.lookup f21 = some ⟨oc21, od21, .func (PySem.W.fnOf "rest_of" "rest_of" (defArgs s_rest_of) (defBody s_rest_of) (defScope s_rest_of) .none kV21 dc21 pm21 an21 cd21 ct21), sl21⟩) (c21 : PySem.W.codeIn K cd21 "rest_of" = true) (k21 : PySem.W.keepIn K (.ref f21) = true)
    (a22 : PySem.W.nsIn K mainGlobals "mix_by" = some (some (.ref f22))) (l22 : K.lookup f22 = some ⟨oc22, od22, .func (PySem.W.fnOf "mix_by" "mix_by" (defArgs s_mix_by) (defBody s_mix_by) (defScope s_mix_by) .none kV22 dc22 pm22 an22 cd22 ct22), sl22⟩) (c22 : PySem.W.codeIn K cd22 "mix_by" = true) (k22 : PySem.W.keepIn K (.ref f22) = true)
    (a23 : PySem.W.nsIn K mainGlobals "looks_for" = some (some (.ref f23))) (l23 : K.lookup f23 = some ⟨oc23, od23, .func (PySem.W.fnOf "looks_for" "looks_for" (defArgs s_looks_for) (defBody s_looks_for) (defScope s_looks_for) .none kV23 dc23 pm23 an23 cd23 ct23), sl23⟩) (c23 : PySem.W.codeIn K cd23 "looks_for" = true) (k23 : PySem.W.keepIn K (.ref f23) = true)
    (a24 : PySem.W.nsIn K mainGlobals "paper_for" = some (some (.ref f24))) (l24 : K.lookup f24 = some ⟨oc24, od24, .func (PySem.W.fnOf "paper_for" "paper_for" (defArgs s_paper_for) (defBody s_paper_for) (defScope s_paper_for) .none kV24 dc24 pm24 an24 cd24 ct24), sl24⟩) (c24 : PySem.W.codeIn K cd24 "paper_for" = true) (k24 : PySem.W.keepIn K (.ref f24) = true)
    (a25 : PySem.W.nsIn K mainGlobals "budget_worth" = some (some (.ref f25))) (l25 : K.lookup f25 = some ⟨oc25, od25, .func (PySem.W.fnOf "budget_worth" "budget_worth" (defArgs s_budget_worth) (defBody s_budget_worth) (defScope s_budget_worth) .none kV25 dc25 pm25 an25 cd25 ct25), sl25⟩) (c25 : PySem.W.codeIn K cd25 "budget_worth" = true) (k25 : PySem.W.keepIn K (.ref f25) = true)
    (a26 : PySem.W.nsIn K mainGlobals "_law_mix" = some (some (.ref f26))) (l26 : K.lookup f26 = some ⟨oc26, od26, .func (PySem.W.fnOf "_law_mix" "_law_mix" (defArgs s__law_mix) (defBody s__law_mix) (defScope s__law_mix) .none kV26 dc26 pm26 an26 cd26 ct26), sl26⟩) (c26 : PySem.W.codeIn K cd26 "_law_mix" = true) (k26 : PySem.W.keepIn K (.ref f26) = true)
    (a27 : PySem.W.nsIn K mainGlobals "_law_cell_at" = some (some (.ref f27))) (l27 : K.lookup f27 = some ⟨oc27, od27, .func (PySem.W.fnOf "_law_cell_at" "_law_cell_at" (defArgs s__law_cell_at) (defBody s__law_cell_at) (defScope s__law_cell_at) .none kV27 dc27 pm27 an27 cd27 ct27), sl27⟩) (c27 : PySem.W.codeIn K cd27 "_law_cell_at" = true) (k27 : PySem.W.keepIn K (.ref f27) = true)
    (a28 : PySem.W.nsIn K mainGlobals "_law_left" = some (some (.ref f28))) (l28 : K.lookup f28 = some ⟨oc28, od28, .func (PySem.W.fnOf "_law_left" "_law_left" (defArgs s__law_left) (defBody s__law_left) (defScope s__law_left) .none kV28 dc28 pm28 an28 cd28 ct28), sl28⟩) (c28 : PySem.W.codeIn K cd28 "_law_left" = true) (k28 : PySem.W.keepIn K (.ref f28) = true)
    (a29 : PySem.W.nsIn K mainGlobals "_law_draw" = some (some (.ref f29))) (l29 : K.lookup f29 = some ⟨oc29, od29, .func (PySem.W.fnOf "_law_draw" "_law_draw" (defArgs s__law_draw) (defBody s__law_draw) (defScope s__law_draw) .none kV29 dc29 pm29 an29 cd29 ct29), sl29⟩) (c29 : PySem.W.codeIn K cd29 "_law_draw" = true) (k29 : PySem.W.keepIn K (.ref f29) = true)
    (a30 : PySem.W.nsIn K mainGlobals "_law_boxes" = some (some (.ref f30))) (l30 : K.lookup f30 = some ⟨oc30, od30, .func (PySem.W.fnOf "_law_boxes" "_law_boxes" (defArgs s__law_boxes) (defBody s__law_boxes) (defScope s__law_boxes) .none kV30 dc30 pm30 an30 cd30 ct30), sl30⟩) (c30 : PySem.W.codeIn K cd30 "_law_boxes" = true) (k30 : PySem.W.keepIn K (.ref f30) = true)
    (a31 : PySem.W.nsIn K mainGlobals "_law_whole" = some (some (.ref f31))) (l31 : K.lookup f31 = some ⟨oc31, od31, .func (PySem.W.fnOf "_law_whole" "_law_whole" (defArgs s__law_whole) (defBody s__law_whole) (defScope s__law_whole) .none kV31 dc31 pm31 an31 cd31 ct31), sl31⟩) (c31 : PySem.W.codeIn K cd31 "_law_whole" = true) (k31 : PySem.W.keepIn K (.ref f31) = true)
    (a32 : PySem.W.nsIn K mainGlobals "_law_lowest" = some (some (.ref f32))) (l32 : K.lookup f32 = some ⟨oc32, od32, .func (PySem.W.fnOf "_law_lowest" "_law_lowest" (defArgs s__law_lowest) (defBody s__law_lowest) (defScope s__law_lowest) .none kV32 dc32 pm32 an32 cd32 ct32), sl32⟩) (c32 : PySem.W.codeIn K cd32 "_law_lowest" = true) (k32 : PySem.W.keepIn K (.ref f32) = true)
    (a33 : PySem.W.nsIn K mainGlobals "_law_miss" = some (some (.ref f33))) (l33 : K.lookup f33 = some ⟨oc33, od33, .func (PySem.W.fnOf "_law_miss" "_law_miss" (defArgs s__law_miss) (defBody s__law_miss) (defScope s__law_miss) .none kV33 dc33 pm33 an33 cd33 ct33), sl33⟩) (c33 : PySem.W.codeIn K cd33 "_law_miss" = true) (k33 : PySem.W.keepIn K (.ref f33) = true)
    (a34 : PySem.W.nsIn K mainGlobals "_law_plus" = some (some (.ref f34))) (l34 : K.lookup f34 = some ⟨oc34, od34, .func (PySem.W.fnOf "_law_plus" "_law_plus" (defArgs s__law_plus) (defBody s__law_plus) (defScope s__law_plus) .none kV34 dc34 pm34 an34 cd34 ct34), sl34⟩) (c34 : PySem.W.codeIn K cd34 "_law_plus" = true) (k34 : PySem.W.keepIn K (.ref f34) = true)
    (a35 : PySem.W.nsIn K mainGlobals "_law_less" = some (some (.ref f35))) (l35 : K.lookup f35 = some ⟨oc35, od35, .func (PySem.W.fnOf "_law_less" "_law_less" (defArgs s__law_less) (defBody s__law_less) (defScope s__law_less) .none kV35 dc35 pm35 an35 cd35 ct35), sl35⟩) (c35 : PySem.W.codeIn K cd35 "_law_less" = true) (k35 : PySem.W.keepIn K (.ref f35) = true)
    (a36 : PySem.W.nsIn K mainGlobals "_law_plan" = some (some (.ref f36))) (l36 : K.lookup f36 = some ⟨oc36, od36, .func (PySem.W.fnOf "_law_plan" "_law_plan" (defArgs s__law_plan) (defBody s__law_plan) (defScope s__law_plan) .none kV36 dc36 pm36 an36 cd36 ct36), sl36⟩) (c36 : PySem.W.codeIn K cd36 "_law_plan" = true) (k36 : PySem.W.keepIn K (.ref f36) = true)
    (a37 : PySem.W.nsIn K mainGlobals "_law_price" = some (some (.ref f37))) (l37 : K.lookup f37 = some ⟨oc37, od37, .func (PySem.W.fnOf "_law_price" "_law_price" (defArgs s__law_price) (defBody s__law_price) (defScope s__law_price) .none kV37 dc37 pm37 an37 cd37 ct37), sl37⟩) (c37 : PySem.W.codeIn K cd37 "_law_price" = true) (k37 : PySem.W.keepIn K (.ref f37) = true)
    (a38 : PySem.W.nsIn K mainGlobals "_law_chance" = some (some (.ref f38))) (l38 : K.lookup f38 = some ⟨oc38, od38, .func (PySem.W.fnOf "_law_chance" "_law_chance" (defArgs s__law_chance) (defBody s__law_chance) (defScope s__law_chance) .none kV38 dc38 pm38 an38 cd38 ct38), sl38⟩) (c38 : PySem.W.codeIn K cd38 "_law_chance" = true) (k38 : PySem.W.keepIn K (.ref f38) = true)
    (a39 : PySem.W.nsIn K mainGlobals "_law_keeps" = some (some (.ref f39))) (l39 : K.lookup f39 = some ⟨oc39, od39, .func (PySem.W.fnOf "_law_keeps" "_law_keeps" (defArgs s__law_keeps) (defBody s__law_keeps) (defScope s__law_keeps) .none kV39 dc39 pm39 an39 cd39 ct39), sl39⟩) (c39 : PySem.W.codeIn K cd39 "_law_keeps" = true) (k39 : PySem.W.keepIn K (.ref f39) = true)
    (a40 : PySem.W.nsIn K mainGlobals "_law_drawn_mix" = some (some (.ref f40))) (l40 : K.lookup f40 = some ⟨oc40, od40, .func (PySem.W.fnOf "_law_drawn_mix" "_law_drawn_mix" (defArgs s__law_drawn_mix) (defBody s__law_drawn_mix) (defScope s__law_drawn_mix) .none kV40 dc40 pm40 an40 cd40 ct40), sl40⟩) (c40 : PySem.W.codeIn K cd40 "_law_drawn_mix" = true) (k40 : PySem.W.keepIn K (.ref f40) = true)
    (a41 : PySem.W.nsIn K mainGlobals "_law_least" = some (some (.ref f41))) (l41 : K.lookup f41 = some ⟨oc41, od41, .func (PySem.W.fnOf "_law_least" "_law_least" (defArgs s__law_least) (defBody s__law_least) (defScope s__law_least) .none kV41 dc41 pm41 an41 cd41 ct41), sl41⟩) (c41 : PySem.W.codeIn K cd41 "_law_least" = true) (k41 : PySem.W.keepIn K (.ref f41) = true)
    (a42 : PySem.W.nsIn K mainGlobals "_law_found_by_weights" = some (some (.ref f42))) (l42 : K.lookup f42 = some ⟨oc42, od42, .func (PySem.W.fnOf "_law_found_by_weights" "_law_found_by_weights" (defArgs s__law_found_by_weights) (defBody s__law_found_by_weights) (defScope s__law_found_by_weights) .none kV42 dc42 pm42 an42 cd42 ct42), sl42⟩) (c42 : PySem.W.codeIn K cd42 "_law_found_by_weights" = true) (k42 : PySem.W.keepIn K (.ref f42) = true)
    (a43 : PySem.W.nsIn K mainGlobals "law" = some (some (.ref f43))) (l43 : K.lookup f43 = some ⟨oc43, od43, .func (PySem.W.fnOf "law" "law" (defArgs s_law) (defBody s_law) (defScope s_law) .none kV43 dc43 pm43 an43 cd43 ct43), sl43⟩) (c43 : PySem.W.codeIn K cd43 "law" = true) (k43 : PySem.W.keepIn K (.ref f43) = true)
    (z_abs : PySem.W.nsIn K mainGlobals "abs" = some none)
    (z_int : PySem.W.nsIn K mainGlobals "int" = some none)
    (z_isinstance : PySem.W.nsIn K mainGlobals "isinstance" = some none)
    (z_bool : PySem.W.nsIn K mainGlobals "bool" = some none)
    (z_list : PySem.W.nsIn K mainGlobals "list" = some none)
    (z_len : PySem.W.nsIn K mainGlobals "len" = some none)
    (z_tuple : PySem.W.nsIn K mainGlobals "tuple" = some none)
    (z_range : PySem.W.nsIn K mainGlobals "range" = some none)
    (z_sorted : PySem.W.nsIn K mainGlobals "sorted" = some none)
    (z_sum : PySem.W.nsIn K mainGlobals "sum" = some none)
    (c_MOST_COST : PySem.W.nsIn K mainGlobals "MOST_COST" = some (some (.int 60 t_MOST_COST)))
    (c_MOST_OF : PySem.W.nsIn K mainGlobals "MOST_OF" = some (some (.int 50 t_MOST_OF)))
    (c_MOST_BOXES : PySem.W.nsIn K mainGlobals "MOST_BOXES" = some (some (.int 6 t_MOST_BOXES)))
    (c_MOST_BUDGET : PySem.W.nsIn K mainGlobals "MOST_BUDGET" = some (some (.int 60 t_MOST_BUDGET)))
    (qn_NoNumber : PySem.W.nsIn K mainGlobals "NoNumber" = some (some (.ref Cc_NoNumber))) (qi_NoNumber : PySem.W.isClsIn K Cc_NoNumber = true) (qt_NoNumber : PySem.W.typeIn K (.ref Cc_NoNumber) = some (.type "type"))
    (qn_NoBoxes : PySem.W.nsIn K mainGlobals "NoBoxes" = some (some (.ref Cc_NoBoxes))) (qi_NoBoxes : PySem.W.isClsIn K Cc_NoBoxes = true) (qt_NoBoxes : PySem.W.typeIn K (.ref Cc_NoBoxes) = some (.type "type"))
    (qn_NoBudget : PySem.W.nsIn K mainGlobals "NoBudget" = some (some (.ref Cc_NoBudget))) (qi_NoBudget : PySem.W.isClsIn K Cc_NoBudget = true) (qt_NoBudget : PySem.W.typeIn K (.ref Cc_NoBudget) = some (.type "type"))
    (on1 : PySem.W.specialIn K (.builtin "object.__class__") "__get__" = some (some (.builtin "getset_descriptor.__get__"))) (ot1 : PySem.W.takesIn K (.builtin "object.__class__") = some true)
    (qk_NoNumber : PySem.W.keepIn K (.ref Cc_NoNumber) = true) (qb_NoNumber : PySem.W.subIn K (.ref Cc_NoNumber) (.type "BaseException") = some true) (qs_NoNumber : PySem.W.subIn K (.ref Cc_NoNumber) (.ref Cc_NoNumber) = some true) (qv_NoNumber : PySem.W.subIn K (.ref Cc_NoNumber) (.type "ValueError") = some true) (qg_NoNumber : PySem.W.findIn K (.ref Cc_NoNumber) "__getattribute__" = some (some (.builtin "BaseException.__getattribute__"))) (qh_NoNumber : PySem.W.findIn K (.ref Cc_NoNumber) "__getattr__" = some none) (qd_NoNumber : PySem.W.hasDictIn K Cc_NoNumber = true) (qa_NoNumber : PySem.W.findIn K (.ref Cc_NoNumber) "__class__" = some (some (.builtin "object.__class__"))) (qm_NoNumber : PySem.W.mroIn K Cc_NoNumber (.type "object") = some true)
    (qx_NoNumber : PySem.W.excIn K Cc_NoNumber veMro "ValueError.__new__" = true)
    (qk_NoBoxes : PySem.W.keepIn K (.ref Cc_NoBoxes) = true) (qb_NoBoxes : PySem.W.subIn K (.ref Cc_NoBoxes) (.type "BaseException") = some true) (qs_NoBoxes : PySem.W.subIn K (.ref Cc_NoBoxes) (.ref Cc_NoBoxes) = some true) (qv_NoBoxes : PySem.W.subIn K (.ref Cc_NoBoxes) (.type "ValueError") = some true) (qg_NoBoxes : PySem.W.findIn K (.ref Cc_NoBoxes) "__getattribute__" = some (some (.builtin "BaseException.__getattribute__"))) (qh_NoBoxes : PySem.W.findIn K (.ref Cc_NoBoxes) "__getattr__" = some none) (qd_NoBoxes : PySem.W.hasDictIn K Cc_NoBoxes = true) (qa_NoBoxes : PySem.W.findIn K (.ref Cc_NoBoxes) "__class__" = some (some (.builtin "object.__class__"))) (qm_NoBoxes : PySem.W.mroIn K Cc_NoBoxes (.type "object") = some true)
    (qx_NoBoxes : PySem.W.excIn K Cc_NoBoxes veMro "ValueError.__new__" = true)
    (qk_NoBudget : PySem.W.keepIn K (.ref Cc_NoBudget) = true) (qb_NoBudget : PySem.W.subIn K (.ref Cc_NoBudget) (.type "BaseException") = some true) (qs_NoBudget : PySem.W.subIn K (.ref Cc_NoBudget) (.ref Cc_NoBudget) = some true) (qv_NoBudget : PySem.W.subIn K (.ref Cc_NoBudget) (.type "ValueError") = some true) (qg_NoBudget : PySem.W.findIn K (.ref Cc_NoBudget) "__getattribute__" = some (some (.builtin "BaseException.__getattribute__"))) (qh_NoBudget : PySem.W.findIn K (.ref Cc_NoBudget) "__getattr__" = some none) (qd_NoBudget : PySem.W.hasDictIn K Cc_NoBudget = true) (qa_NoBudget : PySem.W.findIn K (.ref Cc_NoBudget) "__class__" = some (some (.builtin "object.__class__"))) (qm_NoBudget : PySem.W.mroIn K Cc_NoBudget (.type "object") = some true)
    (qx_NoBudget : PySem.W.excIn K Cc_NoBudget veMro "ValueError.__new__" = true) :
    ∃ fd : FuncData, (∀ (s : Shared) (v : Value), BindsTo s fd ⟨[v], []⟩ [("_law_script", v)]) ∧ ∀ base : Heap, K.In base → base.Ns mainGlobals mg → FnOk P w K mg base (L2.CX P w) 8 fa fd ["_law_script"] (spLaw K) := by
  have e := hfa.symm.trans (PySem.W.mg_of X G a43)
  cases e
  have k_NoNumber : Cl K mg "NoNumber" Cc_NoNumber := ⟨qn_NoNumber, PySem.W.mg_of X G qn_NoNumber, qi_NoNumber, qt_NoNumber⟩
  have k_NoBoxes : Cl K mg "NoBoxes" Cc_NoBoxes := ⟨qn_NoBoxes, PySem.W.mg_of X G qn_NoBoxes, qi_NoBoxes, qt_NoBoxes⟩
  have k_NoBudget : Cl K mg "NoBudget" Cc_NoBudget := ⟨qn_NoBudget, PySem.W.mg_of X G qn_NoBudget, qi_NoBudget, qt_NoBudget⟩
  have r_NoNumber : Rc K mg "NoNumber" Cc_NoNumber := ⟨k_NoNumber, qk_NoNumber, qb_NoNumber, qs_NoNumber, ⟨qg_NoNumber, qh_NoNumber, qb_NoNumber, qd_NoNumber, qa_NoNumber, on1, ot1, qm_NoNumber⟩⟩
  have r_NoBoxes : Rc K mg "NoBoxes" Cc_NoBoxes := ⟨k_NoBoxes, qk_NoBoxes, qb_NoBoxes, qs_NoBoxes, ⟨qg_NoBoxes, qh_NoBoxes, qb_NoBoxes, qd_NoBoxes, qa_NoBoxes, on1, ot1, qm_NoBoxes⟩⟩
  have r_NoBudget : Rc K mg "NoBudget" Cc_NoBudget := ⟨k_NoBudget, qk_NoBudget, qb_NoBudget, qs_NoBudget, ⟨qg_NoBudget, qh_NoBudget, qb_NoBudget, qd_NoBudget, qa_NoBudget, on1, ot1, qm_NoBudget⟩⟩
  have ec : ∀ c ∈ raisedL, ∀ C, ClsAt K c C → ExcC K C := (all_c (ec_of r_NoNumber) (all_c (ec_of r_NoBoxes) (all_c (ec_of r_NoBudget) all_n)))
  exact ⟨PySem.W.fnOf "law" "law" (defArgs s_law) (defBody s_law) (defScope s_law) .none kV43 dc43 pm43 an43 cd43 ct43, fun s v => .of_eq rfl, fun base _ _ => (ok_law (P := P) (w := w) (base := base) {
    a_divisor := f0, d_divisor := _, F_divisor := fun_mk l0 c0 k0, g_divisor := PySem.W.mg_of X G a0, b_divisor := (fun_mk (st := s_divisor) l0 c0 k0).binds (fun _ _ _ _ _ _ us hl => match us, hl with | [_, _], _ => rfl),
    a_ratio := f1, d_ratio := _, F_ratio := fun_mk l1 c1 k1, g_ratio := PySem.W.mg_of X G a1, b_ratio := (fun_mk (st := s_ratio) l1 c1 k1).binds (fun _ _ _ _ _ _ us hl => match us, hl with | [_, _], _ => rfl),
    a_plus := f2, d_plus := _, F_plus := fun_mk l2 c2 k2, g_plus := PySem.W.mg_of X G a2, b_plus := (fun_mk (st := s_plus) l2 c2 k2).binds (fun _ _ _ _ _ _ us hl => match us, hl with | [_, _], _ => rfl),
    a_minus := f3, d_minus := _, F_minus := fun_mk l3 c3 k3, g_minus := PySem.W.mg_of X G a3, b_minus := (fun_mk (st := s_minus) l3 c3 k3).binds (fun _ _ _ _ _ _ us hl => match us, hl with | [_, _], _ => rfl),
    a_times := f4, d_times := _, F_times := fun_mk l4 c4 k4, g_times := PySem.W.mg_of X G a4, b_times := (fun_mk (st := s_times) l4 c4 k4).binds (fun _ _ _ _ _ _ us hl => match us, hl with | [_, _], _ => rfl),
    a_over := f5, d_over := _, F_over := fun_mk l5 c5 k5, g_over := PySem.W.mg_of X G a5, b_over := (fun_mk (st := s_over) l5 c5 k5).binds (fun _ _ _ _ _ _ us hl => match us, hl with | [_, _], _ => rfl),
    a_below := f6, d_below := _, F_below := fun_mk l6 c6 k6, g_below := PySem.W.mg_of X G a6, b_below := (fun_mk (st := s_below) l6 c6 k6).binds (fun _ _ _ _ _ _ us hl => match us, hl with | [_, _], _ => rfl),
    a_is_number := f7, d_is_number := _, F_is_number := fun_mk l7 c7 k7, g_is_number := PySem.W.mg_of X G a7, b_is_number := (fun_mk (st := s_is_number) l7 c7 k7).binds (fun _ _ _ _ _ _ us hl => match us, hl with | [_], _ => rfl),
    a_are_numbers := f8, d_are_numbers := _, F_are_numbers := fun_mk l8 c8 k8, g_are_numbers := PySem.W.mg_of X G a8, b_are_numbers := (fun_mk (st := s_are_numbers) l8 c8 k8).binds (fun _ _ _ _ _ _ us hl => match us, hl with | [_, _], _ => rfl),
    a_is_box := f9, d_is_box := _, F_is_box := fun_mk l9 c9 k9, g_is_box := PySem.W.mg_of X G a9, b_is_box := (fun_mk (st := s_is_box) l9 c9 k9).binds (fun _ _ _ _ _ _ us hl => match us, hl with | [_], _ => rfl),
    a_must_be_boxes := f10, d_must_be_boxes := _, F_must_be_boxes := fun_mk l10 c10 k10, g_must_be_boxes := PySem.W.mg_of X G a10, b_must_be_boxes := (fun_mk (st := s_must_be_boxes) l10 c10 k10).binds (fun _ _ _ _ _ _ us hl => match us, hl with | [_], _ => rfl),
    a_must_be_budget := f11, d_must_be_budget := _, F_must_be_budget := fun_mk l11 c11 k11, g_must_be_budget := PySem.W.mg_of X G a11, b_must_be_budget := (fun_mk (st := s_must_be_budget) l11 c11 k11).binds (fun _ _ _ _ _ _ us hl => match us, hl with | [_], _ => rfl),
    a_missed := f12, d_missed := _, F_missed := fun_mk l12 c12 k12, g_missed := PySem.W.mg_of X G a12, b_missed := (fun_mk (st := s_missed) l12 c12 k12).binds (fun _ _ _ _ _ _ us hl => match us, hl with | [_, _], _ => rfl),
    a_finding := f13, d_finding := _, F_finding := fun_mk l13 c13 k13, g_finding := PySem.W.mg_of X G a13, b_finding := (fun_mk (st := s_finding) l13 c13 k13).binds (fun _ _ _ _ _ _ us hl => match us, hl with | [_, _], _ => rfl),
    a_mark := f14, d_mark := _, F_mark := fun_mk l14 c14 k14, g_mark := PySem.W.mg_of X G a14, b_mark := (fun_mk (st := s_mark) l14 c14 k14).binds (fun _ _ _ _ _ _ us hl => match us, hl with | [_, _], _ => rfl),
    a_behind := f15, d_behind := _, F_behind := fun_mk l15 c15 k15, g_behind := PySem.W.mg_of X G a15, b_behind := (fun_mk (st := s_behind) l15 c15 k15).binds (fun _ _ _ _ _ _ us hl => match us, hl with | [_, _], _ => rfl),
    a_rate := f16, d_rate := _, F_rate := fun_mk l16 c16 k16, g_rate := PySem.W.mg_of X G a16, b_rate := (fun_mk (st := s_rate) l16 c16 k16).binds (fun _ _ _ _ _ _ us hl => match us, hl with | [_, _], _ => rfl),
    a_greatest := f17, d_greatest := _, F_greatest := fun_mk l17 c17 k17, g_greatest := PySem.W.mg_of X G a17, b_greatest := (fun_mk (st := s_greatest) l17 c17 k17).binds (fun _ _ _ _ _ _ us hl => match us, hl with | [_], _ => rfl),
    a_climbed := f18, d_climbed := _, F_climbed := fun_mk l18 c18 k18, g_climbed := PySem.W.mg_of X G a18, b_climbed := (fun_mk (st := s_climbed) l18 c18 k18).binds (fun _ _ _ _ _ _ us hl => match us, hl with | [_, _], _ => rfl),
    a_ceiling := f19, d_ceiling := _, F_ceiling := fun_mk l19 c19 k19, g_ceiling := PySem.W.mg_of X G a19, b_ceiling := (fun_mk (st := s_ceiling) l19 c19 k19).binds (fun _ _ _ _ _ _ us hl => match us, hl with | [_], _ => rfl),
    a_many_between := f20, d_many_between := _, F_many_between := fun_mk l20 c20 k20, g_many_between := PySem.W.mg_of X G a20, b_many_between := (fun_mk (st := s_many_between) l20 c20 k20).binds (fun _ _ _ _ _ _ us hl => match us, hl with | [_, _, _], _ => rfl),
    a_rest_of := f21, d_rest_of := _, F_rest_of := fun_mk l21 c21 k21, g_rest_of := PySem.W.mg_of X G a21, b_rest_of := (fun_mk (st := s_rest_of) l21 c21 k21).binds (fun _ _ _ _ _ _ us hl => match us, hl with | [_], _ => rfl),
    a_mix_by := f22, d_mix_by := _, F_mix_by := fun_mk l22 c22 k22, g_mix_by := PySem.W.mg_of X G a22, b_mix_by := (fun_mk (st := s_mix_by) l22 c22 k22).binds (fun _ _ _ _ _ _ us hl => match us, hl with | [_], _ => rfl),
    a_looks_for := f23, d_looks_for := _, F_looks_for := fun_mk l23 c23 k23, g_looks_for := PySem.W.mg_of X G a23, b_looks_for := (fun_mk (st := s_looks_for) l23 c23 k23).binds (fun _ _ _ _ _ _ us hl => match us, hl with | [_, _, _], _ => rfl),
    a_paper_for := f24, d_paper_for := _, F_paper_for := fun_mk l24 c24 k24, g_paper_for := PySem.W.mg_of X G a24, b_paper_for := (fun_mk (st := s_paper_for) l24 c24 k24).binds (fun _ _ _ _ _ _ us hl => match us, hl with | [_, _, _], _ => rfl),
    a_budget_worth := f25, d_budget_worth := _, F_budget_worth := fun_mk l25 c25 k25, g_budget_worth := PySem.W.mg_of X G a25, b_budget_worth := (fun_mk (st := s_budget_worth) l25 c25 k25).binds (fun _ _ _ _ _ _ us hl => match us, hl with | [_, _], _ => rfl),
    a__law_mix := f26, d__law_mix := _, F__law_mix := fun_mk l26 c26 k26, g__law_mix := PySem.W.mg_of X G a26, b__law_mix := (fun_mk (st := s__law_mix) l26 c26 k26).binds (fun _ _ _ _ _ _ us hl => match us, hl with | [_, _], _ => rfl),
    a__law_cell_at := f27, d__law_cell_at := _, F__law_cell_at := fun_mk l27 c27 k27, g__law_cell_at := PySem.W.mg_of X G a27, b__law_cell_at := (fun_mk (st := s__law_cell_at) l27 c27 k27).binds (fun _ _ _ _ _ _ us hl => match us, hl with | [_, _], _ => rfl),
    a__law_left := f28, d__law_left := _, F__law_left := fun_mk l28 c28 k28, g__law_left := PySem.W.mg_of X G a28, b__law_left := (fun_mk (st := s__law_left) l28 c28 k28).binds (fun _ _ _ _ _ _ us hl => match us, hl with | [_, _], _ => rfl),
    a__law_draw := f29, d__law_draw := _, F__law_draw := fun_mk l29 c29 k29, g__law_draw := PySem.W.mg_of X G a29, b__law_draw := (fun_mk (st := s__law_draw) l29 c29 k29).binds (fun _ _ _ _ _ _ us hl => match us, hl with | [_, _], _ => rfl),
    a__law_boxes := f30, d__law_boxes := _, F__law_boxes := fun_mk l30 c30 k30, g__law_boxes := PySem.W.mg_of X G a30, b__law_boxes := (fun_mk (st := s__law_boxes) l30 c30 k30).binds (fun _ _ _ _ _ _ us hl => match us, hl with | [_, _], _ => rfl),
    a__law_whole := f31, d__law_whole := _, F__law_whole := fun_mk l31 c31 k31, g__law_whole := PySem.W.mg_of X G a31, b__law_whole := (fun_mk (st := s__law_whole) l31 c31 k31).binds (fun _ _ _ _ _ _ us hl => match us, hl with | [_], _ => rfl),
    a__law_lowest := f32, d__law_lowest := _, F__law_lowest := fun_mk l32 c32 k32, g__law_lowest := PySem.W.mg_of X G a32, b__law_lowest := (fun_mk (st := s__law_lowest) l32 c32 k32).binds (fun _ _ _ _ _ _ us hl => match us, hl with | [_, _], _ => rfl),
    a__law_miss := f33, d__law_miss := _, F__law_miss := fun_mk l33 c33 k33, g__law_miss := PySem.W.mg_of X G a33, b__law_miss := (fun_mk (st := s__law_miss) l33 c33 k33).binds (fun _ _ _ _ _ _ us hl => match us, hl with | [_, _], _ => rfl),
    a__law_plus := f34, d__law_plus := _, F__law_plus := fun_mk l34 c34 k34, g__law_plus := PySem.W.mg_of X G a34, b__law_plus := (fun_mk (st := s__law_plus) l34 c34 k34).binds (fun _ _ _ _ _ _ us hl => match us, hl with | [_, _], _ => rfl),
    a__law_less := f35, d__law_less := _, F__law_less := fun_mk l35 c35 k35, g__law_less := PySem.W.mg_of X G a35, b__law_less := (fun_mk (st := s__law_less) l35 c35 k35).binds (fun _ _ _ _ _ _ us hl => match us, hl with | [_, _], _ => rfl),
    a__law_plan := f36, d__law_plan := _, F__law_plan := fun_mk l36 c36 k36, g__law_plan := PySem.W.mg_of X G a36, b__law_plan := (fun_mk (st := s__law_plan) l36 c36 k36).binds (fun _ _ _ _ _ _ us hl => match us, hl with | [_, _], _ => rfl),
    a__law_price := f37, d__law_price := _, F__law_price := fun_mk l37 c37 k37, g__law_price := PySem.W.mg_of X G a37, b__law_price := (fun_mk (st := s__law_price) l37 c37 k37).binds (fun _ _ _ _ _ _ us hl => match us, hl with | [_, _], _ => rfl),
    a__law_chance := f38, d__law_chance := _, F__law_chance := fun_mk l38 c38 k38, g__law_chance := PySem.W.mg_of X G a38, b__law_chance := (fun_mk (st := s__law_chance) l38 c38 k38).binds (fun _ _ _ _ _ _ us hl => match us, hl with | [_, _, _], _ => rfl),
    a__law_keeps := f39, d__law_keeps := _, F__law_keeps := fun_mk l39 c39 k39, g__law_keeps := PySem.W.mg_of X G a39, b__law_keeps := (fun_mk (st := s__law_keeps) l39 c39 k39).binds (fun _ _ _ _ _ _ us hl => match us, hl with | [_, _, _], _ => rfl),
    a__law_drawn_mix := f40, d__law_drawn_mix := _, F__law_drawn_mix := fun_mk l40 c40 k40, g__law_drawn_mix := PySem.W.mg_of X G a40, b__law_drawn_mix := (fun_mk (st := s__law_drawn_mix) l40 c40 k40).binds (fun _ _ _ _ _ _ us hl => match us, hl with | [_, _, _], _ => rfl),
    a__law_least := f41, d__law_least := _, F__law_least := fun_mk l41 c41 k41, g__law_least := PySem.W.mg_of X G a41, b__law_least := (fun_mk (st := s__law_least) l41 c41 k41).binds (fun _ _ _ _ _ _ us hl => match us, hl with | [_, _], _ => rfl),
    a__law_found_by_weights := f42, d__law_found_by_weights := _, F__law_found_by_weights := fun_mk l42 c42 k42, g__law_found_by_weights := PySem.W.mg_of X G a42, b__law_found_by_weights := (fun_mk (st := s__law_found_by_weights) l42 c42 k42).binds (fun _ _ _ _ _ _ us hl => match us, hl with | [_, _, _], _ => rfl),
    a_law := fa, d_law := _, F_law := fun_mk l43 c43 k43, g_law := PySem.W.mg_of X G a43, b_law := (fun_mk (st := s_law) l43 c43 k43).binds (fun _ _ _ _ _ _ us hl => match us, hl with | [_], _ => rfl),
    z_abs := PySem.W.mg_none_of X G z_abs,
    z_int := PySem.W.mg_none_of X G z_int,
    z_isinstance := PySem.W.mg_none_of X G z_isinstance,
    z_bool := PySem.W.mg_none_of X G z_bool,
    z_list := PySem.W.mg_none_of X G z_list,
    z_len := PySem.W.mg_none_of X G z_len,
    z_tuple := PySem.W.mg_none_of X G z_tuple,
    z_range := PySem.W.mg_none_of X G z_range,
    z_sorted := PySem.W.mg_none_of X G z_sorted,
    z_sum := PySem.W.mg_none_of X G z_sum,
    t_MOST_COST := t_MOST_COST, c_MOST_COST := PySem.W.mg_of X G c_MOST_COST,
    t_MOST_OF := t_MOST_OF, c_MOST_OF := PySem.W.mg_of X G c_MOST_OF,
    t_MOST_BOXES := t_MOST_BOXES, c_MOST_BOXES := PySem.W.mg_of X G c_MOST_BOXES,
    t_MOST_BUDGET := t_MOST_BUDGET, c_MOST_BUDGET := PySem.W.mg_of X G c_MOST_BUDGET,
    C_NoNumber := Cc_NoNumber, k_NoNumber := k_NoNumber,
    C_NoBoxes := Cc_NoBoxes, k_NoBoxes := k_NoBoxes,
    C_NoBudget := Cc_NoBudget, k_NoBudget := k_NoBudget,
    r_NoNumber := r_NoNumber,
    x_NoNumber := qx_NoNumber,
    r_NoBoxes := r_NoBoxes,
    x_NoBoxes := qx_NoBoxes,
    r_NoBudget := r_NoBudget,
    x_NoBudget := qx_NoBudget,
    ct := all_n,
    xc := ⟨all_n, (all_c (ve_ok r_NoNumber qv_NoNumber) (all_c (ve_ok r_NoBoxes qv_NoBoxes) (all_c (ve_ok r_NoBudget qv_NoBudget) all_n))), ec⟩ }).imp (law_imp ht)⟩
end
end Lw
open PySem PySem.W PyProof.Rows
set_option maxRecDepth 100000 in
set_option maxHeartbeats 0 in
theorem PySem.Challenge.cw_hideworth_k24_whole_no_mix_finds_more_holds : PySem.Challenge.rw_hideworth_k24_whole_no_mix_finds_more.Holds := by
  w_on; o_law; k_head; (case hw => w_witness2)
  k_fill
  refine L2.walk_ofB (l := PySem.Challenge.rw_hideworth_k24_whole_no_mix_finds_more) (n := 63) (k := 8) (x := "_law_script") (CX := fun w => L2.CX (PySem.Challenge.rw_hideworth_k24_whole_no_mix_finds_more).prog w) (sp := fun w => Dv.spLaw _) rfl (by decide) rfl ⟨rfl, by decide, by decide⟩ (fun w h Y => PySem.W.kIn_of Y) ?F (fun _ H a ns hl hb _ hS => Dv.law_sp _ H a ns hl hb hS) (fun _ _ _ _ _ h => Dv.cx_end h)
  case F =>
    intro w mg fa h KX G hmg
    refine' Lw.all_mk KX G hmg Lw.law_true ?a0 ?l0 ?c0 ?k0 ?a1 ?l1 ?c1 ?k1 ?a2 ?l2 ?c2 ?k2 ?a3 ?l3 ?c3 ?k3 ?a4 ?l4 ?c4 ?k4 ?a5 ?l5 ?c5 ?k5 ?a6 ?l6 ?c6 ?k6 ?a7 ?l7 ?c7 ?k7 ?a8 ?l8 ?c8 ?k8 ?a9 ?l9 ?c9 ?k9 ?a10 ?l10 ?c10 ?k10 ?a11 ?l11 ?c11 ?k11 ?a12 ?l12 ?c12 ?k12 ?a13 ?l13 ?c13 ?k13 ?a14 ?l14 ?c14 ?k14 ?a15 ?l15 ?c15 ?k15 ?a16 ?l16 ?c16 ?k16 ?a17 ?l17 ?c17 ?k17 ?a18 ?l18 ?c18 ?k18 ?a19 ?l19 ?c19 ?k19 ?a20 ?l20 ?c20 ?k20 ?a21 ?l21 ?c21 ?k21 ?a22 ?l22 ?c22 ?k22 ?a23 ?l23 ?c23 ?k23 ?a24 ?l24 ?c24 ?k24 ?a25 ?l25 ?c25 ?k25 ?a26 ?l26 ?c26 ?k26 ?a27 ?l27 ?c27 ?k27 ?a28 ?l28 ?c28 ?k28 ?a29 ?l29 ?c29 ?k29 ?a30 ?l30 ?c30 ?k30 ?a31 ?l31 ?c31 ?k31 ?a32 ?l32 ?c32 ?k32 ?a33 ?l33 ?c33 ?k33 ?a34 ?l34 ?c34 ?k34 ?a35 ?l35 ?c35 ?k35 ?a36 ?l36 ?c36 ?k36 ?a37 ?l37 ?c37 ?k37 ?a38 ?l38 ?c38 ?k38 ?a39 ?l39 ?c39 ?k39 ?a40 ?l40 ?c40 ?k40 ?a41 ?l41 ?c41 ?k41 ?a42 ?l42 ?c42 ?k42 ?a43 ?l43 ?c43 ?k43 ?z_abs ?z_int ?z_isinstance ?z_bool ?z_list ?z_len ?z_tuple ?z_range ?z_sorted ?z_sum ?c_MOST_COST ?c_MOST_OF ?c_MOST_BOXES ?c_MOST_BUDGET ?qn_NoNumber ?qi_NoNumber ?qt_NoNumber ?qn_NoBoxes ?qi_NoBoxes ?qt_NoBoxes ?qn_NoBudget ?qi_NoBudget ?qt_NoBudget ?on1 ?ot1 ?qk_NoNumber ?qb_NoNumber ?qs_NoNumber ?qv_NoNumber ?qg_NoNumber ?qh_NoNumber ?qd_NoNumber ?qa_NoNumber ?qm_NoNumber ?qx_NoNumber ?qk_NoBoxes ?qb_NoBoxes ?qs_NoBoxes ?qv_NoBoxes ?qg_NoBoxes ?qh_NoBoxes ?qd_NoBoxes ?qa_NoBoxes ?qm_NoBoxes ?qx_NoBoxes ?qk_NoBudget ?qb_NoBudget ?qs_NoBudget ?qv_NoBudget ?qg_NoBudget ?qh_NoBudget ?qd_NoBudget ?qa_NoBudget ?qm_NoBudget ?qx_NoBudget
    (case a0 => k_is); (case l0 => k_is); (case c0 => k_is); (case k0 => k_is); (case a1 => k_is); (case l1 => k_is); (case c1 => k_is); (case k1 => k_is); (case a2 => k_is); (case l2 => k_is); (case c2 => k_is); (case k2 => k_is); (case a3 => k_is); (case l3 => k_is); (case c3 => k_is); (case k3 => k_is); (case a4 => k_is); (case l4 => k_is); (case c4 => k_is); (case k4 => k_is); (case a5 => k_is); (case l5 => k_is); (case c5 => k_is); (case k5 => k_is); (case a6 => k_is); (case l6 => k_is); (case c6 => k_is); (case k6 => k_is); (case a7 => k_is); (case l7 => k_is); (case c7 => k_is); (case k7 => k_is); (case a8 => k_is); (case l8 => k_is); (case c8 => k_is); (case k8 => k_is); (case a9 => k_is); (case l9 => k_is); (case c9 => k_is); (case k9 => k_is); (case a10 => k_is); (case l10 => k_is); (case c10 => k_is); (case k10 => k_is); (case a11 => k_is); (case l11 => k_is); (case c11 => k_is); (case k11 => k_is); (case a12 => k_is); (case l12 => k_is); (case c12 => k_is); (case k12 => k_is); (case a13 => k_is); (case l13 => k_is); (case c13 => k_is); (case k13 => k_is); (case a14 => k_is); (case l14 => k_is); (case c14 => k_is); (case k14 => k_is); (case a15 => k_is); (case l15 => k_is); (case c15 => k_is); (case k15 => k_is); (case a16 => k_is); (case l16 => k_is); (case c16 => k_is); (case k16 => k_is); (case a17 => k_is); (case l17 => k_is); (case c17 => k_is); (case k17 => k_is); (case a18 => k_is); (case l18 => k_is); (case c18 => k_is); (case k18 => k_is); (case a19 => k_is); (case l19 => k_is); (case c19 => k_is); (case k19 => k_is); (case a20 => k_is); (case l20 => k_is); (case c20 => k_is); (case k20 => k_is); (case a21 => k_is); (case l21 => k_is); (case c21 => k_is); (case k21 => k_is); (case a22 => k_is); (case l22 => k_is); (case c22 => k_is); (case k22 => k_is); (case a23 => k_is); (case l23 => k_is); (case c23 => k_is); (case k23 => k_is); (case a24 => k_is); (case l24 => k_is); (case c24 => k_is); (case k24 => k_is); (case a25 => k_is); (case l25 => k_is); (case c25 => k_is); (case k25 => k_is); (case a26 => k_is); (case l26 => k_is); (case c26 => k_is); (case k26 => k_is); (case a27 => k_is); (case l27 => k_is); (case c27 => k_is); (case k27 => k_is); (case a28 => k_is); (case l28 => k_is); (case c28 => k_is); (case k28 => k_is); (case a29 => k_is); (case l29 => k_is); (case c29 => k_is); (case k29 => k_is); (case a30 => k_is); (case l30 => k_is); (case c30 => k_is); (case k30 => k_is); (case a31 => k_is); (case l31 => k_is); (case c31 => k_is); (case k31 => k_is); (case a32 => k_is); (case l32 => k_is); (case c32 => k_is); (case k32 => k_is); (case a33 => k_is); (case l33 => k_is); (case c33 => k_is); (case k33 => k_is); (case a34 => k_is); (case l34 => k_is); (case c34 => k_is); (case k34 => k_is); (case a35 => k_is); (case l35 => k_is); (case c35 => k_is); (case k35 => k_is); (case a36 => k_is); (case l36 => k_is); (case c36 => k_is); (case k36 => k_is); (case a37 => k_is); (case l37 => k_is); (case c37 => k_is); (case k37 => k_is); (case a38 => k_is); (case l38 => k_is); (case c38 => k_is); (case k38 => k_is); (case a39 => k_is); (case l39 => k_is); (case c39 => k_is); (case k39 => k_is); (case a40 => k_is); (case l40 => k_is); (case c40 => k_is); (case k40 => k_is); (case a41 => k_is); (case l41 => k_is); (case c41 => k_is); (case k41 => k_is); (case a42 => k_is); (case l42 => k_is); (case c42 => k_is); (case k42 => k_is); (case a43 => k_is); (case l43 => k_is); (case c43 => k_is); (case k43 => k_is); (case z_abs => k_is); (case z_int => k_is); (case z_isinstance => k_is); (case z_bool => k_is); (case z_list => k_is); (case z_len => k_is); (case z_tuple => k_is); (case z_range => k_is); (case z_sorted => k_is); (case z_sum => k_is); (case c_MOST_COST => k_is); (case c_MOST_OF => k_is); (case c_MOST_BOXES => k_is); (case c_MOST_BUDGET => k_is); (case qn_NoNumber => k_is); (case qi_NoNumber => k_is); (case qt_NoNumber => k_is); (case qn_NoBoxes => k_is); (case qi_NoBoxes => k_is); (case qt_NoBoxes => k_is); (case qn_NoBudget => k_is); (case qi_NoBudget => k_is); (case qt_NoBudget => k_is); (case on1 => k_is); (case ot1 => k_is); (case qk_NoNumber => k_is); (case qb_NoNumber => k_is); (case qs_NoNumber => first | k_is | rfl); (case qv_NoNumber => k_is); (case qg_NoNumber => k_is); (case qh_NoNumber => k_is); (case qd_NoNumber => k_is); (case qa_NoNumber => k_is); (case qm_NoNumber => k_is); (case qx_NoNumber => k_exc); (case qk_NoBoxes => k_is); (case qb_NoBoxes => k_is); (case qs_NoBoxes => first | k_is | rfl); (case qv_NoBoxes => k_is); (case qg_NoBoxes => k_is); (case qh_NoBoxes => k_is); (case qd_NoBoxes => k_is); (case qa_NoBoxes => k_is); (case qm_NoBoxes => k_is); (case qx_NoBoxes => k_exc); (case qk_NoBudget => k_is); (case qb_NoBudget => k_is); (case qs_NoBudget => first | k_is | rfl); (case qv_NoBudget => k_is); (case qg_NoBudget => k_is); (case qh_NoBudget => k_is); (case qd_NoBudget => k_is); (case qa_NoBudget => k_is); (case qm_NoBudget => k_is); (case qx_NoBudget => k_exc)
